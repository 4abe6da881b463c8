import PyProof.Rows.All
import Wide.All
import OpenK.AllK
import Wide.FinOn
import HandS.ForMost
import HandS.Wide
import HandS.Gcd
import HandS.IsInst
import HandS.TupAny
import HandS.Flow
import HandS.More
import HandS.Zip
import KE.GoesMore
import KE.GoesEnum
import HandS.Conv
import PySem.Challenge.RW_wishpanes_k05_rows
set_option Elab.async false
set_option linter.all false
set_option autoImplicit false
set_option maxRecDepth 100000
set_option maxHeartbeats 4000000
/-! AL0: pure transformers over plain data (values as trees, lists and dicts by number). No program in sight. -/
namespace AL
open PySem

inductive AV where
  | non
  | bl (b : Bool)
  | int (i : Int)
  | str (x : Str)
  | tup (xs : List AV)
  | ref (n : Nat)
  | ty (n : String)
  /-- a list that nobody may change -/
  | rol (xs : List AV)

inductive AO where
  | lst (xs : List AV)
  | dct (kvs : List (Sum Int Str × AV))

abbrev AH := List AO
abbrev ASt := List (Option AV)
abbrev AK := AV → AH → Prop
abbrev ATE := ASt → AH → AK → Prop
abbrev ATT := ASt → AH → (Bool → AH → Prop) → Prop
abbrev ATA := ASt → AH → (List AV → AH → Prop) → Prop
abbrev AR2 := AV → AV → AH → AK → Prop
abbrev AR1 := AV → AH → AK → Prop
abbrev ARL := List AV → AH → AK → Prop
abbrev ARM := AV → List AV → AH → AK → Prop
/-- a contract: arguments, heap, what is wanted of the value, of an error -/
abbrev ASp := List AV → AH → AK → AK → Prop
structure AEnds where
  nx : ASt → AH → Prop
  rt : AK
  bk : ASt → AH → Prop := fun _ _ => False
  ct : ASt → AH → Prop := fun _ _ => False
abbrev ATS := AEnds → ASt → AH → Prop
abbrev ATG := AV → ASt → AH → (ASt → AH → Prop) → Prop
abbrev ATGs := List AV → ASt → AH → (ASt → AH → Prop) → Prop
/-- what is walked: the items, what must stand at each turn -/
abbrev ATI := ASt → AH → (List AV → (AH → Prop) → AH → Prop) → Prop

/-! ### slots -/
def gv : ASt → Nat → Option AV
  | [], _ => none
  | x :: _, 0 => x
  | _ :: r, n + 1 => gv r n
def sv : ASt → Nat → Option AV → ASt
  | [], _, _ => []
  | _ :: r, 0, v => v :: r
  | x :: r, n + 1, v => x :: sv r n v
def wipeA (a : ASt) : List Nat → ASt
  | [] => a
  | v :: vs => sv (wipeA a vs) v none

def lenLe : List AV → Nat → Bool
  | [], _ => true
  | _ :: _, 0 => false
  | _ :: r, n + 1 => lenLe r n

/-! ### expressions -/
def varT (i : Nat) : ATE := fun a h Q => match gv a i with
  | some v => Q v h
  | none => False
def cT (v : AV) : ATE := fun _ h Q => Q v h
def opT (r : AR2) (ta tb : ATE) : ATE := fun a h Q => ta a h fun x h1 => tb a h1 fun y h2 => r x y h2 Q
def unT (r : AR1) (ta : ATE) : ATE := fun a h Q => ta a h fun x h1 => r x h1 Q
def nilT : ATA := fun _ h Q => Q [] h
def consT (te : ATE) (ta : ATA) : ATA := fun a h Q => te a h fun x h1 => ta a h1 fun xs h2 => Q (x :: xs) h2
def tupT (ta : ATA) : ATE := fun a h Q => ta a h fun xs h1 => lenLe xs 64 = true ∧ Q (.tup xs) h1
def lstT (ta : ATA) : ATE := fun a h Q => ta a h fun xs h1 => lenLe xs 64 = true ∧ Q (.ref h1.length) (h1 ++ [.lst xs])
/-- a call of a def of the text -/
def callT (sp : ASp) (E : AK) (ta : ATA) : ATE := fun a h Q => ta a h fun xs h1 => sp xs h1 Q E
/-- a call of a built-in -/
def cbT (r : ARL) (ta : ATA) : ATE := fun a h Q => ta a h fun xs h1 => r xs h1 Q
/-- a method: what the receiver must be, what is asked of receiver and arguments -/
def mtT (ok : AV → AH → Prop) (r : ARM) (to : ATE) (ta : ATA) : ATE := fun a h Q => to a h fun x h1 => ok x h1 ∧ ta a h1 fun xs h2 => r x xs h2 Q

/-! ### tests -/
def truR : AV → AH → (Bool → AH → Prop) → Prop
  | .non, h, Q => Q false h
  | .bl b, h, Q => Q b h
  | .int i, h, Q => Q (i != 0) h
  | .str x, h, Q => x.length ≤ 16777216 ∧ Q (x.length != 0) h
  | .tup xs, h, Q => Q (!xs.isEmpty) h
  | .ref n, h, Q => match h[n]? with
    | some (.lst xs) => Q (!xs.isEmpty) h
    | some (.dct kvs) => Q (!kvs.isEmpty) h
    | none => False
  | .rol xs, h, Q => Q (!xs.isEmpty) h
  | .ty _, _, _ => False
def truT (te : ATE) : ATT := fun a h Q => te a h fun x h1 => truR x h1 Q
def blR : AV → AH → (Bool → AH → Prop) → Prop
  | .bl b, h, Q => Q b h
  | _, _, _ => False
/-- a comparison as a test -/
def cmpT (te : ATE) : ATT := fun a h Q => te a h fun x h1 => blR x h1 Q
def andT (t u : ATT) : ATT := fun a h Q => t a h fun c h1 => if c = true then u a h1 Q else Q false h1
def orT (t u : ATT) : ATT := fun a h Q => t a h fun c h1 => if c = true then Q true h1 else u a h1 Q
def notT (t : ATT) : ATT := fun a h Q => t a h fun c h1 => Q (!c) h1
def andV (ta tb : ATE) : ATE := fun a h Q => ta a h fun x h1 => blR x h1 fun c h2 => if c = true then tb a h2 Q else Q (.bl false) h2
def orV (ta tb : ATE) : ATE := fun a h Q => ta a h fun x h1 => blR x h1 fun c h2 => if c = true then Q (.bl true) h2 else tb a h2 Q
def notV (ta : ATE) : ATE := fun a h Q => ta a h fun x h1 => blR x h1 fun c h2 => Q (.bl (!c)) h2
def ifT (t : ATT) (ta tb : ATE) : ATE := fun a h Q => t a h fun c h1 => if c = true then ta a h1 Q else tb a h1 Q
/-- a < b < c -/
def chainT (r r' : AR2) (ta tb tc : ATE) : ATE := fun a h Q => ta a h fun x h1 => tb a h1 fun y h2 => r x y h2 fun z h3 => blR z h3 fun c h4 =>
  if c = true then tc a h4 fun w h5 => r' y w h5 Q else Q (.bl false) h4

/-! ### operators -/
def sized (i : Int) (n : Nat) : Prop := i.natAbs < 2 ^ n
def small64 (i : Int) : Prop := -(2 ^ 64) < i ∧ i < 2 ^ 64
def mulOk (i j : Int) : Prop := (small64 i ∨ small64 j) ∨ i.natAbs.log2 + j.natAbs.log2 < 1000000
def divOk (j : Int) : Prop := 0 < j ∧ j.natAbs.log2 < 9000
def addR : AR2
  | .int i, .int j, h, Q => Q (.int (i + j)) h
  | .int i, .bl j, h, Q => Q (.int (i + (if j then 1 else 0))) h
  | .str x, .str y, h, Q => x.length + y.length ≤ 16777216 ∧ Q (.str (x ++ y)) h
  | .tup xs, .tup ys, h, Q => xs.length + ys.length ≤ 16777216 ∧ Q (.tup (xs ++ ys)) h
  | .ref m, .ref n, h, Q => match h[m]?, h[n]? with
    | some (.lst xs), some (.lst ys) => xs.length + ys.length ≤ 16777216 ∧ Q (.ref h.length) (h ++ [.lst (xs ++ ys)])
    | _, _ => False
  | _, _, _, _ => False
def subR : AR2
  | .int i, .int j, h, Q => Q (.int (i - j)) h
  | _, _, _, _ => False
def mulR : AR2
  | .int i, .int j, h, Q => mulOk i j ∧ Q (.int (i * j)) h
  | _, _, _, _ => False
def fdivR : AR2
  | .int i, .int j, h, Q => divOk j ∧ Q (.int (i / j)) h
  | _, _, _, _ => False
def modR : AR2
  | .int i, .int j, h, Q => 0 < j ∧ Q (.int (i % j)) h
  | _, _, _, _ => False
def powR : AR2
  | .int i, .int j, h, Q => (0 ≤ j ∧ j ≤ 1000000 ∧ i.natAbs < 2 ^ 64) ∧ Q (.int (i ^ j.toNat)) h
  | _, _, _, _ => False
def shlR : AR2
  | .int i, .int j, h, Q => (0 ≤ j ∧ j ≤ 1000000 ∧ i.natAbs < 2 ^ 64) ∧ Q (.int (i * 2 ^ j.toNat)) h
  | _, _, _, _ => False
def negR : AR1
  | .int i, h, Q => Q (.int (-i)) h
  | _, _, _ => False

/-! ### comparisons -/
mutual
def aeq : AV → AV → Bool
  | .non, .non => true
  | .bl a, .bl b => a == b
  | .bl a, .int j => (if a then 1 else 0) == j
  | .int i, .bl b => i == (if b then 1 else 0)
  | .int i, .int j => i == j
  | .str x, .str y => x == y
  | .tup xs, .tup ys => aeqs xs ys
  | .ty a, .ty b => a == b
  | _, _ => false
def aeqs : List AV → List AV → Bool
  | [], [] => true
  | x :: xs, y :: ys => aeq x y && aeqs xs ys
  | _, _ => false
end
/-- data without lists, written signs, of depth below n -/
def plainN : Nat → AV → Bool
  | _, .non => true
  | _, .bl _ => true
  | _, .int _ => true
  | _, .str x => x.cps.all (· < 0x110000)
  | 0, .tup _ => false
  | n + 1, .tup xs => xs.all (plainN n)
  | _, _ => false
def eqR : AR2 := fun x y h Q => plainN 40 x = true ∧ plainN 40 y = true ∧ Q (.bl (aeq x y)) h
def neR : AR2 := fun x y h Q => plainN 40 x = true ∧ plainN 40 y = true ∧ Q (.bl (!aeq x y)) h
def ltR : AR2
  | .int i, .int j, h, Q => Q (.bl (decide (i < j))) h
  | .str x, .str y, h, Q => Q (.bl (decide (x.cps.toList < y.cps.toList))) h
  | _, _, _, _ => False
def leR : AR2
  | .int i, .int j, h, Q => Q (.bl (decide (i ≤ j))) h
  | _, _, _, _ => False
def gtR : AR2
  | .int i, .int j, h, Q => Q (.bl (decide (j < i))) h
  | _, _, _, _ => False
def geR : AR2
  | .int i, .int j, h, Q => Q (.bl (decide (j ≤ i))) h
  | _, _, _, _ => False
def isNon : AV → Bool
  | .non => true
  | _ => false
/-- is None -/
def isNR : AR2
  | x, .non, h, Q => Q (.bl (isNon x)) h
  | _, _, _, _ => False
def notNR : AR2
  | x, .non, h, Q => Q (.bl (!isNon x)) h
  | _, _, _, _ => False

/-! ### items -/
def atA {α : Type} (xs : List α) (i : Int) : Option α := match i with
  | .ofNat k => xs[k]?
  | .negSucc k => if k < xs.length then xs[xs.length - 1 - k]? else none
def keyOf : AV → Option (Sum Int Str)
  | .int i => some (.inl i)
  | .str x => some (.inr x)
  | _ => none
def kvGet (kvs : List (Sum Int Str × AV)) (k : Sum Int Str) : Option AV := (kvs.find? fun kv => decide (kv.1 = k)).map (·.2)
def kvPut (kvs : List (Sum Int Str × AV)) (k : Sum Int Str) (v : AV) : List (Sum Int Str × AV) :=
  if (kvs.any fun kv => decide (kv.1 = k)) = true then kvs.map (fun kv => if kv.1 = k then (kv.1, v) else kv) else kvs ++ [(k, v)]
def ixR : AR2
  | .tup xs, .int i, h, Q => match atA xs i with
    | some v => Q v h
    | none => False
  | .str x, .int i, h, Q => x.length ≤ 16777216 ∧ match atA x.cps.toList i with
    | some c => Q (.str ⟨#[c]⟩) h
    | none => False
  | .rol xs, .int i, h, Q => match atA xs i with
    | some v => Q v h
    | none => False
  | .ref n, k, h, Q => match h[n]? with
    | some (.lst xs) => (match k with
      | .int i => (match atA xs i with
        | some v => Q v h
        | none => False)
      | _ => False)
    | some (.dct kvs) => (match keyOf k with
      | some key => (match kvGet kvs key with
        | some v => Q v h
        | none => False)
      | none => False)
    | none => False
  | _, _, _, _ => False
/-- o[i] = v -/
def setR : AV → AV → AV → AH → (AH → Prop) → Prop
  | .ref n, k, v, h, Q => match h[n]? with
    | some (.lst xs) => (match k with
      | .int (.ofNat j) => j < xs.length ∧ Q (h.set n (.lst (xs.set j v)))
      | _ => False)
    | some (.dct kvs) => (match keyOf k with
      | some key => kvs.length < 16777216 ∧ Q (h.set n (.dct (kvPut kvs key v)))
      | none => False)
    | _ => False
  | _, _, _, _, _ => False

/-! ### built-ins -/
def lenR : ARL
  | [.tup xs], h, Q => Q (.int xs.length) h
  | [.str x], h, Q => x.length ≤ 16777216 ∧ Q (.int x.length) h
  | [.ref n], h, Q => match h[n]? with
    | some (.lst xs) => Q (.int xs.length) h
    | some (.dct kvs) => Q (.int kvs.length) h
    | _ => False
  | [.rol xs], h, Q => Q (.int xs.length) h
  | _, _, _ => False
def absR : ARL
  | [.int i], h, Q => Q (.int (if i < 0 then -i else i)) h
  | _, _, _ => False
def intR : ARL
  | [.int i], h, Q => Q (.int i) h
  | [.bl b], h, Q => Q (.int (if b then 1 else 0)) h
  | _, _, _ => False
def strR : ARL
  | [.int i], h, Q => i.natAbs.log2 < 1920 ∧ Q (.str (toString i : String)) h
  | _, _, _ => False
def gcdR : ARL
  | [.int a, .int b], h, Q => Q (.int ((Nat.gcd a.natAbs b.natAbs : Nat) : Int)) h
  | _, _, _ => False
def tupleR : ARL
  | [.tup xs], h, Q => Q (.tup xs) h
  | [.ref n], h, Q => match h[n]? with
    | some (.lst xs) => Q (.tup xs) h
    | _ => False
  | [.rol xs], h, Q => Q (.tup xs) h
  | _, _, _ => False
def listR : ARL
  | [.tup xs], h, Q => Q (.ref h.length) (h ++ [.lst xs])
  | [.ref n], h, Q => match h[n]? with
    | some (.lst xs) => Q (.ref h.length) (h ++ [.lst xs])
    | _ => False
  | [.rol xs], h, Q => Q (.ref h.length) (h ++ [.lst xs])
  | _, _, _ => False
def tyName : AV → AH → Option String
  | .non, _ => some "NoneType"
  | .bl _, _ => some "bool"
  | .int _, _ => some "int"
  | .str _, _ => some "str"
  | .tup _, _ => some "tuple"
  | .ref n, h => match h[n]? with
    | some (.lst _) => some "list"
    | some (.dct _) => some "dict"
    | none => none
  | .rol _, _ => some "list"
  | .ty _, _ => none
/-- isinstance of plain kinds -/
def isInst : String → String → Option Bool
  | "NoneType", t => if t = "int" ∨ t = "bool" ∨ t = "str" ∨ t = "tuple" ∨ t = "list" ∨ t = "dict" then some false else none
  | "bool", t => if t = "int" ∨ t = "bool" then some true else if t = "str" ∨ t = "tuple" ∨ t = "list" ∨ t = "dict" then some false else none
  | "int", t => if t = "int" then some true else if t = "bool" ∨ t = "str" ∨ t = "tuple" ∨ t = "list" ∨ t = "dict" then some false else none
  | "str", t => if t = "str" then some true else if t = "bool" ∨ t = "int" ∨ t = "tuple" ∨ t = "list" ∨ t = "dict" then some false else none
  | "tuple", t => if t = "tuple" then some true else if t = "bool" ∨ t = "str" ∨ t = "int" ∨ t = "list" ∨ t = "dict" then some false else none
  | "list", t => if t = "list" then some true else if t = "bool" ∨ t = "str" ∨ t = "tuple" ∨ t = "int" ∨ t = "dict" then some false else none
  | "dict", t => if t = "dict" then some true else if t = "bool" ∨ t = "str" ∨ t = "tuple" ∨ t = "list" ∨ t = "int" then some false else none
  | _, _ => none
def instR : ARL
  | [x, .ty t], h, Q => match tyName x h with
    | some n => (match isInst n t with
      | some b => Q (.bl b) h
      | none => False)
    | none => False
  | _, _, _ => False
def blsOf : List AV → Option (List Bool)
  | [] => some []
  | .bl b :: r => (blsOf r).map (b :: ·)
  | _ :: _ => none
def allR : ARL
  | [.ref n], h, Q => match h[n]? with
    | some (.lst xs) => (match blsOf xs with
      | some bs => Q (.bl (bs.all id)) h
      | none => False)
    | _ => False
  | _, _, _ => False
def anyR : ARL
  | [.ref n], h, Q => match h[n]? with
    | some (.lst xs) => (match blsOf xs with
      | some bs => Q (.bl (bs.any id)) h
      | none => False)
    | _ => False
  | _, _, _ => False
/-! ### methods -/
def isLst : AV → AH → Prop
  | .ref n, h => match h[n]? with
    | some (.lst _) => True
    | _ => False
  | _, _ => False
def appendR : ARM
  | .ref n, [y], h, Q => match h[n]? with
    | some (.lst xs) => xs.length < 16777216 ∧ Q .non (h.set n (.lst (xs ++ [y])))
    | _ => False
  | _, _, _, _ => False

def insertR : ARM
  | .ref n, [.int i, y], h, Q => match h[n]? with
    | some (.lst xs) => xs.length < 16777216 ∧ 0 ≤ i ∧ i < 2 ^ 63 ∧ Q .non (h.set n (.lst (xs.take i.toNat ++ [y] ++ xs.drop i.toNat)))
    | _ => False
  | _, _, _, _ => False
def iaddR : AR2
  | .int i, .int j, h, Q => Q (.int (i + j)) h
  | .str x, .str y, h, Q => x.length + y.length ≤ 16777216 ∧ Q (.str (x ++ y)) h
  | _, _, _, _ => False
def isubR : AR2
  | .int i, .int j, h, Q => Q (.int (i - j)) h
  | _, _, _, _ => False

/-! ### statements -/
def nextT : ATS := fun D a h => D.nx a h
def seqT (t u : ATS) : ATS := fun D a h => t { D with nx := u D } a h
def brkT : ATS := fun D a h => D.bk a h
def contT : ATS := fun D a h => D.ct a h
def dropT (te : ATE) : ATS := fun D a h => te a h fun _ h1 => D.nx a h1
def retT (te : ATE) : ATS := fun D a h => te a h D.rt
def retNT : ATS := fun D _ h => D.rt .non h
def ifS (c : ATT) (t u : ATS) : ATS := fun D a h => c a h fun b h1 => if b = true then t D a h1 else u D a h1
def gNameT (i : Nat) : ATG := fun v a h Q => Q (sv a i (some v)) h
def gNilT : ATGs := fun vs a h Q => match vs with
  | [] => Q a h
  | _ :: _ => False
def gConsT (t : ATG) (u : ATGs) : ATGs := fun vs a h Q => match vs with
  | v :: r => t v a h fun a' h' => u r a' h' Q
  | [] => False
def gTupT (n : Nat) (t : ATGs) : ATG := fun v a h Q => match v with
  | .tup xs => xs.length = n ∧ t xs a h Q
  | _ => False
/-- names only: one, or a tuple of names -/
def gNmsT : List Nat → ATGs
  | [] => gNilT
  | i :: r => gConsT (gNameT i) (gNmsT r)
def gSubT (to ti : ATE) : ATG := fun v a h Q => to a h fun o h1 => ti a h1 fun i h2 => setR o i v h2 fun h3 => Q a h3
def asgT (te : ATE) (g : ATG) : ATS := fun D a h => te a h fun x h1 => g x a h1 D.nx
/-- a, b = x, y -/
def parT (i j : Nat) (ta : ATA) : ATS := fun D a h => ta a h fun xs h1 => match xs with
  | [v, w] => D.nx (sv (sv a i (some v)) j (some w)) h1
  | _ => False
def augT (i : Nat) (te : ATE) (r : AR2) : ATS := fun D a h => match gv a i with
  | some x => te a h fun y h1 => r x y h1 fun z h2 => D.nx (sv a i (some z)) h2
  | none => False
/-- o[i] op= e -/
def augST (to ti te : ATE) (r : AR2) : ATS := fun D a h => to a h fun o h1 => ti a h1 fun i h2 => ixR o i h2 fun x h3 => te a h3 fun y h4 => r x y h4 fun z h5 => setR o i z h5 fun h6 => D.nx a h6

/-! ### loops -/
def forT (it : ATI) (g : ATG) (tb : ATS) : ATS := fun D a h => it a h fun items guard h1 => ∃ I : Nat → ASt → AH → Prop, I 0 a h1 ∧
  (∀ i x a h, items[i]? = some x → I i a h → guard h ∧ g x a h fun a2 h2 => tb { D with nx := I (i + 1), ct := I (i + 1), bk := D.nx } a2 h2) ∧
  ∀ a h, I items.length a h → guard h ∧ D.nx a h
def whileT (c : ATT) (tb : ATS) : ATS := fun D a h => ∃ W : Nat → ASt → AH → Prop, (∃ m, W m a h) ∧ ∀ m a h, W m a h →
  c a h fun b h1 => if b = true then ∃ N : ASt → AH → Prop, (∀ a' h', N a' h' → ∃ m', m' < m ∧ W m' a' h') ∧ tb { D with nx := N, ct := N, bk := D.nx } a h1 else D.nx a h1
def lcT (it : ATI) (g : ATG) (tt : ATT) (te : ATE) (vs : List Nat) : ATE := fun a h Q => it a h fun items guard h1 => ∃ I : Nat → List AV → AH → Prop, I 0 [] (h1 ++ [.lst []]) ∧
  (∀ i x acc h, items[i]? = some x → I i acc h → guard h ∧ g x (wipeA a vs) h fun a2 h2 => tt a2 h2 fun b h3 =>
    if b = true then te a2 h3 fun y h4 => h4[h1.length]? = some (.lst acc) ∧ acc.length < 16777216 ∧ I (i + 1) (acc ++ [y]) (h4.set h1.length (.lst (acc ++ [y]))) else I (i + 1) acc h3) ∧
  ∀ acc h, I items.length acc h → guard h ∧ h[h1.length]? = some (.lst acc) ∧ Q (.ref h1.length) h
def yesT : ATT := fun _ h Q => Q true h
/-- a list, a tuple (by its kind) -/
def iSeqT (te : ATE) : ATI := fun a h R => te a h fun x h1 => match x with
  | .tup xs => R xs (fun _ => True) h1
  | .rol xs => R xs (fun _ => True) h1
  | .ref n => (match h1[n]? with
    | some (.lst xs) => R xs (fun h => h[n]? = some (.lst xs)) h1
    | _ => False)
  | _ => False
def zrange (lo : Int) (n : Nat) : List AV := (List.range n).map fun (i : Nat) => .int (lo + (i : Int))
def iRng1T (ta : ATA) : ATI := fun a h R => ta a h fun xs h1 => match xs with
  | [.int n] => n < 2 ^ 62 ∧ -(2 ^ 62) ≤ n ∧ R (zrange 0 n.toNat) (fun _ => True) h1
  | _ => False
def iRng2T (ta : ATA) : ATI := fun a h R => ta a h fun xs h1 => match xs with
  | [.int i, .int n] => (-(2 ^ 62) ≤ i ∧ i < 2 ^ 62 ∧ -(2 ^ 62) ≤ n ∧ n < 2 ^ 62) ∧ R (zrange i (n - i).toNat) (fun _ => True) h1
  | _ => False
def zip2 : List AV → List AV → List AV
  | x :: xs, y :: ys => .tup [x, y] :: zip2 xs ys
  | _, _ => []
def seqOf : AV → AH → Option (List AV)
  | .tup xs, _ => some xs
  | .ref n, h => match h[n]? with
    | some (.lst xs) => some xs
    | _ => none
  | .rol xs, _ => some xs
  | _, _ => none
def lstOf : AV → AH → Option (List AV)
  | .ref n, h => match h[n]? with
    | some (.lst xs) => some xs
    | _ => none
  | .rol xs, _ => some xs
  | _, _ => none
def iZipT (ta : ATA) : ATI := fun a h R => ta a h fun vs h1 => match vs with
  | [.tup xs, .tup ys] => R (zip2 xs ys) (fun _ => True) h1
  | [x, y] => (match lstOf x h1, lstOf y h1 with
    | some xs, some ys => R (zip2 xs ys) (fun h => lstOf x h = some xs ∧ lstOf y h = some ys) h1
    | _, _ => False)
  | _ => False
def enumV (k : Nat) : List AV → List AV
  | [] => []
  | x :: r => .tup [.int (k : Int), x] :: enumV (k + 1) r
def iEnumT (ta : ATA) : ATI := fun a h R => ta a h fun vs h1 => match vs with
  | [.tup xs] => R (enumV 0 xs) (fun _ => True) h1
  | [x] => (match lstOf x h1 with
    | some xs => R (enumV 0 xs) (fun h => lstOf x h = some xs) h1
    | none => False)
  | _ => False
def signs (x : Str) : List AV := x.cps.toList.map fun c => .str ⟨#[c]⟩
def iStrT (te : ATE) : ATI := fun a h R => te a h fun x h1 => match x with
  | .str z => R (signs z) (fun _ => True) h1
  | _ => False
/-- what a def's body is to end with -/
def ends (R : AK) : AEnds := { nx := fun _ h => R .non h, rt := R }
def startA (n : Nat) (xs : List AV) : ASt := xs.map some ++ List.replicate (n - xs.length) none

/-! ### numbers of objects within a bound; what a def gives back, its own objects forgotten -/
mutual
def clB (n : Nat) : AV → Bool
  | .ref k => decide (k < n)
  | .tup xs => clBs n xs
  | .rol xs => clBs n xs
  | _ => true
def clBs (n : Nat) : List AV → Bool
  | [] => true
  | x :: r => clB n x && clBs n r
end
def clO (n : Nat) : AO → Bool
  | .lst xs => clBs n xs
  | .dct kvs => clBs n (kvs.map (·.2))
def clH (h : AH) : Prop := ∀ o ∈ h, clO h.length o = true
def retG (h0 : AH) (R : AK) : AK := fun x h' => R x h' ∨ (∃ h1 j, h' = h1 ++ j ∧ h1.length = h0.length ∧ clH h1 ∧ clB h1.length x = true ∧ R x h1) ∨
  ∃ h1 j1 xs j2, h' = h1 ++ (j1 ++ .lst xs :: j2) ∧ x = .ref (h1.length + j1.length) ∧ h1.length = h0.length ∧ clH h1 ∧ clBs h1.length xs = true ∧ R (.ref h1.length) (h1 ++ [.lst xs])
/-- what the law's def is to keep -/
def lawSp : ASp := fun xs _ R _ => ∃ ns : List Int, xs = [.rol (ns.map AV.int)] ∧ ns.length ≤ 63 ∧ ∀ h', R (.bl true) h'

/-! ### contracts by the number of arguments -/
def A0 (p : AH → AK → AK → Prop) : ASp
  | [], h, R, E => p h R E
  | _, _, _, _ => False
def A1 (p : AV → AH → AK → AK → Prop) : ASp
  | [x], h, R, E => p x h R E
  | _, _, _, _ => False
def A2 (p : AV → AV → AH → AK → AK → Prop) : ASp
  | [x, y], h, R, E => p x y h R E
  | _, _, _, _ => False
def A3 (p : AV → AV → AV → AH → AK → AK → Prop) : ASp
  | [x, y, z], h, R, E => p x y z h R E
  | _, _, _, _ => False
def A4 (p : AV → AV → AV → AV → AH → AK → AK → Prop) : ASp
  | [x, y, z, u], h, R, E => p x y z u h R E
  | _, _, _, _ => False
def A5 (p : AV → AV → AV → AV → AV → AH → AK → AK → Prop) : ASp
  | [x, y, z, u, v], h, R, E => p x y z u v h R E
  | _, _, _, _ => False
def A6 (p : AV → AV → AV → AV → AV → AV → AH → AK → AK → Prop) : ASp
  | [x, y, z, u, v, w], h, R, E => p x y z u v w h R E
  | _, _, _, _ => False
theorem A0_len {p} : ∀ {xs : List AV} {h : AH} {R E : AK}, A0 p xs h R E → xs.length = 0
  | [], _, _, _, _ => rfl
theorem A1_len {p} : ∀ {xs : List AV} {h : AH} {R E : AK}, A1 p xs h R E → xs.length = 1
  | [_], _, _, _, _ => rfl
theorem A2_len {p} : ∀ {xs : List AV} {h : AH} {R E : AK}, A2 p xs h R E → xs.length = 2
  | [_, _], _, _, _, _ => rfl
theorem A3_len {p} : ∀ {xs : List AV} {h : AH} {R E : AK}, A3 p xs h R E → xs.length = 3
  | [_, _, _], _, _, _, _ => rfl
theorem A4_len {p} : ∀ {xs : List AV} {h : AH} {R E : AK}, A4 p xs h R E → xs.length = 4
  | [_, _, _, _], _, _, _, _ => rfl
theorem A5_len {p} : ∀ {xs : List AV} {h : AH} {R E : AK}, A5 p xs h R E → xs.length = 5
  | [_, _, _, _, _], _, _, _, _ => rfl
theorem A6_len {p} : ∀ {xs : List AV} {h : AH} {R E : AK}, A6 p xs h R E → xs.length = 6
  | [_, _, _, _, _, _], _, _, _, _ => rfl
end AL

/-! ALE: what the operations give at values of known kinds, as equations. -/
namespace AL
open PySem
section
variable {i j : Int} {b c : Bool} {x y z : Str} {xs ys : List AV} {n m k : Nat} {h : AH} {Q : AK} {B : Bool → AH → Prop} {v w u : AV} {a : ASt}
theorem e_tru_non : truR .non h B = B false h := rfl
theorem e_tru_bl : truR (.bl b) h B = B b h := rfl
theorem e_tru_int : truR (.int i) h B = B (i != 0) h := rfl
theorem e_tru_tup : truR (.tup xs) h B = B (!xs.isEmpty) h := rfl
theorem e_tru_rol : truR (.rol xs) h B = B (!xs.isEmpty) h := rfl
theorem e_bl_bl : blR (.bl b) h B = B b h := rfl
theorem e_add_int : addR (.int i) (.int j) h Q = Q (.int (i + j)) h := rfl
theorem e_add_ib : addR (.int i) (.bl b) h Q = Q (.int (i + (if b then 1 else 0))) h := rfl
theorem e_add_str : addR (.str x) (.str y) h Q = (x.length + y.length ≤ 16777216 ∧ Q (.str (x ++ y)) h) := rfl
theorem e_add_tup : addR (.tup xs) (.tup ys) h Q = (xs.length + ys.length ≤ 16777216 ∧ Q (.tup (xs ++ ys)) h) := rfl
theorem e_sub_int : subR (.int i) (.int j) h Q = Q (.int (i - j)) h := rfl
theorem e_mul_int : mulR (.int i) (.int j) h Q = (mulOk i j ∧ Q (.int (i * j)) h) := rfl
theorem e_fdiv_int : fdivR (.int i) (.int j) h Q = (divOk j ∧ Q (.int (i / j)) h) := rfl
theorem e_mod_int : modR (.int i) (.int j) h Q = (0 < j ∧ Q (.int (i % j)) h) := rfl
theorem e_pow_int : powR (.int i) (.int j) h Q = ((0 ≤ j ∧ j ≤ 1000000 ∧ i.natAbs < 2 ^ 64) ∧ Q (.int (i ^ j.toNat)) h) := rfl
theorem e_shl_int : shlR (.int i) (.int j) h Q = ((0 ≤ j ∧ j ≤ 1000000 ∧ i.natAbs < 2 ^ 64) ∧ Q (.int (i * 2 ^ j.toNat)) h) := rfl
theorem e_neg_int : negR (.int i) h Q = Q (.int (-i)) h := rfl
theorem e_iadd_int : iaddR (.int i) (.int j) h Q = Q (.int (i + j)) h := rfl
theorem e_iadd_str : iaddR (.str x) (.str y) h Q = (x.length + y.length ≤ 16777216 ∧ Q (.str (x ++ y)) h) := rfl
theorem e_isub_int : isubR (.int i) (.int j) h Q = Q (.int (i - j)) h := rfl
theorem e_aeq_int : aeq (.int i) (.int j) = (i == j) := by simp [aeq]
theorem e_aeq_str : aeq (.str x) (.str y) = (x == y) := by simp [aeq]
theorem e_aeq_bl : aeq (.bl b) (.bl c) = (b == c) := by simp [aeq]
theorem e_aeq_non : aeq .non .non = true := by simp [aeq]
theorem e_aeq_tup : aeq (.tup xs) (.tup ys) = aeqs xs ys := by simp [aeq]
theorem e_aeqs_nil : aeqs [] [] = true := by simp [aeqs]
theorem e_aeqs_cons : aeqs (v :: xs) (w :: ys) = (aeq v w && aeqs xs ys) := by simp [aeqs]
theorem e_aeqs_nc : aeqs [] (w :: ys) = false := by simp [aeqs]
theorem e_aeqs_cn : aeqs (v :: xs) [] = false := by simp [aeqs]
theorem e_plain_int : plainN n (.int i) = true := by cases n <;> rfl
theorem e_plain_bl : plainN n (.bl b) = true := by cases n <;> rfl
theorem e_plain_non : plainN n .non = true := by cases n <;> rfl
theorem e_plain_str : plainN n (.str x) = x.cps.all (· < 0x110000) := by cases n <;> rfl
theorem e_plain_tup : plainN (n + 1) (.tup xs) = xs.all (plainN n) := rfl
theorem e_eq : eqR v w h Q = (plainN 40 v = true ∧ plainN 40 w = true ∧ Q (.bl (aeq v w)) h) := rfl
theorem e_ne : neR v w h Q = (plainN 40 v = true ∧ plainN 40 w = true ∧ Q (.bl (!aeq v w)) h) := rfl
theorem e_lt_int : ltR (.int i) (.int j) h Q = Q (.bl (decide (i < j))) h := rfl
theorem e_lt_str : ltR (.str x) (.str y) h Q = Q (.bl (decide (x.cps.toList < y.cps.toList))) h := rfl
theorem e_le_int : leR (.int i) (.int j) h Q = Q (.bl (decide (i ≤ j))) h := rfl
theorem e_gt_int : gtR (.int i) (.int j) h Q = Q (.bl (decide (j < i))) h := rfl
theorem e_ge_int : geR (.int i) (.int j) h Q = Q (.bl (decide (j ≤ i))) h := rfl
theorem e_isN : isNR v .non h Q = Q (.bl (isNon v)) h := by cases v <;> rfl
theorem e_notN : notNR v .non h Q = Q (.bl (!isNon v)) h := by cases v <;> rfl
theorem e_isNon_int : isNon (.int i) = false := rfl
theorem e_isNon_str : isNon (.str x) = false := rfl
theorem e_isNon_tup : isNon (.tup xs) = false := rfl
theorem e_isNon_non : isNon .non = true := rfl
theorem e_isNon_ref : isNon (.ref n) = false := rfl
theorem e_isNon_bl : isNon (.bl b) = false := rfl
theorem e_ix_tup (e : atA xs i = some v) : ixR (.tup xs) (.int i) h Q = Q v h := by simp only [ixR, e]
theorem e_ix_rol (e : atA xs i = some v) : ixR (.rol xs) (.int i) h Q = Q v h := by simp only [ixR, e]
theorem e_ix_lst (e1 : h[n]? = some (.lst xs)) (e : atA xs i = some v) : ixR (.ref n) (.int i) h Q = Q v h := by simp only [ixR, e1, e]
theorem e_ix_str {c : Nat} (e : atA x.cps.toList i = some c) : ixR (.str x) (.int i) h Q = (x.length ≤ 16777216 ∧ Q (.str ⟨#[c]⟩) h) := by simp only [ixR, e]
theorem e_ix0 : ixR (.tup (v :: xs)) (.int 0) h Q = Q v h := rfl
theorem e_ix1 : ixR (.tup (v :: w :: xs)) (.int 1) h Q = Q w h := rfl
theorem e_ix2 {u : AV} : ixR (.tup (v :: w :: u :: xs)) (.int 2) h Q = Q u h := rfl
theorem e_ix3 {u z : AV} : ixR (.tup (v :: w :: u :: z :: xs)) (.int 3) h Q = Q z h := rfl
theorem e_ix4 {u z t : AV} : ixR (.tup (v :: w :: u :: z :: t :: xs)) (.int 4) h Q = Q t h := rfl
theorem e_set_lst {S : AH → Prop} {j : Nat} (e1 : h[n]? = some (.lst xs)) : setR (.ref n) (.int (j : Int)) v h S = (j < xs.length ∧ S (h.set n (.lst (xs.set j v)))) := by
  show setR (.ref n) (.int (.ofNat j)) v h S = _
  simp only [setR, e1]
theorem e_len_tup : lenR [.tup xs] h Q = Q (.int xs.length) h := rfl
theorem e_len_rol : lenR [.rol xs] h Q = Q (.int xs.length) h := rfl
theorem e_len_str : lenR [.str x] h Q = (x.length ≤ 16777216 ∧ Q (.int x.length) h) := rfl
theorem e_len_lst (e : h[n]? = some (.lst xs)) : lenR [.ref n] h Q = Q (.int xs.length) h := by simp only [lenR, e]
theorem e_abs : absR [.int i] h Q = Q (.int (if i < 0 then -i else i)) h := rfl
theorem e_int_int : intR [.int i] h Q = Q (.int i) h := rfl
theorem e_int_bl : intR [.bl b] h Q = Q (.int (if b then 1 else 0)) h := rfl
theorem e_str_int : strR [.int i] h Q = (i.natAbs.log2 < 1920 ∧ Q (.str (toString i : String)) h) := rfl
theorem e_gcd : gcdR [.int i, .int j] h Q = Q (.int ((Nat.gcd i.natAbs j.natAbs : Nat) : Int)) h := rfl
theorem e_tuple_tup : tupleR [.tup xs] h Q = Q (.tup xs) h := rfl
theorem e_tuple_lst (e : h[n]? = some (.lst xs)) : tupleR [.ref n] h Q = Q (.tup xs) h := by simp only [tupleR, e]
theorem e_list_tup : listR [.tup xs] h Q = Q (.ref h.length) (h ++ [.lst xs]) := rfl
theorem e_list_lst (e : h[n]? = some (.lst xs)) : listR [.ref n] h Q = Q (.ref h.length) (h ++ [.lst xs]) := by simp only [listR, e]
theorem e_inst_ii : instR [.int i, .ty "int"] h Q = Q (.bl true) h := rfl
theorem e_inst_ib : instR [.int i, .ty "bool"] h Q = Q (.bl false) h := rfl
theorem e_inst_tt : instR [.tup xs, .ty "tuple"] h Q = Q (.bl true) h := rfl
theorem e_inst_it : instR [.int i, .ty "tuple"] h Q = Q (.bl false) h := rfl
theorem e_inst_ti : instR [.tup xs, .ty "int"] h Q = Q (.bl false) h := rfl
theorem e_inst_tb : instR [.tup xs, .ty "bool"] h Q = Q (.bl false) h := rfl
theorem e_inst_bb : instR [.bl b, .ty "bool"] h Q = Q (.bl true) h := rfl
theorem e_inst_bi : instR [.bl b, .ty "int"] h Q = Q (.bl true) h := rfl
theorem e_inst_bt : instR [.bl b, .ty "tuple"] h Q = Q (.bl false) h := rfl
theorem e_inst_ss : instR [.str x, .ty "str"] h Q = Q (.bl true) h := rfl
theorem e_inst_st : instR [.str x, .ty "tuple"] h Q = Q (.bl false) h := rfl
theorem e_inst_si : instR [.str x, .ty "int"] h Q = Q (.bl false) h := rfl
theorem e_inst_nt : instR [.non, .ty "tuple"] h Q = Q (.bl false) h := rfl
theorem e_append (e : h[n]? = some (.lst xs)) : appendR (.ref n) [v] h Q = (xs.length < 16777216 ∧ Q .non (h.set n (.lst (xs ++ [v])))) := by simp only [appendR, e]
theorem e_isLst (e : h[n]? = some (.lst xs)) : isLst (.ref n) h = True := by simp only [isLst, e]
theorem e_insert (e : h[n]? = some (.lst xs)) : insertR (.ref n) [.int i, v] h Q = (xs.length < 16777216 ∧ 0 ≤ i ∧ i < 2 ^ 63 ∧ Q .non (h.set n (.lst (xs.take i.toNat ++ [v] ++ xs.drop i.toNat)))) := by simp only [insertR, e]
theorem e_tru_lst (e : h[n]? = some (.lst xs)) : truR (.ref n) h B = B (!xs.isEmpty) h := by simp only [truR, e]
theorem e_gTup {t : ATGs} {N : ASt → AH → Prop} : gTupT n t (.tup xs) a h N = (xs.length = n ∧ t xs a h N) := rfl
theorem e_gCons {t : ATG} {t2 : ATGs} {N : ASt → AH → Prop} : gConsT t t2 (v :: xs) a h N = t v a h fun a' h' => t2 xs a' h' N := rfl
theorem e_gNil {N : ASt → AH → Prop} : gNilT [] a h N = N a h := rfl
theorem e_gNms0 : gNmsT [] = gNilT := rfl
theorem e_gNms1 {r : List Nat} : gNmsT (n :: r) = gConsT (gNameT n) (gNmsT r) := rfl
theorem e_gName {N : ASt → AH → Prop} : gNameT n v a h N = N (sv a n (some v)) h := rfl
theorem atA_0 {α : Type} {x : α} {r : List α} : atA (x :: r) 0 = some x := rfl
theorem atA_1 {α : Type} {x y : α} {r : List α} : atA (x :: y :: r) 1 = some y := rfl
theorem atA_2 {α : Type} {x y z : α} {r : List α} : atA (x :: y :: z :: r) 2 = some z := rfl
theorem atA_3 {α : Type} {x y z u : α} {r : List α} : atA (x :: y :: z :: u :: r) 3 = some u := rfl
theorem atA_4 {α : Type} {x y z u v : α} {r : List α} : atA (x :: y :: z :: u :: v :: r) 4 = some v := rfl
theorem atA_nat {α : Type} {r : List α} {k : Nat} : atA r (k : Int) = r[k]? := rfl
/-! ### lists behind one another -/
theorem get_l0 {h : AH} {x : AO} {r : AH} : (h ++ x :: r)[h.length]? = some x := by
  rw [List.getElem?_append_right (Nat.le_refl _), Nat.sub_self]
  rfl
theorem get_l1 {h : AH} {x y : AO} {r : AH} : (h ++ x :: y :: r)[h.length + 1]? = some y := by
  rw [List.getElem?_append_right (by omega), Nat.add_sub_cancel_left]
  rfl
theorem get_l2 {h : AH} {x y z : AO} {r : AH} : (h ++ x :: y :: z :: r)[h.length + 2]? = some z := by
  rw [List.getElem?_append_right (by omega), Nat.add_sub_cancel_left]
  rfl
theorem get_l3 {h : AH} {x y z u : AO} {r : AH} : (h ++ x :: y :: z :: u :: r)[h.length + 3]? = some u := by
  rw [List.getElem?_append_right (by omega), Nat.add_sub_cancel_left]
  rfl
theorem set_l0 {h : AH} {x y : AO} {r : AH} : (h ++ x :: r).set h.length y = h ++ y :: r := by
  rw [List.set_append_right _ _ (Nat.le_refl _), Nat.sub_self]
  rfl
theorem set_l1 {h : AH} {x y z : AO} {r : AH} : (h ++ x :: y :: r).set (h.length + 1) z = h ++ x :: z :: r := by
  rw [List.set_append_right _ _ (by omega), Nat.add_sub_cancel_left]
  rfl
theorem set_l2 {h : AH} {x y z u : AO} {r : AH} : (h ++ x :: y :: z :: r).set (h.length + 2) u = h ++ x :: y :: u :: r := by
  rw [List.set_append_right _ _ (by omega), Nat.add_sub_cancel_left]
  rfl
theorem app_l {h r s : AH} : (h ++ r) ++ s = h ++ (r ++ s) := List.append_assoc _ _ _
theorem len_l0 {h : AH} {x : AO} : (h ++ [x]).length = h.length + 1 := by simp
theorem len_l1 {h : AH} {x y : AO} : (h ++ [x, y]).length = h.length + 2 := by simp
theorem len_l2 {h : AH} {x y z : AO} : (h ++ [x, y, z]).length = h.length + 3 := by simp
section
variable {te ta tb tc : ATE} {tl : ATA} {tt uu : ATT} {t u : ATS} {r r' : AR2} {r1 : AR1} {rl : ARL} {rm : ARM} {sp : ASp} {E Q : AK} {a : ASt} {h : AH} {v : AV} {i j : Nat} {D : AEnds} {g : ATG} {B : Bool → AH → Prop} {L : List AV → AH → Prop} {ok : AV → AH → Prop}
theorem x_c : cT v a h Q = Q v h := rfl
theorem x_var : varT i a h Q = match gv a i with
    | some v => Q v h
    | none => False := rfl
theorem x_op : opT r ta tb a h Q = ta a h fun x h1 => tb a h1 fun y h2 => r x y h2 Q := rfl
theorem x_un : unT r1 ta a h Q = ta a h fun x h1 => r1 x h1 Q := rfl
theorem x_nil : nilT a h L = L [] h := rfl
theorem x_cons : consT te tl a h L = te a h fun x h1 => tl a h1 fun xs h2 => L (x :: xs) h2 := rfl
theorem x_tup : tupT tl a h Q = tl a h fun xs h1 => lenLe xs 64 = true ∧ Q (.tup xs) h1 := rfl
theorem x_lst : lstT tl a h Q = tl a h fun xs h1 => lenLe xs 64 = true ∧ Q (.ref h1.length) (h1 ++ [.lst xs]) := rfl
theorem x_call : callT sp E tl a h Q = tl a h fun xs h1 => sp xs h1 Q E := rfl
theorem x_cb : cbT rl tl a h Q = tl a h fun xs h1 => rl xs h1 Q := rfl
theorem x_mt : mtT ok rm ta tl a h Q = ta a h fun x h1 => ok x h1 ∧ tl a h1 fun xs h2 => rm x xs h2 Q := rfl
theorem x_tru : truT te a h B = te a h fun x h1 => truR x h1 B := rfl
theorem x_cmp : cmpT te a h B = te a h fun x h1 => blR x h1 B := rfl
theorem x_and : andT tt uu a h B = tt a h fun c h1 => if c = true then uu a h1 B else B false h1 := rfl
theorem x_or : orT tt uu a h B = tt a h fun c h1 => if c = true then B true h1 else uu a h1 B := rfl
theorem x_not : notT tt a h B = tt a h fun c h1 => B (!c) h1 := rfl
theorem x_andV : andV ta tb a h Q = ta a h fun x h1 => blR x h1 fun c h2 => if c = true then tb a h2 Q else Q (.bl false) h2 := rfl
theorem x_orV : orV ta tb a h Q = ta a h fun x h1 => blR x h1 fun c h2 => if c = true then Q (.bl true) h2 else tb a h2 Q := rfl
theorem x_notV : notV ta a h Q = ta a h fun x h1 => blR x h1 fun c h2 => Q (.bl (!c)) h2 := rfl
theorem x_if : ifT tt ta tb a h Q = tt a h fun c h1 => if c = true then ta a h1 Q else tb a h1 Q := rfl
theorem x_chain : chainT r r' ta tb tc a h Q = ta a h fun x h1 => tb a h1 fun y h2 => r x y h2 fun z h3 => blR z h3 fun c h4 => if c = true then tc a h4 fun w h5 => r' y w h5 Q else Q (.bl false) h4 := rfl
theorem x_next : nextT D a h = D.nx a h := rfl
theorem x_seq : seqT t u D a h = t { D with nx := u D } a h := rfl
theorem x_brk : brkT D a h = D.bk a h := rfl
theorem x_cont : contT D a h = D.ct a h := rfl
theorem x_drop : dropT te D a h = te a h fun _ h1 => D.nx a h1 := rfl
theorem x_ret : retT te D a h = te a h D.rt := rfl
theorem x_retN : retNT D a h = D.rt .non h := rfl
theorem x_ifS : ifS tt t u D a h = tt a h fun b h1 => if b = true then t D a h1 else u D a h1 := rfl
theorem x_asg : asgT te g D a h = te a h fun x h1 => g x a h1 D.nx := rfl
theorem x_gSub {N : ASt → AH → Prop} : gSubT ta tb v a h N = ta a h fun o h1 => tb a h1 fun i h2 => setR o i v h2 fun h3 => N a h3 := rfl
theorem x_par : parT i j tl D a h = tl a h fun xs h1 => match xs with
    | [v, w] => D.nx (sv (sv a i (some v)) j (some w)) h1
    | _ => False := rfl
theorem x_aug : augT i te r D a h = match gv a i with
    | some x => te a h fun y h1 => r x y h1 fun z h2 => D.nx (sv a i (some z)) h2
    | none => False := rfl
theorem x_augS : augST ta tb te r D a h = ta a h fun o h1 => tb a h1 fun i h2 => ixR o i h2 fun x h3 => te a h3 fun y h4 => r x y h4 fun z h5 => setR o i z h5 fun h6 => D.nx a h6 := rfl
theorem x_gv0 {x : Option AV} {s : ASt} : gv (x :: s) 0 = x := rfl
theorem x_gvS {x : Option AV} {s : ASt} : gv (x :: s) (i + 1) = gv s i := rfl
theorem x_sv0 {x y : Option AV} {s : ASt} : sv (x :: s) 0 y = y :: s := rfl
theorem x_svS {x y : Option AV} {s : ASt} : sv (x :: s) (i + 1) y = x :: sv s i y := rfl
theorem x_rt {R : AK} : (ends R).rt = R := rfl
theorem x_nx {R : AK} : (ends R).nx a h = R .non h := rfl
theorem x_yes : yesT a h B = B true h := rfl
theorem x_for {it : ATI} : forT it g t D a h = it a h fun items guard h1 => ∃ I : Nat → ASt → AH → Prop, I 0 a h1 ∧
  (∀ i x a h, items[i]? = some x → I i a h → guard h ∧ g x a h fun a2 h2 => t { D with nx := I (i + 1), ct := I (i + 1), bk := D.nx } a2 h2) ∧
  ∀ a h, I items.length a h → guard h ∧ D.nx a h := rfl
theorem x_iseq_tup {R : List AV → (AH → Prop) → AH → Prop} {xs : List AV} (he : ∀ Q : AK, te a h Q = Q (.tup xs) h) : iSeqT te a h R = R xs (fun _ => True) h := by
  unfold iSeqT
  rw [he]
end
end
end AL

/-! CS: contracts of the defs that many laws share: ratios, draws. -/
namespace AL
open PySem
/-- a ratio as a value -/
def rat (q : Rat) : AV := .tup [.int q.num, .int (q.den : Int)]
/-- the size of a number, of a ratio, in bits -/
def isz (i : Int) : Nat := i.natAbs.log2 + 1
def sz (q : Rat) : Nat := max (isz q.num) (isz (q.den : Int))
/-! ### ratios.py -/
def sp_ratio : ASp := A2 fun x y h R _ => ∃ n d : Int, x = .int n ∧ y = .int d ∧ d ≠ 0 ∧ isz d ≤ 9000 ∧ R (rat (Rat.divInt n d)) h
/-- two ratios in, a value out -/
def rat2 (f : Rat → Rat → AV) : ASp := A2 fun x y h R _ => ∃ a b : Rat, x = rat a ∧ y = rat b ∧ sz a + sz b ≤ 8990 ∧ R (f a b) h
def sp_plus : ASp := rat2 fun a b => rat (a + b)
def sp_minus : ASp := rat2 fun a b => rat (a - b)
def sp_times : ASp := rat2 fun a b => rat (a * b)
def sp_over : ASp := A2 fun x y h R _ => ∃ a b : Rat, x = rat a ∧ y = rat b ∧ b ≠ 0 ∧ sz a + sz b ≤ 8990 ∧ R (rat (a / b)) h
def sp_between : ASp := rat2 fun a b => rat ((a + b) / 2)
def sp_less : ASp := rat2 fun a b => .bl (decide (a < b))
def sp_at_most : ASp := rat2 fun a b => .bl (decide (a ≤ b))
def rat1 (f : Rat → AV) : ASp := A1 fun x h R _ => ∃ a : Rat, x = rat a ∧ sz a ≤ 8990 ∧ R (f a) h
def sp_opposite : ASp := rat1 fun a => rat (-a)
def sp_sign_of : ASp := rat1 fun a => .int (if a.num < 0 then -1 else if a.num > 0 then 1 else 0)
def sp_floor_of : ASp := rat1 fun a => .int (a.num / (a.den : Int))
def sp_ceiling_of : ASp := rat1 fun a => .int (-((-a.num) / (a.den : Int)))
/-- a value that is an int, no bool -/
def isI : AV → Bool
  | .int _ => true
  | _ => false
/-- values of the kinds that are looked at: no type, and lists by number that are there -/
def seen (h : AH) : AV → Prop
  | .ref n => n < h.length
  | .ty _ => False
  | _ => True
def sp_whole_number : ASp := A1 fun x h R _ => seen h x ∧ R (.bl (isI x)) h
/-! ### the laws' draws -/
/-- the drawing list at n: the script's ints, the place, the rest, the seed, three -/
def DrawAt (h : AH) (n : Nat) : Prop := ∃ (k : Nat) (ns : List Int) (at_ : Nat) (rest seed : Int), h[n]? = some (.lst [.ref k, .int (at_ : Int), .int rest, .int seed, .int 3]) ∧ h[k]? = some (.lst (ns.map AV.int)) ∧ k < n
/-- nothing but the drawing list has changed -/
def Drawn (h : AH) (n : Nat) (h' : AH) : Prop := h'.length = h.length ∧ (∀ i, i ≠ n → h'[i]? = h[i]?) ∧ DrawAt h' n
def sp_law_begin : ASp := A1 fun x h R _ => ∃ ns : List Int, x = .rol (ns.map AV.int) ∧ ns.length ≤ 63 ∧ R (.ref (h.length + 1)) (h ++ [.lst (ns.map AV.int), .lst [.ref h.length, .int 0, .int 0, .int 7, .int 3]])
def sp_law_draw : ASp := A2 fun x y h R _ => ∃ (n : Nat) (many : Int), x = .ref n ∧ y = .int many ∧ 0 < many ∧ isz many ≤ 9000 ∧ DrawAt h n ∧ ∀ r h', 0 ≤ r → r < many → Drawn h n h' → R (.int r) h'
/-- the items of a list or tuple, the drawing list apart -/
def sp_law_pick : ASp := A2 fun x y h R _ => ∃ (n : Nat) (xs : List AV), x = .ref n ∧ seqOf y h = some xs ∧ xs ≠ [] ∧ xs.length ≤ 1000000 ∧ y ≠ .ref n ∧ DrawAt h n ∧ ∀ v h', v ∈ xs → Drawn h n h' → R v h'
def sp_law_rare : ASp := A2 fun x y h R _ => ∃ (n : Nat) (many : Int), x = .ref n ∧ y = .int many ∧ 0 < many ∧ isz many ≤ 9000 ∧ DrawAt h n ∧ ∀ r h', Drawn h n h' → R (.bl r) h'
def sp_law_gcd : ASp := A2 fun x y h R _ => ∃ a b : Int, x = .int a ∧ y = .int b ∧ isz a ≤ 20000 ∧ isz b ≤ 20000 ∧ R (.int ((a.natAbs.gcd b.natAbs : Nat) : Int)) h
def sp_law_r : ASp := A2 fun x y h R _ => ∃ n d : Int, x = .int n ∧ y = .int d ∧ d ≠ 0 ∧ isz n ≤ 20000 ∧ isz d ≤ 9000 ∧ R (rat (Rat.divInt n d)) h
def sp_law_add : ASp := rat2 fun a b => rat (a + b)
def sp_law_sub : ASp := rat2 fun a b => rat (a - b)
def sp_law_mul : ASp := rat2 fun a b => rat (a * b)
def sp_law_lt : ASp := rat2 fun a b => .bl (decide (a < b))
def sp_law_div : ASp := A2 fun x y h R _ => ∃ a b : Rat, x = rat a ∧ y = rat b ∧ b ≠ 0 ∧ sz a + sz b ≤ 8990 ∧ R (rat (a / b)) h
def sp_law_is_int : ASp := A1 fun x h R _ => seen h x ∧ R (.bl (isI x)) h
/-- a right ratio -/
def isR : AV → Bool
  | .tup [.int n, .int d] => decide (1 ≤ d) && decide (n.natAbs.gcd d.natAbs = 1)
  | _ => false
def isRsp : ASp := A1 fun x h R _ => seen h x ∧ (∀ xs, x = .tup xs → ∀ y ∈ xs, seen h y) ∧ (∀ n d, x = .tup [.int n, .int d] → isz n ≤ 20000 ∧ isz d ≤ 20000) ∧ R (.bl (isR x)) h
def sp_is_ratio : ASp := isRsp
def sp_law_is_r : ASp := isRsp
/-- what every law's def is to keep -/
def sp_law : ASp := A1 fun x h R _ => ∃ ns : List Int, x = .rol (ns.map AV.int) ∧ ns.length ≤ 63 ∧ ∀ h', R (.bl true) h'
/-- plain data of bounded depth, no list in it -/
def dat : Nat → AV → Bool
  | 0, _ => false
  | n + 1, .tup xs => decide (xs.length ≤ 1000000) && xs.all (dat n)
  | _ + 1, .non => true
  | _ + 1, .bl _ => true
  | _ + 1, .int _ => true
  | _ + 1, .str x => x.cps.all (· < 0x110000)
  | _ + 1, _ => false
def sp_law_same (dep : Nat) : ASp := A2 fun x y h R _ => x = y ∧ dat dep x = true ∧ R (.bl true) h
theorem sp_law_same_zero {xs : List AV} {h : AH} {R E : AK} (q : sp_law_same 0 xs h R E) : False := match xs, q with
  | [_, _], ⟨_, q, _⟩ => Bool.noConfusion q
end AL

/-! CB: the plain bodies of the shared defs (printed by gen.py). -/
namespace AL
open PySem
def b_ratio_r1 : ATS := (seqT (ifS (cmpT (opT eqR (varT 1) (cT (.int 1))))
    (retT (tupT (consT (varT 0) (consT (cT (.int 1)) nilT))))
    nextT)
    (seqT (asgT (cbT gcdR (consT (varT 0) (consT (varT 1) nilT))) (gNameT 2))
    (seqT (ifS (cmpT (opT eqR (varT 2) (cT (.int 1))))
    (retT (tupT (consT (varT 0) (consT (varT 1) nilT))))
    nextT)
    (retT (tupT (consT (opT fdivR (varT 0) (varT 2)) (consT (opT fdivR (varT 1) (varT 2)) nilT)))))))
def b_ratio : ATS := (seqT (ifS (cmpT (opT ltR (varT 1) (cT (.int 0))))
    (seqT (asgT (unT negR (varT 0)) (gNameT 0))
    (asgT (unT negR (varT 1)) (gNameT 1)))
    nextT)
    b_ratio_r1)
def b_whole_number : ATS := (retT (andV (cbT instR (consT (varT 0) (consT (cT (.ty "int")) nilT))) (notV (cbT instR (consT (varT 0) (consT (cT (.ty "bool")) nilT))))))
def b_is_ratio : ATS := (seqT (ifS (orT (notT (truT (cbT instR (consT (varT 0) (consT (cT (.ty "tuple")) nilT))))) (cmpT (opT neR (cbT lenR (consT (varT 0) nilT)) (cT (.int 2)))))
    (retT (cT (.bl false)))
    nextT)
    (seqT (asgT (varT 0) (gTupT 2 (gConsT (gNameT 1) (gConsT (gNameT 2) gNilT))))
    (seqT (ifS (orT (notT (truT (callT sp_whole_number (fun _ _ => False) (consT (varT 1) nilT)))) (notT (truT (callT sp_whole_number (fun _ _ => False) (consT (varT 2) nilT)))))
    (retT (cT (.bl false)))
    nextT)
    (retT (andV (opT geR (varT 2) (cT (.int 1))) (opT eqR (cbT gcdR (consT (varT 1) (consT (varT 2) nilT))) (cT (.int 1))))))))
def b_plus : ATS := (seqT (ifS (andT (cmpT (opT eqR (opT ixR (varT 0) (cT (.int 1))) (cT (.int 1)))) (cmpT (opT eqR (opT ixR (varT 1) (cT (.int 1))) (cT (.int 1)))))
    (retT (tupT (consT (opT addR (opT ixR (varT 0) (cT (.int 0))) (opT ixR (varT 1) (cT (.int 0)))) (consT (cT (.int 1)) nilT))))
    nextT)
    (retT (callT sp_ratio (fun _ _ => False) (consT (opT addR (opT mulR (opT ixR (varT 0) (cT (.int 0))) (opT ixR (varT 1) (cT (.int 1)))) (opT mulR (opT ixR (varT 1) (cT (.int 0))) (opT ixR (varT 0) (cT (.int 1))))) (consT (opT mulR (opT ixR (varT 0) (cT (.int 1))) (opT ixR (varT 1) (cT (.int 1)))) nilT)))))
def b_minus : ATS := (seqT (ifS (andT (cmpT (opT eqR (opT ixR (varT 0) (cT (.int 1))) (cT (.int 1)))) (cmpT (opT eqR (opT ixR (varT 1) (cT (.int 1))) (cT (.int 1)))))
    (retT (tupT (consT (opT subR (opT ixR (varT 0) (cT (.int 0))) (opT ixR (varT 1) (cT (.int 0)))) (consT (cT (.int 1)) nilT))))
    nextT)
    (retT (callT sp_ratio (fun _ _ => False) (consT (opT subR (opT mulR (opT ixR (varT 0) (cT (.int 0))) (opT ixR (varT 1) (cT (.int 1)))) (opT mulR (opT ixR (varT 1) (cT (.int 0))) (opT ixR (varT 0) (cT (.int 1))))) (consT (opT mulR (opT ixR (varT 0) (cT (.int 1))) (opT ixR (varT 1) (cT (.int 1)))) nilT)))))
def b_times : ATS := (seqT (ifS (andT (cmpT (opT eqR (opT ixR (varT 0) (cT (.int 1))) (cT (.int 1)))) (cmpT (opT eqR (opT ixR (varT 1) (cT (.int 1))) (cT (.int 1)))))
    (retT (tupT (consT (opT mulR (opT ixR (varT 0) (cT (.int 0))) (opT ixR (varT 1) (cT (.int 0)))) (consT (cT (.int 1)) nilT))))
    nextT)
    (retT (callT sp_ratio (fun _ _ => False) (consT (opT mulR (opT ixR (varT 0) (cT (.int 0))) (opT ixR (varT 1) (cT (.int 0)))) (consT (opT mulR (opT ixR (varT 0) (cT (.int 1))) (opT ixR (varT 1) (cT (.int 1)))) nilT)))))
def b_over : ATS := (retT (callT sp_ratio (fun _ _ => False) (consT (opT mulR (opT ixR (varT 0) (cT (.int 0))) (opT ixR (varT 1) (cT (.int 1)))) (consT (opT mulR (opT ixR (varT 0) (cT (.int 1))) (opT ixR (varT 1) (cT (.int 0)))) nilT))))
def b_opposite : ATS := (retT (tupT (consT (unT negR (opT ixR (varT 0) (cT (.int 0)))) (consT (opT ixR (varT 0) (cT (.int 1))) nilT))))
def b_less : ATS := (retT (opT ltR (opT mulR (opT ixR (varT 0) (cT (.int 0))) (opT ixR (varT 1) (cT (.int 1)))) (opT mulR (opT ixR (varT 1) (cT (.int 0))) (opT ixR (varT 0) (cT (.int 1))))))
def b_at_most : ATS := (retT (opT leR (opT mulR (opT ixR (varT 0) (cT (.int 0))) (opT ixR (varT 1) (cT (.int 1)))) (opT mulR (opT ixR (varT 1) (cT (.int 0))) (opT ixR (varT 0) (cT (.int 1))))))
def b_sign_of : ATS := (seqT (ifS (cmpT (opT ltR (opT ixR (varT 0) (cT (.int 0))) (cT (.int 0))))
    (retT (unT negR (cT (.int 1))))
    nextT)
    (seqT (ifS (cmpT (opT gtR (opT ixR (varT 0) (cT (.int 0))) (cT (.int 0))))
    (retT (cT (.int 1)))
    nextT)
    (retT (cT (.int 0)))))
def b_floor_of : ATS := (retT (opT fdivR (opT ixR (varT 0) (cT (.int 0))) (opT ixR (varT 0) (cT (.int 1)))))
def b_ceiling_of : ATS := (retT (unT negR (opT fdivR (unT negR (opT ixR (varT 0) (cT (.int 0)))) (opT ixR (varT 0) (cT (.int 1))))))
def b_between : ATS := (retT (callT sp_ratio (fun _ _ => False) (consT (opT addR (opT mulR (opT ixR (varT 0) (cT (.int 0))) (opT ixR (varT 1) (cT (.int 1)))) (opT mulR (opT ixR (varT 1) (cT (.int 0))) (opT ixR (varT 0) (cT (.int 1))))) (consT (opT mulR (opT mulR (cT (.int 2)) (opT ixR (varT 0) (cT (.int 1)))) (opT ixR (varT 1) (cT (.int 1)))) nilT))))
def b_law_begin : ATS := (retT (lstT (consT (lcT (iSeqT (varT 0)) (gNameT 1) yesT (cbT intR (consT (varT 1) nilT)) [1]) (consT (cT (.int 0)) (consT (cT (.int 0)) (consT (cT (.int 7)) (consT (cT (.int 3)) nilT)))))))
def b_law_draw_r1 : ATS := (seqT (augST (varT 0) (cT (.int 1)) (cT (.int 1)) iaddR)
    (seqT (ifS (cmpT (opT geR (varT 3) (opT mulR (cT (.int 2)) (opT powR (cT (.int 10)) (cT (.int 18))))))
    (seqT (asgT (opT modR (cbT intR (consT (opT fdivR (varT 3) (cT (.int 2))) nilT)) (opT shlR (cT (.int 1)) (cT (.int 6000)))) (gNameT 2))
    (seqT (asgT (opT fdivR (varT 2) (varT 1)) (gSubT (varT 0) (cT (.int 2))))
    (retT (opT modR (cbT intR (consT (varT 2) nilT)) (varT 1)))))
    nextT)
    (seqT (asgT (opT modR (cbT intR (consT (opT addR (opT addR (opT addR (opT mulR (opT ixR (varT 0) (cT (.int 3))) (cT (.int 48271))) (opT mulR (opT modR (cbT intR (consT (varT 3) nilT)) (cT (.int 2147483629))) (cT (.int 16807)))) (opT mulR (opT ixR (varT 0) (cT (.int 1))) (cT (.int 69621)))) (cT (.int 11))) nilT)) (cT (.int 2147483647))) (gSubT (varT 0) (cT (.int 3))))
    (retT (opT modR (cbT intR (consT (opT fdivR (opT ixR (varT 0) (cT (.int 3))) (cT (.int 16))) nilT)) (varT 1))))))
def b_law_draw : ATS := (seqT (ifS (cmpT (opT gtR (opT ixR (varT 0) (cT (.int 2))) (cT (.int 0))))
    (seqT (asgT (opT ixR (varT 0) (cT (.int 2))) (gNameT 2))
    (seqT (asgT (opT fdivR (varT 2) (varT 1)) (gSubT (varT 0) (cT (.int 2))))
    (retT (opT modR (cbT intR (consT (varT 2) nilT)) (varT 1)))))
    nextT)
    (seqT (asgT (cT (.int 0)) (gNameT 3))
    (seqT (ifS (cmpT (opT ltR (opT ixR (varT 0) (cT (.int 1))) (cbT lenR (consT (opT ixR (varT 0) (cT (.int 0))) nilT))))
    (seqT (asgT (opT ixR (opT ixR (varT 0) (cT (.int 0))) (opT ixR (varT 0) (cT (.int 1)))) (gNameT 4))
    (asgT (opT addR (opT mulR (cT (.int 2)) (cbT absR (consT (varT 4) nilT))) (cbT intR (consT (opT ltR (varT 4) (cT (.int 0))) nilT))) (gNameT 3)))
    nextT)
    b_law_draw_r1)))
def b_law_pick : ATS := (retT (opT ixR (varT 1) (callT sp_law_draw (fun _ _ => False) (consT (varT 0) (consT (cbT lenR (consT (varT 1) nilT)) nilT)))))
def b_law_rare : ATS := (retT (opT eqR (callT sp_law_draw (fun _ _ => False) (consT (varT 0) (consT (varT 1) nilT))) (opT fdivR (varT 1) (cT (.int 2)))))
def b_law_gcd_l1 : ATS := (seqT (ifS (cmpT (opT eqR (varT 1) (cT (.int 0))))
    brkT
    nextT)
    (parT 0 1 (consT (varT 1) (consT (opT modR (cbT intR (consT (varT 0) nilT)) (varT 1)) nilT))))
def b_law_gcd : ATS := (seqT (asgT (cbT absR (consT (varT 0) nilT)) (gNameT 0))
    (seqT (asgT (cbT absR (consT (varT 1) nilT)) (gNameT 1))
    (seqT (forT (iRng1T (consT (cT (.int 100000)) nilT)) (gNameT 2)
    b_law_gcd_l1)
    (retT (varT 0)))))
def b_law_r_r1 : ATS := (seqT (asgT (callT sp_law_gcd (fun _ _ => False) (consT (varT 0) (consT (varT 1) nilT))) (gNameT 2))
    (retT (tupT (consT (opT fdivR (varT 0) (varT 2)) (consT (opT fdivR (varT 1) (varT 2)) nilT)))))
def b_law_r : ATS := (seqT (ifS (cmpT (opT ltR (varT 1) (cT (.int 0))))
    (seqT (asgT (unT negR (varT 0)) (gNameT 0))
    (asgT (unT negR (varT 1)) (gNameT 1)))
    nextT)
    b_law_r_r1)
def b_law_add : ATS := (retT (callT sp_law_r (fun _ _ => False) (consT (opT addR (opT mulR (opT ixR (varT 0) (cT (.int 0))) (opT ixR (varT 1) (cT (.int 1)))) (opT mulR (opT ixR (varT 1) (cT (.int 0))) (opT ixR (varT 0) (cT (.int 1))))) (consT (opT mulR (opT ixR (varT 0) (cT (.int 1))) (opT ixR (varT 1) (cT (.int 1)))) nilT))))
def b_law_sub : ATS := (retT (callT sp_law_r (fun _ _ => False) (consT (opT subR (opT mulR (opT ixR (varT 0) (cT (.int 0))) (opT ixR (varT 1) (cT (.int 1)))) (opT mulR (opT ixR (varT 1) (cT (.int 0))) (opT ixR (varT 0) (cT (.int 1))))) (consT (opT mulR (opT ixR (varT 0) (cT (.int 1))) (opT ixR (varT 1) (cT (.int 1)))) nilT))))
def b_law_mul : ATS := (retT (callT sp_law_r (fun _ _ => False) (consT (opT mulR (opT ixR (varT 0) (cT (.int 0))) (opT ixR (varT 1) (cT (.int 0)))) (consT (opT mulR (opT ixR (varT 0) (cT (.int 1))) (opT ixR (varT 1) (cT (.int 1)))) nilT))))
def b_law_div : ATS := (retT (callT sp_law_r (fun _ _ => False) (consT (opT mulR (opT ixR (varT 0) (cT (.int 0))) (opT ixR (varT 1) (cT (.int 1)))) (consT (opT mulR (opT ixR (varT 0) (cT (.int 1))) (opT ixR (varT 1) (cT (.int 0)))) nilT))))
def b_law_is_int : ATS := (retT (andV (cbT instR (consT (varT 0) (consT (cT (.ty "int")) nilT))) (notV (cbT instR (consT (varT 0) (consT (cT (.ty "bool")) nilT))))))
def b_law_is_r : ATS := (seqT (ifS (orT (notT (truT (cbT instR (consT (varT 0) (consT (cT (.ty "tuple")) nilT))))) (cmpT (opT neR (cbT lenR (consT (varT 0) nilT)) (cT (.int 2)))))
    (retT (cT (.bl false)))
    nextT)
    (seqT (ifS (orT (notT (truT (callT sp_law_is_int (fun _ _ => False) (consT (opT ixR (varT 0) (cT (.int 0))) nilT)))) (orT (notT (truT (callT sp_law_is_int (fun _ _ => False) (consT (opT ixR (varT 0) (cT (.int 1))) nilT)))) (cmpT (opT ltR (opT ixR (varT 0) (cT (.int 1))) (cT (.int 1))))))
    (retT (cT (.bl false)))
    nextT)
    (retT (opT eqR (callT sp_law_gcd (fun _ _ => False) (consT (opT ixR (varT 0) (cT (.int 0))) (consT (opT ixR (varT 0) (cT (.int 1))) nilT))) (cT (.int 1))))))
end AL

/-! RM: ratios and their sizes. -/
namespace AL
open PySem
theorem isz_pos (i : Int) : 1 ≤ isz i := Nat.le_add_left _ _
theorem isz_lt {i : Int} {n : Nat} (h : isz i ≤ n) : i.natAbs < 2 ^ n := Nat.lt_of_lt_of_le Nat.lt_log2_self (Nat.pow_le_pow_right (by decide) h)
theorem isz_le {i : Int} {n : Nat} (hn : 1 ≤ n) (h : i.natAbs < 2 ^ n) : isz i ≤ n := by
  unfold isz
  by_cases h0 : i.natAbs = 0
  · rw [h0]
    exact hn
  · have := (Nat.log2_lt h0).mpr h
    omega
theorem isz_mono {i j : Int} (h : i.natAbs ≤ j.natAbs) : isz i ≤ isz j := isz_le (isz_pos j) (Nat.lt_of_le_of_lt h (isz_lt (Nat.le_refl _)))
theorem isz_neg (i : Int) : isz (-i) = isz i := by
  unfold isz
  rw [Int.natAbs_neg]
theorem isz_mul (i j : Int) : isz (i * j) ≤ isz i + isz j := by
  refine isz_le (by have := isz_pos i; omega) ?_
  rw [Int.natAbs_mul, Nat.pow_add]
  exact Nat.mul_lt_mul'' (isz_lt (Nat.le_refl _)) (isz_lt (Nat.le_refl _))
theorem isz_add {i j : Int} {n : Nat} (hi : isz i ≤ n) (hj : isz j ≤ n) : isz (i + j) ≤ n + 1 := by
  refine isz_le (by omega) ?_
  have h1 := isz_lt hi
  have h2 := isz_lt hj
  rw [Nat.pow_succ]
  omega
theorem isz_sub {i j : Int} {n : Nat} (hi : isz i ≤ n) (hj : isz j ≤ n) : isz (i - j) ≤ n + 1 := by
  rw [Int.sub_eq_add_neg]
  exact isz_add hi (by rw [isz_neg]; exact hj)
theorem natAbs_div_le (i : Int) (d : Nat) : (i / (d : Int)).natAbs ≤ i.natAbs := by
  rcases Nat.eq_zero_or_pos d with h | h
  · subst h
    simp
  · have h1 : (1 : Int) ≤ d := by omega
    have e := Int.mul_ediv_add_emod i d
    have r0 := Int.emod_nonneg i (show (d : Int) ≠ 0 by omega)
    have r1 := Int.emod_lt_of_pos i (show (0 : Int) < d by omega)
    by_cases hi : 0 ≤ i
    · have q0 := Int.ediv_nonneg hi (show (0 : Int) ≤ d by omega)
      have := Int.ediv_le_self (d : Int) hi
      omega
    · have q0 : i / (d : Int) < 0 := Int.ediv_neg_of_neg_of_pos (by omega) (by omega)
      have q1 : i ≤ i / (d : Int) := by
        rw [Int.le_ediv_iff_mul_le (by omega)]
        have : i * (d : Int) ≤ i * 1 := Int.mul_le_mul_of_nonpos_left (by omega) h1
        omega
      omega
theorem isz_div (i : Int) (d : Nat) : isz (i / (d : Int)) ≤ isz i := isz_mono (natAbs_div_le i d)
theorem sz_num (q : Rat) : isz q.num ≤ sz q := Nat.le_max_left _ _
theorem sz_den (q : Rat) : isz (q.den : Int) ≤ sz q := Nat.le_max_right _ _
theorem sz_pos (q : Rat) : 1 ≤ sz q := Nat.le_trans (isz_pos _) (sz_num q)
theorem den_pos (q : Rat) : (0 : Int) < q.den := by
  have := q.den_nz
  omega
theorem divInt_parts {n d : Int} (h : 0 < d) : (Rat.divInt n d).num = n / ((n.natAbs.gcd d.natAbs : Nat) : Int) ∧ ((Rat.divInt n d).den : Int) = d / ((n.natAbs.gcd d.natAbs : Nat) : Int) := by
  have g : (Int.gcd d n) = n.natAbs.gcd d.natAbs := by
    rw [Int.gcd_comm]
    rfl
  rw [Rat.num_divInt, Rat.den_divInt, g, Int.sign_eq_one_of_pos h, Int.one_mul, if_neg (by omega)]
  refine ⟨rfl, ?_⟩
  rw [Int.natCast_ediv]
  congr 1
  omega
theorem rat_divInt {n d : Int} (h : 0 < d) : rat (Rat.divInt n d) = .tup [.int (n / ((n.natAbs.gcd d.natAbs : Nat) : Int)), .int (d / ((n.natAbs.gcd d.natAbs : Nat) : Int))] := by
  obtain ⟨h1, h2⟩ := divInt_parts (n := n) h
  unfold rat
  rw [h1, h2]
theorem sz_divInt {n d : Int} (h : d ≠ 0) : sz (Rat.divInt n d) ≤ max (isz n) (isz d) := by
  have pos : ∀ {n d : Int}, 0 < d → sz (Rat.divInt n d) ≤ max (isz n) (isz d) := fun {n d} h => by
    obtain ⟨h1, h2⟩ := divInt_parts (n := n) h
    unfold sz
    rw [h1, h2]
    have a := isz_div n (n.natAbs.gcd d.natAbs)
    have b := isz_div d (n.natAbs.gcd d.natAbs)
    omega
  by_cases hd : 0 < d
  · exact pos hd
  · have := pos (n := -n) (d := -d) (by omega)
    rw [Rat.neg_divInt_neg, isz_neg, isz_neg] at this
    exact this
theorem add_eq (a b : Rat) : Rat.divInt (a.num * b.den + b.num * a.den) (a.den * b.den) = a + b := by
  have h := Rat.divInt_add_divInt a.num b.num (d₁ := a.den) (d₂ := b.den) (by have := den_pos a; omega) (by have := den_pos b; omega)
  rw [Rat.num_divInt_den, Rat.num_divInt_den] at h
  exact h.symm
theorem sub_eq (a b : Rat) : Rat.divInt (a.num * b.den - b.num * a.den) (a.den * b.den) = a - b := by
  have h := add_eq a (-b)
  rw [Rat.neg_num, Rat.neg_den, Int.neg_mul, ← Int.sub_eq_add_neg, ← Rat.sub_eq_add_neg] at h
  exact h
theorem mul_eq (a b : Rat) : Rat.divInt (a.num * b.num) (a.den * b.den) = a * b := by
  have h := Rat.divInt_mul_divInt a.num b.num (d₁ := a.den) (d₂ := b.den)
  rw [Rat.num_divInt_den, Rat.num_divInt_den] at h
  exact h.symm
theorem div_eq (a b : Rat) : Rat.divInt (a.num * b.den) (a.den * b.num) = a / b := by
  have h := Rat.divInt_mul_divInt a.num b.den (d₁ := a.den) (d₂ := b.num)
  rw [Rat.num_divInt_den] at h
  rw [Rat.div_def, ← h]
  congr 1
  rw [Rat.divInt_eq_div]
  have e : b = (b.num : Rat) / ((b.den : Int) : Rat) := by
    rw [← Rat.divInt_eq_div, Rat.num_divInt_den]
  conv => rhs; rw [e]
  rw [Rat.div_def, Rat.div_def, Rat.inv_mul_rev, Rat.inv_inv]
theorem sz_add (a b : Rat) : sz (a + b) ≤ sz a + sz b + 1 := by
  rw [← add_eq]
  have hd : (a.den : Int) * b.den ≠ 0 := by
    have := Int.mul_pos (den_pos a) (den_pos b)
    omega
  refine Nat.le_trans (sz_divInt hd) ?_
  have h1 := isz_mul a.num b.den
  have h2 := isz_mul b.num a.den
  have h3 := isz_mul a.den b.den
  have n1 := sz_num a
  have n2 := sz_num b
  have d1 := sz_den a
  have d2 := sz_den b
  have h4 := isz_add (i := a.num * b.den) (j := b.num * a.den) (n := sz a + sz b) (by omega) (by omega)
  omega
theorem sz_neg (a : Rat) : sz (-a) = sz a := by
  unfold sz
  rw [Rat.neg_num, Rat.neg_den, isz_neg]
theorem sz_sub (a b : Rat) : sz (a - b) ≤ sz a + sz b + 1 := by
  rw [Rat.sub_eq_add_neg]
  have := sz_add a (-b)
  rw [sz_neg] at this
  exact this
theorem sz_mul (a b : Rat) : sz (a * b) ≤ sz a + sz b := by
  rw [← mul_eq]
  have hd : (a.den : Int) * b.den ≠ 0 := by
    have := Int.mul_pos (den_pos a) (den_pos b)
    omega
  refine Nat.le_trans (sz_divInt hd) ?_
  have h1 := isz_mul a.num b.num
  have h3 := isz_mul a.den b.den
  have n1 := sz_num a
  have n2 := sz_num b
  have d1 := sz_den a
  have d2 := sz_den b
  omega
theorem num_ne {b : Rat} (h : b ≠ 0) : b.num ≠ 0 := fun z => h (Rat.num_eq_zero.mp z)
theorem sz_div (a b : Rat) (hb : b ≠ 0) : sz (a / b) ≤ sz a + sz b := by
  rw [← div_eq]
  have hd : (a.den : Int) * b.num ≠ 0 := Int.mul_ne_zero (by have := den_pos a; omega) (num_ne hb)
  refine Nat.le_trans (sz_divInt hd) ?_
  have h1 := isz_mul a.num b.den
  have h3 := isz_mul a.den b.num
  have n1 := sz_num a
  have n2 := sz_num b
  have d1 := sz_den a
  have d2 := sz_den b
  omega
theorem mulOk_of {i j : Int} {n : Nat} (h : isz i + isz j ≤ n) (hn : n ≤ 100000) : mulOk i j := by
  right
  unfold isz at h
  omega
theorem divOk_of {d : Int} (h0 : 0 < d) (h : isz d ≤ 9000) : divOk d := ⟨h0, by unfold isz at h; omega⟩
/-- a ratio of a whole number -/
theorem rat_int (n : Int) : rat (n : Rat) = .tup [.int n, .int 1] := rfl
theorem rat_whole {q : Rat} (h : (q.den : Int) = 1) : q = (q.num : Rat) := by
  have h2 : q.den = 1 := by omega
  exact Rat.ext rfl h2
theorem rat_inj {a b : Rat} (h : rat a = rat b) : a = b := by
  unfold rat at h
  simp only [AV.tup.injEq, List.cons.injEq, AV.int.injEq, and_true] at h
  exact Rat.ext h.1 (by omega)
theorem aeq_rat (a b : Rat) : aeq (rat a) (rat b) = decide (a = b) := by
  unfold rat
  simp only [aeq, aeqs, Bool.and_true]
  by_cases h : a = b
  · subst h
    simp
  · rw [decide_eq_false h]
    by_cases h1 : a.num = b.num
    · have h2 : ¬ ((a.den : Int) = (b.den : Int)) := fun z => h (Rat.ext h1 (by omega))
      simp [h1, h2]
    · simp [h1]
theorem plain_rat (n : Nat) (a : Rat) : plainN (n + 1) (rat a) = true := by
  cases n <;> rfl
end AL

/-! CP: that the shared defs' bodies keep their contracts. -/
namespace AL
open PySem
local macro_rules | `(tactic| get_elem_tactic_trivial) => `(tactic| simp only [e_tru_non, e_tru_bl, e_tru_int, e_tru_tup, e_tru_rol, e_bl_bl, e_add_int, e_add_ib, e_add_str, e_add_tup, e_sub_int, e_mul_int, e_fdiv_int, e_mod_int, e_pow_int, e_shl_int, e_neg_int, e_iadd_int, e_iadd_str, e_isub_int, e_aeq_int, e_aeq_str, e_aeq_bl, e_aeq_non, e_aeq_tup, e_aeqs_nil, e_aeqs_cons, e_aeqs_nc, e_aeqs_cn, e_plain_int, e_plain_bl, e_plain_non, e_plain_str, e_plain_tup, e_eq, e_ne, e_lt_int, e_lt_str, e_le_int, e_gt_int, e_ge_int, e_isN, e_notN, e_isNon_int, e_isNon_str, e_isNon_tup, e_isNon_non, e_isNon_ref, e_isNon_bl, e_ix0, e_ix1, e_ix2, e_ix3, e_ix4, e_len_tup, e_len_rol, e_len_str, e_abs, e_int_int, e_int_bl, e_str_int, e_gcd, e_tuple_tup, e_list_tup, e_inst_ii, e_inst_ib, e_inst_tt, e_inst_it, e_inst_ti, e_inst_tb, e_inst_bb, e_inst_bi, e_inst_bt, e_inst_ss, e_inst_st, e_inst_si, e_inst_nt, e_gTup, e_gCons, e_gNil, e_gNms0, e_gNms1, e_gName, atA_0, atA_1, atA_2, atA_3, atA_4, get_l0, get_l1, get_l2, get_l3, set_l0, set_l1, set_l2, app_l, len_l0, len_l1, len_l2, x_c, x_var, x_op, x_un, x_nil, x_cons, x_tup, x_lst, x_call, x_cb, x_mt, x_tru, x_cmp, x_and, x_or, x_not, x_andV, x_orV, x_notV, x_if, x_chain, x_next, x_seq, x_brk, x_cont, x_drop, x_ret, x_retN, x_ifS, x_asg, x_gSub, x_par, x_aug, x_augS, x_rt, x_nx, x_yes, gv, sv, wipeA, lenLe, true_and, and_true, if_true, if_false, ite_true, ite_false, beq_iff_eq, decide_eq_true_eq, Bool.false_eq_true, not_false_eq_true, Bool.not_eq_true', decide_eq_false_iff_not, Bool.not_true, Bool.not_false, List.isEmpty_cons, List.isEmpty_nil, List.cons_append, List.nil_append, List.length_cons, List.length_nil])
theorem retG_of {h0 h : AH} {R : AK} {x : AV} (q : R x h) : retG h0 R x h := .inl q
theorem gcd_bound {n d : Int} (hd : d ≠ 0) (hs : isz d ≤ 9000) : divOk ((n.natAbs.gcd d.natAbs : Nat) : Int) := by
  have hp : 0 < n.natAbs.gcd d.natAbs := Nat.gcd_pos_of_pos_right _ (by omega)
  refine divOk_of (by omega) (Nat.le_trans (isz_mono ?_) hs)
  rw [Int.natAbs_natCast]
  exact Nat.gcd_le_right _ (by omega)
theorem ratio_pos {n d : Int} {P : AV → Prop} (hd : 0 < d) (hs : isz d ≤ 9000) (q : P (rat (Rat.divInt n d))) :
    if d = 1 then P (.tup [.int n, .int 1]) else
      if ((n.natAbs.gcd d.natAbs : Nat) : Int) = 1 then P (.tup [.int n, .int d]) else
        divOk ((n.natAbs.gcd d.natAbs : Nat) : Int) ∧ divOk ((n.natAbs.gcd d.natAbs : Nat) : Int) ∧ P (.tup [.int (n / ((n.natAbs.gcd d.natAbs : Nat) : Int)), .int (d / ((n.natAbs.gcd d.natAbs : Nat) : Int))]) := by
  rw [rat_divInt hd] at q
  have g := gcd_bound (n := n) (by omega) hs
  by_cases h1 : d = 1
  · rw [if_pos h1]
    subst h1
    have e : n.natAbs.gcd (Int.natAbs 1) = 1 := Nat.gcd_one_right _
    rw [e] at q
    simpa using q
  · rw [if_neg h1]
    by_cases h2 : ((n.natAbs.gcd d.natAbs : Nat) : Int) = 1
    · rw [if_pos h2]
      rw [h2] at q
      simpa using q
    · rw [if_neg h2]
      exact ⟨g, g, q⟩
theorem pure_ratio (x y : AV) (h : AH) (R : AK) (c1 : clH h) (c2 : clBs h.length [x, y] = true) (q : sp_ratio [x, y] h R (fun _ _ => False)) : b_ratio (ends (retG h R)) [some x, some y, none] h := by
  obtain ⟨n, d, rfl, rfl, hd, hs, q⟩ := q
  unfold b_ratio
  get_elem_tactic_trivial
  unfold b_ratio_r1
  get_elem_tactic_trivial
  by_cases h0 : d < 0
  · rw [if_pos h0]
    exact ratio_pos (n := -n) (d := -d) (P := fun v => retG h R v h) (by omega) (by rw [isz_neg]; exact hs) (retG_of (by rw [Rat.neg_divInt_neg]; exact q))
  · rw [if_neg h0]
    exact ratio_pos (P := fun v => retG h R v h) (by omega) hs (retG_of q)
/-- what a body that takes two ratios asks of its products -/
structure Two (a b : Rat) : Prop where
  s : sz a + sz b ≤ 8990
theorem Two.nd {a b : Rat} (t : Two a b) : mulOk a.num b.den := mulOk_of (Nat.le_trans (Nat.add_le_add (sz_num a) (sz_den b)) t.s) (by decide)
theorem Two.dn {a b : Rat} (t : Two a b) : mulOk b.num a.den := mulOk_of (n := 8990) (by have := t.s; have := sz_num b; have := sz_den a; omega) (by decide)
theorem Two.dd {a b : Rat} (t : Two a b) : mulOk a.den b.den := mulOk_of (Nat.le_trans (Nat.add_le_add (sz_den a) (sz_den b)) t.s) (by decide)
theorem Two.nn {a b : Rat} (t : Two a b) : mulOk a.num b.num := mulOk_of (Nat.le_trans (Nat.add_le_add (sz_num a) (sz_num b)) t.s) (by decide)
theorem Two.dn' {a b : Rat} (t : Two a b) : mulOk a.den b.num := mulOk_of (Nat.le_trans (Nat.add_le_add (sz_den a) (sz_num b)) t.s) (by decide)
theorem Two.isz {a b : Rat} (t : Two a b) : isz ((a.den : Int) * b.den) ≤ 9000 := Nat.le_trans (isz_mul _ _) (Nat.le_trans (Nat.add_le_add (sz_den a) (sz_den b)) (Nat.le_trans t.s (by decide)))
theorem dd_ne (a b : Rat) : (a.den : Int) * b.den ≠ 0 := by
  have := Int.mul_pos (den_pos a) (den_pos b)
  omega
theorem whole_add {a b : Rat} (ha : (a.den : Int) = 1) (hb : (b.den : Int) = 1) : rat (a + b) = .tup [.int (a.num + b.num), .int 1] := by
  rw [rat_whole ha, rat_whole hb, ← Rat.intCast_add]
  rfl
theorem whole_sub {a b : Rat} (ha : (a.den : Int) = 1) (hb : (b.den : Int) = 1) : rat (a - b) = .tup [.int (a.num - b.num), .int 1] := by
  rw [rat_whole ha, rat_whole hb, ← Rat.intCast_sub]
  rfl
theorem whole_mul {a b : Rat} (ha : (a.den : Int) = 1) (hb : (b.den : Int) = 1) : rat (a * b) = .tup [.int (a.num * b.num), .int 1] := by
  rw [rat_whole ha, rat_whole hb, ← Rat.intCast_mul]
  rfl
theorem pure_plus (x y : AV) (h : AH) (R : AK) (c1 : clH h) (c2 : clBs h.length [x, y] = true) (q : sp_plus [x, y] h R (fun _ _ => False)) : b_plus (ends (retG h R)) [some x, some y] h := by
  obtain ⟨a, b, rfl, rfl, hs, q⟩ := q
  have t : Two a b := ⟨hs⟩
  have go : sp_ratio [.int (a.num * b.den + b.num * a.den), .int (a.den * b.den)] h (retG h R) (fun _ _ => False) := ⟨_, _, rfl, rfl, dd_ne a b, t.isz, retG_of (by rw [add_eq]; exact q)⟩
  unfold b_plus rat
  get_elem_tactic_trivial
  split
  · split
    · rename_i ha hb
      exact retG_of (by rw [← whole_add ha hb]; exact q)
    · exact ⟨t.nd, t.dn, t.dd, go⟩
  · exact ⟨t.nd, t.dn, t.dd, go⟩
theorem pure_minus (x y : AV) (h : AH) (R : AK) (c1 : clH h) (c2 : clBs h.length [x, y] = true) (q : sp_minus [x, y] h R (fun _ _ => False)) : b_minus (ends (retG h R)) [some x, some y] h := by
  obtain ⟨a, b, rfl, rfl, hs, q⟩ := q
  have t : Two a b := ⟨hs⟩
  have go : sp_ratio [.int (a.num * b.den - b.num * a.den), .int (a.den * b.den)] h (retG h R) (fun _ _ => False) := ⟨_, _, rfl, rfl, dd_ne a b, t.isz, retG_of (by rw [sub_eq]; exact q)⟩
  unfold b_minus rat
  get_elem_tactic_trivial
  split
  · split
    · rename_i ha hb
      exact retG_of (by rw [← whole_sub ha hb]; exact q)
    · exact ⟨t.nd, t.dn, t.dd, go⟩
  · exact ⟨t.nd, t.dn, t.dd, go⟩
theorem pure_times (x y : AV) (h : AH) (R : AK) (c1 : clH h) (c2 : clBs h.length [x, y] = true) (q : sp_times [x, y] h R (fun _ _ => False)) : b_times (ends (retG h R)) [some x, some y] h := by
  obtain ⟨a, b, rfl, rfl, hs, q⟩ := q
  have t : Two a b := ⟨hs⟩
  have go : sp_ratio [.int (a.num * b.num), .int (a.den * b.den)] h (retG h R) (fun _ _ => False) := ⟨_, _, rfl, rfl, dd_ne a b, t.isz, retG_of (by rw [mul_eq]; exact q)⟩
  unfold b_times rat
  get_elem_tactic_trivial
  split
  · split
    · rename_i ha hb
      exact ⟨t.nn, retG_of (by rw [← whole_mul ha hb]; exact q)⟩
    · exact ⟨t.nn, t.dd, go⟩
  · exact ⟨t.nn, t.dd, go⟩
theorem pure_over (x y : AV) (h : AH) (R : AK) (c1 : clH h) (c2 : clBs h.length [x, y] = true) (q : sp_over [x, y] h R (fun _ _ => False)) : b_over (ends (retG h R)) [some x, some y] h := by
  obtain ⟨a, b, rfl, rfl, hb, hs, q⟩ := q
  have t : Two a b := ⟨hs⟩
  unfold b_over rat
  get_elem_tactic_trivial
  refine ⟨t.nd, t.dn', _, _, rfl, rfl, Int.mul_ne_zero (by have := den_pos a; omega) (num_ne hb), ?_, retG_of (by rw [div_eq]; exact q)⟩
  exact Nat.le_trans (isz_mul _ _) (by have := sz_den a; have := sz_num b; omega)
theorem pure_opposite (x : AV) (h : AH) (R : AK) (c1 : clH h) (c2 : clBs h.length [x] = true) (q : sp_opposite [x] h R (fun _ _ => False)) : b_opposite (ends (retG h R)) [some x] h := by
  obtain ⟨a, rfl, hs, q⟩ := q
  unfold b_opposite rat
  get_elem_tactic_trivial
  exact retG_of q
theorem pure_less (x y : AV) (h : AH) (R : AK) (c1 : clH h) (c2 : clBs h.length [x, y] = true) (q : sp_less [x, y] h R (fun _ _ => False)) : b_less (ends (retG h R)) [some x, some y] h := by
  obtain ⟨a, b, rfl, rfl, hs, q⟩ := q
  have t : Two a b := ⟨hs⟩
  unfold b_less rat
  get_elem_tactic_trivial
  refine ⟨t.nd, t.dn, retG_of ?_⟩
  rw [show decide (a.num * (b.den : Int) < b.num * (a.den : Int)) = decide (a < b) from decide_eq_decide.mpr (Rat.lt_iff a b).symm]
  exact q
theorem pure_at_most (x y : AV) (h : AH) (R : AK) (c1 : clH h) (c2 : clBs h.length [x, y] = true) (q : sp_at_most [x, y] h R (fun _ _ => False)) : b_at_most (ends (retG h R)) [some x, some y] h := by
  obtain ⟨a, b, rfl, rfl, hs, q⟩ := q
  have t : Two a b := ⟨hs⟩
  unfold b_at_most rat
  get_elem_tactic_trivial
  refine ⟨t.nd, t.dn, retG_of ?_⟩
  rw [show decide (a.num * (b.den : Int) ≤ b.num * (a.den : Int)) = decide (a ≤ b) from decide_eq_decide.mpr (Rat.le_iff a b).symm]
  exact q
theorem pure_sign_of (x : AV) (h : AH) (R : AK) (c1 : clH h) (c2 : clBs h.length [x] = true) (q : sp_sign_of [x] h R (fun _ _ => False)) : b_sign_of (ends (retG h R)) [some x] h := by
  obtain ⟨a, rfl, hs, q⟩ := q
  have q : R (.int (if a.num < 0 then -1 else if a.num > 0 then 1 else 0)) h := q
  unfold b_sign_of rat
  get_elem_tactic_trivial
  split
  · rename_i h1
    rw [if_pos h1] at q
    exact retG_of q
  · rename_i h1
    rw [if_neg h1] at q
    split
    · rename_i h2
      rw [if_pos h2] at q
      exact retG_of q
    · rename_i h2
      rw [if_neg h2] at q
      exact retG_of q
theorem den_ok {a : Rat} (hs : sz a ≤ 8990) : divOk a.den := divOk_of (den_pos a) (by have := sz_den a; omega)
theorem pure_floor_of (x : AV) (h : AH) (R : AK) (c1 : clH h) (c2 : clBs h.length [x] = true) (q : sp_floor_of [x] h R (fun _ _ => False)) : b_floor_of (ends (retG h R)) [some x] h := by
  obtain ⟨a, rfl, hs, q⟩ := q
  unfold b_floor_of rat
  get_elem_tactic_trivial
  exact ⟨den_ok hs, retG_of q⟩
theorem pure_ceiling_of (x : AV) (h : AH) (R : AK) (c1 : clH h) (c2 : clBs h.length [x] = true) (q : sp_ceiling_of [x] h R (fun _ _ => False)) : b_ceiling_of (ends (retG h R)) [some x] h := by
  obtain ⟨a, rfl, hs, q⟩ := q
  unfold b_ceiling_of rat
  get_elem_tactic_trivial
  exact ⟨den_ok hs, retG_of q⟩
theorem half_eq (a b : Rat) : Rat.divInt (a.num * b.den + b.num * a.den) (2 * a.den * b.den) = (a + b) / 2 := by
  rw [← add_eq a b, Rat.divInt_eq_div, Rat.divInt_eq_div, Rat.div_def, Rat.div_def, Rat.div_def, Rat.mul_assoc, ← Rat.inv_mul_rev]
  congr 2
  rw [Int.mul_assoc, Rat.intCast_mul]
  rfl
theorem pure_between (x y : AV) (h : AH) (R : AK) (c1 : clH h) (c2 : clBs h.length [x, y] = true) (q : sp_between [x, y] h R (fun _ _ => False)) : b_between (ends (retG h R)) [some x, some y] h := by
  obtain ⟨a, b, rfl, rfl, hs, q⟩ := q
  have t : Two a b := ⟨hs⟩
  unfold b_between rat
  get_elem_tactic_trivial
  have i2 : isz (2 * (a.den : Int)) ≤ 2 + isz (a.den : Int) := isz_mul 2 _
  have i3 : isz (2 * (a.den : Int) * b.den) ≤ isz (2 * (a.den : Int)) + isz (b.den : Int) := isz_mul _ _
  have d1 := sz_den a
  have d2 := sz_den b
  refine ⟨t.nd, t.dn, .inl (.inl ⟨by decide, by decide⟩), mulOk_of (n := 9000) (by omega) (by decide), _, _, rfl, rfl, ?_, by omega, retG_of (by rw [half_eq]; exact q)⟩
  rw [Int.mul_assoc]
  exact Int.mul_ne_zero (by decide) (dd_ne a b)
/-! ### kinds -/
theorem kind_int (x : AV) (h : AH) (hx : seen h x) (R : AK) (q : R (.bl (isI x)) h) :
    instR [x, .ty "int"] h (fun v h1 => blR v h1 fun c h2 => if c = true then instR [x, .ty "bool"] h2 (fun v h3 => blR v h3 fun c h4 => R (.bl (!c)) h4) else R (.bl false) h2) := by
  cases x with
  | ref n =>
    have e : h[n]? = some h[n] := List.getElem?_eq_getElem hx
    simp only [instR, tyName, e]
    cases h[n] <;> exact q
  | ty n => exact hx.elim
  | _ => exact q
theorem pure_whole_number (x : AV) (h : AH) (R : AK) (c1 : clH h) (c2 : clBs h.length [x] = true) (q : sp_whole_number [x] h R (fun _ _ => False)) : b_whole_number (ends (retG h R)) [some x] h := by
  obtain ⟨hx, q⟩ := q
  unfold b_whole_number
  get_elem_tactic_trivial
  exact kind_int x h hx _ (retG_of q)
end AL

/-! CQ: draws, greatest common divisors, ratios by the laws' own way. -/
namespace AL
open PySem
local macro_rules | `(tactic| get_elem_tactic_trivial) => `(tactic| simp only [e_tru_non, e_tru_bl, e_tru_int, e_tru_tup, e_tru_rol, e_bl_bl, e_add_int, e_add_ib, e_add_str, e_add_tup, e_sub_int, e_mul_int, e_fdiv_int, e_mod_int, e_pow_int, e_shl_int, e_neg_int, e_iadd_int, e_iadd_str, e_isub_int, e_aeq_int, e_aeq_str, e_aeq_bl, e_aeq_non, e_aeq_tup, e_aeqs_nil, e_aeqs_cons, e_aeqs_nc, e_aeqs_cn, e_plain_int, e_plain_bl, e_plain_non, e_plain_str, e_plain_tup, e_eq, e_ne, e_lt_int, e_lt_str, e_le_int, e_gt_int, e_ge_int, e_isN, e_notN, e_isNon_int, e_isNon_str, e_isNon_tup, e_isNon_non, e_isNon_ref, e_isNon_bl, e_ix0, e_ix1, e_ix2, e_ix3, e_ix4, e_len_tup, e_len_rol, e_len_str, e_abs, e_int_int, e_int_bl, e_str_int, e_gcd, e_tuple_tup, e_list_tup, e_inst_ii, e_inst_ib, e_inst_tt, e_inst_it, e_inst_ti, e_inst_tb, e_inst_bb, e_inst_bi, e_inst_bt, e_inst_ss, e_inst_st, e_inst_si, e_inst_nt, e_gTup, e_gCons, e_gNil, e_gNms0, e_gNms1, e_gName, atA_0, atA_1, atA_2, atA_3, atA_4, get_l0, get_l1, get_l2, get_l3, set_l0, set_l1, set_l2, app_l, len_l0, len_l1, len_l2, x_c, x_var, x_op, x_un, x_nil, x_cons, x_tup, x_lst, x_call, x_cb, x_mt, x_tru, x_cmp, x_and, x_or, x_not, x_andV, x_orV, x_notV, x_if, x_chain, x_next, x_seq, x_brk, x_cont, x_drop, x_ret, x_retN, x_ifS, x_asg, x_gSub, x_par, x_aug, x_augS, x_rt, x_nx, x_yes, gv, sv, wipeA, lenLe, true_and, and_true, if_true, if_false, ite_true, ite_false, beq_iff_eq, decide_eq_true_eq, Bool.false_eq_true, not_false_eq_true, Bool.not_eq_true', decide_eq_false_iff_not, Bool.not_true, Bool.not_false, List.isEmpty_cons, List.isEmpty_nil, List.cons_append, List.nil_append, List.length_cons, List.length_nil])
/-- a comprehension whose items are taken as they are, one for one, the heap left -/
theorem lcT_map {it : ATI} {guard : AH → Prop} {g : ATG} {te : ATE} {vs : List Nat} {a : ASt} {items ys : List AV} {h0 h1 : AH} {R : AK} (hi : ∀ K, K items guard h1 → it a h0 K) (hl : items.length = ys.length) (hz : items.length ≤ 1000000)
    (hg : ∀ acc, guard (h1 ++ [.lst acc])) (hs : ∀ (i : Nat) x y acc (Q : AK), items[i]? = some x → ys[i]? = some y → Q y (h1 ++ [.lst acc]) → g x (wipeA a vs) (h1 ++ [.lst acc]) fun a2 h3 => te a2 h3 Q)
    (q : R (.ref h1.length) (h1 ++ [.lst ys])) : lcT it g yesT te vs a h0 R := by
  refine hi _ ⟨fun i acc h => acc = ys.take i ∧ h = h1 ++ [.lst acc], ⟨rfl, rfl⟩, fun i x acc h hx ⟨e1, e2⟩ => ?_, fun acc h ⟨e1, e2⟩ => ?_⟩
  · have hi : i < items.length := (List.getElem?_eq_some_iff.mp hx).1
    have hy : ys[i]? = some ys[i] := List.getElem?_eq_getElem (by omega)
    subst e2
    refine ⟨hg acc, ?_⟩
    have hlen : acc.length < 16777216 := by
      rw [e1, List.length_take]
      omega
    refine hs i x ys[i] acc _ hx hy ?_
    refine ⟨get_l0, hlen, ?_, ?_⟩
    · rw [e1, List.take_add_one, hy]
      rfl
    · rw [set_l0]
  · have e3 : acc = ys := by
      rw [e1, hl, List.take_length]
    subst e3
    subst e2
    exact ⟨hg _, get_l0, q⟩
theorem map_get {α β : Type} {f : α → β} {xs : List α} {i : Nat} {y : β} (h : (xs.map f)[i]? = some y) : ∃ x, xs[i]? = some x ∧ y = f x := by
  rw [List.getElem?_map] at h
  cases e : xs[i]? with
  | none =>
    rw [e] at h
    cases h
  | some x =>
    rw [e] at h
    cases h
    exact ⟨x, rfl, rfl⟩
theorem pure_law_begin (x : AV) (h : AH) (R : AK) (c1 : clH h) (c2 : clBs h.length [x] = true) (q : sp_law_begin [x] h R (fun _ _ => False)) : b_law_begin (ends (retG h R)) [some x, none] h := by
  obtain ⟨ns, rfl, hl, q⟩ := q
  unfold b_law_begin
  get_elem_tactic_trivial
  refine lcT_map (h1 := h) (items := ns.map AV.int) (ys := ns.map AV.int) (guard := fun _ => True) (fun K k => k) rfl (by rw [List.length_map]; omega) (fun _ => trivial) (fun i x y acc Q hx hy q => ?_) ?_
  · rw [hx] at hy
    cases hy
    obtain ⟨z, _, rfl⟩ := map_get hx
    exact q
  · refine .inl ?_
    rw [List.length_append, List.append_assoc]
    exact q
/-! ### a draw -/
theorem draw_set {h : AH} {n k : Nat} {ns : List Int} {at_ at2 : Nat} {rest seed rest2 seed2 : Int} (h1 : h[n]? = some (.lst [.ref k, .int (at_ : Int), .int rest, .int seed, .int 3])) (h2 : h[k]? = some (.lst (ns.map AV.int))) (hk : k < n) :
    Drawn h n (h.set n (.lst [.ref k, .int (at2 : Int), .int rest2, .int seed2, .int 3])) := by
  have hn : n < h.length := (List.getElem?_eq_some_iff.mp h1).1
  refine ⟨List.length_set .., fun i hi => List.getElem?_set_ne (Ne.symm hi), k, ns, at2, rest2, seed2, ?_, ?_, hk⟩
  · rw [List.getElem?_set_self hn]
  · rw [List.getElem?_set_ne (by omega)]
    exact h2
theorem isz_of {i : Int} {n : Nat} (hn : 1 ≤ n) (h0 : 0 ≤ i) (h : i < 2 ^ n) : isz i ≤ n := isz_le hn (by
  have : ((i.natAbs : Nat) : Int) < ((2 ^ n : Nat) : Int) := by
    rw [Int.natCast_pow]
    show ((i.natAbs : Nat) : Int) < (2 : Int) ^ n
    omega
  exact_mod_cast this)
theorem mod_draw {x many : Int} (h : 0 < many) : 0 ≤ x % many ∧ x % many < many := ⟨Int.emod_nonneg _ (by omega), Int.emod_lt_of_pos _ h⟩
theorem small_lit {n : Int} (h : -(2 ^ 64) < n ∧ n < 2 ^ 64) (x : Int) : mulOk n x := .inl (.inl h)
theorem small_lit' {n : Int} (h : -(2 ^ 64) < n ∧ n < 2 ^ 64) (x : Int) : mulOk x n := .inl (.inr h)
theorem div_lit {n : Int} (h0 : 0 < n) (h : n < 2 ^ 64) : divOk n := divOk_of h0 (Nat.le_trans (isz_of (n := 64) (by decide) (by omega) h) (by decide))
theorem atA_ints {ns : List Int} {i : Nat} {x : Int} (h : ns[i]? = some x) : atA (ns.map AV.int) (i : Int) = some (.int x) := by
  show (ns.map AV.int)[i]? = _
  rw [List.getElem?_map, h]
  rfl
/-- the drawing list changed -/
theorem set_at {h : AH} {n : Nat} {x y : AO} (e : h[n]? = some x) : (h.set n y)[n]? = some y := List.getElem?_set_self (List.getElem?_eq_some_iff.mp e).1
section
variable {n : Nat} {h1 : AH} {a b c d f v : AV} {Q : AK} {S : AH → Prop}
theorem d_ix (e : h1[n]? = some (.lst [a, b, c, d, f])) : ixR (.ref n) (.int 0) h1 Q = Q a h1 ∧ ixR (.ref n) (.int 1) h1 Q = Q b h1 ∧ ixR (.ref n) (.int 2) h1 Q = Q c h1 ∧ ixR (.ref n) (.int 3) h1 Q = Q d h1 :=
  ⟨e_ix_lst e rfl, e_ix_lst e rfl, e_ix_lst e rfl, e_ix_lst e rfl⟩
theorem d_st1 (e : h1[n]? = some (.lst [a, b, c, d, f])) : setR (.ref n) (.int 1) v h1 S = S (h1.set n (.lst [a, v, c, d, f])) := by
  rw [show (1 : Int) = ((1 : Nat) : Int) from rfl, e_set_lst e]
  simp
theorem d_st2 (e : h1[n]? = some (.lst [a, b, c, d, f])) : setR (.ref n) (.int 2) v h1 S = S (h1.set n (.lst [a, b, v, d, f])) := by
  rw [show (2 : Int) = ((2 : Nat) : Int) from rfl, e_set_lst e]
  simp
theorem d_st3 (e : h1[n]? = some (.lst [a, b, c, d, f])) : setR (.ref n) (.int 3) v h1 S = S (h1.set n (.lst [a, b, c, v, f])) := by
  rw [show (3 : Int) = ((3 : Nat) : Int) from rfl, e_set_lst e]
  simp
end
theorem lit64 : small64 2 ∧ small64 48271 ∧ small64 16807 ∧ small64 69621 := ⟨⟨by decide, by decide⟩, ⟨by decide, by decide⟩, ⟨by decide, by decide⟩, ⟨by decide, by decide⟩⟩
theorem draw_tail {n k at_ : Nat} {ns : List Int} {rest seed many size : Int} {h : AH} {R : AK} {w : Option AV} (hm : 0 < many) (dm : divOk many) (e1 : h[n]? = some (.lst [.ref k, .int (at_ : Int), .int rest, .int seed, .int 3])) (e2 : h[k]? = some (.lst (ns.map AV.int))) (hk : k < n)
    (q : ∀ (r : Int) (h' : AH), 0 ≤ r → r < many → Drawn h n h' → R (AV.int r) h') : b_law_draw_r1 (ends (retG h R)) [some (.ref n), some (.int many), none, some (.int size), w] h := by
  have md : ∀ z : Int, 0 ≤ z % many ∧ z % many < many := fun z => mod_draw hm
  obtain ⟨l1, l2, l3, l4⟩ := lit64
  unfold b_law_draw_r1
  get_elem_tactic_trivial
  rw [(d_ix e1).2.1]
  get_elem_tactic_trivial
  rw [d_st1 e1]
  have f1 := set_at (y := .lst [.ref k, .int ((at_ : Int) + 1), .int rest, .int seed, .int 3]) e1
  refine ⟨by decide, .inl (.inl l1), ?_⟩
  have dr : ∀ (r2 s2 : Int), Drawn h n (h.set n (.lst [.ref k, .int ((at_ : Int) + 1), .int r2, .int s2, .int 3])) := fun r2 s2 => by
    have := draw_set (at2 := at_ + 1) (rest2 := r2) (seed2 := s2) e1 e2 hk
    rwa [Int.natCast_add] at this
  by_cases hb : 2 * 10 ^ Int.toNat 18 ≤ size
  · rw [if_pos hb, d_st2 f1, List.set_set]
    refine ⟨div_lit (by decide) (by decide), by decide, ?_, dm, hm, retG_of (q _ _ (md _).1 (md _).2 (dr _ _))⟩
    rw [Int.one_mul]
    exact Int.pow_pos (by decide)
  · rw [if_neg hb, (d_ix f1).2.2.2]
    get_elem_tactic_trivial
    refine ⟨.inl (.inr l2), by decide, .inl (.inr l3), ?_⟩
    rw [(d_ix f1).2.1]
    get_elem_tactic_trivial
    refine ⟨.inl (.inr l4), by decide, ?_⟩
    rw [d_st3 f1, List.set_set]
    have f2 := set_at (y := .lst [.ref k, .int ((at_ : Int) + 1), .int rest, .int ((seed * 48271 + size % 2147483629 * 16807 + ((at_ : Int) + 1) * 69621 + 11) % 2147483647), .int 3]) e1
    rw [(d_ix f2).2.2.2]
    get_elem_tactic_trivial
    exact ⟨div_lit (by decide) (by decide), hm, retG_of (q _ _ (md _).1 (md _).2 (dr _ _))⟩
theorem pure_law_draw (x y : AV) (h : AH) (R : AK) (c1 : clH h) (c2 : clBs h.length [x, y] = true) (q : sp_law_draw [x, y] h R (fun _ _ => False)) : b_law_draw (ends (retG h R)) [some x, some y, none, none, none] h := by
  obtain ⟨n, many, rfl, rfl, hm, hs, ⟨k, ns, at_, rest, seed, e1, e2, hk⟩, q⟩ := q
  have dm := divOk_of hm hs
  have md : ∀ z : Int, 0 ≤ z % many ∧ z % many < many := fun z => mod_draw hm
  unfold b_law_draw
  get_elem_tactic_trivial
  rw [(d_ix e1).2.2.1]
  get_elem_tactic_trivial
  by_cases h0 : 0 < rest
  · rw [if_pos h0, (d_ix e1).2.2.1]
    get_elem_tactic_trivial
    rw [d_st2 e1]
    exact ⟨dm, hm, retG_of (q _ _ (md _).1 (md _).2 (draw_set e1 e2 hk))⟩
  · rw [if_neg h0, (d_ix e1).2.1, (d_ix e1).1, e_len_lst e2]
    get_elem_tactic_trivial
    by_cases hlt : (at_ : Int) < ((ns.map AV.int).length : Int)
    · rw [if_pos hlt, (d_ix e1).1, (d_ix e1).2.1]
      have hn : at_ < ns.length := by
        rw [List.length_map] at hlt
        omega
      rw [e_ix_lst e2 (atA_ints (List.getElem?_eq_getElem hn))]
      get_elem_tactic_trivial
      exact ⟨.inl (.inl lit64.1), draw_tail hm dm e1 e2 hk q⟩
    · rw [if_neg hlt]
      exact draw_tail hm dm e1 e2 hk q
/-- what a draw leaves as it was -/
theorem Drawn.seq {h h' : AH} {n : Nat} {y : AV} {xs : List AV} (d : Drawn h n h') (hy : y ≠ .ref n) (e : seqOf y h = some xs) : seqOf y h' = some xs := by
  cases y with
  | ref m =>
    have hm : m ≠ n := fun z => hy (by rw [z])
    simp only [seqOf] at e ⊢
    rw [d.2.1 m hm]
    exact e
  | _ => exact e
theorem ix_seq_of {y : AV} {xs : List AV} {h : AH} {i : Int} {v : AV} {Q : AK} (e : seqOf y h = some xs) (hv : atA xs i = some v) : ixR y (.int i) h Q = Q v h := by
  cases y with
  | tup ys =>
    cases e
    exact e_ix_tup hv
  | rol ys =>
    cases e
    exact e_ix_rol hv
  | ref m =>
    simp only [seqOf] at e
    split at e
    · rename_i zs e1
      cases e
      exact e_ix_lst e1 hv
    · cases e
  | _ => cases e
theorem len_seq_of {y : AV} {xs : List AV} {h : AH} {Q : AK} (e : seqOf y h = some xs) : lenR [y] h Q = Q (.int xs.length) h := by
  cases y with
  | tup ys =>
    cases e
    rfl
  | rol ys =>
    cases e
    rfl
  | ref m =>
    simp only [seqOf] at e
    split at e
    · rename_i zs e1
      cases e
      exact e_len_lst e1
    · cases e
  | _ => cases e
theorem pure_law_pick (x y : AV) (h : AH) (R : AK) (c1 : clH h) (c2 : clBs h.length [x, y] = true) (q : sp_law_pick [x, y] h R (fun _ _ => False)) : b_law_pick (ends (retG h R)) [some x, some y] h := by
  obtain ⟨n, xs, rfl, hy, hne, hl, hyn, hd, q⟩ := q
  unfold b_law_pick
  get_elem_tactic_trivial
  rw [len_seq_of hy]
  have hpos : 0 < xs.length := List.length_pos_iff.mpr hne
  refine ⟨n, xs.length, rfl, rfl, by omega, Nat.le_trans (isz_of (n := 64) (by decide) (by omega) (by omega)) (by decide), hd, fun r h' r0 r1 dr => ?_⟩
  obtain ⟨i, rfl⟩ := Int.eq_ofNat_of_zero_le r0
  have hi : i < xs.length := by omega
  rw [ix_seq_of (dr.seq hyn hy) (v := xs[i]) (show atA xs ((i : Nat) : Int) = some xs[i] from List.getElem?_eq_getElem hi)]
  exact retG_of (q _ _ (List.getElem_mem hi) dr)
theorem pure_law_rare (x y : AV) (h : AH) (R : AK) (c1 : clH h) (c2 : clBs h.length [x, y] = true) (q : sp_law_rare [x, y] h R (fun _ _ => False)) : b_law_rare (ends (retG h R)) [some x, some y] h := by
  obtain ⟨n, many, rfl, rfl, hm, hs, hd, q⟩ := q
  unfold b_law_rare
  get_elem_tactic_trivial
  refine ⟨n, many, rfl, rfl, hm, hs, hd, fun r h' r0 r1 dr => ?_⟩
  get_elem_tactic_trivial
  exact ⟨div_lit (by decide) (by decide), retG_of (q _ _ dr)⟩
/-! ### Euclid -/
/-- the pair at a turn: its divisor is the one sought, and its product has been halved at each turn but the first -/
def Eu (A B i : Nat) (a b : Nat) : Prop := a.gcd b = A.gcd B ∧ ((i = 0 ∧ a = A ∧ b = B) ∨ (1 ≤ i ∧ b < a ∧ a * b * 2 ^ (i - 1) ≤ A * B))
theorem eu_next {A B i a b : Nat} (h : Eu A B i a b) (hb : b ≠ 0) : Eu A B (i + 1) b (a % b) := by
  obtain ⟨hg, h⟩ := h
  have hlt : a % b < b := Nat.mod_lt _ (by omega)
  refine ⟨by rw [← hg, Nat.gcd_comm a b, Nat.gcd_rec b a, Nat.gcd_comm], .inr ⟨by omega, hlt, ?_⟩⟩
  rcases h with ⟨rfl, rfl, rfl⟩ | ⟨h1, h2, h3⟩
  · have : a % b ≤ a := Nat.mod_le _ _
    show b * (a % b) * 2 ^ 0 ≤ a * b
    rw [Nat.pow_zero, Nat.mul_one, Nat.mul_comm]
    exact Nat.mul_le_mul_right _ this
  · have hd := Nat.div_add_mod a b
    have hq : 1 ≤ a / b := Nat.div_pos (by omega) (by omega)
    have hq2 : b * 1 ≤ b * (a / b) := Nat.mul_le_mul_left _ hq
    have half : 2 * (a % b) ≤ a := by omega
    have e : i + 1 - 1 = (i - 1) + 1 := by omega
    rw [e, Nat.pow_succ]
    calc b * (a % b) * (2 ^ (i - 1) * 2) = (2 * (a % b)) * b * 2 ^ (i - 1) := by
          simp only [Nat.mul_comm, Nat.mul_left_comm, Nat.mul_assoc]
      _ ≤ a * b * 2 ^ (i - 1) := Nat.mul_le_mul_right _ (Nat.mul_le_mul_right _ half)
      _ ≤ A * B := h3
theorem eu_end {A B a b : Nat} (h : Eu A B 100000 a b) (hA : A < 2 ^ 20000) (hB : B < 2 ^ 20000) : b = 0 := by
  obtain ⟨_, h⟩ := h
  rcases h with ⟨h, _⟩ | ⟨_, h2, h3⟩
  · omega
  · apply Decidable.byContradiction
    intro hb
    have h4 : A * B < 2 ^ 20000 * 2 ^ 20000 := Nat.mul_lt_mul'' hA hB
    rw [← Nat.pow_add] at h4
    have h5 : 1 * 2 ^ 40000 ≤ a * b * 2 ^ (100000 - 1) := Nat.mul_le_mul (Nat.mul_pos (by omega) (by omega)) (Nat.pow_le_pow_right (by decide) (by decide))
    have e : (20000 + 20000 : Nat) = 40000 := rfl
    rw [e] at h4
    omega
theorem abs_if (i : Int) : (if i < 0 then -i else i) = (i.natAbs : Int) := by
  split <;> omega
theorem pure_law_gcd (x y : AV) (h : AH) (R : AK) (c1 : clH h) (c2 : clBs h.length [x, y] = true) (q : sp_law_gcd [x, y] h R (fun _ _ => False)) : b_law_gcd (ends (retG h R)) [some x, some y, none] h := by
  obtain ⟨a0, b0, rfl, rfl, ha, hb, q⟩ := q
  unfold b_law_gcd
  get_elem_tactic_trivial
  rw [abs_if, abs_if, x_for]
  refine ⟨by decide, by decide, ?_⟩
  refine ⟨fun i σ h' => h' = h ∧ ∃ (a b : Nat) (k : Option AV), σ = [some (.int a), some (.int b), k] ∧ Eu a0.natAbs b0.natAbs i a b, ⟨rfl, _, _, _, rfl, rfl, .inl ⟨rfl, rfl, rfl⟩⟩, fun i z σ h' hz ⟨eh, a, b, k, es, eu⟩ => ?_, fun σ h' ⟨eh, a, b, k, es, eu⟩ => ?_⟩
  · subst eh es
    refine ⟨trivial, ?_⟩
    unfold b_law_gcd_l1
    get_elem_tactic_trivial
    by_cases h0 : (b : Int) = 0
    · rw [if_pos h0]
      have : b = 0 := by omega
      subst this
      obtain ⟨hg, _⟩ := eu
      rw [Nat.gcd_zero_right] at hg
      exact retG_of (by rw [hg]; exact q)
    · rw [if_neg h0]
      exact ⟨by omega, b, a % b, _, rfl, eu_next eu (by omega)⟩
  · subst eh es
    refine ⟨trivial, ?_⟩
    have : b = 0 := eu_end (by simpa [zrange] using eu) (isz_lt ha) (isz_lt hb)
    subst this
    obtain ⟨hg, _⟩ := eu
    rw [Nat.gcd_zero_right] at hg
    get_elem_tactic_trivial
    exact retG_of (by rw [hg]; exact q)
/-! ### ratios by the laws' own way -/
theorem law_r_pos {n d : Int} {h : AH} {R : AK} {g : Option AV} (hd : 0 < d) (hn : isz n ≤ 20000) (hs : isz d ≤ 9000) (q : R (rat (Rat.divInt n d)) h) : b_law_r_r1 (ends R) [some (.int n), some (.int d), g] h := by
  unfold b_law_r_r1
  get_elem_tactic_trivial
  have dg := gcd_bound (n := n) (by omega) hs
  rw [rat_divInt hd] at q
  exact ⟨n, d, rfl, rfl, hn, by omega, dg, dg, q⟩
theorem pure_law_r (x y : AV) (h : AH) (R : AK) (c1 : clH h) (c2 : clBs h.length [x, y] = true) (q : sp_law_r [x, y] h R (fun _ _ => False)) : b_law_r (ends (retG h R)) [some x, some y, none] h := by
  obtain ⟨n, d, rfl, rfl, hd, hn, hs, q⟩ := q
  unfold b_law_r
  get_elem_tactic_trivial
  by_cases h0 : d < 0
  · rw [if_pos h0]
    exact law_r_pos (by omega) (by rw [isz_neg]; exact hn) (by rw [isz_neg]; exact hs) (retG_of (by rw [Rat.neg_divInt_neg]; exact q))
  · rw [if_neg h0]
    exact law_r_pos (by omega) hn hs (retG_of q)
theorem Two.isn {a b : Rat} (t : Two a b) : AL.isz (a.num * b.den + b.num * a.den) ≤ 20000 ∧ AL.isz (a.num * b.den - b.num * a.den) ≤ 20000 ∧ AL.isz (a.num * b.num) ≤ 20000 ∧ AL.isz (a.num * b.den) ≤ 20000 := by
  have h1 := isz_mul a.num b.den
  have h2 := isz_mul b.num a.den
  have h3 := isz_mul a.num b.num
  have n1 := sz_num a
  have n2 := sz_num b
  have d1 := sz_den a
  have d2 := sz_den b
  have s := t.s
  have h4 := isz_add (i := a.num * b.den) (j := b.num * a.den) (n := 8990) (by omega) (by omega)
  have h5 := isz_sub (i := a.num * b.den) (j := b.num * a.den) (n := 8990) (by omega) (by omega)
  omega
theorem pure_law_add (x y : AV) (h : AH) (R : AK) (c1 : clH h) (c2 : clBs h.length [x, y] = true) (q : sp_law_add [x, y] h R (fun _ _ => False)) : b_law_add (ends (retG h R)) [some x, some y] h := by
  obtain ⟨a, b, rfl, rfl, hs, q⟩ := q
  have t : Two a b := ⟨hs⟩
  unfold b_law_add rat
  get_elem_tactic_trivial
  exact ⟨t.nd, t.dn, t.dd, _, _, rfl, rfl, dd_ne a b, t.isn.1, t.isz, retG_of (by rw [add_eq]; exact q)⟩
theorem pure_law_sub (x y : AV) (h : AH) (R : AK) (c1 : clH h) (c2 : clBs h.length [x, y] = true) (q : sp_law_sub [x, y] h R (fun _ _ => False)) : b_law_sub (ends (retG h R)) [some x, some y] h := by
  obtain ⟨a, b, rfl, rfl, hs, q⟩ := q
  have t : Two a b := ⟨hs⟩
  unfold b_law_sub rat
  get_elem_tactic_trivial
  exact ⟨t.nd, t.dn, t.dd, _, _, rfl, rfl, dd_ne a b, t.isn.2.1, t.isz, retG_of (by rw [sub_eq]; exact q)⟩
theorem pure_law_mul (x y : AV) (h : AH) (R : AK) (c1 : clH h) (c2 : clBs h.length [x, y] = true) (q : sp_law_mul [x, y] h R (fun _ _ => False)) : b_law_mul (ends (retG h R)) [some x, some y] h := by
  obtain ⟨a, b, rfl, rfl, hs, q⟩ := q
  have t : Two a b := ⟨hs⟩
  unfold b_law_mul rat
  get_elem_tactic_trivial
  exact ⟨t.nn, t.dd, _, _, rfl, rfl, dd_ne a b, t.isn.2.2.1, t.isz, retG_of (by rw [mul_eq]; exact q)⟩
theorem pure_law_div (x y : AV) (h : AH) (R : AK) (c1 : clH h) (c2 : clBs h.length [x, y] = true) (q : sp_law_div [x, y] h R (fun _ _ => False)) : b_law_div (ends (retG h R)) [some x, some y] h := by
  obtain ⟨a, b, rfl, rfl, hb, hs, q⟩ := q
  have t : Two a b := ⟨hs⟩
  unfold b_law_div rat
  get_elem_tactic_trivial
  refine ⟨t.nd, t.dn', _, _, rfl, rfl, Int.mul_ne_zero (by have := den_pos a; omega) (num_ne hb), t.isn.2.2.2, ?_, retG_of (by rw [div_eq]; exact q)⟩
  exact Nat.le_trans (isz_mul _ _) (by have := sz_den a; have := sz_num b; omega)
theorem pure_law_is_int (x : AV) (h : AH) (R : AK) (c1 : clH h) (c2 : clBs h.length [x] = true) (q : sp_law_is_int [x] h R (fun _ _ => False)) : b_law_is_int (ends (retG h R)) [some x] h := by
  obtain ⟨hx, q⟩ := q
  unfold b_law_is_int
  get_elem_tactic_trivial
  exact kind_int x h hx _ (retG_of q)
theorem beq_dec (m : Nat) : (((m : Nat) : Int) == 1) = decide (m = 1) := by
  by_cases h1 : m = 1
  · subst h1
    rfl
  · rw [decide_eq_false h1]
    simpa using (by omega : ¬ ((m : Nat) : Int) = 1)
theorem isR_len : ∀ (xs : List AV), xs.length ≠ 2 → isR (.tup xs) = false
  | [], _ => rfl
  | [y], _ => by cases y <;> rfl
  | [_, _], e => (e rfl).elim
  | y :: z :: _ :: _, _ => by cases y <;> cases z <;> rfl
theorem pure_law_is_r (x : AV) (h : AH) (R : AK) (c1 : clH h) (c2 : clBs h.length [x] = true) (q : sp_law_is_r [x] h R (fun _ _ => False)) : b_law_is_r (ends (retG h R)) [some x] h := by
  obtain ⟨hx, hs, hb, q⟩ := q
  unfold b_law_is_r
  get_elem_tactic_trivial
  have no : isR x = false → retG h R (.bl false) h := fun e => retG_of (by rw [← e]; exact q)
  cases x with
  | tup xs =>
    get_elem_tactic_trivial
    match xs, hs, hb, q, no with
    | [], _, _, _, no => simpa using no (isR_len _ (by simp))
    | [_], _, _, _, no => simpa using no (isR_len _ (by simp))
    | _ :: _ :: _ :: r, _, _, _, no =>
      have e : ¬ ((r.length : Int) + 1 + 1 + 1 = 2) := by omega
      simpa [e] using no (isR_len _ (by simp))
    | [y, z], hs, hb, q, no =>
      have sy := hs _ rfl y (by simp)
      have sz := hs _ rfl z (by simp)
      get_elem_tactic_trivial
      refine ⟨sy, ?_⟩
      cases y with
      | int n =>
        simp only [isI]
        get_elem_tactic_trivial
        refine ⟨sz, ?_⟩
        cases z with
        | int d =>
          simp only [isI]
          get_elem_tactic_trivial
          obtain ⟨b1, b2⟩ := hb n d rfl
          have e : isR (.tup [.int n, .int d]) = (decide (1 ≤ d) && decide (n.natAbs.gcd d.natAbs = 1)) := rfl
          by_cases hd : d < 1
          · rw [if_pos hd]
            exact no (by rw [e, decide_eq_false (by omega)]; rfl)
          · rw [if_neg hd]
            refine ⟨n, d, rfl, rfl, b1, b2, ?_⟩
            get_elem_tactic_trivial
            have e2 : (((n.natAbs.gcd d.natAbs : Nat) : Int) == 1) = isR (.tup [.int n, .int d]) := by
              rw [e, decide_eq_true (show 1 ≤ d by omega), Bool.true_and]
              exact beq_dec _
            rw [e2]
            exact retG_of q
        | _ =>
          simp only [isI]
          get_elem_tactic_trivial
          exact no rfl
      | _ =>
        simp only [isI]
        get_elem_tactic_trivial
        exact no (by cases z <;> rfl)
  | ref n =>
    have e : h[n]? = some h[n] := List.getElem?_eq_getElem hx
    simp only [instR, tyName, e]
    cases h[n] <;> exact no rfl
  | ty n => exact hx.elim
  | _ => exact no rfl
end AL

/-! CD: what draws leave; the heap behind them. -/
namespace AL
open PySem
theorem Drawn.at {h h' : AH} {n : Nat} (d : Drawn h n h') : DrawAt h' n := d.2.2
theorem Drawn.len {h h' : AH} {n : Nat} (d : Drawn h n h') : h'.length = h.length := d.1
theorem Drawn.trans {h h1 h2 : AH} {n : Nat} (a : Drawn h n h1) (b : Drawn h1 n h2) : Drawn h n h2 :=
  ⟨b.1.trans a.1, fun i hi => (b.2.1 i hi).trans (a.2.1 i hi), b.2.2⟩
theorem Drawn.refl {h : AH} {n : Nat} (d : DrawAt h n) : Drawn h n h := ⟨rfl, fun _ _ => rfl, d⟩
theorem DrawAt.lt {h : AH} {n : Nat} (d : DrawAt h n) : n < h.length := by
  obtain ⟨k, ns, at_, rest, seed, e1, e2, hk⟩ := d
  exact (List.getElem?_eq_some_iff.mp e1).1
theorem DrawAt.app {h : AH} {n : Nat} (d : DrawAt h n) (r : AH) : DrawAt (h ++ r) n := by
  have hn := d.lt
  obtain ⟨k, ns, at_, rest, seed, e1, e2, hk⟩ := d
  exact ⟨k, ns, at_, rest, seed, by rw [List.getElem?_append_left hn]; exact e1, by rw [List.getElem?_append_left (by omega)]; exact e2, hk⟩
/-- a draw over a longer heap -/
theorem Drawn.cut {h r h2 : AH} {n : Nat} (hn : n < h.length) (d : Drawn (h ++ r) n h2) : ∃ h', h2 = h' ++ r ∧ Drawn h n h' := by
  obtain ⟨d1, d2, k, ns, at_, rest, seed, e1, e2, hk⟩ := d
  have hl : h2.length = h.length + r.length := by
    rw [d1, List.length_append]
  have tl : h2.drop h.length = r := by
    apply List.ext_getElem?
    intro i
    rw [List.getElem?_drop, d2 _ (by omega), List.getElem?_append_right (by omega), Nat.add_sub_cancel_left]
  have sp : h2 = h2.take h.length ++ r := by
    conv => lhs; rw [← List.take_append_drop h.length h2]
    rw [tl]
  have lt : (h2.take h.length).length = h.length := by
    rw [List.length_take]
    omega
  refine ⟨h2.take h.length, sp, lt, fun i hi => ?_, k, ns, at_, rest, seed, ?_, ?_, hk⟩
  · by_cases h1 : i < h.length
    · rw [List.getElem?_take_of_lt h1, d2 i hi, List.getElem?_append_left h1]
    · rw [List.getElem?_eq_none (by omega), List.getElem?_eq_none (by omega)]
  · rw [List.getElem?_take_of_lt hn]
    exact e1
  · rw [List.getElem?_take_of_lt (by omega)]
    exact e2
theorem clBs_ints {n : Nat} : ∀ ns : List Int, clBs n (ns.map AV.int) = true
  | [] => rfl
  | _ :: r => clBs_ints r
theorem Drawn.cl {h h' : AH} {n : Nat} (c : clH h) (d : Drawn h n h') : clH h' := by
  obtain ⟨d1, d2, k, ns, at_, rest, seed, e1, e2, hk⟩ := d
  intro o ho
  obtain ⟨i, hi, rfl⟩ := List.getElem_of_mem ho
  by_cases hin : i = n
  · subst hin
    have e : h'[i] = .lst [.ref k, .int (at_ : Int), .int rest, .int seed, .int 3] := by
      rw [List.getElem?_eq_getElem hi] at e1
      exact Option.some.inj e1
    rw [e]
    have : k < h'.length := by omega
    simp [clO, clBs, clB, this]
  · have e := d2 i hin
    rw [List.getElem?_eq_getElem hi] at e
    have hm : h'[i] ∈ h := List.mem_of_getElem? e.symm
    rw [d1]
    exact c _ hm
theorem Drawn.get {h h' : AH} {n i : Nat} (d : Drawn h n h') (hi : i ≠ n) : h'[i]? = h[i]? := d.2.1 i hi
theorem clB_rat (n : Nat) (q : Rat) : clB n (rat q) = true := rfl
theorem clBs_rats {n : Nat} : ∀ qs : List Rat, clBs n (qs.map rat) = true
  | [] => rfl
  | q :: r => by
    show (clB n (rat q) && clBs n (r.map rat)) = true
    rw [clBs_rats r]
    rfl
/-- an end that leaves the drawing list turned and forgets what stood behind -/
theorem ret_drawn {h0 h' r : AH} {n : Nat} {R : AK} {x : AV} (c : clH h0) (d : Drawn h0 n h') (cx : clB h'.length x = true) (q : R x h') : retG h0 R x (h' ++ r) :=
  .inr (.inl ⟨h', r, rfl, d.1, d.cl c, cx, q⟩)
theorem ret_cut {h0 r : AH} {R : AK} {x : AV} (c : clH h0) (cx : clB h0.length x = true) (q : R x h0) : retG h0 R x (h0 ++ r) :=
  .inr (.inl ⟨h0, r, rfl, rfl, c, cx, q⟩)
/-- an end that gives a new flat list -/
theorem ret_list {h0 j1 j2 : AH} {R : AK} {xs : List AV} {k : Nat} (c : clH h0) (hk : k = h0.length + j1.length) (cx : clBs h0.length xs = true) (q : R (.ref h0.length) (h0 ++ [.lst xs])) : retG h0 R (.ref k) (h0 ++ (j1 ++ .lst xs :: j2)) :=
  .inr (.inr ⟨h0, j1, xs, j2, rfl, by rw [hk], rfl, c, cx, q⟩)
/-- a comprehension whose items are made one by one, with draws between: what holds of the items so far -/
theorem lcT_draw {it : ATI} {guard : AH → Prop} {g : ATG} {te : ATE} {vs : List Nat} {a : ASt} {items : List AV} {h0 h1 : AH} {n : Nat} {R : AK} (P : List AV → Prop) (hd : DrawAt h1 n) (hi : ∀ K, K items guard h1 → it a h0 K) (hz : items.length ≤ 1000000)
    (hg : ∀ h2 acc, guard (h2 ++ [.lst acc])) (h00 : P [])
    (hs : ∀ (i : Nat) x acc h2 (Q : AK), items[i]? = some x → acc.length = i → P acc → Drawn h1 n h2 → (∀ y h3, P (acc ++ [y]) → Drawn h2 n h3 → Q y (h3 ++ [.lst acc])) → g x (wipeA a vs) (h2 ++ [.lst acc]) fun a2 h3 => te a2 h3 Q)
    (q : ∀ ys h2, P ys → ys.length = items.length → Drawn h1 n h2 → R (.ref h1.length) (h2 ++ [.lst ys])) : lcT it g yesT te vs a h0 R := by
  refine hi _ ⟨fun i acc h => ∃ h2, h = h2 ++ [.lst acc] ∧ acc.length = i ∧ P acc ∧ Drawn h1 n h2, ⟨h1, rfl, rfl, h00, .refl hd⟩, fun i x acc h hx ⟨h2, e1, e2, e3, e4⟩ => ?_, fun acc h ⟨h2, e1, e2, e3, e4⟩ => ?_⟩
  · have hlt : i < items.length := (List.getElem?_eq_some_iff.mp hx).1
    subst e1
    refine ⟨hg h2 acc, hs i x acc h2 _ hx e2 e3 e4 fun y h3 p d => ?_⟩
    have hl : h3.length = h1.length := d.1.trans e4.1
    rw [← hl]
    exact ⟨get_l0, by omega, h3, set_l0, by simp [e2], p, e4.trans d⟩
  · subst e1
    have hl : h2.length = h1.length := e4.1
    refine ⟨hg _ _, ?_, q acc h2 e3 e2 e4⟩
    rw [← hl]
    exact get_l0
end AL

/-! CE: heaps that have grown: behind what was there, with draws and without. -/
namespace AL
open PySem
/-- more behind, nothing else changed -/
def Ext (h h' : AH) : Prop := ∃ r, h' = h ++ r
theorem Ext.refl {h : AH} : Ext h h := ⟨[], (List.append_nil h).symm⟩
theorem Ext.app {h h' : AH} (e : Ext h h') (r : AH) : Ext h (h' ++ r) := by
  obtain ⟨s, rfl⟩ := e
  exact ⟨s ++ r, List.append_assoc ..⟩
theorem Ext.set {h h' : AH} {p : Nat} {x : AO} (e : Ext h h') (hp : h.length ≤ p) : Ext h (h'.set p x) := by
  obtain ⟨s, rfl⟩ := e
  exact ⟨_, List.set_append_right _ _ hp⟩
theorem Ext.le {h h' : AH} (e : Ext h h') : h.length ≤ h'.length := by
  obtain ⟨s, rfl⟩ := e
  simp
theorem Ext.trans {h h1 h2 : AH} (a : Ext h h1) (b : Ext h1 h2) : Ext h h2 := by
  obtain ⟨s, rfl⟩ := b
  exact a.app s
theorem Ext.get {h h' : AH} {i : Nat} (e : Ext h h') (hi : i < h.length) : h'[i]? = h[i]? := by
  obtain ⟨s, rfl⟩ := e
  exact List.getElem?_append_left hi
theorem ret_ext {h0 h' : AH} {R : AK} {x : AV} (c : clH h0) (e : Ext h0 h') (cx : clB h0.length x = true) (q : R x h0) : retG h0 R x h' := by
  obtain ⟨r, rfl⟩ := e
  exact ret_cut c cx q
/-- draws, and more behind -/
def Grown (h : AH) (n : Nat) (h' : AH) : Prop := ∃ h1 r, h' = h1 ++ r ∧ Drawn h n h1
theorem Grown.refl {h : AH} {n : Nat} (d : DrawAt h n) : Grown h n h := ⟨h, [], (List.append_nil h).symm, .refl d⟩
theorem Grown.at {h h' : AH} {n : Nat} (g : Grown h n h') : DrawAt h' n := by
  obtain ⟨h1, r, rfl, d⟩ := g
  exact d.at.app r
theorem Grown.lt {h h' : AH} {n : Nat} (g : Grown h n h') : n < h.length := by
  obtain ⟨h1, r, rfl, d⟩ := g
  rw [← d.1]
  exact d.at.lt
theorem Grown.le {h h' : AH} {n : Nat} (g : Grown h n h') : h.length ≤ h'.length := by
  obtain ⟨h1, r, rfl, d⟩ := g
  rw [List.length_append, d.1]
  omega
theorem Grown.app {h h' : AH} {n : Nat} (g : Grown h n h') (r : AH) : Grown h n (h' ++ r) := by
  obtain ⟨h1, s, rfl, d⟩ := g
  exact ⟨h1, s ++ r, List.append_assoc .., d⟩
theorem Grown.set {h h' : AH} {n p : Nat} {x : AO} (g : Grown h n h') (hp : h.length ≤ p) : Grown h n (h'.set p x) := by
  obtain ⟨h1, s, rfl, d⟩ := g
  exact ⟨h1, _, List.set_append_right _ _ (by rw [d.1]; exact hp), d⟩
theorem Grown.draw {h h' h2 : AH} {n : Nat} (g : Grown h n h') (d2 : Drawn h' n h2) : Grown h n h2 := by
  have hn := g.lt
  obtain ⟨h1, s, rfl, d⟩ := g
  obtain ⟨h3, rfl, d3⟩ := d2.cut (by rw [d.1]; exact hn)
  exact ⟨h3, s, rfl, d.trans d3⟩
theorem Grown.get {h h' : AH} {n i : Nat} (g : Grown h n h') (hi : i < h.length) (hn : i ≠ n) : h'[i]? = h[i]? := by
  obtain ⟨h1, s, rfl, d⟩ := g
  rw [List.getElem?_append_left (by rw [d.1]; exact hi)]
  exact d.get hn
theorem ret_grown {h0 h' : AH} {n : Nat} {R : AK} {x : AV} (c : clH h0) (g : Grown h0 n h') (cx : clB h0.length x = true) (q : ∀ h1, Drawn h0 n h1 → R x h1) : retG h0 R x h' := by
  obtain ⟨h1, s, rfl, d⟩ := g
  exact ret_drawn c d (by rw [d.1]; exact cx) (q _ d)
/-- a new list at the end -/
theorem get_new {h : AH} {x : AO} : (h ++ [x])[h.length]? = some x := get_l0
theorem get_old {h : AH} {i : Nat} {x : AO} {r : AH} (e : h[i]? = some x) : (h ++ r)[i]? = some x := by
  rw [List.getElem?_append_left (List.getElem?_eq_some_iff.mp e).1]
  exact e
theorem get_lt {h : AH} {i : Nat} {x : AO} (e : h[i]? = some x) : i < h.length := (List.getElem?_eq_some_iff.mp e).1
theorem get_set {h : AH} {i p : Nat} {x y : AO} (e : h[i]? = some x) (hp : p ≠ i) : (h.set p y)[i]? = some x := by
  rw [List.getElem?_set_ne hp]
  exact e
theorem isz_lit {i : Int} {n : Nat} (hn : 1 ≤ n) (h : i.natAbs < 2 ^ n) : isz i ≤ n := isz_le hn h
theorem sz_small {n d : Int} {k : Nat} (hd : d ≠ 0) (h1 : isz n ≤ k) (h2 : isz d ≤ k) : sz (Rat.divInt n d) ≤ k := Nat.le_trans (sz_divInt hd) (Nat.max_le.mpr ⟨h1, h2⟩)
theorem rat_of_int (n : Int) : AV.tup [.int n, .int 1] = rat (n : Rat) := rfl
theorem sz_int (n : Int) : sz (n : Rat) = isz n := by
  show max (isz n) (isz 1) = _
  exact Nat.max_eq_left (isz_pos n)
theorem isR_rat (q : Rat) : isR (rat q) = true := by
  have h1 := den_pos q
  have h2 : q.num.natAbs.gcd ((q.den : Int)).natAbs = 1 := q.reduced
  show (decide (1 ≤ (q.den : Int)) && decide _) = true
  rw [decide_eq_true (show 1 ≤ (q.den : Int) by omega), Bool.true_and]
  exact decide_eq_true h2
theorem seen_rat (h : AH) (q : Rat) : seen h (rat q) := trivial
/-- is it a ratio: of a ratio -/
theorem isRsp_rat {h : AH} {q : Rat} {R E : AK} (hs : sz q ≤ 20000) (r : R (.bl true) h) : isRsp [rat q] h R E := by
  refine ⟨seen_rat h q, fun xs e y hy => ?_, fun n d e => ?_, by rw [isR_rat]; exact r⟩
  · cases e
    simp at hy
    rcases hy with rfl | rfl <;> trivial
  · cases e
    exact ⟨Nat.le_trans (sz_num q) hs, Nat.le_trans (sz_den q) hs⟩
theorem DrawAt.set {h : AH} {n p : Nat} {x : AO} (d : DrawAt h n) (hp : n < p) : DrawAt (h.set p x) n := by
  obtain ⟨k, ns, at_, rest, seed, e1, e2, hk⟩ := d
  exact ⟨k, ns, at_, rest, seed, get_set e1 (by omega), get_set e2 (by omega), hk⟩
theorem zr_len {lo : Int} {n : Nat} : (zrange lo n).length = n := by simp [zrange]
theorem zr_get {lo : Int} {n i : Nat} {x : AV} (h : (zrange lo n)[i]? = some x) : i < n ∧ x = .int (lo + (i : Int)) := by
  have hi : i < n := by
    have := (List.getElem?_eq_some_iff.mp h).1
    rwa [zr_len] at this
  refine ⟨hi, ?_⟩
  unfold zrange at h
  rw [List.getElem?_map, List.getElem?_range hi] at h
  exact (Option.some.inj h).symm
theorem en_len : ∀ (xs : List AV) (k : Nat), (enumV k xs).length = xs.length
  | [], _ => rfl
  | _ :: r, k => by
    show (enumV (k + 1) r).length + 1 = r.length + 1
    rw [en_len r]
theorem en_get : ∀ (xs : List AV) (k i : Nat) {x : AV}, (enumV k xs)[i]? = some x → ∃ y, xs[i]? = some y ∧ x = .tup [.int ((k + i : Nat) : Int), y]
  | [], _, _, _, h => by
    cases h
  | y :: r, k, 0, x, h => ⟨y, rfl, (Option.some.inj h).symm⟩
  | y :: r, k, i + 1, x, h => by
    obtain ⟨z, h1, h2⟩ := en_get r (k + 1) i h
    exact ⟨z, h1, by rw [h2]; congr 3; omega⟩
theorem atA_map {α : Type} {f : α → AV} {xs : List α} {i : Nat} {x : α} (h : xs[i]? = some x) : atA (xs.map f) (i : Int) = some (f x) := by
  show (xs.map f)[i]? = _
  rw [List.getElem?_map, h]
  rfl
theorem get_mem {α : Type} {xs : List α} {i : Nat} {x : α} (h : xs[i]? = some x) : x ∈ xs := List.mem_of_getElem? h
theorem rat_lit {q : Rat} {n d : Int} (h1 : q.num = n) (h2 : (q.den : Int) = d) : AV.tup [.int n, .int d] = rat q := by
  subst h1 h2
  rfl
theorem pick3 {h : AH} {n : Nat} {u v w : AV} {a b c : Rat} {R : AK} (ea : u = rat a) (eb : v = rat b) (ec : w = rat c) (d : DrawAt h n) (q : ∀ v h', v = a ∨ v = b ∨ v = c → Drawn h n h' → R (rat v) (h' ++ [.lst [rat a, rat b, rat c]])) (E : AK) : sp_law_pick [.ref n, .ref h.length] (h ++ [.lst [u, v, w]]) R E := by
  have hn := d.lt
  subst ea eb ec
  refine ⟨n, [rat a, rat b, rat c], rfl, ?_, by simp, by simp, fun z => ?_, d.app _, fun v h' hv dr => ?_⟩
  · simp only [seqOf, get_l0]
  · cases z
    omega
  · obtain ⟨h1, rfl, d1⟩ := dr.cut hn
    have : v = rat a ∨ v = rat b ∨ v = rat c := by simpa using hv
    rcases this with rfl | rfl | rfl
    · exact q a h1 (.inl rfl) d1
    · exact q b h1 (.inr (.inl rfl)) d1
    · exact q c h1 (.inr (.inr rfl)) d1
theorem x_iseq {te : ATE} {a : ASt} {h : AH} {n : Nat} {xs : List AV} {R : List AV → (AH → Prop) → AH → Prop} (he : ∀ Q : AK, te a h Q = Q (.ref n) h) (e : h[n]? = some (.lst xs)) : iSeqT te a h R = R xs (fun h => h[n]? = some (.lst xs)) h := by
  unfold iSeqT
  rw [he]
  simp only [e]
theorem e_add_lst {m n : Nat} {xs ys : List AV} {h : AH} {Q : AK} (e1 : h[m]? = some (.lst xs)) (e2 : h[n]? = some (.lst ys)) : addR (.ref m) (.ref n) h Q = (xs.length + ys.length ≤ 16777216 ∧ Q (.ref h.length) (h ++ [.lst (xs ++ ys)])) := by
  simp only [addR, e1, e2]
theorem whole_val {B : Int} {q : Rat} (h : ((q.den : Int)) ∣ B) : ((q.num * (B / (q.den : Int)) : Int) : Rat) = q * (B : Rat) := by
  obtain ⟨c, rfl⟩ := h
  have hd := den_pos q
  rw [Int.mul_ediv_cancel_left _ (by omega), Rat.intCast_mul, Rat.intCast_mul]
  have e : q * ((q.den : Int) : Rat) = (q.num : Rat) := by
    have e1 : q = (q.num : Rat) / ((q.den : Int) : Rat) := by
      rw [← Rat.divInt_eq_div, Rat.num_divInt_den]
    have e2 : ((q.den : Int) : Rat) ≠ 0 := fun z => by
      have := Rat.intCast_eq_zero_iff.mp z
      omega
    conv => lhs; lhs; rw [e1]
    exact Rat.div_mul_cancel e2
  rw [← e, Rat.mul_assoc]
theorem mul_den (q : Rat) : q * ((q.den : Int) : Rat) = (q.num : Rat) := by
  have h := whole_val (B := (q.den : Int)) (q := q) (Int.dvd_refl _)
  rw [← h, Int.ediv_self (by have := den_pos q; omega), Int.mul_one]
theorem atA_m1 {α : Type} {xs : List α} {v : α} (h : xs[xs.length - 1]? = some v) : atA xs (-1) = some v := by
  have h0 := (List.getElem?_eq_some_iff.mp h).1
  show (if 0 < xs.length then xs[xs.length - 1 - 0]? else none) = _
  rw [if_pos (by omega)]
  exact h
theorem atA_m2 {α : Type} {xs : List α} {v : α} (h2 : 2 ≤ xs.length) (h : xs[xs.length - 2]? = some v) : atA xs (-2) = some v := by
  show (if 1 < xs.length then xs[xs.length - 1 - 1]? else none) = _
  rw [if_pos (by omega)]
  exact h
theorem zip2_self : ∀ (xs : List AV) {i : Nat} {x : AV}, (zip2 xs xs)[i]? = some x → ∃ y, xs[i]? = some y ∧ x = .tup [y, y]
  | [], _, _, h => by cases h
  | y :: r, 0, x, h => ⟨y, rfl, (Option.some.inj h).symm⟩
  | y :: r, i + 1, x, h => zip2_self r h
def Side (s : Int) : Prop := s = 1 ∨ s = -1
theorem side_sz {s : Int} (h : Side s) : isz s = 1 := by
  rcases h with rfl | rfl <;> rfl
theorem side_mul {s : Int} (h : Side s) (i : Int) : isz (s * i) = isz i := by
  rcases h with rfl | rfl
  · rw [Int.one_mul]
  · rw [Int.neg_mul, Int.one_mul, isz_neg]
theorem side_ok {s : Int} (h : Side s) (i : Int) : mulOk s i := by
  refine .inl (.inl ?_)
  rcases h with rfl | rfl <;> exact ⟨by decide, by decide⟩
theorem rat_unit {s m : Int} (h : Side s) (hm : 0 < m) : AV.tup [.int s, .int m] = rat (Rat.divInt s m) := by
  rw [rat_divInt hm]
  have e : s.natAbs.gcd m.natAbs = 1 := by
    rcases h with rfl | rfl <;> exact Nat.gcd_one_left _
  rw [e]
  simp
theorem side_of {s side : Int} (h : side = 1 - 2 * s) (s0 : 0 ≤ s) (s1 : s < 2) : Side side := by
  have : s = 0 ∨ s = 1 := by omega
  rcases this with rfl | rfl
  · exact .inl h
  · exact .inr h
end AL

/-! CB2: bodies, printed by gen.py. -/
namespace AL
open PySem
def b_law_same (dep : Nat) : ATS := (seqT (ifS (truT (cbT instR (consT (varT 1) (consT (cT (.ty "tuple")) nilT))))
    (seqT (ifS (orT (notT (truT (cbT instR (consT (varT 0) (consT (cT (.ty "tuple")) nilT))))) (cmpT (opT neR (cbT lenR (consT (varT 0) nilT)) (cbT lenR (consT (varT 1) nilT)))))
    (retT (cT (.bl false)))
    nextT)
    (retT (cbT allR (consT (lcT (iZipT (consT (varT 0) (consT (varT 1) nilT))) (gTupT 2 (gNmsT [2, 3])) yesT (callT (sp_law_same dep) (fun _ _ => False) (consT (varT 2) (consT (varT 3) nilT))) [2, 3]) nilT))))
    nextT)
    (seqT (ifS (orT (cmpT (opT isNR (varT 1) (cT .non))) (cmpT (opT isNR (varT 0) (cT .non))))
    (retT (andV (opT isNR (varT 1) (cT .non)) (opT isNR (varT 0) (cT .non))))
    nextT)
    (seqT (ifS (orT (truT (cbT instR (consT (varT 1) (consT (cT (.ty "bool")) nilT)))) (truT (cbT instR (consT (varT 0) (consT (cT (.ty "bool")) nilT)))))
    (retT (andV (cbT instR (consT (varT 1) (consT (cT (.ty "bool")) nilT))) (andV (cbT instR (consT (varT 0) (consT (cT (.ty "bool")) nilT))) (opT eqR (varT 0) (varT 1)))))
    nextT)
    (seqT (ifS (truT (cbT instR (consT (varT 1) (consT (cT (.ty "int")) nilT))))
    (retT (andV (cbT instR (consT (varT 0) (consT (cT (.ty "int")) nilT))) (opT eqR (varT 0) (varT 1))))
    nextT)
    (retT (andV (cbT instR (consT (varT 0) (consT (cT (.ty "str")) nilT))) (opT eqR (varT 0) (varT 1))))))))
def b_law_lt : ATS := (retT (opT ltR (opT mulR (opT ixR (varT 0) (cT (.int 0))) (opT ixR (varT 1) (cT (.int 1)))) (opT mulR (opT ixR (varT 1) (cT (.int 0))) (opT ixR (varT 0) (cT (.int 1))))))
end AL

/-! CM: the laws' own look for sameness. -/
namespace AL
open PySem
local macro_rules | `(tactic| get_elem_tactic_trivial) => `(tactic| simp -implicitDefEqProofs only [e_tru_non, e_tru_bl, e_tru_int, e_tru_tup, e_tru_rol, e_bl_bl, e_add_int, e_add_ib, e_add_str, e_add_tup, e_sub_int, e_mul_int, e_fdiv_int, e_mod_int, e_pow_int, e_shl_int, e_neg_int, e_iadd_int, e_iadd_str, e_isub_int, e_aeq_int, e_aeq_str, e_aeq_bl, e_aeq_non, e_aeq_tup, e_aeqs_nil, e_aeqs_cons, e_aeqs_nc, e_aeqs_cn, e_plain_int, e_plain_bl, e_plain_non, e_plain_str, e_plain_tup, e_eq, e_ne, e_lt_int, e_lt_str, e_le_int, e_gt_int, e_ge_int, e_isN, e_notN, e_isNon_int, e_isNon_str, e_isNon_tup, e_isNon_non, e_isNon_ref, e_isNon_bl, e_ix0, e_ix1, e_ix2, e_ix3, e_ix4, e_len_tup, e_len_rol, e_len_str, e_abs, e_int_int, e_int_bl, e_str_int, e_gcd, e_tuple_tup, e_list_tup, e_inst_ii, e_inst_ib, e_inst_tt, e_inst_it, e_inst_ti, e_inst_tb, e_inst_bb, e_inst_bi, e_inst_bt, e_inst_ss, e_inst_st, e_inst_si, e_inst_nt, e_gTup, e_gCons, e_gNil, e_gNms0, e_gNms1, e_gName, atA_0, atA_1, atA_2, atA_3, atA_4, get_l0, get_l1, get_l2, get_l3, set_l0, set_l1, set_l2, app_l, len_l0, len_l1, len_l2, x_c, x_var, x_op, x_un, x_nil, x_cons, x_tup, x_lst, x_call, x_cb, x_mt, x_tru, x_cmp, x_and, x_or, x_not, x_andV, x_orV, x_notV, x_if, x_chain, x_next, x_seq, x_brk, x_cont, x_drop, x_ret, x_retN, x_ifS, x_asg, x_gSub, x_par, x_aug, x_augS, x_rt, x_nx, x_yes, gv, sv, wipeA, lenLe, true_and, and_true, if_true, if_false, ite_true, ite_false, beq_iff_eq, decide_eq_true_eq, Bool.false_eq_true, Bool.true_eq_false, not_false_eq_true, Bool.not_eq_true', decide_eq_false_iff_not, Bool.not_true, Bool.not_false, List.isEmpty_cons, List.isEmpty_nil, List.cons_append, List.nil_append, List.length_cons, List.length_nil])
theorem zp_len : ∀ (xs : List AV), (zip2 xs xs).length = xs.length
  | [] => rfl
  | _ :: r => by
    show (zip2 r r).length + 1 = r.length + 1
    rw [zp_len r]
theorem blsOf_map : ∀ bs : List Bool, blsOf (bs.map AV.bl) = some bs
  | [] => rfl
  | b :: r => by
    show (blsOf (r.map AV.bl)).map (b :: ·) = _
    rw [blsOf_map r]
    rfl
theorem e_all {h : AH} {n : Nat} {bs : List Bool} {Q : AK} (e : h[n]? = some (.lst (bs.map AV.bl))) : allR [.ref n] h Q = Q (.bl (bs.all id)) h := by
  simp only [allR, e, blsOf_map]
theorem e_any {h : AH} {n : Nat} {bs : List Bool} {Q : AK} (e : h[n]? = some (.lst (bs.map AV.bl))) : anyR [.ref n] h Q = Q (.bl (bs.any id)) h := by
  simp only [anyR, e, blsOf_map]
theorem pure_law_same (dep : Nat) (x y : AV) (h : AH) (R : AK) (c1 : clH h) (c2 : clBs h.length [x, y] = true) (q : sp_law_same (dep + 1) [x, y] h R (fun _ _ => False)) : b_law_same dep (ends (retG h R)) [some x, some y, none, none] h := by
  obtain ⟨rfl, hd, q⟩ := q
  unfold b_law_same
  get_elem_tactic_trivial
  cases x with
  | tup xs =>
    get_elem_tactic_trivial
    rw [if_neg (by simp)]
    have hd2 : (decide (xs.length ≤ 1000000) && xs.all (dat dep)) = true := hd
    rw [Bool.and_eq_true] at hd2
    have hl := of_decide_eq_true hd2.1
    refine lcT_map (h1 := h) (items := zip2 xs xs) (ys := (List.replicate xs.length true).map AV.bl) (guard := fun _ => True) (fun K k => ?_) (by rw [zp_len]; simp) (by rw [zp_len]; exact hl) (fun _ => trivial) (fun i z y acc Q hx hy hq => ?_) ?_
    · unfold iZipT
      get_elem_tactic_trivial
      exact k
    · obtain ⟨v, hv, rfl⟩ := zip2_self _ hx
      obtain ⟨b, hb, rfl⟩ := map_get hy
      have : b = true := List.eq_of_mem_replicate (get_mem hb)
      subst this
      get_elem_tactic_trivial
      exact ⟨rfl, List.all_eq_true.mp hd2.2 v (get_mem hv), hq⟩
    · rw [e_all get_l0]
      have e : (List.replicate xs.length true).all id = true := by
        rw [List.all_eq_true]
        intro b hb
        rw [List.eq_of_mem_replicate hb]
        rfl
      rw [e]
      exact ret_cut c1 rfl q
  | non =>
    exact retG_of q
  | bl b =>
    get_elem_tactic_trivial
    exact retG_of (by simpa using q)
  | int i =>
    get_elem_tactic_trivial
    exact retG_of (by simpa using q)
  | str s =>
    have hs : s.cps.all (· < 0x110000) = true := hd
    get_elem_tactic_trivial
    exact ⟨hs, hs, retG_of (by simpa using q)⟩
  | ref n => exact Bool.noConfusion hd
  | ty n => exact Bool.noConfusion hd
  | rol xs => exact Bool.noConfusion hd
theorem pure_is_ratio (x : AV) (h : AH) (R : AK) (c1 : clH h) (c2 : clBs h.length [x] = true) (q : sp_is_ratio [x] h R (fun _ _ => False)) : b_is_ratio (ends (retG h R)) [some x, none, none] h := by
  obtain ⟨hx, hs, hb, q⟩ := q
  unfold b_is_ratio
  get_elem_tactic_trivial
  have no : isR x = false → retG h R (.bl false) h := fun e => retG_of (by rw [← e]; exact q)
  cases x with
  | tup xs =>
    get_elem_tactic_trivial
    match xs, hs, hb, q, no with
    | [], _, _, _, no => simpa using no (isR_len _ (by simp))
    | [_], _, _, _, no => simpa using no (isR_len _ (by simp))
    | _ :: _ :: _ :: r, _, _, _, no =>
      have e : ¬ ((r.length : Int) + 1 + 1 + 1 = 2) := by omega
      simpa [e] using no (isR_len _ (by simp))
    | [y, z], hs, hb, q, no =>
      have sy := hs _ rfl y (by simp)
      have sz := hs _ rfl z (by simp)
      get_elem_tactic_trivial
      refine ⟨sy, ?_⟩
      cases y with
      | int n =>
        simp only [isI]
        get_elem_tactic_trivial
        refine ⟨sz, ?_⟩
        cases z with
        | int d =>
          simp only [isI]
          get_elem_tactic_trivial
          have e : isR (.tup [.int n, .int d]) = (decide (1 ≤ d) && decide (n.natAbs.gcd d.natAbs = 1)) := rfl
          by_cases hd : 1 ≤ d
          · rw [if_pos hd]
            have e2 : (((n.natAbs.gcd d.natAbs : Nat) : Int) == 1) = isR (.tup [.int n, .int d]) := by
              rw [e, decide_eq_true hd, Bool.true_and]
              exact beq_dec _
            rw [e2]
            exact retG_of q
          · rw [if_neg hd]
            exact no (by rw [e, decide_eq_false hd]; rfl)
        | _ =>
          simp only [isI]
          get_elem_tactic_trivial
          exact no rfl
      | _ =>
        simp only [isI]
        get_elem_tactic_trivial
        exact no (by cases z <;> rfl)
  | ref n =>
    have e : h[n]? = some h[n] := List.getElem?_eq_getElem hx
    simp only [instR, tyName, e]
    cases h[n] <;> exact no rfl
  | ty n => exact hx.elim
  | _ => exact no rfl
theorem pure_law_lt (x y : AV) (h : AH) (R : AK) (c1 : clH h) (c2 : clBs h.length [x, y] = true) (q : sp_law_lt [x, y] h R (fun _ _ => False)) : b_law_lt (ends (retG h R)) [some x, some y] h := by
  obtain ⟨a, b, rfl, rfl, hs, q⟩ := q
  have t : Two a b := ⟨hs⟩
  unfold b_law_lt rat
  get_elem_tactic_trivial
  refine ⟨t.nd, t.dn, retG_of ?_⟩
  have lt : decide (a < b) = decide (a.num * b.den < b.num * a.den) := by simp only [Rat.lt_iff]
  rw [← lt]
  exact q
theorem dat_rat (n : Nat) (q : Rat) : dat (n + 2) (rat q) = true := rfl
end AL

/-! AX: more operations over plain data: slices, more methods and built-ins. -/
namespace AL
open PySem
abbrev ATO := ASt → AH → (Option Int → AH → Prop) → Prop
def noneT : ATO := fun _ h Q => Q none h
def someT (te : ATE) : ATO := fun a h Q => te a h fun x h1 => match x with
  | .int i => Q (some i) h1
  | _ => False
def sixA (n d : Nat) : Option Int → Nat
  | none => d
  | some v => if v < 0 then (v + (n : Int)).toNat else min v.toNat n
def cutA {α : Type} (xs : List α) (lo hi : Option Int) : List α := (xs.drop (sixA xs.length 0 lo)).take (sixA xs.length xs.length hi - sixA xs.length 0 lo)
def sliceR (x : AV) (lo hi : Option Int) (h : AH) (Q : AK) : Prop := match x with
  | .tup xs => Q (.tup (cutA xs lo hi)) h
  | .ref n => match h[n]? with
    | some (.lst xs) => Q (.ref h.length) (h ++ [.lst (cutA xs lo hi)])
    | _ => False
  | .rol xs => Q (.ref h.length) (h ++ [.lst (cutA xs lo hi)])
  | _ => False
def sliceT (te : ATE) (tl th : ATO) : ATE := fun a h Q => te a h fun x h1 => tl a h1 fun l h2 => th a h2 fun u h3 => sliceR x l u h3 Q
def reverseR : ARM
  | .ref n, [], h, Q => match h[n]? with
    | some (.lst xs) => Q .non (h.set n (.lst xs.reverse))
    | _ => False
  | _, _, _, _ => False
def popR : ARM
  | .ref n, [], h, Q => match h[n]? with
    | some (.lst xs) => (match xs[xs.length - 1]? with
      | some y => Q y (h.set n (.lst xs.dropLast))
      | none => False)
    | _ => False
  | _, _, _, _ => False
def extendR : ARM
  | .ref n, [.ref k], h, Q => match h[n]?, h[k]? with
    | some (.lst xs), some (.lst ys) => xs.length + ys.length ≤ 16777216 ∧ Q .non (h.set n (.lst (xs ++ ys)))
    | _, _ => False
  | _, _, _, _ => False
def max2R : ARL
  | [.int i, .int j], h, Q => Q (.int (if j > i then j else i)) h
  | _, _, _ => False
def min2R : ARL
  | [.int i, .int j], h, Q => Q (.int (if j < i then j else i)) h
  | _, _, _ => False
section
variable {n k : Nat} {h : AH} {Q : AK} {xs ys : List AV} {y : AV} {te : ATE} {tl th : ATO} {a : ASt} {i j : Int} {lo hi : Option Int} {O : Option Int → AH → Prop}
theorem e_reverse (e : h[n]? = some (.lst xs)) : reverseR (.ref n) [] h Q = Q .non (h.set n (.lst xs.reverse)) := by simp only [reverseR, e]
theorem e_pop (e : h[n]? = some (.lst xs)) (e2 : xs[xs.length - 1]? = some y) : popR (.ref n) [] h Q = Q y (h.set n (.lst xs.dropLast)) := by simp only [popR, e, e2]
theorem e_extend (e : h[n]? = some (.lst xs)) (e2 : h[k]? = some (.lst ys)) : extendR (.ref n) [.ref k] h Q = (xs.length + ys.length ≤ 16777216 ∧ Q .non (h.set n (.lst (xs ++ ys)))) := by simp only [extendR, e, e2]
theorem e_max2 : max2R [.int i, .int j] h Q = Q (.int (if j > i then j else i)) h := rfl
theorem e_min2 : min2R [.int i, .int j] h Q = Q (.int (if j < i then j else i)) h := rfl
theorem x_slice : sliceT te tl th a h Q = te a h fun x h1 => tl a h1 fun l h2 => th a h2 fun u h3 => sliceR x l u h3 Q := rfl
theorem x_oNone : noneT a h O = O none h := rfl
theorem x_oSome : someT te a h O = te a h fun x h1 => match x with
  | .int i => O (some i) h1
  | _ => False := rfl
theorem e_sl_tup : sliceR (.tup xs) lo hi h Q = Q (.tup (cutA xs lo hi)) h := rfl
theorem e_sl_rol : sliceR (.rol xs) lo hi h Q = Q (.ref h.length) (h ++ [.lst (cutA xs lo hi)]) := rfl
theorem e_sl_lst (e : h[n]? = some (.lst xs)) : sliceR (.ref n) lo hi h Q = Q (.ref h.length) (h ++ [.lst (cutA xs lo hi)]) := by simp only [sliceR, e]
end
theorem aeqs_self : ∀ (xs : List AV), (∀ x ∈ xs, aeq x x = true) → aeqs xs xs = true
  | [], _ => e_aeqs_nil
  | x :: r, h => by
    rw [e_aeqs_cons, h x (by simp), aeqs_self r fun y hy => h y (by simp [hy])]
    rfl
theorem aeq_self : ∀ (n : Nat) (x : AV), plainN n x = true → aeq x x = true
  | n, .tup xs, h => by
    rw [e_aeq_tup]
    cases n with
    | zero => cases h
    | succ n => exact aeqs_self xs fun y hy => aeq_self n y (List.all_eq_true.mp h y hy)
  | _, .non, _ => e_aeq_non
  | _, .bl b, _ => by
    rw [e_aeq_bl]
    exact beq_self_eq_true b
  | _, .int i, _ => by
    rw [e_aeq_int]
    exact beq_self_eq_true i
  | _, .str x, _ => by
    rw [e_aeq_str]
    exact beq_self_eq_true x
  | n, .ref _, h => by cases n <;> cases h
  | n, .ty _, h => by cases n <;> cases h
  | n, .rol _, h => by cases n <;> cases h
/-- equal pairs by place -/
theorem zp_get : ∀ (xs ys : List AV) {i : Nat} {x : AV}, (zip2 xs ys)[i]? = some x → ∃ a b, xs[i]? = some a ∧ ys[i]? = some b ∧ x = .tup [a, b]
  | [], ys, _, _, h => by cases ys <;> cases h
  | _ :: _, [], _, _, h => by cases h
  | a :: r, b :: t, 0, x, h => ⟨a, b, rfl, rfl, (Option.some.inj h).symm⟩
  | a :: r, b :: t, i + 1, x, h => zp_get r t h
theorem zp2_len : ∀ (xs ys : List AV), xs.length = ys.length → (zip2 xs ys).length = xs.length
  | [], ys, _ => by cases ys <;> rfl
  | _ :: _, [], e => by cases e
  | a :: r, b :: t, e => by
    show (zip2 r t).length + 1 = r.length + 1
    rw [zp2_len r t (Nat.succ.inj e)]
theorem cutA_from {α : Type} (xs : List α) (k : Nat) : cutA xs (some (k : Int)) none = xs.drop k := by
  unfold cutA sixA
  simp only
  rw [if_neg (by omega), Int.toNat_natCast]
  by_cases h : k ≤ xs.length
  · rw [Nat.min_eq_left h]
    exact List.take_of_length_le (by rw [List.length_drop]; omega)
  · rw [Nat.min_eq_right (by omega), Nat.sub_self, List.take_zero, List.drop_eq_nil_of_le (by omega)]
theorem cutA_to {α : Type} (xs : List α) (k : Nat) : cutA xs none (some (k : Int)) = xs.take k := by
  unfold cutA sixA
  simp only
  rw [if_neg (by omega), Int.toNat_natCast, List.drop_zero, Nat.sub_zero]
  by_cases h : k ≤ xs.length
  · rw [Nat.min_eq_left h]
  · rw [Nat.min_eq_right (by omega), List.take_of_length_le (Nat.le_refl _), List.take_of_length_le (by omega)]
/-- zip of two, each a list or a tuple -/
def iZipMT (ta : ATA) : ATI := fun a h R => ta a h fun vs h1 => match vs with
  | [x, y] => (match seqOf x h1, seqOf y h1 with
    | some xs, some ys => R (zip2 xs ys) (fun h => seqOf x h = some xs ∧ seqOf y h = some ys) h1
    | _, _ => False)
  | _ => False
theorem x_zipM {ta : ATA} {a : ASt} {h : AH} {x y : AV} {xs ys : List AV} {R : List AV → (AH → Prop) → AH → Prop} (he : ∀ L : List AV → AH → Prop, ta a h L = L [x, y] h) (e1 : seqOf x h = some xs) (e2 : seqOf y h = some ys) : iZipMT ta a h R = R (zip2 xs ys) (fun h => seqOf x h = some xs ∧ seqOf y h = some ys) h := by
  unfold iZipMT
  rw [he]
  simp only [e1, e2]
/-- a list or a tuple that is walked -/
theorem x_iseq_of {te : ATE} {a : ASt} {h : AH} {x : AV} {xs : List AV} {R : List AV → (AH → Prop) → AH → Prop} (he : ∀ Q : AK, te a h Q = Q x h) (e : seqOf x h = some xs) (q : ∀ guard : AH → Prop, (∀ h', seqOf x h' = some xs → guard h') → R xs guard h) : iSeqT te a h R := by
  unfold iSeqT
  rw [he]
  cases x with
  | tup ys =>
    cases e
    exact q _ fun _ _ => trivial
  | rol ys =>
    cases e
    exact q _ fun _ _ => trivial
  | ref n =>
    simp only [seqOf] at e
    split at e
    · rename_i ys e1
      cases e
      simp only [e1]
      refine q _ fun h' z => ?_
      simp only [seqOf] at z
      split at z
      · rename_i zs e2
        cases z
        exact e2
      · cases z
    · cases e
  | _ => cases e
theorem seq_tup {xs : List AV} {h : AH} : seqOf (.tup xs) h = some xs := rfl
theorem seq_ref {n : Nat} {xs : List AV} {h : AH} (e : h[n]? = some (.lst xs)) : seqOf (.ref n) h = some xs := by simp only [seqOf, e]
/-- a comprehension over a list or a tuple, item for item, the heap left -/
theorem lcT_seq {te el : ATE} {g : ATG} {vs : List Nat} {a : ASt} {x : AV} {xs ys : List AV} {h : AH} {R : AK} (he : ∀ Q : AK, te a h Q = Q x h) (e : seqOf x h = some xs) (hl : xs.length = ys.length) (hz : xs.length ≤ 1000000)
    (hs : ∀ (i : Nat) z y acc (Q : AK), xs[i]? = some z → ys[i]? = some y → Q y (h ++ [.lst acc]) → g z (wipeA a vs) (h ++ [.lst acc]) fun a2 h3 => el a2 h3 Q)
    (q : R (.ref h.length) (h ++ [.lst ys])) : lcT (iSeqT te) g yesT el vs a h R := by
  cases x with
  | tup zs =>
    cases e
    exact lcT_map (h1 := h) (guard := fun _ => True) (fun K k => by unfold iSeqT; rw [he]; exact k) hl hz (fun _ => trivial) hs q
  | rol zs =>
    cases e
    exact lcT_map (h1 := h) (guard := fun _ => True) (fun K k => by unfold iSeqT; rw [he]; exact k) hl hz (fun _ => trivial) hs q
  | ref n =>
    have e1 : h[n]? = some (.lst xs) := by
      simp only [seqOf] at e
      split at e
      · rename_i ys e1
        cases e
        exact e1
      · cases e
    exact lcT_map (h1 := h) (guard := fun h' => h'[n]? = some (.lst xs)) (fun K k => by rw [x_iseq he e1]; exact k) hl hz (fun _ => get_old e1) hs q
  | _ => cases e
/-- what a grown heap keeps of a row -/
theorem seq_old {x : AV} {xs : List AV} {h r : AH} (e : seqOf x h = some xs) : seqOf x (h ++ r) = some xs := by
  cases x with
  | ref n =>
    simp only [seqOf] at e ⊢
    split at e
    · rename_i ys e1
      cases e
      rw [get_old e1]
    · cases e
  | _ => exact e
theorem tuple_seq {x : AV} {xs : List AV} {h : AH} {Q : AK} (e : seqOf x h = some xs) : tupleR [x] h Q = Q (.tup xs) h := by
  cases x with
  | tup ys => cases e; rfl
  | rol ys => cases e; rfl
  | ref n =>
    simp only [seqOf] at e
    split at e
    · rename_i ys e1
      cases e
      exact e_tuple_lst e1
    · cases e
  | _ => cases e
theorem list_seq {x : AV} {xs : List AV} {h : AH} {Q : AK} (e : seqOf x h = some xs) : listR [x] h Q = Q (.ref h.length) (h ++ [.lst xs]) := by
  cases x with
  | tup ys => cases e; rfl
  | rol ys => cases e; rfl
  | ref n =>
    simp only [seqOf] at e
    split at e
    · rename_i ys e1
      cases e
      exact e_list_lst e1
    · cases e
  | _ => cases e
/-- a comprehension, its items known -/
def lcB (g : ATG) (tt : ATT) (te : ATE) (vs : List Nat) (a : ASt) (R : AK) : List AV → (AH → Prop) → AH → Prop := fun items guard h1 => lcT (fun _ _ K => K items guard h1) g tt te vs a h1 R
theorem x_lcT {it : ATI} {g : ATG} {tt : ATT} {te : ATE} {vs : List Nat} {a : ASt} {h : AH} {R : AK} : lcT it g tt te vs a h R = it a h (lcB g tt te vs a R) := rfl
end AL

/-! AY: more operations over plain data: sums; loops that look at each item. -/
namespace AL
open PySem
def zsOf : List AV → Option (List Int)
  | [] => some []
  | .int i :: r => (zsOf r).map (i :: ·)
  | _ :: _ => none
theorem zsOf_ints : ∀ xs : List Int, zsOf (xs.map AV.int) = some xs
  | [] => rfl
  | x :: r => by
    show (zsOf (r.map AV.int)).map (x :: ·) = _
    rw [zsOf_ints r]
    rfl
def sumR : ARL
  | [.ref n], h, Q => match h[n]? with
    | some (.lst xs) => (match zsOf xs with
      | some is => Q (.int is.sum) h
      | none => False)
    | _ => False
  | _, _, _ => False
theorem e_sum {n : Nat} {xs : List Int} {h : AH} {Q : AK} (e : h[n]? = some (.lst (xs.map AV.int))) : sumR [.ref n] h Q = Q (.int xs.sum) h := by
  simp only [sumR, e, zsOf_ints]
theorem cutA_ft {α : Type} (xs : List α) (a b : Nat) : cutA xs (some (a : Int)) (some (b : Int)) = (xs.drop a).take (b - a) := by
  unfold cutA sixA
  simp only
  rw [if_neg (by omega), if_neg (by omega), Int.toNat_natCast, Int.toNat_natCast]
  by_cases h : a ≤ xs.length
  · rw [Nat.min_eq_left h]
    by_cases h2 : b ≤ xs.length
    · rw [Nat.min_eq_left h2]
    · rw [Nat.min_eq_right (by omega), List.take_of_length_le (by rw [List.length_drop]; omega), List.take_of_length_le (by rw [List.length_drop]; omega)]
  · rw [List.drop_eq_nil_of_le (as := xs) (i := a) (by omega), List.drop_eq_nil_of_le (by omega)]
    simp
theorem all_step {p : AV → Bool} {items : List AV} {i : Nat} {x : AV} (e : items[i]? = some x) (h : (items.take i).all p = true) (hx : p x = true) : (items.take (i + 1)).all p = true := by
  rw [List.take_add_one, e]
  simp [h, hx]
theorem all_bad {p : AV → Bool} {items : List AV} {i : Nat} {x : AV} (e : items[i]? = some x) (hx : p x = false) : items.all p = false := by
  rw [List.all_eq_false]
  exact ⟨x, List.mem_of_getElem? e, by rw [hx]; decide⟩
theorem all_end {p : AV → Bool} {items : List AV} (h : (items.take items.length).all p = true) : items.all p = true := by
  rw [List.take_length] at h
  exact h
end AL

/-! AZ: more operations over plain data: a row turned, a range as a list, two lists compared. -/
namespace AL
open PySem
/-- t[::-1] of a tuple -/
def revT (te tk : ATE) : ATE := fun a h Q => te a h fun x h1 => tk a h1 fun k h2 => match x, k with
  | .tup xs, .int (-1) => Q (.tup xs.reverse) h2
  | _, _ => False
/-- list(range(n)) -/
def lstRgT (te : ATE) : ATE := fun a h Q => te a h fun x h1 => match x with
  | .int n => 0 ≤ n ∧ n ≤ 1000000 ∧ Q (.ref h1.length) (h1 ++ [.lst (zrange 0 n.toNat)])
  | _ => False
/-- two lists of plain data, unlike -/
def neLR : AR2
  | .ref m, .ref n, h, Q => match h[m]?, h[n]? with
    | some (.lst xs), some (.lst ys) => xs.all (plainN 40) = true ∧ ys.all (plainN 40) = true ∧ Q (.bl (!aeqs xs ys)) h
    | _, _ => False
  | _, _, _, _ => False
theorem e_neL {m n : Nat} {xs ys : List AV} {h : AH} {Q : AK} (e1 : h[m]? = some (.lst xs)) (e2 : h[n]? = some (.lst ys)) : neLR (.ref m) (.ref n) h Q = (xs.all (plainN 40) = true ∧ ys.all (plainN 40) = true ∧ Q (.bl (!aeqs xs ys)) h) := by
  simp only [neLR, e1, e2]
theorem x_rev {te tk : ATE} {a : ASt} {h : AH} {Q : AK} : revT te tk a h Q = te a h fun x h1 => tk a h1 fun k h2 => match x, k with
  | .tup xs, .int (-1) => Q (.tup xs.reverse) h2
  | _, _ => False := rfl
theorem x_lstRg {te : ATE} {a : ASt} {h : AH} {Q : AK} : lstRgT te a h Q = te a h fun x h1 => match x with
  | .int n => 0 ≤ n ∧ n ≤ 1000000 ∧ Q (.ref h1.length) (h1 ++ [.lst (zrange 0 n.toNat)])
  | _ => False := rfl
end AL

/-! AL1: plain values and heaps stand for the layer's values and heaps; each rule of the layer lifted. -/
namespace AL
open PySem PySem.Spec PyProof.Rows L2

/-! ### a read-only list; what a value stands for -/
def SqR (K : PySem.W.Frag) (H : Hp) (a : Addr) (xs : List V) : Prop := (∃ o, H a = some (.frz o (.lst xs))) ∨ SqL K (fun _ => none) a xs
inductive Rep (K : PySem.W.Frag) (H : Hp) (m : List Addr) : V → AV → Prop
  | non : Rep K H m .non .non
  | bl (b : Bool) : Rep K H m (.bl b) (.bl b)
  | int (i : Int) : Rep K H m (.int i) (.int i)
  | str (x : Str) : Rep K H m (.str x) (.str x)
  | ty (n : String) : Rep K H m (.ty n) (.ty n)
  | ref {n : Nat} {p : Addr} : m[n]? = some p → Rep K H m (.ref p) (.ref n)
  | tup {p : Addr} {vs : List V} {xs : List AV} : SqT K H p vs → vs.length = xs.length → (∀ (i : Nat) v x, vs[i]? = some v → xs[i]? = some x → Rep K H m v x) → Rep K H m (.ref p) (.tup xs)
  | rol {p : Addr} {vs : List V} {xs : List AV} : SqR K H p vs → vs.length = xs.length → (∀ (i : Nat) v x, vs[i]? = some v → xs[i]? = some x → Rep K H m v x) → Rep K H m (.ref p) (.rol xs)
structure RepL (K : PySem.W.Frag) (H : Hp) (m : List Addr) (vs : List V) (xs : List AV) : Prop where
  len : vs.length = xs.length
  get : ∀ (i : Nat) v x, vs[i]? = some v → xs[i]? = some x → Rep K H m v x
structure RepS (K : PySem.W.Frag) (H : Hp) (m : List Addr) (σ : L2.St) (a : ASt) : Prop where
  len : σ.length = a.length
  get : ∀ (i : Nat) x, gv a i = some x → ∃ v, σ[i]? = some (some v) ∧ Rep K H m v x
def ORep (K : PySem.W.Frag) (H : Hp) (m : List Addr) (p : Addr) : AO → Prop
  | .lst xs => ∃ vs, H p = some (.lst vs) ∧ RepL K H m vs xs
  | .dct kvs => ∃ vs : List (Key × V), H p = some (.dK vs) ∧ vs.map (·.1) = kvs.map (·.1) ∧ RepL K H m (vs.map (·.2)) (kvs.map (·.2))
structure Rel (K : PySem.W.Frag) (H : Hp) (m : List Addr) (h : AH) : Prop where
  nd : m.Nodup
  len : m.length = h.length
  obj : ∀ (n : Nat) p o, m[n]? = some p → h[n]? = some o → ORep K H m p o
/-- what stays for ever -/
structure Grow (K : PySem.W.Frag) (H : Hp) (m : List Addr) (H' : Hp) (m' : List Addr) : Prop where
  tup : ∀ p vs, SqT K H p vs → SqT K H' p vs
  rol : ∀ p vs, SqR K H p vs → SqR K H' p vs
  pre : ∃ e, m' = m ++ e

section
variable {K : PySem.W.Frag} {H H' H'' : Hp} {m m' m'' : List Addr} {h h' : AH} {v : V} {x : AV} {vs : List V} {xs : List AV} {p : Addr} {o : HO} {n : Nat} {σ : L2.St} {a : ASt}
theorem Grow.refl : Grow K H m H m := ⟨fun _ _ h => h, fun _ _ h => h, [], (List.append_nil m).symm⟩
theorem Grow.trans (g : Grow K H m H' m') (g' : Grow K H' m' H'' m'') : Grow K H m H'' m'' :=
  ⟨fun p vs h => g'.tup p vs (g.tup p vs h), fun p vs h => g'.rol p vs (g.rol p vs h), by
    obtain ⟨e, rfl⟩ := g.pre
    obtain ⟨e', rfl⟩ := g'.pre
    exact ⟨e ++ e', List.append_assoc _ _ _⟩⟩
theorem Grow.at (g : Grow K H m H' m') (hn : m[n]? = some p) : m'[n]? = some p := by
  obtain ⟨e, rfl⟩ := g.pre
  rw [List.getElem?_append_left (by exact (List.getElem?_eq_some_iff.mp hn).1)]
  exact hn
theorem Rep.mono (g : Grow K H m H' m') (r : Rep K H m v x) : Rep K H' m' v x := by
  induction r with
  | non => exact .non
  | bl b => exact .bl b
  | int i => exact .int i
  | str y => exact .str y
  | ty n => exact .ty n
  | ref hn => exact .ref (g.at hn)
  | tup hs hl _ ih => exact .tup (g.tup _ _ hs) hl ih
  | rol hs hl _ ih => exact .rol (g.rol _ _ hs) hl ih
theorem RepL.mono (g : Grow K H m H' m') (r : RepL K H m vs xs) : RepL K H' m' vs xs := ⟨r.len, fun i v x h1 h2 => (r.get i v x h1 h2).mono g⟩
theorem RepS.mono (g : Grow K H m H' m') (r : RepS K H m σ a) : RepS K H' m' σ a := ⟨r.len, fun i x h => by
  obtain ⟨v, h1, h2⟩ := r.get i x h
  exact ⟨v, h1, h2.mono g⟩⟩
theorem ORep.mono {o : AO} (g : Grow K H m H' m') (e : H' p = H p) (r : ORep K H m p o) : ORep K H' m' p o := by
  cases o with
  | lst xs =>
    obtain ⟨vs, h1, h2⟩ := r
    exact ⟨vs, e.trans h1, h2.mono g⟩
  | dct kvs =>
    obtain ⟨vs, h1, h2, h3⟩ := r
    exact ⟨vs, e.trans h1, h2, h3.mono g⟩
theorem ORep.some_ {o : AO} (r : ORep K H m p o) : ∃ u, H p = some u := by
  cases o with
  | lst xs =>
    obtain ⟨vs, h1, _⟩ := r
    exact ⟨_, h1⟩
  | dct kvs =>
    obtain ⟨vs, h1, _⟩ := r
    exact ⟨_, h1⟩
theorem RepL.nil : RepL K H m [] [] := ⟨rfl, fun i v x h => by simp at h⟩
theorem RepL.cons (r : Rep K H m v x) (s : RepL K H m vs xs) : RepL K H m (v :: vs) (x :: xs) := ⟨by simp [s.len], fun i w y h1 h2 => by
  cases i with
  | zero =>
    simp at h1 h2
    subst h1 h2
    exact r
  | succ i => exact s.get i w y (by simpa using h1) (by simpa using h2)⟩
theorem RepL.nil_inv (r : RepL K H m vs []) : vs = [] := by
  have := r.len
  simpa using this
theorem RepL.cons_inv (r : RepL K H m vs (x :: xs)) : ∃ v ws, vs = v :: ws ∧ Rep K H m v x ∧ RepL K H m ws xs := by
  cases vs with
  | nil =>
    have := r.len
    simp at this
  | cons v ws => exact ⟨v, ws, rfl, r.get 0 v x rfl rfl, by simpa using r.len, fun i w y h1 h2 => r.get (i + 1) w y (by simpa using h1) (by simpa using h2)⟩
theorem RepL.append {ws : List V} {ys : List AV} (r : RepL K H m vs xs) (s : RepL K H m ws ys) : RepL K H m (vs ++ ws) (xs ++ ys) := ⟨by simp [r.len, s.len], fun i w y h1 h2 => by
  by_cases hi : i < vs.length
  · rw [List.getElem?_append_left hi] at h1
    rw [List.getElem?_append_left (by rw [← r.len]; exact hi)] at h2
    exact r.get i w y h1 h2
  · rw [List.getElem?_append_right (by omega)] at h1
    rw [List.getElem?_append_right (by rw [← r.len]; omega), ← r.len] at h2
    exact s.get _ w y h1 h2⟩
theorem RepL.set (r : RepL K H m vs xs) (s : Rep K H m v x) (j : Nat) : RepL K H m (vs.set j v) (xs.set j x) := ⟨by simp [r.len], fun i w y h1 h2 => by
  rw [List.getElem?_set] at h1 h2
  by_cases hj : j = i
  · subst hj
    rw [if_pos rfl] at h1 h2
    by_cases hl : j < vs.length
    · rw [if_pos hl] at h1
      rw [if_pos (by rw [← r.len]; exact hl)] at h2
      cases h1
      cases h2
      exact s
    · rw [if_neg hl] at h1
      cases h1
  · rw [if_neg hj] at h1 h2
    exact r.get i w y h1 h2⟩
theorem RepL.at (r : RepL K H m vs xs) {i : Nat} (hx : xs[i]? = some x) : ∃ v, vs[i]? = some v ∧ Rep K H m v x := by
  have hi : i < vs.length := by
    rw [r.len]
    exact (List.getElem?_eq_some_iff.mp hx).1
  exact ⟨vs[i], List.getElem?_eq_getElem hi, r.get i _ x (List.getElem?_eq_getElem hi) hx⟩
theorem RepL.at_v (r : RepL K H m vs xs) {i : Nat} (hv : vs[i]? = some v) : ∃ x, xs[i]? = some x ∧ Rep K H m v x := by
  have hi : i < xs.length := by
    rw [← r.len]
    exact (List.getElem?_eq_some_iff.mp hv).1
  exact ⟨xs[i], List.getElem?_eq_getElem hi, r.get i v _ hv (List.getElem?_eq_getElem hi)⟩
theorem SqR.sq (r : SqR K H p vs) : SqL K H p vs := by
  rcases r with ⟨o, r⟩ | (r | r)
  · exact .inl (.inr ⟨o, r⟩)
  · rcases r with r | ⟨o, r⟩ <;> cases r
  · exact .inr r

/-! ### the heap's steps -/
theorem Grow.upd (ht : ∀ ys, H p ≠ some (.tup ys)) (hf : ∀ b u, H p ≠ some (.frz b u)) (e : List Addr) : Grow K H m (upd H p o) (m ++ e) := by
  refine ⟨fun q ws r => ?_, fun q ws r => ?_, e, rfl⟩
  · rcases r with (r | ⟨b, r⟩) | r
    · exact .inl (.inl (by rw [upd_ne (by rintro rfl; exact ht _ r)]; exact r))
    · exact .inl (.inr ⟨b, by rw [upd_ne (by rintro rfl; exact hf _ _ r)]; exact r⟩)
    · exact .inr r
  · rcases r with ⟨b, r⟩ | r
    · exact .inl ⟨b, by rw [upd_ne (by rintro rfl; exact hf _ _ r)]; exact r⟩
    · exact .inr r
theorem Grow.new (hp : H p = none) (e : List Addr) : Grow K H m (L2.upd H p o) (m ++ e) := .upd (fun ys z => by rw [hp] at z; cases z) (fun b u z => by rw [hp] at z; cases z) e
theorem Rel.fresh (r : Rel K H m h) (hp : H p = none) : p ∉ m := fun hm => by
  obtain ⟨i, hi, rfl⟩ := List.getElem_of_mem hm
  have hl := r.len
  have hs := r.obj i m[i] h[i] (List.getElem?_eq_getElem hi) (List.getElem?_eq_getElem (by omega))
  obtain ⟨u, e⟩ := hs.some_
  rw [hp] at e
  cases e
/-- a new object that is not numbered (a tuple) -/
theorem Rel.off (r : Rel K H m h) (hp : H p = none) : Rel K (L2.upd H p o) m h := by
  refine ⟨r.nd, r.len, fun i q u h1 h2 => ?_⟩
  have g : Grow K H m (L2.upd H p o) m := by
    have := Grow.new (K := K) (m := m) (o := o) hp []
    rwa [List.append_nil] at this
  refine (r.obj i q u h1 h2).mono g (upd_ne ?_)
  rintro rfl
  exact r.fresh hp (List.mem_of_getElem? h1)
theorem Grow.off (hp : H p = none) : Grow K H m (L2.upd H p o) m := by
  have := Grow.new (K := K) (m := m) (o := o) hp []
  rwa [List.append_nil] at this
/-- a new numbered object -/
theorem Rel.push {ao : AO} (r : Rel K H m h) (hp : H p = none) (hob : ORep K (L2.upd H p o) (m ++ [p]) p ao) : Rel K (L2.upd H p o) (m ++ [p]) (h ++ [ao]) := by
  have hf := r.fresh hp
  refine ⟨?_, by simp [r.len], fun i q u h1 h2 => ?_⟩
  · rw [List.nodup_append]
    refine ⟨r.nd, by simp, fun b hb c hc => ?_⟩
    have : c = p := by simpa using hc
    subst this
    rintro rfl
    exact hf hb
  · by_cases hi : i < m.length
    · rw [List.getElem?_append_left hi] at h1
      rw [List.getElem?_append_left (by rw [← r.len]; exact hi)] at h2
      refine (r.obj i q u h1 h2).mono (Grow.new hp [p]) (upd_ne ?_)
      rintro rfl
      exact hf (List.mem_of_getElem? h1)
    · rw [List.getElem?_append_right (by omega)] at h1
      rw [List.getElem?_append_right (by rw [← r.len]; omega), ← r.len] at h2
      cases hk : i - m.length with
      | zero =>
        rw [hk] at h1 h2
        simp at h1 h2
        subst h1 h2
        exact hob
      | succ k =>
        rw [hk] at h1
        simp at h1
theorem Rel.pushL (r : Rel K H m h) (hp : H p = none) (hl : RepL K H m vs xs) : Rel K (L2.upd H p (.lst vs)) (m ++ [p]) (h ++ [.lst xs]) :=
  r.push hp ⟨vs, upd_same, hl.mono (.new hp [p])⟩
theorem Rel.last (r : Rel K H m h) : (m ++ [p])[h.length]? = some p := by
  rw [← r.len, List.getElem?_append_right (Nat.le_refl _), Nat.sub_self]
  rfl
/-- a numbered object changes -/
theorem Rel.write {ao ao' : AO} (r : Rel K H m h) (hn : m[n]? = some p) (ho : h[n]? = some ao) (g : Grow K H m (L2.upd H p o) m) (hob : ORep K (L2.upd H p o) m p ao') : Rel K (L2.upd H p o) m (h.set n ao') := by
  refine ⟨r.nd, by rw [List.length_set]; exact r.len, fun i q u h1 h2 => ?_⟩
  rw [List.getElem?_set] at h2
  by_cases hi : n = i
  · subst hi
    rw [hn] at h1
    cases h1
    rw [if_pos rfl, if_pos (List.getElem?_eq_some_iff.mp ho).1] at h2
    cases h2
    exact hob
  · rw [if_neg hi] at h2
    refine (r.obj i q u h1 h2).mono g (upd_ne ?_)
    rintro rfl
    exact hi (nodup_at r.nd hn h1)
where
  nodup_at {l : List Addr} {i j : Nat} {y : Addr} (nd : l.Nodup) (h1 : l[i]? = some y) (h2 : l[j]? = some y) : i = j := by
    obtain ⟨a1, e1⟩ := List.getElem?_eq_some_iff.mp h1
    obtain ⟨a2, e2⟩ := List.getElem?_eq_some_iff.mp h2
    exact (List.getElem_inj nd).mp (e1.trans e2.symm)
theorem Grow.lst (hp : H p = some (.lst vs)) : Grow K H m (L2.upd H p o) m := by
  have := Grow.upd (K := K) (m := m) (o := o) (p := p) (H := H) (fun ys z => by rw [hp] at z; cases z) (fun b u z => by rw [hp] at z; cases z) []
  rwa [List.append_nil] at this
theorem Grow.dK {kvs : List (Key × V)} (hp : H p = some (.dK kvs)) : Grow K H m (L2.upd H p o) m := by
  have := Grow.upd (K := K) (m := m) (o := o) (p := p) (H := H) (fun ys z => by rw [hp] at z; cases z) (fun b u z => by rw [hp] at z; cases z) []
  rwa [List.append_nil] at this
theorem Rel.lst (r : Rel K H m h) (rx : Rep K H m v (.ref n)) (e : h[n]? = some (.lst xs)) : ∃ p vs, v = .ref p ∧ m[n]? = some p ∧ H p = some (.lst vs) ∧ RepL K H m vs xs := by
  cases rx with
  | ref hn =>
    obtain ⟨vs, h1, h2⟩ := r.obj _ _ _ hn e
    exact ⟨_, vs, rfl, hn, h1, h2⟩
theorem Rel.dct {kvs : List (Sum Int Str × AV)} (r : Rel K H m h) (rx : Rep K H m v (.ref n)) (e : h[n]? = some (.dct kvs)) :
    ∃ p vs, v = .ref p ∧ m[n]? = some p ∧ H p = some (.dK vs) ∧ vs.map (·.1) = kvs.map (·.1) ∧ RepL K H m (vs.map (·.2)) (kvs.map (·.2)) := by
  cases rx with
  | ref hn =>
    obtain ⟨vs, h1, h2, h3⟩ := r.obj _ _ _ hn e
    exact ⟨_, vs, rfl, hn, h1, h2, h3⟩
theorem Rep.tup_inv (r : Rep K H m v (.tup xs)) : ∃ p vs, v = .ref p ∧ SqT K H p vs ∧ RepL K H m vs xs := by
  cases r with
  | tup hs hl hg => exact ⟨_, _, rfl, hs, hl, hg⟩
theorem Rep.rol_inv (r : Rep K H m v (.rol xs)) : ∃ p vs, v = .ref p ∧ SqR K H p vs ∧ RepL K H m vs xs := by
  cases r with
  | rol hs hl hg => exact ⟨_, _, rfl, hs, hl, hg⟩
theorem RepL.tup (hs : SqT K H p vs) (r : RepL K H m vs xs) : Rep K H m (.ref p) (.tup xs) := .tup hs r.len r.get
/-- slots -/
theorem gv_sv {x : Option AV} : ∀ {a : ASt} {i j : Nat}, gv (sv a i x) j = if i = j ∧ i < a.length then x else gv a j
  | [], i, j => by
    rw [if_neg (by simp)]
    rfl
  | y :: r, 0, 0 => by
    rw [if_pos ⟨rfl, by simp⟩]
    rfl
  | y :: r, 0, j + 1 => by
    rw [if_neg (by omega)]
    rfl
  | y :: r, i + 1, 0 => by
    rw [if_neg (by omega)]
    rfl
  | y :: r, i + 1, j + 1 => by
    show gv (sv r i x) j = if i + 1 = j + 1 ∧ i + 1 < r.length + 1 then x else gv r j
    rw [gv_sv]
    simp
theorem sv_len {x : Option AV} : ∀ {a : ASt} {i : Nat}, (sv a i x).length = a.length
  | [], _ => rfl
  | _ :: _, 0 => rfl
  | _ :: r, i + 1 => by
    show (sv r i x).length + 1 = r.length + 1
    rw [sv_len]
theorem RepS.set (r : RepS K H m σ a) (s : Rep K H m v x) (i : Nat) : RepS K H m (σ.set i (some v)) (sv a i (some x)) := by
  refine ⟨by rw [List.length_set, sv_len]; exact r.len, fun j y hy => ?_⟩
  rw [gv_sv] at hy
  rw [List.getElem?_set]
  by_cases hc : i = j ∧ i < a.length
  · obtain ⟨rfl, hl⟩ := hc
    rw [if_pos ⟨rfl, hl⟩] at hy
    cases hy
    exact ⟨v, by rw [if_pos rfl, if_pos (by rw [r.len]; exact hl)], s⟩
  · rw [if_neg hc] at hy
    obtain ⟨w, h1, h2⟩ := r.get j y hy
    refine ⟨w, ?_, h2⟩
    by_cases hi : i = j
    · subst hi
      exact absurd ⟨rfl, by rw [← r.len]; exact (List.getElem?_eq_some_iff.mp h1).1⟩ hc
    · rw [if_neg hi]
      exact h1
theorem RepS.unset (r : RepS K H m σ a) (i : Nat) : RepS K H m (σ.set i none) (sv a i none) := by
  refine ⟨by rw [List.length_set, sv_len]; exact r.len, fun j y hy => ?_⟩
  rw [gv_sv] at hy
  rw [List.getElem?_set]
  by_cases hc : i = j ∧ i < a.length
  · rw [if_pos hc] at hy
    cases hy
  · rw [if_neg hc] at hy
    obtain ⟨w, h1, h2⟩ := r.get j y hy
    refine ⟨w, ?_, h2⟩
    by_cases hi : i = j
    · subst hi
      exact absurd ⟨rfl, by rw [← r.len]; exact (List.getElem?_eq_some_iff.mp h1).1⟩ hc
    · rw [if_neg hi]
      exact h1
theorem RepS.wipe (r : RepS K H m σ a) : ∀ vs : List Nat, RepS K H m (L2.wipe σ vs) (wipeA a vs)
  | [] => r
  | w :: ws => (RepS.wipe r ws).unset w
end

/-! ### what follows, lifted -/
abbrev Lk (K : PySem.W.Frag) (H : Hp) (m : List Addr) (R : AK) (Q : VK) : Prop := ∀ H' m' h' v x, R x h' → Rel K H' m' h' → Rep K H' m' v x → Grow K H m H' m' → Q v H'
abbrev LkB (K : PySem.W.Frag) (H : Hp) (m : List Addr) (R : Bool → AH → Prop) (Q : Bool → Hp → Prop) : Prop := ∀ H' m' h' b, R b h' → Rel K H' m' h' → Grow K H m H' m' → Q b H'
abbrev LkA (K : PySem.W.Frag) (H : Hp) (m : List Addr) (R : List AV → AH → Prop) (Q : List V → Hp → Prop) : Prop := ∀ H' m' h' vs xs, R xs h' → Rel K H' m' h' → RepL K H' m' vs xs → Grow K H m H' m' → Q vs H'
abbrev LkN (K : PySem.W.Frag) (H : Hp) (m : List Addr) (R : ASt → AH → Prop) (Q : L2.St → Hp → Prop) : Prop := ∀ H' m' h' σ' a', R a' h' → Rel K H' m' h' → RepS K H' m' σ' a' → Grow K H m H' m' → Q σ' H'
abbrev LkH (K : PySem.W.Frag) (H : Hp) (m : List Addr) (R : AH → Prop) (Q : Hp → Prop) : Prop := ∀ H' m' h', R h' → Rel K H' m' h' → Grow K H m H' m' → Q H'
structure LkD (K : PySem.W.Frag) (H : Hp) (m : List Addr) (DA : AEnds) (D : Ends) : Prop where
  nx : LkN K H m DA.nx D.nx
  rt : Lk K H m DA.rt D.rt
  bk : LkN K H m DA.bk D.bk
  ct : LkN K H m DA.ct D.ct
section
variable {K : PySem.W.Frag} {H H' : Hp} {m m' : List Addr}
theorem Lk.on {R : AK} {Q : VK} (l : Lk K H m R Q) (g : Grow K H m H' m') : Lk K H' m' R Q := fun H2 m2 h2 v x r rl rp g2 => l H2 m2 h2 v x r rl rp (g.trans g2)
theorem LkB.on {R : Bool → AH → Prop} {Q : Bool → Hp → Prop} (l : LkB K H m R Q) (g : Grow K H m H' m') : LkB K H' m' R Q := fun H2 m2 h2 b r rl g2 => l H2 m2 h2 b r rl (g.trans g2)
theorem LkA.on {R : List AV → AH → Prop} {Q : List V → Hp → Prop} (l : LkA K H m R Q) (g : Grow K H m H' m') : LkA K H' m' R Q := fun H2 m2 h2 vs xs r rl rp g2 => l H2 m2 h2 vs xs r rl rp (g.trans g2)
theorem LkN.on {R : ASt → AH → Prop} {Q : L2.St → Hp → Prop} (l : LkN K H m R Q) (g : Grow K H m H' m') : LkN K H' m' R Q := fun H2 m2 h2 s a r rl rp g2 => l H2 m2 h2 s a r rl rp (g.trans g2)
theorem LkD.on {DA : AEnds} {D : Ends} (l : LkD K H m DA D) (g : Grow K H m H' m') : LkD K H' m' DA D := ⟨LkN.on l.nx g, Lk.on l.rt g, LkN.on l.bk g, LkN.on l.ct g⟩
end
/-! ### the judgements, lifted -/
def upE (K : PySem.W.Frag) (t : ATE) : TE := fun σ H Q => ∃ m h a R, Rel K H m h ∧ RepS K H m σ a ∧ t a h R ∧ Lk K H m R Q
def upT (K : PySem.W.Frag) (t : ATT) : TT := fun σ H Q => ∃ m h a R, Rel K H m h ∧ RepS K H m σ a ∧ t a h R ∧ LkB K H m R Q
def upA (K : PySem.W.Frag) (t : ATA) : TA := fun σ H Q => ∃ m h a R, Rel K H m h ∧ RepS K H m σ a ∧ t a h R ∧ LkA K H m R Q
def upS (K : PySem.W.Frag) (t : ATS) : TS := fun D σ H => ∃ m h a DA, Rel K H m h ∧ RepS K H m σ a ∧ t DA a h ∧ LkD K H m DA D
def upG (K : PySem.W.Frag) (t : ATG) : TG := fun v σ H Q => ∃ m h a x R, Rel K H m h ∧ RepS K H m σ a ∧ Rep K H m v x ∧ t x a h R ∧ LkN K H m R Q
def upGs (K : PySem.W.Frag) (t : ATGs) : TGs := fun vs σ H Q => ∃ m h a xs R, Rel K H m h ∧ RepS K H m σ a ∧ RepL K H m vs xs ∧ t xs a h R ∧ LkN K H m R Q
def up2 (K : PySem.W.Frag) (r : AR2) : R2 := fun x y H Q => ∃ m h ax ay R, Rel K H m h ∧ Rep K H m x ax ∧ Rep K H m y ay ∧ r ax ay h R ∧ Lk K H m R Q
def up1 (K : PySem.W.Frag) (r : AR1) : V → Hp → VK → Prop := fun x H Q => ∃ m h ax R, Rel K H m h ∧ Rep K H m x ax ∧ r ax h R ∧ Lk K H m R Q
def upL (K : PySem.W.Frag) (r : ARL) : List V → Hp → VK → Prop := fun xs H Q => ∃ m h as R, Rel K H m h ∧ RepL K H m xs as ∧ r as h R ∧ Lk K H m R Q
def upM (K : PySem.W.Frag) (r : ARM) : V → List V → Hp → VK → Prop := fun x xs H Q => ∃ m h ax as R, Rel K H m h ∧ Rep K H m x ax ∧ RepL K H m xs as ∧ r ax as h R ∧ Lk K H m R Q
def upB (K : PySem.W.Frag) (r : AV → AH → (Bool → AH → Prop) → Prop) : V → Hp → (Bool → Hp → Prop) → Prop := fun x H Q => ∃ m h ax R, Rel K H m h ∧ Rep K H m x ax ∧ r ax h R ∧ LkB K H m R Q
/-- a contract, lifted; an error that leaves is not spoken of -/
def upSp (K : PySem.W.Frag) (s : ASp) : Sp := fun vs H Q _ => ∃ m h xs R, Rel K H m h ∧ RepL K H m vs xs ∧ s xs h R (fun _ _ => False) ∧ Lk K H m R Q
abbrev AE (X : Cx) (e : Expr) (t : ATE) : Prop := PE X e (upE X.K t)
abbrev ATst (X : Cx) (e : Expr) (t : ATT) : Prop := PT X e (upT X.K t)
abbrev AA (X : Cx) (es : List Expr) (t : ATA) : Prop := PA X es (upA X.K t)
abbrev AS (X : Cx) (st : Stmt) (t : ATS) : Prop := PS X st (upS X.K t)
abbrev ASs (X : Cx) (st : List Stmt) (t : ATS) : Prop := PSs X st (upS X.K t)
abbrev AG (X : Cx) (tg : Expr) (t : ATG) : Prop := PG X tg (upG X.K t)
abbrev AGs (X : Cx) (tg : List Expr) (t : ATGs) : Prop := PGs X tg (upGs X.K t)
section
variable {X : Cx} {e : Expr}
theorem wkE {t t' : TE} (h : PE X e t) (w : ∀ σ H Q, t' σ H Q → t σ H Q) : PE X e t' := ⟨fun pins s σ H Q I q => h.run pins s σ H Q I (w σ H Q q)⟩
theorem wkT {t t' : TT} (h : PT X e t) (w : ∀ σ H Q, t' σ H Q → t σ H Q) : PT X e t' := ⟨fun pins s σ H Q I q => h.run pins s σ H Q I (w σ H Q q)⟩
theorem wkW {t t' : TT} (h : PW X e t) (w : ∀ σ H Q, t' σ H Q → t σ H Q) : PW X e t' := ⟨fun wh pins s σ H Q I q => h.run wh pins s σ H Q I (w σ H Q q)⟩
theorem wkA {es : List Expr} {t t' : TA} (h : PA X es t) (w : ∀ σ H Q, t' σ H Q → t σ H Q) : PA X es t' := ⟨fun pos pins s σ H Q I q => h.run pos pins s σ H Q I (w σ H Q q)⟩
theorem wkS {st : Stmt} {t t' : TS} (h : PS X st t) (w : ∀ D σ H, t' D σ H → t D σ H) : PS X st t' := ⟨fun pins s σ H D I q => h.run pins s σ H D I (w D σ H q)⟩
theorem wkSs {st : List Stmt} {t t' : TS} (h : PSs X st t) (w : ∀ D σ H, t' D σ H → t D σ H) : PSs X st t' := ⟨fun pins s σ H D I q => h.run pins s σ H D I (w D σ H q)⟩
theorem wkG {t t' : TG} (h : PG X e t) (w : ∀ v σ H Q, t' v σ H Q → t v σ H Q) : PG X e t' := ⟨fun pins s σ H v u Q I r q => h.run pins s σ H v u Q I r (w v σ H Q q)⟩
theorem wkGs {es : List Expr} {t t' : TGs} (h : PGs X es t) (w : ∀ v σ H Q, t' v σ H Q → t v σ H Q) : PGs X es t' := ⟨fun pins s σ H v u Q I r q => h.run pins s σ H v u Q I r (w v σ H Q q)⟩
end

/-! ### expressions -/
section
variable {X : Cx} {a b c e : Expr} {es : List Expr} {pos : Pos} {ta tb tc te : ATE} {tl : ATA} {tt uu : ATT}
theorem ae_var (i : Nat) {x : Str} (h : PE X (.Name x pos) (tVar i)) : AE X (.Name x pos) (varT i) := wkE h fun σ H Q ⟨m, h, a, R, rel, rs, q, lk⟩ => by
  unfold varT at q
  cases hg : gv a i with
  | none =>
    rw [hg] at q
    exact q.elim
  | some x =>
    rw [hg] at q
    obtain ⟨v, h1, h2⟩ := rs.get i x hg
    exact ⟨v, h1, lk _ _ _ _ _ q rel h2 .refl⟩
theorem ae_c {v : V} {x : AV} (h : PE X e (tC v)) (r : ∀ H m, Rep X.K H m v x) : AE X e (cT x) := wkE h fun σ H Q ⟨m, h, a, R, rel, rs, q, lk⟩ => lk _ _ _ _ _ q rel (r _ _) .refl
theorem ae_int {i j} : AE X (.Constant (.int i) j pos) (cT (.int i)) := ae_c pe_int fun _ _ => .int i
theorem ae_bl {i j} : AE X (.Constant (.bool i) j pos) (cT (.bl i)) := ae_c pe_bl fun _ _ => .bl i
theorem ae_non {j} : AE X (.Constant .none j pos) (cT .non) := ae_c pe_non fun _ _ => .non
theorem ae_str {i j} : AE X (.Constant (.str i) j pos) (cT (.str i)) := ae_c pe_str fun _ _ => .str i
theorem lift2 {r : AR2} {σ : L2.St} {H : Hp} {Q : VK} (q : upE X.K (opT r ta tb) σ H Q) : tOp (up2 X.K r) (upE X.K ta) (upE X.K tb) σ H Q := by
  obtain ⟨m, h, a, R, rel, rs, q, lk⟩ := q
  exact ⟨m, h, a, _, rel, rs, q, fun H1 m1 h1 v x q1 rel1 r1 g1 => ⟨m1, h1, a, _, rel1, rs.mono g1, q1, fun H2 m2 h2 w y q2 rel2 r2 g2 => ⟨m2, h2, x, y, R, rel2, r1.mono g2, r2, q2, Lk.on lk (g1.trans g2)⟩⟩⟩
theorem ae_op {op : Operator} {r : AR2} (ho : OpR X (binaryOp op) (up2 X.K r)) (ha : AE X a ta) (hb : AE X b tb) : AE X (.BinOp a op b pos) (opT r ta tb) := wkE (pe_op ho ha hb) fun _ _ _ q => lift2 q
theorem ae_cmp {op : CmpOp} {r : AR2} (ho : OpR X (compareOp op) (up2 X.K r)) (ha : AE X a ta) (hb : AE X b tb) (hm : behindInMarks op b = false) : AE X (.Compare a [op] [b] pos) (opT r ta tb) := wkE (pe_cmpR ho ha hb hm) fun _ _ _ q => lift2 q
theorem at_cmp {op : CmpOp} {r : AR2} (ho : OpR X (compareOp op) (up2 X.K r)) (ha : AE X a ta) (hb : AE X b tb) (hm : behindInMarks op b = false) : ATst X (.Compare a [op] [b] pos) (cmpT (opT r ta tb)) := wkT (pt_cmpR ho ha hb hm) fun σ H Q q => by
  obtain ⟨m, h, a, R, rel, rs, q, lk⟩ := q
  refine lift2 ⟨m, h, a, _, rel, rs, q, fun H1 m1 h1 v x q1 rel1 r1 g1 => ?_⟩
  cases r1 with
  | bl b => exact ⟨b, rfl, lk _ _ _ _ q1 rel1 g1⟩
  | _ => exact (show False from q1).elim
theorem ae_un {op : UnaryOp} {r : AR1} (ho : UnR X (unaryOp op) (up1 X.K r)) (ha : AE X a ta) : AE X (.UnaryOp op a pos) (unT r ta) := wkE (pe_un ho ha) fun σ H Q ⟨m, h, a, R, rel, rs, q, lk⟩ =>
  ⟨m, h, a, _, rel, rs, q, fun H1 m1 h1 v x q1 rel1 r1 g1 => ⟨m1, h1, x, R, rel1, r1, q1, Lk.on lk g1⟩⟩
theorem aa_nil : AA X [] nilT := wkA pa_nil fun σ H Q ⟨m, h, a, R, rel, rs, q, lk⟩ => lk _ _ _ _ _ q rel .nil .refl
theorem aa_cons (ha : AE X e te) (hr : AA X es tl) (hs : starEach (e :: es) X.env = (false, eval e X.env) :: starEach es X.env := by rfl) : AA X (e :: es) (consT te tl) := wkA (pa_cons ha hr hs) fun σ H Q ⟨m, h, a, R, rel, rs, q, lk⟩ =>
  ⟨m, h, a, _, rel, rs, q, fun H1 m1 h1 v x q1 rel1 r1 g1 => ⟨m1, h1, a, _, rel1, rs.mono g1, q1, fun H2 m2 h2 vs xs q2 rel2 r2 g2 => lk _ _ _ _ _ q2 rel2 (.cons (r1.mono g2) r2) (g1.trans g2)⟩⟩
theorem lenLe_le : ∀ {xs : List AV} {n : Nat}, lenLe xs n = true → xs.length ≤ n
  | [], _, _ => Nat.zero_le _
  | _ :: _, 0, h => by cases h
  | _ :: r, n + 1, h => Nat.succ_le_succ (lenLe_le (xs := r) (n := n) h)
theorem line64 : 64 ≤ sizeLine := by rw [sizeLine_eq]; decide
theorem ae_tup {k} (hl : AA X es tl) : AE X (.Tuple es k pos) (tupT tl) := wkE (pe_tup hl) fun σ H Q ⟨m, h, a, R, rel, rs, q, lk⟩ =>
  ⟨m, h, a, _, rel, rs, q, fun H1 m1 h1 vs xs q1 rel1 r1 g1 => ⟨by rw [r1.len]; exact Nat.le_trans (lenLe_le q1.1) line64, fun p hp =>
    lk _ _ _ _ _ q1.2 (rel1.off hp) (.tup (SqT.of upd_same) r1.len fun i v x e1 e2 => (r1.get i v x e1 e2).mono (.off hp)) (g1.trans (.off hp))⟩⟩
theorem ae_lst (hl : AA X es tl) : AE X (.List es pos) (lstT tl) := wkE (pe_lst hl) fun σ H Q ⟨m, h, a, R, rel, rs, q, lk⟩ =>
  ⟨m, h, a, _, rel, rs, q, fun H1 m1 h1 vs xs q1 rel1 r1 g1 => ⟨by rw [r1.len]; exact Nat.le_trans (lenLe_le q1.1) line64, fun p hp =>
    lk _ _ _ _ _ q1.2 (rel1.pushL hp r1) (.ref rel1.last) (g1.trans (.new hp [p]))⟩⟩
/-- calls -/
theorem ae_call {CX : CXT} {k : Nat} {f : Addr} {fd : FuncData} {ps : List Str} {s : ASp} {x : Str} {p : Pos} {E : XK} (F : FnOk X.prog X.w X.K X.mg X.base CX k f fd ps (upSp X.K s)) (hr : Room k X.A) (hg : Gl X x) (hm : X.mg x = some (.ref f))
    (hk : PySem.W.keepIn X.K (.ref f) = true) (hb : Binds X.K fd ps []) (hx : Passes CX X E) (ha : AA X (e :: es) tl) (hdb : (x == ("__debug__" : Str)) = false := by decide)
    (he : starEach (e :: es) X.env = (false, eval e X.env) :: starEach es X.env := by rfl) (hpl : (backTo pos (starEach es X.env)).any (·.1) = false := by rfl) :
    AE X (.Call (.Name x p) (e :: es) [] pos) (callT s (fun _ _ => False) tl) := wkE (pe_call F hr hg hm hk hb .nil hx ha hdb he hpl) fun σ H Q ⟨m, h, a, R, rel, rs, q, lk⟩ =>
  ⟨m, h, a, _, rel, rs, q, fun H1 m1 h1 vs xs q1 rel1 r1 g1 => ⟨m1, h1, xs, R, rel1, by rw [List.append_nil]; exact r1, q1, Lk.on lk g1⟩⟩
theorem ae_call0 {CX : CXT} {k : Nat} {f : Addr} {fd : FuncData} {ps : List Str} {s : ASp} {x : Str} {p : Pos} {E : XK} (F : FnOk X.prog X.w X.K X.mg X.base CX k f fd ps (upSp X.K s)) (hr : Room k X.A) (hg : Gl X x) (hm : X.mg x = some (.ref f))
    (hk : PySem.W.keepIn X.K (.ref f) = true) (hb : Binds X.K fd ps []) (hx : Passes CX X E) (hdb : (x == ("__debug__" : Str)) = false := by decide) :
    AE X (.Call (.Name x p) [] [] pos) (callT s (fun _ _ => False) nilT) := wkE (pe_call0 F hr hg hm hk hb .nil hx hdb) fun σ H Q ⟨m, h, a, R, rel, rs, q, lk⟩ =>
  ⟨m, h, [], R, rel, .nil, q, lk⟩
theorem liftCB {r : ARL} {σ : L2.St} {H : Hp} {Q : VK} (q : upE X.K (cbT r tl) σ H Q) : tCB (upL X.K r) (upA X.K tl) σ H Q := by
  obtain ⟨m, h, a, R, rel, rs, q, lk⟩ := q
  exact ⟨m, h, a, _, rel, rs, q, fun H1 m1 h1 vs xs q1 rel1 r1 g1 => ⟨m1, h1, xs, R, rel1, r1, q1, Lk.on lk g1⟩⟩
theorem ae_callB {id : String} {r : ARL} {x : Str} {p : Pos} (hc : CallR X (.builtin id) (upL X.K r)) (hg : Gl X x) (hm : X.mg x = none) (hv : bootBuiltins x = some (.builtin id)) (ha : AA X (e :: es) tl) (hn : x ≠ "__name__" := by decide) (hdb : (x == ("__debug__" : Str)) = false := by decide)
    (he : starEach (e :: es) X.env = (false, eval e X.env) :: starEach es X.env := by rfl) (hpl : (backTo pos (starEach es X.env)).any (·.1) = false := by rfl) : AE X (.Call (.Name x p) (e :: es) [] pos) (cbT r tl) :=
  wkE (pe_callB hc hg hm hv ha hn hdb he hpl) fun _ _ _ q => liftCB q
theorem ae_callTy {T : String} {r : ARL} {x : Str} {p : Pos} (hc : CallR X (.type T) (upL X.K r)) (hg : Gl X x) (hm : X.mg x = none) (hv : bootBuiltins x = some (.type T)) (ha : AA X (e :: es) tl) (hn : x ≠ "__name__" := by decide) (hdb : (x == ("__debug__" : Str)) = false := by decide)
    (he : starEach (e :: es) X.env = (false, eval e X.env) :: starEach es X.env := by rfl) (hpl : (backTo pos (starEach es X.env)).any (·.1) = false := by rfl) : AE X (.Call (.Name x p) (e :: es) [] pos) (cbT r tl) :=
  wkE (pe_callTy hc hg hm hv ha hn hdb he hpl) fun _ _ _ q => liftCB q
theorem ae_callBfun {id : String} {r : ARL} {x : Str} {p : Pos} (hc : CallR X (.builtin id) (upL X.K r)) (hg : Gl X x) (hm : X.mg x = some (.builtin id)) (ha : AA X (e :: es) tl) (hdb : (x == ("__debug__" : Str)) = false := by decide)
    (he : starEach (e :: es) X.env = (false, eval e X.env) :: starEach es X.env := by rfl) (hpl : (backTo pos (starEach es X.env)).any (·.1) = false := by rfl) : AE X (.Call (.Name x p) (e :: es) [] pos) (cbT r tl) :=
  wkE (pe_callBfun hc hg hm ha hdb he hpl) fun _ _ _ q => liftCB q
/-- a type's name as a value -/
theorem ae_ty {x : Str} {T : String} (hg : Gl X x) (hm : X.mg x = none) (hv : bootBuiltins x = some (.type T)) (hn : x ≠ "__name__" := by decide) (hd : (x == ("__debug__" : Str)) = false := by decide) : AE X (.Name x pos) (cT (.ty T)) :=
  ae_c (pe_bltn (v := .ty T) hg hm hv rfl hn hd) fun _ _ => .ty T
/-- a[b] -/
theorem ae_ix {r : AR2} (hr : IxR X (up2 X.K r)) (ha : AE X a ta) (hb : AE X b tb) (hs : PlainIx b) : AE X (.Subscript a b pos) (opT r ta tb) := wkE (pe_ix hr ha hb hs) fun _ _ _ q => lift2 q
/-- tests -/
theorem at_tru (hr : TruR X (upB X.K truR)) (ha : AE X a ta) (he : ∀ whole, isTrue a X.env whole = (do let v ← whole; standAt a.pos; holding [v] (truthy v)) := by intro _; rfl) : ATst X a (truT ta) := by
  refine ⟨fun pins s σ H Q I h => ?_⟩
  refine isTrue_plain (thn (ha.run pins s σ H (fun x H1 => upB X.K truR x H1 Q) I ?_) fun v s1 ⟨x, H1, I1, r1, q1⟩ => hr pins s1 σ H1 x v Q I1 r1 q1) (he _)
  obtain ⟨m, h, a, R, rel, rs, q, lk⟩ := h
  exact ⟨m, h, a, _, rel, rs, q, fun H1 m1 h1 v x q1 rel1 r1 g1 => ⟨m1, h1, x, R, rel1, r1, q1, LkB.on lk g1⟩⟩
theorem up_and {σ : L2.St} {H : Hp} {Q : Bool → Hp → Prop} (q : upT X.K (andT tt uu) σ H Q) : tAnd (upT X.K tt) (upT X.K uu) σ H Q := by
  obtain ⟨m, h, a, R, rel, rs, q, lk⟩ := q
  refine ⟨m, h, a, _, rel, rs, q, fun H1 m1 h1 b q1 rel1 g1 => ?_⟩
  cases b with
  | true =>
    rw [if_pos rfl] at q1 ⊢
    exact ⟨m1, h1, a, R, rel1, rs.mono g1, q1, LkB.on lk g1⟩
  | false =>
    rw [if_neg Bool.false_ne_true] at q1 ⊢
    exact lk _ _ _ _ q1 rel1 g1
theorem up_or {σ : L2.St} {H : Hp} {Q : Bool → Hp → Prop} (q : upT X.K (orT tt uu) σ H Q) : tOr (upT X.K tt) (upT X.K uu) σ H Q := by
  obtain ⟨m, h, a, R, rel, rs, q, lk⟩ := q
  refine ⟨m, h, a, _, rel, rs, q, fun H1 m1 h1 b q1 rel1 g1 => ?_⟩
  cases b with
  | true =>
    rw [if_pos rfl] at q1 ⊢
    exact lk _ _ _ _ q1 rel1 g1
  | false =>
    rw [if_neg Bool.false_ne_true] at q1 ⊢
    exact ⟨m1, h1, a, R, rel1, rs.mono g1, q1, LkB.on lk g1⟩
/-- and, or as tests: the last one, one ahead -/
theorem aw_and1 (ha : ATst X a tt) : PW X (.BoolOp .And [a] pos) (upT X.K tt) := pw_and1 ha
theorem aw_or1 (ha : ATst X a tt) : PW X (.BoolOp .Or [a] pos) (upT X.K tt) := pw_or1 ha
theorem aw_and {rest : List Expr} (ha : ATst X a tt) (hb : PW X (.BoolOp .And (b :: rest) pos) (upT X.K uu)) : PW X (.BoolOp .And (a :: b :: rest) pos) (upT X.K (andT tt uu)) := wkW (pw_and ha hb) fun _ _ _ q => up_and q
theorem aw_or {rest : List Expr} (ha : ATst X a tt) (hb : PW X (.BoolOp .Or (b :: rest) pos) (upT X.K uu)) : PW X (.BoolOp .Or (a :: b :: rest) pos) (upT X.K (orT tt uu)) := wkW (pw_or ha hb) fun _ _ _ q => up_or q
theorem at_w (h : PW X e (upT X.K tt)) : ATst X e tt := h.pt
theorem at_not (ha : ATst X a tt) : ATst X (.UnaryOp .Not a pos) (notT tt) := wkT (pt_not ha) fun σ H Q ⟨m, h, a, R, rel, rs, q, lk⟩ =>
  ⟨m, h, a, _, rel, rs, q, fun H1 m1 h1 b q1 rel1 g1 => lk _ _ _ _ q1 rel1 g1⟩
theorem bl_inv {H : Hp} {m : List Addr} {v : V} {x : AV} {h : AH} {R : Bool → AH → Prop} (r : Rep X.K H m v x) (q : blR x h R) : ∃ b, v = .bl b ∧ x = .bl b ∧ R b h := by
  cases r with
  | bl b => exact ⟨b, rfl, rfl, q⟩
  | _ => exact (show False from q).elim
theorem ae_one {op} (h : AE X a ta) : AE X (.BoolOp op [a] pos) ta := pe_one h
theorem ae_and {rest : List Expr} (ha : AE X a ta) (hb : AE X (.BoolOp .And (b :: rest) pos) tb) : AE X (.BoolOp .And (a :: b :: rest) pos) (andV ta tb) := wkE (pe_and ha hb) fun σ H Q ⟨m, h, a, R, rel, rs, q, lk⟩ => by
  refine ⟨m, h, a, _, rel, rs, q, fun H1 m1 h1 v x q1 rel1 r1 g1 => ?_⟩
  obtain ⟨c, rfl, rfl, q2⟩ := bl_inv r1 q1
  replace q1 := q2
  refine ⟨c, rfl, ?_⟩
  cases c with
  | true =>
    rw [if_pos rfl] at q1 ⊢
    exact ⟨m1, h1, a, R, rel1, rs.mono g1, q1, Lk.on lk g1⟩
  | false =>
    rw [if_neg Bool.false_ne_true] at q1 ⊢
    exact lk _ _ _ _ _ q1 rel1 (.bl false) g1
theorem ae_or {rest : List Expr} (ha : AE X a ta) (hb : AE X (.BoolOp .Or (b :: rest) pos) tb) : AE X (.BoolOp .Or (a :: b :: rest) pos) (orV ta tb) := wkE (pe_or ha hb) fun σ H Q ⟨m, h, a, R, rel, rs, q, lk⟩ => by
  refine ⟨m, h, a, _, rel, rs, q, fun H1 m1 h1 v x q1 rel1 r1 g1 => ?_⟩
  obtain ⟨c, rfl, rfl, q2⟩ := bl_inv r1 q1
  replace q1 := q2
  refine ⟨c, rfl, ?_⟩
  cases c with
  | true =>
    rw [if_pos rfl] at q1 ⊢
    exact lk _ _ _ _ _ q1 rel1 (.bl true) g1
  | false =>
    rw [if_neg Bool.false_ne_true] at q1 ⊢
    exact ⟨m1, h1, a, R, rel1, rs.mono g1, q1, Lk.on lk g1⟩
theorem ae_not (ha : AE X a ta) : AE X (.UnaryOp .Not a pos) (notV ta) := wkE (pe_not ha) fun σ H Q ⟨m, h, a, R, rel, rs, q, lk⟩ => by
  refine ⟨m, h, a, _, rel, rs, q, fun H1 m1 h1 v x q1 rel1 r1 g1 => ?_⟩
  obtain ⟨c, rfl, rfl, q2⟩ := bl_inv r1 q1
  replace q1 := q2
  exact ⟨c, rfl, lk _ _ _ _ _ q1 rel1 (.bl _) g1⟩
theorem ae_ifExp (hc : ATst X c tt) (ha : AE X a ta) (hb : AE X b tb) : AE X (.IfExp c a b pos) (ifT tt ta tb) := wkE (pe_ifExp hc ha hb) fun σ H Q ⟨m, h, a, R, rel, rs, q, lk⟩ => by
  refine ⟨m, h, a, _, rel, rs, q, fun H1 m1 h1 b q1 rel1 g1 => ?_⟩
  cases b with
  | true =>
    rw [if_pos rfl] at q1 ⊢
    exact ⟨m1, h1, a, R, rel1, rs.mono g1, q1, Lk.on lk g1⟩
  | false =>
    rw [if_neg Bool.false_ne_true] at q1 ⊢
    exact ⟨m1, h1, a, R, rel1, rs.mono g1, q1, Lk.on lk g1⟩
end
end AL

/-! AL2: the operators, subscripts, stores, built-ins and methods by plain values. -/
namespace AL
open PySem PySem.Spec PyProof.Rows L2
theorem line : (sizeLine : Nat) = 16777216 := sizeLine_eq
section
variable {X : Cx}
/-- a result that is no object -/
theorem fin0 {K : PySem.W.Frag} {H : Hp} {m : List Addr} {h : AH} {R : AK} {Q : VK} {v : V} {x : AV} (rel : Rel K H m h) (lk : Lk K H m R Q) (q : R x h) (r : Rep K H m v x) : Q v H := lk _ _ _ _ _ q rel r .refl
theorem addR_ref {n k : Nat} {h : AH} {R : AK} (q : addR (.ref n) (.ref k) h R) : ∃ xs ys, h[n]? = some (.lst xs) ∧ h[k]? = some (.lst ys) ∧ xs.length + ys.length ≤ 16777216 ∧ R (.ref h.length) (h ++ [.lst (xs ++ ys)]) := by
  simp only [addR] at q
  split at q
  · rename_i xs ys e1 e2
    exact ⟨xs, ys, e1, e2, q.1, q.2⟩
  · exact q.elim
theorem op_addA : OpR X (binaryOp .Add) (up2 X.K addR) := by
  intro pins s σ H x y v u Q I rx ry ⟨m, h, ax, ay, R, rel, r1, r2, q, lk⟩
  cases ax with
  | int i =>
    cases r1
    cases ay with
    | int j =>
      cases r2
      exact op_add pins s σ H _ _ v u Q I rx ry ⟨i, j, rfl, rfl, fin0 rel lk q (.int _)⟩
    | bl j =>
      cases r2
      refine op_add_ib pins s σ H _ _ v u Q I rx ry ⟨i, j, rfl, rfl, ?_⟩
      have e : b2i j = if j then 1 else 0 := by cases j <;> rfl
      rw [e]
      exact fin0 rel lk q (.int _)
    | _ => exact (show False from q).elim
  | str a =>
    cases r1
    cases ay with
    | str b =>
      cases r2
      obtain ⟨q1, q2⟩ := q
      exact op_add_str pins s σ H _ _ v u Q I rx ry ⟨a, b, rfl, rfl, by rw [line]; exact q1, fin0 rel lk q2 (.str _)⟩
    | _ => exact (show False from q).elim
  | tup xs =>
    cases ay with
    | tup ys =>
      obtain ⟨q1, q2⟩ := q
      obtain ⟨p, vs, rfl, hp, rp⟩ := r1.tup_inv
      obtain ⟨p', ws, rfl, hp', rp'⟩ := r2.tup_inv
      refine op_catA pins s σ H _ _ v u Q I rx ry ⟨p, p', vs, ws, rfl, rfl, hp, hp', by rw [rp.len, rp'.len, line]; exact q1, fun e => ?_, fun _ e => ?_, fun _ _ b hb => ?_⟩
      · subst e
        have := rp.len
        have e2 : xs = [] := by simpa using this.symm
        subst e2
        exact fin0 rel lk q2 (.tup hp' rp'.len rp'.get)
      · subst e
        have := rp'.len
        have e2 : ys = [] := by simpa using this.symm
        subst e2
        rw [List.append_nil] at q2
        exact fin0 rel lk q2 (.tup hp rp.len rp.get)
      · exact lk _ _ _ _ _ q2 (rel.off hb) (RepL.tup (SqT.of upd_same) ((rp.append rp').mono (.off hb))) (.off hb)
    | _ => exact (show False from q).elim
  | ref n =>
    cases ay with
    | ref k =>
      obtain ⟨xs, ys, e1, e2, q1, q2⟩ := addR_ref q
      obtain ⟨p, vs, rfl, _, hp, rp⟩ := rel.lst r1 e1
      obtain ⟨p', ws, rfl, _, hp', rp'⟩ := rel.lst r2 e2
      refine op_cat pins s σ H _ _ v u Q I rx ry ⟨p, p', vs, ws, rfl, rfl, hp, hp', by rw [rp.len, rp'.len, line]; exact q1, fun b hb => ?_⟩
      exact lk _ _ _ _ _ q2 (rel.pushL hb (rp.append rp')) (.ref rel.last) (.new hb [b])
    | _ => exact (show False from q).elim
  | _ => exact (show False from q).elim
/-- two ints in, a value out -/
theorem op_intsA {f : Value → Value → Sem Value} {r : AR2} {C : Int → Int → Prop} {g : Int → Int → V} {ga : Int → Int → AV} (ho : OpR X f (rI C g)) (hi : ∀ i j h R, r (.int i) (.int j) h R → C i j ∧ R (ga i j) h) (hn : ∀ x y h R, r x y h R → ∃ i j, x = .int i ∧ y = .int j)
    (hg : ∀ i j H m, Rep X.K H m (g i j) (ga i j)) : OpR X f (up2 X.K r) := by
  intro pins s σ H x y v u Q I rx ry ⟨m, h, ax, ay, R, rel, r1, r2, q, lk⟩
  obtain ⟨i, j, rfl, rfl⟩ := hn _ _ _ _ q
  obtain ⟨c, q⟩ := hi _ _ _ _ q
  cases r1
  cases r2
  exact ho pins s σ H _ _ v u Q I rx ry ⟨i, j, rfl, rfl, c, fin0 rel lk q (hg _ _ _ _)⟩
theorem op_ints0 {f : Value → Value → Sem Value} {r : AR2} {g : Int → Int → V} {ga : Int → Int → AV} (ho : OpR X f (rI0 g)) (hi : ∀ i j h R, r (.int i) (.int j) h R → R (ga i j) h) (hn : ∀ x y h R, r x y h R → ∃ i j, x = .int i ∧ y = .int j)
    (hg : ∀ i j H m, Rep X.K H m (g i j) (ga i j)) : OpR X f (up2 X.K r) := by
  intro pins s σ H x y v u Q I rx ry ⟨m, h, ax, ay, R, rel, r1, r2, q, lk⟩
  obtain ⟨i, j, rfl, rfl⟩ := hn _ _ _ _ q
  have q := hi _ _ _ _ q
  cases r1
  cases r2
  exact ho pins s σ H _ _ v u Q I rx ry ⟨i, j, rfl, rfl, fin0 rel lk q (hg _ _ _ _)⟩
theorem two_ints {r : AR2} (h : ∀ x y h R, r x y h R → match x, y with
    | .int _, .int _ => True
    | _, _ => False) : ∀ x y h R, r x y h R → ∃ i j, x = .int i ∧ y = .int j := fun x y hh R q => by
  have z := h x y hh R q
  cases x <;> cases y <;> first | exact ⟨_, _, rfl, rfl⟩ | exact (show False from z).elim
theorem op_subA : OpR X (binaryOp .Sub) (up2 X.K subR) := op_ints0 op_sub (fun _ _ _ _ q => q) (two_ints fun x y _ _ q => by cases x <;> cases y <;> first | trivial | exact q) fun _ _ _ _ => .int _
theorem op_mulB : OpR X (binaryOp .Mult) (rI mulOk fun i j => .int (i * j)) := by
  intro pins s σ H x y v u Q I rx ry ⟨i, j, e1, e2, c, q⟩
  rcases c with c | c
  · exact op_mul pins s σ H x y v u Q I rx ry ⟨i, j, e1, e2, c, q⟩
  · exact op_mulW pins s σ H x y v u Q I rx ry ⟨i, j, e1, e2, c, q⟩
theorem op_mulA : OpR X (binaryOp .Mult) (up2 X.K mulR) := op_intsA op_mulB (fun _ _ _ _ q => q) (two_ints fun x y _ _ q => by cases x <;> cases y <;> first | trivial | exact q) fun _ _ _ _ => .int _
theorem op_fdivA : OpR X (binaryOp .FloorDiv) (up2 X.K fdivR) := op_intsA op_fdivW (fun _ _ _ _ q => q) (two_ints fun x y _ _ q => by cases x <;> cases y <;> first | trivial | exact q) fun _ _ _ _ => .int _
theorem op_modA : OpR X (binaryOp .Mod) (up2 X.K modR) := op_intsA op_mod (fun _ _ _ _ q => q) (two_ints fun x y _ _ q => by cases x <;> cases y <;> first | trivial | exact q) fun _ _ _ _ => .int _
theorem op_powA : OpR X (binaryOp .Pow) (up2 X.K powR) := op_intsA op_pow (fun _ _ _ _ q => q) (two_ints fun x y _ _ q => by cases x <;> cases y <;> first | trivial | exact q) fun _ _ _ _ => .int _
theorem op_shlA : OpR X (binaryOp .LShift) (up2 X.K shlR) := op_intsA op_shl (fun _ _ _ _ q => q) (two_ints fun x y _ _ q => by cases x <;> cases y <;> first | trivial | exact q) fun _ _ _ _ => .int _
theorem op_leA : OpR X (compareOp .LtE) (up2 X.K leR) := op_ints0 op_le (fun _ _ _ _ q => q) (two_ints fun x y _ _ q => by cases x <;> cases y <;> first | trivial | exact q) fun _ _ _ _ => .bl _
theorem op_gtA : OpR X (compareOp .Gt) (up2 X.K gtR) := op_ints0 op_gt (fun _ _ _ _ q => q) (two_ints fun x y _ _ q => by cases x <;> cases y <;> first | trivial | exact q) fun _ _ _ _ => .bl _
theorem op_geA : OpR X (compareOp .GtE) (up2 X.K geR) := op_ints0 op_ge (fun _ _ _ _ q => q) (two_ints fun x y _ _ q => by cases x <;> cases y <;> first | trivial | exact q) fun _ _ _ _ => .bl _
theorem op_ltA : OpR X (compareOp .Lt) (up2 X.K ltR) := by
  intro pins s σ H x y v u Q I rx ry ⟨m, h, ax, ay, R, rel, r1, r2, q, lk⟩
  cases ax with
  | int i =>
    cases r1
    cases ay with
    | int j =>
      cases r2
      exact op_lt pins s σ H _ _ v u Q I rx ry ⟨i, j, rfl, rfl, fin0 rel lk q (.bl _)⟩
    | _ => exact (show False from q).elim
  | str a =>
    cases r1
    cases ay with
    | str b =>
      cases r2
      exact op_lt_str pins s σ H _ _ v u Q I rx ry ⟨a, b, rfl, rfl, fin0 rel lk q (.bl _)⟩
    | _ => exact (show False from q).elim
  | _ => exact (show False from q).elim
theorem un_negA : UnR X (unaryOp .USub) (up1 X.K negR) := by
  intro pins s σ H x v Q I rx ⟨m, h, ax, R, rel, r1, q, lk⟩
  cases ax with
  | int i =>
    cases r1
    exact un_neg pins s σ H _ v Q I rx ⟨i, rfl, fin0 rel lk q (.int _)⟩
  | _ => exact (show False from q).elim
theorem isNon_eq {K : PySem.W.Frag} {H : Hp} {m : List Addr} {v : V} {x : AV} (r : Rep K H m v x) : decide (v = .non) = isNon x := by
  cases r <;> first | rfl | exact decide_eq_false (fun z => nomatch z)
theorem op_isNA : OpR X (compareOp .Is) (up2 X.K isNR) := by
  intro pins s σ H x y v u Q I rx ry ⟨m, h, ax, ay, R, rel, r1, r2, q, lk⟩
  cases ay with
  | non =>
    cases r2
    refine op_isN pins s σ H _ _ v u Q I rx ry ⟨rfl, ?_⟩
    rw [isNon_eq r1]
    exact fin0 rel lk (show R (.bl (isNon ax)) h by cases ax <;> exact q) (.bl _)
  | _ => exact (show False by cases ax <;> exact q).elim
theorem op_notNA : OpR X (compareOp .IsNot) (up2 X.K notNR) := by
  intro pins s σ H x y v u Q I rx ry ⟨m, h, ax, ay, R, rel, r1, r2, q, lk⟩
  cases ay with
  | non =>
    cases r2
    refine op_notN pins s σ H _ _ v u Q I rx ry ⟨rfl, ?_⟩
    rw [isNon_eq r1]
    exact fin0 rel lk (show R (.bl (!isNon ax)) h by cases ax <;> exact q) (.bl _)
  | _ => exact (show False by cases ax <;> exact q).elim

/-! ### == of data -/
mutual
def toPy : AV → PyData
  | .bl b => .bool b
  | .int i => .int i
  | .str x => .str x
  | .tup xs => .tuple (toPys xs)
  | _ => .none
def toPys : List AV → List PyData
  | [] => []
  | x :: r => toPy x :: toPys r
end
theorem plain_tup {n : Nat} {xs : List AV} (h : plainN (n + 1) (.tup xs) = true) : ∀ x ∈ xs, plainN n x = true := by
  unfold plainN at h
  exact List.all_eq_true.mp h
theorem dp_all {K : PySem.W.Frag} {H : Hp} {m : List Addr} {n : Nat} (ih : ∀ (x : AV) (v : V), plainN n x = true → Rep K H m v x → Dp K H v (toPy x)) : ∀ (xs : List AV) (vs : List V), RepL K H m vs xs → (∀ x ∈ xs, plainN n x = true) → DpAll K H vs (toPys xs)
  | [], vs, r, _ => by
    rw [r.nil_inv]
    unfold toPys
    exact .nil
  | x :: xs, vs, r, hs => by
    obtain ⟨w, ws, rfl, r1, r2⟩ := r.cons_inv
    unfold toPys
    exact .cons (ih x w (hs x List.mem_cons_self) r1) (dp_all ih xs ws r2 fun y hy => hs y (List.mem_cons_of_mem _ hy))
theorem dp_of {K : PySem.W.Frag} {H : Hp} {m : List Addr} (n : Nat) : ∀ (x : AV) (v : V), plainN n x = true → Rep K H m v x → Dp K H v (toPy x) := by
  induction n with
  | zero =>
    intro x v h r
    cases r with
    | non => unfold toPy; exact .non
    | bl b => unfold toPy; exact .bl b
    | int b => unfold toPy; exact .int b
    | str b => unfold toPy; exact .str b
    | _ => exact absurd (show false = true from h) (by decide)
  | succ n ih =>
    intro x v h r
    cases r with
    | tup hs hl hg =>
      unfold toPy
      exact .tup hs (dp_all ih _ _ ⟨hl, hg⟩ (plain_tup h))
    | non => unfold toPy; exact .non
    | bl b => unfold toPy; exact .bl b
    | int b => unfold toPy; exact .int b
    | str b => unfold toPy; exact .str b
    | _ => exact absurd (show false = true from h) (by decide)
theorem lay_all {n : Nat} (ih : ∀ x : AV, plainN n x = true → (toPy x).canLay0 = true ∧ (toPy x).depth ≤ n) : ∀ xs : List AV, (∀ x ∈ xs, plainN n x = true) → PyData.canLayAll0 (toPys xs) = true ∧ PyData.depthAll (toPys xs) ≤ n
  | [], _ => by
    unfold toPys PyData.canLayAll0 PyData.depthAll
    exact ⟨rfl, Nat.zero_le _⟩
  | x :: xs, hs => by
    obtain ⟨h1, h2⟩ := ih x (hs x List.mem_cons_self)
    obtain ⟨h3, h4⟩ := lay_all ih xs fun y hy => hs y (List.mem_cons_of_mem _ hy)
    unfold toPys PyData.canLayAll0 PyData.depthAll
    rw [h1, h3]
    exact ⟨rfl, Nat.max_le.mpr ⟨h2, h4⟩⟩
theorem lay_of (n : Nat) : ∀ x : AV, plainN n x = true → (toPy x).canLay0 = true ∧ (toPy x).depth ≤ n := by
  induction n with
  | zero =>
    intro x h
    cases x with
    | non => unfold toPy PyData.canLay0 PyData.depth; exact ⟨rfl, Nat.le_refl _⟩
    | bl b => unfold toPy PyData.canLay0 PyData.depth; exact ⟨rfl, Nat.le_refl _⟩
    | int b => unfold toPy PyData.canLay0 PyData.depth; exact ⟨rfl, Nat.le_refl _⟩
    | str b => unfold toPy PyData.canLay0 PyData.depth; exact ⟨h, Nat.le_refl _⟩
    | _ => exact absurd (show false = true from h) (by decide)
  | succ n ih =>
    intro x h
    cases x with
    | tup xs =>
      obtain ⟨h1, h2⟩ := lay_all ih xs (plain_tup h)
      unfold toPy PyData.canLay0 PyData.depth
      exact ⟨h1, Nat.succ_le_succ h2⟩
    | non => unfold toPy PyData.canLay0 PyData.depth; exact ⟨rfl, Nat.zero_le _⟩
    | bl b => unfold toPy PyData.canLay0 PyData.depth; exact ⟨rfl, Nat.zero_le _⟩
    | int b => unfold toPy PyData.canLay0 PyData.depth; exact ⟨rfl, Nat.zero_le _⟩
    | str b => unfold toPy PyData.canLay0 PyData.depth; exact ⟨h, Nat.zero_le _⟩
    | _ => exact absurd (show false = true from h) (by decide)
theorem shaped_of {n : Nat} {x : AV} (hn : n ≤ 64) (h : plainN n x = true) : SeqAt.shaped (toPy x) = true := by
  obtain ⟨h1, h2⟩ := lay_of n x h
  unfold SeqAt.shaped
  rw [h1, decide_eq_true (Nat.le_trans h2 hn)]
  rfl
theorem eqv_all {n : Nat} (ih : ∀ x y : AV, plainN n x = true → plainN n y = true → PyData.eqv (toPy x) (toPy y) = aeq x y) : ∀ xs ys : List AV, (∀ x ∈ xs, plainN n x = true) → (∀ x ∈ ys, plainN n x = true) → PyData.eqvAll (toPys xs) (toPys ys) = aeqs xs ys
  | [], [], _, _ => by simp [toPys, PyData.eqvAll, aeqs]
  | [], y :: ys, _, _ => by simp [toPys, PyData.eqvAll, aeqs]
  | x :: xs, [], _, _ => by simp [toPys, PyData.eqvAll, aeqs]
  | x :: xs, y :: ys, h1, h2 => by
    have e1 := ih x y (h1 x List.mem_cons_self) (h2 y List.mem_cons_self)
    have e2 := eqv_all ih xs ys (fun z hz => h1 z (List.mem_cons_of_mem _ hz)) (fun z hz => h2 z (List.mem_cons_of_mem _ hz))
    simp only [toPys, PyData.eqvAll, aeqs, e1, e2]
theorem eqv_of (n : Nat) : ∀ x y : AV, plainN n x = true → plainN n y = true → PyData.eqv (toPy x) (toPy y) = aeq x y := by
  induction n with
  | zero =>
    intro x y h1 h2
    cases x <;> cases y <;> first | (exact absurd (show false = true from h1) (by decide)) | (exact absurd (show false = true from h2) (by decide)) | simp only [toPy, PyData.eqv, aeq]
  | succ n ih =>
    intro x y h1 h2
    cases x <;> cases y <;> first | (exact absurd (show false = true from h1) (by decide)) | (exact absurd (show false = true from h2) (by decide)) | (simp only [toPy, PyData.eqv, aeq]; done) | simp only [toPy, PyData.eqv, aeq]
    exact eqv_all ih _ _ (plain_tup h1) (plain_tup h2)
theorem op_eqA (hu : X.A.units + 64 < cLine) : OpR X (compareOp .Eq) (up2 X.K eqR) := by
  intro pins s σ H x y v u Q I rx ry ⟨m, h, ax, ay, R, rel, r1, r2, ⟨p1, p2, q⟩, lk⟩
  refine op_eqD hu pins s σ H _ _ v u Q I rx ry ⟨toPy ax, toPy ay, dp_of 40 _ _ p1 r1, dp_of 40 _ _ p2 r2, shaped_of (by decide) p1, shaped_of (by decide) p2, ?_⟩
  rw [eqv_of 40 _ _ p1 p2]
  exact fin0 rel lk q (.bl _)
theorem op_neA (hu : X.A.units + 64 < cLine) : OpR X (compareOp .NotEq) (up2 X.K neR) := by
  intro pins s σ H x y v u Q I rx ry ⟨m, h, ax, ay, R, rel, r1, r2, ⟨p1, p2, q⟩, lk⟩
  refine op_neD hu pins s σ H _ _ v u Q I rx ry ⟨toPy ax, toPy ay, dp_of 40 _ _ p1 r1, dp_of 40 _ _ p2 r2, shaped_of (by decide) p1, shaped_of (by decide) p2, ?_⟩
  rw [eqv_of 40 _ _ p1 p2]
  exact fin0 rel lk q (.bl _)

/-! ### items -/
theorem atI_of {α : Type} {xs : List α} {i : Int} {v : α} (h : atA xs i = some v) : atI xs i = some v := by
  cases i with
  | ofNat k => exact atI_nat (j := k) h
  | negSucc k =>
    have h : (if k < xs.length then xs[xs.length - 1 - k]? else none) = some v := h
    by_cases hk : k < xs.length
    · rw [if_pos hk] at h
      have e : ixN xs.length (Int.negSucc k) = some (xs.length - 1 - k) := by
        unfold ixN
        rw [if_neg (by omega), if_pos (by omega)]
        congr 1
        omega
      unfold atI
      rw [e]
      exact h
    · rw [if_neg hk] at h
      cases h
theorem atA_rep {K : PySem.W.Frag} {H : Hp} {m : List Addr} {vs : List V} {xs : List AV} {i : Int} {x : AV} (r : RepL K H m vs xs) (h : atA xs i = some x) : ∃ v, atI vs i = some v ∧ Rep K H m v x := by
  cases i with
  | ofNat k =>
    obtain ⟨v, h1, h2⟩ := r.at (i := k) h
    exact ⟨v, atI_nat (j := k) h1, h2⟩
  | negSucc k =>
    have h : (if k < xs.length then xs[xs.length - 1 - k]? else none) = some x := h
    by_cases hk : k < xs.length
    · rw [if_pos hk] at h
      obtain ⟨v, h1, h2⟩ := r.at h
      refine ⟨v, atI_of (i := Int.negSucc k) ?_, h2⟩
      show (if k < vs.length then vs[vs.length - 1 - k]? else none) = some v
      rw [r.len, if_pos hk]
      exact h1
    · rw [if_neg hk] at h
      cases h
theorem kvGet_rep {K : PySem.W.Frag} {H : Hp} {m : List Addr} (k : Key) : ∀ {vs : List (Key × V)} {xs : List (Sum Int Str × AV)}, vs.map (·.1) = xs.map (·.1) → RepL K H m (vs.map (·.2)) (xs.map (·.2)) →
    (valV vs k = none ∧ kvGet xs k = none) ∨ ∃ v x, valV vs k = some v ∧ kvGet xs k = some x ∧ Rep K H m v x
  | [], [], _, _ => .inl ⟨rfl, rfl⟩
  | [], _ :: _, h, _ => by simp at h
  | _ :: _, [], h, _ => by simp at h
  | (k1, v) :: vs, (k2, x) :: xs, h, r => by
    simp only [List.map_cons, List.cons.injEq] at h r
    obtain ⟨rfl, h⟩ := h
    obtain ⟨w, ws, e, r1, r2⟩ := r.cons_inv
    simp only [List.cons.injEq] at e
    obtain ⟨rfl, rfl⟩ := e
    have ih := kvGet_rep k h r2
    by_cases e : k1 = k
    · exact .inr ⟨v, x, valV_pos (p := (k1, v)) e, by simp [kvGet, List.find?_cons, e], r1⟩
    · rw [valV_neg (p := (k1, v)) e]
      have e2 : kvGet ((k1, x) :: xs) k = kvGet xs k := by simp [kvGet, List.find?_cons, e]
      rw [e2]
      exact ih
theorem ixL_inv {n : Nat} {k : AV} {h : AH} {R : AK} (q : ixR (.ref n) k h R) : (∃ xs i v, h[n]? = some (.lst xs) ∧ k = .int i ∧ atA xs i = some v ∧ R v h) ∨ ∃ kvs key v, h[n]? = some (.dct kvs) ∧ keyOf k = some key ∧ kvGet kvs key = some v ∧ R v h := by
  simp only [ixR] at q
  split at q
  · rename_i xs e
    split at q
    · rename_i i
      split at q
      · rename_i v e2
        exact .inl ⟨xs, i, v, e, rfl, e2, q⟩
      · exact q.elim
    · exact q.elim
  · rename_i kvs e
    split at q
    · rename_i key e1
      split at q
      · rename_i v e2
        exact .inr ⟨kvs, key, v, e, e1, e2, q⟩
      · exact q.elim
    · exact q.elim
  · exact q.elim
theorem ixT_inv {xs : List AV} {i : Int} {h : AH} {R : AK} (q : ixR (.tup xs) (.int i) h R) : ∃ v, atA xs i = some v ∧ R v h := by
  simp only [ixR] at q
  split at q
  · rename_i v e
    exact ⟨v, e, q⟩
  · exact q.elim
theorem ixRo_inv {xs : List AV} {i : Int} {h : AH} {R : AK} (q : ixR (.rol xs) (.int i) h R) : ∃ v, atA xs i = some v ∧ R v h := by
  simp only [ixR] at q
  split at q
  · rename_i v e
    exact ⟨v, e, q⟩
  · exact q.elim
theorem ixS_inv {z : Str} {i : Int} {h : AH} {R : AK} (q : ixR (.str z) (.int i) h R) : z.length ≤ 16777216 ∧ ∃ c, atA z.cps.toList i = some c ∧ R (.str ⟨#[c]⟩) h := by
  simp only [ixR] at q
  obtain ⟨q1, q⟩ := q
  split at q
  · rename_i v e
    exact ⟨q1, v, e, q⟩
  · exact q.elim
theorem key_rep {K : PySem.W.Frag} {H : Hp} {m : List Addr} {v : V} {x : AV} {k : Key} (r : Rep K H m v x) (e : keyOf x = some k) : v = kV k := by
  cases r with
  | int i => cases e; rfl
  | str i => cases e; rfl
  | _ => cases e
theorem ix_dict (hu : X.A.units + 1 < cLine) : IxR X (fun x y H Q => ∃ a v, x = V.ref a ∧ DGet H a y (some v) ∧ Q v H) := by
  intro value slice pins s σ H x y v u Q I rx ry ⟨a, w, ex, g, q⟩ hs
  subst ex
  obtain rfl : v = Value.ref a := rx
  exact tail_any (dict_typeIs I g) PySem.F.slot_dict_getitem.lookup (d_getItem (by omega) I g ry fun w' s3 I3 rw' => ⟨w, H, I3, rw', q⟩) hs
theorem ix_A (hu : X.A.units + 1 < cLine) : IxR X (up2 X.K ixR) := by
  intro value slice pins s σ H x y v u Q I rx ry ⟨m, h, ax, ay, R, rel, r1, r2, q, lk⟩ hs
  cases ax with
  | tup xs =>
    cases ay with
    | int i =>
      cases r2
      obtain ⟨z, e, q⟩ := ixT_inv q
      obtain ⟨p, vs, rfl, hp, rp⟩ := r1.tup_inv
      obtain ⟨w, e2, r3⟩ := atA_rep rp e
      exact ix_tup value slice pins s σ H _ _ v u Q I rx ry ⟨p, vs, i, w, rfl, rfl, hp, e2, fin0 rel lk q r3⟩ hs
    | _ => exact (show False from q).elim
  | rol xs =>
    cases ay with
    | int i =>
      cases r2
      obtain ⟨z, e, q⟩ := ixRo_inv q
      obtain ⟨p, vs, rfl, hp, rp⟩ := r1.rol_inv
      obtain ⟨w, e2, r3⟩ := atA_rep rp e
      exact ix_list value slice pins s σ H _ _ v u Q I rx ry ⟨p, vs, i, w, rfl, rfl, hp.sq, e2, fin0 rel lk q r3⟩ hs
    | _ => exact (show False from q).elim
  | str z =>
    cases r1
    cases ay with
    | int i =>
      cases r2
      obtain ⟨hz, c, e, q⟩ := ixS_inv q
      exact ix_str value slice pins s σ H _ _ v u Q I rx ry ⟨z, i, c, rfl, rfl, by rw [line]; exact hz, atI_of e, fin0 rel lk q (.str _)⟩ hs
    | _ => exact (show False from q).elim
  | ref n =>
    rcases ixL_inv q with ⟨xs, i, z, e, rfl, e1, q⟩ | ⟨kvs, key, z, e, e1, e2, q⟩
    · cases r2
      obtain ⟨p, vs, rfl, _, hp, rp⟩ := rel.lst r1 e
      obtain ⟨w, e2, r3⟩ := atA_rep rp e1
      exact ix_list value slice pins s σ H _ _ v u Q I rx ry ⟨p, vs, i, w, rfl, rfl, SqL.of hp, e2, fin0 rel lk q r3⟩ hs
    · obtain ⟨p, vs, rfl, _, hp, hk, rp⟩ := rel.dct r1 e
      rcases kvGet_rep key hk rp with ⟨z1, z2⟩ | ⟨w, z', z1, z2, r3⟩
      · rw [e2] at z2
        cases z2
      · rw [e2] at z2
        cases z2
        have ey := key_rep r2 e1
        subst ey
        exact ix_dict hu value slice pins s σ H _ _ v u Q I rx ry ⟨p, w, rfl, by rw [← z1]; exact DGet.k hp, fin0 rel lk q r3⟩ hs
  | _ => exact (show False from q).elim

/-! ### stores -/
theorem setR_inv {n : Nat} {k v : AV} {h : AH} {R : AH → Prop} (q : setR (.ref n) k v h R) : (∃ xs j, h[n]? = some (.lst xs) ∧ k = .int (.ofNat j) ∧ j < xs.length ∧ R (h.set n (.lst (xs.set j v)))) ∨
    ∃ kvs key, h[n]? = some (.dct kvs) ∧ keyOf k = some key ∧ kvs.length < 16777216 ∧ R (h.set n (.dct (kvPut kvs key v))) := by
  simp only [setR] at q
  split at q
  · rename_i xs e
    split at q
    · rename_i j
      exact .inl ⟨xs, j, e, rfl, q.1, q.2⟩
    · exact q.elim
  · rename_i kvs e
    split at q
    · rename_i key e1
      exact .inr ⟨kvs, key, e, e1, q.1, q.2⟩
    · exact q.elim
  · exact q.elim
theorem kvPut_rep {K : PySem.W.Frag} {H : Hp} {m : List Addr} (k : Key) {v : V} {x : AV} (rv : Rep K H m v x) {vs : List (Key × V)} {xs : List (Sum Int Str × AV)} (hk : vs.map (·.1) = xs.map (·.1)) (r : RepL K H m (vs.map (·.2)) (xs.map (·.2))) :
    (putK vs k v).map (·.1) = (kvPut xs k x).map (·.1) ∧ RepL K H m ((putK vs k v).map (·.2)) ((kvPut xs k x).map (·.2)) := by
  have ha : ∀ {vs : List (Key × V)} {xs : List (Sum Int Str × AV)}, vs.map (·.1) = xs.map (·.1) → (vs.any fun kv => decide (kv.1 = k)) = (xs.any fun kv => decide (kv.1 = k)) := by
    intro vs
    induction vs with
    | nil => intro xs h; cases xs with
      | nil => rfl
      | cons => simp at h
    | cons p vs ih => intro xs h; cases xs with
      | nil => simp at h
      | cons q xs =>
        simp only [List.map_cons, List.cons.injEq] at h
        rw [List.any_cons, List.any_cons, h.1, ih h.2]
  have hm : ∀ {vs : List (Key × V)} {xs : List (Sum Int Str × AV)}, vs.map (·.1) = xs.map (·.1) → RepL K H m (vs.map (·.2)) (xs.map (·.2)) →
      (vs.map fun kv => if kv.1 = k then (kv.1, v) else kv).map (·.1) = (xs.map fun kv => if kv.1 = k then (kv.1, x) else kv).map (·.1) ∧
      RepL K H m ((vs.map fun kv => if kv.1 = k then (kv.1, v) else kv).map (·.2)) ((xs.map fun kv => if kv.1 = k then (kv.1, x) else kv).map (·.2)) := by
    intro vs
    induction vs with
    | nil => intro xs h r; cases xs with
      | nil => exact ⟨rfl, .nil⟩
      | cons => simp at h
    | cons p vs ih => intro xs h r; cases xs with
      | nil => simp at h
      | cons q xs =>
        simp only [List.map_cons, List.cons.injEq] at h r
        obtain ⟨w, ws, e, r1, r2⟩ := r.cons_inv
        simp only [List.cons.injEq] at e
        obtain ⟨rfl, rfl⟩ := e
        obtain ⟨i1, i2⟩ := ih h.2 r2
        simp only [List.map_cons]
        have hq : q.1 = p.1 := h.1.symm
        by_cases e : p.1 = k
        · rw [if_pos e, if_pos (hq.trans e)]
          exact ⟨by rw [i1, hq], .cons rv i2⟩
        · rw [if_neg e, if_neg (by rw [hq]; exact e)]
          exact ⟨by rw [i1, hq], .cons r1 i2⟩
  unfold putK kvPut
  rw [ha hk]
  split
  · exact hm hk r
  · rw [List.map_append, List.map_append, List.map_append, List.map_append]
    exact ⟨by rw [hk]; rfl, r.append (.cons rv .nil)⟩
def upSet (K : PySem.W.Frag) (r : AV → AV → AV → AH → (AH → Prop) → Prop) : TSet := fun o i v H Q => ∃ m h ao ai av R, Rel K H m h ∧ Rep K H m o ao ∧ Rep K H m i ai ∧ Rep K H m v av ∧ r ao ai av h R ∧ LkH K H m R Q
theorem set_A (hu : X.A.units + 1 < cLine) : PSet X (upSet X.K setR) := by
  intro pins s σ H o i v ov iv u Q I ro ri rv ⟨m, h, ao, ai, av, R, rel, r1, r2, r3, q, lk⟩
  cases ao with
  | ref n =>
    rcases setR_inv q with ⟨xs, j, e, rfl, hj, q⟩ | ⟨kvs, key, e, ek, hz, q⟩
    · cases r2
      obtain ⟨p, vs, rfl, hn, hp, rp⟩ := rel.lst r1 e
      refine set_list pins s σ H _ _ _ ov iv u Q I ro ri rv ⟨p, vs, _, j, rfl, rfl, hp, ?_, ?_⟩
      · unfold ixN
        rw [rp.len, if_pos (show (0 : Int) ≤ Int.ofNat j from Int.natCast_nonneg j), if_pos (show Int.ofNat j < (xs.length : Int) by show (j : Int) < _; omega)]
        rfl
      · exact lk _ _ _ q (rel.write hn e (.lst hp) ⟨_, upd_same, (rp.set r3 j).mono (.lst hp)⟩) (.lst hp)
    · obtain ⟨p, vs, rfl, hn, hp, hk, rp⟩ := rel.dct r1 e
      have ey := key_rep r2 ek
      subst ey
      have hl : vs.length = kvs.length := by
        have := congrArg List.length hk
        simpa using this
      cases (show ov = Value.ref p from ro)
      refine d_setItem hu I (DPut.k hp (by rw [hl, line]; exact hz)) ri rv fun s' I' => ⟨_, I', ?_⟩
      obtain ⟨k1, k2⟩ := kvPut_rep key r3 hk rp
      exact lk _ _ _ q (rel.write hn e (.dK hp) ⟨_, upd_same, k1, k2.mono (.dK hp)⟩) (.dK hp)
  | _ => exact (show False from q).elim
/-- o[i] by values, for o[i] op= e -/
theorem get_A (hu : X.A.units + 1 < cLine) : PGet X (up2 X.K ixR) := by
  intro pins s σ H x y v u Q I rx ry ⟨m, h, ax, ay, R, rel, r1, r2, q, lk⟩
  cases ax with
  | ref n =>
    rcases ixL_inv q with ⟨xs, i, z, e, rfl, e1, q⟩ | ⟨kvs, key, z, e, e1, e2, q⟩
    · cases r2
      obtain ⟨p, vs, rfl, _, hp, rp⟩ := rel.lst r1 e
      obtain ⟨w, e2, r3⟩ := atA_rep rp e1
      cases (show v = Value.ref p from rx)
      obtain ⟨t, rfl⟩ := ry
      obtain ⟨its, r, pl, hz⟩ := I.list (SqL.of hp)
      obtain ⟨j, h1, h2, h3, h4, h5⟩ := atI_get e2
      obtain ⟨w', ew, rw'⟩ := r.get h2
      have hl := r.length
      have hn := line63
      have fin : EP X pins σ Q w' s := ⟨w, H, I, rw', fin0 rel lk q r3⟩
      by_cases h0 : 0 ≤ i
      · have hj : i.toNat = j := by
          rw [seqIndex_of h0 h5] at h1
          exact Option.some.inj h1
        exact wpAny_getItem_list pl.isList h0 (by omega) (by rw [hj]; simpa using ew) fin
      · have hj : (i + (its.toArray.size : Int)).toNat = j := by
          rw [seqIndex_neg (by omega) h4] at h1
          rw [List.size_toArray, ← hl]
          exact Option.some.inj h1
        exact wpAny_getItem_list_neg pl.isList (by omega) (by rw [List.size_toArray] <;> omega) (by omega) (by rw [hj]; simpa using ew) fin
    · obtain ⟨p, vs, rfl, _, hp, hk, rp⟩ := rel.dct r1 e
      rcases kvGet_rep key hk rp with ⟨z1, z2⟩ | ⟨w, z', z1, z2, r3⟩
      · rw [e2] at z2
        cases z2
      · rw [e2] at z2
        cases z2
        have ey := key_rep r2 e1
        subst ey
        cases (show v = Value.ref p from rx)
        exact d_getItem hu I (by rw [← z1]; exact DGet.k hp) ry fun w' s3 I3 rw' => ⟨w, H, I3, rw', fin0 rel lk q r3⟩
  | tup xs =>
    cases ay with
    | int i =>
      cases r2
      obtain ⟨z, e, q⟩ := ixT_inv q
      obtain ⟨p, vs, rfl, hp, rp⟩ := r1.tup_inv
      obtain ⟨w, e2, r3⟩ := atA_rep rp e
      cases (show v = Value.ref p from rx)
      obtain ⟨t, rfl⟩ := ry
      obtain ⟨its, r, pl, hz⟩ := I.tuple hp
      obtain ⟨j, h1, h2, h3, h4, h5⟩ := atI_get e2
      obtain ⟨w', ew, rw'⟩ := r.get h2
      have hl := r.length
      have hn := line63
      exact PyProof.Rows.getItem_tuple (j := j) pl (by omega) (by omega) (by rw [List.size_toArray, ← hl]; exact h1) (by simpa using ew) ⟨w, H, I, rw', fin0 rel lk q r3⟩
    | _ => exact (show False from q).elim
  | rol xs =>
    cases ay with
    | int i =>
      cases r2
      obtain ⟨z, e, q⟩ := ixRo_inv q
      obtain ⟨p, vs, rfl, hp, rp⟩ := r1.rol_inv
      obtain ⟨w, e2, r3⟩ := atA_rep rp e
      cases (show v = Value.ref p from rx)
      obtain ⟨t, rfl⟩ := ry
      obtain ⟨its, r, pl, hz⟩ := I.list hp.sq
      obtain ⟨j, h1, h2, h3, h4, h5⟩ := atI_get e2
      obtain ⟨w', ew, rw'⟩ := r.get h2
      have hl := r.length
      have hn := line63
      have fin : EP X pins σ Q w' s := ⟨w, H, I, rw', fin0 rel lk q r3⟩
      by_cases h0 : 0 ≤ i
      · have hj : i.toNat = j := by
          rw [seqIndex_of h0 h5] at h1
          exact Option.some.inj h1
        exact wpAny_getItem_list pl.isList h0 (by omega) (by rw [hj]; simpa using ew) fin
      · have hj : (i + (its.toArray.size : Int)).toNat = j := by
          rw [seqIndex_neg (by omega) h4] at h1
          rw [List.size_toArray, ← hl]
          exact Option.some.inj h1
        exact wpAny_getItem_list_neg pl.isList (by omega) (by rw [List.size_toArray] <;> omega) (by omega) (by rw [hj]; simpa using ew) fin
    | _ => exact (show False from q).elim
  | str z =>
    cases r1
    cases ay with
    | int i =>
      cases r2
      obtain ⟨hz, c, e, q⟩ := ixS_inv q
      have he := atI_of e
      obtain ⟨t, rfl⟩ := rx
      obtain ⟨t', rfl⟩ := ry
      obtain ⟨j, h1, h2, h3, h4, h5⟩ := atI_get he
      have hl : z.cps.toList.length = z.length := by simp [Str.length]
      rw [hl] at h1 h4 h5
      have hn := line63
      have hz' : z.length ≤ sizeLine := by rw [line]; exact hz
      exact getItem_str (c := c) (by
        have e1 : decide (i < -(2 ^ 63 : Int)) = false := decide_eq_false (by omega)
        have e2 : decide (i ≥ 2 ^ 63) = false := decide_eq_false (by omega)
        rw [e1, e2, Bool.or_false]) (by rw [h1]; simpa using h2) ⟨.str ⟨#[c]⟩, H, I.tok _, ⟨_, rfl⟩, fin0 rel lk q (.str _)⟩
    | _ => exact (show False from q).elim
  | _ => exact (show False from q).elim

/-! ### truth -/
theorem truR_inv {n : Nat} {h : AH} {R : Bool → AH → Prop} (q : truR (.ref n) h R) : (∃ xs, h[n]? = some (.lst xs) ∧ R (!xs.isEmpty) h) ∨ ∃ kvs, h[n]? = some (.dct kvs) ∧ R (!kvs.isEmpty) h := by
  simp only [truR] at q
  split at q
  · rename_i xs e
    exact .inl ⟨xs, e, q⟩
  · rename_i xs e
    exact .inr ⟨xs, e, q⟩
  · exact q.elim
theorem emp_rep {α β : Type} {vs : List α} {xs : List β} (h : vs.length = xs.length) : vs.isEmpty = xs.isEmpty := by
  cases vs <;> cases xs <;> first | rfl | simp at h
theorem tru_A : TruR X (upB X.K truR) := by
  intro pins s σ H x v Q I rx ⟨m, h, ax, R, rel, r1, q, lk⟩
  have go : ∀ k, TruV X.K x H k → Q k H → wpAny (model X.prog X.w) X.A (truthy v) (TP X pins σ Q) X.xe s := fun k e q => tru_ok pins s σ H x v Q I rx ⟨k, e, q⟩
  cases ax with
  | non => cases r1; exact go false rfl (lk _ _ _ _ q rel .refl)
  | bl b => cases r1; exact go b rfl (lk _ _ _ _ q rel .refl)
  | int b => cases r1; exact go _ rfl (lk _ _ _ _ q rel .refl)
  | str b =>
    cases r1
    obtain ⟨q1, q2⟩ := q
    have e : ((b.length : Int) != 0) = (b.length != 0) := by
      cases hb : b.length with
      | zero => rfl
      | succ k =>
        have h1 : (((k + 1 : Nat) : Int) != 0) = true := by
          rw [bne_iff_ne]
          omega
        rw [h1]
        rfl
    exact go _ ⟨by rw [line]; exact q1, rfl⟩ (by rw [e]; exact lk _ _ _ _ q2 rel .refl)
  | tup xs =>
    obtain ⟨p, vs, rfl, hp, rp⟩ := r1.tup_inv
    exact go _ (.inr (.inl ⟨vs, hp, rfl⟩)) (by rw [emp_rep rp.len]; exact lk _ _ _ _ q rel .refl)
  | rol xs =>
    obtain ⟨p, vs, rfl, hp, rp⟩ := r1.rol_inv
    exact go _ (.inl ⟨vs, hp.sq, rfl⟩) (by rw [emp_rep rp.len]; exact lk _ _ _ _ q rel .refl)
  | ref n =>
    rcases truR_inv q with ⟨xs, e, q⟩ | ⟨kvs, e, q⟩
    · obtain ⟨p, vs, rfl, _, hp, rp⟩ := rel.lst r1 e
      exact go _ (.inl ⟨vs, SqL.of hp, rfl⟩) (by rw [emp_rep rp.len]; exact lk _ _ _ _ q rel .refl)
    · obtain ⟨p, vs, rfl, _, hp, hk, rp⟩ := rel.dct r1 e
      exact go _ (.inr (.inr ⟨vs, hp, rfl⟩)) (by rw [emp_rep (by simpa using congrArg List.length hk)]; exact lk _ _ _ _ q rel .refl)
  | ty n => exact (show False from q).elim

/-! ### built-ins -/
theorem lenR_inv {n : Nat} {h : AH} {R : AK} (q : lenR [.ref n] h R) : (∃ xs, h[n]? = some (.lst xs) ∧ R (.int xs.length) h) ∨ ∃ kvs, h[n]? = some (.dct kvs) ∧ R (.int kvs.length) h := by
  simp only [lenR] at q
  split at q
  · rename_i xs e
    exact .inl ⟨xs, e, q⟩
  · rename_i xs e
    exact .inr ⟨xs, e, q⟩
  · exact q.elim
theorem one_inv {r : ARL} {xs : List AV} {h : AH} {R : AK} (q : r xs h R) (h0 : r [] h R → False) (h2 : ∀ x y t, r (x :: y :: t) h R → False) : ∃ x, xs = [x] := by
  match xs, q with
  | [], q => exact (h0 q).elim
  | [x], _ => exact ⟨x, rfl⟩
  | x :: y :: t, q => exact (h2 x y t q).elim
theorem call_lenA : CallR X (.builtin "len") (upL X.K lenR) := by
  intro pins s σ H xs us Q I rs ⟨m, h, as, R, rel, ra, q, lk⟩
  obtain ⟨x, rfl⟩ := one_inv q (fun z => z) (fun x y t z => by cases x <;> exact z)
  obtain ⟨v, ws, rfl, rv, rw⟩ := ra.cons_inv
  obtain rfl := rw.nil_inv
  cases x with
  | tup ys =>
    obtain ⟨p, vs, rfl, hp, rp⟩ := rv.tup_inv
    exact call_len_seq pins s σ H _ us Q I rs ⟨p, vs, rfl, .inr hp, by rw [rp.len]; exact fin0 rel lk q (.int _)⟩
  | rol ys =>
    obtain ⟨p, vs, rfl, hp, rp⟩ := rv.rol_inv
    exact call_len_seq pins s σ H _ us Q I rs ⟨p, vs, rfl, .inl hp.sq, by rw [rp.len]; exact fin0 rel lk q (.int _)⟩
  | str z =>
    cases rv
    obtain ⟨q1, q2⟩ := q
    exact call_len_str pins s σ H _ us Q I rs ⟨z, rfl, by rw [line]; exact q1, fin0 rel lk q2 (.int _)⟩
  | ref n =>
    rcases lenR_inv q with ⟨ys, e, q⟩ | ⟨kvs, e, q⟩
    · obtain ⟨p, vs, rfl, _, hp, rp⟩ := rel.lst rv e
      exact call_len_seq pins s σ H _ us Q I rs ⟨p, vs, rfl, .inl (SqL.of hp), by rw [rp.len]; exact fin0 rel lk q (.int _)⟩
    · obtain ⟨p, vs, rfl, _, hp, hk, rp⟩ := rel.dct rv e
      have hl : vs.length = kvs.length := by simpa using congrArg List.length hk
      exact call_lenD pins s σ H _ us Q I rs ⟨p, vs, rfl, hp, by rw [hl]; exact fin0 rel lk q (.int _)⟩
  | _ => exact (show False from q).elim
theorem call_absA : CallR X (.builtin "abs") (upL X.K absR) := by
  intro pins s σ H xs us Q I rs ⟨m, h, as, R, rel, ra, q, lk⟩
  obtain ⟨x, rfl⟩ := one_inv q (fun z => z) (fun x y t z => by cases x <;> exact z)
  obtain ⟨v, ws, rfl, rv, rw⟩ := ra.cons_inv
  obtain rfl := rw.nil_inv
  cases x with
  | int i =>
    cases rv
    exact call_abs pins s σ H _ us Q I rs ⟨i, rfl, fin0 rel lk q (.int _)⟩
  | _ => exact (show False from q).elim
theorem call_intA : CallR X (.type "int") (upL X.K intR) := by
  intro pins s σ H xs us Q I rs ⟨m, h, as, R, rel, ra, q, lk⟩
  obtain ⟨x, rfl⟩ := one_inv q (fun z => z) (fun x y t z => by cases x <;> exact z)
  obtain ⟨v, ws, rfl, rv, rw⟩ := ra.cons_inv
  obtain rfl := rw.nil_inv
  cases x with
  | int i =>
    cases rv
    exact call_int1 pins s σ H _ us Q I rs (.inl ⟨i, rfl, fin0 rel lk q (.int _)⟩)
  | bl i =>
    cases rv
    exact call_int1 pins s σ H _ us Q I rs (.inr ⟨i, rfl, fin0 rel lk q (.int _)⟩)
  | _ => exact (show False from q).elim
theorem call_strA : CallR X (.type "str") (upL X.K strR) := by
  intro pins s σ H xs us Q I rs ⟨m, h, as, R, rel, ra, q, lk⟩
  obtain ⟨x, rfl⟩ := one_inv q (fun z => z) (fun x y t z => by cases x <;> exact z)
  obtain ⟨v, ws, rfl, rv, rw⟩ := ra.cons_inv
  obtain rfl := rw.nil_inv
  cases x with
  | int i =>
    cases rv
    exact call_str_int pins s σ H _ us Q I rs ⟨i, rfl, q.1, fin0 rel lk q.2 (.str _)⟩
  | _ => exact (show False from q).elim
theorem two_inv {r : ARL} {xs : List AV} {h : AH} {R : AK} (q : r xs h R) (h0 : r [] h R → False) (h1 : ∀ x, r [x] h R → False) (h3 : ∀ x y z t, r (x :: y :: z :: t) h R → False) : ∃ x y, xs = [x, y] := by
  match xs, q with
  | [], q => exact (h0 q).elim
  | [x], q => exact (h1 x q).elim
  | [x, y], _ => exact ⟨x, y, rfl⟩
  | x :: y :: z :: t, q => exact (h3 x y z t q).elim
theorem call_gcdA : CallR X (.builtin "math.gcd") (upL X.K gcdR) := by
  intro pins s σ H xs us Q I rs ⟨m, h, as, R, rel, ra, q, lk⟩
  obtain ⟨x, y, rfl⟩ := two_inv q (fun z => z) (fun x z => by cases x <;> exact z) (fun x y z t w => by cases x <;> cases y <;> exact w)
  obtain ⟨v, ws, rfl, rv, rw⟩ := ra.cons_inv
  obtain ⟨v2, ws2, rfl, rv2, rw2⟩ := rw.cons_inv
  obtain rfl := rw2.nil_inv
  cases x with
  | int i =>
    cases y with
    | int j =>
      cases rv
      cases rv2
      exact cr_gcd pins s σ H _ us Q I rs ⟨i, j, rfl, fin0 rel lk q (.int _)⟩
    | _ => exact (show False from q).elim
  | _ => exact (show False by cases y <;> exact q).elim
theorem tupleR_inv {n : Nat} {h : AH} {R : AK} (q : tupleR [.ref n] h R) : ∃ xs, h[n]? = some (.lst xs) ∧ R (.tup xs) h := by
  simp only [tupleR] at q
  split at q
  · rename_i xs e
    exact ⟨xs, e, q⟩
  · exact q.elim
theorem call_tupleA : CallR X (.type "tuple") (upL X.K tupleR) := by
  intro pins s σ H xs us Q I rs ⟨m, h, as, R, rel, ra, q, lk⟩
  obtain ⟨x, rfl⟩ := one_inv q (fun z => z) (fun x y t z => by cases x <;> exact z)
  obtain ⟨v, ws, rfl, rv, rw⟩ := ra.cons_inv
  obtain rfl := rw.nil_inv
  cases x with
  | tup ys =>
    obtain ⟨p, vs, rfl, hp, rp⟩ := rv.tup_inv
    exact call_tuple_of pins s σ H _ us Q I rs ⟨p, vs, rfl, .inr ⟨hp, fin0 rel lk q rv⟩⟩
  | rol ys =>
    obtain ⟨p, vs, rfl, hp, rp⟩ := rv.rol_inv
    exact call_tuple_of pins s σ H _ us Q I rs ⟨p, vs, rfl, .inl ⟨hp.sq, fun l hl => lk _ _ _ _ _ q (rel.off hl) (RepL.tup (SqT.of upd_same) (rp.mono (.off hl))) (.off hl)⟩⟩
  | ref n =>
    obtain ⟨ys, e, q⟩ := tupleR_inv q
    obtain ⟨p, vs, rfl, _, hp, rp⟩ := rel.lst rv e
    exact call_tuple_of pins s σ H _ us Q I rs ⟨p, vs, rfl, .inl ⟨SqL.of hp, fun l hl => lk _ _ _ _ _ q (rel.off hl) (RepL.tup (SqT.of upd_same) (rp.mono (.off hl))) (.off hl)⟩⟩
  | _ => exact (show False from q).elim
theorem listR_inv {n : Nat} {h : AH} {R : AK} (q : listR [.ref n] h R) : ∃ xs, h[n]? = some (.lst xs) ∧ R (.ref h.length) (h ++ [.lst xs]) := by
  simp only [listR] at q
  split at q
  · rename_i xs e
    exact ⟨xs, e, q⟩
  · exact q.elim
theorem call_listA : CallR X (.type "list") (upL X.K listR) := by
  intro pins s σ H xs us Q I rs ⟨m, h, as, R, rel, ra, q, lk⟩
  obtain ⟨x, rfl⟩ := one_inv q (fun z => z) (fun x y t z => by cases x <;> exact z)
  obtain ⟨v, ws, rfl, rv, rw⟩ := ra.cons_inv
  obtain rfl := rw.nil_inv
  cases x with
  | tup ys =>
    obtain ⟨p, vs, rfl, hp, rp⟩ := rv.tup_inv
    exact call_list_of pins s σ H _ us Q I rs ⟨p, vs, rfl, .inr hp, fun l hl => lk _ _ _ _ _ q (rel.pushL hl rp) (.ref rel.last) (.new hl [l])⟩
  | rol ys =>
    obtain ⟨p, vs, rfl, hp, rp⟩ := rv.rol_inv
    exact call_list_of pins s σ H _ us Q I rs ⟨p, vs, rfl, .inl hp.sq, fun l hl => lk _ _ _ _ _ q (rel.pushL hl rp) (.ref rel.last) (.new hl [l])⟩
  | ref n =>
    obtain ⟨ys, e, q⟩ := listR_inv q
    obtain ⟨p, vs, rfl, _, hp, rp⟩ := rel.lst rv e
    exact call_list_of pins s σ H _ us Q I rs ⟨p, vs, rfl, .inl (SqL.of hp), fun l hl => lk _ _ _ _ _ q (rel.pushL hl rp) (.ref rel.last) (.new hl [l])⟩
  | _ => exact (show False from q).elim
theorem blsOf_rep {K : PySem.W.Frag} {H : Hp} {m : List Addr} : ∀ {vs : List V} {xs : List AV} {bs : List Bool}, RepL K H m vs xs → blsOf xs = some bs → vs = bs.map V.bl
  | vs, [], bs, r, e => by
    cases e
    exact r.nil_inv
  | vs, x :: xs, bs, r, e => by
    obtain ⟨w, ws, rfl, r1, r2⟩ := r.cons_inv
    cases x with
    | bl b =>
      cases r1
      simp only [blsOf] at e
      cases e2 : blsOf xs with
      | none => rw [e2] at e; cases e
      | some cs =>
        rw [e2] at e
        cases e
        rw [blsOf_rep r2 e2]
        rfl
    | _ => simp [blsOf] at e
theorem allR_inv {n : Nat} {h : AH} {R : AK} (q : allR [.ref n] h R) : ∃ xs bs, h[n]? = some (.lst xs) ∧ blsOf xs = some bs ∧ R (.bl (bs.all id)) h := by
  simp only [allR] at q
  split at q
  · rename_i xs e
    split at q
    · rename_i bs e2
      exact ⟨xs, bs, e, e2, q⟩
    · exact q.elim
  · exact q.elim
theorem anyR_inv {n : Nat} {h : AH} {R : AK} (q : anyR [.ref n] h R) : ∃ xs bs, h[n]? = some (.lst xs) ∧ blsOf xs = some bs ∧ R (.bl (bs.any id)) h := by
  simp only [anyR] at q
  split at q
  · rename_i xs e
    split at q
    · rename_i bs e2
      exact ⟨xs, bs, e, e2, q⟩
    · exact q.elim
  · exact q.elim
theorem call_allA (hc : X.calm = true) : CallR X (.builtin "all") (upL X.K allR) := by
  intro pins s σ H xs us Q I rs ⟨m, h, as, R, rel, ra, q, lk⟩
  obtain ⟨x, rfl⟩ := one_inv q (fun z => z) (fun x y t z => by cases x <;> exact z)
  obtain ⟨v, ws, rfl, rv, rw⟩ := ra.cons_inv
  obtain rfl := rw.nil_inv
  cases x with
  | ref n =>
    obtain ⟨ys, bs, e, e2, q⟩ := allR_inv q
    obtain ⟨p, vs, rfl, _, hp, rp⟩ := rel.lst rv e
    exact cr_all hc pins s σ H _ us Q I rs ⟨p, bs, rfl, by rw [← blsOf_rep rp e2]; exact SqL.of hp, fin0 rel lk q (.bl _)⟩
  | _ => exact (show False from q).elim
theorem call_anyA (hc : X.calm = true) : CallR X (.builtin "any") (upL X.K anyR) := by
  intro pins s σ H xs us Q I rs ⟨m, h, as, R, rel, ra, q, lk⟩
  obtain ⟨x, rfl⟩ := one_inv q (fun z => z) (fun x y t z => by cases x <;> exact z)
  obtain ⟨v, ws, rfl, rv, rw⟩ := ra.cons_inv
  obtain rfl := rw.nil_inv
  cases x with
  | ref n =>
    obtain ⟨ys, bs, e, e2, q⟩ := anyR_inv q
    obtain ⟨p, vs, rfl, _, hp, rp⟩ := rel.lst rv e
    exact cr_any hc pins s σ H _ us Q I rs ⟨p, bs, rfl, by rw [← blsOf_rep rp e2]; exact SqL.of hp, fin0 rel lk q (.bl _)⟩
  | _ => exact (show False from q).elim
/-! ### isinstance -/
theorem tyX_of {H : Hp} {m : List Addr} {h : AH} {v : V} {x : AV} {n : String} (rel : Rel X.K H m h) (r : Rep X.K H m v x) (e : tyName x h = some n) : TyX X.K H v (.type n) := by
  cases x with
  | non => cases r; cases e; exact .base .non
  | bl b => cases r; cases e; exact .base (.bl b)
  | int b => cases r; cases e; exact .base (.int b)
  | str b => cases r; cases e; exact .base (.str b)
  | tup xs =>
    cases e
    obtain ⟨p, vs, rfl, hp, rp⟩ := r.tup_inv
    rcases hp with (hp | ⟨o, hp⟩) | ⟨o, its, k, hk, hc, _⟩
    · exact .base (.tup hp)
    · exact .fTuple hp
    · exact .kTuple hk hc
  | rol xs =>
    cases e
    obtain ⟨p, vs, rfl, hp, rp⟩ := r.rol_inv
    rcases hp with ⟨o, hp⟩ | ((hp | ⟨o, hp⟩) | ⟨o, its, k, hk, hc, _⟩)
    · exact .base (.frz hp)
    · cases hp
    · cases hp
    · exact .kList hk hc
  | ref k =>
    simp only [tyName] at e
    split at e
    · rename_i xs e1
      cases e
      obtain ⟨p, vs, rfl, _, hp, rp⟩ := rel.lst r e1
      exact .base (.lst hp)
    · rename_i xs e1
      cases e
      obtain ⟨p, vs, rfl, _, hp, _⟩ := rel.dct r e1
      exact .base (.dK hp)
    · cases e
  | ty n => cases e
theorem kit_inst {n t : String} {b : Bool} (h : isInst n t = some b) : kitB n t = some b := by
  unfold isInst at h
  split at h <;> (repeat' split at h) <;> first
    | (cases h; done)
    | (cases h
       rename_i hh
       rcases hh with rfl | rfl | rfl | rfl | rfl | rfl <;> decide +kernel)
    | (cases h
       rename_i hh
       rcases hh with rfl | rfl | rfl | rfl | rfl <;> decide +kernel)
    | (cases h
       rename_i hh
       rcases hh with rfl | rfl | rfl | rfl <;> decide +kernel)
    | (cases h
       rename_i hh
       rcases hh with rfl | rfl <;> decide +kernel)
    | (cases h
       rename_i hh
       subst hh
       decide +kernel)
theorem instR_inv {x : AV} {t : String} {h : AH} {R : AK} (q : instR [x, .ty t] h R) : ∃ n b, tyName x h = some n ∧ isInst n t = some b ∧ R (.bl b) h := by
  simp only [instR] at q
  split at q
  · rename_i n e
    split at q
    · rename_i b e2
      exact ⟨n, b, e, e2, q⟩
    · exact q.elim
  · exact q.elim
theorem call_instA : CallR X (.builtin "isinstance") (upL X.K instR) := by
  intro pins s σ H xs us Q I rs ⟨m, h, as, R, rel, ra, q, lk⟩
  obtain ⟨x, y, rfl⟩ := two_inv q (fun z => z) (fun x z => by cases x <;> exact z) (fun x y z t w => by cases x <;> cases y <;> exact w)
  obtain ⟨v, ws, rfl, rv, rw⟩ := ra.cons_inv
  obtain ⟨v2, ws2, rfl, rv2, rw2⟩ := rw.cons_inv
  obtain rfl := rw2.nil_inv
  cases y with
  | ty t =>
    cases rv2
    obtain ⟨n, b, e, e2, q⟩ := instR_inv q
    exact call_isi pins s σ H _ us Q I rs ⟨v, .ty t, .type n, .type t, b, rfl, .ty t, tyX_of rel rv e, kit_ty (kit_inst e2), fin0 rel lk q (.bl _)⟩
  | _ => exact (show False by cases x <;> exact q).elim
end
end AL

/-! AL3: statements, targets, loops, comprehensions, methods; a def by its body. -/
namespace AL
open PySem PySem.Spec PyProof.Rows L2
section
variable {X : Cx} {e tg : Expr} {es : List Expr} {st : Stmt} {rest : List Stmt} {pos : Pos} {ta tb te : ATE} {tl : ATA} {tt : ATT} {t u tbd : ATS} {g : ATG} {gs : ATGs} {it : ATI}
/-! ### blocks -/
theorem ass_nil : ASs X [] nextT := wkSs pss_nil fun D σ H ⟨m, h, a, DA, rel, rs, q, lk⟩ => lk.nx _ _ _ _ _ q rel rs .refl
theorem lkSeq {K : PySem.W.Frag} {H : Hp} {m : List Addr} {DA : AEnds} {D : Ends} (lk : LkD K H m DA D) (u : ATS) : LkD K H m { DA with nx := u DA } { D with nx := upS K u D } :=
  ⟨fun H1 m1 h1 σ1 a1 q rel rs g => ⟨m1, h1, a1, DA, rel, rs, q, LkD.on lk g⟩, lk.rt, lk.bk, lk.ct⟩
theorem ass_cons (h1 : AS X st t) (h2 : ASs X rest u) : ASs X (st :: rest) (seqT t u) := wkSs (pss_cons h1 h2) fun D σ H ⟨m, h, a, DA, rel, rs, q, lk⟩ =>
  ⟨m, h, a, _, rel, rs, q, lkSeq lk u⟩
theorem ass_one (h1 : AS X st t) : ASs X [st] t := pss_one h1
theorem as_pass : AS X (.Pass pos) nextT := wkS ps_pass fun D σ H ⟨m, h, a, DA, rel, rs, q, lk⟩ => lk.nx _ _ _ _ _ q rel rs .refl
theorem as_break : AS X (.Break pos) brkT := wkS ps_break fun D σ H ⟨m, h, a, DA, rel, rs, q, lk⟩ => lk.bk _ _ _ _ _ q rel rs .refl
theorem as_cont : AS X (.Continue pos) contT := wkS ps_continue fun D σ H ⟨m, h, a, DA, rel, rs, q, lk⟩ => lk.ct _ _ _ _ _ q rel rs .refl
theorem as_expr (he : AE X e te) (hs : swapsWith e none pos.line X.env = pure false := by rfl) : AS X (.Expr e pos) (dropT te) := wkS (ps_expr he hs) fun D σ H ⟨m, h, a, DA, rel, rs, q, lk⟩ =>
  ⟨m, h, a, _, rel, rs, q, fun H1 m1 h1 v x q1 rel1 _ g1 => lk.nx _ _ _ _ _ q1 rel1 (rs.mono g1) g1⟩
theorem as_ret (he : AE X e te) : AS X (.Return (some e) pos) (retT te) := wkS (ps_ret he) fun D σ H ⟨m, h, a, DA, rel, rs, q, lk⟩ => ⟨m, h, a, _, rel, rs, q, lk.rt⟩
theorem as_retN : AS X (.Return none pos) retNT := wkS ps_retN fun D σ H ⟨m, h, a, DA, rel, rs, q, lk⟩ => lk.rt _ _ _ _ _ q rel .non .refl
theorem as_if {c : Expr} {p q : List Stmt} (hc : ATst X c tt) (ha : ASs X p t) (hb : ASs X q u) : AS X (.If c p q pos) (ifS tt t u) := wkS (ps_if hc ha hb) fun D σ H ⟨m, h, a, DA, rel, rs, q, lk⟩ => by
  refine ⟨m, h, a, _, rel, rs, q, fun H1 m1 h1 b q1 rel1 g1 => ?_⟩
  cases b with
  | true =>
    rw [if_pos rfl] at q1 ⊢
    exact ⟨m1, h1, a, DA, rel1, rs.mono g1, q1, LkD.on lk g1⟩
  | false =>
    rw [if_neg Bool.false_ne_true] at q1 ⊢
    exact ⟨m1, h1, a, DA, rel1, rs.mono g1, q1, LkD.on lk g1⟩
/-! ### targets -/
theorem ag_name {i : Nat} {x : Str} (hN : X.N.Nodup) (hi : X.N[i]? = some x) (hx : Loc X.env.scope x) (hf : X.fn x = true ∨ X.env.scope.names.lookup x = some .local := by first | exact .inl rfl | exact .inr rfl | assumption) : AG X (.Name x pos) (gNameT i) :=
  wkG (pg_name hN hi hx hf) fun v σ H Q ⟨m, h, a, x, R, rel, rs, rv, q, lk⟩ => lk _ _ _ _ _ q rel (rs.set rv i) .refl
theorem ags_nil : AGs X [] gNilT := wkGs pgs_nil fun vs σ H Q ⟨m, h, a, xs, R, rel, rs, rv, q, lk⟩ => by
  cases xs with
  | nil => exact ⟨rv.nil_inv, lk _ _ _ _ _ q rel rs .refl⟩
  | cons x xs => exact q.elim
theorem ags_cons (h1 : AG X e g) (h2 : AGs X es gs) (hs : (assignEach (e :: es) X.env).map (·.2) = assign e X.env :: (assignEach es X.env).map (·.2) := by rfl) : AGs X (e :: es) (gConsT g gs) := wkGs (pgs_cons h1 h2 hs) fun vs σ H Q ⟨m, h, a, xs, R, rel, rs, rv, q, lk⟩ => by
  cases xs with
  | nil => exact q.elim
  | cons x xs =>
    obtain ⟨v, ws, rfl, r1, r2⟩ := rv.cons_inv
    exact ⟨v, ws, rfl, m, h, a, x, _, rel, rs, r1, q, fun H1 m1 h1 σ1 a1 q1 rel1 rs1 g1 => ⟨m1, h1, a1, xs, R, rel1, rs1, r2.mono g1, q1, LkN.on lk g1⟩⟩
theorem ag_tup {k n : Nat} (hc : X.calm = true) (h : AGs X es gs) (hn : (assignEach es X.env).length = n := by rfl) (hst : (assignEach es X.env).findIdx? (·.1) = none := by rfl) : AG X (.Tuple es k pos) (gTupT n gs) :=
  wkG (pg_tup hc h hn hst) fun v σ H Q ⟨m, h, a, x, R, rel, rs, rv, q, lk⟩ => by
  cases x with
  | tup xs =>
    obtain ⟨q1, q2⟩ := q
    obtain ⟨p, vs, rfl, hp, rp⟩ := rv.tup_inv
    exact ⟨p, vs, rfl, hp, rp.len.trans q1, m, h, a, xs, R, rel, rs, rp, q2, lk⟩
  | _ => exact (show False from q).elim
theorem ag_sub {o i : Expr} (ho : AE X o ta) (hi : AE X i tb) (hs : PSet X (upSet X.K setR))
    (ha : ∀ v, assign (.Subscript o i pos) X.env v = (do
      let ov ← holding [v] (eval o X.env)
      let iv ← holding [v, ov] (eval i X.env)
      standAt pos
      holding [v, ov, iv] (setItem ov iv v)
      release [v, ov, iv] []) := by intro _; rfl) : AG X (.Subscript o i pos) (gSubT ta tb) :=
  wkG (pg_sub ho hi hs ha) fun v σ H Q ⟨m, h, a, x, R, rel, rs, rv, q, lk⟩ =>
  ⟨m, h, a, _, rel, rs, q, fun H1 m1 h1 w y q1 rel1 r1 g1 => ⟨m1, h1, a, _, rel1, rs.mono g1, q1, fun H2 m2 h2 w2 y2 q2 rel2 r2 g2 =>
    ⟨m2, h2, y, y2, x, _, rel2, r1.mono g2, r2, rv.mono (g1.trans g2), q2, fun H3 m3 h3 q3 rel3 g3 => lk _ _ _ _ _ q3 rel3 (rs.mono ((g1.trans g2).trans g3)) ((g1.trans g2).trans g3)⟩⟩⟩
/-! ### assignments -/
theorem as_asg (he : AE X e te) (hg : AG X tg g) (hs : swapsWithSole [tg] e pos.line X.env = pure false := by rfl) (hw : swappedStores [tg] e X.env = pure none := by rfl)
    (h1 : (assignEach [tg] X.env).map (·.2) = [assign tg X.env] := by rfl) : AS X (.Assign [tg] e pos) (asgT te g) := wkS (ps_asg he hg hs hw h1) fun D σ H ⟨m, h, a, DA, rel, rs, q, lk⟩ =>
  ⟨m, h, a, _, rel, rs, q, fun H1 m1 h1 v x q1 rel1 r1 g1 => ⟨m1, h1, a, x, _, rel1, rs.mono g1, r1, q1, LkN.on lk.nx g1⟩⟩
theorem as_set {i : Nat} {x : Str} {p : Pos} (hN : X.N.Nodup) (hi : X.N[i]? = some x) (hx : Loc X.env.scope x) (he : AE X e te) (hs : swapsWith e (some (.Name x p)) pos.line X.env = pure false := by rfl)
    (hf : X.fn x = true ∨ X.env.scope.names.lookup x = some .local := by first | exact .inl rfl | exact .inr rfl | assumption) : AS X (.Assign [.Name x p] e pos) (asgT te (gNameT i)) := wkS (ps_set hN hi hx he hs hf) fun D σ H ⟨m, h, a, DA, rel, rs, q, lk⟩ =>
  ⟨m, h, a, _, rel, rs, q, fun H1 m1 h1 v x q1 rel1 r1 g1 => lk.nx _ _ _ _ _ q1 rel1 ((rs.mono g1).set r1 i) g1⟩
theorem as_par {i j : Nat} {x y : Str} {a b : Expr} {px py pt : Pos} {kt k2 pt2} (hc : X.calm = true) (hN : X.N.Nodup) (hi : X.N[i]? = some x) (hj : X.N[j]? = some y) (hij : i ≠ j)
    (hx : X.env.scope.names.lookup x = some .local) (hy : X.env.scope.names.lookup y = some .local) (ha : AA X [a, b] tl)
    (hw : swappedStores [.Tuple [.Name x px, .Name y py] kt pt] (.Tuple [a, b] k2 pt2) X.env = pure (some [x, y]))
    (hs : swapsWithSole [.Tuple [.Name x px, .Name y py] kt pt] (.Tuple [a, b] k2 pt2) pos.line X.env = pure false := by rfl) :
    AS X (.Assign [.Tuple [.Name x px, .Name y py] kt pt] (.Tuple [a, b] k2 pt2) pos) (parT i j tl) := wkS (ps_par hc hN hi hj hij hx hy ha hw hs) fun D σ H ⟨m, h, a, DA, rel, rs, q, lk⟩ =>
  ⟨m, h, a, _, rel, rs, q, fun H1 m1 h1 vs xs q1 rel1 r1 g1 => by
    match xs, q1, r1 with
    | [x, y], q1, r1 =>
      obtain ⟨v, ws, rfl, r2, r3⟩ := r1.cons_inv
      obtain ⟨w, ws2, rfl, r4, r5⟩ := r3.cons_inv
      obtain rfl := r5.nil_inv
      exact ⟨v, w, rfl, lk.nx _ _ _ _ _ q1 rel1 (((rs.mono g1).set r2 i).set r4 j) g1⟩
    | [], q1, _ => exact q1.elim
    | [_], q1, _ => exact q1.elim
    | _ :: _ :: _ :: _, q1, _ => exact q1.elim⟩
theorem as_aug {i : Nat} {x : Str} {op : Operator} {r : AR2} {p : Pos} (hN : X.N.Nodup) (hi : X.N[i]? = some x) (hx : Loc X.env.scope x) (he : AE X e te) (ho : PIp X op (up2 X.K r))
    (hf : X.fn x = true ∨ X.env.scope.names.lookup x = some .local := by first | exact .inl rfl | exact .inr rfl | assumption) : AS X (.AugAssign (.Name x p) op e pos) (augT i te r) := wkS (ps_aug hN hi hx he ho hf) fun D σ H ⟨m, h, a, DA, rel, rs, q, lk⟩ => by
  unfold augT at q
  cases hg : gv a i with
  | none =>
    rw [hg] at q
    exact q.elim
  | some y =>
    rw [hg] at q
    obtain ⟨v, e1, r1⟩ := rs.get i y hg
    exact ⟨v, e1, m, h, a, _, rel, rs, q, fun H1 m1 h1 w z q1 rel1 r2 g1 => ⟨m1, h1, y, z, _, rel1, r1.mono g1, r2, q1, fun H2 m2 h2 w2 z2 q2 rel2 r3 g2 => lk.nx _ _ _ _ _ q2 rel2 ((rs.mono (g1.trans g2)).set r3 i) (g1.trans g2)⟩⟩
theorem as_augS {o i : Expr} {op : Operator} {r : AR2} {p : Pos} (ho : AE X o ta) (hi : AE X i tb) (hg : PGet X (up2 X.K ixR)) (he : AE X e te) (hp : PIp X op (up2 X.K r)) (hs : PSet X (upSet X.K setR))
    (ha : ∀ ov iv new, augStore i ov iv new = (do holding [new, ov, iv] (setItem ov iv new); release [new, ov, iv] []; pure .next) := by intros; rfl) : AS X (.AugAssign (.Subscript o i p) op e pos) (augST ta tb te r) :=
  wkS (ps_augS ho hi hg he hp hs ha) fun D σ H ⟨m, h, a, DA, rel, rs, q, lk⟩ =>
  ⟨m, h, a, _, rel, rs, q, fun H1 m1 h1 o1 x1 q1 rel1 r1 g1 => ⟨m1, h1, a, _, rel1, rs.mono g1, q1, fun H2 m2 h2 i2 x2 q2 rel2 r2 g2 => ⟨m2, h2, x1, x2, _, rel2, r1.mono g2, r2, q2, fun H3 m3 h3 v3 x3 q3 rel3 r3 g3 =>
    ⟨m3, h3, a, _, rel3, rs.mono ((g1.trans g2).trans g3), q3, fun H4 m4 h4 v4 x4 q4 rel4 r4 g4 => ⟨m4, h4, x3, x4, _, rel4, r3.mono g4, r4, q4, fun H5 m5 h5 v5 x5 q5 rel5 r5 g5 =>
      ⟨m5, h5, x1, x2, x5, _, rel5, r1.mono (((g2.trans g3).trans g4).trans g5), r2.mono ((g3.trans g4).trans g5), r5, q5, fun H6 m6 h6 q6 rel6 g6 =>
        lk.nx _ _ _ _ _ q6 rel6 (rs.mono (((((g1.trans g2).trans g3).trans g4).trans g5).trans g6)) (((((g1.trans g2).trans g3).trans g4).trans g5).trans g6)⟩⟩⟩⟩⟩⟩
theorem ip_addA : PIp X .Add (up2 X.K iaddR) := by
  intro pins s σ H x y v u Q I rx ry ⟨m, h, ax, ay, R, rel, r1, r2, q, lk⟩
  cases ax with
  | int i =>
    cases r1
    cases ay with
    | int j =>
      cases r2
      exact iop_add pins s σ H _ _ v u Q I rx ry ⟨i, j, rfl, rfl, fin0 rel lk q (.int _)⟩
    | _ => exact (show False from q).elim
  | str a =>
    cases r1
    cases ay with
    | str b =>
      cases r2
      obtain ⟨q1, q2⟩ := q
      exact iop_add_str pins s σ H _ _ v u Q I rx ry ⟨a, b, rfl, rfl, by rw [line]; exact q1, fin0 rel lk q2 (.str _)⟩
    | _ => exact (show False from q).elim
  | _ => exact (show False from q).elim
theorem ip_subA : PIp X .Sub (up2 X.K isubR) := op_ints0 iop_sub (fun _ _ _ _ q => q) (two_ints fun x y _ _ q => by cases x <;> cases y <;> first | trivial | exact q) fun _ _ _ _ => .int _
/-! ### methods -/
def upOk (K : PySem.W.Frag) (ok : AV → AH → Prop) (T : String) : Prop := ∀ H m h v x, Rel K H m h → Rep K H m v x → ok x h → tyV K T v H
theorem ae_bm {ok : AV → AH → Prop} {r : ARM} {T : String} {name : Str} {o : Expr} {apos : Pos} {ts : TA} (hok : upOk X.K ok T) (h : PE X (.Call (.Attribute o name apos) (e :: es) [] pos) (tBM X.K T (upM X.K r) (upE X.K ta) (upA X.K tl))) :
    AE X (.Call (.Attribute o name apos) (e :: es) [] pos) (mtT ok r ta tl) := wkE h fun σ H Q ⟨m, h, a, R, rel, rs, q, lk⟩ =>
  ⟨m, h, a, _, rel, rs, q, fun H1 m1 h1 v x q1 rel1 r1 g1 => ⟨hok H1 m1 h1 v x rel1 r1 q1.1, m1, h1, a, _, rel1, rs.mono g1, q1.2, fun H2 m2 h2 vs xs q2 rel2 r2 g2 => ⟨m2, h2, x, xs, R, rel2, r1.mono g2, r2, q2, Lk.on lk (g1.trans g2)⟩⟩⟩
theorem isLst_inv {x : AV} {h : AH} (q : isLst x h) : ∃ n xs, x = .ref n ∧ h[n]? = some (.lst xs) := by
  cases x with
  | ref n =>
    simp only [isLst] at q
    split at q
    · rename_i xs e
      exact ⟨n, xs, rfl, e⟩
    · exact q.elim
  | _ => exact (show False from q).elim
theorem ok_lst : upOk X.K isLst "list" := fun H m h v x rel r q => by
  obtain ⟨n, xs, rfl, e⟩ := isLst_inv q
  obtain ⟨p, vs, rfl, _, hp, _⟩ := rel.lst r e
  exact .inl ⟨rfl, vs, SqL.of hp⟩
theorem appendR_inv {n : Nat} {y : AV} {h : AH} {R : AK} (q : appendR (.ref n) [y] h R) : ∃ xs, h[n]? = some (.lst xs) ∧ xs.length < 16777216 ∧ R .non (h.set n (.lst (xs ++ [y]))) := by
  simp only [appendR] at q
  split at q
  · rename_i xs e
    exact ⟨xs, e, q⟩
  · exact q.elim
theorem mt_appendA : MtM X "list.append" (upM X.K appendR) := by
  intro pins s σ H x xs v us Q I rx rs ⟨m, h, ax, as, R, rel, r1, ra, q, lk⟩
  cases ax with
  | ref n =>
    match as, q, ra with
    | [y], q, ra =>
      obtain ⟨w, ws, rfl, rw, rn⟩ := ra.cons_inv
      obtain rfl := rn.nil_inv
      obtain ⟨ys, e, hz, q⟩ := appendR_inv q
      obtain ⟨p, vs, rfl, hn, hp, rp⟩ := rel.lst r1 e
      refine mt_append pins s σ H _ _ v us Q I rx rs ⟨p, vs, w, rfl, rfl, hp, by rw [rp.len, line]; exact hz, ?_⟩
      exact lk _ _ _ _ _ q (rel.write hn e (.lst hp) ⟨_, upd_same, (rp.append (.cons rw .nil)).mono (.lst hp)⟩) .non (.lst hp)
    | [], q, _ => exact (show False from q).elim
    | _ :: _ :: _, q, _ => exact (show False from q).elim
  | _ => exact (show False by (match as, q with
    | [], q => exact q
    | [_], q => exact q
    | _ :: _ :: _, q => exact q)).elim
/-! ### what is walked -/
structure GoodIt (K : PySem.W.Frag) (J : It) (items : List AV) (guard : AH → Prop) (H0 : Hp) (m0 : List Addr) : Prop where
  go : ∀ (i : Nat) x H m h, items[i]? = some x → Rel K H m h → guard h → Grow K H0 m0 H m → J.go i H ∧ ∀ v H', J.yld i H v H' → Rel K H' m h ∧ Rep K H' m v x ∧ Grow K H m H' m
  stop : ∀ H m h, Rel K H m h → guard h → Grow K H0 m0 H m → J.stop items.length H
def upI (K : PySem.W.Frag) (ta : ATI) : TI := fun σ H R => ∃ m h a RA, Rel K H m h ∧ RepS K H m σ a ∧ ta a h RA ∧ ∀ H' m' h' items guard, RA items guard h' → Rel K H' m' h' → Grow K H m H' m' → ∀ J : It, GoodIt K J items guard H' m' → R J H'
abbrev AI (X : Cx) (tg e : Expr) (t : ATI) : Prop := PI X tg e (upI X.K t)
theorem wkI {t t' : TI} (h : PI X tg e t) (w : ∀ σ H R, t' σ H R → t σ H R) : PI X tg e t' := ⟨fun pins s σ H R I q => h.run pins s σ H R I (w σ H R q)⟩
theorem as_for {iter : Expr} {body : List Stmt} (hp : PassesOwn (model X.prog X.w) X.A X.env X.xe) (hc : X.calm = true) (hi : AI X tg iter it) (hg : AG X tg g) (hb : ASs X body tbd)
    (hs : ∀ x, foldedSetIterable iter X.env x = pure x := by intro _; rfl) : AS X (.For tg iter body [] pos) (forT it g tbd) := wkS (ps_for hp hc hi hg hb hs) fun D σ H ⟨m, h, a, DA, rel, rs, q, lk⟩ => by
  refine ⟨m, h, a, _, rel, rs, q, fun H1 m1 h1 items guard q1 rel1 g1 J good => ?_⟩
  obtain ⟨I, i0, hst, hd⟩ := q1
  refine ⟨fun i k σ' H' => k = items.length - i ∧ i ≤ items.length ∧ ∃ m' h' a', Rel X.K H' m' h' ∧ RepS X.K H' m' σ' a' ∧ Grow X.K H1 m1 H' m' ∧ I i a' h', ⟨items.length, rfl, Nat.zero_le _, m1, h1, a, rel1, rs.mono g1, .refl, i0⟩, ?_⟩
  rintro i k σ2 H2 ⟨rfl, hi, m2, h2, a2, rel2, rs2, g2, hI⟩
  by_cases hlt : i < items.length
  · have hx : items[i]? = some items[i] := List.getElem?_eq_getElem hlt
    obtain ⟨gd, stp⟩ := hst i _ a2 h2 hx hI
    obtain ⟨go, yl⟩ := good.go i _ H2 m2 h2 hx rel2 gd g2
    refine .inr ⟨go, fun σ' H' => ∃ m' h' a', Rel X.K H' m' h' ∧ RepS X.K H' m' σ' a' ∧ Grow X.K H1 m1 H' m' ∧ I (i + 1) a' h', fun σ' H' n => ⟨items.length - (i + 1), by omega, rfl, hlt, n⟩, fun v H' y => ?_⟩
    obtain ⟨rel3, rv, g3⟩ := yl v H' y
    refine ⟨m2, h2, a2, _, _, rel3, rs2.mono g3, rv, stp, fun H4 m4 h4 σ4 a4 q4 rel4 rs4 g4 => ⟨m4, h4, a4, _, rel4, rs4, q4, ?_⟩⟩
    have gg : Grow X.K H1 m1 H4 m4 := (g2.trans g3).trans g4
    exact ⟨fun H5 m5 h5 σ5 a5 q5 rel5 rs5 g5 => ⟨m5, h5, a5, rel5, rs5, gg.trans g5, q5⟩, Lk.on lk.rt (g1.trans gg), LkN.on lk.nx (g1.trans gg), fun H5 m5 h5 σ5 a5 q5 rel5 rs5 g5 => ⟨m5, h5, a5, rel5, rs5, gg.trans g5, q5⟩⟩
  · have e : i = items.length := by omega
    subst e
    obtain ⟨gd, nx⟩ := hd a2 h2 hI
    exact .inl ⟨good.stop H2 m2 h2 rel2 gd g2, lk.nx _ _ _ _ _ nx rel2 rs2 (g1.trans g2)⟩
theorem as_while {c : Expr} {body : List Stmt} (hp : PassesOwn (model X.prog X.w) X.A X.env X.xe) (hc : ATst X c tt) (hb : ASs X body tbd) : AS X (.While c body [] pos) (whileT tt tbd) := wkS (ps_while hp hc hb) fun D σ H ⟨m, h, a, DA, rel, rs, q, lk⟩ => by
  obtain ⟨W, ⟨k0, w0⟩, stp⟩ := q
  refine ⟨fun k σ' H' => ∃ m' h' a', Rel X.K H' m' h' ∧ RepS X.K H' m' σ' a' ∧ Grow X.K H m H' m' ∧ W k a' h', ⟨k0, m, h, a, rel, rs, .refl, w0⟩, ?_⟩
  rintro k σ2 H2 ⟨m2, h2, a2, rel2, rs2, g2, hW⟩
  refine ⟨m2, h2, a2, _, rel2, rs2, stp k a2 h2 hW, fun H3 m3 h3 b q3 rel3 g3 => ?_⟩
  cases b with
  | true =>
    rw [if_pos rfl] at q3 ⊢
    obtain ⟨N, hN, q3⟩ := q3
    refine ⟨fun σ' H' => ∃ m' h' a', Rel X.K H' m' h' ∧ RepS X.K H' m' σ' a' ∧ Grow X.K H m H' m' ∧ N a' h', fun σ' H' ⟨m', h', a', x1, x2, x3, x4⟩ => ?_, m3, h3, a2, _, rel3, rs2.mono g3, q3, ?_⟩
    · obtain ⟨k', hk, w'⟩ := hN a' h' x4
      exact ⟨k', hk, m', h', a', x1, x2, x3, w'⟩
    · have gg : Grow X.K H m H3 m3 := g2.trans g3
      exact ⟨fun H5 m5 h5 σ5 a5 q5 rel5 rs5 g5 => ⟨m5, h5, a5, rel5, rs5, gg.trans g5, q5⟩, Lk.on lk.rt gg, LkN.on lk.nx gg, fun H5 m5 h5 σ5 a5 q5 rel5 rs5 g5 => ⟨m5, h5, a5, rel5, rs5, gg.trans g5, q5⟩⟩
  | false =>
    rw [if_neg Bool.false_ne_true] at q3 ⊢
    exact lk.nx _ _ _ _ _ q3 rel3 (rs2.mono g3) (g2.trans g3)
/-! ### comprehensions -/
theorem wipe_in {σ : L2.St} {i : Nat} {x : Option V} : ∀ {vs : List Nat}, i ∈ vs → L2.wipe (σ.set i x) vs = L2.wipe σ vs
  | v :: vs, hm => by
    show (L2.wipe (σ.set i x) vs).set v none = (L2.wipe σ vs).set v none
    by_cases h : i ∈ vs
    · rw [wipe_in h]
    · have e : i = v := by
        rcases List.mem_cons.mp hm with e | e
        · exact e
        · exact absurd e h
      subst e
      have go : ∀ (ws : List Nat), i ∉ ws → L2.wipe (σ.set i x) ws = (L2.wipe σ ws).set i x := by
        intro ws
        induction ws with
        | nil => intro _; rfl
        | cons w ws ih =>
          intro hw
          simp only [List.mem_cons, not_or] at hw
          show (L2.wipe (σ.set i x) ws).set w none = ((L2.wipe σ ws).set w none).set i x
          rw [ih hw.2, List.set_comm _ _ hw.1]
      rw [go vs h, List.set_set]
theorem wipe_idem {σ : L2.St} : ∀ (vs ws : List Nat), (∀ v ∈ ws, v ∈ vs) → L2.wipe (L2.wipe σ ws) vs = L2.wipe σ vs
  | vs, [], _ => rfl
  | vs, w :: ws, h => by
    show L2.wipe ((L2.wipe σ ws).set w none) vs = _
    rw [wipe_in (h w List.mem_cons_self)]
    exact wipe_idem vs ws fun v hv => h v (List.mem_cons_of_mem _ hv)
/-- a comprehension's target: a real one beside the plain one, that turns its own slots alone -/
structure CG (K : PySem.W.Frag) (vs : List Nat) (t : TG) (g : ATG) : Prop where
  run : ∀ v σ H (Q : L2.St → Hp → Prop), upG K g v σ H Q → t v σ H fun σ2 H2 => L2.wipe σ2 vs = L2.wipe σ vs ∧ Q σ2 H2
structure CGs (K : PySem.W.Frag) (vs : List Nat) (t : TGs) (g : ATGs) : Prop where
  run : ∀ ws σ H (Q : L2.St → Hp → Prop), upGs K g ws σ H Q → t ws σ H fun σ2 H2 => L2.wipe σ2 vs = L2.wipe σ vs ∧ Q σ2 H2
theorem cg_name {K : PySem.W.Frag} {vs : List Nat} {i : Nat} (hi : i ∈ vs) : CG K vs (gName i) (gNameT i) := ⟨fun v σ H Q ⟨m, h, a, x, R, rel, rs, rv, q, lk⟩ => ⟨wipe_in hi, lk _ _ _ _ _ q rel (rs.set rv i) .refl⟩⟩
theorem cgs_nil {K : PySem.W.Frag} {vs : List Nat} : CGs K vs gNil gNilT := ⟨fun ws σ H Q ⟨m, h, a, xs, R, rel, rs, rv, q, lk⟩ => by
  cases xs with
  | nil => exact ⟨rv.nil_inv, rfl, lk _ _ _ _ _ q rel rs .refl⟩
  | cons x xs => exact q.elim⟩
theorem cgs_cons {K : PySem.W.Frag} {vs : List Nat} {t : TG} {ts : TGs} {g : ATG} {gs : ATGs} (h1 : CG K vs t g) (h2 : CGs K vs ts gs) (mono : ∀ v σ H (Q Q' : L2.St → Hp → Prop), (∀ s h, Q s h → Q' s h) → t v σ H Q → t v σ H Q') (mono2 : ∀ v σ H (Q Q' : L2.St → Hp → Prop), (∀ s h, Q s h → Q' s h) → ts v σ H Q → ts v σ H Q') : CGs K vs (gCons t ts) (gConsT g gs) := ⟨fun ws σ H Q ⟨m, h, a, xs, R, rel, rs, rv, q, lk⟩ => by
  cases xs with
  | nil => exact q.elim
  | cons x xs =>
    obtain ⟨v, ws, rfl, r1, r2⟩ := rv.cons_inv
    refine ⟨v, ws, rfl, mono _ _ _ _ _ (fun s1 h1 ⟨e1, k1⟩ => ?_) (h1.run v σ H (fun σ2 H2 => upGs K gs ws σ2 H2 Q) ⟨m, h, a, x, _, rel, rs, r1, q, fun H1 m1 h1 σ1 a1 q1 rel1 rs1 g1 => ⟨m1, h1, a1, xs, R, rel1, rs1, r2.mono g1, q1, LkN.on lk g1⟩⟩)⟩
    exact mono2 _ _ _ _ _ (fun s2 h2 ⟨e2, k2⟩ => ⟨e2.trans e1, k2⟩) (h2.run ws s1 h1 Q k1)⟩
theorem cg_tup {K : PySem.W.Frag} {vs : List Nat} {n : Nat} {ts : TGs} {gs : ATGs} (h2 : CGs K vs ts gs) : CG K vs (gTup K n ts) (gTupT n gs) := ⟨fun v σ H Q ⟨m, h, a, x, R, rel, rs, rv, q, lk⟩ => by
  cases x with
  | tup xs =>
    obtain ⟨q1, q2⟩ := q
    obtain ⟨p, ws, rfl, hp, rp⟩ := rv.tup_inv
    exact ⟨p, ws, rfl, hp, rp.len.trans q1, h2.run ws σ H Q ⟨m, h, a, xs, R, rel, rs, rp, q2, lk⟩⟩
  | _ => exact (show False from q).elim⟩
/-- the real side of a tuple of names -/
def rNms : List Nat → TGs
  | [] => gNil
  | i :: r => gCons (gName i) (rNms r)
theorem rNms_mono : ∀ (is : List Nat) v σ H (Q Q' : L2.St → Hp → Prop), (∀ s h, Q s h → Q' s h) → rNms is v σ H Q → rNms is v σ H Q'
  | [], v, σ, H, Q, Q', hq, ⟨e, q⟩ => ⟨e, hq _ _ q⟩
  | i :: r, v, σ, H, Q, Q', hq, ⟨w, ws, e, q⟩ => ⟨w, ws, e, rNms_mono r ws _ _ Q Q' hq q⟩
theorem cgs_nms {K : PySem.W.Frag} {vs : List Nat} : ∀ is : List Nat, (∀ i ∈ is, i ∈ vs) → CGs K vs (rNms is) (gNmsT is)
  | [], _ => cgs_nil
  | i :: r, h => cgs_cons (cg_name (h i List.mem_cons_self)) (cgs_nms r fun j hj => h j (List.mem_cons_of_mem _ hj)) (fun v σ H Q Q' hq q => hq _ _ q) (rNms_mono r)
abbrev ATs (X : Cx) (ifs : List Expr) (t : ATT) : Prop := PTs X ifs (upT X.K t)
theorem ats_nil : ATs X [] yesT := ⟨fun pins s σ H Q I ⟨m, h, a, R, rel, rs, q, lk⟩ => wpAny_tests_nil ⟨H, I, lk _ _ _ _ q rel .refl⟩⟩
theorem ats_one {c : Expr} (h : ATst X c tt) : ATs X [c] tt := pts_one h
theorem lift_lc {wi : TI} {gr : TG} {vs : List Nat} (hcg : CG X.K vs gr g) (mono : ∀ v σ H (Q Q' : L2.St → Hp → Prop), (∀ s h, Q s h → Q' s h) → gr v σ H Q → gr v σ H Q') {σ : L2.St} {H : Hp} {Q : VK} (q : upE X.K (lcT it g tt te vs) σ H Q) :
    tLc (upI X.K it) gr (upT X.K tt) (upE X.K te) vs σ H Q := by
  obtain ⟨m, h, a, R, rel, rs, q, lk⟩ := q
  refine ⟨m, h, a, _, rel, rs, q, fun H1 m1 h1 items guard q1 rel1 g1 J good D hD => ?_⟩
  obtain ⟨I, i0, hst, hd⟩ := q1
  have gD : Grow X.K H1 m1 (L2.upd H1 D (.lst [])) (m1 ++ [D]) := .new hD [D]
  have relD := rel1.pushL hD (vs := []) (xs := []) .nil
  have atD : (m1 ++ [D])[h1.length]? = some D := rel1.last
  refine ⟨fun i k H' => k = items.length - i ∧ i ≤ items.length ∧ ∃ m' h' acc, Rel X.K H' m' h' ∧ Grow X.K (L2.upd H1 D (.lst [])) (m1 ++ [D]) H' m' ∧ I i acc h', ⟨items.length, rfl, Nat.zero_le _, _, _, [], relD, .refl, i0⟩, ?_⟩
  rintro i k H2 ⟨rfl, hi, m2, h2, acc, rel2, g2, hI⟩
  by_cases hlt : i < items.length
  · have hx : items[i]? = some items[i] := List.getElem?_eq_getElem hlt
    obtain ⟨gd, stp⟩ := hst i _ acc h2 hx hI
    obtain ⟨go, yl⟩ := good.go i _ H2 m2 h2 hx rel2 gd (gD.trans g2)
    refine .inr ⟨go, fun H' => ∃ m' h' acc, Rel X.K H' m' h' ∧ Grow X.K (L2.upd H1 D (.lst [])) (m1 ++ [D]) H' m' ∧ I (i + 1) acc h', fun H' n => ⟨items.length - (i + 1), by omega, rfl, hlt, n⟩, fun v H' y => ?_⟩
    obtain ⟨rel3, rv, g3⟩ := yl v H' y
    have gA : Grow X.K H m H' m2 := ((g1.trans gD).trans g2).trans g3
    refine mono _ _ _ _ _ (fun σ4 H4 hq => ?_) (hcg.run v (L2.wipe σ vs) H' (fun σ4 H4 => upT X.K tt σ4 H4 fun b H5 => if b = true then upE X.K te σ4 H5 fun y H6 => ∃ acc, H6 D = some (.lst acc) ∧ acc.length < sizeLine ∧
      (∃ m' h' ac, Rel X.K (L2.upd H6 D (.lst (acc ++ [y]))) m' h' ∧ Grow X.K (L2.upd H1 D (.lst [])) (m1 ++ [D]) (L2.upd H6 D (.lst (acc ++ [y]))) m' ∧ I (i + 1) ac h') else ∃ m' h' ac, Rel X.K H5 m' h' ∧ Grow X.K (L2.upd H1 D (.lst [])) (m1 ++ [D]) H5 m' ∧ I (i + 1) ac h') ?_)
    · exact ⟨hq.1.trans (wipe_idem vs vs fun _ z => z), hq.2⟩
    · refine ⟨m2, h2, wipeA a vs, _, _, rel3, (rs.mono gA).wipe vs, rv, stp, fun H4 m4 h4 σ4 a4 q4 rel4 rs4 g4 => ⟨m4, h4, a4, _, rel4, rs4, q4, fun H5 m5 h5 b q5 rel5 g5 => ?_⟩⟩
      have gB : Grow X.K (L2.upd H1 D (.lst [])) (m1 ++ [D]) H5 m5 := ((g2.trans g3).trans g4).trans g5
      cases b with
      | false =>
        dsimp only
        rw [if_neg Bool.false_ne_true] at q5 ⊢
        exact ⟨m5, h5, acc, rel5, gB, q5⟩
      | true =>
        dsimp only
        rw [if_pos rfl] at q5 ⊢
        refine ⟨m5, h5, a4, _, rel5, rs4.mono g5, q5, fun H6 m6 h6 w y q6 rel6 rw g6 => ?_⟩
        obtain ⟨e6, hz, hI6⟩ := q6
        have gC := gB.trans g6
        have at6 : m6[h1.length]? = some D := gC.at atD
        obtain ⟨vs6, hp6, rp6⟩ := rel6.obj _ _ _ at6 e6
        refine ⟨vs6, hp6, by rw [rp6.len, line]; exact hz, m6, _, acc ++ [y], rel6.write (ao' := .lst (acc ++ [y])) at6 e6 (.lst hp6) ⟨_, upd_same, (rp6.append (.cons rw .nil)).mono (.lst hp6)⟩, gC.trans (.lst hp6), hI6⟩
  · have e : i = items.length := by omega
    subst e
    obtain ⟨gd, ea, nx⟩ := hd acc h2 hI
    have at2 : m2[h1.length]? = some D := g2.at atD
    exact .inl ⟨good.stop H2 m2 h2 rel2 gd (gD.trans g2), lk _ _ _ _ _ nx rel2 (.ref at2) ((g1.trans gD).trans g2)⟩
theorem ae_lc {iter elt : Expr} {ifs : List Expr} {scope : Scope} {own : List (Str × Nat)} {gr : TG} (hc : X.calm = true) (hN : X.N.Nodup) (hi : AI X tg iter it) (ok : BlkOk X.N X.env.scope scope own)
    (hcg : CG X.K (own.map (·.2)) gr g) (mono : ∀ v σ H (Q Q' : L2.St → Hp → Prop), (∀ s h, Q s h → Q' s h) → gr v σ H Q → gr v σ H Q')
    (hg : ∀ (s : Shared) (H : Hp) (C : Addr) (cl : List (Str × Addr)) (fp : List Addr), PG (X.blk s H scope (compEnvC scope cl C X.env) fp) tg gr) (ht : ∀ (s : Shared) (H : Hp) (C : Addr) (cl : List (Str × Addr)) (fp : List Addr), ATs (X.blk s H scope (compEnvC scope cl C X.env) fp) ifs tt)
    (he : ∀ (s : Shared) (H : Hp) (C : Addr) (cl : List (Str × Addr)) (fp : List Addr), AE (X.blk s H scope (compEnvC scope cl C X.env) fp) elt te) (hs : ∀ x, foldedSetIterable iter X.env x = pure x := by intro _; rfl) :
    AE X (.ListComp elt [⟨tg, iter, ifs, 0⟩] scope pos) (lcT it g tt te (own.map (·.2))) := wkE (pe_lc hc hN hi ok hg ht he hs) fun _ _ _ q => lift_lc (wi := upI X.K it) hcg mono q
theorem as_setLc {i : Nat} {y : Str} {py spos : Pos} {iter elt : Expr} {ifs : List Expr} {scope : Scope} {own : List (Str × Nat)} {gr : TG} (hc : X.calm = true) (hN : X.N.Nodup) (hy : X.N[i]? = some y) (hyl : X.env.scope.names.lookup y = some .local)
    (hsw : swapsWith (.ListComp elt [⟨tg, iter, ifs, 0⟩] scope pos) (some (.Name y py)) spos.line X.env = pure true) (hi : AI X tg iter it) (ok : BlkOk X.N X.env.scope scope own)
    (hcg : CG X.K (own.map (·.2)) gr g) (mono : ∀ v σ H (Q Q' : L2.St → Hp → Prop), (∀ s h, Q s h → Q' s h) → gr v σ H Q → gr v σ H Q')
    (hg : ∀ (s : Shared) (H : Hp) (C : Addr) (cl : List (Str × Addr)) (fp : List Addr), PG (X.blk s H scope (compEnvC scope cl C X.env) fp) tg gr) (ht : ∀ (s : Shared) (H : Hp) (C : Addr) (cl : List (Str × Addr)) (fp : List Addr), ATs (X.blk s H scope (compEnvC scope cl C X.env) fp) ifs tt)
    (he : ∀ (s : Shared) (H : Hp) (C : Addr) (cl : List (Str × Addr)) (fp : List Addr), AE (X.blk s H scope (compEnvC scope cl C X.env) fp) elt te) (hs : ∀ x, foldedSetIterable iter X.env x = pure x := by intro _; rfl) :
    AS X (.Assign [.Name y py] (.ListComp elt [⟨tg, iter, ifs, 0⟩] scope pos) spos) (asgT (lcT it g tt te (own.map (·.2))) (gNameT i)) := wkS (ps_setLc hc hN hy hyl hsw hi ok hg ht he hs) fun D σ H ⟨m, h, a, DA, rel, rs, q, lk⟩ =>
  lift_lc (wi := upI X.K it) hcg mono ⟨m, h, a, _, rel, rs, q, fun H1 m1 h1 v x q1 rel1 r1 g1 => lk.nx _ _ _ _ _ q1 rel1 ((rs.mono g1).set r1 i) g1⟩

/-! ### iterators -/
/-- a list or a tuple: an iterator of the kind that the value has -/
theorem pi_seq {l : Expr} {tl : TE} (hl : PE X l tl) : PI X tg l (fun σ H R => tl σ H fun x H1 => (∃ a, x = .ref a ∧ (∃ xs, SqL X.K H1 a xs) ∧ R (Itl X.K a) H1) ∨ ∃ a, x = .ref a ∧ (∃ xs, SqT X.K H1 a xs) ∧ R (Itt X.K a) H1) := by
  refine ⟨fun pins s σ H R I h => ?_⟩
  refine thn (hl.run pins s σ H _ I h) fun vv s1 ⟨x, H1, J1, rr, qq⟩ => ?_
  have isz : ∀ b ∈ [s1.heap.objs.size], FpOk X pins H1 b := fun b hb => by
    cases List.mem_singleton.mp hb
    exact J1.fpOk (Nat.le_refl _) (J1.hok.fresh (Nat.le_refl _))
  rcases qq with ⟨a, rfl, ⟨xs, hx⟩, hR⟩ | ⟨a, rfl, ⟨xs, hx⟩, hR⟩
  · cases (show vv = Value.ref a from rr)
    obtain ⟨ws, w1, w2, _⟩ := J1.list hx
    exact wpAny_pyIter_list w2.isList ⟨_, [_], _, _, H1, rfl, J1.kept (t' := s1.toks) fun b o z => Heap.get?_push_of_some _ z, turn_list a _, ⟨_, Heap.get?_push_size _ rfl, rfl, rfl⟩, isz, hR⟩
  · cases (show vv = Value.ref a from rr)
    obtain ⟨ws, w1, w2, _⟩ := J1.tuple hx
    exact wpAny_pyIter_tuple (show s1.heap.IsTuple a ws.toArray from w2) ⟨_, [_], _, _, H1, rfl, J1.kept (t' := s1.toks) fun b o z => Heap.get?_push_of_some _ z, turn_tuple a _, ⟨_, Heap.get?_push_size _ rfl, rfl, rfl⟩, isz, hR⟩
theorem good_list {K : PySem.W.Frag} {p : Addr} {xs : List AV} {guard : AH → Prop} {H0 : Hp} {m0 : List Addr} (hq : ∀ H m h, Rel K H m h → guard h → Grow K H0 m0 H m → ∃ vs, SqL K H p vs ∧ RepL K H m vs xs) : GoodIt K (Itl K p) xs guard H0 m0 :=
  ⟨fun i x H m h hx rel gd g => by
    obtain ⟨vs, s, r⟩ := hq H m h rel gd g
    obtain ⟨v, hv, rv⟩ := r.at hx
    refine ⟨⟨vs, v, s, hv⟩, fun w H' ⟨e, y⟩ => ?_⟩
    subst e
    have := y vs s
    rw [hv] at this
    cases this
    exact ⟨rel, rv, .refl⟩,
  fun H m h rel gd g => by
    obtain ⟨vs, s, r⟩ := hq H m h rel gd g
    exact ⟨vs, s, by rw [r.len]; exact Nat.le_refl _⟩⟩
theorem good_tup {K : PySem.W.Frag} {p : Addr} {vs : List V} {xs : List AV} {guard : AH → Prop} {H0 : Hp} {m0 : List Addr} (hs : SqT K H0 p vs) (hr : RepL K H0 m0 vs xs) : GoodIt K (Itt K p) xs guard H0 m0 :=
  ⟨fun i x H m h hx rel gd g => by
    have s := g.tup p vs hs
    have r := hr.mono g
    obtain ⟨v, hv, rv⟩ := r.at hx
    refine ⟨⟨vs, v, s, hv⟩, fun w H' ⟨e, y⟩ => ?_⟩
    subst e
    have := y vs s
    rw [hv] at this
    cases this
    exact ⟨rel, rv, .refl⟩,
  fun H m h rel gd g => ⟨vs, g.tup p vs hs, by rw [hr.len]; exact Nat.le_refl _⟩⟩
theorem iSeq_inv {n : Nat} {h1 : AH} {R : List AV → (AH → Prop) → AH → Prop} (q : (match h1[n]? with
    | some (.lst xs) => R xs (fun h => h[n]? = some (.lst xs)) h1
    | _ => False)) : ∃ xs, h1[n]? = some (.lst xs) ∧ R xs (fun h => h[n]? = some (.lst xs)) h1 := by
  split at q
  · rename_i xs e
    exact ⟨xs, e, q⟩
  · exact q.elim
theorem ai_seq {l : Expr} (hl : AE X l te) : AI X tg l (iSeqT te) := wkI (pi_seq hl) fun σ H R ⟨m, h, a, RA, rel, rs, q, lk⟩ => by
  refine ⟨m, h, a, _, rel, rs, q, fun H1 m1 h1 v x q1 rel1 r1 g1 => ?_⟩
  cases x with
  | tup xs =>
    obtain ⟨p, vs, rfl, hp, rp⟩ := r1.tup_inv
    exact .inr ⟨p, rfl, ⟨vs, hp⟩, lk _ _ _ _ _ q1 rel1 g1 _ (good_tup hp rp)⟩
  | rol xs =>
    obtain ⟨p, vs, rfl, hp, rp⟩ := r1.rol_inv
    exact .inl ⟨p, rfl, ⟨vs, hp.sq⟩, lk _ _ _ _ _ q1 rel1 g1 _ (good_list fun H m h _ _ g => ⟨vs, (g.rol p vs hp).sq, rp.mono g⟩)⟩
  | ref n =>
    obtain ⟨xs, e, q2⟩ := iSeq_inv q1
    obtain ⟨p, vs, rfl, hn, hp, rp⟩ := rel1.lst r1 e
    refine .inl ⟨p, rfl, ⟨vs, SqL.of hp⟩, lk _ _ _ _ _ q2 rel1 g1 _ (good_list fun H m h rel gd g => ?_)⟩
    obtain ⟨ws, e1, e2⟩ := rel.obj _ _ _ (g.at hn) gd
    exact ⟨ws, SqL.of e1, e2⟩
  | _ => exact (show False from q1).elim
theorem zrange_get {lo : Int} {n i : Nat} {x : AV} (h : (zrange lo n)[i]? = some x) : i < n ∧ x = .int (lo + i) := by
  unfold zrange at h
  rw [List.getElem?_map] at h
  by_cases hi : i < n
  · rw [List.getElem?_range hi] at h
    cases h
    exact ⟨hi, rfl⟩
  · rw [List.getElem?_eq_none (by simp; omega)] at h
    cases h
theorem zrange_len {lo : Int} {n : Nat} : (zrange lo n).length = n := by
  unfold zrange
  simp
theorem good_rng {K : PySem.W.Frag} {lo : Int} {n : Nat} {guard : AH → Prop} {H0 : Hp} {m0 : List Addr} : GoodIt K (Itr lo n) (zrange lo n) guard H0 m0 :=
  ⟨fun i x H m h hx rel gd g => by
    obtain ⟨hi, rfl⟩ := zrange_get hx
    refine ⟨hi, fun w H' ⟨e, y⟩ => ?_⟩
    subst e y
    exact ⟨rel, .int _, .refl⟩,
  fun H m h rel gd g => by
    rw [zrange_len]
    exact Nat.le_refl _⟩
theorem ai_range1 {b : Expr} {p : Pos} (hg : Gl X "range") (hm : X.mg "range" = none) (ha : AA X [b] tl) (hs : starEach [b] X.env = [(false, eval b X.env)] := by rfl) : AI X tg (.Call (.Name "range" p) [b] [] pos) (iRng1T tl) :=
  wkI (pi_range1 hg hm ha hs) fun σ H R ⟨m, h, a, RA, rel, rs, q, lk⟩ => by
  refine ⟨m, h, a, _, rel, rs, q, fun H1 m1 h1 vs xs q1 rel1 r1 g1 => ?_⟩
  split at q1
  · rename_i n
    obtain ⟨v, ws, rfl, rv, rn⟩ := r1.cons_inv
    obtain rfl := rn.nil_inv
    cases rv
    obtain ⟨z1, z2, q2⟩ := q1
    exact ⟨n, rfl, z2, z1, lk _ _ _ _ _ q2 rel1 g1 _ good_rng⟩
  · exact q1.elim
theorem ai_range2 {b c : Expr} {p : Pos} (hg : Gl X "range") (hm : X.mg "range" = none) (ha : AA X [b, c] tl) (hs : starEach [b, c] X.env = [(false, eval b X.env), (false, eval c X.env)] := by rfl) (hs2 : starEach [c] X.env = [(false, eval c X.env)] := by rfl) :
    AI X tg (.Call (.Name "range" p) [b, c] [] pos) (iRng2T tl) :=
  wkI (pi_range2 hg hm ha hs hs2) fun σ H R ⟨m, h, a, RA, rel, rs, q, lk⟩ => by
  refine ⟨m, h, a, _, rel, rs, q, fun H1 m1 h1 vs xs q1 rel1 r1 g1 => ?_⟩
  split at q1
  · rename_i i n
    obtain ⟨v, ws, rfl, rv, rn⟩ := r1.cons_inv
    obtain ⟨v2, ws2, rfl, rv2, rn2⟩ := rn.cons_inv
    obtain rfl := rn2.nil_inv
    cases rv
    cases rv2
    obtain ⟨z1, q2⟩ := q1
    exact ⟨i, n, rfl, z1, lk _ _ _ _ _ q2 rel1 g1 _ good_rng⟩
  · exact q1.elim
end
end AL

/-! AL4: zip, enumerate, a text's signs; a def by its body; the law's end. -/
namespace AL
open PySem PySem.Spec PyProof.Rows L2
/-! ### enumerate over a tuple -/
set_option maxHeartbeats 4000000 in
theorem meets_enum1 {v : Value} {o : Obj} {Z : Heap → Prop} (B : Begins v o Z) :
    Meets (Builtin.«enumerate.__new__» ⟨[.type "enumerate", v], []⟩) (fun _ C z => Z z.heap ∧
      C (.ok (.ret (.ref (z.heap.push o).objs.size))) { z with heap := (z.heap.push o).push { cls := .type "enumerate", data := .fields #[.none, .bool false, .ref z.heap.objs.size, rawInt 0, .none, .none] } }) :=
  .of_wp fun pr ww AA C z hz => by
    obtain ⟨z1, z2, z3, z4, z5⟩ := z
    obtain ⟨k1, k2⟩ := hz
    have hsub := sub_enumerate
    have st1 : ∀ {A1 : Around} {E1 : Value → Shared → Prop} {Q1 : Value → Shared → Prop}, Q1 (.ref z1.objs.size) ⟨z1.push o, z2, z3, z4, z5⟩ → wpAny (model pr ww) A1 (pyIter v) Q1 E1 ⟨z1, z2, z3, z4, z5⟩ :=
      fun hh => B.iter pr ww _ _ ⟨z1, z2, z3, z4, z5⟩ _ k1 hh
    wp_walk using st1
    refine wpAny_stack_any fun sk => wpAny_pure ?_
    split
    · rename_i cc _ _ _ _ _
      cases (cc == Value.type "enumerate")
      · wp_walk using st1
        exact ⟨_, rfl, k2⟩
      · wp_walk using st1
        exact ⟨_, rfl, k2⟩
    · wp_walk using st1
      exact ⟨_, rfl, k2⟩
def Itet (K : PySem.W.Frag) (a : Addr) : It where
  go := fun i H => ∃ (xs : List V) (x : V), SqT K H a xs ∧ xs[i]? = some x
  yld := fun i H v H' => ∃ T x, v = .ref T ∧ H T = none ∧ H' = L2.upd H T (.tup [.int (i : Nat), x]) ∧ ∀ xs, SqT K H a xs → xs[i]? = some x
  stop := fun i H => ∃ xs : List V, SqT K H a xs ∧ xs.length = i
theorem turn_enumT {P : Program} {w : World} {K : PySem.W.Frag} {elts : List Expr} {kk : Nat} {tpos : Pos} (a e it : Addr) (hne : e ≠ it) :
    Turn P w K (.Tuple elts kk tpos) (Itet K a) [e, it] e (fun i h => (∃ old, IsEnum h e it (0 + (i : Int)) old) ∧ h.IsTupleIter it a i) where
  mem := by simp
  obj := fun i h ⟨⟨old, he⟩, ⟨o, ho, hc, hd⟩⟩ b hb => by
    rcases List.mem_cons.mp hb with z | z
    · subst z
      exact ⟨_, he, fun v q => nomatch q⟩
    · cases List.mem_singleton.mp z
      exact ⟨o, ho, fun v q => by rw [hd] at q; cases q⟩
  keep := fun i h h' ⟨⟨old, he⟩, hi⟩ k => ⟨⟨old, k e (by simp) _ he⟩, hi.at fun o q => k it (by simp) o q⟩
  item := by
    intro X hP hw hK hc i pins s σ H E I hf ⟨⟨old, he⟩, hit⟩ ⟨xs, x, hq, hx⟩
    subst hP hw hK
    obtain ⟨its, rv, p, hz⟩ := I.tuple hq
    obtain ⟨u, hu, ru⟩ := rv.get hx
    have hai : a ≠ it := by
      rintro rfl
      obtain ⟨o1, h1, c1, _⟩ := p
      obtain ⟨o2, h2, c2, _⟩ := hit
      rw [h1] at h2
      cases h2
      rw [c1] at c2
      exact absurd c2 (by decide)
    have hae : e ≠ a := by
      rintro rfl
      obtain ⟨o1, h1, c1, _⟩ := p
      have he' : s.heap.get? e = some _ := he
      rw [h1] at he'
      cases he'
      exact absurd (show Value.type "enumerate" = Value.type "tuple" from c1) (by decide)
    have hh : X.A.in1.handled = none := I.ok.hd hc
    have D := Draws.tuple (prog := X.prog) (w := X.w) hh it a hai its.toArray
    have W := WalksT.enumFrom 0 D e hne (by simp [hne, hae]) (by simp)
    have hlt : i < its.toArray.size := by
      have := (List.getElem?_eq_some_iff.mp hu).1
      simpa using this
    refine W.item i s _ E hlt ⟨⟨old, he⟩, hit, p⟩ fun T vals h' tk ⟨t, y, hy, ev⟩ hT hTup hMid hk => ?_
    subst ev
    have hyu : y = u := by
      have h2 : its[i]? = some y := by simpa using hy
      rw [hu] at h2
      exact (Option.some.inj h2).symm
    subst hyu
    have hap := W.apart i T h' hMid
    refine ⟨_, rfl, W.go elts kk tpos i T _ _ E hMid fun h'' hSt hk2 => ?_⟩
    have new : ObjOk X.prog X.w (L2.upd H T (.tup [.int (i : Nat), x])) h'' T (.tup [.int (i : Nat), x]) := by
      obtain ⟨o, ho, hc2, n, hd⟩ := hTup
      refine ⟨by show 2 ≤ sizeLine; rw [sizeLine_eq]; decide, [.int (0 + (i : Int)) t, y], .cons ⟨t, ?_⟩ (.cons ru .nil), ⟨o, hk2 T o hap ho, hc2, n, hd⟩⟩
      rw [Int.zero_add]
    have I1 : Inv X pins σ (L2.upd H T (.tup [.int (i : Nat), x])) { s with heap := h'', toks := tk } :=
      I.turnedNew (ch := [e, it]) (fun b ob hb q => hk2 b ob hb (hk b ob hb q)) hf hT new
    refine ⟨.ref T, _, I1, rfl, ⟨T, x, rfl, I.hok.fresh hT, rfl, fun ys hy => by rw [I.tuple_inj hy hq]; exact hx⟩, ⟨hSt.1, hSt.2.1⟩, fun b hb => ?_⟩
    have hb' : b ≠ T := fun z => hap (z ▸ hb)
    rw [upd_ne hb']
    exact (hf b hb).1
  done := by
    intro X hP hw hK hc i pins s σ H E I hf ⟨⟨old, he⟩, hit⟩ ⟨xs, hq, hx⟩
    subst hP hw hK
    obtain ⟨its, rv, p, hz⟩ := I.tuple hq
    have hai : a ≠ it := by
      rintro rfl
      obtain ⟨o1, h1, c1, _⟩ := p
      obtain ⟨o2, h2, c2, _⟩ := hit
      rw [h1] at h2
      cases h2
      rw [c1] at c2
      exact absurd c2 (by decide)
    have hh : X.A.in1.handled = none := I.ok.hd hc
    have hae : e ≠ a := by
      rintro rfl
      obtain ⟨o1, h1, c1, _⟩ := p
      have he' : s.heap.get? e = some _ := he
      rw [h1] at he'
      cases he'
      exact absurd (show Value.type "enumerate" = Value.type "tuple" from c1) (by decide)
    have D := Draws.tuple (prog := X.prog) (w := X.w) hh it a hai its.toArray
    have W := WalksT.enumFrom 0 D e hne (by simp [hne, hae]) (by simp)
    have hlen : i = its.toArray.size := by
      have := rv.length
      simp
      omega
    subst hlen
    refine W.done s _ E ⟨⟨old, he⟩, hit, p⟩ fun h' tk hk => ⟨rfl, I.turnedL (t' := tk) (ch := [e, it]) (fun b o hb q => hk b o hb q) hf⟩
  self := fun A i s Q E ⟨⟨_, he⟩, _⟩ h => wpAny_pyIter_enum he h

section
variable {X : Cx} {e tg : Expr} {es : List Expr} {pos : Pos} {te : ATE} {tl : ATA}
/-- enumerate of a list or a tuple -/
theorem pi_enumA {ta : TA} {p tpos : Pos} {elts : List Expr} {kk : Nat} (hg : Gl X "enumerate") (hm : X.mg "enumerate" = none) (ha : PA X [e] ta) (hs : starEach [e] X.env = [(false, eval e X.env)] := by rfl) :
    PI X (.Tuple elts kk tpos) (.Call (.Name "enumerate" p) [e] [] pos) (fun σ H R => ta σ H fun vs H1 => ∃ a, vs = [.ref a] ∧ ((∃ xs, SqL X.K H1 a xs ∧ R (Ite X.K a) H1) ∨ ∃ xs, SqT X.K H1 a xs ∧ R (Itet X.K a) H1)) := by
  refine ⟨fun pins s σ H R I h => ?_⟩
  refine Call_ (ld_blt I hg hm boot_enumerate (PyProof.Rows.callWith_type1 (thn (ha.run pos pins s σ H _ I h) fun us s1 ⟨vs, H1, J, rr, qq⟩ => ?_) hs rfl))
  obtain ⟨a, ex, qq⟩ := qq
  subst ex
  obtain ⟨u1, rfl, ru⟩ := vals1 rr
  cases (show u1 = Value.ref a from ru)
  have two : ∀ b ∈ [s1.heap.objs.size + 1, s1.heap.objs.size], FpOk X pins H1 b := fun b hb => by
    have hle : s1.heap.objs.size ≤ b := by
      rcases List.mem_cons.mp hb with z | z
      · omega
      · have := List.mem_singleton.mp z
        omega
    exact J.fpOk hle (J.hok.fresh hle)
  rcases qq with ⟨xs, hx, hR⟩ | ⟨xs, hx, hR⟩
  · obtain ⟨ws, w1, w2, _⟩ := J.list hx
    refine call_enumerate_list w2.isList fun h' he hit hsz hk => wpAny_pyIter_enum he ?_
    exact ⟨s1.heap.objs.size + 1, [s1.heap.objs.size + 1, s1.heap.objs.size], _, _, H1, rfl, J.kept (t' := s1.toks) hk, turn_enum a (s1.heap.objs.size + 1) s1.heap.objs.size, ⟨⟨.none, he⟩, hit, Nat.succ_ne_self _⟩, two, hR⟩
  · obtain ⟨ws, w1, w2, _⟩ := J.tuple hx
    refine callType_new F.called_enumerate (by decide) (F.typeCall_enumerate_1 _) (F.newCall_enumerate_1 _) (fun obj => F.args_object_init_2 obj _) F.entry_enumerate_new
      (meets_enum1 (begins_tuple a ws.toArray)) ⟨w2, ?_⟩
    have B := begins_tuple a ws.toArray
    have hz : (s1.heap.push { cls := .type "tuple_iterator", data := .fields #[.ref a, .int 0 0] }).objs.size = s1.heap.objs.size + 1 := Heap.size_push ..
    show _ ∧ _
    rw [hz]
    have he := Heap.get?_push_size (s1.heap.push { cls := .type "tuple_iterator", data := .fields #[.ref a, .int 0 0] }) (o := { cls := .type "enumerate", data := .fields #[.none, .bool false, .ref s1.heap.objs.size, rawInt 0, .none, .none] }) rfl
    rw [hz] at he
    refine ⟨⟨_, he, rfl⟩, wpAny_pyIter_enum (i := 0) (old := .none) (it := s1.heap.objs.size) he ?_⟩
    have kp : ∀ b o, s1.heap.get? b = some o → _ := fun b o z => Heap.get?_push_of_some { cls := .type "enumerate", data := .fields #[.none, .bool false, .ref s1.heap.objs.size, rawInt 0, .none, .none] } (Heap.get?_push_of_some { cls := .type "tuple_iterator", data := .fields #[.ref a, .int 0 0] } z)
    exact ⟨s1.heap.objs.size + 1, [s1.heap.objs.size + 1, s1.heap.objs.size], _, _, H1, rfl, J.kept (t' := s1.toks) kp, turn_enumT a (s1.heap.objs.size + 1) s1.heap.objs.size (Nat.succ_ne_self _),
      ⟨⟨.none, he⟩, ⟨_, Heap.get?_push_of_some _ (Heap.get?_push_size _ rfl), rfl, rfl⟩⟩, two, hR⟩
/-! ### the plain side -/
theorem enumV_get : ∀ {xs : List AV} {k i : Nat} {y : AV}, (enumV k xs)[i]? = some y → ∃ x, xs[i]? = some x ∧ y = .tup [.int ((k + i : Nat) : Int), x]
  | [], k, i, y, h => by simp [enumV] at h
  | x :: xs, k, 0, y, h => by
    simp [enumV] at h
    exact ⟨x, rfl, h.symm⟩
  | x :: xs, k, i + 1, y, h => by
    have h : (enumV (k + 1) xs)[i]? = some y := by simpa [enumV] using h
    obtain ⟨z, e1, e2⟩ := enumV_get h
    refine ⟨z, by simpa using e1, ?_⟩
    rw [e2]
    congr 4
    omega
theorem enumV_len : ∀ {xs : List AV} {k : Nat}, (enumV k xs).length = xs.length
  | [], _ => rfl
  | _ :: xs, k => by
    show (enumV (k + 1) xs).length + 1 = xs.length + 1
    rw [enumV_len]
theorem good_enumT {K : PySem.W.Frag} {p : Addr} {vs : List V} {xs : List AV} {guard : AH → Prop} {H0 : Hp} {m0 : List Addr} (hs : SqT K H0 p vs) (hr : RepL K H0 m0 vs xs) : GoodIt K (Itet K p) (enumV 0 xs) guard H0 m0 :=
  ⟨fun i x H m h hx rel gd g => by
    obtain ⟨z, hz, rfl⟩ := enumV_get hx
    have s := g.tup p vs hs
    obtain ⟨v, hv, rv⟩ := (hr.mono g).at hz
    refine ⟨⟨vs, v, s, hv⟩, fun w H' ⟨T, y, e1, hT, e2, hy⟩ => ?_⟩
    subst e1 e2
    have := hy vs s
    rw [hv] at this
    cases this
    rw [Nat.zero_add]
    exact ⟨rel.off hT, RepL.tup (SqT.of upd_same) (.cons (.int _) (.cons (rv.mono (.off hT)) .nil)), .off hT⟩,
  fun H m h rel gd g => ⟨vs, g.tup p vs hs, by rw [hr.len, enumV_len]⟩⟩
theorem good_enumL {K : PySem.W.Frag} {p : Addr} {xs : List AV} {guard : AH → Prop} {H0 : Hp} {m0 : List Addr} (hq : ∀ H m h, Rel K H m h → guard h → Grow K H0 m0 H m → ∃ vs, SqL K H p vs ∧ RepL K H m vs xs) : GoodIt K (Ite K p) (enumV 0 xs) guard H0 m0 :=
  ⟨fun i x H m h hx rel gd g => by
    obtain ⟨z, hz, rfl⟩ := enumV_get hx
    obtain ⟨vs, s, r⟩ := hq H m h rel gd g
    obtain ⟨v, hv, rv⟩ := r.at hz
    refine ⟨⟨vs, v, s, hv⟩, fun w H' ⟨T, y, e1, hT, e2, hy⟩ => ?_⟩
    subst e1 e2
    have := hy vs s
    rw [hv] at this
    cases this
    rw [Nat.zero_add]
    exact ⟨rel.off hT, RepL.tup (SqT.of upd_same) (.cons (.int _) (.cons (rv.mono (.off hT)) .nil)), .off hT⟩,
  fun H m h rel gd g => by
    obtain ⟨vs, s, r⟩ := hq H m h rel gd g
    exact ⟨vs, s, by rw [r.len, enumV_len]; exact Nat.le_refl _⟩⟩
/-- a list by its kind, for ever -/
theorem lst_at {K : PySem.W.Frag} {H : Hp} {m : List Addr} {h : AH} {v : V} {x : AV} {xs : List AV} (rel : Rel K H m h) (r : Rep K H m v x) (e : lstOf x h = some xs) :
    ∃ p vs, v = .ref p ∧ SqL K H p vs ∧ RepL K H m vs xs ∧ ∀ H' m' h', Rel K H' m' h' → lstOf x h' = some xs → Grow K H m H' m' → ∃ ws, SqL K H' p ws ∧ RepL K H' m' ws xs := by
  cases x with
  | ref n =>
    simp only [lstOf] at e
    split at e
    · rename_i ys e1
      cases e
      obtain ⟨p, vs, rfl, hn, hp, rp⟩ := rel.lst r e1
      refine ⟨p, vs, rfl, SqL.of hp, rp, fun H' m' h' rel' e' g => ?_⟩
      simp only [lstOf] at e'
      split at e'
      · rename_i zs e2
        cases e'
        obtain ⟨ws, w1, w2⟩ := rel'.obj _ _ _ (g.at hn) e2
        exact ⟨ws, SqL.of w1, w2⟩
      · cases e'
    · cases e
  | rol ys =>
    cases e
    obtain ⟨p, vs, rfl, hp, rp⟩ := r.rol_inv
    exact ⟨p, vs, rfl, hp.sq, rp, fun H' m' h' rel' e' g => ⟨vs, (g.rol p vs hp).sq, rp.mono g⟩⟩
  | _ => cases e
theorem ai_enum {p tpos : Pos} {elts : List Expr} {kk : Nat} (hg : Gl X "enumerate") (hm : X.mg "enumerate" = none) (ha : AA X [e] tl) (hs : starEach [e] X.env = [(false, eval e X.env)] := by rfl) :
    AI X (.Tuple elts kk tpos) (.Call (.Name "enumerate" p) [e] [] pos) (iEnumT tl) := wkI (pi_enumA hg hm ha hs) fun σ H R ⟨m, h, a, RA, rel, rs, q, lk⟩ => by
  refine ⟨m, h, a, _, rel, rs, q, fun H1 m1 h1 vs xs q1 rel1 r1 g1 => ?_⟩
  split at q1
  · rename_i ys
    obtain ⟨v, ws, rfl, rv, rn⟩ := r1.cons_inv
    obtain rfl := rn.nil_inv
    obtain ⟨p, vs, rfl, hp, rp⟩ := rv.tup_inv
    exact ⟨p, rfl, .inr ⟨vs, hp, lk _ _ _ _ _ q1 rel1 g1 _ (good_enumT hp rp)⟩⟩
  · rename_i y _
    obtain ⟨v, ws, rfl, rv, rn⟩ := r1.cons_inv
    obtain rfl := rn.nil_inv
    split at q1
    · rename_i ys e
      obtain ⟨p, vs, rfl, hp, rp, al⟩ := lst_at rel1 rv e
      exact ⟨p, rfl, .inl ⟨vs, hp, lk _ _ _ _ _ q1 rel1 g1 _ (good_enumL al)⟩⟩
    · exact q1.elim
  · exact q1.elim
theorem zip2_get : ∀ {xs ys : List AV} {i : Nat} {z : AV}, (zip2 xs ys)[i]? = some z → ∃ x y, xs[i]? = some x ∧ ys[i]? = some y ∧ z = .tup [x, y]
  | [], ys, i, z, h => by simp [zip2] at h
  | _ :: _, [], i, z, h => by simp [zip2] at h
  | x :: xs, y :: ys, 0, z, h => by
    simp [zip2] at h
    exact ⟨x, y, rfl, rfl, h.symm⟩
  | x :: xs, y :: ys, i + 1, z, h => by
    have h : (zip2 xs ys)[i]? = some z := by simpa [zip2] using h
    obtain ⟨a, b, h1, h2, h3⟩ := zip2_get h
    exact ⟨a, b, by simpa using h1, by simpa using h2, h3⟩
theorem zip2_len : ∀ {xs ys : List AV}, (zip2 xs ys).length = min xs.length ys.length
  | [], ys => by simp [zip2]
  | _ :: _, [] => by simp [zip2]
  | x :: xs, y :: ys => by
    simp only [zip2, List.length_cons]
    rw [zip2_len]
    omega
theorem ai_zip {e2 : Expr} {p tpos : Pos} {elts : List Expr} {kk : Nat} (hg : Gl X "zip") (hm : X.mg "zip" = none) (ha : AA X [e, e2] tl)
    (hs : starEach [e, e2] X.env = (false, eval e X.env) :: starEach [e2] X.env := by rfl) (hpl : (backTo pos (starEach [e2] X.env)).any (·.1) = false := by rfl) :
    AI X (.Tuple elts kk tpos) (.Call (.Name "zip" p) [e, e2] [] pos) (iZipT tl) := wkI (RZ.pi_zipA hg hm ha hs hpl) fun σ H R ⟨m, h, a, RA, rel, rs, q, lk⟩ => by
  refine ⟨m, h, a, _, rel, rs, q, fun H1 m1 h1 vs xs q1 rel1 r1 g1 => ?_⟩
  split at q1
  · rename_i xs ys
    obtain ⟨v, ws, rfl, rv, rn⟩ := r1.cons_inv
    obtain ⟨v2, ws2, rfl, rv2, rn2⟩ := rn.cons_inv
    obtain rfl := rn2.nil_inv
    obtain ⟨p, vs, rfl, hp, rp⟩ := rv.tup_inv
    obtain ⟨p2, vs2, rfl, hp2, rp2⟩ := rv2.tup_inv
    refine ⟨p, p2, vs, vs2, rfl, .inr ⟨hp, hp2, lk _ _ _ _ _ q1 rel1 g1 _ ⟨fun i x H m h hx rel gd g => ?_, fun H m h rel gd g => ?_⟩⟩⟩
    · obtain ⟨x1, y1, e1, e2, rfl⟩ := zip2_get hx
      obtain ⟨w1, k1, k2⟩ := (rp.mono g).at e1
      obtain ⟨w2, k3, k4⟩ := (rp2.mono g).at e2
      have s1 := g.tup _ _ hp
      have s2 := g.tup _ _ hp2
      refine ⟨⟨vs, vs2, w1, w2, s1, s2, k1, k3⟩, fun w H' ⟨T, y, z, z1, hT, z2, z3, z4⟩ => ?_⟩
      subst z1 z2
      have a1 := z3 vs s1
      have a2 := z4 vs2 s2
      rw [k1] at a1
      rw [k3] at a2
      cases a1
      cases a2
      exact ⟨rel.off hT, RepL.tup (SqT.of upd_same) (.cons (k2.mono (.off hT)) (.cons (k4.mono (.off hT)) .nil)), .off hT⟩
    · refine ⟨vs, vs2, g.tup _ _ hp, g.tup _ _ hp2, ?_⟩
      have l1 := rp.len
      have l2 := rp2.len
      rw [zip2_len]
      omega
  · rename_i x y _
    split at q1
    · rename_i xs ys e1 e2
      obtain ⟨v, ws, rfl, rv, rn⟩ := r1.cons_inv
      obtain ⟨v2, ws2, rfl, rv2, rn2⟩ := rn.cons_inv
      obtain rfl := rn2.nil_inv
      obtain ⟨p, vs, rfl, hp, rp, al⟩ := lst_at rel1 rv e1
      obtain ⟨p2, vs2, rfl, hp2, rp2, al2⟩ := lst_at rel1 rv2 e2
      refine ⟨p, p2, vs, vs2, rfl, .inl ⟨hp, hp2, lk _ _ _ _ _ q1 rel1 g1 _ ⟨fun i x H m h hx rel gd g => ?_, fun H m h rel gd g => ?_⟩⟩⟩
      · obtain ⟨x1, y1, e1, e2, rfl⟩ := zip2_get hx
        obtain ⟨us, s1, t1⟩ := al H m h rel gd.1 g
        obtain ⟨us2, s2, t2⟩ := al2 H m h rel gd.2 g
        obtain ⟨w1, k1, k2⟩ := t1.at e1
        obtain ⟨w2, k3, k4⟩ := t2.at e2
        refine ⟨⟨us, us2, w1, w2, s1, s2, k1, k3⟩, fun w H' ⟨T, y, z, z1, hT, z2, z3, z4⟩ => ?_⟩
        subst z1 z2
        have a1 := z3 us s1
        have a2 := z4 us2 s2
        rw [k1] at a1
        rw [k3] at a2
        cases a1
        cases a2
        exact ⟨rel.off hT, RepL.tup (SqT.of upd_same) (.cons (k2.mono (.off hT)) (.cons (k4.mono (.off hT)) .nil)), .off hT⟩
      · obtain ⟨us, s1, t1⟩ := al H m h rel gd.1 g
        obtain ⟨us2, s2, t2⟩ := al2 H m h rel gd.2 g
        refine ⟨us, us2, s1, s2, ?_⟩
        have l1 := t1.len
        have l2 := t2.len
        rw [zip2_len]
        omega
    · exact q1.elim
  · exact q1.elim
theorem ai_str {l : Expr} (hl : AE X l te) : AI X tg l (iStrT te) := wkI (pi_str hl) fun σ H R ⟨m, h, a, RA, rel, rs, q, lk⟩ => by
  refine ⟨m, h, a, _, rel, rs, q, fun H1 m1 h1 v x q1 rel1 r1 g1 => ?_⟩
  cases x with
  | str z =>
    cases r1
    refine ⟨z, rfl, lk _ _ _ _ _ q1 rel1 g1 _ ⟨fun i x H m h hx rel gd g => ?_, fun H m h rel gd g => ?_⟩⟩
    · unfold signs at hx
      rw [List.getElem?_map] at hx
      cases hc : z.cps.toList[i]? with
      | none =>
        rw [hc] at hx
        cases hx
      | some c =>
        rw [hc] at hx
        cases hx
        have hi : i < z.cps.size := by
          have := (List.getElem?_eq_some_iff.mp hc).1
          simpa using this
        refine ⟨hi, fun w H' ⟨e1, d, e2, e3⟩ => ?_⟩
        subst e1 e3
        have e4 : z.cps.toList[i]? = some d := by simpa using e2
        rw [hc] at e4
        cases e4
        exact ⟨rel, .str _, .refl⟩
    · show z.cps.size ≤ (signs z).length
      unfold signs
      simp
  | _ => exact (show False from q1).elim
end

/-! ### numbers within a bound -/
section
variable {K : PySem.W.Frag} {H : Hp} {m : List Addr} {h : AH} {v : V} {x : AV} {vs : List V} {xs : List AV}
theorem clBs_all {n : Nat} : ∀ {xs : List AV}, clBs n xs = true ↔ ∀ x ∈ xs, clB n x = true
  | [] => by simp [clBs]
  | x :: xs => by
    simp only [clBs, Bool.and_eq_true, List.mem_cons, forall_eq_or_imp]
    rw [clBs_all]
theorem Rep.cl (r : Rep K H m v x) : clB m.length x = true := by
  induction r with
  | ref hn => exact decide_eq_true (List.getElem?_eq_some_iff.mp hn).1
  | @tup p vs xs hs hl hg ih =>
    show clBs m.length xs = true
    rw [clBs_all]
    intro y hy
    obtain ⟨i, hi, rfl⟩ := List.getElem_of_mem hy
    exact ih i vs[i] xs[i] (List.getElem?_eq_getElem (by omega)) (List.getElem?_eq_getElem hi)
  | @rol p vs xs hs hl hg ih =>
    show clBs m.length xs = true
    rw [clBs_all]
    intro y hy
    obtain ⟨i, hi, rfl⟩ := List.getElem_of_mem hy
    exact ih i vs[i] xs[i] (List.getElem?_eq_getElem (by omega)) (List.getElem?_eq_getElem hi)
  | _ => rfl
theorem RepL.cl (r : RepL K H m vs xs) : clBs m.length xs = true := by
  rw [clBs_all]
  intro y hy
  obtain ⟨i, hi, rfl⟩ := List.getElem_of_mem hy
  have hl := r.len
  exact (r.get i vs[i] xs[i] (List.getElem?_eq_getElem (by omega)) (List.getElem?_eq_getElem hi)).cl
theorem Rel.cl (r : Rel K H m h) : clH h := fun o ho => by
  obtain ⟨i, hi, rfl⟩ := List.getElem_of_mem ho
  have hl := r.len
  have q := r.obj i m[i] h[i] (List.getElem?_eq_getElem (by omega)) (List.getElem?_eq_getElem hi)
  rw [← hl]
  cases he : h[i] with
  | lst xs =>
    rw [he] at q
    obtain ⟨ws, _, q⟩ := q
    exact q.cl
  | dct kvs =>
    rw [he] at q
    obtain ⟨ws, _, _, q⟩ := q
    exact q.cl
/-- fewer numbers -/
theorem Rep.cut {e : List Addr} (r : Rep K H (m ++ e) v x) (hc : clB m.length x = true) : Rep K H m v x := by
  generalize hm : m ++ e = m' at r
  induction r with
  | non => exact .non
  | bl b => exact .bl b
  | int b => exact .int b
  | str b => exact .str b
  | ty b => exact .ty b
  | @ref n p hn =>
    subst hm
    have h1 : n < m.length := of_decide_eq_true hc
    rw [List.getElem?_append_left h1] at hn
    exact .ref hn
  | @tup p vs xs hs hl hg ih =>
    have hc : clBs m.length xs = true := hc
    rw [clBs_all] at hc
    exact .tup hs hl fun i w y h1 h2 => ih i w y h1 h2 (hc y (List.mem_of_getElem? h2))
  | @rol p vs xs hs hl hg ih =>
    have hc : clBs m.length xs = true := hc
    rw [clBs_all] at hc
    exact .rol hs hl fun i w y h1 h2 => ih i w y h1 h2 (hc y (List.mem_of_getElem? h2))
theorem RepL.cut {e : List Addr} (r : RepL K H (m ++ e) vs xs) (hc : clBs m.length xs = true) : RepL K H m vs xs :=
  ⟨r.len, fun i w y h1 h2 => (r.get i w y h1 h2).cut (clBs_all.mp hc y (List.mem_of_getElem? h2))⟩
theorem ORep.cut {e : List Addr} {p : Addr} {o : AO} (r : ORep K H (m ++ e) p o) (hc : clO m.length o = true) : ORep K H m p o := by
  cases o with
  | lst xs =>
    obtain ⟨ws, h1, h2⟩ := r
    exact ⟨ws, h1, h2.cut hc⟩
  | dct kvs =>
    obtain ⟨ws, h1, h2, h3⟩ := r
    exact ⟨ws, h1, h2, h3.cut hc⟩
theorem Rel.cut {e : List Addr} {h1 j : AH} (r : Rel K H (m ++ e) (h1 ++ j)) (hl : m.length = h1.length) (hc : clH h1) : Rel K H m h1 := by
  refine ⟨(List.nodup_append.mp r.nd).1, hl, fun n p o a b => ?_⟩
  have hn : n < m.length := (List.getElem?_eq_some_iff.mp a).1
  have q := r.obj n p o (by rw [List.getElem?_append_left hn]; exact a) (by rw [List.getElem?_append_left (by omega)]; exact b)
  exact q.cut (by rw [hl]; exact hc o (List.mem_of_getElem? b))
/-- what a def's end gives its caller -/
theorem Lk.ret {R : AK} {Q : VK} (rel : Rel K H m h) (lk : Lk K H m R Q) : Lk K H m (retG h R) Q := by
  intro H' m' h' v x q rel' rv g
  rcases q with q | ⟨h1, j, rfl, hl, hc, cx, q⟩ | ⟨h1, j1, ys, j2, rfl, rfl, hl, hc, cx, q⟩
  · exact lk _ _ _ _ _ q rel' rv g
  · obtain ⟨e, rfl⟩ := g.pre
    have hm : m.length = h1.length := by rw [rel.len, hl]
    exact lk H' m h1 v x q (rel'.cut hm hc) (rv.cut (by rw [hm]; exact cx)) ⟨g.tup, g.rol, [], (List.append_nil m).symm⟩
  · obtain ⟨e, rfl⟩ := g.pre
    have hm : m.length = h1.length := by rw [rel.len, hl]
    cases rv with
    | @ref _ p hn =>
      have hx : (h1 ++ (j1 ++ AO.lst ys :: j2))[h1.length + j1.length]? = some (.lst ys) := by
        rw [List.getElem?_append_right (by omega), Nat.add_sub_cancel_left, List.getElem?_append_right (Nat.le_refl _), Nat.sub_self]
        rfl
      obtain ⟨ws, e1, e2⟩ := rel'.obj _ _ _ hn hx
      have r0 : Rel K H' m h1 := rel'.cut hm hc
      have hp : p ∉ m := fun hmem => by
        obtain ⟨i, hi, rfl⟩ := List.getElem_of_mem hmem
        have := Rel.write.nodup_at rel'.nd hn (show (m ++ e)[i]? = some m[i] by rw [List.getElem?_append_left hi]; exact List.getElem?_eq_getElem hi)
        omega
      have gg : Grow K H' m H' (m ++ [p]) := ⟨fun _ _ z => z, fun _ _ z => z, [p], rfl⟩
      refine lk H' (m ++ [p]) _ (.ref p) (.ref h1.length) q ⟨?_, by simp [hm], fun i a o q1 q2 => ?_⟩ (.ref ?_) ⟨g.tup, g.rol, [p], rfl⟩
      · rw [List.nodup_append]
        refine ⟨r0.nd, by simp, fun b hb c hc => ?_⟩
        have : c = p := by simpa using hc
        subst this
        rintro rfl
        exact hp hb
      · by_cases hi : i < m.length
        · rw [List.getElem?_append_left hi] at q1
          rw [List.getElem?_append_left (by omega)] at q2
          exact (r0.obj i a o q1 q2).mono gg rfl
        · rw [List.getElem?_append_right (by omega)] at q1
          rw [List.getElem?_append_right (by omega), ← hm] at q2
          cases hk : i - m.length with
          | zero =>
            rw [hk] at q1 q2
            simp at q1 q2
            subst q1 q2
            exact ⟨ws, e1, (e2.cut (by rw [hm]; exact cx)).mono gg⟩
          | succ k =>
            rw [hk] at q1
            simp at q1
      · rw [← hm, List.getElem?_append_right (Nat.le_refl _), Nat.sub_self]
        rfl
end
/-! ### a def -/
theorem gv_start : ∀ {n : Nat} {xs : List AV} {i : Nat} {x : AV}, gv (startA n xs) i = some x → xs[i]? = some x := by
  have rep : ∀ (k i : Nat), gv (List.replicate k none) i = none := by
    intro k
    induction k with
    | zero => intro i; rfl
    | succ k ih => intro i; cases i with
      | zero => rfl
      | succ i => exact ih i
  have go : ∀ (xs : List AV) (k i : Nat) (x : AV), gv (xs.map some ++ List.replicate k none) i = some x → xs[i]? = some x := by
    intro xs
    induction xs with
    | nil =>
      intro k i x h
      have h : gv (List.replicate k none) i = some x := h
      rw [rep] at h
      cases h
    | cons y ys ih =>
      intro k i x h
      cases i with
      | zero =>
        have h : some y = some x := h
        cases h
        rfl
      | succ i => exact ih k i x h
  exact fun {n xs i x} h => go xs _ i x h
theorem RepS.start {K : PySem.W.Frag} {H : Hp} {m : List Addr} {N : List Str} {vs : List V} {xs : List AV} (r : RepL K H m vs xs) : RepS K H m (L2.start N vs) (startA N.length xs) := by
  refine ⟨?_, fun i x h => ?_⟩
  · unfold L2.start startA
    simp [r.len]
  · obtain ⟨v, h1, h2⟩ := r.at (gv_start h)
    refine ⟨v, ?_, h2⟩
    unfold L2.start
    rw [List.getElem?_append_left (by rw [List.length_map]; exact (List.getElem?_eq_some_iff.mp h1).1), List.getElem?_map, h1]
    rfl
section
variable {P : Program} {w : World} {K : PySem.W.Frag} {mg : Str → Option Value} {base : Heap}
/-- A DEF: its body as a term of rules; on the plain side, that the contract gives what the body asks -/
theorem okA {x qual : Str} {st : Stmt} {f : Addr} {fd : FuncData} {N ps : List Str} {k : Nat} {sp : ASp} {body : ATS} (F : Fun K x qual st f fd) (S : FnScope N ps (defScope st)) (hlen : ∀ xs h R E, sp xs h R E → xs.length = ps.length)
    (hb : ∀ (cdv : Value) (A : Around) (outer : List Env) (s : Shared) (H : Hp) (E : XK), Room k (A.deeper (envOfC qual (defScope st) s.heap.objs.size f cdv)) → ASs (cxOf CX0 P w K mg base N qual (defScope st) f cdv A outer s H E).nox (defBody st) body)
    (hp : ∀ xs h R, clH h → clBs h.length xs = true → sp xs h R (fun _ _ => False) → body (ends (retG h R)) (startA N.length xs) h) : FnOk P w K mg base CX0 (k + 1) f fd ps (upSp K sp) := by
  refine F.ok S (fun vs H Q E ⟨m, h, xs, R, rel, r, q, lk⟩ => by rw [r.len]; exact hlen _ _ _ _ q) fun cdv A outer s H vs Q E hr ⟨m, h, xs, R, rel, r, q, lk⟩ => ⟨_, hb cdv A outer s H E hr, ?_⟩
  have hc : clBs h.length xs = true := by
    rw [← rel.len]
    exact r.cl
  refine ⟨m, h, startA N.length xs, ends (retG h R), rel, .start r, hp xs h R rel.cl hc q, ?_⟩
  have lr := Lk.ret rel lk
  exact ⟨fun H' m' h' σ' a' q1 rel' rs g => lr _ _ _ _ _ q1 rel' .non g, lr, fun _ _ _ _ _ z => z.elim, fun _ _ _ _ _ z => z.elim⟩
/-- the law's own -/
theorem law_up {H : Hp} {a : Addr} {ns : List Int} (hl : ns.length ≤ 63) (hO : Only H) (hS : SqL K H a (ns.map V.int)) : upSp K lawSp [.ref a] H (fun v _ => v = .bl true) (fun _ _ _ => False) := by
  have hR : SqR K H a (ns.map V.int) := by
    rcases hS with (h | ⟨o, h⟩) | h
    · rcases hO a with z | ⟨o, xs, z⟩
      · rw [h] at z
        cases z
      · rw [h] at z
        cases z
    · exact .inl ⟨o, h⟩
    · exact .inr (.inr h)
  have rp : RepL K H [] (ns.map V.int) (ns.map AV.int) := by
    refine ⟨by simp, fun i v x h1 h2 => ?_⟩
    rw [List.getElem?_map] at h1 h2
    cases hn : ns[i]? with
    | none =>
      rw [hn] at h1
      cases h1
    | some z =>
      rw [hn] at h1 h2
      cases h1
      cases h2
      exact .int z
  refine ⟨[], [], [.rol (ns.map AV.int)], fun x _ => x = .bl true, ⟨.nil, rfl, fun n p o h => by simp at h⟩, .cons (.rol hR rp.len rp.get) .nil, ⟨ns, rfl, hl, fun _ => rfl⟩, fun H' m' h' v x q _ r _ => ?_⟩
  subst q
  cases r
  rfl
end
end AL

/-! AL5: defs as facts of the text, calls of them; chains, and more. -/
namespace AL
open PySem PySem.Spec PyProof.Rows L2
/-- a def of the text as it stands behind the top -/
structure DefIs (K : PySem.W.Frag) (mg : Str → Option Value) (x : Str) (st : Stmt) : Prop where
  ex : ∃ f fd, Fun K x x st f fd ∧ mg x = some (.ref f)
/-- a def that keeps a contract -/
structure Cal (P : Program) (w : World) (K : PySem.W.Frag) (mg : Str → Option Value) (base : Heap) (k : Nat) (x : Str) (ps : List Str) (sp : ASp) : Prop where
  ex : ∃ f fd, FnOk P w K mg base CX0 k f fd ps (upSp K sp) ∧ PySem.W.keepIn K (.ref f) = true ∧ Binds K fd ps [] ∧ mg x = some (.ref f)
section
variable {P : Program} {w : World} {K : PySem.W.Frag} {mg : Str → Option Value} {base : Heap}
theorem Cal.mk_ {k : Nat} {x : Str} {st : Stmt} {ps : List Str} {sp : ASp} (F : DefIs K mg x st) (hb : ∀ {f : Addr} {fd : FuncData}, Fun K x x st f fd → Binds K fd ps []) (h : ∀ {f : Addr} {fd : FuncData}, Fun K x x st f fd → FnOk P w K mg base CX0 k f fd ps (upSp K sp)) : Cal P w K mg base k x ps sp := by
  obtain ⟨f, fd, F, g⟩ := F.ex
  exact ⟨f, fd, h F, F.kp, hb F, g⟩
theorem none_ok {k : Nat} {f : Addr} {fd : FuncData} {ps : List Str} {sp : ASp} (h : ∀ xs h R E, sp xs h R E → False) : FnOk P w K mg base CX0 k f fd ps (upSp K sp) :=
  ⟨fun vs H Q E ⟨m, hh, xs, R, rel, r, q, lk⟩ => (h _ _ _ _ q).elim, fun A outer s H args us vs Q E hr he hb hv ⟨m, hh, xs, R, rel, r, q, lk⟩ => (h _ _ _ _ q).elim⟩
end
section
variable {X : Cx} {a b c e : Expr} {es : List Expr} {pos : Pos} {ta tb tc te : ATE} {tl : ATA}
theorem ae_cal {k : Nat} {x : Str} {ps : List Str} {s : ASp} {p : Pos} (C : Cal X.prog X.w X.K X.mg X.base k x ps s) (hr : Room k X.A) (hg : Gl X x) (ha : AA X (e :: es) tl) (hdb : (x == ("__debug__" : Str)) = false := by decide)
    (he : starEach (e :: es) X.env = (false, eval e X.env) :: starEach es X.env := by rfl) (hpl : (backTo pos (starEach es X.env)).any (·.1) = false := by rfl) : AE X (.Call (.Name x p) (e :: es) [] pos) (callT s (fun _ _ => False) tl) := by
  obtain ⟨f, fd, F, kp, b, g⟩ := C.ex
  exact ae_call F hr hg g kp b (E := E0) pass0 ha hdb he hpl
theorem ae_cal0 {k : Nat} {x : Str} {ps : List Str} {s : ASp} {p : Pos} (C : Cal X.prog X.w X.K X.mg X.base k x ps s) (hr : Room k X.A) (hg : Gl X x) (hdb : (x == ("__debug__" : Str)) = false := by decide) :
    AE X (.Call (.Name x p) [] [] pos) (callT s (fun _ _ => False) nilT) := by
  obtain ⟨f, fd, F, kp, b, g⟩ := C.ex
  exact ae_call0 F hr hg g kp b (E := E0) pass0 hdb
/-- a module's constant -/
structure ConIs (K : PySem.W.Frag) (mg : Str → Option Value) (x : Str) (k : AV) : Prop where
  ex : ∃ v u, mg x = some u ∧ RelV v u ∧ ∀ H m, Rep K H m v k
theorem ae_const {x : Str} {k : AV} (hg : Gl X x) (C : ConIs X.K X.mg x k) (hd : (x == ("__debug__" : Str)) = false := by decide) : AE X (.Name x pos) (cT k) := by
  obtain ⟨v, u, g, r, rp⟩ := C.ex
  exact ae_c (pe_glob hg g r hd) rp
theorem as_doc {x j pos'} : AS X (.Expr (.Constant (.str x) j pos) pos') nextT := wkS ps_doc fun D σ H ⟨m, h, a, DA, rel, rs, q, lk⟩ => lk.nx _ _ _ _ _ q rel rs .refl
theorem gTup_mono {K : PySem.W.Frag} {n : Nat} (is : List Nat) : ∀ v σ H (Q Q' : L2.St → Hp → Prop), (∀ s h, Q s h → Q' s h) → gTup K n (rNms is) v σ H Q → gTup K n (rNms is) v σ H Q' :=
  fun v σ H Q Q' hq ⟨a, xs, e1, e2, e3, q⟩ => ⟨a, xs, e1, e2, e3, rNms_mono is _ _ _ _ _ hq q⟩
/-! ### a < b < c -/
theorem lift_chain {r r' : AR2} {σ : L2.St} {H : Hp} {Q : VK} (q : upE X.K (chainT r r' ta tb tc) σ H Q) : tChain (up2 X.K r) (up2 X.K r') (upE X.K ta) (upE X.K tb) (upE X.K tc) σ H Q := by
  obtain ⟨m, h, a, R, rel, rs, q, lk⟩ := q
  refine ⟨m, h, a, _, rel, rs, q, fun H1 m1 h1 v x q1 rel1 r1 g1 => ⟨m1, h1, a, _, rel1, rs.mono g1, q1, fun H2 m2 h2 w y q2 rel2 r2 g2 => ⟨m2, h2, x, y, _, rel2, r1.mono g2, r2, q2, fun H3 m3 h3 z zz q3 rel3 r3 g3 => ?_⟩⟩⟩
  obtain ⟨c, rfl, rfl, q4⟩ := bl_inv r3 q3
  refine ⟨c, rfl, ?_⟩
  cases c with
  | true =>
    rw [if_pos rfl] at q4 ⊢
    exact ⟨m3, h3, a, _, rel3, rs.mono ((g1.trans g2).trans g3), q4, fun H5 m5 h5 u uu q5 rel5 r5 g5 => ⟨m5, h5, y, uu, R, rel5, (r2.mono g3).mono g5, r5, q5, Lk.on lk (((g1.trans g2).trans g3).trans g5)⟩⟩
  | false =>
    rw [if_neg Bool.false_ne_true] at q4 ⊢
    exact lk _ _ _ _ _ q4 rel3 (.bl false) ((g1.trans g2).trans g3)
theorem ae_chain {op op' : CmpOp} {r r' : AR2} (ho : OpR X (compareOp op) (up2 X.K r)) (ho' : OpR X (compareOp op') (up2 X.K r')) (ha : AE X a ta) (hb : AE X b tb) (hc : AE X c tc) (hm : lastMarks [op, op'] [b, c] = false := by with_unfolding_all rfl) : AE X (.Compare a [op, op'] [b, c] pos) (chainT r r' ta tb tc) := wkE (pe_chain ho ho' ha hb hc hm) fun _ _ _ q => lift_chain q
theorem at_chain {op op' : CmpOp} {r r' : AR2} (ho : OpR X (compareOp op) (up2 X.K r)) (ho' : OpR X (compareOp op') (up2 X.K r')) (ha : AE X a ta) (hb : AE X b tb) (hc : AE X c tc) (hm : lastMarks [op, op'] [b, c] = false := by with_unfolding_all rfl) : ATst X (.Compare a [op, op'] [b, c] pos) (cmpT (chainT r r' ta tb tc)) := wkT (pt_chain ho ho' ha hb hc hm) fun σ H Q q => by
  obtain ⟨m, h, a, R, rel, rs, q, lk⟩ := q
  refine lift_chain ⟨m, h, a, _, rel, rs, q, fun H1 m1 h1 v x q1 rel1 r1 g1 => ?_⟩
  obtain ⟨k, rfl, rfl, q2⟩ := bl_inv r1 q1
  exact ⟨k, rfl, lk _ _ _ _ q2 rel1 g1⟩
end
end AL

/-! AL6: the law's own contract at the start. -/
namespace AL
open PySem PySem.Spec PyProof.Rows L2
theorem law_up1 {K : PySem.W.Frag} {H : Hp} {a : Addr} {ns : List Int} (hl : ns.length ≤ 63) (hO : Only H) (hS : SqL K H a (ns.map V.int)) : upSp K sp_law [.ref a] H (fun v _ => v = .bl true) (fun _ _ _ => False) := by
  obtain ⟨m, hh, xs, R, rel, r, ⟨ns, rfl, hl, q⟩, lk⟩ := law_up (K := K) hl hO hS
  exact ⟨m, hh, _, R, rel, r, ⟨ns, rfl, hl, q⟩, lk⟩
end AL

/-! AL7: more rules: constants of the text, slices, more methods and built-ins. -/
namespace AL
open PySem PySem.Spec PyProof.Rows L2
/-! ### tuples of the top -/
def toV : AV → V
  | .int i => .int i
  | .str x => .str x
  | .bl b => .bl b
  | _ => .non
def leafA : AV → Bool
  | .int _ => true
  | .str _ => true
  | .bl _ => true
  | .non => true
  | _ => false
theorem con_tup {K : PySem.W.Frag} {mg : Str → Option Value} {x : Str} {p : Addr} (xs : List AV) {od : Option Addr} {its : Array Value} {n : Nat} {sl : Array (Option Value)} (g : mg x = some (.ref p)) (l : K.lookup p = some ⟨.type "tuple", od, .seq its n, sl⟩) (hs : its.size ≤ sizeLine) (hx : xs.all leafA = true) (hv : Vals (xs.map toV) its.toList) : ConIs K mg x (.tup xs) := by
  refine ⟨.ref p, .ref p, g, rfl, fun H m => .tup (vs := xs.map toV) (.inr ⟨_, its, n, l, rfl, rfl, hs, hv⟩) (List.length_map ..) fun i v y h1 h2 => ?_⟩
  rw [List.getElem?_map, h2] at h1
  cases h1
  have := List.all_eq_true.mp hx y (List.mem_of_getElem? h2)
  cases y with
  | int i => exact .int i
  | str x => exact .str x
  | bl b => exact .bl b
  | non => exact .non
  | _ => cases this
/-! ### parts of rows -/
section
variable {K : PySem.W.Frag} {H : Hp} {m : List Addr} {vs : List V} {xs : List AV}
theorem RepL.take (r : RepL K H m vs xs) (n : Nat) : RepL K H m (vs.take n) (xs.take n) := ⟨by simp [r.len], fun i v x h1 h2 => by
  by_cases hi : i < n
  · rw [List.getElem?_take_of_lt hi] at h1 h2
    exact r.get i v x h1 h2
  · rw [List.getElem?_take_eq_none (by omega)] at h1
    cases h1⟩
theorem RepL.drop (r : RepL K H m vs xs) (n : Nat) : RepL K H m (vs.drop n) (xs.drop n) := ⟨by simp [r.len], fun i v x h1 h2 => by
  rw [List.getElem?_drop] at h1 h2
  exact r.get _ v x h1 h2⟩
theorem RepL.rev (r : RepL K H m vs xs) : RepL K H m vs.reverse xs.reverse := ⟨by simp [r.len], fun i v x h1 h2 => by
  have hi : i < vs.length := by
    have := (List.getElem?_eq_some_iff.mp h1).1
    rwa [List.length_reverse] at this
  rw [List.getElem?_reverse hi] at h1
  rw [List.getElem?_reverse (by rw [← r.len]; exact hi), ← r.len] at h2
  exact r.get _ v x h1 h2⟩
theorem RepL.cutS (r : RepL K H m vs xs) (lo hi : Option Int) : RepL K H m (cutV vs lo hi) (cutA xs lo hi) := by
  have e : ∀ (n d : Nat) (o : Option Int), sixA n d o = HT.sIx n d o := fun n d o => by cases o <;> rfl
  unfold cutV cutA
  rw [e, e, ← r.len]
  exact (r.drop _).take _
theorem RepL.last (r : RepL K H m vs xs) : RepL K H m vs.dropLast xs.dropLast := by
  rw [List.dropLast_eq_take, List.dropLast_eq_take, ← r.len]
  exact r.take _
end
section
variable {X : Cx} {e e1 e2 : Expr} {pos p2 : Pos} {te : ATE} {tl th : ATO} {lo hi : Option Expr}
/-! ### slices -/
def upO (K : PySem.W.Frag) (t : ATO) : TO := fun σ H Q => ∃ m h a R, Rel K H m h ∧ RepS K H m σ a ∧ t a h R ∧ ∀ H' m' h' o, R o h' → Rel K H' m' h' → Grow K H m H' m' → Q o H'
abbrev AO' (X : Cx) (e : Option Expr) (t : ATO) : Prop := PO X e (upO X.K t)
theorem ao_none : AO' X none noneT := ⟨fun pins s σ H Q I ⟨m, h, a, R, rel, rs, q, lk⟩ => po_none.run pins s σ H Q I (lk _ _ _ _ q rel .refl)⟩
theorem ao_some (he : AE X e te) : AO' X (some e) (someT te) := ⟨fun pins s σ H Q I ⟨m, h, a, R, rel, rs, q, lk⟩ => (po_some he).run pins s σ H Q I ⟨m, h, a, _, rel, rs, q, fun H1 m1 h1 v x q1 rel1 r1 g1 => by
  cases r1 with
  | int i => exact ⟨i, rfl, lk _ _ _ _ q1 rel1 g1⟩
  | _ => exact (show False from q1).elim⟩⟩
def upSl (K : PySem.W.Frag) : V → Option Int → Option Int → Hp → VK → Prop := fun x lo hi H Q => ∃ m h ax R, Rel K H m h ∧ Rep K H m x ax ∧ sliceR ax lo hi h R ∧ Lk K H m R Q
theorem slR_inv {n : Nat} {lo hi : Option Int} {h : AH} {R : AK} (q : sliceR (.ref n) lo hi h R) : ∃ xs, h[n]? = some (.lst xs) ∧ R (.ref h.length) (h ++ [.lst (cutA xs lo hi)]) := by
  simp only [sliceR] at q
  split at q
  · rename_i xs e
    exact ⟨xs, e, q⟩
  · exact q.elim
theorem sl_A : L2.SlR X (upSl X.K) := by
  intro pins s σ H x v vl vu lo hi sl Q I rx hs pl pu ⟨m, h, ax, R, rel, r1, q, lk⟩
  cases ax with
  | tup xs =>
    obtain ⟨p, vs, rfl, hp, rp⟩ := r1.tup_inv
    refine sl_tupA pins s σ H _ v vl vu lo hi sl Q I rx hs pl pu ⟨p, vs, rfl, hp, fun ⟨w1, w2⟩ => ?_, fun _ t ht => ?_⟩
    · have e : cutA xs lo hi = xs := by
        have e : ∀ (n d : Nat) (o : Option Int), sixA n d o = HT.sIx n d o := fun n d o => by cases o <;> rfl
        unfold cutA
        rw [e, e, ← rp.len, w1, w2, List.drop_zero, Nat.sub_zero, rp.len, List.take_length]
      have q : R (.tup (cutA xs lo hi)) h := q
      rw [e] at q
      exact lk _ _ _ _ _ q rel r1 .refl
    · exact lk _ _ _ _ _ q (rel.off ht) (.tup (SqT.of upd_same) (rp.cutS lo hi).len ((rp.cutS lo hi).mono (.off ht)).get) (.off ht)
  | rol xs =>
    obtain ⟨p, vs, rfl, hp, rp⟩ := r1.rol_inv
    exact sl_list pins s σ H _ v vl vu lo hi sl Q I rx hs pl pu ⟨p, vs, rfl, hp.sq, fun l hl => lk _ _ _ _ _ q (rel.pushL hl (rp.cutS lo hi)) (.ref rel.last) (.new hl [l])⟩
  | ref n =>
    obtain ⟨ys, e, q⟩ := slR_inv q
    obtain ⟨p, vs, rfl, _, hp, rp⟩ := rel.lst r1 e
    exact sl_list pins s σ H _ v vl vu lo hi sl Q I rx hs pl pu ⟨p, vs, rfl, SqL.of hp, fun l hl => lk _ _ _ _ _ q (rel.pushL hl (rp.cutS lo hi)) (.ref rel.last) (.new hl [l])⟩
  | _ => exact (show False from q).elim
theorem ae_slice (hr : L2.SlR X (upSl X.K)) (he : AE X e te) (hl : AO' X lo tl) (hu : AO' X hi th) : AE X (.Subscript e (.Slice lo hi none p2) pos) (sliceT te tl th) := wkE (pe_slice hr he hl hu) fun σ H Q ⟨m, h, a, R, rel, rs, q, lk⟩ =>
  ⟨m, h, a, _, rel, rs, q, fun H1 m1 h1 v x q1 rel1 r1 g1 => ⟨m1, h1, a, _, rel1, rs.mono g1, q1, fun H2 m2 h2 o2 q2 rel2 g2 => ⟨m2, h2, a, _, rel2, rs.mono (g1.trans g2), q2, fun H3 m3 h3 o3 q3 rel3 g3 => ⟨m3, h3, x, R, rel3, r1.mono (g2.trans g3), q3, Lk.on lk ((g1.trans g2).trans g3)⟩⟩⟩⟩
/-! ### methods -/
theorem ae_bm0 {ok : AV → AH → Prop} {r : ARM} {T : String} {name : Str} {o : Expr} {apos : Pos} {to : ATE} (hok : upOk X.K ok T) (h : PE X (.Call (.Attribute o name apos) [] [] pos) (tBM0 X.K T (upM X.K r) (upE X.K to))) : AE X (.Call (.Attribute o name apos) [] [] pos) (mtT ok r to nilT) := wkE h fun σ H Q ⟨m, h, a, R, rel, rs, q, lk⟩ =>
  ⟨m, h, a, _, rel, rs, q, fun H1 m1 h1 v x q1 rel1 r1 g1 => ⟨hok _ _ _ _ _ rel1 r1 q1.1, m1, h1, x, [], R, rel1, r1, .nil, q1.2, Lk.on lk g1⟩⟩
theorem mt_reverseA : MtM X "list.reverse" (upM X.K reverseR) := by
  intro pins s σ H x xs v us Q I rx rs ⟨m, h, ax, as, R, rel, r1, ra, q, lk⟩
  cases ax with
  | ref n =>
    match as, q, ra with
    | [], q, ra =>
      obtain rfl := ra.nil_inv
      simp only [reverseR] at q
      split at q
      · rename_i ys e
        obtain ⟨p, vs, rfl, hn, hp, rp⟩ := rel.lst r1 e
        refine mt_reverse pins s σ H _ _ v us Q I rx rs ⟨p, vs, rfl, rfl, hp, ?_⟩
        exact lk _ _ _ _ _ q (rel.write hn e (.lst hp) ⟨_, upd_same, rp.rev.mono (.lst hp)⟩) .non (.lst hp)
      · exact q.elim
    | _ :: _, q, _ => exact (show False from q).elim
  | _ => exact (show False by cases as <;> exact q).elim
theorem mt_popA : MtM X "list.pop" (upM X.K popR) := by
  intro pins s σ H x xs v us Q I rx rs ⟨m, h, ax, as, R, rel, r1, ra, q, lk⟩
  cases ax with
  | ref n =>
    match as, q, ra with
    | [], q, ra =>
      obtain rfl := ra.nil_inv
      simp only [popR] at q
      split at q
      · rename_i ys e
        split at q
        · rename_i y ey
          obtain ⟨p, vs, rfl, hn, hp, rp⟩ := rel.lst r1 e
          obtain ⟨w, hw, rw⟩ := rp.at ey
          rw [← rp.len] at hw
          refine mt_pop pins s σ H _ _ v us Q I rx rs ⟨p, vs, w, rfl, rfl, hp, hw, ?_⟩
          exact lk _ _ _ _ _ q (rel.write hn e (.lst hp) ⟨_, upd_same, rp.last.mono (.lst hp)⟩) (rw.mono (.lst hp)) (.lst hp)
        · exact q.elim
      · exact q.elim
    | _ :: _, q, _ => exact (show False from q).elim
  | _ => exact (show False by cases as <;> exact q).elim
theorem insertR_inv {n : Nat} {i y : AV} {h : AH} {R : AK} (q : insertR (.ref n) [i, y] h R) : ∃ xs j, i = .int j ∧ h[n]? = some (.lst xs) ∧ xs.length < 16777216 ∧ 0 ≤ j ∧ j < 2 ^ 63 ∧ R .non (h.set n (.lst (xs.take j.toNat ++ [y] ++ xs.drop j.toNat))) := by
  cases i with
  | int j =>
    simp only [insertR] at q
    split at q
    · rename_i xs e
      exact ⟨xs, j, rfl, e, q⟩
    · exact q.elim
  | _ => exact q.elim
theorem mt_insertA : MtM X "list.insert" (upM X.K insertR) := by
  intro pins s σ H x xs v us Q I rx rs ⟨m, h, ax, as, R, rel, r1, ra, q, lk⟩
  cases ax with
  | ref n =>
    match as, q, ra with
    | [i, y], q, ra =>
      obtain ⟨w0, ws0, rfl, rw0, rn0⟩ := ra.cons_inv
      obtain ⟨w, ws, rfl, rw, rn⟩ := rn0.cons_inv
      obtain rfl := rn.nil_inv
      obtain ⟨ys, j, rfl, e, hz, h0, h1, q⟩ := insertR_inv q
      cases rw0
      obtain ⟨p, vs, rfl, hn, hp, rp⟩ := rel.lst r1 e
      refine mt_insert pins s σ H _ _ v us Q I rx rs ⟨p, vs, j, w, rfl, rfl, hp, by rw [rp.len, line]; exact hz, h0, h1, ?_⟩
      exact lk _ _ _ _ _ q (rel.write hn e (.lst hp) ⟨_, upd_same, (((rp.take _).append (.cons rw .nil)).append (rp.drop _)).mono (.lst hp)⟩) .non (.lst hp)
    | [], q, _ => exact (show False from q).elim
    | [z], q, _ => exact (show False by cases z <;> exact q).elim
    | _ :: _ :: _ :: _, q, _ => exact (show False by
      rename_i a b c d _
      cases a <;> exact q).elim
  | _ => exact (show False by (match as, q with
    | [], q => exact q
    | [_], q => exact q
    | [_, _], q => exact q
    | _ :: _ :: _ :: _, q => exact q)).elim
/-! ### max, min -/
theorem call_max2A (hc : X.calm = true) : CallR X (.builtin "max") (upL X.K max2R) := by
  intro pins s σ H xs us Q I rs ⟨m, h, as, R, rel, ra, q, lk⟩
  obtain ⟨x, y, rfl⟩ := two_inv q (fun z => z) (fun x z => by cases x <;> exact z) (fun x y z t w => by cases x <;> cases y <;> exact w)
  obtain ⟨v, ws, rfl, rv, rw⟩ := ra.cons_inv
  obtain ⟨v2, ws2, rfl, rv2, rw2⟩ := rw.cons_inv
  obtain rfl := rw2.nil_inv
  cases x with
  | int i =>
    cases y with
    | int j =>
      cases rv
      cases rv2
      exact call_max2 hc pins s σ H _ us Q I rs ⟨i, j, rfl, lk _ _ _ _ _ q rel (.int _) .refl⟩
    | _ => exact (show False from q).elim
  | _ => exact (show False by cases y <;> exact q).elim
theorem call_min2A (hc : X.calm = true) : CallR X (.builtin "min") (upL X.K min2R) := by
  intro pins s σ H xs us Q I rs ⟨m, h, as, R, rel, ra, q, lk⟩
  obtain ⟨x, y, rfl⟩ := two_inv q (fun z => z) (fun x z => by cases x <;> exact z) (fun x y z t w => by cases x <;> cases y <;> exact w)
  obtain ⟨v, ws, rfl, rv, rw⟩ := ra.cons_inv
  obtain ⟨v2, ws2, rfl, rv2, rw2⟩ := rw.cons_inv
  obtain rfl := rw2.nil_inv
  cases x with
  | int i =>
    cases y with
    | int j =>
      cases rv
      cases rv2
      exact call_min2 hc pins s σ H _ us Q I rs ⟨i, j, rfl, lk _ _ _ _ _ q rel (.int _) .refl⟩
    | _ => exact (show False from q).elim
  | _ => exact (show False by cases y <;> exact q).elim
end
end AL

/-! AL8: zip of two, each a list or a tuple. -/
namespace AL
open PySem PySem.Spec PyProof.Rows L2
/-- true: a tuple, false: a list -/
def SqM (k : Bool) (K : PySem.W.Frag) (H : Hp) (a : Addr) (xs : List V) : Prop := match k with
  | true => SqT K H a xs
  | false => SqL K H a xs
def IterM (k : Bool) (h : Heap) (it a : Addr) (i : Nat) : Prop := match k with
  | true => h.IsTupleIter it a i
  | false => h.IsListIter it a i
def IsM (k : Bool) (h : Heap) (a : Addr) (its : Array Value) : Prop := match k with
  | true => h.IsTuple a its
  | false => h.IsList a its
theorem IterM.live {k : Bool} {h : Heap} {it a : Addr} {i : Nat} (st : IterM k h it a i) : ∃ o, h.get? it = some o ∧ ∀ v, o.data ≠ .cell v := by
  cases k with
  | true =>
    obtain ⟨o, e, _, d⟩ := st
    exact ⟨o, e, fun v z => by rw [d] at z; cases z⟩
  | false =>
    obtain ⟨o, e, _, d⟩ := st
    exact ⟨o, e, fun v z => by rw [d] at z; cases z⟩
theorem IterM.keep {k : Bool} {h h' : Heap} {it a : Addr} {i : Nat} (st : IterM k h it a i) (kp : ∀ o, h.get? it = some o → h'.get? it = some o) : IterM k h' it a i := by
  cases k with
  | true => exact Heap.IsTupleIter.at st kp
  | false => exact Heap.IsListIter.at st kp
theorem drawsM {prog : Program} {w : World} {A : Around} (k : Bool) (hh : A.handled = none) (it a : Addr) (hne : a ≠ it) (its : Array Value) : Draws prog w A it [it, a] its.size (fun i v => its[i]? = some v) (fun i h => IterM k h it a i ∧ IsM k h a its) := by
  cases k with
  | true => exact Draws.tuple hh it a hne its
  | false => exact Draws.list hh it a hne its
theorem inv_seqM {X : Cx} {pins : List (Addr × Obj)} {σ : L2.St} {H : Hp} {s : Shared} {k : Bool} {a : Addr} {xs : List V} (I : Inv X pins σ H s) (hq : SqM k X.K H a xs) : ∃ its, Vals xs its ∧ IsM k s.heap a its.toArray ∧ a < s.heap.objs.size := by
  cases k with
  | true =>
    obtain ⟨its, rv, p, _⟩ := I.tuple hq
    obtain ⟨o, ho, _⟩ := id p
    exact ⟨its, rv, p, Heap.lt_size ho⟩
  | false =>
    obtain ⟨its, rv, p, _⟩ := I.list hq
    exact ⟨its, rv, p.isList, p.lt⟩
theorem inv_injM {X : Cx} {pins : List (Addr × Obj)} {σ : L2.St} {H : Hp} {s : Shared} {k : Bool} {a : Addr} {xs ys : List V} (I : Inv X pins σ H s) (h1 : SqM k X.K H a xs) (h2 : SqM k X.K H a ys) : xs = ys := by
  cases k with
  | true => exact I.tuple_inj h1 h2
  | false => exact I.list_inj h1 h2
def ItM (k1 k2 : Bool) (K : PySem.W.Frag) (a b : Addr) : It where
  go := fun i H => ∃ (xs ys : List V) (x y : V), SqM k1 K H a xs ∧ SqM k2 K H b ys ∧ xs[i]? = some x ∧ ys[i]? = some y
  yld := fun i H v H' => ∃ T x y, v = .ref T ∧ H T = none ∧ H' = L2.upd H T (.tup [x, y]) ∧ (∀ xs, SqM k1 K H a xs → xs[i]? = some x) ∧ ∀ ys, SqM k2 K H b ys → ys[i]? = some y
  stop := fun i H => ∃ xs ys : List V, SqM k1 K H a xs ∧ SqM k2 K H b ys ∧ i = min xs.length ys.length
theorem turn_zipM {P : Program} {w : World} {K : PySem.W.Frag} {elts : List Expr} {kk : Nat} {tpos : Pos} (k1 k2 : Bool) {a b z TI TO i1 i2 : Addr} (S : ZipSep2 z TI TO i1 i2 [i1, a] [i2, b]) (n1 : a ≠ i1) (n2 : b ≠ i2) :
    Turn P w K (.Tuple elts kk tpos) (ItM k1 k2 K a b) [z, TI, TO, i1, i2] z (fun i h => IsZip h z TI TO .none ∧ IsTupOf2 h TI (.ref i1) (.ref i2) ∧ (∃ u v, IsTupOf2 h TO u v) ∧ IterM k1 h i1 a i ∧ IterM k2 h i2 b i) where
  mem := by simp
  obj := fun i h ⟨hz, hI, ⟨u, v, hO⟩, t1, t2⟩ c hc => by
    have e : c = z ∨ c = TI ∨ c = TO ∨ c = i1 ∨ c = i2 := by simpa using hc
    rcases e with rfl | rfl | rfl | rfl | rfl
    · exact ⟨_, hz, fun v q => nomatch q⟩
    · exact ⟨_, hI, fun v q => nomatch q⟩
    · exact ⟨_, hO, fun v q => nomatch q⟩
    · exact t1.live
    · exact t2.live
  keep := fun i h h' ⟨hz, hI, ⟨u, v, hO⟩, t1, t2⟩ kp => ⟨kp z (by simp) _ hz, kp TI (by simp) _ hI, ⟨u, v, kp TO (by simp) _ hO⟩, t1.keep fun o q => kp i1 (by simp) o q, t2.keep fun o q => kp i2 (by simp) o q⟩
  item := by
    intro X hP hw hK hc i pins s σ H E I hf ⟨hz, hI, hO, t1, t2⟩ ⟨xs, ys, x, y, hqx, hqy, hx, hy⟩
    subst hP hw hK
    obtain ⟨its, rv, p, la⟩ := inv_seqM I hqx
    obtain ⟨its2, rv2, p2, lb⟩ := inv_seqM I hqy
    obtain ⟨u, hu, ru⟩ := rv.get hx
    obtain ⟨u2, hu2, ru2⟩ := rv2.get hy
    have hh : X.A.in1.handled = none := I.ok.hd hc
    have W := WalksT.zipD2 S (drawsM (prog := X.prog) (w := X.w) k1 hh i1 a n1 its.toArray) (drawsM (prog := X.prog) (w := X.w) k2 hh i2 b n2 its2.toArray)
    have lt1 := (List.getElem?_eq_some_iff.mp hu).1
    have lt2 := (List.getElem?_eq_some_iff.mp hu2).1
    refine W.item i s _ E (by simp; omega) ⟨hz, hI, hO, ⟨t1, p⟩, ⟨t2, p2⟩⟩ fun T vals h' tk ⟨v1, v2, hv1, hv2, ev⟩ hT hTup hMid hk => ?_
    subst ev
    have e1 : v1 = u := by
      have q : its[i]? = some v1 := by simpa using hv1
      rw [hu] at q
      exact (Option.some.inj q).symm
    have e2 : v2 = u2 := by
      have q : its2[i]? = some v2 := by simpa using hv2
      rw [hu2] at q
      exact (Option.some.inj q).symm
    subst e1 e2
    have hap := W.apart i T h' hMid
    have out : ∀ c, c ∉ [z, TI, TO, i1, i2] → c ∉ [z, TO, i1, i2] := fun c hc q => hc (by
      simp only [List.mem_cons, List.not_mem_nil, or_false] at q ⊢
      rcases q with q | q | q | q <;> simp [q])
    refine ⟨_, rfl, W.go elts kk tpos i T _ _ E hMid fun h'' hSt hk2 => ?_⟩
    have new : ObjOk X.prog X.w (L2.upd H T (.tup [x, y])) h'' T (.tup [x, y]) := by
      obtain ⟨o, ho, hc2, n, hd⟩ := hTup
      exact ⟨by show 2 ≤ sizeLine; rw [sizeLine_eq]; decide, [v1, v2], .cons ru (.cons ru2 .nil), ⟨o, hk2 T o hap ho, hc2, n, hd⟩⟩
    have I1 : Inv X pins σ (L2.upd H T (.tup [x, y])) { s with heap := h'', toks := tk } :=
      I.turnedNew (ch := [z, TI, TO, i1, i2]) (fun c ob hb q => hk2 c ob (out c hb) (hk c ob (out c hb) q)) hf hT new
    refine ⟨.ref T, _, I1, rfl, ⟨T, x, y, rfl, I.hok.fresh hT, rfl, fun l hl => by rw [inv_injM I hl hqx]; exact hx, fun l hl => by rw [inv_injM I hl hqy]; exact hy⟩, ⟨hSt.1, hSt.2.1, hSt.2.2.1, hSt.2.2.2.1.1, hSt.2.2.2.2.1⟩, fun c hb => ?_⟩
    have hlt : c < s.heap.objs.size := by
      have e : c = z ∨ c = TI ∨ c = TO ∨ c = i1 ∨ c = i2 := by simpa using hb
      obtain ⟨u0, v0, hO⟩ := hO
      rcases e with rfl | rfl | rfl | rfl | rfl
      · exact Heap.lt_size hz
      · exact Heap.lt_size hI
      · exact Heap.lt_size hO
      · obtain ⟨_, q, _⟩ := t1.live
        exact Heap.lt_size q
      · obtain ⟨_, q, _⟩ := t2.live
        exact Heap.lt_size q
    rw [upd_ne (show c ≠ T from fun q => by
      have : c < T := Nat.lt_of_lt_of_le hlt hT
      rw [q] at this
      exact Nat.lt_irrefl _ this)]
    exact (hf c hb).1
  done := by
    intro X hP hw hK hc i pins s σ H E I hf ⟨hz, hI, hO, t1, t2⟩ ⟨xs, ys, hqx, hqy, hi⟩
    subst hP hw hK
    obtain ⟨its, rv, p, la⟩ := inv_seqM I hqx
    obtain ⟨its2, rv2, p2, lb⟩ := inv_seqM I hqy
    have hh : X.A.in1.handled = none := I.ok.hd hc
    have W := WalksT.zipD2 S (drawsM (prog := X.prog) (w := X.w) k1 hh i1 a n1 its.toArray) (drawsM (prog := X.prog) (w := X.w) k2 hh i2 b n2 its2.toArray)
    have hlen : i = min its.toArray.size its2.toArray.size := by
      have l1 := rv.length
      have l2 := rv2.length
      simp
      omega
    subst hlen
    refine W.done s _ E ⟨hz, hI, hO, ⟨t1, p⟩, ⟨t2, p2⟩⟩ fun h' tk hk => ⟨rfl, I.turnedL (t' := tk) (ch := [z, TI, TO, i1, i2]) (fun c o hb q => hk c o (fun m => hb (by
      simp only [List.mem_cons, List.not_mem_nil, or_false] at m ⊢
      rcases m with m | m | m | m <;> simp [m])) q) hf⟩
  self := fun A i s Q E ⟨hz, _⟩ h => wpAny_pyIter_zip hz h
/-- how the iterators begin -/
def iterObj (k : Bool) (a : Addr) : Obj := match k with
  | true => { cls := .type "tuple_iterator", data := .fields #[.ref a, .int 0 0] }
  | false => { cls := .type "list_iterator", data := .fields #[.ref a, .int 0 0] }
theorem beginsM (k : Bool) (a : Addr) (its : Array Value) : Begins (.ref a) (iterObj k a) (fun h => IsM k h a its) := by
  cases k with
  | true => exact begins_tuple a its
  | false => exact begins_list a its
theorem iter_begun (k : Bool) {h : Heap} {it a : Addr} (e : h.get? it = some (iterObj k a)) : IterM k h it a 0 := by
  cases k with
  | true => exact ⟨_, e, rfl, rfl⟩
  | false => exact ⟨_, e, rfl, rfl⟩
section
variable {X : Cx} {e e2 : Expr} {pos : Pos} {tl : ATA}
theorem pi_zipM {ta : TA} {p tpos : Pos} {elts : List Expr} {kk : Nat} (hg : Gl X "zip") (hm : X.mg "zip" = none) (ha : PA X [e, e2] ta)
    (hs : starEach [e, e2] X.env = (false, eval e X.env) :: starEach [e2] X.env) (hpl : (backTo pos (starEach [e2] X.env)).any (·.1) = false) :
    PI X (.Tuple elts kk tpos) (.Call (.Name "zip" p) [e, e2] [] pos) (fun σ H R => ta σ H fun vs H1 => ∃ k1 k2 a b xs ys, vs = [.ref a, .ref b] ∧ SqM k1 X.K H1 a xs ∧ SqM k2 X.K H1 b ys ∧ R (ItM k1 k2 X.K a b) H1) := by
  refine ⟨fun pins s σ H R I h => ?_⟩
  refine Call_ (ld_blt I hg hm PyProof.Rows.boot_zip (PyProof.Rows.callWith_type1 (thn (ha.run pos pins s σ H _ I h) fun us s1 ⟨vs, H1, J, rr, qq⟩ => ?_) hs hpl))
  obtain ⟨k1, k2, a, b, xs, ys, ex, hx, hy, hR⟩ := qq
  subst ex
  obtain ⟨u1, u2, rfl, ru1, ru2⟩ := rr.two
  cases (show u1 = Value.ref a from ru1)
  cases (show u2 = Value.ref b from ru2)
  obtain ⟨its, rv, p1, la⟩ := inv_seqM J hx
  obtain ⟨its2, rv2, p2, lb⟩ := inv_seqM J hy
  refine zip_begins2 (beginsM k1 a its.toArray) (beginsM k2 b its2.toArray) p1 p2 fun h' hz hI hO g1 g2 hsz hk => wpAny_pyIter_zip hz ?_
  have five : ∀ c ∈ [s1.heap.objs.size + 4, s1.heap.objs.size + 2, s1.heap.objs.size + 3, s1.heap.objs.size, s1.heap.objs.size + 1], FpOk X pins H1 c := fun c hc => by
    have hle : s1.heap.objs.size ≤ c := by
      simp only [List.mem_cons, List.not_mem_nil, or_false] at hc
      rcases hc with rfl | rfl | rfl | rfl | rfl
      · exact Nat.le_add_right _ _
      · exact Nat.le_add_right _ _
      · exact Nat.le_add_right _ _
      · exact Nat.le_refl _
      · exact Nat.le_add_right _ _
    exact J.fpOk hle (J.hok.fresh hle)
  have S : ZipSep2 (s1.heap.objs.size + 4) (s1.heap.objs.size + 2) (s1.heap.objs.size + 3) s1.heap.objs.size (s1.heap.objs.size + 1) [s1.heap.objs.size, a] [s1.heap.objs.size + 1, b] :=
    zip_sep2 (fp1 := [a]) (fp2 := [b]) (fun c hc => by cases List.mem_singleton.mp hc; exact la) (fun c hc => by cases List.mem_singleton.mp hc; exact lb)
  exact ⟨_, [s1.heap.objs.size + 4, s1.heap.objs.size + 2, s1.heap.objs.size + 3, s1.heap.objs.size, s1.heap.objs.size + 1], _, _, H1, rfl, J.kept (t' := s1.toks) hk,
    turn_zipM k1 k2 S (Nat.ne_of_lt la) (Nat.ne_of_lt (Nat.lt_succ_of_lt lb)), ⟨hz, hI, ⟨_, _, hO⟩, iter_begun k1 g1, iter_begun k2 g2⟩, five, hR⟩
/-- a list or a tuple by its kind, for ever -/
theorem seq_at {K : PySem.W.Frag} {H : Hp} {m : List Addr} {h : AH} {v : V} {x : AV} {xs : List AV} (rel : Rel K H m h) (r : Rep K H m v x) (e : seqOf x h = some xs) :
    ∃ k p vs, v = .ref p ∧ SqM k K H p vs ∧ ∀ H' m' h', Rel K H' m' h' → seqOf x h' = some xs → Grow K H m H' m' → ∃ ws, SqM k K H' p ws ∧ RepL K H' m' ws xs := by
  cases x with
  | tup ys =>
    cases e
    obtain ⟨p, vs, rfl, hp, rp⟩ := r.tup_inv
    exact ⟨true, p, vs, rfl, hp, fun H' m' h' _ _ g => ⟨vs, g.tup p vs hp, rp.mono g⟩⟩
  | rol ys =>
    obtain ⟨p, vs, rfl, hs, _, al⟩ := lst_at rel r (show lstOf (.rol ys) h = some xs from e)
    exact ⟨false, p, vs, rfl, hs, fun H' m' h' rel' e' g => al H' m' h' rel' e' g⟩
  | ref n =>
    obtain ⟨p, vs, rfl, hs, _, al⟩ := lst_at rel r (show lstOf (.ref n) h = some xs from e)
    exact ⟨false, p, vs, rfl, hs, fun H' m' h' rel' e' g => al H' m' h' rel' e' g⟩
  | _ => cases e
theorem ai_zipM {p tpos : Pos} {elts : List Expr} {kk : Nat} (hg : Gl X "zip") (hm : X.mg "zip" = none) (ha : AA X [e, e2] tl)
    (hs : starEach [e, e2] X.env = (false, eval e X.env) :: starEach [e2] X.env := by rfl) (hpl : (backTo pos (starEach [e2] X.env)).any (·.1) = false := by rfl) :
    AI X (.Tuple elts kk tpos) (.Call (.Name "zip" p) [e, e2] [] pos) (iZipMT tl) := wkI (pi_zipM hg hm ha hs hpl) fun σ H R ⟨m, h, a, RA, rel, rs, q, lk⟩ => by
  refine ⟨m, h, a, _, rel, rs, q, fun H1 m1 h1 vs xs q1 rel1 r1 g1 => ?_⟩
  split at q1
  · rename_i x y
    split at q1
    · rename_i xs ys e1 e2
      obtain ⟨v, ws, rfl, rv, rn⟩ := r1.cons_inv
      obtain ⟨v2, ws2, rfl, rv2, rn2⟩ := rn.cons_inv
      obtain rfl := rn2.nil_inv
      obtain ⟨k1, p, vs, rfl, hp, al⟩ := seq_at rel1 rv e1
      obtain ⟨k2, p2, vs2, rfl, hp2, al2⟩ := seq_at rel1 rv2 e2
      refine ⟨k1, k2, p, p2, vs, vs2, rfl, hp, hp2, lk _ _ _ _ _ q1 rel1 g1 _ ⟨fun i x H m h hx rel gd g => ?_, fun H m h rel gd g => ?_⟩⟩
      · obtain ⟨x1, y1, c1, c2, rfl⟩ := zip2_get hx
        obtain ⟨us, s1, t1⟩ := al H m h rel gd.1 g
        obtain ⟨us2, s2, t2⟩ := al2 H m h rel gd.2 g
        obtain ⟨w1, d1, d2⟩ := t1.at c1
        obtain ⟨w2, d3, d4⟩ := t2.at c2
        refine ⟨⟨us, us2, w1, w2, s1, s2, d1, d3⟩, fun w H' ⟨T, y, z, z1, hT, z2, z3, z4⟩ => ?_⟩
        subst z1 z2
        have a1 := z3 us s1
        have a2 := z4 us2 s2
        rw [d1] at a1
        rw [d3] at a2
        cases a1
        cases a2
        exact ⟨rel.off hT, RepL.tup (SqT.of upd_same) (.cons (d2.mono (.off hT)) (.cons (d4.mono (.off hT)) .nil)), .off hT⟩
      · obtain ⟨us, s1, t1⟩ := al H m h rel gd.1 g
        obtain ⟨us2, s2, t2⟩ := al2 H m h rel gd.2 g
        exact ⟨us, us2, s1, s2, by rw [zip2_len, t1.len, t2.len]⟩
    · exact q1.elim
  · exact q1.elim
end
end AL

/-! AL9: more rules: sums. -/
namespace AL
open PySem PySem.Spec PyProof.Rows L2
section
variable {X : Cx}
theorem zsOf_rep {K : PySem.W.Frag} {H : Hp} {m : List Addr} : ∀ {vs : List V} {xs : List AV} {is : List Int}, RepL K H m vs xs → zsOf xs = some is → vs = is.map V.int
  | vs, [], is, r, e => by
    cases e
    obtain rfl := r.nil_inv
    rfl
  | vs, x :: xs, is, r, e => by
    obtain ⟨v, ws, rfl, rv, r2⟩ := r.cons_inv
    cases x with
    | int i =>
      simp only [zsOf] at e
      cases e2 : zsOf xs with
      | none =>
        rw [e2] at e
        cases e
      | some js =>
        rw [e2] at e
        cases e
        cases rv
        rw [zsOf_rep r2 e2]
        rfl
    | _ => simp [zsOf] at e
theorem sumR_inv {n : Nat} {h : AH} {R : AK} (q : sumR [.ref n] h R) : ∃ xs is, h[n]? = some (.lst xs) ∧ zsOf xs = some is ∧ R (.int is.sum) h := by
  simp only [sumR] at q
  split at q
  · rename_i xs e
    split at q
    · rename_i is e2
      exact ⟨xs, is, e, e2, q⟩
    · exact q.elim
  · exact q.elim
theorem call_sumA (hc : X.calm = true) : CallR X (.builtin "sum") (upL X.K sumR) := by
  intro pins s σ H xs us Q I rs ⟨m, h, as, R, rel, ra, q, lk⟩
  obtain ⟨x, rfl⟩ := one_inv q (fun z => z) (fun x y t z => by cases x <;> exact z)
  obtain ⟨v, ws, rfl, rv, rw⟩ := ra.cons_inv
  obtain rfl := rw.nil_inv
  cases x with
  | ref n =>
    obtain ⟨ys, is, e, e2, q⟩ := sumR_inv q
    obtain ⟨p, vs, rfl, _, hp, rp⟩ := rel.lst rv e
    exact cr_sum hc pins s σ H _ us Q I rs ⟨p, is, rfl, by rw [← zsOf_rep rp e2]; exact SqL.of hp, fin0 rel lk q (.int _)⟩
  | _ => exact (show False from q).elim
end
end AL

/-! AL10: more rules: a row turned, a range as a list, two lists compared. -/
namespace AL
open PySem PySem.Spec PyProof.Rows L2
/-! ### a tuple turned -/
section
variable {prog : Program} {w : World} {A : Around} {E : Value → Shared → Prop} {s : Shared}
theorem adjust_rev (n : Nat) : Builtin.Slice.sliceAdjust none none (-1) (n : Int) = ((n : Int) - 1, -1) := rfl
theorem places_rev (n : Nat) : Builtin.Slice.slicePlaces ((n : Int) - 1) (-1) (-1) = n := by
  unfold Builtin.Slice.slicePlaces
  have h1 : ¬ ((-1 : Int) > 0) := by decide
  simp only [h1, if_false]
  split
  · rw [show (-(-1) : Int) = 1 by decide, Int.ediv_one]
    omega
  · omega
theorem sliceApplied_rev {sl : Addr} {vk : Value} {n : Nat} {Q : Int × Int × Nat → Shared → Prop} (hs : s.heap.IsSliceOf sl .none .none vk) (pk : IsPart vk (some (-1))) (h : Q ((n : Int) - 1, -1, n) s) :
    wpAny (model prog w) A (Builtin.Slice.sliceApplied (.ref sl) (pure (n : Int))) Q E s := by
  obtain ⟨os, hos, hcs, hds⟩ := id hs
  unfold Builtin.Slice.sliceApplied Builtin.Slice.sliceFields
  refine wpAny_bind (wpAny_bind (wpAny_field hos hds (x := .none) rfl (wpAny_bind (wpAny_field hos hds (x := .none) rfl (wpAny_bind (wpAny_field hos hds (x := vk) rfl (wpAny_pure ?_)))))))
  refine wpAny_bind (HT.slicePart_ pk ?_)
  show wpAny _ _ (if ((-1 : Int) == 0) = true then _ else _) _ _ s
  rw [if_neg (by decide)]
  refine wpAny_bind (HT.slicePart_ .none (wpAny_bind (HT.slicePart_ .none (wpAny_bind (wpAny_pure ?_)))))
  show wpAny _ _ (match Builtin.Slice.sliceAdjust none none (-1) (n : Int) with | (lo, hi) => pure (lo, (-1 : Int), Builtin.Slice.slicePlaces lo hi (-1))) _ _ s
  rw [adjust_rev n]
  show wpAny _ _ (pure ((n : Int) - 1, (-1 : Int), Builtin.Slice.slicePlaces ((n : Int) - 1) (-1) (-1))) _ _ s
  rw [places_rev]
  exact wpAny_pure h
theorem fm_congr {α β : Type} {f g : α → Option β} : ∀ {l : List α}, (∀ x ∈ l, f x = g x) → l.filterMap f = l.filterMap g
  | [], _ => rfl
  | x :: r, h => by
    rw [List.filterMap_cons, List.filterMap_cons, h x (by simp), fm_congr fun y hy => h y (by simp [hy])]
theorem pick_rev (xs : Array Value) : ((List.range xs.size).filterMap fun (m : Nat) => xs[((xs.size : Int) - 1 + (m : Int) * (-1)).toNat]?).toArray = xs.toList.reverse.toArray := by
  congr 1
  obtain ⟨l⟩ := xs
  simp only [List.size_toArray, List.getElem?_toArray]
  have e : ∀ m ∈ List.range l.length, l[((l.length : Int) - 1 + (m : Int) * (-1)).toNat]? = l.reverse[m]? := fun m hm => by
    rw [List.mem_range] at hm
    rw [List.getElem?_reverse hm]
    congr 1
    omega
  rw [fm_congr e]
  have := pick_run l.reverse.toArray 0 l.length
  rw [List.filterMap_map] at this
  have e2 : ((fun x => l.reverse.toArray[x]?) ∘ fun x => 0 + x) = fun m => l.reverse[m]? := by
    funext m
    simp
  rw [e2] at this
  rw [this]
  show List.take l.length l.reverse = l.reverse
  exact List.take_of_length_le (by rw [List.length_reverse]; exact Nat.le_refl _)
theorem getItem_tuple_rev {t sl : Addr} {items : Array Value} {vk : Value} {Q : Value → Shared → Prop} (ht : IsTup s.heap t items) (hs : s.heap.IsSliceOf sl .none .none vk) (pk : IsPart vk (some (-1)))
    (h : Q (.ref s.heap.objs.size) { s with heap := s.heap.push { cls := .type "tuple", data := .seq items.toList.reverse.toArray } })
    (hsz : items.size ≤ sizeLine) : wpAny (model prog w) A (getItem (.ref t) (.ref sl)) Q E s := by
  have htake : sizeOk (.seq items.toList.reverse.toArray) := by
    show items.toList.reverse.toArray.size ≤ sizeLine
    rw [List.size_toArray, List.length_reverse, Array.length_toList]
    exact hsz
  obtain ⟨os, hos, hcs, hds⟩ := id hs
  have hTs : s.TypeIs (.ref sl) "slice" := ⟨os, hos, hcs⟩
  unfold getItem
  try with_reducible refine wpAny_holding ?_
  first | refine wpAny_bind (wpAny_pure ?_) | skip
  refine wpAny_bind (wpAny_sequenceKey ht.typeIs (by decide) ?_)
  refine wpAny_bind (wpAny_callSpecial?_slot (name := Str.ofString "__getitem__") ht.typeIs PyProof.Rows.slot_tuple_getitem
    (wpAny_call_entry PyProof.Rows.slot_tuple_getitem ht.typeIs entry_tuple_getitem ?_ (args_tuple_getitem _ _)))
  show wpAny _ _ (Builtin.Tuple.tupleItemsOf (.ref t) >>= _) _ _ s
  refine wpAny_bind (tupleItemsOf_ ht ?_)
  refine wpAny_bind (wpAny_typeOf hTs ?_)
  rw [if_pos (by decide)]
  refine wpAny_bind (sliceApplied_rev hs pk ?_)
  have hno : ¬ ((((items.size : Int) - 1) == 0 && (-1 : Int) == 1 && items.size == items.size) = true) := by
    intro q
    rw [Bool.and_eq_true, Bool.and_eq_true] at q
    exact absurd q.1.2 (by decide)
  show wpAny _ _ (if (((items.size : Int) - 1) == 0 && (-1 : Int) == 1 && items.size == items.size) = true then _ else _) _ _ s
  rw [if_neg hno, pick_rev]
  first
    | exact wpAny_bind (m := Builtin.Tuple.tupleExact _) (wpAny_newObj_type (wpAny_pure ⟨_, rfl, wpAny_pure h⟩) htake)
    | exact wpAny_bind (m := Builtin.Tuple.tupleExact _) (wpAny_newObj_type (wpAny_bind (wpAny_pure (wpAny_pure ⟨_, rfl, wpAny_pure h⟩))) htake)
    | exact wpAny_bind (wpAny_bind (m := Builtin.Tuple.tupleExact _) (wpAny_newObj_type (wpAny_pure (wpAny_pure ⟨_, rfl, wpAny_pure h⟩)) htake))
    | exact wpAny_bind (wpAny_bind (m := Builtin.Tuple.tupleExact _) (wpAny_newObj_type (wpAny_pure ⟨_, rfl, wpAny_pure h⟩) htake))
end
section
variable {X : Cx} {e k : Expr} {te tk : ATE} {pos p2 p p3 : Pos}
def tRev (K : PySem.W.Frag) (te tk : TE) : TE := fun σ H Q => te σ H fun x H1 => tk σ H1 fun y H2 => ∃ a xs, x = .ref a ∧ y = .int (-1) ∧ SqT K H2 a xs ∧ ∀ p, H2 p = none → Q (.ref p) (upd H2 p (.tup xs.reverse))
theorem pe_rev {te tk : TE} (he : PE X e te) (hk : PE X k tk) (hsb : ∀ a b, subscripted (.Slice none none (some k) p2) false (.ref a) (.ref b) = operate [.ref b, .ref a] (getItem (.ref a) (.ref b))) : PE X (.Subscript e (.Slice none none (some k) p2) pos) (tRev X.K te tk) := by
  refine ⟨fun pins s σ H Q I h => ?_⟩
  refine Subscript_ (thn (he.run pins s σ H _ I h) fun v s1 ⟨x, H1, I1, r1, q1⟩ => ?_)
  refine wpAny_Slice ?_
  rw [evalPart_none]
  refine wpAny_pure ?_
  refine wpAny_pure ?_
  rw [evalPart_some]
  refine thn (hk.run pins s1 σ H1 _ I1 q1) fun vk s2 ⟨y, H2, I2, r2, q2⟩ => ?_
  obtain ⟨a, xs, rfl, rfl, hx, q⟩ := q2
  obtain ⟨tk, rfl⟩ := r2
  have I4 : Inv X pins σ H2 { s2 with heap := s2.heap.push { cls := .type "slice", data := .fields #[.none, .none, .int (-1) tk] } } := I2.kept (t' := s2.toks) fun b ob q => Heap.get?_push_of_some _ q
  cases r1
  obtain ⟨its, r, ht, hz⟩ := I4.tuple hx
  show wpAny (model X.prog X.w) X.A (subscriptTail e (.Slice none none (some k) p2) (.ref a) (.ref s2.heap.objs.size)) (EP X pins σ Q) X.xe { s2 with heap := s2.heap.push { cls := .type "slice", data := .fields #[.none, .none, .int (-1) tk] } }
  refine tail_any (ops := [.ref s2.heap.objs.size, .ref a]) ht.typeIs PyProof.Rows.slot_tuple_getitem.lookup ?_ (hsb _ _)
  refine getItem_tuple_rev ht (Heap.IsSliceOf.new ..) (.int _ _) ?_ (by rw [List.size_toArray, ← r.length]; exact hz)
  refine ⟨.ref _, _, I4.laid (t' := s2.toks) (o := .tup xs.reverse) (fun b ob q => Heap.get?_push_of_some _ q) (Nat.le_refl _) ?_, rfl, q _ (I4.hok.fresh (Nat.le_refl _))⟩
  exact ⟨by rw [List.length_reverse]; exact hz, _, r.reverse, IsTup.new _ _⟩
theorem ae_rev (he : AE X e te) (hk : AE X k tk) (hsb : ∀ a b, subscripted (.Slice none none (some k) p2) false (.ref a) (.ref b) = operate [.ref b, .ref a] (getItem (.ref a) (.ref b)) := by intros; with_unfolding_all rfl) : AE X (.Subscript e (.Slice none none (some k) p2) pos) (revT te tk) := wkE (pe_rev he hk hsb) fun σ H Q ⟨m, h, a, R, rel, rs, q, lk⟩ =>
  ⟨m, h, a, _, rel, rs, q, fun H1 m1 h1 v x q1 rel1 r1 g1 => ⟨m1, h1, a, _, rel1, rs.mono g1, q1, fun H2 m2 h2 v2 y q2 rel2 r2 g2 => by
    cases x with
    | tup xs =>
      cases y with
      | int i =>
        by_cases hi : i = -1
        · subst hi
          cases r2
          obtain ⟨p, vs, rfl, hp, rp⟩ := (r1.mono g2).tup_inv
          exact ⟨p, vs, rfl, rfl, hp, fun t ht => lk _ _ _ _ _ q2 (rel2.off ht) (.tup (SqT.of upd_same) rp.rev.len (rp.rev.mono (.off ht)).get) ((g1.trans g2).trans (.off ht))⟩
        · exact (show False from by
            split at q2
            · rename_i h1 h2
              cases h2
              exact hi rfl
            · exact q2).elim
      | _ => exact (show False from q2).elim
    | _ => exact (show False from q2).elim⟩⟩
/-! ### a range as a list -/
theorem rg_rep {K : PySem.W.Frag} {H : Hp} {m : List Addr} {n : Int} (h : 0 ≤ n) : RepL K H m (rgV 0 n) (zrange 0 n.toNat) := ⟨by rw [rgV_length, zr_len, Int.sub_zero], fun i v x h1 h2 => by
  obtain ⟨hi, rfl⟩ := zr_get h2
  unfold rgV at h1
  rw [List.getElem?_map, List.getElem?_range (by rw [Int.sub_zero]; exact hi)] at h1
  cases h1
  exact .int _⟩
theorem ae_listRg (hc : X.calm = true) (hg : Gl X "list") (hm : X.mg "list" = none) (hg2 : Gl X "range") (hm2 : X.mg "range" = none) (he : AE X e te)
    (na : starEach [e] X.env = (false, eval e X.env) :: starEach [] X.env := by rfl) (na2 : starEach [.Call (.Name "range" p3) [e] [] p2] X.env = (false, eval (.Call (.Name "range" p3) [e] [] p2) X.env) :: starEach [] X.env := by rfl) :
    AE X (.Call (.Name "list" p) [.Call (.Name "range" p3) [e] [] p2] [] pos) (lstRgT te) :=
  wkE (pe_listRg hc hg hm (prg_1 hg2 hm2 he na) na2) fun σ H Q ⟨m, h, a, R, rel, rs, q, lk⟩ =>
    ⟨m, h, a, _, rel, rs, q, fun H1 m1 h1 v x q1 rel1 r1 g1 => by
      cases x with
      | int n =>
        cases r1
        obtain ⟨h0, h2, q1⟩ := q1
        exact ⟨n, rfl, RgOk.of_le (Int.le_refl _) (by omega) (by decide) h0, fun l hl => lk _ _ _ _ _ q1 (rel1.pushL hl (rg_rep h0)) (.ref rel1.last) (g1.trans (.new hl [l]))⟩
      | _ => exact (show False from q1).elim⟩
/-! ### two lists -/
theorem neLR_inv {m n : Nat} {h : AH} {R : AK} (q : neLR (.ref m) (.ref n) h R) : ∃ xs ys, h[m]? = some (.lst xs) ∧ h[n]? = some (.lst ys) ∧ xs.all (plainN 40) = true ∧ ys.all (plainN 40) = true ∧ R (.bl (!aeqs xs ys)) h := by
  simp only [neLR] at q
  split at q
  · rename_i xs ys e1 e2
    exact ⟨xs, ys, e1, e2, q⟩
  · exact q.elim
theorem shapedL {xs : List AV} (h : xs.all (plainN 40) = true) : SeqAt.shaped (.list (toPys xs)) = true := by
  obtain ⟨h1, h2⟩ := lay_all (n := 40) (fun x => lay_of 40 x) xs fun x hx => List.all_eq_true.mp h x hx
  unfold SeqAt.shaped PyData.canLay0 PyData.depth
  rw [h1, decide_eq_true (by omega)]
  rfl
theorem op_neLA (hu : X.A.units + 64 < cLine) : OpR X (compareOp .NotEq) (up2 X.K neLR) := by
  intro pins s σ H x y v u Q I rx ry ⟨m, h, ax, ay, R, rel, r1, r2, q, lk⟩
  cases ax with
  | ref m1 =>
    cases ay with
    | ref n1 =>
      obtain ⟨xs, ys, e1, e2, p1, p2, q⟩ := neLR_inv q
      obtain ⟨a, vs, rfl, _, ha, ra⟩ := rel.lst r1 e1
      obtain ⟨b, ws, rfl, _, hb, rb⟩ := rel.lst r2 e2
      have p1' : ∀ x ∈ xs, plainN 40 x = true := fun x hx => List.all_eq_true.mp p1 x hx
      have p2' : ∀ x ∈ ys, plainN 40 x = true := fun x hx => List.all_eq_true.mp p2 x hx
      refine op_neD hu pins s σ H _ _ v u Q I rx ry ⟨.list (toPys xs), .list (toPys ys), .lst (SqL.of ha) (dp_all (fun x v h r => dp_of 40 x v h r) xs vs ra p1'), .lst (SqL.of hb) (dp_all (fun x v h r => dp_of 40 x v h r) ys ws rb p2'), shapedL p1, shapedL p2, ?_⟩
      have : PyData.eqv (.list (toPys xs)) (.list (toPys ys)) = aeqs xs ys := by
        simp only [PyData.eqv]
        exact eqv_all (eqv_of 40) xs ys p1' p2'
      rw [this]
      exact fin0 rel lk q (.bl _)
    | _ => exact (show False from q).elim
  | _ => exact (show False from by cases ay <;> exact q).elim
end
end AL

/-! S05: rows of forms: contracts. -/
namespace AL
open PySem
def intsT (ns : List Int) : AV := .tup (ns.map AV.int)
def gcdL (ns : List Int) : Nat := ns.foldl (fun g n => g.gcd n.natAbs) 0
/-- without a common divisor -/
def low (ns : List Int) : List Int := ns.map fun n => n / ((max 1 (gcdL ns) : Nat) : Int)
def ptV (p : List Rat) : AV := .tup (p.map rat)
/-- a number and shares at a point -/
def val : Rat → List Int → List Rat → Rat
  | t, n :: ns, v :: p => val (t + (n : Rat) * v) ns p
  | t, _, _ => t
structure Rw where
  s : Int
  c : Int
  r : List Int
def Rw.v (r : Rw) : AV := intsT (r.s :: r.c :: r.r)
def holdsB (r : Rw) (p : List Rat) : Bool := if r.s = 1 then decide (0 < val r.c r.r p) else decide (0 ≤ val r.c r.r p)
structure NsOk (B : Nat) (ns : List Int) : Prop where
  len : ns.length ≤ 30
  sz : ∀ n ∈ ns, isz n ≤ B
structure PtOk (p : List Rat) : Prop where
  len : p.length ≤ 30
  w : (p.map sz).sum ≤ 5000
structure RwOk (r : Rw) : Prop where
  s : r.s = 0 ∨ r.s = 1
  c : isz r.c ≤ 60
  r : NsOk 60 r.r
def sp_common_divisor : ASp := A1 fun x h R _ => ∃ ns, seqOf x h = some (ns.map AV.int) ∧ R (.int (gcdL ns : Int)) h
def sp_lowest : ASp := A1 fun x h R _ => ∃ ns, seqOf x h = some (ns.map AV.int) ∧ NsOk 8000 ns ∧ R (intsT (low ns)) h
def sp_form_times : ASp := A2 fun x y h R _ => ∃ (b : Int) (xs : List Int) (f : Rat), x = intsT (b :: xs) ∧ y = rat f ∧ f.num ≠ 0 ∧ sz f ≤ 60 ∧ NsOk 60 (b :: xs) ∧ R (intsT (low (b * (f.den : Int) :: xs.map (· * f.num)))) h
def sp_row_of : ASp := A2 fun x y h R _ => ∃ (b s : Int) (xs : List Int), x = intsT (b :: xs) ∧ y = .int s ∧ NsOk 8000 xs ∧ R (intsT (s :: low xs)) h
def sp_turned : ASp := A1 fun x h R _ => ∃ (s : Int) (xs : List Int), x = intsT (s :: xs) ∧ xs.length ≤ 40 ∧ R (intsT ((1 - s) :: xs.map fun n => -n)) h
def sp_row_holds : ASp := A2 fun x y h R _ => ∃ r p, x = Rw.v r ∧ y = ptV p ∧ RwOk r ∧ PtOk p ∧ R (.bl (holdsB r p)) h
def sp_rows_hold : ASp := A2 fun x y h R _ => ∃ (rs : List Rw) (p : List Rat), x = .tup (rs.map Rw.v) ∧ y = ptV p ∧ (∀ r ∈ rs, RwOk r) ∧ PtOk p ∧ R (.bl (rs.all fun r => holdsB r p)) h
def sp_law_lowest : ASp := A1 fun x h R _ => ∃ ns, seqOf x h = some (ns.map AV.int) ∧ NsOk 8000 ns ∧ R (.ref h.length) (h ++ [.lst ((low ns).map AV.int)])
def sp_law_share : ASp := A2 fun x y h R _ => ∃ (n : Nat) (b : Bool), x = .ref n ∧ y = .bl b ∧ DrawAt h n ∧ ∀ q h', sz q ≤ 51 → Drawn h n h' → R (rat q) h'
/-- a form: k shares -/
structure FmOk (k : Nat) (b c : Int) (r : List Int) : Prop where
  len : r.length = k
  sz : ∀ n ∈ b :: c :: r, isz n ≤ 55
def sp_law_some_form : ASp := A2 fun x y h R _ => ∃ (n k : Nat), x = .ref n ∧ y = .int k ∧ k ≤ 26 ∧ DrawAt h n ∧ ∀ b c r h', FmOk k b c r → Drawn h n h' → R (intsT (b :: c :: r)) h'
def sp_law_value_at : ASp := A2 fun x y h R _ => ∃ (b c : Int) (ns : List Int) (p : List Rat), x = intsT (b :: c :: ns) ∧ seqOf y h = some (p.map rat) ∧ isz c ≤ 60 ∧ NsOk 60 ns ∧ PtOk p ∧ R (rat (val c ns p)) h
/-- points as a list on the heap -/
def ptsL (ps : List (List Rat)) : List AV := ps.map ptV
/-- forms on the heap -/
structure Fm where
  b : Int
  c : Int
  r : List Int
def Fm.v (f : Fm) : AV := intsT (f.b :: f.c :: f.r)
def sp_law_points : ASp := A3 fun x y z h R _ => ∃ (n m k : Nat) (fs : List Fm), x = .ref n ∧ y = .ref m ∧ z = .int k ∧ m ≠ n ∧ k ≤ 26 ∧ DrawAt h n ∧ h[m]? = some (.lst (fs.map Fm.v)) ∧ fs.length ≤ 4 ∧ (∀ f ∈ fs, FmOk k f.b f.c f.r) ∧
  ∀ ps h', (∀ p ∈ ps, PtOk p) → ps.length ≤ 13 → Drawn h n h' → R (.ref h'.length) (h' ++ [.lst (ptsL ps)])
def sp_law_holds : ASp := A2 fun x y h R _ => ∃ r p, x = Rw.v r ∧ y = ptV p ∧ RwOk r ∧ PtOk p ∧ R (.bl (holdsB r p)) h
def sp_law_row_asked : ASp := A4 fun x y z u h R _ => ∃ (f : Fm) (q : Rat) (s : Int) (m : Nat) (ps : List (List Rat)), x = f.v ∧ y = rat q ∧ z = .int s ∧ u = .ref m ∧ (s = 0 ∨ s = 1) ∧ q.num ≠ 0 ∧ sz q ≤ 60 ∧ NsOk 55 (f.b :: f.c :: f.r) ∧ h[m]? = some (.lst (ptsL ps)) ∧ (∀ p ∈ ps, PtOk p) ∧ R (.bl true) h
def sp_law_choice : ASp := A2 fun x y h R _ => ∃ (n m : Nat) (fs : List Fm), x = .ref n ∧ y = .ref m ∧ m ≠ n ∧ DrawAt h n ∧ h[m]? = some (.lst (fs.map Fm.v)) ∧ fs.length ≤ 4 ∧ (∀ f ∈ fs, NsOk 55 (f.b :: f.c :: f.r)) ∧
  ∀ (rs : List Rw) h', (∀ r ∈ rs, RwOk r) → rs.length ≤ 4 → Drawn h n h' → R (.ref h'.length) (h' ++ [.lst (rs.map Rw.v)])
end AL

/-! B05: bodies, printed by gen.py. -/
namespace AL
open PySem
def b_common_divisor_l1 : ATS := (ifS (cmpT (opT neR (varT 2) (cT (.int 0))))
    (seqT (asgT (cbT gcdR (consT (varT 1) (consT (varT 2) nilT))) (gNameT 1))
    (ifS (cmpT (opT eqR (varT 1) (cT (.int 1))))
    (retT (cT (.int 1)))
    nextT))
    nextT)
def b_common_divisor : ATS := (seqT (asgT (cT (.int 0)) (gNameT 1))
    (seqT (forT (iSeqT (varT 0)) (gNameT 2)
    b_common_divisor_l1)
    (retT (varT 1))))
def b_lowest : ATS := (seqT (asgT (callT sp_common_divisor (fun _ _ => False) (consT (varT 0) nilT)) (gNameT 1))
    (seqT (ifS (cmpT (opT gtR (varT 1) (cT (.int 1))))
    (retT (cbT tupleR (consT (lcT (iSeqT (varT 0)) (gNameT 2) yesT (opT fdivR (varT 2) (varT 1)) [2]) nilT)))
    nextT)
    (retT (cbT tupleR (consT (varT 0) nilT)))))
def sp_zero_form : ASp := fun _ _ _ _ => False
def b_form_times : ATS := (seqT (ifS (cmpT (opT eqR (opT ixR (varT 1) (cT (.int 0))) (cT (.int 0))))
    (retT (callT sp_zero_form (fun _ _ => False) (consT (opT subR (cbT lenR (consT (varT 0) nilT)) (cT (.int 2))) nilT)))
    nextT)
    (retT (callT sp_lowest (fun _ _ => False) (consT (opT addR (lstT (consT (opT mulR (opT ixR (varT 0) (cT (.int 0))) (opT ixR (varT 1) (cT (.int 1)))) nilT)) (lcT (iSeqT (sliceT (varT 0) (someT (cT (.int 1))) noneT)) (gNameT 2) yesT (opT mulR (varT 2) (opT ixR (varT 1) (cT (.int 0)))) [2])) nilT))))
def b_row_of : ATS := (retT (opT addR (tupT (consT (varT 1) nilT)) (callT sp_lowest (fun _ _ => False) (consT (sliceT (varT 0) (someT (cT (.int 1))) noneT) nilT))))
def b_turned : ATS := (retT (opT addR (tupT (consT (opT subR (cT (.int 1)) (opT ixR (varT 0) (cT (.int 0)))) nilT)) (cbT tupleR (consT (lcT (iSeqT (sliceT (varT 0) (someT (cT (.int 1))) noneT)) (gNameT 1) yesT (unT negR (varT 1)) [1]) nilT))))
def b_row_holds_l1 : ATS := (ifS (cmpT (opT neR (varT 4) (cT (.int 0))))
    (seqT (asgT (opT addR (opT mulR (varT 2) (opT ixR (varT 5) (cT (.int 1)))) (opT mulR (opT mulR (varT 4) (opT ixR (varT 5) (cT (.int 0)))) (varT 3))) (gNameT 2))
    (asgT (opT mulR (varT 3) (opT ixR (varT 5) (cT (.int 1)))) (gNameT 3)))
    nextT)
def b_row_holds_r1 : ATS := (seqT (ifS (cmpT (opT eqR (opT ixR (varT 0) (cT (.int 0))) (cT (.int 1))))
    (retT (opT gtR (varT 2) (cT (.int 0))))
    nextT)
    (retT (opT geR (varT 2) (cT (.int 0)))))
def b_row_holds : ATS := (seqT (asgT (opT ixR (varT 0) (cT (.int 1))) (gNameT 2))
    (seqT (asgT (cT (.int 1)) (gNameT 3))
    (seqT (forT (iZipMT (consT (sliceT (varT 0) (someT (cT (.int 2))) noneT) (consT (varT 1) nilT))) (gTupT 2 (gConsT (gNameT 4) (gConsT (gNameT 5) gNilT)))
    b_row_holds_l1)
    b_row_holds_r1)))
def b_rows_hold_l1 : ATS := (ifS (notT (truT (callT sp_row_holds (fun _ _ => False) (consT (varT 2) (consT (varT 1) nilT)))))
    (retT (cT (.bl false)))
    nextT)
def b_rows_hold : ATS := (seqT (forT (iSeqT (varT 0)) (gNameT 2)
    b_rows_hold_l1)
    (retT (cT (.bl true))))
def b_law_lowest_l1 : ATS := (ifS (andT (cmpT (opT neR (varT 2) (cT (.int 0)))) (cmpT (opT neR (varT 1) (cT (.int 1)))))
    (asgT (callT sp_law_gcd (fun _ _ => False) (consT (varT 1) (consT (varT 2) nilT))) (gNameT 1))
    nextT)
def b_law_lowest_r1 : ATS := (seqT (ifS (cmpT (opT gtR (varT 1) (cT (.int 1))))
    (retT (lcT (iSeqT (varT 0)) (gNameT 2) yesT (opT fdivR (cbT intR (consT (varT 2) nilT)) (varT 1)) [2]))
    nextT)
    (retT (cbT listR (consT (varT 0) nilT))))
def b_law_lowest : ATS := (seqT (asgT (cT (.int 0)) (gNameT 1))
    (seqT (forT (iSeqT (varT 0)) (gNameT 2)
    b_law_lowest_l1)
    b_law_lowest_r1))
def b_law_share : ATS := (seqT (asgT (callT sp_law_draw (fun _ _ => False) (consT (varT 0) (consT (cT (.int 8)) nilT))) (gNameT 2))
    (seqT (asgT (opT subR (cT (.int 1)) (opT mulR (cT (.int 2)) (callT sp_law_draw (fun _ _ => False) (consT (varT 0) (consT (cT (.int 2)) nilT))))) (gNameT 3))
    (seqT (ifS (cmpT (opT eqR (varT 2) (cT (.int 0))))
    (retT (tupT (consT (cT (.int 0)) (consT (cT (.int 1)) nilT))))
    nextT)
    (seqT (ifS (andT (cmpT (opT eqR (varT 2) (cT (.int 1)))) (truT (varT 1)))
    (seqT (asgT (opT mulR (varT 3) (callT sp_law_draw (fun _ _ => False) (consT (varT 0) (consT (opT powR (cT (.int 10)) (cT (.int 15))) nilT)))) (gNameT 4))
    (retT (callT sp_law_r (fun _ _ => False) (consT (varT 4) (consT (opT addR (cT (.int 1)) (callT sp_law_draw (fun _ _ => False) (consT (varT 0) (consT (opT powR (cT (.int 10)) (cT (.int 15))) nilT)))) nilT)))))
    nextT)
    (seqT (ifS (cmpT (opT eqR (varT 2) (cT (.int 2))))
    (retT (tupT (consT (varT 3) (consT (cT (.int 1)) nilT))))
    nextT)
    (seqT (asgT (opT mulR (varT 3) (callT sp_law_draw (fun _ _ => False) (consT (varT 0) (consT (cT (.int 30)) nilT)))) (gNameT 4))
    (retT (callT sp_law_r (fun _ _ => False) (consT (varT 4) (consT (opT addR (cT (.int 1)) (callT sp_law_draw (fun _ _ => False) (consT (varT 0) (consT (cT (.int 9)) nilT)))) nilT))))))))))
def b_law_some_form_r1 : ATS := (dropT (mtT isLst appendR (varT 3) (consT (varT 6) nilT)))
def b_law_some_form_r2 : ATS := (seqT (ifS (orT (cmpT (opT eqR (varT 5) (cT (.int 0)))) (orT (cmpT (opT eqR (varT 2) (cT (.int 4)))) (andT (cmpT (opT eqR (varT 2) (cT (.int 3)))) (cmpT (opT gtR (varT 4) (cT (.int 0)))))))
    (asgT (cT (.int 0)) (gNameT 6))
    nextT)
    b_law_some_form_r1)
def b_law_some_form_r3 : ATS := (seqT (ifS (cmpT (opT eqR (varT 2) (cT (.int 2))))
    (asgT (opT mulR (cT (.int 6)) (varT 6)) (gNameT 6))
    nextT)
    b_law_some_form_r2)
def b_law_some_form_l1 : ATS := (seqT (asgT (callT sp_law_draw (fun _ _ => False) (consT (varT 0) (consT (cT (.int 4)) nilT))) (gNameT 5))
    (seqT (asgT (opT subR (callT sp_law_draw (fun _ _ => False) (consT (varT 0) (consT (cT (.int 25)) nilT))) (cT (.int 12))) (gNameT 6))
    (seqT (ifS (andT (cmpT (opT eqR (varT 2) (cT (.int 1)))) (andT (cmpT (opT eqR (varT 5) (cT (.int 1)))) (cmpT (opT ltR (varT 1) (cT (.int 7))))))
    (asgT (opT subR (callT sp_law_draw (fun _ _ => False) (consT (varT 0) (consT (opT powR (cT (.int 10)) (cT (.int 15))) nilT))) (opT powR (cT (.int 10)) (cT (.int 14)))) (gNameT 6))
    nextT)
    b_law_some_form_r3)))
def b_law_some_form_r4 : ATS := (retT (cbT tupleR (consT (callT sp_law_lowest (fun _ _ => False) (consT (opT addR (lstT (consT (opT addR (cT (.int 1)) (callT sp_law_draw (fun _ _ => False) (consT (varT 0) (consT (cT (.int 12)) nilT)))) nilT)) (varT 3)) nilT)) nilT)))
def b_law_some_form : ATS := (seqT (asgT (callT sp_law_draw (fun _ _ => False) (consT (varT 0) (consT (cT (.int 6)) nilT))) (gNameT 2))
    (seqT (asgT (lstT nilT) (gNameT 3))
    (seqT (forT (iRng1T (consT (opT addR (varT 1) (cT (.int 1))) nilT)) (gNameT 4)
    b_law_some_form_l1)
    b_law_some_form_r4)))
def b_law_value_at_l1 : ATS := (asgT (callT sp_law_add (fun _ _ => False) (consT (varT 2) (consT (callT sp_law_mul (fun _ _ => False) (consT (tupT (consT (varT 3) (consT (cT (.int 1)) nilT))) (consT (varT 4) nilT))) nilT))) (gNameT 2))
def b_law_value_at : ATS := (seqT (asgT (tupT (consT (opT ixR (varT 0) (cT (.int 1))) (consT (cT (.int 1)) nilT))) (gNameT 2))
    (seqT (forT (iZipMT (consT (sliceT (varT 0) (someT (cT (.int 2))) noneT) (consT (varT 1) nilT))) (gTupT 2 (gConsT (gNameT 3) (gConsT (gNameT 4) gNilT)))
    b_law_value_at_l1)
    (retT (varT 2))))
def b_law_points_l1 : ATS := (seqT (asgT (callT sp_law_add (fun _ _ => False) (consT (varT 8) (consT (callT sp_law_r (fun _ _ => False) (consT (varT 10) (consT (varT 9) nilT))) nilT))) (gSubT (varT 7) (varT 6)))
    (dropT (mtT isLst appendR (varT 3) (consT (cbT tupleR (consT (varT 7) nilT)) nilT))))
def b_law_points_l2 : ATS := (seqT (asgT (lcT (iRng1T (consT (varT 2) nilT)) (gNameT 11) (cmpT (opT neR (opT ixR (varT 4) (opT addR (cT (.int 2)) (varT 11))) (cT (.int 0)))) (varT 11) [11]) (gNameT 5))
    (seqT (ifS (cmpT (opT eqR (cbT lenR (consT (varT 5) nilT)) (cT (.int 0))))
    contT
    nextT)
    (seqT (asgT (callT sp_law_pick (fun _ _ => False) (consT (varT 0) (consT (varT 5) nilT))) (gNameT 6))
    (seqT (asgT (cbT listR (consT (opT ixR (varT 3) (cT (.int 0))) nilT)) (gNameT 7))
    (seqT (asgT (tupT (consT (cT (.int 0)) (consT (cT (.int 1)) nilT))) (gSubT (varT 7) (varT 6)))
    (seqT (asgT (callT sp_law_div (fun _ _ => False) (consT (callT sp_law_value_at (fun _ _ => False) (consT (varT 4) (consT (varT 7) nilT))) (consT (tupT (consT (unT negR (opT ixR (varT 4) (opT addR (cT (.int 2)) (varT 6)))) (consT (cT (.int 1)) nilT))) nilT))) (gNameT 8))
    (seqT (asgT (opT addR (cT (.int 1)) (callT sp_law_draw (fun _ _ => False) (consT (varT 0) (consT (opT powR (cT (.int 10)) (cT (.int 12))) nilT)))) (gNameT 9))
    (forT (iSeqT (lstT (consT (cT (.int 0)) (consT (cT (.int 1)) (consT (unT negR (cT (.int 1))) nilT))))) (gNameT 10)
    b_law_points_l1))))))))
def b_law_points : ATS := (seqT (asgT (lstT (consT (cbT tupleR (consT (lcT (iRng1T (consT (varT 2) nilT)) (gNameT 11) yesT (callT sp_law_share (fun _ _ => False) (consT (varT 0) (consT (opT ltR (varT 2) (cT (.int 7))) nilT))) [11]) nilT)) nilT)) (gNameT 3))
    (seqT (forT (iSeqT (varT 1)) (gNameT 4)
    b_law_points_l2)
    (retT (varT 3))))
def b_law_holds : ATS := (seqT (asgT (callT sp_law_value_at (fun _ _ => False) (consT (varT 0) (consT (varT 1) nilT))) (gNameT 2))
    (retT (orV (opT gtR (opT ixR (varT 2) (cT (.int 0))) (cT (.int 0))) (andV (opT eqR (opT ixR (varT 2) (cT (.int 0))) (cT (.int 0))) (opT eqR (opT ixR (varT 0) (cT (.int 0))) (cT (.int 0)))))))
def b_law_row_asked_l1 : ATS := (seqT (asgT (callT sp_law_holds (fun _ _ => False) (consT (varT 4) (consT (varT 8) nilT))) (gNameT 9))
    (ifS (orT (notT (truT (callT (sp_law_same 8) (fun _ _ => False) (consT (callT sp_row_holds (fun _ _ => False) (consT (varT 4) (consT (varT 8) nilT))) (consT (varT 9) nilT))))) (notT (truT (callT (sp_law_same 8) (fun _ _ => False) (consT (callT sp_row_holds (fun _ _ => False) (consT (varT 5) (consT (varT 8) nilT))) (consT (notV (varT 9)) nilT))))))
    (retT (cT (.bl false)))
    nextT))
def b_law_row_asked_r1 : ATS := (seqT (asgT (opT addR (tupT (consT (varT 2) nilT)) (cbT tupleR (consT (lcT (iSeqT (sliceT (varT 4) (someT (cT (.int 1))) noneT)) (gNameT 10) yesT (opT mulR (varT 6) (varT 10)) [10]) nilT))) (gNameT 7))
    (seqT (ifS (notT (truT (callT (sp_law_same 8) (fun _ _ => False) (consT (callT sp_row_of (fun _ _ => False) (consT (callT sp_form_times (fun _ _ => False) (consT (varT 0) (consT (varT 1) nilT))) (consT (varT 2) nilT))) (consT (varT 7) nilT)))))
    (retT (cT (.bl false)))
    nextT)
    (seqT (forT (iSeqT (varT 3)) (gNameT 8)
    b_law_row_asked_l1)
    (retT (cT (.bl true))))))
def b_law_row_asked : ATS := (seqT (asgT (opT addR (tupT (consT (varT 2) nilT)) (cbT tupleR (consT (callT sp_law_lowest (fun _ _ => False) (consT (sliceT (varT 0) (someT (cT (.int 1))) noneT) nilT)) nilT))) (gNameT 4))
    (seqT (asgT (opT addR (tupT (consT (opT subR (cT (.int 1)) (varT 2)) nilT)) (cbT tupleR (consT (lcT (iSeqT (sliceT (varT 4) (someT (cT (.int 1))) noneT)) (gNameT 10) yesT (unT negR (varT 10)) [10]) nilT))) (gNameT 5))
    (seqT (ifS (orT (notT (truT (callT (sp_law_same 8) (fun _ _ => False) (consT (callT sp_row_of (fun _ _ => False) (consT (varT 0) (consT (varT 2) nilT))) (consT (varT 4) nilT))))) (notT (truT (callT (sp_law_same 8) (fun _ _ => False) (consT (callT sp_turned (fun _ _ => False) (consT (varT 4) nilT)) (consT (varT 5) nilT))))))
    (retT (cT (.bl false)))
    nextT)
    (seqT (ifS (notT (truT (callT (sp_law_same 8) (fun _ _ => False) (consT (callT sp_turned (fun _ _ => False) (consT (callT sp_turned (fun _ _ => False) (consT (varT 4) nilT)) nilT)) (consT (varT 4) nilT)))))
    (retT (cT (.bl false)))
    nextT)
    (seqT (asgT (ifT (cmpT (opT gtR (opT ixR (varT 1) (cT (.int 0))) (cT (.int 0)))) (cT (.int 1)) (unT negR (cT (.int 1)))) (gNameT 6))
    b_law_row_asked_r1)))))
def b_law_choice_r1 : ATS := (ifS (cmpT (opT gtR (varT 4) (cT (.int 0))))
    (dropT (mtT isLst appendR (varT 2) (consT (opT addR (tupT (consT (varT 5) nilT)) (cbT tupleR (consT (varT 6) nilT))) nilT)))
    nextT)
def b_law_choice_l1 : ATS := (seqT (asgT (callT sp_law_draw (fun _ _ => False) (consT (varT 0) (consT (cT (.int 5)) nilT))) (gNameT 4))
    (seqT (asgT (callT sp_law_draw (fun _ _ => False) (consT (varT 0) (consT (cT (.int 2)) nilT))) (gNameT 5))
    (seqT (asgT (callT sp_law_lowest (fun _ _ => False) (consT (sliceT (varT 3) (someT (cT (.int 1))) noneT) nilT)) (gNameT 6))
    (seqT (ifS (cmpT (opT eqR (varT 4) (cT (.int 4))))
    (asgT (lcT (iSeqT (varT 6)) (gNameT 7) yesT (unT negR (varT 7)) [7]) (gNameT 6))
    nextT)
    b_law_choice_r1))))
def b_law_choice : ATS := (seqT (asgT (lstT nilT) (gNameT 2))
    (seqT (forT (iSeqT (varT 1)) (gNameT 3)
    b_law_choice_l1)
    (retT (varT 2))))
def b_law_l1 : ATS := (ifS (notT (truT (callT sp_law_row_asked (fun _ _ => False) (consT (varT 5) (consT (varT 6) (consT (varT 7) (consT (varT 4) nilT)))))))
    (retT (cT (.bl false)))
    nextT)
def b_law_l2 : ATS := (seqT (asgT (callT sp_law_r (fun _ _ => False) (consT (opT mulR (opT addR (cT (.int 1)) (callT sp_law_draw (fun _ _ => False) (consT (varT 1) (consT (cT (.int 30)) nilT)))) (opT subR (cT (.int 1)) (opT mulR (cT (.int 2)) (callT sp_law_draw (fun _ _ => False) (consT (varT 1) (consT (cT (.int 2)) nilT)))))) (consT (opT addR (cT (.int 1)) (callT sp_law_draw (fun _ _ => False) (consT (varT 1) (consT (cT (.int 9)) nilT)))) nilT))) (gNameT 6))
    (forT (iSeqT (lstT (consT (cT (.int 0)) (consT (cT (.int 1)) nilT)))) (gNameT 7)
    b_law_l1))
def b_law_l3 : ATS := (seqT (asgT (cbT allR (consT (lcT (iSeqT (varT 8)) (gNameT 12) yesT (callT sp_law_holds (fun _ _ => False) (consT (varT 12) (consT (varT 9) nilT))) [12]) nilT)) (gNameT 10))
    (ifS (orT (notT (truT (callT (sp_law_same 8) (fun _ _ => False) (consT (callT sp_rows_hold (fun _ _ => False) (consT (cbT tupleR (consT (varT 8) nilT)) (consT (varT 9) nilT))) (consT (varT 10) nilT))))) (notT (truT (callT (sp_law_same 8) (fun _ _ => False) (consT (callT sp_rows_hold (fun _ _ => False) (consT (tupT nilT) (consT (varT 9) nilT))) (consT (cT (.bl true)) nilT))))))
    (retT (cT (.bl false)))
    nextT))
def b_law_r1 : ATS := (seqT (asgT (callT sp_law_choice (fun _ _ => False) (consT (varT 1) (consT (varT 3) nilT))) (gNameT 8))
    (seqT (forT (iSeqT (varT 4)) (gNameT 9)
    b_law_l3)
    (retT (cT (.bl true)))))
def b_law_r2 : ATS := (seqT (asgT (lcT (iRng1T (consT (opT addR (cT (.int 1)) (callT sp_law_draw (fun _ _ => False) (consT (varT 1) (consT (cT (.int 4)) nilT)))) nilT)) (gNameT 11) yesT (callT sp_law_some_form (fun _ _ => False) (consT (varT 1) (consT (varT 2) nilT))) [11]) (gNameT 3))
    (seqT (asgT (callT sp_law_points (fun _ _ => False) (consT (varT 1) (consT (varT 3) (consT (varT 2) nilT)))) (gNameT 4))
    (seqT (forT (iSeqT (varT 3)) (gNameT 5)
    b_law_l2)
    b_law_r1)))
def b_law : ATS := (seqT (asgT (callT sp_law_begin (fun _ _ => False) (consT (varT 0) nilT)) (gNameT 1))
    (seqT (asgT (callT sp_law_draw (fun _ _ => False) (consT (varT 1) (consT (cT (.int 7)) nilT))) (gNameT 2))
    (seqT (ifS (truT (callT sp_law_rare (fun _ _ => False) (consT (varT 1) (consT (cT (.int 13)) nilT))))
    (augT 2 (cT (.int 20)) iaddR)
    nextT)
    b_law_r2)))
end AL

/-! P05: rows of forms: pure proofs. -/
namespace AL
open PySem
local macro_rules | `(tactic| get_elem_tactic_trivial) => `(tactic| simp -implicitDefEqProofs only [e_tru_non, e_tru_bl, e_tru_int, e_tru_tup, e_tru_rol, e_bl_bl, e_add_int, e_add_ib, e_add_str, e_add_tup, e_sub_int, e_mul_int, e_fdiv_int, e_mod_int, e_pow_int, e_shl_int, e_neg_int, e_iadd_int, e_iadd_str, e_isub_int, e_aeq_int, e_aeq_str, e_aeq_bl, e_aeq_non, e_aeq_tup, e_aeqs_nil, e_aeqs_cons, e_aeqs_nc, e_aeqs_cn, e_plain_int, e_plain_bl, e_plain_non, e_plain_str, e_plain_tup, e_eq, e_ne, e_lt_int, e_lt_str, e_le_int, e_gt_int, e_ge_int, e_isN, e_notN, e_isNon_int, e_isNon_str, e_isNon_tup, e_isNon_non, e_isNon_ref, e_isNon_bl, e_ix0, e_ix1, e_ix2, e_ix3, e_ix4, e_len_tup, e_len_rol, e_len_str, e_abs, e_int_int, e_int_bl, e_str_int, e_gcd, e_tuple_tup, e_list_tup, e_inst_ii, e_inst_ib, e_inst_tt, e_inst_it, e_inst_ti, e_inst_tb, e_inst_bb, e_inst_bi, e_inst_bt, e_inst_ss, e_inst_st, e_inst_si, e_inst_nt, e_gTup, e_gCons, e_gNil, e_gNms0, e_gNms1, e_gName, atA_0, atA_1, atA_2, atA_3, atA_4, get_l0, get_l1, get_l2, get_l3, set_l0, set_l1, set_l2, app_l, len_l0, len_l1, len_l2, x_c, x_var, x_op, x_un, x_nil, x_cons, x_tup, x_lst, x_call, x_cb, x_mt, x_tru, x_cmp, x_and, x_or, x_not, x_andV, x_orV, x_notV, x_if, x_chain, x_next, x_seq, x_brk, x_cont, x_drop, x_ret, x_retN, x_ifS, x_asg, x_gSub, x_par, x_aug, x_augS, x_rt, x_nx, x_yes, e_max2, e_min2, x_slice, x_oNone, x_oSome, e_sl_tup, e_sl_rol, gv, sv, wipeA, lenLe, true_and, and_true, if_true, if_false, ite_true, ite_false, beq_iff_eq, decide_eq_true_eq, Bool.false_eq_true, Bool.true_eq_false, not_false_eq_true, Bool.not_eq_true', decide_eq_false_iff_not, Bool.not_true, Bool.not_false, List.isEmpty_cons, List.isEmpty_nil, List.cons_append, List.nil_append, List.length_cons, List.length_nil])
/-! ### common divisors -/
def gcdF (g : Nat) (ns : List Int) : Nat := ns.foldl (fun g n => g.gcd n.natAbs) g
theorem gcdF_nil (g : Nat) : gcdF g [] = g := rfl
theorem gcdF_cons (g : Nat) (n : Int) (r : List Int) : gcdF g (n :: r) = gcdF (g.gcd n.natAbs) r := rfl
theorem gcdF_gcd : ∀ (ns : List Int) (g : Nat), gcdF g ns = g.gcd (gcdF 0 ns)
  | [], g => by
    rw [gcdF_nil, gcdF_nil, Nat.gcd_zero_right]
  | n :: r, g => by
    rw [gcdF_cons, gcdF_cons, gcdF_gcd r, gcdF_gcd r (Nat.gcd 0 n.natAbs), Nat.gcd_zero_left, Nat.gcd_assoc]
theorem gcdF_one (ns : List Int) : gcdF 1 ns = 1 := by
  rw [gcdF_gcd, Nat.gcd_one_left]
theorem gcdL_cons (n : Int) (r : List Int) : gcdL (n :: r) = n.natAbs.gcd (gcdL r) := by
  show gcdF (Nat.gcd 0 n.natAbs) r = _
  rw [gcdF_gcd, Nat.gcd_zero_left]
  rfl
theorem gcdL_take (ns : List Int) (i : Nat) : gcdL ns = gcdF (gcdL (ns.take i)) (ns.drop i) := by
  conv => lhs; rw [← List.take_append_drop i ns]
  unfold gcdL gcdF
  rw [List.foldl_append]
theorem gcdL_next {ns : List Int} {i : Nat} {n : Int} (h : ns[i]? = some n) : gcdL (ns.take (i + 1)) = (gcdL (ns.take i)).gcd n.natAbs := by
  rw [List.take_add_one, h]
  unfold gcdL
  rw [List.foldl_append]
  rfl
theorem gcdL_dvd : ∀ {ns : List Int} {n : Int}, n ∈ ns → ((gcdL ns : Nat) : Int) ∣ n
  | m :: r, n, h => by
    rw [gcdL_cons]
    rcases List.mem_cons.mp h with rfl | h
    · exact Int.ofNat_dvd_left.mpr (Nat.gcd_dvd_left _ _)
    · exact Int.dvd_trans (Int.ofNat_dvd.mpr (Nat.gcd_dvd_right _ _)) (gcdL_dvd h)
theorem gcdL_zero : ∀ {ns : List Int}, gcdL ns = 0 → ∀ n ∈ ns, n = 0
  | m :: r, h, n, hn => by
    rw [gcdL_cons, Nat.gcd_eq_zero_iff] at h
    rcases List.mem_cons.mp hn with rfl | hn
    · exact Int.natAbs_eq_zero.mp h.1
    · exact gcdL_zero h.2 n hn
theorem gcdL_sz {B : Nat} {ns : List Int} (h : ∀ n ∈ ns, isz n ≤ B) (hB : 1 ≤ B) : isz ((gcdL ns : Nat) : Int) ≤ B := by
  by_cases h0 : gcdL ns = 0
  · rw [h0]
    exact hB
  · obtain ⟨n, hn, hne⟩ : ∃ n ∈ ns, n ≠ 0 := by
      apply Decidable.byContradiction
      intro hc
      have all0 : ∀ n ∈ ns, n = 0 := fun n hn => Decidable.byContradiction fun z => hc ⟨n, hn, z⟩
      apply h0
      clear h0 h hc
      induction ns with
      | nil => rfl
      | cons m r ih =>
        rw [gcdL_cons, all0 m (by simp), ih fun n hn => all0 n (by simp [hn])]
        rfl
    refine Nat.le_trans (isz_mono ?_) (h n hn)
    rw [Int.natAbs_natCast]
    exact Nat.le_of_dvd (Int.natAbs_pos.mpr hne) (Int.ofNat_dvd_left.mp (gcdL_dvd hn))
theorem gcdL_mul (k : Int) : ∀ ns : List Int, gcdL (ns.map (· * k)) = gcdL ns * k.natAbs
  | [] => by
    show 0 = 0 * _
    rw [Nat.zero_mul]
  | n :: r => by
    rw [List.map_cons, gcdL_cons, gcdL_cons, gcdL_mul k r, Int.natAbs_mul, Nat.gcd_mul_right]
def sgn (k : Int) : Int := if 0 < k then 1 else -1
theorem low_mul {k : Int} (hk : k ≠ 0) (ns : List Int) : low (ns.map (· * k)) = (low ns).map (sgn k * ·) := by
  unfold low
  rw [List.map_map, List.map_map]
  apply List.map_congr_left
  intro n hn
  show n * k / ((max 1 (gcdL (ns.map (· * k))) : Nat) : Int) = sgn k * (n / ((max 1 (gcdL ns) : Nat) : Int))
  rw [gcdL_mul]
  by_cases h0 : gcdL ns = 0
  · rw [gcdL_zero h0 n hn, Int.zero_mul, Int.zero_ediv, Int.zero_ediv, Int.mul_zero]
  · obtain ⟨m, e⟩ := gcdL_dvd hn
    have hg : 0 < gcdL ns := by omega
    have hka : 0 < k.natAbs := by omega
    have hp : 0 < gcdL ns * k.natAbs := Nat.mul_pos hg hka
    rw [Nat.max_eq_right (by omega), Nat.max_eq_right (by omega), Int.natCast_mul]
    have hG : ((gcdL ns : Nat) : Int) ≠ 0 := by omega
    generalize ((gcdL ns : Nat) : Int) = G at e hG
    have hk2 : k = sgn k * (k.natAbs : Int) := by
      unfold sgn
      split <;> omega
    have hK : (k.natAbs : Int) ≠ 0 := by omega
    generalize (k.natAbs : Int) = a at hk2 hK
    generalize sgn k = t at hk2 ⊢
    subst hk2
    have e1 : n * (t * a) = G * a * (m * t) := by
      rw [e]
      simp only [Int.mul_comm, Int.mul_left_comm, Int.mul_assoc]
    rw [e1, Int.mul_ediv_cancel_left _ (Int.mul_ne_zero hG hK), e, Int.mul_ediv_cancel_left _ hG, Int.mul_comm]
theorem low_div {D : Nat} (hD : 0 < D) {ys : List Int} (h : ∀ y ∈ ys, (D : Int) ∣ y) : low (ys.map (· / (D : Int))) = low ys := by
  have e : ys = (ys.map (· / (D : Int))).map (· * (D : Int)) := by
    rw [List.map_map]
    conv => lhs; rw [← List.map_id ys]
    apply List.map_congr_left
    intro y hy
    exact (Int.ediv_mul_cancel (h y hy)).symm
  conv => rhs; rw [e, low_mul (by omega)]
  have : sgn (D : Int) = 1 := by
    unfold sgn
    rw [if_pos (by omega)]
  rw [this]
  conv => lhs; rw [← List.map_id (low _)]
  apply List.map_congr_left
  intro y _
  exact (Int.one_mul y).symm
/-- the shares of a form without a common divisor, once more without one -/
theorem low_tail (c : Int) (ys : List Int) : low ((low (c :: ys)).drop 1) = low ys := by
  have e : (low (c :: ys)).drop 1 = ys.map (· / ((max 1 (gcdL (c :: ys)) : Nat) : Int)) := rfl
  rw [e]
  refine low_div (by omega) fun y hy => ?_
  have hd := gcdL_dvd (ns := c :: ys) (n := y) (by simp [hy])
  by_cases h0 : gcdL (c :: ys) = 0
  · rw [h0]
    exact Int.one_dvd _
  · rw [Nat.max_eq_right (by omega)]
    exact hd
theorem low_len (ns : List Int) : (low ns).length = ns.length := List.length_map ..
theorem low_sz {B : Nat} {ns : List Int} (h : ∀ n ∈ ns, isz n ≤ B) : ∀ n ∈ low ns, isz n ≤ B := fun n hn => by
  obtain ⟨m, hm, rfl⟩ := List.mem_map.mp hn
  exact Nat.le_trans (isz_div _ _) (h m hm)
theorem low_one {ns : List Int} (h : gcdL ns ≤ 1) : low ns = ns := by
  unfold low
  rw [Nat.max_eq_left h]
  conv => rhs; rw [← List.map_id ns]
  apply List.map_congr_left
  intro n _
  exact Int.ediv_one n
theorem low_more {ns : List Int} (h : 1 < gcdL ns) : low ns = ns.map (· / ((gcdL ns : Nat) : Int)) := by
  unfold low
  rw [Nat.max_eq_right (by omega)]
theorem clB_ints (n : Nat) (ns : List Int) : clB n (intsT ns) = true := clBs_ints ns
theorem pure_common_divisor (x : AV) (h : AH) (R : AK) (c1 : clH h) (c2 : clBs h.length [x] = true) (q : sp_common_divisor [x] h R (fun _ _ => False)) : b_common_divisor (ends (retG h R)) [some x, none, none] h := by
  obtain ⟨ns, hx, q⟩ := q
  unfold b_common_divisor
  get_elem_tactic_trivial
  rw [x_for]
  refine x_iseq_of (fun _ => rfl) hx fun guard hg => ?_
  refine ⟨fun i σ h' => h' = h ∧ ∃ k, σ = [some x, some (.int (gcdL (ns.take i) : Int)), k], ⟨rfl, _, rfl⟩, fun i z σ h' hz ⟨eh, k, es⟩ => ⟨hg h' (by rw [eh]; exact hx), ?_⟩, fun σ h' ⟨eh, k, es⟩ => ⟨hg h' (by rw [eh]; exact hx), ?_⟩⟩
  · subst eh es
    obtain ⟨n, hn, rfl⟩ := map_get hz
    have nx := gcdL_next hn
    unfold b_common_divisor_l1
    get_elem_tactic_trivial
    by_cases h0 : n = 0
    · rw [if_neg (by simp [h0])]
      refine ⟨some (.int n), ?_⟩
      rw [nx, h0]
      simp
    · rw [if_pos (by simpa using h0)]
      rw [Int.natAbs_natCast, ← nx]
      by_cases h1 : ((gcdL (ns.take (i + 1)) : Nat) : Int) = 1
      · rw [if_pos h1]
        refine retG_of ?_
        have e : gcdL ns = 1 := by
          rw [gcdL_take ns (i + 1), show gcdL (ns.take (i + 1)) = 1 by omega, gcdF_one]
        rw [e] at q
        exact q
      · rw [if_neg h1]
        exact ⟨_, rfl⟩
  · subst eh es
    rw [List.length_map, List.take_length]
    get_elem_tactic_trivial
    exact retG_of q
theorem div_gcd {B : Nat} {ns : List Int} (h : NsOk B ns) (hB : B ≤ 8000) (h1 : 1 < gcdL ns) : divOk ((gcdL ns : Nat) : Int) :=
  divOk_of (by omega) (Nat.le_trans (gcdL_sz (B := 8000) (fun n hn => Nat.le_trans (h.sz n hn) hB) (by decide)) (by decide))
theorem pure_lowest (x : AV) (h : AH) (R : AK) (c1 : clH h) (c2 : clBs h.length [x] = true) (q : sp_lowest [x] h R (fun _ _ => False)) : b_lowest (ends (retG h R)) [some x, none, none] h := by
  obtain ⟨ns, hx, ok, q⟩ := q
  have hl := ok.len
  unfold b_lowest
  get_elem_tactic_trivial
  refine ⟨ns, hx, ?_⟩
  get_elem_tactic_trivial
  by_cases h1 : (1 : Int) < ((gcdL ns : Nat) : Int)
  · rw [if_pos h1]
    have h1 : 1 < gcdL ns := by omega
    rw [low_more h1] at q
    refine lcT_seq (fun _ => rfl) hx (ys := (ns.map (· / ((gcdL ns : Nat) : Int))).map AV.int) (by simp) (by simp; omega) (fun i z y acc Q hz hy hq => ?_) ?_
    · obtain ⟨n, hn, rfl⟩ := map_get hz
      obtain ⟨w, hw, rfl⟩ := map_get hy
      obtain ⟨n2, hn2, rfl⟩ := map_get hw
      rw [hn] at hn2
      cases hn2
      get_elem_tactic_trivial
      exact ⟨div_gcd ok (Nat.le_refl _) h1, hq⟩
    · rw [e_tuple_lst get_l0]
      exact ret_cut c1 (clB_ints _ _) q
  · rw [if_neg h1, tuple_seq hx]
    rw [low_one (by omega)] at q
    exact retG_of q
theorem pure_law_lowest (x : AV) (h : AH) (R : AK) (c1 : clH h) (c2 : clBs h.length [x] = true) (q : sp_law_lowest [x] h R (fun _ _ => False)) : b_law_lowest (ends (retG h R)) [some x, none, none] h := by
  obtain ⟨ns, hx, ok, q⟩ := q
  have hl := ok.len
  unfold b_law_lowest
  get_elem_tactic_trivial
  rw [x_for]
  refine x_iseq_of (fun _ => rfl) hx fun guard hg => ?_
  refine ⟨fun i σ h' => h' = h ∧ ∃ k, σ = [some x, some (.int (gcdL (ns.take i) : Int)), k], ⟨rfl, _, rfl⟩, fun i z σ h' hz ⟨eh, k, es⟩ => ⟨hg h' (by rw [eh]; exact hx), ?_⟩, fun σ h' ⟨eh, k, es⟩ => ⟨hg h' (by rw [eh]; exact hx), ?_⟩⟩
  · subst eh es
    obtain ⟨n, hn, rfl⟩ := map_get hz
    have nx := gcdL_next hn
    unfold b_law_lowest_l1
    get_elem_tactic_trivial
    by_cases h0 : n = 0
    · rw [if_neg (by simp [h0])]
      refine ⟨some (.int n), ?_⟩
      rw [nx, h0]
      simp
    · rw [if_pos (by simpa using h0)]
      by_cases h1 : ((gcdL (ns.take i) : Nat) : Int) = 1
      · rw [if_neg (by simpa using h1)]
        refine ⟨some (.int n), ?_⟩
        rw [nx, show gcdL (ns.take i) = 1 by omega, Nat.gcd_one_left]
      · rw [if_pos (by simpa using h1)]
        have b1 := gcdL_sz (B := 8000) (ns := ns.take i) (fun m hm => ok.sz m (List.mem_of_mem_take hm)) (by decide)
        have b2 := ok.sz n (get_mem hn)
        refine ⟨_, _, rfl, rfl, by omega, by omega, ?_⟩
        rw [Int.natAbs_natCast, ← nx]
        exact ⟨rfl, _, rfl⟩
  · subst eh es
    rw [List.length_map, List.take_length]
    unfold b_law_lowest_r1
    get_elem_tactic_trivial
    by_cases h1 : (1 : Int) < ((gcdL ns : Nat) : Int)
    · rw [if_pos h1]
      have h1 : 1 < gcdL ns := by omega
      rw [low_more h1] at q
      refine lcT_seq (fun _ => rfl) hx (ys := (ns.map (· / ((gcdL ns : Nat) : Int))).map AV.int) (by simp) (by simp; omega) (fun i z y acc Q hz hy hq => ?_) (retG_of q)
      obtain ⟨n, hn, rfl⟩ := map_get hz
      obtain ⟨w, hw, rfl⟩ := map_get hy
      obtain ⟨n2, hn2, rfl⟩ := map_get hw
      rw [hn] at hn2
      cases hn2
      get_elem_tactic_trivial
      exact ⟨div_gcd ok (Nat.le_refl _) h1, hq⟩
    · rw [if_neg h1, list_seq hx]
      rw [low_one (by omega)] at q
      exact retG_of q
theorem cut1 {α : Type} (x : α) (r : List α) : cutA (x :: r) (some 1) none = r := cutA_from (x :: r) 1
theorem cut2 {α : Type} (x y : α) (r : List α) : cutA (x :: y :: r) (some 2) none = r := cutA_from (x :: y :: r) 2
theorem lens (x : Int) (r : List Int) : intsT (x :: r) = .tup (.int x :: r.map AV.int) := rfl
theorem pure_form_times (x y : AV) (h : AH) (R : AK) (c1 : clH h) (c2 : clBs h.length [x, y] = true) (q : sp_form_times [x, y] h R (fun _ _ => False)) : b_form_times (ends (retG h R)) [some x, some y, none] h := by
  obtain ⟨b, xs, f, rfl, rfl, hf, hs, ok, q⟩ := q
  have fn := sz_num f
  have fd := sz_den f
  have hl := ok.len
  unfold b_form_times rat
  rw [lens]
  get_elem_tactic_trivial
  rw [if_neg hf]
  have sb := ok.sz b (by simp)
  refine ⟨mulOk_of (n := 200) (by omega) (by decide), ?_⟩
  obtain ⟨H, hH⟩ : ∃ H, H = h ++ [AO.lst [.int (b * (f.den : Int))]] := ⟨_, rfl⟩
  rw [← hH]
  refine lcT_map (h1 := H) (items := xs.map AV.int) (ys := (xs.map (· * f.num)).map AV.int) (guard := fun _ => True) (fun K k => ?_) (by simp) (by simp at hl ⊢; omega) (fun _ => trivial) (fun i z y acc Q hz hy hq => ?_) ?_
  · unfold iSeqT
    get_elem_tactic_trivial
    rw [cut1]
    exact k
  · obtain ⟨n, hn, rfl⟩ := map_get hz
    obtain ⟨w, hw, rfl⟩ := map_get hy
    obtain ⟨n2, hn2, rfl⟩ := map_get hw
    rw [hn] at hn2
    cases hn2
    get_elem_tactic_trivial
    have := ok.sz n (by simp [get_mem hn])
    exact ⟨mulOk_of (n := 200) (by omega) (by decide), hq⟩
  · have g0 : (H ++ [AO.lst ((xs.map (· * f.num)).map AV.int)])[h.length]? = some (.lst [.int (b * (f.den : Int))]) := get_old (by rw [hH]; exact get_l0)
    rw [e_add_lst g0 get_l0]
    refine ⟨by simp at hl ⊢; omega, b * (f.den : Int) :: xs.map (· * f.num), ?_, ⟨by simpa using hl, fun n hn => ?_⟩, ?_⟩
    · rw [seq_ref get_l0]
      rfl
    · rcases List.mem_cons.mp hn with rfl | hn
      · exact Nat.le_trans (isz_mul _ _) (by omega)
      · obtain ⟨m, hm, rfl⟩ := List.mem_map.mp hn
        have := ok.sz m (by simp [hm])
        exact Nat.le_trans (isz_mul _ _) (by omega)
    · have ex : Ext h ((H ++ [AO.lst ((xs.map (· * f.num)).map AV.int)]) ++ [AO.lst ([AV.int (b * (f.den : Int))] ++ (xs.map (· * f.num)).map AV.int)]) := by
        rw [hH]
        exact ((Ext.refl.app _).app _).app _
      exact ret_ext c1 ex (clB_ints _ _) q
theorem pure_row_of (x y : AV) (h : AH) (R : AK) (c1 : clH h) (c2 : clBs h.length [x, y] = true) (q : sp_row_of [x, y] h R (fun _ _ => False)) : b_row_of (ends (retG h R)) [some x, some y] h := by
  obtain ⟨b, s, xs, rfl, rfl, ok, q⟩ := q
  have hl := ok.len
  unfold b_row_of
  rw [lens]
  get_elem_tactic_trivial
  rw [cut1]
  refine ⟨xs, rfl, ok, ?_⟩
  unfold intsT
  get_elem_tactic_trivial
  exact ⟨by simp [low_len]; omega, retG_of q⟩
theorem pure_turned (x : AV) (h : AH) (R : AK) (c1 : clH h) (c2 : clBs h.length [x] = true) (q : sp_turned [x] h R (fun _ _ => False)) : b_turned (ends (retG h R)) [some x, none] h := by
  obtain ⟨s, xs, rfl, hl, q⟩ := q
  unfold b_turned
  rw [lens]
  get_elem_tactic_trivial
  refine lcT_map (h1 := h) (items := xs.map AV.int) (ys := (xs.map fun n => -n).map AV.int) (guard := fun _ => True) (fun K k => ?_) (by simp) (by simp; omega) (fun _ => trivial) (fun i z y acc Q hz hy hq => ?_) ?_
  · unfold iSeqT
    get_elem_tactic_trivial
    rw [cut1]
    exact k
  · obtain ⟨n, hn, rfl⟩ := map_get hz
    obtain ⟨w, hw, rfl⟩ := map_get hy
    obtain ⟨n2, hn2, rfl⟩ := map_get hw
    rw [hn] at hn2
    cases hn2
    get_elem_tactic_trivial
    exact hq
  · rw [e_tuple_lst get_l0]
    get_elem_tactic_trivial
    exact ⟨by simp; omega, ret_cut c1 (clB_ints _ _) q⟩
/-! ### values at points -/
def wt (p : List Rat) : Nat := (p.map sz).sum
theorem wt_next {p : List Rat} {i : Nat} {v : Rat} (h : p[i]? = some v) : wt (p.take (i + 1)) = wt (p.take i) + sz v := by
  unfold wt
  rw [List.take_add_one, h]
  simp
theorem wt_take : ∀ (p : List Rat) (i : Nat), wt (p.take i) ≤ wt p
  | [], i => by simp [wt]
  | v :: r, 0 => Nat.zero_le _
  | v :: r, i + 1 => by
    have := wt_take r i
    unfold wt at this ⊢
    simp only [List.take_succ_cons, List.map_cons, List.sum_cons]
    omega
theorem val_next : ∀ (ns : List Int) (p : List Rat) (i : Nat) {n : Int} {v : Rat} (t : Rat), ns[i]? = some n → p[i]? = some v → val t (ns.take (i + 1)) (p.take (i + 1)) = val t (ns.take i) (p.take i) + (n : Rat) * v
  | n :: ns, v :: p, 0, _, _, t, h1, h2 => by
    cases h1
    cases h2
    rfl
  | n :: ns, v :: p, i + 1, _, _, t, h1, h2 => val_next ns p i _ h1 h2
  | [], _, _, _, _, _, h, _ => by cases h
  | _ :: _, [], _, _, _, _, _, h => by cases h
theorem val_min : ∀ (ns : List Int) (p : List Rat) (t : Rat), val t (ns.take (min ns.length p.length)) (p.take (min ns.length p.length)) = val t ns p
  | [], p, t => by cases p <;> rfl
  | n :: ns, [], t => rfl
  | n :: ns, v :: p, t => by
    have := val_min ns p (t + (n : Rat) * v)
    simp only [List.length_cons, Nat.add_min_add_right]
    exact this
theorem zm_len : ∀ (xs ys : List AV), (zip2 xs ys).length = min xs.length ys.length
  | [], ys => by cases ys <;> rfl
  | _ :: _, [] => rfl
  | a :: r, b :: t => by
    show (zip2 r t).length + 1 = _
    rw [zm_len r t, List.length_cons, List.length_cons, Nat.add_min_add_right]
theorem step_eq {above below n : Int} {t v : Rat} (h : (above : Rat) = t * (below : Rat)) : ((above * (v.den : Int) + n * v.num * below : Int) : Rat) = (t + (n : Rat) * v) * ((below * (v.den : Int) : Int) : Rat) := by
  have hm := mul_den v
  rw [Rat.intCast_add, Rat.intCast_mul, Rat.intCast_mul, Rat.intCast_mul, Rat.intCast_mul, h, ← hm]
  grind
theorem pure_row_holds (x y : AV) (h : AH) (R : AK) (c1 : clH h) (c2 : clBs h.length [x, y] = true) (q : sp_row_holds [x, y] h R (fun _ _ => False)) : b_row_holds (ends (retG h R)) [some x, some y, none, none, none, none] h := by
  obtain ⟨r, p, rfl, rfl, ok, pk, q⟩ := q
  have hl := ok.r.len
  have hp := pk.w
  have hpl := pk.len
  unfold b_row_holds Rw.v
  rw [lens]
  get_elem_tactic_trivial
  simp only [List.map_cons]
  get_elem_tactic_trivial
  rw [x_for, x_zipM (x := .tup (r.r.map AV.int)) (y := ptV p) (xs := r.r.map AV.int) (ys := p.map rat) (fun L => by get_elem_tactic_trivial; rw [cut2]) rfl rfl]
  refine ⟨fun i σ h' => h' = h ∧ ∃ above below a b, σ = [some r.v, some (ptV p), some (.int above), some (.int below), a, b] ∧ 0 < below ∧ (above : Rat) = val r.c (r.r.take i) (p.take i) * (below : Rat) ∧ isz above ≤ 70 + 70 * i + wt (p.take i) ∧ isz below ≤ 1 + wt (p.take i), ⟨rfl, r.c, 1, _, _, rfl, by decide, ?_, ?_, Nat.le_add_right 1 _⟩, fun i z σ h' hz ⟨eh, above, below, a, b, es, hb, he, hs, ht⟩ => ⟨⟨rfl, rfl⟩, ?_⟩, fun σ h' ⟨eh, above, below, a, b, es, hb, he, hs, ht⟩ => ⟨⟨rfl, rfl⟩, ?_⟩⟩
  · show (r.c : Rat) = (r.c : Rat) * ((1 : Int) : Rat)
    simp
  · have := ok.c
    omega
  · subst eh es
    obtain ⟨u, w, hu, hw, rfl⟩ := zp_get _ _ hz
    obtain ⟨n, hn, rfl⟩ := map_get hu
    obtain ⟨v, hv, rfl⟩ := map_get hw
    have w1 := wt_next hv
    have w2 := wt_take p (i + 1)
    have vn := val_next r.r p i (r.c : Rat) hn hv
    have sn := ok.r.sz n (get_mem hn)
    have v1 := sz_num v
    have v2 := sz_den v
    have hi := (List.getElem?_eq_some_iff.mp hn).1
    have wb : wt p ≤ 5000 := hp
    unfold b_row_holds_l1
    get_elem_tactic_trivial
    by_cases h0 : n = 0
    · rw [if_neg (by simp [h0])]
      refine ⟨above, below, _, _, rfl, hb, ?_, by omega, by omega⟩
      rw [vn, h0, he]
      congr 1
      rw [Rat.intCast_zero, Rat.zero_mul, Rat.add_zero]
    · rw [if_pos (by simpa using h0)]
      unfold rat
      get_elem_tactic_trivial
      have m1 := isz_mul above (v.den : Int)
      have m2 := isz_mul n v.num
      have m3 := isz_mul (n * v.num) below
      have m4 := isz_mul below (v.den : Int)
      have m5 := isz_add (i := above * (v.den : Int)) (j := n * v.num * below) (n := 70 + 70 * i + wt (p.take i) + sz v) (by omega) (by omega)
      refine ⟨mulOk_of (n := 100000) (by omega) (by decide), mulOk_of (n := 100000) (by omega) (by decide), mulOk_of (n := 100000) (by omega) (by decide), mulOk_of (n := 100000) (by omega) (by decide), ?_⟩
      refine ⟨_, _, _, _, rfl, Int.mul_pos hb (den_pos v), ?_, by omega, by omega⟩
      rw [vn]
      exact step_eq he
  · subst eh es
    rw [zm_len, List.length_map, List.length_map, val_min] at he
    have hb2 : (0 : Rat) < (below : Rat) := Rat.intCast_pos.mpr hb
    have pos : (0 < above) ↔ (0 : Rat) < val r.c r.r p := by
      rw [← Rat.intCast_lt_intCast, he]
      constructor
      · intro z
        refine Rat.lt_of_mul_lt_mul_right (c := (below : Rat)) ?_ (Rat.le_of_lt hb2)
        rw [Rat.zero_mul]
        exact z
      · intro z
        have := Rat.mul_lt_mul_of_pos_right z hb2
        rw [Rat.zero_mul] at this
        exact this
    have nneg : (0 ≤ above) ↔ (0 : Rat) ≤ val r.c r.r p := by
      rw [← Rat.intCast_le_intCast, he]
      constructor
      · intro z
        refine Rat.le_of_mul_le_mul_right (c := (below : Rat)) ?_ hb2
        rw [Rat.zero_mul]
        exact z
      · intro z
        have := Rat.mul_le_mul_of_nonneg_right z (Rat.le_of_lt hb2)
        rw [Rat.zero_mul] at this
        exact this
    unfold b_row_holds_r1 Rw.v
    rw [lens]
    get_elem_tactic_trivial
    unfold holdsB at q
    by_cases h1 : r.s = 1
    · rw [if_pos h1] at q ⊢
      refine retG_of ?_
      rw [decide_eq_decide.mpr pos]
      exact q
    · rw [if_neg h1] at q ⊢
      refine retG_of ?_
      rw [decide_eq_decide.mpr nneg]
      exact q
theorem pure_rows_hold (x y : AV) (h : AH) (R : AK) (c1 : clH h) (c2 : clBs h.length [x, y] = true) (q : sp_rows_hold [x, y] h R (fun _ _ => False)) : b_rows_hold (ends (retG h R)) [some x, some y, none] h := by
  obtain ⟨rs, p, rfl, rfl, ok, pk, q⟩ := q
  unfold b_rows_hold
  get_elem_tactic_trivial
  rw [x_for]
  unfold iSeqT
  get_elem_tactic_trivial
  refine ⟨fun i σ h' => h' = h ∧ (rs.take i).all (fun r => holdsB r p) = true ∧ ∃ a, σ = [some (.tup (rs.map Rw.v)), some (ptV p), a], ⟨rfl, rfl, _, rfl⟩, fun i z σ h' hz ⟨eh, ha, a, es⟩ => ?_, fun σ h' ⟨eh, ha, a, es⟩ => ?_⟩
  · subst eh es
    obtain ⟨r, hr, rfl⟩ := map_get hz
    unfold b_rows_hold_l1
    get_elem_tactic_trivial
    refine ⟨r, p, rfl, rfl, ok r (get_mem hr), pk, ?_⟩
    get_elem_tactic_trivial
    by_cases hh : holdsB r p = true
    · rw [if_neg (by simp [hh])]
      refine ⟨?_, _, rfl⟩
      rw [List.take_add_one, hr, List.all_append, ha]
      simpa using hh
    · rw [if_pos (by simpa using hh)]
      refine retG_of ?_
      have : rs.all (fun r => holdsB r p) = false := by
        rw [List.all_eq_false]
        exact ⟨r, get_mem hr, hh⟩
      rw [this] at q
      exact q
  · subst eh es
    rw [List.length_map, List.take_length] at ha
    rw [ha] at q
    exact retG_of q
theorem pure_law_value_at (x y : AV) (h : AH) (R : AK) (c1 : clH h) (c2 : clBs h.length [x, y] = true) (q : sp_law_value_at [x, y] h R (fun _ _ => False)) : b_law_value_at (ends (retG h R)) [some x, some y, none, none, none] h := by
  obtain ⟨b, c, ns, p, rfl, hy, hc, ok, pk, q⟩ := q
  have hl := ok.len
  have hp := pk.w
  unfold b_law_value_at
  rw [lens]
  simp only [List.map_cons]
  get_elem_tactic_trivial
  rw [x_for, x_zipM (x := .tup (ns.map AV.int)) (y := y) (xs := ns.map AV.int) (ys := p.map rat) (fun L => by get_elem_tactic_trivial; rw [cut2]) rfl hy]
  refine ⟨fun i σ h' => h' = h ∧ ∃ a b', σ = [some (intsT (b :: c :: ns)), some y, some (rat (val c (ns.take i) (p.take i))), a, b'] ∧ sz (val c (ns.take i) (p.take i)) ≤ 60 + 62 * i + wt (p.take i), ⟨rfl, _, _, rfl, ?_⟩, fun i z σ h' hz ⟨eh, a, b', es, hs⟩ => ⟨⟨rfl, by rw [eh]; exact hy⟩, ?_⟩, fun σ h' ⟨eh, a, b', es, hs⟩ => ⟨⟨rfl, by rw [eh]; exact hy⟩, ?_⟩⟩
  · show sz (c : Rat) ≤ _
    rw [sz_int]
    omega
  · subst eh es
    obtain ⟨u, w, hu, hw, rfl⟩ := zp_get _ _ hz
    obtain ⟨n, hn, rfl⟩ := map_get hu
    obtain ⟨v, hv, rfl⟩ := map_get hw
    have w1 := wt_next hv
    have w2 := wt_take p (i + 1)
    have vn := val_next ns p i (c : Rat) hn hv
    have sn := ok.sz n (get_mem hn)
    have hi := (List.getElem?_eq_some_iff.mp hn).1
    have wb : wt p ≤ 5000 := hp
    have m1 := sz_mul (n : Rat) v
    rw [sz_int] at m1
    have m2 := sz_add (val c (ns.take i) (p.take i)) ((n : Rat) * v)
    unfold b_law_value_at_l1
    get_elem_tactic_trivial
    refine ⟨(n : Rat), v, rfl, rfl, by rw [sz_int]; omega, _, _, rfl, rfl, by omega, ?_⟩
    rw [vn]
    exact ⟨rfl, _, _, rfl, by omega⟩
  · subst eh es
    rw [zm_len, List.length_map, List.length_map, val_min]
    get_elem_tactic_trivial
    exact retG_of q
theorem num_pos_iff (v : Rat) : (0 < v.num) ↔ (0 : Rat) < v := by
  rw [Rat.lt_iff]
  simp
theorem pure_law_holds (x y : AV) (h : AH) (R : AK) (c1 : clH h) (c2 : clBs h.length [x, y] = true) (q : sp_law_holds [x, y] h R (fun _ _ => False)) : b_law_holds (ends (retG h R)) [some x, some y, none] h := by
  obtain ⟨r, p, rfl, rfl, ok, pk, q⟩ := q
  unfold b_law_holds
  get_elem_tactic_trivial
  refine ⟨r.s, r.c, r.r, p, rfl, rfl, ok.c, ok.r, pk, ?_⟩
  unfold rat Rw.v
  rw [lens]
  get_elem_tactic_trivial
  obtain ⟨v, hv⟩ : ∃ v, v = val r.c r.r p := ⟨_, rfl⟩
  unfold holdsB at q
  rw [← hv] at q ⊢
  have np := num_pos_iff v
  have nz : v.num = 0 ↔ v = 0 := Rat.num_eq_zero
  by_cases h1 : 0 < v.num
  · rw [if_pos h1]
    have hp : (0 : Rat) < v := np.mp h1
    refine retG_of ?_
    by_cases hs : r.s = 1
    · rw [if_pos hs, decide_eq_true hp] at q
      exact q
    · rw [if_neg hs, decide_eq_true (Rat.le_of_lt hp)] at q
      exact q
  · rw [if_neg h1]
    have hnp : ¬ (0 : Rat) < v := fun z => h1 (np.mpr z)
    by_cases h0 : v.num = 0
    · rw [if_pos (by simpa using h0)]
      have v0 := nz.mp h0
      refine retG_of ?_
      rcases ok.s with hs | hs
      · rw [hs] at q ⊢
        rw [if_neg (by decide), v0] at q
        exact q
      · rw [hs] at q ⊢
        rw [if_pos rfl, decide_eq_false hnp] at q
        exact q
    · rw [if_neg (by simpa using h0)]
      refine retG_of ?_
      have hneg : ¬ (0 : Rat) ≤ v := fun z => by
        rcases Rat.le_iff_lt_or_eq.mp z with z | z
        · exact hnp z
        · exact h0 (nz.mpr z.symm)
      by_cases hs : r.s = 1
      · rw [if_pos hs, decide_eq_false hnp] at q
        exact q
      · rw [if_neg hs, decide_eq_false hneg] at q
        exact q
theorem pure_law_share (x y : AV) (h : AH) (R : AK) (c1 : clH h) (c2 : clBs h.length [x, y] = true) (q : sp_law_share [x, y] h R (fun _ _ => False)) : b_law_share (ends (retG h R)) [some x, some y, none, none, none] h := by
  obtain ⟨n, wide, rfl, rfl, hd, q⟩ := q
  have q : ∀ q h', sz q ≤ 51 → Drawn h n h' → retG h R (rat q) h' := fun v h' a b => retG_of (q v h' a b)
  unfold b_law_share
  get_elem_tactic_trivial
  refine ⟨n, 8, rfl, rfl, by decide, by decide, hd, fun way h1 w0 w1 d1 => ?_⟩
  get_elem_tactic_trivial
  refine ⟨n, 2, rfl, rfl, by decide, by decide, d1.at, fun s h2 s0 s1 d2 => ?_⟩
  get_elem_tactic_trivial
  refine ⟨.inl (.inl lit64.1), ?_⟩
  obtain ⟨side, hside⟩ : ∃ side, side = 1 - 2 * s := ⟨_, rfl⟩
  have hsd := side_of hside s0 s1
  rw [← hside]
  have d := d1.trans d2
  have two : ∀ {a b : Int} {h3 : AH}, isz a ≤ 50 → b ≠ 0 → isz b ≤ 50 → Drawn h n h3 → sp_law_r [.int (side * a), .int b] h3 (retG h R) (fun _ _ => False) := fun {a b h3} ha hb0 hb d3 => ⟨_, _, rfl, rfl, hb0, by rw [side_mul hsd]; omega, by omega, q _ h3 (Nat.le_trans (sz_small hb0 (by rw [side_mul hsd]; exact ha) hb) (by decide)) d3⟩
  have rest : sp_law_draw [.ref n, .int 30] h2 (fun y h2 => mulR (.int side) y h2 fun x h1 => sp_law_draw [.ref n, .int 9] h1 (fun y h2 => addR (.int 1) y h2 fun y h2 => sp_law_r [x, y] h2 (retG h R) fun _ _ => False) fun _ _ => False) fun _ _ => False := by
    refine ⟨n, 30, rfl, rfl, by decide, by decide, d2.at, fun r h3 r0 r1 d3 => ?_⟩
    get_elem_tactic_trivial
    refine ⟨side_ok hsd _, n, 9, rfl, rfl, by decide, by decide, d3.at, fun t h4 t0 t1 d4 => ?_⟩
    get_elem_tactic_trivial
    exact two (isz_of (by decide) r0 (by omega)) (by omega) (isz_of (by decide) (by omega) (by omega)) ((d.trans d3).trans d4)
  by_cases hw : way = 0
  · rw [if_pos hw]
    exact q 0 h2 (by decide) d
  rw [if_neg hw]
  by_cases hw : way = 1
  · rw [if_pos hw]
    cases wide with
    | true =>
      rw [if_pos rfl]
      refine ⟨by decide, n, _, rfl, rfl, by decide, by decide, d2.at, fun r h3 r0 r1 d3 => ?_⟩
      have r1 : r < 10 ^ 15 := r1
      get_elem_tactic_trivial
      refine ⟨side_ok hsd _, by decide, n, _, rfl, rfl, by decide, by decide, d3.at, fun t h4 t0 t1 d4 => ?_⟩
      have t1 : t < 10 ^ 15 := t1
      get_elem_tactic_trivial
      exact two (isz_of (by decide) r0 (by omega)) (by omega) (isz_of (by decide) (by omega) (by omega)) ((d.trans d3).trans d4)
    | false =>
      rw [if_neg (by simp), if_neg (by omega)]
      exact rest
  rw [if_neg hw]
  by_cases hw : way = 2
  · rw [if_pos hw]
    exact q (side : Rat) h2 (by rw [sz_int, side_sz hsd]; decide) d
  rw [if_neg hw]
  exact rest
theorem pure_law_some_form (x y : AV) (h : AH) (R : AK) (c1 : clH h) (c2 : clBs h.length [x, y] = true) (q : sp_law_some_form [x, y] h R (fun _ _ => False)) : b_law_some_form (ends (retG h R)) [some x, some y, none, none, none, none, none] h := by
  obtain ⟨n, k, rfl, rfl, hk, hd, q⟩ := q
  have hn := hd.lt
  unfold b_law_some_form
  get_elem_tactic_trivial
  refine ⟨n, 6, rfl, rfl, by decide, by decide, hd, fun way h1 w0 w1 d1 => ?_⟩
  get_elem_tactic_trivial
  rw [x_for]
  unfold iRng1T
  get_elem_tactic_trivial
  refine ⟨by omega, by omega, ?_⟩
  have hz : ((k : Int) + 1).toNat = k + 1 := by omega
  rw [hz]
  obtain ⟨E, hE⟩ : ∃ E, E = h1.length := ⟨_, rfl⟩
  have hEl : E = h.length := by rw [hE, d1.1]
  rw [← hE]
  refine ⟨fun i σ h' => ∃ a4 a5 a6 ns, σ = [some (.ref n), some (.int k), some (.int way), some (.ref E), a4, a5, a6] ∧ Grown h n h' ∧ h'[E]? = some (.lst (ns.map AV.int)) ∧ ns.length = i ∧ ∀ m ∈ ns, isz m ≤ 55, ⟨_, _, _, [], rfl, ((Grown.refl hd).draw d1).app _, by rw [hE]; exact get_l0, rfl, by simp⟩, fun i z σ h' hzz ⟨a4, a5, a6, ns, es, gr, g1, hl, hs⟩ => ?_, fun σ h' ⟨a4, a5, a6, ns, es, gr, g1, hl, hs⟩ => ?_⟩
  · subst es
    obtain ⟨hi, rfl⟩ := zr_get hzz
    unfold b_law_some_form_l1
    get_elem_tactic_trivial
    refine ⟨n, 4, rfl, rfl, by decide, by decide, gr.at, fun kind h2 k0 k1 d2 => ?_⟩
    get_elem_tactic_trivial
    refine ⟨n, 25, rfl, rfl, by decide, by decide, d2.at, fun m h3 m0 m1 d3 => ?_⟩
    get_elem_tactic_trivial
    have gr3 := (gr.draw d2).draw d3
    have g3 : h3[E]? = some (.lst (ns.map AV.int)) := by
      rw [(d2.trans d3).get (by omega)]
      exact g1
    -- append
    have fin : ∀ (v : Int) (h4 : AH) (a5 : Option AV), isz v ≤ 55 → Grown h n h4 → h4[E]? = some (.lst (ns.map AV.int)) → ∃ (a4 a5' a6 : Option AV) (ns' : List Int), [some (AV.ref n), some (.int k), some (.int way), some (.ref E), some (.int (0 + (i : Int))), a5, some (.int v)] = [some (.ref n), some (.int k), some (.int way), some (.ref E), a4, a5', a6] ∧ Grown h n (h4.set E (.lst (ns.map AV.int ++ [.int v]))) ∧ (h4.set E (.lst (ns.map AV.int ++ [.int v])))[E]? = some (.lst (ns'.map AV.int)) ∧ ns'.length = i + 1 ∧ ∀ m ∈ ns', isz m ≤ 55 := fun v h4 a5 hv g4 g5 => by
      refine ⟨_, _, _, ns ++ [v], rfl, g4.set (by omega), ?_, by simp [hl], fun m hm => ?_⟩
      · rw [set_at g5]
        simp
      · rcases List.mem_append.mp hm with hm | hm
        · exact hs m hm
        · rw [List.mem_singleton.mp hm]
          exact hv
    have len : (ns.map AV.int).length < 16777216 := by
      rw [List.length_map]
      omega
    have R1 : ∀ (v : Int) (h4 : AH) (a5 : Option AV) (D : AEnds), isz v ≤ 55 → Grown h n h4 → h4[E]? = some (.lst (ns.map AV.int)) → (D.nx [some (AV.ref n), some (.int k), some (.int way), some (.ref E), some (.int (0 + (i : Int))), a5, some (.int v)] (h4.set E (.lst (ns.map AV.int ++ [.int v])))) → b_law_some_form_r1 D [some (AV.ref n), some (.int k), some (.int way), some (.ref E), some (.int (0 + (i : Int))), a5, some (.int v)] h4 := fun v h4 a5 D hv g4 g5 dn => by
      unfold b_law_some_form_r1
      get_elem_tactic_trivial
      rw [e_isLst g5, e_append g5]
      exact ⟨trivial, len, dn⟩
    have R2 : ∀ (v : Int) (h4 : AH) (D : AEnds), isz v ≤ 55 → Grown h n h4 → h4[E]? = some (.lst (ns.map AV.int)) → (∀ w, isz w ≤ 55 → D.nx [some (AV.ref n), some (.int k), some (.int way), some (.ref E), some (.int (0 + (i : Int))), some (.int kind), some (.int w)] (h4.set E (.lst (ns.map AV.int ++ [.int w])))) → b_law_some_form_r2 D [some (AV.ref n), some (.int k), some (.int way), some (.ref E), some (.int (0 + (i : Int))), some (.int kind), some (.int v)] h4 := fun v h4 D hv g4 g5 dn => by
      have z : b_law_some_form_r1 D [some (AV.ref n), some (.int k), some (.int way), some (.ref E), some (.int (0 + (i : Int))), some (.int kind), some (.int 0)] h4 := R1 0 h4 _ D (by decide) g4 g5 (dn 0 (by decide))
      have nz := R1 v h4 (some (.int kind)) D hv g4 g5 (dn v hv)
      unfold b_law_some_form_r2
      get_elem_tactic_trivial
      split
      · exact z
      · split
        · exact z
        · split
          · split
            · exact z
            · exact nz
          · exact nz
    have R3 : ∀ (v : Int) (h4 : AH) (D : AEnds), isz v ≤ 52 → Grown h n h4 → h4[E]? = some (.lst (ns.map AV.int)) → (∀ w, isz w ≤ 55 → D.nx [some (AV.ref n), some (.int k), some (.int way), some (.ref E), some (.int (0 + (i : Int))), some (.int kind), some (.int w)] (h4.set E (.lst (ns.map AV.int ++ [.int w])))) → b_law_some_form_r3 D [some (AV.ref n), some (.int k), some (.int way), some (.ref E), some (.int (0 + (i : Int))), some (.int kind), some (.int v)] h4 := fun v h4 D hv g4 g5 dn => by
      unfold b_law_some_form_r3
      get_elem_tactic_trivial
      split
      · have m6 := isz_mul 6 v
        have e6 : isz 6 = 3 := rfl
        exact ⟨.inl (.inl ⟨by decide, by decide⟩), R2 (6 * v) h4 D (by omega) g4 g5 dn⟩
      · exact R2 v h4 D (by omega) g4 g5 dn
    have sm : isz (m - 12) ≤ 52 := isz_le (by decide) (by omega)
    split
    · split
      · split
        · refine ⟨by decide, n, _, rfl, rfl, by decide, by decide, d3.at, fun t h4 t0 t1 d4 => ?_⟩
          have t1 : t < 10 ^ 15 := t1
          have st : isz (t - 10 ^ Int.toNat 14) ≤ 52 := isz_le (by decide) (by
            have e : (10 : Int) ^ Int.toNat 14 = 100000000000000 := by decide
            rw [e]
            omega)
          get_elem_tactic_trivial
          have g4 : h4[E]? = some (.lst (ns.map AV.int)) := by
            rw [d4.get (by omega)]
            exact g3
          exact ⟨by decide, R3 _ h4 _ st (gr3.draw d4) g4 fun w hw => fin w h4 _ hw (gr3.draw d4) g4⟩
        · exact R3 (m - 12) h3 _ sm gr3 g3 fun w hw => fin w h3 _ hw gr3 g3
      · exact R3 (m - 12) h3 _ sm gr3 g3 fun w hw => fin w h3 _ hw gr3 g3
    · exact R3 (m - 12) h3 _ sm gr3 g3 fun w hw => fin w h3 _ hw gr3 g3
  · subst es
    rw [zr_len] at hl
    unfold b_law_some_form_r4
    get_elem_tactic_trivial
    refine ⟨n, 12, rfl, rfl, by decide, by decide, gr.at, fun b h2 b0 b1 d2 => ?_⟩
    get_elem_tactic_trivial
    have g2 : (h2 ++ [AO.lst [.int (1 + b)]])[E]? = some (.lst (ns.map AV.int)) := by
      refine get_old ?_
      rw [d2.get (by omega)]
      exact g1
    rw [e_add_lst get_l0 g2]
    have sb : isz (1 + b) ≤ 55 := isz_le (by decide) (by omega)
    have all : ∀ m ∈ (1 + b) :: ns, isz m ≤ 55 := fun m hm => by
      rcases List.mem_cons.mp hm with rfl | hm
      · exact sb
      · exact hs m hm
    refine ⟨by simp; omega, (1 + b) :: ns, ?_, ⟨by simp; omega, fun m hm => Nat.le_trans (all m hm) (by decide)⟩, ?_⟩
    · rw [seq_ref get_l0]
      rfl
    · dsimp only
      rw [e_tuple_lst get_l0]
      have gr4 : Grown h n (((h2 ++ [AO.lst [.int (1 + b)]]) ++ [AO.lst ([AV.int (1 + b)] ++ ns.map AV.int)]) ++ [AO.lst ((low ((1 + b) :: ns)).map AV.int)]) := (((gr.draw d2).app _).app _).app _
      have ll := low_len ((1 + b) :: ns)
      have ls := low_sz all
      obtain ⟨b', c', r', hL⟩ : ∃ b' c' r', low ((1 + b) :: ns) = b' :: c' :: r' := by
        have l2 : 2 ≤ (low ((1 + b) :: ns)).length := by
          rw [ll, List.length_cons]
          omega
        generalize low ((1 + b) :: ns) = L at l2
        match L, l2 with
        | b' :: c' :: r', _ => exact ⟨b', c', r', rfl⟩
      refine ret_grown c1 gr4 (clB_ints _ _) fun h5 d5 => ?_
      have hq := q b' c' r' h5 ⟨by rw [hL] at ll; simp at ll; omega, by rw [← hL]; exact ls⟩ d5
      rw [← hL] at hq
      exact hq
theorem wt_set : ∀ (p : List Rat) (j : Nat) (v : Rat), wt (p.set j v) ≤ wt p + sz v
  | [], j, v => by simp [wt]
  | u :: r, 0, v => by
    unfold wt
    simp only [List.set_cons_zero, List.map_cons, List.sum_cons]
    omega
  | u :: r, j + 1, v => by
    have := wt_set r j v
    unfold wt at this ⊢
    simp only [List.set_cons_succ, List.map_cons, List.sum_cons]
    omega
theorem wt_le : ∀ (p : List Rat) {B : Nat}, (∀ v ∈ p, sz v ≤ B) → wt p ≤ B * p.length
  | [], B, _ => by simp [wt]
  | u :: r, B, h => by
    have := wt_le r (B := B) fun v hv => h v (by simp [hv])
    have := h u (by simp)
    unfold wt at *
    simp only [List.map_cons, List.sum_cons, List.length_cons, Nat.mul_succ]
    omega
theorem sz_val : ∀ (ns : List Int) (p : List Rat) (t : Rat), (∀ n ∈ ns, isz n ≤ 60) → sz (val t ns p) ≤ sz t + 62 * ns.length + wt p
  | [], p, t, _ => by
    cases p <;> (show sz t ≤ _; omega)
  | n :: ns, [], t, _ => by
    show sz t ≤ _
    omega
  | n :: ns, v :: p, t, h => by
    have ih := sz_val ns p (t + (n : Rat) * v) fun m hm => h m (by simp [hm])
    have h1 := sz_add t ((n : Rat) * v)
    have h2 := sz_mul (n : Rat) v
    rw [sz_int] at h2
    have h3 := h n (by simp)
    have e : wt (v :: p) = sz v + wt p := rfl
    show sz (val _ ns p) ≤ _
    rw [e, List.length_cons]
    omega
/-- a comprehension with a test, the heap left: what holds of each item that is taken -/
theorem lcT_pick {it : ATI} {guard : AH → Prop} {g : ATG} {tt : ATT} {te : ATE} {vs : List Nat} {a : ASt} {items : List AV} {h0 h1 : AH} {R : AK} (P : AV → Prop) (hi : ∀ K, K items guard h1 → it a h0 K) (hz : items.length ≤ 1000000)
    (hg : ∀ acc, guard (h1 ++ [.lst acc])) (hs : ∀ (i : Nat) x acc (K : ASt → Bool → AH → Prop), items[i]? = some x → (∀ a2 b, (b = true → ∀ Q : AK, (∀ y, P y → Q y (h1 ++ [.lst acc])) → te a2 (h1 ++ [.lst acc]) Q) → K a2 b (h1 ++ [.lst acc])) → g x (wipeA a vs) (h1 ++ [.lst acc]) fun a2 h3 => tt a2 h3 (K a2))
    (q : ∀ ys, (∀ y ∈ ys, P y) → ys.length ≤ items.length → R (.ref h1.length) (h1 ++ [.lst ys])) : lcT it g tt te vs a h0 R := by
  refine hi _ ⟨fun i acc h => h = h1 ++ [.lst acc] ∧ (∀ y ∈ acc, P y) ∧ acc.length ≤ i, ⟨rfl, by simp, Nat.le_refl _⟩, fun i x acc h hx ⟨e, hp, hl⟩ => ?_, fun acc h ⟨e, hp, hl⟩ => ?_⟩
  · subst e
    have hlt : i < items.length := (List.getElem?_eq_some_iff.mp hx).1
    refine ⟨hg acc, hs i x acc _ hx fun a2 b hb => ?_⟩
    by_cases hbt : b = true
    · rw [if_pos hbt]
      refine hb hbt _ fun y hy => ⟨get_l0, by omega, set_l0, fun z hzz => ?_, by simp; omega⟩
      rcases List.mem_append.mp hzz with hzz | hzz
      · exact hp z hzz
      · rw [List.mem_singleton.mp hzz]
        exact hy
    · rw [if_neg hbt]
      exact ⟨rfl, hp, by omega⟩
  · subst e
    exact ⟨hg acc, get_l0, q acc hp hl⟩
theorem pure_law_points (x y z : AV) (h : AH) (R : AK) (c1 : clH h) (c2 : clBs h.length [x, y, z] = true) (q : sp_law_points [x, y, z] h R (fun _ _ => False)) : b_law_points (ends (retG h R)) [some x, some y, some z, none, none, none, none, none, none, none, none, none] h := by
  obtain ⟨n, m, k, fs, rfl, rfl, rfl, hmn, hk, hd, hm, hfl, hfs, q⟩ := q
  have hn := hd.lt
  have hmlt := get_lt hm
  unfold b_law_points
  get_elem_tactic_trivial
  refine lcT_draw (h1 := h) (n := n) (items := zrange 0 k) (guard := fun _ => True) (fun ys => ∃ p : List Rat, ys = p.map rat ∧ ∀ v ∈ p, sz v ≤ 51) hd (fun K kk => ?_) (by rw [zr_len]; omega) (fun _ _ => trivial) ⟨[], rfl, by simp⟩ (fun i x acc h3 Q hx hi ⟨p, e, hw⟩ d3 hq => ?_) (fun ys h1 ⟨p, e, hw⟩ hl d1 => ?_)
  · unfold iRng1T
    get_elem_tactic_trivial
    exact ⟨by omega, by omega, by rw [Int.toNat_natCast]; exact kk⟩
  · get_elem_tactic_trivial
    refine ⟨n, _, rfl, rfl, d3.at.app _, fun w h4 hw4 d4 => ?_⟩
    obtain ⟨h5, rfl, d5⟩ := d4.cut d3.at.lt
    refine hq _ _ ⟨p ++ [w], by simp [e], fun v hv => ?_⟩ d5
    rcases List.mem_append.mp hv with hv | hv
    · exact hw v hv
    · rw [List.mem_singleton.mp hv]
      exact hw4
  subst e
  rw [List.length_map, zr_len] at hl
  have hl1 : h1.length = h.length := d1.1
  rw [← hl1, e_tuple_lst get_l0]
  get_elem_tactic_trivial
  obtain ⟨P, hP⟩ : ∃ P, P = h.length + 1 := ⟨_, rfl⟩
  have wp : wt p ≤ 51 * 26 := Nat.le_trans (wt_le p hw) (Nat.mul_le_mul_left _ (by omega))
  have p0ok : PtOk p := ⟨by omega, show wt p ≤ 5000 by omega⟩
  rw [hl1, ← hP]
  obtain ⟨St, hSt⟩ : ∃ St : Nat → AH → Prop, St = fun i h' => ∃ ps : List (List Rat), Grown h n h' ∧ h'[m]? = some (.lst (fs.map Fm.v)) ∧ h'[P]? = some (.lst (ptsL (p :: ps))) ∧ (∀ p ∈ ps, PtOk p) ∧ ps.length ≤ 3 * i := ⟨_, rfl⟩
  have gm : ∀ {h' : AH}, Grown h n h' → h'[m]? = some (.lst (fs.map Fm.v)) := fun g => by
    rw [g.get hmlt hmn]
    exact hm
  have st0 : St 0 (h1 ++ [AO.lst (p.map rat), .lst [.tup (p.map rat)]]) := by
    rw [hSt]
    have g : Grown h n (h1 ++ [AO.lst (p.map rat), .lst [.tup (p.map rat)]]) := ((Grown.refl hd).draw d1).app _
    exact ⟨[], g, gm g, by rw [hP, ← hl1]; exact get_l1, by simp, by simp⟩
  have g0 : (h1 ++ [AO.lst (p.map rat), .lst [.tup (p.map rat)]])[m]? = some (.lst (fs.map Fm.v)) := gm (((Grown.refl hd).draw d1).app _)
  rw [x_for, x_iseq (n := m) (fun _ => rfl) g0]
  refine ⟨fun i σ h' => St i h' ∧ ∃ a4 a5 a6 a7 a8 a9 a10 a11, σ = [some (.ref n), some (.ref m), some (.int k), some (.ref P), a4, a5, a6, a7, a8, a9, a10, a11], ⟨st0, _, _, _, _, _, _, _, _, rfl⟩, fun i z σ h' hz ⟨st, a4, a5, a6, a7, a8, a9, a10, a11, es⟩ => ?_, fun σ h' ⟨st, a4, a5, a6, a7, a8, a9, a10, a11, es⟩ => ?_⟩
  · subst es
    have st' := st
    rw [hSt] at st
    obtain ⟨ps, gr, f1, f2, hps, hpl⟩ := st
    refine ⟨f1, ?_⟩
    obtain ⟨f, hf, rfl⟩ := map_get hz
    have hi := (List.getElem?_eq_some_iff.mp hf).1
    have fok := hfs f (get_mem hf)
    have flen := fok.len
    have at_ : ∀ j : Nat, j < k → ∃ s : Int, f.r[j]? = some s ∧ isz s ≤ 55 ∧ atA (AV.int f.b :: .int f.c :: f.r.map AV.int) (2 + (j : Int)) = some (.int s) := fun j hj => by
      have hj2 : j < f.r.length := by omega
      refine ⟨f.r[j], List.getElem?_eq_getElem hj2, fok.sz _ (by simp), ?_⟩
      have e : (2 + (j : Int)) = ((j + 2 : Nat) : Int) := by omega
      rw [e, atA_nat]
      show (f.r.map AV.int)[j]? = _
      rw [List.getElem?_map, List.getElem?_eq_getElem hj2]
      rfl
    unfold b_law_points_l2
    unfold Fm.v intsT
    simp only [List.map_cons]
    get_elem_tactic_trivial
    refine lcT_pick (h1 := h') (items := zrange 0 k) (guard := fun _ => True) (fun v => ∃ (j : Nat) (s : Int), v = .int j ∧ j < k ∧ f.r[j]? = some s ∧ s ≠ 0) (fun K kk => ?_) (by rw [zr_len]; omega) (fun _ => trivial) (fun j v acc K hv hK => ?_) (fun ys hys hyl => ?_)
    · unfold iRng1T
      get_elem_tactic_trivial
      exact ⟨by omega, by omega, by rw [Int.toNat_natCast]; exact kk⟩
    · obtain ⟨hj, rfl⟩ := zr_get hv
      obtain ⟨s, e1, e2, e3⟩ := at_ j hj
      rw [Int.zero_add]
      get_elem_tactic_trivial
      rw [e_ix_tup e3]
      get_elem_tactic_trivial
      refine hK _ _ fun hb Q hQ => ?_
      get_elem_tactic_trivial
      refine hQ _ ⟨j, s, rfl, hj, e1, ?_⟩
      rw [Bool.not_eq_true'] at hb
      intro z
      rw [z] at hb
      simp at hb
    · rw [e_len_lst get_l0]
      get_elem_tactic_trivial
      rw [zr_len] at hyl
      have gr2 : Grown h n (h' ++ [AO.lst ys]) := gr.app _
      by_cases h0 : ((ys.length : Nat) : Int) = 0
      · rw [if_pos h0]
        refine ⟨?_, _, _, _, _, _, _, _, _, rfl⟩
        rw [hSt]
        exact ⟨ps, gr2, gm gr2, get_old f2, hps, by omega⟩
      · rw [if_neg h0]
        have gl := gr.le
        refine ⟨n, ys, rfl, seq_ref get_l0, fun z => h0 (by rw [z]; rfl), by omega, fun z => ?_, gr2.at, fun v h2 hv d2 => ?_⟩
        · cases z
          omega
        obtain ⟨j, s, rfl, hj, es, hs0⟩ := hys v hv
        obtain ⟨s', es', ss, e3⟩ := at_ j hj
        rw [es] at es'
        cases es'
        have gr3 := gr2.draw d2
        have P2 : h2[P]? = some (.lst (ptsL (p :: ps))) := by
          rw [d2.get (by omega)]
          exact get_old f2
        get_elem_tactic_trivial
        rw [e_ix_lst P2 (v := ptV p) rfl]
        unfold ptV
        get_elem_tactic_trivial
        obtain ⟨N, hN⟩ : ∃ N, N = h2.length := ⟨_, rfl⟩
        have hNP : P < N := by
          rw [hN]
          exact get_lt P2
        have gN : (h2 ++ [AO.lst (p.map rat)])[N]? = some (.lst (p.map rat)) := by
          rw [hN]
          exact get_l0
        rw [← hN, e_set_lst gN]
        have hjp : j < p.length := by omega
        refine ⟨by simpa using hjp, ?_⟩
        have e0 : (p.map rat).set j (.tup [.int 0, .int 1]) = (p.set j 0).map rat := by
          rw [List.map_set]
          rfl
        rw [e0]
        obtain ⟨H2, hH2⟩ : ∃ H2, H2 = (h2 ++ [AO.lst (p.map rat)]).set N (.lst ((p.set j 0).map rat)) := ⟨_, rfl⟩
        have n2 : H2[N]? = some (.lst ((p.set j 0).map rat)) := by
          rw [hH2]
          exact set_at gN
        have P3 : H2[P]? = some (.lst (ptsL (p :: ps))) := by
          rw [hH2]
          exact get_set (get_old P2) (by omega)
        have gl3 := gr3.le
        have gr4 : Grown h n H2 := by
          rw [hH2]
          exact (gr3.app _).set (by omega)
        rw [← hH2]
        have w0 := wt_set p j 0
        have s00 : sz (0 : Rat) = 1 := by decide
        have rok : NsOk 60 f.r := ⟨by omega, fun a ha => Nat.le_trans (fok.sz a (by simp [ha])) (by decide)⟩
        have cok : isz f.c ≤ 60 := Nat.le_trans (fok.sz f.c (by simp)) (by decide)
        refine ⟨f.b, f.c, f.r, p.set j 0, rfl, seq_ref n2, cok, rok, ⟨by rw [List.length_set]; omega, show wt (p.set j 0) ≤ 5000 by omega⟩, ?_⟩
        get_elem_tactic_trivial
        rw [e_ix_tup e3]
        get_elem_tactic_trivial
        have sv := sz_val f.r (p.set j 0) (f.c : Rat) rok.sz
        rw [sz_int] at sv
        have sns : isz (-s) ≤ 55 := by
          rw [isz_neg]
          exact ss
        have b0 : ((-s : Int) : Rat) ≠ 0 := fun z => by
          have := Rat.intCast_eq_zero_iff.mp z
          omega
        have sd := sz_div (val (f.c : Rat) f.r (p.set j 0)) ((-s : Int) : Rat) b0
        rw [sz_int] at sd
        refine ⟨_, ((-s : Int) : Rat), rfl, rfl, b0, by rw [sz_int]; omega, ?_⟩
        obtain ⟨bo, hbo⟩ : ∃ bo, bo = val (f.c : Rat) f.r (p.set j 0) / ((-s : Int) : Rat) := ⟨_, rfl⟩
        rw [← hbo] at sd ⊢
        have sbo : sz bo ≤ 3060 := by omega
        refine ⟨by decide, n, _, rfl, rfl, by decide, by decide, gr4.at, fun t h5 t0 t1 d5 => ?_⟩
        have t1 : t < 10 ^ 12 := t1
        have stp : isz (1 + t) ≤ 40 := isz_of (by decide) (by omega) (by omega)
        get_elem_tactic_trivial
        rw [x_for]
        unfold iSeqT
        get_elem_tactic_trivial
        have gr5 := gr4.draw d5
        have n5 : h5[N]? = some (.lst ((p.set j 0).map rat)) := by
          rw [d5.get (by omega)]
          exact n2
        have P5 : h5[P]? = some (.lst (ptsL (p :: ps))) := by
          rw [d5.get (by omega)]
          exact P3
        obtain ⟨S, hS⟩ : ∃ S, S = h5.length := ⟨_, rfl⟩
        have hNS : N < S := by
          rw [hS]
          exact get_lt n5
        rw [← hS]
        obtain ⟨T5, hT5⟩ : ∃ T5 : Nat → AH → Prop, T5 = fun l h' => ∃ w ps2, Grown h n h' ∧ h'[N]? = some (.lst ((p.set j w).map rat)) ∧ h'[P]? = some (.lst (ptsL (p :: ps2))) ∧ h'[S]? = some (.lst [.int 0, .int 1, .int (-1)]) ∧ (∀ p ∈ ps2, PtOk p) ∧ ps2.length ≤ 3 * i + l := ⟨_, rfl⟩
        refine ⟨fun l σ h' => T5 l h' ∧ ∃ a5 a10 a11, σ = [some (.ref n), some (.ref m), some (.int k), some (.ref P), some (.tup (.int f.b :: .int f.c :: f.r.map AV.int)), a5, some (.int (j : Int)), some (.ref N), some (rat bo), some (.int (1 + t)), a10, a11], ⟨?_, _, _, _, rfl⟩, fun l z σ h6 hz ⟨st, a5, a10, a11, es⟩ => ?_, fun σ h6 ⟨st, a5, a10, a11, es⟩ => ?_⟩
        · rw [hT5]
          exact ⟨0, ps, gr5.app _, get_old n5, get_old P5, by rw [hS]; exact get_l0, hps, by omega⟩
        · subst es
          rw [hT5] at st
          obtain ⟨w, ps2, g6, n6, P6, S6, ok2, l2⟩ := st
          refine ⟨S6, ?_⟩
          have hl3 : l < 3 := (List.getElem?_eq_some_iff.mp hz).1
          obtain ⟨sd', rfl, hsd⟩ : ∃ sd' : Int, z = .int sd' ∧ isz sd' ≤ 1 := by
            have hz := get_mem hz
            simp only [List.mem_cons, List.not_mem_nil, or_false] at hz
            rcases hz with rfl | rfl | rfl
            · exact ⟨0, rfl, by decide⟩
            · exact ⟨1, rfl, by decide⟩
            · exact ⟨-1, rfl, by decide⟩
          have sq := sz_small (n := sd') (d := 1 + t) (k := 40) (by omega) (by omega) stp
          have sw := sz_add bo (Rat.divInt sd' (1 + t))
          unfold b_law_points_l1
          get_elem_tactic_trivial
          refine ⟨sd', 1 + t, rfl, rfl, by omega, by omega, by omega, bo, _, rfl, rfl, by omega, ?_⟩
          dsimp only
          rw [e_set_lst n6]
          have e1 : ((p.set j w).map rat).set j (rat (bo + Rat.divInt sd' (1 + t))) = (p.set j (bo + Rat.divInt sd' (1 + t))).map rat := by
            rw [List.map_set, List.map_set, List.set_set]
          rw [e1]
          refine ⟨by simpa using hjp, ?_⟩
          have P7 : (h6.set N (.lst ((p.set j (bo + Rat.divInt sd' (1 + t))).map rat)))[P]? = some (.lst (ptsL (p :: ps2))) := get_set P6 (by omega)
          rw [e_isLst P7, e_tuple_lst (set_at n6)]
          get_elem_tactic_trivial
          rw [e_append P7]
          have w1 := wt_set p j (bo + Rat.divInt sd' (1 + t))
          have ne : wt (p.set j (bo + Rat.divInt sd' (1 + t))) ≤ 5000 := by omega
          refine ⟨by unfold ptsL; simp; omega, ?_, _, _, _, rfl⟩
          rw [hT5]
          refine ⟨bo + Rat.divInt sd' (1 + t), ps2 ++ [p.set j (bo + Rat.divInt sd' (1 + t))], (g6.set (by omega)).set (by omega), get_set (set_at n6) (by omega), ?_, get_set (get_set S6 (by omega)) (by omega), fun v hv => ?_, by simp; omega⟩
          · rw [set_at P7]
            simp [ptsL, ptV]
          · rcases List.mem_append.mp hv with hv | hv
            · exact ok2 v hv
            · rw [List.mem_singleton.mp hv]
              exact ⟨by rw [List.length_set]; omega, ne⟩
        · subst es
          rw [hT5] at st
          obtain ⟨w, ps2, g6, n6, P6, S6, ok2, l2⟩ := st
          refine ⟨S6, ?_, _, _, _, _, _, _, _, _, rfl⟩
          rw [hSt]
          have l3 : ps2.length ≤ 3 * i + 3 := l2
          exact ⟨ps2, g6, gm g6, P6, ok2, by omega⟩
  · subst es
    rw [hSt] at st
    obtain ⟨ps, gr, f1, f2, hps, hpl⟩ := st
    rw [List.length_map] at hpl
    refine ⟨f1, ?_⟩
    get_elem_tactic_trivial
    obtain ⟨h8, rr, e8, d8⟩ := gr
    have hl8 : h8.length = h.length := d8.1
    subst e8
    have : P = h8.length + 1 := by omega
    subst this
    match rr, f2 with
    | [], f2 =>
      have := get_lt f2
      simp at this
      omega
    | [_], f2 =>
      have := get_lt f2
      simp at this
    | u :: v :: tl, f2 =>
      rw [get_l1] at f2
      cases f2
      refine .inr (.inr ⟨h8, [u], ptsL (p :: ps), tl, rfl, rfl, hl8, d8.cl c1, ?_, q (p :: ps) h8 (fun v hv => ?_) (by simp; omega) d8⟩)
      · have : ∀ L : List (List Rat), clBs h8.length (ptsL L) = true := fun L => by
          induction L with
          | nil => rfl
          | cons a r ih =>
            show (clB h8.length (ptV a) && clBs h8.length (ptsL r)) = true
            rw [ih, Bool.and_true]
            exact clBs_rats a
        exact this _
      · rcases List.mem_cons.mp hv with rfl | hv
        · exact p0ok
        · exact hps v hv
theorem low_ne {c : Int} {r : List Int} {B : Nat} (h : ∀ n ∈ c :: r, isz n ≤ B) : ∃ c' r', low (c :: r) = c' :: r' ∧ r'.length = r.length ∧ ∀ n ∈ c' :: r', isz n ≤ B := by
  have ll := low_len (c :: r)
  have ls := low_sz h
  match hL : low (c :: r), ll, ls with
  | [], ll, _ => cases ll
  | c' :: r', ll, ls => exact ⟨c', r', rfl, by simpa using ll, ls⟩
theorem clBs_rws (n : Nat) : ∀ rs : List Rw, clBs n (rs.map Rw.v) = true
  | [] => rfl
  | a :: r => by
    show (clB n a.v && clBs n (r.map Rw.v)) = true
    rw [clBs_rws n r, Bool.and_true]
    exact clBs_ints _
theorem map_neg_len (r : List Int) : (r.map fun n => -n).length = r.length := List.length_map ..
theorem pure_law_choice (x y : AV) (h : AH) (R : AK) (c1 : clH h) (c2 : clBs h.length [x, y] = true) (q : sp_law_choice [x, y] h R (fun _ _ => False)) : b_law_choice (ends (retG h R)) [some x, some y, none, none, none, none, none, none] h := by
  obtain ⟨n, m, fs, rfl, rfl, hmn, hd, hm, hfl, hfs, q⟩ := q
  have hn := hd.lt
  have hmlt := get_lt hm
  unfold b_law_choice
  get_elem_tactic_trivial
  have gm : ∀ {h' : AH}, Grown h n h' → h'[m]? = some (.lst (fs.map Fm.v)) := fun g => by
    rw [g.get hmlt hmn]
    exact hm
  obtain ⟨E, hE⟩ : ∃ E, E = h.length := ⟨_, rfl⟩
  have gr0 : Grown h n (h ++ [AO.lst []]) := (Grown.refl hd).app _
  rw [← hE, x_for, x_iseq (n := m) (fun _ => rfl) (gm gr0)]
  obtain ⟨St, hSt⟩ : ∃ St : Nat → AH → Prop, St = fun i h' => ∃ rs : List Rw, Grown h n h' ∧ h'[E]? = some (.lst (rs.map Rw.v)) ∧ (∀ r ∈ rs, RwOk r) ∧ rs.length ≤ i := ⟨_, rfl⟩
  refine ⟨fun i σ h' => St i h' ∧ ∃ a3 a4 a5 a6 a7, σ = [some (.ref n), some (.ref m), some (.ref E), a3, a4, a5, a6, a7], ⟨?_, _, _, _, _, _, rfl⟩, fun i z σ h' hz ⟨st, a3, a4, a5, a6, a7, es⟩ => ?_, fun σ h' ⟨st, a3, a4, a5, a6, a7, es⟩ => ?_⟩
  · rw [hSt]
    exact ⟨[], gr0, by rw [hE]; exact get_l0, by simp, by simp⟩
  · subst es
    rw [hSt] at st
    obtain ⟨rs, gr, g1, rok, rl⟩ := st
    refine ⟨gm gr, ?_⟩
    obtain ⟨f, hf, rfl⟩ := map_get hz
    have hi := (List.getElem?_eq_some_iff.mp hf).1
    have fok := hfs f (get_mem hf)
    have flen := fok.len
    simp only [List.length_cons] at flen
    unfold b_law_choice_l1
    get_elem_tactic_trivial
    refine ⟨n, 5, rfl, rfl, by decide, by decide, gr.at, fun way h2 w0 w1 d2 => ?_⟩
    get_elem_tactic_trivial
    refine ⟨n, 2, rfl, rfl, by decide, by decide, d2.at, fun s h3 s0 s1 d3 => ?_⟩
    unfold Fm.v
    rw [lens]
    get_elem_tactic_trivial
    rw [cut1]
    refine ⟨f.c :: f.r, rfl, ⟨by simp; omega, fun a ha => Nat.le_trans (fok.sz a (List.mem_cons_of_mem _ ha)) (by decide)⟩, ?_⟩
    obtain ⟨c', r', eL, rl', rs'⟩ := low_ne (c := f.c) (r := f.r) (B := 55) (fun a ha => fok.sz a (List.mem_cons_of_mem _ ha))
    rw [eL]
    have gr3 := (gr.draw d2).draw d3
    have g3 : h3[E]? = some (.lst (rs.map Rw.v)) := by
      have := gr.le
      have := get_lt g1
      rw [(d2.trans d3).get (by omega)]
      exact g1
    -- the row's end
    have fin : ∀ (L : List Int) (k : Nat) (h4 : AH) (a3 a7 : Option AV) (D : AEnds) (c' : Int) (r' : List Int), L = c' :: r' → r'.length = f.r.length → (∀ n ∈ c' :: r', isz n ≤ 55) → Grown h n h4 → h4[E]? = some (.lst (rs.map Rw.v)) → h4[k]? = some (.lst (L.map AV.int)) → (∀ a3 a4 a5 a6 a7 h5, St (i + 1) h5 → D.nx [some (.ref n), some (.ref m), some (.ref E), a3, a4, a5, a6, a7] h5) → b_law_choice_r1 D [some (.ref n), some (.ref m), some (.ref E), a3, some (.int way), some (.int s), some (.ref k), a7] h4 := fun L k h4 a3 a7 D c' r' hL hl hs g4 g5 g6 dn => by
      unfold b_law_choice_r1
      get_elem_tactic_trivial
      by_cases hw : 0 < way
      · rw [if_pos hw, e_isLst g5, e_tuple_lst g6]
        get_elem_tactic_trivial
        rw [e_append g5]
        refine ⟨by rw [hL]; simp; omega, by rw [List.length_map]; omega, dn _ _ _ _ _ _ ?_⟩
        rw [hSt]
        refine ⟨rs ++ [⟨s, c', r'⟩], g4.set (by omega), ?_, fun r hr => ?_, by simp; omega⟩
        · rw [set_at g5, hL]
          simp [Rw.v, intsT]
        · rcases List.mem_append.mp hr with hr | hr
          · exact rok r hr
          · rw [List.mem_singleton.mp hr]
            exact ⟨by show s = 0 ∨ s = 1; omega, Nat.le_trans (hs c' (by simp)) (by decide), by show r'.length ≤ 30; omega, fun a ha => Nat.le_trans (hs a (by simp [ha])) (by decide)⟩
      · rw [if_neg hw]
        refine dn _ _ _ _ _ _ ?_
        rw [hSt]
        exact ⟨rs, g4, g5, rok, by omega⟩
    by_cases hw : way = 4
    · rw [if_pos hw]
      refine lcT_seq (xs := (c' :: r').map AV.int) (fun _ => rfl) (seq_ref get_l0) (ys := ((c' :: r').map fun n => -n).map AV.int) (by simp) (by simp; omega) (fun j z y acc Q hz hy hq => ?_) ?_
      · obtain ⟨a, ha, rfl⟩ := map_get hz
        obtain ⟨b, hb, rfl⟩ := map_get hy
        obtain ⟨a2, ha2, rfl⟩ := map_get hb
        rw [ha] at ha2
        cases ha2
        get_elem_tactic_trivial
        rw [app_l] at hq
        exact hq
      · get_elem_tactic_trivial
        refine fin _ _ _ _ _ _ (-c') (r'.map fun n => -n) rfl (by rw [map_neg_len, rl']) (fun a ha => ?_) (gr3.app _) (get_old g3) get_l1 fun a3 a4 a5 a6 a7 h5 st => ⟨st, _, _, _, _, _, rfl⟩
        have ha : a ∈ (c' :: r').map fun n => -n := ha
        obtain ⟨b, hb, rfl⟩ := List.mem_map.mp ha
        rw [isz_neg]
        exact rs' b hb
    · rw [if_neg hw]
      exact fin _ _ _ _ _ _ c' r' rfl rl' rs' (gr3.app _) (get_old g3) get_l0 fun a3 a4 a5 a6 a7 h5 st => ⟨st, _, _, _, _, _, rfl⟩
  · subst es
    rw [hSt] at st
    obtain ⟨rs, gr, g1, rok, rl⟩ := st
    rw [List.length_map] at rl
    refine ⟨gm gr, ?_⟩
    get_elem_tactic_trivial
    obtain ⟨h8, rr, e8, d8⟩ := gr
    have hl8 : h8.length = h.length := d8.1
    subst e8
    have : E = h8.length := by omega
    subst this
    match rr, g1 with
    | [], g1 =>
      have := get_lt g1
      simp at this
    | u :: tl, g1 =>
      rw [get_l0] at g1
      cases g1
      refine .inr (.inr ⟨h8, [], rs.map Rw.v, tl, rfl, rfl, hl8, d8.cl c1, ?_, q rs h8 rok (by omega) d8⟩)
      exact clBs_rws _ rs
/-! ### a row is asked -/
theorem dat_ints (n : Nat) {ns : List Int} (h : ns.length ≤ 1000000) : dat (n + 2) (intsT ns) = true := by
  show (decide ((ns.map AV.int).length ≤ 1000000) && (ns.map AV.int).all (dat (n + 1))) = true
  rw [List.length_map, decide_eq_true h, Bool.true_and, List.all_eq_true]
  intro x hx
  obtain ⟨i, _, rfl⟩ := List.mem_map.mp hx
  rfl
theorem val_neg : ∀ (ns : List Int) (p : List Rat) (t : Rat), val (-t) (ns.map fun n => -n) p = -val t ns p
  | [], p, t => by cases p <;> rfl
  | n :: ns, [], t => rfl
  | n :: ns, v :: p, t => by
    have ih := val_neg ns p (t + (n : Rat) * v)
    show val (-t + ((-n : Int) : Rat) * v) (ns.map fun n => -n) p = -val (t + (n : Rat) * v) ns p
    rw [← ih]
    congr 1
    rw [Rat.intCast_neg]
    grind
theorem holds_neg {r : Rw} (hs : r.s = 0 ∨ r.s = 1) (p : List Rat) : holdsB ⟨1 - r.s, -r.c, r.r.map fun n => -n⟩ p = !holdsB r p := by
  unfold holdsB
  have e : val (((-r.c : Int)) : Rat) (r.r.map fun n => -n) p = -val (r.c : Rat) r.r p := by
    rw [Rat.intCast_neg]
    exact val_neg _ _ _
  simp only [e]
  generalize val (r.c : Rat) r.r p = v
  have n1 : (0 < -v) ↔ ¬ (0 ≤ v) := by
    rw [Rat.not_le]
    constructor
    · intro z
      have := Rat.neg_lt_neg z
      rwa [Rat.neg_neg, Rat.neg_zero] at this
    · intro z
      have := Rat.neg_lt_neg z
      rwa [Rat.neg_zero] at this
  have n2 : (0 ≤ -v) ↔ ¬ (0 < v) := by
    rw [Rat.not_lt]
    constructor
    · intro z
      have := Rat.neg_le_neg z
      rwa [Rat.neg_neg, Rat.neg_zero] at this
    · intro z
      have := Rat.neg_le_neg z
      rwa [Rat.neg_zero] at this
  rcases hs with hs | hs
  · rw [hs, if_pos (by decide), if_neg (by decide), decide_eq_decide.mpr n1, decide_not]
  · rw [hs, if_neg (by decide), if_pos rfl, decide_eq_decide.mpr n2, decide_not]
/-- a row of ints made anew, item for item -/
theorem lcT_ints {te el : ATE} {vs : List Nat} {a : ASt} {h : AH} {R : AK} {ns : List Int} {k : Nat} (f : Int → Int) (he : ∀ Q : AK, te a h Q = Q (.tup (ns.map AV.int)) h) (hz : ns.length ≤ 1000000)
    (hs : ∀ n acc (Q : AK), Q (.int (f n)) (h ++ [.lst acc]) → el (sv (wipeA a vs) k (some (.int n))) (h ++ [.lst acc]) Q) (q : R (.ref h.length) (h ++ [.lst ((ns.map f).map AV.int)])) : lcT (iSeqT te) (gNameT k) yesT el vs a h R := by
  refine lcT_seq (xs := ns.map AV.int) he rfl (ys := (ns.map f).map AV.int) (by simp) (by rw [List.length_map]; exact hz) (fun j z y acc Q hz hy hq => ?_) q
  obtain ⟨b, hb, rfl⟩ := map_get hz
  obtain ⟨w, hw, rfl⟩ := map_get hy
  obtain ⟨b2, hb2, rfl⟩ := map_get hw
  rw [hb] at hb2
  cases hb2
  exact hs b acc Q hq
theorem asked_loop {f : Fm} {fa : Rat} {r : Rw} {m : Nat} {ps : List (List Rat)} {h h' : AH} {R : AK} {side : Int} {x7 x8 x9 x10 : Option AV} {z2 : AV} (c1 : clH h) (ex : Ext h h') (hm : h'[m]? = some (.lst (ptsL ps))) (hps : ∀ p ∈ ps, PtOk p) (rok : RwOk r) (q : R (.bl true) h) :
    forT (iSeqT (varT 3)) (gNameT 8) b_law_row_asked_l1 { nx := retT (cT (.bl true)) (ends (retG h R)), rt := retG h R, bk := (ends (retG h R)).bk, ct := (ends (retG h R)).ct } [some f.v, some (rat fa), some z2, some (.ref m), some r.v, some (Rw.v ⟨1 - r.s, -r.c, r.r.map fun n => -n⟩), some (.int side), x7, x8, x9, x10] h' := by
  rw [x_for, x_iseq (n := m) (fun _ => rfl) hm]
  refine ⟨fun i σ h2 => h2 = h' ∧ ∃ x8 x9, σ = [some f.v, some (rat fa), some z2, some (.ref m), some r.v, some (Rw.v ⟨1 - r.s, -r.c, r.r.map fun n => -n⟩), some (.int side), x7, x8, x9, x10], ⟨rfl, _, _, rfl⟩, fun i z σ h2 hz ⟨eh, x8, x9, es⟩ => ⟨by rw [eh]; exact hm, ?_⟩, fun σ h2 ⟨eh, x8, x9, es⟩ => ⟨by rw [eh]; exact hm, ?_⟩⟩
  · subst eh es
    obtain ⟨p, hp, rfl⟩ := map_get hz
    have pk := hps p (get_mem hp)
    have nok : RwOk ⟨1 - r.s, -r.c, r.r.map fun n => -n⟩ := by
      refine ⟨?_, ?_, ⟨?_, fun a ha => ?_⟩⟩
      · have := rok.s
        show 1 - r.s = 0 ∨ 1 - r.s = 1
        omega
      · show isz (-r.c) ≤ 60
        rw [isz_neg]
        exact rok.c
      · show (r.r.map fun n => -n).length ≤ 30
        rw [List.length_map]
        exact rok.r.len
      · have ha : a ∈ r.r.map fun n => -n := ha
        obtain ⟨b, hb, rfl⟩ := List.mem_map.mp ha
        rw [isz_neg]
        exact rok.r.sz b hb
    unfold b_law_row_asked_l1
    get_elem_tactic_trivial
    refine ⟨r, p, rfl, rfl, rok, pk, ?_⟩
    get_elem_tactic_trivial
    refine ⟨r, p, rfl, rfl, rok, pk, rfl, rfl, ?_⟩
    get_elem_tactic_trivial
    refine ⟨_, p, rfl, rfl, nok, pk, ?_⟩
    get_elem_tactic_trivial
    refine ⟨congrArg AV.bl (holds_neg rok.s p), rfl, ?_⟩
    get_elem_tactic_trivial
    exact ⟨_, _, rfl⟩
  · subst eh es
    get_elem_tactic_trivial
    exact ret_ext c1 ex rfl q
theorem asked_r {f : Fm} {fa : Rat} {s : Int} {m : Nat} {ps : List (List Rat)} {h h' : AH} {R : AK} {side c' : Int} {r' L : List Int} {x7 x8 x9 x10 : Option AV} (c1 : clH h) (ex : Ext h h') (hm : h'[m]? = some (.lst (ptsL ps))) (hps : ∀ p ∈ ps, PtOk p) (ok : NsOk 55 (f.b :: f.c :: f.r)) (hfa : fa.num ≠ 0) (hfs : sz fa ≤ 60)
    (hL : L = low (f.c :: f.r)) (eL : L = c' :: r') (rok : RwOk ⟨s, c', r'⟩) (hside : side = sgn fa.num) (q : R (.bl true) h) :
    b_law_row_asked_r1 (ends (retG h R)) [some f.v, some (rat fa), some (.int s), some (.ref m), some (intsT (s :: L)), some (intsT ((1 - s) :: L.map fun n => -n)), some (.int side), x7, x8, x9, x10] h' := by
  have hl := ok.len
  simp only [List.length_cons] at hl
  have fn := sz_num fa
  have lowlen : L.length ≤ 30 := by
    rw [hL, low_len, List.length_cons]
    omega
  unfold b_law_row_asked_r1
  rw [lens]
  get_elem_tactic_trivial
  refine lcT_ints (ns := L) (fun n => side * n) (fun Q => by get_elem_tactic_trivial; rw [cut1]) (by omega) (fun n acc Q hq => by
    get_elem_tactic_trivial
    refine ⟨?_, hq⟩
    rw [hside]
    unfold sgn
    split
    · exact .inl (.inl ⟨by decide, by decide⟩)
    · exact .inl (.inl ⟨by decide, by decide⟩)) ?_
  rw [e_tuple_lst get_l0]
  get_elem_tactic_trivial
  refine ⟨by simp; omega, f.b, f.c :: f.r, fa, rfl, rfl, hfa, hfs, ⟨by simp; omega, fun a ha => Nat.le_trans (ok.sz a ha) (by decide)⟩, ?_⟩
  obtain ⟨T, hT⟩ : ∃ T, T = low (f.b * (fa.den : Int) :: (f.c :: f.r).map (· * fa.num)) := ⟨_, rfl⟩
  have tl := low_tail (f.b * (fa.den : Int)) ((f.c :: f.r).map (· * fa.num))
  have tlen := low_len (f.b * (fa.den : Int) :: (f.c :: f.r).map (· * fa.num))
  have tsz : ∀ a ∈ T, isz a ≤ 200 := by
    rw [hT]
    refine low_sz fun a ha => ?_
    rcases List.mem_cons.mp ha with rfl | ha
    · have := isz_mul f.b (fa.den : Int)
      have := ok.sz f.b (by simp)
      have := sz_den fa
      omega
    · obtain ⟨b, hb, rfl⟩ := List.mem_map.mp ha
      have := isz_mul b fa.num
      have := ok.sz b (List.mem_cons_of_mem _ hb)
      omega
  rw [← hT] at tl tlen
  rw [show low (f.b * (fa.den : Int) :: List.map (fun x => x * fa.num) (f.c :: f.r)) = T from hT.symm]
  match T, tl, tlen, tsz with
  | [], _, tlen, _ => cases tlen
  | t0 :: tr, tl, tlen, tsz =>
    have trl : tr.length ≤ 30 := by
      simp only [List.length_cons, List.length_map] at tlen
      omega
    have tl : low tr = low ((f.c :: f.r).map (· * fa.num)) := tl
    have e2 : low tr = L.map fun n => side * n := by
      rw [tl, low_mul hfa, hL, hside]
    refine ⟨t0, s, tr, rfl, rfl, ⟨trl, fun a ha => Nat.le_trans (tsz a (by simp [ha])) (by decide)⟩, ?_⟩
    have e3 : intsT (s :: low tr) = .tup (.int s :: (L.map fun n => side * n).map AV.int) := by
      rw [e2]
      rfl
    refine ⟨e3, dat_ints 6 (by rw [List.length_cons, e2, List.length_map]; omega), ?_⟩
    get_elem_tactic_trivial
    subst eL
    exact asked_loop (r := ⟨s, c', r'⟩) c1 (ex.app _) (get_old hm) hps rok q
theorem pure_law_row_asked (x y z u : AV) (h : AH) (R : AK) (c1 : clH h) (c2 : clBs h.length [x, y, z, u] = true) (q : sp_law_row_asked [x, y, z, u] h R (fun _ _ => False)) : b_law_row_asked (ends (retG h R)) [some x, some y, some z, some u, none, none, none, none, none, none, none] h := by
  obtain ⟨f, fa, s, m, ps, rfl, rfl, rfl, rfl, hs, hfa, hfs, ok, hm, hps, q⟩ := q
  have hmlt := get_lt hm
  have hl := ok.len
  simp only [List.length_cons] at hl
  obtain ⟨c', r', eL, rl', rs'⟩ := low_ne (c := f.c) (r := f.r) (B := 55) (fun a ha => ok.sz a (List.mem_cons_of_mem _ ha))
  have lowlen : (low (f.c :: f.r)).length ≤ 30 := by
    rw [low_len, List.length_cons]
    omega
  unfold b_law_row_asked Fm.v
  rw [lens]
  get_elem_tactic_trivial
  rw [cut1]
  refine ⟨f.c :: f.r, rfl, ⟨by simp; omega, fun a ha => Nat.le_trans (ok.sz a (List.mem_cons_of_mem _ ha)) (by decide)⟩, ?_⟩
  dsimp only
  rw [e_tuple_lst get_l0]
  get_elem_tactic_trivial
  obtain ⟨L, hL⟩ : ∃ L, L = low (f.c :: f.r) := ⟨_, rfl⟩
  rw [← hL] at eL lowlen ⊢
  refine ⟨by simp; omega, ?_⟩
  obtain ⟨H1, hH1⟩ : ∃ H1, H1 = h ++ [AO.lst (L.map AV.int)] := ⟨_, rfl⟩
  rw [← hH1]
  refine lcT_ints (ns := L) (fun n => -n) (fun Q => by get_elem_tactic_trivial; rw [cut1]) (by omega) (fun n acc Q hq => by get_elem_tactic_trivial; exact hq) ?_
  rw [e_tuple_lst get_l0]
  get_elem_tactic_trivial
  refine ⟨by simp; omega, ?_⟩
  have e1 : ∀ (a : Int) (M : List Int), AV.tup (.int a :: M.map AV.int) = intsT (a :: M) := fun a M => rfl
  rw [e1, e1, e1]
  have d8 : ∀ (a : Int) {M : List Int}, M.length ≤ 30 → dat 8 (intsT (a :: M)) = true := fun a M hM => dat_ints 6 (by simp; omega)
  have nl : (L.map fun n => -n).length ≤ 30 := by
    rw [List.length_map]
    exact lowlen
  refine ⟨f.b, s, f.c :: f.r, rfl, rfl, ⟨by simp; omega, fun a ha => Nat.le_trans (ok.sz a (List.mem_cons_of_mem _ ha)) (by decide)⟩, ?_⟩
  refine ⟨by rw [← hL], by rw [← hL]; exact d8 s lowlen, ?_⟩
  get_elem_tactic_trivial
  refine ⟨s, L, rfl, by omega, rfl, d8 _ nl, ?_⟩
  get_elem_tactic_trivial
  refine ⟨s, L, rfl, by omega, 1 - s, L.map fun n => -n, rfl, by omega, ?_⟩
  have tw : intsT ((1 - (1 - s)) :: (L.map fun n => -n).map fun n => -n) = intsT (s :: L) := by
    congr 1
    rw [List.map_map]
    congr 1
    · omega
    · conv => rhs; rw [← List.map_id L]
      apply List.map_congr_left
      intro a _
      exact Int.neg_neg a
  refine ⟨tw, by rw [tw]; exact d8 s lowlen, ?_⟩
  get_elem_tactic_trivial
  have g2 : ∀ r, (h ++ r)[m]? = some (.lst (ptsL ps)) := fun r => get_old hm
  have go : ∀ side, side = sgn fa.num → b_law_row_asked_r1 (ends (retG h R)) [some f.v, some (rat fa), some (.int s), some (.ref m), some (intsT (s :: L)), some (intsT ((1 - s) :: L.map fun n => -n)), some (.int side), none, none, none, none] (H1 ++ [AO.lst ((L.map fun n => -n).map AV.int)]) := fun side hside =>
    asked_r c1 (by rw [hH1]; exact (Ext.refl.app _).app _) (by rw [hH1, app_l]; exact g2 _) hps ok hfa hfs hL (eL.trans rfl) ⟨hs, Nat.le_trans (rs' c' (by simp)) (by decide), by show r'.length ≤ 30; omega, fun a ha => Nat.le_trans (rs' a (by simp [ha])) (by decide)⟩ hside q
  simp only [rat] at go ⊢
  get_elem_tactic_trivial
  by_cases hp : 0 < fa.num
  · rw [if_pos hp]
    exact go 1 (by unfold sgn; rw [if_pos hp])
  · rw [if_neg hp]
    exact go (-1) (by unfold sgn; rw [if_neg hp])
/-! ### the law -/
theorem law_r2 {n k : Nat} {h h' : AH} {R : AK} {x0 : AV} {x3 x4 x5 x6 x7 x8 x9 x10 x11 x12 : Option AV} (hk : k ≤ 26) (hd : DrawAt h' n) (q : ∀ h', R (.bl true) h') : b_law_r2 (ends (retG h R)) [some x0, some (.ref n), some (.int (k : Int)), x3, x4, x5, x6, x7, x8, x9, x10, x11, x12] h' := by
  have hn := hd.lt
  unfold b_law_r2
  get_elem_tactic_trivial
  rw [x_lcT]
  unfold iRng1T
  get_elem_tactic_trivial
  refine ⟨n, 4, rfl, rfl, by decide, by decide, hd, fun r h1 r0 r1 d1 => ?_⟩
  get_elem_tactic_trivial
  refine ⟨by omega, by omega, ?_⟩
  refine lcT_draw (h1 := h1) (n := n) (items := zrange 0 (1 + r).toNat) (guard := fun _ => True) (fun ys => ∃ fs : List Fm, ys = fs.map Fm.v ∧ ∀ f ∈ fs, FmOk k f.b f.c f.r) d1.at (fun K kk => kk) (by rw [zr_len]; omega) (fun _ _ => trivial) ⟨[], rfl, by simp⟩ (fun i x acc h3 Q hx hi ⟨fs, e, hw⟩ d3 hq => ?_) (fun ys h2 ⟨fs, e, hfs⟩ hl d2 => ?_)
  · get_elem_tactic_trivial
    refine ⟨n, k, rfl, rfl, hk, d3.at.app _, fun b c rr h4 ok d4 => ?_⟩
    obtain ⟨h5, rfl, d5⟩ := d4.cut d3.at.lt
    refine hq _ _ ⟨fs ++ [⟨b, c, rr⟩], by simp [e, Fm.v], fun f hf => ?_⟩ d5
    rcases List.mem_append.mp hf with hf | hf
    · exact hw f hf
    · rw [List.mem_singleton.mp hf]
      exact ok
  subst e
  rw [List.length_map, zr_len] at hl
  have hl2 : h2.length = h1.length := d2.1
  have hn1 : n < h1.length := d1.at.lt
  obtain ⟨F, hF⟩ : ∃ F, F = h1.length := ⟨_, rfl⟩
  have gF : (h2 ++ [AO.lst (fs.map Fm.v)])[F]? = some (.lst (fs.map Fm.v)) := by
    rw [hF, ← hl2]
    exact get_l0
  rw [← hF]
  refine ⟨n, F, k, fs, rfl, rfl, rfl, by omega, hk, d2.at.app _, gF, by omega, hfs, fun ps h3 hps hpl d3 => ?_⟩
  have g3 : h3[F]? = some (.lst (fs.map Fm.v)) := by
    rw [d3.get (by omega)]
    exact gF
  have hl3 : h3.length = h2.length + 1 := by
    rw [d3.1, List.length_append]
    rfl
  get_elem_tactic_trivial
  obtain ⟨P, hP⟩ : ∃ P, P = h3.length := ⟨_, rfl⟩
  have gP : (h3 ++ [AO.lst (ptsL ps)])[P]? = some (.lst (ptsL ps)) := by
    rw [hP]
    exact get_l0
  rw [← hP]
  obtain ⟨St, hSt⟩ : ∃ St : AH → Prop, St = fun h' => DrawAt h' n ∧ h'[F]? = some (.lst (fs.map Fm.v)) ∧ h'[P]? = some (.lst (ptsL ps)) := ⟨_, rfl⟩
  have st0 : St (h3 ++ [AO.lst (ptsL ps)]) := by
    rw [hSt]
    exact ⟨d3.at.app _, get_old g3, gP⟩
  have stD : ∀ {h' h'' : AH}, St h' → Drawn h' n h'' → St h'' := fun st d => by
    rw [hSt] at st ⊢
    exact ⟨d.at, by rw [d.get (by omega)]; exact st.2.1, by rw [d.get (by omega)]; exact st.2.2⟩
  have stA : ∀ {h' : AH} (r : AH), St h' → St (h' ++ r) := fun r st => by
    rw [hSt] at st ⊢
    exact ⟨st.1.app r, get_old st.2.1, get_old st.2.2⟩
  have sF : ∀ {h' : AH}, St h' → h'[F]? = some (.lst (fs.map Fm.v)) := fun st => by
    rw [hSt] at st
    exact st.2.1
  have sP : ∀ {h' : AH}, St h' → h'[P]? = some (.lst (ptsL ps)) := fun st => by
    rw [hSt] at st
    exact st.2.2
  have sD : ∀ {h' : AH}, St h' → DrawAt h' n := fun st => by
    rw [hSt] at st
    exact st.1
  have fmN : ∀ f ∈ fs, NsOk 55 (f.b :: f.c :: f.r) := fun f hf => ⟨by have := (hfs f hf).len; simp only [List.length_cons]; omega, (hfs f hf).sz⟩
  rw [x_for, x_iseq (n := F) (fun _ => rfl) (sF st0)]
  refine ⟨fun i σ h' => St h' ∧ ∃ a5 a6 a7 a8 a9 a10 a11 a12, σ = [some x0, some (.ref n), some (.int (k : Int)), some (.ref F), some (.ref P), a5, a6, a7, a8, a9, a10, a11, a12], ⟨st0, _, _, _, _, _, _, _, _, rfl⟩, fun i z σ h' hz ⟨st, a5, a6, a7, a8, a9, a10, a11, a12, es⟩ => ⟨sF st, ?_⟩, fun σ h' ⟨st, a5, a6, a7, a8, a9, a10, a11, a12, es⟩ => ⟨sF st, ?_⟩⟩
  · subst es
    obtain ⟨f, hf, rfl⟩ := map_get hz
    unfold b_law_l2
    get_elem_tactic_trivial
    refine ⟨n, 30, rfl, rfl, by decide, by decide, sD st, fun u h4 u0 u1 d4 => ?_⟩
    get_elem_tactic_trivial
    refine ⟨n, 2, rfl, rfl, by decide, by decide, d4.at, fun v h5 v0 v1 d5 => ?_⟩
    get_elem_tactic_trivial
    refine ⟨.inl (.inl lit64.1), .inl (.inl ⟨by omega, by omega⟩), n, 9, rfl, rfl, by decide, by decide, d5.at, fun w h6 w0 w1 d6 => ?_⟩
    get_elem_tactic_trivial
    obtain ⟨a, ha⟩ : ∃ a, a = (1 + u) * (1 - 2 * v) := ⟨_, rfl⟩
    have a0 : a ≠ 0 ∧ isz a ≤ 50 := by
      have e : v = 0 ∨ v = 1 := by omega
      rcases e with rfl | rfl
      · have : a = 1 + u := by rw [ha]; omega
        exact ⟨by omega, isz_le (by decide) (by omega)⟩
      · have : a = -(1 + u) := by rw [ha]; omega
        exact ⟨by omega, isz_le (by decide) (by omega)⟩
    rw [← ha]
    have sw : isz (1 + w) ≤ 50 := isz_le (by decide) (by omega)
    refine ⟨a, 1 + w, rfl, rfl, by omega, by omega, by omega, ?_⟩
    obtain ⟨fa, hfa⟩ : ∃ fa, fa = Rat.divInt a (1 + w) := ⟨_, rfl⟩
    have fz : fa.num ≠ 0 := fun z => by
      rw [hfa, (divInt_parts (n := a) (d := 1 + w) (by omega)).1] at z
      have dv : ((a.natAbs.gcd (1 + w).natAbs : Nat) : Int) ∣ a := Int.ofNat_dvd_left.mpr (Nat.gcd_dvd_left _ _)
      have e := Int.ediv_mul_cancel dv
      rw [z, Int.zero_mul] at e
      exact a0.1 e.symm
    have fs' : sz fa ≤ 60 := by
      rw [hfa]
      exact Nat.le_trans (sz_small (by omega) a0.2 sw) (by decide)
    rw [← hfa]
    have st6 : St h6 := stD (stD (stD st d4) d5) d6
    rw [x_for]
    unfold iSeqT
    get_elem_tactic_trivial
    obtain ⟨S, hS⟩ : ∃ S, S = h6.length := ⟨_, rfl⟩
    rw [← hS]
    refine ⟨fun j σ h7 => h7 = h6 ++ [AO.lst [.int 0, .int 1]] ∧ ∃ a7 a8 a9 a10 a11 a12, σ = [some x0, some (.ref n), some (.int (k : Int)), some (.ref F), some (.ref P), some f.v, some (rat fa), a7, a8, a9, a10, a11, a12], ⟨rfl, _, _, _, _, _, _, rfl⟩, fun j z σ h7 hz ⟨eh, a7, a8, a9, a10, a11, a12, es⟩ => ?_, fun σ h7 ⟨eh, a7, a8, a9, a10, a11, a12, es⟩ => ?_⟩
    · subst eh es
      refine ⟨by rw [hS]; exact get_l0, ?_⟩
      obtain ⟨s, rfl, hs⟩ : ∃ s : Int, z = .int s ∧ (s = 0 ∨ s = 1) := by
        have hz := get_mem hz
        simp only [List.mem_cons, List.not_mem_nil, or_false] at hz
        rcases hz with rfl | rfl
        · exact ⟨0, rfl, .inl rfl⟩
        · exact ⟨1, rfl, .inr rfl⟩
      unfold b_law_l1
      get_elem_tactic_trivial
      refine ⟨f, fa, s, P, ps, rfl, rfl, rfl, rfl, hs, fz, fs', fmN f (get_mem hf), sP (stA _ st6), hps, ?_⟩
      get_elem_tactic_trivial
      exact ⟨_, _, _, _, _, _, rfl⟩
    · subst eh es
      exact ⟨by rw [hS]; exact get_l0, stA _ st6, _, _, _, _, _, _, _, _, rfl⟩
  · subst es
    unfold b_law_r1
    get_elem_tactic_trivial
    refine ⟨n, F, fs, rfl, rfl, by omega, sD st, sF st, by omega, fmN, fun rs h8 rok rl d8 => ?_⟩
    get_elem_tactic_trivial
    have st8 := stD st d8
    obtain ⟨W, hW⟩ : ∃ W, W = h8.length := ⟨_, rfl⟩
    obtain ⟨H8, hH8⟩ : ∃ H8, H8 = h8 ++ [AO.lst (rs.map Rw.v)] := ⟨_, rfl⟩
    have gW : ∀ r, (H8 ++ r)[W]? = some (.lst (rs.map Rw.v)) := fun r => get_old (by rw [hH8, hW]; exact get_l0)
    have st9 : St H8 := by
      rw [hH8]
      exact stA _ st8
    rw [← hW, ← hH8, x_for, x_iseq (n := P) (fun _ => rfl) (sP st9)]
    refine ⟨fun i σ h9 => (∃ r, h9 = H8 ++ r) ∧ ∃ a9 a10 a11 a12 a5 a6 a7, σ = [some x0, some (.ref n), some (.int (k : Int)), some (.ref F), some (.ref P), a5, a6, a7, some (.ref W), a9, a10, a11, a12], ⟨⟨[], (List.append_nil _).symm⟩, _, _, _, _, _, _, _, rfl⟩, fun i z σ h9 hz ⟨⟨rr, eh⟩, a9, a10, a11, a12, a5, a6, a7, es⟩ => ?_, fun σ h9 ⟨⟨rr, eh⟩, a9, a10, a11, a12, a5, a6, a7, es⟩ => ?_⟩
    · subst eh es
      refine ⟨get_old (sP st9), ?_⟩
      obtain ⟨p, hp, rfl⟩ := map_get hz
      have pk := hps p (get_mem hp)
      unfold b_law_l3
      get_elem_tactic_trivial
      refine lcT_seq (xs := rs.map Rw.v) (fun _ => rfl) (seq_ref (gW rr)) (ys := (rs.map fun r => holdsB r p).map AV.bl) (by simp) (by rw [List.length_map]; omega) (fun j z y acc Q hz hy hq => ?_) ?_
      · obtain ⟨r, hr, rfl⟩ := map_get hz
        obtain ⟨w, hw, rfl⟩ := map_get hy
        obtain ⟨r2, hr2, rfl⟩ := map_get hw
        rw [hr] at hr2
        cases hr2
        get_elem_tactic_trivial
        rw [app_l] at hq
        exact ⟨r, p, rfl, rfl, rok r (get_mem hr), pk, hq⟩
      · rw [e_all get_l0]
        get_elem_tactic_trivial
        have e : (rs.map fun r => holdsB r p).all id = rs.all fun r => holdsB r p := by
          rw [List.all_map]
          rfl
        rw [e, e_tuple_lst (gW _)]
        refine ⟨rs, p, rfl, rfl, rok, pk, rfl, rfl, ?_⟩
        get_elem_tactic_trivial
        refine ⟨[], p, rfl, rfl, by simp, pk, rfl, rfl, ?_⟩
        get_elem_tactic_trivial
        exact ⟨⟨_, rfl⟩, _, _, _, _, _, _, _, rfl⟩
    · subst eh es
      refine ⟨get_old (sP st9), ?_⟩
      get_elem_tactic_trivial
      exact retG_of (q _)
theorem pure_law (x : AV) (h : AH) (R : AK) (c1 : clH h) (c2 : clBs h.length [x] = true) (q : sp_law [x] h R (fun _ _ => False)) :
    b_law (ends (retG h R)) [some x, none, none, none, none, none, none, none, none, none, none, none, none] h := by
  obtain ⟨ns, rfl, hl, q⟩ := q
  unfold b_law
  get_elem_tactic_trivial
  refine ⟨ns, rfl, hl, ?_⟩
  get_elem_tactic_trivial
  have d0 : DrawAt (h ++ [.lst (ns.map AV.int), .lst [.ref h.length, .int 0, .int 0, .int 7, .int 3]]) (h.length + 1) := ⟨h.length, ns, 0, 0, 7, get_l1, get_l0, by omega⟩
  refine ⟨_, 7, rfl, rfl, by decide, by decide, d0, fun k h1 k0 k1 d1 => ?_⟩
  get_elem_tactic_trivial
  refine ⟨_, 13, rfl, rfl, by decide, by decide, d1.at, fun b h2 d2 => ?_⟩
  get_elem_tactic_trivial
  obtain ⟨k, rfl⟩ := Int.eq_ofNat_of_zero_le k0
  cases b with
  | true =>
    rw [if_pos rfl]
    have e : ((k : Int) + 20) = ((k + 20 : Nat) : Int) := by omega
    rw [e]
    exact law_r2 (by omega) d2.at q
  | false =>
    rw [if_neg (by simp)]
    exact law_r2 (by omega) d2.at q
end AL

namespace AL
open PySem PySem.Spec PyProof.Rows L2
def topS (i : Nat) : Stmt := PySem.Challenge.pw_wishpanes_k05_rows.main.body.getD i (.Pass ⟨0, 0, 0, 0⟩)
structure Txt (K : PySem.W.Frag) (mg : Str → Option Value) : Prop where
  abs : mg "abs" = none
  all : mg "all" = none
  bool : mg "bool" = none
  gcd : mg "gcd" = some (.builtin "math.gcd")
  int : mg "int" = none
  isinstance : mg "isinstance" = none
  len : mg "len" = none
  list : mg "list" = none
  range : mg "range" = none
  str : mg "str" = none
  tuple : mg "tuple" = none
  zip : mg "zip" = none
section
variable {P : Program} {w : World} {K : PySem.W.Frag} {mg : Str → Option Value} {base : Heap}
abbrev st_common_divisor : Stmt := topS 2
theorem sc_common_divisor : FnScope ["numbers", "common", "number"] ["numbers"] (defScope st_common_divisor) := ⟨rfl, rfl, rfl, by decide +kernel, rfl, by decide +kernel, by decide +kernel⟩
theorem cal_common_divisor (T : Txt K mg) (DF : DefIs K mg "common_divisor" st_common_divisor) : Cal P w K mg base 1 "common_divisor" ["numbers"] sp_common_divisor :=
  .mk_ DF (fun F => F.binds (fun _ _ _ _ _ _ us hl => match us, hl with | [_], _ => rfl)) fun F => okA F sc_common_divisor (fun _ _ _ _ q => A1_len q) (fun cdv A outer s H E hr =>
    (ass_cons (as_set (i := 1) sc_common_divisor.nd rfl (Or.inl rfl) ae_int)
    (ass_cons (as_for PassesOwn.never rfl (ai_seq (ae_var 0 (pv 0))) (ag_name (i := 2) sc_common_divisor.nd rfl (Or.inl rfl)) (ass_one (as_if (at_cmp (op_neA hr.units) (ae_var 2 (pv 2)) ae_int (nomark _)) (ass_cons (as_set (i := 1) sc_common_divisor.nd rfl (Or.inl rfl) (ae_callBfun call_gcdA (by rfl) T.gcd (aa_cons (ae_var 1 (pv 1)) (aa_cons (ae_var 2 (pv 2)) aa_nil))))
    (ass_one (as_if (at_cmp (op_eqA hr.units) (ae_var 1 (pv 1)) ae_int (nomark _)) (ass_one (as_ret ae_int)) ass_nil))) ass_nil)))
    (ass_one (as_ret (ae_var 1 (pv 1)))))))
    fun xs h R c1 c2 q => match xs, q with | [x0], q => pure_common_divisor x0 h R c1 c2 q
abbrev st_lowest : Stmt := topS 3
theorem sc_lowest : FnScope ["numbers", "common", "number"] ["numbers"] (defScope st_lowest) := ⟨rfl, rfl, rfl, by decide +kernel, rfl, by decide +kernel, by decide +kernel⟩
theorem cal_lowest (T : Txt K mg) (DF : DefIs K mg "lowest" st_lowest) (C_common_divisor : Cal P w K mg base 1 "common_divisor" ["numbers"] sp_common_divisor) : Cal P w K mg base 2 "lowest" ["numbers"] sp_lowest :=
  .mk_ DF (fun F => F.binds (fun _ _ _ _ _ _ us hl => match us, hl with | [_], _ => rfl)) fun F => okA F sc_lowest (fun _ _ _ _ q => A1_len q) (fun cdv A outer s H E hr =>
    (ass_cons (as_set (i := 1) sc_lowest.nd rfl (Or.inr rfl) (ae_cal C_common_divisor (hr.mono (by decide)) (by rfl) (aa_cons (ae_var 0 (pv 0)) aa_nil)))
    (ass_cons (as_if (at_cmp op_gtA (ae_var 1 (pv 1)) ae_int (nomark _)) (ass_one (as_ret (ae_callTy call_tupleA (by rfl) T.tuple (by decide +kernel) (aa_cons (ae_lc (gr := (gName 2)) rfl sc_lowest.nd (ai_seq (ae_var 0 (pv 0))) (blkOk_by (N := ["numbers", "common", "number"]) (sc := defScope st_lowest) (own := [("number", 2)]) (by decide +kernel)) (cg_name (by decide)) (fun _ _ _ _ _ hq q => hq _ _ q) (fun _ _ _ _ _ => pg_name (i := 2) sc_lowest.nd rfl (Or.inl rfl)) (fun _ _ _ _ _ => ats_nil) (fun _ _ _ _ _ => (ae_op op_fdivA (ae_var 2 (pv 2)) (ae_var 1 (pv 1))))) aa_nil)))) ass_nil)
    (ass_one (as_ret (ae_callTy call_tupleA (by rfl) T.tuple (by decide +kernel) (aa_cons (ae_var 0 (pv 0)) aa_nil)))))))
    fun xs h R c1 c2 q => match xs, q with | [x0], q => pure_lowest x0 h R c1 c2 q
abbrev st_zero_form : Stmt := topS 4
theorem cal_zero_form (T : Txt K mg) (DF : DefIs K mg "zero_form" st_zero_form) : Cal P w K mg base 1 "zero_form" ["k"] sp_zero_form :=
  .mk_ DF (fun F => F.binds (fun _ _ _ _ _ _ us hl => match us, hl with | [_], _ => rfl)) fun F => none_ok fun xs h R E q => q
abbrev st_form_times : Stmt := topS 5
theorem sc_form_times : FnScope ["a", "r", "x"] ["a", "r"] (defScope st_form_times) := ⟨rfl, rfl, rfl, by decide +kernel, rfl, by decide +kernel, by decide +kernel⟩
theorem cal_form_times (T : Txt K mg) (DF : DefIs K mg "form_times" st_form_times) (C_lowest : Cal P w K mg base 2 "lowest" ["numbers"] sp_lowest) (C_zero_form : Cal P w K mg base 1 "zero_form" ["k"] sp_zero_form) : Cal P w K mg base 3 "form_times" ["a", "r"] sp_form_times :=
  .mk_ DF (fun F => F.binds (fun _ _ _ _ _ _ us hl => match us, hl with | [_, _], _ => rfl)) fun F => okA F sc_form_times (fun _ _ _ _ q => A2_len q) (fun cdv A outer s H E hr =>
    (ass_cons (as_if (at_cmp (op_eqA hr.units) (ae_ix (ix_A (hu_of hr)) (ae_var 1 (pv 1)) ae_int (fun _ _ => rfl)) ae_int (nomark _)) (ass_one (as_ret (ae_cal C_zero_form (hr.mono (by decide)) (by rfl) (aa_cons (ae_op op_subA (ae_callB call_lenA (by rfl) T.len (by decide +kernel) (aa_cons (ae_var 0 (pv 0)) aa_nil)) ae_int) aa_nil)))) ass_nil)
    (ass_one (as_ret (ae_cal C_lowest (hr.mono (by decide)) (by rfl) (aa_cons (ae_op op_addA (ae_lst (aa_cons (ae_op op_mulA (ae_ix (ix_A (hu_of hr)) (ae_var 0 (pv 0)) ae_int (fun _ _ => rfl)) (ae_ix (ix_A (hu_of hr)) (ae_var 1 (pv 1)) ae_int (fun _ _ => rfl))) aa_nil)) (ae_lc (gr := (gName 2)) rfl sc_form_times.nd (ai_seq (ae_slice sl_A (ae_var 0 (pv 0)) (ao_some ae_int) ao_none)) (blkOk_by (N := ["a", "r", "x"]) (sc := defScope st_form_times) (own := [("x", 2)]) (by decide +kernel)) (cg_name (by decide)) (fun _ _ _ _ _ hq q => hq _ _ q) (fun _ _ _ _ _ => pg_name (i := 2) sc_form_times.nd rfl (Or.inl rfl)) (fun _ _ _ _ _ => ats_nil) (fun _ _ _ _ _ => (ae_op op_mulA (ae_var 2 (pv 2)) (ae_ix (ix_A (hu_of hr)) (ae_var 1 (pv 1)) ae_int (fun _ _ => rfl)))))) aa_nil))))))
    fun xs h R c1 c2 q => match xs, q with | [x0, x1], q => pure_form_times x0 x1 h R c1 c2 q
abbrev st_row_of : Stmt := topS 6
theorem sc_row_of : FnScope ["form", "strict"] ["form", "strict"] (defScope st_row_of) := ⟨rfl, rfl, rfl, by decide +kernel, rfl, by decide +kernel, by decide +kernel⟩
theorem cal_row_of (T : Txt K mg) (DF : DefIs K mg "row_of" st_row_of) (C_lowest : Cal P w K mg base 2 "lowest" ["numbers"] sp_lowest) : Cal P w K mg base 3 "row_of" ["form", "strict"] sp_row_of :=
  .mk_ DF (fun F => F.binds (fun _ _ _ _ _ _ us hl => match us, hl with | [_, _], _ => rfl)) fun F => okA F sc_row_of (fun _ _ _ _ q => A2_len q) (fun cdv A outer s H E hr =>
    (ass_one (as_ret (ae_op op_addA (ae_tup (aa_cons (ae_var 1 (pv 1)) aa_nil)) (ae_cal C_lowest (hr.mono (by decide)) (by rfl) (aa_cons (ae_slice sl_A (ae_var 0 (pv 0)) (ao_some ae_int) ao_none) aa_nil))))))
    fun xs h R c1 c2 q => match xs, q with | [x0, x1], q => pure_row_of x0 x1 h R c1 c2 q
abbrev st_turned : Stmt := topS 7
theorem sc_turned : FnScope ["row", "number"] ["row"] (defScope st_turned) := ⟨rfl, rfl, rfl, by decide +kernel, rfl, by decide +kernel, by decide +kernel⟩
theorem cal_turned (T : Txt K mg) (DF : DefIs K mg "turned" st_turned) : Cal P w K mg base 1 "turned" ["row"] sp_turned :=
  .mk_ DF (fun F => F.binds (fun _ _ _ _ _ _ us hl => match us, hl with | [_], _ => rfl)) fun F => okA F sc_turned (fun _ _ _ _ q => A1_len q) (fun cdv A outer s H E hr =>
    (ass_one (as_ret (ae_op op_addA (ae_tup (aa_cons (ae_op op_subA ae_int (ae_ix (ix_A (hu_of hr)) (ae_var 0 (pv 0)) ae_int (fun _ _ => rfl))) aa_nil)) (ae_callTy call_tupleA (by rfl) T.tuple (by decide +kernel) (aa_cons (ae_lc (gr := (gName 1)) rfl sc_turned.nd (ai_seq (ae_slice sl_A (ae_var 0 (pv 0)) (ao_some ae_int) ao_none)) (blkOk_by (N := ["row", "number"]) (sc := defScope st_turned) (own := [("number", 1)]) (by decide +kernel)) (cg_name (by decide)) (fun _ _ _ _ _ hq q => hq _ _ q) (fun _ _ _ _ _ => pg_name (i := 1) sc_turned.nd rfl (Or.inl rfl)) (fun _ _ _ _ _ => ats_nil) (fun _ _ _ _ _ => (ae_un un_negA (ae_var 1 (pv 1))))) aa_nil))))))
    fun xs h R c1 c2 q => match xs, q with | [x0], q => pure_turned x0 h R c1 c2 q
abbrev st_row_holds : Stmt := topS 8
theorem sc_row_holds : FnScope ["row", "point", "above", "below", "number", "value"] ["row", "point"] (defScope st_row_holds) := ⟨rfl, rfl, rfl, by decide +kernel, rfl, by decide +kernel, by decide +kernel⟩
theorem cal_row_holds (T : Txt K mg) (DF : DefIs K mg "row_holds" st_row_holds) : Cal P w K mg base 1 "row_holds" ["row", "point"] sp_row_holds :=
  .mk_ DF (fun F => F.binds (fun _ _ _ _ _ _ us hl => match us, hl with | [_, _], _ => rfl)) fun F => okA F sc_row_holds (fun _ _ _ _ q => A2_len q) (fun cdv A outer s H E hr =>
    (ass_cons (as_set (i := 2) sc_row_holds.nd rfl (Or.inl rfl) (ae_ix (ix_A (hu_of hr)) (ae_var 0 (pv 0)) ae_int (fun _ _ => rfl)))
    (ass_cons (as_set (i := 3) sc_row_holds.nd rfl (Or.inl rfl) ae_int)
    (ass_cons (as_for PassesOwn.never rfl (ai_zipM (by rfl) T.zip (aa_cons (ae_slice sl_A (ae_var 0 (pv 0)) (ao_some ae_int) ao_none) (aa_cons (ae_var 1 (pv 1)) aa_nil))) (ag_tup rfl (ags_cons (ag_name (i := 4) sc_row_holds.nd rfl (Or.inl rfl)) (ags_cons (ag_name (i := 5) sc_row_holds.nd rfl (Or.inl rfl)) ags_nil))) (ass_one (as_if (at_cmp (op_neA hr.units) (ae_var 4 (pv 4)) ae_int (nomark _)) (ass_cons (as_set (i := 2) sc_row_holds.nd rfl (Or.inl rfl) (ae_op op_addA (ae_op op_mulA (ae_var 2 (pv 2)) (ae_ix (ix_A (hu_of hr)) (ae_var 5 (pv 5)) ae_int (fun _ _ => rfl))) (ae_op op_mulA (ae_op op_mulA (ae_var 4 (pv 4)) (ae_ix (ix_A (hu_of hr)) (ae_var 5 (pv 5)) ae_int (fun _ _ => rfl))) (ae_var 3 (pv 3)))))
    (ass_one (as_set (i := 3) sc_row_holds.nd rfl (Or.inl rfl) (ae_op op_mulA (ae_var 3 (pv 3)) (ae_ix (ix_A (hu_of hr)) (ae_var 5 (pv 5)) ae_int (fun _ _ => rfl)))))) ass_nil)))
    (ass_cons (as_if (at_cmp (op_eqA hr.units) (ae_ix (ix_A (hu_of hr)) (ae_var 0 (pv 0)) ae_int (fun _ _ => rfl)) ae_int (nomark _)) (ass_one (as_ret (ae_cmp op_gtA (ae_var 2 (pv 2)) ae_int (nomark _)))) ass_nil)
    (ass_one (as_ret (ae_cmp op_geA (ae_var 2 (pv 2)) ae_int (nomark _)))))))))
    fun xs h R c1 c2 q => match xs, q with | [x0, x1], q => pure_row_holds x0 x1 h R c1 c2 q
abbrev st_rows_hold : Stmt := topS 9
theorem sc_rows_hold : FnScope ["rows", "point", "row"] ["rows", "point"] (defScope st_rows_hold) := ⟨rfl, rfl, rfl, by decide +kernel, rfl, by decide +kernel, by decide +kernel⟩
theorem cal_rows_hold (T : Txt K mg) (DF : DefIs K mg "rows_hold" st_rows_hold) (C_row_holds : Cal P w K mg base 1 "row_holds" ["row", "point"] sp_row_holds) : Cal P w K mg base 2 "rows_hold" ["rows", "point"] sp_rows_hold :=
  .mk_ DF (fun F => F.binds (fun _ _ _ _ _ _ us hl => match us, hl with | [_, _], _ => rfl)) fun F => okA F sc_rows_hold (fun _ _ _ _ q => A2_len q) (fun cdv A outer s H E hr =>
    (ass_cons (as_for PassesOwn.never rfl (ai_seq (ae_var 0 (pv 0))) (ag_name (i := 2) sc_rows_hold.nd rfl (Or.inl rfl)) (ass_one (as_if (at_not (at_tru tru_A (ae_cal C_row_holds (hr.mono (by decide)) (by rfl) (aa_cons (ae_var 2 (pv 2)) (aa_cons (ae_var 1 (pv 1)) aa_nil))))) (ass_one (as_ret ae_bl)) ass_nil)))
    (ass_one (as_ret ae_bl))))
    fun xs h R c1 c2 q => match xs, q with | [x0, x1], q => pure_rows_hold x0 x1 h R c1 c2 q
abbrev st_law_begin : Stmt := topS 11
theorem sc_law_begin : FnScope ["script", "cell"] ["script"] (defScope st_law_begin) := ⟨rfl, rfl, rfl, by decide +kernel, rfl, by decide +kernel, by decide +kernel⟩
theorem cal_law_begin (T : Txt K mg) (DF : DefIs K mg "_law_begin" st_law_begin) : Cal P w K mg base 1 "_law_begin" ["script"] sp_law_begin :=
  .mk_ DF (fun F => F.binds (fun _ _ _ _ _ _ us hl => match us, hl with | [_], _ => rfl)) fun F => okA F sc_law_begin (fun _ _ _ _ q => A1_len q) (fun cdv A outer s H E hr =>
    (ass_one (as_ret (ae_lst (aa_cons (ae_lc (gr := (gName 1)) rfl sc_law_begin.nd (ai_seq (ae_var 0 (pv 0))) (blkOk_by (N := ["script", "cell"]) (sc := defScope st_law_begin) (own := [("cell", 1)]) (by decide +kernel)) (cg_name (by decide)) (fun _ _ _ _ _ hq q => hq _ _ q) (fun _ _ _ _ _ => pg_name (i := 1) sc_law_begin.nd rfl (Or.inl rfl)) (fun _ _ _ _ _ => ats_nil) (fun _ _ _ _ _ => (ae_callTy call_intA (by rfl) T.int (by decide +kernel) (aa_cons (ae_var 1 (pv 1)) aa_nil)))) (aa_cons ae_int (aa_cons ae_int (aa_cons ae_int (aa_cons ae_int aa_nil)))))))))
    fun xs h R c1 c2 q => match xs, q with | [x0], q => pure_law_begin x0 h R c1 c2 q
abbrev st_law_draw : Stmt := topS 12
theorem sc_law_draw : FnScope ["d", "many", "found", "size", "cell"] ["d", "many"] (defScope st_law_draw) := ⟨rfl, rfl, rfl, by decide +kernel, rfl, by decide +kernel, by decide +kernel⟩
theorem cal_law_draw (T : Txt K mg) (DF : DefIs K mg "_law_draw" st_law_draw) : Cal P w K mg base 1 "_law_draw" ["d", "many"] sp_law_draw :=
  .mk_ DF (fun F => F.binds (fun _ _ _ _ _ _ us hl => match us, hl with | [_, _], _ => rfl)) fun F => okA F sc_law_draw (fun _ _ _ _ q => A2_len q) (fun cdv A outer s H E hr =>
    (ass_cons (as_if (at_cmp op_gtA (ae_ix (ix_A (hu_of hr)) (ae_var 0 (pv 0)) ae_int (fun _ _ => rfl)) ae_int (nomark _)) (ass_cons (as_set (i := 2) sc_law_draw.nd rfl (Or.inl rfl) (ae_ix (ix_A (hu_of hr)) (ae_var 0 (pv 0)) ae_int (fun _ _ => rfl)))
    (ass_cons (as_asg (ae_op op_fdivA (ae_var 2 (pv 2)) (ae_var 1 (pv 1))) (ag_sub (ae_var 0 (pv 0)) ae_int (set_A (hu_of hr))))
    (ass_one (as_ret (ae_op op_modA (ae_callTy call_intA (by rfl) T.int (by decide +kernel) (aa_cons (ae_var 2 (pv 2)) aa_nil)) (ae_var 1 (pv 1))))))) ass_nil)
    (ass_cons (as_set (i := 3) sc_law_draw.nd rfl (Or.inl rfl) ae_int)
    (ass_cons (as_if (at_cmp op_ltA (ae_ix (ix_A (hu_of hr)) (ae_var 0 (pv 0)) ae_int (fun _ _ => rfl)) (ae_callB call_lenA (by rfl) T.len (by decide +kernel) (aa_cons (ae_ix (ix_A (hu_of hr)) (ae_var 0 (pv 0)) ae_int (fun _ _ => rfl)) aa_nil)) (nomark _)) (ass_cons (as_set (i := 4) sc_law_draw.nd rfl (Or.inl rfl) (ae_ix (ix_A (hu_of hr)) (ae_ix (ix_A (hu_of hr)) (ae_var 0 (pv 0)) ae_int (fun _ _ => rfl)) (ae_ix (ix_A (hu_of hr)) (ae_var 0 (pv 0)) ae_int (fun _ _ => rfl)) (fun _ _ => rfl)))
    (ass_one (as_set (i := 3) sc_law_draw.nd rfl (Or.inl rfl) (ae_op op_addA (ae_op op_mulA ae_int (ae_callB call_absA (by rfl) T.abs (by decide +kernel) (aa_cons (ae_var 4 (pv 4)) aa_nil))) (ae_callTy call_intA (by rfl) T.int (by decide +kernel) (aa_cons (ae_cmp op_ltA (ae_var 4 (pv 4)) ae_int (nomark _)) aa_nil)))))) ass_nil)
    (ass_cons (as_augS (ae_var 0 (pv 0)) ae_int (get_A (hu_of hr)) ae_int ip_addA (set_A (hu_of hr)))
    (ass_cons (as_if (at_cmp op_geA (ae_var 3 (pv 3)) (ae_op op_mulA ae_int (ae_op op_powA ae_int ae_int)) (nomark _)) (ass_cons (as_set (i := 2) sc_law_draw.nd rfl (Or.inl rfl) (ae_op op_modA (ae_callTy call_intA (by rfl) T.int (by decide +kernel) (aa_cons (ae_op op_fdivA (ae_var 3 (pv 3)) ae_int) aa_nil)) (ae_op op_shlA ae_int ae_int)))
    (ass_cons (as_asg (ae_op op_fdivA (ae_var 2 (pv 2)) (ae_var 1 (pv 1))) (ag_sub (ae_var 0 (pv 0)) ae_int (set_A (hu_of hr))))
    (ass_one (as_ret (ae_op op_modA (ae_callTy call_intA (by rfl) T.int (by decide +kernel) (aa_cons (ae_var 2 (pv 2)) aa_nil)) (ae_var 1 (pv 1))))))) ass_nil)
    (ass_cons (as_asg (ae_op op_modA (ae_callTy call_intA (by rfl) T.int (by decide +kernel) (aa_cons (ae_op op_addA (ae_op op_addA (ae_op op_addA (ae_op op_mulA (ae_ix (ix_A (hu_of hr)) (ae_var 0 (pv 0)) ae_int (fun _ _ => rfl)) ae_int) (ae_op op_mulA (ae_op op_modA (ae_callTy call_intA (by rfl) T.int (by decide +kernel) (aa_cons (ae_var 3 (pv 3)) aa_nil)) ae_int) ae_int)) (ae_op op_mulA (ae_ix (ix_A (hu_of hr)) (ae_var 0 (pv 0)) ae_int (fun _ _ => rfl)) ae_int)) ae_int) aa_nil)) ae_int) (ag_sub (ae_var 0 (pv 0)) ae_int (set_A (hu_of hr))))
    (ass_one (as_ret (ae_op op_modA (ae_callTy call_intA (by rfl) T.int (by decide +kernel) (aa_cons (ae_op op_fdivA (ae_ix (ix_A (hu_of hr)) (ae_var 0 (pv 0)) ae_int (fun _ _ => rfl)) ae_int) aa_nil)) (ae_var 1 (pv 1))))))))))))
    fun xs h R c1 c2 q => match xs, q with | [x0, x1], q => pure_law_draw x0 x1 h R c1 c2 q
abbrev st_law_pick : Stmt := topS 13
theorem sc_law_pick : FnScope ["d", "row"] ["d", "row"] (defScope st_law_pick) := ⟨rfl, rfl, rfl, by decide +kernel, rfl, by decide +kernel, by decide +kernel⟩
theorem cal_law_pick (T : Txt K mg) (DF : DefIs K mg "_law_pick" st_law_pick) (C_law_draw : Cal P w K mg base 1 "_law_draw" ["d", "many"] sp_law_draw) : Cal P w K mg base 2 "_law_pick" ["d", "row"] sp_law_pick :=
  .mk_ DF (fun F => F.binds (fun _ _ _ _ _ _ us hl => match us, hl with | [_, _], _ => rfl)) fun F => okA F sc_law_pick (fun _ _ _ _ q => A2_len q) (fun cdv A outer s H E hr =>
    (ass_one (as_ret (ae_ix (ix_A (hu_of hr)) (ae_var 1 (pv 1)) (ae_cal C_law_draw (hr.mono (by decide)) (by rfl) (aa_cons (ae_var 0 (pv 0)) (aa_cons (ae_callB call_lenA (by rfl) T.len (by decide +kernel) (aa_cons (ae_var 1 (pv 1)) aa_nil)) aa_nil))) (fun _ _ => rfl)))))
    fun xs h R c1 c2 q => match xs, q with | [x0, x1], q => pure_law_pick x0 x1 h R c1 c2 q
abbrev st_law_rare : Stmt := topS 14
theorem sc_law_rare : FnScope ["d", "many"] ["d", "many"] (defScope st_law_rare) := ⟨rfl, rfl, rfl, by decide +kernel, rfl, by decide +kernel, by decide +kernel⟩
theorem cal_law_rare (T : Txt K mg) (DF : DefIs K mg "_law_rare" st_law_rare) (C_law_draw : Cal P w K mg base 1 "_law_draw" ["d", "many"] sp_law_draw) : Cal P w K mg base 2 "_law_rare" ["d", "many"] sp_law_rare :=
  .mk_ DF (fun F => F.binds (fun _ _ _ _ _ _ us hl => match us, hl with | [_, _], _ => rfl)) fun F => okA F sc_law_rare (fun _ _ _ _ q => A2_len q) (fun cdv A outer s H E hr =>
    (ass_one (as_ret (ae_cmp (op_eqA hr.units) (ae_cal C_law_draw (hr.mono (by decide)) (by rfl) (aa_cons (ae_var 0 (pv 0)) (aa_cons (ae_var 1 (pv 1)) aa_nil))) (ae_op op_fdivA (ae_var 1 (pv 1)) ae_int) (nomark _)))))
    fun xs h R c1 c2 q => match xs, q with | [x0, x1], q => pure_law_rare x0 x1 h R c1 c2 q
abbrev st_law_gcd : Stmt := topS 15
theorem sc_law_gcd : FnScope ["a", "b", "k"] ["a", "b"] (defScope st_law_gcd) := ⟨rfl, rfl, rfl, by decide +kernel, rfl, by decide +kernel, by decide +kernel⟩
theorem cal_law_gcd (T : Txt K mg) (DF : DefIs K mg "_law_gcd" st_law_gcd) : Cal P w K mg base 1 "_law_gcd" ["a", "b"] sp_law_gcd :=
  .mk_ DF (fun F => F.binds (fun _ _ _ _ _ _ us hl => match us, hl with | [_, _], _ => rfl)) fun F => okA F sc_law_gcd (fun _ _ _ _ q => A2_len q) (fun cdv A outer s H E hr =>
    (ass_cons (as_set (i := 0) sc_law_gcd.nd rfl (Or.inl rfl) (ae_callB call_absA (by rfl) T.abs (by decide +kernel) (aa_cons (ae_var 0 (pv 0)) aa_nil)))
    (ass_cons (as_set (i := 1) sc_law_gcd.nd rfl (Or.inl rfl) (ae_callB call_absA (by rfl) T.abs (by decide +kernel) (aa_cons (ae_var 1 (pv 1)) aa_nil)))
    (ass_cons (as_for PassesOwn.never rfl (ai_range1 (by rfl) T.range (aa_cons ae_int aa_nil)) (ag_name (i := 2) sc_law_gcd.nd rfl (Or.inl rfl)) (ass_cons (as_if (at_cmp (op_eqA hr.units) (ae_var 1 (pv 1)) ae_int (nomark _)) (ass_one as_break) ass_nil)
    (ass_one (as_par (i := 0) (j := 1) rfl sc_law_gcd.nd rfl rfl (by decide) rfl rfl (aa_cons (ae_var 1 (pv 1)) (aa_cons (ae_op op_modA (ae_callTy call_intA (by rfl) T.int (by decide +kernel) (aa_cons (ae_var 0 (pv 0)) aa_nil)) (ae_var 1 (pv 1))) aa_nil)) (by rfl)))))
    (ass_one (as_ret (ae_var 0 (pv 0))))))))
    fun xs h R c1 c2 q => match xs, q with | [x0, x1], q => pure_law_gcd x0 x1 h R c1 c2 q
abbrev st_law_r : Stmt := topS 16
theorem sc_law_r : FnScope ["n", "d", "g"] ["n", "d"] (defScope st_law_r) := ⟨rfl, rfl, rfl, by decide +kernel, rfl, by decide +kernel, by decide +kernel⟩
theorem cal_law_r (T : Txt K mg) (DF : DefIs K mg "_law_r" st_law_r) (C_law_gcd : Cal P w K mg base 1 "_law_gcd" ["a", "b"] sp_law_gcd) : Cal P w K mg base 2 "_law_r" ["n", "d"] sp_law_r :=
  .mk_ DF (fun F => F.binds (fun _ _ _ _ _ _ us hl => match us, hl with | [_, _], _ => rfl)) fun F => okA F sc_law_r (fun _ _ _ _ q => A2_len q) (fun cdv A outer s H E hr =>
    (ass_cons (as_if (at_cmp op_ltA (ae_var 1 (pv 1)) ae_int (nomark _)) (ass_cons (as_set (i := 0) sc_law_r.nd rfl (Or.inl rfl) (ae_un un_negA (ae_var 0 (pv 0))))
    (ass_one (as_set (i := 1) sc_law_r.nd rfl (Or.inl rfl) (ae_un un_negA (ae_var 1 (pv 1)))))) ass_nil)
    (ass_cons (as_set (i := 2) sc_law_r.nd rfl (Or.inl rfl) (ae_cal C_law_gcd (hr.mono (by decide)) (by rfl) (aa_cons (ae_var 0 (pv 0)) (aa_cons (ae_var 1 (pv 1)) aa_nil))))
    (ass_one (as_ret (ae_tup (aa_cons (ae_op op_fdivA (ae_var 0 (pv 0)) (ae_var 2 (pv 2))) (aa_cons (ae_op op_fdivA (ae_var 1 (pv 1)) (ae_var 2 (pv 2))) aa_nil))))))))
    fun xs h R c1 c2 q => match xs, q with | [x0, x1], q => pure_law_r x0 x1 h R c1 c2 q
abbrev st_law_add : Stmt := topS 17
theorem sc_law_add : FnScope ["a", "b"] ["a", "b"] (defScope st_law_add) := ⟨rfl, rfl, rfl, by decide +kernel, rfl, by decide +kernel, by decide +kernel⟩
theorem cal_law_add (T : Txt K mg) (DF : DefIs K mg "_law_add" st_law_add) (C_law_r : Cal P w K mg base 2 "_law_r" ["n", "d"] sp_law_r) : Cal P w K mg base 3 "_law_add" ["a", "b"] sp_law_add :=
  .mk_ DF (fun F => F.binds (fun _ _ _ _ _ _ us hl => match us, hl with | [_, _], _ => rfl)) fun F => okA F sc_law_add (fun _ _ _ _ q => A2_len q) (fun cdv A outer s H E hr =>
    (ass_one (as_ret (ae_cal C_law_r (hr.mono (by decide)) (by rfl) (aa_cons (ae_op op_addA (ae_op op_mulA (ae_ix (ix_A (hu_of hr)) (ae_var 0 (pv 0)) ae_int (fun _ _ => rfl)) (ae_ix (ix_A (hu_of hr)) (ae_var 1 (pv 1)) ae_int (fun _ _ => rfl))) (ae_op op_mulA (ae_ix (ix_A (hu_of hr)) (ae_var 1 (pv 1)) ae_int (fun _ _ => rfl)) (ae_ix (ix_A (hu_of hr)) (ae_var 0 (pv 0)) ae_int (fun _ _ => rfl)))) (aa_cons (ae_op op_mulA (ae_ix (ix_A (hu_of hr)) (ae_var 0 (pv 0)) ae_int (fun _ _ => rfl)) (ae_ix (ix_A (hu_of hr)) (ae_var 1 (pv 1)) ae_int (fun _ _ => rfl))) aa_nil))))))
    fun xs h R c1 c2 q => match xs, q with | [x0, x1], q => pure_law_add x0 x1 h R c1 c2 q
abbrev st_law_mul : Stmt := topS 18
theorem sc_law_mul : FnScope ["a", "b"] ["a", "b"] (defScope st_law_mul) := ⟨rfl, rfl, rfl, by decide +kernel, rfl, by decide +kernel, by decide +kernel⟩
theorem cal_law_mul (T : Txt K mg) (DF : DefIs K mg "_law_mul" st_law_mul) (C_law_r : Cal P w K mg base 2 "_law_r" ["n", "d"] sp_law_r) : Cal P w K mg base 3 "_law_mul" ["a", "b"] sp_law_mul :=
  .mk_ DF (fun F => F.binds (fun _ _ _ _ _ _ us hl => match us, hl with | [_, _], _ => rfl)) fun F => okA F sc_law_mul (fun _ _ _ _ q => A2_len q) (fun cdv A outer s H E hr =>
    (ass_one (as_ret (ae_cal C_law_r (hr.mono (by decide)) (by rfl) (aa_cons (ae_op op_mulA (ae_ix (ix_A (hu_of hr)) (ae_var 0 (pv 0)) ae_int (fun _ _ => rfl)) (ae_ix (ix_A (hu_of hr)) (ae_var 1 (pv 1)) ae_int (fun _ _ => rfl))) (aa_cons (ae_op op_mulA (ae_ix (ix_A (hu_of hr)) (ae_var 0 (pv 0)) ae_int (fun _ _ => rfl)) (ae_ix (ix_A (hu_of hr)) (ae_var 1 (pv 1)) ae_int (fun _ _ => rfl))) aa_nil))))))
    fun xs h R c1 c2 q => match xs, q with | [x0, x1], q => pure_law_mul x0 x1 h R c1 c2 q
abbrev st_law_div : Stmt := topS 19
theorem sc_law_div : FnScope ["a", "b"] ["a", "b"] (defScope st_law_div) := ⟨rfl, rfl, rfl, by decide +kernel, rfl, by decide +kernel, by decide +kernel⟩
theorem cal_law_div (T : Txt K mg) (DF : DefIs K mg "_law_div" st_law_div) (C_law_r : Cal P w K mg base 2 "_law_r" ["n", "d"] sp_law_r) : Cal P w K mg base 3 "_law_div" ["a", "b"] sp_law_div :=
  .mk_ DF (fun F => F.binds (fun _ _ _ _ _ _ us hl => match us, hl with | [_, _], _ => rfl)) fun F => okA F sc_law_div (fun _ _ _ _ q => A2_len q) (fun cdv A outer s H E hr =>
    (ass_one (as_ret (ae_cal C_law_r (hr.mono (by decide)) (by rfl) (aa_cons (ae_op op_mulA (ae_ix (ix_A (hu_of hr)) (ae_var 0 (pv 0)) ae_int (fun _ _ => rfl)) (ae_ix (ix_A (hu_of hr)) (ae_var 1 (pv 1)) ae_int (fun _ _ => rfl))) (aa_cons (ae_op op_mulA (ae_ix (ix_A (hu_of hr)) (ae_var 0 (pv 0)) ae_int (fun _ _ => rfl)) (ae_ix (ix_A (hu_of hr)) (ae_var 1 (pv 1)) ae_int (fun _ _ => rfl))) aa_nil))))))
    fun xs h R c1 c2 q => match xs, q with | [x0, x1], q => pure_law_div x0 x1 h R c1 c2 q
abbrev st_law_lowest : Stmt := topS 20
theorem sc_law_lowest : FnScope ["row", "g", "number"] ["row"] (defScope st_law_lowest) := ⟨rfl, rfl, rfl, by decide +kernel, rfl, by decide +kernel, by decide +kernel⟩
theorem cal_law_lowest (T : Txt K mg) (DF : DefIs K mg "_law_lowest" st_law_lowest) (C_law_gcd : Cal P w K mg base 1 "_law_gcd" ["a", "b"] sp_law_gcd) : Cal P w K mg base 2 "_law_lowest" ["row"] sp_law_lowest :=
  .mk_ DF (fun F => F.binds (fun _ _ _ _ _ _ us hl => match us, hl with | [_], _ => rfl)) fun F => okA F sc_law_lowest (fun _ _ _ _ q => A1_len q) (fun cdv A outer s H E hr =>
    (ass_cons (as_set (i := 1) sc_law_lowest.nd rfl (Or.inr rfl) ae_int)
    (ass_cons (as_for PassesOwn.never rfl (ai_seq (ae_var 0 (pv 0))) (ag_name (i := 2) sc_law_lowest.nd rfl (Or.inl rfl)) (ass_one (as_if (at_w (aw_and (at_cmp (op_neA hr.units) (ae_var 2 (pv 2)) ae_int (nomark _)) (aw_and1 (at_cmp (op_neA hr.units) (ae_var 1 (pv 1)) ae_int (nomark _))))) (ass_one (as_set (i := 1) sc_law_lowest.nd rfl (Or.inr rfl) (ae_cal C_law_gcd (hr.mono (by decide)) (by rfl) (aa_cons (ae_var 1 (pv 1)) (aa_cons (ae_var 2 (pv 2)) aa_nil))))) ass_nil)))
    (ass_cons (as_if (at_cmp op_gtA (ae_var 1 (pv 1)) ae_int (nomark _)) (ass_one (as_ret (ae_lc (gr := (gName 2)) rfl sc_law_lowest.nd (ai_seq (ae_var 0 (pv 0))) (blkOk_by (N := ["row", "g", "number"]) (sc := defScope st_law_lowest) (own := [("number", 2)]) (by decide +kernel)) (cg_name (by decide)) (fun _ _ _ _ _ hq q => hq _ _ q) (fun _ _ _ _ _ => pg_name (i := 2) sc_law_lowest.nd rfl (Or.inl rfl)) (fun _ _ _ _ _ => ats_nil) (fun _ _ _ _ _ => (ae_op op_fdivA (ae_callTy call_intA (by rfl) T.int (by decide +kernel) (aa_cons (ae_var 2 (pv 2)) aa_nil)) (ae_var 1 (pv 1))))))) ass_nil)
    (ass_one (as_ret (ae_callTy call_listA (by rfl) T.list (by decide +kernel) (aa_cons (ae_var 0 (pv 0)) aa_nil))))))))
    fun xs h R c1 c2 q => match xs, q with | [x0], q => pure_law_lowest x0 h R c1 c2 q
abbrev st_law_same : Stmt := topS 21
theorem sc_law_same : FnScope ["told", "due", "one", "other"] ["told", "due"] (defScope st_law_same) := ⟨rfl, rfl, rfl, by decide +kernel, rfl, by decide +kernel, by decide +kernel⟩
theorem cal_law_same_at (T : Txt K mg) (DF : DefIs K mg "_law_same" st_law_same) : ∀ dep : Nat, Cal P w K mg base (1 + dep) "_law_same" ["told", "due"] (sp_law_same dep)
  | 0 => .mk_ DF (fun F => F.binds (fun _ _ _ _ _ _ us hl => match us, hl with | [_, _], _ => rfl)) fun F => none_ok fun xs h R E q => sp_law_same_zero q
  | dep + 1 => .mk_ DF (fun F => F.binds (fun _ _ _ _ _ _ us hl => match us, hl with | [_, _], _ => rfl)) fun F => okA F sc_law_same (fun _ _ _ _ q => A2_len q) (fun cdv A outer s H E hr =>
    have C_law_same := cal_law_same_at T DF  dep
    (ass_cons (as_if (at_tru tru_A (ae_callB call_instA (by rfl) T.isinstance (by decide +kernel) (aa_cons (ae_var 1 (pv 1)) (aa_cons (ae_ty (by rfl) T.tuple (by decide +kernel)) aa_nil)))) (ass_cons (as_if (at_w (aw_or (at_not (at_tru tru_A (ae_callB call_instA (by rfl) T.isinstance (by decide +kernel) (aa_cons (ae_var 0 (pv 0)) (aa_cons (ae_ty (by rfl) T.tuple (by decide +kernel)) aa_nil))))) (aw_or1 (at_cmp (op_neA hr.units) (ae_callB call_lenA (by rfl) T.len (by decide +kernel) (aa_cons (ae_var 0 (pv 0)) aa_nil)) (ae_callB call_lenA (by rfl) T.len (by decide +kernel) (aa_cons (ae_var 1 (pv 1)) aa_nil)) (nomark _))))) (ass_one (as_ret ae_bl)) ass_nil)
    (ass_one (as_ret (ae_callB (call_allA rfl) (by rfl) T.all (by decide +kernel) (aa_cons (ae_lc (gr := (gTup _ 2 (rNms [2, 3]))) rfl sc_law_same.nd (ai_zip (by rfl) T.zip (aa_cons (ae_var 0 (pv 0)) (aa_cons (ae_var 1 (pv 1)) aa_nil))) (blkOk_by (N := ["told", "due", "one", "other"]) (sc := defScope st_law_same) (own := [("one", 2), ("other", 3)]) (by decide +kernel)) (cg_tup (cgs_nms [2, 3] (by decide))) (gTup_mono [2, 3]) (fun _ _ _ _ _ => pg_tup rfl (pgs_cons (pg_name (i := 2) sc_law_same.nd rfl (Or.inl rfl)) (pgs_cons (pg_name (i := 3) sc_law_same.nd rfl (Or.inl rfl)) pgs_nil))) (fun _ _ _ _ _ => ats_nil) (fun _ _ _ _ _ => (ae_cal C_law_same hr (by rfl) (aa_cons (ae_var 2 (pv 2)) (aa_cons (ae_var 3 (pv 3)) aa_nil))))) aa_nil))))) ass_nil)
    (ass_cons (as_if (at_w (aw_or (at_cmp op_isNA (ae_var 1 (pv 1)) ae_non (nomark _)) (aw_or1 (at_cmp op_isNA (ae_var 0 (pv 0)) ae_non (nomark _))))) (ass_one (as_ret (ae_and (ae_cmp op_isNA (ae_var 1 (pv 1)) ae_non (nomark _)) (ae_one (ae_cmp op_isNA (ae_var 0 (pv 0)) ae_non (nomark _)))))) ass_nil)
    (ass_cons (as_if (at_w (aw_or (at_tru tru_A (ae_callB call_instA (by rfl) T.isinstance (by decide +kernel) (aa_cons (ae_var 1 (pv 1)) (aa_cons (ae_ty (by rfl) T.bool (by decide +kernel)) aa_nil)))) (aw_or1 (at_tru tru_A (ae_callB call_instA (by rfl) T.isinstance (by decide +kernel) (aa_cons (ae_var 0 (pv 0)) (aa_cons (ae_ty (by rfl) T.bool (by decide +kernel)) aa_nil))))))) (ass_one (as_ret (ae_and (ae_callB call_instA (by rfl) T.isinstance (by decide +kernel) (aa_cons (ae_var 1 (pv 1)) (aa_cons (ae_ty (by rfl) T.bool (by decide +kernel)) aa_nil))) (ae_and (ae_callB call_instA (by rfl) T.isinstance (by decide +kernel) (aa_cons (ae_var 0 (pv 0)) (aa_cons (ae_ty (by rfl) T.bool (by decide +kernel)) aa_nil))) (ae_one (ae_cmp (op_eqA hr.units) (ae_var 0 (pv 0)) (ae_var 1 (pv 1)) (nomark _))))))) ass_nil)
    (ass_cons (as_if (at_tru tru_A (ae_callB call_instA (by rfl) T.isinstance (by decide +kernel) (aa_cons (ae_var 1 (pv 1)) (aa_cons (ae_ty (by rfl) T.int (by decide +kernel)) aa_nil)))) (ass_one (as_ret (ae_and (ae_callB call_instA (by rfl) T.isinstance (by decide +kernel) (aa_cons (ae_var 0 (pv 0)) (aa_cons (ae_ty (by rfl) T.int (by decide +kernel)) aa_nil))) (ae_one (ae_cmp (op_eqA hr.units) (ae_var 0 (pv 0)) (ae_var 1 (pv 1)) (nomark _)))))) ass_nil)
    (ass_one (as_ret (ae_and (ae_callB call_instA (by rfl) T.isinstance (by decide +kernel) (aa_cons (ae_var 0 (pv 0)) (aa_cons (ae_ty (by rfl) T.str (by decide +kernel)) aa_nil))) (ae_one (ae_cmp (op_eqA hr.units) (ae_var 0 (pv 0)) (ae_var 1 (pv 1)) (nomark _)))))))))))
    fun xs h R c1 c2 q => match xs, q with | [x0, x1], q => pure_law_same dep x0 x1 h R c1 c2 q
theorem cal_law_same (T : Txt K mg) (DF : DefIs K mg "_law_same" st_law_same) : Cal P w K mg base 9 "_law_same" ["told", "due"] (sp_law_same 8) := cal_law_same_at T DF  8
abbrev st_law_share : Stmt := topS 22
theorem sc_law_share : FnScope ["d", "wide", "way", "side", "n"] ["d", "wide"] (defScope st_law_share) := ⟨rfl, rfl, rfl, by decide +kernel, rfl, by decide +kernel, by decide +kernel⟩
theorem cal_law_share (T : Txt K mg) (DF : DefIs K mg "_law_share" st_law_share) (C_law_draw : Cal P w K mg base 1 "_law_draw" ["d", "many"] sp_law_draw) (C_law_r : Cal P w K mg base 2 "_law_r" ["n", "d"] sp_law_r) : Cal P w K mg base 3 "_law_share" ["d", "wide"] sp_law_share :=
  .mk_ DF (fun F => F.binds (fun _ _ _ _ _ _ us hl => match us, hl with | [_, _], _ => rfl)) fun F => okA F sc_law_share (fun _ _ _ _ q => A2_len q) (fun cdv A outer s H E hr =>
    (ass_cons (as_set (i := 2) sc_law_share.nd rfl (Or.inl rfl) (ae_cal C_law_draw (hr.mono (by decide)) (by rfl) (aa_cons (ae_var 0 (pv 0)) (aa_cons ae_int aa_nil))))
    (ass_cons (as_set (i := 3) sc_law_share.nd rfl (Or.inl rfl) (ae_op op_subA ae_int (ae_op op_mulA ae_int (ae_cal C_law_draw (hr.mono (by decide)) (by rfl) (aa_cons (ae_var 0 (pv 0)) (aa_cons ae_int aa_nil))))))
    (ass_cons (as_if (at_cmp (op_eqA hr.units) (ae_var 2 (pv 2)) ae_int (nomark _)) (ass_one (as_ret (ae_tup (aa_cons ae_int (aa_cons ae_int aa_nil))))) ass_nil)
    (ass_cons (as_if (at_w (aw_and (at_cmp (op_eqA hr.units) (ae_var 2 (pv 2)) ae_int (nomark _)) (aw_and1 (at_tru tru_A (ae_var 1 (pv 1)))))) (ass_cons (as_set (i := 4) sc_law_share.nd rfl (Or.inl rfl) (ae_op op_mulA (ae_var 3 (pv 3)) (ae_cal C_law_draw (hr.mono (by decide)) (by rfl) (aa_cons (ae_var 0 (pv 0)) (aa_cons (ae_op op_powA ae_int ae_int) aa_nil)))))
    (ass_one (as_ret (ae_cal C_law_r (hr.mono (by decide)) (by rfl) (aa_cons (ae_var 4 (pv 4)) (aa_cons (ae_op op_addA ae_int (ae_cal C_law_draw (hr.mono (by decide)) (by rfl) (aa_cons (ae_var 0 (pv 0)) (aa_cons (ae_op op_powA ae_int ae_int) aa_nil)))) aa_nil)))))) ass_nil)
    (ass_cons (as_if (at_cmp (op_eqA hr.units) (ae_var 2 (pv 2)) ae_int (nomark _)) (ass_one (as_ret (ae_tup (aa_cons (ae_var 3 (pv 3)) (aa_cons ae_int aa_nil))))) ass_nil)
    (ass_cons (as_set (i := 4) sc_law_share.nd rfl (Or.inl rfl) (ae_op op_mulA (ae_var 3 (pv 3)) (ae_cal C_law_draw (hr.mono (by decide)) (by rfl) (aa_cons (ae_var 0 (pv 0)) (aa_cons ae_int aa_nil)))))
    (ass_one (as_ret (ae_cal C_law_r (hr.mono (by decide)) (by rfl) (aa_cons (ae_var 4 (pv 4)) (aa_cons (ae_op op_addA ae_int (ae_cal C_law_draw (hr.mono (by decide)) (by rfl) (aa_cons (ae_var 0 (pv 0)) (aa_cons ae_int aa_nil)))) aa_nil))))))))))))
    fun xs h R c1 c2 q => match xs, q with | [x0, x1], q => pure_law_share x0 x1 h R c1 c2 q
abbrev st_law_some_form : Stmt := topS 23
theorem sc_law_some_form : FnScope ["d", "k", "way", "numbers", "i", "kind", "n"] ["d", "k"] (defScope st_law_some_form) := ⟨rfl, rfl, rfl, by decide +kernel, rfl, by decide +kernel, by decide +kernel⟩
theorem cal_law_some_form (T : Txt K mg) (DF : DefIs K mg "_law_some_form" st_law_some_form) (C_law_draw : Cal P w K mg base 1 "_law_draw" ["d", "many"] sp_law_draw) (C_law_lowest : Cal P w K mg base 2 "_law_lowest" ["row"] sp_law_lowest) : Cal P w K mg base 3 "_law_some_form" ["d", "k"] sp_law_some_form :=
  .mk_ DF (fun F => F.binds (fun _ _ _ _ _ _ us hl => match us, hl with | [_, _], _ => rfl)) fun F => okA F sc_law_some_form (fun _ _ _ _ q => A2_len q) (fun cdv A outer s H E hr =>
    (ass_cons (as_set (i := 2) sc_law_some_form.nd rfl (Or.inl rfl) (ae_cal C_law_draw (hr.mono (by decide)) (by rfl) (aa_cons (ae_var 0 (pv 0)) (aa_cons ae_int aa_nil))))
    (ass_cons (as_set (i := 3) sc_law_some_form.nd rfl (Or.inl rfl) (ae_lst aa_nil))
    (ass_cons (as_for PassesOwn.never rfl (ai_range1 (by rfl) T.range (aa_cons (ae_op op_addA (ae_var 1 (pv 1)) ae_int) aa_nil)) (ag_name (i := 4) sc_law_some_form.nd rfl (Or.inl rfl)) (ass_cons (as_set (i := 5) sc_law_some_form.nd rfl (Or.inl rfl) (ae_cal C_law_draw (hr.mono (by decide)) (by rfl) (aa_cons (ae_var 0 (pv 0)) (aa_cons ae_int aa_nil))))
    (ass_cons (as_set (i := 6) sc_law_some_form.nd rfl (Or.inl rfl) (ae_op op_subA (ae_cal C_law_draw (hr.mono (by decide)) (by rfl) (aa_cons (ae_var 0 (pv 0)) (aa_cons ae_int aa_nil))) ae_int))
    (ass_cons (as_if (at_w (aw_and (at_cmp (op_eqA hr.units) (ae_var 2 (pv 2)) ae_int (nomark _)) (aw_and (at_cmp (op_eqA hr.units) (ae_var 5 (pv 5)) ae_int (nomark _)) (aw_and1 (at_cmp op_ltA (ae_var 1 (pv 1)) ae_int (nomark _)))))) (ass_one (as_set (i := 6) sc_law_some_form.nd rfl (Or.inl rfl) (ae_op op_subA (ae_cal C_law_draw (hr.mono (by decide)) (by rfl) (aa_cons (ae_var 0 (pv 0)) (aa_cons (ae_op op_powA ae_int ae_int) aa_nil))) (ae_op op_powA ae_int ae_int)))) ass_nil)
    (ass_cons (as_if (at_cmp (op_eqA hr.units) (ae_var 2 (pv 2)) ae_int (nomark _)) (ass_one (as_set (i := 6) sc_law_some_form.nd rfl (Or.inl rfl) (ae_op op_mulA ae_int (ae_var 6 (pv 6))))) ass_nil)
    (ass_cons (as_if (at_w (aw_or (at_cmp (op_eqA hr.units) (ae_var 5 (pv 5)) ae_int (nomark _)) (aw_or (at_cmp (op_eqA hr.units) (ae_var 2 (pv 2)) ae_int (nomark _)) (aw_or1 (at_w (aw_and (at_cmp (op_eqA hr.units) (ae_var 2 (pv 2)) ae_int (nomark _)) (aw_and1 (at_cmp op_gtA (ae_var 4 (pv 4)) ae_int (nomark _))))))))) (ass_one (as_set (i := 6) sc_law_some_form.nd rfl (Or.inl rfl) ae_int)) ass_nil)
    (ass_one (as_expr (ae_bm (ts := fun _ _ _ => False) ok_lst (pe_bm PySem.F.plainAttrs_list PySem.F.slot_list_append PySem.F.type_list_append mt_appendA (ae_var 3 (pv 3)) (aa_cons (ae_var 6 (pv 6)) aa_nil)))))))))))
    (ass_one (as_ret (ae_callTy call_tupleA (by rfl) T.tuple (by decide +kernel) (aa_cons (ae_cal C_law_lowest (hr.mono (by decide)) (by rfl) (aa_cons (ae_op op_addA (ae_lst (aa_cons (ae_op op_addA ae_int (ae_cal C_law_draw (hr.mono (by decide)) (by rfl) (aa_cons (ae_var 0 (pv 0)) (aa_cons ae_int aa_nil)))) aa_nil)) (ae_var 3 (pv 3))) aa_nil)) aa_nil))))))))
    fun xs h R c1 c2 q => match xs, q with | [x0, x1], q => pure_law_some_form x0 x1 h R c1 c2 q
abbrev st_law_value_at : Stmt := topS 24
theorem sc_law_value_at : FnScope ["numbers", "point", "total", "number", "value"] ["numbers", "point"] (defScope st_law_value_at) := ⟨rfl, rfl, rfl, by decide +kernel, rfl, by decide +kernel, by decide +kernel⟩
theorem cal_law_value_at (T : Txt K mg) (DF : DefIs K mg "_law_value_at" st_law_value_at) (C_law_add : Cal P w K mg base 3 "_law_add" ["a", "b"] sp_law_add) (C_law_mul : Cal P w K mg base 3 "_law_mul" ["a", "b"] sp_law_mul) : Cal P w K mg base 4 "_law_value_at" ["numbers", "point"] sp_law_value_at :=
  .mk_ DF (fun F => F.binds (fun _ _ _ _ _ _ us hl => match us, hl with | [_, _], _ => rfl)) fun F => okA F sc_law_value_at (fun _ _ _ _ q => A2_len q) (fun cdv A outer s H E hr =>
    (ass_cons (as_set (i := 2) sc_law_value_at.nd rfl (Or.inl rfl) (ae_tup (aa_cons (ae_ix (ix_A (hu_of hr)) (ae_var 0 (pv 0)) ae_int (fun _ _ => rfl)) (aa_cons ae_int aa_nil))))
    (ass_cons (as_for PassesOwn.never rfl (ai_zipM (by rfl) T.zip (aa_cons (ae_slice sl_A (ae_var 0 (pv 0)) (ao_some ae_int) ao_none) (aa_cons (ae_var 1 (pv 1)) aa_nil))) (ag_tup rfl (ags_cons (ag_name (i := 3) sc_law_value_at.nd rfl (Or.inl rfl)) (ags_cons (ag_name (i := 4) sc_law_value_at.nd rfl (Or.inl rfl)) ags_nil))) (ass_one (as_set (i := 2) sc_law_value_at.nd rfl (Or.inl rfl) (ae_cal C_law_add (hr.mono (by decide)) (by rfl) (aa_cons (ae_var 2 (pv 2)) (aa_cons (ae_cal C_law_mul (hr.mono (by decide)) (by rfl) (aa_cons (ae_tup (aa_cons (ae_var 3 (pv 3)) (aa_cons ae_int aa_nil))) (aa_cons (ae_var 4 (pv 4)) aa_nil))) aa_nil))))))
    (ass_one (as_ret (ae_var 2 (pv 2)))))))
    fun xs h R c1 c2 q => match xs, q with | [x0, x1], q => pure_law_value_at x0 x1 h R c1 c2 q
abbrev st_law_points : Stmt := topS 25
theorem sc_law_points : FnScope ["d", "forms", "k", "points", "given", "places", "at", "near", "border", "step", "side", "i"] ["d", "forms", "k"] (defScope st_law_points) := ⟨rfl, rfl, rfl, by decide +kernel, rfl, by decide +kernel, by decide +kernel⟩
theorem cal_law_points (T : Txt K mg) (DF : DefIs K mg "_law_points" st_law_points) (C_law_draw : Cal P w K mg base 1 "_law_draw" ["d", "many"] sp_law_draw) (C_law_pick : Cal P w K mg base 2 "_law_pick" ["d", "row"] sp_law_pick) (C_law_r : Cal P w K mg base 2 "_law_r" ["n", "d"] sp_law_r) (C_law_add : Cal P w K mg base 3 "_law_add" ["a", "b"] sp_law_add) (C_law_div : Cal P w K mg base 3 "_law_div" ["a", "b"] sp_law_div) (C_law_share : Cal P w K mg base 3 "_law_share" ["d", "wide"] sp_law_share) (C_law_value_at : Cal P w K mg base 4 "_law_value_at" ["numbers", "point"] sp_law_value_at) : Cal P w K mg base 5 "_law_points" ["d", "forms", "k"] sp_law_points :=
  .mk_ DF (fun F => F.binds (fun _ _ _ _ _ _ us hl => match us, hl with | [_, _, _], _ => rfl)) fun F => okA F sc_law_points (fun _ _ _ _ q => A3_len q) (fun cdv A outer s H E hr =>
    (ass_cons (as_set (i := 3) sc_law_points.nd rfl (Or.inl rfl) (ae_lst (aa_cons (ae_callTy call_tupleA (by rfl) T.tuple (by decide +kernel) (aa_cons (ae_lc (gr := (gName 11)) rfl sc_law_points.nd (ai_range1 (by rfl) T.range (aa_cons (ae_var 2 (pv 2)) aa_nil)) (blkOk_by (N := ["d", "forms", "k", "points", "given", "places", "at", "near", "border", "step", "side", "i"]) (sc := defScope st_law_points) (own := [("i", 11)]) (by decide +kernel)) (cg_name (by decide)) (fun _ _ _ _ _ hq q => hq _ _ q) (fun _ _ _ _ _ => pg_name (i := 11) sc_law_points.nd rfl (Or.inl rfl)) (fun _ _ _ _ _ => ats_nil) (fun _ _ _ _ _ => (ae_cal C_law_share (hr.mono (by decide)) (by rfl) (aa_cons (ae_var 0 (pv 0)) (aa_cons (ae_cmp op_ltA (ae_var 2 (pv 2)) ae_int (nomark _)) aa_nil))))) aa_nil)) aa_nil)))
    (ass_cons (as_for PassesOwn.never rfl (ai_seq (ae_var 1 (pv 1))) (ag_name (i := 4) sc_law_points.nd rfl (Or.inr rfl)) (ass_cons (as_setLc (i := 5) (gr := (gName 11)) rfl sc_law_points.nd rfl rfl (sw_true rfl rfl rfl (by decide +kernel)) (ai_range1 (by rfl) T.range (aa_cons (ae_var 2 (pv 2)) aa_nil)) (blkOk_by (N := ["d", "forms", "k", "points", "given", "places", "at", "near", "border", "step", "side", "i"]) (sc := defScope st_law_points) (own := [("i", 11)]) (by decide +kernel)) (cg_name (by decide)) (fun _ _ _ _ _ hq q => hq _ _ q) (fun _ _ _ _ _ => pg_name (i := 11) sc_law_points.nd rfl (Or.inl rfl)) (fun _ _ _ _ _ => ats_one (at_cmp (op_neA hr.units) (ae_ix (ix_A (hu_of hr)) (ae_var 4 (pv 4)) (ae_op op_addA ae_int (ae_var 11 (pv 11))) (fun _ _ => rfl)) ae_int (nomark _))) (fun _ _ _ _ _ => (ae_var 11 (pv 11))))
    (ass_cons (as_if (at_cmp (op_eqA hr.units) (ae_callB call_lenA (by rfl) T.len (by decide +kernel) (aa_cons (ae_var 5 (pv 5)) aa_nil)) ae_int (nomark _)) (ass_one as_cont) ass_nil)
    (ass_cons (as_set (i := 6) sc_law_points.nd rfl (Or.inl rfl) (ae_cal C_law_pick (hr.mono (by decide)) (by rfl) (aa_cons (ae_var 0 (pv 0)) (aa_cons (ae_var 5 (pv 5)) aa_nil))))
    (ass_cons (as_set (i := 7) sc_law_points.nd rfl (Or.inl rfl) (ae_callTy call_listA (by rfl) T.list (by decide +kernel) (aa_cons (ae_ix (ix_A (hu_of hr)) (ae_var 3 (pv 3)) ae_int (fun _ _ => rfl)) aa_nil)))
    (ass_cons (as_asg (ae_tup (aa_cons ae_int (aa_cons ae_int aa_nil))) (ag_sub (ae_var 7 (pv 7)) (ae_var 6 (pv 6)) (set_A (hu_of hr))))
    (ass_cons (as_set (i := 8) sc_law_points.nd rfl (Or.inl rfl) (ae_cal C_law_div (hr.mono (by decide)) (by rfl) (aa_cons (ae_cal C_law_value_at (hr.mono (by decide)) (by rfl) (aa_cons (ae_var 4 (pv 4)) (aa_cons (ae_var 7 (pv 7)) aa_nil))) (aa_cons (ae_tup (aa_cons (ae_un un_negA (ae_ix (ix_A (hu_of hr)) (ae_var 4 (pv 4)) (ae_op op_addA ae_int (ae_var 6 (pv 6))) (fun _ _ => rfl))) (aa_cons ae_int aa_nil))) aa_nil))))
    (ass_cons (as_set (i := 9) sc_law_points.nd rfl (Or.inl rfl) (ae_op op_addA ae_int (ae_cal C_law_draw (hr.mono (by decide)) (by rfl) (aa_cons (ae_var 0 (pv 0)) (aa_cons (ae_op op_powA ae_int ae_int) aa_nil)))))
    (ass_one (as_for PassesOwn.never rfl (ai_seq (ae_lst (aa_cons ae_int (aa_cons ae_int (aa_cons (ae_un un_negA ae_int) aa_nil))))) (ag_name (i := 10) sc_law_points.nd rfl (Or.inl rfl)) (ass_cons (as_asg (ae_cal C_law_add (hr.mono (by decide)) (by rfl) (aa_cons (ae_var 8 (pv 8)) (aa_cons (ae_cal C_law_r (hr.mono (by decide)) (by rfl) (aa_cons (ae_var 10 (pv 10)) (aa_cons (ae_var 9 (pv 9)) aa_nil))) aa_nil))) (ag_sub (ae_var 7 (pv 7)) (ae_var 6 (pv 6)) (set_A (hu_of hr))))
    (ass_one (as_expr (ae_bm (ts := fun _ _ _ => False) ok_lst (pe_bm PySem.F.plainAttrs_list PySem.F.slot_list_append PySem.F.type_list_append mt_appendA (ae_var 3 (pv 3)) (aa_cons (ae_callTy call_tupleA (by rfl) T.tuple (by decide +kernel) (aa_cons (ae_var 7 (pv 7)) aa_nil)) aa_nil))))))))))))))))
    (ass_one (as_ret (ae_var 3 (pv 3)))))))
    fun xs h R c1 c2 q => match xs, q with | [x0, x1, x2], q => pure_law_points x0 x1 x2 h R c1 c2 q
abbrev st_law_holds : Stmt := topS 26
theorem sc_law_holds : FnScope ["row", "point", "value"] ["row", "point"] (defScope st_law_holds) := ⟨rfl, rfl, rfl, by decide +kernel, rfl, by decide +kernel, by decide +kernel⟩
theorem cal_law_holds (T : Txt K mg) (DF : DefIs K mg "_law_holds" st_law_holds) (C_law_value_at : Cal P w K mg base 4 "_law_value_at" ["numbers", "point"] sp_law_value_at) : Cal P w K mg base 5 "_law_holds" ["row", "point"] sp_law_holds :=
  .mk_ DF (fun F => F.binds (fun _ _ _ _ _ _ us hl => match us, hl with | [_, _], _ => rfl)) fun F => okA F sc_law_holds (fun _ _ _ _ q => A2_len q) (fun cdv A outer s H E hr =>
    (ass_cons (as_set (i := 2) sc_law_holds.nd rfl (Or.inl rfl) (ae_cal C_law_value_at (hr.mono (by decide)) (by rfl) (aa_cons (ae_var 0 (pv 0)) (aa_cons (ae_var 1 (pv 1)) aa_nil))))
    (ass_one (as_ret (ae_or (ae_cmp op_gtA (ae_ix (ix_A (hu_of hr)) (ae_var 2 (pv 2)) ae_int (fun _ _ => rfl)) ae_int (nomark _)) (ae_one (ae_and (ae_cmp (op_eqA hr.units) (ae_ix (ix_A (hu_of hr)) (ae_var 2 (pv 2)) ae_int (fun _ _ => rfl)) ae_int (nomark _)) (ae_one (ae_cmp (op_eqA hr.units) (ae_ix (ix_A (hu_of hr)) (ae_var 0 (pv 0)) ae_int (fun _ _ => rfl)) ae_int (nomark _))))))))))
    fun xs h R c1 c2 q => match xs, q with | [x0, x1], q => pure_law_holds x0 x1 h R c1 c2 q
abbrev st_law_row_asked : Stmt := topS 27
theorem sc_law_row_asked : FnScope ["given", "factor", "strict", "points", "due", "back", "side", "other", "point", "holds", "number"] ["given", "factor", "strict", "points"] (defScope st_law_row_asked) := ⟨rfl, rfl, rfl, by decide +kernel, rfl, by decide +kernel, by decide +kernel⟩
theorem cal_law_row_asked (T : Txt K mg) (DF : DefIs K mg "_law_row_asked" st_law_row_asked) (C_form_times : Cal P w K mg base 3 "form_times" ["a", "r"] sp_form_times) (C_row_of : Cal P w K mg base 3 "row_of" ["form", "strict"] sp_row_of) (C_turned : Cal P w K mg base 1 "turned" ["row"] sp_turned) (C_row_holds : Cal P w K mg base 1 "row_holds" ["row", "point"] sp_row_holds) (C_law_lowest : Cal P w K mg base 2 "_law_lowest" ["row"] sp_law_lowest) (C_law_same : Cal P w K mg base 9 "_law_same" ["told", "due"] (sp_law_same 8)) (C_law_holds : Cal P w K mg base 5 "_law_holds" ["row", "point"] sp_law_holds) : Cal P w K mg base 10 "_law_row_asked" ["given", "factor", "strict", "points"] sp_law_row_asked :=
  .mk_ DF (fun F => F.binds (fun _ _ _ _ _ _ us hl => match us, hl with | [_, _, _, _], _ => rfl)) fun F => okA F sc_law_row_asked (fun _ _ _ _ q => A4_len q) (fun cdv A outer s H E hr =>
    (ass_cons (as_set (i := 4) sc_law_row_asked.nd rfl (Or.inl rfl) (ae_op op_addA (ae_tup (aa_cons (ae_var 2 (pv 2)) aa_nil)) (ae_callTy call_tupleA (by rfl) T.tuple (by decide +kernel) (aa_cons (ae_cal C_law_lowest (hr.mono (by decide)) (by rfl) (aa_cons (ae_slice sl_A (ae_var 0 (pv 0)) (ao_some ae_int) ao_none) aa_nil)) aa_nil))))
    (ass_cons (as_set (i := 5) sc_law_row_asked.nd rfl (Or.inl rfl) (ae_op op_addA (ae_tup (aa_cons (ae_op op_subA ae_int (ae_var 2 (pv 2))) aa_nil)) (ae_callTy call_tupleA (by rfl) T.tuple (by decide +kernel) (aa_cons (ae_lc (gr := (gName 10)) rfl sc_law_row_asked.nd (ai_seq (ae_slice sl_A (ae_var 4 (pv 4)) (ao_some ae_int) ao_none)) (blkOk_by (N := ["given", "factor", "strict", "points", "due", "back", "side", "other", "point", "holds", "number"]) (sc := defScope st_law_row_asked) (own := [("number", 10)]) (by decide +kernel)) (cg_name (by decide)) (fun _ _ _ _ _ hq q => hq _ _ q) (fun _ _ _ _ _ => pg_name (i := 10) sc_law_row_asked.nd rfl (Or.inl rfl)) (fun _ _ _ _ _ => ats_nil) (fun _ _ _ _ _ => (ae_un un_negA (ae_var 10 (pv 10))))) aa_nil))))
    (ass_cons (as_if (at_w (aw_or (at_not (at_tru tru_A (ae_cal C_law_same (hr.mono (by decide)) (by rfl) (aa_cons (ae_cal C_row_of (hr.mono (by decide)) (by rfl) (aa_cons (ae_var 0 (pv 0)) (aa_cons (ae_var 2 (pv 2)) aa_nil))) (aa_cons (ae_var 4 (pv 4)) aa_nil))))) (aw_or1 (at_not (at_tru tru_A (ae_cal C_law_same (hr.mono (by decide)) (by rfl) (aa_cons (ae_cal C_turned (hr.mono (by decide)) (by rfl) (aa_cons (ae_var 4 (pv 4)) aa_nil)) (aa_cons (ae_var 5 (pv 5)) aa_nil)))))))) (ass_one (as_ret ae_bl)) ass_nil)
    (ass_cons (as_if (at_not (at_tru tru_A (ae_cal C_law_same (hr.mono (by decide)) (by rfl) (aa_cons (ae_cal C_turned (hr.mono (by decide)) (by rfl) (aa_cons (ae_cal C_turned (hr.mono (by decide)) (by rfl) (aa_cons (ae_var 4 (pv 4)) aa_nil)) aa_nil)) (aa_cons (ae_var 4 (pv 4)) aa_nil))))) (ass_one (as_ret ae_bl)) ass_nil)
    (ass_cons (as_set (i := 6) sc_law_row_asked.nd rfl (Or.inr rfl) (ae_ifExp (at_cmp op_gtA (ae_ix (ix_A (hu_of hr)) (ae_var 1 (pv 1)) ae_int (fun _ _ => rfl)) ae_int (nomark _)) ae_int (ae_un un_negA ae_int)))
    (ass_cons (as_set (i := 7) sc_law_row_asked.nd rfl (Or.inl rfl) (ae_op op_addA (ae_tup (aa_cons (ae_var 2 (pv 2)) aa_nil)) (ae_callTy call_tupleA (by rfl) T.tuple (by decide +kernel) (aa_cons (ae_lc (gr := (gName 10)) rfl sc_law_row_asked.nd (ai_seq (ae_slice sl_A (ae_var 4 (pv 4)) (ao_some ae_int) ao_none)) (blkOk_by (N := ["given", "factor", "strict", "points", "due", "back", "side", "other", "point", "holds", "number"]) (sc := defScope st_law_row_asked) (own := [("number", 10)]) (by decide +kernel)) (cg_name (by decide)) (fun _ _ _ _ _ hq q => hq _ _ q) (fun _ _ _ _ _ => pg_name (i := 10) sc_law_row_asked.nd rfl (Or.inl rfl)) (fun _ _ _ _ _ => ats_nil) (fun _ _ _ _ _ => (ae_op op_mulA (ae_var 6 (pv 6)) (ae_var 10 (pv 10))))) aa_nil))))
    (ass_cons (as_if (at_not (at_tru tru_A (ae_cal C_law_same (hr.mono (by decide)) (by rfl) (aa_cons (ae_cal C_row_of (hr.mono (by decide)) (by rfl) (aa_cons (ae_cal C_form_times (hr.mono (by decide)) (by rfl) (aa_cons (ae_var 0 (pv 0)) (aa_cons (ae_var 1 (pv 1)) aa_nil))) (aa_cons (ae_var 2 (pv 2)) aa_nil))) (aa_cons (ae_var 7 (pv 7)) aa_nil))))) (ass_one (as_ret ae_bl)) ass_nil)
    (ass_cons (as_for PassesOwn.never rfl (ai_seq (ae_var 3 (pv 3))) (ag_name (i := 8) sc_law_row_asked.nd rfl (Or.inl rfl)) (ass_cons (as_set (i := 9) sc_law_row_asked.nd rfl (Or.inl rfl) (ae_cal C_law_holds (hr.mono (by decide)) (by rfl) (aa_cons (ae_var 4 (pv 4)) (aa_cons (ae_var 8 (pv 8)) aa_nil))))
    (ass_one (as_if (at_w (aw_or (at_not (at_tru tru_A (ae_cal C_law_same (hr.mono (by decide)) (by rfl) (aa_cons (ae_cal C_row_holds (hr.mono (by decide)) (by rfl) (aa_cons (ae_var 4 (pv 4)) (aa_cons (ae_var 8 (pv 8)) aa_nil))) (aa_cons (ae_var 9 (pv 9)) aa_nil))))) (aw_or1 (at_not (at_tru tru_A (ae_cal C_law_same (hr.mono (by decide)) (by rfl) (aa_cons (ae_cal C_row_holds (hr.mono (by decide)) (by rfl) (aa_cons (ae_var 5 (pv 5)) (aa_cons (ae_var 8 (pv 8)) aa_nil))) (aa_cons (ae_not (ae_var 9 (pv 9))) aa_nil)))))))) (ass_one (as_ret ae_bl)) ass_nil))))
    (ass_one (as_ret ae_bl)))))))))))
    fun xs h R c1 c2 q => match xs, q with | [x0, x1, x2, x3], q => pure_law_row_asked x0 x1 x2 x3 h R c1 c2 q
abbrev st_law_choice : Stmt := topS 28
theorem sc_law_choice : FnScope ["d", "forms", "rows", "given", "way", "strict", "numbers", "number"] ["d", "forms"] (defScope st_law_choice) := ⟨rfl, rfl, rfl, by decide +kernel, rfl, by decide +kernel, by decide +kernel⟩
theorem cal_law_choice (T : Txt K mg) (DF : DefIs K mg "_law_choice" st_law_choice) (C_law_draw : Cal P w K mg base 1 "_law_draw" ["d", "many"] sp_law_draw) (C_law_lowest : Cal P w K mg base 2 "_law_lowest" ["row"] sp_law_lowest) : Cal P w K mg base 3 "_law_choice" ["d", "forms"] sp_law_choice :=
  .mk_ DF (fun F => F.binds (fun _ _ _ _ _ _ us hl => match us, hl with | [_, _], _ => rfl)) fun F => okA F sc_law_choice (fun _ _ _ _ q => A2_len q) (fun cdv A outer s H E hr =>
    (ass_cons (as_set (i := 2) sc_law_choice.nd rfl (Or.inl rfl) (ae_lst aa_nil))
    (ass_cons (as_for PassesOwn.never rfl (ai_seq (ae_var 1 (pv 1))) (ag_name (i := 3) sc_law_choice.nd rfl (Or.inl rfl)) (ass_cons (as_set (i := 4) sc_law_choice.nd rfl (Or.inl rfl) (ae_cal C_law_draw (hr.mono (by decide)) (by rfl) (aa_cons (ae_var 0 (pv 0)) (aa_cons ae_int aa_nil))))
    (ass_cons (as_set (i := 5) sc_law_choice.nd rfl (Or.inl rfl) (ae_cal C_law_draw (hr.mono (by decide)) (by rfl) (aa_cons (ae_var 0 (pv 0)) (aa_cons ae_int aa_nil))))
    (ass_cons (as_set (i := 6) sc_law_choice.nd rfl (Or.inl rfl) (ae_cal C_law_lowest (hr.mono (by decide)) (by rfl) (aa_cons (ae_slice sl_A (ae_var 3 (pv 3)) (ao_some ae_int) ao_none) aa_nil)))
    (ass_cons (as_if (at_cmp (op_eqA hr.units) (ae_var 4 (pv 4)) ae_int (nomark _)) (ass_one (as_setLc (i := 6) (gr := (gName 7)) rfl sc_law_choice.nd rfl rfl (sw_true rfl rfl rfl (by decide +kernel)) (ai_seq (ae_var 6 (pv 6))) (blkOk_by (N := ["d", "forms", "rows", "given", "way", "strict", "numbers", "number"]) (sc := defScope st_law_choice) (own := [("number", 7)]) (by decide +kernel)) (cg_name (by decide)) (fun _ _ _ _ _ hq q => hq _ _ q) (fun _ _ _ _ _ => pg_name (i := 7) sc_law_choice.nd rfl (Or.inl rfl)) (fun _ _ _ _ _ => ats_nil) (fun _ _ _ _ _ => (ae_un un_negA (ae_var 7 (pv 7)))))) ass_nil)
    (ass_one (as_if (at_cmp op_gtA (ae_var 4 (pv 4)) ae_int (nomark _)) (ass_one (as_expr (ae_bm (ts := fun _ _ _ => False) ok_lst (pe_bm PySem.F.plainAttrs_list PySem.F.slot_list_append PySem.F.type_list_append mt_appendA (ae_var 2 (pv 2)) (aa_cons (ae_op op_addA (ae_tup (aa_cons (ae_var 5 (pv 5)) aa_nil)) (ae_callTy call_tupleA (by rfl) T.tuple (by decide +kernel) (aa_cons (ae_var 6 (pv 6)) aa_nil))) aa_nil))))) ass_nil)))))))
    (ass_one (as_ret (ae_var 2 (pv 2)))))))
    fun xs h R c1 c2 q => match xs, q with | [x0, x1], q => pure_law_choice x0 x1 h R c1 c2 q
abbrev st_law : Stmt := topS 29
theorem sc_law : FnScope ["script", "d", "k", "forms", "points", "given", "factor", "strict", "rows", "point", "due", "turn", "row"] ["script"] (defScope st_law) := ⟨rfl, rfl, rfl, by decide +kernel, rfl, by decide +kernel, by decide +kernel⟩
theorem ok_law (T : Txt K mg) {f : Addr} {fd : FuncData} (F : Fun K "law" "law" st_law f fd) (C_rows_hold : Cal P w K mg base 2 "rows_hold" ["rows", "point"] sp_rows_hold) (C_law_begin : Cal P w K mg base 1 "_law_begin" ["script"] sp_law_begin) (C_law_draw : Cal P w K mg base 1 "_law_draw" ["d", "many"] sp_law_draw) (C_law_rare : Cal P w K mg base 2 "_law_rare" ["d", "many"] sp_law_rare) (C_law_r : Cal P w K mg base 2 "_law_r" ["n", "d"] sp_law_r) (C_law_same : Cal P w K mg base 9 "_law_same" ["told", "due"] (sp_law_same 8)) (C_law_some_form : Cal P w K mg base 3 "_law_some_form" ["d", "k"] sp_law_some_form) (C_law_points : Cal P w K mg base 5 "_law_points" ["d", "forms", "k"] sp_law_points) (C_law_holds : Cal P w K mg base 5 "_law_holds" ["row", "point"] sp_law_holds) (C_law_row_asked : Cal P w K mg base 10 "_law_row_asked" ["given", "factor", "strict", "points"] sp_law_row_asked) (C_law_choice : Cal P w K mg base 3 "_law_choice" ["d", "forms"] sp_law_choice) : FnOk P w K mg base CX0 11 f fd ["script"] (upSp K sp_law) :=
  okA F sc_law (fun _ _ _ _ q => A1_len q) (fun cdv A outer s H E hr =>
    (ass_cons (as_set (i := 1) sc_law.nd rfl (Or.inr rfl) (ae_cal C_law_begin (hr.mono (by decide)) (by rfl) (aa_cons (ae_var 0 (pv 0)) aa_nil)))
    (ass_cons (as_set (i := 2) sc_law.nd rfl (Or.inr rfl) (ae_cal C_law_draw (hr.mono (by decide)) (by rfl) (aa_cons (ae_var 1 (pv 1)) (aa_cons ae_int aa_nil))))
    (ass_cons (as_if (at_tru tru_A (ae_cal C_law_rare (hr.mono (by decide)) (by rfl) (aa_cons (ae_var 1 (pv 1)) (aa_cons ae_int aa_nil)))) (ass_one (as_aug (i := 2) sc_law.nd rfl (Or.inr rfl) ae_int ip_addA)) ass_nil)
    (ass_cons (as_setLc (i := 3) (gr := (gName 11)) rfl sc_law.nd rfl rfl (sw_true rfl rfl rfl (by decide +kernel)) (ai_range1 (by rfl) T.range (aa_cons (ae_op op_addA ae_int (ae_cal C_law_draw (hr.mono (by decide)) (by rfl) (aa_cons (ae_var 1 (pv 1)) (aa_cons ae_int aa_nil)))) aa_nil)) (blkOk_by (N := ["script", "d", "k", "forms", "points", "given", "factor", "strict", "rows", "point", "due", "turn", "row"]) (sc := defScope st_law) (own := [("turn", 11)]) (by decide +kernel)) (cg_name (by decide)) (fun _ _ _ _ _ hq q => hq _ _ q) (fun _ _ _ _ _ => pg_name (i := 11) sc_law.nd rfl (Or.inl rfl)) (fun _ _ _ _ _ => ats_nil) (fun _ _ _ _ _ => (ae_cal C_law_some_form (hr.mono (by decide)) (by rfl) (aa_cons (ae_var 1 (pv 1)) (aa_cons (ae_var 2 (pv 2)) aa_nil)))))
    (ass_cons (as_set (i := 4) sc_law.nd rfl (Or.inl rfl) (ae_cal C_law_points (hr.mono (by decide)) (by rfl) (aa_cons (ae_var 1 (pv 1)) (aa_cons (ae_var 3 (pv 3)) (aa_cons (ae_var 2 (pv 2)) aa_nil)))))
    (ass_cons (as_for PassesOwn.never rfl (ai_seq (ae_var 3 (pv 3))) (ag_name (i := 5) sc_law.nd rfl (Or.inl rfl)) (ass_cons (as_set (i := 6) sc_law.nd rfl (Or.inl rfl) (ae_cal C_law_r (hr.mono (by decide)) (by rfl) (aa_cons (ae_op op_mulA (ae_op op_addA ae_int (ae_cal C_law_draw (hr.mono (by decide)) (by rfl) (aa_cons (ae_var 1 (pv 1)) (aa_cons ae_int aa_nil)))) (ae_op op_subA ae_int (ae_op op_mulA ae_int (ae_cal C_law_draw (hr.mono (by decide)) (by rfl) (aa_cons (ae_var 1 (pv 1)) (aa_cons ae_int aa_nil)))))) (aa_cons (ae_op op_addA ae_int (ae_cal C_law_draw (hr.mono (by decide)) (by rfl) (aa_cons (ae_var 1 (pv 1)) (aa_cons ae_int aa_nil)))) aa_nil))))
    (ass_one (as_for PassesOwn.never rfl (ai_seq (ae_lst (aa_cons ae_int (aa_cons ae_int aa_nil)))) (ag_name (i := 7) sc_law.nd rfl (Or.inl rfl)) (ass_one (as_if (at_not (at_tru tru_A (ae_cal C_law_row_asked (hr.mono (by decide)) (by rfl) (aa_cons (ae_var 5 (pv 5)) (aa_cons (ae_var 6 (pv 6)) (aa_cons (ae_var 7 (pv 7)) (aa_cons (ae_var 4 (pv 4)) aa_nil))))))) (ass_one (as_ret ae_bl)) ass_nil))))))
    (ass_cons (as_set (i := 8) sc_law.nd rfl (Or.inl rfl) (ae_cal C_law_choice (hr.mono (by decide)) (by rfl) (aa_cons (ae_var 1 (pv 1)) (aa_cons (ae_var 3 (pv 3)) aa_nil))))
    (ass_cons (as_for PassesOwn.never rfl (ai_seq (ae_var 4 (pv 4))) (ag_name (i := 9) sc_law.nd rfl (Or.inr rfl)) (ass_cons (as_set (i := 10) sc_law.nd rfl (Or.inl rfl) (ae_callB (call_allA rfl) (by rfl) T.all (by decide +kernel) (aa_cons (ae_lc (gr := (gName 12)) rfl sc_law.nd (ai_seq (ae_var 8 (pv 8))) (blkOk_by (N := ["script", "d", "k", "forms", "points", "given", "factor", "strict", "rows", "point", "due", "turn", "row"]) (sc := defScope st_law) (own := [("row", 12)]) (by decide +kernel)) (cg_name (by decide)) (fun _ _ _ _ _ hq q => hq _ _ q) (fun _ _ _ _ _ => pg_name (i := 12) sc_law.nd rfl (Or.inl rfl)) (fun _ _ _ _ _ => ats_nil) (fun _ _ _ _ _ => (ae_cal C_law_holds (hr.mono (by decide)) (by rfl) (aa_cons (ae_var 12 (pv 12)) (aa_cons (ae_var 9 (pv 9)) aa_nil))))) aa_nil)))
    (ass_one (as_if (at_w (aw_or (at_not (at_tru tru_A (ae_cal C_law_same (hr.mono (by decide)) (by rfl) (aa_cons (ae_cal C_rows_hold (hr.mono (by decide)) (by rfl) (aa_cons (ae_callTy call_tupleA (by rfl) T.tuple (by decide +kernel) (aa_cons (ae_var 8 (pv 8)) aa_nil)) (aa_cons (ae_var 9 (pv 9)) aa_nil))) (aa_cons (ae_var 10 (pv 10)) aa_nil))))) (aw_or1 (at_not (at_tru tru_A (ae_cal C_law_same (hr.mono (by decide)) (by rfl) (aa_cons (ae_cal C_rows_hold (hr.mono (by decide)) (by rfl) (aa_cons (ae_tup aa_nil) (aa_cons (ae_var 9 (pv 9)) aa_nil))) (aa_cons ae_bl aa_nil)))))))) (ass_one (as_ret ae_bl)) ass_nil))))
    (ass_one (as_ret ae_bl)))))))))))
    fun xs h R c1 c2 q => match xs, q with | [x0], q => pure_law x0 h R c1 c2 q
end
theorem all_mk {l : PySem.W.OpenLaw} {w : World} {K : PySem.W.Frag} {h : Heap} {mg : Str → Option Value} {fa : Addr} (X : K.In h) (G : h.Ns mainGlobals mg) (hfa : mg "law" = some (.ref fa))
    {f_common_divisor : Addr} {od_common_divisor an_common_divisor : Option Addr} {sl_common_divisor : Array (Option Value)} {oc_common_divisor kV_common_divisor dc_common_divisor pm_common_divisor cd_common_divisor ct_common_divisor : Value}
    {f_zero_form : Addr} {od_zero_form an_zero_form : Option Addr} {sl_zero_form : Array (Option Value)} {oc_zero_form kV_zero_form dc_zero_form pm_zero_form cd_zero_form ct_zero_form : Value}
    {f_turned : Addr} {od_turned an_turned : Option Addr} {sl_turned : Array (Option Value)} {oc_turned kV_turned dc_turned pm_turned cd_turned ct_turned : Value}
    {f_row_holds : Addr} {od_row_holds an_row_holds : Option Addr} {sl_row_holds : Array (Option Value)} {oc_row_holds kV_row_holds dc_row_holds pm_row_holds cd_row_holds ct_row_holds : Value}
    {f_law_begin : Addr} {od_law_begin an_law_begin : Option Addr} {sl_law_begin : Array (Option Value)} {oc_law_begin kV_law_begin dc_law_begin pm_law_begin cd_law_begin ct_law_begin : Value}
    {f_law_draw : Addr} {od_law_draw an_law_draw : Option Addr} {sl_law_draw : Array (Option Value)} {oc_law_draw kV_law_draw dc_law_draw pm_law_draw cd_law_draw ct_law_draw : Value}
    {f_law_gcd : Addr} {od_law_gcd an_law_gcd : Option Addr} {sl_law_gcd : Array (Option Value)} {oc_law_gcd kV_law_gcd dc_law_gcd pm_law_gcd cd_law_gcd ct_law_gcd : Value}
    {f_lowest : Addr} {od_lowest an_lowest : Option Addr} {sl_lowest : Array (Option Value)} {oc_lowest kV_lowest dc_lowest pm_lowest cd_lowest ct_lowest : Value}
    {f_rows_hold : Addr} {od_rows_hold an_rows_hold : Option Addr} {sl_rows_hold : Array (Option Value)} {oc_rows_hold kV_rows_hold dc_rows_hold pm_rows_hold cd_rows_hold ct_rows_hold : Value}
    {f_law_pick : Addr} {od_law_pick an_law_pick : Option Addr} {sl_law_pick : Array (Option Value)} {oc_law_pick kV_law_pick dc_law_pick pm_law_pick cd_law_pick ct_law_pick : Value}
    {f_law_rare : Addr} {od_law_rare an_law_rare : Option Addr} {sl_law_rare : Array (Option Value)} {oc_law_rare kV_law_rare dc_law_rare pm_law_rare cd_law_rare ct_law_rare : Value}
    {f_law_r : Addr} {od_law_r an_law_r : Option Addr} {sl_law_r : Array (Option Value)} {oc_law_r kV_law_r dc_law_r pm_law_r cd_law_r ct_law_r : Value}
    {f_law_lowest : Addr} {od_law_lowest an_law_lowest : Option Addr} {sl_law_lowest : Array (Option Value)} {oc_law_lowest kV_law_lowest dc_law_lowest pm_law_lowest cd_law_lowest ct_law_lowest : Value}
    {f_form_times : Addr} {od_form_times an_form_times : Option Addr} {sl_form_times : Array (Option Value)} {oc_form_times kV_form_times dc_form_times pm_form_times cd_form_times ct_form_times : Value}
    {f_row_of : Addr} {od_row_of an_row_of : Option Addr} {sl_row_of : Array (Option Value)} {oc_row_of kV_row_of dc_row_of pm_row_of cd_row_of ct_row_of : Value}
    {f_law_add : Addr} {od_law_add an_law_add : Option Addr} {sl_law_add : Array (Option Value)} {oc_law_add kV_law_add dc_law_add pm_law_add cd_law_add ct_law_add : Value}
    {f_law_mul : Addr} {od_law_mul an_law_mul : Option Addr} {sl_law_mul : Array (Option Value)} {oc_law_mul kV_law_mul dc_law_mul pm_law_mul cd_law_mul ct_law_mul : Value}
    {f_law_div : Addr} {od_law_div an_law_div : Option Addr} {sl_law_div : Array (Option Value)} {oc_law_div kV_law_div dc_law_div pm_law_div cd_law_div ct_law_div : Value}
    {f_law_share : Addr} {od_law_share an_law_share : Option Addr} {sl_law_share : Array (Option Value)} {oc_law_share kV_law_share dc_law_share pm_law_share cd_law_share ct_law_share : Value}
    {f_law_some_form : Addr} {od_law_some_form an_law_some_form : Option Addr} {sl_law_some_form : Array (Option Value)} {oc_law_some_form kV_law_some_form dc_law_some_form pm_law_some_form cd_law_some_form ct_law_some_form : Value}
    {f_law_choice : Addr} {od_law_choice an_law_choice : Option Addr} {sl_law_choice : Array (Option Value)} {oc_law_choice kV_law_choice dc_law_choice pm_law_choice cd_law_choice ct_law_choice : Value}
    {f_law_value_at : Addr} {od_law_value_at an_law_value_at : Option Addr} {sl_law_value_at : Array (Option Value)} {oc_law_value_at kV_law_value_at dc_law_value_at pm_law_value_at cd_law_value_at ct_law_value_at : Value}
    {f_law_points : Addr} {od_law_points an_law_points : Option Addr} {sl_law_points : Array (Option Value)} {oc_law_points kV_law_points dc_law_points pm_law_points cd_law_points ct_law_points : Value}
    {f_law_holds : Addr} {od_law_holds an_law_holds : Option Addr} {sl_law_holds : Array (Option Value)} {oc_law_holds kV_law_holds dc_law_holds pm_law_holds cd_law_holds ct_law_holds : Value}
    {f_law_same : Addr} {od_law_same an_law_same : Option Addr} {sl_law_same : Array (Option Value)} {oc_law_same kV_law_same dc_law_same pm_law_same cd_law_same ct_law_same : Value}
    {f_law_row_asked : Addr} {od_law_row_asked an_law_row_asked : Option Addr} {sl_law_row_asked : Array (Option Value)} {oc_law_row_asked kV_law_row_asked dc_law_row_asked pm_law_row_asked cd_law_row_asked ct_law_row_asked : Value}
    {f_law : Addr} {od_law an_law : Option Addr} {sl_law : Array (Option Value)} {oc_law kV_law dc_law pm_law cd_law ct_law : Value}
    (a_common_divisor : PySem.W.nsIn K mainGlobals "common_divisor" = some (some (.ref f_common_divisor)))
    (l_common_divisor : K.lookup f_common_divisor = some ⟨oc_common_divisor, od_common_divisor, .func (PySem.W.fnOf "common_divisor" "common_divisor" (defArgs st_common_divisor) (defBody st_common_divisor) (defScope st_common_divisor) .none kV_common_divisor dc_common_divisor pm_common_divisor an_common_divisor cd_common_divisor ct_common_divisor), sl_common_divisor⟩)
    (c_common_divisor : PySem.W.codeIn K cd_common_divisor "common_divisor" = true)
    (k_common_divisor : PySem.W.keepIn K (.ref f_common_divisor) = true)
    (a_zero_form : PySem.W.nsIn K mainGlobals "zero_form" = some (some (.ref f_zero_form)))
    (l_zero_form : K.lookup f_zero_form = some ⟨oc_zero_form, od_zero_form, .func (PySem.W.fnOf "zero_form" "zero_form" (defArgs st_zero_form) (defBody st_zero_form) (defScope st_zero_form) .none kV_zero_form dc_zero_form pm_zero_form an_zero_form cd_zero_form ct_zero_form), sl_zero_form⟩)
    (c_zero_form : PySem.W.codeIn K cd_zero_form "zero_form" = true)
    (k_zero_form : PySem.W.keepIn K (.ref f_zero_form) = true)
    (a_turned : PySem.W.nsIn K mainGlobals "turned" = some (some (.ref f_turned)))
    (l_turned : K.lookup f_turned = some ⟨oc_turned, od_turned, .func (PySem.W.fnOf "turned" "turned" (defArgs st_turned) (defBody st_turned) (defScope st_turned) .none kV_turned dc_turned pm_turned an_turned cd_turned ct_turned), sl_turned⟩)
    (c_turned : PySem.W.codeIn K cd_turned "turned" = true)
    (k_turned : PySem.W.keepIn K (.ref f_turned) = true)
    (a_row_holds : PySem.W.nsIn K mainGlobals "row_holds" = some (some (.ref f_row_holds)))
    (l_row_holds : K.lookup f_row_holds = some ⟨oc_row_holds, od_row_holds, .func (PySem.W.fnOf "row_holds" "row_holds" (defArgs st_row_holds) (defBody st_row_holds) (defScope st_row_holds) .none kV_row_holds dc_row_holds pm_row_holds an_row_holds cd_row_holds ct_row_holds), sl_row_holds⟩)
    (c_row_holds : PySem.W.codeIn K cd_row_holds "row_holds" = true)
    (k_row_holds : PySem.W.keepIn K (.ref f_row_holds) = true)
    (a_law_begin : PySem.W.nsIn K mainGlobals "_law_begin" = some (some (.ref f_law_begin)))
    (l_law_begin : K.lookup f_law_begin = some ⟨oc_law_begin, od_law_begin, .func (PySem.W.fnOf "_law_begin" "_law_begin" (defArgs st_law_begin) (defBody st_law_begin) (defScope st_law_begin) .none kV_law_begin dc_law_begin pm_law_begin an_law_begin cd_law_begin ct_law_begin), sl_law_begin⟩)
    (c_law_begin : PySem.W.codeIn K cd_law_begin "_law_begin" = true)
    (k_law_begin : PySem.W.keepIn K (.ref f_law_begin) = true)
    (a_law_draw : PySem.W.nsIn K mainGlobals "_law_draw" = some (some (.ref f_law_draw)))
    (l_law_draw : K.lookup f_law_draw = some ⟨oc_law_draw, od_law_draw, .func (PySem.W.fnOf "_law_draw" "_law_draw" (defArgs st_law_draw) (defBody st_law_draw) (defScope st_law_draw) .none kV_law_draw dc_law_draw pm_law_draw an_law_draw cd_law_draw ct_law_draw), sl_law_draw⟩)
    (c_law_draw : PySem.W.codeIn K cd_law_draw "_law_draw" = true)
    (k_law_draw : PySem.W.keepIn K (.ref f_law_draw) = true)
    (a_law_gcd : PySem.W.nsIn K mainGlobals "_law_gcd" = some (some (.ref f_law_gcd)))
    (l_law_gcd : K.lookup f_law_gcd = some ⟨oc_law_gcd, od_law_gcd, .func (PySem.W.fnOf "_law_gcd" "_law_gcd" (defArgs st_law_gcd) (defBody st_law_gcd) (defScope st_law_gcd) .none kV_law_gcd dc_law_gcd pm_law_gcd an_law_gcd cd_law_gcd ct_law_gcd), sl_law_gcd⟩)
    (c_law_gcd : PySem.W.codeIn K cd_law_gcd "_law_gcd" = true)
    (k_law_gcd : PySem.W.keepIn K (.ref f_law_gcd) = true)
    (a_lowest : PySem.W.nsIn K mainGlobals "lowest" = some (some (.ref f_lowest)))
    (l_lowest : K.lookup f_lowest = some ⟨oc_lowest, od_lowest, .func (PySem.W.fnOf "lowest" "lowest" (defArgs st_lowest) (defBody st_lowest) (defScope st_lowest) .none kV_lowest dc_lowest pm_lowest an_lowest cd_lowest ct_lowest), sl_lowest⟩)
    (c_lowest : PySem.W.codeIn K cd_lowest "lowest" = true)
    (k_lowest : PySem.W.keepIn K (.ref f_lowest) = true)
    (a_rows_hold : PySem.W.nsIn K mainGlobals "rows_hold" = some (some (.ref f_rows_hold)))
    (l_rows_hold : K.lookup f_rows_hold = some ⟨oc_rows_hold, od_rows_hold, .func (PySem.W.fnOf "rows_hold" "rows_hold" (defArgs st_rows_hold) (defBody st_rows_hold) (defScope st_rows_hold) .none kV_rows_hold dc_rows_hold pm_rows_hold an_rows_hold cd_rows_hold ct_rows_hold), sl_rows_hold⟩)
    (c_rows_hold : PySem.W.codeIn K cd_rows_hold "rows_hold" = true)
    (k_rows_hold : PySem.W.keepIn K (.ref f_rows_hold) = true)
    (a_law_pick : PySem.W.nsIn K mainGlobals "_law_pick" = some (some (.ref f_law_pick)))
    (l_law_pick : K.lookup f_law_pick = some ⟨oc_law_pick, od_law_pick, .func (PySem.W.fnOf "_law_pick" "_law_pick" (defArgs st_law_pick) (defBody st_law_pick) (defScope st_law_pick) .none kV_law_pick dc_law_pick pm_law_pick an_law_pick cd_law_pick ct_law_pick), sl_law_pick⟩)
    (c_law_pick : PySem.W.codeIn K cd_law_pick "_law_pick" = true)
    (k_law_pick : PySem.W.keepIn K (.ref f_law_pick) = true)
    (a_law_rare : PySem.W.nsIn K mainGlobals "_law_rare" = some (some (.ref f_law_rare)))
    (l_law_rare : K.lookup f_law_rare = some ⟨oc_law_rare, od_law_rare, .func (PySem.W.fnOf "_law_rare" "_law_rare" (defArgs st_law_rare) (defBody st_law_rare) (defScope st_law_rare) .none kV_law_rare dc_law_rare pm_law_rare an_law_rare cd_law_rare ct_law_rare), sl_law_rare⟩)
    (c_law_rare : PySem.W.codeIn K cd_law_rare "_law_rare" = true)
    (k_law_rare : PySem.W.keepIn K (.ref f_law_rare) = true)
    (a_law_r : PySem.W.nsIn K mainGlobals "_law_r" = some (some (.ref f_law_r)))
    (l_law_r : K.lookup f_law_r = some ⟨oc_law_r, od_law_r, .func (PySem.W.fnOf "_law_r" "_law_r" (defArgs st_law_r) (defBody st_law_r) (defScope st_law_r) .none kV_law_r dc_law_r pm_law_r an_law_r cd_law_r ct_law_r), sl_law_r⟩)
    (c_law_r : PySem.W.codeIn K cd_law_r "_law_r" = true)
    (k_law_r : PySem.W.keepIn K (.ref f_law_r) = true)
    (a_law_lowest : PySem.W.nsIn K mainGlobals "_law_lowest" = some (some (.ref f_law_lowest)))
    (l_law_lowest : K.lookup f_law_lowest = some ⟨oc_law_lowest, od_law_lowest, .func (PySem.W.fnOf "_law_lowest" "_law_lowest" (defArgs st_law_lowest) (defBody st_law_lowest) (defScope st_law_lowest) .none kV_law_lowest dc_law_lowest pm_law_lowest an_law_lowest cd_law_lowest ct_law_lowest), sl_law_lowest⟩)
    (c_law_lowest : PySem.W.codeIn K cd_law_lowest "_law_lowest" = true)
    (k_law_lowest : PySem.W.keepIn K (.ref f_law_lowest) = true)
    (a_form_times : PySem.W.nsIn K mainGlobals "form_times" = some (some (.ref f_form_times)))
    (l_form_times : K.lookup f_form_times = some ⟨oc_form_times, od_form_times, .func (PySem.W.fnOf "form_times" "form_times" (defArgs st_form_times) (defBody st_form_times) (defScope st_form_times) .none kV_form_times dc_form_times pm_form_times an_form_times cd_form_times ct_form_times), sl_form_times⟩)
    (c_form_times : PySem.W.codeIn K cd_form_times "form_times" = true)
    (k_form_times : PySem.W.keepIn K (.ref f_form_times) = true)
    (a_row_of : PySem.W.nsIn K mainGlobals "row_of" = some (some (.ref f_row_of)))
    (l_row_of : K.lookup f_row_of = some ⟨oc_row_of, od_row_of, .func (PySem.W.fnOf "row_of" "row_of" (defArgs st_row_of) (defBody st_row_of) (defScope st_row_of) .none kV_row_of dc_row_of pm_row_of an_row_of cd_row_of ct_row_of), sl_row_of⟩)
    (c_row_of : PySem.W.codeIn K cd_row_of "row_of" = true)
    (k_row_of : PySem.W.keepIn K (.ref f_row_of) = true)
    (a_law_add : PySem.W.nsIn K mainGlobals "_law_add" = some (some (.ref f_law_add)))
    (l_law_add : K.lookup f_law_add = some ⟨oc_law_add, od_law_add, .func (PySem.W.fnOf "_law_add" "_law_add" (defArgs st_law_add) (defBody st_law_add) (defScope st_law_add) .none kV_law_add dc_law_add pm_law_add an_law_add cd_law_add ct_law_add), sl_law_add⟩)
    (c_law_add : PySem.W.codeIn K cd_law_add "_law_add" = true)
    (k_law_add : PySem.W.keepIn K (.ref f_law_add) = true)
    (a_law_mul : PySem.W.nsIn K mainGlobals "_law_mul" = some (some (.ref f_law_mul)))
    (l_law_mul : K.lookup f_law_mul = some ⟨oc_law_mul, od_law_mul, .func (PySem.W.fnOf "_law_mul" "_law_mul" (defArgs st_law_mul) (defBody st_law_mul) (defScope st_law_mul) .none kV_law_mul dc_law_mul pm_law_mul an_law_mul cd_law_mul ct_law_mul), sl_law_mul⟩)
    (c_law_mul : PySem.W.codeIn K cd_law_mul "_law_mul" = true)
    (k_law_mul : PySem.W.keepIn K (.ref f_law_mul) = true)
    (a_law_div : PySem.W.nsIn K mainGlobals "_law_div" = some (some (.ref f_law_div)))
    (l_law_div : K.lookup f_law_div = some ⟨oc_law_div, od_law_div, .func (PySem.W.fnOf "_law_div" "_law_div" (defArgs st_law_div) (defBody st_law_div) (defScope st_law_div) .none kV_law_div dc_law_div pm_law_div an_law_div cd_law_div ct_law_div), sl_law_div⟩)
    (c_law_div : PySem.W.codeIn K cd_law_div "_law_div" = true)
    (k_law_div : PySem.W.keepIn K (.ref f_law_div) = true)
    (a_law_share : PySem.W.nsIn K mainGlobals "_law_share" = some (some (.ref f_law_share)))
    (l_law_share : K.lookup f_law_share = some ⟨oc_law_share, od_law_share, .func (PySem.W.fnOf "_law_share" "_law_share" (defArgs st_law_share) (defBody st_law_share) (defScope st_law_share) .none kV_law_share dc_law_share pm_law_share an_law_share cd_law_share ct_law_share), sl_law_share⟩)
    (c_law_share : PySem.W.codeIn K cd_law_share "_law_share" = true)
    (k_law_share : PySem.W.keepIn K (.ref f_law_share) = true)
    (a_law_some_form : PySem.W.nsIn K mainGlobals "_law_some_form" = some (some (.ref f_law_some_form)))
    (l_law_some_form : K.lookup f_law_some_form = some ⟨oc_law_some_form, od_law_some_form, .func (PySem.W.fnOf "_law_some_form" "_law_some_form" (defArgs st_law_some_form) (defBody st_law_some_form) (defScope st_law_some_form) .none kV_law_some_form dc_law_some_form pm_law_some_form an_law_some_form cd_law_some_form ct_law_some_form), sl_law_some_form⟩)
    (c_law_some_form : PySem.W.codeIn K cd_law_some_form "_law_some_form" = true)
    (k_law_some_form : PySem.W.keepIn K (.ref f_law_some_form) = true)
    (a_law_choice : PySem.W.nsIn K mainGlobals "_law_choice" = some (some (.ref f_law_choice)))
    (l_law_choice : K.lookup f_law_choice = some ⟨oc_law_choice, od_law_choice, .func (PySem.W.fnOf "_law_choice" "_law_choice" (defArgs st_law_choice) (defBody st_law_choice) (defScope st_law_choice) .none kV_law_choice dc_law_choice pm_law_choice an_law_choice cd_law_choice ct_law_choice), sl_law_choice⟩)
    (c_law_choice : PySem.W.codeIn K cd_law_choice "_law_choice" = true)
    (k_law_choice : PySem.W.keepIn K (.ref f_law_choice) = true)
    (a_law_value_at : PySem.W.nsIn K mainGlobals "_law_value_at" = some (some (.ref f_law_value_at)))
    (l_law_value_at : K.lookup f_law_value_at = some ⟨oc_law_value_at, od_law_value_at, .func (PySem.W.fnOf "_law_value_at" "_law_value_at" (defArgs st_law_value_at) (defBody st_law_value_at) (defScope st_law_value_at) .none kV_law_value_at dc_law_value_at pm_law_value_at an_law_value_at cd_law_value_at ct_law_value_at), sl_law_value_at⟩)
    (c_law_value_at : PySem.W.codeIn K cd_law_value_at "_law_value_at" = true)
    (k_law_value_at : PySem.W.keepIn K (.ref f_law_value_at) = true)
    (a_law_points : PySem.W.nsIn K mainGlobals "_law_points" = some (some (.ref f_law_points)))
    (l_law_points : K.lookup f_law_points = some ⟨oc_law_points, od_law_points, .func (PySem.W.fnOf "_law_points" "_law_points" (defArgs st_law_points) (defBody st_law_points) (defScope st_law_points) .none kV_law_points dc_law_points pm_law_points an_law_points cd_law_points ct_law_points), sl_law_points⟩)
    (c_law_points : PySem.W.codeIn K cd_law_points "_law_points" = true)
    (k_law_points : PySem.W.keepIn K (.ref f_law_points) = true)
    (a_law_holds : PySem.W.nsIn K mainGlobals "_law_holds" = some (some (.ref f_law_holds)))
    (l_law_holds : K.lookup f_law_holds = some ⟨oc_law_holds, od_law_holds, .func (PySem.W.fnOf "_law_holds" "_law_holds" (defArgs st_law_holds) (defBody st_law_holds) (defScope st_law_holds) .none kV_law_holds dc_law_holds pm_law_holds an_law_holds cd_law_holds ct_law_holds), sl_law_holds⟩)
    (c_law_holds : PySem.W.codeIn K cd_law_holds "_law_holds" = true)
    (k_law_holds : PySem.W.keepIn K (.ref f_law_holds) = true)
    (a_law_same : PySem.W.nsIn K mainGlobals "_law_same" = some (some (.ref f_law_same)))
    (l_law_same : K.lookup f_law_same = some ⟨oc_law_same, od_law_same, .func (PySem.W.fnOf "_law_same" "_law_same" (defArgs st_law_same) (defBody st_law_same) (defScope st_law_same) .none kV_law_same dc_law_same pm_law_same an_law_same cd_law_same ct_law_same), sl_law_same⟩)
    (c_law_same : PySem.W.codeIn K cd_law_same "_law_same" = true)
    (k_law_same : PySem.W.keepIn K (.ref f_law_same) = true)
    (a_law_row_asked : PySem.W.nsIn K mainGlobals "_law_row_asked" = some (some (.ref f_law_row_asked)))
    (l_law_row_asked : K.lookup f_law_row_asked = some ⟨oc_law_row_asked, od_law_row_asked, .func (PySem.W.fnOf "_law_row_asked" "_law_row_asked" (defArgs st_law_row_asked) (defBody st_law_row_asked) (defScope st_law_row_asked) .none kV_law_row_asked dc_law_row_asked pm_law_row_asked an_law_row_asked cd_law_row_asked ct_law_row_asked), sl_law_row_asked⟩)
    (c_law_row_asked : PySem.W.codeIn K cd_law_row_asked "_law_row_asked" = true)
    (k_law_row_asked : PySem.W.keepIn K (.ref f_law_row_asked) = true)
    (a_law : PySem.W.nsIn K mainGlobals "law" = some (some (.ref f_law)))
    (l_law : K.lookup f_law = some ⟨oc_law, od_law, .func (PySem.W.fnOf "law" "law" (defArgs st_law) (defBody st_law) (defScope st_law) .none kV_law dc_law pm_law an_law cd_law ct_law), sl_law⟩)
    (c_law : PySem.W.codeIn K cd_law "law" = true)
    (k_law : PySem.W.keepIn K (.ref f_law) = true)
    (z_abs : PySem.W.nsIn K mainGlobals "abs" = some none)
    (z_all : PySem.W.nsIn K mainGlobals "all" = some none)
    (z_bool : PySem.W.nsIn K mainGlobals "bool" = some none)
    (g_gcd : PySem.W.nsIn K mainGlobals "gcd" = some (some (.builtin "math.gcd")))
    (z_int : PySem.W.nsIn K mainGlobals "int" = some none)
    (z_isinstance : PySem.W.nsIn K mainGlobals "isinstance" = some none)
    (z_len : PySem.W.nsIn K mainGlobals "len" = some none)
    (z_list : PySem.W.nsIn K mainGlobals "list" = some none)
    (z_range : PySem.W.nsIn K mainGlobals "range" = some none)
    (z_str : PySem.W.nsIn K mainGlobals "str" = some none)
    (z_tuple : PySem.W.nsIn K mainGlobals "tuple" = some none)
    (z_zip : PySem.W.nsIn K mainGlobals "zip" = some none) :
    ∃ fd : FuncData, (∀ (s : Shared) (v : Value), BindsTo s fd ⟨[v], []⟩ [("script", v)]) ∧ ∀ base : Heap, K.In base → base.Ns mainGlobals mg → FnOk l.prog w K mg base CX0 11 fa fd ["script"] (upSp K sp_law) := by
  have e := hfa.symm.trans (PySem.W.mg_of X G a_law)
  cases e
  have T : Txt K mg := ⟨PySem.W.mg_none_of X G z_abs, PySem.W.mg_none_of X G z_all, PySem.W.mg_none_of X G z_bool, PySem.W.mg_of X G g_gcd, PySem.W.mg_none_of X G z_int, PySem.W.mg_none_of X G z_isinstance, PySem.W.mg_none_of X G z_len, PySem.W.mg_none_of X G z_list, PySem.W.mg_none_of X G z_range, PySem.W.mg_none_of X G z_str, PySem.W.mg_none_of X G z_tuple, PySem.W.mg_none_of X G z_zip⟩
  have D_common_divisor : DefIs K mg "common_divisor" st_common_divisor := ⟨_, _, fun_mk (st := st_common_divisor) l_common_divisor c_common_divisor k_common_divisor, PySem.W.mg_of X G a_common_divisor⟩
  have D_zero_form : DefIs K mg "zero_form" st_zero_form := ⟨_, _, fun_mk (st := st_zero_form) l_zero_form c_zero_form k_zero_form, PySem.W.mg_of X G a_zero_form⟩
  have D_turned : DefIs K mg "turned" st_turned := ⟨_, _, fun_mk (st := st_turned) l_turned c_turned k_turned, PySem.W.mg_of X G a_turned⟩
  have D_row_holds : DefIs K mg "row_holds" st_row_holds := ⟨_, _, fun_mk (st := st_row_holds) l_row_holds c_row_holds k_row_holds, PySem.W.mg_of X G a_row_holds⟩
  have D_law_begin : DefIs K mg "_law_begin" st_law_begin := ⟨_, _, fun_mk (st := st_law_begin) l_law_begin c_law_begin k_law_begin, PySem.W.mg_of X G a_law_begin⟩
  have D_law_draw : DefIs K mg "_law_draw" st_law_draw := ⟨_, _, fun_mk (st := st_law_draw) l_law_draw c_law_draw k_law_draw, PySem.W.mg_of X G a_law_draw⟩
  have D_law_gcd : DefIs K mg "_law_gcd" st_law_gcd := ⟨_, _, fun_mk (st := st_law_gcd) l_law_gcd c_law_gcd k_law_gcd, PySem.W.mg_of X G a_law_gcd⟩
  have D_lowest : DefIs K mg "lowest" st_lowest := ⟨_, _, fun_mk (st := st_lowest) l_lowest c_lowest k_lowest, PySem.W.mg_of X G a_lowest⟩
  have D_rows_hold : DefIs K mg "rows_hold" st_rows_hold := ⟨_, _, fun_mk (st := st_rows_hold) l_rows_hold c_rows_hold k_rows_hold, PySem.W.mg_of X G a_rows_hold⟩
  have D_law_pick : DefIs K mg "_law_pick" st_law_pick := ⟨_, _, fun_mk (st := st_law_pick) l_law_pick c_law_pick k_law_pick, PySem.W.mg_of X G a_law_pick⟩
  have D_law_rare : DefIs K mg "_law_rare" st_law_rare := ⟨_, _, fun_mk (st := st_law_rare) l_law_rare c_law_rare k_law_rare, PySem.W.mg_of X G a_law_rare⟩
  have D_law_r : DefIs K mg "_law_r" st_law_r := ⟨_, _, fun_mk (st := st_law_r) l_law_r c_law_r k_law_r, PySem.W.mg_of X G a_law_r⟩
  have D_law_lowest : DefIs K mg "_law_lowest" st_law_lowest := ⟨_, _, fun_mk (st := st_law_lowest) l_law_lowest c_law_lowest k_law_lowest, PySem.W.mg_of X G a_law_lowest⟩
  have D_form_times : DefIs K mg "form_times" st_form_times := ⟨_, _, fun_mk (st := st_form_times) l_form_times c_form_times k_form_times, PySem.W.mg_of X G a_form_times⟩
  have D_row_of : DefIs K mg "row_of" st_row_of := ⟨_, _, fun_mk (st := st_row_of) l_row_of c_row_of k_row_of, PySem.W.mg_of X G a_row_of⟩
  have D_law_add : DefIs K mg "_law_add" st_law_add := ⟨_, _, fun_mk (st := st_law_add) l_law_add c_law_add k_law_add, PySem.W.mg_of X G a_law_add⟩
  have D_law_mul : DefIs K mg "_law_mul" st_law_mul := ⟨_, _, fun_mk (st := st_law_mul) l_law_mul c_law_mul k_law_mul, PySem.W.mg_of X G a_law_mul⟩
  have D_law_div : DefIs K mg "_law_div" st_law_div := ⟨_, _, fun_mk (st := st_law_div) l_law_div c_law_div k_law_div, PySem.W.mg_of X G a_law_div⟩
  have D_law_share : DefIs K mg "_law_share" st_law_share := ⟨_, _, fun_mk (st := st_law_share) l_law_share c_law_share k_law_share, PySem.W.mg_of X G a_law_share⟩
  have D_law_some_form : DefIs K mg "_law_some_form" st_law_some_form := ⟨_, _, fun_mk (st := st_law_some_form) l_law_some_form c_law_some_form k_law_some_form, PySem.W.mg_of X G a_law_some_form⟩
  have D_law_choice : DefIs K mg "_law_choice" st_law_choice := ⟨_, _, fun_mk (st := st_law_choice) l_law_choice c_law_choice k_law_choice, PySem.W.mg_of X G a_law_choice⟩
  have D_law_value_at : DefIs K mg "_law_value_at" st_law_value_at := ⟨_, _, fun_mk (st := st_law_value_at) l_law_value_at c_law_value_at k_law_value_at, PySem.W.mg_of X G a_law_value_at⟩
  have D_law_points : DefIs K mg "_law_points" st_law_points := ⟨_, _, fun_mk (st := st_law_points) l_law_points c_law_points k_law_points, PySem.W.mg_of X G a_law_points⟩
  have D_law_holds : DefIs K mg "_law_holds" st_law_holds := ⟨_, _, fun_mk (st := st_law_holds) l_law_holds c_law_holds k_law_holds, PySem.W.mg_of X G a_law_holds⟩
  have D_law_same : DefIs K mg "_law_same" st_law_same := ⟨_, _, fun_mk (st := st_law_same) l_law_same c_law_same k_law_same, PySem.W.mg_of X G a_law_same⟩
  have D_law_row_asked : DefIs K mg "_law_row_asked" st_law_row_asked := ⟨_, _, fun_mk (st := st_law_row_asked) l_law_row_asked c_law_row_asked k_law_row_asked, PySem.W.mg_of X G a_law_row_asked⟩
  have F_law := fun_mk (st := st_law) l_law c_law k_law
  refine ⟨PySem.W.fnOf "law" "law" (defArgs st_law) (defBody st_law) (defScope st_law) .none kV_law dc_law pm_law an_law cd_law ct_law, fun s v => .of_eq rfl, fun base _ _ => ?_⟩
  have C_common_divisor := cal_common_divisor (P := l.prog) (w := w) (base := base) T D_common_divisor 
  have C_zero_form := cal_zero_form (P := l.prog) (w := w) (base := base) T D_zero_form 
  have C_turned := cal_turned (P := l.prog) (w := w) (base := base) T D_turned 
  have C_row_holds := cal_row_holds (P := l.prog) (w := w) (base := base) T D_row_holds 
  have C_law_begin := cal_law_begin (P := l.prog) (w := w) (base := base) T D_law_begin 
  have C_law_draw := cal_law_draw (P := l.prog) (w := w) (base := base) T D_law_draw 
  have C_law_gcd := cal_law_gcd (P := l.prog) (w := w) (base := base) T D_law_gcd 
  have C_lowest := cal_lowest (P := l.prog) (w := w) (base := base) T D_lowest C_common_divisor
  have C_rows_hold := cal_rows_hold (P := l.prog) (w := w) (base := base) T D_rows_hold C_row_holds
  have C_law_pick := cal_law_pick (P := l.prog) (w := w) (base := base) T D_law_pick C_law_draw
  have C_law_rare := cal_law_rare (P := l.prog) (w := w) (base := base) T D_law_rare C_law_draw
  have C_law_r := cal_law_r (P := l.prog) (w := w) (base := base) T D_law_r C_law_gcd
  have C_law_lowest := cal_law_lowest (P := l.prog) (w := w) (base := base) T D_law_lowest C_law_gcd
  have C_form_times := cal_form_times (P := l.prog) (w := w) (base := base) T D_form_times C_lowest C_zero_form
  have C_row_of := cal_row_of (P := l.prog) (w := w) (base := base) T D_row_of C_lowest
  have C_law_add := cal_law_add (P := l.prog) (w := w) (base := base) T D_law_add C_law_r
  have C_law_mul := cal_law_mul (P := l.prog) (w := w) (base := base) T D_law_mul C_law_r
  have C_law_div := cal_law_div (P := l.prog) (w := w) (base := base) T D_law_div C_law_r
  have C_law_share := cal_law_share (P := l.prog) (w := w) (base := base) T D_law_share C_law_draw C_law_r
  have C_law_some_form := cal_law_some_form (P := l.prog) (w := w) (base := base) T D_law_some_form C_law_draw C_law_lowest
  have C_law_choice := cal_law_choice (P := l.prog) (w := w) (base := base) T D_law_choice C_law_draw C_law_lowest
  have C_law_value_at := cal_law_value_at (P := l.prog) (w := w) (base := base) T D_law_value_at C_law_add C_law_mul
  have C_law_points := cal_law_points (P := l.prog) (w := w) (base := base) T D_law_points C_law_draw C_law_pick C_law_r C_law_add C_law_div C_law_share C_law_value_at
  have C_law_holds := cal_law_holds (P := l.prog) (w := w) (base := base) T D_law_holds C_law_value_at
  have C_law_same := cal_law_same (P := l.prog) (w := w) (base := base) T D_law_same 
  have C_law_row_asked := cal_law_row_asked (P := l.prog) (w := w) (base := base) T D_law_row_asked C_form_times C_row_of C_turned C_row_holds C_law_lowest C_law_same C_law_holds
  exact ok_law T F_law C_rows_hold C_law_begin C_law_draw C_law_rare C_law_r C_law_same C_law_some_form C_law_points C_law_holds C_law_row_asked C_law_choice
end AL
open PySem PySem.W PyProof.Rows
set_option maxRecDepth 100000 in
set_option maxHeartbeats 0 in
theorem PySem.Challenge.cw_wishpanes_k05_rows_holds : PySem.Challenge.rw_wishpanes_k05_rows.Holds := by
  w_on; o_law; k_head; (case hw => w_witness2)
  k_fill
  refine L2.walk_of (l := PySem.Challenge.rw_wishpanes_k05_rows) (n := 63) (k := 11) (x := "script") (CX := fun _ => L2.CX0) (sp := fun w => AL.upSp _ AL.sp_law) rfl (by decide) rfl ⟨rfl, by decide, by decide⟩ (fun w h Y => PySem.W.kIn_of Y) ?F (fun w H a ns hl hO hS => AL.law_up1 hl hO hS) (fun _ _ _ _ _ h => h)
  case F =>
    intro w mg fa h KX G hmg
    refine' AL.all_mk KX G hmg ?a_common_divisor ?l_common_divisor ?c_common_divisor ?k_common_divisor ?a_zero_form ?l_zero_form ?c_zero_form ?k_zero_form ?a_turned ?l_turned ?c_turned ?k_turned ?a_row_holds ?l_row_holds ?c_row_holds ?k_row_holds ?a_law_begin ?l_law_begin ?c_law_begin ?k_law_begin ?a_law_draw ?l_law_draw ?c_law_draw ?k_law_draw ?a_law_gcd ?l_law_gcd ?c_law_gcd ?k_law_gcd ?a_lowest ?l_lowest ?c_lowest ?k_lowest ?a_rows_hold ?l_rows_hold ?c_rows_hold ?k_rows_hold ?a_law_pick ?l_law_pick ?c_law_pick ?k_law_pick ?a_law_rare ?l_law_rare ?c_law_rare ?k_law_rare ?a_law_r ?l_law_r ?c_law_r ?k_law_r ?a_law_lowest ?l_law_lowest ?c_law_lowest ?k_law_lowest ?a_form_times ?l_form_times ?c_form_times ?k_form_times ?a_row_of ?l_row_of ?c_row_of ?k_row_of ?a_law_add ?l_law_add ?c_law_add ?k_law_add ?a_law_mul ?l_law_mul ?c_law_mul ?k_law_mul ?a_law_div ?l_law_div ?c_law_div ?k_law_div ?a_law_share ?l_law_share ?c_law_share ?k_law_share ?a_law_some_form ?l_law_some_form ?c_law_some_form ?k_law_some_form ?a_law_choice ?l_law_choice ?c_law_choice ?k_law_choice ?a_law_value_at ?l_law_value_at ?c_law_value_at ?k_law_value_at ?a_law_points ?l_law_points ?c_law_points ?k_law_points ?a_law_holds ?l_law_holds ?c_law_holds ?k_law_holds ?a_law_same ?l_law_same ?c_law_same ?k_law_same ?a_law_row_asked ?l_law_row_asked ?c_law_row_asked ?k_law_row_asked ?a_law ?l_law ?c_law ?k_law ?z_abs ?z_all ?z_bool ?g_gcd ?z_int ?z_isinstance ?z_len ?z_list ?z_range ?z_str ?z_tuple ?z_zip
    (case a_common_divisor => k_is); (case l_common_divisor => k_is); (case c_common_divisor => k_is); (case k_common_divisor => k_is)
    (case a_zero_form => k_is); (case l_zero_form => k_is); (case c_zero_form => k_is); (case k_zero_form => k_is)
    (case a_turned => k_is); (case l_turned => k_is); (case c_turned => k_is); (case k_turned => k_is)
    (case a_row_holds => k_is); (case l_row_holds => k_is); (case c_row_holds => k_is); (case k_row_holds => k_is)
    (case a_law_begin => k_is); (case l_law_begin => k_is); (case c_law_begin => k_is); (case k_law_begin => k_is)
    (case a_law_draw => k_is); (case l_law_draw => k_is); (case c_law_draw => k_is); (case k_law_draw => k_is)
    (case a_law_gcd => k_is); (case l_law_gcd => k_is); (case c_law_gcd => k_is); (case k_law_gcd => k_is)
    (case a_lowest => k_is); (case l_lowest => k_is); (case c_lowest => k_is); (case k_lowest => k_is)
    (case a_rows_hold => k_is); (case l_rows_hold => k_is); (case c_rows_hold => k_is); (case k_rows_hold => k_is)
    (case a_law_pick => k_is); (case l_law_pick => k_is); (case c_law_pick => k_is); (case k_law_pick => k_is)
    (case a_law_rare => k_is); (case l_law_rare => k_is); (case c_law_rare => k_is); (case k_law_rare => k_is)
    (case a_law_r => k_is); (case l_law_r => k_is); (case c_law_r => k_is); (case k_law_r => k_is)
    (case a_law_lowest => k_is); (case l_law_lowest => k_is); (case c_law_lowest => k_is); (case k_law_lowest => k_is)
    (case a_form_times => k_is); (case l_form_times => k_is); (case c_form_times => k_is); (case k_form_times => k_is)
    (case a_row_of => k_is); (case l_row_of => k_is); (case c_row_of => k_is); (case k_row_of => k_is)
    (case a_law_add => k_is); (case l_law_add => k_is); (case c_law_add => k_is); (case k_law_add => k_is)
    (case a_law_mul => k_is); (case l_law_mul => k_is); (case c_law_mul => k_is); (case k_law_mul => k_is)
    (case a_law_div => k_is); (case l_law_div => k_is); (case c_law_div => k_is); (case k_law_div => k_is)
    (case a_law_share => k_is); (case l_law_share => k_is); (case c_law_share => k_is); (case k_law_share => k_is)
    (case a_law_some_form => k_is); (case l_law_some_form => k_is); (case c_law_some_form => k_is); (case k_law_some_form => k_is)
    (case a_law_choice => k_is); (case l_law_choice => k_is); (case c_law_choice => k_is); (case k_law_choice => k_is)
    (case a_law_value_at => k_is); (case l_law_value_at => k_is); (case c_law_value_at => k_is); (case k_law_value_at => k_is)
    (case a_law_points => k_is); (case l_law_points => k_is); (case c_law_points => k_is); (case k_law_points => k_is)
    (case a_law_holds => k_is); (case l_law_holds => k_is); (case c_law_holds => k_is); (case k_law_holds => k_is)
    (case a_law_same => k_is); (case l_law_same => k_is); (case c_law_same => k_is); (case k_law_same => k_is)
    (case a_law_row_asked => k_is); (case l_law_row_asked => k_is); (case c_law_row_asked => k_is); (case k_law_row_asked => k_is)
    (case a_law => k_is); (case l_law => k_is); (case c_law => k_is); (case k_law => k_is)
    (case z_abs => k_is); (case z_all => k_is); (case z_bool => k_is); (case g_gcd => k_is)
    (case z_int => k_is); (case z_isinstance => k_is); (case z_len => k_is); (case z_list => k_is)
    (case z_range => k_is); (case z_str => k_is); (case z_tuple => k_is); (case z_zip => k_is)
