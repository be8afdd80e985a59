import PyProof.Rows.All
import PyProof.ReprReads
import PyProof.EqLayable
import HandS.List
import HandS.Text
import Wide.All
import OpenK.AllK
import Wide.FinOn
import HandS.ForMost
import HandS.ForExc
import HandS.Deep
import HandS.TupAny
import HandS.Wide
import HandS.WideBits
import HandS.RaiseMore
import HandS.StrMore
import PyProof.TupleOfStr
import HandS.HotCalls
import HandS.CallSlots
import HandS.Ends
import KE.DataIsa
import HandS.ExcIs
import HandS.Comp
import HandS.Iter
import HandS.NoneIn
import HandS.ExcField
import KE.GoesNew
import KE.KExcIs
import HandS.TryMany
import HandS.Exc
import KE.KExcPX
import HandS.Words
import HandS.ExcInit
import HandS.ExcValue
import KE.KExcInit
import OpenK.KMake
import KE.KStateDown
import HandS.Head0
import HandS.Head1
import HandS.Head2
import HandS.HeadHook1
import HandS.HeadHook2
import PyProof.StrLawsRepr
import PySem.Challenge.RW_pairsigns_k11_errors_created
set_option Elab.async false
set_option linter.all false
/-! A small evaluator over trees of data: an intermediate form of the defs of the program, and what it computes. -/
namespace Pi
/-! ### own shorthands -/
theorem and_iff2 {a b : Bool} : (a && b) = true ↔ a = true ∧ b = true := by cases a <;> cases b <;> simp
theorem dec_iff {p : Prop} [Decidable p] : decide p = true ↔ p := ⟨of_decide_eq_true, decide_eq_true⟩
theorem in_cons {α : Type} {a b : α} {l : List α} : a ∈ b :: l ↔ a = b ∨ a ∈ l := by simp
theorem in_nil {α : Type} {a : α} : a ∈ ([] : List α) ↔ False := by simp
theorem mem_or {α : Type} {a b : α} {l : List α} (h : a ∈ b :: l) : a = b ∨ a ∈ l := by cases h with
  | head => exact .inl rfl
  | tail _ h => exact .inr h
theorem all_hd {α : Type} {p : α → Bool} {x : α} {xs : List α} (h : (x :: xs).all p = true) : p x = true ∧ xs.all p = true := by
  simpa using h
theorem lt_get {α : Type} {l : List α} {i : Nat} {x : α} (h : l[i]? = some x) : i < l.length := by
  rcases Nat.lt_or_ge i l.length with z | z
  · exact z
  · simp [List.getElem?_eq_none z] at h
abbrev Tx := List Nat
abbrev Ky := Sum Int Tx
inductive D where
  | non | bl (b : Bool) | int (i : Int) | str (x : Tx) | lst (xs : List D) | tup (xs : List D)
  | dic (kvs : List (Ky × D)) | scr (xs : List D) | exc (c : Tx) (fs : List (Tx × D)) | obj (c : Nat) (fs : List (Tx × D))
instance : Inhabited D := ⟨.non⟩
inductive BOp where
  | add | sub | mul | mod | fdiv | pow
inductive COp where
  | eq | ne | lt | le | gt | ge | isN | notN | isIn | notIn
/-- built-in functions -/
inductive BI where
  | len | max2 | min2 | abs | int | divmod | repr | str | all | any | tuple | list | sorted | sum | tupS
/-- built-in methods -/
inductive MI where
  | join | index | split | endswith | startswith | get | count
/-- classes that isinstance is asked for -/
inductive Cl where
  | int | bool | str | list | tuple | dict | own (c : Tx) | ve | le | re | ae
  deriving DecidableEq
inductive Tg where
  | nm (i : Nat) | tp (is : List Nat)
mutual
inductive IE where
  | var (i : Nat) | cst (d : D) | gc (k : Nat) | bin (o : BOp) (a b : IE) | neg (a : IE) | not (a : IE) | and (a b : IE) | or (a b : IE)
  | cmp (o : COp) (a b : IE) | chn (o p : COp) (a b c : IE) | ite (t a b : IE)
  | lst (es : IEs) | tup (es : IEs) | idx (a i : IE) | slc (a : IE) (lo hi : IO)
  | call (f : Nat) (ix : List Nat) (es : IEs) | bi (b : BI) (es : IEs) | mth (m : MI) (o : IE) (es : IEs)
  | isi (a : IE) (c : Cl) | isx (a : IE) (k : Cl) | isxs (a : IE) (ks : List Cl) | attr (o : IE) (f : Tx)
  | lcm (elt : IE) (tg : Tg) (it : IT) (cond : IO)
  | dic (kvs : List (Ky × D)) | dget (kvs : List (Ky × D)) (i : IE) | lix (o e : IE) | mk (c : Tx) (es : IEs)
inductive IEs where
  | nil | cons (e : IE) (es : IEs)
inductive IO where
  | no | so (e : IE)
inductive IT where
  | seq (e : IE) | rng (es : IEs) | zip (es : IEs) | enm (es : IEs)
end
inductive TG where
  | nm (i : Nat) | ix (i : Nat) (e : IE)
mutual
inductive IS where
  | set (i : Nat) (e : IE) | setT (ts : List TG) (e : IE) | par (i j : Nat) (es : IEs) | setI (i : Nat) (ix e : IE)
  | app (i : Nat) (e : IE) | ext (i : Nat) (e : IE)
  | ret (e : IE) | retN | ite (t : IE) (a b : ISs) | loop (tg : Tg) (it : IT) (b : ISs)
  | rais (c : Tx) (es : IEs) | tryS (b : ISs) (hs : IHs) | pass | brk | cont | drop (e : IE)
inductive ISs where
  | nil | cons (s : IS) (r : ISs)
inductive IHs where
  | nil | cons (ks : List Cl) (i : Nat) (b : ISs) (r : IHs)
end

/-! ### the state of a frame -/
inductive Sl where
  | un | val (d : D) | own (xs : List D) | ref
instance : Inhabited Sl := ⟨.un⟩
structure Fr where
  sl : List Sl
  cell : List D
inductive ER where
  | val (d : D) | fresh (xs : List D) | slot (i : Nat) | cell
inductive Rs (α : Type) where
  | ok (a : α) (s : Fr) | exc (c : Tx) (fs : List (Tx × D)) (s : Fr) | stuck
@[inline] def Rs.bind {α β : Type} : Rs α → (α → Fr → Rs β) → Rs β
  | .ok a s, f => f a s
  | .exc c fs s, _ => .exc c fs s
  | .stuck, _ => .stuck
def Rs.of {α : Type} (o : Option α) (s : Fr) : Rs α := match o with
  | some a => .ok a s
  | none => .stuck
def Fr.put (s : Fr) (i : Nat) (x : Sl) : Fr := ⟨s.sl.set i x, s.cell⟩
/-- what is read -/
def ER.rd (s : Fr) : ER → Option D
  | .val d => some d
  | .fresh xs => some (.lst xs)
  | .slot i => match s.sl[i]? with
    | some (.own xs) => some (.lst xs)
    | some (.val d) => some d
    | _ => none
  | .cell => some (.lst s.cell)
/-- held while others are reckoned -/
def ER.hold : ER → ER
  | .fresh xs => .val (.lst xs)
  | e => e
/-- kept by another holder: no longer one's own -/
def ER.fz (s : Fr) : ER → Rs D
  | .val d => .ok d s
  | .fresh xs => .ok (.lst xs) s
  | .slot i => match s.sl[i]? with
    | some (.own xs) => .ok (.lst xs) (s.put i (.val (.lst xs)))
    | some (.val d) => .ok d s
    | _ => .stuck
  | .cell => .stuck
end Pi
/-! What is reckoned. -/
namespace Pi
open PySem (PyData)
def txS (x : Tx) : PySem.Str := ⟨x.toArray⟩
mutual
/-- as the library's data -/
def D.pd : D → Option PyData
  | .non => some .none
  | .bl b => some (.bool b)
  | .int i => some (.int i)
  | .str x => some (.str (txS x))
  | .lst xs => (pdL xs).map .list
  | .tup xs => (pdL xs).map .tuple
  | .dic kvs => (pdK kvs).map .dict
  | .scr _ => none
  | .exc _ _ => none
  | .obj _ _ => none
def pdL : List D → Option (List PyData)
  | [] => some []
  | x :: xs => match x.pd, pdL xs with
    | some a, some b => some (a :: b)
    | _, _ => none
def pdK : List (Ky × D) → Option (List (PyData × PyData))
  | [] => some []
  | (k, x) :: r => match x.pd, pdK r with
    | some a, some b => some ((match k with | .inl i => PyData.int i | .inr t => .str (txS t), a) :: b)
    | _, _ => none
end
mutual
/-- == of data (no dict in it) -/
def D.eqv : D → D → Bool
  | .non, .non => true
  | .bl a, .bl b => a == b
  | .bl a, .int j => (if a then 1 else 0) == j
  | .int i, .bl b => i == (if b then 1 else 0)
  | .int i, .int j => i == j
  | .str x, .str y => x == y
  | .lst xs, .lst ys => eqvL xs ys
  | .tup xs, .tup ys => eqvL xs ys
  | _, _ => false
def eqvL : List D → List D → Bool
  | [], [] => true
  | x :: xs, y :: ys => x.eqv y && eqvL xs ys
  | _, _ => false
end
/-- plain signs -/
def okT (x : Tx) : Bool := x.all fun c => decide (c < 55296)
mutual
/-- data without dicts, not deep -/
def D.flat : Nat → D → Bool
  | 0, _ => false
  | _ + 1, .non => true
  | _ + 1, .bl _ => true
  | _ + 1, .int _ => true
  | _ + 1, .str x => okT x
  | n + 1, .lst xs => flatL n xs
  | n + 1, .tup xs => flatL n xs
  | _ + 1, _ => false
def flatL : Nat → List D → Bool
  | _, [] => true
  | n, x :: xs => x.flat n && flatL n xs
end
def lim : Nat := 1000000
def addR : D → D → Option ER
  | .int i, .int j => some (.val (.int (i + j)))
  | .str x, .str y => if x.length + y.length ≤ lim then some (.val (.str (x ++ y))) else none
  | .lst x, .lst y => if x.length + y.length ≤ lim then some (.fresh (x ++ y)) else none
  | .tup x, .tup y => if x.length + y.length ≤ lim then some (.val (.tup (x ++ y))) else none
  | _, _ => none
def intR (c : Int → Int → Bool) (f : Int → Int → Int) : D → D → Option ER
  | .int i, .int j => if c i j then some (.val (.int (f i j))) else none
  | _, _ => none
def w64 (i : Int) : Bool := decide (-18446744073709551616 < i) && decide (i < 18446744073709551616)
def repT {α : Type} (x : List α) : Nat → List α
  | 0 => []
  | n + 1 => x ++ repT x n
/-- a text, a list taken so many times -/
def repR : D → D → Option ER
  | .str x, .int n => if 1 ≤ n ∧ n ≤ 1000 ∧ x.length ≤ 1000 then some (.val (.str (repT x n.toNat))) else none
  | .lst xs, .int n => if 0 ≤ n ∧ n ≤ 1000 ∧ xs.length ≤ 1000 then some (.fresh (repT xs n.toNat)) else none
  | _, _ => none
@[simp] def orR (a b : Option ER) : Option ER := match a with
  | some r => some r
  | none => b
def opR : BOp → D → D → Option ER
  | .add => addR
  | .sub => intR (fun _ _ => true) fun i j => i - j
  | .mul => fun a b => orR (intR (fun i j => w64 i || w64 j) (fun i j => i * j) a b) (repR a b)
  | .mod => intR (fun _ j => decide (0 < j)) fun i j => i % j
  | .fdiv => intR (fun _ j => decide (0 < j) && decide (j < 1073741824)) fun i j => i / j
  | .pow => intR (fun i j => decide (0 ≤ j) && decide (j ≤ 1000) && decide (i.natAbs < 1000)) fun i j => i ^ j.toNat
/-- texts in order -/
def ltT : Tx → Tx → Bool
  | [], [] => false
  | [], _ :: _ => true
  | _ :: _, [] => false
  | a :: x, b :: y => if a < b then true else if b < a then false else ltT x y
def isIn (d : D) : D → Option Bool
  | .str y => match d with
    | .str [c] => some (y.contains c)
    | _ => none
  | .lst ys => if d.flat 30 && flatL 30 ys then some (ys.any fun y => y.eqv d) else none
  | .tup ys => if d.flat 30 && flatL 30 ys then some (ys.any fun y => y.eqv d) else none
  | _ => none
def isNon : D → Bool
  | .non => true
  | _ => false
def eqR (a b : D) : Option Bool := if a.flat 30 && b.flat 30 then some (a.eqv b) else none
def ltR : D → D → Option Bool
  | .int i, .int j => some (decide (i < j))
  | .str x, .str y => some (ltT x y)
  | _, _ => none
def leR : D → D → Option Bool
  | .int i, .int j => some (decide (i ≤ j))
  | _, _ => none
def nonR (a : D) : D → Option Bool
  | .non => some (isNon a)
  | _ => none
def cmpR : COp → D → D → Option Bool
  | .eq => eqR
  | .ne => fun a b => (eqR a b).map (!·)
  | .lt => ltR
  | .le => leR
  | .gt => fun a b => ltR b a
  | .ge => fun a b => leR b a
  | .isN => nonR
  | .notN => fun a b => (nonR a b).map (!·)
  | .isIn => isIn
  | .notIn => fun a b => (isIn a b).map (!·)
/-- the place that an index means -/
def ixOf (n : Nat) (i : Int) : Option Nat := if 0 ≤ i then (if i < n then some i.toNat else none) else if -(n : Int) ≤ i then some (i + n).toNat else none
def atS : D → D → Option D
  | .lst xs, .int i => (ixOf xs.length i).bind fun k => xs[k]?
  | .tup xs, .int i => (ixOf xs.length i).bind fun k => xs[k]?
  | .scr xs, .int i => (ixOf xs.length i).bind fun k => xs[k]?
  | .str x, .int i => if x.length ≤ lim then (ixOf x.length i).bind fun k => x[k]?.map fun c => .str [c] else none
  | _, _ => none
def dicAt (kvs : List (Ky × D)) : D → Option D
  | .int i => (kvs.find? fun p => decide (p.1 = .inl i)).map (·.2)
  | .str x => (kvs.find? fun p => decide (p.1 = .inr x)).map (·.2)
  | _ => none
def atD (a i : D) : Option D := match a with
  | .dic kvs => dicAt kvs i
  | a => atS a i
def cut {α : Type} (x : List α) (lo hi : Option Int) : List α := (x.drop (HT.sIx x.length 0 lo)).take (HT.sIx x.length x.length hi - HT.sIx x.length 0 lo)
def bndO : Option D → Option (Option Int)
  | none => some none
  | some (.int i) => some (some i)
  | _ => none
def slcD (a : D) (lo hi : Option Int) : Option ER := match a with
  | .lst xs => some (.fresh (cut xs lo hi))
  | .tup xs => some (.val (.tup (cut xs lo hi)))
  | .str x => if x.length ≤ lim then some (.val (.str (cut x lo hi))) else none
  | _ => none
mutual
/-- lists within -/
def D.lists : D → Bool
  | .lst _ => true
  | .tup xs => listsL xs
  | .dic kvs => listsK kvs
  | _ => false
def listsL : List D → Bool
  | [] => false
  | x :: xs => x.lists || listsL xs
def listsK : List (Ky × D) → Bool
  | [] => false
  | (_, x) :: r => x.lists || listsK r
end
/-- no dict beside a list within; of a list: within each item -/
def apartD (d : D) : Bool := match d.pd with
  | some p => !p.hasDict || !d.lists
  | none => false
def topOk : D → Bool
  | .lst xs => xs.all apartD
  | _ => false
def reprD (d : D) : Option D := match d.pd with
  | some p => if p.showable && decide (p.depth ≤ 50) && decide (p.shown.length ≤ lim) && ((!p.hasDict || !d.lists) || topOk d) then some (.str p.shown.cps.toList) else none
  | none => none
/-- what the items of something are -/
def itemsD : D → Option (List D)
  | .lst xs => some xs
  | .tup xs => some xs
  | .str x => some (x.map fun c => .str [c])
  | _ => none
def bools : List D → Option (List Bool)
  | [] => some []
  | .bl b :: r => (bools r).map (b :: ·)
  | _ => none
def strsD : List D → Option (List Tx)
  | [] => some []
  | .str b :: r => (strsD r).map (b :: ·)
  | _ => none
def joinT (s : Tx) : List Tx → Tx
  | [] => []
  | [x] => x
  | x :: r => x ++ s ++ joinT s r
def lenR : List D → Option ER
  | [.lst xs] => some (.val (.int xs.length))
  | [.tup xs] => some (.val (.int xs.length))
  | [.scr xs] => some (.val (.int xs.length))
  | [.str x] => if x.length ≤ lim then some (.val (.int x.length)) else none
  | _ => none
def int2R (f : Int → Int → Option ER) : List D → Option ER
  | [.int i, .int j] => f i j
  | _ => none
def absR : List D → Option ER
  | [.int i] => some (.val (.int (if i < 0 then -i else i)))
  | _ => none
def intcR : List D → Option ER
  | [.int i] => some (.val (.int i))
  | [.bl b] => some (.val (.int (if b then 1 else 0)))
  | _ => none
def reprR : List D → Option ER
  | [d] => (reprD d).map .val
  | _ => none
def boolR (f : List Bool → Bool) : List D → Option ER
  | [.lst xs] => (bools xs).map fun bs => .val (.bl (f bs))
  | _ => none
def tupleR : List D → Option ER
  | [.lst xs] => some (.val (.tup xs))
  | [.tup xs] => some (.val (.tup xs))
  | _ => none
def listR : List D → Option ER
  | [.lst xs] => some (.fresh xs)
  | [.tup xs] => some (.fresh xs)
  | _ => none
/-- str(x) of an int, of a text -/
def strR : List D → Option ER
  | [.int i] => if i.natAbs.log2 < 1920 then some (.val (.str (PyData.int i).shown.cps.toList)) else none
  | [.str x] => some (.val (.str x))
  | _ => none
def tupSR : List D → Option ER
  | [.str x] => if x.length ≤ lim then some (.val (.tup (x.map fun c => .str [c]))) else none
  | _ => none
/-- the first place of an equal one -/
def lixR (d : D) : D → Option ER
  | .lst ys => if d.flat 30 && flatL 30 ys then (ys.findIdx? fun y => y.eqv d).map fun (k : Nat) => .val (.int (k : Int)) else none
  | _ => none
def biR : BI → List D → Option ER
  | .len => lenR
  | .max2 => int2R fun i j => some (.val (.int (if j > i then j else i)))
  | .min2 => int2R fun i j => some (.val (.int (if j < i then j else i)))
  | .abs => absR
  | .int => intcR
  | .divmod => int2R fun i j => if 0 < j ∧ j < 1606938044258990275541962092341162602522202993782792835301376 then some (.val (.tup [.int (i / j), .int (i % j)])) else none
  | .repr => reprR
  | .all => boolR fun bs => bs.all id
  | .any => boolR fun bs => bs.any id
  | .tuple => tupleR
  | .list => listR
  | .tupS => tupSR
  | .str => strR
  | _ => fun _ => none
def joinR (s : Tx) : List D → Option ER
  | [.lst xs] => (strsD xs).bind fun ts => if (ts.map List.length).sum + ts.length * s.length ≤ lim then some (.val (.str (joinT s ts))) else none
  | [.tup xs] => (strsD xs).bind fun ts => if (ts.map List.length).sum + ts.length * s.length ≤ lim then some (.val (.str (joinT s ts))) else none
  | _ => none
def splitR (s : Tx) : List D → Option ER
  | [.str b] => if b.length ≠ 0 ∧ s.length + 2 ≤ lim then some (.fresh ((PySem.Txt.split (txS s) (txS b)).map fun y => .str y.cps.toList)) else none
  | _ => none
def indexR (s : Tx) : List D → Option ER
  | [.str [c]] => (s.findIdx? (· == c)).map fun (k : Nat) => .val (.int (k : Int))
  | _ => none
def mthR : MI → Tx → List D → Option ER
  | .join => joinR
  | .index => indexR
  | .split => splitR
  | _ => fun _ _ => none
/-- is d one of class c (data alone) -/
def isiD : D → Cl → Bool
  | .int _, .int => true
  | .bl _, .int => true
  | .bl _, .bool => true
  | .str _, .str => true
  | .lst _, .list => true
  | .tup _, .tuple => true
  | .dic _, .dict => true
  | _, _ => false
/-- a def's own account: how its parameters are filled -/
structure Fn where
  np : Nat
  br : Bool
  df : List D
  ns : Nat
  body : ISs
inductive CV where
  | val (d : D) | fresh (xs : List D)
inductive CR where
  | ok (v : CV) (c : List D) | exc (k : Tx) (fs : List (Tx × D)) (c : List D) | stuck
def CV.er : CV → ER
  | .val d => .val d
  | .fresh xs => .fresh xs
/-- the world of a run: the classes, the calls -/
structure Wd where
  cl : Tx → Cl → Option Bool
  call : Nat → List D → List D → CR
  br : Nat → Bool
  df : Nat → List D
  cst : Nat → D
  init : Tx → List D → Option (List (Tx × D))
def truth : D → Option Bool
  | .bl b => some b
  | _ => none
/-- the parameters in order: by places in the arguments and the defaults -/
def pick {α : Type} (l : List α) : List Nat → Option (List α)
  | [] => some []
  | k :: r => match l[k]?, pick l r with
    | some x, some xs => some (x :: xs)
    | _, _ => none
def fzAll : List ER → Fr → Rs (List D)
  | [], s => .ok [] s
  | e :: r, s => (e.fz s).bind fun d s => (fzAll r s).bind fun ds s => .ok (d :: ds) s
def rdAll (s : Fr) : List ER → Option (List D)
  | [] => some []
  | e :: r => match e.rd s, rdAll s r with
    | some d, some t => some (d :: t)
    | _, _ => none
/-- what a call leaves -/
def CR.rs (r : CR) (f : List D → Fr) : Rs ER := match r with
  | .ok v c => .ok v.er (f c)
  | .exc k fs c => .exc k fs (f c)
  | .stuck => .stuck
/-- the first argument is lent -/
def lend (w : Wd) (f : Nat) (as : List D) (er : List ER) (s : Fr) : ER → Rs ER
  | .cell => (w.call f as s.cell).rs fun c => ⟨s.sl, c⟩
  | .slot i => match s.sl[i]? with
    | some (.own xs) => (w.call f as xs).rs fun c => s.put i (.own c)
    | _ => .stuck
  | .fresh xs => match er with
    | [] => (w.call f as xs).rs fun _ => s
    | _ => .stuck
  | _ => .stuck
/-- a call: the arguments in the parameters' order; the first one may be lent -/
def doCall (w : Wd) (f : Nat) (ix : List Nat) (es : List ER) (s : Fr) : Rs ER :=
  match w.br f with
  | false => (fzAll (es.map ER.hold) s).bind fun ds s => match pick (ds ++ w.df f) ix with
    | none => .stuck
    | some as => (w.call f as []).rs fun _ => s
  | true => match es, ix with
    | e0 :: er, 0 :: r => if r.all fun k => decide (0 < k) then (fzAll (er.map ER.hold) s).bind fun ds s => match pick (ds ++ w.df f) (r.map (· - 1)) with
        | none => .stuck
        | some as => lend w f (.non :: as) er s e0
      else .stuck
    | _, _ => .stuck
/-- the slots of a target -/
def Tg.slots : Tg → List Nat
  | .nm i => [i]
  | .tp is => is
def putAll (s : Fr) : List Nat → List D → Option Fr
  | [], [] => some s
  | i :: is, d :: ds => putAll (s.put i (.val d)) is ds
  | _, _ => none
def Tg.bind (t : Tg) (d : D) (s : Fr) : Option Fr := match t with
  | .nm i => some (s.put i (.val d))
  | .tp is => match d with
    | .tup ds => putAll s is ds
    | _ => none
/-- what is left of an outer slot -/
def Sl.left : Sl → Sl
  | .own _ => .un
  | x => x
def Fr.back (s old : Fr) (is : List Nat) : Fr := ⟨is.foldl (fun l i => l.set i (old.sl.getD i .un).left) s.sl, s.cell⟩
def Fr.wipe (s : Fr) (is : List Nat) : Fr := ⟨is.foldl (fun l i => l.set i .un) s.sl, s.cell⟩
def lcGo (f : D → Fr → Rs (Option D)) : List D → Fr → Rs (List D)
  | [], s => .ok [] s
  | x :: r, s => match f x s with
    | .ok y s => match lcGo f r s with
      | .ok ys s => .ok (match y with | some y => y :: ys | none => ys) s
      | _ => .stuck
    | _ => .stuck
def enumD : Nat → List D → List D
  | _, [] => []
  | k, x :: r => .tup [.int k, x] :: enumD (k + 1) r
def rngD (a : Int) : Nat → List D
  | 0 => []
  | n + 1 => .int a :: rngD (a + 1) n
def zipD (xs ys : List D) : List D := List.zipWith (fun x y => .tup [x, y]) xs ys
/-- enumerate: the items with their places, from k on -/
def enmD : Nat → List D → List D
  | _, [] => []
  | k, x :: xs => .tup [.int k, x] :: enmD (k + 1) xs
/-- as a test -/
def tst (r : Rs ER) : Rs Bool := r.bind fun x s => match x.rd s with
  | some d => Rs.of (truth d) s
  | none => .stuck
/-- held, unless nothing comes behind -/
def holdL (x : ER) : List ER → ER
  | [] => x
  | _ => x.hold
/-- is it of one of the classes -/
def anyCl (w : Wd) (c : Tx) : List Cl → Option Bool
  | [] => some false
  | k :: r => match w.cl c k with
    | some true => some true
    | some false => anyCl w c r
    | none => none
/-- .. where all of them are known -/
def exCl (w : Wd) (c : Tx) : List Cl → Option Bool
  | [] => some false
  | k :: r => (w.cl c k).bind fun b => (exCl w c r).map fun d => b || d
mutual
def ev (w : Wd) : IE → Fr → Rs ER
  | .var i, s => match s.sl[i]? with
    | some (.val d) => .ok (.val d) s
    | some (.own _) => .ok (.slot i) s
    | some .ref => .ok .cell s
    | _ => .stuck
  | .cst d, s => .ok (.val d) s
  | .gc k, s => .ok (.val (w.cst k)) s
  | .bin o a b, s => (ev w a s).bind fun x s => (ev w b s).bind fun y s => match x.hold.rd s, y.rd s with
    | some x, some y => Rs.of (opR o x y) s
    | _, _ => .stuck
  | .neg a, s => (ev w a s).bind fun x s => match x.rd s with
    | some (.int i) => .ok (.val (.int (-i))) s
    | _ => .stuck
  | .not a, s => (tst (ev w a s)).bind fun b s => .ok (.val (.bl (!b))) s
  | .and a b, s => (tst (ev w a s)).bind fun t s => if t then (tst (ev w b s)).bind fun t s => .ok (.val (.bl t)) s else .ok (.val (.bl false)) s
  | .or a b, s => (tst (ev w a s)).bind fun t s => if t then .ok (.val (.bl true)) s else (tst (ev w b s)).bind fun t s => .ok (.val (.bl t)) s
  | .cmp o a b, s => (ev w a s).bind fun x s => (ev w b s).bind fun y s => match x.hold.rd s, y.rd s with
    | some x, some y => Rs.of ((cmpR o x y).map fun t => .val (.bl t)) s
    | _, _ => .stuck
  | .chn o p a b c, s => (ev w a s).bind fun x s => (ev w b s).bind fun y s => match x.hold.rd s, y.hold.rd s with
    | some x', some y' => match cmpR o x' y' with
      | some true => (ev w c s).bind fun z s => match y.hold.rd s, z.rd s with
        | some y, some z => Rs.of ((cmpR p y z).map fun t => .val (.bl t)) s
        | _, _ => .stuck
      | some false => .ok (.val (.bl false)) s
      | none => .stuck
    | _, _ => .stuck
  | .ite t a b, s => (tst (ev w t s)).bind fun t s => if t then ev w a s else ev w b s
  | .lst es, s => (evF w es s).bind fun ds s => if ds.length ≤ lim then .ok (.fresh ds) s else .stuck
  | .tup es, s => (evF w es s).bind fun ds s => if ds.length ≤ lim then .ok (.val (.tup ds)) s else .stuck
  | .idx a i, s => (ev w a s).bind fun x s => (ev w i s).bind fun y s => match x.hold.rd s, y.rd s with
    | some x, some y => Rs.of ((atS x y).map .val) s
    | _, _ => .stuck
  | .slc a lo hi, s => (ev w a s).bind fun x s => (evO w lo s).bind fun l s => (evO w hi s).bind fun h s => match x.hold.rd s with
    | some x => Rs.of (slcD x l h) s
    | _ => .stuck
  | .call f ix es, s => (evB w es s).bind fun xs s => doCall w f ix xs s
  | .bi b es, s => (evB w es s).bind fun xs s => match rdAll s xs with
    | some ds => Rs.of (biR b ds) s
    | none => .stuck
  | .mth m o es, s => (ev w o s).bind fun x s => match x with
    | .val (.str t) => (evB w es s).bind fun xs s => match rdAll s xs with
      | some ds => Rs.of (mthR m t ds) s
      | none => .stuck
    | _ => .stuck
  | .isi a c, s => (ev w a s).bind fun x s => match x.rd s with
    | some d => if d.pd.isSome then .ok (.val (.bl (isiD d c))) s else .stuck
    | none => .stuck
  | .isx a k, s => (ev w a s).bind fun x s => match x with
    | .val (.exc c _) => Rs.of ((w.cl c k).map fun b => .val (.bl b)) s
    | _ => .stuck
  | .isxs a ks, s => (ev w a s).bind fun x s => match x with
    | .val (.exc c _) => Rs.of ((anyCl w c ks).map fun b => .val (.bl b)) s
    | _ => .stuck
  | .attr o f, s => (ev w o s).bind fun x s => match x with
    | .val (.exc c fs) => match w.cl c .ve with
      | some _ => Rs.of ((fs.lookup f).map .val) s
      | none => .stuck
    | _ => .stuck
  | .lcm e tg it cond, s => (evI w it s).bind fun xs s1 =>
    match lcGo (fun x s2 => match tg.bind x (s2.wipe tg.slots) with
      | none => .stuck
      | some s3 => (evC w cond s3).bind fun t s4 => if t then (ev w e s4).bind fun y s5 => (y.fz s5).bind fun d s6 => .ok (some d) s6 else .ok none s4) xs s1 with
    | .ok ds s2 => if ds.length ≤ lim then .ok (.fresh ds) ((s2.wipe tg.slots).back s1 tg.slots) else .stuck
    | _ => .stuck
  | .dic kvs, s => .ok (.val (.dic kvs)) s
  | .dget kvs i, s => (ev w i s).bind fun x s => match x.rd s with
    | some d => Rs.of ((dicAt kvs d).map .val) s
    | none => .stuck
  | .lix o e, s => (ev w o s).bind fun x s => match x.hold.rd s with
    | some (.lst _) => (ev w e s).bind fun y s => match x.hold.rd s, y.rd s with
      | some x, some y => Rs.of (lixR y x) s
      | _, _ => .stuck
    | _ => .stuck
  | .mk c es, s => (evF w es s).bind fun ds s => Rs.of ((w.init c ds).map fun gs => .val (.exc c gs)) s
def evC (w : Wd) : IO → Fr → Rs Bool
  | .no, s => .ok true s
  | .so e, s => tst (ev w e s)
def evF (w : Wd) : IEs → Fr → Rs (List D)
  | .nil, s => .ok [] s
  | .cons e r, s => (ev w e s).bind fun x s => (x.fz s).bind fun d s => (evF w r s).bind fun ds s => .ok (d :: ds) s
/-- borrowed; the last one may be fresh -/
def evB (w : Wd) : IEs → Fr → Rs (List ER)
  | .nil, s => .ok [] s
  | .cons e r, s => (ev w e s).bind fun x s => (evB w r s).bind fun xs s => .ok (holdL x xs :: xs) s
def evO (w : Wd) : IO → Fr → Rs (Option Int)
  | .no, s => .ok none s
  | .so e, s => (ev w e s).bind fun x s => match x.rd s with
    | some (.int i) => .ok (some i) s
    | _ => .stuck
/-- what is walked -/
def evI (w : Wd) : IT → Fr → Rs (List D)
  | .seq e, s => (ev w e s).bind fun x s => (x.fz s).bind fun d s => Rs.of (itemsD d) s
  | .rng es, s => (evF w es s).bind fun ds s => match ds with
    | [.int n] => if -lim ≤ n ∧ n ≤ lim then .ok (rngD 0 n.toNat) s else .stuck
    | [.int m, .int n] => if -lim ≤ n ∧ n ≤ lim ∧ -lim ≤ m ∧ m ≤ lim then .ok (rngD m (n - m).toNat) s else .stuck
    | _ => .stuck
  | .enm es, s => (evF w es s).bind fun ds s => match ds with
    | [.lst xs] => .ok (enmD 0 xs) s
    | _ => .stuck
  | .zip es, s => (evF w es s).bind fun ds s => match ds with
    | [.str x, .str y] => .ok (zipD (x.map fun c => .str [c]) (y.map fun c => .str [c])) s
    | [.lst x, .lst y] => .ok (zipD x y) s
    | _ => .stuck
end
end Pi
/-! Statements, defs. -/
namespace Pi
inductive Out where
  | next (s : Fr) | ret (v : CV) (s : Fr) | brk (s : Fr) | cont (s : Fr) | exc (c : Tx) (fs : List (Tx × D)) (s : Fr) | stuck
def Rs.out {α : Type} (r : Rs α) (f : α → Fr → Out) : Out := match r with
  | .ok a s => f a s
  | .exc c fs s => .exc c fs s
  | .stuck => .stuck
def Out.seq (o : Out) (f : Fr → Out) : Out := match o with
  | .next s => f s
  | o => o
def outO (o : Option Fr) : Out := match o with
  | some s => .next s
  | none => .stuck
/-- name = what has come -/
def stoR (i : Nat) (x : ER) (s : Fr) : Out := match x with
  | .val d => .next (s.put i (.val d))
  | .fresh xs => .next (s.put i (.own xs))
  | .slot j => match s.sl[j]? with
    | some (.own xs) => .next ((s.put j (.val (.lst xs))).put i (.val (.lst xs)))
    | some (.val d) => .next (s.put i (.val d))
    | _ => .stuck
  | .cell => .stuck
def retR (x : ER) (s : Fr) : Out := match x with
  | .val d => .ret (.val d) s
  | .fresh xs => .ret (.fresh xs) s
  | .slot j => match s.sl[j]? with
    | some (.own xs) => .ret (.fresh xs) s
    | some (.val d) => .ret (.val d) s
    | _ => .stuck
  | .cell => .stuck
/-- a change of the list in slot i -/
def mutS (i : Nat) (f : List D → Option (List D)) (s : Fr) : Option Fr := match s.sl[i]? with
  | some (.own xs) => (f xs).map fun ys => s.put i (.own ys)
  | some .ref => (f s.cell).map fun ys => ⟨s.sl, ys⟩
  | _ => none
def setAt (k : Int) (d : D) (xs : List D) : Option (List D) := (ixOf xs.length k).map fun j => xs.set j d
/-- an index that is told at once -/
def ixV : IE → Fr → Option Int
  | .cst (.int k), _ => some k
  | .var j, s => match s.sl[j]? with
    | some (.val (.int k)) => some k
    | _ => none
  | _, _ => none
def setX (i : Nat) (e : IE) (d : D) (s : Fr) : Option Fr := match ixV e s with
  | some k => mutS i (setAt k d) s
  | none => none
def tgs : List TG → List D → Fr → Option Fr
  | [], [], s => some s
  | .nm i :: ts, d :: ds, s => tgs ts ds (s.put i (.val d))
  | .ix i e :: ts, d :: ds, s => match setX i e d s with
    | some s => tgs ts ds s
    | none => none
  | _, _, _ => none
def loopGo (f : D → Fr → Out) : List D → Fr → Out
  | [], s => .next s
  | x :: r, s => match f x s with
    | .next s => loopGo f r s
    | .cont s => loopGo f r s
    | .brk s => .next s
    | o => o
/-- behind an except suite its name is gone -/
def Out.drop (i : Nat) : Out → Out
  | .next s => .next (s.put i .un)
  | .ret v s => .ret v (s.put i .un)
  | .brk s => .brk (s.put i .un)
  | .cont s => .cont (s.put i .un)
  | _ => .stuck
mutual
def exec (w : Wd) : IS → Fr → Out
  | .set i e, s => (ev w e s).out fun x s => stoR i x s
  | .setT ts e, s => (ev w e s).out fun x s => match x.hold.rd s with
    | some (.tup ds) => outO (tgs ts ds s)
    | some (.lst ds) => outO (tgs ts ds s)
    | _ => .stuck
  | .par i j es, s => (evF w es s).out fun ds s => outO (putAll s [i, j] ds)
  | .setI i ix e, s => (ev w e s).out fun x s => (x.fz s).out fun d s => outO (setX i ix d s)
  | .app i e, s => match mutS i some s with
    | none => .stuck
    | some _ => (ev w e s).out fun x s => (x.fz s).out fun d s => outO (mutS i (fun xs => if xs.length < lim then some (xs ++ [d]) else none) s)
  | .ext i e, s => match mutS i some s with
    | none => .stuck
    | some _ => (ev w e s).out fun x s => match x.hold.rd s with
      | some (.lst ys) => outO (mutS i (fun xs => if xs.length + ys.length < lim then some (xs ++ ys) else none) s)
      | _ => .stuck
  | .ret e, s => (ev w e s).out retR
  | .retN, s => .ret (.val .non) s
  | .ite t a b, s => (tst (ev w t s)).out fun t s => if t then execs w a s else execs w b s
  | .loop tg it b, s => (evI w it s).out fun xs s => loopGo (fun x s => match tg.bind x s with
    | none => .stuck
    | some s => execs w b s) xs s
  | .rais c es, s => (evF w es s).out fun ds s => match w.init c ds with
    | some fs => .exc c fs s
    | none => .stuck
  | .tryS b hs, s => match execs w b s with
    | .exc c fs s => hand w hs c fs s
    | o => o
  | .pass, s => .next s
  | .brk, s => .brk s
  | .cont, s => .cont s
  | .drop e, s => (ev w e s).out fun _ s => .next s
def execs (w : Wd) : ISs → Fr → Out
  | .nil, s => .next s
  | .cons a r, s => (exec w a s).seq fun s => execs w r s
def hand (w : Wd) : IHs → Tx → List (Tx × D) → Fr → Out
  | .nil, c, fs, s => .exc c fs s
  | .cons ks i b r, c, fs, s => match exCl w c ks with
    | some true => (execs w b (s.put i (.val (.exc c fs)))).drop i
    | some false => hand w r c fs s
    | none => .stuck
end
/-! ### defs -/
structure Pg where
  cl : Tx → Cl → Option Bool
  fns : List Fn
  cst : List D
  init : Tx → List D → Option (List (Tx × D))
def Pg.br (p : Pg) (f : Nat) : Bool := match p.fns[f]? with
  | some d => d.br
  | none => false
def Pg.df (p : Pg) (f : Nat) : List D := match p.fns[f]? with
  | some d => d.df
  | none => []
/-- the slots at the entry: the parameter that is lent stands for the cell -/
def entryP (br : Bool) : List D → List Sl
  | [] => []
  | d :: ds => (if br then .ref else .val d) :: ds.map .val
def entry (d : Fn) (as : List D) : List Sl := entryP d.br as ++ List.replicate (d.ns - d.np) .un
def ofOut (o : Out) : CR := match o with
  | .next s => .ok (.val .non) s.cell
  | .ret v s => .ok v s.cell
  | .exc c fs s => .exc c fs s.cell
  | _ => .stuck
def Pg.wd0 (p : Pg) (n : Nat) (call : Nat → List D → List D → CR) : Wd := ⟨p.cl, call, p.br, p.df, fun k => p.cst.getD k .non, fun c ds => if 2 ≤ n then p.init c ds else none⟩
def Pg.run (p : Pg) : Nat → Nat → List D → List D → CR
  | 0, _, _, _ => .stuck
  | n + 1, f, as, c => match p.fns[f]? with
    | none => .stuck
    | some d => if as.length = d.np then ofOut (execs (p.wd0 n (p.run n)) d.body ⟨entry d as, c⟩) else .stuck
def Pg.wd (p : Pg) (n : Nat) : Wd := p.wd0 n (p.run n)
/-- a table of classes: each with those that it hangs on, of those that are asked for -/
def clOf (rs : List (Tx × List Cl)) (ks : List Cl) (c : Tx) (k : Cl) : Option Bool := match rs.find? fun r => decide (r.1 = c) with
  | some r => if k ∈ ks then some (decide (k ∈ r.2)) else none
  | none => none
end Pi
set_option maxRecDepth 100000
set_option maxHeartbeats 3900000
namespace Pi
open PySem PySem.Spec L2 PyProof.Rows
abbrev Sg := List (Option V)
/-! ### what a value stands for -/
def tx (x : Tx) : Str := ⟨x.toArray⟩
def kyS : Ky → Key
  | .inl i => .inl i
  | .inr x => .inr (tx x)
/-- where the class of that name stands -/
def adr (K : PySem.W.Frag) (c : Tx) : Addr := match PySem.W.nsIn K mainGlobals (tx c) with
  | some (some (.ref a)) => a
  | _ => 0
/-- an error that was caught: its class, its dict -/
def exq (a c : Addr) (d : Option Addr) : HO := .ext fun h => ∃ oe vs, h.get? a = some oe ∧ oe.cls = .ref c ∧ oe.dict = d ∧ oe.data = .fields vs
/-- v stands for d over the frozen heap F -/
inductive Rp (K : PySem.W.Frag) (F : Hp) : V → D → Prop where
  | non : Rp K F .non .non
  | bl (b : Bool) : Rp K F (.bl b) (.bl b)
  | int (i : Int) : Rp K F (.int i) (.int i)
  | str (x : Tx) : Rp K F (.str (tx x)) (.str x)
  | lst {a : Addr} {vs : List V} {xs : List D} (h : F a = some (.lst vs)) (l : vs.length = xs.length) (r : ∀ (i : Nat) v x, vs[i]? = some v → xs[i]? = some x → Rp K F v x) : Rp K F (.ref a) (.lst xs)
  | tup {a : Addr} {vs : List V} {xs : List D} (h : SqT K F a vs) (l : vs.length = xs.length) (r : ∀ (i : Nat) v x, vs[i]? = some v → xs[i]? = some x → Rp K F v x) : Rp K F (.ref a) (.tup xs)
  | scr {a : Addr} {vs : List V} {xs : List D} (h : SqL K F a vs) (l : vs.length = xs.length) (r : ∀ (i : Nat) v x, vs[i]? = some v → xs[i]? = some x → Rp K F v x) : Rp K F (.ref a) (.scr xs)
  | dic {a : Addr} {kvs : List (Key × V)} {xs : List (Ky × D)} (h : F a = some (.dK kvs)) (l : kvs.map (·.1) = xs.map (fun p => kyS p.1)) (r : ∀ (i : Nat) p q, kvs[i]? = some p → xs[i]? = some q → Rp K F p.2 q.2) : Rp K F (.ref a) (.dic xs)
  | ex0 {a : Addr} {c : Tx} (h : F a = some (exq a (adr K c) none)) : Rp K F (.ref a) (.exc c [])
  | ex1 {a dx : Addr} {c : Tx} {vs : List (Str × V)} {fs : List (Tx × D)} (h : F a = some (exq a (adr K c) (some dx))) (hd : F dx = some (.xd vs)) (l : vs.map (·.1) = fs.map (fun p => tx p.1)) (r : ∀ (i : Nat) p q, vs[i]? = some p → fs[i]? = some q → Rp K F p.2 q.2) : Rp K F (.ref a) (.exc c fs)
/-- item by item -/
def RpA (K : PySem.W.Frag) (F : Hp) (vs : List V) (xs : List D) : Prop := vs.length = xs.length ∧ ∀ (i : Nat) v x, vs[i]? = some v → xs[i]? = some x → Rp K F v x
section
variable {K : PySem.W.Frag} {F F' : Hp} {v : V} {d : D} {vs : List V} {xs : List D}
theorem sql_mono {a : Addr} {ws : List V} (e : Same F F') (h : SqL K F a ws) : SqL K F' a ws := e.seq h
theorem sqt_mono {a : Addr} {ws : List V} (e : Same F F') (h : SqT K F a ws) : SqT K F' a ws := by
  exact Or.imp_left (Or.imp (fun z => e _ _ z) fun z => z.imp fun _ y => e _ _ y) h
theorem Rp.mono (e : Same F F') (h : Rp K F v d) : Rp K F' v d := by
  induction h with
  | non => exact .non
  | bl b => exact .bl b
  | int i => exact .int i
  | str x => exact .str x
  | lst h l _ ih => exact .lst (e _ _ h) l ih
  | scr h l _ ih => exact .scr (sql_mono e h) l ih
  | tup h l _ ih => exact .tup (sqt_mono e h) l ih
  | dic h l _ ih => exact .dic (e _ _ h) l ih
  | ex0 h => exact .ex0 (e _ _ h)
  | ex1 h hd l _ ih => exact .ex1 (e _ _ h) (e _ _ hd) l ih
theorem RpA.mono (e : Same F F') (h : RpA K F vs xs) : RpA K F' vs xs := ⟨h.1, fun i v x a b => (h.2 i v x a b).mono e⟩
theorem RpA.nil : RpA K F [] [] := ⟨rfl, fun i v x a => by simp at a⟩
theorem RpA.cons (h : Rp K F v d) (t : RpA K F vs xs) : RpA K F (v :: vs) (d :: xs) := by
  refine ⟨by simp [t.1], fun i w x a b => ?_⟩
  cases i with
  | zero =>
    simp only [List.getElem?_cons_zero, Option.some.injEq] at a b
    subst a; subst b
    exact h
  | succ i => exact t.2 i w x (by simpa using a) (by simpa using b)
theorem RpA.cons_inv {x : D} (h : RpA K F (v :: vs) (x :: xs)) : Rp K F v x ∧ RpA K F vs xs :=
  ⟨h.2 0 v x rfl rfl, by have := h.1; simpa using this, fun i w y a b => h.2 (i + 1) w y (by simpa using a) (by simpa using b)⟩
theorem RpA.append {ws : List V} {ys : List D} (h : RpA K F vs xs) (t : RpA K F ws ys) : RpA K F (vs ++ ws) (xs ++ ys) := by
  induction vs generalizing xs with
  | nil =>
    cases xs with
    | nil => exact t
    | cons x xs => have := h.1; simp at this
  | cons v vs ih =>
    cases xs with
    | nil => have := h.1; simp at this
    | cons x xs =>
      obtain ⟨a, b⟩ := h.cons_inv
      exact RpA.cons a (ih b)
theorem RpA.get {i : Nat} {x : D} (h : RpA K F vs xs) (e : xs[i]? = some x) : ∃ v, vs[i]? = some v ∧ Rp K F v x := by
  have hi : i < vs.length := by
    rw [h.1]
    exact lt_get e
  exact ⟨vs[i], List.getElem?_eq_getElem hi, h.2 i _ x (List.getElem?_eq_getElem hi) e⟩
theorem RpA.take (h : RpA K F vs xs) (n : Nat) : RpA K F (vs.take n) (xs.take n) := by
  refine ⟨by simp [h.1], fun i v x a b => ?_⟩
  rw [List.getElem?_take] at a b
  split at a
  · rename_i c
    rw [if_pos c] at b
    exact h.2 i v x a b
  · cases a
theorem RpA.drop (h : RpA K F vs xs) (n : Nat) : RpA K F (vs.drop n) (xs.drop n) := by
  refine ⟨by simp [h.1], fun i v x a b => ?_⟩
  rw [List.getElem?_drop] at a b
  exact h.2 _ v x a b
theorem RpA.set (h : RpA K F vs xs) (r : Rp K F v d) (n : Nat) : RpA K F (vs.set n v) (xs.set n d) := by
  refine ⟨by simp [h.1], fun i w x a b => ?_⟩
  rw [List.getElem?_set] at a b
  split at a
  · rename_i c
    rw [if_pos c] at b
    split at a
    · rename_i c2
      rw [if_pos (by rw [← h.1]; exact c2)] at b
      cases a; cases b
      exact r
    · cases a
  · rename_i c
    rw [if_neg c] at b
    exact h.2 i w x a b
end
/-- .. where the outermost list may be one's own (it stands in H) -/
inductive Rt (K : PySem.W.Frag) (F H : Hp) : V → D → Prop where
  | fz {v : V} {d : D} (h : Rp K F v d) : Rt K F H v d
  | ow {p : Addr} {vs : List V} {xs : List D} (h : H p = some (.lst vs)) (r : RpA K F vs xs) : Rt K F H (.ref p) (.lst xs)
section
variable {K : PySem.W.Frag} {F H : Hp} {v : V} {d : D} {xs : List D}
theorem Rt.int {i : Int} (h : Rt K F H v (.int i)) : v = .int i := by
  cases h with
  | fz h => cases h; rfl
theorem Rt.bl {b : Bool} (h : Rt K F H v (.bl b)) : v = .bl b := by
  cases h with
  | fz h => cases h; rfl
theorem Rt.str {x : Tx} (h : Rt K F H v (.str x)) : v = .str (tx x) := by
  cases h with
  | fz h => cases h; rfl
theorem Rt.non (h : Rt K F H v .non) : v = .non := by
  cases h with
  | fz h => cases h; rfl
theorem Rt.lst (s : Same F H) (h : Rt K F H v (.lst xs)) : ∃ p vs, v = .ref p ∧ H p = some (.lst vs) ∧ RpA K F vs xs := by
  cases h with
  | fz h =>
    cases h with
    | lst h l r => exact ⟨_, _, rfl, s _ _ h, l, r⟩
  | ow h r => exact ⟨_, _, rfl, h, r⟩
theorem Rt.scr (s : Same F H) (h : Rt K F H v (.scr xs)) : ∃ p vs, v = .ref p ∧ SqL K H p vs ∧ RpA K F vs xs := by
  cases h with
  | fz h =>
    cases h with
    | scr h l r => exact ⟨_, _, rfl, sql_mono s h, l, r⟩
theorem Rt.tup (s : Same F H) (h : Rt K F H v (.tup xs)) : ∃ p vs, v = .ref p ∧ SqT K H p vs ∧ RpA K F vs xs := by
  cases h with
  | fz h =>
    cases h with
    | tup h l r => exact ⟨_, _, rfl, sqt_mono s h, l, r⟩
end

/-! ### the state -/
/-- where the cell stands, what was frozen and tracked at the entry -/
structure En where
  c : Option Addr
  F0 : Hp
  H0 : Hp
def SlOk (K : PySem.W.Frag) (e : En) (σ : Sg) (F H : Hp) (i : Nat) : Sl → Prop
  | .un => True
  | .val d => ∃ v, σ[i]? = some (some v) ∧ Rp K F v d
  | .own xs => ∃ p vs, σ[i]? = some (some (.ref p)) ∧ e.H0 p = none ∧ F p = none ∧ some p ≠ e.c ∧ H p = some (.lst vs) ∧ RpA K F vs xs
  | .ref => ∃ a, e.c = some a ∧ σ[i]? = some (some (.ref a))
def isOwn : Sl → Bool
  | .own _ => true
  | _ => false
structure Rl (K : PySem.W.Frag) (e : En) (s : Fr) (σ : Sg) (F H : Hp) : Prop where
  sub : Same F H
  fnew : ∀ b o, F b = some o → e.F0 b = some o ∨ e.H0 b = none
  f0 : Same e.F0 F
  keep : ∀ b o, e.H0 b = some o → some b ≠ e.c → H b = some o
  cell : ∀ a, e.c = some a → F a = none ∧ ∃ vs, H a = some (.lst vs) ∧ RpA K F vs s.cell
  slot : ∀ (i : Nat) x, s.sl[i]? = some x → SlOk K e σ F H i x
  dist : ∀ (i j : Nat) x y, s.sl[i]? = some x → s.sl[j]? = some y → isOwn x = true → isOwn y = true → σ[i]? = σ[j]? → i = j
  len : s.sl.length = σ.length
/-- what has come -/
def Rv (K : PySem.W.Frag) (e : En) (s : Fr) (σ : Sg) (F H : Hp) (v : V) : ER → Prop
  | .val d => Rp K F v d
  | .fresh xs => ∃ p vs, v = .ref p ∧ e.H0 p = none ∧ F p = none ∧ some p ≠ e.c ∧ H p = some (.lst vs) ∧ RpA K F vs xs ∧ ∀ (i : Nat) x, s.sl[i]? = some x → isOwn x = true → σ[i]? ≠ some (some (.ref p))
  | .slot i => σ[i]? = some (some v)
  | .cell => ∃ a, e.c = some a ∧ v = .ref a
section
variable {K : PySem.W.Frag} {e : En} {s : Fr} {σ : Sg} {F H : Hp} {v : V} {d : D} {er : ER}
/-- what is read of it -/
theorem Rl.rd (R : Rl K e s σ F H) (h : Rv K e s σ F H v er) (q : er.rd s = some d) : Rt K F H v d := by
  cases er with
  | val x =>
    cases q
    exact .fz h
  | fresh xs =>
    cases q
    obtain ⟨p, vs, rfl, _, _, _, hp, r, _⟩ := h
    exact .ow hp r
  | slot i =>
    have h : σ[i]? = some (some v) := h
    unfold ER.rd at q
    cases hs : s.sl[i]? with
    | none =>
      simp only [hs] at q
      cases q
    | some x =>
      simp only [hs] at q
      have k := R.slot i x hs
      cases x with
      | un => cases q
      | ref => cases q
      | val y =>
        cases q
        obtain ⟨w, hw, r⟩ := k
        rw [h] at hw
        cases hw
        exact .fz r
      | own xs =>
        cases q
        obtain ⟨p, vs, hw, _, _, _, hp, r⟩ := k
        rw [h] at hw
        cases hw
        exact .ow hp r
  | cell =>
    cases q
    obtain ⟨a, ha, rfl⟩ := h
    obtain ⟨_, vs, hv, r⟩ := R.cell a ha
    exact .ow hv r
/-- a new frozen object -/
theorem Rl.freeze {p : Addr} {vs : List V} (R : Rl K e s σ F H) (h0 : e.H0 p = none) (hF : F p = none) (hc : some p ≠ e.c) (hp : H p = some (.lst vs))
    (ns : ∀ (i : Nat) x, s.sl[i]? = some x → isOwn x = true → σ[i]? ≠ some (some (.ref p))) : Rl K e s σ (upd F p (.lst vs)) H ∧ Same F (upd F p (.lst vs)) := by
  have sm : Same F (upd F p (.lst vs)) := fun b o q => by
    rw [upd_ne (ne_of_none q hF)]
    exact q
  refine ⟨⟨fun b o q => ?_, fun b o q => ?_, R.f0.trans sm, R.keep, fun a ha => ?_, fun i x q => ?_, R.dist, R.len⟩, sm⟩
  · by_cases hb : b = p
    · subst hb
      rw [upd_same] at q
      cases q
      exact hp
    · rw [upd_ne hb] at q
      exact R.sub b o q
  · by_cases hb : b = p
    · subst hb
      exact .inr h0
    · rw [upd_ne hb] at q
      exact R.fnew b o q
  · obtain ⟨h1, ws, h2, r⟩ := R.cell a ha
    refine ⟨?_, ws, h2, r.mono sm⟩
    rw [upd_ne (fun z => hc (by rw [ha, z]))]
    exact h1
  · have k := R.slot i x q
    cases x with
    | un => trivial
    | val d =>
      obtain ⟨w, hw, r⟩ := k
      exact ⟨w, hw, r.mono sm⟩
    | own xs =>
      obtain ⟨p', ws, hw, h1, h2, h3, h4, r⟩ := k
      have np : p' ≠ p := fun z => ns i _ q rfl (by rw [hw, z])
      exact ⟨p', ws, hw, h1, by rw [upd_ne np]; exact h2, h3, h4, r.mono sm⟩
    | ref => exact k
/-- held: a fresh list is frozen -/
theorem Rl.hold (R : Rl K e s σ F H) (h : Rv K e s σ F H v er) : ∃ F', Rl K e s σ F' H ∧ Same F F' ∧ Rv K e s σ F' H v er.hold := by
  cases er with
  | fresh xs =>
    obtain ⟨p, vs, rfl, h0, hF, hc, hp, r, ns⟩ := h
    obtain ⟨R', sm⟩ := R.freeze h0 hF hc hp ns
    exact ⟨_, R', sm, .lst upd_same r.1 (r.mono sm).2⟩
  | val d => exact ⟨F, R, Same.refl F, h⟩
  | slot i => exact ⟨F, R, Same.refl F, h⟩
  | cell => exact ⟨F, R, Same.refl F, h⟩
/-- what is held stays -/
theorem Rv.stay {s' : Fr} {F' H' : Hp} (h : Rv K e s σ F H v er.hold) (sm : Same F F') : Rv K e s' σ F' H' v er.hold := by
  cases er with
  | fresh xs => exact Rp.mono sm h
  | val d => exact Rp.mono sm h
  | slot i => exact h
  | cell => exact h
end
end Pi
set_option maxRecDepth 100000
set_option maxHeartbeats 3900000
namespace Pi
open PySem PySem.Spec L2 PyProof.Rows
/-! ### new objects -/
section
variable {K : PySem.W.Frag} {e : En} {s : Fr} {σ : Sg} {F H : Hp} {v : V} {d : D} {er : ER} {p : Addr} {o : HO}
structure Nw (e : En) (s : Fr) (σ : Sg) (F : Hp) (p : Addr) : Prop where
  h0 : e.H0 p = none
  f : F p = none
  c : some p ≠ e.c
  ow : ∀ (i : Nat) x, s.sl[i]? = some x → isOwn x = true → σ[i]? ≠ some (some (.ref p))
theorem Rl.nw (R : Rl K e s σ F H) (hp : H p = none) : Nw e s σ F p := by
  have hc : some p ≠ e.c := fun z => by
    obtain ⟨_, vs, h, _⟩ := R.cell p z.symm
    rw [hp] at h
    cases h
  refine ⟨?_, ?_, hc, fun i x q io z => ?_⟩
  · cases q : e.H0 p with
    | none => rfl
    | some u =>
      rw [R.keep p u q hc] at hp
      cases hp
  · cases q : F p with
    | none => rfl
    | some u =>
      rw [R.sub p u q] at hp
      cases hp
  · have k := R.slot i x q
    cases x with
    | own xs =>
      obtain ⟨p', vs, hw, _, _, _, h, _⟩ := k
      rw [z] at hw
      cases hw
      rw [hp] at h
      cases h
    | un => cases io
    | val _ => cases io
    | ref => cases io
/-- an object laid beside -/
theorem Rl.put (R : Rl K e s σ F H) (hp : H p = none) : Rl K e s σ F (upd H p o) := by
  have ne : ∀ {b u}, H b = some u → upd H p o b = some u := fun {b u} q => by
    rw [upd_ne (ne_of_none q hp)]
    exact q
  refine ⟨fun b u q => ne (R.sub b u q), R.fnew, R.f0, fun b u q hc => ne (R.keep b u q hc), fun a ha => ?_, fun i x q => ?_, R.dist, R.len⟩
  · obtain ⟨h1, vs, h2, r⟩ := R.cell a ha
    exact ⟨h1, vs, ne h2, r⟩
  · have k := R.slot i x q
    cases x with
    | own xs =>
      obtain ⟨p', vs, hw, h1, h2, h3, h4, r⟩ := k
      exact ⟨p', vs, hw, h1, h2, h3, ne h4, r⟩
    | un => exact k
    | val _ => exact k
    | ref => exact k
/-- an object laid beside, frozen -/
theorem Rl.ice (R : Rl K e s σ F H) (n : Nw e s σ F p) (hp : H p = some o) : Rl K e s σ (upd F p o) H ∧ Same F (upd F p o) := by
  have sm : Same F (upd F p o) := fun b u q => by
    rw [upd_ne (ne_of_none q n.f)]
    exact q
  refine ⟨⟨fun b u q => ?_, fun b u q => ?_, R.f0.trans sm, R.keep, fun a ha => ?_, fun i x q => ?_, R.dist, R.len⟩, sm⟩
  · by_cases hb : b = p
    · subst hb
      rw [upd_same] at q
      cases q
      exact hp
    · rw [upd_ne hb] at q
      exact R.sub b u q
  · by_cases hb : b = p
    · subst hb
      exact .inr n.h0
    · rw [upd_ne hb] at q
      exact R.fnew b u q
  · obtain ⟨h1, ws, h2, r⟩ := R.cell a ha
    refine ⟨?_, ws, h2, r.mono sm⟩
    rw [upd_ne (fun z => n.c (by rw [ha, z]))]
    exact h1
  · have k := R.slot i x q
    cases x with
    | un => trivial
    | val d =>
      obtain ⟨w, hw, r⟩ := k
      exact ⟨w, hw, r.mono sm⟩
    | own xs =>
      obtain ⟨p', ws, hw, h1, h2, h3, h4, r⟩ := k
      have np : p' ≠ p := fun z => n.ow i _ q rfl (by rw [hw, z])
      exact ⟨p', ws, hw, h1, by rw [upd_ne np]; exact h2, h3, h4, r.mono sm⟩
    | ref => exact k
theorem Rl.iced (R : Rl K e s σ F H) (hp : H p = none) : Rl K e s σ (upd F p o) (upd H p o) ∧ Same F (upd F p o) := (R.put hp).ice (R.nw hp) upd_same
/-- a new list of one's own -/
theorem Rl.newL {vs : List V} {xs : List D} (R : Rl K e s σ F H) (hp : H p = none) (r : RpA K F vs xs) : Rl K e s σ F (upd H p (.lst vs)) ∧ Rv K e s σ F (upd H p (.lst vs)) (.ref p) (.fresh xs) := by
  have n := R.nw hp
  exact ⟨R.put hp, p, vs, rfl, n.h0, n.f, n.c, upd_same, r, n.ow⟩
theorem Rl.newT {vs : List V} {xs : List D} (R : Rl K e s σ F H) (hp : H p = none) (r : RpA K F vs xs) : Rl K e s σ (upd F p (.tup vs)) (upd H p (.tup vs)) ∧ Same F (upd F p (.tup vs)) ∧ Rv K e s σ (upd F p (.tup vs)) (upd H p (.tup vs)) (.ref p) (.val (.tup xs)) := by
  obtain ⟨a, b⟩ := R.iced (o := .tup vs) hp
  exact ⟨a, b, .tup (.of upd_same) r.1 (r.mono b).2⟩
end
/-! ### what follows -/
/-- the own dict of an error: its fields -/
def Xd (K : PySem.W.Frag) (F H : Hp) (d : Option Addr) (fs : List (Tx × D)) : Prop :=
  (fs = [] ∧ d = none) ∨ ∃ dx vs, d = some dx ∧ H dx = some (.xd vs) ∧ F dx = some (.xd vs) ∧ vs.map (·.1) = fs.map (fun p => tx p.1) ∧ RpA K F (vs.map (·.2)) (fs.map (·.2))
/-- where a body stands: what is wanted of an error -/
structure Wi where
  cn : Tx → Value
  W : WX
def Po {α : Type} (K : PySem.W.Frag) (g : Wi) (e : En) (σ : Sg) (F : Hp) (R : α → Fr → Hp → Hp → Prop) : Rs α → Prop
  | .ok a s => ∀ H F', Rl K e s σ F' H → Same F F' → R a s F' H
  | .exc c fs s => ∀ d H F', Rl K e s σ F' H → Same F F' → Xd K F' H d fs → g.W (g.cn c) d σ H
  | .stuck => False
section
variable {α β : Type} {K : PySem.W.Frag} {g : Wi} {e : En} {σ : Sg} {F F' : Hp} {R R' : α → Fr → Hp → Hp → Prop} {T : β → Fr → Hp → Hp → Prop} {r : Rs α}
theorem Po.mono (h : Po K g e σ F R r) (s : Same F F') : Po K g e σ F' R r := by
  cases r with
  | ok a t => exact fun H F2 k q => h H F2 k (s.trans q)
  | exc c fs t => exact fun d H F2 k q x => h d H F2 k (s.trans q) x
  | stuck => exact h
theorem Po.imp (h : Po K g e σ F R r) (i : ∀ a s F' H, Rl K e s σ F' H → Same F F' → R a s F' H → R' a s F' H) : Po K g e σ F R' r := by
  cases r with
  | ok a t => exact fun H F2 k q => i a t F2 H k q (h H F2 k q)
  | exc c fs t => exact h
  | stuck => exact h
theorem Po.bind {f : α → Fr → Rs β} (h : Po K g e σ F T (r.bind f)) : Po K g e σ F (fun a s F1 _ => Po K g e σ F1 T (f a s)) r := by
  cases r with
  | ok a t => exact fun H F2 k q => Po.mono (r := f a t) h q
  | exc c fs t => exact h
  | stuck => exact h
end
/-- what an expression's value gives -/
def Vo (K : PySem.W.Frag) (e : En) (σ : Sg) (Q : VK) : ER → Fr → Hp → Hp → Prop := fun er s F H => ∀ v, Rv K e s σ F H v er → Q v H
def tE (K : PySem.W.Frag) (g : Wi) (w : Wd) (ie : IE) : TE := fun σ H Q => ∃ e s F, Rl K e s σ F H ∧ Po K g e σ F (Vo K e σ Q) (ev w ie s)
def tT (K : PySem.W.Frag) (g : Wi) (w : Wd) (ie : IE) : TT := fun σ H Q => ∃ e s F, Rl K e s σ F H ∧ Po K g e σ F (fun b _ _ H => Q b H) (tst (ev w ie s))
/-- arguments that are kept; that are lent -/
def tF (K : PySem.W.Frag) (g : Wi) (w : Wd) (es : IEs) : TA := fun σ H Q => ∃ e s F, Rl K e s σ F H ∧ Po K g e σ F (fun ds _ F H => ∀ vs, RpA K F vs ds → Q vs H) (evF w es s)
def RvA (K : PySem.W.Frag) (e : En) (s : Fr) (σ : Sg) (F H : Hp) (vs : List V) (ers : List ER) : Prop := vs.length = ers.length ∧ ∀ (i : Nat) v er, vs[i]? = some v → ers[i]? = some er → Rv K e s σ F H v er
def tB (K : PySem.W.Frag) (g : Wi) (w : Wd) (es : IEs) : TA := fun σ H Q => ∃ e s F, Rl K e s σ F H ∧ Po K g e σ F (fun ers s F H => ∀ vs, RvA K e s σ F H vs ers → Q vs H) (evB w es s)
theorem _root_.L2.PE.imp {X : Cx} {e : Expr} {t t' : TE} (h : PE X e t) (i : ∀ σ H Q, t' σ H Q → t σ H Q) : PE X e t' := ⟨fun pins s σ H Q I q => h.run pins s σ H Q I (i σ H Q q)⟩
theorem _root_.L2.PT.imp {X : Cx} {e : Expr} {t t' : TT} (h : PT X e t) (i : ∀ σ H Q, t' σ H Q → t σ H Q) : PT X e t' := ⟨fun pins s σ H Q I q => h.run pins s σ H Q I (i σ H Q q)⟩
theorem _root_.L2.PA.imp {X : Cx} {e : List Expr} {t t' : TA} (h : PA X e t) (i : ∀ σ H Q, t' σ H Q → t σ H Q) : PA X e t' := ⟨fun pos pins s σ H Q I q => h.run pos pins s σ H Q I (i σ H Q q)⟩
theorem _root_.L2.OpR.imp {X : Cx} {f : Value → Value → Sem Value} {r r' : R2} (h : OpR X f r) (i : ∀ x y H Q, r' x y H Q → r x y H Q) : OpR X f r' :=
  fun pins s σ H x y v u Q I rx ry q => h pins s σ H x y v u Q I rx ry (i x y H Q q)
theorem Rt.tupF {K : PySem.W.Frag} {F H : Hp} {v : V} {xs : List D} (h : Rt K F H v (.tup xs)) : Rp K F v (.tup xs) := by
  cases h with
  | fz h => exact h
/-! ### two operands -/
/-- the values stand for data; what comes is er -/
def rD (K : PySem.W.Frag) (f : D → D → Option ER) : R2 := fun x y H Q => ∃ (e : En) (s : Fr) (σ : Sg) (F : Hp) (dx dy : D) (er : ER), Rl K e s σ F H ∧ Rt K F H x dx ∧ Rt K F H y dy ∧ f dx dy = some er ∧
  ∀ v H' F', Rl K e s σ F' H' → Same F F' → Rv K e s σ F' H' v er → Q v H'
theorem t_two {K : PySem.W.Frag} {g : Wi} {w : Wd} {a b : IE} {f : D → D → Option ER} {σ : Sg} {H : Hp} {Q : VK} {e : En} {s : Fr} {F : Hp} (R : Rl K e s σ F H)
    (h : Po K g e σ F (Vo K e σ Q) ((ev w a s).bind fun x s => (ev w b s).bind fun y s => match x.hold.rd s, y.rd s with | some x, some y => Rs.of (f x y) s | _, _ => .stuck)) :
    tOp (rD K f) (tE K g w a) (tE K g w b) σ H Q := by
  refine ⟨e, s, F, R, h.bind.imp fun er s1 F1 H1 R1 sm1 h1 v rv => ?_⟩
  obtain ⟨F1', R1', smf, rv'⟩ := R1.hold rv
  refine ⟨e, s1, F1', R1', (h1.mono smf).bind.imp fun er2 s2 F2 H2 R2 sm2 h2 v2 rv2 => ?_⟩
  have rx := rv'.stay (s' := s2) (H' := H2) sm2
  cases ex : er.hold.rd s2 with
  | none =>
    simp only [ex] at h2
    exact h2.elim
  | some dx =>
    cases ey : er2.rd s2 with
    | none =>
      simp only [ex, ey] at h2
      exact h2.elim
    | some dy =>
      simp only [ex, ey] at h2
      cases ef : f dx dy with
      | none =>
        rw [ef] at h2
        exact h2.elim
      | some r =>
        rw [ef] at h2
        exact ⟨e, s2, σ, F2, dx, dy, r, R2, R2.rd rx ex, R2.rd rv2 ey, ef, fun v H' F' R' sm rv => h2 H' F' R' sm v rv⟩
/-! ### + - * % // ** -/
def boS : BOp → Operator
  | .add => .Add | .sub => .Sub | .mul => .Mult | .mod => .Mod | .fdiv => .FloorDiv | .pow => .Pow
theorem tx_app (x y : Tx) : tx x ++ tx y = tx (x ++ y) := by
  show (⟨x.toArray ++ y.toArray⟩ : Str) = ⟨(x ++ y).toArray⟩
  simp
theorem tx_len (x : Tx) : (tx x).length = x.length := by simp [tx, Str.length]
theorem lim_le {n : Nat} (h : n ≤ lim) : n ≤ sizeLine := Nat.le_trans h (by decide)
theorem rd_int {K : PySem.W.Frag} {c : Int → Int → Bool} {f : Int → Int → Int} {x y : V} {H : Hp} {Q : VK} (h : rD K (intR c f) x y H Q) : ∃ i j, x = .int i ∧ y = .int j ∧ c i j = true ∧ Q (.int (f i j)) H := by
  obtain ⟨e, s, σ, F, dx, dy, er, R, rx, ry, ef, q⟩ := h
  unfold intR at ef
  split at ef
  · split at ef
    · rename_i hc
      cases ef
      cases rx.int; cases ry.int
      exact ⟨_, _, rfl, rfl, hc, q _ H F R (Same.refl F) (.int _)⟩
    · cases ef
  · cases ef
/-- a text taken so many times -/
theorem rep_fold (x : Tx) : ∀ (n : Nat) (acc : Array Nat), (List.replicate n x.toArray).foldl (· ++ ·) acc = acc ++ (repT x n).toArray
  | 0, acc => by simp [repT]
  | n + 1, acc => by
    rw [List.replicate_succ, List.foldl_cons, rep_fold x n]
    simp [repT]
theorem rep_one (x : Tx) : repT x 1 = x := by simp [repT]
theorem op_timesT {X : Cx} : OpR X (binaryOp .Mult) (fun x y H Q => ∃ (a : Tx) (n : Int), x = .str (tx a) ∧ y = .int n ∧ 1 ≤ n ∧ n ≤ 1000 ∧ a.length ≤ 1000 ∧ Q (.str (tx (repT a n.toNat))) H) := by
  intro pins s σ H x y v u Q I rx ry ⟨a, n, ex, ey, h1, h2, h3, q⟩
  subst ex ey
  obtain ⟨t1, rfl⟩ := rx
  obtain ⟨t2, rfl⟩ := ry
  have hm : a.length * n.toNat ≤ 1000 * 1000 := Nat.mul_le_mul h3 (by omega)
  have len : (tx a).length = a.length := tx_len a
  refine PySem.P.mul_str (by simp; omega) (fun _ _ => ?_) (fun _ _ => ?_) ?_
  · rw [len]
    have : (1000 : Int) ≤ (2 ^ 63 - 1) / n := by
      rw [Int.le_ediv_iff_mul_le (by omega)]
      omega
    omega
  · rw [len]
    show decide (a.length * n.toNat > sizeLine) = false
    exact decide_eq_false (by have := sizeLine_eq; omega)
  · rw [if_neg (by omega)]
    split
    · rename_i z
      have e : repT a n.toNat = a := by
        simp only [Bool.or_eq_true, beq_iff_eq] at z
        rcases z with z | z
        · rw [z]; exact rep_one a
        · rw [len] at z
          have : a = [] := List.eq_nil_of_length_eq_zero z
          subst this
          have : ∀ m, repT ([] : Tx) m = [] := fun m => by induction m with
            | zero => rfl
            | succ m ih => simp [repT, ih]
          exact this _
      rw [e] at q
      exact ⟨.str (tx a), H, I, ⟨t1, rfl⟩, q⟩
    · have e : (⟨(List.replicate n.toNat (tx a).cps).foldl (· ++ ·) #[]⟩ : Str) = tx (repT a n.toNat) := by
        show (⟨(List.replicate n.toNat a.toArray).foldl (· ++ ·) #[]⟩ : Str) = ⟨(repT a n.toNat).toArray⟩
        rw [rep_fold]
        simp
      rw [e]
      refine ⟨?_, ⟨.str (tx (repT a n.toNat)), H, I.tok _, ⟨_, rfl⟩, q⟩⟩
      have l : ∀ m, (repT a m).length = a.length * m := fun m => by induction m with
        | zero => simp [repT]
        | succ m ih => simp [repT, ih, Nat.mul_succ, Nat.add_comm]
      rw [tx_len, l]
      have := sizeLine_eq
      omega
theorem rep_eq {α : Type} (x : List α) (n : Nat) : (List.replicate n x).flatten = repT x n := by
  induction n with
  | zero => rfl
  | succ n ih => rw [List.replicate_succ, List.flatten_cons, ih]; rfl
theorem rep_rel {K : PySem.W.Frag} {F : Hp} {vs : List V} {xs : List D} (h : RpA K F vs xs) : ∀ n, RpA K F (repT vs n) (repT xs n)
  | 0 => .nil
  | n + 1 => h.append (rep_rel h n)
theorem op_bin {X : Cx} (o : BOp) : OpR X (binaryOp (boS o)) (rD X.K (opR o)) := by
  cases o with
  | add =>
    refine ((op_add (X := X)).or ((op_add_str (X := X)).or ((op_cat (X := X)).or (op_catA (X := X))))).imp fun x y H Q ⟨e, s, σ, F, dx, dy, er, R, rx, ry, ef, q⟩ => ?_
    have ef : addR dx dy = some er := ef
    unfold addR at ef
    split at ef
    · cases ef
      cases rx.int; cases ry.int
      exact .inl ⟨_, _, rfl, rfl, q _ H F R (Same.refl F) (.int _)⟩
    · split at ef
      · rename_i hl
        cases ef
        cases rx.str; cases ry.str
        refine .inr (.inl ⟨_, _, rfl, rfl, by rw [tx_len, tx_len]; exact lim_le hl, ?_⟩)
        rw [tx_app]
        exact q _ H F R (Same.refl F) (.str _)
      · cases ef
    · split at ef
      · rename_i hl
        cases ef
        obtain ⟨p1, v1, rfl, h1, r1⟩ := rx.lst R.sub
        obtain ⟨p2, v2, rfl, h2, r2⟩ := ry.lst R.sub
        refine .inr (.inr (.inl ⟨p1, p2, v1, v2, rfl, rfl, h1, h2, by rw [r1.1, r2.1]; exact lim_le hl, fun p hp => ?_⟩))
        obtain ⟨R', rv⟩ := R.newL hp (r1.append r2)
        exact q _ _ F R' (Same.refl F) rv
      · cases ef
    · split at ef
      · rename_i hl
        cases ef
        have fx := rx.tupF
        have fy := ry.tupF
        obtain ⟨p1, v1, rfl, h1, r1⟩ := rx.tup R.sub
        obtain ⟨p2, v2, rfl, h2, r2⟩ := ry.tup R.sub
        refine .inr (.inr (.inr ⟨p1, p2, v1, v2, rfl, rfl, h1, h2, by rw [r1.1, r2.1]; exact lim_le hl, fun z => ?_, fun _ z => ?_, fun _ _ p hp => ?_⟩))
        · subst z
          have z := r1.1
          obtain rfl := List.eq_nil_of_length_eq_zero z.symm
          exact q _ H F R (Same.refl F) fy
        · subst z
          have z := r2.1
          obtain rfl := List.eq_nil_of_length_eq_zero z.symm
          rw [List.append_nil] at q
          exact q _ H F R (Same.refl F) fx
        · obtain ⟨R', sm, rv⟩ := R.newT hp (r1.append r2)
          exact q _ _ _ R' sm rv
      · cases ef
    · cases ef
  | sub =>
    refine (op_sub (X := X)).imp fun x y H Q h => ?_
    obtain ⟨i, j, rfl, rfl, _, q⟩ := rd_int h
    exact ⟨_, _, rfl, rfl, q⟩
  | mul =>
    refine ((op_mul (X := X)).or ((op_timesT (X := X)).or (op_rep (X := X)))).imp fun x y H Q ⟨e, s, σ, F, dx, dy, er, R, rx, ry, ef, q⟩ => ?_
    have ef : orR (intR (fun i j => w64 i || w64 j) (fun i j => i * j) dx dy) (repR dx dy) = some er := ef
    unfold orR at ef
    split at ef
    · rename_i r hr
      cases ef
      obtain ⟨i, j, rfl, rfl, hc, q⟩ := rd_int (Q := Q) ⟨e, s, σ, F, dx, dy, er, R, rx, ry, hr, q⟩
      refine .inl ⟨_, _, rfl, rfl, ?_, q⟩
      simp only [w64, Bool.or_eq_true, Bool.and_eq_true, decide_eq_true_eq] at hc
      exact hc
    · unfold repR at ef
      split at ef
      · rename_i x n
        split at ef
        · rename_i hc
          cases ef
          cases rx.str; cases ry.int
          exact .inr (.inl ⟨_, _, rfl, rfl, hc.1, hc.2.1, hc.2.2, q _ H F R (Same.refl F) (.str _)⟩)
        · cases ef
      · rename_i xs n _
        split at ef
        · rename_i hc
          cases ef
          cases ry.int
          obtain ⟨p1, v1, rfl, h1, r1⟩ := rx.lst R.sub
          refine .inr (.inr ⟨p1, _, v1, rfl, rfl, h1, by omega, by omega, ?_, fun p hp => ?_⟩)
          · rw [r1.1]
            exact Nat.le_trans (Nat.mul_le_mul hc.2.2 (show _ ≤ 1000 by omega)) (by decide)
          · rw [rep_eq]
            obtain ⟨R', rv⟩ := R.newL hp (rep_rel r1 _)
            exact q _ _ F R' (Same.refl F) rv
        · cases ef
      · cases ef
  | mod =>
    refine (op_mod (X := X)).imp fun x y H Q h => ?_
    obtain ⟨i, j, rfl, rfl, hc, q⟩ := rd_int h
    exact ⟨_, _, rfl, rfl, of_decide_eq_true hc, q⟩
  | fdiv =>
    refine (op_fdiv (X := X)).imp fun x y H Q h => ?_
    obtain ⟨i, j, rfl, rfl, hc, q⟩ := rd_int h
    simp only [and_iff2, dec_iff] at hc
    exact ⟨_, _, rfl, rfl, hc, q⟩
  | pow =>
    refine (op_pow (X := X)).imp fun x y H Q h => ?_
    obtain ⟨i, j, rfl, rfl, hc, q⟩ := rd_int h
    simp only [and_iff2, dec_iff] at hc
    exact ⟨_, _, rfl, rfl, ⟨hc.1.1, by omega, by omega⟩, q⟩
/-! ### data as the library's -/
theorem txS_tx (x : Tx) : txS x = tx x := rfl
/-- flat data as the library's: shape, depth -/
structure Pd (d : D) (n : Nat) (p : PyData) : Prop where
  pd : d.pd = some p
  lay : p.canLay0 = true
  dep : p.depth ≤ n
structure PdL (xs : List D) (n : Nat) (ps : List PyData) : Prop where
  pd : pdL xs = some ps
  lay : PyData.canLayAll0 ps = true
  dep : PyData.depthAll ps ≤ n
mutual
theorem pd_flat : ∀ (n : Nat) (d : D), d.flat n = true → ∃ p, Pd d n p
  | 0, d, h => by unfold D.flat at h; cases h
  | n + 1, .non, _ => ⟨_, rfl, rfl, by simp [PyData.depth]⟩
  | n + 1, .bl b, _ => ⟨_, rfl, rfl, by simp [PyData.depth]⟩
  | n + 1, .int i, _ => ⟨_, rfl, rfl, by simp [PyData.depth]⟩
  | n + 1, .str x, h => ⟨_, rfl, by
      unfold D.flat okT at h
      unfold PyData.canLay0 PyData.strOk
      show (x.toArray).all (· < 0x110000) = true
      rw [List.all_toArray, List.all_eq_true] at *
      intro c hc
      have := of_decide_eq_true (h c hc)
      exact decide_eq_true (by omega), by simp [PyData.depth]⟩
  | n + 1, .lst xs, h => by
    unfold D.flat at h
    obtain ⟨ps, h1, h2, h3⟩ := pdL_flat n xs h
    exact ⟨.list ps, by unfold D.pd; rw [h1]; rfl, h2, by unfold PyData.depth; omega⟩
  | n + 1, .tup xs, h => by
    unfold D.flat at h
    obtain ⟨ps, h1, h2, h3⟩ := pdL_flat n xs h
    exact ⟨.tuple ps, by unfold D.pd; rw [h1]; rfl, h2, by unfold PyData.depth; omega⟩
  | n + 1, .dic _, h => by unfold D.flat at h; cases h
  | n + 1, .scr _, h => by unfold D.flat at h; cases h
  | n + 1, .exc _ _, h => by unfold D.flat at h; cases h
  | n + 1, .obj _ _, h => by unfold D.flat at h; cases h
theorem pdL_flat : ∀ (n : Nat) (xs : List D), flatL n xs = true → ∃ ps, PdL xs n ps
  | n, [], _ => ⟨[], rfl, rfl, by simp [PyData.depthAll]⟩
  | n, x :: xs, h => by
    unfold flatL at h
    rw [Bool.and_eq_true] at h
    obtain ⟨p, h1, h2, h3⟩ := pd_flat n x h.1
    obtain ⟨ps, g1, g2, g3⟩ := pdL_flat n xs h.2
    refine ⟨p :: ps, by unfold pdL; rw [h1, g1], ?_, ?_⟩
    · unfold PyData.canLayAll0
      rw [h2, g2]; rfl
    · unfold PyData.depthAll
      omega
end
mutual
theorem dp_of {K : PySem.W.Frag} {F H : Hp} (sm : Same F H) : ∀ (d : D) (p : PyData) (v : V), d.pd = some p → p.canLay0 = true → Rp K F v d → Dp K H v p
  | .non, p, v, e, _, h => by cases e; cases h; exact .non
  | .bl b, p, v, e, _, h => by cases e; cases h; exact .bl b
  | .int i, p, v, e, _, h => by cases e; cases h; exact .int i
  | .str x, p, v, e, _, h => by cases e; cases h; exact .str _
  | .lst xs, p, v, e, l, h => by
    unfold D.pd at e
    cases q : pdL xs with
    | none => simp [q] at e
    | some ps =>
      rw [q] at e
      cases e
      cases h with
      | lst ha hl hr => exact .lst (.of (sm _ _ ha)) (dpA_of sm xs ps _ q l ⟨hl, hr⟩)
  | .tup xs, p, v, e, l, h => by
    unfold D.pd at e
    cases q : pdL xs with
    | none => simp [q] at e
    | some ps =>
      rw [q] at e
      cases e
      cases h with
      | tup ha hl hr => exact .tup (sqt_mono sm ha) (dpA_of sm xs ps _ q l ⟨hl, hr⟩)
  | .dic kvs, p, v, e, l, h => by
    unfold D.pd at e
    cases q : pdK kvs with
    | none => simp [q] at e
    | some ps =>
      rw [q] at e
      cases e
      cases l
  | .scr _, p, v, e, _, h => by cases e
  | .exc _ _, p, v, e, _, h => by cases e
  | .obj _ _, p, v, e, _, h => by cases e
theorem dpA_of {K : PySem.W.Frag} {F H : Hp} (sm : Same F H) : ∀ (xs : List D) (ps : List PyData) (vs : List V), pdL xs = some ps → PyData.canLayAll0 ps = true → RpA K F vs xs → DpAll K H vs ps
  | [], ps, vs, e, _, h => by
    cases e
    have := h.1
    cases vs with
    | nil => exact .nil
    | cons v vs => simp at this
  | x :: xs, ps, vs, e, l, h => by
    cases vs with
    | nil => have := h.1; simp at this
    | cons v vs =>
      unfold pdL at e
      cases q1 : x.pd with
      | none => rw [q1] at e; cases e
      | some p =>
        cases q2 : pdL xs with
        | none => rw [q1, q2] at e; cases e
        | some ps' =>
          rw [q1, q2] at e
          cases e
          unfold PyData.canLayAll0 at l
          rw [Bool.and_eq_true] at l
          obtain ⟨a, b⟩ := h.cons_inv
          exact .cons (dp_of sm x p v q1 l.1 a) (dpA_of sm xs ps' vs q2 l.2 b)
end
theorem tx_inj {x y : Tx} : tx x = tx y ↔ x = y := by
  constructor
  · intro h
    have := congrArg (fun s : Str => s.cps.toList) h
    simpa [tx] using this
  · intro h
    rw [h]
theorem tx_beq (x y : Tx) : (txS x == txS y) = (x == y) := by
  by_cases h : x = y
  · subst h
    rw [beq_self_eq_true, beq_self_eq_true]
  · rw [beq_eq_false_iff_ne.mpr h, (beq_eq_false_iff_ne (a := txS x) (b := txS y)).mpr (fun z => h (tx_inj.mp z))]
mutual
theorem eqv_pd : ∀ (a b : D) (p q : PyData), a.pd = some p → b.pd = some q → PyData.eqv p q = a.eqv b
  | .non, b, p, q, e, f => by
    cases e
    cases b <;> simp only [D.pd, Option.map_eq_some_iff, Option.some.injEq, reduceCtorEq] at f <;> first | (obtain ⟨_, _, rfl⟩ := f) | (subst f)
    all_goals simp [PyData.eqv, D.eqv]
  | .bl i, b, p, q, e, f => by
    cases e
    cases b <;> simp only [D.pd, Option.map_eq_some_iff, Option.some.injEq, reduceCtorEq] at f <;> first | (obtain ⟨_, _, rfl⟩ := f) | (subst f)
    all_goals simp [PyData.eqv, D.eqv]
  | .int i, b, p, q, e, f => by
    cases e
    cases b <;> simp only [D.pd, Option.map_eq_some_iff, Option.some.injEq, reduceCtorEq] at f <;> first | (obtain ⟨_, _, rfl⟩ := f) | (subst f)
    all_goals simp [PyData.eqv, D.eqv]
  | .str x, b, p, q, e, f => by
    cases e
    cases b <;> simp only [D.pd, Option.map_eq_some_iff, Option.some.injEq, reduceCtorEq] at f <;> first | (obtain ⟨_, _, rfl⟩ := f) | (subst f)
    all_goals simp only [PyData.eqv, D.eqv, tx_beq]
  | .lst xs, b, p, q, e, f => by
    simp only [D.pd, Option.map_eq_some_iff] at e
    obtain ⟨ps, e, rfl⟩ := e
    cases b <;> simp only [D.pd, Option.map_eq_some_iff, Option.some.injEq, reduceCtorEq] at f
    case lst ys =>
      obtain ⟨qs, f, rfl⟩ := f
      simp only [PyData.eqv, D.eqv]
      exact eqvL_pd xs ys ps qs e f
    all_goals first | (obtain ⟨_, _, rfl⟩ := f) | (subst f)
    all_goals simp [PyData.eqv, D.eqv]
  | .tup xs, b, p, q, e, f => by
    simp only [D.pd, Option.map_eq_some_iff] at e
    obtain ⟨ps, e, rfl⟩ := e
    cases b <;> simp only [D.pd, Option.map_eq_some_iff, Option.some.injEq, reduceCtorEq] at f
    case tup ys =>
      obtain ⟨qs, f, rfl⟩ := f
      simp only [PyData.eqv, D.eqv]
      exact eqvL_pd xs ys ps qs e f
    all_goals first | (obtain ⟨_, _, rfl⟩ := f) | (subst f)
    all_goals simp [PyData.eqv, D.eqv]
  | .dic xs, b, p, q, e, f => by
    simp only [D.pd, Option.map_eq_some_iff] at e
    obtain ⟨ps, e, rfl⟩ := e
    cases b <;> simp only [D.pd, Option.map_eq_some_iff, Option.some.injEq, reduceCtorEq] at f <;> first | (obtain ⟨_, _, rfl⟩ := f) | (subst f)
    all_goals simp [PyData.eqv, D.eqv]
  | .scr _, b, p, q, e, f => by cases e
  | .exc _ _, b, p, q, e, f => by cases e
  | .obj _ _, b, p, q, e, f => by cases e
theorem eqvL_pd : ∀ (xs ys : List D) (ps qs : List PyData), pdL xs = some ps → pdL ys = some qs → PyData.eqvAll ps qs = eqvL xs ys
  | [], [], ps, qs, e, f => by cases e; cases f; simp [PyData.eqvAll, eqvL]
  | [], y :: ys, ps, qs, e, f => by
    cases e
    unfold pdL at f
    split at f
    · cases f; simp [PyData.eqvAll, eqvL]
    · cases f
  | x :: xs, [], ps, qs, e, f => by
    cases f
    unfold pdL at e
    split at e
    · cases e; simp [PyData.eqvAll, eqvL]
    · cases e
  | x :: xs, y :: ys, ps, qs, e, f => by
    unfold pdL at e f
    split at e
    · rename_i a b h1 h2
      split at f
      · rename_i c d g1 g2
        cases e; cases f
        unfold PyData.eqvAll eqvL
        rw [eqv_pd x y a c h1 g1, eqvL_pd xs ys b d h2 g2]
      · cases f
    · cases e
end
/-- what is read, as the library's data -/
theorem rt_dp {K : PySem.W.Frag} {F H : Hp} {v : V} {d : D} {n : Nat} (sm : Same F H) (h : Rt K F H v d) (hf : d.flat n = true) (hn : n ≤ 64) : ∃ p, d.pd = some p ∧ Dp K H v p ∧ SeqAt.shaped p = true := by
  obtain ⟨p, h1, h2, h3⟩ := pd_flat n d hf
  refine ⟨p, h1, ?_, ?_⟩
  · cases h with
    | fz h => exact dp_of sm d p v h1 h2 h
    | ow hp r =>
      unfold D.pd at h1
      rename_i xs
      cases q : pdL xs with
      | none => rw [q] at h1; cases h1
      | some ps =>
        rw [q] at h1
        cases h1
        exact .lst (.of hp) (dpA_of sm xs ps _ q h2 r)
  · unfold SeqAt.shaped
    rw [h2, decide_eq_true (Nat.le_trans h3 hn)]
    rfl
/-! ### comparisons -/
def coS : COp → CmpOp
  | .eq => .Eq | .ne => .NotEq | .lt => .Lt | .le => .LtE | .gt => .Gt | .ge => .GtE | .isN => .Is | .notN => .IsNot | .isIn => .In | .notIn => .NotIn
theorem lt_tx : ∀ x y : Tx, decide (x < y) = ltT x y
  | [], [] => by simp [ltT]
  | [], _ :: _ => by simp [ltT]
  | _ :: _, [] => by simp [ltT]
  | a :: x, b :: y => by
    have ih := lt_tx x y
    unfold ltT
    by_cases h : a < b
    · rw [if_pos h]
      simp [List.cons_lt_cons_iff, h]
    · rw [if_neg h]
      by_cases h2 : b < a
      · rw [if_pos h2]
        simp [List.cons_lt_cons_iff]
        omega
      · rw [if_neg h2, ← ih]
        have e : a = b := by omega
        subst e
        simp [List.cons_lt_cons_iff]
/-- a comparison's answer -/
def cB (o : COp) : D → D → Option ER := fun x y => (cmpR o x y).map fun t => .val (.bl t)
theorem rd_cmp {K : PySem.W.Frag} {o : COp} {x y : V} {H : Hp} {Q : VK} (h : rD K (cB o) x y H Q) : ∃ (F : Hp) (dx dy : D) (t : Bool), Same F H ∧ Rt K F H x dx ∧ Rt K F H y dy ∧ cmpR o dx dy = some t ∧ Q (.bl t) H := by
  obtain ⟨e, s, σ, F, dx, dy, er, R, rx, ry, ef, q⟩ := h
  unfold cB at ef
  cases c : cmpR o dx dy with
  | none => rw [c] at ef; cases ef
  | some t =>
    rw [c] at ef
    cases ef
    exact ⟨F, dx, dy, t, R.sub, rx, ry, c, q _ H F R (Same.refl F) (.bl t)⟩
theorem in_any (d : D) (p : PyData) (h : d.pd = some p) : ∀ (ys : List D) (ps : List PyData), pdL ys = some ps → (ps.any fun z => PyData.eqv z p) = ys.any fun y => y.eqv d
  | [], ps, e => by cases e; rfl
  | y :: ys, ps, e => by
    unfold pdL at e
    split at e
    · rename_i a b h1 h2
      cases e
      rw [List.any_cons, List.any_cons, eqv_pd y d a p h1 h, in_any d p h ys b h2]
    · cases e
/-- x in a list or a tuple of data -/
def rInP (K : PySem.W.Frag) (neg : Bool) : R2 := fun x y H Q => ∃ d ds, Dp K H x d ∧ (Dp K H y (.list ds) ∨ Dp K H y (.tuple ds)) ∧ d.canLay0 = true ∧ d.depth ≤ 64 ∧ PyData.canLayAll0 ds = true ∧ Q (.bl (neg ^^ (ds.any fun z => PyData.eqv z d))) H
theorem op_inP {X : Cx} (hu : X.A.units + 65 < cLine) : OpR X (compareOp .In) (rInP X.K false) := by
  rintro pins s σ H x y v u Q I rx ry ⟨d, ds, hd, he, l1, n1, l2, q⟩
  rw [Bool.false_xor] at q
  have fits : X.A.units + 1 + min (PyData.depthAll ds) d.depth < cLine := by omega
  have there : ∀ {z : PyData} {a : V} {b : Value}, Dp X.K H a z → RelV a b → ∃ l, _ := fun k r => Dp.reads I _ _ _ k r
  exact (there hd rx).elim fun _ r1 => he.elim
    (fun k => (there k ry).elim fun _ r2 => SeqAt.in_list_reads r2 r1 l2 l1 fits ⟨.bl _, H, I, rfl, q⟩)
    (fun k => (there k ry).elim fun _ r2 => SeqAt.in_tuple_reads r2 r1 l2 l1 fits ⟨.bl _, H, I, rfl, q⟩)
theorem op_notInP {X : Cx} (hu : X.A.units + 65 < cLine) : OpR X (compareOp .NotIn) (rInP X.K true) := by
  rintro pins s σ H x y v u Q I rx ry ⟨d, ds, hd, he, l1, n1, l2, q⟩
  rw [Bool.true_xor] at q
  have fits : X.A.units + 1 + min (PyData.depthAll ds) d.depth < cLine := by omega
  have there : ∀ {z : PyData} {a : V} {b : Value}, Dp X.K H a z → RelV a b → ∃ l, _ := fun k r => Dp.reads I _ _ _ k r
  exact (there hd rx).elim fun _ r1 => he.elim
    (fun k => (there k ry).elim fun _ r2 => SeqAt.notIn_list_reads r2 r1 l2 l1 fits ⟨.bl _, H, I, rfl, q⟩)
    (fun k => (there k ry).elim fun _ r2 => SeqAt.notIn_tuple_reads r2 r1 l2 l1 fits ⟨.bl _, H, I, rfl, q⟩)
theorem rt_dpl {K : PySem.W.Frag} {F H : Hp} {v : V} {xs : List D} {n : Nat} (sm : Same F H) (h : Rt K F H v (.lst xs)) (hf : flatL n xs = true) : ∃ ps, pdL xs = some ps ∧ Dp K H v (.list ps) ∧ PyData.canLayAll0 ps = true := by
  obtain ⟨ps, h1, h2, h3⟩ := pdL_flat n xs hf
  obtain ⟨p, vs, rfl, hp, r⟩ := h.lst sm
  exact ⟨ps, h1, .lst (.of hp) (dpA_of sm xs ps _ h1 h2 r), h2⟩
theorem rt_dpt {K : PySem.W.Frag} {F H : Hp} {v : V} {xs : List D} {n : Nat} (sm : Same F H) (h : Rt K F H v (.tup xs)) (hf : flatL n xs = true) : ∃ ps, pdL xs = some ps ∧ Dp K H v (.tuple ps) ∧ PyData.canLayAll0 ps = true := by
  obtain ⟨ps, h1, h2, h3⟩ := pdL_flat n xs hf
  obtain ⟨p, vs, rfl, hp, r⟩ := h.tup sm
  exact ⟨ps, h1, .tup hp (dpA_of sm xs ps _ h1 h2 r), h2⟩
/-- in: what is asked of the values -/
theorem in_of {K : PySem.W.Frag} {F H : Hp} {x y : V} {dx dy : D} {t : Bool} (neg : Bool) {Q : VK} (sm : Same F H) (rx : Rt K F H x dx) (ry : Rt K F H y dy) (h : isIn dx dy = some t) (q : Q (.bl (neg ^^ t)) H) :
    (∃ (c : Nat) (z : Str), x = .str ⟨#[c]⟩ ∧ y = .str z ∧ Q (.bl (neg ^^ decide (c ∈ z.cps.toList))) H) ∨ rInP K neg x y H Q := by
  unfold isIn at h
  split at h
  · split at h
    · rename_i ys _ c
      cases h
      cases rx.str; cases ry.str
      refine .inl ⟨c, tx ys, rfl, rfl, ?_⟩
      have e : decide (c ∈ (tx ys).cps.toList) = ys.contains c := by
        simp only [tx, List.contains_eq_mem]
        rfl
      rw [e]
      exact q
    · cases h
  · split at h
    · rename_i ys hf
      cases h
      rw [Bool.and_eq_true] at hf
      obtain ⟨p, hp, dp, sh⟩ := rt_dp sm rx hf.1 (by decide)
      obtain ⟨ps, hps, dps, lay⟩ := rt_dpl sm ry hf.2
      refine .inr ⟨p, ps, dp, .inl dps, SeqAt.canLay_of_shaped sh, SeqAt.depth_of_shaped sh, lay, ?_⟩
      rw [in_any dx p hp ys ps hps]
      exact q
    · cases h
  · split at h
    · rename_i ys hf
      cases h
      rw [Bool.and_eq_true] at hf
      obtain ⟨p, hp, dp, sh⟩ := rt_dp sm rx hf.1 (by decide)
      obtain ⟨ps, hps, dps, lay⟩ := rt_dpt sm ry hf.2
      refine .inr ⟨p, ps, dp, .inr dps, SeqAt.canLay_of_shaped sh, SeqAt.depth_of_shaped sh, lay, ?_⟩
      rw [in_any dx p hp ys ps hps]
      exact q
    · cases h
  · cases h
theorem isNon_of {K : PySem.W.Frag} {F H : Hp} {x : V} {d : D} (h : Rt K F H x d) : decide (x = .non) = isNon d := by
  cases h with
  | fz h => cases h <;> simp [isNon]
  | ow h r => simp [isNon]
theorem map_not {o : Option Bool} {t : Bool} (h : o.map (!·) = some t) : ∃ b, o = some b ∧ t = !b := by
  cases o with
  | none => cases h
  | some b =>
    cases h
    exact ⟨b, rfl, rfl⟩
theorem eq_of {K : PySem.W.Frag} {F H : Hp} {x y : V} {dx dy : D} {t : Bool} (sm : Same F H) (rx : Rt K F H x dx) (ry : Rt K F H y dy) (c : eqR dx dy = some t) : ∃ d e, Dp K H x d ∧ Dp K H y e ∧ SeqAt.shaped d = true ∧ SeqAt.shaped e = true ∧ PyData.eqv d e = t := by
  unfold eqR at c
  split at c
  · rename_i hf
    cases c
    rw [Bool.and_eq_true] at hf
    obtain ⟨p, hp, dp, sh⟩ := rt_dp sm rx hf.1 (by decide)
    obtain ⟨p', hp', dp', sh'⟩ := rt_dp sm ry hf.2 (by decide)
    exact ⟨p, p', dp, dp', sh, sh', eqv_pd dx dy p p' hp hp'⟩
  · cases c
theorem lt_of {K : PySem.W.Frag} {F H : Hp} {x y : V} {dx dy : D} {t : Bool} (rx : Rt K F H x dx) (ry : Rt K F H y dy) (c : ltR dx dy = some t) :
    (∃ i j, x = .int i ∧ y = .int j ∧ decide (i < j) = t) ∨ ∃ i j : Str, x = .str i ∧ y = .str j ∧ decide (i.cps.toList < j.cps.toList) = t := by
  unfold ltR at c
  split at c
  · cases c
    cases rx.int; cases ry.int
    exact .inl ⟨_, _, rfl, rfl, rfl⟩
  · cases c
    cases rx.str; cases ry.str
    exact .inr ⟨_, _, rfl, rfl, lt_tx _ _⟩
  · cases c
theorem le_of {K : PySem.W.Frag} {F H : Hp} {x y : V} {dx dy : D} {t : Bool} (rx : Rt K F H x dx) (ry : Rt K F H y dy) (c : leR dx dy = some t) : ∃ i j, x = .int i ∧ y = .int j ∧ decide (i ≤ j) = t := by
  unfold leR at c
  split at c
  · cases c
    cases rx.int; cases ry.int
    exact ⟨_, _, rfl, rfl, rfl⟩
  · cases c
theorem non_of {K : PySem.W.Frag} {F H : Hp} {x y : V} {dx dy : D} {t : Bool} (rx : Rt K F H x dx) (ry : Rt K F H y dy) (c : nonR dx dy = some t) : y = .non ∧ decide (x = .non) = t := by
  unfold nonR at c
  split at c
  · cases c
    exact ⟨ry.non, isNon_of rx⟩
  · cases c
theorem op_cmp {X : Cx} (hu : X.A.units + 65 < cLine) (o : COp) : OpR X (compareOp (coS o)) (rD X.K (cB o)) := by
  cases o with
  | eq =>
    refine (op_eqD (X := X) (by omega)).imp fun x y H Q h => ?_
    obtain ⟨F, dx, dy, t, sm, rx, ry, c, q⟩ := rd_cmp h
    obtain ⟨p, p', dp, dp', sh, sh', e⟩ := eq_of sm rx ry c
    exact ⟨p, p', dp, dp', sh, sh', by rw [e]; exact q⟩
  | ne =>
    refine (op_neD (X := X) (by omega)).imp fun x y H Q h => ?_
    obtain ⟨F, dx, dy, t, sm, rx, ry, c, q⟩ := rd_cmp h
    obtain ⟨b, c2, rfl⟩ := map_not c
    obtain ⟨p, p', dp, dp', sh, sh', e⟩ := eq_of sm rx ry c2
    exact ⟨p, p', dp, dp', sh, sh', by rw [e]; exact q⟩
  | lt =>
    refine ((op_lt (X := X)).or (op_lt_str (X := X))).imp fun x y H Q h => ?_
    obtain ⟨F, dx, dy, t, sm, rx, ry, c, q⟩ := rd_cmp h
    rcases lt_of rx ry c with ⟨i, j, rfl, rfl, rfl⟩ | ⟨i, j, rfl, rfl, rfl⟩
    · exact .inl ⟨_, _, rfl, rfl, q⟩
    · exact .inr ⟨_, _, rfl, rfl, q⟩
  | le =>
    refine (op_le (X := X)).imp fun x y H Q h => ?_
    obtain ⟨F, dx, dy, t, sm, rx, ry, c, q⟩ := rd_cmp h
    obtain ⟨i, j, rfl, rfl, rfl⟩ := le_of rx ry c
    exact ⟨_, _, rfl, rfl, q⟩
  | gt =>
    refine ((op_gt (X := X)).or (op_gt_str (X := X))).imp fun x y H Q h => ?_
    obtain ⟨F, dx, dy, t, sm, rx, ry, c, q⟩ := rd_cmp h
    rcases lt_of ry rx c with ⟨i, j, rfl, rfl, rfl⟩ | ⟨i, j, rfl, rfl, rfl⟩
    · exact .inl ⟨_, _, rfl, rfl, q⟩
    · exact .inr ⟨_, _, rfl, rfl, q⟩
  | ge =>
    refine (op_ge (X := X)).imp fun x y H Q h => ?_
    obtain ⟨F, dx, dy, t, sm, rx, ry, c, q⟩ := rd_cmp h
    obtain ⟨i, j, rfl, rfl, rfl⟩ := le_of ry rx c
    exact ⟨_, _, rfl, rfl, q⟩
  | isN =>
    refine (op_isN (X := X)).imp fun x y H Q h => ?_
    obtain ⟨F, dx, dy, t, sm, rx, ry, c, q⟩ := rd_cmp h
    obtain ⟨rfl, rfl⟩ := non_of rx ry c
    exact ⟨rfl, q⟩
  | notN =>
    refine (op_notN (X := X)).imp fun x y H Q h => ?_
    obtain ⟨F, dx, dy, t, sm, rx, ry, c, q⟩ := rd_cmp h
    obtain ⟨b, c2, rfl⟩ := map_not c
    obtain ⟨rfl, rfl⟩ := non_of rx ry c2
    exact ⟨rfl, q⟩
  | isIn =>
    refine ((op_in_sign (X := X)).or (op_inP (X := X) hu)).imp fun x y H Q h => ?_
    obtain ⟨F, dx, dy, t, sm, rx, ry, c, q⟩ := rd_cmp h
    have z := in_of (Q := Q) false sm rx ry c (by rw [Bool.false_xor]; exact q)
    simpa only [Bool.false_xor] using z
  | notIn =>
    refine ((op_notIn_sign (X := X)).or (op_notInP (X := X) hu)).imp fun x y H Q h => ?_
    obtain ⟨F, dx, dy, t, sm, rx, ry, c, q⟩ := rd_cmp h
    obtain ⟨b, c2, rfl⟩ := map_not c
    have z := in_of (Q := Q) true sm rx ry c2 (by rw [Bool.true_xor]; exact q)
    simpa only [Bool.true_xor] using z
end Pi
set_option maxRecDepth 100000
set_option maxHeartbeats 3900000
namespace Pi
open PySem PySem.Spec L2 PyProof.Rows
/-! ### built-in functions -/
def RtA (K : PySem.W.Frag) (F H : Hp) (vs : List V) (ds : List D) : Prop := vs.length = ds.length ∧ ∀ (i : Nat) v d, vs[i]? = some v → ds[i]? = some d → Rt K F H v d
section
variable {K : PySem.W.Frag} {F H : Hp} {vs : List V}
theorem RtA.nil (h : RtA K F H vs []) : vs = [] := List.eq_nil_of_length_eq_zero h.1
theorem RtA.cons {d : D} {ds : List D} (h : RtA K F H vs (d :: ds)) : ∃ v ws, vs = v :: ws ∧ Rt K F H v d ∧ RtA K F H ws ds := by
  cases vs with
  | nil => have := h.1; simp at this
  | cons v ws => exact ⟨v, ws, rfl, h.2 0 v d rfl rfl, by have := h.1; simpa using this, fun i w x a b => h.2 (i + 1) w x (by simpa using a) (by simpa using b)⟩
theorem RtA.one {d : D} (h : RtA K F H vs [d]) : ∃ v, vs = [v] ∧ Rt K F H v d := by
  obtain ⟨v, ws, rfl, r, t⟩ := h.cons
  cases t.nil
  exact ⟨v, rfl, r⟩
theorem RtA.two {d e : D} (h : RtA K F H vs [d, e]) : ∃ v w, vs = [v, w] ∧ Rt K F H v d ∧ Rt K F H w e := by
  obtain ⟨v, ws, rfl, r, t⟩ := h.cons
  obtain ⟨w, rfl, r'⟩ := t.one
  exact ⟨v, w, rfl, r, r'⟩
end
def rDs (K : PySem.W.Frag) (f : List D → Option ER) : List V → Hp → VK → Prop := fun xs H Q => ∃ (e : En) (s : Fr) (σ : Sg) (F : Hp) (ds : List D) (er : ER), Rl K e s σ F H ∧ RtA K F H xs ds ∧ f ds = some er ∧
  ∀ v H' F', Rl K e s σ F' H' → Same F F' → Rv K e s σ F' H' v er → Q v H'
theorem _root_.L2.CallR.imp {X : Cx} {f : Value} {r r' : List V → Hp → VK → Prop} (h : CallR X f r) (i : ∀ xs H Q, r' xs H Q → r xs H Q) : CallR X f r' := fun pins s σ H xs us Q I rx q => h pins s σ H xs us Q I rx (i _ _ _ q)
theorem _root_.L2.CallR.or2 {X : Cx} {f : Value} {r r' : List V → Hp → VK → Prop} (h : CallR X f r) (h' : CallR X f r') : CallR X f (fun xs H Q => r xs H Q ∨ r' xs H Q) := by
  intro pins s σ H xs us Q I rx q
  rcases q with q | q
  · exact h pins s σ H xs us Q I rx q
  · exact h' pins s σ H xs us Q I rx q
theorem bi_len {X : Cx} : CallR X (.builtin "len") (rDs X.K lenR) := by
  refine ((call_len_seq (X := X)).or2 (call_len_str (X := X))).imp fun xs H Q ⟨e, s, σ, F, ds, er, R, ra, ef, q⟩ => ?_
  unfold lenR at ef
  split at ef
  · cases ef
    obtain ⟨v, rfl, r⟩ := ra.one
    obtain ⟨p, vs, rfl, h, r⟩ := r.lst R.sub
    exact .inl ⟨p, vs, rfl, .inl (.of h), by rw [r.1]; exact q _ H F R (Same.refl F) (.int _)⟩
  · cases ef
    obtain ⟨v, rfl, r⟩ := ra.one
    obtain ⟨p, vs, rfl, h, r⟩ := r.tup R.sub
    exact .inl ⟨p, vs, rfl, .inr h, by rw [r.1]; exact q _ H F R (Same.refl F) (.int _)⟩
  · cases ef
    obtain ⟨v, rfl, r⟩ := ra.one
    obtain ⟨p, vs, rfl, h, r⟩ := r.scr R.sub
    exact .inl ⟨p, vs, rfl, .inl h, by rw [r.1]; exact q _ H F R (Same.refl F) (.int _)⟩
  · split at ef
    · rename_i hl
      cases ef
      obtain ⟨v, rfl, r⟩ := ra.one
      cases r.str
      exact .inr ⟨_, rfl, by rw [tx_len]; exact lim_le hl, by rw [tx_len]; exact q _ H F R (Same.refl F) (.int _)⟩
    · cases ef
  · cases ef
theorem rd_int2 {K : PySem.W.Frag} {f : Int → Int → Option ER} {xs : List V} {H : Hp} {Q : VK} (h : rDs K (int2R f) xs H Q) : ∃ (e : En) (s : Fr) (σ : Sg) (F : Hp) (i j : Int) (er : ER), Rl K e s σ F H ∧ xs = [.int i, .int j] ∧ f i j = some er ∧
    ∀ v H' F', Rl K e s σ F' H' → Same F F' → Rv K e s σ F' H' v er → Q v H' := by
  obtain ⟨e, s, σ, F, ds, er, R, ra, ef, q⟩ := h
  unfold int2R at ef
  split at ef
  · obtain ⟨v, w, rfl, r1, r2⟩ := ra.two
    cases r1.int; cases r2.int
    exact ⟨e, s, σ, F, _, _, er, R, rfl, ef, q⟩
  · cases ef
theorem bi_max {X : Cx} (hc : X.calm = true) : CallR X (.builtin "max") (rDs X.K (biR .max2)) := by
  refine (call_max2 hc).imp fun xs H Q h => ?_
  obtain ⟨e, s, σ, F, i, j, er, R, rfl, ef, q⟩ := rd_int2 h
  cases ef
  exact ⟨i, j, rfl, q _ H F R (Same.refl F) (.int _)⟩
theorem bi_min {X : Cx} (hc : X.calm = true) : CallR X (.builtin "min") (rDs X.K (biR .min2)) := by
  refine (call_min2 hc).imp fun xs H Q h => ?_
  obtain ⟨e, s, σ, F, i, j, er, R, rfl, ef, q⟩ := rd_int2 h
  cases ef
  exact ⟨i, j, rfl, q _ H F R (Same.refl F) (.int _)⟩
theorem bi_abs {X : Cx} : CallR X (.builtin "abs") (rDs X.K absR) := by
  refine (call_abs (X := X)).imp fun xs H Q ⟨e, s, σ, F, ds, er, R, ra, ef, q⟩ => ?_
  unfold absR at ef
  split at ef
  · cases ef
    obtain ⟨v, rfl, r⟩ := ra.one
    cases r.int
    exact ⟨_, rfl, q _ H F R (Same.refl F) (.int _)⟩
  · cases ef
theorem bi_int {X : Cx} : CallR X (.type "int") (rDs X.K intcR) := by
  refine (call_int1 (X := X)).imp fun xs H Q ⟨e, s, σ, F, ds, er, R, ra, ef, q⟩ => ?_
  unfold intcR at ef
  split at ef
  · cases ef
    obtain ⟨v, rfl, r⟩ := ra.one
    cases r.int
    exact .inl ⟨_, rfl, q _ H F R (Same.refl F) (.int _)⟩
  · cases ef
    obtain ⟨v, rfl, r⟩ := ra.one
    cases r.bl
    exact .inr ⟨_, rfl, q _ H F R (Same.refl F) (.int _)⟩
  · cases ef
theorem bi_divmod {X : Cx} : CallR X (.builtin "divmod") (rDs X.K (biR .divmod)) := by
  refine (call_divmodW (X := X)).imp fun xs H Q h => ?_
  obtain ⟨e, s, σ, F, i, j, er, R, rfl, ef, q⟩ := rd_int2 h
  split at ef
  · rename_i hj
    cases ef
    refine ⟨i, j, rfl, ⟨hj.1, ?_⟩, fun p hp => ?_⟩
    · refine PyProof.noPylong_of_log2 ?_
      have h1 : j.natAbs < 2 ^ 201 := by omega
      by_cases z : j.natAbs = 0
      · rw [z]; decide
      · exact Nat.lt_of_lt_of_le (Nat.log2_lt z |>.mpr h1) (by decide)
    · obtain ⟨R', sm, rv⟩ := R.newT (vs := [.int (i / j), .int (i % j)]) hp (.cons (.int _) (.cons (.int _) .nil))
      exact q _ _ _ R' sm rv
  · cases ef
theorem bools_of {K : PySem.W.Frag} {F : Hp} : ∀ {xs : List D} {bs : List Bool} {vs : List V}, bools xs = some bs → RpA K F vs xs → vs = bs.map V.bl
  | [], bs, vs, e, h => by
    cases e
    exact List.eq_nil_of_length_eq_zero h.1
  | x :: xs, bs, vs, e, h => by
    cases x <;> simp only [bools, reduceCtorEq, Option.map_eq_some_iff] at e
    obtain ⟨cs, e, rfl⟩ := e
    cases vs with
    | nil => have := h.1; simp at this
    | cons v vs =>
      obtain ⟨a, b⟩ := h.cons_inv
      cases a
      rw [bools_of e b]
      rfl
theorem rd_bools {K : PySem.W.Frag} {f : List Bool → Bool} {xs : List V} {H : Hp} {Q : VK} (h : rDs K (boolR f) xs H Q) : ∃ (a : Addr) (bs : List Bool), xs = [V.ref a] ∧ SqL K H a (bs.map V.bl) ∧ Q (.bl (f bs)) H := by
  obtain ⟨e, s, σ, F, ds, er, R, ra, ef, q⟩ := h
  unfold boolR at ef
  split at ef
  · rename_i ys
    cases eb : bools ys with
    | none => rw [eb] at ef; cases ef
    | some bs =>
      rw [eb] at ef
      cases ef
      obtain ⟨v, rfl, r⟩ := ra.one
      obtain ⟨p, vs, rfl, h, r⟩ := r.lst R.sub
      cases bools_of eb r
      exact ⟨p, bs, rfl, .of h, q _ H F R (Same.refl F) (.bl _)⟩
  · cases ef
theorem bi_all {X : Cx} (hc : X.calm = true) : CallR X (.builtin "all") (rDs X.K (biR .all)) := (cr_all hc).imp fun _ _ _ h => rd_bools h
theorem bi_any {X : Cx} (hc : X.calm = true) : CallR X (.builtin "any") (rDs X.K (biR .any)) := (cr_any hc).imp fun _ _ _ h => rd_bools h
theorem vals_get : ∀ {vs : List V} {us : List Value}, vs.length = us.length → (∀ (i : Nat) v u, vs[i]? = some v → us[i]? = some u → RelV v u) → Vals vs us
  | [], [], _, _ => .nil
  | [], _ :: _, l, _ => by simp at l
  | _ :: _, [], l, _ => by simp at l
  | v :: vs, u :: us, l, h => .cons (h 0 v u rfl rfl) (vals_get (by simpa using l) fun i v u a b => h (i + 1) v u (by simpa using a) (by simpa using b))
theorem signs_vals {x : Tx} {acc : Array Value} (h : ItemsOf (SignAt (tx x)) acc (tx x).cps.size) : Vals (x.map fun c => V.str (tx [c])) acc.toList := by
  obtain ⟨l, g⟩ := h
  refine vals_get (by simpa [tx] using l.symm) fun i v u a b => ?_
  obtain ⟨c, t, h1, rfl⟩ := g i u (by simpa using b)
  rw [List.getElem?_map] at a
  have h1 : x[i]? = some c := by simpa [tx] using h1
  rw [h1] at a
  cases a
  exact ⟨t, rfl⟩
theorem bi_tupS {X : Cx} (hc : X.calm = true) : CallR X (.type "tuple") (rDs X.K tupSR) := by
  intro pins s σ H xs us Q I rx ⟨e, fr, σ', F, ds, er, R, ra, ef, q⟩
  unfold tupSR at ef
  split at ef
  · rename_i x
    split at ef
    · rename_i hl
      cases ef
      obtain ⟨v, rfl, r⟩ := ra.one
      cases r.str
      match us, rx with
      | [_], .cons ⟨t, rfl⟩ .nil =>
        refine call_tuple_str (I.ok.hd hc) (tx x) t (fun h' tk acc kept its => ?_) (by show (tx x).cps.size ≤ _; simpa [tx] using lim_le hl)
        have I1 : Inv X pins σ H { s with heap := h', toks := tk } := I.kept (t' := tk) kept
        have rv : Vals (x.map fun c => V.str (tx [c])) acc.toList := signs_vals its
        have I2 := I1.laid (t' := tk) (a := h'.objs.size) (o := .tup (x.map fun c => V.str (tx [c]))) (h' := h'.push { cls := .type "tuple", data := .seq acc }) (fun b o z => Heap.get?_push_of_some _ z) (Nat.le_refl _) ⟨by simpa using lim_le hl, acc.toList, rv, by simpa using IsTup.new h' acc⟩
        have nd : H h'.objs.size = none := I1.hok.fresh (Nat.le_refl _)
        have rp : RpA X.K F (x.map fun c => V.str (tx [c])) (x.map fun c => D.str [c]) := by
          refine ⟨by simp, fun i v d a b => ?_⟩
          rw [List.getElem?_map] at a b
          cases z : x[i]? with
          | none => rw [z] at a; cases a
          | some c => rw [z] at a b; cases a; cases b; exact .str [c]
        obtain ⟨R', sm, rv'⟩ := R.newT nd rp
        exact ⟨.ref h'.objs.size, _, I2, rfl, q _ _ _ R' sm rv'⟩
    · cases ef
  · cases ef
theorem bi_tuple {X : Cx} : CallR X (.type "tuple") (rDs X.K tupleR) := by
  refine (call_tuple_of (X := X)).imp fun xs H Q ⟨e, s, σ, F, ds, er, R, ra, ef, q⟩ => ?_
  unfold tupleR at ef
  split at ef
  · cases ef
    obtain ⟨v, rfl, r⟩ := ra.one
    obtain ⟨p, vs, rfl, h, r⟩ := r.lst R.sub
    refine ⟨p, vs, rfl, .inl ⟨.of h, fun l hl => ?_⟩⟩
    obtain ⟨R', sm, rv⟩ := R.newT hl r
    exact q _ _ _ R' sm rv
  · cases ef
    obtain ⟨v, rfl, r⟩ := ra.one
    have f := r.tupF
    obtain ⟨p, vs, rfl, h, r⟩ := r.tup R.sub
    exact ⟨p, vs, rfl, .inr ⟨h, q _ H F R (Same.refl F) f⟩⟩
  · cases ef
theorem bi_list {X : Cx} : CallR X (.type "list") (rDs X.K listR) := by
  refine (call_list_of (X := X)).imp fun xs H Q ⟨e, s, σ, F, ds, er, R, ra, ef, q⟩ => ?_
  unfold listR at ef
  split at ef
  · cases ef
    obtain ⟨v, rfl, r⟩ := ra.one
    obtain ⟨p, vs, rfl, h, r⟩ := r.lst R.sub
    refine ⟨p, vs, rfl, .inl (.of h), fun l hl => ?_⟩
    obtain ⟨R', rv⟩ := R.newL hl r
    exact q _ _ _ R' (Same.refl F) rv
  · cases ef
    obtain ⟨v, rfl, r⟩ := ra.one
    obtain ⟨p, vs, rfl, h, r⟩ := r.tup R.sub
    refine ⟨p, vs, rfl, .inr h, fun l hl => ?_⟩
    obtain ⟨R', rv⟩ := R.newL hl r
    exact q _ _ _ R' (Same.refl F) rv
  · cases ef
/-! ### str -/
theorem tx_back (x : Str) : tx x.cps.toList = x := by
  show (⟨x.cps.toList.toArray⟩ : Str) = x
  simp
theorem bi_str {X : Cx} : CallR X (.type "str") (rDs X.K strR) := by
  intro pins s σ H xs us Q I rx ⟨e, fr, σ', F, ds, er, R, ra, ef, q⟩
  unfold strR at ef
  split at ef
  · rename_i i
    split at ef
    · rename_i hi
      cases ef
      obtain ⟨v, rfl, rt⟩ := ra.one
      cases rt.int
      refine call_str_int pins s σ H _ us Q I rx ⟨i, rfl, hi, ?_⟩
      have z := q (.str (toString i)) H F R (Same.refl F) (by
        have := Rp.str (K := X.K) (F := F) (PyData.int i).shown.cps.toList
        rw [tx_back] at this
        exact this)
      exact z
    · cases ef
  · cases ef
    obtain ⟨v, rfl, rt⟩ := ra.one
    cases rt.str
    exact SkE.call_str_str pins s σ H _ us Q I rx ⟨_, rfl, q _ H F R (Same.refl F) (.str _)⟩
  · cases ef
/-! ### repr -/
theorem noM {a : Addr} {as : List Addr} (h : (a == sysModules) = false) (t : sysModules ∉ as) : sysModules ∉ a :: as := fun z => by
  rcases mem_or z with z | z
  · subst z; simp at h
  · exact t z
section
variable {X : Cx} {pins : List (Addr × Obj)} {σ : Sg} {F H : Hp} {s : Shared}
theorem keys_reads {h : Heap} {k : Key} {v : Value} (e : keyIs k v = true) : ∃ p, Reads h v p [] ∧ p = (match k with | .inl i => PyData.int i | .inr t => .str t) := by
  rcases keyIs_shape e with ⟨i, t, rfl, rfl⟩ | ⟨x, t, rfl, rfl⟩
  · exact ⟨_, .int i t, rfl⟩
  · exact ⟨_, .str x t, rfl⟩
mutual
theorem reads_of (I : Inv X pins σ H s) (sm : Same F H) : ∀ (d : D) (p : PyData) (v : V) (u : Value), d.pd = some p → Rp X.K F v d → RelV v u → ∃ as, Reads s.heap u p as ∧ (d.lists = false → sysModules ∉ as)
  | .non, p, v, u, e, h, r => by cases e; cases h; cases r; exact ⟨[], .none, fun _ => by simp⟩
  | .bl b, p, v, u, e, h, r => by cases e; cases h; cases r; exact ⟨[], .bool b, fun _ => by simp⟩
  | .int i, p, v, u, e, h, r => by cases e; cases h; obtain ⟨t, rfl⟩ := r; exact ⟨[], .int i t, fun _ => by simp⟩
  | .str x, p, v, u, e, h, r => by cases e; cases h; obtain ⟨t, rfl⟩ := r; exact ⟨[], .str _ t, fun _ => by simp⟩
  | .lst xs, p, v, u, e, h, r => by
    unfold D.pd at e
    rw [Option.map_eq_some_iff] at e
    obtain ⟨ps, q, rfl⟩ := e
    cases h with
    | lst ha hl hr =>
      cases r
      obtain ⟨its, rv, ⟨o, n, ho, hc, _, hd⟩, _⟩ := I.list (SqL.of (sm _ _ ha))
      obtain ⟨as, ra, _⟩ := readsL_of I sm xs ps _ its q ⟨hl, hr⟩ rv
      exact ⟨_, .list ho hc hd (by simpa using ra), fun z => by cases z⟩
  | .tup xs, p, v, u, e, h, r => by
    unfold D.pd at e
    rw [Option.map_eq_some_iff] at e
    obtain ⟨ps, q, rfl⟩ := e
    cases h with
    | tup ha hl hr =>
      cases r
      obtain ⟨its, rv, ⟨o, ho, hc, n, hd⟩, _⟩ := I.tuple (sqt_mono sm ha)
      obtain ⟨as, ra, na⟩ := readsL_of I sm xs ps _ its q ⟨hl, hr⟩ rv
      exact ⟨as, .tuple ho hc hd (by simpa using ra), fun z => na z⟩
  | .dic kvs, p, v, u, e, h, r => by
    unfold D.pd at e
    rw [Option.map_eq_some_iff] at e
    obtain ⟨ps, q, rfl⟩ := e
    cases h with
    | dic ha hl hr =>
      cases r
      obtain ⟨_, ns, vs, kv, hdo⟩ := I.hok _ _ (sm _ _ ha)
      obtain ⟨o, es, ep, ho, hx, hd, hk, hp, _⟩ := hdo
      obtain ⟨as, bs, r1, r2, n1, n2⟩ := readsK_of I sm kvs ps _ vs es.toList q hl hr kv hp
      refine ⟨_, .dict ho hx.1 hd r1 r2, fun z => ?_⟩
      intro z2
      rcases List.mem_append.mp z2 with z2 | z2
      · exact noM ns n1 z2
      · exact n2 z z2
  | .scr _, p, v, u, e, h, r => by cases e
  | .exc _ _, p, v, u, e, h, r => by cases e
  | .obj _ _, p, v, u, e, h, r => by cases e
theorem readsL_of (I : Inv X pins σ H s) (sm : Same F H) : ∀ (xs : List D) (ps : List PyData) (vs : List V) (us : List Value), pdL xs = some ps → RpA X.K F vs xs → Vals vs us → ∃ as, ReadsAll s.heap us ps as ∧ (listsL xs = false → sysModules ∉ as)
  | [], ps, vs, us, e, h, r => by
    cases e
    cases List.eq_nil_of_length_eq_zero h.1
    cases r
    exact ⟨[], .nil, fun _ => by simp⟩
  | x :: xs, ps, vs, us, e, h, r => by
    cases r with
    | nil => have := h.1; simp at this
    | cons r rr =>
      unfold pdL at e
      split at e
      · rename_i a b h1 h2
        cases e
        obtain ⟨hx, hxs⟩ := h.cons_inv
        obtain ⟨as, ra, na⟩ := reads_of I sm x a _ _ h1 hx r
        obtain ⟨bs, rb, nb⟩ := readsL_of I sm xs b _ _ h2 hxs rr
        refine ⟨as ++ bs, .cons ra rb, fun z z2 => ?_⟩
        unfold listsL at z
        rw [Bool.or_eq_false_iff] at z
        rcases List.mem_append.mp z2 with z2 | z2
        · exact na z.1 z2
        · exact nb z.2 z2
      · cases e
theorem readsK_of (I : Inv X pins σ H s) (sm : Same F H) : ∀ (xs : List (Ky × D)) (ps : List (PyData × PyData)) (kvs : List (Key × V)) (vs : List (Key × Value)) (es : List DictEntry), pdK xs = some ps → kvs.map (·.1) = xs.map (fun p => kyS p.1) →
    (∀ (i : Nat) p q, kvs[i]? = some p → xs[i]? = some q → Rp X.K F p.2 q.2) → KV kvs vs → Pairs (mixKind X.prog X.w) es vs → ∃ as bs, ReadsAll s.heap (es.map (·.key)) (ps.map (·.1)) as ∧ ReadsAll s.heap (es.map (·.val)) (ps.map (·.2)) bs ∧ sysModules ∉ as ∧ (listsK xs = false → sysModules ∉ bs)
  | [], ps, kvs, vs, es, e, hk, hr, kv, hp => by
    cases e
    have z : kvs = [] := by simpa using hk
    subst z
    cases kv
    cases hp
    exact ⟨[], [], .nil, .nil, by simp, fun _ => by simp⟩
  | (k, x) :: xs, ps, kvs, vs, es, e, hk, hr, kv, hp => by
    cases kv with
    | nil => simp at hk
    | cons r rr =>
      rename_i p1 p2 l1 l2
      obtain ⟨k1, v1⟩ := p1
      obtain ⟨k2, v2⟩ := p2
      obtain ⟨rk, rv⟩ := r
      simp only at rk rv
      subst rk
      simp only [List.map_cons, List.cons.injEq] at hk
      obtain ⟨hk1, hk2⟩ := hk
      subst hk1
      cases hp with
      | cons he hv ht =>
        rename_i en ens
        unfold pdK at e
        split at e
        · rename_i a b h1 h2
          cases e
          have hx : Rp X.K F v1 x := hr 0 _ _ rfl rfl
          obtain ⟨bs, rb, nb⟩ := reads_of I sm x a v1 v2 h1 hx rv
          obtain ⟨as', bs', r1, r2, n1, n2⟩ := readsK_of I sm xs b l1 l2 ens h2 hk2 (fun i p q a b => hr (i + 1) p q (by simpa using a) (by simpa using b)) rr ht
          obtain ⟨kp, rk, ek⟩ := keys_reads (h := s.heap) he
          have ev : en.val = v2 := hv
          refine ⟨[] ++ as', bs ++ bs', .cons ?_ r1, .cons ?_ r2, by simpa using n1, fun z z2 => ?_⟩
          · subst ek
            cases k <;> exact rk
          · show Reads s.heap en.val a bs
            rw [ev]
            exact rb
          · unfold listsK at z
            rw [Bool.or_eq_false_iff] at z
            rcases List.mem_append.mp z2 with z2 | z2
            · exact nb z.1 z2
            · exact n2 z.2 z2
        · cases e
end
end
/-- what is read off -/
theorem reads_rt {X : Cx} {pins : List (Addr × Obj)} {σ : Sg} {F H : Hp} {s : Shared} {d : D} {p : PyData} {v : V} {u : Value} (I : Inv X pins σ H s) (sm : Same F H) (e : d.pd = some p) (h : Rt X.K F H v d) (r : RelV v u) : ∃ as, Reads s.heap u p as ∧ (d.lists = false → sysModules ∉ as) := by
  cases h with
  | fz h => exact reads_of I sm d p v u e h r
  | ow hp ra =>
    rename_i xs
    unfold D.pd at e
    rw [Option.map_eq_some_iff] at e
    obtain ⟨ps, q, rfl⟩ := e
    cases r
    obtain ⟨its, rv, ⟨o, n, ho, hc, _, hd⟩, _⟩ := I.list (SqL.of hp)
    obtain ⟨as, rs, _⟩ := readsL_of I sm xs ps _ its q ra rv
    exact ⟨_, .list ho hc hd (by simpa using rs), fun z => by cases z⟩
/-- the items' own texts -/
theorem texts_of {X : Cx} {pins : List (Addr × Obj)} {σ : Sg} {F H : Hp} {s : Shared} (I : Inv X pins σ H s) (sm : Same F H) : ∀ (xs : List D) (ps : List PyData) (vs : List V) (us : List Value), pdL xs = some ps → RpA X.K F vs xs → Vals vs us → xs.all apartD = true → PyData.showableAll ps = true → (∀ t ∈ PyData.shownAll ps, t.length ≤ sizeLine) →
    ∃ as bs, ReadsAll s.heap us ps as ∧ ReadAtMost s.heap (PyData.depthAll ps) bs ∧ ReprAllK X.prog X.w bs s.heap (PyData.depthAll ps) us (PyData.shownAll ps)
  | [], ps, vs, us, e, h, r, _, _, _ => by
    cases e
    cases List.eq_nil_of_length_eq_zero h.1
    cases r
    exact ⟨[], [], .nil, nofun, .nil⟩
  | x :: xs, ps, vs, us, e, h, r, ap, sh, sz => by
    cases r with
    | nil => exact absurd h.1 (by simp)
    | cons r rr =>
      unfold pdL at e
      split at e
      · rename_i q b h1 h2
        cases e
        obtain ⟨hx, hxs⟩ := h.cons_inv
        obtain ⟨ap1, ap2⟩ := all_hd ap
        simp only [PyData.showableAll, and_iff2] at sh
        obtain ⟨as, ra, na⟩ := reads_of I sm x q _ _ h1 hx r
        have nm : q.hasDict = true → sysModules ∉ as := fun z => na (by
          unfold apartD at ap1
          rw [h1] at ap1
          simpa [z] using ap1)
        obtain ⟨bs, rb, kb⟩ := ReprK.of_reads (prog := X.prog) (w := X.w) ra sh.1 nm (sz _ (by simp only [PyData.shownAll]; exact .head _))
        obtain ⟨as', bs', ra', rb', kb'⟩ := texts_of I sm xs b _ _ h2 hxs rr ap2 sh.2 fun t ht => sz t (by simp only [PyData.shownAll]; exact .tail _ ht)
        refine ⟨as ++ as', bs ++ bs', .cons ra ra', ?_, ?_⟩
        · show ReadAtMost _ (max q.depth (PyData.depthAll b)) _
          exact (rb.mono (Nat.le_max_left _ _)).append (rb'.mono (Nat.le_max_right _ _))
        · show ReprAllK _ _ _ _ (max q.depth (PyData.depthAll b)) _ (q.shown :: PyData.shownAll b)
          exact .cons ((kb.more fun _ z => List.mem_append_left _ z).level_le (Nat.le_max_left _ _)) (kb'.more_le (fun _ z => List.mem_append_right _ z) (Nat.le_max_right _ _))
      · cases e
/-- repr of a list, from its items' texts -/
theorem repr_items {P : Program} {w : World} {A : Around} {E : Value → Shared → Prop} {s : Shared} {Q : Value → Shared → Prop} {a : Addr} {o : Obj} {us : Array Value} {m : Nat} {ps : List PyData} {as bs : List Addr} (ho : s.heap.get? a = some o) (hc : o.cls = .type "list") (hd : o.data = .seq us m)
    (ra : ReadsAll s.heap us.toList ps as) (rb : ReadAtMost s.heap (PyData.depthAll ps) bs) (kb : ReprAllK P w bs s.heap (PyData.depthAll ps) us.toList (PyData.shownAll ps)) (hg : A.guards = some []) (hu : A.units + (PyData.depthAll ps + 2) < cLine) (hz : (listText (PyData.shownAll ps)).length ≤ sizeLine)
    (fin : ∀ h' u tk, (∀ b o, s.heap.get? b = some o → h'.get? b = some o) → Q (.str (listText (PyData.shownAll ps)) u) { s with heap := h', toks := tk }) : wpAny (model P w) A (call (.builtin "repr") [.ref a]) Q E s := by
  have top : Reads s.heap (.ref a) (.list ps) _ := .list ho hc hd ra
  have na : a ∉ bs := not_mem_of_deeper top (by show _ < PyData.depthAll ps + 1; omega) rb
  refine call_repr_slot (by omega) ⟨o, ho, hc⟩ PySem.F.slot_list_repr.toG ?_
  obtain ⟨l⟩ := us
  cases l with
  | nil =>
    have ra : ReadsAll s.heap [] ps _ := ra
    cases ra
    have z := fin s.heap
    rw [show PyData.shownAll [] = [] from rfl, listText_nil] at z
    exact call_list_repr_empty ⟨o, ho, hc⟩ ho hd ⟨_, _, rfl, z _ _ fun _ _ e => e⟩
  | cons x l => exact call_list_reprK ho hc hd na (by simpa using kb.length_eq) (fun i y e => kb.item i y (by simpa using e)) (by exact hg) (fun b _ => Clear.nil b) (by show A.units + 1 + (PyData.depthAll ps + 1) < cLine; omega) (fun _ _ e => e) (fun h' u tk hk => ⟨_, _, rfl, fin h' u tk hk⟩) hz
theorem bi_repr {X : Cx} (hg : X.A.guards = some []) (hu : X.A.units + 64 < cLine) : CallR X (.builtin "repr") (rDs X.K reprR) := by
  intro pins s σ H xs us Q I rx ⟨e, fr, σ', F, ds, er, R, ra, ef, q⟩
  unfold reprR at ef
  split at ef
  · rename_i d
    rw [Option.map_eq_some_iff] at ef
    obtain ⟨t, ed, rfl⟩ := ef
    unfold reprD at ed
    cases epd : d.pd with
    | none => rw [epd] at ed; cases ed
    | some p =>
      rw [epd] at ed
      simp only at ed
      split at ed
      · rename_i hc
        cases ed
        simp only [Bool.and_eq_true, decide_eq_true_eq, Bool.or_eq_true, Bool.not_eq_true'] at hc
        obtain ⟨⟨⟨h1, h2⟩, h3⟩, h4⟩ := hc
        obtain ⟨v, rfl, rt⟩ := ra.one
        rcases h4 with h4 | h4
        case inr =>
          -- a list whose items hold no dict beside a list
          cases d with
          | lst ys =>
            unfold D.pd at epd
            rw [Option.map_eq_some_iff] at epd
            obtain ⟨ps, eps, rfl⟩ := epd
            obtain ⟨a, vs, rfl, hH, rA⟩ := rt.lst R.sub
            cases rx with
            | cons r1 rr =>
              cases rr
              cases r1
              obtain ⟨its, rv, ⟨o, m, ho, hc, _, hd⟩, _⟩ := I.list (SqL.of hH)
              have hz : (listText (PyData.shownAll ps)).length ≤ sizeLine := lim_le (by simpa only [PyData.shown] using h3)
              obtain ⟨as, bs, rs, rb, kb⟩ := texts_of I R.sub ys ps vs its eps rA rv h4 (by simpa [PyData.showable] using h1) fun t ht => Nat.le_trans (listText_mem_le ht) hz
              have dp : PyData.depthAll ps + 1 ≤ 50 := by simpa only [PyData.depth] using h2
              refine repr_items ho hc hd (by simpa using rs) rb (by simpa using kb) hg (by omega) hz fun h' u tk hk => ?_
              exact ⟨.str (PyData.list ps).shown, H, I.kept hk, ⟨u, rfl⟩, q _ H F R (Same.refl F) (.str (PyData.list ps).shown.cps.toList)⟩
          | _ => cases h4
        cases rx with
        | cons r1 rr =>
          cases rr
          rename_i u
          obtain ⟨as, rd, nm⟩ := reads_rt I R.sub epd rt r1
          have fin : ∀ (h' : Heap) (tk : Nat) (t : Tok), (∀ b o, s.heap.get? b = some o → h'.get? b = some o) → EP X pins σ Q (.str p.shown t) { s with heap := h', toks := tk } := fun h' tk t hk =>
            ⟨.str p.shown, H, I.kept hk, ⟨t, rfl⟩, q _ H F R (Same.refl F) (.str p.shown.cps.toList)⟩
          have hsz : p.shown.length ≤ sizeLine := lim_le h3
          have nm2 : p.hasDict = true → sysModules ∉ as := fun z => by
            rcases h4 with h | h
            · exact absurd (h.symm.trans z) nofun
            · exact nm h
          cases p with
          | none =>
            cases rd
            exact PySem.P.repr_of_none (fin s.heap _ _ fun _ _ z => z)
          | bool b =>
            cases rd
            exact PySem.P.repr_of_bool (fin s.heap _ _ fun _ _ z => z)
          | int i =>
            cases rd
            exact PySem.P.repr_of_int (of_decide_eq_true h1) (fin s.heap _ _ fun _ _ z => z)
          | str x =>
            cases rd
            exact PySem.P.repr_of_str (fin s.heap _ _ fun _ _ z => z) hsz
          | list xs =>
            obtain ⟨a, rfl⟩ : ∃ a, u = .ref a := by cases rd; exact ⟨_, rfl⟩
            exact repr_of_reads' rd h1 nm2 hg (by omega) (fun _ _ z => z) (fun h' t tk hk => fin h' tk t hk) hsz
          | tuple xs =>
            obtain ⟨a, rfl⟩ : ∃ a, u = .ref a := by cases rd; exact ⟨_, rfl⟩
            exact repr_of_reads' rd h1 nm2 hg (by omega) (fun _ _ z => z) (fun h' t tk hk => fin h' tk t hk) hsz
          | dict xs =>
            obtain ⟨a, rfl⟩ : ∃ a, u = .ref a := by cases rd; exact ⟨_, rfl⟩
            exact repr_of_reads' rd h1 nm2 hg (by omega) (fun _ _ z => z) (fun h' t tk hk => fin h' tk t hk) hsz
      · cases ed
  · cases ef
end Pi
set_option maxRecDepth 100000
set_option maxHeartbeats 3900000
namespace Pi
open PySem PySem.Spec L2 PyProof.Rows
/-! ### defs where no repr is under way -/
/-- room for calls; where cm is told, no error is being handled -/
structure RoomC (cm : Bool) (k : Nat) (A : Around) : Prop extends L2H.RoomH k A where
  hd : cm = true → A.handled = none
theorem RoomC.mono {cm : Bool} {j k : Nat} {A : Around} (r : RoomC cm k A) (h : j ≤ k) : RoomC cm j A := ⟨r.toRoomH.mono h, r.hd⟩
theorem RoomC.room {k : Nat} {A : Around} (r : RoomC true k A) : Room k A := ⟨r.hd rfl, r.dp, r.un⟩
theorem RoomC.of {k : Nat} {A : Around} (r : Room k A) : RoomC true k A := ⟨L2H.roomH_of r, fun _ => r.hd⟩
theorem RoomC.hot {cm : Bool} {k : Nat} {A : Around} (r : RoomC cm k A) : RoomC false k A := ⟨r.toRoomH, nofun⟩
theorem RoomC.deeper {cm : Bool} {k : Nat} {A : Around} (r : RoomC cm (k + 1) A) (env : Env) : RoomC cm k (A.deeper env) := ⟨r.toRoomH.deeper env, r.hd⟩
structure FnG (P : Program) (w : World) (K : PySem.W.Frag) (mg : Str → Option Value) (base : Heap) (cm : Bool) (k : Nat) (f : Addr) (fd : FuncData) (ps : List Str) (sp : Sp) : Prop where
  fits : ∀ vs H Q E, sp vs H Q E → vs.length = ps.length
  run : ∀ (A : Around) (outer : List Env) (s : Shared) (H : Hp) (args : Args) (us : List Value) (vs : List V) (Q : VK) (E : XK),
    A.guards = some [] → RoomC cm k A → Env0 P w K mg base A outer s H → BindsTo s fd args (ps.zip us) → Vals vs us → sp vs H Q E →
    codeAny (model P w) A (.call (.ref f) args) (L2.CR (L2.CX P w) outer P w H s Q E) s
theorem FnG.mono {P : Program} {w : World} {K : PySem.W.Frag} {mg : Str → Option Value} {base : Heap} {cm : Bool} {j k : Nat} {f : Addr} {fd : FuncData} {ps : List Str} {sp : Sp} (F : FnG P w K mg base cm j f fd ps sp) (h : j ≤ k) : FnG P w K mg base cm k f fd ps sp :=
  ⟨F.fits, fun A o s H a us vs Q E hg hr e0 b r q => F.run A o s H a us vs Q E hg (hr.mono h) e0 b r q⟩
/-- the parameters are locals or cells -/
theorem params_kinds {N ps : List Str} {sc : Scope} (S : FnScope N ps sc) (us : List Value) : ((ps.zip us).all fun y => sc.names.lookup y.1 == some .local || sc.names.lookup y.1 == some .cell) = true := by
  rw [List.all_eq_true]
  rintro ⟨y, u⟩ hy
  rcases S.par y (List.of_mem_zip hy).1 with q | q <;> simp [q]
/-- the context of a body that may be entered while an error is handled (cm = false) -/
abbrev cxC (cm : Bool) (P : Program) (w : World) (K : PySem.W.Frag) (mg : Str → Option Value) (base : Heap) (N : List Str) (qual : Str) (scope : Scope) (f : Addr) (cd : Value) (A : Around) (outer : List Env) (s : Shared) (H : Hp) (E : XK) : Cx := { cxOf (L2.CX P w) P w K mg base N qual scope f cd A outer s H E with calm := cm }
theorem inv_startC {cm : Bool} {P : Program} {w : World} {K : PySem.W.Frag} {mg : Str → Option Value} {base : Heap} {N ps : List Str} {qual : Str} {scope : Scope} {f : Addr} {cd : Value} {A : Around} {outer : List Env} {s s1 : Shared} {H : Hp} {E : XK} {us : List Value} {vs : List V} (S : FnScope N ps scope) (hd : cm = true → A.handled = none) (e0 : Env0 P w K mg base A outer s H) (hl : vs.length = ps.length) (r : Vals vs us)
    (x : InCallC s s.heap.objs.size (bindL (envOfC qual scope s.heap.objs.size f cd).kindOf (ps.zip us) fun _ => none) (cellsFrom (s.heap.objs.size + 1) scope.names []) (bindC (envOfC qual scope s.heap.objs.size f cd).kindOf (ps.zip us) fun _ => none) s1) : Inv (cxC cm P w K mg base N qual scope f cd A outer s H E) [] (start N vs) H s1 := by
  -- entered as if nothing were handled; the state tells nothing of that
  have I := inv_start (CX := L2.CX P w) (E := E) (A := { A with handled := none }) (qual := qual) (f := f) (cd := cd) S rfl { e0 with frames := e0.frames } hl r x
  exact { I with ok := { I.ok with hd := hd, frames := I.ok.frames } }
/-- a def of the text by its body: the entry is the library's Att.call_fn -/
theorem fng_of {cm : Bool} {P : Program} {w : World} {K : PySem.W.Frag} {mg : Str → Option Value} {base : Heap} {x qual : Str} {st : Stmt} {f : Addr} {fd : FuncData} {N ps : List Str} {k : Nat} {sp : Sp} (F : Fun K x qual st f fd) (S : FnScope N ps (defScope st)) (fits : ∀ vs H Q E, sp vs H Q E → vs.length = ps.length)
    (hbody : ∀ (cdv : Value) (A : Around) (outer : List Env) (s : Shared) (H : Hp) (vs : List V) (Q : VK) (E : XK), A.guards = some [] → RoomC cm k (A.deeper (envOfC qual (defScope st) s.heap.objs.size f cdv)) → sp vs H Q E →
      ∃ t, PSs (cxC cm P w K mg base N qual (defScope st) f cdv A outer s H E) (defBody st) t ∧ t { nx := fun _ H' => Q .non H', rt := Q } (start N vs) H) : FnG P w K mg base cm (k + 1) f fd ps sp where
  fits := fits
  run A outer s H args us vs Q E hg hr e0 hb r hsp := by
    rcases F.ex with ⟨v1, v2, v3, v4, v5, v6, cdv, v8, v9, fdq, lk, cin⟩
    subst fdq
    have old : ∀ b o, base.get? b = some o → s.heap.get? b = some o := fun b o q => (e0.bs b o q).1
    obtain ⟨t, ht, hq⟩ := hbody cdv A outer s H vs Q E hg (hr.deeper _) hsp
    refine Att.call_fn (e0.mod.kin.keeps old) (e0.mod.nolimit.keeps old) lk cin (by have := hr.dp; omega) hb (params_kinds S us) (fun s1 x => ?_) S.co S.gen S.kind
    refine wpAny_mono (ht.run [] s1 _ H _ (inv_startC (E := E) S hr.hd e0 (fits _ _ _ _ hsp) r x) hq) (fun fl t1 z => ?_) fun _ _ z => z
    cases fl with
    | ret u =>
      obtain ⟨v, _, H2, J, k1, k2⟩ := z
      exact ⟨v, H2, J.os, J.bare, J.base, J.hok, k1, k2⟩
    | next =>
      obtain ⟨_, H2, J, k1⟩ := z
      exact ⟨.non, H2, J.os, J.bare, J.base, J.hok, rfl, k1⟩
    | brk => obtain ⟨_, _, _, k1⟩ := z; exact k1.elim
    | cont => obtain ⟨_, _, _, k1⟩ := z; exact k1.elim
theorem guards_deeper (A : Around) (env : Env) (h : A.guards = some []) : (A.deeper env).guards = some [] := by
  first | exact h | simpa [Around.deeper] using h
/-! ### what a def promises, over data -/
/-- the arguments: data, the first one lent or not -/
def ArgOk (K : PySem.W.Frag) (br : Bool) (c : Option Addr) (F H : Hp) (vs : List V) (as cs : List D) : Prop :=
  match br with
  | false => c = none ∧ RpA K F vs as
  | true => ∃ a ws ys v0 vs' a0 as', c = some a ∧ vs = v0 :: vs' ∧ as = a0 :: as' ∧ v0 = .ref a ∧ F a = none ∧ H a = some (.lst ws) ∧ ys = cs ∧ RpA K F ws ys ∧ RpA K F vs' as'
def PoC (K : PySem.W.Frag) (cn : Tx → Value) (e : En) (F : Hp) (Q : VK) (E : XK) : CR → Prop
  | .ok v cs => ∀ u H' F', Rl K e ⟨[], cs⟩ [] F' H' → Same F F' → Rv K e ⟨[], cs⟩ [] F' H' u v.er → Q u H'
  | .exc k fs cs => ∀ d H' F', Rl K e ⟨[], cs⟩ [] F' H' → Same F F' → Xd K F' H' d fs → E (cn k) d H'
  | .stuck => False
def spF (K : PySem.W.Frag) (cn : Tx → Value) (p : Pg) (n f : Nat) : Sp := fun vs H Q E => ∃ c F as cs, Same F H ∧ ArgOk K (p.br f) c F H vs as cs ∧ (∃ d, p.fns[f]? = some d ∧ vs.length = d.np) ∧ PoC K cn ⟨c, F, H⟩ F Q E (p.run n f as cs)
section
variable {K : PySem.W.Frag} {e : En} {s : Fr} {σ : Sg} {F H F' H' : Hp} {c : Option Addr} {cs : List D}
theorem after_keep (Z : Rl K ⟨c, F, H⟩ ⟨[], cs⟩ [] F' H') {b : Addr} {o : HO} (h : H b = some o) (hc : some b ≠ c) : H' b = some o := Z.keep b o h hc
theorem after_none (Z : Rl K ⟨c, F, H⟩ ⟨[], cs⟩ [] F' H') {b : Addr} {o : HO} (hF : F b = none) (h : H b = some o) : F' b = none := by
  cases q : F' b with
  | none => rfl
  | some u =>
    rcases Z.fnew b u q with z | z
    · have z : F b = some u := z
      rw [hF] at z
      cases z
    · have z : H b = none := z
      rw [h] at z
      cases z
/-- the slots behind a call that does not touch them -/
theorem after_slot (R : Rl K e s σ F H) (Z : Rl K ⟨c, F, H⟩ ⟨[], cs⟩ [] F' H') (sm : Same F F') (i : Nat) (x : Sl) (q : s.sl[i]? = some x) (hc : isOwn x = true → ∀ p, σ[i]? = some (some (.ref p)) → some p ≠ c) : SlOk K e σ F' H' i x := by
  have k := R.slot i x q
  cases x with
  | un => trivial
  | val d =>
    obtain ⟨v, h1, h2⟩ := k
    exact ⟨v, h1, h2.mono sm⟩
  | own xs =>
    obtain ⟨p, vs, h1, h2, h3, h4, h5, h6⟩ := k
    exact ⟨p, vs, h1, h2, after_none Z h3 h5, h4, after_keep Z h5 (hc rfl p h1), h6.mono sm⟩
  | ref => exact k
theorem after_base (R : Rl K e s σ F H) (Z : Rl K ⟨c, F, H⟩ ⟨[], cs⟩ [] F' H') (hc : ∀ b o, e.H0 b = some o → some b ≠ e.c → some b ≠ c) :
    Same F' H' ∧ (∀ b o, F' b = some o → e.F0 b = some o ∨ e.H0 b = none) ∧ Same e.F0 F' ∧ (∀ b o, e.H0 b = some o → some b ≠ e.c → H' b = some o) := by
  have f0 : Same F F' := Z.f0
  refine ⟨Z.sub, fun b o q => ?_, R.f0.trans f0, fun b o q h => ?_⟩
  · rcases Z.fnew b o q with z | z
    · exact R.fnew b o z
    · exact Or.inr (R.nw z).h0
  · exact after_keep Z (R.keep b o q h) (hc b o q h)
/-- nothing was lent (or something that nobody else holds) -/
theorem Rl.after0 (R : Rl K e s σ F H) (Z : Rl K ⟨c, F, H⟩ ⟨[], cs⟩ [] F' H') (hc : ∀ p, c = some p → Nw e s σ F p) : Rl K e s σ F' H' := by
  have f0 : Same F F' := Z.f0
  obtain ⟨a1, a2, a3, a4⟩ := after_base R Z fun b o q _ z => by
    have := (hc b z.symm).h0
    rw [q] at this
    cases this
  refine ⟨a1, a2, a3, a4, fun a ha => ?_, fun i x q => ?_, R.dist, R.len⟩
  · obtain ⟨h1, vs, h2, r⟩ := R.cell a ha
    have nc : some a ≠ c := fun z => (hc a z.symm).c ha.symm
    exact ⟨after_none Z h1 h2, vs, after_keep Z h2 nc, r.mono f0⟩
  · refine after_slot R Z f0 i x q fun io p hp z => ?_
    exact (hc p z.symm).ow i x q io hp
/-- the cell was lent -/
theorem Rl.afterC (R : Rl K e s σ F H) (Z : Rl K ⟨e.c, F, H⟩ ⟨[], cs⟩ [] F' H') : Rl K e ⟨s.sl, cs⟩ σ F' H' := by
  have f0 : Same F F' := Z.f0
  obtain ⟨a1, a2, a3, a4⟩ := after_base R Z fun b o q h => h
  refine ⟨a1, a2, a3, a4, fun a ha => Z.cell a ha, fun i x q => ?_, R.dist, R.len⟩
  refine after_slot R Z f0 i x q fun io p hp => ?_
  have k := R.slot i x q
  cases x with
  | own xs =>
    obtain ⟨p', vs, h1, h2, h3, h4, h5, h6⟩ := k
    rw [hp] at h1
    cases h1
    exact h4
  | un => cases io
  | val _ => cases io
  | ref => cases io
/-- a list of one's own was lent -/
theorem Rl.afterO {j : Nat} {xs : List D} {p : Addr} (R : Rl K e s σ F H) (hj : s.sl[j]? = some (.own xs)) (hp : σ[j]? = some (some (.ref p))) (Z : Rl K ⟨some p, F, H⟩ ⟨[], cs⟩ [] F' H') : Rl K e (s.put j (.own cs)) σ F' H' := by
  have f0 : Same F F' := Z.f0
  obtain ⟨p', vs, h1, h2, h3, h4, h5, h6⟩ := R.slot j _ hj
  rw [hp] at h1
  cases h1
  obtain ⟨a1, a2, a3, a4⟩ := after_base R Z fun b o q _ z => by
    cases z
    rw [h2] at q
    cases q
  have jl : j < s.sl.length := (List.getElem?_eq_some_iff.mp hj).1
  have own : ∀ (i : Nat) x, (s.sl.set j (.own cs))[i]? = some x → isOwn x = true → ∃ y, s.sl[i]? = some y ∧ isOwn y = true := fun i x q io => by
    by_cases hi : j = i
    · subst hi
      exact ⟨_, hj, rfl⟩
    · rw [List.getElem?_set_ne hi] at q
      exact ⟨x, q, io⟩
  refine ⟨a1, a2, a3, a4, fun a ha => ?_, fun i x q => ?_, fun i k x y q1 q2 i1 i2 => ?_, by show (s.sl.set j _).length = _; rw [List.length_set]; exact R.len⟩
  · obtain ⟨g1, ws, g2, r⟩ := R.cell a ha
    have nc : some a ≠ some p := fun z => h4 (by rw [ha]; exact z.symm)
    exact ⟨after_none Z g1 g2, ws, after_keep Z g2 nc, r.mono f0⟩
  · by_cases hi : j = i
    · subst hi
      have q : (s.sl.set j (.own cs))[j]? = some x := q
      rw [List.getElem?_set_self jl] at q
      cases q
      obtain ⟨z1, ws, z2, z3⟩ := Z.cell p rfl
      exact ⟨p, ws, hp, h2, z1, h4, z2, z3⟩
    · have q : (s.sl.set j (.own cs))[i]? = some x := q
      rw [List.getElem?_set_ne hi] at q
      refine after_slot R Z f0 i x q fun io p2 hp2 z => ?_
      cases z
      exact hi (R.dist j i _ x hj q rfl io (hp.trans hp2.symm))
  · obtain ⟨x', w1, w2⟩ := own i x q1 i1
    obtain ⟨y', w3, w4⟩ := own k y q2 i2
    exact R.dist i k x' y' w1 w3 w2 w4
/-- what has come out of the call -/
theorem Rv.after {s' : Fr} {u : V} {v : CV} (R : Rl K e s σ F H) (h : Rv K ⟨c, F, H⟩ ⟨[], cs⟩ [] F' H' u v.er) (hs : ∀ (i : Nat) x, s'.sl[i]? = some x → isOwn x = true → ∃ y, s.sl[i]? = some y ∧ isOwn y = true) : Rv K e s' σ F' H' u v.er := by
  cases v with
  | val d => exact h
  | fresh xs =>
    obtain ⟨p, vs, rfl, h1, h2, h3, h4, h5, _⟩ := h
    have n := R.nw (p := p) h1
    refine ⟨p, vs, rfl, n.h0, h2, n.c, h4, h5, fun i x q io => ?_⟩
    obtain ⟨y, q2, io2⟩ := hs i x q io
    exact n.ow i y q2 io2
end
end Pi
set_option maxRecDepth 100000
set_option maxHeartbeats 3900000
namespace Pi
open PySem PySem.Spec L2 PyProof.Rows
/-! ### arguments -/
section
variable {K : PySem.W.Frag} {e : En} {s s' : Fr} {σ : Sg} {F F' H H' : Hp} {v : V} {vs : List V} {er : ER} {ers : List ER} {ds : List D} {d : D}
theorem RvA.nil : RvA K e s σ F H [] [] := ⟨rfl, fun i v x a => by simp at a⟩
theorem RvA.cons (h : Rv K e s σ F H v er) (t : RvA K e s σ F H vs ers) : RvA K e s σ F H (v :: vs) (er :: ers) := by
  refine ⟨by simp [t.1], fun i w x a b => ?_⟩
  cases i with
  | zero =>
    simp only [List.getElem?_cons_zero, Option.some.injEq] at a b
    subst a; subst b
    exact h
  | succ i => exact t.2 i w x (by simpa using a) (by simpa using b)
theorem RvA.inv (h : RvA K e s σ F H vs (er :: ers)) : ∃ v ws, vs = v :: ws ∧ Rv K e s σ F H v er ∧ RvA K e s σ F H ws ers := by
  cases vs with
  | nil => have := h.1; simp at this
  | cons v ws => exact ⟨v, ws, rfl, h.2 0 v er rfl rfl, by have := h.1; simpa using this, fun i w x a b => h.2 (i + 1) w x (by simpa using a) (by simpa using b)⟩
theorem RvA.nil_inv (h : RvA K e s σ F H vs []) : vs = [] := List.eq_nil_of_length_eq_zero h.1
/-- held: nothing fresh -/
def held : ER → Bool
  | .fresh _ => false
  | _ => true
theorem hold_held (x : ER) : held x.hold = true := by cases x <;> rfl
theorem held_hold {x : ER} (h : held x = true) : x.hold = x := by cases x <;> first | rfl | cases h
theorem Rv.stay' (h : Rv K e s σ F H v er) (hh : held er = true) (sm : Same F F') : Rv K e s' σ F' H' v er := by
  rw [← held_hold hh] at h ⊢
  exact h.stay sm
theorem RvA.stay (h : RvA K e s σ F H vs ers) (hh : ers.all held = true) (sm : Same F F') : RvA K e s' σ F' H' vs ers :=
  ⟨h.1, fun i v x a b => (h.2 i v x a b).stay' (List.all_eq_true.mp hh x (List.mem_of_getElem? b)) sm⟩
/-- all but the last are held -/
def heldL : List ER → Bool
  | [] => true
  | [_] => true
  | x :: r => held x && heldL r
theorem heldL_cons (x : ER) (xs : List ER) (h : heldL xs = true) : heldL (holdL x xs :: xs) = true := by
  cases xs with
  | nil => rfl
  | cons y ys =>
    show (held x.hold && heldL (y :: ys)) = true
    rw [hold_held, h]
    rfl
theorem evB_held (w : Wd) : ∀ (es : IEs) (s s' : Fr) (ers : List ER), evB w es s = .ok ers s' → heldL ers = true
  | .nil, s, s', ers, h => by
    unfold evB at h
    cases h
    rfl
  | .cons a r, s, s', ers, h => by
    unfold evB at h
    cases h1 : ev w a s with
    | stuck => rw [h1] at h; cases h
    | exc c fs t => rw [h1] at h; cases h
    | ok x s1 =>
      rw [h1] at h
      simp only [Rs.bind] at h
      cases h2 : evB w r s1 with
      | stuck => rw [h2] at h; cases h
      | exc c fs t => rw [h2] at h; cases h
      | ok xs s2 =>
        rw [h2] at h
        cases h
        exact heldL_cons x xs (evB_held w r s1 _ xs h2)
theorem Rl.holdAll (R : Rl K e s σ F H) : ∀ (ers : List ER) (vs : List V), heldL ers = true → RvA K e s σ F H vs ers → ∃ F', Rl K e s σ F' H ∧ Same F F' ∧ RvA K e s σ F' H vs (ers.map ER.hold)
  | [], vs, _, h => ⟨F, R, Same.refl F, h⟩
  | [x], vs, _, h => by
    obtain ⟨v, ws, rfl, h1, h2⟩ := h.inv
    cases h2.nil_inv
    obtain ⟨F', R', sm, r⟩ := R.hold h1
    exact ⟨F', R', sm, .cons r .nil⟩
  | x :: y :: r, vs, hh, h => by
    unfold heldL at hh
    rw [Bool.and_eq_true] at hh
    obtain ⟨v, ws, rfl, h1, h2⟩ := h.inv
    obtain ⟨F', R', sm, t⟩ := R.holdAll (y :: r) ws hh.2 h2
    refine ⟨F', R', sm, ?_⟩
    show RvA K e s σ F' H (v :: ws) (x.hold :: (y :: r).map ER.hold)
    rw [held_hold hh.1]
    exact .cons (h1.stay' hh.1 sm) t
/-- kept by others from here on -/
theorem Rl.fz1 (R : Rl K e s σ F H) (h : Rv K e s σ F H v er) (hh : held er = true) (q : er.fz s = .ok d s') : ∃ F', Rl K e s' σ F' H ∧ Same F F' ∧ Rp K F' v d := by
  cases er with
  | val x => cases q; exact ⟨F, R, Same.refl F, h⟩
  | fresh xs => cases hh
  | cell => cases q
  | slot i =>
    have h : σ[i]? = some (some v) := h
    unfold ER.fz at q
    cases hs : s.sl[i]? with
    | none => simp only [hs] at q; cases q
    | some x =>
      simp only [hs] at q
      cases x with
      | un => cases q
      | ref => cases q
      | val y =>
        cases q
        obtain ⟨w, hw, r⟩ := R.slot i _ hs
        rw [h] at hw
        cases hw
        exact ⟨F, R, Same.refl F, r⟩
      | own xs =>
        cases q
        obtain ⟨p, ws, hw, h0, hF, hc, hp, r⟩ := R.slot i _ hs
        rw [h] at hw
        cases hw
        have il : i < s.sl.length := (List.getElem?_eq_some_iff.mp hs).1
        have sm : Same F (upd F p (.lst ws)) := fun b u z => by
          rw [upd_ne (ne_of_none z hF)]
          exact z
        have rp : Rp K (upd F p (.lst ws)) (.ref p) (.lst xs) := .lst upd_same r.1 (r.mono sm).2
        refine ⟨upd F p (.lst ws), ⟨fun b u z => ?_, fun b u z => ?_, R.f0.trans sm, R.keep, fun a ha => ?_, fun j x z => ?_, fun j k x y z1 z2 i1 i2 => ?_, ?_⟩, sm, rp⟩
        · by_cases hb : b = p
          · subst hb
            rw [upd_same] at z
            cases z
            exact hp
          · rw [upd_ne hb] at z
            exact R.sub b u z
        · by_cases hb : b = p
          · subst hb
            exact Or.inr h0
          · rw [upd_ne hb] at z
            exact R.fnew b u z
        · obtain ⟨g1, us, g2, r'⟩ := R.cell a ha
          refine ⟨?_, us, g2, r'.mono sm⟩
          rw [upd_ne (fun z => hc (by rw [ha, z]))]
          exact g1
        · have z : (s.sl.set i (.val (.lst xs)))[j]? = some x := z
          by_cases hj : i = j
          · subst hj
            rw [List.getElem?_set_self il] at z
            cases z
            exact ⟨_, h, rp⟩
          · rw [List.getElem?_set_ne hj] at z
            have k := R.slot j x z
            cases x with
            | un => trivial
            | val d =>
              obtain ⟨u, hu, r'⟩ := k
              exact ⟨u, hu, r'.mono sm⟩
            | own ys =>
              obtain ⟨p', us, g1, g2, g3, g4, g5, g6⟩ := k
              have np : p' ≠ p := fun z2 => by
                subst z2
                exact hj (R.dist i j _ _ hs z rfl rfl (h.trans g1.symm))
              exact ⟨p', us, g1, g2, by rw [upd_ne np]; exact g3, g4, g5, g6.mono sm⟩
            | ref => exact k
        · have z1 : (s.sl.set i (.val (.lst xs)))[j]? = some x := z1
          have z2 : (s.sl.set i (.val (.lst xs)))[k]? = some y := z2
          have nj : i ≠ j := fun z => by
            subst z
            rw [List.getElem?_set_self il] at z1
            cases z1
            cases i1
          have nk : i ≠ k := fun z => by
            subst z
            rw [List.getElem?_set_self il] at z2
            cases z2
            cases i2
          rw [List.getElem?_set_ne nj] at z1
          rw [List.getElem?_set_ne nk] at z2
          exact R.dist j k x y z1 z2 i1 i2
        · show (s.sl.set i _).length = _
          rw [List.length_set]
          exact R.len
theorem Rl.fzAll (R : Rl K e s σ F H) : ∀ (ers : List ER) (vs : List V) (ds : List D) (s' : Fr), ers.all held = true → RvA K e s σ F H vs ers → fzAll ers s = .ok ds s' → ∃ F', Rl K e s' σ F' H ∧ Same F F' ∧ RpA K F' vs ds := by
  intro ers
  induction ers generalizing s F with
  | nil =>
    intro vs ds s' _ h q
    unfold Pi.fzAll at q
    cases q
    cases h.nil_inv
    exact ⟨F, R, Same.refl F, .nil⟩
  | cons x r ih =>
    intro vs ds s' hh h q
    rw [List.all_cons, Bool.and_eq_true] at hh
    obtain ⟨v, ws, rfl, h1, h2⟩ := h.inv
    unfold Pi.fzAll at q
    cases q1 : x.fz s with
    | stuck => rw [q1] at q; cases q
    | exc c fs t => rw [q1] at q; cases q
    | ok d s1 =>
      rw [q1] at q
      simp only [Rs.bind] at q
      obtain ⟨F1, R1, sm1, r1⟩ := R.fz1 h1 hh.1 q1
      cases q2 : Pi.fzAll r s1 with
      | stuck => rw [q2] at q; cases q
      | exc c fs t => rw [q2] at q; cases q
      | ok ds' s2 =>
        rw [q2] at q
        cases q
        obtain ⟨F2, R2, sm2, r2⟩ := ih R1 ws ds' _ hh.2 (h2.stay hh.2 sm1) q2
        exact ⟨F2, R2, sm1.trans sm2, .cons (r1.mono sm2) r2⟩
theorem fz_noexc {er : ER} {s : Fr} {c : Tx} {fs : List (Tx × D)} {t : Fr} : er.fz s ≠ .exc c fs t := by
  intro h
  cases er <;> simp only [ER.fz, reduceCtorEq] at h
  split at h <;> cases h
theorem fzAll_noexc : ∀ {ers : List ER} {s : Fr} {c : Tx} {fs : List (Tx × D)} {t : Fr}, fzAll ers s ≠ .exc c fs t
  | [], s, c, fs, t, h => by unfold Pi.fzAll at h; cases h
  | x :: r, s, c, fs, t, h => by
    unfold Pi.fzAll at h
    cases q1 : x.fz s with
    | stuck => rw [q1] at h; cases h
    | exc c fs t => exact fz_noexc q1
    | ok d s1 =>
      rw [q1] at h
      simp only [Rs.bind] at h
      cases q2 : Pi.fzAll r s1 with
      | stuck => rw [q2] at h; cases h
      | exc c fs t => exact fzAll_noexc q2
      | ok ds s2 => rw [q2] at h; cases h
theorem pick_rp : ∀ {ix : List Nat} {vs : List V} {ds as : List D}, RpA K F vs ds → pick ds ix = some as → ∃ us, pick vs ix = some us ∧ RpA K F us as
  | [], vs, ds, as, h, q => by
    cases q
    exact ⟨[], rfl, .nil⟩
  | k :: r, vs, ds, as, h, q => by
    unfold pick at q
    cases q1 : ds[k]? with
    | none => rw [q1] at q; cases q
    | some x =>
      cases q2 : pick ds r with
      | none => rw [q1, q2] at q; cases q
      | some xs =>
        rw [q1, q2] at q
        cases q
        obtain ⟨v, h1, h2⟩ := h.get q1
        obtain ⟨us, h3, h4⟩ := pick_rp h q2
        exact ⟨v :: us, by unfold pick; rw [h1, h3], .cons h2 h4⟩
theorem pick_vals : ∀ {ix : List Nat} {vs us : List V} {ws : List Value}, Vals vs ws → pick vs ix = some us → ∃ xs, pick ws ix = some xs ∧ Vals us xs
  | [], vs, us, ws, h, q => by
    cases q
    exact ⟨[], rfl, .nil⟩
  | k :: r, vs, us, ws, h, q => by
    unfold pick at q
    cases q1 : vs[k]? with
    | none => rw [q1] at q; cases q
    | some x =>
      cases q2 : pick vs r with
      | none => rw [q1, q2] at q; cases q
      | some xs =>
        rw [q1, q2] at q
        cases q
        obtain ⟨u, h1, h2⟩ := h.get q1
        obtain ⟨ys, h3, h4⟩ := pick_vals h q2
        exact ⟨u :: ys, by unfold pick; rw [h1, h3], .cons h2 h4⟩
end
/-! ### a call -/
def IEs.len : IEs → Nat
  | .nil => 0
  | .cons _ r => r.len + 1
theorem evB_len (w : Wd) : ∀ (es : IEs) (s s' : Fr) (ers : List ER), evB w es s = .ok ers s' → ers.length = es.len
  | .nil, s, s', ers, h => by
    unfold evB at h
    cases h
    rfl
  | .cons a r, s, s', ers, h => by
    unfold evB at h
    cases h1 : ev w a s with
    | stuck => rw [h1] at h; cases h
    | exc c fs t => rw [h1] at h; cases h
    | ok x s1 =>
      rw [h1] at h
      simp only [Rs.bind] at h
      cases h2 : evB w r s1 with
      | stuck => rw [h2] at h; cases h
      | exc c fs t => rw [h2] at h; cases h
      | ok xs s2 =>
        rw [h2] at h
        cases h
        have := evB_len w r s1 _ xs h2
        simp [IEs.len, this]
def tCal (m : Nat) (sp : Sp) (W : WX) (ix : List Nat) (dvs : List V) (t : TA) : TE := fun σ H Q => t σ H fun vs H1 => vs.length = m ∧ ∃ as, pick (vs ++ dvs) ix = some as ∧ sp as H1 Q (WE W σ)
theorem run_some {p : Pg} {n f : Nat} {as c : List D} (h : p.run n f as c ≠ .stuck) : ∃ d, p.fns[f]? = some d ∧ as.length = d.np := by
  cases n with
  | zero => exact absurd rfl h
  | succ n =>
    unfold Pg.run at h
    split at h
    · exact absurd rfl h
    · rename_i d hd
      split at h
      · exact ⟨d, hd, by assumption⟩
      · exact absurd rfl h
theorem heldL_tail {x : ER} {r : List ER} (h : heldL (x :: r) = true) : heldL r = true := by
  cases r with
  | nil => rfl
  | cons y ys =>
    unfold heldL at h
    rw [Bool.and_eq_true] at h
    exact h.2
theorem all_hold (r : List ER) : (r.map ER.hold).all held = true := by
  rw [List.all_map, List.all_eq_true]
  exact fun x _ => hold_held x
theorem pick_pred {α : Type} {x : α} {l : List α} : ∀ {r : List Nat}, r.all (fun k => decide (0 < k)) = true → pick (x :: l) r = pick l (r.map (· - 1))
  | [], _ => rfl
  | k :: r, h => by
    replace h := all_hd h
    have hk := of_decide_eq_true h.1
    show (match (x :: l)[k]?, pick (x :: l) r with | some x, some xs => some (x :: xs) | _, _ => none) = (match l[k - 1]?, pick l (r.map (· - 1)) with | some x, some xs => some (x :: xs) | _, _ => none)
    rw [pick_pred h.2]
    obtain ⟨j, rfl⟩ : ∃ j, k = j + 1 := ⟨k - 1, by omega⟩
    rfl
section
variable {K : PySem.W.Frag} {g : Wi} {p : Pg} {n f : Nat} {e : En} {σ : Sg} {Q : VK}
/-- from the wish behind the call to the promise's -/
theorem poC {c : Option Addr} {F0 F H : Hp} {s s1 : Fr} {fr : List D → Fr} {r : CR} (sm : Same F0 F) (R : Rl K e s σ F H)
    (h : Po K g e σ F0 (Vo K e σ Q) (r.rs fr)) (after : ∀ cs F' H', Rl K ⟨c, F, H⟩ ⟨[], cs⟩ [] F' H' → Rl K e (fr cs) σ F' H')
    (own : ∀ cs (i : Nat) x, (fr cs).sl[i]? = some x → isOwn x = true → ∃ y, s.sl[i]? = some y ∧ isOwn y = true) : PoC K g.cn ⟨c, F, H⟩ F Q (WE g.W σ) r := by
  cases r with
  | stuck => exact h
  | ok v cs => exact fun u H' F' Z sm' rv => h H' F' (after cs F' H' Z) (sm.trans sm') u (rv.after R (own cs))
  | exc k fs cs => exact fun d H' F' Z sm' x => h d H' F' (after cs F' H' Z) (sm.trans sm') x
theorem rs_stuck {r : CR} {fr : List D → Fr} {F : Hp} (h : Po K g e σ F (Vo K e σ Q) (r.rs fr)) : r ≠ .stuck := fun z => by
  rw [z] at h
  exact h
theorem t_call {ix : List Nat} {es : IEs} {H : Hp} {dvs : List V} (hdf : ∀ F, RpA K F dvs (p.df f)) (h : tE K g (p.wd n) (.call f ix es) σ H Q) : tCal es.len (spF K g.cn p n f) g.W ix dvs (tB K g (p.wd n) es) σ H Q := by
  obtain ⟨e, s, F, R, h⟩ := h
  refine ⟨e, s, F, R, ?_⟩
  unfold ev at h
  cases q : evB (p.wd n) es s with
  | stuck => rw [q] at h; exact h
  | exc c fs t => rw [q] at h; exact h
  | ok ers s1 =>
    rw [q] at h
    have hh := evB_held _ es s s1 ers q
    have h : Po K g e σ F (Vo K e σ Q) (doCall (p.wd n) f ix ers s1) := h
    intro H1 F1 R1 sm1 vs ra
    refine ⟨ra.1.trans (evB_len _ es s s1 ers q), ?_⟩
    unfold doCall at h
    cases hb : p.br f with
    | false =>
      have hb' : (p.wd n).br f = false := hb
      simp only [hb'] at h
      obtain ⟨F2, R2, sm2, ra2⟩ := R1.holdAll ers vs hh ra
      cases q2 : fzAll (ers.map ER.hold) s1 with
      | stuck => rw [q2] at h; exact h.elim
      | exc c fs t => exact absurd q2 fzAll_noexc
      | ok ds s2 =>
        rw [q2] at h
        obtain ⟨F3, R3, sm3, rp⟩ := R2.fzAll _ vs ds s2 (all_hold ers) ra2 q2
        have h : Po K g e σ F (Vo K e σ Q) (match pick (ds ++ p.df f) ix with | none => .stuck | some as => (p.run n f as []).rs fun _ => s2) := h
        cases q3 : pick (ds ++ p.df f) ix with
        | none => rw [q3] at h; exact h.elim
        | some as =>
          rw [q3] at h
          obtain ⟨us, h1, h2⟩ := pick_rp (rp.append (hdf F3)) q3
          obtain ⟨d, hd, hl⟩ := run_some (rs_stuck h)
          refine ⟨us, h1, none, F3, as, [], R3.sub, ?_, ⟨d, hd, h2.1.trans hl⟩, ?_⟩
          · rw [hb]
            exact ⟨rfl, h2⟩
          · exact poC (s1 := s2) ((sm1.trans sm2).trans sm3) R3 h (fun cs F' H' Z => R3.after0 Z (fun p z => by cases z)) (fun cs i x a b => ⟨x, a, b⟩)
    | true =>
      have hb' : (p.wd n).br f = true := hb
      simp only [hb'] at h
      cases ers with
      | nil => exact h.elim
      | cons e0 er =>
        cases ix with
        | nil => exact h.elim
        | cons i0 r =>
          cases i0 with
          | succ i0 => exact h.elim
          | zero =>
            simp only at h
            split at h
            · rename_i hr
              obtain ⟨v0, ws, rfl, rv0, ra'⟩ := ra.inv
              have key : ∃ F2, Rl K e s1 σ F2 H1 ∧ Same F1 F2 ∧ RvA K e s1 σ F2 H1 ws (er.map ER.hold) ∧ (er = [] → F2 = F1) ∧ (er ≠ [] → held e0 = true) := by
                cases er with
                | nil => exact ⟨F1, R1, Same.refl F1, ra', fun _ => rfl, fun z => absurd rfl z⟩
                | cons y ys =>
                  obtain ⟨F2, R2, sm2, ra2⟩ := R1.holdAll (y :: ys) ws (heldL_tail hh) ra'
                  refine ⟨F2, R2, sm2, ra2, (fun z => by cases z), fun _ => ?_⟩
                  unfold heldL at hh
                  rw [Bool.and_eq_true] at hh
                  exact hh.1
              obtain ⟨F2, R2, sm2, ra2, heq, hhe⟩ := key
              cases q2 : fzAll (er.map ER.hold) s1 with
              | stuck => rw [q2] at h; exact h.elim
              | exc c fs t => exact absurd q2 fzAll_noexc
              | ok ds s2 =>
                rw [q2] at h
                obtain ⟨F3, R3, sm3, rp⟩ := R2.fzAll _ ws ds s2 (all_hold er) ra2 q2
                have hB : Po K g e σ F (Vo K e σ Q) (match pick (ds ++ p.df f) (r.map (· - 1)) with | none => .stuck | some as => lend (p.wd n) f (.non :: as) er s2 e0) := h
                cases q3 : pick (ds ++ p.df f) (r.map (· - 1)) with
                | none => rw [q3] at hB; exact hB.elim
                | some as =>
                  rw [q3] at hB
                  obtain ⟨us, h1, h2⟩ := pick_rp (rp.append (hdf F3)) q3
                  have hp : pick (v0 :: ws ++ dvs) (0 :: r) = some (v0 :: us) := by
                    unfold pick
                    rw [show (v0 :: ws ++ dvs) = v0 :: (ws ++ dvs) from rfl, pick_pred hr, h1]
                    rfl
                  refine ⟨v0 :: us, hp, ?_⟩
                  -- what is lent
                  cases e0 with
                  | val d => exact hB.elim
                  | cell =>
                    have h : Po K g e σ F (Vo K e σ Q) ((p.run n f (.non :: as) s2.cell).rs fun c => ⟨s2.sl, c⟩) := hB
                    obtain ⟨a, ha, rfl⟩ := rv0
                    obtain ⟨hFa, vs2, hHa, rc⟩ := R3.cell a ha
                    obtain ⟨d, hd, hl⟩ := run_some (rs_stuck h)
                    refine ⟨some a, F3, .non :: as, s2.cell, R3.sub, ?_, ⟨d, hd, ?_⟩, ?_⟩
                    · rw [hb]
                      exact ⟨a, vs2, _, _, us, .non, as, rfl, rfl, rfl, rfl, hFa, hHa, rfl, rc, h2⟩
                    · rw [← hl]
                      simp [h2.1]
                    · rw [← ha]
                      exact poC (s1 := s2) ((sm1.trans sm2).trans sm3) R3 h (fun cs F' H' Z => R3.afterC Z) (fun cs i x a b => ⟨x, a, b⟩)
                  | slot i =>
                    have h : Po K g e σ F (Vo K e σ Q) (match s2.sl[i]? with | some (.own xs) => (p.run n f (.non :: as) xs).rs fun c => s2.put i (.own c) | _ => .stuck) := hB
                    have hv : σ[i]? = some (some v0) := rv0
                    cases hs : s2.sl[i]? with
                    | none => rw [hs] at h; exact h.elim
                    | some x =>
                      cases x with
                      | un => rw [hs] at h; exact h.elim
                      | val d => rw [hs] at h; exact h.elim
                      | ref => rw [hs] at h; exact h.elim
                      | own xs =>
                        rw [hs] at h
                        have h : Po K g e σ F (Vo K e σ Q) ((p.run n f (.non :: as) xs).rs fun c => s2.put i (.own c)) := h
                        obtain ⟨a, vs2, hw, g0, gF, gc, gH, gr⟩ := R3.slot i _ hs
                        rw [hv] at hw
                        cases hw
                        obtain ⟨d, hd, hl⟩ := run_some (rs_stuck h)
                        refine ⟨some a, F3, .non :: as, xs, R3.sub, ?_, ⟨d, hd, ?_⟩, ?_⟩
                        · rw [hb]
                          exact ⟨a, vs2, _, _, us, .non, as, rfl, rfl, rfl, rfl, gF, gH, rfl, gr, h2⟩
                        · rw [← hl]
                          simp [h2.1]
                        · refine poC (s1 := s2) ((sm1.trans sm2).trans sm3) R3 h (fun cs F' H' Z => R3.afterO hs hv Z) (fun cs j x a b => ?_)
                          by_cases hj : i = j
                          · subst hj
                            exact ⟨_, hs, rfl⟩
                          · have a : (s2.sl.set i (.own cs))[j]? = some x := a
                            rw [List.getElem?_set_ne hj] at a
                            exact ⟨x, a, b⟩
                  | fresh xs =>
                    cases er with
                    | cons y ys => exact absurd (hhe (by simp)) (by simp [held])
                    | nil =>
                      cases heq rfl
                      unfold Pi.fzAll at q2
                      cases q2
                      have h : Po K g e σ F (Vo K e σ Q) ((p.run n f (.non :: as) xs).rs fun _ => s1) := hB
                      obtain ⟨a, vs2, rfl, g0, gF, gc, gH, gr, gn⟩ := rv0
                      obtain ⟨d, hd, hl⟩ := run_some (rs_stuck h)
                      refine ⟨some a, F1, .non :: as, xs, R1.sub, ?_, ⟨d, hd, ?_⟩, ?_⟩
                      · rw [hb]
                        exact ⟨a, vs2, _, _, us, .non, as, rfl, rfl, rfl, rfl, gF, gH, rfl, gr, (by
                          have := ra'.nil_inv
                          subst this
                          obtain ⟨us2, k1, k2⟩ := pick_rp (K := K) (hdf F1) (show pick (p.df f) (r.map (· - 1)) = some as from q3)
                          have e1 : us = us2 := Option.some.inj (h1.symm.trans (show pick ([] ++ dvs) (r.map (· - 1)) = some us2 from k1))
                          rw [e1]
                          exact k2)⟩
                      · rw [← hl]
                        simp [h2.1]
                      · exact poC (s1 := s1) sm1 R1 h (fun cs F' H' Z => R1.after0 Z (fun q z => by cases z; exact ⟨g0, gF, gc, gn⟩)) (fun cs i x a b => ⟨x, a, b⟩)
            · exact h.elim
end
end Pi
set_option maxRecDepth 100000
set_option maxHeartbeats 3900000
namespace Pi
open PySem PySem.Spec L2 PyProof.Rows
/-! ### methods of texts -/
def rDm (K : PySem.W.Frag) (f : Tx → List D → Option ER) : V → List V → Hp → VK → Prop := fun x xs H Q => ∃ (e : En) (s : Fr) (σ : Sg) (F : Hp) (a : Tx) (ds : List D) (er : ER), Rl K e s σ F H ∧ x = .str (tx a) ∧ RtA K F H xs ds ∧ f a ds = some er ∧
  ∀ v H' F', Rl K e s σ F' H' → Same F F' → Rv K e s σ F' H' v er → Q v H'
theorem _root_.L2.MtR.imp {X : Cx} {id : String} {r r' : V → List V → Hp → VK → Prop} (h : MtR X id r) (i : ∀ x xs H Q, r' x xs H Q → r x xs H Q) : MtR X id r' := fun pins s σ H x xs v us Q I a b q => h pins s σ H x xs v us Q I a b (i _ _ _ _ q)
theorem strs_of {K : PySem.W.Frag} {F : Hp} : ∀ {xs : List D} {ts : List Tx} {vs : List V}, strsD xs = some ts → RpA K F vs xs → vs = (ts.map tx).map V.str
  | [], ts, vs, e, h => by
    cases e
    exact List.eq_nil_of_length_eq_zero h.1
  | x :: xs, ts, vs, e, h => by
    cases x <;> simp only [strsD, reduceCtorEq, Option.map_eq_some_iff] at e
    obtain ⟨cs, e, rfl⟩ := e
    cases vs with
    | nil => have := h.1; simp at this
    | cons v vs =>
      obtain ⟨a, b⟩ := h.cons_inv
      cases a
      rw [strs_of e b]
      rfl
theorem join_tx (s : Tx) : ∀ ts : List Tx, Str.join (tx s) (ts.map tx) = tx (joinT s ts)
  | [] => rfl
  | [_] => rfl
  | x :: y :: r => by
    show tx x ++ tx s ++ Str.join (tx s) ((y :: r).map tx) = tx (x ++ s ++ joinT s (y :: r))
    rw [join_tx s (y :: r), tx_app, tx_app]
theorem len_tx (ts : List Tx) : ((ts.map tx).map (·.length)) = ts.map List.length := by
  rw [List.map_map]
  exact List.map_congr_left fun x _ => tx_len x
theorem mt_joinD {X : Cx} : MtR X "str.join" (rDm X.K joinR) := by
  refine (mt_join (X := X)).imp fun x xs H Q ⟨e, s, σ, F, a, ds, er, R, hx, ra, ef, q⟩ => ?_
  unfold joinR at ef
  split at ef
  · rename_i ys
    cases eb : strsD ys with
    | none => rw [eb] at ef; cases ef
    | some ts =>
      rw [eb] at ef
      simp only [Option.bind_some] at ef
      split at ef
      · rename_i hl
        cases ef
        obtain ⟨v, rfl, r⟩ := ra.one
        obtain ⟨p, vs, rfl, h, r⟩ := r.lst R.sub
        cases strs_of eb r
        refine ⟨tx a, p, ts.map tx, hx, rfl, .inl (.of h), ?_, ?_⟩
        · rw [len_tx, tx_len, List.length_map]
          exact Nat.le_trans hl (by decide)
        · rw [show Txt.join (tx a) (ts.map tx) = Str.join (tx a) (ts.map tx) from PySem.StrLaws.glued_eq_join _ _, join_tx]
          exact q _ H F R (Same.refl F) (.str _)
      · cases ef
  · rename_i ys
    cases eb : strsD ys with
    | none => rw [eb] at ef; cases ef
    | some ts =>
      rw [eb] at ef
      simp only [Option.bind_some] at ef
      split at ef
      · rename_i hl
        cases ef
        obtain ⟨v, rfl, r⟩ := ra.one
        obtain ⟨p, vs, rfl, h, r⟩ := r.tup R.sub
        cases strs_of eb r
        refine ⟨tx a, p, ts.map tx, hx, rfl, .inr h, ?_, ?_⟩
        · rw [len_tx, tx_len, List.length_map]
          exact Nat.le_trans hl (by decide)
        · rw [show Txt.join (tx a) (ts.map tx) = Str.join (tx a) (ts.map tx) from PySem.StrLaws.glued_eq_join _ _, join_tx]
          exact q _ H F R (Same.refl F) (.str _)
      · cases ef
  · cases ef
theorem mt_splitD {X : Cx} : MtR X "str.split" (rDm X.K splitR) := by
  refine (mt_split (X := X)).imp fun x xs H Q ⟨e, s, σ, F, a, ds, er, R, hx, ra, ef, q⟩ => ?_
  unfold splitR at ef
  split at ef
  · rename_i b
    split at ef
    · rename_i hl
      cases ef
      obtain ⟨v, rfl, r⟩ := ra.one
      cases r.str
      refine ⟨tx a, tx b, hx, rfl, by rw [tx_len]; simpa using hl.1, by rw [tx_len]; exact lim_le hl.2, fun p hp => ?_⟩
      have rel : RpA X.K F ((PySem.Txt.split (tx a) (tx b)).map V.str) ((PySem.Txt.split (tx a) (tx b)).map fun y => .str y.cps.toList) := by
        refine ⟨by simp, fun i v d h1 h2 => ?_⟩
        rw [List.getElem?_map] at h1 h2
        cases z : (PySem.Txt.split (tx a) (tx b))[i]? with
        | none => rw [z] at h1; cases h1
        | some y =>
          rw [z] at h1 h2
          cases h1; cases h2
          have := Rp.str (K := X.K) (F := F) y.cps.toList
          rw [tx_back] at this
          exact this
      obtain ⟨R', rv⟩ := R.newL hp rel
      exact q _ _ F R' (Same.refl F) rv
    · cases ef
  · cases ef
theorem occ_one (s : Tx) (c k : Nat) (h : s.findIdx? (· == c) = some k) : ∃ r, Builtin.Str.occurrences (tx s) (tx [c]) 0 (tx s).length 1 = k :: r := by
  rw [List.findIdx?_eq_some_iff_getElem] at h
  obtain ⟨hk, h1, h2⟩ := h
  have at_iff : ∀ i, PySem.StrLaws.At (tx s) ⟨#[c]⟩ (tx s).length i ↔ s[i]? = some c := fun i => by
    have := PySem.StrLaws.subAt_one (tx s) c i
    unfold PySem.StrLaws.At
    rw [this]
    exact Iff.rfl
  rcases PySem.StrLaws.occ_head (tx s) ⟨#[c]⟩ 1 (Nat.le_refl 1) with ⟨_, hn⟩ | ⟨i, r, e, ha, hn⟩
  · refine absurd ((at_iff k).mpr ?_) (hn k)
    rw [List.getElem?_eq_getElem hk]
    have : s[k] = c := by simpa using h1
    rw [this]
  · have hi := (at_iff i).mp ha
    have e2 : i = k := by
      rcases Nat.lt_trichotomy i k with hlt | heq | hgt
      · have z := h2 i hlt
        have : s[i]'(by omega) = c := by
          rw [List.getElem?_eq_getElem (by omega)] at hi
          exact Option.some.inj hi
        simp [this] at z
      · exact heq
      · refine absurd ((at_iff k).mpr ?_) (hn k hgt)
        rw [List.getElem?_eq_getElem hk]
        have : s[k] = c := by simpa using h1
        rw [this]
    subst e2
    exact ⟨r, e⟩
theorem mt_indexD1 {X : Cx} : MtR X "str.index" (rDm X.K indexR) := by
  intro pins s σ H x xs v us Q I rx rs ⟨e, fr, σ', F, a, ds, er, R, hx, ra, ef, q⟩
  unfold indexR at ef
  split at ef
  · rename_i c
    rw [Option.map_eq_some_iff] at ef
    obtain ⟨k, hk, rfl⟩ := ef
    obtain ⟨w, rfl, r⟩ := ra.one
    cases r.str
    subst hx
    obtain ⟨t, rfl⟩ := rx
    cases rs with
    | cons r1 rr =>
      cases rr
      obtain ⟨u, rfl⟩ := r1
      obtain ⟨r, ho⟩ := occ_one a c k hk
      exact PySem.SC.index ho ⟨.int (k : Nat), H, I.tok _, ⟨_, rfl⟩, q _ H F R (Same.refl F) (.int _)⟩
  · cases ef
/-! ### subscripts -/
theorem ixOf_ixN (n : Nat) (i : Int) : ixOf n i = ixN n i := rfl
theorem at_rp {K : PySem.W.Frag} {F : Hp} {vs : List V} {xs : List D} {i : Int} {d : D} (r : RpA K F vs xs) (h : ((ixOf xs.length i).bind fun k => xs[k]?) = some d) : ∃ v, atI vs i = some v ∧ Rp K F v d := by
  unfold atI
  rw [r.1]
  cases q : ixOf xs.length i with
  | none => rw [q] at h; cases h
  | some k =>
    rw [q] at h
    have q2 : ixN xs.length i = some k := q
    obtain ⟨v, h1, h2⟩ := r.get h
    exact ⟨v, by rw [q2]; exact h1, h2⟩
theorem _root_.L2.IxR.imp {X : Cx} {r r' : R2} (h : IxR X r) (i : ∀ x y H Q, r' x y H Q → r x y H Q) : IxR X r' := fun value slice pins s σ H x y v u Q I a b q hs => h value slice pins s σ H x y v u Q I a b (i _ _ _ _ q) hs
theorem ix_data {X : Cx} : IxR X (rD X.K fun a i => (atS a i).map .val) := by
  refine ((ix_list (X := X)).or ((ix_tup (X := X)).or (ix_str (X := X)))).imp fun x y H Q ⟨e, s, σ, F, dx, dy, er, R, rx, ry, ef, q⟩ => ?_
  rw [Option.map_eq_some_iff] at ef
  obtain ⟨d, hd, rfl⟩ := ef
  unfold atS at hd
  split at hd
  · obtain ⟨p, vs, rfl, h, r⟩ := rx.lst R.sub
    cases ry.int
    obtain ⟨v, h1, h2⟩ := at_rp r hd
    exact .inl ⟨p, vs, _, v, rfl, rfl, .of h, h1, q _ H F R (Same.refl F) h2⟩
  · obtain ⟨p, vs, rfl, h, r⟩ := rx.tup R.sub
    cases ry.int
    obtain ⟨v, h1, h2⟩ := at_rp r hd
    exact .inr (.inl ⟨p, vs, _, v, rfl, rfl, h, h1, q _ H F R (Same.refl F) h2⟩)
  · obtain ⟨p, vs, rfl, h, r⟩ := rx.scr R.sub
    cases ry.int
    obtain ⟨v, h1, h2⟩ := at_rp r hd
    exact .inl ⟨p, vs, _, v, rfl, rfl, h, h1, q _ H F R (Same.refl F) h2⟩
  · split at hd
    · rename_i xt i hl
      cases rx.str
      cases ry.int
      cases q1 : ixOf xt.length i with
      | none => rw [q1] at hd; cases hd
      | some k =>
        rw [q1] at hd
        have hd : (xt[k]?.map fun c => D.str [c]) = some d := hd
        rw [Option.map_eq_some_iff] at hd
        obtain ⟨c, hc, rfl⟩ := hd
        refine .inr (.inr ⟨_, _, c, rfl, rfl, by rw [tx_len]; exact lim_le hl, ?_, q _ H F R (Same.refl F) (.str _)⟩)
        show ((ixN xt.length i).bind fun j => xt[j]?) = some c
        rw [show ixN xt.length i = some k from q1]
        exact hc
    · cases hd
  · cases hd
/-! ### slices -/
def rDsl (K : PySem.W.Frag) : V → Option Int → Option Int → Hp → VK → Prop := fun x lo hi H Q => ∃ (e : En) (s : Fr) (σ : Sg) (F : Hp) (d : D) (er : ER), Rl K e s σ F H ∧ Rt K F H x d ∧ slcD d lo hi = some er ∧
  ∀ v H' F', Rl K e s σ F' H' → Same F F' → Rv K e s σ F' H' v er → Q v H'
theorem RpA.cut {K : PySem.W.Frag} {F : Hp} {vs : List V} {xs : List D} (r : RpA K F vs xs) (lo hi : Option Int) : RpA K F (cutV vs lo hi) (cut xs lo hi) := by
  unfold cutV Pi.cut
  rw [r.1]
  exact (r.drop _).take _
theorem whole_cut {K : PySem.W.Frag} {F : Hp} {vs : List V} {xs : List D} (r : RpA K F vs xs) {lo hi : Option Int} (h : HT.sIx vs.length 0 lo = 0 ∧ HT.sIx vs.length vs.length hi = vs.length) : Pi.cut xs lo hi = xs := by
  unfold Pi.cut
  rw [r.1] at h
  have h1 : HT.sIx xs.length 0 lo = 0 := h.1
  have h2 : HT.sIx xs.length xs.length hi = xs.length := h.2
  rw [h1, h2]
  simp
theorem _root_.L2.SlR.imp {X : Cx} {r r' : V → Option Int → Option Int → Hp → VK → Prop} (h : SlR X r) (i : ∀ x lo hi H Q, r' x lo hi H Q → r x lo hi H Q) : SlR X r' := fun pins s σ H x v vl vu lo hi sl Q I a b c d q => h pins s σ H x v vl vu lo hi sl Q I a b c d (i _ _ _ _ _ q)
theorem sl_data {X : Cx} : SlR X (rDsl X.K) := by
  refine ((sl_list (X := X)).or ((sl_tupA (X := X)).or (sl_str (X := X)))).imp fun x lo hi H Q ⟨e, s, σ, F, d, er, R, rx, ef, q⟩ => ?_
  unfold slcD at ef
  split at ef
  · cases ef
    obtain ⟨p, vs, rfl, h, r⟩ := rx.lst R.sub
    refine .inl ⟨p, vs, rfl, .of h, fun l hl => ?_⟩
    obtain ⟨R', rv⟩ := R.newL hl (r.cut lo hi)
    exact q _ _ _ R' (Same.refl F) rv
  · cases ef
    have f := rx.tupF
    obtain ⟨p, vs, rfl, h, r⟩ := rx.tup R.sub
    refine .inr (.inl ⟨p, vs, rfl, h, fun hw => ?_, fun _ l hl => ?_⟩)
    · rw [whole_cut r hw] at q
      exact q _ H F R (Same.refl F) f
    · obtain ⟨R', sm, rv⟩ := R.newT hl (r.cut lo hi)
      exact q _ _ _ R' sm rv
  · split at ef
    · rename_i xt hl
      cases ef
      cases rx.str
      refine .inr (.inr ⟨_, rfl, by rw [tx_len]; exact lim_le hl, ?_⟩)
      have e2 : cutS (tx xt) lo hi = tx (Pi.cut xt lo hi) := by
        unfold cutS Pi.cut
        rw [tx_len]
        rfl
      rw [e2]
      exact q _ H F R (Same.refl F) (.str _)
    · cases ef
  · cases ef
/-! ### isinstance of data -/
/-- a class's built-in name -/
def clN : Cl → Option String
  | .int => some "int" | .bool => some "bool" | .str => some "str" | .list => some "list" | .tuple => some "tuple" | .dict => some "dict"
  | _ => none
def rIsi (K : PySem.W.Frag) (c : Cl) : List V → Hp → VK → Prop := fun xs H Q => ∃ (F : Hp) (n : String) (x : V) (d : D) (p : PyData), Same F H ∧ clN c = some n ∧ xs = [x, .ty n] ∧ Rt K F H x d ∧ d.pd = some p ∧ Q (.bl (isiD d c)) H
theorem call_isiD {X : Cx} (c : Cl) : CallR X (.builtin "isinstance") (rIsi X.K c) := by
  intro pins s σ H xs us Q I rx ⟨F, n, x, d, p, sm, hn, hx, rt, hp, q⟩
  subst hx
  cases rx with
  | cons r1 rr =>
    cases rr with
    | cons r2 r3 =>
      cases r3
      obtain rfl := r2
      obtain ⟨as, rd, _⟩ := reads_rt I sm hp rt r1
      have fin : ∀ b, b = isiD d c → ∀ tk, EP X pins σ Q (.bool b) { s with toks := tk } := fun b hb tk => ⟨.bl b, H, I.tok tk, rfl, by rw [hb]; exact q⟩
      have pdc : ∀ (f : PyData → Bool), (∀ b, f .none = isiD .non c ∧ f (.bool b) = isiD (.bl b) c) → (∀ i, f (.int i) = isiD (.int i) c) → (∀ x, f (.str (txS x)) = isiD (.str x) c) →
          (∀ xs ys, f (.list xs) = isiD (.lst ys) c) → (∀ xs ys, f (.tuple xs) = isiD (.tup ys) c) → (∀ xs ys, f (.dict xs) = isiD (.dic ys) c) → f p = isiD d c := by
        intro f h0 h1 h2 h3 h4 h5
        cases d <;> simp only [D.pd, Option.some.injEq, reduceCtorEq, Option.map_eq_some_iff] at hp
        · subst hp; exact (h0 true).1
        · subst hp; exact (h0 _).2
        · subst hp; exact h1 _
        · subst hp; exact h2 _
        · obtain ⟨_, _, rfl⟩ := hp; exact h3 _ _
        · obtain ⟨_, _, rfl⟩ := hp; exact h4 _ _
        · obtain ⟨_, _, rfl⟩ := hp; exact h5 _ _
      cases c <;> simp only [clN, reduceCtorEq, Option.some.injEq] at hn <;> subst hn
      · exact PySem.W.isinstance_int_data rd fun tk _ => fin _ (pdc _ (fun _ => ⟨rfl, rfl⟩) (fun _ => rfl) (fun _ => rfl) (fun _ _ => rfl) (fun _ _ => rfl) (fun _ _ => rfl)) tk
      · exact PySem.W.isinstance_bool_data rd fun tk _ => fin _ (pdc _ (fun _ => ⟨rfl, rfl⟩) (fun _ => rfl) (fun _ => rfl) (fun _ _ => rfl) (fun _ _ => rfl) (fun _ _ => rfl)) tk
      · exact PySem.W.isinstance_str_data rd fun tk _ => fin _ (pdc _ (fun _ => ⟨rfl, rfl⟩) (fun _ => rfl) (fun _ => rfl) (fun _ _ => rfl) (fun _ _ => rfl) (fun _ _ => rfl)) tk
      · exact PySem.W.isinstance_list_data rd fun tk _ => fin _ (pdc _ (fun _ => ⟨rfl, rfl⟩) (fun _ => rfl) (fun _ => rfl) (fun _ _ => rfl) (fun _ _ => rfl) (fun _ _ => rfl)) tk
      · exact PySem.W.isinstance_tuple_data rd fun tk _ => fin _ (pdc _ (fun _ => ⟨rfl, rfl⟩) (fun _ => rfl) (fun _ => rfl) (fun _ _ => rfl) (fun _ _ => rfl) (fun _ _ => rfl)) tk
      · exact PySem.W.isinstance_dict_data rd fun tk _ => fin _ (pdc _ (fun _ => ⟨rfl, rfl⟩) (fun _ => rfl) (fun _ => rfl) (fun _ _ => rfl) (fun _ _ => rfl) (fun _ _ => rfl)) tk
end Pi
set_option maxRecDepth 100000
set_option maxHeartbeats 3900000
namespace Pi
open PySem PySem.Spec L2 PyProof.Rows
/-! ### the text against the small form -/
structure Tb where
  cst : List Str
  fn : List Str
  pats : List (Nat × Nat × List Str × List Nat)
  xcl : List (Str × Cl)
  mks : List (Str × Tx)
  blt : List Str
  fld : List Str
  hot : List Nat
  mkk : List (Str × List Str)
def visOk (sc : Scope) (x : Str) : Bool := (match sc.names.lookup x with | some .local => true | some .cell => true | some .free => true | _ => false) && !(x == ("__debug__" : Str)) && !(x == ("__classdict__" : Str))
def globOk (sc : Scope) (x : Str) : Bool := (match sc.names.lookup x with | some .globalImplicit => true | _ => false) && !(x == ("__debug__" : Str)) && decide (x ≠ "__name__")
def cstOk : Const → D → Bool
  | .none, .non => true
  | .bool a, .bl b => a == b
  | .int i, .int j => i == j
  | .str x, .str y => decide (x = txS y)
  | _, _ => false
def noStar : Expr → Bool
  | .Starred _ _ => false
  | _ => true
def noIf : Expr → Bool
  | .IfExp _ _ _ _ => false
  | _ => true
def noSlice : Expr → Bool
  | .Slice _ _ _ _ => false
  | _ => true
def noSup : Expr → Bool
  | .Call _ _ _ _ => false
  | _ => true
def noSet : Expr → Bool
  | .Set _ _ _ => false
  | _ => true
def biName : BI → Option (String × Bool)
  | .len => some ("len", false) | .max2 => some ("max", false) | .min2 => some ("min", false) | .abs => some ("abs", false) | .int => some ("int", true) | .divmod => some ("divmod", false)
  | .repr => some ("repr", false) | .tupS => some ("tuple", true) | .str => some ("str", true) | .all => some ("all", false) | .any => some ("any", false) | .tuple => some ("tuple", true) | .list => some ("list", true)
  | _ => none
def mName : MI → Option String
  | .join => some "join" | .index => some "index" | .split => some "split"
  | _ => none
/-- built-ins that need no calm -/
def hotB : BI → Bool
  | .max2 => false | .min2 => false | .str => false | .all => false | .any => false | .tupS => false
  | _ => true
def clV (K : PySem.W.Frag) : Cl → V
  | .own c => .ref (adr K c)
  | .ve => .ty "ValueError" | .le => .ty "LookupError" | .re => .ty "RuntimeError" | .ae => .ty "ArithmeticError"
  | _ => .non
def clU (K : PySem.W.Frag) : Cl → Value
  | .own c => .ref (adr K c)
  | .ve => .type "ValueError" | .le => .type "LookupError" | .re => .type "RuntimeError" | .ae => .type "ArithmeticError"
  | _ => .none
def xclOk (T : Tb) (sc : Scope) : List Cl → List Expr → Bool
  | [], [] => true
  | k :: ks, .Name x _ :: xs => decide ((x, k) ∈ T.xcl) && globOk sc x && xclOk T sc ks xs
  | _, _ => false
def kyOk : Ky → Expr → Bool
  | .inl i, .Constant (.int j) _ _ => i == j
  | .inr x, .Constant (.str y) _ _ => decide (y = txS x)
  | _, _ => false
def dicOk : List (Ky × D) → List (Option Expr) → List Expr → Bool
  | [], [], [] => true
  | [(k, d)], [some a], [.Constant c _ _] => kyOk k a && cstOk c d
  | _, _, _ => false
/-- a key or a value of a display: written, or with a minus ahead -/
def kyOk2 (k : Ky) (e : Expr) : Bool := kyOk k e || (match k, e with
  | .inl i, .UnaryOp .USub (.Constant (.int j) _ _) _ => i == -j
  | _, _ => false)
def cstOk2 (d : D) : Expr → Bool
  | .Constant c _ _ => cstOk c d
  | .UnaryOp .USub (.Constant (.int j) _ _) _ => (match d with | .int i => i == -j | _ => false)
  | _ => false
def dicsOk : List (Ky × D) → List (Option Expr) → List Expr → Bool
  | [], [], [] => true
  | (k, d) :: r, some a :: ks, v :: vs => kyOk2 k a && cstOk2 d v && dicsOk r ks vs
  | _, _, _ => false
def noComp : Expr → Bool
  | .ListComp _ _ _ _ => false
  | .SetComp _ _ _ _ => false
  | .DictComp _ _ _ _ _ => false
  | _ => true
/-- the names that a target of a comprehension binds -/
def tgOk (N : List Str) (sc : Scope) (fn : Str → Bool) (x : Str) (i : Nat) : Bool := decide (N[i]? = some x) && (match sc.names.lookup x with | some .local => true | some .cell => fn x | _ => false)
def tgsOk (N : List Str) (sc : Scope) (fn : Str → Bool) : List Nat → List Expr → Bool
  | [], [] => true
  | i :: is, .Name x _ :: xs => tgOk N sc fn x i && tgsOk N sc fn is xs
  | _, _ => false
def chkTg (N : List Str) (sc : Scope) (fn : Str → Bool) : Tg → Expr → Bool
  | .nm i, .Name x _ => tgOk N sc fn x i
  | .tp is, .Tuple es _ _ => tgsOk N sc fn is es
  | _, _ => false
def tgN : Tg → Expr → List (Str × Nat)
  | .nm i, .Name x _ => [(x, i)]
  | .tp is, .Tuple es _ _ => (es.map fun e => match e with | .Name x _ => x | _ => "").zip is
  | _, _ => []
def kwN : List Keyword → List Str
  | [] => []
  | k :: r => (k.arg.getD "") :: kwN r
def kwE : List Keyword → List Expr
  | [] => []
  | k :: r => k.value :: kwE r
def kwS : List Keyword → Bool
  | [] => true
  | k :: r => k.arg.isSome && kwS r
mutual
def chk (T : Tb) (cm : Bool) (N : List Str) (sc : Scope) : IE → Expr → Bool
  | .var i, .Name x _ => decide (N[i]? = some x) && visOk sc x
  | .cst d, .Constant k _ _ => cstOk k d
  | .gc k, .Name x _ => decide (T.cst[k]? = some x) && globOk sc x
  | .bin o a b, .BinOp l op r _ => decide (op = boS o) && chk T cm N sc a l && chk T cm N sc b r
  | .neg a, .UnaryOp op e _ => decide (op = .USub) && chk T cm N sc a e
  | .not a, .UnaryOp op e _ => decide (op = .Not) && noIf e && chk T cm N sc a e
  | .and a b, .BoolOp op (x :: y :: r) p => decide (op = .And) && noIf x && chk T cm N sc a x && (match r with | [] => noIf y && chk T cm N sc b y | _ => chk T cm N sc b (.BoolOp .And (y :: r) p))
  | .or a b, .BoolOp op (x :: y :: r) p => decide (op = .Or) && noIf x && chk T cm N sc a x && (match r with | [] => noIf y && chk T cm N sc b y | _ => chk T cm N sc b (.BoolOp .Or (y :: r) p))
  | .cmp o a b, .Compare l [op] [r] _ => decide (op = coS o) && noSet r && chk T cm N sc a l && chk T cm N sc b r
  | .chn o p a b c, .Compare l [op, op'] [m, r] _ => decide (op = coS o) && decide (op' = coS p) && noSet m && noSet r && chk T cm N sc a l && chk T cm N sc b m && chk T cm N sc c r
  | .ite t a b, .IfExp c x y _ => noIf c && chk T cm N sc t c && chk T cm N sc a x && chk T cm N sc b y
  | .lst es, .List xs _ => chkA T cm N sc es xs
  | .tup es, .Tuple xs _ _ => chkA T cm N sc es xs
  | .idx a i, .Subscript x y _ => noSlice y && chk T cm N sc a x && chk T cm N sc i y
  | .slc a lo hi, .Subscript x (.Slice l u none _) _ => chk T cm N sc a x && chkO T cm N sc lo l && chkO T cm N sc hi u
  | .call f ix es, .Call (.Name x _) as ks _ => (cm || decide (f ∈ T.hot)) && decide (T.fn[f]? = some x) && globOk sc x && decide ((f, as.length, kwN ks, ix) ∈ T.pats) && (match ks with | [] => chkA T cm N sc es as | _ => as.isEmpty && kwS ks && chkA T cm N sc es (kwE ks))
  | .bi b es, .Call (.Name x _) (a :: as) [] _ => (cm || hotB b) && (match biName b with | some (n, _) => decide (x = n) | none => false) && decide (x ∈ T.blt) && globOk sc x && chkA T cm N sc es (a :: as)
  | .mth m o (.cons e .nil), .Call (.Attribute x n ap) [y] [] p => (match mName m with | some k => decide (n = k) | none => false) && noSup x && noStar y && (ap.endLine == p.line) && chk T cm N sc o x && chk T cm N sc e y
  | .isi a c, .Call (.Name x _) [y, .Name t _] [] _ => decide (x = "isinstance") && decide (x ∈ T.blt) && globOk sc x && (match clN c with | some k => decide (t = k) | none => false) && decide (t ∈ T.blt) && globOk sc t && noStar y && chk T cm N sc a y
  | .isx a k, .Call (.Name x _) [y, .Name t _] [] _ => decide (x = "isinstance") && decide (x ∈ T.blt) && globOk sc x && decide ((t, k) ∈ T.xcl) && globOk sc t && noStar y && chk T cm N sc a y
  | .isxs a ks, .Call (.Name x _) [y, .Tuple ts _ _] [] _ => decide (x = "isinstance") && decide (x ∈ T.blt) && globOk sc x && xclOk T sc ks ts && decide (ks.length ≤ 100) && !ks.isEmpty && noStar y && chk T cm N sc a y
  | .attr o f, .Attribute e n _ => decide (n = txS f) && decide (n ∈ T.fld) && noSup e && chk T cm N sc o e
  | .dic kvs, .Dict ks vs _ => dicOk kvs ks vs
  | .dget kvs i, .Subscript (.Dict ks vs _) y _ => noSlice y && dicsOk kvs ks vs && decide ((kvs.map (·.1)).Nodup) && decide (kvs ≠ []) && decide (kvs.length ≤ 15) && chk T cm N sc i y
  | .lix o e, .Call (.Attribute x n ap) [y] [] p => decide (n = "index") && noSup x && noStar y && (ap.endLine == p.line) && chk T cm N sc o x && chk T cm N sc e y
  | .lcm e tg it cond, .ListComp el [⟨t, i, ifs, k⟩] scope _ => decide (k = 0) && cm && noSet i && chkI T cm N sc it t i && blkC N sc scope (tgN tg t) && decide ((tgN tg t).map (·.2) = tg.slots) && chkTg N (relS scope sc) (fun x => scope.names.lookup x == some .cell) tg t && chkC T cm N (relS scope sc) cond ifs && chk T cm N (relS scope sc) e el
  | .mk c es, .Call (.Name x _) as ks _ => cm && decide ((x, c) ∈ T.mks) && globOk sc x && (match ks with | [] => chkA T cm N sc es as | _ => as.isEmpty && kwS ks && decide ((x, kwN ks) ∈ T.mkk) && chkA T cm N sc es (kwE ks))
  | _, _ => false
def chkC (T : Tb) (cm : Bool) (N : List Str) (sc : Scope) : IO → List Expr → Bool
  | .no, [] => true
  | .so a, [x] => noIf x && chk T cm N sc a x
  | _, _ => false
def chkI (T : Tb) (cm : Bool) (N : List Str) (sc : Scope) : IT → Expr → Expr → Bool
  | .seq e, _, x => chk T cm N sc e x
  | .rng es, _, .Call (.Name x _) as [] _ => decide (x = "range") && decide (x ∈ T.blt) && globOk sc x && decide (as.length = 1 ∨ as.length = 2) && chkA T cm N sc es as
  | .zip es, .Tuple _ _ _, .Call (.Name x _) as [] _ => decide (x = "zip") && decide (x ∈ T.blt) && globOk sc x && decide (as.length = 2) && chkA T cm N sc es as
  | .enm es, .Tuple _ _ _, .Call (.Name x _) as [] _ => decide (x = "enumerate") && decide (x ∈ T.blt) && globOk sc x && decide (as.length = 1) && chkA T cm N sc es as
  | _, _, _ => false
def chkA (T : Tb) (cm : Bool) (N : List Str) (sc : Scope) : IEs → List Expr → Bool
  | .nil, [] => true
  | .cons a r, x :: xs => noStar x && chk T cm N sc a x && chkA T cm N sc r xs
  | _, _ => false
def chkO (T : Tb) (cm : Bool) (N : List Str) (sc : Scope) : IO → Option Expr → Bool
  | .no, none => true
  | .so a, some x => chk T cm N sc a x
  | _, _ => false
end
/-! ### where a body stands -/
/-- how arguments come to parameters -/
def BindOk (K : PySem.W.Frag) (fd : FuncData) (ps : List Str) (dfs : List Value) (n : Nat) (ks : List Str) (ix : List Nat) : Prop :=
  ∀ (s : Shared) (us ws as : List Value), K.In s.heap → us.length = n → ws.length = ks.length → pick (us ++ ws ++ dfs) ix = some as → BindsTo s fd ⟨us, ks.zip ws⟩ (ps.zip as)
structure FnAt (P : Program) (w : World) (K : PySem.W.Frag) (mg : Str → Option Value) (base : Heap) (T : Tb) (p : Pg) (cn : Tx → Value) (n f : Nat) (x : Str) (a : Addr) (fd : FuncData) (ps : List Str) (dvs : List V) (dfs : List Value) : Prop where
  at_ : mg x = some (.ref a)
  kp : PySem.W.keepIn K (.ref a) = true
  df : ∀ F, RpA K F dvs (p.df f)
  dv : Vals dvs dfs
  ok : FnG P w K mg base true n a fd ps (spF K cn p n f)
  hot : f ∈ T.hot → FnG P w K mg base false n a fd ps (spF K cn p n f)
  bd : ∀ m ks ix, (f, m, ks, ix) ∈ T.pats → BindOk K fd ps dfs m ks ix
/-- what is known of a class of errors -/
structure XcOk (K : PySem.W.Frag) (c : Addr) (fld : List Str) : Prop extends L2.ExcC K c where
  ec : (PySem.W.clsIn K c).isSome = true
  fd : ∀ f ∈ fld, PySem.W.findIn K (.ref c) f = some none
/-- an error of the class c, made as a value -/
structure MkV (P : Program) (w : World) (K : PySem.W.Frag) (mg : Str → Option Value) (base : Heap) (kn : List (Str × List Str)) (init : Tx → List D → Option (List (Tx × D))) (n : Nat) (x : Str) (c : Tx) : Prop where
  run : ∀ (X : Cx) (g : Wi) (wd : Wd) (es : IEs) (as : List Expr) (q pos : Pos), X.prog = P → X.w = w → X.K = K → X.mg = mg → X.base = base → wd.init = init → Room n X.A → Gl X x → (x == ("__debug__" : Str)) = false →
    PA X as (tF X.K g wd es) → as.length = es.len → (∀ a ∈ as, noStar a = true) → PE X (.Call (.Name x q) as [] pos) (tE X.K g wd (.mk c es))
  runK : ∀ (X : Cx) (g : Wi) (wd : Wd) (es : IEs) (ks : List Keyword) (q pos : Pos), X.prog = P → X.w = w → X.K = K → X.mg = mg → X.base = base → wd.init = init → Room n X.A → Gl X x → (x == ("__debug__" : Str)) = false →
    PK X ks (tF X.K g wd es) → kwS ks = true → (x, kwN ks) ∈ kn → PE X (.Call (.Name x q) [] ks pos) (tE X.K g wd (.mk c es))
structure Pf (P : Program) (w : World) (K : PySem.W.Frag) (mg : Str → Option Value) (base : Heap) (T : Tb) (p : Pg) (cn : Tx → Value) (n : Nat) : Prop where
  cst : ∀ (k : Nat) x, T.cst[k]? = some x → ∃ v u, mg x = some u ∧ RelV v u ∧ ∀ F, Rp K F v (p.cst.getD k .non)
  blt : ∀ x ∈ T.blt, mg x = none
  xcl : ∀ x k, (x, k) ∈ T.xcl → (∃ c, k = .own c ∧ mg x = some (.ref (adr K c))) ∨ (mg x = none ∧ ∃ t, clV K k = .ty t ∧ clU K k = .type t ∧ x = (t : Str) ∧ bootBuiltins x = some (.type t) ∧ x ≠ "__name__")
  cls : ∀ c k b, p.cl c k = some b → XcOk K (adr K c) T.fld ∧ PySem.W.kitOne K (.ref (adr K c)) (clU K k) = some b ∧ PySem.W.exmOne K (.ref (adr K c)) (clU K k) = some b
  cne : ∀ c, cn c = .ref (adr K c)
  mkv : ∀ x c, (x, c) ∈ T.mks → MkV P w K mg base T.mkk (p.wd n).init n x c
  fn : ∀ (f : Nat) x, T.fn[f]? = some x → ∃ a fd ps dvs dfs, FnAt P w K mg base T p cn n f x a fd ps dvs dfs
structure Gx (X : Cx) (T : Tb) (cm : Bool) (N : List Str) (sc : Scope) (p : Pg) (n : Nat) (g : Wi) : Prop where
  hN : X.N = N
  nd : X.N.Nodup
  hsc : X.env.scope = sc
  calm : cm = true → X.calm = true
  gd : X.A.guards = some []
  room : RoomC cm n X.A
  un : X.A.units + 65 < cLine
  tk : Takes X g.W
  pf : Pf X.prog X.w X.K X.mg X.base T p g.cn n
section
variable {X : Cx} {T : Tb} {cm : Bool} {N : List Str} {sc : Scope} {p : Pg} {n : Nat} {g : Wi}
theorem vis_of (G : Gx X T cm N sc p n g) {x : Str} (h : visOk sc x = true) : Vis X.env.scope x ∧ (x == ("__debug__" : Str)) = false ∧ (x == ("__classdict__" : Str)) = false := by
  unfold visOk at h
  simp only [Bool.not_eq_true', Bool.and_eq_true] at h
  obtain ⟨⟨h1, h2⟩, h3⟩ := h
  refine ⟨?_, h2, h3⟩
  rw [G.hsc]
  unfold Vis
  split at h1 <;> first | (rename_i q; simp [q]; done) | cases h1
theorem gl_of (G : Gx X T cm N sc p n g) {x : Str} (h : globOk sc x = true) : Gl X x ∧ (x == ("__debug__" : Str)) = false ∧ x ≠ "__name__" := by
  unfold globOk at h
  simp only [Bool.and_eq_true, Bool.not_eq_true', decide_eq_true_eq] at h
  obtain ⟨⟨h1, h2⟩, h3⟩ := h
  refine ⟨?_, h2, h3⟩
  show X.env.scope.names.lookup x = some .globalImplicit
  rw [G.hsc]
  split at h1
  · assumption
  · cases h1
theorem star1 {e : Expr} {es : List Expr} {env : Env} (h : noStar e = true) : starEach (e :: es) env = (false, eval e env) :: starEach es env := by
  cases e <;> first | rfl | cases h
theorem star_none {T : Tb} {cm : Bool} {N : List Str} {sc : Scope} {env : Env} {pos : Pos} : ∀ {es : IEs} {xs : List Expr}, chkA T cm N sc es xs = true → (backTo pos (starEach xs env)).any (·.1) = false
  | .nil, [], _ => rfl
  | .cons a r, [], h => by unfold chkA at h; cases h
  | .nil, x :: xs, h => by unfold chkA at h; cases h
  | .cons a r, x :: xs, h => by
    unfold chkA at h
    simp only [and_iff2] at h
    rw [star1 h.1.1]
    have ih := star_none (env := env) (pos := pos) h.2
    show (false || (backTo pos (starEach xs env)).any (·.1)) = false
    rw [ih]
    rfl
/-- a value as a test -/
theorem pt_plain {e : Expr} {t : TE} (h : PE X e t) (he : ∀ whole, isTrue e X.env whole = (do let v ← whole; standAt e.pos; holding [v] (truthy v))) : PT X e (L2.tB t) := pt_val h he
theorem test_of {w : Wd} {a : IE} {σ : Sg} {H : Hp} {Q : Bool → Hp → Prop} (h : tT X.K g w a σ H Q) : L2.tB (tE X.K g w a) σ H Q := by
  obtain ⟨e, s, F, R, h⟩ := h
  refine ⟨e, s, F, R, h.bind.imp fun er s1 F1 H1 R1 sm h1 v rv => ?_⟩
  cases q : er.rd s1 with
  | none =>
    simp only [q] at h1
    exact h1.elim
  | some d =>
    simp only [q] at h1
    have rt := R1.rd rv q
    cases d <;> first | exact h1.elim | skip
    rename_i b
    exact ⟨b, rt.bl, h1 H1 F1 R1 (Same.refl F1)⟩
end
end Pi
set_option maxRecDepth 100000
set_option maxHeartbeats 3900000
namespace Pi
open PySem PySem.Spec L2 PyProof.Rows
section
variable {X : Cx} {T : Tb} {cm : Bool} {N : List Str} {sc : Scope} {p : Pg} {n : Nat} {g : Wi}
/-! ### argument lists -/
theorem t_consF {a : IE} {r : IEs} {w : Wd} {σ : Sg} {H : Hp} {Q : List V → Hp → Prop} (h : tF X.K g w (.cons a r) σ H Q) : tCons (tE X.K g w a) (tF X.K g w r) σ H Q := by
  obtain ⟨e, s, F, R, h⟩ := h
  unfold evF at h
  refine ⟨e, s, F, R, h.bind.imp fun er s1 F1 H1 R1 sm h1 v rv => ?_⟩
  obtain ⟨F1', R1', smf, rv'⟩ := R1.hold rv
  cases q : er.fz s1 with
  | stuck => rw [q] at h1; exact h1.elim
  | exc c fs t => exact absurd q fz_noexc
  | ok d s2 =>
    rw [q] at h1
    have key : ∃ F2, Rl X.K e s2 σ F2 H1 ∧ Same F1 F2 ∧ Rp X.K F2 v d := by
      cases er with
      | fresh xs =>
        cases q
        exact ⟨F1', R1', smf, rv'⟩
      | val d => exact R1.fz1 rv rfl q
      | slot i => exact R1.fz1 rv rfl q
      | cell => exact R1.fz1 rv rfl q
    obtain ⟨F2, R2, sm2, rp⟩ := key
    have h2 : Po X.K g e σ F1 (fun ds _ F H => ∀ vs, RpA X.K F vs ds → Q vs H) ((evF w r s2).bind fun ds s => .ok (d :: ds) s) := h1
    refine ⟨e, s2, F2, R2, (h2.mono sm2).bind.imp fun ds s3 F3 H3 R3 sm3 h3 vs ra => ?_⟩
    exact h3 H3 F3 R3 (Same.refl F3) (v :: vs) (.cons (rp.mono sm3) ra)
theorem t_nilF {w : Wd} {σ : Sg} {H : Hp} {Q : List V → Hp → Prop} (h : tF X.K g w .nil σ H Q) : tNil σ H Q := by
  obtain ⟨e, s, F, R, h⟩ := h
  unfold evF at h
  exact h H F R (Same.refl F) [] .nil
theorem t_nilB {w : Wd} {σ : Sg} {H : Hp} {Q : List V → Hp → Prop} (h : tB X.K g w .nil σ H Q) : tNil σ H Q := by
  obtain ⟨e, s, F, R, h⟩ := h
  unfold evB at h
  exact h H F R (Same.refl F) [] .nil
theorem t_oneB {a : IE} {w : Wd} {σ : Sg} {H : Hp} {Q : List V → Hp → Prop} (h : tB X.K g w (.cons a .nil) σ H Q) : tCons (tE X.K g w a) tNil σ H Q := by
  obtain ⟨e, s, F, R, h⟩ := h
  unfold evB at h
  refine ⟨e, s, F, R, h.bind.imp fun er s1 F1 H1 R1 sm h1 v rv => ?_⟩
  unfold evB at h1
  exact h1 H1 F1 R1 (Same.refl F1) [v] (.cons rv .nil)
theorem t_consB {a b : IE} {r : IEs} {w : Wd} {σ : Sg} {H : Hp} {Q : List V → Hp → Prop} (h : tB X.K g w (.cons a (.cons b r)) σ H Q) : tCons (tE X.K g w a) (tB X.K g w (.cons b r)) σ H Q := by
  obtain ⟨e, s, F, R, h⟩ := h
  unfold evB at h
  refine ⟨e, s, F, R, h.bind.imp fun er s1 F1 H1 R1 sm h1 v rv => ?_⟩
  obtain ⟨F1', R1', smf, rv'⟩ := R1.hold rv
  refine ⟨e, s1, F1', R1', ?_⟩
  have h1 := (h1.mono smf).bind
  cases q : evB w (.cons b r) s1 with
  | stuck => rw [q] at h1; exact h1.elim
  | exc c fs t => rw [q] at h1; exact h1
  | ok ers s2 =>
    rw [q] at h1
    intro H2 F2 R2 sm2 vs ra
    have ne : ers ≠ [] := by
      unfold evB at q
      cases q1 : ev w b s1 with
      | stuck => rw [q1] at q; cases q
      | exc c fs t => rw [q1] at q; cases q
      | ok x s3 =>
        rw [q1] at q
        simp only [Rs.bind] at q
        cases q2 : evB w r s3 with
        | stuck => rw [q2] at q; cases q
        | exc c fs t => rw [q2] at q; cases q
        | ok xs s4 =>
          rw [q2] at q
          cases q
          simp
    have e1 : holdL er ers = er.hold := by
      cases ers with
      | nil => exact absurd rfl ne
      | cons y ys => rfl
    have h2 : Po X.K g e σ F2 (fun ers s F H => ∀ vs, RvA X.K e s σ F H vs ers → Q vs H) (Rs.ok (holdL er ers :: ers) s2) := h1 H2 F2 R2 sm2
    rw [e1] at h2
    exact h2 H2 F2 R2 (Same.refl F2) (v :: vs) (.cons (rv'.stay sm2) ra)
/-! ### the expressions -/
/-- what is shown of each -/
def Ok (X : Cx) (g : Wi) (w : Wd) (a : IE) (e : Expr) : Prop := PE X e (tE X.K g w a) ∧ (noIf e = true → PT X e (tT X.K g w a))
theorem ok_plain {w : Wd} {a : IE} {e : Expr} (h : PE X e (tE X.K g w a)) (he : ∀ whole, isTrue e X.env whole = (do let v ← whole; standAt e.pos; holding [v] (truthy v))) : Ok X g w a e :=
  ⟨h, fun _ => (pt_val h he).imp fun _ _ _ q => test_of q⟩
theorem t_test_of {w : Wd} {a : IE} {t : TE} {σ : Sg} {H : Hp} {Q : Bool → Hp → Prop} (i : ∀ σ H Q, tE X.K g w a σ H Q → t σ H Q) (h : tT X.K g w a σ H Q) : tTest t σ H Q := by
  have z := test_of h
  exact i σ H _ z
theorem vo_bool {e : En} {σ : Sg} {Q : VK} {t : Bool} {s : Fr} {F H : Hp} (h : Po X.K g e σ F (Vo X.K e σ Q) (.ok (.val (.bl t)) s)) (R : Rl X.K e s σ F H) : Q (.bl t) H := h H F R (Same.refl F) _ (.bl t)
theorem ok_and {w : Wd} {a b : IE} {x y : Expr} {pos : Pos} {r : List Expr} (nx : noIf x = true) (ha : Ok X g w a x) (hb : PE X (.BoolOp .And (y :: r) pos) (tE X.K g w b) ∧ PW X (.BoolOp .And (y :: r) pos) (tT X.K g w b)) :
    Ok X g w (.and a b) (.BoolOp .And (x :: y :: r) pos) ∧ PW X (.BoolOp .And (x :: y :: r) pos) (tT X.K g w (.and a b)) := by
  have pw : PW X (.BoolOp .And (x :: y :: r) pos) (tT X.K g w (.and a b)) := by
    have z := pw_and (ha.2 nx) hb.2
    refine ⟨fun wh pins s σ H Q I h => z.run wh pins s σ H Q I ?_⟩
    obtain ⟨e, fr, F, R, h⟩ := h
    unfold ev at h
    have h1 : Po X.K g e σ F (fun b _ _ H => Q b H) ((tst (ev w a fr)).bind fun t s => if t then (tst (ev w b s)).bind fun t s => .ok t s else .ok false s) := by
      unfold tst at h ⊢
      cases q : ev w a fr with
      | stuck => rw [q] at h; exact h
      | exc c fs t => rw [q] at h; exact h
      | ok er s1 =>
        rw [q] at h
        simp only [Rs.bind] at h ⊢
        cases q2 : er.rd s1 with
        | none => simp only [q2] at h; exact h.elim
        | some d =>
          simp only [q2] at h ⊢
          cases q3 : truth d with
          | none => rw [q3] at h; exact h.elim
          | some t =>
            rw [q3] at h
            simp only [Rs.of] at h ⊢
            cases t with
            | false => exact h
            | true =>
              simp only [if_true] at h ⊢
              cases q4 : ev w b s1 with
              | stuck => rw [q4] at h; exact h
              | exc c fs t => rw [q4] at h; exact h
              | ok er2 s2 =>
                rw [q4] at h
                simp only [Rs.bind] at h ⊢
                cases q5 : er2.rd s2 with
                | none => simp only [q5] at h; exact h.elim
                | some d2 =>
                  simp only [q5] at h ⊢
                  cases q6 : truth d2 with
                  | none => rw [q6] at h; exact h.elim
                  | some t2 => rw [q6] at h; exact h
    refine ⟨e, fr, F, R, h1.bind.imp fun t s1 F1 H1 R1 sm h2 => ?_⟩
    cases t with
    | false => exact h2 H1 F1 R1 (Same.refl F1)
    | true =>
      refine ⟨e, s1, F1, R1, ?_⟩
      simp only [if_true] at h2
      exact h2.bind.imp fun t s2 F2 H2 R2 sm2 h3 => h3 H2 F2 R2 (Same.refl F2)
  refine ⟨⟨?_, fun _ => pw.pt⟩, pw⟩
  refine (pe_and ha.1 hb.1).imp fun σ H Q h => ?_
  obtain ⟨e, fr, F, R, h⟩ := h
  unfold ev at h
  have z : tT X.K g w a σ H (fun t H1 => if t = true then tE X.K g w b σ H1 Q else Q (.bl false) H1) := by
    refine ⟨e, fr, F, R, h.bind.imp fun t s1 F1 H1 R1 sm h1 => ?_⟩
    cases t with
    | false => exact vo_bool h1 R1
    | true =>
      simp only [if_true] at h1 ⊢
      refine ⟨e, s1, F1, R1, ?_⟩
      unfold tst at h1
      cases q : ev w b s1 with
      | stuck => rw [q] at h1; exact h1
      | exc c fs t => rw [q] at h1; exact h1
      | ok er2 s2 =>
        rw [q] at h1
        simp only [Rs.bind] at h1
        intro H2 F2 R2 sm2 v rv
        cases q5 : er2.rd s2 with
        | none => simp only [q5] at h1; exact h1.elim
        | some d2 =>
          simp only [q5] at h1
          cases q6 : truth d2 with
          | none => rw [q6] at h1; exact h1.elim
          | some t2 =>
            rw [q6] at h1
            have rt := R2.rd rv q5
            cases d2 <;> simp only [truth, reduceCtorEq, Option.some.injEq] at q6
            subst q6
            cases rt.bl
            exact h1 H2 F2 R2 sm2 _ (.bl _)
  exact test_of z
theorem ok_or {w : Wd} {a b : IE} {x y : Expr} {pos : Pos} {r : List Expr} (nx : noIf x = true) (ha : Ok X g w a x) (hb : PE X (.BoolOp .Or (y :: r) pos) (tE X.K g w b) ∧ PW X (.BoolOp .Or (y :: r) pos) (tT X.K g w b)) :
    Ok X g w (.or a b) (.BoolOp .Or (x :: y :: r) pos) ∧ PW X (.BoolOp .Or (x :: y :: r) pos) (tT X.K g w (.or a b)) := by
  have pw : PW X (.BoolOp .Or (x :: y :: r) pos) (tT X.K g w (.or a b)) := by
    have z := pw_or (ha.2 nx) hb.2
    refine ⟨fun wh pins s σ H Q I h => z.run wh pins s σ H Q I ?_⟩
    obtain ⟨e, fr, F, R, h⟩ := h
    unfold ev at h
    have h1 : Po X.K g e σ F (fun b _ _ H => Q b H) ((tst (ev w a fr)).bind fun t s => if t then .ok true s else (tst (ev w b s)).bind fun t s => .ok t s) := by
      unfold tst at h ⊢
      cases q : ev w a fr with
      | stuck => rw [q] at h; exact h
      | exc c fs t => rw [q] at h; exact h
      | ok er s1 =>
        rw [q] at h
        simp only [Rs.bind] at h ⊢
        cases q2 : er.rd s1 with
        | none => simp only [q2] at h; exact h.elim
        | some d =>
          simp only [q2] at h ⊢
          cases q3 : truth d with
          | none => rw [q3] at h; exact h.elim
          | some t =>
            rw [q3] at h
            simp only [Rs.of] at h ⊢
            cases t with
            | true => exact h
            | false =>
              simp only [Bool.false_eq_true, if_false] at h ⊢
              cases q4 : ev w b s1 with
              | stuck => rw [q4] at h; exact h
              | exc c fs t => rw [q4] at h; exact h
              | ok er2 s2 =>
                rw [q4] at h
                simp only [Rs.bind] at h ⊢
                cases q5 : er2.rd s2 with
                | none => simp only [q5] at h; exact h.elim
                | some d2 =>
                  simp only [q5] at h ⊢
                  cases q6 : truth d2 with
                  | none => rw [q6] at h; exact h.elim
                  | some t2 => rw [q6] at h; exact h
    refine ⟨e, fr, F, R, h1.bind.imp fun t s1 F1 H1 R1 sm h2 => ?_⟩
    cases t with
    | true => exact h2 H1 F1 R1 (Same.refl F1)
    | false =>
      refine ⟨e, s1, F1, R1, ?_⟩
      simp only [Bool.false_eq_true, if_false] at h2
      exact h2.bind.imp fun t s2 F2 H2 R2 sm2 h3 => h3 H2 F2 R2 (Same.refl F2)
  refine ⟨⟨?_, fun _ => pw.pt⟩, pw⟩
  refine (pe_or ha.1 hb.1).imp fun σ H Q h => ?_
  obtain ⟨e, fr, F, R, h⟩ := h
  unfold ev at h
  have z : tT X.K g w a σ H (fun t H1 => if t = true then Q (.bl true) H1 else tE X.K g w b σ H1 Q) := by
    refine ⟨e, fr, F, R, h.bind.imp fun t s1 F1 H1 R1 sm h1 => ?_⟩
    cases t with
    | true => exact vo_bool h1 R1
    | false =>
      simp only [Bool.false_eq_true, if_false] at h1 ⊢
      refine ⟨e, s1, F1, R1, ?_⟩
      unfold tst at h1
      cases q : ev w b s1 with
      | stuck => rw [q] at h1; exact h1
      | exc c fs t => rw [q] at h1; exact h1
      | ok er2 s2 =>
        rw [q] at h1
        simp only [Rs.bind] at h1
        intro H2 F2 R2 sm2 v rv
        cases q5 : er2.rd s2 with
        | none => simp only [q5] at h1; exact h1.elim
        | some d2 =>
          simp only [q5] at h1
          cases q6 : truth d2 with
          | none => rw [q6] at h1; exact h1.elim
          | some t2 =>
            rw [q6] at h1
            have rt := R2.rd rv q5
            cases d2 <;> simp only [truth, reduceCtorEq, Option.some.injEq] at q6
            subst q6
            cases rt.bl
            exact h1 H2 F2 R2 sm2 _ (.bl _)
  exact test_of z
theorem pt_pw {op : PySem.BoolOp} {es : List Expr} {pos : Pos} {t : TT} (h : PT X (.BoolOp op es pos) t) : PW X (.BoolOp op es pos) t := ⟨fun _ pins s σ H Q I q => h.run pins s σ H Q I q⟩
theorem t_idx {w : Wd} {a i : IE} {σ : Sg} {H : Hp} {Q : VK} (h : tE X.K g w (.idx a i) σ H Q) : tOp (rD X.K fun a i => (atS a i).map .val) (tE X.K g w a) (tE X.K g w i) σ H Q := by
  obtain ⟨e, s, F, R, h⟩ := h
  unfold ev at h
  exact t_two R h
theorem t_bi {w : Wd} {b : BI} {es : IEs} {σ : Sg} {H : Hp} {Q : VK} (h : tE X.K g w (.bi b es) σ H Q) : tCB (rDs X.K (biR b)) (tB X.K g w es) σ H Q := by
  obtain ⟨e, s, F, R, h⟩ := h
  unfold ev at h
  refine ⟨e, s, F, R, h.bind.imp fun ers s1 F1 H1 R1 sm h1 vs ra => ?_⟩
  cases q : rdAll s1 ers with
  | none => simp only [q] at h1; exact h1.elim
  | some ds =>
    simp only [q] at h1
    cases q2 : biR b ds with
    | none => rw [q2] at h1; exact h1.elim
    | some er =>
      rw [q2] at h1
      refine ⟨e, s1, σ, F1, ds, er, R1, ?_, q2, fun v H' F' R' sm' rv => h1 H' F' R' sm' v rv⟩
      clear q2 h1 h
      induction ers generalizing vs ds with
      | nil =>
        unfold rdAll at q
        cases q
        cases ra.nil_inv
        exact ⟨rfl, fun i v d a => by simp at a⟩
      | cons x r ih =>
        unfold rdAll at q
        cases q1 : x.rd s1 with
        | none => simp only [q1] at q; cases q
        | some d =>
          cases q2 : rdAll s1 r with
          | none => simp only [q1, q2] at q; cases q
          | some ds' =>
            simp only [q1, q2] at q
            cases q
            obtain ⟨v, ws, rfl, rv, ra'⟩ := ra.inv
            have z := ih ws ra' ds' q2
            refine ⟨by simp [z.1], fun i w d' a b => ?_⟩
            cases i with
            | zero =>
              simp only [List.getElem?_cons_zero, Option.some.injEq] at a b
              subst a; subst b
              exact R1.rd rv q1
            | succ i => exact z.2 i w d' (by simpa using a) (by simpa using b)
theorem t_mth {w : Wd} {m : MI} {o a : IE} {σ : Sg} {H : Hp} {Q : VK} (h : tE X.K g w (.mth m o (.cons a .nil)) σ H Q) : tM1 (rDm X.K (mthR m)) (tE X.K g w o) (tE X.K g w a) σ H Q := by
  obtain ⟨e, s, F, R, h⟩ := h
  unfold ev at h
  refine ⟨e, s, F, R, h.bind.imp fun er s1 F1 H1 R1 sm h1 v rv => ?_⟩
  split at h1
  · rename_i t
    cases rv
    refine ⟨⟨_, rfl⟩, ?_⟩
    unfold evB at h1
    have h2 : Po X.K g e σ F1 (Vo X.K e σ Q) ((ev w a s1).bind fun x s => match x.rd s with | some d => Rs.of (mthR m t [d]) s | none => .stuck) := by
      cases q : ev w a s1 with
      | stuck => rw [q] at h1; exact h1
      | exc c fs t => rw [q] at h1; exact h1
      | ok x s2 =>
        rw [q] at h1
        unfold evB at h1
        simp only [Rs.bind, holdL, rdAll] at h1 ⊢
        cases q2 : x.rd s2 with
        | none => simp only [q2] at h1; exact h1.elim
        | some d => simp only [q2] at h1 ⊢; exact h1
    refine ⟨e, s1, F1, R1, h2.bind.imp fun er2 s2 F2 H2 R2 sm2 h3 v2 rv2 => ?_⟩
    cases q2 : er2.rd s2 with
    | none => simp only [q2] at h3; exact h3.elim
    | some d =>
      simp only [q2] at h3
      cases q3 : mthR m t [d] with
      | none => rw [q3] at h3; exact h3.elim
      | some er =>
        rw [q3] at h3
        refine ⟨e, s2, σ, F2, t, [d], er, R2, rfl, ⟨rfl, fun i v' d' a b => ?_⟩, q3, fun v H' F' R' sm' rv => h3 H' F' R' sm' v rv⟩
        cases i with
        | zero =>
          simp only [List.getElem?_cons_zero, Option.some.injEq] at a b
          subst a; subst b
          exact R2.rd rv2 q2
        | succ i => simp at a
  · exact h1.elim
theorem t_isi {w : Wd} {a : IE} {c : Cl} {k : String} (hk : clN c = some k) {σ : Sg} {H : Hp} {Q : VK} (h : tE X.K g w (.isi a c) σ H Q) : tCB (rIsi X.K c) (tCons (tE X.K g w a) (tCons (tC (.ty k)) tNil)) σ H Q := by
  obtain ⟨e, s, F, R, h⟩ := h
  unfold ev at h
  refine ⟨e, s, F, R, h.bind.imp fun er s1 F1 H1 R1 sm h1 v rv => ?_⟩
  cases q : er.rd s1 with
  | none => simp only [q] at h1; exact h1.elim
  | some d =>
    simp only [q] at h1
    split at h1
    · rename_i hp
      obtain ⟨pd, hpd⟩ := Option.isSome_iff_exists.mp hp
      exact ⟨F1, k, v, d, pd, R1.sub, hk, rfl, R1.rd rv q, hpd, vo_bool h1 R1⟩
    · exact h1.elim
/-! ### the theorem -/
def noTest : Expr → Bool
  | .BoolOp _ _ _ => false
  | .UnaryOp _ _ _ => false
  | .Compare _ _ _ _ => false
  | .IfExp _ _ _ _ => false
  | _ => true
theorem plain_true {e : Expr} {env : Env} (h1 : noTest e = true) :
    ∀ whole, isTrue e env whole = (do let v ← whole; standAt e.pos; holding [v] (truthy v)) := by
  intro whole
  cases e <;> first | rfl | cases h1
theorem mem_blt (G : Gx X T cm N sc p n g) {x : Str} (h : x ∈ T.blt) : X.mg x = none := G.pf.blt x h
theorem kwN_len : ∀ ks : List Keyword, (kwN ks).length = ks.length
  | [] => rfl
  | _ :: r => by simp [kwN, kwN_len r]
theorem kw_all {env : Env} {pos : Pos} : ∀ {ks : List Keyword}, kwS ks = true → (backToKw pos (keywordEach ks env)).all (·.1.isSome) = true ∧ (backToKw pos (keywordEach ks env)).filterMap (·.1) = kwN ks ∧ (backToKw pos (keywordEach ks env)).any (·.1.isNone) = false
  | [], _ => ⟨rfl, rfl, rfl⟩
  | ⟨a, v, q⟩ :: r, h => by
    unfold kwS at h
    rw [Bool.and_eq_true] at h
    obtain ⟨x, hx⟩ := Option.isSome_iff_exists.mp h.1
    have hx : a = some x := hx
    subst hx
    obtain ⟨h1, h2, h3⟩ := kw_all (env := env) (pos := pos) h.2
    refine ⟨?_, ?_, ?_⟩
    · show (true && (backToKw pos (keywordEach r env)).all (·.1.isSome)) = true
      rw [h1]; rfl
    · show x :: (backToKw pos (keywordEach r env)).filterMap (·.1) = x :: kwN r
      rw [h2]
    · show (false || (backToKw pos (keywordEach r env)).any (·.1.isNone)) = false
      rw [h3]; rfl
/-- a call by positions or by names alone -/
theorem ok_call (G : Gx X T cm N sc p n g) {f : Nat} (hcm : (cm || decide (f ∈ T.hot)) = true) {ix : List Nat} {es : IEs} {x : Str} {q pos : Pos} {as : List Expr} {ks : List Keyword} (hx : T.fn[f]? = some x) (hg : globOk sc x = true) (hp : (f, as.length, kwN ks, ix) ∈ T.pats)
    (ha : (ks = [] ∧ as.length = es.len ∧ ((as = [] ∧ es = .nil) ∨ ∃ a r, as = a :: r ∧ PA X as (tB X.K g (p.wd n) es) ∧ noStar a = true ∧ (backTo pos (starEach r X.env)).any (·.1) = false)) ∨ (as = [] ∧ ks.length = es.len ∧ kwS ks = true ∧ PK X ks (tB X.K g (p.wd n) es))) : PE X (.Call (.Name x q) as ks pos) (tE X.K g (p.wd n) (.call f ix es)) := by
  obtain ⟨a, fd, ps, dvs, dfs, A⟩ := G.pf.fn f x hx
  obtain ⟨gl, gd, _⟩ := gl_of G hg
  refine PE.imp (t := tCal es.len (spF X.K g.cn p n f) g.W ix dvs (tB X.K g (p.wd n) es)) ⟨fun pins s σ H Q I h => ?_⟩ fun σ H Q h => t_call A.df h
  refine wpAny_Call_Name_kw (ld_glob I gl A.at_ ?_ gd)
  -- the callee runs
  have go : ∀ (us ws : List Value) (vs : List V) (s1 : Shared) (H1 : Hp), Inv X pins σ H1 s1 → us.length = as.length → ws.length = (kwN ks).length → Vals vs (us ++ ws) → (∃ as', pick (vs ++ dvs) ix = some as' ∧ spF X.K g.cn p n f as' H1 Q (WE g.W σ)) →
      wpAny (model X.prog X.w) X.A (call (.ref a) us ((kwN ks).zip ws)) (EP X pins σ Q) X.xe s1 := by
    intro us ws vs s1 H1 I1 l1 l2 r ⟨as', pk, hs⟩
    obtain ⟨xs, pk2, r2⟩ := pick_vals (r.append A.dv) pk
    have b := A.bd _ _ _ hp s1 us ws xs I1.kIn l1 l2 pk2
    have run : codeAny (model X.prog X.w) X.A (.call (.ref a) ⟨us, (kwN ks).zip ws⟩) (L2.CR (L2.CX X.prog X.w) X.stack X.prog X.w H1 s1 Q (WE g.W σ)) s1 := by
      rcases Bool.or_eq_true_iff.mp hcm with z | z
      · exact A.ok.run X.A X.stack s1 H1 _ xs as' Q (WE g.W σ) G.gd (z ▸ G.room) I1.env0 b r2 hs
      · exact (A.hot (of_decide_eq_true z)).run X.A X.stack s1 H1 _ xs as' Q (WE g.W σ) G.gd G.room.hot I1.env0 b r2 hs
    refine wpAny_call (codeAny_mono run fun rr s' hq => ?_)
    cases rr with
    | error er => exact passAt G.tk σ pins H1 s1 er s' I1 hq
    | ok fl =>
      cases fl with
      | ret u => exact I1.after hq
      | next => exact hq.elim
      | brk => exact hq.elim
      | cont => exact hq.elim
  rcases ha with ⟨rfl, hl, h0⟩ | ⟨rfl, hl, hks, pk⟩
  · rcases h0 with ⟨rfl, rfl⟩ | ⟨a0, r, rfl, pa, ns, nr⟩
    · have z := t_nilB h
      exact PySem.W.callWith_K0 I.kIn A.kp (go [] [] [] s H I rfl rfl .nil z.2)
    · refine PySem.W.callWith_K (h₀ := X.base) I.ok.mod.kin A.kp (thn (pa.run pos pins s σ H _ I h) fun us s1 ⟨vs, H1, I1, rv, lv, hq⟩ => ⟨I1.kIn, ?_⟩) (star1 ns) nr
      exact go us [] vs s1 H1 I1 (by rw [← rv.length, lv, hl]) rfl (by rw [List.append_nil]; exact rv) hq
  · obtain ⟨k1, k2, k3⟩ := kw_all (env := X.env) (pos := pos) hks
    refine PySem.W.callWith_KW0 (h₀ := X.base) I.ok.mod.kin A.kp k1 (thn (pk.run pos pins s σ H _ I h) fun ws s1 ⟨vs, H1, I1, rv, lv, hq⟩ => ⟨I1.kIn, ?_⟩) (by rw [k3]; rfl)
    rw [k2]
    exact go [] ws vs s1 H1 I1 rfl (by rw [← rv.length, lv, kwN_len, hl]) rv hq
end
end Pi
set_option maxRecDepth 100000
set_option maxHeartbeats 3900000
namespace Pi
open PySem PySem.Spec L2 PyProof.Rows
section
variable {X : Cx} {T : Tb} {cm : Bool} {N : List Str} {sc : Scope} {p : Pg} {n : Nat} {g : Wi}
theorem bi_rule (G : Gx X T cm N sc p n g) (b : BI) (k : String) (hh : (cm || hotB b) = true) (h : biName b = some (k, false)) : CallR X (.builtin k) (rDs X.K (biR b)) ∧ bootBuiltins k = some (.builtin k) := by
  cases b <;> simp only [biName, Option.some.injEq, Prod.mk.injEq, reduceCtorEq, Bool.true_eq_false, and_false, and_true] at h <;> subst h
  · exact ⟨bi_len, by decide +kernel⟩
  · exact ⟨bi_max (G.calm (by simpa [hotB] using hh)), by decide +kernel⟩
  · exact ⟨bi_min (G.calm (by simpa [hotB] using hh)), by decide +kernel⟩
  · exact ⟨bi_abs, by decide +kernel⟩
  · exact ⟨bi_divmod, by decide +kernel⟩
  · exact ⟨bi_repr G.gd (by have := G.un; omega), by decide +kernel⟩
  · exact ⟨bi_all (G.calm (by simpa [hotB] using hh)), by decide +kernel⟩
  · exact ⟨bi_any (G.calm (by simpa [hotB] using hh)), by decide +kernel⟩
theorem bi_ruleT (G : Gx X T cm N sc p n g) (b : BI) (k : String) (hh : (cm || hotB b) = true) (h : biName b = some (k, true)) : CallR X (.type k) (rDs X.K (biR b)) ∧ bootBuiltins k = some (.type k) := by
  cases b <;> simp only [biName, Option.some.injEq, Prod.mk.injEq, reduceCtorEq, Bool.false_eq_true, and_false, and_true] at h <;> subst h
  · exact ⟨bi_int, by decide +kernel⟩
  · exact ⟨bi_str, by decide +kernel⟩
  · exact ⟨bi_tuple, by decide +kernel⟩
  · exact ⟨bi_list, by decide +kernel⟩
  · exact ⟨bi_tupS (G.calm (by simpa [hotB] using hh)), by decide +kernel⟩
theorem cl_boot (c : Cl) (k : String) (h : clN c = some k) : bootBuiltins k = some (.type k) := by
  cases c <;> simp only [clN, Option.some.injEq, reduceCtorEq] at h <;> subst h <;> decide +kernel
theorem cst_ok {c : Const} {d : D} {j : Nat} {pos : Pos} {w : Wd} (h : cstOk c d = true) : PE X (.Constant c j pos) (tE X.K g w (.cst d)) := by
  have key : ∀ (v : V), PE X (.Constant c j pos) (tC v) → (∀ F, Rp X.K F v d) → PE X (.Constant c j pos) (tE X.K g w (.cst d)) := fun v hp hr => hp.imp fun σ H Q ⟨e, s, F, R, h⟩ => h H F R (Same.refl F) v (hr F)
  cases c <;> cases d <;> simp only [cstOk, Bool.false_eq_true] at h
  · exact key _ pe_non fun F => .non
  · rename_i a b
    have e : a = b := by simpa using h
    subst e
    exact key _ pe_bl fun F => .bl _
  · rename_i a b
    have e : a = b := by simpa using h
    subst e
    exact key _ pe_int fun F => .int _
  · rename_i a b
    have e := of_decide_eq_true h
    subst e
    exact key _ pe_str fun F => .str _
theorem slice_ix {e : Expr} (h : noSlice e = true) : PlainIx e := by
  intro o i
  cases e <;> first | rfl | cases h
theorem chkA_len {T : Tb} {cm : Bool} {N : List Str} {sc : Scope} : ∀ {es : IEs} {xs : List Expr}, chkA T cm N sc es xs = true → xs.length = es.len
  | .nil, [], _ => rfl
  | .cons a r, [], h => by unfold chkA at h; cases h
  | .nil, x :: xs, h => by unfold chkA at h; cases h
  | .cons a r, x :: xs, h => by
    unfold chkA at h
    simp only [and_iff2] at h
    simp [IEs.len, chkA_len h.2]
theorem kwE_len : ∀ ks : List Keyword, (kwE ks).length = ks.length
  | [] => rfl
  | _ :: r => by simp [kwE, kwE_len r]
theorem base_of {e : Expr} {nm : Str} {env : Env} {wh : Sem Value} (h : noSup e = true) : attributeBase e nm env wh = wh := by
  cases e <;> first | rfl | cases h
/-- list items, tuple items -/
theorem t_lst {w : Wd} {es : IEs} {σ : Sg} {H : Hp} {Q : VK} (h : tE X.K g w (.lst es) σ H Q) : tLst (tF X.K g w es) σ H Q := by
  obtain ⟨e, s, F, R, h⟩ := h
  unfold ev at h
  refine ⟨e, s, F, R, h.bind.imp fun ds s1 F1 H1 R1 sm h1 vs ra => ?_⟩
  split at h1
  · rename_i hl
    refine ⟨by rw [ra.1]; exact lim_le hl, fun q hq => ?_⟩
    obtain ⟨R2, rv⟩ := R1.newL hq ra
    exact h1 _ _ R2 (Same.refl F1) _ rv
  · exact h1.elim
theorem t_tup {w : Wd} {es : IEs} {σ : Sg} {H : Hp} {Q : VK} (h : tE X.K g w (.tup es) σ H Q) : tTup (tF X.K g w es) σ H Q := by
  obtain ⟨e, s, F, R, h⟩ := h
  unfold ev at h
  refine ⟨e, s, F, R, h.bind.imp fun ds s1 F1 H1 R1 sm h1 vs ra => ?_⟩
  split at h1
  · rename_i hl
    refine ⟨by rw [ra.1]; exact lim_le hl, fun q hq => ?_⟩
    obtain ⟨R2, sm2, rv⟩ := R1.newT hq ra
    exact h1 _ _ R2 sm2 _ rv
  · exact h1.elim
theorem t_ite {w : Wd} {t a b : IE} {σ : Sg} {H : Hp} {Q : VK} (h : tE X.K g w (.ite t a b) σ H Q) : tIf (tT X.K g w t) (tE X.K g w a) (tE X.K g w b) σ H Q := by
  obtain ⟨e, s, F, R, h⟩ := h
  unfold ev at h
  refine ⟨e, s, F, R, h.bind.imp fun c s1 F1 H1 R1 sm h1 => ?_⟩
  cases c with
  | true =>
    simp only [if_true] at h1 ⊢
    exact ⟨e, s1, F1, R1, h1⟩
  | false =>
    simp only [Bool.false_eq_true, if_false] at h1 ⊢
    exact ⟨e, s1, F1, R1, h1⟩
theorem t_not {w : Wd} {a : IE} {σ : Sg} {H : Hp} {Q : VK} (h : tE X.K g w (.not a) σ H Q) : tNotV (tE X.K g w a) σ H Q := by
  obtain ⟨e, s, F, R, h⟩ := h
  unfold ev at h
  refine test_of (Q := fun c H1 => Q (.bl (!c)) H1) ⟨e, s, F, R, h.bind.imp fun c s1 F1 H1 R1 sm h1 => vo_bool h1 R1⟩
theorem t_notT {w : Wd} {a : IE} {σ : Sg} {H : Hp} {Q : Bool → Hp → Prop} (h : tT X.K g w (.not a) σ H Q) : tNot (tT X.K g w a) σ H Q := by
  obtain ⟨e, s, F, R, h⟩ := h
  unfold ev at h
  refine ⟨e, s, F, R, ?_⟩
  have h : Po X.K g e σ F (fun b _ _ H => Q b H) (tst ((tst (ev w a s)).bind fun b s => .ok (.val (.bl (!b))) s)) := h
  cases q : tst (ev w a s) with
  | stuck => rw [q] at h; exact h
  | exc c fs t => rw [q] at h; exact h
  | ok b s1 => rw [q] at h; exact h
theorem t_neg {w : Wd} {a : IE} {σ : Sg} {H : Hp} {Q : VK} (h : tE X.K g w (.neg a) σ H Q) : tUn (rU fun i => .int (-i)) (tE X.K g w a) σ H Q := by
  obtain ⟨e, s, F, R, h⟩ := h
  unfold ev at h
  refine ⟨e, s, F, R, h.bind.imp fun er s1 F1 H1 R1 sm h1 v rv => ?_⟩
  cases q : er.rd s1 with
  | none => simp only [q] at h1; exact h1.elim
  | some d =>
    simp only [q] at h1
    cases d <;> first | exact h1.elim | skip
    rename_i i
    exact ⟨i, (R1.rd rv q).int, h1 H1 F1 R1 (Same.refl F1) _ (.int _)⟩
theorem t_chn {w : Wd} {o o' : COp} {a b c : IE} {σ : Sg} {H : Hp} {Q : VK} (h : tE X.K g w (.chn o o' a b c) σ H Q) : tChain (rD X.K (cB o)) (rD X.K (cB o')) (tE X.K g w a) (tE X.K g w b) (tE X.K g w c) σ H Q := by
  obtain ⟨e, s, F, R, h⟩ := h
  unfold ev at h
  refine ⟨e, s, F, R, h.bind.imp fun er s1 F1 H1 R1 sm h1 v rv => ?_⟩
  obtain ⟨F1', R1', smf, rv'⟩ := R1.hold rv
  refine ⟨e, s1, F1', R1', (h1.mono smf).bind.imp fun er2 s2 F2 H2 R2 sm2 h2 v2 rv2 => ?_⟩
  obtain ⟨F2', R2', smf2, rv2'⟩ := R2.hold rv2
  have h2 := h2.mono smf2
  have rx := rv'.stay (s' := s2) (H' := H2) (sm2.trans smf2)
  cases ex : er.hold.rd s2 with
  | none => simp only [ex] at h2; exact h2.elim
  | some dx =>
    cases ey : er2.hold.rd s2 with
    | none => simp only [ex, ey] at h2; exact h2.elim
    | some dy =>
      simp only [ex, ey] at h2
      cases q : cmpR o dx dy with
      | none => simp only [q] at h2; exact h2.elim
      | some t =>
        refine ⟨e, s2, σ, F2', dx, dy, .val (.bl t), R2', R2'.rd rx ex, R2'.rd rv2' ey, by unfold cB; rw [q]; rfl, fun u H3 F3 R3 sm3 rv3 => ?_⟩
        cases rv3
        refine ⟨t, rfl, ?_⟩
        cases t with
        | false =>
          simp only [q] at h2
          rw [if_neg (by decide)]
          exact vo_bool (h2.mono sm3) R3
        | true =>
          simp only [q] at h2
          simp only [if_true]
          refine ⟨e, s2, F3, R3, (h2.mono sm3).bind.imp fun er4 s4 F4 H4 R4 sm4 h4 v4 rv4 => ?_⟩
          have ry := rv2'.stay (s' := s4) (H' := H4) (sm3.trans sm4)
          cases ey4 : er2.hold.rd s4 with
          | none => simp only [ey4] at h4; exact h4.elim
          | some dy4 =>
            cases ez : er4.rd s4 with
            | none => simp only [ey4, ez] at h4; exact h4.elim
            | some dz =>
              simp only [ey4, ez] at h4
              cases q2 : cmpR o' dy4 dz with
              | none => rw [q2] at h4; exact h4.elim
              | some t2 =>
                rw [q2] at h4
                exact ⟨e, s4, σ, F4, dy4, dz, .val (.bl t2), R4, R4.rd ry ey4, R4.rd rv4 ez, by unfold cB; rw [q2]; rfl, fun u H5 F5 R5 sm5 rv5 => h4 H5 F5 R5 sm5 u rv5⟩
/-- parts of a slice -/
def tOo (K : PySem.W.Frag) (g : Wi) (w : Wd) (a : IO) : TO := fun σ H Q => ∃ e s F, Rl K e s σ F H ∧ Po K g e σ F (fun o _ _ H => Q o H) (evO w a s)
theorem t_slc {w : Wd} {a : IE} {lo hi : IO} {σ : Sg} {H : Hp} {Q : VK} (h : tE X.K g w (.slc a lo hi) σ H Q) : tSl (rDsl X.K) (tE X.K g w a) (tOo X.K g w lo) (tOo X.K g w hi) σ H Q := by
  obtain ⟨e, s, F, R, h⟩ := h
  unfold ev at h
  refine ⟨e, s, F, R, h.bind.imp fun er s1 F1 H1 R1 sm h1 v rv => ?_⟩
  obtain ⟨F1', R1', smf, rv'⟩ := R1.hold rv
  refine ⟨e, s1, F1', R1', (h1.mono smf).bind.imp fun l s2 F2 H2 R2 sm2 h2 => ?_⟩
  refine ⟨e, s2, F2, R2, h2.bind.imp fun u s3 F3 H3 R3 sm3 h3 => ?_⟩
  have rx := rv'.stay (s' := s3) (H' := H3) (sm2.trans sm3)
  cases q : er.hold.rd s3 with
  | none => simp only [q] at h3; exact h3.elim
  | some d =>
    simp only [q] at h3
    cases q2 : slcD d l u with
    | none => rw [q2] at h3; exact h3.elim
    | some r =>
      rw [q2] at h3
      exact ⟨e, s3, σ, F3, d, r, R3, R3.rd rx q, q2, fun v H' F' R' sm' rv => h3 H' F' R' sm' v rv⟩
theorem po_noneO {w : Wd} : PO X none (tOo X.K g w .no) := by
  constructor; intro pins s σ H Q I h
  obtain ⟨e, fr, F, R, h⟩ := h
  unfold evO at h
  exact po_none.run pins s σ H Q I (h H F R (Same.refl F))
theorem po_someO {w : Wd} {a : IE} {x : Expr} (hx : PE X x (tE X.K g w a)) : PO X (some x) (tOo X.K g w (.so a)) := by
  refine ⟨fun pins s σ H Q I h => (po_some hx).run pins s σ H Q I ?_⟩
  obtain ⟨e, fr, F, R, h⟩ := h
  unfold evO at h
  refine ⟨e, fr, F, R, h.bind.imp fun er s1 F1 H1 R1 sm h1 v rv => ?_⟩
  cases q : er.rd s1 with
  | none => simp only [q] at h1; exact h1.elim
  | some d =>
    simp only [q] at h1
    cases d <;> first | exact h1.elim | skip
    rename_i i
    exact ⟨i, (R1.rd rv q).int, h1 H1 F1 R1 (Same.refl F1)⟩
end
end Pi
set_option maxRecDepth 100000
set_option maxHeartbeats 3900000
namespace Pi
open PySem PySem.Spec L2 PyProof.Rows
/-! ### what is walked -/
structure JOk (K : PySem.W.Frag) (F : Hp) (J : It) (xs : List D) : Prop where
  go : ∀ (i : Nat) H d, Same F H → xs[i]? = some d → J.go i H ∧ ∀ x H', J.yld i H x H' → (H' = H ∧ Rp K F x d) ∨ (∃ p vs ds, H p = none ∧ H' = upd H p (.tup vs) ∧ x = .ref p ∧ d = .tup ds ∧ RpA K F vs ds)
  stop : ∀ H, Same F H → J.stop xs.length H
theorem JOk.mono {K : PySem.W.Frag} {F F' : Hp} {J : It} {xs : List D} (h : JOk K F J xs) (sm : Same F F') : JOk K F' J xs := by
  refine ⟨fun i H d s q => ?_, fun H s => h.stop H (sm.trans s)⟩
  obtain ⟨a, b⟩ := h.go i H d (sm.trans s) q
  refine ⟨a, fun x H' y => ?_⟩
  rcases b x H' y with ⟨e, r⟩ | ⟨p, vs, ds, h1, h2, h3, h4, r⟩
  · exact .inl ⟨e, r.mono sm⟩
  · exact .inr ⟨p, vs, ds, h1, h2, h3, h4, r.mono sm⟩
section
variable {K : PySem.W.Frag} {e : En} {s s' : Fr} {σ : Sg} {F F' H H' : Hp} {v : V} {er : ER} {d : D} {xs : List D} {J : It}
/-- a turn -/
theorem JOk.turn {i : Nat} (h : JOk K F J xs) (R : Rl K e s σ F' H) (sm : Same F F') (q : xs[i]? = some d) (y : J.yld i H v H') : ∃ F2, Rl K e s σ F2 H' ∧ Same F' F2 ∧ Rp K F2 v d := by
  obtain ⟨_, b⟩ := (h.mono sm).go i H d R.sub q
  rcases b v H' y with ⟨rfl, r⟩ | ⟨p, vs, ds, h1, rfl, rfl, rfl, r⟩
  · exact ⟨F', R, Same.refl F', r⟩
  · obtain ⟨R2, s2, rv⟩ := R.newT h1 r
    exact ⟨_, R2, s2, rv⟩
theorem fz_no {c : Tx} {fs : List (Tx × D)} {t : Fr} (q : er.fz s = .exc c fs t) : False := absurd q fz_noexc
theorem Rl.fzz (R : Rl K e s σ F H) (rv : Rv K e s σ F H v er) (q : er.fz s = .ok d s') : ∃ F2, Rl K e s' σ F2 H ∧ Same F F2 ∧ Rp K F2 v d := by
  cases er with
  | fresh xs =>
    cases q
    exact R.hold rv
  | val d => exact R.fz1 rv rfl q
  | slot i => exact R.fz1 rv rfl q
  | cell => exact R.fz1 rv rfl q
end
theorem evF_len (w : Wd) : ∀ (es : IEs) (s s' : Fr) (ds : List D), evF w es s = .ok ds s' → ds.length = es.len
  | .nil, s, s', ds, h => by
    unfold evF at h
    cases h
    rfl
  | .cons a r, s, s', ds, h => by
    unfold evF at h
    cases h1 : ev w a s with
    | stuck => rw [h1] at h; cases h
    | exc c fs t => rw [h1] at h; cases h
    | ok x s1 =>
      rw [h1] at h
      simp only [Rs.bind] at h
      cases h2 : x.fz s1 with
      | stuck => rw [h2] at h; cases h
      | exc c fs t => exact (fz_no h2).elim
      | ok d s2 =>
        rw [h2] at h
        simp only [Rs.bind] at h
        cases h3 : evF w r s2 with
        | stuck => rw [h3] at h; cases h
        | exc c fs t => rw [h3] at h; cases h
        | ok ds' s3 =>
          rw [h3] at h
          cases h
          simp [IEs.len, evF_len w r s2 _ ds' h3]
/-! ### the iterators over data -/
theorem jok_list {K : PySem.W.Frag} {F : Hp} {a : Addr} {vs : List V} {xs : List D} (h : F a = some (.lst vs)) (r : RpA K F vs xs) : JOk K F (Itl K a) xs := by
  refine ⟨fun i H d s q => ?_, fun H s => ⟨vs, .of (s _ _ h), Nat.le_of_eq r.1⟩⟩
  obtain ⟨v, hv, rp⟩ := r.get q
  refine ⟨⟨vs, v, .of (s _ _ h), hv⟩, fun x H' ⟨e, y⟩ => .inl ⟨e, ?_⟩⟩
  have := y vs (.of (s _ _ h))
  rw [hv] at this
  cases this
  exact rp
theorem jok_tup {K : PySem.W.Frag} {F : Hp} {a : Addr} {vs : List V} {xs : List D} (h : SqT K F a vs) (r : RpA K F vs xs) : JOk K F (Itt K a) xs := by
  refine ⟨fun i H d s q => ?_, fun H s => ⟨vs, sqt_mono s h, Nat.le_of_eq r.1⟩⟩
  obtain ⟨v, hv, rp⟩ := r.get q
  refine ⟨⟨vs, v, sqt_mono s h, hv⟩, fun x H' ⟨e, y⟩ => .inl ⟨e, ?_⟩⟩
  have := y vs (sqt_mono s h)
  rw [hv] at this
  cases this
  exact rp
theorem tx_size (x : Tx) : (tx x).cps.size = x.length := by simp [tx]
theorem tx_get (x : Tx) (i : Nat) : (tx x).cps[i]? = x[i]? := by simp [tx]
theorem jok_str {K : PySem.W.Frag} {F : Hp} (x : Tx) : JOk K F (Its (tx x)) (x.map fun c => .str [c]) := by
  refine ⟨fun i H d s q => ?_, fun H s => ?_⟩
  · rw [List.getElem?_map] at q
    cases hc : x[i]? with
    | none => rw [hc] at q; cases q
    | some c =>
      rw [hc] at q
      cases q
      have hi : i < x.length := (List.getElem?_eq_some_iff.mp hc).1
      refine ⟨by show i < (tx x).cps.size; rw [tx_size]; exact hi, fun v H' ⟨e, c', h1, h2⟩ => .inl ⟨e, ?_⟩⟩
      rw [tx_get, hc] at h1
      cases h1
      subst h2
      exact .str [c]
  · show (tx x).cps.size ≤ _
    rw [tx_size, List.length_map]
    exact Nat.le_refl _
theorem rngD_len (a : Int) : ∀ n, (rngD a n).length = n
  | 0 => rfl
  | n + 1 => by simp [rngD, rngD_len (a + 1) n]
theorem rngD_get : ∀ (n i : Nat) (a : Int) (d : D), (rngD a n)[i]? = some d → i < n ∧ d = .int (a + i)
  | 0, i, a, d, h => by simp [rngD] at h
  | n + 1, 0, a, d, h => by
    simp only [rngD, List.getElem?_cons_zero, Option.some.injEq] at h
    subst h
    exact ⟨by omega, by simp⟩
  | n + 1, i + 1, a, d, h => by
    simp only [rngD, List.getElem?_cons_succ] at h
    obtain ⟨h1, h2⟩ := rngD_get n i (a + 1) d h
    refine ⟨by omega, ?_⟩
    rw [h2]
    congr 1
    push_cast
    omega
theorem jok_rng {K : PySem.W.Frag} {F : Hp} (a : Int) (n : Nat) : JOk K F (Itr a n) (rngD a n) := by
  refine ⟨fun i H d s q => ?_, fun H s => by show n ≤ _; rw [rngD_len]; exact Nat.le_refl _⟩
  obtain ⟨h1, rfl⟩ := rngD_get n i a d q
  exact ⟨h1, fun v H' ⟨e, h2⟩ => .inl ⟨e, by subst h2; exact .int _⟩⟩
/-! ### two texts side by side -/
def Itzs (x y : Str) : It := ⟨fun i _ => i < min x.cps.size y.cps.size,
  fun i H v H' => ∃ T c d, v = .ref T ∧ H T = none ∧ H' = upd H T (.tup [.str ⟨#[c]⟩, .str ⟨#[d]⟩]) ∧ x.cps[i]? = some c ∧ y.cps[i]? = some d, fun i _ => i = min x.cps.size y.cps.size⟩
def ZsAt (z TI TO i1 i2 : Addr) (x y : Str) (t u : Tok) (i : Nat) (h : Heap) : Prop :=
  IsZip h z TI TO .none ∧ IsTupOf2 h TI (.ref i1) (.ref i2) ∧ (∃ a1 a2, IsTupOf2 h TO a1 a2) ∧ h.IsStrIter i1 (strIterType x) x t i ∧ h.IsStrIter i2 (strIterType y) y u i
theorem goes_zs {P : Program} {w : World} {A : Around} {elts : List Expr} {kk : Nat} {tpos : Pos} {z TI TO i1 i2 : Addr} {x y : Str} {t u : Tok} (S : ZipSep2 z TI TO i1 i2 [i1] [i2]) (hh : A.in1.handled = none) :
    GoesN P w A (.Tuple elts kk tpos) z [z, TI, TO, i1, i2] [z, TO, i1, i2] (min x.cps.size y.cps.size) (fun i h₀ v h => ∃ T a b, v = .ref T ∧ h₀.objs.size ≤ T ∧ (∃ c k, x.cps[i]? = some c ∧ a = .str ⟨#[c]⟩ k) ∧ (∃ c k, y.cps[i]? = some c ∧ b = .str ⟨#[c]⟩ k) ∧ h.IsTuple T #[a, b]) (ZsAt z TI TO i1 i2 x y t u) :=
  GoesN.zip2 S (Draws.text hh i1 x t) (Draws.text hh i2 y u)
/-- a walk of the library (GoesN) as a turn of a loop -/
theorem turn_goes {P : Program} {w : World} {K : PySem.W.Frag} {tg : Expr} {J : It} {it : Addr} {fp wr : List Addr} {n : Nat} {Y : Nat → Heap → Value → Heap → Prop} {At : Nat → Heap → Prop} (W : ∀ A : Around, A.in1.handled = none → GoesN P w A tg it fp wr n Y At) (mem : it ∈ fp)
    (obj : ∀ i h, At i h → ∀ b ∈ fp, ∃ o, h.get? b = some o ∧ ∀ v, o.data ≠ .cell v) (go : ∀ i H, J.go i H → i < n) (stop : ∀ i H, J.stop i H → i = n)
    (yld : ∀ (X : Cx) (pins : List (Addr × Obj)) (σ : L2.St) (H : Hp) (s : Shared) (i : Nat) (v : Value) (h' : Heap) (tk : Nat), X.prog = P → X.w = w → X.K = K → Inv X pins σ H s → (∀ b ∈ fp, FpOk X pins H b) → At i s.heap → Y i s.heap v h' → (∀ b o, b ∉ fp → s.heap.get? b = some o → h'.get? b = some o) →
      ∃ x H', Inv X pins σ H' { s with heap := h', toks := tk } ∧ RelV x v ∧ J.yld i H x H' ∧ ∀ b ∈ fp, H' b = none)
    (self : ∀ (A : Around) (i : Nat) (s : Shared) (Q : Value → Shared → Prop) (E : Value → Shared → Prop), At i s.heap → Q (.ref it) s → wpAny (model P w) A (pyIter (.ref it)) Q E s) : Turn P w K tg J fp it At := by
  have calmA : ∀ {X : Cx} {pins : List (Addr × Obj)} {σ : L2.St} {H : Hp} {s : Shared}, X.calm = true → Inv X pins σ H s → X.A.in1.handled = none := fun c I => I.ok.hd c
  have wider : ∀ {A : Around} {h h' : Heap}, A.in1.handled = none → (∀ b o, b ∉ wr → h.get? b = some o → h'.get? b = some o) → ∀ b o, b ∉ fp → h.get? b = some o → h'.get? b = some o := fun q k b o n e => k b o (fun z => n ((W _ q).sub b z)) e
  refine Turn.mk mem obj (fun i h h' st k => (W {} rfl).frame i h h' st k) ?_ ?_ self
  · rintro X rfl rfl rfl c i pins s σ H E I free st g
    refine (W X.A (calmA c I)).goes i s _ E (go i H g) st fun v h' tk y st' k _ => ?_
    obtain ⟨x, H', J1, rv, y', none'⟩ := yld X pins σ H s i v h' tk rfl rfl rfl I free st y (wider (calmA c I) k)
    exact ⟨x, H', J1, rv, y', st', none'⟩
  · rintro X rfl rfl rfl c i pins s σ H E I free st g
    obtain rfl := stop i H g
    exact (W X.A (calmA c I)).stops s _ E st fun h' tk k _ => I.turnedL (t' := tk) (h' := h') (wider (calmA c I) k) free
theorem zs_obj {z TI TO i1 i2 : Addr} {x y : Str} {t u : Tok} {i : Nat} {h : Heap} (st : ZsAt z TI TO i1 i2 x y t u i h) (b : Addr) (hb : b ∈ [z, TI, TO, i1, i2]) : ∃ o, h.get? b = some o ∧ ∀ v, o.data ≠ .cell v := by
  obtain ⟨k1, k2, ⟨a1, a2, k3⟩, ⟨o1, e1, _, d1⟩, ⟨o2, e2, _, d2⟩⟩ := st
  simp only [in_cons, in_nil, or_false] at hb
  have zip2 : ∀ {o : Obj} {vs : Array Value}, o.data = .fields vs → ∀ v, o.data ≠ .cell v := fun q v z => by rw [q] at z; exact nomatch z
  rcases hb with rfl | rfl | rfl | rfl | rfl
  · exact ⟨_, k1, nofun⟩
  · exact ⟨_, k2, nofun⟩
  · exact ⟨_, k3, nofun⟩
  · exact ⟨o1, e1, zip2 d1⟩
  · exact ⟨o2, e2, zip2 d2⟩
theorem turn_zs {P : Program} {w : World} {K : PySem.W.Frag} {elts : List Expr} {kk : Nat} {tpos : Pos} {z TI TO i1 i2 : Addr} {x y : Str} {t u : Tok} (S : ZipSep2 z TI TO i1 i2 [i1] [i2]) :
    Turn P w K (.Tuple elts kk tpos) (Itzs x y) [z, TI, TO, i1, i2] z (ZsAt z TI TO i1 i2 x y t u) := by
  refine turn_goes (fun A q => goes_zs S q) (by simp) (fun i h st => zs_obj st) (fun _ _ g => g) (fun _ _ g => g) ?_ fun A i s Q E st q => wpAny_pyIter_zip (And.left st) q
  rintro X pins σ H s i v h' tk - - - I free st ⟨T, p, q, rfl, new, ⟨c, t1, cx, rfl⟩, ⟨d, t2, dy, rfl⟩, tup⟩ kept
  have two : ObjOk X.prog X.w (upd H T (.tup [.str ⟨#[c]⟩, .str ⟨#[d]⟩])) h' T (.tup [.str ⟨#[c]⟩, .str ⟨#[d]⟩]) := ⟨by simp [sizeLine_eq], _, .cons ⟨t1, rfl⟩ (.cons ⟨t2, rfl⟩ .nil), tup⟩
  refine ⟨.ref T, _, I.turnedNew (t' := tk) (h' := h') kept free new two, rfl, ⟨T, c, d, rfl, I.hok.fresh new, rfl, cx, dy⟩, fun b hb => ?_⟩
  obtain ⟨o, there, _⟩ := zs_obj st b hb
  rw [upd_ne (Nat.ne_of_lt (Nat.lt_of_lt_of_le (Heap.lt_size there) new))]
  exact (free b hb).1
theorem jok_zs {K : PySem.W.Frag} {F : Hp} (x y : Tx) : JOk K F (Itzs (tx x) (tx y)) (zipD (x.map fun c => .str [c]) (y.map fun c => .str [c])) := by
  refine ⟨fun i H d s q => ?_, fun H s => ?_⟩
  · unfold zipD at q
    rw [List.getElem?_zipWith, List.getElem?_map, List.getElem?_map] at q
    cases hx : x[i]? with
    | none => rw [hx] at q; simp at q
    | some a =>
      cases hy : y[i]? with
      | none => rw [hx, hy] at q; simp at q
      | some b =>
        rw [hx, hy] at q
        simp only [Option.map_some, Option.some.injEq] at q
        subst q
        have h1 : i < x.length := (List.getElem?_eq_some_iff.mp hx).1
        have h2 : i < y.length := (List.getElem?_eq_some_iff.mp hy).1
        refine ⟨by show i < min _ _; rw [tx_size, tx_size]; omega, fun v H' ⟨T, c, d, e1, e2, e3, e4, e5⟩ => .inr ⟨T, _, [.str [a], .str [b]], e2, e3, e1, rfl, ?_⟩⟩
        rw [tx_get, hx] at e4
        rw [tx_get, hy] at e5
        cases e4; cases e5
        exact .cons (.str [a]) (.cons (.str [b]) .nil)
  · show _ = min _ _
    rw [tx_size, tx_size]
    simp [zipD]
/-! ### items with their places -/
theorem enmD_get : ∀ (xs : List D) (k i : Nat), (enmD k xs)[i]? = (xs[i]?).map fun x => .tup [.int ((k + i : Nat) : Int), x]
  | [], k, i => by simp [enmD]
  | x :: xs, k, 0 => by simp [enmD]
  | x :: xs, k, i + 1 => by
    have z := enmD_get xs (k + 1) i
    have e : k + 1 + i = k + (i + 1) := by omega
    rw [e] at z
    simpa [enmD] using z
theorem enmD_len : ∀ (xs : List D) (k : Nat), (enmD k xs).length = xs.length
  | [], _ => rfl
  | _ :: xs, k => congrArg (· + 1) (enmD_len xs (k + 1))
theorem jok_enm {K : PySem.W.Frag} {F : Hp} {a : Addr} {vs : List V} {xs : List D} (h : F a = some (.lst vs)) (r : RpA K F vs xs) : JOk K F (Ite K a) (enmD 0 xs) := by
  constructor
  · intro i H d s q
    rw [enmD_get, Nat.zero_add] at q
    obtain ⟨x, hx, rfl⟩ := Option.map_eq_some_iff.mp q
    obtain ⟨v, hv, rp⟩ := r.get hx
    refine ⟨⟨vs, v, .of (s _ _ h), hv⟩, fun y H' ⟨T, z, e1, e2, e3, e4⟩ => .inr ⟨T, _, [.int ((i : Nat) : Int), x], e2, e3, e1, rfl, ?_⟩⟩
    have ez := e4 vs (.of (s _ _ h))
    rw [hv] at ez
    cases ez
    exact .cons (.int _) (.cons rp .nil)
  · intro H s
    exact ⟨vs, .of (s _ _ h), by rw [enmD_len]; exact Nat.le_of_eq r.1⟩
theorem jok_zl {K : PySem.W.Frag} {F : Hp} {a b : Addr} {vs ws : List V} {xs ys : List D} (ha : F a = some (.lst vs)) (hb : F b = some (.lst ws)) (ra : RpA K F vs xs) (rb : RpA K F ws ys) : JOk K F (Itz K a b) (zipD xs ys) := by
  constructor
  · intro i H d s q
    unfold zipD at q
    rw [List.getElem?_zipWith] at q
    cases hx : xs[i]? with
    | none => simp [hx] at q
    | some x =>
      cases hy : ys[i]? with
      | none => simp [hx, hy] at q
      | some y =>
        simp only [hx, hy, Option.some.injEq] at q
        subst q
        obtain ⟨v, hv, rv⟩ := ra.get hx
        obtain ⟨u, hu, ru⟩ := rb.get hy
        refine ⟨⟨vs, ws, v, u, .of (s _ _ ha), .of (s _ _ hb), hv, hu⟩, fun z H' ⟨T, v', u', e1, e2, e3, e4, e5⟩ => .inr ⟨T, _, [x, y], e2, e3, e1, rfl, ?_⟩⟩
        cases hv.symm.trans (e4 vs (.of (s _ _ ha)))
        cases hu.symm.trans (e5 ws (.of (s _ _ hb)))
        exact .cons rv (.cons ru .nil)
  · intro H s
    refine ⟨vs, ws, .of (s _ _ ha), .of (s _ _ hb), ?_⟩
    simp only [zipD, List.length_zipWith, ra.1, rb.1]
    omega
/-! ### the readings -/
def tI (K : PySem.W.Frag) (g : Wi) (w : Wd) (it : IT) : TI := fun σ H R => ∃ e s F, Rl K e s σ F H ∧ Po K g e σ F (fun xs _ F H => ∀ J, JOk K F J xs → R J H) (evI w it s)
section
variable {X : Cx} {g : Wi} {w : Wd} {tg : Expr}
theorem pi_seqD {a : IE} {l : Expr} (hl : PE X l (tE X.K g w a)) : PI X tg l (tI X.K g w (.seq a)) := by
  refine PI.mk fun pins s σ H R I h => ?_
  obtain ⟨e, fr, F, R0, h⟩ := h
  unfold evI at h
  have hq : tE X.K g w a σ H fun v H1 => ∃ (F : Hp) (d : D) (xs : List D), Same F H1 ∧ Rp X.K F v d ∧ itemsD d = some xs ∧ ∀ J, JOk X.K F J xs → R J H1 := by
    refine ⟨e, fr, F, R0, h.bind.imp fun er s1 F1 H1 R1 sm h1 v rv => ?_⟩
    cases q : er.fz s1 with
    | stuck => rw [q] at h1; exact h1.elim
    | exc c fs t => exact (fz_no q).elim
    | ok d s2 =>
      obtain ⟨F2, R2, sm2, rp⟩ := R1.fzz rv q
      rw [q] at h1
      cases q2 : itemsD d with
      | none => simp only [Rs.bind, q2] at h1; exact h1.elim
      | some xs =>
        simp only [Rs.bind, q2] at h1
        exact ⟨F2, d, xs, R2.sub, rp, q2, h1 H1 F2 R2 sm2⟩
  refine thn (hl.run pins s σ H _ I hq) fun u s1 ⟨v, H1, I1, r1, F1, d, xs, sm, rp, q, k⟩ => ?_
  cases d <;> simp only [itemsD, Option.some.injEq, reduceCtorEq] at q
  · subst q
    rename_i x
    cases rp
    obtain ⟨t, rfl⟩ := r1
    cases ha : (tx x).cps.all (· < 128)
    · exact wpAny_pyIter_wide ha (pi_one (tk := s1.toks) I1 _ (turn_str _ (tx x) t "str_iterator" (.inr rfl)) ⟨_, Heap.get?_push_size _ rfl, rfl, rfl⟩ (k _ (jok_str x)))
    · exact wpAny_pyIter_ascii ha (pi_one (tk := s1.toks) I1 _ (turn_str _ (tx x) t "str_ascii_iterator" (.inl rfl)) ⟨_, Heap.get?_push_size _ rfl, rfl, rfl⟩ (k _ (jok_str x)))
  · subst q
    cases rp with
    | @lst a vs _ hF hl' hr =>
      cases r1
      obtain ⟨its, rv, p, hz⟩ := I1.list (SqL.of (sm _ _ hF))
      exact wpAny_pyIter_list p.isList (pi_one (tk := s1.toks) I1 _ (turn_list a _) ⟨_, Heap.get?_push_size _ rfl, rfl, rfl⟩ (k _ (jok_list hF ⟨hl', hr⟩)))
  · subst q
    cases rp with
    | @tup a vs _ hF hl' hr =>
      cases r1
      obtain ⟨its, rv, p, hz⟩ := I1.tuple (sqt_mono sm hF)
      exact wpAny_pyIter_tuple (show s1.heap.IsTuple a its.toArray from p) (pi_one (tk := s1.toks) I1 _ (turn_tuple a _) ⟨_, Heap.get?_push_size _ rfl, rfl, rfl⟩ (k _ (jok_tup hF ⟨hl', hr⟩)))
theorem RpA.one {K : PySem.W.Frag} {F : Hp} {vs : List V} {d : D} (h : RpA K F vs [d]) : ∃ v, vs = [v] ∧ Rp K F v d := by
  cases vs with
  | nil => have := h.1; simp at this
  | cons v r =>
    obtain ⟨a, b⟩ := h.cons_inv
    have z : r = [] := List.eq_nil_of_length_eq_zero b.1
    subst z
    exact ⟨v, rfl, a⟩
theorem RpA.two {K : PySem.W.Frag} {F : Hp} {vs : List V} {d d' : D} (h : RpA K F vs [d, d']) : ∃ v v', vs = [v, v'] ∧ Rp K F v d ∧ Rp K F v' d' := by
  cases vs with
  | nil => have := h.1; simp at this
  | cons v r =>
    obtain ⟨a, b⟩ := h.cons_inv
    obtain ⟨v', rfl, c⟩ := b.one
    exact ⟨v, v', rfl, a, c⟩
theorem lim62 {n : Int} (h1 : -(lim : Int) ≤ n) (h2 : n ≤ lim) : -(2 ^ 62) ≤ n ∧ n < 2 ^ 62 := by
  unfold lim at h1 h2
  constructor <;> omega
theorem pi_rngD {es : IEs} {as : List Expr} {p pos : Pos} (hg : Gl X "range") (hm : X.mg "range" = none) (ha : PA X as (tF X.K g w es)) (hl : as.length = es.len) (h12 : as.length = 1 ∨ as.length = 2) (hst : ∀ a ∈ as, noStar a = true) :
    PI X tg (.Call (.Name "range" p) as [] pos) (tI X.K g w (.rng es)) := by
  rcases h12 with h1 | h2
  · obtain ⟨a, rfl⟩ : ∃ a, as = [a] := by
      cases as with
      | nil => cases h1
      | cons a r =>
        cases r with
        | nil => exact ⟨a, rfl⟩
        | cons _ _ => simp at h1
    have z := pi_range1 (tg := tg) (p := p) (pos := pos) hg hm ha (star1 (hst a (by simp)))
    refine ⟨fun pins s σ H R I h => z.run pins s σ H R I ?_⟩
    obtain ⟨e, fr, F, R0, h⟩ := h
    unfold evI at h
    cases q : evF w es fr with
    | stuck => rw [q] at h; exact h.elim
    | exc c fs t => rw [q] at h; exact ⟨e, fr, F, R0, by rw [q]; exact h⟩
    | ok ds s1 =>
      have hl2 := evF_len w es fr s1 ds q
      refine ⟨e, fr, F, R0, ?_⟩
      rw [q] at h ⊢
      intro H1 F1 R1 sm vs ra
      simp only [Rs.bind] at h
      split at h
      · rename_i n
        obtain ⟨v, rfl, rp⟩ := ra.one
        cases rp
        split at h
        · rename_i hb
          obtain ⟨b1, b2⟩ := lim62 hb.1 hb.2
          exact ⟨n, rfl, b1, b2, h H1 F1 R1 sm _ (jok_rng 0 _)⟩
        · exact h.elim
      · exfalso
        rw [← hl] at hl2
        simp at hl2
      · exact h.elim
  · obtain ⟨a, b, rfl⟩ : ∃ a b, as = [a, b] := by
      match as, h2 with
      | [a, b], _ => exact ⟨a, b, rfl⟩
    have z := pi_range2 (tg := tg) (p := p) (pos := pos) hg hm ha (by rw [star1 (hst a (by simp)), star1 (hst b (by simp))]; rfl) (star1 (hst b (by simp)))
    refine ⟨fun pins s σ H R I h => z.run pins s σ H R I ?_⟩
    obtain ⟨e, fr, F, R0, h⟩ := h
    unfold evI at h
    cases q : evF w es fr with
    | stuck => rw [q] at h; exact h.elim
    | exc c fs t => rw [q] at h; exact ⟨e, fr, F, R0, by rw [q]; exact h⟩
    | ok ds s1 =>
      have hl2 := evF_len w es fr s1 ds q
      refine ⟨e, fr, F, R0, ?_⟩
      rw [q] at h ⊢
      intro H1 F1 R1 sm vs ra
      simp only [Rs.bind] at h
      split at h
      · exfalso
        rw [← hl] at hl2
        simp at hl2
      · rename_i m n
        obtain ⟨v, v', rfl, rp, rp'⟩ := ra.two
        cases rp
        cases rp'
        split at h
        · rename_i hb
          obtain ⟨b1, b2⟩ := lim62 hb.1 hb.2.1
          obtain ⟨c1, c2⟩ := lim62 hb.2.2.1 hb.2.2.2
          exact ⟨m, n, rfl, ⟨c1, c2, b1, b2⟩, h H1 F1 R1 sm _ (jok_rng m _)⟩
        · exact h.elim
      · exact h.elim
theorem pi_enmD {es : IEs} {a : Expr} {p pos tpos : Pos} {elts : List Expr} {kk : Nat} (hg : Gl X "enumerate") (hm : X.mg "enumerate" = none) (ha : PA X [a] (tF X.K g w es)) (ha1 : noStar a = true) :
    PI X (.Tuple elts kk tpos) (.Call (.Name "enumerate" p) [a] [] pos) (tI X.K g w (.enm es)) := by
  refine PI.mk fun pins s σ H R I ⟨e, fr, F, R0, h⟩ => ?_
  unfold evI at h
  refine (pi_enum hg hm ha (star1 ha1)).run pins s σ H R I ⟨e, fr, F, R0, h.bind.imp fun ds s1 F1 H1 R1 sm h1 vs ra => ?_⟩
  split at h1
  · obtain ⟨v, rfl, rp⟩ := ra.one
    cases rp with
    | @lst b ws xs hF hl hr => exact ⟨b, ws, rfl, .of (R1.sub _ _ hF), h1 H1 F1 R1 (Same.refl F1) _ (jok_enm hF ⟨hl, hr⟩)⟩
  · exact h1.elim
/-- two texts side by side, as a reading -/
def iZs (ta : TA) : TI := fun σ H R => ta σ H fun vs H1 => ∃ x y, vs = [.str (tx x), .str (tx y)] ∧ R (Itzs (tx x) (tx y)) H1
theorem pi_zs {ta : TA} {a b : Expr} {p pos tpos : Pos} {elts : List Expr} {kk : Nat} (hg : Gl X "zip") (hm : X.mg "zip" = none) (ha : PA X [a, b] ta) (ha1 : noStar a = true) (hb1 : noStar b = true) :
    PI X (.Tuple elts kk tpos) (.Call (.Name "zip" p) [a, b] [] pos) (iZs ta) := by
  refine PI.mk fun pins s σ H R I hq => ?_
  refine Call_ (ld_blt I hg hm PyProof.Rows.boot_zip (PyProof.Rows.callWith_type1 (thn (ha.run pos pins s σ H _ I hq) fun us s1 ⟨vs, H1, I1, r1, x, y, ev, q⟩ => ?_) (star1 ha1) (by rw [star1 hb1]; rfl)))
  subst ev
  obtain ⟨u, u', rfl, ⟨t, rfl⟩, ⟨t', rfl⟩⟩ := vals2 r1
  refine zip_begins2 (begins_text (tx x) t) (begins_text (tx y) t') trivial trivial fun h' hz hTI hTO h1 h2 hsz hk => wpAny_pyIter_zip hz ?_
  have S : ZipSep2 (s1.heap.objs.size + 4) (s1.heap.objs.size + 2) (s1.heap.objs.size + 3) s1.heap.objs.size (s1.heap.objs.size + 1) [s1.heap.objs.size] [s1.heap.objs.size + 1] := zip_sep2 (fp1 := []) (fp2 := []) (by simp) (by simp)
  refine ⟨_, _, _, _, H1, rfl, I1.kept (t' := s1.toks) (h' := h') hk, turn_zs (x := tx x) (y := tx y) (t := t) (u := t') S, ⟨hz, hTI, ⟨_, _, hTO⟩, ⟨_, h1, rfl, rfl⟩, ⟨_, h2, rfl, rfl⟩⟩, fun b hb => ?_, q⟩
  have above : s1.heap.objs.size ≤ b := by
    simp only [in_cons, in_nil, or_false] at hb
    rcases hb with z | z | z | z | z <;> rw [z] <;> first | exact Nat.le_refl _ | exact Nat.le_add_right _ _
  exact I1.fpOk above (I1.hok.fresh above)
theorem pi_zsD {es : IEs} {a b : Expr} {p pos tpos : Pos} {elts : List Expr} {kk : Nat} (hg : Gl X "zip") (hm : X.mg "zip" = none) (ha : PA X [a, b] (tF X.K g w es)) (ha1 : noStar a = true) (hb1 : noStar b = true) :
    PI X (.Tuple elts kk tpos) (.Call (.Name "zip" p) [a, b] [] pos) (tI X.K g w (.zip es)) := by
  refine PI.mk fun pins s σ H R I ⟨e, fr, F, R0, h⟩ => ?_
  unfold evI at h
  have texts := (pi_zs (p := p) (pos := pos) (tpos := tpos) (elts := elts) (kk := kk) hg hm ha ha1 hb1).run pins s σ H R I
  have lists := (pi_zip (p := p) (pos := pos) (tpos := tpos) (elts := elts) (kk := kk) hg hm ha (star1 ha1) (by rw [star1 hb1]; rfl)).run pins s σ H R I
  cases q : evF w es fr with
  | stuck => rw [q] at h; exact h.elim
  | exc c fs t => rw [q] at h; exact texts ⟨e, fr, F, R0, by rw [q]; exact h⟩
  | ok ds t =>
    rw [q] at h
    simp only [Rs.bind] at h
    split at h
    · exact texts ⟨e, fr, F, R0, by
        rw [q]
        intro H1 F1 R1 sm vs ra
        obtain ⟨v, u, rfl, rp, rp'⟩ := ra.two
        cases rp
        cases rp'
        exact ⟨_, _, rfl, h H1 F1 R1 sm _ (jok_zs _ _)⟩⟩
    · exact lists ⟨e, fr, F, R0, by
        rw [q]
        intro H1 F1 R1 sm vs ra
        obtain ⟨v, u, rfl, rp, rp'⟩ := ra.two
        cases rp with
        | @lst c ws xs hF hl hr =>
          cases rp' with
          | @lst d us ys hF' hl' hr' => exact ⟨c, d, ws, us, rfl, .of (R1.sub _ _ hF), .of (R1.sub _ _ hF'), h H1 F1 R1 sm _ (jok_zl hF hF' ⟨hl, hr⟩ ⟨hl', hr'⟩)⟩⟩
    · exact h.elim
end
end Pi
set_option maxRecDepth 100000
set_option maxHeartbeats 3900000
namespace Pi
open PySem PySem.Spec L2 PyProof.Rows
/-! ### slots stored, wiped, brought back -/
section
variable {K : PySem.W.Frag} {e : En} {s s' : Fr} {σ : Sg} {F F' H H' : Hp} {v : V} {d : D} {xs : List D}
theorem set_get {α : Type} {l : List α} {i j : Nat} {x y : α} (h : (l.set i x)[j]? = some y) : (i = j ∧ y = x) ∨ (i ≠ j ∧ l[j]? = some y) := by
  by_cases e : i = j
  · subst e
    by_cases hl : i < l.length
    · rw [List.getElem?_set_self hl] at h
      cases h
      exact .inl ⟨rfl, rfl⟩
    · rw [List.getElem?_eq_none (by simpa using hl)] at h
      cases h
  · rw [List.getElem?_set_ne e] at h
    exact .inr ⟨e, h⟩
/-- a slot is stored: neither of one's own -/
theorem Rl.put1 {i : Nat} {x : Sl} {o : Option V} (R : Rl K e s σ F H) (hx : isOwn x = false) (ok : i < σ.length → SlOk K e (σ.set i o) F H i x) : Rl K e (s.put i x) (σ.set i o) F H := by
  refine ⟨R.sub, R.fnew, R.f0, R.keep, R.cell, fun j y q => ?_, fun j k x' y' q1 q2 i1 i2 z => ?_, by show (s.sl.set i x).length = (σ.set i o).length; simp [R.len]⟩
  · rcases set_get q with ⟨rfl, rfl⟩ | ⟨ne, q⟩
    · refine ok ?_
      have z : i < (s.sl.set i y).length := (List.getElem?_eq_some_iff.mp q).1
      rw [List.length_set, R.len] at z
      exact z
    · have k := R.slot j y q
      have es : (σ.set i o)[j]? = σ[j]? := List.getElem?_set_ne ne
      cases y with
      | un => trivial
      | val d =>
        obtain ⟨u, h1, h2⟩ := k
        exact ⟨u, by rw [es]; exact h1, h2⟩
      | own xs =>
        obtain ⟨p, vs, h1, h2⟩ := k
        exact ⟨p, vs, by rw [es]; exact h1, h2⟩
      | ref =>
        obtain ⟨a, h1, h2⟩ := k
        exact ⟨a, h1, by rw [es]; exact h2⟩
  · rcases set_get q1 with ⟨rfl, rfl⟩ | ⟨n1, q1⟩
    · rw [hx] at i1; cases i1
    · rcases set_get q2 with ⟨rfl, rfl⟩ | ⟨n2, q2⟩
      · rw [hx] at i2; cases i2
      · rw [List.getElem?_set_ne n1, List.getElem?_set_ne n2] at z
        exact R.dist j k x' y' q1 q2 i1 i2 z
theorem Rl.store {i : Nat} (R : Rl K e s σ F H) (r : Rp K F v d) : Rl K e (s.put i (.val d)) (σ.set i (some v)) F H :=
  R.put1 rfl fun hl => ⟨v, List.getElem?_set_self hl, r⟩
theorem Rl.gone {i : Nat} {o : Option V} (R : Rl K e s σ F H) : Rl K e (s.put i .un) (σ.set i o) F H := R.put1 rfl fun _ => trivial
/-- .. a list of one's own -/
theorem Rl.storeO {i : Nat} (R : Rl K e s σ F H) (r : Rv K e s σ F H v (.fresh xs)) : Rl K e (s.put i (.own xs)) (σ.set i (some v)) F H := by
  obtain ⟨p, vs, rfl, h0, hF, hc, hp, ra, no⟩ := r
  refine ⟨R.sub, R.fnew, R.f0, R.keep, R.cell, fun j y q => ?_, fun j k x' y' q1 q2 i1 i2 z => ?_, by show (s.sl.set i _).length = (σ.set i _).length; simp [R.len]⟩
  · have il : i < s.sl.length → i < σ.length := fun h => by rw [← R.len]; exact h
    rcases set_get q with ⟨rfl, rfl⟩ | ⟨ne, q⟩
    · have z : i < (s.sl.set i (.own xs)).length := (List.getElem?_eq_some_iff.mp q).1
      rw [List.length_set] at z
      exact ⟨p, vs, List.getElem?_set_self (il z), h0, hF, hc, hp, ra⟩
    · have k := R.slot j y q
      have es : (σ.set i (some (V.ref p)))[j]? = σ[j]? := List.getElem?_set_ne ne
      cases y with
      | un => trivial
      | val d =>
        obtain ⟨u, h1, h2⟩ := k
        exact ⟨u, by rw [es]; exact h1, h2⟩
      | own xs =>
        obtain ⟨p, vs, h1, h2⟩ := k
        exact ⟨p, vs, by rw [es]; exact h1, h2⟩
      | ref =>
        obtain ⟨a, h1, h2⟩ := k
        exact ⟨a, h1, by rw [es]; exact h2⟩
  · have here : ∀ {y : Sl}, (s.sl.set i (.own xs))[i]? = some y → i < σ.length := fun {y} h => by
      have z := (List.getElem?_eq_some_iff.mp h).1
      rw [List.length_set, R.len] at z
      exact z
    rcases set_get q1 with ⟨rfl, rfl⟩ | ⟨n1, q1'⟩
    · rcases set_get q2 with ⟨rfl, rfl⟩ | ⟨n2, q2'⟩
      · rfl
      · rw [List.getElem?_set_self (here q1), List.getElem?_set_ne n2] at z
        exact absurd z.symm (no k y' q2' i2)
    · rcases set_get q2 with ⟨rfl, rfl⟩ | ⟨n2, q2'⟩
      · rw [List.getElem?_set_self (here q2), List.getElem?_set_ne n1] at z
        exact absurd z (no j x' q1' i1)
      · rw [List.getElem?_set_ne n1, List.getElem?_set_ne n2] at z
        exact R.dist j k x' y' q1' q2' i1 i2 z
theorem wipeS (s : Fr) (i : Nat) (is : List Nat) : s.wipe (i :: is) = (s.put i .un).wipe is := rfl
theorem Rl.wipe (R : Rl K e s σ F H) : ∀ is : List Nat, Rl K e (s.wipe is) (L2.wipe σ is) F H := by
  intro is
  have len : ∀ (is : List Nat) (l : List Sl), (is.foldl (fun l i => l.set i Sl.un) l).length = l.length := by
    intro is
    induction is with
    | nil => intro l; rfl
    | cons i is ih => intro l; rw [List.foldl_cons, ih, List.length_set]
  have get : ∀ (is : List Nat) (l : List Sl) (j : Nat) (x : Sl), (is.foldl (fun l i => l.set i Sl.un) l)[j]? = some x → x = .un ∨ (l[j]? = some x ∧ j ∉ is) := by
    intro is
    induction is with
    | nil => intro l j x h; exact .inr ⟨h, by simp⟩
    | cons i is ih =>
      intro l j x h
      rcases ih _ j x h with rfl | ⟨h1, h2⟩
      · exact .inl rfl
      · rcases set_get h1 with ⟨_, rfl⟩ | ⟨ne, h3⟩
        · exact .inl rfl
        · exact .inr ⟨h3, by simp only [List.mem_cons, not_or]; exact ⟨fun z => ne z.symm, h2⟩⟩
  have keepσ : ∀ (is : List Nat) (j : Nat), j ∉ is → (L2.wipe σ is)[j]? = σ[j]? := by
    intro is
    induction is with
    | nil => intro j _; rfl
    | cons i is ih =>
      intro j hj
      simp only [List.mem_cons, not_or] at hj
      unfold L2.wipe
      rw [List.getElem?_set_ne (fun z => hj.1 z.symm)]
      exact ih j hj.2
  refine ⟨R.sub, R.fnew, R.f0, R.keep, R.cell, fun j x q => ?_, fun j k x y q1 q2 i1 i2 z => ?_, by show (is.foldl _ s.sl).length = _; rw [len, wipe_length]; exact R.len⟩
  · rcases get is s.sl j x q with rfl | ⟨h1, h2⟩
    · trivial
    · have k := R.slot j x h1
      have es := keepσ is j h2
      cases x with
      | un => trivial
      | val d =>
        obtain ⟨u, h3, h4⟩ := k
        exact ⟨u, by rw [es]; exact h3, h4⟩
      | own xs =>
        obtain ⟨p, vs, h3, h4⟩ := k
        exact ⟨p, vs, by rw [es]; exact h3, h4⟩
      | ref =>
        obtain ⟨a, h3, h4⟩ := k
        exact ⟨a, h3, by rw [es]; exact h4⟩
  · rcases get is s.sl j x q1 with rfl | ⟨h1, h2⟩
    · cases i1
    · rcases get is s.sl k y q2 with rfl | ⟨h3, h4⟩
      · cases i2
      · rw [keepσ is j h2, keepσ is k h4] at z
        exact R.dist j k x y h1 h3 i1 i2 z
/-- the slots as they were -/
theorem Rl.back {s1 : Fr} {F1 H1 : Hp} {σ' : Sg} {is : List Nat} (R1 : Rl K e s1 σ F1 H1) (R : Rl K e s σ' F H) (sm : Same F1 F) (hσ : L2.wipe σ' is = L2.wipe σ is) : Rl K e (s.back s1 is) σ F H := by
  have hlen : σ'.length = σ.length := by
    have := congrArg List.length hσ
    rwa [wipe_length, wipe_length] at this
  have len : ∀ (is : List Nat) (l : List Sl), (is.foldl (fun l i => l.set i (s1.sl.getD i .un).left) l).length = l.length := by
    intro is
    induction is with
    | nil => intro l; rfl
    | cons i is ih => intro l; rw [List.foldl_cons, ih, List.length_set]
  have get : ∀ (is : List Nat) (l : List Sl) (j : Nat) (x : Sl), (is.foldl (fun l i => l.set i (s1.sl.getD i .un).left) l)[j]? = some x → x = (s1.sl.getD j .un).left ∨ (l[j]? = some x ∧ j ∉ is) := by
    intro is
    induction is with
    | nil => intro l j x h; exact .inr ⟨h, by simp⟩
    | cons i is ih =>
      intro l j x h
      rcases ih _ j x h with rfl | ⟨h1, h2⟩
      · exact .inl rfl
      · rcases set_get h1 with ⟨rfl, rfl⟩ | ⟨ne, h3⟩
        · exact .inl rfl
        · exact .inr ⟨h3, by simp only [List.mem_cons, not_or]; exact ⟨fun z => ne z.symm, h2⟩⟩
  have keepσ : ∀ (σ : Sg) (is : List Nat) (j : Nat), j ∉ is → (L2.wipe σ is)[j]? = σ[j]? := by
    intro σ is
    induction is with
    | nil => intro j _; rfl
    | cons i is ih =>
      intro j hj
      simp only [List.mem_cons, not_or] at hj
      unfold L2.wipe
      rw [List.getElem?_set_ne (fun z => hj.1 z.symm)]
      exact ih j hj.2
  have eqσ : ∀ j, j ∉ is → σ'[j]? = σ[j]? := fun j hj => by rw [← keepσ σ' is j hj, ← keepσ σ is j hj, hσ]
  have left_own : ∀ x : Sl, isOwn x.left = false := fun x => by cases x <;> rfl
  refine ⟨R.sub, R.fnew, R.f0, R.keep, R.cell, fun j x q => ?_, fun j k x y q1 q2 i1 i2 z => ?_, by show (is.foldl _ s.sl).length = _; rw [len, R.len, hlen]⟩
  · rcases get is s.sl j x q with rfl | ⟨h1, h2⟩
    · cases q1 : s1.sl[j]? with
      | none =>
        rw [List.getD_eq_getElem?_getD, q1]
        trivial
      | some y =>
        have k := R1.slot j y q1
        rw [List.getD_eq_getElem?_getD, q1]
        cases y with
        | un => trivial
        | own _ => trivial
        | val d =>
          obtain ⟨u, h3, h4⟩ := k
          exact ⟨u, h3, h4.mono sm⟩
        | ref => exact k
    · have k := R.slot j x h1
      have es := eqσ j h2
      cases x with
      | un => trivial
      | val d =>
        obtain ⟨u, h3, h4⟩ := k
        exact ⟨u, by rw [← es]; exact h3, h4⟩
      | own xs =>
        obtain ⟨p, vs, h3, h4⟩ := k
        exact ⟨p, vs, by rw [← es]; exact h3, h4⟩
      | ref =>
        obtain ⟨a, h3, h4⟩ := k
        exact ⟨a, h3, by rw [← es]; exact h4⟩
  · rcases get is s.sl j x q1 with rfl | ⟨h1, h2⟩
    · rw [left_own] at i1; cases i1
    · rcases get is s.sl k y q2 with rfl | ⟨h3, h4⟩
      · rw [left_own] at i2; cases i2
      · rw [← eqσ j h2, ← eqσ k h4] at z
        exact R.dist j k x y h1 h3 i1 i2 z
/-! ### an object of one's own that stands aside while others are reckoned -/
def En.with (e : En) (p : Addr) (o : HO) : En := ⟨e.c, e.F0, upd e.H0 p o⟩
theorem Rl.aside {p : Addr} {o : HO} (R : Rl K e s σ F H) (hp : H p = none) : Rl K (e.with p o) s σ F (upd H p o) := by
  have n := R.nw hp
  have ne : ∀ {b : Addr} {u : HO}, H b = some u → b ≠ p := fun {b u} q => ne_of_none q hp
  refine ⟨fun b u q => ?_, fun b u q => ?_, R.f0, fun b u q hc => ?_, fun a ha => ?_, fun i x q => ?_, R.dist, R.len⟩
  · rw [upd_ne (ne (R.sub b u q))]
    exact R.sub b u q
  · rcases R.fnew b u q with z | z
    · exact .inl z
    · refine .inr ?_
      show upd e.H0 p o b = none
      rw [upd_ne (ne (R.sub b u q))]
      exact z
  · have q : upd e.H0 p o b = some u := q
    by_cases hb : b = p
    · subst hb
      rw [upd_same] at q ⊢
      exact q
    · rw [upd_ne hb] at q ⊢
      exact R.keep b u q hc
  · obtain ⟨h1, vs, h2, r⟩ := R.cell a ha
    exact ⟨h1, vs, by rw [upd_ne (ne h2)]; exact h2, r⟩
  · have k := R.slot i x q
    cases x with
    | own xs =>
      obtain ⟨p', vs, hw, h1, h2, h3, h4, r⟩ := k
      exact ⟨p', vs, hw, by show upd e.H0 p o p' = none; rw [upd_ne (ne h4)]; exact h1, h2, h3, by rw [upd_ne (ne h4)]; exact h4, r⟩
    | un => exact k
    | val _ => exact k
    | ref => exact k
/-- what is known of it -/
structure As (e : En) (p : Addr) : Prop where
  h0 : e.H0 p = none
  f0 : e.F0 p = none
  c : some p ≠ e.c
theorem Rl.as {p : Addr} (R : Rl K e s σ F H) (hp : H p = none) : As e p := by
  have n := R.nw hp
  refine ⟨n.h0, ?_, n.c⟩
  cases q : e.F0 p with
  | none => rfl
  | some u =>
    have := R.f0 p u q
    rw [n.f] at this
    cases this
theorem Rl.asF {p : Addr} {o : HO} (A : As e p) (R : Rl K (e.with p o) s σ F H) : F p = none := by
  cases q : F p with
  | none => rfl
  | some u =>
    rcases R.fnew p u q with z | z
    · have z : e.F0 p = some u := z
      rw [A.f0] at z
      cases z
    · have z : upd e.H0 p o p = none := z
      rw [upd_same] at z
      cases z
theorem Rl.asH {p : Addr} {o : HO} (A : As e p) (R : Rl K (e.with p o) s σ F H) : H p = some o := R.keep p o upd_same A.c
theorem Rl.asO {p : Addr} {o : HO} (R : Rl K (e.with p o) s σ F H) (i : Nat) (x : Sl) (q : s.sl[i]? = some x) (io : isOwn x = true) : σ[i]? ≠ some (some (.ref p)) := by
  intro z
  have k := R.slot i x q
  cases x with
  | own xs =>
    obtain ⟨p', vs, hw, h1, _⟩ := k
    rw [z] at hw
    cases hw
    have h1 : upd e.H0 p o p = none := h1
    rw [upd_same] at h1
    cases h1
  | un => cases io
  | val _ => cases io
  | ref => cases io
/-- it changes -/
theorem Rl.asSet {p : Addr} {o o' : HO} (A : As e p) (R : Rl K (e.with p o) s σ F H) : Rl K (e.with p o') s σ F (upd H p o') := by
  have hF := R.asF A
  have own := R.asO
  refine ⟨fun b u q => ?_, fun b u q => ?_, R.f0, fun b u q hc => ?_, fun a ha => ?_, fun i x q => ?_, R.dist, R.len⟩
  · rw [upd_ne (ne_of_none q hF)]
    exact R.sub b u q
  · rcases R.fnew b u q with z | z
    · exact .inl z
    · refine .inr ?_
      have z : upd e.H0 p o b = none := z
      show upd e.H0 p o' b = none
      rw [upd_ne (ne_of_none q hF)] at z ⊢
      exact z
  · have q : upd e.H0 p o' b = some u := q
    by_cases hb : b = p
    · subst hb
      rw [upd_same] at q ⊢
      exact q
    · rw [upd_ne hb] at q ⊢
      exact R.keep b u (by show upd e.H0 p o b = some u; rw [upd_ne hb]; exact q) hc
  · obtain ⟨h1, vs, h2, r⟩ := R.cell a ha
    have na : a ≠ p := fun z => A.c (by rw [← z]; exact ha.symm)
    exact ⟨h1, vs, by rw [upd_ne na]; exact h2, r⟩
  · have k := R.slot i x q
    cases x with
    | own xs =>
      obtain ⟨p', vs, hw, h1, h2, h3, h4, r⟩ := k
      have np : p' ≠ p := fun z => own i _ q rfl (by rw [hw, z])
      have h1 : upd e.H0 p o p' = none := h1
      rw [upd_ne np] at h1
      exact ⟨p', vs, hw, by show upd e.H0 p o' p' = none; rw [upd_ne np]; exact h1, h2, h3, by rw [upd_ne np]; exact h4, r⟩
    | un => exact k
    | val _ => exact k
    | ref => exact k
/-- it is one's own again -/
theorem Rl.asEnd {p : Addr} {o : HO} (A : As e p) (R : Rl K (e.with p o) s σ F H) : Rl K e s σ F H := by
  have own := R.asO
  refine ⟨R.sub, fun b u q => ?_, R.f0, fun b u q hc => ?_, R.cell, fun i x q => ?_, R.dist, R.len⟩
  · rcases R.fnew b u q with z | z
    · exact .inl z
    · refine .inr ?_
      have z : upd e.H0 p o b = none := z
      by_cases hb : b = p
      · rw [hb]; exact A.h0
      · rw [upd_ne hb] at z
        exact z
  · have hb : b ≠ p := fun z => by rw [z, A.h0] at q; cases q
    exact R.keep b u (by show upd e.H0 p o b = some u; rw [upd_ne hb]; exact q) hc
  · have k := R.slot i x q
    cases x with
    | own xs =>
      obtain ⟨p', vs, hw, h1, h2, h3, h4, r⟩ := k
      have np : p' ≠ p := fun z => own i _ q rfl (by rw [hw, z])
      have h1 : upd e.H0 p o p' = none := h1
      rw [upd_ne np] at h1
      exact ⟨p', vs, hw, h1, h2, h3, h4, r⟩
    | un => exact k
    | val _ => exact k
    | ref => exact k
end
end Pi
set_option maxRecDepth 100000
set_option maxHeartbeats 3900000
namespace Pi
open PySem PySem.Spec L2 PyProof.Rows
theorem wipe_get (σ : Sg) : ∀ (is : List Nat) (j : Nat), (L2.wipe σ is)[j]? = if j ∈ is then (σ[j]?).map (fun _ => none) else σ[j]?
  | [], j => by simp [L2.wipe]
  | i :: is, j => by
    unfold L2.wipe
    by_cases h : i = j
    · subst h
      have hm : i ∈ i :: is := by simp
      rw [if_pos hm]
      by_cases hl : i < σ.length
      · rw [List.getElem?_set_self (by rw [wipe_length]; exact hl), List.getElem?_eq_getElem hl]
        rfl
      · rw [List.getElem?_eq_none (by rw [List.length_set, wipe_length]; omega), List.getElem?_eq_none (by omega)]
        rfl
    · rw [List.getElem?_set_ne h, wipe_get σ is j]
      have hm : (j ∈ i :: is) ↔ j ∈ is := by simp [Ne.symm h]
      by_cases hj : j ∈ is
      · rw [if_pos hj, if_pos (hm.mpr hj)]
      · rw [if_neg hj, if_neg (fun z => hj (hm.mp z))]
theorem wipe_idem (σ : Sg) (is : List Nat) : L2.wipe (L2.wipe σ is) is = L2.wipe σ is := by
  apply List.ext_getElem?; intro j
  rw [wipe_get, wipe_get]
  by_cases h : j ∈ is
  · simp only [if_pos h, Option.map_map]
    rfl
  · simp only [if_neg h]
theorem wipe_set (σ : Sg) (is : List Nat) (i : Nat) (o : Option V) (h : i ∈ is) : L2.wipe (σ.set i o) is = L2.wipe σ is := by
  apply List.ext_getElem?; intro j
  rw [wipe_get, wipe_get]
  by_cases hj : j ∈ is
  · simp only [if_pos hj]
    by_cases e : i = j
    · subst e
      by_cases hl : i < σ.length
      · rw [List.getElem?_set_self hl, List.getElem?_eq_getElem hl]; rfl
      · rw [List.getElem?_eq_none (by rw [List.length_set]; omega), List.getElem?_eq_none (by omega)]
    · rw [List.getElem?_set_ne e]
  · simp only [if_neg hj]
    rw [List.getElem?_set_ne (fun z => hj (by rw [← z]; exact h))]
theorem wipe_sub {σ σ' : Sg} {is js : List Nat} (h : L2.wipe σ is = L2.wipe σ' is) (hs : ∀ i ∈ is, i ∈ js) : L2.wipe σ js = L2.wipe σ' js := by
  apply List.ext_getElem?; intro j
  have z := congrArg (fun l : Sg => l[j]?) h
  simp only [wipe_get] at z ⊢
  by_cases hj : j ∈ js
  · simp only [if_pos hj]
    by_cases hi : j ∈ is
    · simp only [if_pos hi] at z
      exact z
    · simp only [if_neg hi] at z
      rw [z]
  · have hi : j ∉ is := fun q => hj (hs j q)
    simp only [if_neg hi] at z
    simp only [if_neg hj]
    exact z
theorem putAll_len : ∀ {is : List Nat} {s s' : Fr} {ds : List D}, putAll s is ds = some s' → ds.length = is.length
  | [], _, _, [], _ => rfl
  | [], _, _, _ :: _, h => by cases h
  | _ :: _, _, _, [], h => by cases h
  | i :: is, s, s', d :: ds, h => by simp [putAll_len (is := is) (ds := ds) h]
/-! ### targets of loops -/
def gT (K : PySem.W.Frag) (tg : Tg) : L2.TG := fun v σ H Q => ∃ e s F d s', Rl K e s σ F H ∧ Rp K F v d ∧ tg.bind d s = some s' ∧ ∀ σ', L2.wipe σ' tg.slots = L2.wipe σ tg.slots → Rl K e s' σ' F H → Q σ' H
def gNs (K : PySem.W.Frag) (is : List Nat) : TGs := fun vs σ H Q => ∃ e s F ds s', Rl K e s σ F H ∧ RpA K F vs ds ∧ putAll s is ds = some s' ∧ ∀ σ', L2.wipe σ' is = L2.wipe σ is → Rl K e s' σ' F H → Q σ' H
theorem L2PG_imp {X : Cx} {e : Expr} {t t' : L2.TG} (h : PG X e t) (i : ∀ v σ H Q, t' v σ H Q → t v σ H Q) : PG X e t' := ⟨fun pins s σ H v u Q I r q => h.run pins s σ H v u Q I r (i v σ H Q q)⟩
theorem L2PGs_imp {X : Cx} {e : List Expr} {t t' : TGs} (h : PGs X e t) (i : ∀ v σ H Q, t' v σ H Q → t v σ H Q) : PGs X e t' := ⟨fun pins s σ H v u Q I r q => h.run pins s σ H v u Q I r (i v σ H Q q)⟩
section
variable {X : Cx} {fn : Str → Bool}
theorem tg_loc {N : List Str} {sc : Scope} {x : Str} {i : Nat} (h : tgOk N sc fn x i = true) : N[i]? = some x ∧ Loc sc x ∧ (fn x = true ∨ sc.names.lookup x = some .local) := by
  unfold tgOk at h
  simp only [and_iff2, dec_iff] at h
  obtain ⟨h1, h2⟩ := h
  refine ⟨h1, ?_⟩
  split at h2
  · rename_i q
    exact ⟨.inl q, .inr q⟩
  · rename_i q
    exact ⟨.inr q, .inl h2⟩
  · cases h2
theorem pg_nm {x : Str} {pos : Pos} {i : Nat} (hN : X.N.Nodup) (hf : ∀ x, fn x = true → X.fn x = true) (h : tgOk X.N X.env.scope fn x i = true) : PG X (.Name x pos) (gT X.K (.nm i)) := by
  obtain ⟨h1, h2, h3⟩ := tg_loc h
  refine L2PG_imp (pg_name hN h1 h2 (h3.imp (hf x) id)) fun v σ H Q ⟨e, s, F, d, s', R, rp, q, k⟩ => ?_
  cases q
  exact k _ (wipe_set σ [i] i (some v) (by simp)) (R.store rp)
theorem each_names {env : Env} {N : List Str} {sc : Scope} : ∀ {is : List Nat} {es : List Expr}, tgsOk N sc fn is es = true → (assignEach es env).length = is.length ∧ (assignEach es env).findIdx? (·.1) = none
  | [], [], _ => ⟨rfl, rfl⟩
  | i :: is, [], h => by unfold tgsOk at h; cases h
  | [], _ :: _, h => by unfold tgsOk at h; cases h
  | i :: is, e :: es, h => by
    cases e <;> first | (simp only [tgsOk, Bool.false_eq_true] at h; done) | skip
    rename_i x pos
    simp only [tgsOk, Bool.and_eq_true] at h
    obtain ⟨h1, h2⟩ := each_names (env := env) h.2
    refine ⟨?_, ?_⟩
    · show (assignEach es env).length + 1 = _
      rw [h1]; rfl
    · show ((false, _) :: assignEach es env).findIdx? (·.1) = none
      rw [List.findIdx?_cons]
      simp [h2]
theorem pgs_nms (hN : X.N.Nodup) (hf : ∀ x, fn x = true → X.fn x = true) : ∀ {is : List Nat} {es : List Expr}, tgsOk X.N X.env.scope fn is es = true → PGs X es (gNs X.K is)
  | [], [], _ => L2PGs_imp pgs_nil fun vs σ H Q ⟨e, s, F, ds, s', R, ra, q, k⟩ => by
    cases ds with
    | cons _ _ => cases q
    | nil =>
      cases q
      have z : vs = [] := List.eq_nil_of_length_eq_zero ra.1
      exact ⟨z, k σ rfl R⟩
  | i :: is, [], h => by unfold tgsOk at h; cases h
  | [], _ :: _, h => by unfold tgsOk at h; cases h
  | i :: is, e :: es, h => by
    cases e <;> first | (simp only [tgsOk, Bool.false_eq_true] at h; done) | skip
    rename_i x pos
    simp only [tgsOk, Bool.and_eq_true] at h
    obtain ⟨h1, h2, h3⟩ := tg_loc h.1
    refine L2PGs_imp (pgs_cons (pg_name hN h1 h2 (h3.imp (hf x) id)) (pgs_nms hN hf h.2)) fun vs σ H Q ⟨e, s, F, ds, s', R, ra, q, k⟩ => ?_
    cases ds with
    | nil => cases q
    | cons d ds =>
      cases vs with
      | nil => have := ra.1; simp at this
      | cons v vs =>
        obtain ⟨r1, r2⟩ := ra.cons_inv
        refine ⟨v, vs, rfl, e, s.put i (.val d), F, ds, s', R.store r1, r2, q, fun σ' hw R' => k σ' ?_ R'⟩
        have hw2 := wipe_sub (js := i :: is) hw (fun j hj => List.mem_cons_of_mem _ hj)
        rw [hw2]
        exact wipe_set σ (i :: is) i (some v) (by simp)
theorem pg_T {N : List Str} {sc : Scope} (hc : X.calm = true) (hXN : X.N = N) (hsc : X.env.scope = sc) (hN : X.N.Nodup) (hf : ∀ x, fn x = true → X.fn x = true) : ∀ {tg : Tg} {e : Expr}, chkTg N sc fn tg e = true → PG X e (gT X.K tg) := by
  subst hXN hsc
  intro tg e h
  cases tg with
  | nm i =>
    cases e <;> first | (simp only [chkTg, Bool.false_eq_true] at h; done) | skip
    exact pg_nm hN hf h
  | tp is =>
    cases e <;> first | (simp only [chkTg, Bool.false_eq_true] at h; done) | skip
    rename_i es kk pos
    have h : tgsOk X.N X.env.scope fn is es = true := h
    obtain ⟨l1, l2⟩ := each_names (env := X.env) h
    refine L2PG_imp (pg_tup hc (pgs_nms hN hf h) l1 l2) fun v σ H Q ⟨e, s, F, d, s', R, rp, q, k⟩ => ?_
    unfold Tg.bind at q
    cases d <;> simp only [reduceCtorEq] at q
    rename_i ds
    cases rp with
    | @tup a vs _ hF hl hr =>
      refine ⟨a, vs, rfl, sqt_mono R.sub hF, ?_, e, s, F, ds, s', R, ⟨hl, hr⟩, q, k⟩
      rw [hl]
      exact putAll_len q
/-! ### [.. for .. in .. if ..] -/
def g0 (g : Wi) : Wi := ⟨g.cn, fun _ _ _ _ => False⟩
def tCd (K : PySem.W.Frag) (g : Wi) (w : Wd) (c : IO) : TT := fun σ H Q => ∃ e s F, Rl K e s σ F H ∧ Po K g e σ F (fun b _ _ H => Q b H) (evC w c s)
theorem drop_get {α : Type} {l : List α} {i : Nat} {x : α} (h : l[i]? = some x) : l.drop i = x :: l.drop (i + 1) := by
  rw [List.drop_eq_getElem_cons (lt_get h), (List.getElem_eq_iff (lt_get h)).mpr h]
theorem t_lcm {g : Wi} {w : Wd} {a : IE} {tg : Tg} {it : IT} {cond : IO} {σ : Sg} {H : Hp} {Q : VK} (h : tE X.K g w (.lcm a tg it cond) σ H Q) : tLc (tI X.K g w it) (gT X.K tg) (tCd X.K (g0 g) w cond) (tE X.K (g0 g) w a) tg.slots σ H Q := by
  obtain ⟨e, s, F, R, h⟩ := h
  unfold ev at h
  refine ⟨e, s, F, R, h.bind.imp fun xs s1 F1 H1 R1 sm h1 J jok pD hD => ?_⟩
  generalize hf : (fun (x : D) (s2 : Fr) => match tg.bind x (s2.wipe tg.slots) with
      | none => Rs.stuck
      | some s3 => (evC w cond s3).bind fun t s4 => if t then (ev w a s4).bind fun y s5 => (y.fz s5).bind fun d s6 => Rs.ok (some d) s6 else Rs.ok none s4) = f at h1
  cases q : lcGo f xs s1 with
  | stuck => simp only [q] at h1; exact h1.elim
  | exc c fs t => simp only [q] at h1; exact h1.elim
  | ok ds s2 =>
    simp only [q] at h1
    split at h1
    case isFalse => exact h1.elim
    rename_i hlim
    have A := R1.as hD
    refine ⟨fun i m H => ∃ s' F' acc as rest, Rl X.K (e.with pD (.lst acc)) (s'.wipe tg.slots) (L2.wipe σ tg.slots) F' H ∧ Same F1 F' ∧ RpA X.K F' acc as ∧ lcGo f (xs.drop i) s' = .ok rest s2 ∧ as ++ rest = ds ∧ m = xs.length - i ∧ i ≤ xs.length,
      ⟨xs.length, s1, F1, [], [], ds, (R1.aside hD).wipe _, Same.refl F1, .nil, by rw [List.drop_zero]; exact q, rfl, by omega, by omega⟩, ?_⟩
    rintro i m H ⟨s', F', acc, as, rest, R', sm', ra, hgo, hds, rfl, hi⟩
    cases hx : xs[i]? with
    | none =>
      have hl : i = xs.length := by
        have := List.getElem?_eq_none_iff.mp hx
        omega
      subst hl
      refine .inl ⟨(jok.mono sm').stop H R'.sub, ?_⟩
      rw [List.drop_length] at hgo
      unfold lcGo at hgo
      cases hgo
      rw [List.append_nil] at hds
      subst hds
      have RE := R'.asEnd A
      have RB : Rl X.K e ((s2.wipe tg.slots).back s1 tg.slots) σ F' H := R1.back RE sm' (wipe_idem σ _)
      refine h1 H F' RB sm' _ ⟨pD, acc, rfl, A.h0, R'.asF A, A.c, R'.asH A, ra, fun j x qj io z => ?_⟩
      -- no slot of one's own holds it
      have k := RB.slot j x qj
      cases x with
      | own ys =>
        obtain ⟨p', vs, hw, k1, k2, k3, k4, k5⟩ := k
        rw [z] at hw
        cases hw
        have RB2 : Rl X.K (e.with pD (.lst acc)) ((s2.wipe tg.slots).back s1 tg.slots) σ F' H := by
          have R1' := (R1.aside (o := .lst acc) hD)
          exact R1'.back R' sm' (wipe_idem σ _)
        exact RB2.asO j _ qj rfl z
      | un => cases io
      | val _ => cases io
      | ref => cases io
    | some x =>
      refine .inr ⟨((jok.mono sm').go i H x R'.sub hx).1, fun H' => ∃ s' F' acc as rest, Rl X.K (e.with pD (.lst acc)) (s'.wipe tg.slots) (L2.wipe σ tg.slots) F' H' ∧ Same F1 F' ∧ RpA X.K F' acc as ∧ lcGo f (xs.drop (i + 1)) s' = .ok rest s2 ∧ as ++ rest = ds, fun H' ⟨s', F', acc, as, rest, k1, k2, k3, k4, k5⟩ => ?_, fun v H' y => ?_⟩
      · have hl : i < xs.length := (List.getElem?_eq_some_iff.mp hx).1
        exact ⟨xs.length - (i + 1), by omega, s', F', acc, as, rest, k1, k2, k3, k4, k5, rfl, hl⟩
      · obtain ⟨F2, R2, sm2, rp⟩ := jok.turn R' sm' hx y
        rw [drop_get hx] at hgo
        unfold lcGo at hgo
        cases hfx : f x s' with
        | stuck => simp only [hfx] at hgo; cases hgo
        | exc c fs t => simp only [hfx] at hgo; cases hgo
        | ok yo s3 =>
          simp only [hfx] at hgo
          cases hr : lcGo f (xs.drop (i + 1)) s3 with
          | stuck => simp only [hr] at hgo; cases hgo
          | exc c fs t => simp only [hr] at hgo; cases hgo
          | ok ys s4 =>
            simp only [hr] at hgo
            cases hgo
            rw [← hf] at hfx
            simp only at hfx
            cases hb : tg.bind x (s'.wipe tg.slots) with
            | none => rw [hb] at hfx; cases hfx
            | some sb =>
              rw [hb] at hfx
              simp only at hfx
              refine ⟨_, s'.wipe tg.slots, F2, x, sb, R2, rp, hb, fun σ2 hw R3 => ?_⟩
              rw [wipe_idem] at hw
              refine ⟨hw, _, sb, F2, R3, ?_⟩
              cases hc : evC w cond sb with
              | stuck => rw [hc] at hfx; cases hfx
              | exc c fs t => rw [hc] at hfx; cases hfx
              | ok t sc =>
                rw [hc] at hfx
                simp only [Rs.bind] at hfx
                intro H4 F4 R4 sm4
                cases t with
                | false =>
                  simp only [Bool.false_eq_true, if_false] at hfx ⊢
                  cases hfx
                  refine ⟨_, F4, acc, as, ys, ?_, (sm'.trans sm2).trans sm4, (ra.mono sm2).mono sm4, hr, hds⟩
                  rw [← hw]
                  exact R4.wipe _
                | true =>
                  simp only [if_true] at hfx ⊢
                  refine ⟨_, sc, F4, R4, ?_⟩
                  cases he : ev w a sc with
                  | stuck => rw [he] at hfx; cases hfx
                  | exc c fs t => rw [he] at hfx; cases hfx
                  | ok er s5 =>
                    rw [he] at hfx
                    simp only [Rs.bind] at hfx
                    intro H5 F5 R5 sm5 yv rv
                    cases hz : er.fz s5 with
                    | stuck => rw [hz] at hfx; cases hfx
                    | exc c fs t => exact (fz_no hz).elim
                    | ok d s6 =>
                      rw [hz] at hfx
                      simp only [Rs.bind] at hfx
                      cases hfx
                      obtain ⟨F6, R6, sm6, rp6⟩ := R5.fzz rv hz
                      refine ⟨acc, R6.asH A, ?_, _, F6, acc ++ [yv], as ++ [d], ys, ?_, (((sm'.trans sm2).trans sm4).trans sm5).trans sm6, ?_, hr, ?_⟩
                      · rw [ra.1]
                        have := congrArg List.length hds
                        simp at this
                        have l1 : lim < sizeLine := by decide
                        omega
                      · rw [← hw]
                        exact (R6.asSet A).wipe _
                      · exact ((((ra.mono sm2).mono sm4).mono sm5).mono sm6).append (.cons rp6 .nil)
                      · rw [List.append_assoc]
                        exact hds
end
end Pi
set_option maxRecDepth 100000
set_option maxHeartbeats 3900000
namespace Pi
open PySem PySem.Spec L2 PyProof.Rows
/-! ### errors that were caught, as values -/
theorem ext_at {P : Program} {w : World} {H : Hp} {h : Heap} {b a c : Addr} {d : Option Addr} (hok : HOk P w H h) (e : H b = some (exq a c d)) : ∃ oe vs, h.get? a = some oe ∧ oe.cls = .ref c ∧ oe.dict = d ∧ oe.data = .fields vs := by
  have x : ObjOk P w H h b (.ext fun h => ∃ oe vs, h.get? a = some oe ∧ oe.cls = .ref c ∧ oe.dict = d ∧ oe.data = .fields vs) := hok b _ e
  exact x.1
section
variable {X : Cx} {pins : List (Addr × Obj)} {σ : Sg} {F H : Hp} {s : Shared} {v : V} {c : Tx} {fs : List (Tx × D)}
/-- the fields of an error, as its namespace holds them -/
theorem xd_ns {dx : Addr} {vs : List (Str × V)} (I : Inv X pins σ H s) (h : H dx = some (.xd vs)) : ∃ o, s.heap.get? dx = some o ∧ ∀ n y, vs.lookup n = some y → ∃ u, PySem.W.lookIn n o = some (some u) ∧ RelV y u := by
  rcases (I.hok dx _ h : ObjOk X.prog X.w H s.heap dx (.xd vs)) with ⟨m, ns, rel⟩
  refine (lookIn_ns ns).imp fun o ⟨g, look⟩ => ⟨g, fun n y hy => ?_⟩
  have z := rel n
  rw [hy] at z
  exact (RelO.some_of z).imp fun u ⟨e, r⟩ => ⟨by rw [look, e], r⟩
theorem look_tx {K : PySem.W.Frag} : ∀ {fs : List (Tx × D)} {vs : List (Str × V)} {f : Tx} {d : D}, vs.map (·.1) = fs.map (fun p => tx p.1) → (∀ (i : Nat) p q, vs[i]? = some p → fs[i]? = some q → Rp K F p.2 q.2) → fs.lookup f = some d → ∃ v, vs.lookup (tx f) = some v ∧ Rp K F v d
  | [], _, f, d, _, _, h => by cases h
  | (k, x) :: fs, [], f, d, l, _, _ => by simp at l
  | (k, x) :: fs, (n, y) :: vs, f, d, l, r, h => by
    simp only [List.map_cons, List.cons.injEq] at l
    obtain ⟨rfl, l⟩ := l
    by_cases e : f = k
    · subst e
      simp only [List.lookup, beq_self_eq_true, Option.some.injEq] at h
      subst h
      exact ⟨y, by simp [List.lookup], r 0 _ _ rfl rfl⟩
    · have e1 : (f == k) = false := by simpa using e
      have e2 : (tx f == tx k) = false := (beq_eq_false_iff_ne (a := tx f) (b := tx k)).mpr fun z => e (tx_inj.mp z)
      simp only [List.lookup, e1] at h
      obtain ⟨v, h1, h2⟩ := look_tx l (fun i p q a b => r (i + 1) p q (by simpa using a) (by simpa using b)) h
      exact ⟨v, by simp only [List.lookup, e2]; exact h1, h2⟩
/-- an error as a value: its object, and under each of its fields what stands for the field's data -/
theorem exc_full (I : Inv X pins σ H s) (sm : Same F H) (rp : Rp X.K F v (.exc c fs)) : ∃ a oe od, v = .ref a ∧ PySem.W.InstAt s.heap a oe (adr X.K c) od ∧
    ∀ f d, fs.lookup f = some d → ∃ o y u, od = some o ∧ PySem.W.lookIn (tx f) o = some (some u) ∧ RelV y u ∧ Rp X.K F y d := by
  cases rp with
  | @ex0 a _ h =>
    have ⟨oe, ws, g, k, e, t⟩ := ext_at I.hok (sm _ _ h)
    exact ⟨a, oe, none, rfl, ⟨g, k, by simp [PySem.W.notCls, t], by simp [e]⟩, fun f d l => by cases l⟩
  | @ex1 a dx _ vs _ h hd l r =>
    have ⟨oe, ws, g, k, e, t⟩ := ext_at I.hok (sm _ _ h)
    have ⟨o, go, look⟩ := xd_ns I (sm _ _ hd)
    refine ⟨a, oe, some o, rfl, ⟨g, k, by simp [PySem.W.notCls, t], by rw [e]; exact go⟩, fun f d q => ?_⟩
    have ⟨y, hy, ry⟩ := look_tx l r q
    have ⟨u, hu, ru⟩ := look _ _ hy
    exact ⟨o, y, u, rfl, hu, ru, ry⟩
theorem exc_inst (I : Inv X pins σ H s) (sm : Same F H) (rp : Rp X.K F v (.exc c fs)) : ∃ a oe od, v = .ref a ∧ PySem.W.InstAt s.heap a oe (adr X.K c) od :=
  (exc_full I sm rp).imp fun _ z => z.imp fun _ z => z.imp fun _ z => ⟨z.1, z.2.1⟩
/-- .f of it -/
theorem exc_attr {f : Tx} {d : D} {E : Value → Shared → Prop} {Q : VK} {u : Value} {A : Around} {fld : List Str} (I : Inv X pins σ H s) (sm : Same F H) (rp : Rp X.K F v (.exc c fs)) (ru : RelV v u) (hx : XcOk X.K (adr X.K c) fld) (hf : tx f ∈ fld) (l : fs.lookup f = some d) (k : ∀ y, Rp X.K F y d → Q y H) :
    wpAny (model X.prog X.w) A (getAttr u (tx f) true) (EP X pins σ Q) E s := by
  have ⟨a, oe, od, ev, J, all⟩ := exc_full I sm rp
  have ⟨o, y, w, eo, lk, rw', ry⟩ := all f d l
  subst ev eo
  cases (ru : u = Value.ref a)
  have own := PySem.W.findObj_own hx.hd (hx.fd _ hf) rfl lk
  exact HandSPX.exc_get I.kIn J hx.hg hx.hk hx.hs own (handed_of rw') ⟨y, H, I.tok _, rw', k y ry⟩
end
/-! ### isinstance -/
def rIsx (K : PySem.W.Frag) (fld : List Str) (k : Cl) : List V → Hp → VK → Prop := fun xs H Q => ∃ (F : Hp) (v : V) (c : Tx) (fs : List (Tx × D)) (b : Bool), Same F H ∧ xs = [v, clV K k] ∧ Rp K F v (.exc c fs) ∧ XcOk K (adr K c) fld ∧ PySem.W.kitOne K (.ref (adr K c)) (clU K k) = some b ∧ Q (.bl b) H
def rIsxs (K : PySem.W.Frag) (fld : List Str) (ks : List Cl) : List V → Hp → VK → Prop := fun xs H Q => ∃ (F : Hp) (v : V) (tp : Addr) (c : Tx) (fs : List (Tx × D)) (b : Bool), Same F H ∧ xs = [v, .ref tp] ∧ H tp = some (.tup (ks.map (clV K))) ∧ Rp K F v (.exc c fs) ∧ XcOk K (adr K c) fld ∧ PySem.W.kitAny K (.ref (adr K c)) (ks.map (clU K)) = some b ∧ Q (.bl b) H
theorem clV_u {K : PySem.W.Frag} {k : Cl} {u : Value} (h : RelV (clV K k) u) : u = clU K k := by
  cases k <;> exact h
theorem clV_us {K : PySem.W.Frag} : ∀ {ks : List Cl} {us : List Value}, Vals (ks.map (clV K)) us → us = ks.map (clU K)
  | [], us, h => by
    rw [List.map_nil] at h
    cases h
    rfl
  | k :: ks, us, h => by
    rw [List.map_cons] at h
    cases h with
    | cons a b =>
      rw [List.map_cons, clV_us b, clV_u a]
theorem call_isx {X : Cx} (fld : List Str) (k : Cl) : CallR X (.builtin "isinstance") (rIsx X.K fld k) := by
  rintro pins s σ H xs us Q I r ⟨F, v, c, fs, b, sm, rfl, rp, hx, e, q⟩
  obtain ⟨u, u', rfl, ru, ru'⟩ := vals2 r
  obtain ⟨a, oe, od, rfl, J⟩ := exc_inst I sm rp
  cases (ru : u = Value.ref a)
  obtain rfl := clV_u ru'
  exact PySem.W.kia_one (PySem.W.kitx_exc (ox := oe) (od := od) hx.ec hx.hg hx.hk hx.hs hx.ha hx.hn hx.ht hx.hm) I.kIn J e (fun z => nomatch z) fun tk => ⟨.bl b, H, I.kept (t' := tk) fun _ _ z => z, rfl, q⟩
theorem call_isxs {X : Cx} (fld : List Str) (ks : List Cl) : CallR X (.builtin "isinstance") (rIsxs X.K fld ks) := by
  rintro pins s σ H xs us Q I r ⟨F, v, tp, c, fs, b, sm, rfl, htp, rp, hx, e, q⟩
  obtain ⟨u, u', rfl, ru, ru'⟩ := vals2 r
  obtain ⟨a, oe, od, rfl, J⟩ := exc_inst I sm rp
  cases (ru : u = Value.ref a)
  obtain rfl : u' = Value.ref tp := ru'
  obtain ⟨its, rv, ⟨o, h1, h2, n, h3⟩, hz⟩ := I.tuple (SqT.of htp)
  have ei := clV_us rv
  subst ei
  obtain ⟨oc, od2, oda, osl⟩ := o
  dsimp only at h2 h3
  subst h2 h3
  exact PySem.W.kia_tup (PySem.W.kitx_exc (ox := oe) (od := od) hx.ec hx.hg hx.hk hx.hs hx.ha hx.hn hx.ht hx.hm) I.kIn J h1 e (fun z => nomatch z) fun tk => ⟨.bl b, H, I.kept (t' := tk) fun _ _ z => z, rfl, q⟩
section
variable {X : Cx} {T : Tb} {cm : Bool} {N : List Str} {sc : Scope} {p : Pg} {n : Nat} {g : Wi}
theorem pe_clsN (G : Gx X T cm N sc p n g) {x : Str} {k : Cl} {pos : Pos} (h : (x, k) ∈ T.xcl) (hg : globOk sc x = true) : PE X (.Name x pos) (tC (clV X.K k)) := by
  obtain ⟨gl, gd, gn⟩ := gl_of G hg
  rcases G.pf.xcl x k h with ⟨c, rfl, hm⟩ | ⟨hm, t, e1, e2, e3, e4, e5⟩
  · exact pe_glob gl hm rfl gd
  · rw [e1]
    exact pe_bltn gl hm e4 rfl e5 gd
theorem kit_any (G : Gx X T cm N sc p n g) {c : Tx} : ∀ {ks : List Cl} {b : Bool}, anyCl (p.wd n) c ks = some b → PySem.W.kitAny X.K (.ref (adr X.K c)) (ks.map (clU X.K)) = some b
  | [], b, h => h
  | k :: ks, b, h => by
    unfold anyCl at h
    unfold PySem.W.kitAny
    have hc : (p.wd n).cl = p.cl := rfl
    rw [hc] at h
    rw [List.map_cons]
    cases q : p.cl c k with
    | none => rw [q] at h; cases h
    | some t =>
      rw [q] at h
      obtain ⟨_, k1, _⟩ := G.pf.cls c k t q
      simp only [k1]
      cases t with
      | true => exact h
      | false => exact kit_any G h
theorem t_isx (G : Gx X T cm N sc p n g) {a : IE} {k : Cl} {σ : Sg} {H : Hp} {Q : VK} (h : tE X.K g (p.wd n) (.isx a k) σ H Q) : tCB (rIsx X.K T.fld k) (tCons (tE X.K g (p.wd n) a) (tCons (tC (clV X.K k)) tNil)) σ H Q := by
  obtain ⟨e, s, F, R, h⟩ := h
  unfold ev at h
  refine ⟨e, s, F, R, h.bind.imp fun er s1 F1 H1 R1 sm h1 v rv => ?_⟩
  split at h1
  · rename_i c fs
    have hc : (p.wd n).cl = p.cl := rfl
    rw [hc] at h1
    cases q : p.cl c k with
    | none => rw [q] at h1; exact h1.elim
    | some b =>
      rw [q] at h1
      obtain ⟨x1, x2, _⟩ := G.pf.cls c k b q
      exact ⟨F1, v, c, fs, b, R1.sub, rfl, rv, x1, x2, vo_bool h1 R1⟩
  · exact h1.elim
/-- the classes in a tuple -/
theorem pa_cls (G : Gx X T cm N sc p n g) : ∀ {ks : List Cl} {xs : List Expr}, xclOk T sc ks xs = true → PA X xs (fun _ H Q => Q (ks.map (clV X.K)) H)
  | [], [], _ => pa_nil
  | _ :: _, [], h => by simp only [xclOk, Bool.false_eq_true] at h
  | [], _ :: _, h => by simp only [xclOk, Bool.false_eq_true] at h
  | k :: ks, x :: xs, h => by
    cases x <;> first | (simp only [xclOk, Bool.false_eq_true] at h; done) | skip
    simp only [xclOk, Bool.and_eq_true, decide_eq_true_eq] at h
    exact (pa_cons (pe_clsN G h.1.1 h.1.2) (pa_cls G h.2) rfl).imp fun σ H Q h => h
theorem t_isxs (G : Gx X T cm N sc p n g) {a : IE} {ks : List Cl} (hk : ks.isEmpty = false) (hl : ks.length ≤ 100) {σ : Sg} {H : Hp} {Q : VK} (h : tE X.K g (p.wd n) (.isxs a ks) σ H Q) :
    tCB (rIsxs X.K T.fld ks) (tCons (tE X.K g (p.wd n) a) (tCons (tTup (fun _ H Q => Q (ks.map (clV X.K)) H)) tNil)) σ H Q := by
  obtain ⟨e, s, F, R, h⟩ := h
  unfold ev at h
  refine ⟨e, s, F, R, h.bind.imp fun er s1 F1 H1 R1 sm h1 v rv => ?_⟩
  split at h1
  · rename_i c fs
    cases q : anyCl (p.wd n) c ks with
    | none => rw [q] at h1; exact h1.elim
    | some b =>
      rw [q] at h1
      have x2 := kit_any G q
      have x1 : XcOk X.K (adr X.K c) T.fld := by
        cases ks with
        | nil => cases hk
        | cons k ks =>
          unfold anyCl at q
          have hc : (p.wd n).cl = p.cl := rfl
          rw [hc] at q
          cases q2 : p.cl c k with
          | none => rw [q2] at q; cases q
          | some t => exact (G.pf.cls c k t q2).1
      refine ⟨by rw [List.length_map, sizeLine_eq]; omega, fun tp htp => ?_⟩
      have R2 := R1.put (o := .tup (ks.map (clV X.K))) htp
      have rv : Rp X.K F1 v (.exc c fs) := rv
      exact ⟨F1, v, tp, c, fs, b, R2.sub, rfl, upd_same, rv, x1, x2, vo_bool h1 R2⟩
  · exact h1.elim
theorem pe_attrD (G : Gx X T cm N sc p n g) {o : IE} {f : Tx} {e : Expr} {pos : Pos} (hf : txS f ∈ T.fld) (hs : noSup e = true) (ho : PE X e (tE X.K g (p.wd n) o)) : PE X (.Attribute e (txS f) pos) (tE X.K g (p.wd n) (.attr o f)) := by
  constructor; intro pins s σ H Q I h
  obtain ⟨en, fr, F, R, h⟩ := h
  unfold ev at h
  have hq : tE X.K g (p.wd n) o σ H fun v H1 => ∃ (F : Hp) (c : Tx) (fs : List (Tx × D)) (d : D), Same F H1 ∧ Rp X.K F v (.exc c fs) ∧ XcOk X.K (adr X.K c) T.fld ∧ fs.lookup f = some d ∧ ∀ y, Rp X.K F y d → Q y H1 := by
    refine ⟨en, fr, F, R, h.bind.imp fun er s1 F1 H1 R1 sm h1 v rv => ?_⟩
    split at h1
    · rename_i c fs
      have hc : (p.wd n).cl = p.cl := rfl
      rw [hc] at h1
      cases q : p.cl c .ve with
      | none => rw [q] at h1; exact h1.elim
      | some b =>
        rw [q] at h1
        obtain ⟨x1, _, _⟩ := G.pf.cls c .ve b q
        cases q2 : fs.lookup f with
        | none => simp only [q2] at h1; exact h1.elim
        | some d =>
          simp only [q2] at h1
          exact ⟨F1, c, fs, d, R1.sub, rv, x1, q2, fun y ry => h1 H1 F1 R1 (Same.refl F1) y ry⟩
    · exact h1.elim
  refine attr_of (base_of hs) (thn (ho.run pins s σ H _ I hq) fun u s1 ⟨v, H1, I1, r1, F1, c, fs, d, sm, rp, x1, l, k⟩ => ?_)
  exact exc_attr I1 sm rp r1 x1 hf l k
/-! ### {..} -/
theorem cst_v {c : Const} {d : D} {j : Nat} {pos : Pos} (h : cstOk c d = true) : ∃ v, PE X (.Constant c j pos) (tC v) ∧ ∀ F, Rp X.K F v d := by
  cases c <;> cases d <;> simp only [cstOk, Bool.false_eq_true] at h
  · exact ⟨_, pe_non, fun F => .non⟩
  · rename_i a b
    have e : a = b := by simpa using h
    subst e
    exact ⟨_, pe_bl, fun F => .bl _⟩
  · rename_i a b
    have e : a = b := by simpa using h
    subst e
    exact ⟨_, pe_int, fun F => .int _⟩
  · rename_i a b
    have e := of_decide_eq_true h
    subst e
    exact ⟨_, pe_str, fun F => .str _⟩
theorem upd_upd {H : Hp} {p : Addr} {o o' : HO} : upd (upd H p o) p o' = upd H p o' := by
  funext b
  by_cases hb : b = p
  · subst hb
    rw [upd_same, upd_same]
  · rw [upd_ne hb, upd_ne hb, upd_ne hb]
theorem pe_ky {k : Ky} {e : Expr} (h : kyOk k e = true) : PE X e (tC (kV (kyS k))) := by
  cases k with
  | inl i =>
    cases e <;> first | (simp only [kyOk, Bool.false_eq_true] at h; done) | skip
    rename_i c j pos
    cases c <;> first | (simp only [kyOk, Bool.false_eq_true] at h; done) | skip
    simp only [kyOk, beq_iff_eq] at h
    subst h
    exact pe_int
  | inr x =>
    cases e <;> first | (simp only [kyOk, Bool.false_eq_true] at h; done) | skip
    rename_i c j pos
    cases c <;> first | (simp only [kyOk, Bool.false_eq_true] at h; done) | skip
    simp only [kyOk, decide_eq_true_eq] at h
    subst h
    exact pe_str
theorem pe_dic {w : Wd} {kvs : List (Ky × D)} {ks : List (Option Expr)} {vs : List Expr} {pos : Pos} (h : dicOk kvs ks vs = true) : PE X (.Dict ks vs pos) (tE X.K g w (.dic kvs)) := by
  unfold dicOk at h
  split at h
  · refine (pe_dnewK).imp fun σ H Q ⟨e, s, F, R, h⟩ q hq => ?_
    unfold ev at h
    obtain ⟨R2, sm⟩ := R.iced (o := .dK []) hq
    exact h _ _ R2 sm _ (.dic upd_same rfl (fun i p q a => by simp at a))
  · rename_i k d a c j pos'
    rw [Bool.and_eq_true] at h
    obtain ⟨v, hv, rv⟩ := cst_v (X := X) (j := j) (pos := pos') h.2
    refine (pe_disp (pps_cons (pe_ky h.1) hv pps_nil) rfl rfl (by simp) (by simp)).imp fun σ H Q ⟨e, s, F, R, h⟩ q hq => ?_
    unfold ev at h
    refine ⟨upd_same, [(kyS k, v)], rfl, by simp, ?_⟩
    show Q (.ref q) (upd (upd H q (.dK [])) q (.dK [(kyS k, v)]))
    rw [upd_upd]
    obtain ⟨R2, sm⟩ := R.iced (o := .dK [(kyS k, v)]) hq
    refine h _ _ R2 sm _ (.dic upd_same rfl (fun i p q a b => ?_))
    cases i with
    | zero =>
      simp only [List.getElem?_cons_zero, Option.some.injEq] at a b
      subst a; subst b
      exact rv _
    | succ i => simp at a
  · cases h
end
end Pi
set_option maxRecDepth 100000
set_option maxHeartbeats 3900000
namespace Pi
open PySem PySem.Spec L2 PyProof.Rows
/-! ### a display of a dict, asked at once; the place of an item in a list -/
section
variable {X : Cx} {g : Wi} {w : Wd}
theorem no_sl {y : Expr} (h : noSlice y = true) : NoSl y := by
  intro ov iv
  revert h
  cases y <;> intro h <;> first | rfl | cases h
theorem pe_negI {j : Int} {k : Nat} {p q : Pos} : PE X (.UnaryOp .USub (.Constant (.int j) k p) q) (tC (.int (-j))) := (pe_un un_neg pe_int).imp fun σ H Q h => ⟨j, rfl, h⟩
theorem pe_ky2 {k : Ky} {e : Expr} (h : kyOk2 k e = true) : PE X e (tC (kV (kyS k))) := by
  unfold kyOk2 at h
  rcases (by simpa using h : _ ∨ _) with h | h
  · exact pe_ky h
  · split at h
    · have h := eq_of_beq h
      subst h
      exact pe_negI
    · cases h
theorem cst2_v {d : D} {e : Expr} (h : cstOk2 d e = true) : ∃ v, PE X e (tC v) ∧ ∀ F, Rp X.K F v d := by
  unfold cstOk2 at h
  split at h
  · exact cst_v h
  · split at h
    · have h := eq_of_beq h
      subst h
      exact ⟨_, pe_negI, fun F => .int _⟩
    · cases h
  · cases h
/-- the pairs of the display, as values -/
def RpK (K : PySem.W.Frag) (kvs : List (Key × V)) (xs : List (Ky × D)) : Prop := kvs.map (·.1) = xs.map (fun p => kyS p.1) ∧ ∀ F (i : Nat) p q, kvs[i]? = some p → xs[i]? = some q → Rp K F p.2 q.2
theorem pairs_of {pos : Pos} : ∀ {xs : List (Ky × D)} {ks : List (Option Expr)} {vs : List Expr}, dicsOk xs ks vs = true → ∃ kvs : List (Key × V), RpK X.K kvs xs ∧ PPs X pos ks vs (kvs.map fun p => (tC (kV p.1), tC p.2)) ∧ ks.all (·.isSome) = true ∧ ks.length = vs.length ∧ ks.length = xs.length
  | [], [], [], _ => ⟨[], ⟨rfl, fun F i p q a => by simp at a⟩, pps_nil, rfl, rfl, rfl⟩
  | (k, d) :: xs, some a :: ks, v :: vs, h => by
    simp only [dicsOk, Bool.and_eq_true] at h
    obtain ⟨⟨h1, h2⟩, h3⟩ := h
    obtain ⟨kvs, ⟨r1, r2⟩, pp, al, l1, l2⟩ := pairs_of (pos := pos) h3
    obtain ⟨y, py, ry⟩ := cst2_v (X := X) h2
    refine ⟨(kyS k, y) :: kvs, ⟨by simp [r1], fun F i p q a b => ?_⟩, pps_cons (pe_ky2 h1) py pp, by simpa using al, by simp [l1], by simp [l2]⟩
    cases i with
    | zero => cases a; cases b; exact ry F
    | succ i => exact r2 F i p q (by simpa using a) (by simpa using b)
  | [], _ :: _, _, h => by simp [dicsOk] at h
  | [], [], _ :: _, h => by simp [dicsOk] at h
  | _ :: _, [], _, h => by simp [dicsOk] at h
  | _ :: _, none :: _, _, h => by simp [dicsOk] at h
  | _ :: _, some _ :: _, [], h => by simp [dicsOk] at h
theorem tPairs_cst {σ : L2.St} : ∀ {kvs : List (Key × V)} {H : Hp} {Q : List (V × V) → Hp → Prop}, Q (kvs.map fun p => (kV p.1, p.2)) H → tPairs (kvs.map fun p => (tC (kV p.1), tC p.2)) σ H Q
  | [], _, _, q => q
  | _ :: kvs, _, _, q => tPairs_cst (kvs := kvs) q
theorem merge_new : ∀ {more acc : List (Key × V)}, ((acc ++ more).map (·.1)).Nodup → mergeK acc more = acc ++ more
  | [], acc, _ => by simp [mergeK]
  | kv :: more, acc, h => by
    show mergeK (putK acc kv.1 kv.2) more = _
    have n : valV acc kv.1 = none := by
      unfold valV
      rw [Option.map_eq_none_iff, List.find?_eq_none]
      intro x hx z
      have z : x.1 = kv.1 := of_decide_eq_true z
      rw [List.map_append, List.nodup_append] at h
      exact h.2.2 x.1 (List.mem_map_of_mem hx) kv.1 (by simp) z
    rw [putK_new kv.2 n, merge_new (by simpa using h)]
    simp
theorem kyS_inj {a b : Ky} (h : kyS a = kyS b) : a = b := by
  cases a <;> cases b <;> simp only [kyS, Sum.inl.injEq, Sum.inr.injEq, reduceCtorEq] at h
  · rw [h]
  · rw [tx_inj.mp h]
theorem val_at {F : Hp} : ∀ {kvs : List (Key × V)} {xs : List (Ky × D)} {k : Ky} {d : D}, RpK X.K kvs xs → (xs.find? fun p => decide (p.1 = k)).map (·.2) = some d → ∃ v, valV kvs (kyS k) = some v ∧ Rp X.K F v d
  | [], [], k, d, _, h => by simp at h
  | [], _ :: _, _, _, r, _ => by have := r.1; simp at this
  | _ :: _, [], _, _, r, _ => by have := r.1; simp at this
  | (k', v) :: kvs, (j, d') :: xs, k, d, r, h => by
    obtain ⟨r1, r2⟩ := r
    simp only [List.map_cons, List.cons.injEq] at r1
    obtain ⟨rfl, r1⟩ := r1
    by_cases e : j = k
    · subst e
      simp only [List.find?_cons, decide_true, Option.map_some, Option.some.injEq] at h
      subst h
      exact ⟨v, valV_pos rfl, r2 F 0 _ _ rfl rfl⟩
    · simp only [List.find?_cons, e, decide_false] at h
      obtain ⟨y, h1, h2⟩ := val_at (kvs := kvs) ⟨r1, fun F i p q a b => r2 F (i + 1) p q (by simpa using a) (by simpa using b)⟩ h
      exact ⟨y, by rw [valV_neg (fun z => e (kyS_inj z))]; exact h1, h2⟩
theorem pe_dgetD {xs : List (Ky × D)} {i : IE} {ks : List (Option Expr)} {vs : List Expr} {y : Expr} {p2 pos : Pos} (hu : X.A.units + 1 < cLine) (h : dicsOk xs ks vs = true) (nd : (xs.map (·.1)).Nodup) (ne : xs ≠ []) (few : xs.length ≤ 15) (hs : NoSl y) (hi : PE X y (tE X.K g w i)) : PE X (.Subscript (.Dict ks vs p2) y pos) (tE X.K g w (.dget xs i)) := by
  obtain ⟨kvs, rk, pp, al, l1, l2⟩ := pairs_of (X := X) (pos := p2) h
  have nd2 : (kvs.map (·.1)).Nodup := by
    rw [rk.1]
    have : (xs.map fun p => kyS p.1) = (xs.map (·.1)).map kyS := by simp
    rw [this]
    exact nd.map kyS fun a b n z => n (kyS_inj z)
  have l3 : kvs.length = xs.length := by simpa using congrArg List.length rk.1
  refine (pe_dget hu (pe_disp pp al l1 (fun z => ne (List.eq_nil_of_length_eq_zero (by rw [← l2, z]; rfl))) (by omega)) hi hs).imp fun σ H Q ⟨e, s, F, R, q⟩ p hp => ?_
  unfold ev at q
  refine tPairs_cst ⟨upd_same, kvs, rfl, by omega, ?_⟩
  rw [upd_upd, merge_new (acc := []) (by simpa using nd2), List.nil_append]
  obtain ⟨R2, sm⟩ := R.iced (o := .dK kvs) hp
  refine ⟨e, s, _, R2, (q.bind.mono sm).imp fun er s1 F1 H1 R1 sm1 q1 v rv => ?_⟩
  cases z : er.rd s1 with
  | none => simp only [z] at q1; exact q1.elim
  | some d =>
    simp only [z] at q1
    have rt := R1.rd rv z
    have there : H1 p = some (.dK kvs) := R1.sub _ _ (sm1 _ _ upd_same)
    have fin : ∀ k : Ky, v = kV (kyS k) → (xs.find? fun p => decide (p.1 = k)).map (·.2) = dicAt xs d → ∃ a v', V.ref p = .ref a ∧ DGet H1 a v (some v') ∧ Q v' H1 := fun k e1 e2 => by
      cases z2 : dicAt xs d with
      | none => rw [z2] at q1; exact q1.elim
      | some d' =>
        rw [z2] at q1
        obtain ⟨v', h1, h2⟩ := val_at (X := X) (F := F1) rk (e2.trans z2)
        exact ⟨p, v', rfl, by rw [e1, ← h1]; exact DGet.k there, q1 H1 F1 R1 (Same.refl F1) v' h2⟩
    cases d with
    | int j => cases rt.int; exact fin (.inl j) rfl rfl
    | str t => cases rt.str; exact fin (.inr t) rfl rfl
    | _ => exact q1.elim
theorem pdL_get : ∀ {xs : List D} {ps : List PyData}, pdL xs = some ps → ∀ (i : Nat) x, xs[i]? = some x → ∃ p, ps[i]? = some p ∧ x.pd = some p
  | [], _, _, i, x, h => by simp at h
  | y :: ys, ps, e, i, x, h => by
    unfold pdL at e
    split at e
    · rename_i a b h1 h2
      cases e
      cases i with
      | zero =>
        replace h := Option.some.inj h
        subst h
        exact ⟨a, rfl, h1⟩
      | succ i => simpa using pdL_get h2 i x (by simpa using h)
    · cases e
/-- l.index(x) -/
theorem pe_lixD {o a : IE} {x y : Expr} {ap pos : Pos} (hu : X.A.units + 65 < cLine) (hs : noSup x = true) (hst : noStar y = true) (hl : (ap.endLine == pos.line) = true) (ho : PE X x (tE X.K g w o)) (ha : PE X y (tE X.K g w a)) : PE X (.Call (.Attribute x "index" ap) [y] [] pos) (tE X.K g w (.lix o a)) := by
  have pa : PA X [y] (tCons (tE X.K g w a) tNil) := pa_cons ha pa_nil (star1 hst)
  refine (pe_bm (T := "list") PySem.F.plainAttrs_list PySem.F.slot_list_index PySem.F.type_list_index (mt_indexD hu) ho pa (base_of hs) (by rw [star1 hst]; rfl) hl (star1 hst) rfl).imp fun σ H Q ⟨e, s, F, R, q⟩ => ?_
  unfold ev at q
  refine ⟨e, s, F, R, q.bind.imp fun er s1 F1 H1 R1 sm1 q1 v rv => ?_⟩
  obtain ⟨F1', R1', smh, rvh⟩ := R1.hold rv
  split at q1
  · rename_i ys e1
    obtain ⟨l, vs, rfl, there, _⟩ := (R1'.rd rvh e1).lst R1'.sub
    refine ⟨Or.inl ⟨rfl, vs, .of there⟩, ?_⟩
    refine ⟨e, s1, F1', R1', (q1.mono smh).bind.imp fun er2 s2 F2 H2 R2 sm2 q2 v2 rv2 => ?_⟩
    have rx := rvh.stay (s' := s2) (H' := H2) sm2
    cases ex : er.hold.rd s2 with
    | none => simp only [ex] at q2; exact q2.elim
    | some dx =>
      cases ey : er2.rd s2 with
      | none => simp only [ex, ey] at q2; exact q2.elim
      | some dy =>
        simp only [ex, ey] at q2
        have r1 := R2.rd rx ex
        have r2 := R2.rd rv2 ey
        unfold lixR at q2
        split at q2
        · rename_i zs
          split at q2
          · rename_i hf
            rw [Bool.and_eq_true] at hf
            cases hk : zs.findIdx? fun y => y.eqv dy with
            | none => rw [hk] at q2; exact q2.elim
            | some k =>
              rw [hk] at q2
              obtain ⟨p, hp, dp, sh⟩ := rt_dp R2.sub r2 hf.1 (by decide)
              obtain ⟨p', hp', dp', sh'⟩ := rt_dp (n := 31) R2.sub r1 (by unfold D.flat; exact hf.2) (by decide)
              unfold D.pd at hp'
              obtain ⟨ps, hps, rfl⟩ := Option.map_eq_some_iff.mp hp'
              obtain ⟨hlt, at1, before⟩ := List.findIdx?_eq_some_iff_getElem.mp hk
              obtain ⟨z, z1, z2⟩ := pdL_get hps k zs[k] (List.getElem?_eq_getElem hlt)
              refine ⟨l, v2, p, ps, k, z, rfl, rfl, dp', dp, sh', sh, z1, ?_, fun m z' lt z3 => ?_, q2 H2 F2 R2 (Same.refl F2) _ (.int _)⟩
              · rw [eqv_pd zs[k] dy z p z2 hp]
                exact at1
              · have lt2 : m < zs.length := Nat.lt_trans lt hlt
                obtain ⟨y', y1, y2⟩ := pdL_get hps m zs[m] (List.getElem?_eq_getElem lt2)
                rw [z3] at y1
                cases y1
                rw [eqv_pd zs[m] dy z' p y2 hp]
                simpa using before m lt
          · exact q2.elim
        · exact q2.elim
  · exact q1.elim
end
end Pi
set_option maxRecDepth 100000
set_option maxHeartbeats 3900000
namespace Pi
open PySem PySem.Spec L2 PyProof.Rows
theorem _root_.L2.PTs.imp {X : Cx} {e : List Expr} {t t' : TT} (h : PTs X e t) (i : ∀ σ H Q, t' σ H Q → t σ H Q) : PTs X e t' := ⟨fun pins s σ H Q I q => h.run pins s σ H Q I (i σ H Q q)⟩
theorem folded_of {e : Expr} {env : Env} (h : noSet e = true) : ∀ x, foldedSetIterable e env x = pure x := by
  intro x
  cases e <;> first | rfl | cases h
theorem chkA_star {T : Tb} {cm : Bool} {N : List Str} {sc : Scope} : ∀ {es : IEs} {xs : List Expr}, chkA T cm N sc es xs = true → ∀ a ∈ xs, noStar a = true
  | .nil, [], _ => by simp
  | .cons a r, [], h => by simp
  | .nil, x :: xs, h => by simp only [chkA, Bool.false_eq_true] at h
  | .cons a r, x :: xs, h => by
    simp only [chkA, Bool.and_eq_true] at h
    intro b hb
    rcases mem_or hb with rfl | hb
    · exact h.1.1
    · exact chkA_star h.2 b hb
mutual
theorem sE {X : Cx} {T : Tb} {cm : Bool} {N : List Str} {sc : Scope} {p : Pg} {n : Nat} {g : Wi} (G : Gx X T cm N sc p n g) : ∀ (a : IE) (e : Expr), chk T cm N sc a e = true → Ok X g (p.wd n) a e
  | .var i, e, h => by
    cases e <;> simp only [chk, Bool.false_eq_true, Bool.and_eq_true, decide_eq_true_eq] at h
    obtain ⟨hN, hv⟩ := h
    obtain ⟨v1, v2, v3⟩ := vis_of G hv
    refine ok_plain ((pe_var (i := i) (by rw [G.hN]; exact hN) v1 v2 v3).imp fun σ H Q ⟨e, s, F, R, h⟩ => ?_) (plain_true rfl)
    unfold ev at h
    cases q : s.sl[i]? with
    | none => simp only [q] at h; exact h.elim
    | some x =>
      have k := R.slot i x q
      cases x with
      | un => simp only [q] at h; exact h.elim
      | val d =>
        simp only [q] at h
        obtain ⟨v, hv, r⟩ := k
        exact ⟨v, hv, h H F R (Same.refl F) v r⟩
      | own xs =>
        simp only [q] at h
        obtain ⟨a, vs, hv, _⟩ := k
        exact ⟨_, hv, h H F R (Same.refl F) _ hv⟩
      | ref =>
        simp only [q] at h
        obtain ⟨a, ha, hv⟩ := k
        exact ⟨_, hv, h H F R (Same.refl F) _ ⟨a, ha, rfl⟩⟩
  | .cst d, e, h => by
    cases e <;> simp only [chk, Bool.false_eq_true] at h
    exact ok_plain (cst_ok h) (plain_true rfl)
  | .gc k, e, h => by
    cases e <;> simp only [chk, Bool.false_eq_true, Bool.and_eq_true, decide_eq_true_eq] at h
    obtain ⟨hx, hg⟩ := h
    obtain ⟨v, u, h1, h2, h3⟩ := G.pf.cst k _ hx
    obtain ⟨gl, gd, _⟩ := gl_of G hg
    refine ok_plain ((pe_glob gl h1 h2 gd).imp fun σ H Q ⟨e, s, F, R, h⟩ => ?_) (plain_true rfl)
    exact h H F R (Same.refl F) v (h3 F)
  | .bin o a b, e, h => by
    cases e <;> simp only [chk, Bool.false_eq_true, Bool.and_eq_true, decide_eq_true_eq] at h
    obtain ⟨⟨ho, ha⟩, hb⟩ := h
    subst ho
    refine ok_plain ((pe_op (op_bin o) (sE G a _ ha).1 (sE G b _ hb).1).imp fun σ H Q ⟨e, s, F, R, h⟩ => ?_) (plain_true rfl)
    unfold ev at h
    exact t_two R h
  | .neg a, e, h => by
    cases e <;> simp only [chk, Bool.false_eq_true, Bool.and_eq_true, decide_eq_true_eq] at h
    obtain ⟨ho, ha⟩ := h
    subst ho
    exact ok_plain ((pe_un un_neg (sE G a _ ha).1).imp fun σ H Q h => t_neg h) (fun _ => rfl)
  | .not a, e, h => by
    cases e <;> simp only [chk, Bool.false_eq_true, Bool.and_eq_true, decide_eq_true_eq] at h
    obtain ⟨⟨ho, hi⟩, ha⟩ := h
    subst ho
    have k := sE G a _ ha
    exact ⟨(pe_not k.1).imp fun σ H Q h => t_not h, fun _ => (pt_not (k.2 hi)).imp fun σ H Q h => t_notT h⟩
  | .and a b, e, h => by
    cases e with
    | BoolOp op vs pos =>
      cases vs with
      | nil => simp only [chk, Bool.false_eq_true] at h
      | cons x r =>
        cases r with
        | nil => simp only [chk, Bool.false_eq_true] at h
        | cons y r =>
          simp only [chk, Bool.and_eq_true, decide_eq_true_eq] at h
          obtain ⟨⟨⟨ho, hx⟩, ha⟩, hb⟩ := h
          subst ho
          cases r with
          | nil =>
            simp only [and_iff2] at hb
            have k := sE G b y hb.2
            exact (ok_and hx (sE G a x ha) ⟨pe_one k.1, pw_and1 (k.2 hb.1)⟩).1
          | cons z r =>
            have k := sE G b _ hb
            exact (ok_and hx (sE G a x ha) ⟨k.1, pt_pw (k.2 rfl)⟩).1
    | _ => simp only [chk, Bool.false_eq_true] at h
  | .or a b, e, h => by
    cases e with
    | BoolOp op vs pos =>
      cases vs with
      | nil => simp only [chk, Bool.false_eq_true] at h
      | cons x r =>
        cases r with
        | nil => simp only [chk, Bool.false_eq_true] at h
        | cons y r =>
          simp only [chk, Bool.and_eq_true, decide_eq_true_eq] at h
          obtain ⟨⟨⟨ho, hx⟩, ha⟩, hb⟩ := h
          subst ho
          cases r with
          | nil =>
            simp only [and_iff2] at hb
            have k := sE G b y hb.2
            exact (ok_or hx (sE G a x ha) ⟨pe_one k.1, pw_or1 (k.2 hb.1)⟩).1
          | cons z r =>
            have k := sE G b _ hb
            exact (ok_or hx (sE G a x ha) ⟨k.1, pt_pw (k.2 rfl)⟩).1
    | _ => simp only [chk, Bool.false_eq_true] at h
  | .cmp o a b, e, h => by
    cases e with
    | Compare l ops rs pos =>
      cases ops with
      | nil => simp only [chk, Bool.false_eq_true] at h
      | cons op ops =>
        cases ops with
        | cons _ _ => cases rs <;> simp only [chk, Bool.false_eq_true] at h
        | nil =>
          cases rs with
          | nil => simp only [chk, Bool.false_eq_true] at h
          | cons r rs =>
            cases rs with
            | cons _ _ => simp only [chk, Bool.false_eq_true] at h
            | nil =>
              simp only [chk, Bool.and_eq_true, decide_eq_true_eq] at h
              obtain ⟨⟨⟨ho, hs⟩, ha⟩, hb⟩ := h
              subst ho
              have hm : behindInMarks (coS o) r = false := by cases r <;> first | rfl | cases hs
              have ka := (sE G a _ ha).1
              have kb := (sE G b _ hb).1
              have im : ∀ σ H Q, tE X.K g (p.wd n) (.cmp o a b) σ H Q → tOp (rD X.K (cB o)) (tE X.K g (p.wd n) a) (tE X.K g (p.wd n) b) σ H Q := fun σ H Q ⟨e, s, F, R, h⟩ => by
                unfold ev at h
                exact t_two R h
              exact ⟨(pe_cmpR (op_cmp G.un o) ka kb hm).imp im, fun _ => (pt_cmpR (op_cmp G.un o) ka kb hm).imp fun σ H Q h => t_test_of im h⟩
    | _ => simp only [chk, Bool.false_eq_true] at h
  | .chn o o' a b c, e, h => by
    cases e with
    | Compare l ops rs pos =>
      match ops, rs, h with
      | [op, op'], [m, r], h =>
        simp only [chk, Bool.and_eq_true, decide_eq_true_eq] at h
        obtain ⟨⟨⟨⟨⟨⟨ho, ho'⟩, hs⟩, hs'⟩, ha⟩, hb⟩, hc⟩ := h
        subst ho; subst ho'
        have hm : lastMarks [coS o, coS o'] [m, r] = false := by
          show behindInMarks (coS o') r = false
          cases r <;> first | rfl | cases hs'
        have ka := (sE G a _ ha).1
        have kb := (sE G b _ hb).1
        have kc := (sE G c _ hc).1
        exact ⟨(pe_chain (op_cmp G.un o) (op_cmp G.un o') ka kb kc hm).imp fun σ H Q h => t_chn h, fun _ => (pt_chain (op_cmp G.un o) (op_cmp G.un o') ka kb kc hm).imp fun σ H Q h => t_test_of (fun σ H Q h => t_chn h) h⟩
      | [], _, h => simp only [chk, Bool.false_eq_true] at h
      | [_], _, h => simp only [chk, Bool.false_eq_true] at h
      | _ :: _ :: _ :: _, _, h => simp only [chk, Bool.false_eq_true] at h
      | [_, _], [], h => simp only [chk, Bool.false_eq_true] at h
      | [_, _], [_], h => simp only [chk, Bool.false_eq_true] at h
      | [_, _], _ :: _ :: _ :: _, h => simp only [chk, Bool.false_eq_true] at h
    | _ => simp only [chk, Bool.false_eq_true] at h
  | .ite t a b, e, h => by
    cases e <;> simp only [chk, Bool.false_eq_true, Bool.and_eq_true] at h
    obtain ⟨⟨⟨hi, ht⟩, ha⟩, hb⟩ := h
    exact ⟨(pe_ifExp ((sE G t _ ht).2 hi) (sE G a _ ha).1 (sE G b _ hb).1).imp fun σ H Q h => t_ite h, fun z => by cases z⟩
  | .lst es, e, h => by
    cases e <;> simp only [chk, Bool.false_eq_true] at h
    exact ok_plain ((pe_lst (sF G es _ h)).imp fun σ H Q h => t_lst h) (plain_true rfl)
  | .tup es, e, h => by
    cases e <;> simp only [chk, Bool.false_eq_true] at h
    exact ok_plain ((pe_tup (sF G es _ h)).imp fun σ H Q h => t_tup h) (plain_true rfl)
  | .idx a i, e, h => by
    cases e <;> simp only [chk, Bool.false_eq_true, Bool.and_eq_true] at h
    obtain ⟨⟨hs, ha⟩, hi⟩ := h
    exact ok_plain ((pe_ix ix_data (sE G a _ ha).1 (sE G i _ hi).1 (slice_ix hs)).imp fun σ H Q h => t_idx h) (plain_true rfl)
  | .slc a lo hi, e, h => by
    cases e with
    | Subscript x y pos =>
      cases y with
      | Slice l u st q =>
        cases st with
        | some _ => simp only [chk, Bool.false_eq_true] at h
        | none =>
          simp only [chk, Bool.and_eq_true] at h
          obtain ⟨⟨ha, hl⟩, hu⟩ := h
          exact ok_plain ((pe_slice sl_data (sE G a _ ha).1 (sO G lo l hl) (sO G hi u hu)).imp fun σ H Q h => t_slc h) (plain_true rfl)
      | _ => simp only [chk, Bool.false_eq_true] at h
    | _ => simp only [chk, Bool.false_eq_true] at h
  | .call f ix es, e, h => by
    cases e with
    | Call fe as ks pos =>
      cases fe with
      | Name x q =>
        simp only [chk, Bool.and_eq_true, decide_eq_true_eq] at h
        obtain ⟨⟨⟨⟨hcm, hx⟩, hg⟩, hp⟩, hA⟩ := h
        refine ok_plain (ok_call G hcm hx hg hp ?_) (plain_true rfl)
        cases ks with
        | nil =>
          have hA : chkA T cm N sc es as = true := hA
          refine .inl ⟨rfl, chkA_len hA, ?_⟩
          cases as with
          | nil =>
            cases es with
            | nil => left; constructor <;> rfl
            | cons _ _ => simp only [chkA, Bool.false_eq_true] at hA
          | cons a0 r =>
            have pa := sB G es _ hA
            cases es with
            | nil => simp only [chkA, Bool.false_eq_true] at hA
            | cons e0 er =>
              simp only [chkA, Bool.and_eq_true] at hA
              exact .inr ⟨a0, r, rfl, pa, hA.1.1, star_none hA.2⟩
        | cons k ks =>
          have hA : (as.isEmpty && kwS (k :: ks) && chkA T cm N sc es (kwE (k :: ks))) = true := hA
          simp only [and_iff2] at hA
          obtain ⟨⟨h1, h2⟩, h3⟩ := hA
          have e0 : as = [] := List.isEmpty_iff.mp h1
          exact .inr ⟨e0, by rw [← kwE_len, chkA_len h3], h2, sK G es _ h3⟩
      | _ => simp only [chk, Bool.false_eq_true] at h
    | _ => simp only [chk, Bool.false_eq_true] at h
  | .bi b es, e, h => by
    cases e with
    | Call fe as ks pos =>
      cases fe with
      | Name x q =>
        cases as with
        | nil => cases ks <;> simp only [chk, Bool.false_eq_true] at h
        | cons a as =>
          cases ks with
          | cons _ _ => simp only [chk, Bool.false_eq_true] at h
          | nil =>
            simp only [chk, Bool.and_eq_true, decide_eq_true_eq] at h
            obtain ⟨⟨⟨⟨hh, hb⟩, hm⟩, hg⟩, hA⟩ := h
            obtain ⟨gl, gd, gn⟩ := gl_of G hg
            have pa := sB G es _ hA
            have st : noStar a = true ∧ (backTo pos (starEach as X.env)).any (·.1) = false := by
              cases es with
              | nil => simp only [chkA, Bool.false_eq_true] at hA
              | cons e0 er =>
                simp only [chkA, Bool.and_eq_true] at hA
                exact ⟨hA.1.1, star_none hA.2⟩
            cases hn : biName b with
            | none => rw [hn] at hb; cases hb
            | some kt =>
              obtain ⟨k, ty⟩ := kt
              rw [hn] at hb
              have hb : x = (k : Str) := of_decide_eq_true hb
              subst hb
              cases ty with
              | false =>
                obtain ⟨r1, r2⟩ := bi_rule G b k hh hn
                exact ok_plain ((pe_callB r1 gl (mem_blt G hm) r2 pa gn gd (star1 st.1) st.2).imp fun σ H Q h => t_bi h) (plain_true rfl)
              | true =>
                obtain ⟨r1, r2⟩ := bi_ruleT G b k hh hn
                exact ok_plain ((pe_callTy r1 gl (mem_blt G hm) r2 pa gn gd (star1 st.1) st.2).imp fun σ H Q h => t_bi h) (plain_true rfl)
      | _ => simp only [chk, Bool.false_eq_true] at h
    | _ => simp only [chk, Bool.false_eq_true] at h
  | .mth m o es, e, h => by
    match es, h with
    | .nil, h => cases e <;> simp only [chk, Bool.false_eq_true] at h
    | .cons _ (.cons _ _), h => cases e <;> simp only [chk, Bool.false_eq_true] at h
    | .cons a .nil, h =>
      cases e with
      | Call fe as ks pos =>
        cases fe with
        | Attribute x nm ap =>
          match as, ks, h with
          | [y], [], h =>
            simp only [chk, Bool.and_eq_true] at h
            obtain ⟨⟨⟨⟨⟨hm, hs⟩, hst⟩, hl⟩, ho⟩, ha⟩ := h
            have ko := (sE G o _ ho).1
            have ka := (sE G a _ ha).1
            have st : starEach [y] X.env = [(false, eval y X.env)] := star1 hst
            cases m with
            | join =>
              have hm : nm = ("join" : Str) := of_decide_eq_true hm
              subst hm
              exact ok_plain ((pe_m1 PySem.F.slot_str_join PySem.F.type_str_join mt_joinD ko ka st (base_of hs) hl).imp fun σ H Q h => t_mth h) (plain_true rfl)
            | index =>
              have hm : nm = ("index" : Str) := of_decide_eq_true hm
              subst hm
              exact ok_plain ((pe_m1 PySem.F.slot_str_index PySem.F.type_str_index mt_indexD1 ko ka st (base_of hs) hl).imp fun σ H Q h => t_mth h) (plain_true rfl)
            | split =>
              have hm : nm = ("split" : Str) := of_decide_eq_true hm
              subst hm
              exact ok_plain ((pe_m1 PySem.F.slot_str_split PySem.F.type_str_split mt_splitD ko ka st (base_of hs) hl).imp fun σ H Q h => t_mth h) (plain_true rfl)
            | _ => cases hm
          | [], _, h => simp only [chk, Bool.false_eq_true] at h
          | _ :: _ :: _, _, h => simp only [chk, Bool.false_eq_true] at h
          | [_], _ :: _, h => simp only [chk, Bool.false_eq_true] at h
        | _ => simp only [chk, Bool.false_eq_true] at h
      | _ => simp only [chk, Bool.false_eq_true] at h
  | .isi a c, e, h => by
    cases e with
    | Call fe as ks pos =>
      cases fe with
      | Name x q =>
        match as, ks, h with
        | [y, z], [], h =>
          cases z with
          | Name t tp =>
            simp only [chk, Bool.and_eq_true, decide_eq_true_eq] at h
            obtain ⟨⟨⟨⟨⟨⟨⟨hx, hm⟩, hg⟩, hc⟩, hm2⟩, hg2⟩, hst⟩, ha⟩ := h
            subst hx
            obtain ⟨gl, gd, gn⟩ := gl_of G hg
            obtain ⟨gl2, gd2, gn2⟩ := gl_of G hg2
            cases hk : clN c with
            | none => rw [hk] at hc; cases hc
            | some k =>
              rw [hk] at hc
              have hc : t = (k : Str) := of_decide_eq_true hc
              subst hc
              have pa : PA X [y, .Name k tp] (tCons (tE X.K g (p.wd n) a) (tCons (tC (.ty k)) tNil)) := pa_cons (sE G a _ ha).1 (pa_cons (pe_bltn gl2 (mem_blt G hm2) (cl_boot c k hk) rfl gn2 gd2) pa_nil rfl) (star1 hst)
              exact ok_plain ((pe_callB (call_isiD c) gl (mem_blt G hm) (by decide +kernel) pa gn gd (star1 hst) rfl).imp fun σ H Q h => t_isi hk h) (plain_true rfl)
          | _ => simp only [chk, Bool.false_eq_true] at h
        | [], _, h => simp only [chk, Bool.false_eq_true] at h
        | [_], _, h => simp only [chk, Bool.false_eq_true] at h
        | _ :: _ :: _ :: _, _, h => simp only [chk, Bool.false_eq_true] at h
        | [_, z], _ :: _, h => cases z <;> simp only [chk, Bool.false_eq_true] at h
      | _ => simp only [chk, Bool.false_eq_true] at h
    | _ => simp only [chk, Bool.false_eq_true] at h
  | .isx a k, e, h => by
    cases e with
    | Call fe as ks pos =>
      cases fe with
      | Name x q =>
        match as, ks, h with
        | [y, z], [], h =>
          cases z with
          | Name t tp =>
            simp only [chk, Bool.and_eq_true, decide_eq_true_eq] at h
            obtain ⟨⟨⟨⟨⟨⟨hx, hm⟩, hg⟩, hc⟩, hg2⟩, hst⟩, ha⟩ := h
            subst hx
            obtain ⟨gl, gd, gn⟩ := gl_of G hg
            have pa : PA X [y, .Name t tp] (tCons (tE X.K g (p.wd n) a) (tCons (tC (clV X.K k)) tNil)) := pa_cons (sE G a _ ha).1 (pa_cons (pe_clsN G hc hg2) pa_nil rfl) (star1 hst)
            exact ok_plain ((pe_callB (call_isx T.fld k) gl (mem_blt G hm) (by decide +kernel) pa gn gd (star1 hst) rfl).imp fun σ H Q h => t_isx G h) (plain_true rfl)
          | _ => simp only [chk, Bool.false_eq_true] at h
        | [], _, h => simp only [chk, Bool.false_eq_true] at h
        | [_], _, h => simp only [chk, Bool.false_eq_true] at h
        | _ :: _ :: _ :: _, _, h => simp only [chk, Bool.false_eq_true] at h
        | [_, z], _ :: _, h => cases z <;> simp only [chk, Bool.false_eq_true] at h
      | _ => simp only [chk, Bool.false_eq_true] at h
    | _ => simp only [chk, Bool.false_eq_true] at h
  | .isxs a cs, e, h => by
    cases e with
    | Call fe as ks pos =>
      cases fe with
      | Name x q =>
        match as, ks, h with
        | [y, z], [], h =>
          cases z with
          | Tuple ts kt tp =>
            simp only [chk, Bool.and_eq_true, decide_eq_true_eq, Bool.not_eq_true'] at h
            obtain ⟨⟨⟨⟨⟨⟨⟨hx, hm⟩, hg⟩, hc⟩, hl⟩, hne⟩, hst⟩, ha⟩ := h
            subst hx
            obtain ⟨gl, gd, gn⟩ := gl_of G hg
            have pa : PA X [y, .Tuple ts kt tp] (tCons (tE X.K g (p.wd n) a) (tCons (tTup (fun _ H Q => Q (cs.map (clV X.K)) H)) tNil)) := pa_cons (sE G a _ ha).1 (pa_cons (pe_tup (pa_cls G hc)) pa_nil rfl) (star1 hst)
            exact ok_plain ((pe_callB (call_isxs T.fld cs) gl (mem_blt G hm) (by decide +kernel) pa gn gd (star1 hst) rfl).imp fun σ H Q h => t_isxs G hne hl h) (plain_true rfl)
          | _ => simp only [chk, Bool.false_eq_true] at h
        | [], _, h => simp only [chk, Bool.false_eq_true] at h
        | [_], _, h => simp only [chk, Bool.false_eq_true] at h
        | _ :: _ :: _ :: _, _, h => simp only [chk, Bool.false_eq_true] at h
        | [_, z], _ :: _, h => cases z <;> simp only [chk, Bool.false_eq_true] at h
      | _ => simp only [chk, Bool.false_eq_true] at h
    | _ => simp only [chk, Bool.false_eq_true] at h
  | .attr o f, e, h => by
    cases e <;> simp only [chk, Bool.false_eq_true, Bool.and_eq_true, decide_eq_true_eq] at h
    obtain ⟨⟨⟨hn, hf⟩, hs⟩, ho⟩ := h
    subst hn
    exact ok_plain (pe_attrD G hf hs (sE G o _ ho).1) (plain_true rfl)
  | .lcm a tg it cond, e, h => by
    cases e with
    | ListComp el gs scope pos =>
      match gs, h with
      | [⟨t, i, ifs, k⟩], h =>
        simp only [chk, Bool.and_eq_true, decide_eq_true_eq] at h
        obtain ⟨⟨⟨⟨⟨⟨⟨⟨hk, hcm⟩, hns⟩, hI⟩, hblk⟩, hsl⟩, htg⟩, hC⟩, hE⟩ := h
        subst hk
        have hc := G.calm hcm
        have GB : ∀ (s : Shared) (H : Hp) (C : Addr) (cl : List (Str × Addr)) (fp : List Addr), Gx (X.blk s H scope (compEnvC scope cl C X.env) fp) T cm N (relS scope sc) p n (g0 g) := fun s H C cl fp =>
          ⟨G.hN, G.nd, by show relS scope X.env.scope = _; rw [G.hsc], G.calm, G.gd, G.room, G.un, takes_none5, G.pf⟩
        have ok : BlkOk X.N X.env.scope scope (tgN tg t) := blkOk_by (by rw [G.hN, G.hsc]; exact hblk)
        have z := pe_lc (pos := pos) (X := X) (elt := el) (tg := t) (iter := i) (ifs := ifs) (wi := tI X.K g (p.wd n) it) (g := gT X.K tg) (tt := tCd X.K (g0 g) (p.wd n) cond) (te := tE X.K (g0 g) (p.wd n) a) hc G.nd (sI G it t i hI) ok
          (fun s H C cl fp => pg_T (X := X.blk s H scope (compEnvC scope cl C X.env) fp) (fn := fun x => scope.names.lookup x == some .cell) hc (GB s H C cl fp).hN (GB s H C cl fp).hsc G.nd (fun x hx => hx) htg)
          (fun s H C cl fp => sC (GB s H C cl fp) cond ifs hC) (fun s H C cl fp => (sE (GB s H C cl fp) a el hE).1) (folded_of hns)
        refine ok_plain (z.imp fun σ H Q h => ?_) (plain_true rfl)
        rw [hsl]
        exact t_lcm h
      | [], h => simp only [chk, Bool.false_eq_true] at h
      | _ :: _ :: _, h => simp only [chk, Bool.false_eq_true] at h
    | _ => simp only [chk, Bool.false_eq_true] at h
  | .dic kvs, e, h => by
    cases e <;> simp only [chk, Bool.false_eq_true] at h
    exact ok_plain (pe_dic h) (plain_true rfl)
  | .mk c es, e, h => by
    cases e with
    | Call fe as ks pos =>
      cases fe with
      | Name x q =>
        simp only [chk, Bool.and_eq_true, decide_eq_true_eq] at h
        obtain ⟨⟨⟨hcm, hm⟩, hg⟩, hA⟩ := h
        obtain ⟨gl, gd, _⟩ := gl_of G hg
        have room := (hcm ▸ G.room : RoomC true n X.A).room
        cases ks with
        | nil =>
          have hA : chkA T cm N sc es as = true := hA
          exact ok_plain ((G.pf.mkv x c hm).run X g (p.wd n) es as q pos rfl rfl rfl rfl rfl rfl room gl gd (sF G es as hA) (chkA_len hA) (chkA_star hA)) (plain_true rfl)
        | cons k ks =>
          have hA : (as.isEmpty && kwS (k :: ks) && decide ((x, kwN (k :: ks)) ∈ T.mkk) && chkA T cm N sc es (kwE (k :: ks))) = true := hA
          simp only [and_iff2, dec_iff] at hA
          obtain ⟨⟨⟨h1, h2⟩, h3⟩, h4⟩ := hA
          obtain rfl : as = [] := List.isEmpty_iff.mp h1
          exact ok_plain ((G.pf.mkv x c hm).runK X g (p.wd n) es (k :: ks) q pos rfl rfl rfl rfl rfl rfl room gl gd (sKF G es _ h4) h2 h3) (plain_true rfl)
      | _ => simp only [chk, Bool.false_eq_true] at h
    | _ => simp only [chk, Bool.false_eq_true] at h
  | .dget kvs i, e, h => by
    cases e with
    | Subscript o y pos =>
      cases o with
      | Dict ks vs p2 =>
        simp only [chk, Bool.and_eq_true, decide_eq_true_eq] at h
        obtain ⟨⟨⟨⟨⟨h1, h2⟩, h3⟩, h4⟩, h5⟩, h6⟩ := h
        exact ok_plain (pe_dgetD (by have := G.un; omega) h2 h3 h4 h5 (no_sl h1) (sE G i _ h6).1) (plain_true rfl)
      | _ => simp only [chk, Bool.false_eq_true] at h
    | _ => simp only [chk, Bool.false_eq_true] at h
  | .lix o a, e, h => by
    cases e with
    | Call fe as ks pos =>
      cases fe with
      | Attribute x nm ap =>
        match as, ks, h with
        | [y], [], h =>
          simp only [chk, Bool.and_eq_true, decide_eq_true_eq] at h
          obtain ⟨⟨⟨⟨⟨hm, hs⟩, hst⟩, hl⟩, ho⟩, ha⟩ := h
          subst hm
          exact ok_plain (pe_lixD G.un hs hst hl (sE G o _ ho).1 (sE G a _ ha).1) (plain_true rfl)
        | [], _, h => simp only [chk, Bool.false_eq_true] at h
        | _ :: _ :: _, _, h => simp only [chk, Bool.false_eq_true] at h
        | [_], _ :: _, h => simp only [chk, Bool.false_eq_true] at h
      | _ => simp only [chk, Bool.false_eq_true] at h
    | _ => simp only [chk, Bool.false_eq_true] at h
theorem sC {X : Cx} {T : Tb} {cm : Bool} {N : List Str} {sc : Scope} {p : Pg} {n : Nat} {g : Wi} (G : Gx X T cm N sc p n g) : ∀ (c : IO) (ifs : List Expr), chkC T cm N sc c ifs = true → PTs X ifs (tCd X.K g (p.wd n) c)
  | .no, [], _ => pts_nil.imp fun σ H Q ⟨e, s, F, R, h⟩ => by
    unfold evC at h
    exact h H F R (Same.refl F)
  | .so a, [x], h => by
    simp only [chkC, Bool.and_eq_true] at h
    exact (pts_one ((sE G a x h.2).2 h.1)).imp fun σ H Q ⟨e, s, F, R, h⟩ => by
      unfold evC at h
      exact ⟨e, s, F, R, h⟩
  | .no, _ :: _, h => by simp only [chkC, Bool.false_eq_true] at h
  | .so a, [], h => by simp only [chkC, Bool.false_eq_true] at h
  | .so a, _ :: _ :: _, h => by simp only [chkC, Bool.false_eq_true] at h
theorem sI {X : Cx} {T : Tb} {cm : Bool} {N : List Str} {sc : Scope} {p : Pg} {n : Nat} {g : Wi} (G : Gx X T cm N sc p n g) : ∀ (it : IT) (t i : Expr), chkI T cm N sc it t i = true → PI X t i (tI X.K g (p.wd n) it)
  | .seq a, t, i, h => by
    simp only [chkI] at h
    exact pi_seqD (sE G a i h).1
  | .rng es, t, i, h => by
    cases i with
    | Call fe as ks pos =>
      cases fe with
      | Name x q =>
        cases ks with
        | nil =>
          simp only [chkI, Bool.and_eq_true, decide_eq_true_eq] at h
          obtain ⟨⟨⟨⟨hx, hm⟩, hg⟩, h12⟩, hA⟩ := h
          subst hx
          obtain ⟨gl, gd, gn⟩ := gl_of G hg
          exact pi_rngD gl (mem_blt G hm) (sF G es as hA) (chkA_len hA) h12 (chkA_star hA)
        | cons _ _ => simp only [chkI, Bool.false_eq_true] at h
      | _ => simp only [chkI, Bool.false_eq_true] at h
    | _ => simp only [chkI, Bool.false_eq_true] at h
  | .enm es, t, i, h => by
    cases t with
    | Tuple ts kt tp =>
      cases i with
      | Call fe as ks pos =>
        cases fe with
        | Name x q =>
          cases ks with
          | nil =>
            simp only [chkI, Bool.and_eq_true, decide_eq_true_eq] at h
            obtain ⟨⟨⟨⟨hx, hm⟩, hg⟩, h1⟩, hA⟩ := h
            subst hx
            have gl := (gl_of G hg).1
            have st := chkA_star hA
            have pa := sF G es as hA
            match as, h1, st, pa with
            | [a], _, st, pa => exact pi_enmD gl (mem_blt G hm) pa (st a (by simp))
          | cons _ _ => simp only [chkI, Bool.false_eq_true] at h
        | _ => simp only [chkI, Bool.false_eq_true] at h
      | _ => simp only [chkI, Bool.false_eq_true] at h
    | _ => simp only [chkI, Bool.false_eq_true] at h
  | .zip es, t, i, h => by
    cases t with
    | Tuple ts kt tp =>
      cases i with
      | Call fe as ks pos =>
        cases fe with
        | Name x q =>
          cases ks with
          | nil =>
            simp only [chkI, Bool.and_eq_true, decide_eq_true_eq] at h
            obtain ⟨⟨⟨⟨hx, hm⟩, hg⟩, h2⟩, hA⟩ := h
            subst hx
            obtain ⟨gl, gd, gn⟩ := gl_of G hg
            have st := chkA_star hA
            have pa := sF G es as hA
            match as, h2, st, pa with
            | [a, b], _, st, pa => exact pi_zsD gl (mem_blt G hm) pa (st a (by simp)) (st b (by simp))
          | cons _ _ => simp only [chkI, Bool.false_eq_true] at h
        | _ => simp only [chkI, Bool.false_eq_true] at h
      | _ => simp only [chkI, Bool.false_eq_true] at h
    | _ => simp only [chkI, Bool.false_eq_true] at h
theorem sF {X : Cx} {T : Tb} {cm : Bool} {N : List Str} {sc : Scope} {p : Pg} {n : Nat} {g : Wi} (G : Gx X T cm N sc p n g) : ∀ (es : IEs) (xs : List Expr), chkA T cm N sc es xs = true → PA X xs (tF X.K g (p.wd n) es)
  | .nil, [], _ => pa_nil.imp fun _ _ _ h => t_nilF h
  | .cons a r, [], h => by simp only [chkA, Bool.false_eq_true] at h
  | .nil, x :: xs, h => by simp only [chkA, Bool.false_eq_true] at h
  | .cons a r, x :: xs, h => by
    simp only [chkA, Bool.and_eq_true] at h
    exact (pa_cons (sE G a x h.1.2).1 (sF G r xs h.2) (star1 h.1.1)).imp fun _ _ _ h => t_consF h
theorem sB {X : Cx} {T : Tb} {cm : Bool} {N : List Str} {sc : Scope} {p : Pg} {n : Nat} {g : Wi} (G : Gx X T cm N sc p n g) : ∀ (es : IEs) (xs : List Expr), chkA T cm N sc es xs = true → PA X xs (tB X.K g (p.wd n) es)
  | .nil, [], _ => pa_nil.imp fun _ _ _ h => t_nilB h
  | .cons a r, [], h => by simp only [chkA, Bool.false_eq_true] at h
  | .nil, x :: xs, h => by simp only [chkA, Bool.false_eq_true] at h
  | .cons a .nil, x :: xs, h => by
    simp only [chkA, Bool.and_eq_true] at h
    cases xs with
    | nil => exact (pa_cons (sE G a x h.1.2).1 pa_nil (star1 h.1.1)).imp fun _ _ _ h => t_oneB h
    | cons _ _ => simp only [chkA, Bool.false_eq_true, and_false] at h
  | .cons a (.cons b r), x :: xs, h => by
    have h' := h
    unfold chkA at h
    simp only [and_iff2] at h
    exact (pa_cons (sE G a x h.1.2).1 (sB G (.cons b r) xs h.2) (star1 h.1.1)).imp fun _ _ _ h => t_consB h
theorem sK {X : Cx} {T : Tb} {cm : Bool} {N : List Str} {sc : Scope} {p : Pg} {n : Nat} {g : Wi} (G : Gx X T cm N sc p n g) : ∀ (es : IEs) (ks : List Keyword), chkA T cm N sc es (kwE ks) = true → PK X ks (tB X.K g (p.wd n) es)
  | .nil, [], _ => ⟨fun pos pins s σ H Q I h => pk_nil.run pos pins s σ H Q I (t_nilB h)⟩
  | .cons a r, [], h => by simp only [kwE, chkA, Bool.false_eq_true] at h
  | .nil, x :: xs, h => by simp only [kwE, chkA, Bool.false_eq_true] at h
  | .cons a .nil, ⟨nm, x, kp⟩ :: xs, h => by
    simp only [kwE, chkA, Bool.and_eq_true] at h
    cases xs with
    | nil => exact ⟨fun pos pins s σ H Q I q => (pk_cons (sE G a x h.1.2).1 pk_nil).run pos pins s σ H Q I (t_oneB q)⟩
    | cons _ _ => simp only [kwE, chkA, Bool.false_eq_true, and_false] at h
  | .cons a (.cons b r), ⟨nm, x, kp⟩ :: xs, h => by
    have h2 : chkA T cm N sc (.cons a (.cons b r)) (x :: kwE xs) = true := h
    unfold chkA at h2
    simp only [and_iff2] at h2
    exact ⟨fun pos pins s σ H Q I q => (pk_cons (sE G a x h2.1.2).1 (sK G (.cons b r) xs h2.2)).run pos pins s σ H Q I (t_consB q)⟩
theorem sKF {X : Cx} {T : Tb} {cm : Bool} {N : List Str} {sc : Scope} {p : Pg} {n : Nat} {g : Wi} (G : Gx X T cm N sc p n g) : ∀ (es : IEs) (ks : List Keyword), chkA T cm N sc es (kwE ks) = true → PK X ks (tF X.K g (p.wd n) es)
  | .nil, [], _ => ⟨fun pos pins s σ H Q I h => pk_nil.run pos pins s σ H Q I (t_nilF h)⟩
  | .cons a r, [], h => by simp only [kwE, chkA, Bool.false_eq_true] at h
  | .nil, x :: xs, h => by simp only [kwE, chkA, Bool.false_eq_true] at h
  | .cons a r, ⟨nm, x, kp⟩ :: xs, h => by
    have h2 : chkA T cm N sc (.cons a r) (x :: kwE xs) = true := h
    unfold chkA at h2
    simp only [and_iff2] at h2
    exact ⟨fun pos pins s σ H Q I q => (pk_cons (sE G a x h2.1.2).1 (sKF G r xs h2.2)).run pos pins s σ H Q I (t_consF q)⟩
theorem sO {X : Cx} {T : Tb} {cm : Bool} {N : List Str} {sc : Scope} {p : Pg} {n : Nat} {g : Wi} (G : Gx X T cm N sc p n g) : ∀ (a : IO) (x : Option Expr), chkO T cm N sc a x = true → PO X x (tOo X.K g (p.wd n) a)
  | .no, none, _ => po_noneO
  | .so a, none, h => by simp only [chkO, Bool.false_eq_true] at h
  | .no, some x, h => by simp only [chkO, Bool.false_eq_true] at h
  | .so a, some x, h => by
    simp only [chkO] at h
    exact po_someO (sE G a x h).1
end
end Pi
set_option maxRecDepth 100000
set_option maxHeartbeats 3900000
namespace Pi
open PySem PySem.Spec L2 PyProof.Rows
/-! ### what follows a statement -/
def PoS (K : PySem.W.Frag) (g : Wi) (e : En) (F : Hp) (D : Ends) : Out → Prop
  | .next s => ∀ σ H F', Rl K e s σ F' H → Same F F' → D.nx σ H
  | .brk s => ∀ σ H F', Rl K e s σ F' H → Same F F' → D.bk σ H
  | .cont s => ∀ σ H F', Rl K e s σ F' H → Same F F' → D.ct σ H
  | .ret v s => ∀ H F' u, Rl K e ⟨[], s.cell⟩ [] F' H → Same F F' → Rv K e ⟨[], s.cell⟩ [] F' H u v.er → D.rt u H
  | .exc c fs s => ∀ σ d H F', Rl K e s σ F' H → Same F F' → Xd K F' H d fs → g.W (g.cn c) d σ H
  | .stuck => False
def tS (K : PySem.W.Frag) (g : Wi) (w : Wd) (a : IS) : TS := fun D σ H => ∃ e s F, Rl K e s σ F H ∧ PoS K g e F D (exec w a s)
def tSs (K : PySem.W.Frag) (g : Wi) (w : Wd) (a : ISs) : TS := fun D σ H => ∃ e s F, Rl K e s σ F H ∧ PoS K g e F D (execs w a s)
section
variable {K : PySem.W.Frag} {g : Wi} {e : En} {s s' : Fr} {σ : Sg} {F F' H H' : Hp} {D D' : Ends} {o : Out} {v : V} {er : ER}
theorem PoS.mono (h : PoS K g e F D o) (sm : Same F F') : PoS K g e F' D o := by
  cases o with
  | next t => exact fun σ H F2 k q => h σ H F2 k (sm.trans q)
  | brk t => exact fun σ H F2 k q => h σ H F2 k (sm.trans q)
  | cont t => exact fun σ H F2 k q => h σ H F2 k (sm.trans q)
  | ret u t => exact fun H F2 u k q x => h H F2 u k (sm.trans q) x
  | exc c fs t => exact fun σ d H F2 k q x => h σ d H F2 k (sm.trans q) x
  | stuck => exact h
theorem PoS.out {α : Type} {r : Rs α} {f : α → Fr → Out} (h : PoS K g e F D (r.out f)) (σ : Sg) : Po K g e σ F (fun a s F1 _ => PoS K g e F1 D (f a s)) r := by
  cases r with
  | ok a t => exact fun H F2 k q => PoS.mono (o := f a t) h q
  | exc c fs t => exact fun d H F2 k q x => h σ d H F2 k q x
  | stuck => exact h
theorem PoS.seq {f : Fr → Out} (h : PoS K g e F D (o.seq f)) (hn : ∀ s σ H F', Rl K e s σ F' H → Same F F' → PoS K g e F' D (f s) → D'.nx σ H) (h1 : D'.rt = D.rt) (h2 : D'.bk = D.bk) (h3 : D'.ct = D.ct) : PoS K g e F D' o := by
  cases o with
  | next t => exact fun σ H F2 k q => hn t σ H F2 k q (PoS.mono (o := f t) h q)
  | brk t => exact fun σ H F2 k q => by rw [h2]; exact h σ H F2 k q
  | cont t => exact fun σ H F2 k q => by rw [h3]; exact h σ H F2 k q
  | ret u t => exact fun H F2 u k q x => by rw [h1]; exact h H F2 u k q x
  | exc c fs t => exact h
  | stuck => exact h
theorem Rl.drop (R : Rl K e s σ F H) : Rl K e ⟨[], s.cell⟩ [] F H :=
  ⟨R.sub, R.fnew, R.f0, R.keep, R.cell, fun i x q => by simp at q, fun i j x y q => by simp at q, rfl⟩
/-- a list of one's own is written -/
theorem Rl.mutO {i : Nat} {p : Addr} {xs ys : List Pi.D} {ws : List V} (R : Rl K e s σ F H) (hs : s.sl[i]? = some (.own xs)) (hv : σ[i]? = some (some (.ref p))) (ra : RpA K F ws ys) : Rl K e (s.put i (.own ys)) σ F (upd H p (.lst ws)) := by
  obtain ⟨p', vs, hw, h1, h2, h3, h4, h5⟩ := R.slot i _ hs
  rw [hv] at hw
  cases hw
  have il : i < s.sl.length := (List.getElem?_eq_some_iff.mp hs).1
  refine ⟨fun b u q => ?_, R.fnew, R.f0, fun b u q hc => ?_, fun a ha => ?_, fun j x q => ?_, fun j k x y q1 q2 i1 i2 z => ?_, by show (s.sl.set i _).length = _; rw [List.length_set]; exact R.len⟩
  · rw [upd_ne (ne_of_none q h2)]
    exact R.sub b u q
  · rw [upd_ne (ne_of_none q h1)]
    exact R.keep b u q hc
  · obtain ⟨g1, us, g2, r⟩ := R.cell a ha
    have na : a ≠ p := fun z => h3 (by rw [← z]; exact ha.symm)
    exact ⟨g1, us, by rw [upd_ne na]; exact g2, r⟩
  · rcases set_get q with ⟨rfl, rfl⟩ | ⟨ne, q⟩
    · exact ⟨p, ws, hv, h1, h2, h3, upd_same, ra⟩
    · have k := R.slot j x q
      cases x with
      | own zs =>
        obtain ⟨p2, us, hw, g1, g2, g3, g4, g5⟩ := k
        have np : p2 ≠ p := fun z => ne (R.dist i j _ _ hs q rfl rfl (by rw [hv, hw, z]))
        exact ⟨p2, us, hw, g1, g2, g3, by rw [upd_ne np]; exact g4, g5⟩
      | un => exact k
      | val _ => exact k
      | ref => exact k
  · have own : ∀ (j : Nat) x, (s.sl.set i (.own ys))[j]? = some x → isOwn x = true → ∃ y, s.sl[j]? = some y ∧ isOwn y = true := fun j x q io => by
      rcases set_get q with ⟨rfl, rfl⟩ | ⟨ne, q⟩
      · exact ⟨_, hs, rfl⟩
      · exact ⟨x, q, io⟩
    obtain ⟨x', w1, w2⟩ := own j x q1 i1
    obtain ⟨y', w3, w4⟩ := own k y q2 i2
    exact R.dist j k x' y' w1 w3 w2 w4 z
/-- the cell is written -/
theorem Rl.mutC {a : Addr} {ys : List Pi.D} {ws : List V} (R : Rl K e s σ F H) (ha : e.c = some a) (ra : RpA K F ws ys) : Rl K e ⟨s.sl, ys⟩ σ F (upd H a (.lst ws)) := by
  obtain ⟨h1, vs, h2, h3⟩ := R.cell a ha
  refine ⟨fun b u q => ?_, R.fnew, R.f0, fun b u q hc => ?_, fun a' ha' => ?_, fun j x q => ?_, R.dist, R.len⟩
  · rw [upd_ne (ne_of_none q h1)]
    exact R.sub b u q
  · rw [upd_ne (fun z => hc (by rw [z]; exact ha.symm))]
    exact R.keep b u q hc
  · rw [ha] at ha'
    cases ha'
    exact ⟨h1, ws, upd_same, ra⟩
  · have k := R.slot j x q
    cases x with
    | own zs =>
      obtain ⟨p2, us, hw, g1, g2, g3, g4, g5⟩ := k
      exact ⟨p2, us, hw, g1, g2, g3, by rw [upd_ne (fun z => g3 (by rw [z]; exact ha.symm))]; exact g4, g5⟩
    | un => exact k
    | val _ => exact k
    | ref => exact k
/-- what is changed at slot i: where it stands, what it was -/
theorem Rl.mutS {i : Nat} {f : List Pi.D → Option (List Pi.D)} (R : Rl K e s σ F H) (q : mutS i f s = some s') : ∃ p vs xs ys, σ[i]? = some (some (.ref p)) ∧ H p = some (.lst vs) ∧ RpA K F vs xs ∧ f xs = some ys ∧ ∀ ws, RpA K F ws ys → Rl K e s' σ F (upd H p (.lst ws)) := by
  unfold Pi.mutS at q
  cases hs : s.sl[i]? with
  | none => simp only [hs] at q; cases q
  | some x =>
    simp only [hs] at q
    have k := R.slot i x hs
    cases x with
    | un => cases q
    | val _ => cases q
    | own xs =>
      simp only at q
      cases hf : f xs with
      | none => rw [hf] at q; cases q
      | some ys =>
        rw [hf] at q
        cases q
        obtain ⟨p, vs, hw, h1, h2, h3, h4, h5⟩ := k
        exact ⟨p, vs, xs, ys, hw, h4, h5, hf, fun ws ra => R.mutO hs hw ra⟩
    | ref =>
      simp only at q
      cases hf : f s.cell with
      | none => rw [hf] at q; cases q
      | some ys =>
        rw [hf] at q
        cases q
        obtain ⟨a, ha, hw⟩ := k
        obtain ⟨h1, vs, h2, h3⟩ := R.cell a ha
        exact ⟨a, vs, s.cell, ys, hw, h2, h3, hf, fun ws ra => R.mutC ha ra⟩
/-- name = .. -/
theorem po_sto {i : Nat} (R : Rl K e s σ F H) (rv : Rv K e s σ F H v er) (h : PoS K g e F D (stoR i er s)) : D.nx (σ.set i (some v)) H := by
  cases er with
  | val d => exact h _ H F (R.store rv) (Same.refl F)
  | fresh xs => exact h _ H F (R.storeO rv) (Same.refl F)
  | cell => exact h.elim
  | slot j =>
    have rv' : σ[j]? = some (some v) := rv
    unfold stoR at h
    cases hs : s.sl[j]? with
    | none => simp only [hs] at h; exact h.elim
    | some x =>
      simp only [hs] at h
      cases x with
      | un => exact h.elim
      | ref => exact h.elim
      | val d =>
        obtain ⟨u, h1, h2⟩ := R.slot j _ hs
        rw [rv'] at h1
        cases h1
        exact h _ H F (R.store h2) (Same.refl F)
      | own xs =>
        have q : ER.fz s (.slot j) = .ok (.lst xs) (s.put j (.val (.lst xs))) := by
          unfold ER.fz
          simp only [hs]
        obtain ⟨F2, R2, sm2, rp⟩ := R.fzz (er := .slot j) rv q
        exact h _ H F2 (R2.store rp) sm2
/-- return .. -/
theorem po_ret (R : Rl K e s σ F H) (rv : Rv K e s σ F H v er) (h : PoS K g e F D (retR er s)) : D.rt v H := by
  cases er with
  | val d => exact h H F v R.drop (Same.refl F) rv
  | fresh xs =>
    obtain ⟨p, vs, rfl, h1, h2, h3, h4, h5, _⟩ := rv
    exact h H F _ R.drop (Same.refl F) ⟨p, vs, rfl, h1, h2, h3, h4, h5, fun i x q => by simp at q⟩
  | cell => exact h.elim
  | slot j =>
    have rv : σ[j]? = some (some v) := rv
    unfold retR at h
    cases hs : s.sl[j]? with
    | none => simp only [hs] at h; exact h.elim
    | some x =>
      simp only [hs] at h
      cases x with
      | un => exact h.elim
      | ref => exact h.elim
      | val d =>
        obtain ⟨u, h1, h2⟩ := R.slot j _ hs
        rw [rv] at h1
        cases h1
        exact h H F v R.drop (Same.refl F) h2
      | own xs =>
        obtain ⟨p, vs, hw, h1, h2, h3, h4, h5⟩ := R.slot j _ hs
        rw [rv] at hw
        cases hw
        exact h H F _ R.drop (Same.refl F) ⟨p, vs, rfl, h1, h2, h3, h4, h5, fun i x q => by simp at q⟩
end
end Pi
set_option maxRecDepth 100000
set_option maxHeartbeats 3900000
namespace Pi
open PySem PySem.Spec L2 PyProof.Rows
/-! ### except clauses with names; the error is told of while its suite runs. Each clause is one of the library's steps PX.clause_asZ, PX.clause_passZ, PX.no_clauseZ. -/
/-- an error has come to rest in the frame of X; tI is the state without it, B the ground -/
structure Rest (X : Cx) (pins : List (Addr × Obj)) (σ : L2.St) (H : Hp) (a : Addr) (cls : Value) (d : Option Addr) (B : Heap) (tI s : Shared) : Prop where
  bare : Inv X pins σ H tI
  ground : ∀ b o, tI.heap.get? b = some o → b ∉ frs X.stack → B.get? b = some o
  slots : tI.heap.UpToSlots s.heap
  fly : PX.FlyingZ B (X.env :: X.outer) a (Zc cls d) s.heap
  out : H a = none
  sys : s.os = tI.os
  gens : AllBare s.gens
section
variable {X : Cx} {pins : List (Addr × Obj)} {σ : L2.St} {H : Hp} {a : Addr} {cls : Value} {d : Option Addr} {B : Heap} {tI s : Shared}
theorem Rest.now (R : Rest X pins σ H a cls d B tI s) : Inv X pins σ H s := R.bare.landed R.ground R.fly.1 R.slots R.sys R.gens
theorem Rest.later {h : Heap} (R : Rest X pins σ H a cls d B tI s) (f : PX.FlyingZ B (X.env :: X.outer) a (Zc cls d) h) (u : s.heap.UpToSlots h) : Rest X pins σ H a cls d B tI { s with heap := h } :=
  { R with slots := R.slots.trans u, fly := f }
theorem Rest.obj (R : Rest X pins σ H a cls d B tI s) : ∃ oe vs, s.heap.get? a = some oe ∧ oe.cls = cls ∧ oe.dict = d ∧ oe.data = .fields vs := by
  obtain ⟨_, _, _, oe, vs, _, _, _, q, ⟨z1, z2⟩, dd, _⟩ := R.fly
  exact ⟨oe, vs, q, z1, z2, dd⟩
/-- it is no frame -/
theorem Rest.noframe (R : Rest X pins σ H a cls d B tI s) : a ∉ frs (X.env :: X.outer) := by
  intro hm
  obtain ⟨_, o, q, no⟩ := R.fly.2.2.1.mem hm
  obtain ⟨oe, vs, q2, _, _, dd⟩ := R.obj
  have e := Option.some.inj (q2.symm.trans q)
  exact no vs (e ▸ dd)
theorem Rest.noloc (hf : X.env.frame = some X.env.locals) (R : Rest X pins σ H a cls d B tI s) : a ≠ X.env.locals := by
  rintro rfl
  refine R.noframe ?_
  unfold frs
  simp [hf]
/-- it was not there before -/
theorem Rest.fresh (hs : X.stack = X.env :: X.outer) (R : Rest X pins σ H a cls d B tI s) : tI.heap.get? a = none := by
  match q : tI.heap.get? a with
  | none => rfl
  | some o =>
    have z := R.ground a o q (hs ▸ R.noframe)
    rw [show B.get? a = none from R.fly.2.1] at z
    exact nomatch z
end
theorem exq_ok {P : Program} {w : World} {H : Hp} {h : Heap} {a c : Addr} {d : Option Addr} {oe : Obj} {vs : Array Value} (h1 : h.get? a = some oe) (h2 : oe.cls = .ref c) (h3 : oe.dict = d) (h4 : oe.data = .fields vs) : ObjOk P w H h a (exq a c d) :=
  ⟨⟨oe, vs, h1, h2, h3, h4⟩, ⟨oe, h1⟩, fun g1 g2 ⟨oe', vs', k1, k2, k3, k4⟩ k => ⟨oe', vs', k _ k1, k2, k3, k4⟩⟩
section
variable {X : Cx} {pins : List (Addr × Obj)} {σ : L2.St} {H : Hp} {s tI : Shared} {a C : Addr} {d : Option Addr} {B : Heap}
/-- in its suite the error is told of in H -/
theorem Rest.told (hs : X.stack = X.env :: X.outer) (hf : X.env.frame = some X.env.locals) (hex : X.ex = []) (R : Rest X pins σ H a (.ref C) d B tI s) : Inv (X.suite a (X.pn ++ pins)) [] σ (upd H a (exq a C d)) s := by
  have I := R.now
  have hn := R.fresh hs
  have nl : a ≠ X.env.locals := R.noloc hf
  obtain ⟨oe, vs, h1, h2, h3, h4⟩ := R.obj
  have far : ∀ {b : Addr} {u : HO}, H b = some u → upd H a (exq a C d) b = some u := fun {b u} q => by rw [upd_ne (ne_of_none q R.out)]; exact q
  have far0 : ∀ {b : Addr}, b ≠ a → H b = none → upd H a (exq a C d) b = none := fun {b} n q => by rw [upd_ne n]; exact q
  have old : ∀ {b : Addr} {o : Obj}, tI.heap.get? b = some o → b ≠ a := fun {b o} q z => by
    rw [z, hn] at q
    exact nomatch q
  exact {
    ok := I.ok.suite _ _
    os := I.os
    bare := I.bare
    base := { keep := I.base.keep, slot := I.base.slot, there := I.base.there
              free := fun b o e n hx => by
                obtain ⟨o', q⟩ := R.bare.base.there b o e (by simp [hex])
                exact far0 (old q) (I.base.free b o e n hx)
              tups := fun b xs q => far (I.base.tups b xs q)
              frzs := fun b o v q => far (I.base.frzs b o v q)
              tbls := fun b ps q => let ⟨m, z⟩ := I.base.tbls b ps q; ⟨m, far z⟩ }
    loc := I.loc
    cell := I.cell
    free := far0 (Ne.symm nl) I.free
    freeC := fun y k q => by
      obtain ⟨_, o', z, _⟩ := R.bare.cell y k q
      exact far0 (old z) (I.freeC y k q)
    pin := fun p hp => by
      have hp : p ∈ X.pn ++ pins := by simpa using hp
      obtain ⟨k1, k2, k3⟩ := I.pin p hp
      exact ⟨k1, far0 (old (R.bare.pin p hp).1) k2, k3⟩
    hok := fun b o q => by
      by_cases hb : b = a
      · subst hb
        rw [upd_same] at q
        cases q
        exact exq_ok h1 h2 h3 h4
      · rw [upd_ne hb] at q
        exact (I.hok b o q).stay (fun _ _ _ z => z) (fun k z => far z) fun k xs z => far z
    len := I.len }
/-- .. and behind it the frame is as before -/
theorem inv_back {pn' : List (Addr × Obj)} (I : Inv (X.suite a (X.pn ++ pins)) pn' σ H s) (ok : X.Ok) : Inv X pins σ H s :=
  { I with ok := ok, pin := fun p hp => I.pin p (List.mem_append_left _ hp) }
end
section
variable {X : Cx} {pins : List (Addr × Obj)} {σ : L2.St} {H : Hp} {s tI : Shared} {a : Addr} {cls : Value} {d : Option Addr} {B : Heap}
/-- new objects do not stir it -/
theorem Rest.kept {h : Heap} (R : Rest X pins σ H a cls d B tI s) (k : ∀ b o, s.heap.get? b = some o → h.get? b = some o) : Rest X pins σ H a cls d B tI { s with heap := h } := by
  obtain ⟨f1, f2, f3, oe, vs, T, oT, ts, q1, q2, q3, q4, q5, q6, q7, q8⟩ := R.fly
  exact R.later ⟨fun b o z => k b o (f1 b o z), f2, Heap.FunFrames.of_keeps (fun b o z _ => ⟨o, k b o z, rfl⟩) f3, oe, vs, T, oT, ts, k _ _ q1, q2, q3, q4, q5, q6, k _ _ q7, q8⟩ (Heap.UpToSlots.of_keeps k)
theorem Rest.looks (R : Rest X pins σ H a cls d B tI s) : PySem.W.Looks (model X.prog X.w) s.heap (typeOf (.ref a)) cls := by
  obtain ⟨oe, vs, there, c, _⟩ := R.obj
  exact fun A Q E s k q => wpAny_typeOf_ref (k _ _ there) (c ▸ q)
end
/-- an except clause's test, asked beside the error, tells b -/
def Sees (X : Cx) (t : Expr) (cls : Value) (b : Bool) : Prop := ∀ (pins : List (Addr × Obj)) (σ : L2.St) (H : Hp) (a : Addr) (d : Option Addr) (B : Heap) (tI s : Shared), Rest X pins σ H a cls d B tI s → ∀ (Q : Bool → Shared → Prop) (E : Value → Shared → Prop),
  (∀ h, (∀ q o, s.heap.get? q = some o → h.get? q = some o) → Q b { s with heap := h }) → wpAny (model X.prog X.w) (X.A.mark (some (.ref a))) (eval t X.env) (fun c s1 => wpAny (model X.prog X.w) (X.A.mark (some (.ref a))) (excMatches (.ref a) c) Q E s1) E s
section
variable {X : Cx} {cls c c' : Value} {x x' : Str} {np np' : Pos} {b : Bool}
/-- a class is read beside the error -/
theorem Rest.reads (hf : X.env.frame = some X.env.locals) {pins : List (Addr × Obj)} {σ : L2.St} {H : Hp} {a : Addr} {d : Option Addr} {B : Heap} {tI s : Shared} (R : Rest X pins σ H a cls d B tI s) (hc : Names X x c) {Q : Value → Shared → Prop} {E : Value → Shared → Prop} (q : Q c s) :
    wpAny (model X.prog X.w) (X.A.mark (some (.ref a))) (eval (.Name x np) X.env) Q E s := by
  obtain ⟨oe, vs, o1, _, _, o2⟩ := R.obj
  have nF : a ∉ X.fs := fun z => R.noframe (by
    obtain ⟨e, he, q⟩ := List.mem_filterMap.mp z
    exact List.mem_filterMap.mpr ⟨e, .tail _ he, q⟩)
  have S := R.now.suite o1 o2 R.out (R.noloc hf) nF
  rcases hc with ⟨hg, hdb, hm | ⟨hm, hv, hn⟩⟩
  · exact ld_glob (X := X.suite a ((a, oe) :: (X.pn ++ pins))) S hg hm q hdb
  · exact ld_blt (X := X.suite a ((a, oe) :: (X.pn ++ pins))) S hg hm hv q hn hdb
theorem sees_one (hf : X.env.frame = some X.env.locals) (hc : Names X x c) (hm : PySem.W.exmOne X.K cls c = some b) : Sees X (.Name x np) cls b := fun pins σ H a d B tI s R Q E q =>
  R.reads hf hc ((PySem.W.exm_one R.now.kIn R.looks hm).here (q s.heap fun _ _ z => z))
theorem sees_two {kk : Nat} {tp : Pos} (hf : X.env.frame = some X.env.locals) (hc : Names X x c) (hc' : Names X x' c') (hm : PySem.W.exmAny X.K cls [c, c'] = some b) : Sees X (.Tuple [.Name x np, .Name x' np'] kk tp) cls b := by
  intro pins σ H a d B tI s R Q E q
  refine wpAny_Tuple (wpAny_items_cons (R.reads hf hc (wpAny_items_cons (R.reads hf hc' (wpAny_items_nil ⟨by size_fits, ?_⟩)))))
  have k : ∀ q o, s.heap.get? q = some o → (s.heap.push { cls := .type "tuple", data := .seq [c, c'].toArray }).get? q = some o := fun _ _ z => Heap.get?_push_of_some _ z
  exact (PySem.W.exm_tup2 (R.now.kIn.keeps k) (R.looks.keeps k) (Heap.get?_push_size s.heap rfl) hm).here (q _ k)
end
/-- the name is gone behind the suite -/
def goneD (i : Nat) (D : Ends) : Ends := { nx := fun σ H => D.nx (σ.set i none) H, rt := D.rt, bk := fun σ H => D.bk (σ.set i none) H, ct := fun σ H => D.ct (σ.set i none) H }
def wMix (K : PySem.W.Frag) (Wout : WX) (D : Ends) : List (List Value × Nat × TS) → WX
  | [] => Wout
  | (cs, i, ts) :: r => fun cls d σ H => ∃ b, PySem.W.exmAny K cls cs = some b ∧ (b = true → ∃ C, cls = .ref C ∧ ∀ a, H a = none → ts (goneD i D) (σ.set i (some (.ref a))) (upd H a (exq a C d))) ∧ (b = false → wMix K Wout D r cls d σ H)
inductive HdsD (X : Cx) : List ExceptHandler → List (List Value × Nat × TS) → Prop
  | nil : HdsD X [] []
  | cons {t : Expr} {nm : Str} {cs : List Value} {i : Nat} {ts : TS} {b₀ : Stmt} {suite : List Stmt} {pos' : Pos} {hds : List ExceptHandler} {l : List (List Value × Nat × TS)} (see : ∀ cls b, PySem.W.exmAny X.K cls cs = some b → Sees X t cls b) (hi : X.N[i]? = some nm) (hln : X.env.kindOf nm = some .local)
      (hsu : ∀ (a : Addr) (pn : List (Addr × Obj)), PSs (X.suite a pn) (b₀ :: suite) ts) (r : HdsD X hds l) : HdsD X (.ExceptHandler (some t) (some nm) (b₀ :: suite) pos' :: hds) ((cs, i, ts) :: l)
/-- what a statement leaves, read in two frames -/
theorem SP.to {X Y : Cx} {p q : List (Addr × Obj)} {D : Ends} {f : Flow} {s : Shared} (h : SP Y p D f s) (g : ∀ σ H, Inv Y p σ H s → Inv X q σ H s) : SP X q D f s := by
  cases f with
  | ret u => obtain ⟨v, σ, H, J, k⟩ := h; exact ⟨v, σ, H, g _ _ J, k⟩
  | next => obtain ⟨σ, H, J, k⟩ := h; exact ⟨σ, H, g _ _ J, k⟩
  | brk => obtain ⟨σ, H, J, k⟩ := h; exact ⟨σ, H, g _ _ J, k⟩
  | cont => obtain ⟨σ, H, J, k⟩ := h; exact ⟨σ, H, g _ _ J, k⟩
section
variable {X : Cx} {pins : List (Addr × Obj)} {D : Ends} {Wout : WX}
/-- the clauses, one behind the other -/
theorem clauses (hs : X.stack = X.env :: X.outer) (hf : X.env.frame = some X.env.locals) (hex : X.ex = []) (hN : X.N.Nodup) (tk : Takes X Wout) {hds : List ExceptHandler} {l : List (List Value × Nat × TS)} (hh : HdsD X hds l) :
    ∀ {σ : L2.St} {H : Hp} {a : Addr} {cls : Value} {d : Option Addr} {B : Heap} {tI s : Shared}, Rest X pins σ H a cls d B tI s → wMix X.K Wout D l cls d σ H → wpAny (model X.prog X.w) X.A (handleBy (.ref a) X.env hds) (SP X pins D) X.xe s := by
  induction hh with
  | nil =>
    intro σ H a cls d B tI s R w
    refine PX.no_clauseZ hf R.fly fun h held u => tk _ _ ⟨a, B, tI, pins, σ, H, cls, d, rfl, R.bare, R.ground, R.slots.trans u, Or.inr (Or.inr ?_), R.out, R.sys, R.gens, w⟩
    rw [hs]
    exact held
  | @cons t nm cs i ts b₀ suite pos' hds l see hi hln hsu r ih =>
    intro σ H a cls d B tI s R w
    obtain ⟨b, hm, yes, no⟩ := w
    refine wpAny_handleBy_cons (codeAny_handlers_test (see cls b hm pins σ H a d B tI s R _ _ fun h k => ?_)) (fun q => nomatch q)
    have R1 := R.kept k
    cases b with
    | false => exact ih R1 (no rfl)
    | true =>
      obtain ⟨C, rfl, run⟩ := yes rfl
      refine codeAny_handlers_suite_as (PX.lands_againZ R1.fly fun h f u => ?_)
      refine store_ok (X := X.suite a (X.pn ++ pins)) (v := .ref a) ((R1.later f u).told hs hf hex) hN hi (Or.inl hln) rfl (fun s5 S5 => ?_) (Or.inr hln)
      refine wpAny_mono ((hsu a (X.pn ++ pins)).run [] s5 _ _ _ S5 (run a R.out)) (fun fl s6 z => ?_) fun _ _ z => z.elim
      cases fl with
      | ret u => obtain ⟨v, σ6, H6, S6, k1, k2⟩ := z; exact gone_ok (inv_back S6 R.bare.ok) hN hi hln fun s7 J => ⟨v, _, H6, J, k1, k2⟩
      | next => obtain ⟨σ6, H6, S6, k⟩ := z; exact gone_ok (inv_back S6 R.bare.ok) hN hi hln fun s7 J => ⟨_, H6, J, k⟩
      | brk => obtain ⟨σ6, H6, S6, k⟩ := z; exact gone_ok (inv_back S6 R.bare.ok) hN hi hln fun s7 J => ⟨_, H6, J, k⟩
      | cont => obtain ⟨σ6, H6, S6, k⟩ := z; exact gone_ok (inv_back S6 R.bare.ok) hN hi hln fun s7 J => ⟨_, H6, J, k⟩
theorem ps_tryD {body : List Stmt} {h₀ : ExceptHandler} {hds : List ExceptHandler} {l : List (List Value × Nat × TS)} {pos : Pos} {tb : WX → TS} (hs : X.stack = X.env :: X.outer) (hf : X.env.frame = some X.env.locals) (hex : X.ex = []) (hN : X.N.Nodup) (tk : Takes X Wout)
    (hb : ∀ (W : WX) (pn : List (Addr × Obj)) (xe : Value → Shared → Prop), Takes (X.tr pn xe) W → PassesOwn (model X.prog X.w) X.A X.env xe → PSs (X.tr pn xe) body (tb W)) (hh : HdsD X (h₀ :: hds) l) : PS X (.Try body (h₀ :: hds) [] [] pos) (fun D σ H => tb (wMix X.K Wout D l) D σ H) := by
  refine PS.mk fun pins s σ H D I h => wpAny_Try_except ?_
  have fr : X.A.frames = some (X.env :: X.outer) := I.ok.frames.trans (congrArg some hs)
  have run := (hb (wMix X.K Wout D l) (X.pn ++ pins) (fun e t => wpAny (model X.prog X.w) X.A (noteFrame e X.env) (fun _ t => wpAny (model X.prog X.w) X.A (setFlight e none) (fun _ t => wpAny (model X.prog X.w) X.A (handleBy e X.env (h₀ :: hds)) (SP X pins D) X.xe t) X.xe t) X.xe t) ?land PassesOwn.looking).run [] s σ H D (I.toTry _) h
  · refine wpAny_mono run (fun f t z => ?_) fun _ _ z => z
    have z2 : SP X pins D f t := SP.to z fun σ' H' J => J.ofTry I.ok
    cases f with
    | next => exact wpAny_execs_nil z2
    | ret u => exact z2
    | brk => exact z2
    | cont => exact z2
  · rintro u t ⟨a, B, tI, pn, σ', H', cls, d, rfl, J, ground, up, sky, out, sys, gens, w⟩
    have sky : PX.AirZ B (X.env :: X.outer) a (Zc cls d) X.env.locals t.heap := hs ▸ sky
    exact PX.AirZ.land (Z := Zc cls d) (fun o _ z => Zc.steady o _ z) fr hf sky fun h f u => clauses hs hf hex hN tk hh ⟨J.ofTry I.ok, ground, up.trans u, f, out, sys, gens⟩ w
end
end Pi
set_option maxRecDepth 100000
set_option maxHeartbeats 3900000
namespace Pi
open PySem PySem.Spec L2 PyProof.Rows
/-! ### stores -/
theorem sw_plain {v : Expr} {t : Option Expr} {l : Nat} {env : Env} (h : noComp v = true) : swapsWith v t l env = pure false := by
  cases v <;> first | rfl | cases h
def lineOf (ts : List Expr) : Nat := (ts.head?.map (·.pos.line)).getD 0
def locN (sc : Scope) (l : Nat) : Expr → Option Str
  | .Name id pos => if sc.names.lookup id == some .local && pos.line == l then some id else none
  | _ => none
def swOff (sc : Scope) (ts : List Expr) : Expr → Bool
  | .Tuple _ _ _ => decide ((ts.filterMap (locN sc (lineOf ts))).length ≠ ts.length)
  | _ => true
theorem locN_eq (env : Env) (l : Nat) : (fun (e : Expr) => match e with | .Name id pos => if env.kindOf id == some .local && pos.line == l then some id else none | _ => none) = locN env.scope l := by
  funext e
  cases e <;> rfl
theorem sw_off {ts : List Expr} {k : Nat} {p : Pos} {v : Expr} {env : Env} (h : swOff env.scope ts v = true) : swappedStores [.Tuple ts k p] v env = pure none := by
  cases v <;> try rfl
  rename_i vs k2 p2
  have h : (ts.filterMap (locN env.scope (lineOf ts))).length ≠ ts.length := of_decide_eq_true h
  unfold swappedStores
  dsimp only
  split
  · rfl
  · split
    · rfl
    · split
      · rfl
      · rename_i q
        exfalso
        simp only [Bool.or_eq_true, bne_iff_ne, ne_eq, not_or, Decidable.not_not] at q
        exact h q.1
def swOn (sc : Scope) (ts vs : List Expr) (x y : Str) : Bool := decide (ts.length = 2) && decide (vs.length = 2) && !(vs.any fun | .Starred .. => true | _ => false) && decide (ts.filterMap (locN sc (lineOf ts)) = [x, y]) && decide (x ≠ y) && !(vs.all (foldedForSure 8)) && !(vs.all (constantsAlone 8))
theorem sw_on {ts vs : List Expr} {k k2 : Nat} {p p2 : Pos} {env : Env} {x y : Str} (hk : env.scope.kind = .function) (h : swOn env.scope ts vs x y = true) : swappedStores [.Tuple ts k p] (.Tuple vs k2 p2) env = pure (some [x, y]) := by
  unfold swOn at h
  simp only [Bool.and_eq_true, decide_eq_true_eq, Bool.not_eq_true'] at h
  rcases h with ⟨⟨⟨⟨⟨⟨h1, h2⟩, h3⟩, h4⟩, h5⟩, h6⟩, h7⟩
  have hb : env.blockKind = .function := by simp [Env.blockKind, hk]
  have h4' : (ts.filterMap fun (e : Expr) => match e with | .Name id pos => if env.kindOf id == some .local && pos.line == lineOf ts then some id else none | _ => none) = [x, y] := by rw [locN_eq]; exact h4
  have he : ([x, y] : List Str).eraseDups.length = 2 := by
    have z : (x == y) = false := by simpa using h5
    simp [List.eraseDups, List.eraseDupsBy, List.eraseDupsBy.loop, z, Bool.beq_comm, h5, Ne.symm h5]
  unfold swappedStores
  dsimp only
  generalize hL : List.filterMap _ ts = L
  have hn : L = [x, y] := hL.symm.trans h4'
  subst hn
  split
  · rename_i q
    exfalso
    rw [h1, h2, hb] at q
    exact absurd q (by decide)
  · split
    · rename_i q
      exact Bool.noConfusion (h3.symm.trans q)
    · split
      · rename_i q
        exfalso
        rw [h1, he] at q
        exact Bool.noConfusion q
      · split
        · rename_i q
          rw [h6] at q
          cases q
        · split
          · rename_i q
            rw [h7] at q
            cases q
          · rfl
end Pi
set_option maxRecDepth 100000
set_option maxHeartbeats 3900000
namespace Pi
open PySem PySem.Spec L2 PyProof.Rows
/-! ### the text of statements against the small form -/
def isC : IE → Bool
  | .cst (.int _) => true
  | .var _ => true
  | _ => false
def chkTG (T : Tb) (cm : Bool) (N : List Str) (sc : Scope) : TG → Expr → Bool
  | .nm i, .Name x _ => tgOk N sc (fun _ => true) x i
  | .ix i e, .Subscript (.Name x xp) y _ => chk T cm N sc (.var i) (.Name x xp) && isC e && noSlice y && chk T cm N sc e y
  | _, _ => false
def chkTGs (T : Tb) (cm : Bool) (N : List Str) (sc : Scope) : List TG → List Expr → Bool
  | [], [] => true
  | t :: ts, x :: xs => chkTG T cm N sc t x && chkTGs T cm N sc ts xs
  | _, _ => false
def chkPar (T : Tb) (cm : Bool) (N : List Str) (sc : Scope) (i j : Nat) (es : IEs) : Stmt → Bool
  | .Assign [.Tuple [.Name x xp, .Name y yp] _ _] (.Tuple [v1, v2] _ _) _ => cm && decide (N[i]? = some x) && decide (N[j]? = some y) && decide (i ≠ j) && decide (sc.names.lookup x = some .local) && decide (sc.names.lookup y = some .local) && swOn sc [.Name x xp, .Name y yp] [v1, v2] x y && chkA T cm N sc es [v1, v2]
  | _ => false
def chkSet (T : Tb) (cm : Bool) (N : List Str) (sc : Scope) (i : Nat) (e : IE) : Stmt → Bool
  | .Assign [.Name x _] v _ => tgOk N sc (fun _ => true) x i && noComp v && chk T cm N sc e v
  | _ => false
def chkSetT (T : Tb) (cm : Bool) (N : List Str) (sc : Scope) (ts : List TG) (e : IE) : Stmt → Bool
  | .Assign [.Tuple es _ _] v _ => cm && chkTGs T cm N sc ts es && swOff sc es v && chk T cm N sc e v
  | _ => false
def chkSetI (T : Tb) (cm : Bool) (N : List Str) (sc : Scope) (i : Nat) (ix e : IE) : Stmt → Bool
  | .Assign [.Subscript (.Name x xp) y yp] v _ => chkTG T cm N sc (.ix i ix) (.Subscript (.Name x xp) y yp) && noComp v && chk T cm N sc e v
  | _ => false
def chkApp (T : Tb) (cm : Bool) (N : List Str) (sc : Scope) (m : Str) (i : Nat) (e : IE) : Stmt → Bool
  | .Expr (.Call (.Attribute (.Name x _) k ap) [y] [] p) _ => decide (k = m) && decide (N[i]? = some x) && visOk sc x && noStar y && (ap.endLine == p.line) && chk T cm N sc e y
  | _ => false
def chkRet (T : Tb) (cm : Bool) (N : List Str) (sc : Scope) (e : IE) : Stmt → Bool
  | .Return (some x) _ => chk T cm N sc e x
  | _ => false
def chkRetN : Stmt → Bool
  | .Return none _ => true
  | _ => false
def chkRais (T : Tb) (cm : Bool) (N : List Str) (sc : Scope) (c : Tx) (es : IEs) : Stmt → Bool
  | .Raise (some (.Call (.Name x _) as [] _)) none _ => cm && decide ((x, c) ∈ T.mks) && globOk sc x && chkA T cm N sc es as
  | _ => false
/-- the test of an except clause: a class, or two -/
def chkT (T : Tb) (sc : Scope) : List Cl → Expr → Bool
  | [k], .Name x _ => decide ((x, k) ∈ T.xcl) && globOk sc x
  | [k, l], .Tuple [.Name x _, .Name y _] _ _ => decide ((x, k) ∈ T.xcl) && globOk sc x && decide ((y, l) ∈ T.xcl) && globOk sc y
  | _, _ => false
mutual
def chkS (T : Tb) (cm : Bool) (N : List Str) (sc : Scope) : IS → Stmt → Bool
  | .set i e, st => chkSet T cm N sc i e st
  | .setT ts e, st => chkSetT T cm N sc ts e st
  | .par i j es, st => chkPar T cm N sc i j es st
  | .setI i ix e, st => chkSetI T cm N sc i ix e st
  | .app i e, st => chkApp T cm N sc "append" i e st
  | .ext i e, st => chkApp T cm N sc "extend" i e st
  | .ret e, st => chkRet T cm N sc e st
  | .retN, st => chkRetN st
  | .rais c es, st => chkRais T cm N sc c es st
  | .ite t a b, .If c x y _ => noIf c && chk T cm N sc t c && chkSs T cm N sc a x && chkSs T cm N sc b y
  | .loop tg it b, .For t i body [] _ => cm && noSet i && chkI T cm N sc it t i && chkTg N sc (fun _ => true) tg t && chkSs T cm N sc b body
  | .tryS b hs, .Try body (h :: hds) [] [] _ => cm && chkSs T cm N sc b body && chkH T N sc hs (h :: hds)
  | .pass, .Pass _ => true
  | .drop e, .Expr x _ => noComp x && chk T cm N sc e x
  | .brk, .Break _ => true
  | .cont, .Continue _ => true
  | _, _ => false
def chkSs (T : Tb) (cm : Bool) (N : List Str) (sc : Scope) : ISs → List Stmt → Bool
  | .nil, [] => true
  | .cons a r, x :: xs => chkS T cm N sc a x && chkSs T cm N sc r xs
  | _, _ => false
def chkH (T : Tb) (N : List Str) (sc : Scope) : IHs → List ExceptHandler → Bool
  | .nil, [] => true
  | .cons ks i b r, .ExceptHandler (some t) (some nm) (b₀ :: suite) _ :: hds => chkT T sc ks t && decide (N[i]? = some nm) && decide (sc.names.lookup nm = some .local) && chkSs T false N sc b (b₀ :: suite) && chkH T N sc r hds
  | _, _ => false
end
/-! ### errors that are made -/
def tMk (K : PySem.W.Frag) (g : Wi) (w : Wd) (init : Tx → List D → Option (List (Tx × D))) (c : Tx) (es : IEs) : L2.St → Hp → XK → Prop := fun σ H Q => ∃ e s F, Rl K e s σ F H ∧
  Po K g e σ F (fun ds s F _ => ∃ fs, init c ds = some fs ∧ ∀ d H' F', Rl K e s σ F' H' → Same F F' → Xd K F' H' d fs → Q (.ref (adr K c)) d H') (evF w es s)
structure MkOk (P : Program) (w : World) (K : PySem.W.Frag) (mg : Str → Option Value) (base : Heap) (init : Tx → List D → Option (List (Tx × D))) (n : Nat) (x : Str) (c : Tx) : Prop where
  run : ∀ (X : Cx) (g : Wi) (wd : Wd) (es : IEs) (as : List Expr) (q pos : Pos), X.prog = P → X.w = w → X.K = K → X.mg = mg → X.base = base → X.ex = [] → X.calm = true → X.A.guards = some [] → Room n X.A → Gl X x → (x == ("__debug__" : Str)) = false →
    PA X as (tF X.K g wd es) → as.length = es.len → (∀ a ∈ as, noStar a = true) → PMk X (.Call (.Name x q) as [] pos) (tMk X.K g wd init c es)
/-! ### where statements stand -/
structure Gs (X : Cx) (T : Tb) (cm : Bool) (N : List Str) (sc : Scope) (p : Pg) (n : Nat) (g : Wi) : Prop where
  gx : Gx X T cm N sc p n g
  fn : ∀ x, X.fn x = true
  kd : sc.kind = .function
  po : cm = true → PassesOwn (model X.prog X.w) X.A X.env X.xe
  st : X.stack = X.env :: X.outer
  fr : X.env.frame = some X.env.locals
  ex : X.ex = []
  mks : ∀ x c, (x, c) ∈ T.mks → MkOk X.prog X.w X.K X.mg X.base (p.wd n).init n x c
section
variable {X : Cx} {T : Tb} {cm : Bool} {N : List Str} {sc : Scope} {p : Pg} {n : Nat} {g : Wi}
theorem _root_.L2.PS.imp {X : Cx} {st : Stmt} {t t' : TS} (h : PS X st t) (i : ∀ D σ H, t' D σ H → t D σ H) : PS X st t' := ⟨fun pins s σ H D I q => h.run pins s σ H D I (i D σ H q)⟩
theorem _root_.L2.PSs.imp {X : Cx} {st : List Stmt} {t t' : TS} (h : PSs X st t) (i : ∀ D σ H, t' D σ H → t D σ H) : PSs X st t' := ⟨fun pins s σ H D I q => h.run pins s σ H D I (i D σ H q)⟩
theorem t_loop {w : Wd} {tg : Tg} {it : IT} {b : ISs} {D : Ends} {σ : Sg} {H : Hp} (h : tS X.K g w (.loop tg it b) D σ H) : tFor (tI X.K g w it) (gT X.K tg) (tSs X.K g w b) D σ H := by
  obtain ⟨e, s, F, R, h⟩ := h
  unfold exec at h
  refine ⟨e, s, F, R, (h.out σ).imp fun xs s1 F1 H1 R1 sm h1 J jok => ?_⟩
  generalize hf : (fun (x : Pi.D) (s : Fr) => match tg.bind x s with
    | none => Out.stuck
    | some s => execs w b s) = f at h1
  refine ⟨fun i m σ H => ∃ s' F', Rl X.K e s' σ F' H ∧ Same F1 F' ∧ PoS X.K g e F' D (loopGo f (xs.drop i) s') ∧ m = xs.length - i ∧ i ≤ xs.length, ⟨xs.length, s1, F1, R1, Same.refl F1, by rw [List.drop_zero]; exact h1, by omega, by omega⟩, ?_⟩
  rintro i m σ H ⟨s', F', R', sm', hgo, rfl, hi⟩
  cases hx : xs[i]? with
  | none =>
    have hl : i = xs.length := by
      have := List.getElem?_eq_none_iff.mp hx
      omega
    subst hl
    rw [List.drop_length] at hgo
    exact .inl ⟨(jok.mono sm').stop H R'.sub, hgo σ H F' R' (Same.refl F')⟩
  | some x =>
    have hl : i < xs.length := (List.getElem?_eq_some_iff.mp hx).1
    refine .inr ⟨((jok.mono sm').go i H x R'.sub hx).1, fun σ H => ∃ s' F', Rl X.K e s' σ F' H ∧ Same F1 F' ∧ PoS X.K g e F' D (loopGo f (xs.drop (i + 1)) s'), fun σ' H' ⟨s', F', k1, k2, k3⟩ => ⟨xs.length - (i + 1), by omega, s', F', k1, k2, k3, rfl, hl⟩, fun v H' y => ?_⟩
    obtain ⟨F2, R2, sm2, rp⟩ := jok.turn R' sm' hx y
    rw [drop_get hx] at hgo
    unfold loopGo at hgo
    rw [← hf] at hgo
    simp only at hgo
    rw [hf] at hgo
    cases hb : tg.bind x s' with
    | none => rw [hb] at hgo; exact hgo.elim
    | some sb =>
      rw [hb] at hgo
      simp only at hgo
      refine ⟨e, s', F2, x, sb, R2, rp, hb, fun σ2 _ R3 => ⟨e, sb, F2, R3, ?_⟩⟩
      cases ho : execs w b sb with
      | stuck => rw [ho] at hgo; exact hgo.elim
      | exc c fs t => rw [ho] at hgo; exact PoS.mono (o := .exc c fs t) hgo sm2
      | ret v t => rw [ho] at hgo; exact PoS.mono (o := .ret v t) hgo sm2
      | brk t => rw [ho] at hgo; exact fun σ H F3 k q => hgo σ H F3 k (sm2.trans q)
      | next t => rw [ho] at hgo; exact fun σ H F3 k q => ⟨t, F3, k, (sm'.trans sm2).trans q, PoS.mono hgo (sm2.trans q)⟩
      | cont t => rw [ho] at hgo; exact fun σ H F3 k q => ⟨t, F3, k, (sm'.trans sm2).trans q, PoS.mono hgo (sm2.trans q)⟩
/-! ### targets -/
def gTs (K : PySem.W.Frag) (ts : List TG) : TGs := fun vs σ H Q => ∃ e s F ds s', Rl K e s σ F H ∧ RpA K F vs ds ∧ tgs ts ds s = some s' ∧ ∀ σ' H' F', Rl K e s' σ' F' H' → Same F F' → Q σ' H'
theorem isC_ev {w : Wd} {a : IE} {s : Fr} {k : Int} (h : ixV a s = some k) : ev w a s = .ok (.val (.int k)) s := by
  cases a with
  | cst d =>
    cases d <;> simp only [ixV, reduceCtorEq, Option.some.injEq] at h
    subst h
    rfl
  | var j =>
    unfold ixV at h
    unfold ev
    cases hs : s.sl[j]? with
    | none => simp only [hs] at h; cases h
    | some x =>
      simp only [hs] at h ⊢
      cases x with
      | val d =>
        cases d <;> simp only [reduceCtorEq, Option.some.injEq] at h
        subst h
        rfl
      | _ => cases h
  | _ => cases h
/-- a[k] = v -/
theorem t_setX {w : Wd} {i : Nat} {ix : IE} {d : D} {e : En} {s s' : Fr} {σ : Sg} {F H : Hp} {v : V} {Q : L2.St → Hp → Prop} (R : Rl X.K e s σ F H) (rp : Rp X.K F v d) (q : setX i ix d s = some s') (k : ∀ σ' H' F', Rl X.K e s' σ' F' H' → Same F F' → Q σ' H') :
    gSub (tE X.K g w (.var i)) (tE X.K g w ix) rSetL v σ H Q := by
  unfold setX at q
  cases hk : ixV ix s with
  | none => rw [hk] at q; cases q
  | some j =>
    rw [hk] at q
    simp only at q
    have hvar : ∃ er, ev w (.var i) s = .ok er s := by
      unfold ev
      unfold mutS at q
      cases hs : s.sl[i]? with
      | none => simp only [hs] at q; cases q
      | some x =>
        simp only [hs] at q ⊢
        cases x with
        | un => cases q
        | val _ => cases q
        | own _ => exact ⟨_, rfl⟩
        | ref => exact ⟨_, rfl⟩
    obtain ⟨er, hv⟩ := hvar
    refine ⟨e, s, F, R, ?_⟩
    rw [hv]
    intro H1 F1 R1 sm1 o ro
    refine ⟨e, s, F1, R1, ?_⟩
    rw [isC_ev hk]
    intro H2 F2 R2 sm2 iv ri
    cases ri
    obtain ⟨pa, vs, xs, ys, hw, hp, ra, hf, kk⟩ := R2.mutS q
    have ho : o = .ref pa := by
      unfold ev at hv
      unfold mutS at q
      cases hs : s.sl[i]? with
      | none => simp only [hs] at q; cases q
      | some x =>
        simp only [hs] at hv q
        cases x with
        | un => cases q
        | val _ => cases q
        | own _ =>
          cases hv
          have ro : σ[i]? = some (some o) := ro
          rw [hw] at ro
          cases ro
          rfl
        | ref =>
          cases hv
          obtain ⟨a, h1, rfl⟩ := ro
          obtain ⟨a', h2, h3⟩ := R2.slot i _ hs
          rw [h1] at h2
          cases h2
          rw [hw] at h3
          cases h3
          rfl
    unfold setAt at hf
    cases hj : ixOf xs.length j with
    | none => rw [hj] at hf; cases hf
    | some m =>
      rw [hj] at hf
      cases hf
      refine ⟨pa, vs, j, m, ho, rfl, hp, ?_, ?_⟩
      · rw [ra.1]
        exact hj
      · exact k σ _ F2 (kk _ (ra.set ((rp.mono sm1).mono sm2) m)) (sm1.trans sm2)
theorem pg_ix (G : Gs X T cm N sc p n g) {i : Nat} {ix : IE} {x : Expr} (h : chkTG T cm N sc (.ix i ix) x = true) : ∃ o y pos, x = .Subscript o y pos ∧ noSlice y = true ∧ PE X o (tE X.K g (p.wd n) (.var i)) ∧ PE X y (tE X.K g (p.wd n) ix) := by
  cases x <;> first | (simp only [chkTG, Bool.false_eq_true] at h; done) | skip
  rename_i o y pos
  cases o <;> first | (simp only [chkTG, Bool.false_eq_true] at h; done) | skip
  simp only [chkTG, Bool.and_eq_true] at h
  exact ⟨_, y, pos, rfl, h.1.2, (sE G.gx (.var i) _ h.1.1.1).1, (sE G.gx ix y h.2).1⟩
theorem pgs_TG (G : Gs X T cm N sc p n g) : ∀ {ts : List TG} {es : List Expr}, chkTGs T cm N sc ts es = true → PGs X es (gTs X.K ts) ∧ (assignEach es X.env).length = ts.length ∧ (assignEach es X.env).findIdx? (·.1) = none
  | [], [], _ => ⟨L2PGs_imp pgs_nil fun vs σ H Q ⟨e, s, F, ds, s', R, ra, q, k⟩ => by
      cases ds with
      | cons _ _ => cases q
      | nil =>
        cases q
        exact ⟨List.eq_nil_of_length_eq_zero ra.1, k σ H F R (Same.refl F)⟩, rfl, rfl⟩
  | _ :: _, [], h => by simp only [chkTGs, Bool.false_eq_true] at h
  | [], _ :: _, h => by simp only [chkTGs, Bool.false_eq_true] at h
  | .nm i :: ts, x :: xs, h => by
    simp only [chkTGs, Bool.and_eq_true] at h
    obtain ⟨h1, h2⟩ := h
    cases x <;> first | (simp only [chkTG, Bool.false_eq_true] at h1; done) | skip
    rename_i x pos
    have h1 : tgOk N sc (fun _ => true) x i = true := h1
    rw [← G.gx.hN, ← G.gx.hsc] at h1
    obtain ⟨a1, a2, a3⟩ := tg_loc h1
    obtain ⟨b1, b2, b3⟩ := pgs_TG G h2
    refine ⟨L2PGs_imp (pgs_cons (pg_name G.gx.nd a1 a2 (.inl (G.fn x))) b1) fun vs σ H Q ⟨e, s, F, ds, s', R, ra, q, k⟩ => ?_, ?_, ?_⟩
    · cases ds with
      | nil => cases q
      | cons d ds =>
        cases vs with
        | nil => have := ra.1; simp at this
        | cons v vs =>
          obtain ⟨r1, r2⟩ := ra.cons_inv
          exact ⟨v, vs, rfl, e, s.put i (.val d), F, ds, s', R.store r1, r2, q, k⟩
    · show (assignEach xs X.env).length + 1 = _
      rw [b2]; rfl
    · show ((false, _) :: assignEach xs X.env).findIdx? (·.1) = none
      rw [List.findIdx?_cons]
      simp [b3]
  | .ix i ix :: ts, x :: xs, h => by
    simp only [chkTGs, Bool.and_eq_true] at h
    obtain ⟨h1, h2⟩ := h
    obtain ⟨o, y, pos, rfl, ns, po, py⟩ := pg_ix G h1
    obtain ⟨b1, b2, b3⟩ := pgs_TG G h2
    refine ⟨L2PGs_imp (pgs_cons (pg_sub po py set_list (by intro v; revert ns; cases y <;> intro ns <;> first | rfl | cases ns)) b1) fun vs σ H Q ⟨e, s, F, ds, s', R, ra, q, k⟩ => ?_, ?_, ?_⟩
    · cases ds with
      | nil => cases q
      | cons d ds =>
        cases vs with
        | nil => have := ra.1; simp at this
        | cons v vs =>
          obtain ⟨r1, r2⟩ := ra.cons_inv
          unfold tgs at q
          cases hs : setX i ix d s with
          | none => rw [hs] at q; cases q
          | some s1 =>
            rw [hs] at q
            simp only at q
            exact ⟨v, vs, rfl, t_setX R r1 hs fun σ' H' F' R' sm => ⟨e, s1, F', ds, s', R', r2.mono sm, q, fun σ2 H2 F2 R2 sm2 => k σ2 H2 F2 R2 (sm.trans sm2)⟩⟩
    · show (assignEach xs X.env).length + 1 = _
      rw [b2]; rfl
    · show ((false, _) :: assignEach xs X.env).findIdx? (·.1) = none
      rw [List.findIdx?_cons]
      simp [b3]
theorem tgs_len : ∀ {ts : List TG} {s s' : Fr} {ds : List D}, tgs ts ds s = some s' → ds.length = ts.length
  | [], _, _, [], _ => rfl
  | [], _, _, _ :: _, h => by cases h
  | .nm _ :: _, _, _, [], h => by cases h
  | .ix _ _ :: _, _, _, [], h => by cases h
  | .nm i :: ts, s, s', d :: ds, h => by simp [tgs_len (ts := ts) (ds := ds) h]
  | .ix i e :: ts, s, s', d :: ds, h => by
    unfold tgs at h
    cases hs : setX i e d s with
    | none => simp [hs] at h
    | some s1 =>
      rw [hs] at h
      simp [tgs_len (ts := ts) (ds := ds) h]
/-- (.., ..) = a tuple or a list -/
def gTL (K : PySem.W.Frag) (n : Nat) (t : TGs) : L2.TG := fun v σ H Q => gTup K n t v σ H Q ∨ gUnl K n t v σ H Q
theorem pg_TL (G : Gs X T cm N sc p n g) (hcm : cm = true) {ts : List TG} {es : List Expr} {k : Nat} {pos : Pos} (h : chkTGs T cm N sc ts es = true) : PG X (.Tuple es k pos) (gTL X.K ts.length (gTs X.K ts)) := by
  obtain ⟨b1, b2, b3⟩ := pgs_TG G h
  have h1 := pg_tup (pos := pos) (k := k) (G.gx.calm hcm) b1 b2 b3
  have h2 := pg_unl (pos := pos) (k := k) (G.gx.calm hcm) b1 b2 b3
  constructor; intro pins s σ H v u Q I r hw
  rcases hw with hw | hw
  · exact h1.run pins s σ H v u Q I r hw
  · exact h2.run pins s σ H v u Q I r hw
theorem t_setT {w : Wd} {ts : List TG} {e : IE} {D : Ends} {σ : Sg} {H : Hp} (h : tS X.K g w (.setT ts e) D σ H) : tAsg (tE X.K g w e) (gTL X.K ts.length (gTs X.K ts)) D σ H := by
  obtain ⟨en, s, F, R, h⟩ := h
  unfold exec at h
  refine ⟨en, s, F, R, (h.out σ).imp fun er s1 F1 H1 R1 sm h1 v rv => ?_⟩
  obtain ⟨F2, R2, sm2, rv2⟩ := R1.hold rv
  cases q : er.hold.rd s1 with
  | none => simp only [q] at h1; exact h1.elim
  | some d =>
    simp only [q] at h1
    have rt := R2.rd rv2 q
    have fin : ∀ {ds : List Pi.D} {vs : List V}, RpA X.K F2 vs ds → PoS X.K g en F1 D (outO (tgs ts ds s1)) → vs.length = ts.length ∧ gTs X.K ts vs σ H1 D.nx := by
      intro ds vs ra hp
      cases hq : tgs ts ds s1 with
      | none => rw [hq] at hp; exact hp.elim
      | some s2 =>
        rw [hq] at hp
        exact ⟨by rw [ra.1]; exact tgs_len hq, en, s1, F2, ds, s2, R2, ra, hq, fun σ' H' F' R' sm' => hp σ' H' F' R' (sm2.trans sm')⟩
    cases d <;> first | exact h1.elim | skip
    · obtain ⟨pa, vs, rfl, hp, ra⟩ := rt.lst R2.sub
      obtain ⟨l1, l2⟩ := fin ra h1
      exact .inr ⟨pa, vs, rfl, .of hp, l1, l2⟩
    · obtain ⟨pa, vs, rfl, hp, ra⟩ := rt.tup R2.sub
      obtain ⟨l1, l2⟩ := fin ra h1
      exact .inl ⟨pa, vs, rfl, hp, l1, l2⟩
theorem t_par {w : Wd} {i j : Nat} {es : IEs} {D : Ends} {σ : Sg} {H : Hp} (h : tS X.K g w (.par i j es) D σ H) : tPar i j (tF X.K g w es) D σ H := by
  obtain ⟨en, s, F, R, h⟩ := h
  unfold exec at h
  refine ⟨en, s, F, R, (h.out σ).imp fun ds s1 F1 H1 R1 sm h1 vs ra => ?_⟩
  cases q : putAll s1 [i, j] ds with
  | none => rw [q] at h1; exact h1.elim
  | some s2 =>
    rw [q] at h1
    match ds, q, ra with
    | [], q, _ => cases q
    | [_], q, _ => cases q
    | _ :: _ :: _ :: _, q, _ => cases q
    | [d1, d2], q, ra =>
      obtain ⟨v, v', rfl, r1, r2⟩ := ra.two
      cases q
      exact ⟨v, v', rfl, h1 _ H1 F1 ((R1.store r1).store r2) (Same.refl F1)⟩
theorem t_setI {w : Wd} {i : Nat} {ix e : IE} {D : Ends} {σ : Sg} {H : Hp} (h : tS X.K g w (.setI i ix e) D σ H) : tAsg (tE X.K g w e) (gSub (tE X.K g w (.var i)) (tE X.K g w ix) rSetL) D σ H := by
  obtain ⟨en, s, F, R, h⟩ := h
  unfold exec at h
  refine ⟨en, s, F, R, (h.out σ).imp fun er s1 F1 H1 R1 sm h1 v rv => ?_⟩
  cases q : er.fz s1 with
  | stuck => rw [q] at h1; exact h1.elim
  | exc c fs t => exact (fz_no q).elim
  | ok d s2 =>
    rw [q] at h1
    obtain ⟨F2, R2, sm2, rp⟩ := R1.fzz rv q
    have h1 : PoS X.K g en F1 D (outO (setX i ix d s2)) := h1
    cases hs : setX i ix d s2 with
    | none => rw [hs] at h1; exact h1.elim
    | some s3 =>
      rw [hs] at h1
      exact t_setX R2 rp hs fun σ' H' F' R' sm' => h1 σ' H' F' R' (sm2.trans sm')
/-- x.append(e) -/
theorem ps_appD (G : Gs X T cm N sc p n g) {i : Nat} {e : IE} {x : Str} {xp ap cp pos : Pos} {y : Expr} (h1 : N[i]? = some x) (h2 : visOk sc x = true) (hst : noStar y = true) (hl : (ap.endLine == cp.line) = true) (hy : PE X y (tE X.K g (p.wd n) e)) :
    PS X (.Expr (.Call (.Attribute (.Name x xp) "append" ap) [y] [] cp) pos) (tS X.K g (p.wd n) (.app i e)) := by
  obtain ⟨v1, v2, v3⟩ := vis_of G.gx h2
  have pv := pe_var (X := X) (pos := xp) (i := i) (by rw [G.gx.hN]; exact h1) v1 v2 v3
  refine (ps_expr (pe_bm (T := "list") PySem.F.plainAttrs_list PySem.F.slot_list_append PySem.F.type_list_append mt_append pv (pa_cons hy pa_nil (star1 hst)) (base_of rfl) (by rw [star1 hst]; rfl) hl (star1 hst) rfl) rfl).imp fun D σ H ⟨en, s, F, R, h⟩ => ?_
  unfold exec at h
  cases hm : mutS i some s with
  | none => rw [hm] at h; exact h.elim
  | some s0 =>
    rw [hm] at h
    obtain ⟨a, vs, xs, ys, hw, hp, _, _, _⟩ := R.mutS hm
    refine ⟨.ref a, hw, Or.inl ⟨rfl, vs, .of hp⟩, en, s, F, R, (h.out σ).imp fun er s1 F1 H1 R1 sm k1 v rv => ?_⟩
    cases q : er.fz s1 with
    | stuck => rw [q] at k1; exact k1.elim
    | exc c fs t => exact (fz_no q).elim
    | ok d s2 =>
      rw [q] at k1
      obtain ⟨F2, R2, sm2, rp⟩ := R1.fzz rv q
      have k1 : PoS X.K g en F1 D (outO (mutS i (fun xs => if xs.length < lim then some (xs ++ [d]) else none) s2)) := k1
      cases hs : mutS i (fun xs => if xs.length < lim then some (xs ++ [d]) else none) s2 with
      | none => rw [hs] at k1; exact k1.elim
      | some s3 =>
        rw [hs] at k1
        obtain ⟨b, us, zs, ts, hw', hp', ra, hf, k⟩ := R2.mutS hs
        cases hw.symm.trans hw'
        by_cases few : zs.length < lim
        · rw [if_pos few] at hf
          cases hf
          exact ⟨a, us, v, rfl, rfl, hp', by rw [ra.1, sizeLine_eq]; unfold lim at few; omega, k1 σ _ F2 (k _ (ra.append (RpA.cons rp .nil))) sm2⟩
        · rw [if_neg few] at hf
          cases hf
/-- x.extend(e), e a list -/
theorem ps_extD (G : Gs X T cm N sc p n g) {i : Nat} {e : IE} {x : Str} {xp ap cp pos : Pos} {y : Expr} (h1 : N[i]? = some x) (h2 : visOk sc x = true) (hst : noStar y = true) (hl : (ap.endLine == cp.line) = true) (hy : PE X y (tE X.K g (p.wd n) e)) :
    PS X (.Expr (.Call (.Attribute (.Name x xp) "extend" ap) [y] [] cp) pos) (tS X.K g (p.wd n) (.ext i e)) := by
  obtain ⟨v1, v2, v3⟩ := vis_of G.gx h2
  have pv := pe_var (X := X) (pos := xp) (i := i) (by rw [G.gx.hN]; exact h1) v1 v2 v3
  refine (ps_expr (pe_bm (T := "list") PySem.F.plainAttrs_list PySem.F.slot_list_extend PySem.F.type_list_extend mt_extend pv (pa_cons hy pa_nil (star1 hst)) (base_of rfl) (by rw [star1 hst]; rfl) hl (star1 hst) rfl) rfl).imp fun D σ H ⟨en, s, F, R, h⟩ => ?_
  unfold exec at h
  cases hm : mutS i some s with
  | none => rw [hm] at h; exact h.elim
  | some s0 =>
    rw [hm] at h
    obtain ⟨a, vs, xs, ys, hw, hp, _, _, _⟩ := R.mutS hm
    refine ⟨.ref a, hw, Or.inl ⟨rfl, vs, .of hp⟩, en, s, F, R, (h.out σ).imp fun er s1 F1 H1 R1 sm k1 v rv => ?_⟩
    obtain ⟨F2, R2, sm2, rh⟩ := R1.hold rv
    have k1 := k1.mono sm2
    split at k1
    · rename_i ls el
      obtain ⟨b, ws, rfl, there, rw2⟩ := (R2.rd rh el).lst R2.sub
      cases hs : mutS i (fun xs => if xs.length + ls.length < lim then some (xs ++ ls) else none) s1 with
      | none => rw [hs] at k1; exact k1.elim
      | some s3 =>
        rw [hs] at k1
        obtain ⟨b', us, zs, ts, hw', hp', ra, hf, k⟩ := R2.mutS hs
        cases hw.symm.trans hw'
        by_cases few : zs.length + ls.length < lim
        · rw [if_pos few] at hf
          cases hf
          exact ⟨a, b, us, ws, rfl, rfl, hp', there, by rw [ra.1, rw2.1, sizeLine_eq]; unfold lim at few; omega, k1 σ _ F2 (k _ (ra.append rw2)) (Same.refl F2)⟩
        · rw [if_neg few] at hf
          cases hf
    · exact k1.elim
end
end Pi
set_option maxRecDepth 100000
set_option maxHeartbeats 3900000
namespace Pi
open PySem PySem.Spec L2 PyProof.Rows
theorem sw_tup {v : Expr} {ts : List Expr} {k l : Nat} {p : Pos} {env : Env} : swapsWithSole [.Tuple ts k p] v l env = pure false := by cases v <;> rfl
theorem sw_sole {v t : Expr} {l : Nat} {env : Env} (h : noComp v = true) : swapsWithSole [t] v l env = pure false := sw_plain h
def hdL (K : PySem.W.Frag) (g : Wi) (w : Wd) : IHs → List (List Value × Nat × TS)
  | .nil => []
  | .cons ks i b r => (ks.map (clU K), i, tSs K (g0 g) w b) :: hdL K g w r
section
variable {X : Cx} {T : Tb} {cm : Bool} {N : List Str} {sc : Scope} {p : Pg} {n : Nat} {g : Wi}
theorem rp_exc {K : PySem.W.Frag} {F : Hp} {a : Addr} {c : Tx} {d : Option Addr} {H : Hp} {fs : List (Tx × D)} (hF : F a = none) (h : Xd K F H d fs) : Rp K (upd F a (exq a (adr K c) d)) (.ref a) (.exc c fs) := by
  have sm : Same F (upd F a (exq a (adr K c) d)) := fun b u q => by
    rw [upd_ne (ne_of_none q hF)]
    exact q
  rcases h with ⟨rfl, rfl⟩ | ⟨dx, vs, rfl, h1, h2, h3, h4⟩
  · exact .ex0 upd_same
  · refine .ex1 upd_same (sm _ _ h2) h3 fun i p q a b => ?_
    have z := h4.2 i p.2 q.2 (by rw [List.getElem?_map, a]; rfl) (by rw [List.getElem?_map, b]; rfl)
    exact z.mono sm
theorem po_gone {K : PySem.W.Frag} {e : En} {F : Hp} {D : Ends} {o : Out} {i : Nat} (h : PoS K g e F D (o.drop i)) : PoS K (g0 g) e F (goneD i D) o := by
  cases o with
  | next t => exact fun σ H F2 R q => h _ H F2 R.gone q
  | brk t => exact fun σ H F2 R q => h _ H F2 R.gone q
  | cont t => exact fun σ H F2 R q => h _ H F2 R.gone q
  | ret v t => exact fun H F2 u R q x => h H F2 u R q x
  | exc c fs t => exact h.elim
  | stuck => exact h.elim
theorem exm_all (G : Gx X T cm N sc p n g) {c : Tx} : ∀ (ks : List Cl) (b : Bool), exCl (p.wd n) c ks = some b → PySem.W.exmAny X.K (.ref (adr X.K c)) (ks.map (clU X.K)) = some b
  | [], b, h => h
  | k :: ks, b, h => by
    obtain ⟨b1, h1, h⟩ := Option.bind_eq_some_iff.mp h
    obtain ⟨b2, h2, e⟩ := Option.map_eq_some_iff.mp h
    have x3 := (G.pf.cls c k b1 h1).2.2
    rw [List.map_cons]
    unfold PySem.W.exmAny
    simp only [x3, exm_all G ks b2 h2, e]
theorem hand_mix (G : Gx X T cm N sc p n g) {e : En} {D : Ends} {c : Tx} {fs : List (Tx × Pi.D)} {t : Fr} {σ : Sg} {d : Option Addr} {F F' H : Hp} (R : Rl X.K e t σ F' H) (sm : Same F F') (xd : Xd X.K F' H d fs) :
    ∀ hs : IHs, PoS X.K g e F D (hand (p.wd n) hs c fs t) → wMix X.K g.W D (hdL X.K g (p.wd n) hs) (.ref (adr X.K c)) d σ H
  | .nil, h => by
    unfold hand at h
    have z := h σ d H F' R sm xd
    rw [G.pf.cne] at z
    exact z
  | .cons ks i b r, h => by
    unfold hand at h
    cases q : exCl (p.wd n) c ks with
    | none => rw [q] at h; exact h.elim
    | some v =>
      rw [q] at h
      have x3 := exm_all G ks v q
      cases v with
      | false => exact ⟨false, x3, fun z => Bool.noConfusion z, fun _ => hand_mix G R sm xd r h⟩
      | true =>
        refine ⟨true, x3, fun _ => ⟨adr X.K c, rfl, fun a ha => ?_⟩, fun z => Bool.noConfusion z⟩
        obtain ⟨R2, sm2⟩ := R.iced (o := exq a (adr X.K c) d) ha
        exact ⟨e, t.put i (.val (.exc c fs)), _, R2.store (rp_exc (R.nw ha).f xd), (po_gone h).mono (sm.trans sm2)⟩
theorem t_try (G : Gx X T cm N sc p n g) {b : ISs} {hs : IHs} {D : Ends} {σ : Sg} {H : Hp} (h : tS X.K g (p.wd n) (.tryS b hs) D σ H) : tSs X.K ⟨g.cn, wMix X.K g.W D (hdL X.K g (p.wd n) hs)⟩ (p.wd n) b D σ H := by
  obtain ⟨e, s, F, R, h⟩ := h
  unfold exec at h
  refine ⟨e, s, F, R, ?_⟩
  cases q : execs (p.wd n) b s with
  | stuck => rw [q] at h; exact h
  | next t => rw [q] at h; exact h
  | brk t => rw [q] at h; exact h
  | cont t => rw [q] at h; exact h
  | ret v t => rw [q] at h; exact h
  | exc c fs t =>
    rw [q] at h
    intro σ2 d H2 F2 R2 sm xd
    have z := hand_mix G R2 sm xd hs h
    show wMix X.K g.W D _ (g.cn c) d σ2 H2
    rw [G.pf.cne]
    exact z
theorem t_rais (G : Gx X T cm N sc p n g) {c : Tx} {es : IEs} {D : Ends} {σ : Sg} {H : Hp} (h : tS X.K g (p.wd n) (.rais c es) D σ H) : tMk X.K g (p.wd n) (p.wd n).init c es σ H fun cls d H' => g.W cls d σ H' := by
  obtain ⟨e, s, F, R, h⟩ := h
  unfold exec at h
  refine ⟨e, s, F, R, (h.out σ).imp fun ds s1 F1 H1 R1 sm h1 => ?_⟩
  cases q : (p.wd n).init c ds with
  | none => rw [q] at h1; exact h1.elim
  | some fs =>
    rw [q] at h1
    refine ⟨fs, rfl, fun d H' F' R' sm' xd => ?_⟩
    have z := h1 σ d H' F' R' sm' xd
    rw [G.pf.cne] at z
    exact z
theorem Gs.tr (G : Gs X T cm N sc p n g) {W : WX} {pn : List (Addr × Obj)} {xe : Value → Shared → Prop} (tk : Takes (X.tr pn xe) W) (po : PassesOwn (model X.prog X.w) X.A X.env xe) : Gs (X.tr pn xe) T cm N sc p n ⟨g.cn, W⟩ :=
  ⟨⟨G.gx.hN, G.gx.nd, G.gx.hsc, G.gx.calm, G.gx.gd, G.gx.room, G.gx.un, tk, G.gx.pf⟩, G.fn, G.kd, fun _ => po, G.st, G.fr, G.ex, G.mks⟩
theorem Gs.suite (G : Gs X T cm N sc p n g) (a : Addr) (pn : List (Addr × Obj)) : Gs (X.suite a pn) T false N sc p n (g0 g) :=
  ⟨⟨G.gx.hN, G.gx.nd, G.gx.hsc, fun z => absurd z Bool.false_ne_true, G.gx.gd, ⟨⟨G.gx.room.dp, G.gx.room.un⟩, nofun⟩, G.gx.un, takes_none5, G.gx.pf⟩, G.fn, G.kd, fun z => absurd z Bool.false_ne_true, G.st, G.fr, G.ex, G.mks⟩
end
section
variable {X : Cx} {T : Tb} {cm : Bool} {N : List Str} {sc : Scope} {p : Pg} {n : Nat} {g : Wi}
theorem names_of (G : Gs X T cm N sc p n g) {x : Str} {k : Cl} (h1 : (x, k) ∈ T.xcl) (h2 : globOk sc x = true) : Names X x (clU X.K k) := by
  obtain ⟨gl, gd, gn⟩ := gl_of G.gx h2
  refine ⟨gl, gd, ?_⟩
  rcases G.gx.pf.xcl x k h1 with ⟨c, rfl, hm⟩ | ⟨hm, t, e1, e2, e3, e4, e5⟩
  · exact Or.inl hm
  · exact Or.inr ⟨hm, by rw [e2]; exact e4, e5⟩
theorem see_of (G : Gs X T cm N sc p n g) {ks : List Cl} {t : Expr} {cls : Value} {b : Bool} (h : chkT T sc ks t = true) (hm : PySem.W.exmAny X.K cls (ks.map (clU X.K)) = some b) : Sees X t cls b := by
  unfold chkT at h
  split at h
  · rename_i k x np
    simp only [and_iff2, dec_iff] at h
    refine sees_one G.fr (names_of G h.1 h.2) ?_
    obtain ⟨b1, d1, x1, y1, rfl⟩ := PySem.W.exmAny_cons hm
    cases (show some false = some d1 from y1)
    rw [x1, Bool.or_false]
  · simp only [and_iff2, dec_iff] at h
    rcases h with ⟨⟨⟨h1, h2⟩, h3⟩, h4⟩
    exact sees_two G.fr (names_of G h1 h2) (names_of G h3 h4) hm
  · cases h
end
mutual
theorem sS {X : Cx} {T : Tb} {cm : Bool} {N : List Str} {sc : Scope} {p : Pg} {n : Nat} {g : Wi} (G : Gs X T cm N sc p n g) : ∀ (a : IS) (st : Stmt), chkS T cm N sc a st = true → PS X st (tS X.K g (p.wd n) a)
  | .set i e, st, h => by
    unfold chkS chkSet at h
    split at h
    · rename_i x xp v pos
      simp only [and_iff2] at h
      obtain ⟨⟨h1, h2⟩, h3⟩ := h
      rw [← G.gx.hN, ← G.gx.hsc] at h1
      obtain ⟨a1, a2, a3⟩ := tg_loc h1
      refine (ps_set G.gx.nd a1 a2 (sE G.gx e v h3).1 (sw_plain h2) (.inl (G.fn x))).imp fun D σ H ⟨en, s, F, R, h⟩ => ?_
      unfold exec at h
      exact ⟨en, s, F, R, (h.out σ).imp fun er s1 F1 H1 R1 sm h1 v rv => po_sto R1 rv h1⟩
    · cases h
  | .setT ts e, st, h => by
    unfold chkS chkSetT at h
    split at h
    · rename_i es kt pt v pos
      simp only [and_iff2] at h
      obtain ⟨⟨⟨hcm, h1⟩, h3⟩, h4⟩ := h
      exact (ps_asg (sE G.gx e v h4).1 (pg_TL G hcm h1) sw_tup (sw_off (by rw [G.gx.hsc]; exact h3))).imp fun D σ H h => t_setT h
    · cases h
  | .par i j es, st, h => by
    unfold chkS chkPar at h
    split at h
    · simp only [and_iff2, dec_iff] at h
      obtain ⟨⟨⟨⟨⟨⟨⟨hcm, h1⟩, h2⟩, h3⟩, h4⟩, h5⟩, h6⟩, h7⟩ := h
      rw [← G.gx.hN] at h1 h2
      have h4' := h4
      rw [← G.gx.hsc] at h4 h5
      exact (ps_par (G.gx.calm hcm) G.gx.nd h1 h2 h3 h4 h5 (sF G.gx es _ h7) (sw_on (by rw [G.gx.hsc]; exact G.kd) (by rw [G.gx.hsc]; exact h6))).imp fun D σ H h => t_par h
    · cases h
  | .setI i ix e, st, h => by
    unfold chkS chkSetI at h
    split at h
    · rename_i x xp y yp v pos
      simp only [and_iff2] at h
      obtain ⟨⟨h1, h2⟩, h3⟩ := h
      obtain ⟨o', y', pos', ex, ns, po, py⟩ := pg_ix G h1
      cases ex
      exact (ps_asg (sE G.gx e v h3).1 (pg_sub po py set_list (by intro v; revert ns; cases y <;> intro ns <;> first | rfl | cases ns)) (sw_sole h2) rfl).imp fun D σ H h => t_setI h
    · cases h
  | .app i e, st, h => by
    unfold chkS chkApp at h
    split at h
    · simp only [and_iff2, dec_iff] at h
      obtain ⟨⟨⟨⟨⟨hk, h1⟩, h2⟩, h3⟩, h4⟩, h5⟩ := h
      subst hk
      exact ps_appD G h1 h2 h3 h4 (sE G.gx e _ h5).1
    · cases h
  | .ext i e, st, h => by
    unfold chkS chkApp at h
    split at h
    · simp only [and_iff2, dec_iff] at h
      obtain ⟨⟨⟨⟨⟨hk, h1⟩, h2⟩, h3⟩, h4⟩, h5⟩ := h
      subst hk
      exact ps_extD G h1 h2 h3 h4 (sE G.gx e _ h5).1
    · cases h
  | .drop e, st, h => by
    cases st <;> simp only [chkS, Bool.false_eq_true, Bool.and_eq_true] at h
    rename_i x pos
    have sw : swapsWith x none pos.line X.env = pure false := by
      have z := h.1
      revert z
      cases x <;> intro z <;> first | rfl | cases z
    refine (ps_expr (sE G.gx e _ h.2).1 sw).imp fun D σ H ⟨en, s, F, R, h⟩ => ?_
    unfold exec at h
    exact ⟨en, s, F, R, (h.out σ).imp fun er s1 F1 H1 R1 sm h1 v rv => h1 σ H1 F1 R1 (Same.refl F1)⟩
  | .ret e, st, h => by
    unfold chkS chkRet at h
    split at h
    · rename_i x pos
      refine (ps_ret (sE G.gx e x h).1).imp fun D σ H ⟨en, s, F, R, h⟩ => ?_
      unfold exec at h
      exact ⟨en, s, F, R, (h.out σ).imp fun er s1 F1 H1 R1 sm h1 v rv => po_ret R1 rv h1⟩
    · cases h
  | .retN, st, h => by
    unfold chkS chkRetN at h
    split at h
    · refine ps_retN.imp fun D σ H ⟨en, s, F, R, h⟩ => ?_
      unfold exec at h
      exact h H F _ R.drop (Same.refl F) .non
    · cases h
  | .ite t a b, st, h => by
    cases st <;> simp only [chkS, Bool.false_eq_true, Bool.and_eq_true] at h
    rcases h with ⟨⟨⟨h1, h2⟩, h3⟩, h4⟩
    refine (ps_if ((sE G.gx t _ h2).2 h1) (sSs G a _ h3) (sSs G b _ h4)).imp fun D σ H ⟨en, s, F, R, h⟩ => ?_
    unfold exec at h
    refine ⟨en, s, F, R, (h.out σ).imp fun c s1 F1 H1 R1 sm h1 => ?_⟩
    cases c with
    | true =>
      simp only [if_true] at h1 ⊢
      exact ⟨en, s1, F1, R1, h1⟩
    | false =>
      simp only [Bool.false_eq_true, if_false] at h1 ⊢
      exact ⟨en, s1, F1, R1, h1⟩
  | .loop tg it b, st, h => by
    cases st with
    | For t i body oe pos =>
      cases oe with
      | cons _ _ => simp only [chkS, Bool.false_eq_true] at h
      | nil =>
        simp only [chkS, Bool.and_eq_true] at h
        obtain ⟨⟨⟨⟨hcm, h1⟩, h2⟩, h3⟩, h4⟩ := h
        exact (ps_for (G.po hcm) (G.gx.calm hcm) (sI G.gx it t i h2) (pg_T (G.gx.calm hcm) G.gx.hN G.gx.hsc G.gx.nd (fun x _ => G.fn x) h3) (sSs G b body h4) (folded_of h1)).imp fun D σ H h => t_loop h
    | _ => simp only [chkS, Bool.false_eq_true] at h
  | .rais c es, st, h => by
    unfold chkS chkRais at h
    split at h
    · rename_i x xp as q pos
      simp only [and_iff2, dec_iff] at h
      obtain ⟨⟨⟨hcm, h1⟩, h2⟩, h3⟩ := h
      obtain ⟨gl, gd, gn⟩ := gl_of G.gx h2
      have mk := (G.mks x c h1).run X g (p.wd n) es as xp q rfl rfl rfl rfl rfl G.ex (G.gx.calm hcm) G.gx.gd (hcm ▸ G.gx.room : RoomC true n X.A).room gl gd (sF G.gx es as h3) (chkA_len h3) (chkA_star h3)
      exact (ps_raise (G.gx.calm hcm) G.gx.tk mk).imp fun D σ H h => t_rais G.gx h
    · cases h
  | .tryS b hs, st, h => by
    cases st with
    | Try body hds oe fb pos =>
      match hds, oe, fb, h with
      | hd :: hds, [], [], h =>
        simp only [chkS, Bool.and_eq_true] at h
        obtain ⟨⟨hcm, h1⟩, h2⟩ := h
        exact (ps_tryD (tb := fun W => tSs X.K ⟨g.cn, W⟩ (p.wd n) b) G.st G.fr G.ex G.gx.nd G.gx.tk (fun W pn xe tk po => sSs (G.tr tk po) b body h1) (sH G hs (hd :: hds) h2)).imp fun D σ H h => t_try G.gx h
      | [], _, _, h => simp only [chkS, Bool.false_eq_true] at h
      | _ :: _, _ :: _, _, h => simp only [chkS, Bool.false_eq_true] at h
      | _ :: _, [], _ :: _, h => simp only [chkS, Bool.false_eq_true] at h
    | _ => simp only [chkS, Bool.false_eq_true] at h
  | .pass, st, h => by
    cases st <;> first | (simp only [chkS, Bool.false_eq_true] at h; done) | skip
    refine ps_pass.imp fun D σ H ⟨en, s, F, R, h⟩ => ?_
    unfold exec at h
    exact h σ H F R (Same.refl F)
  | .brk, st, h => by
    cases st <;> first | (simp only [chkS, Bool.false_eq_true] at h; done) | skip
    refine ps_break.imp fun D σ H ⟨en, s, F, R, h⟩ => ?_
    unfold exec at h
    exact h σ H F R (Same.refl F)
  | .cont, st, h => by
    cases st <;> first | (simp only [chkS, Bool.false_eq_true] at h; done) | skip
    refine ps_continue.imp fun D σ H ⟨en, s, F, R, h⟩ => ?_
    unfold exec at h
    exact h σ H F R (Same.refl F)
theorem sSs {X : Cx} {T : Tb} {cm : Bool} {N : List Str} {sc : Scope} {p : Pg} {n : Nat} {g : Wi} (G : Gs X T cm N sc p n g) : ∀ (a : ISs) (st : List Stmt), chkSs T cm N sc a st = true → PSs X st (tSs X.K g (p.wd n) a)
  | .nil, [], _ => pss_nil.imp fun D σ H ⟨en, s, F, R, h⟩ => by
    unfold execs at h
    exact h σ H F R (Same.refl F)
  | .cons a r, [], h => by simp only [chkSs, Bool.false_eq_true] at h
  | .nil, _ :: _, h => by simp only [chkSs, Bool.false_eq_true] at h
  | .cons a r, x :: xs, h => by
    simp only [chkSs, Bool.and_eq_true] at h
    refine (pss_cons (sS G a x h.1) (sSs G r xs h.2)).imp fun D σ H ⟨en, s, F, R, h⟩ => ?_
    unfold execs at h
    exact ⟨en, s, F, R, h.seq (fun s1 σ1 H1 F1 R1 sm h1 => ⟨en, s1, F1, R1, h1⟩) rfl rfl rfl⟩
theorem sH {X : Cx} {T : Tb} {cm : Bool} {N : List Str} {sc : Scope} {p : Pg} {n : Nat} {g : Wi} (G : Gs X T cm N sc p n g) : ∀ (hs : IHs) (hds : List ExceptHandler), chkH T N sc hs hds = true → HdsD X hds (hdL X.K g (p.wd n) hs)
  | .nil, [], _ => .nil
  | .nil, _ :: _, h => by simp only [chkH, Bool.false_eq_true] at h
  | .cons k i b r, hds, h => by
    cases hds with
    | nil => simp only [chkH, Bool.false_eq_true] at h
    | cons hd hds =>
      cases hd with
      | ExceptHandler ty nm body pos =>
        cases ty with
        | none => simp only [chkH, Bool.false_eq_true] at h
        | some ty =>
          cases nm with
          | none => simp only [chkH, Bool.false_eq_true] at h
          | some nm =>
            cases body with
            | nil => simp only [chkH, Bool.false_eq_true] at h
            | cons b₀ suite =>
              simp only [chkH, Bool.and_eq_true, decide_eq_true_eq] at h
              obtain ⟨⟨⟨⟨h1, h3⟩, h4⟩, h5⟩, h6⟩ := h
              refine .cons (fun cls b hm => see_of G h1 hm) (by rw [G.gx.hN]; exact h3) ?_ (fun a pn => sSs (G.suite a pn) b _ h5) (sH G r hds h6)
              show X.env.scope.names.lookup nm = some .local
              rw [G.gx.hsc]
              exact h4
end
end Pi
set_option maxRecDepth 100000
set_option maxHeartbeats 3900000
namespace Pi
open PySem PySem.Spec L2 PyProof.Rows
/-! ### a def's body, then all defs, level by level -/
section
variable {P : Program} {w : World} {K : PySem.W.Frag} {mg : Str → Option Value} {base : Heap} {T : Tb} {p : Pg} {cn : Tx → Value} {n : Nat}
theorem arg_len {br : Bool} {c : Option Addr} {F H : Hp} {vs : List V} {as cs : List D} (h : ArgOk K br c F H vs as cs) : as.length = vs.length := by
  cases br with
  | false => exact h.2.1.symm
  | true =>
    obtain ⟨a, ws, ys, v0, vs', a0, as', _, rfl, rfl, _, _, _, _, _, r⟩ := h
    simp [r.1]
theorem entry_rl {d : Fn} {c : Option Addr} {F H : Hp} {vs : List V} {as cs : List D} {N : List Str} (sm : Same F H) (ha : ArgOk K d.br c F H vs as cs) (hl : vs.length = d.np) (hN : d.ns = N.length) (hp : d.np ≤ d.ns) : Rl K ⟨c, F, H⟩ ⟨entry d as, cs⟩ (start N vs) F H := by
  have la := arg_len ha
  have get : ∀ (i : Nat) x, (entry d as)[i]? = some x → x = .un ∨ (i = 0 ∧ d.br = true ∧ x = .ref ∧ 0 < as.length) ∨ ∃ a, as[i]? = some a ∧ x = .val a ∧ (d.br = true → 0 < i) := by
    intro i x q
    unfold entry at q
    rw [List.getElem?_append] at q
    split at q
    · unfold entryP at q
      cases as with
      | nil => simp at q
      | cons a as =>
        cases i with
        | zero =>
          simp only [List.getElem?_cons_zero, Option.some.injEq] at q
          cases hb : d.br with
          | true =>
            rw [hb] at q
            simp only [if_true] at q
            exact .inr (.inl ⟨rfl, rfl, q.symm, by simp⟩)
          | false =>
            rw [hb] at q
            simp only [Bool.false_eq_true, if_false] at q
            exact .inr (.inr ⟨a, rfl, q.symm, fun z => by cases z⟩)
        | succ i =>
          simp only [List.getElem?_cons_succ, List.getElem?_map] at q
          cases hx : as[i]? with
          | none => rw [hx] at q; cases q
          | some b =>
            rw [hx] at q
            cases q
            exact .inr (.inr ⟨b, by simp [hx], rfl, fun _ => by omega⟩)
    · have := List.mem_of_getElem? q
      rw [List.mem_replicate] at this
      exact .inl this.2
  have lenE : (entryP d.br as).length = as.length := by cases as <;> simp [entryP]
  have own : ∀ (i : Nat) x, (entry d as)[i]? = some x → isOwn x = false := by
    intro i x q
    rcases get i x q with rfl | ⟨_, _, rfl, _⟩ | ⟨a, _, rfl, _⟩ <;> rfl
  have sget : ∀ (i : Nat) v, vs[i]? = some v → (start N vs)[i]? = some (some v) := by
    intro i v q
    have hi : i < vs.length := (List.getElem?_eq_some_iff.mp q).1
    unfold L2.start
    rw [List.getElem?_append_left (by simpa using hi), List.getElem?_map, q]
    rfl
  refine ⟨sm, fun b o q => .inl q, Same.refl F, fun b o q _ => q, fun a e => ?_, fun i x q => ?_, fun i j x y q1 _ i1 => ?_, ?_⟩
  · cases hb : d.br with
    | false =>
      rw [hb] at ha
      have e : c = some a := e
      rw [ha.1] at e
      cases e
    | true =>
      rw [hb] at ha
      obtain ⟨a', ws, ys, v0, vs', a0, as', h1, h2, h3, h4, h5, h6, rfl, h7, h8⟩ := ha
      have e : c = some a := e
      rw [h1] at e
      cases e
      exact ⟨h5, ws, h6, h7⟩
  · rcases get i x q with rfl | ⟨rfl, hb, rfl, _⟩ | ⟨a, h1, rfl, h2⟩
    · trivial
    · rw [hb] at ha
      obtain ⟨a', ws, ys, v0, vs', a0, as', h1, rfl, rfl, rfl, _⟩ := ha
      exact ⟨a', h1, sget 0 _ rfl⟩
    · cases hb : d.br with
      | false =>
        rw [hb] at ha
        obtain ⟨v, hv, r⟩ := ha.2.get h1
        exact ⟨v, sget i v hv, r⟩
      | true =>
        have hi := h2 hb
        rw [hb] at ha
        obtain ⟨a', ws, ys, v0, vs', a0, as', _, rfl, rfl, _, _, _, _, _, r⟩ := ha
        cases i with
        | zero => omega
        | succ i =>
          obtain ⟨v, hv, r⟩ := r.get (i := i) (by simpa using h1)
          exact ⟨v, sget (i + 1) v (by simpa using hv), r⟩
  · rw [own i x q1] at i1
    cases i1
  · show (entry d as).length = (start N vs).length
    unfold entry L2.start
    simp only [List.length_append, List.length_replicate, List.length_map, lenE]
    omega
/-- the static side of a def -/
structure FnS (P : Program) (K : PySem.W.Frag) (mg : Str → Option Value) (T : Tb) (p : Pg) (f : Nat) (x : Str) (a : Addr) (fd : FuncData) (ps : List Str) (dvs : List V) (dfs : List Value) (qual : Str) (st : Stmt) (N : List Str) (d : Fn) : Prop where
  at_ : mg x = some (.ref a)
  kp : PySem.W.keepIn K (.ref a) = true
  df : ∀ F, RpA K F dvs (p.df f)
  dv : Vals dvs dfs
  bd : ∀ m ks ix, (f, m, ks, ix) ∈ T.pats → BindOk K fd ps dfs m ks ix
  fu : Fun K x qual st a fd
  sc : FnScope N ps (defScope st)
  hd : p.fns[f]? = some d
  np : d.np = ps.length
  ns : d.ns = N.length
  le : d.np ≤ d.ns
  ck : chkSs T true N (defScope st) d.body (defBody st) = true
  hot : f ∈ T.hot → chkSs T false N (defScope st) d.body (defBody st) = true
theorem sp_len {f : Nat} {ps : List Str} {d : Fn} (hd : p.fns[f]? = some d) (np : d.np = ps.length) : ∀ vs H Q E, spF K cn p n f vs H Q E → vs.length = ps.length := by
  intro vs H Q E ⟨c, F, as, cs, _, _, ⟨d', h1, h2⟩, _⟩
  rw [hd] at h1
  cases h1
  rw [h2, np]
theorem fn_stepC {cm : Bool} {f : Nat} {x : Str} {a : Addr} {fd : FuncData} {ps : List Str} {dvs : List V} {dfs : List Value} {qual : Str} {st : Stmt} {N : List Str} {d : Fn} (S : FnS P K mg T p f x a fd ps dvs dfs qual st N d) (ck : chkSs T cm N (defScope st) d.body (defBody st) = true)
    (pf : Pf P w K mg base T p cn n) (mks : ∀ x c, (x, c) ∈ T.mks → MkOk P w K mg base (p.wd n).init n x c) : FnG P w K mg base cm (n + 1) a fd ps (spF K cn p (n + 1) f) := by
  refine fng_of S.fu S.sc (sp_len S.hd S.np) fun cdv A outer s H vs Q E hg hr hsp => ?_
  have G : Gs (cxC cm P w K mg base N qual (defScope st) a cdv A outer s H E) T cm N (defScope st) p n ⟨cn, fun cls d _ H => E cls d H⟩ :=
    ⟨⟨rfl, S.sc.nd, rfl, fun z => z, guards_deeper A _ hg, hr, by have := hr.un; show (A.deeper _).units + 65 < cLine; omega, takes_of rfl rfl rfl rfl, pf⟩, fun _ => rfl, S.sc.kind, fun _ => passes_of rfl, rfl, rfl, rfl, mks⟩
  refine ⟨_, sSs G d.body (defBody st) ck, ?_⟩
  obtain ⟨c, F, as, cs, sm, ha, ⟨d', hd', hl⟩, hp⟩ := hsp
  rw [S.hd] at hd'
  cases hd'
  have hb : p.br f = d.br := by unfold Pg.br; rw [S.hd]
  rw [hb] at ha
  refine ⟨⟨c, F, H⟩, ⟨entry d as, cs⟩, F, entry_rl sm ha hl S.ns S.le, ?_⟩
  unfold Pg.run at hp
  rw [S.hd] at hp
  simp only [(arg_len ha).trans hl, if_true] at hp
  have hp : PoC K cn ⟨c, F, H⟩ F Q E (ofOut (execs (p.wd n) d.body ⟨entry d as, cs⟩)) := hp
  cases ho : execs (p.wd n) d.body ⟨entry d as, cs⟩ with
  | stuck => rw [ho] at hp; exact hp.elim
  | brk t => rw [ho] at hp; exact hp.elim
  | cont t => rw [ho] at hp; exact hp.elim
  | next t => rw [ho] at hp; exact fun σ H' F' R sm' => hp .non H' F' R.drop sm' .non
  | ret v t => rw [ho] at hp; exact fun H' F' u R sm' rv => hp u H' F' R sm' rv
  | exc k fs t => rw [ho] at hp; exact fun σ dd H' F' R sm' xd => hp dd H' F' R.drop sm' xd
theorem fn_step {f : Nat} {x : Str} {a : Addr} {fd : FuncData} {ps : List Str} {dvs : List V} {dfs : List Value} {qual : Str} {st : Stmt} {N : List Str} {d : Fn} (S : FnS P K mg T p f x a fd ps dvs dfs qual st N d)
    (pf : Pf P w K mg base T p cn n) (mks : ∀ x c, (x, c) ∈ T.mks → MkOk P w K mg base (p.wd n).init n x c) : FnG P w K mg base true (n + 1) a fd ps (spF K cn p (n + 1) f) := fn_stepC S S.ck pf mks
/-- what is the same at all levels -/
structure PfS (P : Program) (K : PySem.W.Frag) (mg : Str → Option Value) (T : Tb) (p : Pg) (cn : Tx → Value) : Prop where
  cst : ∀ (k : Nat) x, T.cst[k]? = some x → ∃ v u, mg x = some u ∧ RelV v u ∧ ∀ F, Rp K F v (p.cst.getD k .non)
  blt : ∀ x ∈ T.blt, mg x = none
  xcl : ∀ x k, (x, k) ∈ T.xcl → (∃ c, k = .own c ∧ mg x = some (.ref (adr K c))) ∨ (mg x = none ∧ ∃ t, clV K k = .ty t ∧ clU K k = .type t ∧ x = (t : Str) ∧ bootBuiltins x = some (.type t) ∧ x ≠ "__name__")
  cls : ∀ c k b, p.cl c k = some b → XcOk K (adr K c) T.fld ∧ PySem.W.kitOne K (.ref (adr K c)) (clU K k) = some b ∧ PySem.W.exmOne K (.ref (adr K c)) (clU K k) = some b
  cne : ∀ c, cn c = .ref (adr K c)
  fn : ∀ (f : Nat) x, T.fn[f]? = some x → ∃ a fd ps dvs dfs qual st N d, FnS P K mg T p f x a fd ps dvs dfs qual st N d
theorem all_pf (S : PfS P K mg T p cn) (mks : ∀ n x c, (x, c) ∈ T.mks → MkOk P w K mg base (p.wd n).init n x c) (mkv : ∀ n x c, (x, c) ∈ T.mks → MkV P w K mg base T.mkk (p.wd n).init n x c) : ∀ n, Pf P w K mg base T p cn n
  | 0 => ⟨S.cst, S.blt, S.xcl, S.cls, S.cne, mkv 0, fun f x hx => by
      obtain ⟨a, fd, ps, dvs, dfs, qual, st, N, d, h⟩ := S.fn f x hx
      have no : ∀ cm, FnG P w K mg base cm 0 a fd ps (spF K cn p 0 f) := fun cm => ⟨sp_len h.hd h.np, fun A o s H args us vs Q E _ _ _ _ _ hsp => by
        obtain ⟨c, F, as, cs, _, _, _, hp⟩ := hsp
        exact False.elim hp⟩
      exact ⟨a, fd, ps, dvs, dfs, h.at_, h.kp, h.df, h.dv, no true, fun _ => no false, h.bd⟩⟩
  | n + 1 => ⟨S.cst, S.blt, S.xcl, S.cls, S.cne, mkv (n + 1), fun f x hx => by
      obtain ⟨a, fd, ps, dvs, dfs, qual, st, N, d, h⟩ := S.fn f x hx
      exact ⟨a, fd, ps, dvs, dfs, h.at_, h.kp, h.df, h.dv, fn_step h (all_pf S mks mkv n) (mks n), fun z => fn_stepC h (h.hot z) (all_pf S mks mkv n) (mks n), h.bd⟩⟩
end
end Pi
set_option maxRecDepth 100000
set_option maxHeartbeats 3900000
namespace Pi
open PySem PySem.Spec L2 PyProof.Rows
/-! ### a law's own head, for defs that may ask for a repr -/
/-- the script is told of, unless it is one of the module's own objects -/
def scrH (K : PySem.W.Frag) (a : Addr) (ob : Obj) (xs : List V) : Hp := fun b => if b = a ∧ (K.lookup a).isNone = true then some (.frz ob (.lst xs)) else none
section
variable {P : Program} {w : World} {K : PySem.W.Frag} {mg mb : Str → Option Value} {k : Nat} {fa a : Addr} {fd : FuncData} {x : Str} {sp : Sp} {t : Shared} {vs : List Value} {ns : List Int}
theorem scr_cases {ob : Obj} {xs : List V} (b : Addr) : scrH K a ob xs b = none ∨ (b = a ∧ K.lookup a = none ∧ scrH K a ob xs b = some (.frz ob (.lst xs))) := by
  unfold scrH
  by_cases h : b = a ∧ (K.lookup a).isNone = true
  · exact Or.inr ⟨h.1, Option.isNone_iff_eq_none.mp h.2, if_pos h⟩
  · exact Or.inl (if_neg h)
/-- the state ahead of the law's call, as a def's promise wants it -/
theorem script_env (KX : K.In t.heap) (hns : t.heap.Ns mainGlobals mg) (hb : t.heap.Ns builtinsNs mb) (hbb : ∀ y : Str, y ≠ "__name__" → mb y = bootBuiltins y) (hlim : t.heap.NoLimit) (hg : t.gens = #[])
    (ha : t.heap.get? a = some { cls := .type "list", data := .seq vs.toArray }) (hi : IntsAre vs ns) (hl : ns.length ≤ sizeLine) :
    ∃ (base : Heap) (H : Hp), Env0 P w K mg base callerA [] t H ∧ SqL K H a (ns.map V.int) ∧ ∀ b o, t.heap.get? b = some o → H b = none ∨ ∃ u, H b = some (.frz o u) := by
  let ob : Obj := { cls := .type "list", data := .seq vs.toArray }
  let H := scrH K a ob (ns.map V.int)
  have stays : ∀ b o, t.heap.get? b = some o → (b = a → K.lookup a ≠ none) → (hidT t.heap H).get? b = some o := fun b o q n => by
    rcases scr_cases (K := K) (a := a) (ob := ob) (xs := ns.map V.int) b with z | ⟨z1, z2, _⟩
    · exact hidT_get q z
    · exact absurd z2 (n z1)
  have spaces : ∀ {b : Addr} {m : Str → Option Value}, t.heap.Ns b m → (hidT t.heap H).Ns b m := by
    rintro b m ⟨o, es, ep, q, dq, rest⟩
    refine ⟨o, es, ep, stays b o q fun e => ?_, dq, rest⟩
    rw [e, ha] at q
    rw [← Option.some.inj q] at dq
    exact nomatch dq
  have inside : K.In (hidT t.heap H) := fun b o q => stays b o (KX b o q) fun e z => by rw [e, z] at q; exact nomatch q
  obtain ⟨mc, lim1, lim2⟩ := hlim
  refine ⟨hidT t.heap H, H, { frames := rfl, mod := ⟨inside, spaces hns, ⟨mb, spaces hb, hbb⟩, mc, spaces lim1, lim2⟩, bs := fun b o q => of_hidT q, bsz := Nat.le_of_eq (hidT_size _ _), funs := trivial, frf := fun b z => absurd z List.not_mem_nil, hok := fun b u q => ?_, bare := .of_eq hg }, ?_, fun b o q => ?_⟩
  · rcases scr_cases (K := K) (a := a) (ob := ob) (xs := ns.map V.int) b with z | ⟨rfl, _, z⟩
    · exact nomatch z.symm.trans q
    · cases z.symm.trans q
      refine ⟨ha, ?_, vs, _, vals_ints hi, ha⟩
      simpa using hl
  · cases e : K.lookup a with
    | none =>
      refine .inl (.inr ⟨ob, ?_⟩)
      show scrH K a ob (ns.map V.int) a = _
      unfold scrH
      rw [if_pos ⟨rfl, by simp [e]⟩]
    | some o =>
      obtain rfl := Option.some.inj ((KX a o e).symm.trans ha)
      refine .inr ⟨_, vs.toArray, _, e, rfl, rfl, rfl, ?_, ?_⟩
      · simpa [hi.length] using hl
      · simpa using vals_ints hi
  · rcases scr_cases (K := K) (a := a) (ob := ob) (xs := ns.map V.int) b with z | ⟨rfl, _, z⟩
    · exact Or.inl z
    · rw [← Option.some.inj (ha.symm.trans q)]
      exact Or.inr ⟨_, z⟩
theorem law_callG (KX : K.In t.heap) (hns : t.heap.Ns mainGlobals mg) (hb : t.heap.Ns builtinsNs mb) (hbb : ∀ y : Str, y ≠ "__name__" → mb y = bootBuiltins y) (hlim : t.heap.NoLimit) (hg : t.gens = #[])
    (ha : t.heap.get? a = some { cls := .type "list", data := .seq vs.toArray }) (hi : IntsAre vs ns) (hl : ns.length ≤ sizeLine) (hr : Room k callerA)
    (F : ∀ base : Heap, K.In base → base.Ns mainGlobals mg → FnG P w K mg base true k fa fd [x] sp) (hbind : ∀ (s : Shared) (u : Value), BindsTo s fd ⟨[u], []⟩ [(x, u)])
    (hsp : ∀ H : Hp, SqL K H a (ns.map V.int) → sp [.ref a] H (fun v _ => v = .bl true) fun _ _ _ => False) :
    codeAny (model P w) callerA (.call (.ref fa) ⟨[.ref a], []⟩) (fun r t' => r = .ok (.ret (.bool true)) ∧ OldK t.heap t'.heap ∧ t'.os = t.os ∧ AllBare t'.gens) t := by
  obtain ⟨base, H, e0, sq, froz⟩ := script_env (P := P) (w := w) (mb := mb) KX hns hb hbb hlim hg ha hi hl
  have run := (F base e0.mod.kin e0.mod.glob).run callerA [] t H ⟨[.ref a], []⟩ [.ref a] [.ref a] _ _ rfl (RoomC.of hr) e0 (hbind t (.ref a)) (.cons rfl .nil) (hsp H sq)
  refine codeAny_mono run ?_
  rintro (e | fl) t' z
  · obtain ⟨a', B, H', cls, d, z⟩ := z
    exact z.2.2.2.2.2.2.2.elim
  · match fl, z with
    | .ret u, ⟨v, H', os, gens, un, hok, rv, e⟩ =>
      subst e
      cases rv
      refine ⟨rfl, OldK.of_keep fun b o q => ?_, os, gens⟩
      rcases froz b o q with n | ⟨v', n⟩
      · exact un.keep b o q n (fun z => absurd z List.not_mem_nil) List.not_mem_nil
      · exact (hok b _ (un.frzs b o v' n)).1
end
/-- the law's def, as a def of the small form, over every ground -/
def LawF (P : Program) (d : DefRec) (K : Params → PySem.W.Frag) (x : Str) (k f : Nat) (p : Pg) : Prop := ∀ (w : World) (mg : Str → Option Value) (fa : Addr) (h : Heap), (K w.params).In h → h.Ns mainGlobals mg → mg d.name = some (.ref fa) → ∃ fd : FuncData, (∀ (s : Shared) (u : Value), BindsTo s fd ⟨[u], []⟩ [(x, u)]) ∧
  ∀ base : Heap, (K w.params).In base → base.Ns mainGlobals mg → FnG P w (K w.params) mg base true k fa fd [x] (spF (K w.params) (fun c => .ref (adr (K w.params) c)) p k f)
/-- what k_head leaves to be shown -/
abbrev LawW (l : PySem.W.OpenLaw) (q : Program) (loose : List Str) (XP : (Str → Option Value) → Heap → Prop) (YP : World → Heap → Prop) (d : DefRec) : Prop := PySem.W.WalkO q loose XP YP l.row.toRowW d [] fun f vs => PySem.call f vs
/-- the end of a law, from the small form's answers -/
theorem walkG {l : PySem.W.OpenLaw} {m k f : Nat} {q : Program} {loose : List Str} {XP : (Str → Option Value) → Heap → Prop} {YP : World → Heap → Prop} {d : DefRec} {K : Params → PySem.W.Frag} {x : Str} {p : Pg}
    (hn : l.most = some m) (hn2 : m ≤ sizeLine) (hdf : d.params.defaults = []) (hr : Room k callerA) (hY : ∀ (w : World) (h : Heap), YP w h → (K w.params).In h)
    (F : LawF l.prog d K x k f p)
    (hf : ∃ dd, p.fns[f]? = some dd ∧ dd.np = 1 ∧ dd.br = false) (law : ∀ ns : List Int, ns.length ≤ m → p.run k f [.scr (ns.map .int)] [] = .ok (.val (.bl true)) []) :
    LawW l q loose XP YP d := by
  refine Att.attach_call hn hdf fun w _ t mg _ fa _ _ _ _ a vs ns G Y _ _ _ named there allInts short nogens => ?_
  have inK := hY w _ Y
  obtain ⟨fd, binds, ok⟩ := F w mg fa _ inK G.T.g named
  refine law_callG inK G.T.g G.T.b G.T.builtins G.T.nolimit nogens there allInts (Nat.le_trans short hn2) hr ok binds fun H hS => ?_
  obtain ⟨dd, h1, h2, h3⟩ := hf
  have hbr : p.br f = false := by unfold Pg.br; rw [h1]; exact h3
  refine ⟨none, H, [.scr (ns.map .int)], [], Same.refl H, ?_, ⟨dd, h1, h2.symm⟩, ?_⟩
  · rw [hbr]
    refine ⟨rfl, .cons (.scr hS (by simp) fun i v y q1 q2 => ?_) .nil⟩
    rw [List.getElem?_map] at q1 q2
    cases hz : ns[i]? with
    | none => rw [hz] at q1; cases q1
    | some z =>
      rw [hz] at q1 q2
      cases q1; cases q2
      exact .int z
  · rw [law ns short]
    intro u H' F' _ _ rv
    cases rv
    rfl
end Pi
set_option maxRecDepth 100000
set_option maxHeartbeats 3900000
namespace Pi
open PySem PySem.Spec L2 PyProof.Rows
/-! ### errors are made: C(..) with an own __init__ that asks its base's one and then stores its parameters. The error is made as a value that is tracked; where it is raised it is let go. -/
/-- a class of the module whose chain ends with a built-in one (bmB: that one's own chain) -/
structure XB (K : PySem.W.Frag) (C : Addr) (newId : String) (bmB : List Value) : Prop where
  look : ∃ nm q N bs bm sn sub ab col dd k0 k1 k2 k3 k5, K.lookup C = some (excClassObj nm q C N bs bm true sn sub ab col dd k0 k1 k2 k3 k5 newId) ∧ PySem.W.excTail bmB bm = true
  isE : PySem.W.subIn K (.ref C) (.type "BaseException") = some true
  isT : PySem.W.typeIn K (.ref C) = some (.type "type")
  kept : PySem.W.keepIn K (.ref C) = true
section
variable {K : PySem.W.Frag} {C : Addr} {newId : String} {bmB : List Value}
theorem XB.cd (T : XB K C newId bmB) : ∃ cd bm, PySem.W.clsIn K C = some cd ∧ cd.mro = .ref C :: bm ∧ PySem.W.excTail bmB bm = true ∧ cd.hasDict = true := by
  obtain ⟨nm, q, N, bs, bm, sn, sub, ab, col, dd, k0, k1, k2, k3, k5, e, t⟩ := T.look
  exact ⟨_, bm, by unfold PySem.W.clsIn; rw [e] <;> rfl, rfl, t, rfl⟩
theorem XB.over (T : XB K C newId bmB) : PySem.W.excOver K C bmB = true := by
  obtain ⟨cd, bm, e, m, t, _⟩ := T.cd
  unfold PySem.W.excOver
  rw [e]
  show (match cd.mro with | .ref C' :: bm => C' == C && PySem.W.excTail bmB bm | _ => false) = true
  rw [m]
  simp [t]
end
theorem upd_id {H : Hp} {a : Addr} {o : HO} (e : H a = some o) : upd H a o = H := by
  funext b
  unfold upd
  split
  · rename_i q
    rw [q, e]
  · rfl
theorem upd_swap {H : Hp} {a b : Addr} {o o' : HO} (n : a ≠ b) : upd (upd H a o) b o' = upd (upd H b o') a o := by
  funext c
  unfold upd
  by_cases h1 : c = b
  · rw [if_pos h1, if_neg (fun z => n (z.symm.trans h1)), if_pos h1]
  · rw [if_neg h1]
    by_cases h2 : c = a
    · rw [if_pos h2, if_pos h2]
    · rw [if_neg h2, if_neg h2, if_neg h1]
/-! the base's __init__ -/
section
variable {X : Cx} {C : Addr} {B newId initId : String} {bmB : List Value}
def rIni (C : Addr) : List V → Hp → VK → Prop := fun xs H Q => ∃ (a : Addr) (ws : List V), xs = .ref a :: ws ∧ ws.length ≤ 1000 ∧ H a = some (exo a C none) ∧ Q .non H
theorem call_ini (FB : ExcBaseFacts B newId initId bmB) (T : XB X.K C newId bmB) : CallR X (.builtin initId) (rIni C) := by
  rintro pins ⟨hp, g, dr, tk, os⟩ σ H _ us Q I rv ⟨a, ws, rfl, short, e, q⟩
  obtain ⟨t1, made⟩ := exo_at I.hok e
  obtain ⟨nm, qn, N, bs, bm, sn, sub, ab, col, dd, k0, k1, k2, k3, k5, lk, tail⟩ := T.look
  match us, rv with
  | _ :: us, .cons rfl rs =>
    have z : us.length ≤ sizeLine := by
      have := rs.length
      simp only [sizeLine_eq]
      omega
    refine wpAny_call (HandSPX.init_base FB (fun Y => PySem.W.excTail_contains Y bm tail) (I.kIn _ _ lk) made z fun h' t2 same there => ⟨.non, H, ?_, rfl, q⟩)
    exact upd_id e ▸ I.write (t' := tk) (x := a) (e := a) (o := exo a C none) (by rw [e]; exact trivial) (Or.inl rfl) same ⟨_, there⟩ (exo_ok there)
end
/-- D.__init__(..): how the row is walked (told by its text) -/
def IniW (nm txt : Str) (j : Nat) (q0 q1 q2 q3 q4 : Pos) : Prop := ∀ env : Env, ∃ pl : Sem Bool, ∀ (M : Model) (A : Around) (E : Value → Shared → Prop) (s : Shared) (Q : Value → Shared → Prop),
  wpAny M A (eval (.Name nm q0) env) (fun v s1 => wpAny M A (getMethod v "__init__" pl) (fun fx s2 => wpAny M A (callWith q4 fx.1 fx.2 (backTo q4 (starEach [.Name "self" q2, .Constant (.str txt) j q3] env)) []) Q E s2) E s1) E s →
  wpAny M A (eval (.Call (.Attribute (.Name nm q0) "__init__" q1) [.Name "self" q2, .Constant (.str txt) j q3] [] q4) env) Q E s
/-- the name of the base, and that its __init__ is the built-in one -/
def Bas (X : Cx) (nm : Str) (initId : String) : Prop := ∃ cv : Value, (∀ (p : Pos) (pins : List (Addr × Obj)) (σ : L2.St) (H : Hp) (s : Shared) (E : Value → Shared → Prop) (Q : Value → Shared → Prop), Inv X pins σ H s → Q cv s → wpAny (model X.prog X.w) X.A (eval (.Name nm p) X.env) Q E s) ∧
  ∀ (pl : Sem Bool) (pins : List (Addr × Obj)) (σ : L2.St) (H : Hp) (s : Shared) (E : Value → Shared → Prop) (Q : Value × List Value → Shared → Prop), Inv X pins σ H s → (∀ t, Q (.builtin initId, []) { s with toks := t }) → wpAny (model X.prog X.w) X.A (getMethod cv "__init__" pl) Q E s
section
variable {X : Cx} {nm : Str} {B initId : String} {D : Addr}
/-- .. a class of the module -/
theorem bas_own (hg : Gl X nm) (hm : X.mg nm = some (.ref D)) (hd : (nm == ("__debug__" : Str)) = false) (sg : PySem.W.specialIn X.K (.ref D) "__getattribute__" = some (some (.builtin "type.__getattribute__"))) (rd : PySem.W.readsIn X.K D (.type "type") = true)
    (vV : PySem.W.findCls X.K (.ref D) (.type "type") "__init__" = some (.val (.builtin initId))) (hh : PySem.W.handedIn (.builtin initId) = true) : Bas X nm initId :=
  ⟨.ref D, fun _ _ _ _ _ _ _ I q => ld_glob I hg hm q hd, fun _ _ _ _ _ _ _ I q => PySem.W.method_cls I.kIn sg (PySem.W.cls_value I.kIn rd vV hh (q _))⟩
/-- .. a built-in class -/
theorem bas_blt (hg : Gl X B) (hm : X.mg B = none) (hv : bootBuiltins B = some (.type B)) (hn : (B : Str) ≠ "__name__") (hd : ((B : Str) == ("__debug__" : Str)) = false) (ht : typeOf (.type B) = pure (.type "type")) (hst : Manifest.isStub B = false)
    (vV : PySem.W.findCls X.K (.type B) (.type "type") "__init__" = some (.val (.builtin initId))) (hh : PySem.W.handedIn (.builtin initId) = true) : Bas X B initId :=
  ⟨.type B, fun _ _ _ _ _ _ _ I q => ld_blt I hg hm hv q hn hd, fun _ _ _ _ _ _ _ I q => PySem.W.method_type I.fr.choose_spec I.ok.mod.kin ht hst vV hh (q _)⟩
theorem ps_ini {C : Addr} {newId : String} {bmB : List Value} {txt : Str} {j : Nat} {q0 q1 q2 q3 q4 q5 : Pos} (W : IniW nm txt j q0 q1 q2 q3 q4) (FB : ExcBaseFacts B newId initId bmB) (T : XB X.K C newId bmB) (b : Bas X nm initId) (hN : X.N[0]? = some ("self" : Str)) (hs : Vis X.env.scope "self") :
    PS X (.Expr (.Call (.Attribute (.Name nm q0) "__init__" q1) [.Name "self" q2, .Constant (.str txt) j q3] [] q4) q5) (fun D σ H => ∃ a : Addr, σ[0]? = some (some (.ref a)) ∧ H a = some (exo a C none) ∧ D.nx σ H) := by
  have e : PE X (.Call (.Attribute (.Name nm q0) "__init__" q1) [.Name "self" q2, .Constant (.str txt) j q3] [] q4) (fun σ H Q => ∃ a : Addr, σ[0]? = some (some (.ref a)) ∧ H a = some (exo a C none) ∧ Q .non H) := by
    refine PE.mk fun pins s σ H Q I h => ?_
    obtain ⟨a, h1, h2, h3⟩ := h
    obtain ⟨pl, go⟩ := W X.env
    obtain ⟨cv, ld, mt⟩ := b
    refine go _ _ _ _ _ (ld _ pins σ H s _ _ I (mt pl pins σ H s _ _ I fun t => ?_))
    have pas : PA X [.Name "self" q2, .Constant (.str txt) j q3] _ := pa_cons (pe_var (X := X) (pos := q2) hN hs) (pa_cons (pe_str (X := X) (x := txt)) pa_nil)
    have as := pas.run q4 pins { s with toks := t } σ H (fun vs H' => rIni C vs H' Q) (I.tok t) ⟨_, h1, a, [.str txt], rfl, by simp, h2, h3⟩
    exact callWith_method1 (thn as fun us s1 ⟨vs, H1, I1, rv, r⟩ => call_ini FB T pins s1 σ H1 vs us Q I1 rv r)
  exact PS.mk fun pins s σ H D I ⟨a, h1, h2, h3⟩ => (ps_expr e).run pins s σ H D I ⟨a, h1, h2, h3⟩
end
/-! self.f = f -/
/-- what is told behind the first store, and behind a further one -/
def hFirst (H : Hp) (a C dx : Addr) (fs : List (Str × V)) : Hp := upd (upd H dx (exd dx fs)) a (exo a C (some dx))
def hNext (H : Hp) (dx : Addr) (fs : List (Str × V)) : Hp := upd H dx (exd dx fs)
/-- the heap with the object at a as it was -/
theorem mid_heap {h' : Heap} {a : Addr} {o o' : Obj} (e : h'.get? a = some o') (nf : o.isFreed = false) : ∃ m : Heap, m.get? a = some o ∧ ∀ b, b ≠ a → m.get? b = h'.get? b :=
  ⟨h'.update a fun _ => o, Heap.get?_update_self _ e nf, fun b n => Heap.get?_update_other _ _ (Ne.symm n)⟩
section
variable {X : Cx} {pins : List (Addr × Obj)} {σ : L2.St} {H : Hp} {s : Shared} {a C dx : Addr} {B newId : String} {bmB : List Value} {f : Str} {y : V} {u : Value} {fs : List (Str × V)} {A : Around} {E : Value → Shared → Prop} {Q : Unit → Shared → Prop}
theorem put_first (SF : StoreFacts B bmB "object.__setattr__" "object") (T : XB X.K C newId bmB) (sa : PySem.W.findIn X.K (.ref C) "__setattr__" = some (some (.builtin "object.__setattr__"))) (tf : PySem.W.takerIn X.K C f = some none) (I : Inv X pins σ H s) (e : H a = some (exo a C none)) (ry : RelV y u)
    (h : ∀ dx s', H dx = none → dx ≠ a → Inv X pins σ (hFirst H a C dx [(f, y)]) s' → Q () s') : wpAny (model X.prog X.w) A (setAttr (.ref a) f u) Q E s := by
  obtain ⟨t1, made⟩ := exo_at I.hok e
  obtain ⟨cd, bm, ec, _, _, hd⟩ := T.cd
  rcases s with ⟨hp, g, dr, tk, os⟩
  have lt : a < hp.objs.size := Heap.lt_size made
  refine PySem.W.set_plain (od := none) I.kIn ⟨made, rfl, rfl, trivial⟩ sa (PySem.W.osa_openX (od := none) SF I.kIn ⟨made, rfl, rfl, trivial⟩ T.over tf fun _ => ?_)
  refine wpAny_bind (wpAny_pure (wpAny_bind (PySem.W.instanceDict_exc (t := t1) (c2 := .none) made (PySem.W.looks_clsIn I.kIn ec) hd ?_)))
  refine HandSPX.store_in_new ⟨_, #[], _, (Heap.get?_update_other _ _ (Nat.ne_of_lt lt)).trans (Heap.get?_push_at rfl rfl), rfl, fun q z => absurd z (by simp), fun _ => rfl⟩ fun h' tk' hn' sb => ?_
  have here : h'.get? a = some { cls := .ref C, dict := some hp.objs.size, data := .fields #[.ref t1, .none, .none, .none, .bool false, .none] } := (sb.2 a (Nat.ne_of_lt lt)).trans (Heap.get?_update_self _ (Heap.get?_push_of_some _ made) rfl)
  have rest : ∀ b o, b ≠ a → hp.get? b = some o → h'.get? b = some o := fun b o n q => (sb.2 b (Nat.ne_of_lt (Heap.lt_size q))).trans ((Heap.get?_update_other _ _ (Ne.symm n)).trans (Heap.get?_push_of_some _ q))
  have nd : H hp.objs.size = none := I.hok.fresh (Nat.le_refl _)
  have ne : hp.objs.size ≠ a := Nat.ne_of_gt lt
  -- first the new dict, beside the object as it was; then the object
  obtain ⟨m, m1, m2⟩ := mid_heap (o := { cls := .ref C, dict := none, data := .fields #[.ref t1, .none, .none, .none, .bool false, .none] }) here rfl
  have rel : ∀ g, RelO ([(f, y)].lookup g) (if g = f then some u else none) := fun g => by
    by_cases z : g = f
    · subst z
      simp only [List.lookup, BEq.rfl, if_pos]
      exact ry
    · rw [if_neg z]
      simp only [List.lookup, beq_eq_false_iff_ne.mpr z]
      exact trivial
  have J1 := I.laidN (t' := tk') (a := hp.objs.size) (o := exd hp.objs.size [(f, y)]) (h' := m) (fun b o q => by
      by_cases z : b = a
      · rw [z] at q ⊢
        exact m1.trans (made.symm.trans q)
      · exact (m2 b z).trans (rest b o z q)) (by
      cases q : hp.get? hp.objs.size with
      | none => rfl
      | some o => exact absurd (Heap.lt_size q) (Nat.lt_irrefl _)) nd (exd_ok (hn'.at fun o q => (m2 _ ne).trans q) rel)
  have J2 := J1.write (t' := tk') (x := a) (e := a) (o := exo a C (some hp.objs.size)) (h' := h') (by rw [upd_ne (Ne.symm ne), e]; exact trivial) (Or.inl rfl) (fun b o n q => (m2 b n).symm.trans q) ⟨_, here⟩ (exo_ok here)
  exact h _ _ nd ne J2
theorem put_next (SF : StoreFacts B bmB "object.__setattr__" "object") (T : XB X.K C newId bmB) (sa : PySem.W.findIn X.K (.ref C) "__setattr__" = some (some (.builtin "object.__setattr__"))) (tf : PySem.W.takerIn X.K C f = some none) (I : Inv X pins σ H s) (e : H a = some (exo a C (some dx))) (ed : H dx = some (exd dx fs)) (few : fs.length ≤ 900) (ry : RelV y u)
    (h : ∀ s', Inv X pins σ (hNext H dx ((f, y) :: fs)) s' → Q () s') : wpAny (model X.prog X.w) A (setAttr (.ref a) f u) Q E s := by
  obtain ⟨t1, made⟩ := exo_at I.hok e
  obtain ⟨mA, ns, rel⟩ := exd_at I.hok ed
  obtain ⟨cd, bm, ec, _, _, hd⟩ := T.cd
  rcases s with ⟨hp, g, dr, tk, os⟩
  obtain ⟨oD, _, _, od, _⟩ := id ns
  refine PySem.W.set_plain (od := some oD) I.kIn ⟨made, rfl, rfl, od⟩ sa (PySem.W.osa_openX (od := some oD) SF I.kIn ⟨made, rfl, rfl, od⟩ T.over tf fun _ => ?_)
  refine wpAny_bind (wpAny_pure (wpAny_bind (wpAny_bind (wpAny_loadPart made (wpAny_bind ((PySem.W.looks_clsIn I.kIn ec).at ?_))))))
  rw [hd]
  refine wpAny_pure (a := some dx) (PySem.OEX.store_in_old ns (within_of rel) (by rw [List.length_map]; omega) fun h' tk' hn' sb => ?_)
  obtain ⟨o', _, _, od', _⟩ := id hn'
  exact h _ (I.write (t' := tk') (x := dx) (e := dx) (h' := h') (by rw [ed]; exact trivial) (Or.inl rfl) (fun b o n q => (sb.2 b n).trans q) ⟨o', od'⟩ (exd_ok hn' (relO_put ry rel)))
end
/-- one row -/
def tPut (C : Addr) (f : Str) (i : Nat) : TS := fun D σ H => ∃ (a : Addr) (y : V) (at' : Option Addr), σ[0]? = some (some (.ref a)) ∧ σ[i]? = some (some y) ∧ H a = some (exo a C at') ∧
  match at' with
  | none => ∀ n, H n = none → n ≠ a → D.nx σ (upd (upd H n (exd n [(f, y)])) a (exo a C (some n)))
  | some n => ∃ gs : List (Str × V), gs.length ≤ 900 ∧ H n = some (exd n gs) ∧ D.nx σ (upd H n (exd n ((f, y) :: gs)))
def tPuts (C : Addr) : List Str → Nat → TS
  | [], _ => tNext
  | f :: fs, i => tSeq (tPut C f i) (tPuts C fs (i + 1))
/-- the rows self.f = f, one for each field -/
inductive Puts : List Str → List Stmt → Prop
  | nil : Puts [] []
  | cons {f : Str} {fs : List Str} {p1 p2 p3 p4 : Pos} {sts : List Stmt} (r : Puts fs sts) : Puts (f :: fs) (.Assign [.Attribute (.Name "self" p1) f p2] (.Name f p3) p4 :: sts)
/-- what the written part says of the fields -/
structure FldOk (K : PySem.W.Frag) (C : Addr) (sc : Scope) (f : Str) : Prop where
  tk : PySem.W.takerIn K C f = some none
  lc : sc.names.lookup f = some .local
  nd : (f == ("__debug__" : Str)) = false
  nc : (f == ("__classdict__" : Str)) = false
section
variable {X : Cx} {C : Addr} {B newId : String} {bmB : List Value}
theorem pss_puts (SF : StoreFacts B bmB "object.__setattr__" "object") (T : XB X.K C newId bmB) (sa : PySem.W.findIn X.K (.ref C) "__setattr__" = some (some (.builtin "object.__setattr__"))) (hN : X.N[0]? = some ("self" : Str)) (hs : Vis X.env.scope "self") {fs : List Str} {sts : List Stmt} (P : Puts fs sts) :
    ∀ i, (∀ (j : Nat) f, fs[j]? = some f → X.N[i + j]? = some f ∧ FldOk X.K C X.env.scope f) → PSs X sts (tPuts C fs i) := by
  induction P with
  | nil => exact fun i _ => pss_nil
  | @cons f fs p1 p2 p3 p4 sts r ih =>
    intro i ok
    obtain ⟨n0, f0⟩ := ok 0 f rfl
    refine pss_cons (PS.mk fun pins s σ H D I ⟨a, y, at', s0, si, e, q⟩ => ?_) (ih (i + 1) fun j g z => by simpa [Nat.add_assoc, Nat.add_comm 1] using ok (j + 1) g (by simpa using z))
    have self := pe_var (X := X) (pos := p1) hN hs
    have par := pe_var (X := X) (pos := p3) (i := i) n0 (Or.inl f0.lc) f0.nd f0.nc
    refine plainObj_wpAny_Assign_Attribute (thn (par.run pins s σ H (fun v H' => v = y ∧ H' = H) I ⟨y, si, rfl, rfl⟩) fun v s1 ⟨_, _, I1, rv, rfl, rfl⟩ => thn (self.run pins s1 σ _ (fun w H' => w = .ref a ∧ H' = _) I1 ⟨_, s0, rfl, rfl⟩) fun u s2 ⟨_, _, I2, ru, rfl, e2⟩ => ?_)
    subst e2
    cases ru
    cases at' with
    | none => exact put_first SF T sa f0.tk I2 e rv fun dx s' n1 n2 J => ⟨σ, _, J, q dx n1 n2⟩
    | some dx =>
      have ⟨gs, few, ed, k⟩ := q
      exact put_next SF T sa f0.tk I2 e ed few rv fun s' J => ⟨σ, _, J, k⟩
end
/-- once the dict is there -/
theorem puts_go {C a dx : Addr} {σ : L2.St} {D : Ends} (s0 : σ[0]? = some (some (.ref a))) (ne : dx ≠ a) : ∀ (fs : List Str) (ys : List V) (i : Nat) (H : Hp) (gs : List (Str × V)), ys.length = fs.length → (∀ (j : Nat) y, ys[j]? = some y → σ[i + j]? = some (some y)) → H a = some (exo a C (some dx)) → H dx = some (exd dx gs) → gs.length + fs.length ≤ 900 →
    D.nx σ (upd H dx (exd dx ((fs.zip ys).reverse ++ gs))) → tPuts C fs i D σ H
  | [], _, i, H, gs, _, _, _, ed, _, q => by
    simp only [List.zip_nil_left, List.reverse_nil, List.nil_append, upd_id ed] at q
    exact q
  | f :: fs, [], i, H, gs, l, _, _, _, _, _ => by simp at l
  | f :: fs, y :: ys, i, H, gs, l, sl, e, ed, few, q => by
    simp only [List.length_cons] at l few
    refine ⟨a, y, some dx, s0, by simpa using sl 0 y rfl, e, gs, by omega, ed, ?_⟩
    refine puts_go s0 ne fs ys (i + 1) _ ((f, y) :: gs) (by omega) (fun j z q => by simpa [Nat.add_assoc, Nat.add_comm 1] using sl (j + 1) z (by simpa using q)) (by rw [upd_ne (Ne.symm ne)]; exact e) upd_same (by simp only [List.length_cons]; omega) ?_
    rw [upd_upd]
    simpa [List.zip_cons_cons, List.append_assoc] using q
/-! ### the promise of an __init__ -/
/-- the fields as they stand in the end: the last one first -/
def flds (fs : List Str) (ys : List V) : List (Str × V) := (fs.zip ys).reverse
def spI (C : Addr) (fs : List Str) : Sp := fun vs H Q _ => ∃ (a : Addr) (ys : List V), vs = .ref a :: ys ∧ ys.length = fs.length ∧ H a = some (exo a C none) ∧
  (fs = [] → Q .non H) ∧ (fs ≠ [] → ∀ dx, H dx = none → dx ≠ a → Q .non (upd (upd H dx (exd dx (flds fs ys))) a (exo a C (some dx))))
section
variable {P : Program} {w : World} {K : PySem.W.Frag} {mg : Str → Option Value} {base : Heap} {qual : Str} {st : Stmt} {fI C : Addr} {fd : FuncData} {nm txt : Str} {j : Nat} {B newId initId : String} {bmB : List Value} {fs : List Str} {sts : List Stmt} {q0 q1 q2 q3 q4 q5 : Pos}
theorem fn_ini (FB : ExcBaseFacts B newId initId bmB) (SF : StoreFacts B bmB "object.__setattr__" "object") (T : XB K C newId bmB) (Fi : Fun K "__init__" qual st fI fd) (hbd : defBody st = .Expr (.Call (.Attribute (.Name nm q0) "__init__" q1) [.Name "self" q2, .Constant (.str txt) j q3] [] q4) q5 :: sts)
    (W : IniW nm txt j q0 q1 q2 q3 q4) (S : FnScope ("self" :: fs) ("self" :: fs) (defScope st)) (hs : (defScope st).names.lookup ("self" : Str) = some .local) (few : fs.length ≤ 100)
    (bas : ∀ X : Cx, X.K = K → X.mg = mg → X.env.scope = defScope st → Bas X nm initId) (pts : Puts fs sts) (sa : PySem.W.findIn K (.ref C) "__setattr__" = some (some (.builtin "object.__setattr__"))) (fl : ∀ f ∈ fs, FldOk K C (defScope st) f) : FnOk P w K mg base CX0 1 fI fd ("self" :: fs) (spI C fs) := by
  refine Fi.ok S (fun vs H Q E ⟨a, ys, e, l, _⟩ => by rw [e]; simp [l]) fun cdv A outer s H vs Q E hr ⟨a, ys, ev, l, ea, z0, z1⟩ => ?_
  subst ev
  rw [hbd]
  let X := (cxOf CX0 P w K mg base ("self" :: fs) qual (defScope st) fI cdv A outer s H E).nox
  have vs : Vis X.env.scope "self" := Or.inl hs
  refine ⟨_, pss_cons (ps_ini (X := X) W FB T (bas X rfl rfl rfl) rfl vs) (pss_puts (X := X) SF T sa rfl vs pts 1 fun j f q => ⟨by show (("self" : Str) :: fs)[1 + j]? = some f; rw [Nat.add_comm]; simpa using q, fl f (List.mem_of_getElem? q)⟩), a, ?_, ea, ?_⟩
  · simp [L2.start]
  · have sl : ∀ (j : Nat) y, ys[j]? = some y → (L2.start (("self" : Str) :: fs) (V.ref a :: ys))[1 + j]? = some (some y) := fun j y q => by
      have lt : j < ys.length := (List.getElem?_eq_some_iff.mp q).1
      rw [Nat.add_comm]
      show ((V.ref a :: ys).map some ++ _)[j + 1]? = _
      rw [List.getElem?_append_left (by simpa using lt)]
      simp [q]
    match fs, ys, l, z0, z1 with
    | [], _, _, z0, _ => exact z0 rfl
    | f :: fs, y :: ys, l, _, z1 =>
      refine ⟨a, y, none, by simp [L2.start], by simpa using sl 0 y rfl, ea, fun dx n1 n2 => ?_⟩
      refine puts_go (by simp [L2.start]) n2 fs ys 2 _ [(f, y)] (by simpa using l) (fun j z q => by have := sl (j + 1) z (by simpa using q); rw [show 1 + (j + 1) = 2 + j by omega] at this; exact this) upd_same (by rw [upd_ne n2, upd_same]) (by simp only [List.length_cons] at few ⊢; simp; omega) ?_
      have := z1 (by simp) dx n1 n2
      rw [upd_swap (Ne.symm n2), upd_upd]
      simpa [flds] using this
end
end Pi
set_option maxRecDepth 100000
set_option maxHeartbeats 3900000
namespace Pi
open PySem
/-! ### C(f = v, ..) of an own class of errors, by names alone: the names pass through type.__call__ and BaseException.__new__ to the own __init__ -/
section
variable {prog : Program} {w : World} {A : Around} {E : Value → Shared → Prop} {R : Result → Shared → Prop} {h : Heap} {g : Array GenState} {d : Drawn} {t : Nat} {os : OsState} {ks : List (Str × Value)}
variable {nm q : Str} {C N : Addr} {bs bm bmB : List Value} {sn : List Str} {sub : List Value} {ab : Bool} {col : Option Bool} {dd : Option Addr} {k0 k1 k2 k3 k5 : Option Value} {B newId initId : String}
/-- the look at the call of __new__: any names will do -/
theorem kw_look (FB : ExcBaseFacts B newId initId bmB) (hB : (Value.ref C :: bm).contains (.type B) = true) {Q : Unit → Shared → Prop}
    (there : h.get? C = some (excClassObj nm q C N bs bm true sn sub ab col dd k0 k1 k2 k3 k5 newId)) (go : Q () ⟨h, g, d, t, os⟩) : wpAny (model prog w) A (checkBuiltinCall newId ⟨[.ref C], ks⟩) Q E ⟨h, g, d, t, os⟩ := by
  have star := FB.noStar
  unfold checkBuiltinCall
  rw [FB.newKind, FB.newSplit, FB.newRow]
  repeat first
    | refine wpAny_loadPart_at there ?_
    | (refine wpAny_isSubtype_exc there ?_; rw [hB])
    | refine wpAny_staticBase_exc there ?_
    | refine wpAny_madeBy_exc there ?_
    | simp only [bne_self_eq_false, Bool.false_eq_true, if_false]
    | wp_step
  exact go
/-- the new object -/
abbrev errO (C tu : Addr) : Obj := HandSPX.excO C tu
theorem kw_new (FB : ExcBaseFacts B newId initId bmB) (hT : ∀ Y : String, bm.contains (.type Y) = bmB.contains (.type Y)) (there : h.get? C = some (excClassObj nm q C N bs bm true sn sub ab col dd k0 k1 k2 k3 k5 newId))
    (go : R (.ok (.ret (.ref (h.objs.size + 1)))) ⟨(h.push (PySem.W.kdv_tup [])).push (errO C h.objs.size), g, d, t, os⟩) : codeAny (model prog w) A (.call (.builtin newId) ⟨[.ref C], ks⟩) R ⟨h, g, d, t, os⟩ := by
  have isIn : ∀ Y : String, (Value.ref C :: bm).contains (.type Y) = bmB.contains (.type Y) := fun Y => by
    rw [List.contains_cons, hT]
    rfl
  have b1 := (isIn B).trans FB.hasB
  have b2 := (isIn "AttributeError").trans FB.noAttr
  have b3 := (isIn "NameError").trans FB.noName
  refine codeAny_call_builtin_code (Code.quiet_builtin _ FB.quiet) (kw_look FB b1 there (codeAny_builtinAt FB.entry ?_))
  have ends := FB.ends
  refine wpAt_bind (wpAt_bind (wpAt_stack fun p below => wpAt_of_wpAny ?_))
  wp_walk
  refine wpAt_of_wpAny ?_
  rw [FB.owner]
  repeat first
    | with_reducible refine wpAny_madeHere_exc FB.canon there ?_
    | with_reducible refine wpAny_loadPart_at there ?_
    | (with_reducible refine wpAny_isSubtype_exc there ?_; first | rw [b1] | rw [b2] | rw [b3])
    | wp_step
  show R _ _
  rw [Heap.size_push]
  exact go
/-- the whole call: the own __init__ gets the new object and the names -/
theorem kw_made (FB : ExcBaseFacts B newId initId bmB) (hT : ∀ Y : String, bm.contains (.type Y) = bmB.contains (.type Y)) {fI : Addr} (there : h.get? C = some (excClassObj nm q C N bs bm true sn sub ab col dd k0 k1 k2 k3 k5 newId))
    (ini : W.Looks (model prog w) h (typeLookup (.ref C) "__init__") (some (.ref fI))) (bnd : ∀ self, W.Looks (model prog w) h (bindSpecial (.ref fI) self) (.ref fI, [self]))
    (go : codeAny (model prog w) (A.under (.builtin "type.__call__" ⟨[.ref C], ks⟩)) (.call (.ref fI) ⟨[.ref (h.objs.size + 1)], ks⟩) (W.InitBack (h.objs.size + 1) R) ⟨(h.push (W.kdv_tup [])).push (errO C h.objs.size), g, d, t, os⟩) :
    codeAny (model prog w) A (.call (.ref C) ⟨[], ks⟩) R ⟨h, g, d, t, os⟩ := by
  have ty : (⟨h, g, d, t, os⟩ : Shared).TypeIs (.ref C) "type" := ⟨_, there, rfl⟩
  have l1 := tc_lookup
  have l2 := tc_bind (.ref C)
  have l3 := tc_sub
  refine codeAny_of_tree (show wpAny _ _ (callAny (.ref C) ⟨[], ks⟩) _ _ _ from ?_)
  repeat any_goals first
    | assumption
    | with_reducible refine wpAny_loadPart_at there ?_
    | wp_step
  refine ⟨rfl, codeAny_call_builtin_at (Code.quiet_builtin _ (by decide +kernel)) entry_typeCall ?_⟩
  refine W.check_slot tc_kind tc_split (fun A' Q' E' s' k z => ?_) (W.tc_args _ _ _) ?_
  · unfold isInstance
    repeat any_goals first
      | assumption
      | with_reducible refine wpAny_loadPart_at (k _ _ there) ?_
      | wp_step
  repeat first
    | with_reducible refine wpAny_loadPart_at there ?_
    | with_reducible refine wpAny_madeBy_exc there ?_
    | wp_step
  refine kw_new FB hT there ?_
  have up : ∀ b o, h.get? b = some o → ((h.push (W.kdv_tup [])).push (errO C h.objs.size)).get? b = some o := fun b o e => Heap.get?_push_of_some _ (Heap.get?_push_of_some _ e)
  have new : ((h.push (W.kdv_tup [])).push (errO C h.objs.size)).get? (h.objs.size + 1) = some (errO C h.objs.size) := by heap_get
  have self : (Value.ref C :: bm).contains (.ref C) = true := by simp
  unfold isInstance
  repeat first
    | with_reducible refine wpAny_loadPart_at new ?_
    | (with_reducible refine wpAny_isSubtype_exc (up _ _ there) ?_; rw [self])
    | wp_step
  refine (ini.keeps up).at (wpAny_holding (wpAny_bind (((bnd _).keeps up).at (wpAny_bind (wpAny_call (codeAny_mono go ?_))))))
  rintro (e | fl) s' z
  · exact z
  cases fl with
  | ret v =>
    obtain ⟨rfl, z⟩ := z
    refine wpAny_pure ?_
    exact wpAny_pure z
  | _ => exact z.elim
end
end Pi
set_option maxRecDepth 100000
set_option maxHeartbeats 3900000
namespace Pi
open PySem PySem.Spec L2 PyProof.Rows
/-! ### C(..) where it is raised: the error is let go -/
/-- the state without the object at a -/
def Without (X : Cx) (pins : List (Addr × Obj)) (σ : L2.St) (H : Hp) (s : Shared) (a : Addr) : Prop := ∃ G : Heap, (∀ b o, G.get? b = some o → s.heap.get? b = some o) ∧ G.get? a = none ∧ Inv X pins σ (delH H a) { s with heap := G }
/-- an object that was not there at the entry may be let go: the library's Inv.untrack, seen from an entry that tells nothing of its place -/
theorem letgo {X : Cx} {pins : List (Addr × Obj)} {σ : L2.St} {H : Hp} {s : Shared} {a : Addr} {φ : Heap → Prop} (I : Inv X pins σ H s) (ha : H a = some (.ext φ)) (n0 : X.s_0.heap.get? a = none) (hx : X.ex = []) :
    Without X pins σ H s a := by
  have away : ∀ {b : Addr} {o : Obj}, X.s_0.heap.get? b = some o → delH X.H_0 a b = X.H_0 b := fun {b o} q => delH_ne fun z => by rw [z, n0] at q; exact nomatch q
  have sub : ∀ {b : Addr} {u : HO}, delH X.H_0 a b = some u → X.H_0 b = some u := fun {b u} q => by
    by_cases z : b = a
    · rw [z, delH_same] at q
      exact nomatch q
    · rwa [delH_ne z] at q
  have J : Inv { X with H_0 := delH X.H_0 a } pins σ H s := { I with
    ok := { I.ok with
      bs := fun b o q => ⟨(I.ok.bs b o q).1, (away (I.ok.bs b o q).1).trans (I.ok.bs b o q).2⟩
      frf := fun b q => by
        have z := I.ok.frf b q
        by_cases e : b = a
        · show delH X.H_0 a b = none
          rw [e, delH_same]
        · show delH X.H_0 a b = none
          rw [delH_ne e]
          exact z }
    base := { I.base with
      keep := fun b o q n => I.base.keep b o q ((away q).symm.trans n)
      slot := fun b o q n => I.base.slot b o q ((away q).symm.trans n)
      free := fun b o q n => I.base.free b o q ((away q).symm.trans n)
      tups := fun b xs q => I.base.tups b xs (sub q)
      frzs := fun b o u q => I.base.frzs b o u (sub q)
      tbls := fun b ps q => I.base.tbls b ps (sub q) } }
  obtain ⟨G, g1, g2, Y⟩ := J.untrack ha (fr0_none delH_same) hx
  have no : ∀ {b : Addr} {u : HO}, (∀ φ, u ≠ .ext φ) → (X.H_0 b = some u → ∃ u', H b = some u' ∧ ∀ φ, u' ≠ .ext φ) → X.H_0 b = some u → delH X.H_0 a b = some u := fun {b u} _ up q => by
    by_cases z : b = a
    · obtain ⟨u', q', n'⟩ := up q
      rw [z, ha] at q'
      exact absurd (Option.some.inj q').symm (n' φ)
    · rw [delH_ne z]
      exact q
  refine ⟨G, g1, g2, { Y with
    ok := I.ok
    base := { Y.base with
      keep := fun b o q n => Y.base.keep b o q ((away q).trans n)
      slot := fun b o q n => Y.base.slot b o q ((away q).trans n)
      free := fun b o q n => Y.base.free b o q ((away q).trans n)
      tups := fun b xs q => Y.base.tups b xs (no nofun (fun q => ⟨_, I.base.tups b xs q, nofun⟩) q)
      frzs := fun b o u q => Y.base.frzs b o u (no nofun (fun q => ⟨_, I.base.frzs b o u q, nofun⟩) q)
      tbls := fun b ps q => Y.base.tbls b ps (no nofun (fun q => let ⟨m, z⟩ := I.base.tbls b ps q; ⟨_, z, nofun⟩) q) } }⟩
/-- what is wanted of the arguments -/
def GoM (C : Addr) (fs : List Str) (Q : XK) (vs : List V) (H : Hp) : Prop := vs.length = fs.length ∧ (fs = [] → Q (.ref C) none H) ∧ (fs ≠ [] → ∀ d, H d = none → Q (.ref C) (some d) (upd H d (.xd (flds fs vs))))
section
variable {X : Cx} {C fI : Addr} {k : Nat} {fd : FuncData} {fs : List Str} {B newId initId : String} {bmB : List Value}
/-- an error of the class at C was made at a -/
def Newly (X : Cx) (pins : List (Addr × Obj)) (σ : L2.St) (H : Hp) (C : Addr) (fs : List Str) (vs : List V) (a : Addr) (s' : Shared) : Prop := H a = none ∧ X.s_0.heap.get? a = none ∧ ∃ H2, Inv X pins σ H2 s' ∧
  ((fs = [] ∧ H2 = upd H a (exo a C none)) ∨ (fs ≠ [] ∧ ∃ dx, H dx = none ∧ dx ≠ a ∧ H2 = upd (upd (upd H a (exo a C none)) dx (exd dx (flds fs vs))) a (exo a C (some dx))))
/-- how the own __init__ is reached with these values and names -/
def Reach (P : Program) (w : World) (C fI : Addr) (s : Shared) (ps : List Value) (nv : List (Str × Value)) : Prop := ∀ (A : Around) (R : Result → Shared → Prop),
  codeAny (model P w) (A.under (.builtin "type.__call__" ⟨.ref C :: ps, nv⟩)) (.call (.ref fI) ⟨.ref (s.heap.objs.size + 1) :: ps, nv⟩) (PySem.W.InitBack (s.heap.objs.size + 1) R) { s with heap := (s.heap.push (PySem.W.kdv_tup ps)).push (HandSPX.excO C s.heap.objs.size) } →
  codeAny (model P w) A (.call (.ref C) ⟨ps, nv⟩) R s
theorem reach_pos {s : Shared} {us : List Value} (FB : ExcBaseFacts B newId initId bmB) (T : XB X.K C newId bmB) (kin : X.K.In s.heap) (iC : PySem.W.findIn X.K (.ref C) "__init__" = some (some (.ref fI))) (tI : PySem.W.typeIn X.K (.ref fI) = some (.type "function")) (few : us.length ≤ 100) : Reach X.prog X.w C fI s us [] := by
  obtain ⟨nm, qn, N, bs, bm, sn, sub, ab, col, dd, k0, k1, k2, k3, k5, lk, tail⟩ := T.look
  intro A R go
  rcases s with ⟨hp, g, dr, tk, os⟩
  exact HandSPX.call_own FB (fun Y => PySem.W.excTail_contains Y bm tail) (kin _ _ lk) (PySem.W.looks_findIn kin iC) (fun self => PySem.W.bind_fn kin self tI) (by rw [sizeLine_eq]; omega) go
theorem reach_names {s : Shared} {nv : List (Str × Value)} (FB : ExcBaseFacts B newId initId bmB) (T : XB X.K C newId bmB) (kin : X.K.In s.heap) (iC : PySem.W.findIn X.K (.ref C) "__init__" = some (some (.ref fI))) (tI : PySem.W.typeIn X.K (.ref fI) = some (.type "function")) : Reach X.prog X.w C fI s [] nv := by
  obtain ⟨nm, qn, N, bs, bm, sn, sub, ab, col, dd, k0, k1, k2, k3, k5, lk, tail⟩ := T.look
  intro A R go
  rcases s with ⟨hp, g, dr, tk, os⟩
  exact kw_made FB (fun Y => PySem.W.excTail_contains Y bm tail) (kin _ _ lk) (PySem.W.looks_findIn kin iC) (fun self => PySem.W.bind_fn kin self tI) go
/-- what a call of the class leaves: the new error, tracked -/
theorem madeG (F1 : FnOk X.prog X.w X.K X.mg X.base CX0 k fI fd ("self" :: fs) (spI C fs)) (hr : Room (k + 1) X.A)
    {pins : List (Addr × Obj)} {σ : L2.St} {H : Hp} {s : Shared} {vs : List V} {us ps : List Value} {nv : List (Str × Value)} (rc : Reach X.prog X.w C fI s ps nv) (hb : ∀ (s' : Shared) (a : Value), X.K.In s'.heap → BindsTo s' fd ⟨a :: ps, nv⟩ ((("self" : Str) :: fs).zip (a :: us)))
    (I : Inv X pins σ H s) (rv : Vals vs us) (l : vs.length = fs.length) : wpAny (model X.prog X.w) X.A (call (.ref C) ps nv) (fun u s' => ∃ a, u = .ref a ∧ Newly X pins σ H C fs vs a s') X.xe s := by
  rcases s with ⟨hp, g, dr, tk, os⟩
  -- the place of the new error
  generalize ea : hp.objs.size + 1 = a
  have na : H a = none := I.hok.fresh (by show hp.objs.size ≤ a; omega)
  have n0 : X.s_0.heap.get? a = none := by -- it is new
    cases q : X.s_0.heap.get? a with
    | none => rfl
    | some o =>
      have h1 := Heap.lt_size q
      have h2 : X.s_0.heap.objs.size ≤ hp.objs.size := I.sz
      have h3 : (a : Nat) = hp.objs.size + 1 := ea.symm
      exact absurd (Nat.lt_of_lt_of_le h1 h2) (by rw [h3]; omega)
  have new : ((hp.push (PySem.W.kdv_tup ps)).push (HandSPX.excO C hp.objs.size)).get? a = some (HandSPX.excO C hp.objs.size) := by subst ea; heap_get
  have I2 := I.laid (t' := tk) (a := a) (o := exo a C none) (h' := (hp.push (PySem.W.kdv_tup ps)).push (HandSPX.excO C hp.objs.size)) (fun b o q => Heap.get?_push_of_some _ (Heap.get?_push_of_some _ q)) (by show hp.objs.size ≤ a; omega) (exo_ok new)
  let QQ : VK := fun v H2 => v = .non ∧ ((fs = [] ∧ H2 = upd H a (exo a C none)) ∨ (fs ≠ [] ∧ ∃ dx, H dx = none ∧ dx ≠ a ∧ H2 = upd (upd (upd H a (exo a C none)) dx (exd dx (flds fs vs))) a (exo a C (some dx))))
  have run := F1.run (X.A.under (.builtin "type.__call__" ⟨.ref C :: ps, nv⟩)) X.stack ⟨_, g, dr, tk, os⟩ _ ⟨.ref a :: ps, nv⟩ (.ref a :: us) (.ref a :: vs) QQ (fun _ _ _ => False) (hr.make C ps nv) (I2.env0.make C ps nv) (hb _ _ I2.kIn) (.cons rfl rv)
    ⟨a, vs, rfl, l, upd_same, fun z => ⟨rfl, Or.inl ⟨z, rfl⟩⟩, fun z dx n1 n2 => ⟨rfl, Or.inr ⟨z, dx, by rwa [upd_ne n2] at n1, n2, rfl⟩⟩⟩
  refine wpAny_call (rc _ _ ?_)
  subst ea
  refine codeAny_mono run ?_
  rintro (er | fl) s' z
  · exact z.elim
  match fl, z with
  | .ret u, z =>
    obtain ⟨v, H2, J, ru, rfl, ends⟩ := I2.after z
    refine ⟨ru, ?_⟩
    exact ⟨_, rfl, na, n0, H2, J, ends⟩
theorem made0 (FB : ExcBaseFacts B newId initId bmB) (T : XB X.K C newId bmB) (iC : PySem.W.findIn X.K (.ref C) "__init__" = some (some (.ref fI))) (tI : PySem.W.typeIn X.K (.ref fI) = some (.type "function"))
    (F1 : FnOk X.prog X.w X.K X.mg X.base CX0 k fI fd ("self" :: fs) (spI C fs)) (hb : Binds X.K fd ("self" :: fs) []) (few : fs.length ≤ 100) (hr : Room (k + 1) X.A)
    {pins : List (Addr × Obj)} {σ : L2.St} {H : Hp} {s : Shared} {vs : List V} {us : List Value} (I : Inv X pins σ H s) (rv : Vals vs us) (l : vs.length = fs.length) : wpAny (model X.prog X.w) X.A (call (.ref C) us) (fun u s' => ∃ a, u = .ref a ∧ Newly X pins σ H C fs vs a s') X.xe s := by
  have ll : us.length = fs.length := rv.length.symm.trans l
  exact madeG F1 hr (reach_pos FB T I.kIn iC tI (by omega)) (fun s' a kin => by simpa using hb s' (a :: us) kin (by simp [ll])) I rv l
theorem made0K (FB : ExcBaseFacts B newId initId bmB) (T : XB X.K C newId bmB) (iC : PySem.W.findIn X.K (.ref C) "__init__" = some (some (.ref fI))) (tI : PySem.W.typeIn X.K (.ref fI) = some (.type "function"))
    (F1 : FnOk X.prog X.w X.K X.mg X.base CX0 k fI fd ("self" :: fs) (spI C fs)) (hb : ∀ (s : Shared) (a : Value) (us : List Value), us.length = fs.length → BindsTo s fd ⟨[a], fs.zip us⟩ ((("self" : Str) :: fs).zip (a :: us))) (hr : Room (k + 1) X.A)
    {pins : List (Addr × Obj)} {σ : L2.St} {H : Hp} {s : Shared} {vs : List V} {us : List Value} (I : Inv X pins σ H s) (rv : Vals vs us) (l : vs.length = fs.length) : wpAny (model X.prog X.w) X.A (call (.ref C) [] (fs.zip us)) (fun u s' => ∃ a, u = .ref a ∧ Newly X pins σ H C fs vs a s') X.xe s :=
  madeG F1 hr (reach_names FB T I.kIn iC tI) (fun s' a _ => hb s' a us (rv.length.symm.trans l)) I rv l
theorem made (FB : ExcBaseFacts B newId initId bmB) (T : XB X.K C newId bmB) (iC : PySem.W.findIn X.K (.ref C) "__init__" = some (some (.ref fI))) (tI : PySem.W.typeIn X.K (.ref fI) = some (.type "function"))
    (F1 : FnOk X.prog X.w X.K X.mg X.base CX0 k fI fd ("self" :: fs) (spI C fs)) (hb : Binds X.K fd ("self" :: fs) []) (few : fs.length ≤ 100) (hx : X.ex = []) (hr : Room (k + 1) X.A)
    {pins : List (Addr × Obj)} {σ : L2.St} {H : Hp} {s : Shared} {vs : List V} {us : List Value} {Q : XK} (I : Inv X pins σ H s) (rv : Vals vs us) (go : GoM C fs Q vs H) : wpAny (model X.prog X.w) X.A (call (.ref C) us) (MkP X pins σ Q) X.xe s := by
  obtain ⟨l, q0, q1⟩ := go
  refine thn (made0 FB T iC tI F1 hb few hr I rv l) fun u s' ⟨a, eu, na, n0, H2, J, ends⟩ => ?_
  subst eu
  have rs := raises_own (X := X) T.isE T.isT
  rcases ends with ⟨e0, rfl⟩ | ⟨e1, dx, nd, ne, rfl⟩
  · obtain ⟨t1, obj⟩ := exo_at J.hok (e := a) (C := C) (d := none) upd_same
    obtain ⟨G, g1, g2, J2⟩ := letgo J upd_same n0 hx
    rw [delH_new na] at J2
    exact ⟨_, _, _, _, H, .ref C, none, rfl, J2, g1, g2, obj, ⟨rfl, rfl⟩, rfl, rfl, na, rfl, J.bare, rs, q0 e0⟩
  · obtain ⟨t1, obj⟩ := exo_at J.hok (e := a) (C := C) (d := some dx) upd_same
    have ed : upd (upd (upd H a (exo a C none)) dx (exd dx (flds fs vs))) a (exo a C (some dx)) dx = some (exd dx (flds fs vs)) := by rw [upd_ne ne, upd_same]
    obtain ⟨mA, ns, rel⟩ := exd_at J.hok ed
    obtain ⟨oD, _, _, od, _⟩ := id ns
    have J1 := J.write (t' := s'.toks) (x := dx) (e := dx) (o := .xd (flds fs vs)) (h' := s'.heap) (by rw [ed]; exact trivial) (Or.inl rfl) (fun _ _ _ q => q) ⟨oD, od⟩ ⟨mA, ns, rel⟩
    obtain ⟨G, g1, g2, J2⟩ := letgo J1 (by rw [upd_ne (Ne.symm ne), upd_same]; rfl) n0 hx
    have eH : delH (upd (upd (upd (upd H a (exo a C none)) dx (exd dx (flds fs vs))) a (exo a C (some dx))) dx (.xd (flds fs vs))) a = upd H dx (.xd (flds fs vs)) := by
      funext b
      by_cases z1 : b = a
      · rw [z1, delH_same, upd_ne (Ne.symm ne), na]
      · rw [delH_ne z1]
        by_cases z2 : b = dx
        · rw [z2, upd_same, upd_same]
        · rw [upd_ne z2, upd_ne z1, upd_ne z2, upd_ne z1, upd_ne z2]
    rw [eH] at J2
    exact ⟨_, _, _, _, _, .ref C, some dx, rfl, J2, g1, g2, obj, ⟨rfl, rfl⟩, rfl, rfl, by rw [upd_ne (Ne.symm ne)]; exact na, rfl, J.bare, rs, q1 e1 dx nd⟩
theorem exq_of {P : Program} {w : World} {H : Hp} {h : Heap} {a C : Addr} {d : Option Addr} {o : Obj} {ws : Array Value} (g : h.get? a = some o) (c : o.cls = .ref C) (e : o.dict = d) (f : o.data = .fields ws) : ObjOk P w H h a (exq a C d) :=
  ⟨⟨o, ws, g, c, e, f⟩, ⟨o, g⟩, fun h1 h2 ⟨o', ws', g', r⟩ k => ⟨o', ws', k o' g', r⟩⟩
/-- .. and is kept as a value -/
theorem newV {pins : List (Addr × Obj)} {σ : L2.St} {H : Hp} {s' : Shared} {vs : List V} {Q : VK} {a : Addr} (made : Newly X pins σ H C fs vs a s')
    (q0 : fs = [] → ∀ a, H a = none → Q (.ref a) (upd H a (exq a C none))) (q1 : fs ≠ [] → ∀ a dx, H a = none → H dx = none → dx ≠ a → Q (.ref a) (upd (upd H dx (.xd (flds fs vs))) a (exq a C (some dx)))) : EP X pins σ Q (.ref a) s' := by
  obtain ⟨na, n0, H2, J, ends⟩ := made
  rcases ends with ⟨e0, rfl⟩ | ⟨e1, dx, nd, ne, rfl⟩
  · obtain ⟨t1, obj⟩ := exo_at J.hok (e := a) (C := C) (d := none) upd_same
    have J1 := J.write (t' := s'.toks) (x := a) (e := a) (o := exq a C none) (h' := s'.heap) (by rw [upd_same]; exact trivial) (Or.inl rfl) (fun _ _ _ q => q) ⟨_, obj⟩ (exq_of obj rfl rfl rfl)
    rw [upd_upd] at J1
    exact ⟨.ref a, _, J1, rfl, q0 e0 a na⟩
  · obtain ⟨t1, obj⟩ := exo_at J.hok (e := a) (C := C) (d := some dx) upd_same
    have ed : upd (upd (upd H a (exo a C none)) dx (exd dx (flds fs vs))) a (exo a C (some dx)) dx = some (exd dx (flds fs vs)) := by rw [upd_ne ne, upd_same]
    obtain ⟨mA, ns, rel⟩ := exd_at J.hok ed
    obtain ⟨oD, _, _, od, _⟩ := id ns
    have J1 := J.write (t' := s'.toks) (x := dx) (e := dx) (o := .xd (flds fs vs)) (h' := s'.heap) (by rw [ed]; exact trivial) (Or.inl rfl) (fun _ _ _ q => q) ⟨oD, od⟩ ⟨mA, ns, rel⟩
    have J2 := J1.write (t' := s'.toks) (x := a) (e := a) (o := exq a C (some dx)) (h' := s'.heap) (by rw [upd_ne (Ne.symm ne), upd_same]; exact trivial) (Or.inl rfl) (fun _ _ _ q => q) ⟨_, obj⟩ (exq_of obj rfl rfl rfl)
    have eH : upd (upd (upd (upd (upd H a (exo a C none)) dx (exd dx (flds fs vs))) a (exo a C (some dx))) dx (.xd (flds fs vs))) a (exq a C (some dx)) = upd (upd H dx (.xd (flds fs vs))) a (exq a C (some dx)) := by
      funext b
      by_cases z1 : b = a
      · rw [z1, upd_same, upd_same]
      · by_cases z2 : b = dx
        · rw [z2, upd_ne ne, upd_same, upd_ne ne, upd_same]
        · rw [upd_ne z1, upd_ne z2, upd_ne z1, upd_ne z2, upd_ne z1, upd_ne z1, upd_ne z2]
    rw [eH] at J2
    exact ⟨.ref a, _, J2, rfl, q1 e1 a dx na nd ne⟩
end
/-! ### over data -/
theorem no_stars {env : Env} {pos : Pos} : ∀ {as : List Expr}, (∀ a ∈ as, noStar a = true) → (backTo pos (starEach as env)).any (·.1) = false
  | [], _ => rfl
  | a :: as, h => by
    rw [star1 (h a (.head _))]
    exact no_stars fun b z => h b (.tail _ z)
theorem flds_rel {K : PySem.W.Frag} {F : Hp} : ∀ {fs : List Tx} {vs : List V} {ds : List D}, fs.length = ds.length → RpA K F vs ds → ((fs.map tx).zip vs).map (·.1) = (fs.zip ds).map (fun p => tx p.1) ∧ ((fs.map tx).zip vs).map (·.2) = vs ∧ (fs.zip ds).map (·.2) = ds
  | [], vs, [], _, r => by
    obtain rfl : vs = [] := List.eq_nil_of_length_eq_zero r.1
    exact ⟨rfl, rfl, rfl⟩
  | f :: fs, vs, d :: ds, l, r => by
    match vs, r with
    | [], r => exact absurd r.1 (by simp)
    | v :: vs, r =>
      obtain ⟨h1, h2, h3⟩ := flds_rel (fs := fs) (by simpa using l) r.cons_inv.2
      simp only [List.map_cons, List.zip_cons_cons]
      exact ⟨by rw [h1], by rw [h2], by rw [h3]⟩
  | [], _, _ :: _, l, _ => by simp at l
  | _ :: _, _, [], l, _ => by simp at l
theorem RpA.rev {K : PySem.W.Frag} {F : Hp} {vs : List V} {ds : List D} (r : RpA K F vs ds) : RpA K F vs.reverse ds.reverse := by
  refine ⟨by simp [r.1], fun i v d h1 h2 => ?_⟩
  have l : i < vs.length := by simpa using (List.getElem?_eq_some_iff.mp h1).1
  rw [List.getElem?_reverse l] at h1
  rw [List.getElem?_reverse (by rw [← r.1]; exact l)] at h2
  rw [← r.1] at h2
  exact r.2 _ v d h1 h2
theorem mk_flds {P : Program} {w : World} {K : PySem.W.Frag} {mg : Str → Option Value} {base : Heap} {fI C : Addr} {fd : FuncData} {n : Nat} {x : Str} {c : Tx} {fs : List Tx} {init : Tx → List D → Option (List (Tx × D))} {B newId initId : String} {bmB : List Value}
    (FB : ExcBaseFacts B newId initId bmB) (hC : adr K c = C) (T : XB K C newId bmB) (iC : PySem.W.findIn K (.ref C) "__init__" = some (some (.ref fI))) (tI : PySem.W.typeIn K (.ref fI) = some (.type "function"))
    (F1 : FnOk P w K mg base CX0 1 fI fd ("self" :: fs.map tx) (spI C (fs.map tx))) (hb : Binds K fd ("self" :: fs.map tx) []) (few : fs.length ≤ 100) (hm : mg x = some (.ref C)) (hi : ∀ ds gs, init c ds = some gs → 2 ≤ n ∧ ds.length = fs.length ∧ gs = (fs.zip ds).reverse) : MkOk P w K mg base init n x c := by
  refine MkOk.mk fun X g wd es as q pos h1 h2 h3 h4 h5 hex hcalm hgd hr hg hdb ha hl hst => ?_
  subst h1 h2 h3 h4 h5 hC
  -- what the arguments must bring
  let Go : XK → List V → Hp → Prop := fun Q vs H => 2 ≤ n ∧ GoM (adr X.K c) (fs.map tx) Q vs H
  have fin : ∀ {pins : List (Addr × Obj)} {σ : L2.St} {H : Hp} {s : Shared} {vs : List V} {us : List Value} {Q : XK}, Inv X pins σ H s → Vals vs us → Go Q vs H → wpAny (model X.prog X.w) X.A (call (.ref (adr X.K c)) us) (MkP X pins σ Q) X.xe s :=
    fun I rv ⟨h2, go⟩ => made FB T iC tI F1 hb (by simpa using few) hex (hr.mono h2) I rv go
  have pay : ∀ {e : En} {s : Fr} {σ : Sg} {F H : Hp} {ds : List D} {vs : List V} {Q : XK}, Rl X.K e s σ F H → RpA X.K F vs ds → (∃ gs, init c ds = some gs ∧ ∀ d H' F', Rl X.K e s σ F' H' → Same F F' → Xd X.K F' H' d gs → Q (.ref (adr X.K c)) d H') → Go Q vs H := by
    rintro e s σ F H ds vs Q R ra ⟨gs, e1, k⟩
    obtain ⟨h2, hl, rfl⟩ := hi _ _ e1
    refine ⟨h2, by rw [ra.1, hl, List.length_map], fun z => ?_, fun z d nd => ?_⟩
    · have z : fs = [] := by simpa using z
      exact k none H F R (Same.refl F) (Or.inl ⟨by simp [z], rfl⟩)
    · obtain ⟨R2, sm⟩ := R.iced (o := .xd (flds (fs.map tx) vs)) nd
      obtain ⟨k1, k2, k3⟩ := flds_rel hl.symm ra
      refine k (some d) _ _ R2 sm (Or.inr ⟨d, _, rfl, upd_same, upd_same, ?_, ?_⟩)
      · unfold flds
        rw [List.map_reverse, List.map_reverse, k1]
      · unfold flds
        rw [List.map_reverse, List.map_reverse, k2, k3]
        exact (ra.mono sm).rev
  intro pins s σ H Q I h
  obtain ⟨e, fr, F, R, h⟩ := h
  refine wpAny_Call_Name_kw (args := as) (ld_glob (pos := q) I hg hm ?_ hdb)
  match as, ha, hl, hst with
  | [], _, hl, _ =>
    cases es with
    | cons _ _ => simp [IEs.len] at hl
    | nil =>
      unfold evF at h
      exact PySem.W.callWith_K0 I.kIn T.kept (fin I .nil (pay R .nil (h H F R (Same.refl F))))
  | a :: as, ha, _, hst =>
    have tr : tF X.K g wd es σ H (fun vs H1 => Go Q vs H1) := ⟨e, fr, F, R, h.imp fun ds s1 F1 H1 R1 _ z vs ra => pay R1 ra z⟩
    exact PySem.W.callWith_K (h₀ := X.base) I.ok.mod.kin T.kept (thn (ha.run pos pins s σ H _ I tr) fun us s1 ⟨vs, H1, I1, rv, go⟩ => ⟨I1.kIn, fin I1 rv go⟩) (star1 (hst a (.head _))) (no_stars fun b z => hst b (.tail _ z))
/-- .. as values: what is wanted of the arguments -/
def GoV (K : PySem.W.Frag) (c : Tx) (n : Nat) (fs : List Tx) (Q : VK) (vs : List V) (H : Hp) : Prop := 2 ≤ n ∧ vs.length = (fs.map tx).length ∧ (fs.map tx = [] → ∀ a, H a = none → Q (.ref a) (upd H a (exq a (adr K c) none))) ∧
    (fs.map tx ≠ [] → ∀ a dx, H a = none → H dx = none → dx ≠ a → Q (.ref a) (upd (upd H dx (.xd (flds (fs.map tx) vs))) a (exq a (adr K c) (some dx))))
theorem go_of {K : PySem.W.Frag} {c : Tx} {n : Nat} {fs : List Tx} {g : Wi} {init : Tx → List D → Option (List (Tx × D))} (hi : ∀ ds gs, init c ds = some gs → 2 ≤ n ∧ ds.length = fs.length ∧ gs = (fs.zip ds).reverse) {e : En} {s : Fr} {σ : Sg} {F H : Hp} {ds : List D} {vs : List V} {Q : VK}
    (R : Rl K e s σ F H) (ra : RpA K F vs ds) (z : Po K g e σ F (Vo K e σ Q) (Rs.of ((init c ds).map fun gs => ER.val (.exc c gs)) s)) : GoV K c n fs Q vs H := by
  cases hq : init c ds with
  | none => rw [hq] at z; exact z.elim
  | some gs =>
    rw [hq] at z
    obtain ⟨h2, hl, rfl⟩ := hi _ _ hq
    refine ⟨h2, by rw [ra.1, hl, List.length_map], fun y a na => ?_, fun y a dx na nd ne => ?_⟩
    · obtain rfl : fs = [] := by simpa using y
      obtain ⟨R2, sm⟩ := R.iced (o := exq a (adr K c) none) na
      exact z _ _ R2 sm (.ref a) (.ex0 upd_same)
    · obtain ⟨R1, sm1⟩ := R.iced (o := .xd (flds (fs.map tx) vs)) nd
      obtain ⟨R2, sm2⟩ := R1.iced (o := exq a (adr K c) (some dx)) (by rw [upd_ne (Ne.symm ne)]; exact na)
      obtain ⟨k1, k2, k3⟩ := flds_rel hl.symm ra
      refine z _ _ R2 (sm1.trans sm2) (.ref a) (rp_exc (H := upd H dx (.xd (flds (fs.map tx) vs))) (R1.nw (by rw [upd_ne (Ne.symm ne)]; exact na)).f (Or.inr ⟨dx, _, rfl, upd_same, upd_same, ?_, ?_⟩))
      · unfold flds
        rw [List.map_reverse, List.map_reverse, k1]
      · unfold flds
        rw [List.map_reverse, List.map_reverse, k2, k3]
        exact (ra.mono sm1).rev
/-- the names in the parameters' order -/
def BindsK (fd : FuncData) (fs : List Str) : Prop := ∀ (s : Shared) (a : Value) (us : List Value), us.length = fs.length → BindsTo s fd ⟨[a], fs.zip us⟩ ((("self" : Str) :: fs).zip (a :: us))
theorem mkv_flds {P : Program} {w : World} {K : PySem.W.Frag} {mg : Str → Option Value} {base : Heap} {fI C : Addr} {fd : FuncData} {n : Nat} {x : Str} {c : Tx} {fs : List Tx} {kn : List (Str × List Str)} {init : Tx → List D → Option (List (Tx × D))} {B newId initId : String} {bmB : List Value}
    (FB : ExcBaseFacts B newId initId bmB) (hC : adr K c = C) (T : XB K C newId bmB) (iC : PySem.W.findIn K (.ref C) "__init__" = some (some (.ref fI))) (tI : PySem.W.typeIn K (.ref fI) = some (.type "function"))
    (F1 : FnOk P w K mg base CX0 1 fI fd ("self" :: fs.map tx) (spI C (fs.map tx))) (hb : Binds K fd ("self" :: fs.map tx) []) (hbK : ∀ k, (x, k) ∈ kn → k = fs.map tx ∧ BindsK fd (fs.map tx)) (few : fs.length ≤ 100) (hm : mg x = some (.ref C)) (hi : ∀ ds gs, init c ds = some gs → 2 ≤ n ∧ ds.length = fs.length ∧ gs = (fs.zip ds).reverse) : MkV P w K mg base kn init n x c := by
  constructor
  · intro X g wd es as q pos h1 h2 h3 h4 h5 h6 hr hg hdb ha hl hst
    subst h1 h2 h3 h4 h5 h6 hC
    have fin : ∀ {pins : List (Addr × Obj)} {σ : L2.St} {H : Hp} {s : Shared} {vs : List V} {us : List Value} {Q : VK}, Inv X pins σ H s → Vals vs us → GoV X.K c n fs Q vs H → wpAny (model X.prog X.w) X.A (call (.ref (adr X.K c)) us) (EP X pins σ Q) X.xe s :=
      fun I rv ⟨h2, l, g0, g1⟩ => thn (made0 FB T iC tI F1 hb (by simpa using few) (hr.mono h2) I rv l) fun u s' ⟨a, eu, m⟩ => eu ▸ newV m g0 g1
    refine PE.mk fun pins s σ H Q I h => ?_
    obtain ⟨e, fr, F, R, h⟩ := h
    unfold ev at h
    refine wpAny_Call_Name_kw (args := as) (ld_glob (pos := q) I hg hm ?_ hdb)
    match as, ha, hl, hst with
    | [], _, hl, _ =>
      cases es with
      | cons _ _ => simp [IEs.len] at hl
      | nil =>
        unfold evF at h
        exact PySem.W.callWith_K0 I.kIn T.kept (fin I .nil (go_of hi R .nil h))
    | a :: as, ha, _, hst =>
      have tr : tF X.K g wd es σ H (fun vs H1 => GoV X.K c n fs Q vs H1) := ⟨e, fr, F, R, h.bind.imp fun ds s1 F1 H1 R1 _ z vs ra => go_of hi R1 ra z⟩
      exact PySem.W.callWith_K (h₀ := X.base) I.ok.mod.kin T.kept (thn (ha.run pos pins s σ H _ I tr) fun us s1 ⟨vs, H1, I1, rv, go⟩ => ⟨I1.kIn, fin I1 rv go⟩) (star1 (hst a (.head _))) (no_stars fun b z => hst b (.tail _ z))
  · intro X g wd es ks q pos h1 h2 h3 h4 h5 h6 hr hg hdb pk hks hn
    subst h1 h2 h3 h4 h5 h6 hC
    obtain ⟨en, bK⟩ := hbK _ hn
    refine PE.mk fun pins s σ H Q I h => ?_
    obtain ⟨e, fr, F, R, h⟩ := h
    unfold ev at h
    have tr : tF X.K g wd es σ H (fun vs H1 => GoV X.K c n fs Q vs H1) := ⟨e, fr, F, R, h.bind.imp fun ds s1 F1 H1 R1 _ z vs ra => go_of hi R1 ra z⟩
    obtain ⟨k1, k2, k3⟩ := kw_all (env := X.env) (pos := pos) hks
    refine wpAny_Call_Name_kw (args := []) (ld_glob (pos := q) I hg hm ?_ hdb)
    refine PySem.W.callWith_KW0 (h₀ := X.base) I.ok.mod.kin T.kept k1 (thn (pk.run pos pins s σ H _ I tr) fun ws s1 ⟨vs, H1, I1, rv, h2, l, g0, g1⟩ => ⟨I1.kIn, ?_⟩) (by rw [k3]; rfl)
    rw [k2, en]
    exact thn (made0K FB T iC tI F1 bK (hr.mono h2) I1 rv l) fun u s' ⟨a, eu, m⟩ => eu ▸ newV m g0 g1
theorem mk_both {P : Program} {w : World} {K : PySem.W.Frag} {mg : Str → Option Value} {base : Heap} {fI C : Addr} {fd : FuncData} {n : Nat} {x : Str} {c : Tx} {fs : List Tx} {kn : List (Str × List Str)} {init : Tx → List D → Option (List (Tx × D))} {B newId initId : String} {bmB : List Value}
    (FB : ExcBaseFacts B newId initId bmB) (hC : adr K c = C) (T : XB K C newId bmB) (iC : PySem.W.findIn K (.ref C) "__init__" = some (some (.ref fI))) (tI : PySem.W.typeIn K (.ref fI) = some (.type "function"))
    (F1 : FnOk P w K mg base CX0 1 fI fd ("self" :: fs.map tx) (spI C (fs.map tx))) (hb : Binds K fd ("self" :: fs.map tx) []) (hbK : ∀ k, (x, k) ∈ kn → k = fs.map tx ∧ BindsK fd (fs.map tx)) (few : fs.length ≤ 100) (hm : mg x = some (.ref C)) (hi : ∀ ds gs, init c ds = some gs → 2 ≤ n ∧ ds.length = fs.length ∧ gs = (fs.zip ds).reverse) : MkOk P w K mg base init n x c ∧ MkV P w K mg base kn init n x c := ⟨mk_flds FB hC T iC tI F1 hb few hm hi, mkv_flds FB hC T iC tI F1 hb hbK few hm hi⟩
end Pi
set_option maxRecDepth 100000
set_option maxHeartbeats 3900000
namespace Pi
open PySem PySem.Spec L2 PyProof.Rows
/-! ### for the static facts -/
inductive AllP (K : PySem.W.Frag) (fd : FuncData) (ps : List Str) (dfs : List Value) (f : Nat) : List (Nat × Nat × List Str × List Nat) → Prop
  | nil : AllP K fd ps dfs f []
  | cons {q : Nat × Nat × List Str × List Nat} {l : List (Nat × Nat × List Str × List Nat)} (h : q.1 = f → BindOk K fd ps dfs q.2.1 q.2.2.1 q.2.2.2) (r : AllP K fd ps dfs f l) : AllP K fd ps dfs f (q :: l)
theorem bd_all {K : PySem.W.Frag} {fd : FuncData} {ps : List Str} {dfs : List Value} {f m : Nat} {ks : List Str} {ix : List Nat} {l : List (Nat × Nat × List Str × List Nat)} (hm : (f, m, ks, ix) ∈ l) (h : AllP K fd ps dfs f l) : BindOk K fd ps dfs m ks ix := by
  induction h with
  | nil => cases hm
  | cons h r ih =>
    rcases mem_or hm with e | e
    · subst e
      exact h rfl
    · exact ih e
theorem cls_mem {l : List ((Tx × Cl) × Bool)} {c : Tx} {k : Cl} {b : Bool} (h : (l.find? fun e => decide (e.1 = (c, k))).map (·.2) = some b) : ((c, k), b) ∈ l := by
  cases q : l.find? fun e => decide (e.1 = (c, k)) with
  | none => rw [q] at h; cases h
  | some e =>
    rw [q] at h
    have h1 := List.find?_some q
    have h2 := List.mem_of_find?_eq_some q
    obtain ⟨e1, e2⟩ := e
    have h1 : e1 = (c, k) := of_decide_eq_true h1
    cases h
    subst h1
    exact h2
theorem kit_ref {K : PySem.W.Frag} {C D : Addr} {b : Bool} (h1 : PySem.W.subIn K (.ref D) (.type "BaseException") = some true) (h2 : PySem.W.isClsIn K D = true) (h3 : PySem.W.typeIn K (.ref D) = some (.type "type")) (h4 : PySem.W.subIn K (.ref C) (.ref D) = some b) (h5 : b = true ∨ C ≠ D) :
    PySem.W.kitOne K (.ref C) (.ref D) = some b ∧ PySem.W.exmOne K (.ref C) (.ref D) = some b := by
  have e1 : (PySem.W.subIn K (.ref D) (.type "BaseException") == some true) = true := by rw [h1]; rfl
  have h2' : (PySem.W.clsIn K D).isSome = true := h2
  have e2 : ((PySem.W.clsIn K D).isSome && PySem.W.typeIn K (.ref D) == some (.type "type")) = true := by rw [h2', h3]; rfl
  have k : PySem.W.kitCls K (.ref C) (.ref D) = some b := by
    show (if ((PySem.W.clsIn K D).isSome && PySem.W.typeIn K (.ref D) == some (.type "type")) = true then PySem.W.subIn K (.ref C) (.ref D) else none) = some b
    rw [if_pos e2]
    exact h4
  constructor
  · unfold PySem.W.kitOne
    split
    · rename_i q
      rcases h5 with rfl | h5
      · rfl
      · exact absurd (Value.ref.inj (beq_iff_eq.mp q)) h5
    · exact k
  · unfold PySem.W.exmOne
    rw [if_pos e1]
    exact k
theorem kit_ty {K : PySem.W.Frag} {C : Addr} {t : String} {b : Bool} (h1 : PySem.W.subIn K (.type t) (.type "BaseException") = some true) (h2 : PySem.W.kitMeta t = true) (h4 : PySem.W.subIn K (.ref C) (.type t) = some b) :
    PySem.W.kitOne K (.ref C) (.type t) = some b ∧ PySem.W.exmOne K (.ref C) (.type t) = some b := by
  have e1 : (PySem.W.subIn K (.type t) (.type "BaseException") == some true) = true := by rw [h1]; rfl
  have k : PySem.W.kitCls K (.ref C) (.type t) = some b := by
    show (if PySem.W.kitMeta t = true then PySem.W.subIn K (.ref C) (.type t) else none) = some b
    rw [if_pos h2]
    exact h4
  constructor
  · unfold PySem.W.kitOne
    rw [if_neg (by simp)]
    exact k
  · unfold PySem.W.exmOne
    rw [if_pos e1]
    exact k
/-- where the first row of an __init__ stands -/
def posOf : List Stmt → Fin 6 → Pos
  | .Expr (.Call (.Attribute (.Name _ p0) _ p1) [.Name _ p2, .Constant _ _ p3] _ p4) p5 :: _ => fun i => [p0, p1, p2, p3, p4, p5].getD i ⟨0, 0, 0, 0⟩
  | _ => fun _ => ⟨0, 0, 0, 0⟩
theorem bas_of {X : Cx} {K : PySem.W.Frag} {mg : Str → Option Value} {sc : Scope} {nm : Str} {initId : String} {D : Addr} (hK : X.K = K) (hM : X.mg = mg) (hS : X.env.scope = sc) (hg : sc.names.lookup nm = some .globalImplicit) (hm : mg nm = some (.ref D)) (hd : (nm == ("__debug__" : Str)) = false)
    (sg : PySem.W.specialIn K (.ref D) "__getattribute__" = some (some (.builtin "type.__getattribute__"))) (rd : PySem.W.readsIn K D (.type "type") = true) (vV : PySem.W.findCls K (.ref D) (.type "type") "__init__" = some (.val (.builtin initId))) (hh : PySem.W.handedIn (.builtin initId) = true) : Bas X nm initId := by
  subst hK hM hS
  exact bas_own hg hm hd sg rd vV hh
theorem bas_ofB {X : Cx} {K : PySem.W.Frag} {mg : Str → Option Value} {sc : Scope} {B initId : String} (hK : X.K = K) (hM : X.mg = mg) (hS : X.env.scope = sc) (hg : sc.names.lookup (B : Str) = some .globalImplicit) (hm : mg B = none) (hv : bootBuiltins B = some (.type B)) (hn : (B : Str) ≠ "__name__") (hd : ((B : Str) == ("__debug__" : Str)) = false)
    (ht : typeOf (.type B) = pure (.type "type")) (hst : Manifest.isStub B = false) (vV : PySem.W.findCls K (.type B) (.type "type") "__init__" = some (.val (.builtin initId))) (hh : PySem.W.handedIn (.builtin initId) = true) : Bas X B initId := by
  subst hK hM hS
  exact bas_blt hg hm hv hn hd ht hst vV hh
theorem taker_of {K : PySem.W.Frag} {C : Addr} {f : Str} (h : PySem.W.findIn K (.ref C) f = some none) : PySem.W.takerIn K C f = some none := by
  unfold PySem.W.takerIn
  rw [h]
  rfl
/-! what stands where, read off the written part -/
def nmAt (K : PySem.W.Frag) (x : Str) : Addr := match PySem.W.nsIn K mainGlobals x with
  | some (some (.ref a)) => a
  | _ => 0
def vlAt (K : PySem.W.Frag) (x : Str) : Value := match PySem.W.nsIn K mainGlobals x with
  | some (some v) => v
  | _ => .none
def tkAt (K : PySem.W.Frag) (x : Str) : Tok := match vlAt K x with
  | .str _ t => t
  | .int _ t => t
  | _ => default
def obAt (K : PySem.W.Frag) (a : Addr) : Obj := (K.lookup a).getD default
def fdAt (K : PySem.W.Frag) (a : Addr) : FuncData := match (obAt K a).data with
  | .func f => f
  | _ => default
def cdAt (K : PySem.W.Frag) (a : Addr) : ClassData := match (obAt K a).data with
  | .cls c => c
  | _ => default
def slAt (K : PySem.W.Frag) (a : Addr) (i : Nat) : Option Value := (obAt K a).slots.toList.getD i none
def inAt (K : PySem.W.Frag) (a : Addr) : Addr := match PySem.W.findIn K (.ref a) "__init__" with
  | some (some (.ref f)) => f
  | _ => 0
/-! facts of many classes at once -/
/-- which classes a class hangs on -/
def clB (K : PySem.W.Frag) (e : (Tx × Cl) × Bool) : Bool := (PySem.W.subIn K (.ref (adr K e.1.1)) (clU K e.1.2) == some e.2) && (e.2 || (match e.1.2 with | .own c => !(adr K e.1.1 == adr K c) | _ => true))
/-- a class that is asked for -/
def askB (K : PySem.W.Frag) : Cl → Bool
  | .own c => (PySem.W.subIn K (.ref (adr K c)) (.type "BaseException") == some true) && PySem.W.isClsIn K (adr K c) && (PySem.W.typeIn K (.ref (adr K c)) == some (.type "type"))
  | .ve => (PySem.W.subIn K (.type "ValueError") (.type "BaseException") == some true) && PySem.W.kitMeta "ValueError"
  | .le => (PySem.W.subIn K (.type "LookupError") (.type "BaseException") == some true) && PySem.W.kitMeta "LookupError"
  | .re => (PySem.W.subIn K (.type "RuntimeError") (.type "BaseException") == some true) && PySem.W.kitMeta "RuntimeError"
  | .ae => (PySem.W.subIn K (.type "ArithmeticError") (.type "BaseException") == some true) && PySem.W.kitMeta "ArithmeticError"
  | _ => false
/-- a class that errors are made of -/
def errB (K : PySem.W.Frag) (fld : List Str) (c : Tx) : Bool := (PySem.W.findIn K (.ref (adr K c)) "__getattribute__" == some (some (.builtin "BaseException.__getattribute__"))) && (PySem.W.findIn K (.ref (adr K c)) "__getattr__" == some none) &&
  (PySem.W.subIn K (.ref (adr K c)) (.type "BaseException") == some true) && PySem.W.hasDictIn K (adr K c) && (PySem.W.findIn K (.ref (adr K c)) "__class__" == some (some (.builtin "object.__class__"))) && (PySem.W.mroIn K (adr K c) (.type "object") == some true) &&
  (PySem.W.clsIn K (adr K c)).isSome && fld.all fun f => PySem.W.findIn K (.ref (adr K c)) f == some none
theorem err_of {K : PySem.W.Frag} {fld : List Str} {cs : List Tx} (h : cs.all (errB K fld) = true) (s0 : PySem.W.specialIn K (.builtin "object.__class__") "__get__" = some (some (.builtin "getset_descriptor.__get__"))) (t0 : PySem.W.takesIn K (.builtin "object.__class__") = some true) {c : Tx} (m : c ∈ cs) : XcOk K (adr K c) fld := by
  have z := List.all_eq_true.mp h c m
  unfold errB at z
  simp only [and_iff2, beq_iff_eq, List.all_eq_true] at z
  obtain ⟨⟨⟨⟨⟨⟨⟨z1, z2⟩, z3⟩, z4⟩, z5⟩, z6⟩, z7⟩, z8⟩ := z
  exact ⟨⟨z1, z2, z3, z4, z5, s0, t0, z6⟩, z7, z8⟩
theorem cls_of {K : PySem.W.Frag} {l : List ((Tx × Cl) × Bool)} {ks : List Cl} (h1 : l.all (clB K) = true) (h2 : ks.all (askB K) = true) {c : Tx} {k : Cl} {b : Bool} (m : ((c, k), b) ∈ l) (mk : k ∈ ks) :
    PySem.W.kitOne K (.ref (adr K c)) (clU K k) = some b ∧ PySem.W.exmOne K (.ref (adr K c)) (clU K k) = some b := by
  have z1 := List.all_eq_true.mp h1 _ m
  have z2 := List.all_eq_true.mp h2 _ mk
  unfold clB at z1
  simp only [and_iff2, beq_iff_eq, Bool.or_eq_true] at z1
  obtain ⟨z1, z3⟩ := z1
  cases k with
  | own d =>
    simp only [askB, and_iff2, beq_iff_eq] at z2
    exact kit_ref z2.1.1 z2.1.2 z2.2 z1 (z3.imp id fun z => by simpa using z)
  | ve => simp only [askB, and_iff2, beq_iff_eq] at z2; exact kit_ty z2.1 z2.2 z1
  | le => simp only [askB, and_iff2, beq_iff_eq] at z2; exact kit_ty z2.1 z2.2 z1
  | re => simp only [askB, and_iff2, beq_iff_eq] at z2; exact kit_ty z2.1 z2.2 z1
  | ae => simp only [askB, and_iff2, beq_iff_eq] at z2; exact kit_ty z2.1 z2.2 z1
  | _ => cases z2
/-- the whole table, row by row -/
def clAll (rs : List (Tx × List Cl)) (ks : List Cl) : List ((Tx × Cl) × Bool) := rs.flatMap fun r => ks.map fun k => ((r.1, k), decide (k ∈ r.2))
theorem clOf_mem {rs : List (Tx × List Cl)} {ks : List Cl} {c : Tx} {k : Cl} {b : Bool} (h : clOf rs ks c k = some b) : ((c, k), b) ∈ clAll rs ks := by
  unfold clOf at h
  split at h
  · rename_i r q
    split at h
    · rename_i m
      cases h
      have z := List.find?_some q
      have e : r.1 = c := of_decide_eq_true z
      subst e
      exact List.mem_flatMap.mpr ⟨r, List.mem_of_find?_eq_some q, List.mem_map.mpr ⟨k, m, rfl⟩⟩
    · cases h
  · cases h
theorem clAll_tab {rs : List (Tx × List Cl)} {ks : List Cl} {cs : List Tx} (h : (rs.all fun r => decide (r.1 ∈ cs)) = true) {c : Tx} {k : Cl} {b : Bool} (m : ((c, k), b) ∈ clAll rs ks) : c ∈ cs ∧ k ∈ ks := by
  obtain ⟨r, h1, h2⟩ := List.mem_flatMap.mp m
  obtain ⟨k', h3, h4⟩ := List.mem_map.mp h2
  cases h4
  exact ⟨of_decide_eq_true (List.all_eq_true.mp h r h1), h3⟩
/-- the names of the classes that are asked for -/
def xclB (K : PySem.W.Frag) (e : Str × Cl) : Bool := match e.2 with
  | .own c => PySem.W.nsIn K mainGlobals e.1 == some (some (.ref (adr K c)))
  | .ve => decide (e.1 = ("ValueError" : Str)) && PySem.W.nsIn K mainGlobals e.1 == some none
  | .le => decide (e.1 = ("LookupError" : Str)) && PySem.W.nsIn K mainGlobals e.1 == some none
  | .re => decide (e.1 = ("RuntimeError" : Str)) && PySem.W.nsIn K mainGlobals e.1 == some none
  | .ae => decide (e.1 = ("ArithmeticError" : Str)) && PySem.W.nsIn K mainGlobals e.1 == some none
  | _ => false
theorem xcl_of {K : PySem.W.Frag} {h : Heap} {mg : Str → Option Value} (X : K.In h) (G : h.Ns mainGlobals mg) {l : List (Str × Cl)} (a : l.all (xclB K) = true) (x : Str) (k : Cl) (m : (x, k) ∈ l) :
    (∃ c, k = .own c ∧ mg x = some (.ref (adr K c))) ∨ (mg x = none ∧ ∃ t, clV K k = .ty t ∧ clU K k = .type t ∧ x = (t : Str) ∧ bootBuiltins x = some (.type t) ∧ x ≠ "__name__") := by
  have z := List.all_eq_true.mp a _ m
  unfold xclB at z
  cases k with
  | own c => exact Or.inl ⟨c, rfl, PySem.W.mg_of X G (beq_iff_eq.mp z)⟩
  | ve =>
    simp only [and_iff2, dec_iff, beq_iff_eq] at z
    obtain ⟨rfl, z⟩ := z
    exact Or.inr ⟨PySem.W.mg_none_of X G z, "ValueError", rfl, rfl, rfl, by decide +kernel, by decide⟩
  | le =>
    simp only [and_iff2, dec_iff, beq_iff_eq] at z
    obtain ⟨rfl, z⟩ := z
    exact Or.inr ⟨PySem.W.mg_none_of X G z, "LookupError", rfl, rfl, rfl, by decide +kernel, by decide⟩
  | re =>
    simp only [and_iff2, dec_iff, beq_iff_eq] at z
    obtain ⟨rfl, z⟩ := z
    exact Or.inr ⟨PySem.W.mg_none_of X G z, "RuntimeError", rfl, rfl, rfl, by decide +kernel, by decide⟩
  | ae =>
    simp only [and_iff2, dec_iff, beq_iff_eq] at z
    obtain ⟨rfl, z⟩ := z
    exact Or.inr ⟨PySem.W.mg_none_of X G z, "ArithmeticError", rfl, rfl, rfl, by decide +kernel, by decide⟩
  | _ => cases z
end Pi
set_option maxRecDepth 100000
set_option maxHeartbeats 3900000
namespace Pi
open PySem PySem.Spec L2 PyProof.Rows
/-! ### the head by facts: what the top has left, told by names, looked at in the kernel's run of the top -/
/-- a def of the module -/
def dfB (K : PySem.W.Frag) (x : Str) : Bool := (PySem.W.nsIn K mainGlobals x == some (some (.ref (He.ga K x)))) && PySem.W.keepIn K (.ref (He.ga K x)) && (match K.lookup (He.ga K x) with
  | some o => (match o.data with | .func fd => PySem.W.codeIn K fd.code x | _ => false)
  | none => false)
abbrev dfV (x qual : Str) (st : Stmt) : He.FnV := some (x, qual, defArgs st, .stmts (defBody st), defScope st, mainGlobals, [], .none, builtinsNs)
/-- a constant of the module -/
def gkB (K : PySem.W.Frag) (e : Str × D) : Bool := match PySem.W.nsIn K mainGlobals e.1, e.2 with
  | some (some (.str y _)), .str z => decide (y = txS z)
  | some (some (.int i _)), .int j => decide (i = j)
  | _, _ => false
/-- a class of errors -/
def cxB (K : PySem.W.Frag) (c : Str) : Bool := (PySem.W.nsIn K mainGlobals c == some (some (.ref (He.ga K c)))) && (PySem.W.subIn K (.ref (He.ga K c)) (.type "BaseException") == some true) && PySem.W.isClsIn K (He.ga K c) && (PySem.W.typeIn K (.ref (He.ga K c)) == some (.type "type"))
def frB (K : PySem.W.Frag) (x : Str) : Bool := PySem.W.nsIn K mainGlobals x == some none
/-- a class that errors are made of: the built-in class that it ends with, the base that its __init__ asks -/
structure MkI where
  c : Str
  qual : Str
  root : String
  newId : String
  initId : String
  base : Str
  baseT : String
  own : Bool
  st : Stmt
def tailOf (root : String) : List Value := [.type root, .type "Exception", .type "BaseException", .type "object"]
def sixB (newId : String) : List (Option Value) → Bool
  | [_, _, _, _, k, _] => k == some (.builtin newId)
  | _ => false
def mroB (C : Addr) (bmB : List Value) : List Value → Bool
  | c :: bm => (c == .ref C) && PySem.W.excTail bmB bm
  | _ => false
def clsdB (C : Addr) (bmB : List Value) : Data → Bool
  | .cls cd => mroB C bmB cd.mro && cd.hasDict && !cd.hasDel
  | _ => false
def shapeB (K : PySem.W.Frag) (C : Addr) (newId : String) (bmB : List Value) : Bool := match K.lookup C with
  | some o => (o.cls == .type "type") && clsdB C bmB o.data && sixB newId o.slots.toList
  | none => false
def valB (n : String) : Option PySem.W.CFound → Bool
  | some (.val (.builtin m)) => m == n
  | _ => false
def mkB (K : PySem.W.Frag) (i : MkI) : Bool := shapeB K (He.ga K i.c) i.newId (tailOf i.root) && PySem.W.keepIn K (.ref (He.ga K i.c)) && (PySem.W.findIn K (.ref (He.ga K i.c)) "__init__" == some (some (.ref (He.ma K (He.ga K i.c) "__init__")))) &&
  (PySem.W.typeIn K (.ref (He.ma K (He.ga K i.c) "__init__")) == some (.type "function")) && PySem.W.keepIn K (.ref (He.ma K (He.ga K i.c) "__init__")) && (PySem.W.findIn K (.ref (He.ga K i.c)) "__setattr__" == some (some (.builtin "object.__setattr__"))) &&
  (match K.lookup (He.ma K (He.ga K i.c) "__init__") with
  | some o => (match o.data with | .func fd => PySem.W.codeIn K fd.code i.qual | _ => false)
  | none => false)
/-- the base whose __init__ is asked -/
def bsB (K : PySem.W.Frag) (i : MkI) : Bool := if i.own then (PySem.W.specialIn K (.ref (He.ga K i.base)) "__getattribute__" == some (some (.builtin "type.__getattribute__"))) && PySem.W.readsIn K (He.ga K i.base) (.type "type") && valB i.initId (PySem.W.findCls K (.ref (He.ga K i.base)) (.type "type") "__init__")
  else valB i.initId (PySem.W.findCls K (.type i.baseT) (.type "type") "__init__")
section
variable {K : PySem.W.Frag}
theorem fn_of_obs {a : Addr} {o : Obj} {x qual : Str} {st : Stmt} (lk : K.lookup a = some o) {p : Str × Option Str} (at_ : He.fAd K p = a) (e : He.fnObs K p = dfV x qual st) (code : (match o.data with | .func fd => PySem.W.codeIn K fd.code qual | _ => false) = true) :
    ∃ (od an : Option Addr) (sl : Array (Option Value)) (oc kV dc pm cd ct : Value), K.lookup a = some ⟨oc, od, .func (PySem.W.fnOf x qual (defArgs st) (defBody st) (defScope st) .none kV dc pm an cd ct), sl⟩ ∧ PySem.W.codeIn K cd qual = true := by
  obtain ⟨oc, od, dt, sl⟩ := o
  unfold He.fnObs at e
  rw [at_, lk] at e
  cases dt with
  | func fd =>
    cases fd
    have e := Option.some.inj e
    cases e
    exact ⟨_, _, _, _, _, _, _, _, _, lk, code⟩
  | _ => cases e
theorem def_of {x : Str} {st : Stmt} (h : dfB K x = true) (e : He.fnObs K (x, none) = dfV x x st) : ∃ (f : Addr) (od an : Option Addr) (sl : Array (Option Value)) (oc kV dc pm cd ct : Value), PySem.W.nsIn K mainGlobals x = some (some (.ref f)) ∧
    K.lookup f = some ⟨oc, od, .func (PySem.W.fnOf x x (defArgs st) (defBody st) (defScope st) .none kV dc pm an cd ct), sl⟩ ∧ PySem.W.codeIn K cd x = true ∧ PySem.W.keepIn K (.ref f) = true := by
  unfold dfB at h
  simp only [and_iff2, beq_iff_eq] at h
  obtain ⟨⟨h1, h2⟩, h3⟩ := h
  cases lk : K.lookup (He.ga K x) with
  | none => rw [lk] at h3; cases h3
  | some o =>
    rw [lk] at h3
    obtain ⟨od, an, sl, oc, kV, dc, pm, cd, ct, z1, z2⟩ := fn_of_obs (p := (x, none)) lk rfl e h3
    exact ⟨_, od, an, sl, oc, kV, dc, pm, cd, ct, h1, z1, z2, h2⟩
theorem str_of {x z : Str} {y : Tx} (h : gkB K (x, .str y) = true) (e : txS y = z) : ∃ t : Tok, PySem.W.nsIn K mainGlobals x = some (some (.str z t)) := by
  unfold gkB at h
  cases q : PySem.W.nsIn K mainGlobals x with
  | none => rw [q] at h; cases h
  | some v =>
    rw [q] at h
    cases v with
    | none => cases h
    | some v =>
      cases v with
      | str w t => exact ⟨t, by rw [← e, ← of_decide_eq_true h]⟩
      | _ => cases h
theorem int_of {x : Str} {j : Int} (h : gkB K (x, .int j) = true) : ∃ t : Tok, PySem.W.nsIn K mainGlobals x = some (some (.int j t)) := by
  unfold gkB at h
  cases q : PySem.W.nsIn K mainGlobals x with
  | none => rw [q] at h; cases h
  | some v =>
    rw [q] at h
    cases v with
    | none => cases h
    | some v =>
      cases v with
      | int w t => exact ⟨t, by rw [← of_decide_eq_true h]⟩
      | _ => cases h
theorem cx_of {c : Str} (h : cxB K c = true) : ∃ A : Addr, A = He.ga K c ∧ PySem.W.nsIn K mainGlobals c = some (some (.ref A)) ∧ PySem.W.subIn K (.ref A) (.type "BaseException") = some true ∧ PySem.W.isClsIn K A = true ∧ PySem.W.typeIn K (.ref A) = some (.type "type") := by
  unfold cxB at h
  simp only [and_iff2, beq_iff_eq] at h
  exact ⟨_, rfl, h.1.1.1, h.1.1.2, h.1.2, h.2⟩
theorem six_of {newId : String} {l : List (Option Value)} (h : sixB newId l = true) : ∃ k0 k1 k2 k3 k5, l = [k0, k1, k2, k3, some (.builtin newId), k5] := by
  match l, h with
  | [k0, k1, k2, k3, k, k5], h => exact ⟨k0, k1, k2, k3, k5, by rw [beq_iff_eq.mp h]⟩
theorem shape_of {C : Addr} {newId : String} {bmB : List Value} (h : shapeB K C newId bmB = true) : ∃ nm q N bs bm sn sub ab col dd k0 k1 k2 k3 k5, K.lookup C = some (excClassObj nm q C N bs bm true sn sub ab col dd k0 k1 k2 k3 k5 newId) ∧ PySem.W.excTail bmB bm = true := by
  unfold shapeB at h
  cases lk : K.lookup C with
  | none => rw [lk] at h; cases h
  | some o =>
    rw [lk] at h
    obtain ⟨oc, dd, dt, sl⟩ := o
    simp only [and_iff2, beq_iff_eq] at h
    obtain ⟨⟨rfl, h2⟩, h3⟩ := h
    obtain ⟨k0, k1, k2, k3, k5, e⟩ := six_of h3
    obtain ⟨sl⟩ := sl
    have e : sl = _ := e
    subst e
    cases dt with
    | cls cd =>
      obtain ⟨n1, n2, n3, n4, n5, n6, n7, n8, n9, n10, n11⟩ := cd
      simp only [clsdB, and_iff2, Bool.not_eq_true'] at h2
      obtain ⟨⟨h4, rfl⟩, rfl⟩ := h2
      match n3, h4 with
      | c :: bm, h4 =>
        simp only [mroB, and_iff2, beq_iff_eq] at h4
        obtain ⟨rfl, h4⟩ := h4
        exact ⟨n1, n5, n4, n2, bm, n7, n8, n9, n10, dd, k0, k1, k2, k3, k5, rfl, h4⟩
    | _ => cases h2
theorem val_of {n : String} {o : Option PySem.W.CFound} (h : valB n o = true) : o = some (.val (.builtin n)) := by
  unfold valB at h
  split at h
  · rw [beq_iff_eq.mp h]
  · cases h
theorem mk_of {i : MkI} (h : mkB K i = true) (e : He.fnObs K (i.c, some "__init__") = dfV "__init__" i.qual i.st) : ∃ (f : Addr) (od an : Option Addr) (sl : Array (Option Value)) (oc kV dc pm cd ct : Value) (nm qn : Str) (N : Addr) (bs bm : List Value) (sn : List Str) (sub : List Value) (ab : Bool) (col : Option Bool) (dd : Option Addr) (m0 m1 m2 m3 m5 : Option Value),
    K.lookup (He.ga K i.c) = some (excClassObj nm qn (He.ga K i.c) N bs bm true sn sub ab col dd m0 m1 m2 m3 m5 i.newId) ∧ PySem.W.excTail (tailOf i.root) bm = true ∧ PySem.W.keepIn K (.ref (He.ga K i.c)) = true ∧ PySem.W.findIn K (.ref (He.ga K i.c)) "__init__" = some (some (.ref f)) ∧ PySem.W.typeIn K (.ref f) = some (.type "function") ∧
    K.lookup f = some ⟨oc, od, .func (PySem.W.fnOf "__init__" i.qual (defArgs i.st) (defBody i.st) (defScope i.st) .none kV dc pm an cd ct), sl⟩ ∧ PySem.W.codeIn K cd i.qual = true ∧ PySem.W.keepIn K (.ref f) = true ∧ PySem.W.findIn K (.ref (He.ga K i.c)) "__setattr__" = some (some (.builtin "object.__setattr__")) := by
  unfold mkB at h
  simp only [and_iff2, beq_iff_eq] at h
  have ⟨⟨⟨⟨⟨⟨h1, h2⟩, h3⟩, h4⟩, h5⟩, h6⟩, h7⟩ := h
  obtain ⟨nm, qn, N, bs, bm, sn, sub, ab, col, dd, m0, m1, m2, m3, m5, s1, s2⟩ := shape_of h1
  cases lk : K.lookup (He.ma K (He.ga K i.c) "__init__") with
  | none => rw [lk] at h7; cases h7
  | some o =>
    rw [lk] at h7
    obtain ⟨od, an, sl, oc, kV, dc, pm, cd, ct, z1, z2⟩ := fn_of_obs (p := (i.c, some "__init__")) lk rfl e h7
    exact ⟨_, od, an, sl, oc, kV, dc, pm, cd, ct, nm, qn, N, bs, bm, sn, sub, ab, col, dd, m0, m1, m2, m3, m5, s1, s2, h2, h3, h4, z1, z2, h5, h6⟩
theorem bs_own {i : MkI} (h : bsB K i = true) (o : i.own = true) : PySem.W.specialIn K (.ref (He.ga K i.base)) "__getattribute__" = some (some (.builtin "type.__getattribute__")) ∧ PySem.W.readsIn K (He.ga K i.base) (.type "type") = true ∧ PySem.W.findCls K (.ref (He.ga K i.base)) (.type "type") "__init__" = some (.val (.builtin i.initId)) := by
  unfold bsB at h
  rw [if_pos o] at h
  simp only [and_iff2, beq_iff_eq] at h
  exact ⟨h.1.1, h.1.2, val_of h.2⟩
theorem bs_blt {i : MkI} (h : bsB K i = true) (o : i.own = false) : PySem.W.findCls K (.type i.baseT) (.type "type") "__init__" = some (.val (.builtin i.initId)) := by
  unfold bsB at h
  rw [if_neg (by simp [o])] at h
  exact val_of h
end
/-! the Hook -/
/-- what the written part says -/
structure Says (fb : PySem.W.Frag → Bool) (ds : List (Str × Stmt)) (ms : List MkI) (K : PySem.W.Frag) : Prop where
  fb : fb K = true
  ds : ds.map (fun d => He.fnObs K (d.1, none)) = ds.map fun d => dfV d.1 d.1 d.2
  ms : ms.map (fun i => He.fnObs K (i.c, some "__init__")) = ms.map fun i => dfV "__init__" i.qual i.st
abbrev AlP : Type := Bool × List He.FnV × List He.FnV
def obP (fb : PySem.W.Frag → Bool) (ds : List (Str × Stmt)) (ms : List MkI) (K : PySem.W.Frag) : AlP := (fb K, ds.map (fun d => He.fnObs K (d.1, none)), ms.map fun i => He.fnObs K (i.c, some "__init__"))
def vlP (ds : List (Str × Stmt)) (ms : List MkI) : AlP := (true, ds.map (fun d => dfV d.1 d.1 d.2), ms.map fun i => dfV "__init__" i.qual i.st)
/-- what an object names, as far as it is looked at -/
def rfO (o : Obj) : List Addr := match o.data with
  | .cls cd => [cd.ns]
  | .func fd => He.refV fd.code ++ He.refV fd.defaults
  | .dict es _ => es.toList.flatMap fun e => He.refV e.val
  | .fields vs => vs.toList.flatMap He.refV
  | .seq vs _ => vs.toList.flatMap He.refV
  | _ => []
def rfG (g : Addr → Option Obj) (a : Addr) : List Addr := match g a with
  | some o => rfO o
  | none => []
/-- from the module's names on, level by level -/
def lvG (g : Addr → Option Obj) : Nat → List Addr → List Addr
  | 0, l => l
  | n + 1, l => l ++ lvG g n (l.flatMap (rfG g))
def ptG (n : Nat) (g : Addr → Option Obj) : PySem.W.Frag := He.frG g (cStatics :: lvG g n [mainGlobals])
def obG (n : Nat) (fb : PySem.W.Frag → Bool) (ds : List (Str × Stmt)) (ms : List MkI) (g : Addr → Option Obj) : AlP := obP fb ds ms (ptG n g)
theorem says_of {fb : PySem.W.Frag → Bool} {ds : List (Str × Stmt)} {ms : List MkI} {K : PySem.W.Frag} (h : obP fb ds ms K = vlP ds ms) : Says fb ds ms K := by
  have h1 := congrArg (·.1) h
  have h2 := congrArg (·.2.1) h
  have h3 := congrArg (·.2.2) h
  exact ⟨h1, h2, h3⟩
def hkP (n : Nat) (fb : PySem.W.Frag → Bool) (ds : List (Str × Stmt)) (ms : List MkI) : PySem.W.Hook where
  α := AlP
  obs s := obG n fb ds ms s.heap.get?
  val _ := vlP ds ms
  says _ h := ∃ K : PySem.W.Frag, K.In h ∧ Says fb ds ms K
  of _ _ e := ⟨_, He.frG_in, says_of e⟩
  keeps _ _ _ z k := z.imp fun K y => ⟨PySem.W.Frag.In.keeps y.1 k, y.2⟩
theorem obG_eq {n : Nat} {fb : PySem.W.Frag → Bool} {ds : List (Str × Stmt)} {ms : List MkI} (s : PySem.W.SharedT) : obG n fb ds ms (HandSHeadRun.getT s) = (hkP n fb ds ms).obs s.abs := by
  show obG n fb ds ms (HandSHeadRun.getT s) = obG n fb ds ms s.abs.heap.get?
  rw [show HandSHeadRun.getT s = s.abs.heap.get? from funext (HandSHeadRun.getT_eq s)]
theorem Says.def {fb : PySem.W.Frag → Bool} {ds : List (Str × Stmt)} {ms : List MkI} {K : PySem.W.Frag} (c : Says fb ds ms K) {i : Nat} {x : Str} {st : Stmt} (h : ds[i]? = some (x, st)) : He.fnObs K (x, none) = dfV x x st := by
  have z := congrArg (·[i]?) c.ds
  simpa [h] using z
theorem Says.mk' {fb : PySem.W.Frag → Bool} {ds : List (Str × Stmt)} {ms : List MkI} {K : PySem.W.Frag} (c : Says fb ds ms K) {j : Nat} {i : MkI} (h : ms[j]? = some i) : He.fnObs K (i.c, some "__init__") = dfV "__init__" i.qual i.st := by
  have z := congrArg (·[j]?) c.ms
  simpa [h] using z
/-- the run's equation, from parts of it -/
theorem run_parts {r : PySem.W.OpenRow} {q : Program} {n M : Nat} {f1 f2 f3 : PySem.W.Frag → Bool} {ds : List (Str × Stmt)} {ms : List MkI} {loose : List Str} {w : World}
    (ra : ∀ os : OsState, (HandSHeadRun.endF (HandSHeadRun.stepQ (HandSHeadRun.denQ HandSHeadRun.tabQ) r.prog w) M r.prog w os).map (fun s => (HandSHeadRun.looksF r.prog (PySem.W.boot_heap w.params) s.abs, HandSHeadRun.seenQ q loose (importedModules r.prog.main.body) (fun s => PySem.W.xlAt q [] s && PySem.W.recOk r.toRowW.records s) s.abs, obP f1 ds ms (ptG n (HandSHeadRun.getT s)))) = some (true, PySem.W.openGood q loose, vlP ds ms))
    (rb : ∀ os : OsState, (HandSHeadRun.endF (HandSHeadRun.stepQ (HandSHeadRun.denQ HandSHeadRun.tabQ) r.prog w) M r.prog w os).map (fun s => f2 (ptG n (HandSHeadRun.getT s))) = some true)
    (rc : ∀ os : OsState, (HandSHeadRun.endF (HandSHeadRun.stepQ (HandSHeadRun.denQ HandSHeadRun.tabQ) r.prog w) M r.prog w os).map (fun s => f3 (ptG n (HandSHeadRun.getT s))) = some true) :
    HandSHeadRun.RunEq r q (hkP n (fun K => f1 K && (f2 K && f3 K)) ds ms) (fun s => obG n (fun K => f1 K && (f2 K && f3 K)) ds ms (HandSHeadRun.getT s)) M loose w := by
  intro os
  obtain ⟨s, e, z1⟩ := Option.map_eq_some_iff.mp (ra os)
  obtain ⟨s2, e2, z2⟩ := Option.map_eq_some_iff.mp (rb os)
  obtain ⟨s3, e3, z3⟩ := Option.map_eq_some_iff.mp (rc os)
  obtain rfl := Option.some.inj (e.symm.trans e2)
  obtain rfl := Option.some.inj (e.symm.trans e3)
  rw [e]
  have y1 := congrArg (·.1) z1
  have y2 := congrArg (·.2.1) z1
  have y3 := congrArg (·.2.2.1) z1
  have y4 := congrArg (·.2.2.2.1) z1
  have y5 := congrArg (·.2.2.2.2) z1
  show some (_, _, (f1 (ptG n (HandSHeadRun.getT s)) && (f2 (ptG n (HandSHeadRun.getT s)) && f3 (ptG n (HandSHeadRun.getT s))), _, _)) = some (true, PySem.W.openGood q loose, true, _, _)
  have y3 : f1 (ptG n (HandSHeadRun.getT s)) = true := y3
  rw [y3, z2, z3]
  exact congrArg some (Prod.ext y1 (Prod.ext y2 (Prod.ext rfl (Prod.ext y4 y5))))
/-- the end of a law, over a head by facts -/
theorem walkH {l : PySem.W.OpenLaw} {m k f : Nat} {q : Program} {loose : List Str} {XP : (Str → Option Value) → Heap → Prop} {YP : World → Heap → Prop} {S : PySem.W.Frag → Prop} {d : DefRec} {x : Str} {p : Pg}
    (hn : l.most = some m) (hn2 : m ≤ sizeLine) (hdf : d.params.defaults = []) (hr : Room k callerA) (hY : ∀ (w : World) (h : Heap), YP w h → ∃ K : PySem.W.Frag, K.In h ∧ S K)
    (F : ∀ (w : World) (mg : Str → Option Value) (fa : Addr) (h : Heap) (K : PySem.W.Frag), K.In h → S K → h.Ns mainGlobals mg → mg d.name = some (.ref fa) → ∃ fd : FuncData, (∀ (s : Shared) (u : Value), BindsTo s fd ⟨[u], []⟩ [(x, u)]) ∧ ∀ base : Heap, K.In base → base.Ns mainGlobals mg → FnG l.prog w K mg base true k fa fd [x] (spF K (fun c => .ref (adr K c)) p k f))
    (hf : ∃ dd, p.fns[f]? = some dd ∧ dd.np = 1 ∧ dd.br = false) (law : ∀ ns : List Int, ns.length ≤ m → p.run k f [.scr (ns.map .int)] [] = .ok (.val (.bl true)) []) :
    LawW l q loose XP YP d := by
  refine Att.attach_call hn hdf fun w _ t mg _ fa _ _ _ _ a vs ns G Y _ _ _ named there allInts short nogens => ?_
  obtain ⟨K, inK, says⟩ := hY w _ Y
  obtain ⟨fd, binds, ok⟩ := F w mg fa _ K inK says G.T.g named
  refine law_callG inK G.T.g G.T.b G.T.builtins G.T.nolimit nogens there allInts (Nat.le_trans short hn2) hr ok binds fun H hS => ?_
  obtain ⟨dd, h1, h2, h3⟩ := hf
  have hbr : p.br f = false := by unfold Pg.br; rw [h1]; exact h3
  refine ⟨none, H, [.scr (ns.map .int)], [], Same.refl H, ?_, ⟨dd, h1, h2.symm⟩, ?_⟩
  · rw [hbr]
    refine ⟨rfl, .cons (.scr hS (by simp) fun i v y q1 q2 => ?_) .nil⟩
    rw [List.getElem?_map] at q1 q2
    cases hz : ns[i]? with
    | none => rw [hz] at q1; cases q1
    | some z =>
      rw [hz] at q1 q2
      cases q1; cases q2
      exact .int z
  · rw [law ns short]
    intro u H' F' _ _ rv
    cases rv
    rfl
end Pi
set_option maxRecDepth 100000
set_option maxHeartbeats 3900000
namespace Pi
open PySem (PyData Str)
/-! ### plain reckoning, for all laws -/
/-! comprehensions whose element does not change the frame -/
theorem set_same {α : Type} : ∀ (l : List α) (k : Nat) (x : α), l[k]? = some x → l.set k x = l
  | [], k, x, h => by simp at h
  | y :: l, 0, x, h => by
    replace h := Option.some.inj h
    simp [h]
  | y :: l, k + 1, x, h => by simp [set_same l k x (by simpa using h)]
theorem put_put (s : Fr) (k : Nat) (x y : Sl) : (s.put k x).put k y = s.put k y := by
  simp [Fr.put, List.set_set]
theorem wipe_one (s : Fr) (k : Nat) : s.wipe [k] = s.put k .un := rfl
theorem put_un {s : Fr} {k : Nat} (h : s.sl[k]? = some .un) : s.put k .un = s := by
  show (⟨s.sl.set k .un, s.cell⟩ : Fr) = s
  rw [set_same _ _ _ h]
/-- what is done with one item -/
def lcF (w : Wd) (e : IE) (tg : Tg) (cond : IO) : D → Fr → Rs (Option D) := fun x s2 => match tg.bind x (s2.wipe tg.slots) with
  | none => .stuck
  | some s3 => (evC w cond s3).bind fun t s4 => if t then (ev w e s4).bind fun y s5 => (y.fz s5).bind fun d s6 => .ok (some d) s6 else .ok none s4
/-- the items of a comprehension, one by one -/
theorem lc_go {w : Wd} {e : IE} {k : Nat} {s : Fr} {g : D → D} : ∀ {xs : List D} {z : Sl}, (∀ x ∈ xs, ∃ er, ev w e (s.put k (.val x)) = .ok er (s.put k (.val x)) ∧ er.fz (s.put k (.val x)) = .ok (g x) (s.put k (.val x))) →
    ∃ z', lcGo (lcF w e (.nm k) .no) xs (s.put k z) = .ok (xs.map g) (s.put k z')
  | [], z, _ => ⟨z, rfl⟩
  | x :: xs, z, h => by
    obtain ⟨er, h1, h2⟩ := h x (.head _)
    obtain ⟨z', h3⟩ := lc_go (xs := xs) (z := .val x) fun y hy => h y (.tail _ hy)
    refine ⟨z', ?_⟩
    have e1 : lcF w e (.nm k) .no x (s.put k z) = .ok (some (g x)) (s.put k (.val x)) := by
      simp only [lcF, Tg.bind, Tg.slots, wipe_one, put_put, evC, Rs.bind, if_true, h1, h2]
    simp only [lcGo, e1, h3, List.map_cons]
theorem ev_lcm {w : Wd} {e : IE} {k : Nat} {it : IT} {s : Fr} {xs : List D} (g : D → D) (hI : evI w it s = .ok xs s) (hun : s.sl[k]? = some .un)
    (he : ∀ x ∈ xs, ∃ er, ev w e (s.put k (.val x)) = .ok er (s.put k (.val x)) ∧ er.fz (s.put k (.val x)) = .ok (g x) (s.put k (.val x))) (hl : xs.length ≤ lim) : ev w (.lcm e (.nm k) it .no) s = .ok (.fresh (xs.map g)) s := by
  obtain ⟨z', h⟩ := lc_go (w := w) (e := e) (k := k) (s := s) (g := g) (xs := xs) (z := .un) he
  rw [put_un hun] at h
  unfold ev
  rw [hI]
  show (match lcGo (lcF w e (.nm k) .no) xs s with | .ok ds s2 => _ | _ => _) = _
  rw [h]
  have e2 : ((s.put k z').wipe (Tg.nm k).slots).back s (Tg.nm k).slots = s := by
    have h1 : (s.sl.getD k .un).left = .un := by simp [List.getD, hun, Sl.left]
    show (⟨(((s.sl.set k z').set k .un).set k (s.sl.getD k .un).left), s.cell⟩ : Fr) = s
    rw [h1, List.set_set, List.set_set, set_same _ _ _ hun]
  simp only [List.length_map, hl, if_true, e2]
/-! ### texts of data -/
def okC (x : Str) : Prop := ∀ c ∈ x.cps.toList, c < 55296
theorem ok_app {x y : Str} (h1 : okC x) (h2 : okC y) : okC (x ++ y) := by
  intro c hc
  have hc : c ∈ (x.cps ++ y.cps).toList := hc
  rw [Array.toList_append, List.mem_append] at hc
  exact hc.elim (h1 c) (h2 c)
theorem len_app (x y : Str) : (x ++ y).length = x.length + y.length := PySem.strLen_append x y
theorem join_ok {s : Str} (hs : okC s) : ∀ {ts : List Str}, (∀ t ∈ ts, okC t) → okC (Str.join s ts)
  | [], _ => by intro c hc; exact absurd hc (by simp [Str.join, Str.empty])
  | [x], h => h x (.head _)
  | x :: y :: r, h => by
    show okC (x ++ s ++ Str.join s (y :: r))
    exact ok_app (ok_app (h x (.head _)) hs) (join_ok hs fun t ht => h t (.tail _ ht))
theorem join_len {s : Str} {m : Nat} : ∀ {ts : List Str}, (∀ t ∈ ts, t.length ≤ m) → (Str.join s ts).length ≤ ts.length * (m + s.length)
  | [], _ => by simp [Str.join, Str.empty, Str.length]
  | [x], h => by
    have := h x (.head _)
    show x.length ≤ _
    rw [List.length_singleton]
    omega
  | x :: y :: r, h => by
    have h1 := h x (.head _)
    have h2 := join_len (s := s) (ts := y :: r) fun t ht => h t (.tail _ ht)
    show (x ++ s ++ Str.join s (y :: r)).length ≤ _
    rw [len_app, len_app]
    have e : (x :: y :: r).length * (m + s.length) = (y :: r).length * (m + s.length) + (m + s.length) := by rw [List.length_cons, Nat.add_mul, Nat.one_mul]
    omega
/-- shown within m signs -/
structure RO (m k : Nat) (p : PyData) : Prop where
  sh : p.showable = true
  dp : p.depth ≤ k
  ln : p.shown.length ≤ m
  ok : okC p.shown
def roB (m k : Nat) (p : PyData) : Bool := p.showable && decide (p.depth ≤ k) && decide (p.shown.length ≤ m) && p.shown.cps.toList.all fun c => decide (c < 55296)
theorem ro_of {m k : Nat} {p : PyData} (h : roB m k p = true) : RO m k p := by
  unfold roB at h
  simp only [Bool.and_eq_true, decide_eq_true_eq, List.all_eq_true] at h
  exact ⟨h.1.1.1, h.1.1.2, h.1.2, h.2⟩
theorem ro_all {m k : Nat} : ∀ {ps : List PyData}, (∀ p ∈ ps, RO m k p) → PyData.showableAll ps = true ∧ PyData.depthAll ps ≤ k ∧ (∀ t ∈ PyData.shownAll ps, t.length ≤ m ∧ okC t) ∧ (PyData.shownAll ps).length = ps.length
  | [], _ => ⟨by simp [PyData.showableAll], by simp [PyData.depthAll], by simp [PyData.shownAll], by simp [PyData.shownAll]⟩
  | p :: ps, h => by
    obtain ⟨h1, h2, h3, h4⟩ := ro_all (ps := ps) fun q hq => h q (.tail _ hq)
    have hp := h p (.head _)
    refine ⟨by simp [PyData.showableAll, hp.sh, h1], by simp only [PyData.depthAll]; exact Nat.max_le.mpr ⟨hp.dp, h2⟩, fun t ht => ?_, by simp [PyData.shownAll, h4]⟩
    simp only [PyData.shownAll, List.mem_cons] at ht
    rcases ht with rfl | ht
    · exact ⟨hp.ln, hp.ok⟩
    · exact h3 t ht
theorem ro_tup {m k L : Nat} {ps : List PyData} (h : ∀ p ∈ ps, RO m k p) (l : ps.length ≤ L) : RO (L * (m + 2) + 3) (k + 1) (.tuple ps) := by
  obtain ⟨h1, h2, h3, h4⟩ := ro_all h
  refine ⟨by simpa [PyData.showable] using h1, by simp [PyData.depth]; omega, ?_, ?_⟩
  · simp only [PyData.shown, PySem.tupleText]
    rw [len_app, len_app]
    have j := join_len (s := (", " : Str)) (m := m) (ts := PyData.shownAll ps) fun t ht => (h3 t ht).1
    have e1 : ("(" : Str).length = 1 := rfl
    have e2 : (", " : Str).length = 2 := rfl
    have e3 : ((if (PyData.shownAll ps).length == 1 then ",)" else ")" : String) : Str).length ≤ 2 := by split <;> decide
    rw [h4, e2] at j
    have : ps.length * (m + 2) ≤ L * (m + 2) := Nat.mul_le_mul_right _ l
    omega
  · simp only [PyData.shown, PySem.tupleText]
    refine ok_app (ok_app (by intro c hc; revert c; decide) (join_ok (by intro c hc; revert c; decide) fun t ht => (h3 t ht).2)) ?_
    split <;> (intro c hc; revert c; decide)
theorem from_ok : ∀ (ts : List Str) (k : Nat) (acc : Str), okC acc → (∀ t ∈ ts, okC t) → okC (PySem.textFrom k acc ts)
  | [], k, acc, h, _ => h
  | t :: r, k, acc, h, ht => by
    show okC (PySem.textFrom (k + 1) (acc ++ (if k > 0 then ", " else "" : String) ++ t) r)
    refine from_ok r (k + 1) _ (ok_app (ok_app h ?_) (ht t (.head _))) fun u hu => ht u (.tail _ hu)
    split <;> (intro c hc; revert c; decide)
theorem from_len {m : Nat} : ∀ (ts : List Str) (k : Nat) (acc : Str), (∀ t ∈ ts, t.length ≤ m) → (PySem.textFrom k acc ts).length ≤ acc.length + ts.length * (m + 2)
  | [], k, acc, _ => by show acc.length ≤ _; omega
  | t :: r, k, acc, ht => by
    show (PySem.textFrom (k + 1) (acc ++ (if k > 0 then ", " else "" : String) ++ t) r).length ≤ _
    have h1 := from_len r (k + 1) (acc ++ (if k > 0 then ", " else "" : String) ++ t) fun u hu => ht u (.tail _ hu)
    have h2 := ht t (.head _)
    have h3 : ((if k > 0 then ", " else "" : String) : Str).length ≤ 2 := by split <;> decide
    rw [len_app, len_app] at h1
    have e : (t :: r).length * (m + 2) = r.length * (m + 2) + (m + 2) := by rw [List.length_cons, Nat.add_mul, Nat.one_mul]
    omega
theorem ro_lst {m k L : Nat} {ps : List PyData} (h : ∀ p ∈ ps, RO m k p) (l : ps.length ≤ L) : RO (L * (m + 2) + 3) (k + 1) (.list ps) := by
  obtain ⟨h1, h2, h3, h4⟩ := ro_all h
  refine ⟨by simpa [PyData.showable] using h1, by simp [PyData.depth]; omega, ?_, ?_⟩
  · simp only [PyData.shown, PySem.listText]
    rw [len_app]
    have j := from_len (m := m) (PyData.shownAll ps) 0 ("[" : Str) fun t ht => (h3 t ht).1
    have e1 : ("[" : Str).length = 1 := rfl
    have e3 : ("]" : Str).length = 1 := rfl
    rw [h4] at j
    have : ps.length * (m + 2) ≤ L * (m + 2) := Nat.mul_le_mul_right _ l
    omega
  · simp only [PyData.shown, PySem.listText]
    exact ok_app (from_ok _ 0 _ (by intro c hc; revert c; decide) fun t ht => (h3 t ht).2) (by intro c hc; revert c; decide)
theorem char_ok : ∀ q ∈ [34, 39], ∀ c < 128, ∀ d ∈ PySem.Builtin.Str.reprChar q c, d < 55296 := by decide +kernel
theorem fold_ok (q : Nat) (hq : q ∈ [34, 39]) : ∀ (l : List Nat) (acc : Array Nat), (∀ c ∈ l, c < 128) → (∀ c ∈ acc.toList, c < 55296) → ∀ c ∈ (l.foldl (fun out c => out ++ (PySem.Builtin.Str.reprChar q c).toArray) acc).toList, c < 55296
  | [], acc, _, h => h
  | x :: l, acc, hl, h => by
    simp only [List.foldl_cons]
    refine fold_ok q hq l _ (fun c hc => hl c (.tail _ hc)) fun c hc => ?_
    rw [Array.toList_append, List.mem_append] at hc
    exact hc.elim (h c) fun z => char_ok q hq x (hl x (.head _)) c (by simpa using z)
theorem ro_str {x : Tx} (h : ∀ c ∈ x, c < 128) : RO (10 * x.length + 2) 1 (.str (txS x)) := by
  have hq : PySem.reprQuote (txS x) ∈ [34, 39] := by unfold PySem.reprQuote; split <;> simp
  refine ⟨by simp [PyData.showable], by simp [PyData.depth], ?_, ?_⟩
  · simp only [PyData.shown]
    have := PySem.StrLaws.reprText_len (txS x) (fun c hc => Nat.lt_trans (h c (by simpa [txS] using hc)) (by decide))
    simpa [txS, Str.length] using this
  · simp only [PyData.shown, PySem.reprText]
    intro c hc
    rw [Array.toList_push, List.mem_append, List.mem_singleton, ← Array.foldl_toList] at hc
    have b : ∀ z ∈ [34, 39], z < 55296 := by decide
    rcases hc with hc | rfl
    · exact fold_ok _ hq _ _ (fun c hc => h c (by simpa [txS] using hc)) (fun c hc => by
        have : c = PySem.reprQuote (txS x) := by simpa using hc
        rw [this]
        exact b _ hq) c hc
    · exact b _ hq
theorem ro_weak {m m' k k' : Nat} {p : PyData} (h : RO m k p) (h1 : m ≤ m') (h2 : k ≤ k') : RO m' k' p := ⟨h.sh, Nat.le_trans h.dp h2, Nat.le_trans h.ln h1, h.ok⟩
/-- a repr that is there -/
def HasRep (d : D) : Prop := ∃ r, reprD d = some (.str r) ∧ okT r = true
theorem rep_ro {d : D} {p : PyData} {m k : Nat} (e : d.pd = some p) (h : RO m k p) (hm : m ≤ 1000000) (hk : k ≤ 50) (hd : p.hasDict = false ∨ d.lists = false) : HasRep d := by
  refine ⟨p.shown.cps.toList, ?_, ?_⟩
  · unfold reprD
    rw [e]
    have h1 : p.depth ≤ 50 := Nat.le_trans h.dp hk
    have h2 : p.shown.length ≤ lim := Nat.le_trans h.ln hm
    have h3 : (!p.hasDict || !d.lists) = true := by rcases hd with z | z <;> simp [z]
    simp [h.sh, h1, h2, h3]
  · unfold okT
    rw [List.all_eq_true]
    intro c hc
    exact decide_eq_true (h.ok c hc)
end Pi
set_option maxRecDepth 100000
set_option maxHeartbeats 3900000
namespace Pi
/-! ### draws -/
theorem p_run (p : Pg) (n f : Nat) (d : Fn) (h : p.fns[f]? = some d) (as c : List D) (hl : as.length = d.np) : p.run (n + 1) f as c = ofOut (execs (p.wd n) d.body ⟨entry d as, c⟩) := by
  unfold Pg.run
  rw [h]
  simp only [hl, if_true]
  rfl
theorem pwbr (p : Pg) (n f : Nat) : (p.wd n).br f = p.br f := rfl
theorem pwdf (p : Pg) (n f : Nat) : (p.wd n).df f = p.df f := rfl
theorem pwcall (p : Pg) (n : Nat) : (p.wd n).call = p.run n := rfl
theorem br_of {p : Pg} {f : Nat} {d : Fn} (h : p.fns[f]? = some d) : p.br f = d.br := by unfold Pg.br; rw [h]
theorem df_of {p : Pg} {f : Nat} {d : Fn} (h : p.fns[f]? = some d) : p.df f = d.df := by unfold Pg.df; rw [h]
def bDraw : ISs := (.cons (.ite (.cmp .gt (.idx (.var 0) (.cst (.int 0))) (.cst (.int 0))) (.cons (.setT [.ix 0 (.cst (.int 0)), .nm 2] (.bi .divmod (.cons (.idx (.var 0) (.cst (.int 0))) (.cons (.var 1) .nil)))) (.cons (.ret (.var 2)) .nil)) .nil) (.cons (.setI 0 (.cst (.int 1)) (.bin .mod (.bi .int (.cons (.bin .add (.bin .mul (.idx (.var 0) (.cst (.int 1))) (.cst (.int 48283))) (.cst (.int 10007))) .nil)) (.cst (.int 2147483587)))) (.cons (.set 3 (.bin .fdiv (.bin .mod (.bi .int (.cons (.bin .mul (.idx (.var 0) (.cst (.int 1))) (.idx (.var 0) (.cst (.int 1)))) .nil)) (.cst (.int 2147483549))) (.cst (.int 13)))) (.cons (.ite (.cmp .lt (.var 1) (.bin .pow (.cst (.int 2)) (.cst (.int 20)))) (.cons (.ret (.bin .mod (.bi .int (.cons (.var 3) .nil)) (.var 1))) .nil) .nil) (.cons (.ret (.bin .mod (.bi .int (.cons (.bin .add (.bin .mul (.bin .add (.bin .mul (.var 3) (.cst (.int 2147483563))) (.idx (.var 0) (.cst (.int 1)))) (.cst (.int 2147483563))) (.var 3)) .nil)) (.var 1))) .nil)))))
def fDraw : Fn := ⟨2, true, [], 4, bDraw⟩
theorem p_draw (p : Pg) (f : Nat) (hf : p.fns[f]? = some fDraw) (n : Nat) (a b many : Int) (h1 : 1 ≤ many) (h2 : many < 2 ^ 150) : ∃ a' b' r, p.run (n + 1) f [.non, .int many] [.int a, .int b] = .ok (.val (.int r)) [.int a', .int b'] ∧ 0 ≤ r ∧ r < many := by
  rw [p_run p n f fDraw hf _ _ rfl]
  by_cases ha : 0 < a
  · refine ⟨a / many, b, a % many, ?_, Int.emod_nonneg _ (by omega), Int.emod_lt_of_pos _ (by omega)⟩
    have h0 : 0 < many := by omega
    have hb : many < 1606938044258990275541962092341162602522202993782792835301376 := by omega
    simp [fDraw, bDraw, execs, exec, ev, evB, evF, evO, evC, evI, holdL, ER.hold, rdAll, tst, Rs.bind, Rs.out, ER.rd, ER.fz, truth, Rs.of, entry, entryP, retR, ofOut, Out.seq, atS, ixOf, cmpR, ltR, leR, biR, intcR, opR, addR, intR, tgs, setX, ixV, mutS, setAt, outO, Fr.put, stoR, doCall, lend, fzAll, pick, CR.rs, CV.er, lenR, lim, eqR, D.flat, D.eqv, okT, putAll, Tg.bind, itemsD, int2R, pwbr, pwcall, pwdf, ha, h0, hb]
  · have hb0 : ∀ x : Int, w64 (x % 2147483587) = true := fun x => by
      have h1 := Int.emod_nonneg x (show (2147483587 : Int) ≠ 0 by decide)
      have h2 := Int.emod_lt_of_pos x (show (0 : Int) < 2147483587 by decide)
      simp only [w64, Bool.and_eq_true, decide_eq_true_eq]
      omega
    have hw1 : w64 48283 = true := by decide
    have hw2 : w64 2147483563 = true := by decide
    have h0 : 0 < many := by omega
    generalize hbb : (b * 48283 + 10007) % 2147483587 = b1
    have hwb : w64 b1 = true := by rw [← hbb]; exact hb0 _
    generalize hmm : b1 * b1 % 2147483549 / 13 = m1
    by_cases hm : many < 1048576
    · refine ⟨a, b1, m1 % many, ?_, Int.emod_nonneg _ (by omega), Int.emod_lt_of_pos _ (by omega)⟩
      simp [fDraw, bDraw, execs, exec, ev, evB, evF, evO, evC, evI, holdL, ER.hold, rdAll, tst, Rs.bind, Rs.out, ER.rd, ER.fz, truth, Rs.of, entry, entryP, retR, ofOut, Out.seq, atS, ixOf, cmpR, ltR, leR, biR, intcR, opR, addR, intR, tgs, setX, ixV, mutS, setAt, outO, Fr.put, stoR, doCall, lend, fzAll, pick, CR.rs, CV.er, lenR, lim, eqR, D.flat, D.eqv, okT, putAll, Tg.bind, itemsD, int2R, pwbr, pwcall, pwdf, ha, h0, hw1, hw2, hbb, hwb, hmm, hm]
    · refine ⟨a, b1, ((m1 * 2147483563 + b1) * 2147483563 + m1) % many, ?_, Int.emod_nonneg _ (by omega), Int.emod_lt_of_pos _ (by omega)⟩
      simp [fDraw, bDraw, execs, exec, ev, evB, evF, evO, evC, evI, holdL, ER.hold, rdAll, tst, Rs.bind, Rs.out, ER.rd, ER.fz, truth, Rs.of, entry, entryP, retR, ofOut, Out.seq, atS, ixOf, cmpR, ltR, leR, biR, intcR, opR, addR, intR, tgs, setX, ixV, mutS, setAt, outO, Fr.put, stoR, doCall, lend, fzAll, pick, CR.rs, CV.er, lenR, lim, eqR, D.flat, D.eqv, okT, putAll, Tg.bind, itemsD, int2R, pwbr, pwcall, pwdf, ha, h0, hw1, hw2, hbb, hwb, hmm, hm]
def bRng : ISs := (.cons (.set 2 (.bin .add (.bin .mul (.cst (.int 7)) (.var 1)) (.cst (.int 3)))) (.cons (.ite (.cmp .lt (.var 1) (.bi .len (.cons (.var 0) .nil))) (.cons (.set 2 (.idx (.var 0) (.var 1))) .nil) .nil) (.cons (.ret (.lst (.cons (.bi .max2 (.cons (.cst (.int 0)) (.cons (.bin .sub (.bi .abs (.cons (.var 2) .nil)) (.bin .pow (.cst (.int 10)) (.cst (.int 18)))) .nil))) (.cons (.bin .add (.bin .mod (.bi .int (.cons (.bin .mul (.bin .add (.bin .mod (.bi .int (.cons (.bi .abs (.cons (.var 2) .nil)) .nil)) (.cst (.int 2147483579))) (.cst (.int 1))) (.bin .pow (.bin .add (.var 1) (.cst (.int 3))) (.cst (.int 3)))) .nil)) (.cst (.int 2147483563))) (.cst (.int 1))) .nil)))) .nil)))
def fRng : Fn := ⟨2, false, [], 3, bRng⟩
theorem p_rng (p : Pg) (f : Nat) (hf : p.fns[f]? = some fRng) (n : Nat) (xs : List Int) (k : Int) (c : List D) (h0 : 0 ≤ k) (h1 : k < 900) : ∃ a b, p.run (n + 1) f [.scr (xs.map .int), .int k] c = .ok (.fresh [.int a, .int b]) c := by
  rw [p_run p n f fRng hf _ _ rfl]
  have hw : ∀ v : Int, w64 (v % 2147483579 + 1) = true := fun v => by
    have e1 := Int.emod_nonneg v (show (2147483579 : Int) ≠ 0 by decide)
    have e2 := Int.emod_lt_of_pos v (show (0 : Int) < 2147483579 by decide)
    simp only [w64, Bool.and_eq_true, decide_eq_true_eq]
    omega
  have hp : (k + 3).natAbs < 1000 := by omega
  have w7 : w64 7 = true := by decide
  by_cases hk : k < xs.length
  · obtain ⟨v, hv⟩ : ∃ v, xs[k.toNat]? = some v := ⟨xs[k.toNat], List.getElem?_eq_getElem (by omega)⟩
    refine ⟨if (if v < 0 then -v else v) - 1000000000000000000 > 0 then (if v < 0 then -v else v) - 1000000000000000000 else 0, ((if v < 0 then -v else v) % 2147483579 + 1) * (k + 3) ^ 3 % 2147483563 + 1, ?_⟩
    generalize hab : (if v < 0 then -v else v) = av
    simp [fRng, bRng, execs, exec, ev, evB, evF, evO, evC, evI, holdL, ER.hold, rdAll, tst, Rs.bind, Rs.out, ER.rd, ER.fz, truth, Rs.of, entry, entryP, retR, ofOut, Out.seq, atS, ixOf, cmpR, ltR, leR, biR, intcR, opR, addR, intR, tgs, setX, ixV, mutS, setAt, outO, Fr.put, stoR, doCall, lend, fzAll, pick, CR.rs, CV.er, lenR, lim, eqR, D.flat, D.eqv, okT, putAll, Tg.bind, itemsD, int2R, pwbr, pwcall, pwdf, absR, hk, h0, hv, w7, hp, hw, hab]
    have e : xs[k.toNat]'(by omega) = v := (List.getElem?_eq_some_iff.mp hv).2
    simp only [e, hab, and_self]
  · refine ⟨if (if 7 * k + 3 < 0 then -(7 * k + 3) else 7 * k + 3) - 1000000000000000000 > 0 then (if 7 * k + 3 < 0 then -(7 * k + 3) else 7 * k + 3) - 1000000000000000000 else 0, ((if 7 * k + 3 < 0 then -(7 * k + 3) else 7 * k + 3) % 2147483579 + 1) * (k + 3) ^ 3 % 2147483563 + 1, ?_⟩
    generalize hab : (if 7 * k + 3 < 0 then -(7 * k + 3) else 7 * k + 3) = av
    simp [fRng, bRng, execs, exec, ev, evB, evF, evO, evC, evI, holdL, ER.hold, rdAll, tst, Rs.bind, Rs.out, ER.rd, ER.fz, truth, Rs.of, entry, entryP, retR, ofOut, Out.seq, atS, ixOf, cmpR, ltR, leR, biR, intcR, opR, addR, intR, tgs, setX, ixV, mutS, setAt, outO, Fr.put, stoR, doCall, lend, fzAll, pick, CR.rs, CV.er, lenR, lim, eqR, D.flat, D.eqv, okT, putAll, Tg.bind, itemsD, int2R, pwbr, pwcall, pwdf, absR, hk, w7, hp, hw, hab]
/-- .. of the items of a list, of the signs of a text -/
def fChoice (i : Nat) : Fn := ⟨2, true, [], 2, (.cons (.ret (.idx (.var 1) (.call i [0, 1] (.cons (.var 0) (.cons (.bi .len (.cons (.var 1) .nil)) .nil))))) .nil)⟩
theorem p_choice (p : Pg) (f i : Nat) (hf : p.fns[f]? = some (fChoice i)) (hi : p.fns[i]? = some fDraw) (n : Nat) (a b : Int) (xs : List D) (hx : xs ≠ []) (hl : xs.length < 1000000) : ∃ a' b' x, x ∈ xs ∧ p.run (n + 2) f [.non, .lst xs] [.int a, .int b] = .ok (.val x) [.int a', .int b'] := by
  have hp : 0 < xs.length := List.length_pos_iff.mpr hx
  obtain ⟨a', b', r, hr, h0, h1⟩ := p_draw p i hi n a b xs.length (by omega) (by omega)
  have hk : r.toNat < xs.length := by omega
  refine ⟨a', b', xs[r.toNat], List.getElem_mem hk, ?_⟩
  rw [p_run p (n + 1) f (fChoice i) hf _ _ rfl]
  have e1 : p.br i = true := br_of hi
  have e2 : p.df i = [] := df_of hi
  simp [fChoice, execs, exec, ev, evB, evF, evO, evC, evI, holdL, ER.hold, rdAll, tst, Rs.bind, Rs.out, ER.rd, ER.fz, truth, Rs.of, entry, entryP, retR, ofOut, Out.seq, atS, ixOf, cmpR, ltR, leR, biR, intcR, opR, addR, intR, tgs, setX, ixV, mutS, setAt, outO, Fr.put, stoR, doCall, lend, fzAll, pick, CR.rs, CV.er, lenR, lim, eqR, D.flat, D.eqv, okT, putAll, Tg.bind, itemsD, int2R, pwbr, pwcall, pwdf, e1, e2, hr, h0, h1, hk]
theorem p_choiceT (p : Pg) (f i : Nat) (hf : p.fns[f]? = some (fChoice i)) (hi : p.fns[i]? = some fDraw) (n : Nat) (a b : Int) (x : Tx) (hx : x ≠ []) (hl : x.length < 1000000) : ∃ a' b' c, c ∈ x ∧ p.run (n + 2) f [.non, .str x] [.int a, .int b] = .ok (.val (.str [c])) [.int a', .int b'] := by
  have hp : 0 < x.length := List.length_pos_iff.mpr hx
  obtain ⟨a', b', r, hr, h0, h1⟩ := p_draw p i hi n a b x.length (by omega) (by omega)
  have hk : r.toNat < x.length := by omega
  have hl6 : x.length ≤ 1000000 := by omega
  refine ⟨a', b', x[r.toNat], List.getElem_mem hk, ?_⟩
  rw [p_run p (n + 1) f (fChoice i) hf _ _ rfl]
  have e1 : p.br i = true := br_of hi
  have e2 : p.df i = [] := df_of hi
  simp [fChoice, execs, exec, ev, evB, evF, evO, evC, evI, holdL, ER.hold, rdAll, tst, Rs.bind, Rs.out, ER.rd, ER.fz, truth, Rs.of, entry, entryP, retR, ofOut, Out.seq, atS, ixOf, cmpR, ltR, leR, biR, intcR, opR, addR, intR, tgs, setX, ixV, mutS, setAt, outO, Fr.put, stoR, doCall, lend, fzAll, pick, CR.rs, CV.er, lenR, lim, eqR, D.flat, D.eqv, okT, putAll, Tg.bind, itemsD, int2R, pwbr, pwcall, pwdf, e1, e2, hr, h0, h1, hk, hl6]
/-! comprehensions whose element draws -/
theorem lc_goC {w : Wd} {e : IE} {k : Nat} {sl : List Sl} {P : D → Prop} {I : List D → Prop} (step : ∀ x c, I c → ∃ er d c', I c' ∧ P d ∧ ev w e ⟨sl.set k (.val x), c⟩ = .ok er ⟨sl.set k (.val x), c'⟩ ∧ er.fz ⟨sl.set k (.val x), c'⟩ = .ok d ⟨sl.set k (.val x), c'⟩) :
    ∀ (xs : List D) (c : List D) (z : Sl), I c → ∃ ds c' z', ds.length = xs.length ∧ (∀ d ∈ ds, P d) ∧ I c' ∧ lcGo (lcF w e (.nm k) .no) xs ⟨sl.set k z, c⟩ = .ok ds ⟨sl.set k z', c'⟩
  | [], c, z, h => ⟨[], c, z, rfl, fun d hd => absurd hd List.not_mem_nil, h, rfl⟩
  | x :: xs, c, z, h => by
    obtain ⟨er, d, c1, h1, h2, h3, h4⟩ := step x c h
    obtain ⟨ds, c2, z2, k1, k2, k3, k4⟩ := lc_goC step xs c1 (.val x) h1
    refine ⟨d :: ds, c2, z2, by simp [k1], fun y hy => ?_, k3, ?_⟩
    · cases hy with
      | head => exact h2
      | tail _ hy => exact k2 y hy
    · have e1 : lcF w e (.nm k) .no x ⟨sl.set k z, c⟩ = .ok (some d) ⟨sl.set k (.val x), c1⟩ := by
        simp only [lcF, Tg.bind, Tg.slots, wipe_one, Fr.put, List.set_set, evC, Rs.bind, if_true, h3, h4]
      simp only [lcGo, e1, k4]
theorem ev_lcmC {w : Wd} {e : IE} {k : Nat} {it : IT} {sl : List Sl} {P : D → Prop} {I : List D → Prop} {xs c c1 : List D} (hI : evI w it ⟨sl, c⟩ = .ok xs ⟨sl, c1⟩) (hun : sl[k]? = some .un) (hc : I c1) (hl : xs.length ≤ lim)
    (step : ∀ x c, I c → ∃ er d c', I c' ∧ P d ∧ ev w e ⟨sl.set k (.val x), c⟩ = .ok er ⟨sl.set k (.val x), c'⟩ ∧ er.fz ⟨sl.set k (.val x), c'⟩ = .ok d ⟨sl.set k (.val x), c'⟩) :
    ∃ ds c', ds.length = xs.length ∧ (∀ d ∈ ds, P d) ∧ I c' ∧ ev w (.lcm e (.nm k) it .no) ⟨sl, c⟩ = .ok (.fresh ds) ⟨sl, c'⟩ := by
  obtain ⟨ds, c', z', h1, h2, h3, h4⟩ := lc_goC step xs c1 .un hc
  refine ⟨ds, c', h1, h2, h3, ?_⟩
  rw [set_same _ _ _ hun] at h4
  unfold ev
  rw [hI]
  show (match lcGo (lcF w e (.nm k) .no) xs ⟨sl, c1⟩ with | .ok ds s2 => _ | _ => _) = _
  rw [h4]
  have e2 : ((⟨sl.set k z', c'⟩ : Fr).wipe (Tg.nm k).slots).back ⟨sl, c1⟩ (Tg.nm k).slots = ⟨sl, c'⟩ := by
    have h1 : (sl.getD k .un).left = .un := by simp [List.getD, hun, Sl.left]
    show (⟨(((sl.set k z').set k .un).set k (sl.getD k .un).left), c'⟩ : Fr) = _
    rw [h1, List.set_set, List.set_set, set_same _ _ _ hun]
  have h5 : ds.length ≤ lim := by rw [h1]; exact hl
  simp only [h5, if_true, e2]
theorem rng_len (a : Int) : ∀ n, (rngD a n).length = n
  | 0 => rfl
  | n + 1 => by simp [rngD, rng_len (a + 1) n]
end Pi
set_option maxRecDepth 100000
set_option maxHeartbeats 7900000
/-! The small form of the law's text (printed by wip/gen.py). -/
namespace K11
open PySem PySem.Spec PyProof.Rows L2 Pi
/-- _law_rng : _law_script _law_k _law_cell -/
def b__law_rng : ISs := (.cons (.set 2 (.bin .add (.bin .mul (.cst (.int 7)) (.var 1)) (.cst (.int 3)))) (.cons (.ite (.cmp .lt (.var 1) (.bi .len (.cons (.var 0) .nil))) (.cons (.set 2 (.idx (.var 0) (.var 1))) .nil) .nil) (.cons (.ret (.lst (.cons (.bi .max2 (.cons (.cst (.int 0)) (.cons (.bin .sub (.bi .abs (.cons (.var 2) .nil)) (.bin .pow (.cst (.int 10)) (.cst (.int 18)))) .nil))) (.cons (.bin .add (.bin .mod (.bi .int (.cons (.bin .mul (.bin .add (.bin .mod (.bi .int (.cons (.bi .abs (.cons (.var 2) .nil)) .nil)) (.cst (.int 2147483579))) (.cst (.int 1))) (.bin .pow (.bin .add (.var 1) (.cst (.int 3))) (.cst (.int 3)))) .nil)) (.cst (.int 2147483563))) (.cst (.int 1))) .nil)))) .nil)))
def f__law_rng : Fn := ⟨2, false, [], 3, b__law_rng⟩
/-- _law_draw : _law_rng_here _law_many _law_digit _law_mixed -/
def b__law_draw : ISs := (.cons (.ite (.cmp .gt (.idx (.var 0) (.cst (.int 0))) (.cst (.int 0))) (.cons (.setT [.ix 0 (.cst (.int 0)), .nm 2] (.bi .divmod (.cons (.idx (.var 0) (.cst (.int 0))) (.cons (.var 1) .nil)))) (.cons (.ret (.var 2)) .nil)) .nil) (.cons (.setI 0 (.cst (.int 1)) (.bin .mod (.bi .int (.cons (.bin .add (.bin .mul (.idx (.var 0) (.cst (.int 1))) (.cst (.int 48283))) (.cst (.int 10007))) .nil)) (.cst (.int 2147483587)))) (.cons (.set 3 (.bin .fdiv (.bin .mod (.bi .int (.cons (.bin .mul (.idx (.var 0) (.cst (.int 1))) (.idx (.var 0) (.cst (.int 1)))) .nil)) (.cst (.int 2147483549))) (.cst (.int 13)))) (.cons (.ite (.cmp .lt (.var 1) (.bin .pow (.cst (.int 2)) (.cst (.int 20)))) (.cons (.ret (.bin .mod (.bi .int (.cons (.var 3) .nil)) (.var 1))) .nil) .nil) (.cons (.ret (.bin .mod (.bi .int (.cons (.bin .add (.bin .mul (.bin .add (.bin .mul (.var 3) (.cst (.int 2147483563))) (.idx (.var 0) (.cst (.int 1)))) (.cst (.int 2147483563))) (.var 3)) .nil)) (.var 1))) .nil)))))
def f__law_draw : Fn := ⟨2, true, [], 4, b__law_draw⟩
/-- _law_choice : _law_rng_here _law_options -/
def b__law_choice : ISs := (.cons (.ret (.idx (.var 1) (.call 1 [0, 1] (.cons (.var 0) (.cons (.bi .len (.cons (.var 1) .nil)) .nil))))) .nil)
def f__law_choice : Fn := ⟨2, true, [], 2, b__law_choice⟩
/-- _law_thing : _law_rng_here _law_some -/
def b__law_thing : ISs := (.cons (.set 1 (.lst (.cons (.cst .non) (.cons (.cst (.bl true)) (.cons (.cst (.bl false)) (.cons (.cst (.int 0)) (.cons (.neg (.cst (.int 1))) (.cons (.cst (.int 7)) (.cons (.bin .pow (.cst (.int 10)) (.cst (.int 29))) (.cons (.cst (.str [])) (.cons (.cst (.str [97])) (.cons (.cst (.str [114, 111, 119])) (.cons (.tup .nil) (.cons (.tup (.cons (.cst (.int 0)) (.cons (.cst (.int 1)) .nil))) (.cons (.lst .nil) (.cons (.lst (.cons (.tup (.cons (.cst (.int 0)) .nil)) .nil)) (.cons (.dic []) (.cons (.dic [(.inr [97], (.int 1))]) (.cons (.tup (.cons (.cst (.str [107, 101, 121])) (.cons (.tup .nil) .nil))) .nil))))))))))))))))))) (.cons (.ret (.call 2 [0, 1] (.cons (.var 0) (.cons (.var 1) .nil)))) .nil))
def f__law_thing : Fn := ⟨1, true, [], 2, b__law_thing⟩
/-- _law_by_position : _law_a _law_b _law_c _law_d _law_made -/
def b__law_by_position : ISs := (.cons (.set 4 (.lst (.cons (.mk [73, 110, 118, 97, 108, 105, 100, 86, 97, 108, 117, 101] (.cons (.var 0) .nil)) (.cons (.mk [73, 110, 118, 97, 108, 105, 100, 86, 101, 99, 116, 111, 114] (.cons (.var 0) .nil)) (.cons (.mk [73, 110, 118, 97, 108, 105, 100, 79, 114, 100, 101, 114] (.cons (.var 0) .nil)) (.cons (.mk [73, 110, 118, 97, 108, 105, 100, 67, 111, 117, 110, 116] (.cons (.var 0) .nil)) (.cons (.mk [73, 110, 118, 97, 108, 105, 100, 78, 97, 109, 101] (.cons (.var 0) .nil)) .nil))))))) (.cons (.set 4 (.bin .add (.var 4) (.lst (.cons (.mk [73, 110, 118, 97, 108, 105, 100, 67, 111, 108, 117, 109, 110, 115] (.cons (.var 0) .nil)) (.cons (.mk [73, 110, 118, 97, 108, 105, 100, 82, 117, 108, 101] (.cons (.var 0) .nil)) (.cons (.mk [73, 110, 118, 97, 108, 105, 100, 84, 97, 98, 108, 101] (.cons (.var 0) .nil)) (.cons (.mk [73, 110, 118, 97, 108, 105, 100, 82, 111, 119] (.cons (.var 0) .nil)) (.cons (.mk [73, 110, 118, 97, 108, 105, 100, 81, 117, 101, 114, 121] (.cons (.var 0) (.cons (.var 1) .nil))) .nil)))))))) (.cons (.set 4 (.bin .add (.var 4) (.lst (.cons (.mk [73, 110, 118, 97, 108, 105, 100, 80, 108, 97, 110] (.cons (.var 0) .nil)) (.cons (.mk [73, 110, 118, 97, 108, 105, 100, 81, 117, 101, 115, 116, 105, 111, 110] .nil) (.cons (.mk [73, 110, 118, 97, 108, 105, 100, 79, 102, 102, 101, 114] (.cons (.var 0) .nil)) (.cons (.mk [73, 110, 118, 97, 108, 105, 100, 87, 114, 105, 116, 101] (.cons (.var 0) .nil)) (.cons (.mk [73, 110, 118, 97, 108, 105, 100, 84, 101, 120, 116] (.cons (.var 0) .nil)) .nil)))))))) (.cons (.set 4 (.bin .add (.var 4) (.lst (.cons (.mk [73, 110, 118, 97, 108, 105, 100, 84, 111, 107, 101, 110] (.cons (.var 0) .nil)) (.cons (.mk [73, 110, 118, 97, 108, 105, 100, 67, 111, 109, 109, 97, 110, 100] (.cons (.var 0) .nil)) (.cons (.mk [85, 110, 107, 110, 111, 119, 110, 84, 97, 98, 108, 101] (.cons (.var 0) .nil)) (.cons (.mk [85, 110, 107, 110, 111, 119, 110, 80, 108, 97, 99, 101] (.cons (.var 0) .nil)) (.cons (.mk [85, 110, 107, 110, 111, 119, 110, 78, 97, 109, 101] (.cons (.var 0) .nil)) .nil)))))))) (.cons (.set 4 (.bin .add (.var 4) (.lst (.cons (.mk [78, 97, 109, 101, 84, 97, 107, 101, 110] (.cons (.var 0) .nil)) (.cons (.mk [82, 117, 108, 101, 66, 114, 111, 107, 101, 110] (.cons (.var 0) (.cons (.var 1) (.cons (.var 2) .nil)))) (.cons (.mk [80, 97, 105, 114, 66, 114, 111, 107, 101, 110] (.cons (.var 0) (.cons (.var 1) (.cons (.var 2) (.cons (.var 3) .nil))))) (.cons (.mk [85, 110, 108, 105, 107, 101] .nil) (.cons (.mk [79, 117, 116, 79, 102, 79, 114, 100, 101, 114] (.cons (.var 0) .nil)) .nil)))))))) (.cons (.set 4 (.bin .add (.var 4) (.lst (.cons (.mk [65, 112, 97, 114, 116] (.cons (.var 0) .nil)) (.cons (.mk [78, 111, 116, 83, 101, 114, 118, 105, 110, 103] .nil) (.cons (.mk [73, 110, 85, 115, 101] .nil) (.cons (.mk [84, 111, 111, 77, 97, 110, 121] (.cons (.var 0) (.cons (.var 1) .nil))) .nil))))))) (.cons (.ret (.var 4)) .nil)))))))
def f__law_by_position : Fn := ⟨4, false, [], 5, b__law_by_position⟩
/-- _law_by_name : _law_a _law_b _law_c _law_d _law_made -/
def b__law_by_name : ISs := (.cons (.set 4 (.lst (.cons (.mk [73, 110, 118, 97, 108, 105, 100, 86, 97, 108, 117, 101] (.cons (.var 0) .nil)) (.cons (.mk [73, 110, 118, 97, 108, 105, 100, 86, 101, 99, 116, 111, 114] (.cons (.var 0) .nil)) (.cons (.mk [73, 110, 118, 97, 108, 105, 100, 79, 114, 100, 101, 114] (.cons (.var 0) .nil)) .nil))))) (.cons (.set 4 (.bin .add (.var 4) (.lst (.cons (.mk [73, 110, 118, 97, 108, 105, 100, 67, 111, 117, 110, 116] (.cons (.var 0) .nil)) (.cons (.mk [73, 110, 118, 97, 108, 105, 100, 78, 97, 109, 101] (.cons (.var 0) .nil)) (.cons (.mk [73, 110, 118, 97, 108, 105, 100, 67, 111, 108, 117, 109, 110, 115] (.cons (.var 0) .nil)) .nil)))))) (.cons (.set 4 (.bin .add (.var 4) (.lst (.cons (.mk [73, 110, 118, 97, 108, 105, 100, 82, 117, 108, 101] (.cons (.var 0) .nil)) (.cons (.mk [73, 110, 118, 97, 108, 105, 100, 84, 97, 98, 108, 101] (.cons (.var 0) .nil)) (.cons (.mk [73, 110, 118, 97, 108, 105, 100, 82, 111, 119] (.cons (.var 0) .nil)) .nil)))))) (.cons (.set 4 (.bin .add (.var 4) (.lst (.cons (.mk [73, 110, 118, 97, 108, 105, 100, 81, 117, 101, 114, 121] (.cons (.var 0) (.cons (.var 1) .nil))) (.cons (.mk [73, 110, 118, 97, 108, 105, 100, 80, 108, 97, 110] (.cons (.var 0) .nil)) (.cons (.mk [73, 110, 118, 97, 108, 105, 100, 81, 117, 101, 115, 116, 105, 111, 110] .nil) .nil)))))) (.cons (.set 4 (.bin .add (.var 4) (.lst (.cons (.mk [73, 110, 118, 97, 108, 105, 100, 79, 102, 102, 101, 114] (.cons (.var 0) .nil)) (.cons (.mk [73, 110, 118, 97, 108, 105, 100, 87, 114, 105, 116, 101] (.cons (.var 0) .nil)) (.cons (.mk [73, 110, 118, 97, 108, 105, 100, 84, 101, 120, 116] (.cons (.var 0) .nil)) .nil)))))) (.cons (.set 4 (.bin .add (.var 4) (.lst (.cons (.mk [73, 110, 118, 97, 108, 105, 100, 84, 111, 107, 101, 110] (.cons (.var 0) .nil)) (.cons (.mk [73, 110, 118, 97, 108, 105, 100, 67, 111, 109, 109, 97, 110, 100] (.cons (.var 0) .nil)) (.cons (.mk [85, 110, 107, 110, 111, 119, 110, 84, 97, 98, 108, 101] (.cons (.var 0) .nil)) .nil)))))) (.cons (.set 4 (.bin .add (.var 4) (.lst (.cons (.mk [85, 110, 107, 110, 111, 119, 110, 80, 108, 97, 99, 101] (.cons (.var 0) .nil)) (.cons (.mk [85, 110, 107, 110, 111, 119, 110, 78, 97, 109, 101] (.cons (.var 0) .nil)) (.cons (.mk [78, 97, 109, 101, 84, 97, 107, 101, 110] (.cons (.var 0) .nil)) .nil)))))) (.cons (.set 4 (.bin .add (.var 4) (.lst (.cons (.mk [82, 117, 108, 101, 66, 114, 111, 107, 101, 110] (.cons (.var 0) (.cons (.var 1) (.cons (.var 2) .nil)))) (.cons (.mk [80, 97, 105, 114, 66, 114, 111, 107, 101, 110] (.cons (.var 0) (.cons (.var 1) (.cons (.var 2) (.cons (.var 3) .nil))))) .nil))))) (.cons (.set 4 (.bin .add (.var 4) (.lst (.cons (.mk [85, 110, 108, 105, 107, 101] .nil) (.cons (.mk [79, 117, 116, 79, 102, 79, 114, 100, 101, 114] (.cons (.var 0) .nil)) (.cons (.mk [65, 112, 97, 114, 116] (.cons (.var 0) .nil)) (.cons (.mk [78, 111, 116, 83, 101, 114, 118, 105, 110, 103] .nil) (.cons (.mk [73, 110, 85, 115, 101] .nil) .nil)))))))) (.cons (.set 4 (.bin .add (.var 4) (.lst (.cons (.mk [84, 111, 111, 77, 97, 110, 121] (.cons (.var 0) (.cons (.var 1) .nil))) .nil)))) (.cons (.ret (.var 4)) .nil)))))))))))
def f__law_by_name : Fn := ⟨4, false, [], 5, b__law_by_name⟩
/-- _law_classes : _law_e _law_made -/
def b__law_classes : ISs := (.cons (.set 1 (.lst (.cons (.isx (.var 0) (.own [73, 110, 118, 97, 108, 105, 100, 86, 97, 108, 117, 101])) (.cons (.isx (.var 0) (.own [73, 110, 118, 97, 108, 105, 100, 86, 101, 99, 116, 111, 114])) (.cons (.isx (.var 0) (.own [73, 110, 118, 97, 108, 105, 100, 79, 114, 100, 101, 114])) .nil))))) (.cons (.set 1 (.bin .add (.var 1) (.lst (.cons (.isx (.var 0) (.own [73, 110, 118, 97, 108, 105, 100, 67, 111, 117, 110, 116])) (.cons (.isx (.var 0) (.own [73, 110, 118, 97, 108, 105, 100, 78, 97, 109, 101])) (.cons (.isx (.var 0) (.own [73, 110, 118, 97, 108, 105, 100, 67, 111, 108, 117, 109, 110, 115])) .nil)))))) (.cons (.set 1 (.bin .add (.var 1) (.lst (.cons (.isx (.var 0) (.own [73, 110, 118, 97, 108, 105, 100, 82, 117, 108, 101])) (.cons (.isx (.var 0) (.own [73, 110, 118, 97, 108, 105, 100, 84, 97, 98, 108, 101])) (.cons (.isx (.var 0) (.own [73, 110, 118, 97, 108, 105, 100, 82, 111, 119])) .nil)))))) (.cons (.set 1 (.bin .add (.var 1) (.lst (.cons (.isx (.var 0) (.own [73, 110, 118, 97, 108, 105, 100, 81, 117, 101, 114, 121])) (.cons (.isx (.var 0) (.own [73, 110, 118, 97, 108, 105, 100, 80, 108, 97, 110])) (.cons (.isx (.var 0) (.own [73, 110, 118, 97, 108, 105, 100, 81, 117, 101, 115, 116, 105, 111, 110])) .nil)))))) (.cons (.set 1 (.bin .add (.var 1) (.lst (.cons (.isx (.var 0) (.own [73, 110, 118, 97, 108, 105, 100, 79, 102, 102, 101, 114])) (.cons (.isx (.var 0) (.own [73, 110, 118, 97, 108, 105, 100, 87, 114, 105, 116, 101])) (.cons (.isx (.var 0) (.own [73, 110, 118, 97, 108, 105, 100, 84, 101, 120, 116])) .nil)))))) (.cons (.set 1 (.bin .add (.var 1) (.lst (.cons (.isx (.var 0) (.own [73, 110, 118, 97, 108, 105, 100, 84, 111, 107, 101, 110])) (.cons (.isx (.var 0) (.own [73, 110, 118, 97, 108, 105, 100, 67, 111, 109, 109, 97, 110, 100])) (.cons (.isx (.var 0) (.own [85, 110, 107, 110, 111, 119, 110, 84, 97, 98, 108, 101])) .nil)))))) (.cons (.set 1 (.bin .add (.var 1) (.lst (.cons (.isx (.var 0) (.own [85, 110, 107, 110, 111, 119, 110, 80, 108, 97, 99, 101])) (.cons (.isx (.var 0) (.own [85, 110, 107, 110, 111, 119, 110, 78, 97, 109, 101])) (.cons (.isx (.var 0) (.own [78, 97, 109, 101, 84, 97, 107, 101, 110])) .nil)))))) (.cons (.set 1 (.bin .add (.var 1) (.lst (.cons (.isx (.var 0) (.own [82, 117, 108, 101, 66, 114, 111, 107, 101, 110])) (.cons (.isx (.var 0) (.own [80, 97, 105, 114, 66, 114, 111, 107, 101, 110])) (.cons (.isx (.var 0) (.own [85, 110, 108, 105, 107, 101])) .nil)))))) (.cons (.set 1 (.bin .add (.var 1) (.lst (.cons (.isx (.var 0) (.own [79, 117, 116, 79, 102, 79, 114, 100, 101, 114])) (.cons (.isx (.var 0) (.own [65, 112, 97, 114, 116])) (.cons (.isx (.var 0) (.own [78, 111, 116, 83, 101, 114, 118, 105, 110, 103])) .nil)))))) (.cons (.set 1 (.bin .add (.var 1) (.lst (.cons (.isx (.var 0) (.own [73, 110, 85, 115, 101])) (.cons (.isx (.var 0) (.own [84, 111, 111, 77, 97, 110, 121])) .nil))))) (.cons (.ret (.var 1)) .nil)))))))))))
def f__law_classes : Fn := ⟨1, false, [], 2, b__law_classes⟩
/-- _law_fields : _law_some _law_made -/
def b__law_fields : ISs := (.cons (.set 1 (.lst (.cons (.attr (.idx (.var 0) (.cst (.int 0))) [118, 97, 108, 117, 101]) (.cons (.attr (.idx (.var 0) (.cst (.int 1))) [118, 97, 108, 117, 101]) (.cons (.attr (.idx (.var 0) (.cst (.int 2))) [112, 111, 115, 105, 116, 105, 111, 110]) (.cons (.attr (.idx (.var 0) (.cst (.int 3))) [118, 97, 108, 117, 101]) (.cons (.attr (.idx (.var 0) (.cst (.int 4))) [118, 97, 108, 117, 101]) .nil))))))) (.cons (.set 1 (.bin .add (.var 1) (.lst (.cons (.attr (.idx (.var 0) (.cst (.int 5))) [112, 111, 115, 105, 116, 105, 111, 110]) (.cons (.attr (.idx (.var 0) (.cst (.int 6))) [112, 111, 115, 105, 116, 105, 111, 110]) (.cons (.attr (.idx (.var 0) (.cst (.int 7))) [112, 111, 115, 105, 116, 105, 111, 110]) (.cons (.attr (.idx (.var 0) (.cst (.int 8))) [112, 111, 115, 105, 116, 105, 111, 110]) (.cons (.attr (.idx (.var 0) (.cst (.int 9))) [112, 97, 114, 116]) .nil)))))))) (.cons (.set 1 (.bin .add (.var 1) (.lst (.cons (.attr (.idx (.var 0) (.cst (.int 9))) [112, 111, 115, 105, 116, 105, 111, 110]) (.cons (.attr (.idx (.var 0) (.cst (.int 10))) [112, 97, 116, 104]) (.cons (.attr (.idx (.var 0) (.cst (.int 12))) [112, 111, 115, 105, 116, 105, 111, 110]) (.cons (.attr (.idx (.var 0) (.cst (.int 13))) [112, 111, 115, 105, 116, 105, 111, 110]) (.cons (.attr (.idx (.var 0) (.cst (.int 14))) [118, 97, 108, 117, 101]) .nil)))))))) (.cons (.set 1 (.bin .add (.var 1) (.lst (.cons (.attr (.idx (.var 0) (.cst (.int 15))) [118, 97, 108, 117, 101]) (.cons (.attr (.idx (.var 0) (.cst (.int 16))) [118, 97, 108, 117, 101]) (.cons (.attr (.idx (.var 0) (.cst (.int 17))) [118, 97, 108, 117, 101]) (.cons (.attr (.idx (.var 0) (.cst (.int 18))) [118, 97, 108, 117, 101]) (.cons (.attr (.idx (.var 0) (.cst (.int 19))) [118, 97, 108, 117, 101]) .nil)))))))) (.cons (.set 1 (.bin .add (.var 1) (.lst (.cons (.attr (.idx (.var 0) (.cst (.int 20))) [118, 97, 108, 117, 101]) (.cons (.attr (.idx (.var 0) (.cst (.int 21))) [116, 97, 98, 108, 101]) (.cons (.attr (.idx (.var 0) (.cst (.int 21))) [112, 108, 97, 99, 101]) (.cons (.attr (.idx (.var 0) (.cst (.int 21))) [114, 117, 108, 101]) (.cons (.attr (.idx (.var 0) (.cst (.int 22))) [116, 97, 98, 108, 101]) .nil)))))))) (.cons (.set 1 (.bin .add (.var 1) (.lst (.cons (.attr (.idx (.var 0) (.cst (.int 22))) [111, 110, 101]) (.cons (.attr (.idx (.var 0) (.cst (.int 22))) [111, 116, 104, 101, 114]) (.cons (.attr (.idx (.var 0) (.cst (.int 22))) [114, 117, 108, 101]) (.cons (.attr (.idx (.var 0) (.cst (.int 24))) [112, 97, 116, 104]) (.cons (.attr (.idx (.var 0) (.cst (.int 25))) [112, 97, 116, 104]) (.cons (.attr (.idx (.var 0) (.cst (.int 28))) [107, 105, 110, 100]) .nil))))))))) (.cons (.set 1 (.bin .add (.var 1) (.lst (.cons (.attr (.idx (.var 0) (.cst (.int 28))) [108, 105, 109, 105, 116]) .nil)))) (.cons (.ret (.var 1)) .nil))))))))
def f__law_fields : Fn := ⟨1, false, [], 2, b__law_fields⟩
/-- _law_bases : _law_e _law_made -/
def b__law_bases : ISs := (.cons (.set 1 (.lst (.cons (.isx (.var 0) (.own [80, 97, 105, 114, 69, 114, 114, 111, 114])) (.cons (.isx (.var 0) (.ve)) (.cons (.isx (.var 0) (.le)) .nil))))) (.cons (.ret (.bin .add (.var 1) (.lst (.cons (.isx (.var 0) (.re)) (.cons (.isx (.var 0) (.ae)) .nil))))) .nil))
def f__law_bases : Fn := ⟨1, false, [], 2, b__law_bases⟩
/-- _law_due_bases : _law_at -/
def b__law_due_bases : ISs := (.cons (.ite (.cmp .lt (.var 0) (.cst (.int 17))) (.cons (.ret (.lst (.cons (.cst (.bl true)) (.cons (.cst (.bl true)) (.cons (.cst (.bl false)) (.cons (.cst (.bl false)) (.cons (.cst (.bl false)) .nil))))))) .nil) .nil) (.cons (.ret (.lst (.cons (.cst (.bl false)) (.cons (.cst (.bl false)) (.cons (.cmp .lt (.var 0) (.cst (.int 20))) (.cons (.chn .le .lt (.cst (.int 20)) (.var 0) (.cst (.int 28))) (.cons (.cmp .eq (.var 0) (.cst (.int 28))) .nil))))))) .nil))
def f__law_due_bases : Fn := ⟨1, false, [], 1, b__law_due_bases⟩
/-- _law_due_fields : _law_a _law_b _law_c _law_d _law_sizes _law_made _law_size -/
def b__law_due_fields : ISs := (.cons (.set 4 (.lst (.cons (.cst (.int 1)) (.cons (.cst (.int 1)) (.cons (.cst (.int 1)) (.cons (.cst (.int 1)) (.cons (.cst (.int 1)) (.cons (.cst (.int 1)) (.cons (.cst (.int 1)) (.cons (.cst (.int 1)) (.cons (.cst (.int 1)) (.cons (.cst (.int 2)) (.cons (.cst (.int 1)) (.cons (.cst (.int 0)) (.cons (.cst (.int 1)) (.cons (.cst (.int 1)) (.cons (.cst (.int 1)) (.cons (.cst (.int 1)) (.cons (.cst (.int 1)) (.cons (.cst (.int 1)) (.cons (.cst (.int 1)) (.cons (.cst (.int 1)) .nil)))))))))))))))))))))) (.cons (.set 4 (.bin .add (.var 4) (.lst (.cons (.cst (.int 1)) (.cons (.cst (.int 3)) (.cons (.cst (.int 4)) (.cons (.cst (.int 0)) (.cons (.cst (.int 1)) (.cons (.cst (.int 1)) (.cons (.cst (.int 0)) (.cons (.cst (.int 0)) (.cons (.cst (.int 2)) .nil)))))))))))) (.cons (.set 5 (.lst .nil)) (.cons (.loop (.nm 6) (.seq (.var 4)) (.cons (.ext 5 (.slc (.lst (.cons (.var 0) (.cons (.var 1) (.cons (.var 2) (.cons (.var 3) .nil))))) .no (.so (.var 6)))) .nil)) (.cons (.ret (.var 5)) .nil)))))
def f__law_due_fields : Fn := ⟨4, false, [], 7, b__law_due_fields⟩
/-- _law_right : _law_some _law_a _law_b _law_c _law_d _law_at _law_e _law_k -/
def b__law_right : ISs := (.cons (.loop (.tp [5, 6]) (.enm (.cons (.var 0) .nil)) (.cons (.ite (.or (.cmp .ne (.call 6 [0] (.cons (.var 6) .nil)) (.lcm (.cmp .eq (.var 5) (.var 7)) (.nm 7) (.rng (.cons (.bi .len (.cons (.var 0) .nil)) .nil)) .no)) (.cmp .ne (.call 8 [0] (.cons (.var 6) .nil)) (.call 9 [0] (.cons (.var 5) .nil)))) (.cons (.ret (.cst (.bl false))) .nil) .nil) .nil)) (.cons (.ret (.cmp .eq (.bi .repr (.cons (.call 7 [0] (.cons (.var 0) .nil)) .nil)) (.bi .repr (.cons (.call 10 [0, 1, 2, 3] (.cons (.var 1) (.cons (.var 2) (.cons (.var 3) (.cons (.var 4) .nil))))) .nil)))) .nil))
def f__law_right : Fn := ⟨5, false, [], 8, b__law_right⟩
/-- law : _law_script _law_k _law_rng_here _law_a _law_b _law_c _law_d _law_some _law_others _law_turn -/
def b_law : ISs := (.cons (.loop (.nm 1) (.rng (.cons (.bi .max2 (.cons (.cst (.int 1)) (.cons (.bi .min2 (.cons (.bi .len (.cons (.var 0) .nil)) (.cons (.cst (.int 6)) .nil))) .nil))) .nil)) (.cons (.set 2 (.call 0 [0, 1] (.cons (.var 0) (.cons (.var 1) .nil)))) (.cons (.setT [.nm 3, .nm 4, .nm 5, .nm 6] (.lcm (.call 3 [0] (.cons (.var 2) .nil)) (.nm 9) (.rng (.cons (.cst (.int 4)) .nil)) .no)) (.cons (.par 7 8 (.cons (.call 4 [0, 1, 2, 3] (.cons (.var 3) (.cons (.var 4) (.cons (.var 5) (.cons (.var 6) .nil))))) (.cons (.call 5 [0, 1, 2, 3] (.cons (.var 6) (.cons (.var 5) (.cons (.var 4) (.cons (.var 3) .nil))))) .nil))) (.cons (.ite (.or (.not (.call 11 [0, 1, 2, 3, 4] (.cons (.var 7) (.cons (.var 3) (.cons (.var 4) (.cons (.var 5) (.cons (.var 6) .nil))))))) (.not (.call 11 [0, 1, 2, 3, 4] (.cons (.var 8) (.cons (.var 6) (.cons (.var 5) (.cons (.var 4) (.cons (.var 3) .nil)))))))) (.cons (.ret (.cst (.bl false))) .nil) .nil) (.cons (.ite (.not (.call 11 [0, 1, 2, 3, 4] (.cons (.call 5 [0, 1, 2, 3] (.cons (.var 3) (.cons (.var 4) (.cons (.var 5) (.cons (.var 6) .nil))))) (.cons (.var 3) (.cons (.var 4) (.cons (.var 5) (.cons (.var 6) .nil))))))) (.cons (.ret (.cst (.bl false))) .nil) .nil) .nil)))))) (.cons (.ret (.cst (.bl true))) .nil))
def f_law : Fn := ⟨1, false, [], 10, b_law⟩
def fns : List Fn := [f__law_rng, f__law_draw, f__law_choice, f__law_thing, f__law_by_position, f__law_by_name, f__law_classes, f__law_fields, f__law_bases, f__law_due_bases, f__law_due_fields, f__law_right, f_law]
def cstL : List D := []
def askL : List Cl := .own [84, 111, 111, 77, 97, 110, 121] :: .own [73, 110, 85, 115, 101] :: .own [78, 111, 116, 83, 101, 114, 118, 105, 110, 103] :: .own [65, 112, 97, 114, 116] :: .own [79, 117, 116, 79, 102, 79, 114, 100, 101, 114] :: .own [85, 110, 108, 105, 107, 101] :: .own [80, 97, 105, 114, 66, 114, 111, 107, 101, 110] :: .own [82, 117, 108, 101, 66, 114, 111, 107, 101, 110] :: .own [78, 97, 109, 101, 84, 97, 107, 101, 110] :: .own [85, 110, 107, 110, 111, 119, 110, 78, 97, 109, 101] :: .own [85, 110, 107, 110, 111, 119, 110, 80, 108, 97, 99, 101] :: .own [85, 110, 107, 110, 111, 119, 110, 84, 97, 98, 108, 101] :: .own [73, 110, 118, 97, 108, 105, 100, 67, 111, 109, 109, 97, 110, 100] :: .own [73, 110, 118, 97, 108, 105, 100, 84, 111, 107, 101, 110] :: .own [73, 110, 118, 97, 108, 105, 100, 84, 101, 120, 116] :: .own [73, 110, 118, 97, 108, 105, 100, 87, 114, 105, 116, 101] :: .own [73, 110, 118, 97, 108, 105, 100, 79, 102, 102, 101, 114] :: .own [73, 110, 118, 97, 108, 105, 100, 81, 117, 101, 115, 116, 105, 111, 110] :: .own [73, 110, 118, 97, 108, 105, 100, 80, 108, 97, 110] :: .own [73, 110, 118, 97, 108, 105, 100, 81, 117, 101, 114, 121] :: .own [73, 110, 118, 97, 108, 105, 100, 82, 111, 119] :: .own [73, 110, 118, 97, 108, 105, 100, 84, 97, 98, 108, 101] :: .own [73, 110, 118, 97, 108, 105, 100, 82, 117, 108, 101] :: .own [73, 110, 118, 97, 108, 105, 100, 67, 111, 108, 117, 109, 110, 115] :: .own [73, 110, 118, 97, 108, 105, 100, 78, 97, 109, 101] :: .own [73, 110, 118, 97, 108, 105, 100, 67, 111, 117, 110, 116] :: .own [73, 110, 118, 97, 108, 105, 100, 79, 114, 100, 101, 114] :: .own [73, 110, 118, 97, 108, 105, 100, 86, 101, 99, 116, 111, 114] :: .own [73, 110, 118, 97, 108, 105, 100, 86, 97, 108, 117, 101] :: .ae :: .re :: .le :: .ve :: .own [80, 97, 105, 114, 69, 114, 114, 111, 114] :: []
def clR : List (Tx × List Cl) := ([65, 112, 97, 114, 116], [.own [65, 112, 97, 114, 116], .re]) :: ([73, 110, 85, 115, 101], [.own [73, 110, 85, 115, 101], .re]) :: ([73, 110, 118, 97, 108, 105, 100, 67, 111, 108, 117, 109, 110, 115], [.own [73, 110, 118, 97, 108, 105, 100, 67, 111, 108, 117, 109, 110, 115], .ve, .own [80, 97, 105, 114, 69, 114, 114, 111, 114]]) :: ([73, 110, 118, 97, 108, 105, 100, 67, 111, 109, 109, 97, 110, 100], [.own [73, 110, 118, 97, 108, 105, 100, 67, 111, 109, 109, 97, 110, 100], .ve, .own [80, 97, 105, 114, 69, 114, 114, 111, 114]]) :: ([73, 110, 118, 97, 108, 105, 100, 67, 111, 117, 110, 116], [.own [73, 110, 118, 97, 108, 105, 100, 67, 111, 117, 110, 116], .ve, .own [80, 97, 105, 114, 69, 114, 114, 111, 114]]) :: ([73, 110, 118, 97, 108, 105, 100, 78, 97, 109, 101], [.own [73, 110, 118, 97, 108, 105, 100, 78, 97, 109, 101], .ve, .own [80, 97, 105, 114, 69, 114, 114, 111, 114]]) :: ([73, 110, 118, 97, 108, 105, 100, 79, 102, 102, 101, 114], [.own [73, 110, 118, 97, 108, 105, 100, 79, 102, 102, 101, 114], .ve, .own [80, 97, 105, 114, 69, 114, 114, 111, 114]]) :: ([73, 110, 118, 97, 108, 105, 100, 79, 114, 100, 101, 114], [.own [73, 110, 118, 97, 108, 105, 100, 79, 114, 100, 101, 114], .ve, .own [80, 97, 105, 114, 69, 114, 114, 111, 114]]) :: ([73, 110, 118, 97, 108, 105, 100, 80, 108, 97, 110], [.own [73, 110, 118, 97, 108, 105, 100, 80, 108, 97, 110], .ve, .own [80, 97, 105, 114, 69, 114, 114, 111, 114]]) :: ([73, 110, 118, 97, 108, 105, 100, 81, 117, 101, 114, 121], [.own [73, 110, 118, 97, 108, 105, 100, 81, 117, 101, 114, 121], .ve, .own [80, 97, 105, 114, 69, 114, 114, 111, 114]]) :: ([73, 110, 118, 97, 108, 105, 100, 81, 117, 101, 115, 116, 105, 111, 110], [.own [73, 110, 118, 97, 108, 105, 100, 81, 117, 101, 115, 116, 105, 111, 110], .ve, .own [80, 97, 105, 114, 69, 114, 114, 111, 114]]) :: ([73, 110, 118, 97, 108, 105, 100, 82, 111, 119], [.own [73, 110, 118, 97, 108, 105, 100, 82, 111, 119], .ve, .own [80, 97, 105, 114, 69, 114, 114, 111, 114]]) :: ([73, 110, 118, 97, 108, 105, 100, 82, 117, 108, 101], [.own [73, 110, 118, 97, 108, 105, 100, 82, 117, 108, 101], .ve, .own [80, 97, 105, 114, 69, 114, 114, 111, 114]]) :: ([73, 110, 118, 97, 108, 105, 100, 84, 97, 98, 108, 101], [.own [73, 110, 118, 97, 108, 105, 100, 84, 97, 98, 108, 101], .ve, .own [80, 97, 105, 114, 69, 114, 114, 111, 114]]) :: ([73, 110, 118, 97, 108, 105, 100, 84, 101, 120, 116], [.own [73, 110, 118, 97, 108, 105, 100, 84, 101, 120, 116], .ve, .own [80, 97, 105, 114, 69, 114, 114, 111, 114]]) :: ([73, 110, 118, 97, 108, 105, 100, 84, 111, 107, 101, 110], [.own [73, 110, 118, 97, 108, 105, 100, 84, 111, 107, 101, 110], .ve, .own [80, 97, 105, 114, 69, 114, 114, 111, 114]]) :: ([73, 110, 118, 97, 108, 105, 100, 86, 97, 108, 117, 101], [.own [73, 110, 118, 97, 108, 105, 100, 86, 97, 108, 117, 101], .ve, .own [80, 97, 105, 114, 69, 114, 114, 111, 114]]) :: ([73, 110, 118, 97, 108, 105, 100, 86, 101, 99, 116, 111, 114], [.own [73, 110, 118, 97, 108, 105, 100, 86, 101, 99, 116, 111, 114], .ve, .own [80, 97, 105, 114, 69, 114, 114, 111, 114]]) :: ([73, 110, 118, 97, 108, 105, 100, 87, 114, 105, 116, 101], [.own [73, 110, 118, 97, 108, 105, 100, 87, 114, 105, 116, 101], .ve, .own [80, 97, 105, 114, 69, 114, 114, 111, 114]]) :: ([78, 97, 109, 101, 84, 97, 107, 101, 110], [.own [78, 97, 109, 101, 84, 97, 107, 101, 110], .re]) :: ([78, 111, 116, 83, 101, 114, 118, 105, 110, 103], [.own [78, 111, 116, 83, 101, 114, 118, 105, 110, 103], .re]) :: ([79, 117, 116, 79, 102, 79, 114, 100, 101, 114], [.own [79, 117, 116, 79, 102, 79, 114, 100, 101, 114], .re]) :: ([80, 97, 105, 114, 66, 114, 111, 107, 101, 110], [.own [80, 97, 105, 114, 66, 114, 111, 107, 101, 110], .re]) :: ([82, 117, 108, 101, 66, 114, 111, 107, 101, 110], [.own [82, 117, 108, 101, 66, 114, 111, 107, 101, 110], .re]) :: ([84, 111, 111, 77, 97, 110, 121], [.own [84, 111, 111, 77, 97, 110, 121], .ae]) :: ([85, 110, 107, 110, 111, 119, 110, 78, 97, 109, 101], [.own [85, 110, 107, 110, 111, 119, 110, 78, 97, 109, 101], .le]) :: ([85, 110, 107, 110, 111, 119, 110, 80, 108, 97, 99, 101], [.own [85, 110, 107, 110, 111, 119, 110, 80, 108, 97, 99, 101], .le]) :: ([85, 110, 107, 110, 111, 119, 110, 84, 97, 98, 108, 101], [.own [85, 110, 107, 110, 111, 119, 110, 84, 97, 98, 108, 101], .le]) :: ([85, 110, 108, 105, 107, 101], [.own [85, 110, 108, 105, 107, 101], .re]) :: []
def clT (c : Tx) (k : Cl) : Option Bool := clOf clR askL c k
def initT (c : Tx) (ds : List D) : Option (List (Tx × D)) :=
  if c = [65, 112, 97, 114, 116] then (match ds with | [d0] => some [([112, 97, 116, 104], d0)] | _ => none) else
  if c = [73, 110, 85, 115, 101] then (match ds with | [] => some [] | _ => none) else
  if c = [73, 110, 118, 97, 108, 105, 100, 67, 111, 108, 117, 109, 110, 115] then (match ds with | [d0] => some [([112, 111, 115, 105, 116, 105, 111, 110], d0)] | _ => none) else
  if c = [73, 110, 118, 97, 108, 105, 100, 67, 111, 109, 109, 97, 110, 100] then (match ds with | [d0] => some [([118, 97, 108, 117, 101], d0)] | _ => none) else
  if c = [73, 110, 118, 97, 108, 105, 100, 67, 111, 117, 110, 116] then (match ds with | [d0] => some [([118, 97, 108, 117, 101], d0)] | _ => none) else
  if c = [73, 110, 118, 97, 108, 105, 100, 78, 97, 109, 101] then (match ds with | [d0] => some [([118, 97, 108, 117, 101], d0)] | _ => none) else
  if c = [73, 110, 118, 97, 108, 105, 100, 79, 102, 102, 101, 114] then (match ds with | [d0] => some [([112, 111, 115, 105, 116, 105, 111, 110], d0)] | _ => none) else
  if c = [73, 110, 118, 97, 108, 105, 100, 79, 114, 100, 101, 114] then (match ds with | [d0] => some [([112, 111, 115, 105, 116, 105, 111, 110], d0)] | _ => none) else
  if c = [73, 110, 118, 97, 108, 105, 100, 80, 108, 97, 110] then (match ds with | [d0] => some [([112, 97, 116, 104], d0)] | _ => none) else
  if c = [73, 110, 118, 97, 108, 105, 100, 81, 117, 101, 114, 121] then (match ds with | [d0, d1] => some [([112, 111, 115, 105, 116, 105, 111, 110], d1), ([112, 97, 114, 116], d0)] | _ => none) else
  if c = [73, 110, 118, 97, 108, 105, 100, 81, 117, 101, 115, 116, 105, 111, 110] then (match ds with | [] => some [] | _ => none) else
  if c = [73, 110, 118, 97, 108, 105, 100, 82, 111, 119] then (match ds with | [d0] => some [([112, 111, 115, 105, 116, 105, 111, 110], d0)] | _ => none) else
  if c = [73, 110, 118, 97, 108, 105, 100, 82, 117, 108, 101] then (match ds with | [d0] => some [([112, 111, 115, 105, 116, 105, 111, 110], d0)] | _ => none) else
  if c = [73, 110, 118, 97, 108, 105, 100, 84, 97, 98, 108, 101] then (match ds with | [d0] => some [([112, 111, 115, 105, 116, 105, 111, 110], d0)] | _ => none) else
  if c = [73, 110, 118, 97, 108, 105, 100, 84, 101, 120, 116] then (match ds with | [d0] => some [([118, 97, 108, 117, 101], d0)] | _ => none) else
  if c = [73, 110, 118, 97, 108, 105, 100, 84, 111, 107, 101, 110] then (match ds with | [d0] => some [([118, 97, 108, 117, 101], d0)] | _ => none) else
  if c = [73, 110, 118, 97, 108, 105, 100, 86, 97, 108, 117, 101] then (match ds with | [d0] => some [([118, 97, 108, 117, 101], d0)] | _ => none) else
  if c = [73, 110, 118, 97, 108, 105, 100, 86, 101, 99, 116, 111, 114] then (match ds with | [d0] => some [([118, 97, 108, 117, 101], d0)] | _ => none) else
  if c = [73, 110, 118, 97, 108, 105, 100, 87, 114, 105, 116, 101] then (match ds with | [d0] => some [([112, 111, 115, 105, 116, 105, 111, 110], d0)] | _ => none) else
  if c = [78, 97, 109, 101, 84, 97, 107, 101, 110] then (match ds with | [d0] => some [([118, 97, 108, 117, 101], d0)] | _ => none) else
  if c = [78, 111, 116, 83, 101, 114, 118, 105, 110, 103] then (match ds with | [] => some [] | _ => none) else
  if c = [79, 117, 116, 79, 102, 79, 114, 100, 101, 114] then (match ds with | [d0] => some [([112, 97, 116, 104], d0)] | _ => none) else
  if c = [80, 97, 105, 114, 66, 114, 111, 107, 101, 110] then (match ds with | [d0, d1, d2, d3] => some [([114, 117, 108, 101], d3), ([111, 116, 104, 101, 114], d2), ([111, 110, 101], d1), ([116, 97, 98, 108, 101], d0)] | _ => none) else
  if c = [82, 117, 108, 101, 66, 114, 111, 107, 101, 110] then (match ds with | [d0, d1, d2] => some [([114, 117, 108, 101], d2), ([112, 108, 97, 99, 101], d1), ([116, 97, 98, 108, 101], d0)] | _ => none) else
  if c = [84, 111, 111, 77, 97, 110, 121] then (match ds with | [d0, d1] => some [([108, 105, 109, 105, 116], d1), ([107, 105, 110, 100], d0)] | _ => none) else
  if c = [85, 110, 107, 110, 111, 119, 110, 78, 97, 109, 101] then (match ds with | [d0] => some [([118, 97, 108, 117, 101], d0)] | _ => none) else
  if c = [85, 110, 107, 110, 111, 119, 110, 80, 108, 97, 99, 101] then (match ds with | [d0] => some [([118, 97, 108, 117, 101], d0)] | _ => none) else
  if c = [85, 110, 107, 110, 111, 119, 110, 84, 97, 98, 108, 101] then (match ds with | [d0] => some [([118, 97, 108, 117, 101], d0)] | _ => none) else
  if c = [85, 110, 108, 105, 107, 101] then (match ds with | [] => some [] | _ => none) else
  none
def pg : Pg := ⟨clT, fns, cstL, initT⟩
def xclL : List (Str × Cl) := ("TooMany", Cl.own [84, 111, 111, 77, 97, 110, 121]) :: ("InUse", Cl.own [73, 110, 85, 115, 101]) :: ("NotServing", Cl.own [78, 111, 116, 83, 101, 114, 118, 105, 110, 103]) :: ("Apart", Cl.own [65, 112, 97, 114, 116]) :: ("OutOfOrder", Cl.own [79, 117, 116, 79, 102, 79, 114, 100, 101, 114]) :: ("Unlike", Cl.own [85, 110, 108, 105, 107, 101]) :: ("PairBroken", Cl.own [80, 97, 105, 114, 66, 114, 111, 107, 101, 110]) :: ("RuleBroken", Cl.own [82, 117, 108, 101, 66, 114, 111, 107, 101, 110]) :: ("NameTaken", Cl.own [78, 97, 109, 101, 84, 97, 107, 101, 110]) :: ("UnknownName", Cl.own [85, 110, 107, 110, 111, 119, 110, 78, 97, 109, 101]) :: ("UnknownPlace", Cl.own [85, 110, 107, 110, 111, 119, 110, 80, 108, 97, 99, 101]) :: ("UnknownTable", Cl.own [85, 110, 107, 110, 111, 119, 110, 84, 97, 98, 108, 101]) :: ("InvalidCommand", Cl.own [73, 110, 118, 97, 108, 105, 100, 67, 111, 109, 109, 97, 110, 100]) :: ("InvalidToken", Cl.own [73, 110, 118, 97, 108, 105, 100, 84, 111, 107, 101, 110]) :: ("InvalidText", Cl.own [73, 110, 118, 97, 108, 105, 100, 84, 101, 120, 116]) :: ("InvalidWrite", Cl.own [73, 110, 118, 97, 108, 105, 100, 87, 114, 105, 116, 101]) :: ("InvalidOffer", Cl.own [73, 110, 118, 97, 108, 105, 100, 79, 102, 102, 101, 114]) :: ("InvalidQuestion", Cl.own [73, 110, 118, 97, 108, 105, 100, 81, 117, 101, 115, 116, 105, 111, 110]) :: ("InvalidPlan", Cl.own [73, 110, 118, 97, 108, 105, 100, 80, 108, 97, 110]) :: ("InvalidQuery", Cl.own [73, 110, 118, 97, 108, 105, 100, 81, 117, 101, 114, 121]) :: ("InvalidRow", Cl.own [73, 110, 118, 97, 108, 105, 100, 82, 111, 119]) :: ("InvalidTable", Cl.own [73, 110, 118, 97, 108, 105, 100, 84, 97, 98, 108, 101]) :: ("InvalidRule", Cl.own [73, 110, 118, 97, 108, 105, 100, 82, 117, 108, 101]) :: ("InvalidColumns", Cl.own [73, 110, 118, 97, 108, 105, 100, 67, 111, 108, 117, 109, 110, 115]) :: ("InvalidName", Cl.own [73, 110, 118, 97, 108, 105, 100, 78, 97, 109, 101]) :: ("InvalidCount", Cl.own [73, 110, 118, 97, 108, 105, 100, 67, 111, 117, 110, 116]) :: ("InvalidOrder", Cl.own [73, 110, 118, 97, 108, 105, 100, 79, 114, 100, 101, 114]) :: ("InvalidVector", Cl.own [73, 110, 118, 97, 108, 105, 100, 86, 101, 99, 116, 111, 114]) :: ("InvalidValue", Cl.own [73, 110, 118, 97, 108, 105, 100, 86, 97, 108, 117, 101]) :: ("ArithmeticError", Cl.ae) :: ("RuntimeError", Cl.re) :: ("LookupError", Cl.le) :: ("ValueError", Cl.ve) :: ("PairError", Cl.own [80, 97, 105, 114, 69, 114, 114, 111, 114]) :: []
def mksL : List (Str × Tx) := ("Apart", [65, 112, 97, 114, 116]) :: ("InUse", [73, 110, 85, 115, 101]) :: ("InvalidColumns", [73, 110, 118, 97, 108, 105, 100, 67, 111, 108, 117, 109, 110, 115]) :: ("InvalidCommand", [73, 110, 118, 97, 108, 105, 100, 67, 111, 109, 109, 97, 110, 100]) :: ("InvalidCount", [73, 110, 118, 97, 108, 105, 100, 67, 111, 117, 110, 116]) :: ("InvalidName", [73, 110, 118, 97, 108, 105, 100, 78, 97, 109, 101]) :: ("InvalidOffer", [73, 110, 118, 97, 108, 105, 100, 79, 102, 102, 101, 114]) :: ("InvalidOrder", [73, 110, 118, 97, 108, 105, 100, 79, 114, 100, 101, 114]) :: ("InvalidPlan", [73, 110, 118, 97, 108, 105, 100, 80, 108, 97, 110]) :: ("InvalidQuery", [73, 110, 118, 97, 108, 105, 100, 81, 117, 101, 114, 121]) :: ("InvalidQuestion", [73, 110, 118, 97, 108, 105, 100, 81, 117, 101, 115, 116, 105, 111, 110]) :: ("InvalidRow", [73, 110, 118, 97, 108, 105, 100, 82, 111, 119]) :: ("InvalidRule", [73, 110, 118, 97, 108, 105, 100, 82, 117, 108, 101]) :: ("InvalidTable", [73, 110, 118, 97, 108, 105, 100, 84, 97, 98, 108, 101]) :: ("InvalidText", [73, 110, 118, 97, 108, 105, 100, 84, 101, 120, 116]) :: ("InvalidToken", [73, 110, 118, 97, 108, 105, 100, 84, 111, 107, 101, 110]) :: ("InvalidValue", [73, 110, 118, 97, 108, 105, 100, 86, 97, 108, 117, 101]) :: ("InvalidVector", [73, 110, 118, 97, 108, 105, 100, 86, 101, 99, 116, 111, 114]) :: ("InvalidWrite", [73, 110, 118, 97, 108, 105, 100, 87, 114, 105, 116, 101]) :: ("NameTaken", [78, 97, 109, 101, 84, 97, 107, 101, 110]) :: ("NotServing", [78, 111, 116, 83, 101, 114, 118, 105, 110, 103]) :: ("OutOfOrder", [79, 117, 116, 79, 102, 79, 114, 100, 101, 114]) :: ("PairBroken", [80, 97, 105, 114, 66, 114, 111, 107, 101, 110]) :: ("RuleBroken", [82, 117, 108, 101, 66, 114, 111, 107, 101, 110]) :: ("TooMany", [84, 111, 111, 77, 97, 110, 121]) :: ("UnknownName", [85, 110, 107, 110, 111, 119, 110, 78, 97, 109, 101]) :: ("UnknownPlace", [85, 110, 107, 110, 111, 119, 110, 80, 108, 97, 99, 101]) :: ("UnknownTable", [85, 110, 107, 110, 111, 119, 110, 84, 97, 98, 108, 101]) :: ("Unlike", [85, 110, 108, 105, 107, 101]) :: []
def mkkL : List (Str × List Str) := ("Apart", ["path"]) :: ("InvalidColumns", ["position"]) :: ("InvalidCommand", ["value"]) :: ("InvalidCount", ["value"]) :: ("InvalidName", ["value"]) :: ("InvalidOffer", ["position"]) :: ("InvalidOrder", ["position"]) :: ("InvalidPlan", ["path"]) :: ("InvalidQuery", ["part", "position"]) :: ("InvalidRow", ["position"]) :: ("InvalidRule", ["position"]) :: ("InvalidTable", ["position"]) :: ("InvalidText", ["value"]) :: ("InvalidToken", ["value"]) :: ("InvalidValue", ["value"]) :: ("InvalidVector", ["value"]) :: ("InvalidWrite", ["position"]) :: ("NameTaken", ["value"]) :: ("OutOfOrder", ["path"]) :: ("PairBroken", ["table", "one", "other", "rule"]) :: ("RuleBroken", ["table", "place", "rule"]) :: ("TooMany", ["kind", "limit"]) :: ("UnknownName", ["value"]) :: ("UnknownPlace", ["value"]) :: ("UnknownTable", ["value"]) :: []
def patL : List (Nat × Nat × List Str × List Nat) := (1, 2, [], [0, 1]) :: (2, 2, [], [0, 1]) :: (7, 1, [], [0]) :: (10, 4, [], [0, 1, 2, 3]) :: (8, 1, [], [0]) :: (9, 1, [], [0]) :: (6, 1, [], [0]) :: (11, 5, [], [0, 1, 2, 3, 4]) :: (5, 4, [], [0, 1, 2, 3]) :: (4, 4, [], [0, 1, 2, 3]) :: (3, 1, [], [0]) :: (0, 2, [], [0, 1]) :: []
def T : Tb := ⟨[], ["_law_rng", "_law_draw", "_law_choice", "_law_thing", "_law_by_position", "_law_by_name", "_law_classes", "_law_fields", "_law_bases", "_law_due_bases", "_law_due_fields", "_law_right", "law"], patL, xclL, mksL, ["abs", "divmod", "enumerate", "int", "isinstance", "len", "max", "min", "range", "repr"], ["kind", "limit", "one", "other", "part", "path", "place", "position", "rule", "table", "value"], [], mkkL⟩
def madeL : List Tx := [65, 112, 97, 114, 116] :: [73, 110, 85, 115, 101] :: [73, 110, 118, 97, 108, 105, 100, 67, 111, 108, 117, 109, 110, 115] :: [73, 110, 118, 97, 108, 105, 100, 67, 111, 109, 109, 97, 110, 100] :: [73, 110, 118, 97, 108, 105, 100, 67, 111, 117, 110, 116] :: [73, 110, 118, 97, 108, 105, 100, 78, 97, 109, 101] :: [73, 110, 118, 97, 108, 105, 100, 79, 102, 102, 101, 114] :: [73, 110, 118, 97, 108, 105, 100, 79, 114, 100, 101, 114] :: [73, 110, 118, 97, 108, 105, 100, 80, 108, 97, 110] :: [73, 110, 118, 97, 108, 105, 100, 81, 117, 101, 114, 121] :: [73, 110, 118, 97, 108, 105, 100, 81, 117, 101, 115, 116, 105, 111, 110] :: [73, 110, 118, 97, 108, 105, 100, 82, 111, 119] :: [73, 110, 118, 97, 108, 105, 100, 82, 117, 108, 101] :: [73, 110, 118, 97, 108, 105, 100, 84, 97, 98, 108, 101] :: [73, 110, 118, 97, 108, 105, 100, 84, 101, 120, 116] :: [73, 110, 118, 97, 108, 105, 100, 84, 111, 107, 101, 110] :: [73, 110, 118, 97, 108, 105, 100, 86, 97, 108, 117, 101] :: [73, 110, 118, 97, 108, 105, 100, 86, 101, 99, 116, 111, 114] :: [73, 110, 118, 97, 108, 105, 100, 87, 114, 105, 116, 101] :: [78, 97, 109, 101, 84, 97, 107, 101, 110] :: [78, 111, 116, 83, 101, 114, 118, 105, 110, 103] :: [79, 117, 116, 79, 102, 79, 114, 100, 101, 114] :: [80, 97, 105, 114, 66, 114, 111, 107, 101, 110] :: [82, 117, 108, 101, 66, 114, 111, 107, 101, 110] :: [84, 111, 111, 77, 97, 110, 121] :: [85, 110, 107, 110, 111, 119, 110, 78, 97, 109, 101] :: [85, 110, 107, 110, 111, 119, 110, 80, 108, 97, 99, 101] :: [85, 110, 107, 110, 111, 119, 110, 84, 97, 98, 108, 101] :: [85, 110, 108, 105, 107, 101] :: []
def N__law_rng : List Str := ["_law_script", "_law_k", "_law_cell"]
def N__law_draw : List Str := ["_law_rng_here", "_law_many", "_law_digit", "_law_mixed"]
def N__law_choice : List Str := ["_law_rng_here", "_law_options"]
def N__law_thing : List Str := ["_law_rng_here", "_law_some"]
def N__law_by_position : List Str := ["_law_a", "_law_b", "_law_c", "_law_d", "_law_made"]
def N__law_by_name : List Str := ["_law_a", "_law_b", "_law_c", "_law_d", "_law_made"]
def N__law_classes : List Str := ["_law_e", "_law_made"]
def N__law_fields : List Str := ["_law_some", "_law_made"]
def N__law_bases : List Str := ["_law_e", "_law_made"]
def N__law_due_bases : List Str := ["_law_at"]
def N__law_due_fields : List Str := ["_law_a", "_law_b", "_law_c", "_law_d", "_law_sizes", "_law_made", "_law_size"]
def N__law_right : List Str := ["_law_some", "_law_a", "_law_b", "_law_c", "_law_d", "_law_at", "_law_e", "_law_k"]
def N_law : List Str := ["_law_script", "_law_k", "_law_rng_here", "_law_a", "_law_b", "_law_c", "_law_d", "_law_some", "_law_others", "_law_turn"]
end K11
set_option maxRecDepth 100000
set_option maxHeartbeats 7900000
/-! The plain law of k11 (printed by wip/m11.py). -/
namespace K11
open Pi
def errs (a b c d : D) : List D := D.exc [73, 110, 118, 97, 108, 105, 100, 86, 97, 108, 117, 101] [([118, 97, 108, 117, 101], a)] :: D.exc [73, 110, 118, 97, 108, 105, 100, 86, 101, 99, 116, 111, 114] [([118, 97, 108, 117, 101], a)] :: D.exc [73, 110, 118, 97, 108, 105, 100, 79, 114, 100, 101, 114] [([112, 111, 115, 105, 116, 105, 111, 110], a)] :: D.exc [73, 110, 118, 97, 108, 105, 100, 67, 111, 117, 110, 116] [([118, 97, 108, 117, 101], a)] :: D.exc [73, 110, 118, 97, 108, 105, 100, 78, 97, 109, 101] [([118, 97, 108, 117, 101], a)] :: D.exc [73, 110, 118, 97, 108, 105, 100, 67, 111, 108, 117, 109, 110, 115] [([112, 111, 115, 105, 116, 105, 111, 110], a)] :: D.exc [73, 110, 118, 97, 108, 105, 100, 82, 117, 108, 101] [([112, 111, 115, 105, 116, 105, 111, 110], a)] :: D.exc [73, 110, 118, 97, 108, 105, 100, 84, 97, 98, 108, 101] [([112, 111, 115, 105, 116, 105, 111, 110], a)] :: D.exc [73, 110, 118, 97, 108, 105, 100, 82, 111, 119] [([112, 111, 115, 105, 116, 105, 111, 110], a)] :: D.exc [73, 110, 118, 97, 108, 105, 100, 81, 117, 101, 114, 121] [([112, 111, 115, 105, 116, 105, 111, 110], b), ([112, 97, 114, 116], a)] :: D.exc [73, 110, 118, 97, 108, 105, 100, 80, 108, 97, 110] [([112, 97, 116, 104], a)] :: D.exc [73, 110, 118, 97, 108, 105, 100, 81, 117, 101, 115, 116, 105, 111, 110] [] :: D.exc [73, 110, 118, 97, 108, 105, 100, 79, 102, 102, 101, 114] [([112, 111, 115, 105, 116, 105, 111, 110], a)] :: D.exc [73, 110, 118, 97, 108, 105, 100, 87, 114, 105, 116, 101] [([112, 111, 115, 105, 116, 105, 111, 110], a)] :: D.exc [73, 110, 118, 97, 108, 105, 100, 84, 101, 120, 116] [([118, 97, 108, 117, 101], a)] :: D.exc [73, 110, 118, 97, 108, 105, 100, 84, 111, 107, 101, 110] [([118, 97, 108, 117, 101], a)] :: D.exc [73, 110, 118, 97, 108, 105, 100, 67, 111, 109, 109, 97, 110, 100] [([118, 97, 108, 117, 101], a)] :: D.exc [85, 110, 107, 110, 111, 119, 110, 84, 97, 98, 108, 101] [([118, 97, 108, 117, 101], a)] :: D.exc [85, 110, 107, 110, 111, 119, 110, 80, 108, 97, 99, 101] [([118, 97, 108, 117, 101], a)] :: D.exc [85, 110, 107, 110, 111, 119, 110, 78, 97, 109, 101] [([118, 97, 108, 117, 101], a)] :: D.exc [78, 97, 109, 101, 84, 97, 107, 101, 110] [([118, 97, 108, 117, 101], a)] :: D.exc [82, 117, 108, 101, 66, 114, 111, 107, 101, 110] [([114, 117, 108, 101], c), ([112, 108, 97, 99, 101], b), ([116, 97, 98, 108, 101], a)] :: D.exc [80, 97, 105, 114, 66, 114, 111, 107, 101, 110] [([114, 117, 108, 101], d), ([111, 116, 104, 101, 114], c), ([111, 110, 101], b), ([116, 97, 98, 108, 101], a)] :: D.exc [85, 110, 108, 105, 107, 101] [] :: D.exc [79, 117, 116, 79, 102, 79, 114, 100, 101, 114] [([112, 97, 116, 104], a)] :: D.exc [65, 112, 97, 114, 116] [([112, 97, 116, 104], a)] :: D.exc [78, 111, 116, 83, 101, 114, 118, 105, 110, 103] [] :: D.exc [73, 110, 85, 115, 101] [] :: D.exc [84, 111, 111, 77, 97, 110, 121] [([108, 105, 109, 105, 116], b), ([107, 105, 110, 100], a)] :: []
def flD (a b c d : D) : List D := a :: a :: a :: a :: a :: a :: a :: a :: a :: a :: b :: a :: a :: a :: a :: a :: a :: a :: a :: a :: a :: a :: b :: c :: a :: b :: c :: d :: a :: a :: a :: b :: []
theorem r_pos (a b c d : D) : pg.run 7 4 [a, b, c, d] [] = .ok (.fresh (errs a b c d)) [] := by kernel_rfl
theorem r_nam (a b c d : D) : pg.run 7 5 [a, b, c, d] [] = .ok (.fresh (errs a b c d)) [] := by kernel_rfl
theorem r_fld (a b c d : D) : pg.run 6 7 [.lst (errs a b c d)] [] = .ok (.fresh (flD a b c d)) [] := by kernel_rfl
theorem r_due (a b c d : D) : pg.run 6 10 [a, b, c, d] [] = .ok (.fresh (flD a b c d)) [] := by kernel_rfl
def wx : Wd := pg.wd 6
def bLoop : IS := match b__law_right with | .cons s _ => s | .nil => .pass
def bEnd : ISs := match b__law_right with | .cons _ r => r | .nil => .nil
theorem bRt : b__law_right = .cons bLoop bEnd := rfl
def last (a b c d : D) : Fr := ⟨[.val (.lst (errs a b c d)), .val a, .val b, .val c, .val d, .val (.int 28), .val (D.exc [84, 111, 111, 77, 97, 110, 121] [([108, 105, 109, 105, 116], b), ([107, 105, 110, 100], a)]), .un], []⟩
theorem r_loop (a b c d : D) : exec (pg.wd 6) bLoop ⟨[.val (.lst (errs a b c d)), .val a, .val b, .val c, .val d, .un, .un, .un], []⟩ = .next (last a b c d) := by kernel_rfl
def thL : List D := (.non : D) :: (.bl true : D) :: (.bl false : D) :: (.int 0 : D) :: (.int (-1) : D) :: (.int 7 : D) :: (.int 100000000000000000000000000000 : D) :: (.str [] : D) :: (.str [97] : D) :: (.str [114, 111, 119] : D) :: (.tup [] : D) :: (.tup [.int 0, .int 1] : D) :: (.lst [] : D) :: (.lst [.tup [.int 0]] : D) :: (.dic [] : D) :: (.dic [(.inr [97], .int 1)] : D) :: (.tup [.str [107, 101, 121], .tup []] : D) :: []
theorem br0 : pg.br 0 = false := rfl
theorem br1 : pg.br 1 = true := rfl
theorem br2 : pg.br 2 = true := rfl
theorem br3 : pg.br 3 = true := rfl
theorem br4 : pg.br 4 = false := rfl
theorem br5 : pg.br 5 = false := rfl
theorem br11 : pg.br 11 = false := rfl
theorem dfA (f : Nat) : pg.df f = [] := by
  unfold Pg.df
  show (match fns[f]? with | some d => d.df | none => []) = []
  rcases Nat.lt_or_ge f 13 with h | h
  · match f, h with
    | 0, _ | 1, _ | 2, _ | 3, _ | 4, _ | 5, _ | 6, _ | 7, _ | 8, _ | 9, _ | 10, _ | 11, _ | 12, _ => rfl
  · rw [List.getElem?_eq_none (show fns.length ≤ f from h)]
theorem r_thing (a b : Int) : ∃ a' b' x, x ∈ thL ∧ pg.run 7 3 [.non] [.int a, .int b] = .ok (.val x) [.int a', .int b'] := by
  obtain ⟨a', b', x, hx, h⟩ := p_choice pg 2 1 rfl rfl 4 a b thL (by decide) (by decide)
  refine ⟨a', b', x, hx, ?_⟩
  have e : pg.run 7 3 [.non] [.int a, .int b] = ofOut ((match pg.run 6 2 [.non, .lst thL] [.int a, .int b] with | .ok v c => Rs.ok v.er ⟨[.ref, .val (.lst thL)], c⟩ | .exc k fs c => .exc k fs ⟨[.ref, .val (.lst thL)], c⟩ | .stuck => .stuck).out retR |>.seq fun s => .next s) := by kernel_rfl
  rw [e, h]
  rfl
theorem thG : (thL.all fun x => apartD x && (match x.pd with | some p => roB 40 3 p | none => false)) = true := by decide +kernel
theorem th_ro {x : D} (h : x ∈ thL) : apartD x = true ∧ ∃ p, x.pd = some p ∧ RO 40 3 p := by
  have z := List.all_eq_true.mp thG x h
  rw [Bool.and_eq_true] at z
  refine ⟨z.1, ?_⟩
  have z2 := z.2
  split at z2
  · rename_i p e
    exact ⟨p, e, ro_of z2⟩
  · cases z2
theorem pd_all : ∀ {xs : List D}, (∀ x ∈ xs, ∃ p, x.pd = some p ∧ RO 40 3 p) → ∃ ps, pdL xs = some ps ∧ ps.length = xs.length ∧ ∀ p ∈ ps, RO 40 3 p
  | [], _ => ⟨[], rfl, rfl, nofun⟩
  | x :: xs, h => by
    obtain ⟨p, e, r⟩ := h x (.head _)
    obtain ⟨ps, e2, l, r2⟩ := pd_all (xs := xs) fun y hy => h y (.tail _ hy)
    refine ⟨p :: ps, by simp [pdL, e, e2], by simp [l], fun q hq => ?_⟩
    cases hq with
    | head => exact r
    | tail _ hq => exact r2 q hq
theorem rep_top {xs : List D} (h : ∀ x ∈ xs, x ∈ thL) (l : xs.length ≤ 100) : HasRep (.lst xs) := by
  obtain ⟨ps, e, l2, r⟩ := pd_all fun x hx => (th_ro (h x hx)).2
  have ro := ro_lst (L := 100) r (by omega)
  have pd : (D.lst xs).pd = some (.list ps) := by simp [D.pd, e]
  refine ⟨(PySem.PyData.list ps).shown.cps.toList, ?_, ?_⟩
  · unfold reprD
    rw [pd]
    have h1 : (PySem.PyData.list ps).depth ≤ 50 := Nat.le_trans ro.dp (by decide)
    have h2 : (PySem.PyData.list ps).shown.length ≤ lim := Nat.le_trans ro.ln (by decide)
    have h3 : topOk (.lst xs) = true := by
      unfold topOk
      exact List.all_eq_true.mpr fun x hx => (th_ro (h x hx)).1
    simp [ro.sh, h1, h2, h3]
  · unfold okT
    rw [List.all_eq_true]
    intro c hc
    exact decide_eq_true (ro.ok c hc)
def eF : IE := .bi .repr (.cons (.call 7 [0] (.cons (.var 0) .nil)) .nil)
def eG : IE := .bi .repr (.cons (.call 10 [0, 1, 2, 3] (.cons (.var 1) (.cons (.var 2) (.cons (.var 3) (.cons (.var 4) .nil))))) .nil)
theorem bEq : bEnd = .cons (.ret (.cmp .eq eF eG)) .nil := rfl
theorem r_eF (a b c d : D) : ev (pg.wd 6) eF (last a b c d) = Rs.of ((reprD (.lst (flD a b c d))).map ER.val) (last a b c d) := by kernel_rfl
theorem r_eG (a b c d : D) : ev (pg.wd 6) eG (last a b c d) = Rs.of ((reprD (.lst (flD a b c d))).map ER.val) (last a b c d) := by kernel_rfl
theorem r_right {a b c d : D} (ha : a ∈ thL) (hb : b ∈ thL) (hc : c ∈ thL) (hd : d ∈ thL) : pg.run 7 11 [.lst (errs a b c d), a, b, c, d] [] = .ok (.val (.bl true)) [] := by
  obtain ⟨r, hr, ho⟩ := rep_top (xs := flD a b c d) (fun x hx => by
    simp only [flD, List.mem_cons, List.not_mem_nil, or_false] at hx
    rcases hx with rfl | rfl | rfl | rfl | rfl | rfl | rfl | rfl | rfl | rfl | rfl | rfl | rfl | rfl | rfl | rfl | rfl | rfl | rfl | rfl | rfl | rfl | rfl | rfl | rfl | rfl | rfl | rfl | rfl | rfl | rfl | rfl <;> assumption) (by show 32 ≤ 100; decide)
  rw [p_run pg 6 11 f__law_right rfl _ _ rfl]
  show ofOut (execs (pg.wd 6) b__law_right ⟨[.val (.lst (errs a b c d)), .val a, .val b, .val c, .val d, .un, .un, .un], []⟩) = _
  rw [bRt]
  unfold execs
  rw [r_loop]
  show ofOut (execs (pg.wd 6) bEnd (last a b c d)) = _
  have hl : (D.str r).flat 30 = true := ho
  have e1 := r_eF a b c d
  have e2 := r_eG a b c d
  rw [hr] at e1 e2
  rw [bEq]
  simp [execs, exec, ev, e1, e2, Rs.of, Rs.bind, Rs.out, ER.hold, ER.rd, cmpR, eqR, hl, D.eqv, retR, Out.seq, ofOut]
  rfl

def ouE : IS := match b_law with | .cons s _ => s | .nil => .pass
def ouB : ISs := match ouE with | .loop _ _ b => b | _ => .nil
def ouI : IT := match ouE with | .loop _ i _ => i | _ => .rng .nil
def s1 : IS := match ouB with | .cons a _ => a | _ => .pass
def s2 : IS := match ouB with | .cons _ (.cons a _) => a | _ => .pass
def s3 : IS := match ouB with | .cons _ (.cons _ (.cons a _)) => a | _ => .pass
def s4 : IS := match ouB with | .cons _ (.cons _ (.cons _ (.cons a _))) => a | _ => .pass
def s5 : IS := match ouB with | .cons _ (.cons _ (.cons _ (.cons _ (.cons a _)))) => a | _ => .pass
theorem ouB_eq : ouB = .cons s1 (.cons s2 (.cons s3 (.cons s4 (.cons s5 .nil)))) := rfl
theorem law_eq : b_law = .cons ouE (.cons (.ret (.cst (.bl true))) .nil) := rfl
theorem ouE_eq : ouE = .loop (.nm 1) ouI ouB := rfl
abbrev fr (z : D) (k : Sl) (rg a b c d p q t : Sl) : Fr := ⟨[.val z, k, rg, a, b, c, d, p, q, t], []⟩
theorem ex1 (z : D) (i : Int) (a b : Int) (rg x1 x2 x3 x4 p q t : Sl) (h : pg.run 7 0 [z, .int i] [] = .ok (.fresh [.int a, .int b]) []) : exec (pg.wd 7) s1 (fr z (.val (.int i)) rg x1 x2 x3 x4 p q t) = .next (fr z (.val (.int i)) (.own [.int a, .int b]) x1 x2 x3 x4 p q t) := by
  have e : exec (pg.wd 7) s1 (fr z (.val (.int i)) rg x1 x2 x3 x4 p q t) = ((pg.run 7 0 [z, .int i] []).rs fun _ => fr z (.val (.int i)) rg x1 x2 x3 x4 p q t).out fun x s => stoR 2 x s := by kernel_rfl
  rw [e, h]
  rfl
def eT : IE := .call 3 [0] (.cons (.var 2) .nil)
theorem eTh (a b a' b' : Int) (x : D) (z : D) (k x1 x2 x3 x4 p q t : Sl) (h : pg.run 7 3 [.non] [.int a, .int b] = .ok (.val x) [.int a', .int b']) : ev (pg.wd 7) eT (fr z k (.own [.int a, .int b]) x1 x2 x3 x4 p q t) = .ok (.val x) (fr z k (.own [.int a', .int b']) x1 x2 x3 x4 p q t) := by
  have e : ev (pg.wd 7) eT (fr z k (.own [.int a, .int b]) x1 x2 x3 x4 p q t) = (pg.run 7 3 [.non] [.int a, .int b]).rs fun c => fr z k (.own c) x1 x2 x3 x4 p q t := by kernel_rfl
  rw [e, h]
  rfl
theorem s2_eq : s2 = .setT [.nm 3, .nm 4, .nm 5, .nm 6] (.lcm eT (.nm 9) (.rng (.cons (.cst (.int 4)) .nil)) .no) := rfl
theorem ex2 (a b : Int) (z : D) (k x1 x2 x3 x4 p q t : Sl) : ∃ a' b' u1 u2 u3 u4 t', u1 ∈ thL ∧ u2 ∈ thL ∧ u3 ∈ thL ∧ u4 ∈ thL ∧ exec (pg.wd 7) s2 (fr z k (.own [.int a, .int b]) x1 x2 x3 x4 p q t) = .next (fr z k (.own [.int a', .int b']) (.val u1) (.val u2) (.val u3) (.val u4) p q t') := by
  obtain ⟨a1, b1, u1, m1, h1⟩ := r_thing a b
  obtain ⟨a2, b2, u2, m2, h2⟩ := r_thing a1 b1
  obtain ⟨a3, b3, u3, m3, h3⟩ := r_thing a2 b2
  obtain ⟨a4, b4, u4, m4, h4⟩ := r_thing a3 b3
  refine ⟨a4, b4, u1, u2, u3, u4, t.left, m1, m2, m3, m4, ?_⟩
  rw [s2_eq]
  have hI : ∀ s, evI (pg.wd 7) (.rng (.cons (.cst (.int 4)) .nil)) s = .ok [.int 0, .int 1, .int 2, .int 3] s := fun s => rfl
  have e1 := fun t => eTh a b a1 b1 u1 z k x1 x2 x3 x4 p q t h1
  have e2 := fun t => eTh a1 b1 a2 b2 u2 z k x1 x2 x3 x4 p q t h2
  have e3 := fun t => eTh a2 b2 a3 b3 u3 z k x1 x2 x3 x4 p q t h3
  have e4 := fun t => eTh a3 b3 a4 b4 u4 z k x1 x2 x3 x4 p q t h4
  unfold exec ev
  simp only [hI, Rs.bind, lcGo, Tg.slots, Fr.wipe, Tg.bind, Fr.put, List.foldl, List.set, evC, if_true, e1, e2, e3, e4, ER.fz]
  simp [Fr.back, List.getD, ER.hold, ER.rd, Rs.out, tgs, Fr.put, outO, lim]
theorem ex3 {a b c d : D} (z : D) (k rg p q t : Sl) : exec (pg.wd 7) s3 (fr z k rg (.val a) (.val b) (.val c) (.val d) p q t) = .next (fr z k rg (.val a) (.val b) (.val c) (.val d) (.val (.lst (errs a b c d))) (.val (.lst (errs d c b a))) t) := by kernel_rfl
def cR (i : Nat) (j : List Nat) : IE := .call 11 [0, 1, 2, 3, 4] (.cons (.var i) (.cons (.var (j.getD 0 0)) (.cons (.var (j.getD 1 0)) (.cons (.var (j.getD 2 0)) (.cons (.var (j.getD 3 0)) .nil)))))
theorem s4_eq : s4 = .ite (.or (.not (cR 7 [3, 4, 5, 6])) (.not (cR 8 [6, 5, 4, 3]))) (.cons (.ret (.cst (.bl false))) .nil) .nil := rfl
abbrev fz (z : D) (k rg : Sl) (a b c d : D) (t : Sl) : Fr := fr z k rg (.val a) (.val b) (.val c) (.val d) (.val (.lst (errs a b c d))) (.val (.lst (errs d c b a))) t
theorem c7 {a b c d : D} (z : D) (k rg t : Sl) (h : pg.run 7 11 [.lst (errs a b c d), a, b, c, d] [] = .ok (.val (.bl true)) []) : ev (pg.wd 7) (cR 7 [3, 4, 5, 6]) (fz z k rg a b c d t) = .ok (.val (.bl true)) (fz z k rg a b c d t) := by
  have e : ev (pg.wd 7) (cR 7 [3, 4, 5, 6]) (fz z k rg a b c d t) = (pg.run 7 11 [.lst (errs a b c d), a, b, c, d] []).rs fun _ => fz z k rg a b c d t := by kernel_rfl
  rw [e, h]
  rfl
theorem c8 {a b c d : D} (z : D) (k rg t : Sl) (h : pg.run 7 11 [.lst (errs d c b a), d, c, b, a] [] = .ok (.val (.bl true)) []) : ev (pg.wd 7) (cR 8 [6, 5, 4, 3]) (fz z k rg a b c d t) = .ok (.val (.bl true)) (fz z k rg a b c d t) := by
  have e : ev (pg.wd 7) (cR 8 [6, 5, 4, 3]) (fz z k rg a b c d t) = (pg.run 7 11 [.lst (errs d c b a), d, c, b, a] []).rs fun _ => fz z k rg a b c d t := by kernel_rfl
  rw [e, h]
  rfl
def c9E : IE := match s5 with | .ite (.not e) _ _ => e | _ => .cst .non
theorem s5_eq : s5 = .ite (.not c9E) (.cons (.ret (.cst (.bl false))) .nil) .nil := rfl
theorem c9 {a b c d : D} (z : D) (k rg t : Sl) (h : pg.run 7 11 [.lst (errs a b c d), a, b, c, d] [] = .ok (.val (.bl true)) []) : ev (pg.wd 7) c9E (fz z k rg a b c d t) = .ok (.val (.bl true)) (fz z k rg a b c d t) := by
  have e : ev (pg.wd 7) c9E (fz z k rg a b c d t) = (pg.run 7 11 [.lst (errs a b c d), a, b, c, d] []).rs fun _ => fz z k rg a b c d t := by kernel_rfl
  rw [e, h]
  rfl
theorem body (xs : List Int) (i : Int) (h0 : 0 ≤ i) (h1 : i < 900) (rg x1 x2 x3 x4 p q t : Sl) : ∃ rg' x1' x2' x3' x4' p' q' t', execs (pg.wd 7) ouB (fr (.scr (xs.map .int)) (.val (.int i)) rg x1 x2 x3 x4 p q t) = .next (fr (.scr (xs.map .int)) (.val (.int i)) rg' x1' x2' x3' x4' p' q' t') := by
  obtain ⟨a, b, hr⟩ := p_rng pg 0 rfl 6 xs i [] h0 h1
  obtain ⟨a', b', u1, u2, u3, u4, t', m1, m2, m3, m4, e2⟩ := ex2 a b (.scr (xs.map .int)) (.val (.int i)) x1 x2 x3 x4 p q t
  have e1 := ex1 (.scr (xs.map .int)) i a b rg x1 x2 x3 x4 p q t hr
  have e3 := ex3 (a := u1) (b := u2) (c := u3) (d := u4) (.scr (xs.map .int)) (.val (.int i)) (.own [.int a', .int b']) p q t'
  have g7 := c7 (.scr (xs.map .int)) (.val (.int i)) (.own [.int a', .int b']) t' (r_right m1 m2 m3 m4)
  have g8 := c8 (.scr (xs.map .int)) (.val (.int i)) (.own [.int a', .int b']) t' (r_right m4 m3 m2 m1)
  have g9 := c9 (.scr (xs.map .int)) (.val (.int i)) (.own [.int a', .int b']) t' (r_right m1 m2 m3 m4)
  refine ⟨.own [.int a', .int b'], .val u1, .val u2, .val u3, .val u4, .val (.lst (errs u1 u2 u3 u4)), .val (.lst (errs u4 u3 u2 u1)), t', ?_⟩
  rw [ouB_eq, s4_eq, s5_eq]
  simp only [execs, e1, e2, e3, Out.seq]
  simp only [exec, ev, tst, g7, g8, g9, Rs.bind, ER.rd, Rs.of, truth, Rs.out, Bool.not_true, Bool.false_eq_true, if_false, execs, Out.seq]
def ouF (w : Wd) : D → Fr → Out := fun x s => match Tg.bind (.nm 1) x s with
  | none => .stuck
  | some s => execs w ouB s
theorem ou_loop (xs : List Int) : ∀ (m : Nat) (i : Int) (k rg x1 x2 x3 x4 p q t : Sl), 0 ≤ i → i + m < 900 → ∃ k' rg' x1' x2' x3' x4' p' q' t', loopGo (ouF (pg.wd 7)) (rngD i m) (fr (.scr (xs.map .int)) k rg x1 x2 x3 x4 p q t) = .next (fr (.scr (xs.map .int)) k' rg' x1' x2' x3' x4' p' q' t')
  | 0, i, k, rg, x1, x2, x3, x4, p, q, t, _, _ => ⟨k, rg, x1, x2, x3, x4, p, q, t, rfl⟩
  | m + 1, i, k, rg, x1, x2, x3, x4, p, q, t, h0, h1 => by
    obtain ⟨rg', y1, y2, y3, y4, p', q', t', h⟩ := body xs i h0 (by omega) rg x1 x2 x3 x4 p q t
    obtain ⟨k2, rg2, w1, w2, w3, w4, p2, q2, t2, h2⟩ := ou_loop xs m (i + 1) (.val (.int i)) rg' y1 y2 y3 y4 p' q' t' (by omega) (by omega)
    refine ⟨k2, rg2, w1, w2, w3, w4, p2, q2, t2, ?_⟩
    have hf : ouF (pg.wd 7) (.int i) (fr (.scr (xs.map .int)) k rg x1 x2 x3 x4 p q t) = .next (fr (.scr (xs.map .int)) (.val (.int i)) rg' y1 y2 y3 y4 p' q' t') := h
    simp only [rngD, loopGo, hf]
    exact h2
theorem ouI_eq (xs : List Int) (hl : xs.length ≤ 63) (k rg x1 x2 x3 x4 p q t : Sl) : ∃ m : Nat, m ≤ 6 ∧ evI (pg.wd 7) ouI (fr (.scr (xs.map .int)) k rg x1 x2 x3 x4 p q t) = .ok (rngD 0 m) (fr (.scr (xs.map .int)) k rg x1 x2 x3 x4 p q t) := by
  refine ⟨(if (if (6 : Int) < xs.length then (6 : Int) else xs.length) > 1 then (if (6 : Int) < xs.length then (6 : Int) else xs.length) else 1).toNat, ?_, ?_⟩
  · split <;> split <;> omega
  · have e : ouI = .rng (.cons (.bi .max2 (.cons (.cst (.int 1)) (.cons (.bi .min2 (.cons (.bi .len (.cons (.var 0) .nil)) (.cons (.cst (.int 6)) .nil))) .nil))) .nil) := rfl
    rw [e]
    simp [evI, evF, evB, ev, Rs.bind, rdAll, ER.rd, holdL, ER.hold, biR, lenR, int2R, Rs.of, ER.fz]
    have b : -1000000 ≤ (if (1 : Int) < (if (6 : Int) < xs.length then (6 : Int) else xs.length) then (if (6 : Int) < xs.length then (6 : Int) else xs.length) else 1) ∧ (if (1 : Int) < (if (6 : Int) < xs.length then (6 : Int) else xs.length) then (if (6 : Int) < xs.length then (6 : Int) else xs.length) else 1) ≤ 1000000 := by
      constructor <;> (split <;> split <;> omega)
    simp [lim, b]
theorem law_all : ∀ ns : List Int, ns.length ≤ 63 → pg.run 8 12 [.scr (ns.map .int)] [] = .ok (.val (.bl true)) [] := by
  intro ns hl
  rw [p_run pg 7 12 f_law rfl _ _ rfl]
  show ofOut (execs (pg.wd 7) b_law (fr (.scr (ns.map .int)) .un .un .un .un .un .un .un .un .un)) = _
  obtain ⟨m, hm, hI⟩ := ouI_eq ns hl .un .un .un .un .un .un .un .un .un
  obtain ⟨k2, rg2, w1, w2, w3, w4, p2, q2, t2, h2⟩ := ou_loop ns m 0 .un .un .un .un .un .un .un .un .un (by omega) (by omega)
  have ho : exec (pg.wd 7) ouE (fr (.scr (ns.map .int)) .un .un .un .un .un .un .un .un .un) = .next (fr (.scr (ns.map .int)) k2 rg2 w1 w2 w3 w4 p2 q2 t2) := by
    rw [ouE_eq]
    unfold exec
    rw [hI]
    exact h2
  rw [law_eq]
  unfold execs
  rw [ho]
  rfl
end K11
set_option maxRecDepth 100000
set_option maxHeartbeats 7900000
namespace K11
open PySem PySem.Spec PyProof.Rows L2 Pi
def top (i : Nat) : Stmt := PySem.Challenge.pw_pairsigns_k11_errors_created.main.body.getD i (.Pass ⟨0, 0, 0, 0⟩)
def clsB : Stmt → List Stmt
  | .ClassDef _ _ _ b _ _ _ _ _ _ _ => b
  | _ => []
abbrev ini_Apart : Stmt := (clsB (top 27)).getD 0 (.Pass ⟨0, 0, 0, 0⟩)
abbrev ini_InUse : Stmt := (clsB (top 29)).getD 0 (.Pass ⟨0, 0, 0, 0⟩)
abbrev ini_InvalidColumns : Stmt := (clsB (top 7)).getD 0 (.Pass ⟨0, 0, 0, 0⟩)
abbrev ini_InvalidCommand : Stmt := (clsB (top 18)).getD 0 (.Pass ⟨0, 0, 0, 0⟩)
abbrev ini_InvalidCount : Stmt := (clsB (top 5)).getD 0 (.Pass ⟨0, 0, 0, 0⟩)
abbrev ini_InvalidName : Stmt := (clsB (top 6)).getD 0 (.Pass ⟨0, 0, 0, 0⟩)
abbrev ini_InvalidOffer : Stmt := (clsB (top 14)).getD 0 (.Pass ⟨0, 0, 0, 0⟩)
abbrev ini_InvalidOrder : Stmt := (clsB (top 4)).getD 0 (.Pass ⟨0, 0, 0, 0⟩)
abbrev ini_InvalidPlan : Stmt := (clsB (top 12)).getD 0 (.Pass ⟨0, 0, 0, 0⟩)
abbrev ini_InvalidQuery : Stmt := (clsB (top 11)).getD 0 (.Pass ⟨0, 0, 0, 0⟩)
abbrev ini_InvalidQuestion : Stmt := (clsB (top 13)).getD 0 (.Pass ⟨0, 0, 0, 0⟩)
abbrev ini_InvalidRow : Stmt := (clsB (top 10)).getD 0 (.Pass ⟨0, 0, 0, 0⟩)
abbrev ini_InvalidRule : Stmt := (clsB (top 8)).getD 0 (.Pass ⟨0, 0, 0, 0⟩)
abbrev ini_InvalidTable : Stmt := (clsB (top 9)).getD 0 (.Pass ⟨0, 0, 0, 0⟩)
abbrev ini_InvalidText : Stmt := (clsB (top 16)).getD 0 (.Pass ⟨0, 0, 0, 0⟩)
abbrev ini_InvalidToken : Stmt := (clsB (top 17)).getD 0 (.Pass ⟨0, 0, 0, 0⟩)
abbrev ini_InvalidValue : Stmt := (clsB (top 2)).getD 0 (.Pass ⟨0, 0, 0, 0⟩)
abbrev ini_InvalidVector : Stmt := (clsB (top 3)).getD 0 (.Pass ⟨0, 0, 0, 0⟩)
abbrev ini_InvalidWrite : Stmt := (clsB (top 15)).getD 0 (.Pass ⟨0, 0, 0, 0⟩)
abbrev ini_NameTaken : Stmt := (clsB (top 22)).getD 0 (.Pass ⟨0, 0, 0, 0⟩)
abbrev ini_NotServing : Stmt := (clsB (top 28)).getD 0 (.Pass ⟨0, 0, 0, 0⟩)
abbrev ini_OutOfOrder : Stmt := (clsB (top 26)).getD 0 (.Pass ⟨0, 0, 0, 0⟩)
abbrev ini_PairBroken : Stmt := (clsB (top 24)).getD 0 (.Pass ⟨0, 0, 0, 0⟩)
abbrev ini_RuleBroken : Stmt := (clsB (top 23)).getD 0 (.Pass ⟨0, 0, 0, 0⟩)
abbrev ini_TooMany : Stmt := (clsB (top 30)).getD 0 (.Pass ⟨0, 0, 0, 0⟩)
abbrev ini_UnknownName : Stmt := (clsB (top 21)).getD 0 (.Pass ⟨0, 0, 0, 0⟩)
abbrev ini_UnknownPlace : Stmt := (clsB (top 20)).getD 0 (.Pass ⟨0, 0, 0, 0⟩)
abbrev ini_UnknownTable : Stmt := (clsB (top 19)).getD 0 (.Pass ⟨0, 0, 0, 0⟩)
abbrev ini_Unlike : Stmt := (clsB (top 25)).getD 0 (.Pass ⟨0, 0, 0, 0⟩)
abbrev s__law_rng : Stmt := top 32
theorem sc__law_rng : FnScope N__law_rng ["_law_script", "_law_k"] (defScope s__law_rng) := ⟨rfl, rfl, rfl, by decide +kernel, rfl, by decide +kernel, by decide +kernel⟩
theorem ck__law_rng : chkSs T true N__law_rng (defScope s__law_rng) b__law_rng (defBody s__law_rng) = true := by decide +kernel
abbrev s__law_draw : Stmt := top 33
theorem sc__law_draw : FnScope N__law_draw ["_law_rng_here", "_law_many"] (defScope s__law_draw) := ⟨rfl, rfl, rfl, by decide +kernel, rfl, by decide +kernel, by decide +kernel⟩
theorem ck__law_draw : chkSs T true N__law_draw (defScope s__law_draw) b__law_draw (defBody s__law_draw) = true := by decide +kernel
abbrev s__law_choice : Stmt := top 34
theorem sc__law_choice : FnScope N__law_choice ["_law_rng_here", "_law_options"] (defScope s__law_choice) := ⟨rfl, rfl, rfl, by decide +kernel, rfl, by decide +kernel, by decide +kernel⟩
theorem ck__law_choice : chkSs T true N__law_choice (defScope s__law_choice) b__law_choice (defBody s__law_choice) = true := by decide +kernel
abbrev s__law_thing : Stmt := top 35
theorem sc__law_thing : FnScope N__law_thing ["_law_rng_here"] (defScope s__law_thing) := ⟨rfl, rfl, rfl, by decide +kernel, rfl, by decide +kernel, by decide +kernel⟩
theorem ck__law_thing : chkSs T true N__law_thing (defScope s__law_thing) b__law_thing (defBody s__law_thing) = true := by decide +kernel
abbrev s__law_by_position : Stmt := top 36
theorem sc__law_by_position : FnScope N__law_by_position ["_law_a", "_law_b", "_law_c", "_law_d"] (defScope s__law_by_position) := ⟨rfl, rfl, rfl, by decide +kernel, rfl, by decide +kernel, by decide +kernel⟩
theorem ck__law_by_position : chkSs T true N__law_by_position (defScope s__law_by_position) b__law_by_position (defBody s__law_by_position) = true := by decide +kernel
abbrev s__law_by_name : Stmt := top 37
theorem sc__law_by_name : FnScope N__law_by_name ["_law_a", "_law_b", "_law_c", "_law_d"] (defScope s__law_by_name) := ⟨rfl, rfl, rfl, by decide +kernel, rfl, by decide +kernel, by decide +kernel⟩
theorem ck__law_by_name : chkSs T true N__law_by_name (defScope s__law_by_name) b__law_by_name (defBody s__law_by_name) = true := by decide +kernel
abbrev s__law_classes : Stmt := top 38
theorem sc__law_classes : FnScope N__law_classes ["_law_e"] (defScope s__law_classes) := ⟨rfl, rfl, rfl, by decide +kernel, rfl, by decide +kernel, by decide +kernel⟩
theorem ck__law_classes : chkSs T true N__law_classes (defScope s__law_classes) b__law_classes (defBody s__law_classes) = true := by decide +kernel
abbrev s__law_fields : Stmt := top 39
theorem sc__law_fields : FnScope N__law_fields ["_law_some"] (defScope s__law_fields) := ⟨rfl, rfl, rfl, by decide +kernel, rfl, by decide +kernel, by decide +kernel⟩
theorem ck__law_fields : chkSs T true N__law_fields (defScope s__law_fields) b__law_fields (defBody s__law_fields) = true := by decide +kernel
abbrev s__law_bases : Stmt := top 40
theorem sc__law_bases : FnScope N__law_bases ["_law_e"] (defScope s__law_bases) := ⟨rfl, rfl, rfl, by decide +kernel, rfl, by decide +kernel, by decide +kernel⟩
theorem ck__law_bases : chkSs T true N__law_bases (defScope s__law_bases) b__law_bases (defBody s__law_bases) = true := by decide +kernel
abbrev s__law_due_bases : Stmt := top 41
theorem sc__law_due_bases : FnScope N__law_due_bases ["_law_at"] (defScope s__law_due_bases) := ⟨rfl, rfl, rfl, by decide +kernel, rfl, by decide +kernel, by decide +kernel⟩
theorem ck__law_due_bases : chkSs T true N__law_due_bases (defScope s__law_due_bases) b__law_due_bases (defBody s__law_due_bases) = true := by decide +kernel
abbrev s__law_due_fields : Stmt := top 42
theorem sc__law_due_fields : FnScope N__law_due_fields ["_law_a", "_law_b", "_law_c", "_law_d"] (defScope s__law_due_fields) := ⟨rfl, rfl, rfl, by decide +kernel, rfl, by decide +kernel, by decide +kernel⟩
theorem ck__law_due_fields : chkSs T true N__law_due_fields (defScope s__law_due_fields) b__law_due_fields (defBody s__law_due_fields) = true := by decide +kernel
abbrev s__law_right : Stmt := top 43
theorem sc__law_right : FnScope N__law_right ["_law_some", "_law_a", "_law_b", "_law_c", "_law_d"] (defScope s__law_right) := ⟨rfl, rfl, rfl, by decide +kernel, rfl, by decide +kernel, by decide +kernel⟩
theorem ck__law_right : chkSs T true N__law_right (defScope s__law_right) b__law_right (defBody s__law_right) = true := by decide +kernel
abbrev s_law : Stmt := top 44
theorem sc_law : FnScope N_law ["_law_script"] (defScope s_law) := ⟨rfl, rfl, rfl, by decide +kernel, rfl, by decide +kernel, by decide +kernel⟩
theorem ck_law : chkSs T true N_law (defScope s_law) b_law (defBody s_law) = true := by decide +kernel
theorem bd__law_rng_11 {K : PySem.W.Frag} {kV doc pm cdv ct : Value} {an : Option Addr} : BindOk K (PySem.W.fnOf "_law_rng" "_law_rng" (defArgs s__law_rng) (defBody s__law_rng) (defScope s__law_rng) .none kV doc pm an cdv ct) ["_law_script", "_law_k"] [] 2 [] [0, 1] := by
  intro s us ws as _ h1 h2 hp
  match us, ws, h1, h2, hp with
  | [_, _], [], _, _, hp =>
    cases hp
    exact .of_eq rfl
theorem bd__law_draw_0 {K : PySem.W.Frag} {kV doc pm cdv ct : Value} {an : Option Addr} : BindOk K (PySem.W.fnOf "_law_draw" "_law_draw" (defArgs s__law_draw) (defBody s__law_draw) (defScope s__law_draw) .none kV doc pm an cdv ct) ["_law_rng_here", "_law_many"] [] 2 [] [0, 1] := by
  intro s us ws as _ h1 h2 hp
  match us, ws, h1, h2, hp with
  | [_, _], [], _, _, hp =>
    cases hp
    exact .of_eq rfl
theorem bd__law_choice_1 {K : PySem.W.Frag} {kV doc pm cdv ct : Value} {an : Option Addr} : BindOk K (PySem.W.fnOf "_law_choice" "_law_choice" (defArgs s__law_choice) (defBody s__law_choice) (defScope s__law_choice) .none kV doc pm an cdv ct) ["_law_rng_here", "_law_options"] [] 2 [] [0, 1] := by
  intro s us ws as _ h1 h2 hp
  match us, ws, h1, h2, hp with
  | [_, _], [], _, _, hp =>
    cases hp
    exact .of_eq rfl
theorem bd__law_thing_10 {K : PySem.W.Frag} {kV doc pm cdv ct : Value} {an : Option Addr} : BindOk K (PySem.W.fnOf "_law_thing" "_law_thing" (defArgs s__law_thing) (defBody s__law_thing) (defScope s__law_thing) .none kV doc pm an cdv ct) ["_law_rng_here"] [] 1 [] [0] := by
  intro s us ws as _ h1 h2 hp
  match us, ws, h1, h2, hp with
  | [_], [], _, _, hp =>
    cases hp
    exact .of_eq rfl
theorem bd__law_by_position_9 {K : PySem.W.Frag} {kV doc pm cdv ct : Value} {an : Option Addr} : BindOk K (PySem.W.fnOf "_law_by_position" "_law_by_position" (defArgs s__law_by_position) (defBody s__law_by_position) (defScope s__law_by_position) .none kV doc pm an cdv ct) ["_law_a", "_law_b", "_law_c", "_law_d"] [] 4 [] [0, 1, 2, 3] := by
  intro s us ws as _ h1 h2 hp
  match us, ws, h1, h2, hp with
  | [_, _, _, _], [], _, _, hp =>
    cases hp
    exact .of_eq rfl
theorem bd__law_by_name_8 {K : PySem.W.Frag} {kV doc pm cdv ct : Value} {an : Option Addr} : BindOk K (PySem.W.fnOf "_law_by_name" "_law_by_name" (defArgs s__law_by_name) (defBody s__law_by_name) (defScope s__law_by_name) .none kV doc pm an cdv ct) ["_law_a", "_law_b", "_law_c", "_law_d"] [] 4 [] [0, 1, 2, 3] := by
  intro s us ws as _ h1 h2 hp
  match us, ws, h1, h2, hp with
  | [_, _, _, _], [], _, _, hp =>
    cases hp
    exact .of_eq rfl
theorem bd__law_classes_6 {K : PySem.W.Frag} {kV doc pm cdv ct : Value} {an : Option Addr} : BindOk K (PySem.W.fnOf "_law_classes" "_law_classes" (defArgs s__law_classes) (defBody s__law_classes) (defScope s__law_classes) .none kV doc pm an cdv ct) ["_law_e"] [] 1 [] [0] := by
  intro s us ws as _ h1 h2 hp
  match us, ws, h1, h2, hp with
  | [_], [], _, _, hp =>
    cases hp
    exact .of_eq rfl
theorem bd__law_fields_2 {K : PySem.W.Frag} {kV doc pm cdv ct : Value} {an : Option Addr} : BindOk K (PySem.W.fnOf "_law_fields" "_law_fields" (defArgs s__law_fields) (defBody s__law_fields) (defScope s__law_fields) .none kV doc pm an cdv ct) ["_law_some"] [] 1 [] [0] := by
  intro s us ws as _ h1 h2 hp
  match us, ws, h1, h2, hp with
  | [_], [], _, _, hp =>
    cases hp
    exact .of_eq rfl
theorem bd__law_bases_4 {K : PySem.W.Frag} {kV doc pm cdv ct : Value} {an : Option Addr} : BindOk K (PySem.W.fnOf "_law_bases" "_law_bases" (defArgs s__law_bases) (defBody s__law_bases) (defScope s__law_bases) .none kV doc pm an cdv ct) ["_law_e"] [] 1 [] [0] := by
  intro s us ws as _ h1 h2 hp
  match us, ws, h1, h2, hp with
  | [_], [], _, _, hp =>
    cases hp
    exact .of_eq rfl
theorem bd__law_due_bases_5 {K : PySem.W.Frag} {kV doc pm cdv ct : Value} {an : Option Addr} : BindOk K (PySem.W.fnOf "_law_due_bases" "_law_due_bases" (defArgs s__law_due_bases) (defBody s__law_due_bases) (defScope s__law_due_bases) .none kV doc pm an cdv ct) ["_law_at"] [] 1 [] [0] := by
  intro s us ws as _ h1 h2 hp
  match us, ws, h1, h2, hp with
  | [_], [], _, _, hp =>
    cases hp
    exact .of_eq rfl
theorem bd__law_due_fields_3 {K : PySem.W.Frag} {kV doc pm cdv ct : Value} {an : Option Addr} : BindOk K (PySem.W.fnOf "_law_due_fields" "_law_due_fields" (defArgs s__law_due_fields) (defBody s__law_due_fields) (defScope s__law_due_fields) .none kV doc pm an cdv ct) ["_law_a", "_law_b", "_law_c", "_law_d"] [] 4 [] [0, 1, 2, 3] := by
  intro s us ws as _ h1 h2 hp
  match us, ws, h1, h2, hp with
  | [_, _, _, _], [], _, _, hp =>
    cases hp
    exact .of_eq rfl
theorem bd__law_right_7 {K : PySem.W.Frag} {kV doc pm cdv ct : Value} {an : Option Addr} : BindOk K (PySem.W.fnOf "_law_right" "_law_right" (defArgs s__law_right) (defBody s__law_right) (defScope s__law_right) .none kV doc pm an cdv ct) ["_law_some", "_law_a", "_law_b", "_law_c", "_law_d"] [] 5 [] [0, 1, 2, 3, 4] := by
  intro s us ws as _ h1 h2 hp
  match us, ws, h1, h2, hp with
  | [_, _, _, _, _], [], _, _, hp =>
    cases hp
    exact .of_eq rfl
def posI_Apart := posOf (defBody ini_Apart)
theorem ie_Apart : IniW "RuntimeError" "rows that are alike stand apart" 0 (posI_Apart 0) (posI_Apart 1) (posI_Apart 2) (posI_Apart 3) (posI_Apart 4) := fun env => ⟨_, fun M A E s Q h => PySem.W.methodCall_KW h⟩
theorem initT_Apart (ds : List D) (gs : List (Tx × D)) (z : initT [65, 112, 97, 114, 116] ds = some gs) : ds.length = 1 ∧ gs = (([[112, 97, 116, 104]] : List Tx).zip ds).reverse := by
  match ds, z with
  | [], z => cases z
  | [_], z => exact ⟨rfl, (Option.some.inj z).symm⟩
  | _ :: _ ::  _, z => cases z
theorem pu_Apart : Puts ["path"] ((defBody ini_Apart).drop 1) := (.cons .nil)
theorem scI_Apart : FnScope ["self", "path"] ["self", "path"] (defScope ini_Apart) := ⟨rfl, rfl, rfl, by decide +kernel, rfl, by decide +kernel, by decide +kernel⟩
def posI_InUse := posOf (defBody ini_InUse)
theorem ie_InUse : IniW "RuntimeError" "the store is in use" 0 (posI_InUse 0) (posI_InUse 1) (posI_InUse 2) (posI_InUse 3) (posI_InUse 4) := fun env => ⟨_, fun M A E s Q h => PySem.W.methodCall_KW h⟩
theorem initT_InUse (ds : List D) (gs : List (Tx × D)) (z : initT [73, 110, 85, 115, 101] ds = some gs) : ds.length = 0 ∧ gs = (([] : List Tx).zip ds).reverse := by
  match ds, z with
  | [], z => exact ⟨rfl, (Option.some.inj z).symm⟩
  | _ ::  _, z => cases z
theorem pu_InUse : Puts [] ((defBody ini_InUse).drop 1) := .nil
theorem scI_InUse : FnScope ["self"] ["self"] (defScope ini_InUse) := ⟨rfl, rfl, rfl, by decide +kernel, rfl, by decide +kernel, by decide +kernel⟩
def posI_InvalidColumns := posOf (defBody ini_InvalidColumns)
theorem ie_InvalidColumns : IniW "PairError" "columns of a table are required" 0 (posI_InvalidColumns 0) (posI_InvalidColumns 1) (posI_InvalidColumns 2) (posI_InvalidColumns 3) (posI_InvalidColumns 4) := fun env => ⟨_, fun M A E s Q h => PySem.W.methodCall_KW h⟩
theorem initT_InvalidColumns (ds : List D) (gs : List (Tx × D)) (z : initT [73, 110, 118, 97, 108, 105, 100, 67, 111, 108, 117, 109, 110, 115] ds = some gs) : ds.length = 1 ∧ gs = (([[112, 111, 115, 105, 116, 105, 111, 110]] : List Tx).zip ds).reverse := by
  match ds, z with
  | [], z => cases z
  | [_], z => exact ⟨rfl, (Option.some.inj z).symm⟩
  | _ :: _ ::  _, z => cases z
theorem pu_InvalidColumns : Puts ["position"] ((defBody ini_InvalidColumns).drop 1) := (.cons .nil)
theorem scI_InvalidColumns : FnScope ["self", "position"] ["self", "position"] (defScope ini_InvalidColumns) := ⟨rfl, rfl, rfl, by decide +kernel, rfl, by decide +kernel, by decide +kernel⟩
def posI_InvalidCommand := posOf (defBody ini_InvalidCommand)
theorem ie_InvalidCommand : IniW "PairError" "a command is required" 0 (posI_InvalidCommand 0) (posI_InvalidCommand 1) (posI_InvalidCommand 2) (posI_InvalidCommand 3) (posI_InvalidCommand 4) := fun env => ⟨_, fun M A E s Q h => PySem.W.methodCall_KW h⟩
theorem initT_InvalidCommand (ds : List D) (gs : List (Tx × D)) (z : initT [73, 110, 118, 97, 108, 105, 100, 67, 111, 109, 109, 97, 110, 100] ds = some gs) : ds.length = 1 ∧ gs = (([[118, 97, 108, 117, 101]] : List Tx).zip ds).reverse := by
  match ds, z with
  | [], z => cases z
  | [_], z => exact ⟨rfl, (Option.some.inj z).symm⟩
  | _ :: _ ::  _, z => cases z
theorem pu_InvalidCommand : Puts ["value"] ((defBody ini_InvalidCommand).drop 1) := (.cons .nil)
theorem scI_InvalidCommand : FnScope ["self", "value"] ["self", "value"] (defScope ini_InvalidCommand) := ⟨rfl, rfl, rfl, by decide +kernel, rfl, by decide +kernel, by decide +kernel⟩
def posI_InvalidCount := posOf (defBody ini_InvalidCount)
theorem ie_InvalidCount : IniW "PairError" "a count is required" 0 (posI_InvalidCount 0) (posI_InvalidCount 1) (posI_InvalidCount 2) (posI_InvalidCount 3) (posI_InvalidCount 4) := fun env => ⟨_, fun M A E s Q h => PySem.W.methodCall_KW h⟩
theorem initT_InvalidCount (ds : List D) (gs : List (Tx × D)) (z : initT [73, 110, 118, 97, 108, 105, 100, 67, 111, 117, 110, 116] ds = some gs) : ds.length = 1 ∧ gs = (([[118, 97, 108, 117, 101]] : List Tx).zip ds).reverse := by
  match ds, z with
  | [], z => cases z
  | [_], z => exact ⟨rfl, (Option.some.inj z).symm⟩
  | _ :: _ ::  _, z => cases z
theorem pu_InvalidCount : Puts ["value"] ((defBody ini_InvalidCount).drop 1) := (.cons .nil)
theorem scI_InvalidCount : FnScope ["self", "value"] ["self", "value"] (defScope ini_InvalidCount) := ⟨rfl, rfl, rfl, by decide +kernel, rfl, by decide +kernel, by decide +kernel⟩
def posI_InvalidName := posOf (defBody ini_InvalidName)
theorem ie_InvalidName : IniW "PairError" "a name is required" 0 (posI_InvalidName 0) (posI_InvalidName 1) (posI_InvalidName 2) (posI_InvalidName 3) (posI_InvalidName 4) := fun env => ⟨_, fun M A E s Q h => PySem.W.methodCall_KW h⟩
theorem initT_InvalidName (ds : List D) (gs : List (Tx × D)) (z : initT [73, 110, 118, 97, 108, 105, 100, 78, 97, 109, 101] ds = some gs) : ds.length = 1 ∧ gs = (([[118, 97, 108, 117, 101]] : List Tx).zip ds).reverse := by
  match ds, z with
  | [], z => cases z
  | [_], z => exact ⟨rfl, (Option.some.inj z).symm⟩
  | _ :: _ ::  _, z => cases z
theorem pu_InvalidName : Puts ["value"] ((defBody ini_InvalidName).drop 1) := (.cons .nil)
theorem scI_InvalidName : FnScope ["self", "value"] ["self", "value"] (defScope ini_InvalidName) := ⟨rfl, rfl, rfl, by decide +kernel, rfl, by decide +kernel, by decide +kernel⟩
def posI_InvalidOffer := posOf (defBody ini_InvalidOffer)
theorem ie_InvalidOffer : IniW "PairError" "this cannot be offered" 0 (posI_InvalidOffer 0) (posI_InvalidOffer 1) (posI_InvalidOffer 2) (posI_InvalidOffer 3) (posI_InvalidOffer 4) := fun env => ⟨_, fun M A E s Q h => PySem.W.methodCall_KW h⟩
theorem initT_InvalidOffer (ds : List D) (gs : List (Tx × D)) (z : initT [73, 110, 118, 97, 108, 105, 100, 79, 102, 102, 101, 114] ds = some gs) : ds.length = 1 ∧ gs = (([[112, 111, 115, 105, 116, 105, 111, 110]] : List Tx).zip ds).reverse := by
  match ds, z with
  | [], z => cases z
  | [_], z => exact ⟨rfl, (Option.some.inj z).symm⟩
  | _ :: _ ::  _, z => cases z
theorem pu_InvalidOffer : Puts ["position"] ((defBody ini_InvalidOffer).drop 1) := (.cons .nil)
theorem scI_InvalidOffer : FnScope ["self", "position"] ["self", "position"] (defScope ini_InvalidOffer) := ⟨rfl, rfl, rfl, by decide +kernel, rfl, by decide +kernel, by decide +kernel⟩
def posI_InvalidOrder := posOf (defBody ini_InvalidOrder)
theorem ie_InvalidOrder : IniW "PairError" "entries of an order are required" 0 (posI_InvalidOrder 0) (posI_InvalidOrder 1) (posI_InvalidOrder 2) (posI_InvalidOrder 3) (posI_InvalidOrder 4) := fun env => ⟨_, fun M A E s Q h => PySem.W.methodCall_KW h⟩
theorem initT_InvalidOrder (ds : List D) (gs : List (Tx × D)) (z : initT [73, 110, 118, 97, 108, 105, 100, 79, 114, 100, 101, 114] ds = some gs) : ds.length = 1 ∧ gs = (([[112, 111, 115, 105, 116, 105, 111, 110]] : List Tx).zip ds).reverse := by
  match ds, z with
  | [], z => cases z
  | [_], z => exact ⟨rfl, (Option.some.inj z).symm⟩
  | _ :: _ ::  _, z => cases z
theorem pu_InvalidOrder : Puts ["position"] ((defBody ini_InvalidOrder).drop 1) := (.cons .nil)
theorem scI_InvalidOrder : FnScope ["self", "position"] ["self", "position"] (defScope ini_InvalidOrder) := ⟨rfl, rfl, rfl, by decide +kernel, rfl, by decide +kernel, by decide +kernel⟩
def posI_InvalidPlan := posOf (defBody ini_InvalidPlan)
theorem ie_InvalidPlan : IniW "PairError" "a plan is required" 0 (posI_InvalidPlan 0) (posI_InvalidPlan 1) (posI_InvalidPlan 2) (posI_InvalidPlan 3) (posI_InvalidPlan 4) := fun env => ⟨_, fun M A E s Q h => PySem.W.methodCall_KW h⟩
theorem initT_InvalidPlan (ds : List D) (gs : List (Tx × D)) (z : initT [73, 110, 118, 97, 108, 105, 100, 80, 108, 97, 110] ds = some gs) : ds.length = 1 ∧ gs = (([[112, 97, 116, 104]] : List Tx).zip ds).reverse := by
  match ds, z with
  | [], z => cases z
  | [_], z => exact ⟨rfl, (Option.some.inj z).symm⟩
  | _ :: _ ::  _, z => cases z
theorem pu_InvalidPlan : Puts ["path"] ((defBody ini_InvalidPlan).drop 1) := (.cons .nil)
theorem scI_InvalidPlan : FnScope ["self", "path"] ["self", "path"] (defScope ini_InvalidPlan) := ⟨rfl, rfl, rfl, by decide +kernel, rfl, by decide +kernel, by decide +kernel⟩
def posI_InvalidQuery := posOf (defBody ini_InvalidQuery)
theorem ie_InvalidQuery : IniW "PairError" "this is not a query" 0 (posI_InvalidQuery 0) (posI_InvalidQuery 1) (posI_InvalidQuery 2) (posI_InvalidQuery 3) (posI_InvalidQuery 4) := fun env => ⟨_, fun M A E s Q h => PySem.W.methodCall_KW h⟩
theorem initT_InvalidQuery (ds : List D) (gs : List (Tx × D)) (z : initT [73, 110, 118, 97, 108, 105, 100, 81, 117, 101, 114, 121] ds = some gs) : ds.length = 2 ∧ gs = (([[112, 97, 114, 116], [112, 111, 115, 105, 116, 105, 111, 110]] : List Tx).zip ds).reverse := by
  match ds, z with
  | [], z => cases z
  | [_], z => cases z
  | [_, _], z => exact ⟨rfl, (Option.some.inj z).symm⟩
  | _ :: _ :: _ ::  _, z => cases z
theorem pu_InvalidQuery : Puts ["part", "position"] ((defBody ini_InvalidQuery).drop 1) := (.cons (.cons .nil))
theorem scI_InvalidQuery : FnScope ["self", "part", "position"] ["self", "part", "position"] (defScope ini_InvalidQuery) := ⟨rfl, rfl, rfl, by decide +kernel, rfl, by decide +kernel, by decide +kernel⟩
def posI_InvalidQuestion := posOf (defBody ini_InvalidQuestion)
theorem ie_InvalidQuestion : IniW "PairError" "a question is required" 0 (posI_InvalidQuestion 0) (posI_InvalidQuestion 1) (posI_InvalidQuestion 2) (posI_InvalidQuestion 3) (posI_InvalidQuestion 4) := fun env => ⟨_, fun M A E s Q h => PySem.W.methodCall_KW h⟩
theorem initT_InvalidQuestion (ds : List D) (gs : List (Tx × D)) (z : initT [73, 110, 118, 97, 108, 105, 100, 81, 117, 101, 115, 116, 105, 111, 110] ds = some gs) : ds.length = 0 ∧ gs = (([] : List Tx).zip ds).reverse := by
  match ds, z with
  | [], z => exact ⟨rfl, (Option.some.inj z).symm⟩
  | _ ::  _, z => cases z
theorem pu_InvalidQuestion : Puts [] ((defBody ini_InvalidQuestion).drop 1) := .nil
theorem scI_InvalidQuestion : FnScope ["self"] ["self"] (defScope ini_InvalidQuestion) := ⟨rfl, rfl, rfl, by decide +kernel, rfl, by decide +kernel, by decide +kernel⟩
def posI_InvalidRow := posOf (defBody ini_InvalidRow)
theorem ie_InvalidRow : IniW "PairError" "a row is required" 0 (posI_InvalidRow 0) (posI_InvalidRow 1) (posI_InvalidRow 2) (posI_InvalidRow 3) (posI_InvalidRow 4) := fun env => ⟨_, fun M A E s Q h => PySem.W.methodCall_KW h⟩
theorem initT_InvalidRow (ds : List D) (gs : List (Tx × D)) (z : initT [73, 110, 118, 97, 108, 105, 100, 82, 111, 119] ds = some gs) : ds.length = 1 ∧ gs = (([[112, 111, 115, 105, 116, 105, 111, 110]] : List Tx).zip ds).reverse := by
  match ds, z with
  | [], z => cases z
  | [_], z => exact ⟨rfl, (Option.some.inj z).symm⟩
  | _ :: _ ::  _, z => cases z
theorem pu_InvalidRow : Puts ["position"] ((defBody ini_InvalidRow).drop 1) := (.cons .nil)
theorem scI_InvalidRow : FnScope ["self", "position"] ["self", "position"] (defScope ini_InvalidRow) := ⟨rfl, rfl, rfl, by decide +kernel, rfl, by decide +kernel, by decide +kernel⟩
def posI_InvalidRule := posOf (defBody ini_InvalidRule)
theorem ie_InvalidRule : IniW "PairError" "a rule is required" 0 (posI_InvalidRule 0) (posI_InvalidRule 1) (posI_InvalidRule 2) (posI_InvalidRule 3) (posI_InvalidRule 4) := fun env => ⟨_, fun M A E s Q h => PySem.W.methodCall_KW h⟩
theorem initT_InvalidRule (ds : List D) (gs : List (Tx × D)) (z : initT [73, 110, 118, 97, 108, 105, 100, 82, 117, 108, 101] ds = some gs) : ds.length = 1 ∧ gs = (([[112, 111, 115, 105, 116, 105, 111, 110]] : List Tx).zip ds).reverse := by
  match ds, z with
  | [], z => cases z
  | [_], z => exact ⟨rfl, (Option.some.inj z).symm⟩
  | _ :: _ ::  _, z => cases z
theorem pu_InvalidRule : Puts ["position"] ((defBody ini_InvalidRule).drop 1) := (.cons .nil)
theorem scI_InvalidRule : FnScope ["self", "position"] ["self", "position"] (defScope ini_InvalidRule) := ⟨rfl, rfl, rfl, by decide +kernel, rfl, by decide +kernel, by decide +kernel⟩
def posI_InvalidTable := posOf (defBody ini_InvalidTable)
theorem ie_InvalidTable : IniW "PairError" "a table is required" 0 (posI_InvalidTable 0) (posI_InvalidTable 1) (posI_InvalidTable 2) (posI_InvalidTable 3) (posI_InvalidTable 4) := fun env => ⟨_, fun M A E s Q h => PySem.W.methodCall_KW h⟩
theorem initT_InvalidTable (ds : List D) (gs : List (Tx × D)) (z : initT [73, 110, 118, 97, 108, 105, 100, 84, 97, 98, 108, 101] ds = some gs) : ds.length = 1 ∧ gs = (([[112, 111, 115, 105, 116, 105, 111, 110]] : List Tx).zip ds).reverse := by
  match ds, z with
  | [], z => cases z
  | [_], z => exact ⟨rfl, (Option.some.inj z).symm⟩
  | _ :: _ ::  _, z => cases z
theorem pu_InvalidTable : Puts ["position"] ((defBody ini_InvalidTable).drop 1) := (.cons .nil)
theorem scI_InvalidTable : FnScope ["self", "position"] ["self", "position"] (defScope ini_InvalidTable) := ⟨rfl, rfl, rfl, by decide +kernel, rfl, by decide +kernel, by decide +kernel⟩
def posI_InvalidText := posOf (defBody ini_InvalidText)
theorem ie_InvalidText : IniW "PairError" "the text cannot be read" 0 (posI_InvalidText 0) (posI_InvalidText 1) (posI_InvalidText 2) (posI_InvalidText 3) (posI_InvalidText 4) := fun env => ⟨_, fun M A E s Q h => PySem.W.methodCall_KW h⟩
theorem initT_InvalidText (ds : List D) (gs : List (Tx × D)) (z : initT [73, 110, 118, 97, 108, 105, 100, 84, 101, 120, 116] ds = some gs) : ds.length = 1 ∧ gs = (([[118, 97, 108, 117, 101]] : List Tx).zip ds).reverse := by
  match ds, z with
  | [], z => cases z
  | [_], z => exact ⟨rfl, (Option.some.inj z).symm⟩
  | _ :: _ ::  _, z => cases z
theorem pu_InvalidText : Puts ["value"] ((defBody ini_InvalidText).drop 1) := (.cons .nil)
theorem scI_InvalidText : FnScope ["self", "value"] ["self", "value"] (defScope ini_InvalidText) := ⟨rfl, rfl, rfl, by decide +kernel, rfl, by decide +kernel, by decide +kernel⟩
def posI_InvalidToken := posOf (defBody ini_InvalidToken)
theorem ie_InvalidToken : IniW "PairError" "a token of this view is required" 0 (posI_InvalidToken 0) (posI_InvalidToken 1) (posI_InvalidToken 2) (posI_InvalidToken 3) (posI_InvalidToken 4) := fun env => ⟨_, fun M A E s Q h => PySem.W.methodCall_KW h⟩
theorem initT_InvalidToken (ds : List D) (gs : List (Tx × D)) (z : initT [73, 110, 118, 97, 108, 105, 100, 84, 111, 107, 101, 110] ds = some gs) : ds.length = 1 ∧ gs = (([[118, 97, 108, 117, 101]] : List Tx).zip ds).reverse := by
  match ds, z with
  | [], z => cases z
  | [_], z => exact ⟨rfl, (Option.some.inj z).symm⟩
  | _ :: _ ::  _, z => cases z
theorem pu_InvalidToken : Puts ["value"] ((defBody ini_InvalidToken).drop 1) := (.cons .nil)
theorem scI_InvalidToken : FnScope ["self", "value"] ["self", "value"] (defScope ini_InvalidToken) := ⟨rfl, rfl, rfl, by decide +kernel, rfl, by decide +kernel, by decide +kernel⟩
def posI_InvalidValue := posOf (defBody ini_InvalidValue)
theorem ie_InvalidValue : IniW "PairError" "a value is required" 0 (posI_InvalidValue 0) (posI_InvalidValue 1) (posI_InvalidValue 2) (posI_InvalidValue 3) (posI_InvalidValue 4) := fun env => ⟨_, fun M A E s Q h => PySem.W.methodCall_KW h⟩
theorem initT_InvalidValue (ds : List D) (gs : List (Tx × D)) (z : initT [73, 110, 118, 97, 108, 105, 100, 86, 97, 108, 117, 101] ds = some gs) : ds.length = 1 ∧ gs = (([[118, 97, 108, 117, 101]] : List Tx).zip ds).reverse := by
  match ds, z with
  | [], z => cases z
  | [_], z => exact ⟨rfl, (Option.some.inj z).symm⟩
  | _ :: _ ::  _, z => cases z
theorem pu_InvalidValue : Puts ["value"] ((defBody ini_InvalidValue).drop 1) := (.cons .nil)
theorem scI_InvalidValue : FnScope ["self", "value"] ["self", "value"] (defScope ini_InvalidValue) := ⟨rfl, rfl, rfl, by decide +kernel, rfl, by decide +kernel, by decide +kernel⟩
def posI_InvalidVector := posOf (defBody ini_InvalidVector)
theorem ie_InvalidVector : IniW "PairError" "a vector is required" 0 (posI_InvalidVector 0) (posI_InvalidVector 1) (posI_InvalidVector 2) (posI_InvalidVector 3) (posI_InvalidVector 4) := fun env => ⟨_, fun M A E s Q h => PySem.W.methodCall_KW h⟩
theorem initT_InvalidVector (ds : List D) (gs : List (Tx × D)) (z : initT [73, 110, 118, 97, 108, 105, 100, 86, 101, 99, 116, 111, 114] ds = some gs) : ds.length = 1 ∧ gs = (([[118, 97, 108, 117, 101]] : List Tx).zip ds).reverse := by
  match ds, z with
  | [], z => cases z
  | [_], z => exact ⟨rfl, (Option.some.inj z).symm⟩
  | _ :: _ ::  _, z => cases z
theorem pu_InvalidVector : Puts ["value"] ((defBody ini_InvalidVector).drop 1) := (.cons .nil)
theorem scI_InvalidVector : FnScope ["self", "value"] ["self", "value"] (defScope ini_InvalidVector) := ⟨rfl, rfl, rfl, by decide +kernel, rfl, by decide +kernel, by decide +kernel⟩
def posI_InvalidWrite := posOf (defBody ini_InvalidWrite)
theorem ie_InvalidWrite : IniW "PairError" "this cannot be written" 0 (posI_InvalidWrite 0) (posI_InvalidWrite 1) (posI_InvalidWrite 2) (posI_InvalidWrite 3) (posI_InvalidWrite 4) := fun env => ⟨_, fun M A E s Q h => PySem.W.methodCall_KW h⟩
theorem initT_InvalidWrite (ds : List D) (gs : List (Tx × D)) (z : initT [73, 110, 118, 97, 108, 105, 100, 87, 114, 105, 116, 101] ds = some gs) : ds.length = 1 ∧ gs = (([[112, 111, 115, 105, 116, 105, 111, 110]] : List Tx).zip ds).reverse := by
  match ds, z with
  | [], z => cases z
  | [_], z => exact ⟨rfl, (Option.some.inj z).symm⟩
  | _ :: _ ::  _, z => cases z
theorem pu_InvalidWrite : Puts ["position"] ((defBody ini_InvalidWrite).drop 1) := (.cons .nil)
theorem scI_InvalidWrite : FnScope ["self", "position"] ["self", "position"] (defScope ini_InvalidWrite) := ⟨rfl, rfl, rfl, by decide +kernel, rfl, by decide +kernel, by decide +kernel⟩
def posI_NameTaken := posOf (defBody ini_NameTaken)
theorem ie_NameTaken : IniW "RuntimeError" "the name is taken" 0 (posI_NameTaken 0) (posI_NameTaken 1) (posI_NameTaken 2) (posI_NameTaken 3) (posI_NameTaken 4) := fun env => ⟨_, fun M A E s Q h => PySem.W.methodCall_KW h⟩
theorem initT_NameTaken (ds : List D) (gs : List (Tx × D)) (z : initT [78, 97, 109, 101, 84, 97, 107, 101, 110] ds = some gs) : ds.length = 1 ∧ gs = (([[118, 97, 108, 117, 101]] : List Tx).zip ds).reverse := by
  match ds, z with
  | [], z => cases z
  | [_], z => exact ⟨rfl, (Option.some.inj z).symm⟩
  | _ :: _ ::  _, z => cases z
theorem pu_NameTaken : Puts ["value"] ((defBody ini_NameTaken).drop 1) := (.cons .nil)
theorem scI_NameTaken : FnScope ["self", "value"] ["self", "value"] (defScope ini_NameTaken) := ⟨rfl, rfl, rfl, by decide +kernel, rfl, by decide +kernel, by decide +kernel⟩
def posI_NotServing := posOf (defBody ini_NotServing)
theorem ie_NotServing : IniW "RuntimeError" "this cannot be kept" 0 (posI_NotServing 0) (posI_NotServing 1) (posI_NotServing 2) (posI_NotServing 3) (posI_NotServing 4) := fun env => ⟨_, fun M A E s Q h => PySem.W.methodCall_KW h⟩
theorem initT_NotServing (ds : List D) (gs : List (Tx × D)) (z : initT [78, 111, 116, 83, 101, 114, 118, 105, 110, 103] ds = some gs) : ds.length = 0 ∧ gs = (([] : List Tx).zip ds).reverse := by
  match ds, z with
  | [], z => exact ⟨rfl, (Option.some.inj z).symm⟩
  | _ ::  _, z => cases z
theorem pu_NotServing : Puts [] ((defBody ini_NotServing).drop 1) := .nil
theorem scI_NotServing : FnScope ["self"] ["self"] (defScope ini_NotServing) := ⟨rfl, rfl, rfl, by decide +kernel, rfl, by decide +kernel, by decide +kernel⟩
def posI_OutOfOrder := posOf (defBody ini_OutOfOrder)
theorem ie_OutOfOrder : IniW "RuntimeError" "a row comes out of order" 0 (posI_OutOfOrder 0) (posI_OutOfOrder 1) (posI_OutOfOrder 2) (posI_OutOfOrder 3) (posI_OutOfOrder 4) := fun env => ⟨_, fun M A E s Q h => PySem.W.methodCall_KW h⟩
theorem initT_OutOfOrder (ds : List D) (gs : List (Tx × D)) (z : initT [79, 117, 116, 79, 102, 79, 114, 100, 101, 114] ds = some gs) : ds.length = 1 ∧ gs = (([[112, 97, 116, 104]] : List Tx).zip ds).reverse := by
  match ds, z with
  | [], z => cases z
  | [_], z => exact ⟨rfl, (Option.some.inj z).symm⟩
  | _ :: _ ::  _, z => cases z
theorem pu_OutOfOrder : Puts ["path"] ((defBody ini_OutOfOrder).drop 1) := (.cons .nil)
theorem scI_OutOfOrder : FnScope ["self", "path"] ["self", "path"] (defScope ini_OutOfOrder) := ⟨rfl, rfl, rfl, by decide +kernel, rfl, by decide +kernel, by decide +kernel⟩
def posI_PairBroken := posOf (defBody ini_PairBroken)
theorem ie_PairBroken : IniW "RuntimeError" "two rows break a rule" 0 (posI_PairBroken 0) (posI_PairBroken 1) (posI_PairBroken 2) (posI_PairBroken 3) (posI_PairBroken 4) := fun env => ⟨_, fun M A E s Q h => PySem.W.methodCall_KW h⟩
theorem initT_PairBroken (ds : List D) (gs : List (Tx × D)) (z : initT [80, 97, 105, 114, 66, 114, 111, 107, 101, 110] ds = some gs) : ds.length = 4 ∧ gs = (([[116, 97, 98, 108, 101], [111, 110, 101], [111, 116, 104, 101, 114], [114, 117, 108, 101]] : List Tx).zip ds).reverse := by
  match ds, z with
  | [], z => cases z
  | [_], z => cases z
  | [_, _], z => cases z
  | [_, _, _], z => cases z
  | [_, _, _, _], z => exact ⟨rfl, (Option.some.inj z).symm⟩
  | _ :: _ :: _ :: _ :: _ ::  _, z => cases z
theorem pu_PairBroken : Puts ["table", "one", "other", "rule"] ((defBody ini_PairBroken).drop 1) := (.cons (.cons (.cons (.cons .nil))))
theorem scI_PairBroken : FnScope ["self", "table", "one", "other", "rule"] ["self", "table", "one", "other", "rule"] (defScope ini_PairBroken) := ⟨rfl, rfl, rfl, by decide +kernel, rfl, by decide +kernel, by decide +kernel⟩
def posI_RuleBroken := posOf (defBody ini_RuleBroken)
theorem ie_RuleBroken : IniW "RuntimeError" "the row breaks a rule" 0 (posI_RuleBroken 0) (posI_RuleBroken 1) (posI_RuleBroken 2) (posI_RuleBroken 3) (posI_RuleBroken 4) := fun env => ⟨_, fun M A E s Q h => PySem.W.methodCall_KW h⟩
theorem initT_RuleBroken (ds : List D) (gs : List (Tx × D)) (z : initT [82, 117, 108, 101, 66, 114, 111, 107, 101, 110] ds = some gs) : ds.length = 3 ∧ gs = (([[116, 97, 98, 108, 101], [112, 108, 97, 99, 101], [114, 117, 108, 101]] : List Tx).zip ds).reverse := by
  match ds, z with
  | [], z => cases z
  | [_], z => cases z
  | [_, _], z => cases z
  | [_, _, _], z => exact ⟨rfl, (Option.some.inj z).symm⟩
  | _ :: _ :: _ :: _ ::  _, z => cases z
theorem pu_RuleBroken : Puts ["table", "place", "rule"] ((defBody ini_RuleBroken).drop 1) := (.cons (.cons (.cons .nil)))
theorem scI_RuleBroken : FnScope ["self", "table", "place", "rule"] ["self", "table", "place", "rule"] (defScope ini_RuleBroken) := ⟨rfl, rfl, rfl, by decide +kernel, rfl, by decide +kernel, by decide +kernel⟩
def posI_TooMany := posOf (defBody ini_TooMany)
theorem ie_TooMany : IniW "ArithmeticError" "there are too many" 0 (posI_TooMany 0) (posI_TooMany 1) (posI_TooMany 2) (posI_TooMany 3) (posI_TooMany 4) := fun env => ⟨_, fun M A E s Q h => PySem.W.methodCall_KW h⟩
theorem initT_TooMany (ds : List D) (gs : List (Tx × D)) (z : initT [84, 111, 111, 77, 97, 110, 121] ds = some gs) : ds.length = 2 ∧ gs = (([[107, 105, 110, 100], [108, 105, 109, 105, 116]] : List Tx).zip ds).reverse := by
  match ds, z with
  | [], z => cases z
  | [_], z => cases z
  | [_, _], z => exact ⟨rfl, (Option.some.inj z).symm⟩
  | _ :: _ :: _ ::  _, z => cases z
theorem pu_TooMany : Puts ["kind", "limit"] ((defBody ini_TooMany).drop 1) := (.cons (.cons .nil))
theorem scI_TooMany : FnScope ["self", "kind", "limit"] ["self", "kind", "limit"] (defScope ini_TooMany) := ⟨rfl, rfl, rfl, by decide +kernel, rfl, by decide +kernel, by decide +kernel⟩
def posI_UnknownName := posOf (defBody ini_UnknownName)
theorem ie_UnknownName : IniW "LookupError" "nothing has this name" 0 (posI_UnknownName 0) (posI_UnknownName 1) (posI_UnknownName 2) (posI_UnknownName 3) (posI_UnknownName 4) := fun env => ⟨_, fun M A E s Q h => PySem.W.methodCall_KW h⟩
theorem initT_UnknownName (ds : List D) (gs : List (Tx × D)) (z : initT [85, 110, 107, 110, 111, 119, 110, 78, 97, 109, 101] ds = some gs) : ds.length = 1 ∧ gs = (([[118, 97, 108, 117, 101]] : List Tx).zip ds).reverse := by
  match ds, z with
  | [], z => cases z
  | [_], z => exact ⟨rfl, (Option.some.inj z).symm⟩
  | _ :: _ ::  _, z => cases z
theorem pu_UnknownName : Puts ["value"] ((defBody ini_UnknownName).drop 1) := (.cons .nil)
theorem scI_UnknownName : FnScope ["self", "value"] ["self", "value"] (defScope ini_UnknownName) := ⟨rfl, rfl, rfl, by decide +kernel, rfl, by decide +kernel, by decide +kernel⟩
def posI_UnknownPlace := posOf (defBody ini_UnknownPlace)
theorem ie_UnknownPlace : IniW "LookupError" "there is no such row" 0 (posI_UnknownPlace 0) (posI_UnknownPlace 1) (posI_UnknownPlace 2) (posI_UnknownPlace 3) (posI_UnknownPlace 4) := fun env => ⟨_, fun M A E s Q h => PySem.W.methodCall_KW h⟩
theorem initT_UnknownPlace (ds : List D) (gs : List (Tx × D)) (z : initT [85, 110, 107, 110, 111, 119, 110, 80, 108, 97, 99, 101] ds = some gs) : ds.length = 1 ∧ gs = (([[118, 97, 108, 117, 101]] : List Tx).zip ds).reverse := by
  match ds, z with
  | [], z => cases z
  | [_], z => exact ⟨rfl, (Option.some.inj z).symm⟩
  | _ :: _ ::  _, z => cases z
theorem pu_UnknownPlace : Puts ["value"] ((defBody ini_UnknownPlace).drop 1) := (.cons .nil)
theorem scI_UnknownPlace : FnScope ["self", "value"] ["self", "value"] (defScope ini_UnknownPlace) := ⟨rfl, rfl, rfl, by decide +kernel, rfl, by decide +kernel, by decide +kernel⟩
def posI_UnknownTable := posOf (defBody ini_UnknownTable)
theorem ie_UnknownTable : IniW "LookupError" "there is no such table" 0 (posI_UnknownTable 0) (posI_UnknownTable 1) (posI_UnknownTable 2) (posI_UnknownTable 3) (posI_UnknownTable 4) := fun env => ⟨_, fun M A E s Q h => PySem.W.methodCall_KW h⟩
theorem initT_UnknownTable (ds : List D) (gs : List (Tx × D)) (z : initT [85, 110, 107, 110, 111, 119, 110, 84, 97, 98, 108, 101] ds = some gs) : ds.length = 1 ∧ gs = (([[118, 97, 108, 117, 101]] : List Tx).zip ds).reverse := by
  match ds, z with
  | [], z => cases z
  | [_], z => exact ⟨rfl, (Option.some.inj z).symm⟩
  | _ :: _ ::  _, z => cases z
theorem pu_UnknownTable : Puts ["value"] ((defBody ini_UnknownTable).drop 1) := (.cons .nil)
theorem scI_UnknownTable : FnScope ["self", "value"] ["self", "value"] (defScope ini_UnknownTable) := ⟨rfl, rfl, rfl, by decide +kernel, rfl, by decide +kernel, by decide +kernel⟩
def posI_Unlike := posOf (defBody ini_Unlike)
theorem ie_Unlike : IniW "RuntimeError" "these do not belong together" 0 (posI_Unlike 0) (posI_Unlike 1) (posI_Unlike 2) (posI_Unlike 3) (posI_Unlike 4) := fun env => ⟨_, fun M A E s Q h => PySem.W.methodCall_KW h⟩
theorem initT_Unlike (ds : List D) (gs : List (Tx × D)) (z : initT [85, 110, 108, 105, 107, 101] ds = some gs) : ds.length = 0 ∧ gs = (([] : List Tx).zip ds).reverse := by
  match ds, z with
  | [], z => exact ⟨rfl, (Option.some.inj z).symm⟩
  | _ ::  _, z => cases z
theorem pu_Unlike : Puts [] ((defBody ini_Unlike).drop 1) := .nil
theorem scI_Unlike : FnScope ["self"] ["self"] (defScope ini_Unlike) := ⟨rfl, rfl, rfl, by decide +kernel, rfl, by decide +kernel, by decide +kernel⟩
/-! ### all that the module has written -/
theorem all_mk {P : Program} {w : World} {K : PySem.W.Frag} {h : Heap} {mg : Str → Option Value} {fa : Addr} (X : K.In h) (G : h.Ns mainGlobals mg) (hfa : mg "law" = some (.ref fa))
    {f0 : Addr} {od0 an0 : Option Addr} {sl0 : Array (Option Value)} {oc0 kV0 dc0 pm0 cd0 ct0 : Value}
    {f1 : Addr} {od1 an1 : Option Addr} {sl1 : Array (Option Value)} {oc1 kV1 dc1 pm1 cd1 ct1 : Value}
    {f2 : Addr} {od2 an2 : Option Addr} {sl2 : Array (Option Value)} {oc2 kV2 dc2 pm2 cd2 ct2 : Value}
    {f3 : Addr} {od3 an3 : Option Addr} {sl3 : Array (Option Value)} {oc3 kV3 dc3 pm3 cd3 ct3 : Value}
    {f4 : Addr} {od4 an4 : Option Addr} {sl4 : Array (Option Value)} {oc4 kV4 dc4 pm4 cd4 ct4 : Value}
    {f5 : Addr} {od5 an5 : Option Addr} {sl5 : Array (Option Value)} {oc5 kV5 dc5 pm5 cd5 ct5 : Value}
    {f6 : Addr} {od6 an6 : Option Addr} {sl6 : Array (Option Value)} {oc6 kV6 dc6 pm6 cd6 ct6 : Value}
    {f7 : Addr} {od7 an7 : Option Addr} {sl7 : Array (Option Value)} {oc7 kV7 dc7 pm7 cd7 ct7 : Value}
    {f8 : Addr} {od8 an8 : Option Addr} {sl8 : Array (Option Value)} {oc8 kV8 dc8 pm8 cd8 ct8 : Value}
    {f9 : Addr} {od9 an9 : Option Addr} {sl9 : Array (Option Value)} {oc9 kV9 dc9 pm9 cd9 ct9 : Value}
    {f10 : Addr} {od10 an10 : Option Addr} {sl10 : Array (Option Value)} {oc10 kV10 dc10 pm10 cd10 ct10 : Value}
    {f11 : Addr} {od11 an11 : Option Addr} {sl11 : Array (Option Value)} {oc11 kV11 dc11 pm11 cd11 ct11 : Value}
    {f12 : Addr} {od12 an12 : Option Addr} {sl12 : Array (Option Value)} {oc12 kV12 dc12 pm12 cd12 ct12 : Value}
    {A_Apart : Addr}
    {A_InUse : Addr}
    {A_InvalidColumns : Addr}
    {A_InvalidCommand : Addr}
    {A_InvalidCount : Addr}
    {A_InvalidName : Addr}
    {A_InvalidOffer : Addr}
    {A_InvalidOrder : Addr}
    {A_InvalidPlan : Addr}
    {A_InvalidQuery : Addr}
    {A_InvalidQuestion : Addr}
    {A_InvalidRow : Addr}
    {A_InvalidRule : Addr}
    {A_InvalidTable : Addr}
    {A_InvalidText : Addr}
    {A_InvalidToken : Addr}
    {A_InvalidValue : Addr}
    {A_InvalidVector : Addr}
    {A_InvalidWrite : Addr}
    {A_NameTaken : Addr}
    {A_NotServing : Addr}
    {A_OutOfOrder : Addr}
    {A_PairBroken : Addr}
    {A_PairError : Addr}
    {A_RuleBroken : Addr}
    {A_TooMany : Addr}
    {A_UnknownName : Addr}
    {A_UnknownPlace : Addr}
    {A_UnknownTable : Addr}
    {A_Unlike : Addr}
    {i_Apart : Addr} {iod_Apart ian_Apart : Option Addr} {isl_Apart : Array (Option Value)} {ioc_Apart ikV_Apart idc_Apart ipm_Apart icd_Apart ict_Apart : Value} {nm_Apart qn_Apart : Str} {N_Apart : Addr} {bs_Apart bm_Apart : List Value} {sn_Apart : List Str} {sub_Apart : List Value} {ab_Apart : Bool} {col_Apart : Option Bool} {dd_Apart : Option Addr} {m0_Apart m1_Apart m2_Apart m3_Apart m5_Apart : Option Value}
    {i_InUse : Addr} {iod_InUse ian_InUse : Option Addr} {isl_InUse : Array (Option Value)} {ioc_InUse ikV_InUse idc_InUse ipm_InUse icd_InUse ict_InUse : Value} {nm_InUse qn_InUse : Str} {N_InUse : Addr} {bs_InUse bm_InUse : List Value} {sn_InUse : List Str} {sub_InUse : List Value} {ab_InUse : Bool} {col_InUse : Option Bool} {dd_InUse : Option Addr} {m0_InUse m1_InUse m2_InUse m3_InUse m5_InUse : Option Value}
    {i_InvalidColumns : Addr} {iod_InvalidColumns ian_InvalidColumns : Option Addr} {isl_InvalidColumns : Array (Option Value)} {ioc_InvalidColumns ikV_InvalidColumns idc_InvalidColumns ipm_InvalidColumns icd_InvalidColumns ict_InvalidColumns : Value} {nm_InvalidColumns qn_InvalidColumns : Str} {N_InvalidColumns : Addr} {bs_InvalidColumns bm_InvalidColumns : List Value} {sn_InvalidColumns : List Str} {sub_InvalidColumns : List Value} {ab_InvalidColumns : Bool} {col_InvalidColumns : Option Bool} {dd_InvalidColumns : Option Addr} {m0_InvalidColumns m1_InvalidColumns m2_InvalidColumns m3_InvalidColumns m5_InvalidColumns : Option Value}
    {i_InvalidCommand : Addr} {iod_InvalidCommand ian_InvalidCommand : Option Addr} {isl_InvalidCommand : Array (Option Value)} {ioc_InvalidCommand ikV_InvalidCommand idc_InvalidCommand ipm_InvalidCommand icd_InvalidCommand ict_InvalidCommand : Value} {nm_InvalidCommand qn_InvalidCommand : Str} {N_InvalidCommand : Addr} {bs_InvalidCommand bm_InvalidCommand : List Value} {sn_InvalidCommand : List Str} {sub_InvalidCommand : List Value} {ab_InvalidCommand : Bool} {col_InvalidCommand : Option Bool} {dd_InvalidCommand : Option Addr} {m0_InvalidCommand m1_InvalidCommand m2_InvalidCommand m3_InvalidCommand m5_InvalidCommand : Option Value}
    {i_InvalidCount : Addr} {iod_InvalidCount ian_InvalidCount : Option Addr} {isl_InvalidCount : Array (Option Value)} {ioc_InvalidCount ikV_InvalidCount idc_InvalidCount ipm_InvalidCount icd_InvalidCount ict_InvalidCount : Value} {nm_InvalidCount qn_InvalidCount : Str} {N_InvalidCount : Addr} {bs_InvalidCount bm_InvalidCount : List Value} {sn_InvalidCount : List Str} {sub_InvalidCount : List Value} {ab_InvalidCount : Bool} {col_InvalidCount : Option Bool} {dd_InvalidCount : Option Addr} {m0_InvalidCount m1_InvalidCount m2_InvalidCount m3_InvalidCount m5_InvalidCount : Option Value}
    {i_InvalidName : Addr} {iod_InvalidName ian_InvalidName : Option Addr} {isl_InvalidName : Array (Option Value)} {ioc_InvalidName ikV_InvalidName idc_InvalidName ipm_InvalidName icd_InvalidName ict_InvalidName : Value} {nm_InvalidName qn_InvalidName : Str} {N_InvalidName : Addr} {bs_InvalidName bm_InvalidName : List Value} {sn_InvalidName : List Str} {sub_InvalidName : List Value} {ab_InvalidName : Bool} {col_InvalidName : Option Bool} {dd_InvalidName : Option Addr} {m0_InvalidName m1_InvalidName m2_InvalidName m3_InvalidName m5_InvalidName : Option Value}
    {i_InvalidOffer : Addr} {iod_InvalidOffer ian_InvalidOffer : Option Addr} {isl_InvalidOffer : Array (Option Value)} {ioc_InvalidOffer ikV_InvalidOffer idc_InvalidOffer ipm_InvalidOffer icd_InvalidOffer ict_InvalidOffer : Value} {nm_InvalidOffer qn_InvalidOffer : Str} {N_InvalidOffer : Addr} {bs_InvalidOffer bm_InvalidOffer : List Value} {sn_InvalidOffer : List Str} {sub_InvalidOffer : List Value} {ab_InvalidOffer : Bool} {col_InvalidOffer : Option Bool} {dd_InvalidOffer : Option Addr} {m0_InvalidOffer m1_InvalidOffer m2_InvalidOffer m3_InvalidOffer m5_InvalidOffer : Option Value}
    {i_InvalidOrder : Addr} {iod_InvalidOrder ian_InvalidOrder : Option Addr} {isl_InvalidOrder : Array (Option Value)} {ioc_InvalidOrder ikV_InvalidOrder idc_InvalidOrder ipm_InvalidOrder icd_InvalidOrder ict_InvalidOrder : Value} {nm_InvalidOrder qn_InvalidOrder : Str} {N_InvalidOrder : Addr} {bs_InvalidOrder bm_InvalidOrder : List Value} {sn_InvalidOrder : List Str} {sub_InvalidOrder : List Value} {ab_InvalidOrder : Bool} {col_InvalidOrder : Option Bool} {dd_InvalidOrder : Option Addr} {m0_InvalidOrder m1_InvalidOrder m2_InvalidOrder m3_InvalidOrder m5_InvalidOrder : Option Value}
    {i_InvalidPlan : Addr} {iod_InvalidPlan ian_InvalidPlan : Option Addr} {isl_InvalidPlan : Array (Option Value)} {ioc_InvalidPlan ikV_InvalidPlan idc_InvalidPlan ipm_InvalidPlan icd_InvalidPlan ict_InvalidPlan : Value} {nm_InvalidPlan qn_InvalidPlan : Str} {N_InvalidPlan : Addr} {bs_InvalidPlan bm_InvalidPlan : List Value} {sn_InvalidPlan : List Str} {sub_InvalidPlan : List Value} {ab_InvalidPlan : Bool} {col_InvalidPlan : Option Bool} {dd_InvalidPlan : Option Addr} {m0_InvalidPlan m1_InvalidPlan m2_InvalidPlan m3_InvalidPlan m5_InvalidPlan : Option Value}
    {i_InvalidQuery : Addr} {iod_InvalidQuery ian_InvalidQuery : Option Addr} {isl_InvalidQuery : Array (Option Value)} {ioc_InvalidQuery ikV_InvalidQuery idc_InvalidQuery ipm_InvalidQuery icd_InvalidQuery ict_InvalidQuery : Value} {nm_InvalidQuery qn_InvalidQuery : Str} {N_InvalidQuery : Addr} {bs_InvalidQuery bm_InvalidQuery : List Value} {sn_InvalidQuery : List Str} {sub_InvalidQuery : List Value} {ab_InvalidQuery : Bool} {col_InvalidQuery : Option Bool} {dd_InvalidQuery : Option Addr} {m0_InvalidQuery m1_InvalidQuery m2_InvalidQuery m3_InvalidQuery m5_InvalidQuery : Option Value}
    {i_InvalidQuestion : Addr} {iod_InvalidQuestion ian_InvalidQuestion : Option Addr} {isl_InvalidQuestion : Array (Option Value)} {ioc_InvalidQuestion ikV_InvalidQuestion idc_InvalidQuestion ipm_InvalidQuestion icd_InvalidQuestion ict_InvalidQuestion : Value} {nm_InvalidQuestion qn_InvalidQuestion : Str} {N_InvalidQuestion : Addr} {bs_InvalidQuestion bm_InvalidQuestion : List Value} {sn_InvalidQuestion : List Str} {sub_InvalidQuestion : List Value} {ab_InvalidQuestion : Bool} {col_InvalidQuestion : Option Bool} {dd_InvalidQuestion : Option Addr} {m0_InvalidQuestion m1_InvalidQuestion m2_InvalidQuestion m3_InvalidQuestion m5_InvalidQuestion : Option Value}
    {i_InvalidRow : Addr} {iod_InvalidRow ian_InvalidRow : Option Addr} {isl_InvalidRow : Array (Option Value)} {ioc_InvalidRow ikV_InvalidRow idc_InvalidRow ipm_InvalidRow icd_InvalidRow ict_InvalidRow : Value} {nm_InvalidRow qn_InvalidRow : Str} {N_InvalidRow : Addr} {bs_InvalidRow bm_InvalidRow : List Value} {sn_InvalidRow : List Str} {sub_InvalidRow : List Value} {ab_InvalidRow : Bool} {col_InvalidRow : Option Bool} {dd_InvalidRow : Option Addr} {m0_InvalidRow m1_InvalidRow m2_InvalidRow m3_InvalidRow m5_InvalidRow : Option Value}
    {i_InvalidRule : Addr} {iod_InvalidRule ian_InvalidRule : Option Addr} {isl_InvalidRule : Array (Option Value)} {ioc_InvalidRule ikV_InvalidRule idc_InvalidRule ipm_InvalidRule icd_InvalidRule ict_InvalidRule : Value} {nm_InvalidRule qn_InvalidRule : Str} {N_InvalidRule : Addr} {bs_InvalidRule bm_InvalidRule : List Value} {sn_InvalidRule : List Str} {sub_InvalidRule : List Value} {ab_InvalidRule : Bool} {col_InvalidRule : Option Bool} {dd_InvalidRule : Option Addr} {m0_InvalidRule m1_InvalidRule m2_InvalidRule m3_InvalidRule m5_InvalidRule : Option Value}
    {i_InvalidTable : Addr} {iod_InvalidTable ian_InvalidTable : Option Addr} {isl_InvalidTable : Array (Option Value)} {ioc_InvalidTable ikV_InvalidTable idc_InvalidTable ipm_InvalidTable icd_InvalidTable ict_InvalidTable : Value} {nm_InvalidTable qn_InvalidTable : Str} {N_InvalidTable : Addr} {bs_InvalidTable bm_InvalidTable : List Value} {sn_InvalidTable : List Str} {sub_InvalidTable : List Value} {ab_InvalidTable : Bool} {col_InvalidTable : Option Bool} {dd_InvalidTable : Option Addr} {m0_InvalidTable m1_InvalidTable m2_InvalidTable m3_InvalidTable m5_InvalidTable : Option Value}
    {i_InvalidText : Addr} {iod_InvalidText ian_InvalidText : Option Addr} {isl_InvalidText : Array (Option Value)} {ioc_InvalidText ikV_InvalidText idc_InvalidText ipm_InvalidText icd_InvalidText ict_InvalidText : Value} {nm_InvalidText qn_InvalidText : Str} {N_InvalidText : Addr} {bs_InvalidText bm_InvalidText : List Value} {sn_InvalidText : List Str} {sub_InvalidText : List Value} {ab_InvalidText : Bool} {col_InvalidText : Option Bool} {dd_InvalidText : Option Addr} {m0_InvalidText m1_InvalidText m2_InvalidText m3_InvalidText m5_InvalidText : Option Value}
    {i_InvalidToken : Addr} {iod_InvalidToken ian_InvalidToken : Option Addr} {isl_InvalidToken : Array (Option Value)} {ioc_InvalidToken ikV_InvalidToken idc_InvalidToken ipm_InvalidToken icd_InvalidToken ict_InvalidToken : Value} {nm_InvalidToken qn_InvalidToken : Str} {N_InvalidToken : Addr} {bs_InvalidToken bm_InvalidToken : List Value} {sn_InvalidToken : List Str} {sub_InvalidToken : List Value} {ab_InvalidToken : Bool} {col_InvalidToken : Option Bool} {dd_InvalidToken : Option Addr} {m0_InvalidToken m1_InvalidToken m2_InvalidToken m3_InvalidToken m5_InvalidToken : Option Value}
    {i_InvalidValue : Addr} {iod_InvalidValue ian_InvalidValue : Option Addr} {isl_InvalidValue : Array (Option Value)} {ioc_InvalidValue ikV_InvalidValue idc_InvalidValue ipm_InvalidValue icd_InvalidValue ict_InvalidValue : Value} {nm_InvalidValue qn_InvalidValue : Str} {N_InvalidValue : Addr} {bs_InvalidValue bm_InvalidValue : List Value} {sn_InvalidValue : List Str} {sub_InvalidValue : List Value} {ab_InvalidValue : Bool} {col_InvalidValue : Option Bool} {dd_InvalidValue : Option Addr} {m0_InvalidValue m1_InvalidValue m2_InvalidValue m3_InvalidValue m5_InvalidValue : Option Value}
    {i_InvalidVector : Addr} {iod_InvalidVector ian_InvalidVector : Option Addr} {isl_InvalidVector : Array (Option Value)} {ioc_InvalidVector ikV_InvalidVector idc_InvalidVector ipm_InvalidVector icd_InvalidVector ict_InvalidVector : Value} {nm_InvalidVector qn_InvalidVector : Str} {N_InvalidVector : Addr} {bs_InvalidVector bm_InvalidVector : List Value} {sn_InvalidVector : List Str} {sub_InvalidVector : List Value} {ab_InvalidVector : Bool} {col_InvalidVector : Option Bool} {dd_InvalidVector : Option Addr} {m0_InvalidVector m1_InvalidVector m2_InvalidVector m3_InvalidVector m5_InvalidVector : Option Value}
    {i_InvalidWrite : Addr} {iod_InvalidWrite ian_InvalidWrite : Option Addr} {isl_InvalidWrite : Array (Option Value)} {ioc_InvalidWrite ikV_InvalidWrite idc_InvalidWrite ipm_InvalidWrite icd_InvalidWrite ict_InvalidWrite : Value} {nm_InvalidWrite qn_InvalidWrite : Str} {N_InvalidWrite : Addr} {bs_InvalidWrite bm_InvalidWrite : List Value} {sn_InvalidWrite : List Str} {sub_InvalidWrite : List Value} {ab_InvalidWrite : Bool} {col_InvalidWrite : Option Bool} {dd_InvalidWrite : Option Addr} {m0_InvalidWrite m1_InvalidWrite m2_InvalidWrite m3_InvalidWrite m5_InvalidWrite : Option Value}
    {i_NameTaken : Addr} {iod_NameTaken ian_NameTaken : Option Addr} {isl_NameTaken : Array (Option Value)} {ioc_NameTaken ikV_NameTaken idc_NameTaken ipm_NameTaken icd_NameTaken ict_NameTaken : Value} {nm_NameTaken qn_NameTaken : Str} {N_NameTaken : Addr} {bs_NameTaken bm_NameTaken : List Value} {sn_NameTaken : List Str} {sub_NameTaken : List Value} {ab_NameTaken : Bool} {col_NameTaken : Option Bool} {dd_NameTaken : Option Addr} {m0_NameTaken m1_NameTaken m2_NameTaken m3_NameTaken m5_NameTaken : Option Value}
    {i_NotServing : Addr} {iod_NotServing ian_NotServing : Option Addr} {isl_NotServing : Array (Option Value)} {ioc_NotServing ikV_NotServing idc_NotServing ipm_NotServing icd_NotServing ict_NotServing : Value} {nm_NotServing qn_NotServing : Str} {N_NotServing : Addr} {bs_NotServing bm_NotServing : List Value} {sn_NotServing : List Str} {sub_NotServing : List Value} {ab_NotServing : Bool} {col_NotServing : Option Bool} {dd_NotServing : Option Addr} {m0_NotServing m1_NotServing m2_NotServing m3_NotServing m5_NotServing : Option Value}
    {i_OutOfOrder : Addr} {iod_OutOfOrder ian_OutOfOrder : Option Addr} {isl_OutOfOrder : Array (Option Value)} {ioc_OutOfOrder ikV_OutOfOrder idc_OutOfOrder ipm_OutOfOrder icd_OutOfOrder ict_OutOfOrder : Value} {nm_OutOfOrder qn_OutOfOrder : Str} {N_OutOfOrder : Addr} {bs_OutOfOrder bm_OutOfOrder : List Value} {sn_OutOfOrder : List Str} {sub_OutOfOrder : List Value} {ab_OutOfOrder : Bool} {col_OutOfOrder : Option Bool} {dd_OutOfOrder : Option Addr} {m0_OutOfOrder m1_OutOfOrder m2_OutOfOrder m3_OutOfOrder m5_OutOfOrder : Option Value}
    {i_PairBroken : Addr} {iod_PairBroken ian_PairBroken : Option Addr} {isl_PairBroken : Array (Option Value)} {ioc_PairBroken ikV_PairBroken idc_PairBroken ipm_PairBroken icd_PairBroken ict_PairBroken : Value} {nm_PairBroken qn_PairBroken : Str} {N_PairBroken : Addr} {bs_PairBroken bm_PairBroken : List Value} {sn_PairBroken : List Str} {sub_PairBroken : List Value} {ab_PairBroken : Bool} {col_PairBroken : Option Bool} {dd_PairBroken : Option Addr} {m0_PairBroken m1_PairBroken m2_PairBroken m3_PairBroken m5_PairBroken : Option Value}
    {i_RuleBroken : Addr} {iod_RuleBroken ian_RuleBroken : Option Addr} {isl_RuleBroken : Array (Option Value)} {ioc_RuleBroken ikV_RuleBroken idc_RuleBroken ipm_RuleBroken icd_RuleBroken ict_RuleBroken : Value} {nm_RuleBroken qn_RuleBroken : Str} {N_RuleBroken : Addr} {bs_RuleBroken bm_RuleBroken : List Value} {sn_RuleBroken : List Str} {sub_RuleBroken : List Value} {ab_RuleBroken : Bool} {col_RuleBroken : Option Bool} {dd_RuleBroken : Option Addr} {m0_RuleBroken m1_RuleBroken m2_RuleBroken m3_RuleBroken m5_RuleBroken : Option Value}
    {i_TooMany : Addr} {iod_TooMany ian_TooMany : Option Addr} {isl_TooMany : Array (Option Value)} {ioc_TooMany ikV_TooMany idc_TooMany ipm_TooMany icd_TooMany ict_TooMany : Value} {nm_TooMany qn_TooMany : Str} {N_TooMany : Addr} {bs_TooMany bm_TooMany : List Value} {sn_TooMany : List Str} {sub_TooMany : List Value} {ab_TooMany : Bool} {col_TooMany : Option Bool} {dd_TooMany : Option Addr} {m0_TooMany m1_TooMany m2_TooMany m3_TooMany m5_TooMany : Option Value}
    {i_UnknownName : Addr} {iod_UnknownName ian_UnknownName : Option Addr} {isl_UnknownName : Array (Option Value)} {ioc_UnknownName ikV_UnknownName idc_UnknownName ipm_UnknownName icd_UnknownName ict_UnknownName : Value} {nm_UnknownName qn_UnknownName : Str} {N_UnknownName : Addr} {bs_UnknownName bm_UnknownName : List Value} {sn_UnknownName : List Str} {sub_UnknownName : List Value} {ab_UnknownName : Bool} {col_UnknownName : Option Bool} {dd_UnknownName : Option Addr} {m0_UnknownName m1_UnknownName m2_UnknownName m3_UnknownName m5_UnknownName : Option Value}
    {i_UnknownPlace : Addr} {iod_UnknownPlace ian_UnknownPlace : Option Addr} {isl_UnknownPlace : Array (Option Value)} {ioc_UnknownPlace ikV_UnknownPlace idc_UnknownPlace ipm_UnknownPlace icd_UnknownPlace ict_UnknownPlace : Value} {nm_UnknownPlace qn_UnknownPlace : Str} {N_UnknownPlace : Addr} {bs_UnknownPlace bm_UnknownPlace : List Value} {sn_UnknownPlace : List Str} {sub_UnknownPlace : List Value} {ab_UnknownPlace : Bool} {col_UnknownPlace : Option Bool} {dd_UnknownPlace : Option Addr} {m0_UnknownPlace m1_UnknownPlace m2_UnknownPlace m3_UnknownPlace m5_UnknownPlace : Option Value}
    {i_UnknownTable : Addr} {iod_UnknownTable ian_UnknownTable : Option Addr} {isl_UnknownTable : Array (Option Value)} {ioc_UnknownTable ikV_UnknownTable idc_UnknownTable ipm_UnknownTable icd_UnknownTable ict_UnknownTable : Value} {nm_UnknownTable qn_UnknownTable : Str} {N_UnknownTable : Addr} {bs_UnknownTable bm_UnknownTable : List Value} {sn_UnknownTable : List Str} {sub_UnknownTable : List Value} {ab_UnknownTable : Bool} {col_UnknownTable : Option Bool} {dd_UnknownTable : Option Addr} {m0_UnknownTable m1_UnknownTable m2_UnknownTable m3_UnknownTable m5_UnknownTable : Option Value}
    {i_Unlike : Addr} {iod_Unlike ian_Unlike : Option Addr} {isl_Unlike : Array (Option Value)} {ioc_Unlike ikV_Unlike idc_Unlike ipm_Unlike icd_Unlike ict_Unlike : Value} {nm_Unlike qn_Unlike : Str} {N_Unlike : Addr} {bs_Unlike bm_Unlike : List Value} {sn_Unlike : List Str} {sub_Unlike : List Value} {ab_Unlike : Bool} {col_Unlike : Option Bool} {dd_Unlike : Option Addr} {m0_Unlike m1_Unlike m2_Unlike m3_Unlike m5_Unlike : Option Value}
    (a0 : PySem.W.nsIn K mainGlobals "_law_rng" = some (some (.ref f0)))
    (l0 : K.lookup f0 = some ⟨oc0, od0, .func (PySem.W.fnOf "_law_rng" "_law_rng" (defArgs s__law_rng) (defBody s__law_rng) (defScope s__law_rng) .none kV0 dc0 pm0 an0 cd0 ct0), sl0⟩)
    (c0 : PySem.W.codeIn K cd0 "_law_rng" = true)
    (k0 : PySem.W.keepIn K (.ref f0) = true)
    (a1 : PySem.W.nsIn K mainGlobals "_law_draw" = some (some (.ref f1)))
    (l1 : K.lookup f1 = some ⟨oc1, od1, .func (PySem.W.fnOf "_law_draw" "_law_draw" (defArgs s__law_draw) (defBody s__law_draw) (defScope s__law_draw) .none kV1 dc1 pm1 an1 cd1 ct1), sl1⟩)
    (c1 : PySem.W.codeIn K cd1 "_law_draw" = true)
    (k1 : PySem.W.keepIn K (.ref f1) = true)
    (a2 : PySem.W.nsIn K mainGlobals "_law_choice" = some (some (.ref f2)))
    (l2 : K.lookup f2 = some ⟨oc2, od2, .func (PySem.W.fnOf "_law_choice" "_law_choice" (defArgs s__law_choice) (defBody s__law_choice) (defScope s__law_choice) .none kV2 dc2 pm2 an2 cd2 ct2), sl2⟩)
    (c2 : PySem.W.codeIn K cd2 "_law_choice" = true)
    (k2 : PySem.W.keepIn K (.ref f2) = true)
    (a3 : PySem.W.nsIn K mainGlobals "_law_thing" = some (some (.ref f3)))
    (l3 : K.lookup f3 = some ⟨oc3, od3, .func (PySem.W.fnOf "_law_thing" "_law_thing" (defArgs s__law_thing) (defBody s__law_thing) (defScope s__law_thing) .none kV3 dc3 pm3 an3 cd3 ct3), sl3⟩)
    (c3 : PySem.W.codeIn K cd3 "_law_thing" = true)
    (k3 : PySem.W.keepIn K (.ref f3) = true)
    (a4 : PySem.W.nsIn K mainGlobals "_law_by_position" = some (some (.ref f4)))
    (l4 : K.lookup f4 = some ⟨oc4, od4, .func (PySem.W.fnOf "_law_by_position" "_law_by_position" (defArgs s__law_by_position) (defBody s__law_by_position) (defScope s__law_by_position) .none kV4 dc4 pm4 an4 cd4 ct4), sl4⟩)
    (c4 : PySem.W.codeIn K cd4 "_law_by_position" = true)
    (k4 : PySem.W.keepIn K (.ref f4) = true)
    (a5 : PySem.W.nsIn K mainGlobals "_law_by_name" = some (some (.ref f5)))
    (l5 : K.lookup f5 = some ⟨oc5, od5, .func (PySem.W.fnOf "_law_by_name" "_law_by_name" (defArgs s__law_by_name) (defBody s__law_by_name) (defScope s__law_by_name) .none kV5 dc5 pm5 an5 cd5 ct5), sl5⟩)
    (c5 : PySem.W.codeIn K cd5 "_law_by_name" = true)
    (k5 : PySem.W.keepIn K (.ref f5) = true)
    (a6 : PySem.W.nsIn K mainGlobals "_law_classes" = some (some (.ref f6)))
    (l6 : K.lookup f6 = some ⟨oc6, od6, .func (PySem.W.fnOf "_law_classes" "_law_classes" (defArgs s__law_classes) (defBody s__law_classes) (defScope s__law_classes) .none kV6 dc6 pm6 an6 cd6 ct6), sl6⟩)
    (c6 : PySem.W.codeIn K cd6 "_law_classes" = true)
    (k6 : PySem.W.keepIn K (.ref f6) = true)
    (a7 : PySem.W.nsIn K mainGlobals "_law_fields" = some (some (.ref f7)))
    (l7 : K.lookup f7 = some ⟨oc7, od7, .func (PySem.W.fnOf "_law_fields" "_law_fields" (defArgs s__law_fields) (defBody s__law_fields) (defScope s__law_fields) .none kV7 dc7 pm7 an7 cd7 ct7), sl7⟩)
    (c7 : PySem.W.codeIn K cd7 "_law_fields" = true)
    (k7 : PySem.W.keepIn K (.ref f7) = true)
    (a8 : PySem.W.nsIn K mainGlobals "_law_bases" = some (some (.ref f8)))
    (l8 : K.lookup f8 = some ⟨oc8, od8, .func (PySem.W.fnOf "_law_bases" "_law_bases" (defArgs s__law_bases) (defBody s__law_bases) (defScope s__law_bases) .none kV8 dc8 pm8 an8 cd8 ct8), sl8⟩)
    (c8 : PySem.W.codeIn K cd8 "_law_bases" = true)
    (k8 : PySem.W.keepIn K (.ref f8) = true)
    (a9 : PySem.W.nsIn K mainGlobals "_law_due_bases" = some (some (.ref f9)))
    (l9 : K.lookup f9 = some ⟨oc9, od9, .func (PySem.W.fnOf "_law_due_bases" "_law_due_bases" (defArgs s__law_due_bases) (defBody s__law_due_bases) (defScope s__law_due_bases) .none kV9 dc9 pm9 an9 cd9 ct9), sl9⟩)
    (c9 : PySem.W.codeIn K cd9 "_law_due_bases" = true)
    (k9 : PySem.W.keepIn K (.ref f9) = true)
    (a10 : PySem.W.nsIn K mainGlobals "_law_due_fields" = some (some (.ref f10)))
    (l10 : K.lookup f10 = some ⟨oc10, od10, .func (PySem.W.fnOf "_law_due_fields" "_law_due_fields" (defArgs s__law_due_fields) (defBody s__law_due_fields) (defScope s__law_due_fields) .none kV10 dc10 pm10 an10 cd10 ct10), sl10⟩)
    (c10 : PySem.W.codeIn K cd10 "_law_due_fields" = true)
    (k10 : PySem.W.keepIn K (.ref f10) = true)
    (a11 : PySem.W.nsIn K mainGlobals "_law_right" = some (some (.ref f11)))
    (l11 : K.lookup f11 = some ⟨oc11, od11, .func (PySem.W.fnOf "_law_right" "_law_right" (defArgs s__law_right) (defBody s__law_right) (defScope s__law_right) .none kV11 dc11 pm11 an11 cd11 ct11), sl11⟩)
    (c11 : PySem.W.codeIn K cd11 "_law_right" = true)
    (k11 : PySem.W.keepIn K (.ref f11) = true)
    (a12 : PySem.W.nsIn K mainGlobals "law" = some (some (.ref f12)))
    (l12 : K.lookup f12 = some ⟨oc12, od12, .func (PySem.W.fnOf "law" "law" (defArgs s_law) (defBody s_law) (defScope s_law) .none kV12 dc12 pm12 an12 cd12 ct12), sl12⟩)
    (c12 : PySem.W.codeIn K cd12 "law" = true)
    (k12 : PySem.W.keepIn K (.ref f12) = true)
    (z_abs : PySem.W.nsIn K mainGlobals "abs" = some none)
    (z_divmod : PySem.W.nsIn K mainGlobals "divmod" = some none)
    (z_enumerate : PySem.W.nsIn K mainGlobals "enumerate" = some none)
    (z_int : PySem.W.nsIn K mainGlobals "int" = some none)
    (z_isinstance : PySem.W.nsIn K mainGlobals "isinstance" = some none)
    (z_len : PySem.W.nsIn K mainGlobals "len" = some none)
    (z_max : PySem.W.nsIn K mainGlobals "max" = some none)
    (z_min : PySem.W.nsIn K mainGlobals "min" = some none)
    (z_range : PySem.W.nsIn K mainGlobals "range" = some none)
    (z_repr : PySem.W.nsIn K mainGlobals "repr" = some none)
    (q_Apart : PySem.W.nsIn K mainGlobals "Apart" = some (some (.ref A_Apart)))
    (qs_Apart : PySem.W.subIn K (.ref A_Apart) (.type "BaseException") = some true)
    (qc_Apart : PySem.W.isClsIn K A_Apart = true)
    (qt_Apart : PySem.W.typeIn K (.ref A_Apart) = some (.type "type"))
    (q_InUse : PySem.W.nsIn K mainGlobals "InUse" = some (some (.ref A_InUse)))
    (qs_InUse : PySem.W.subIn K (.ref A_InUse) (.type "BaseException") = some true)
    (qc_InUse : PySem.W.isClsIn K A_InUse = true)
    (qt_InUse : PySem.W.typeIn K (.ref A_InUse) = some (.type "type"))
    (q_InvalidColumns : PySem.W.nsIn K mainGlobals "InvalidColumns" = some (some (.ref A_InvalidColumns)))
    (qs_InvalidColumns : PySem.W.subIn K (.ref A_InvalidColumns) (.type "BaseException") = some true)
    (qc_InvalidColumns : PySem.W.isClsIn K A_InvalidColumns = true)
    (qt_InvalidColumns : PySem.W.typeIn K (.ref A_InvalidColumns) = some (.type "type"))
    (q_InvalidCommand : PySem.W.nsIn K mainGlobals "InvalidCommand" = some (some (.ref A_InvalidCommand)))
    (qs_InvalidCommand : PySem.W.subIn K (.ref A_InvalidCommand) (.type "BaseException") = some true)
    (qc_InvalidCommand : PySem.W.isClsIn K A_InvalidCommand = true)
    (qt_InvalidCommand : PySem.W.typeIn K (.ref A_InvalidCommand) = some (.type "type"))
    (q_InvalidCount : PySem.W.nsIn K mainGlobals "InvalidCount" = some (some (.ref A_InvalidCount)))
    (qs_InvalidCount : PySem.W.subIn K (.ref A_InvalidCount) (.type "BaseException") = some true)
    (qc_InvalidCount : PySem.W.isClsIn K A_InvalidCount = true)
    (qt_InvalidCount : PySem.W.typeIn K (.ref A_InvalidCount) = some (.type "type"))
    (q_InvalidName : PySem.W.nsIn K mainGlobals "InvalidName" = some (some (.ref A_InvalidName)))
    (qs_InvalidName : PySem.W.subIn K (.ref A_InvalidName) (.type "BaseException") = some true)
    (qc_InvalidName : PySem.W.isClsIn K A_InvalidName = true)
    (qt_InvalidName : PySem.W.typeIn K (.ref A_InvalidName) = some (.type "type"))
    (q_InvalidOffer : PySem.W.nsIn K mainGlobals "InvalidOffer" = some (some (.ref A_InvalidOffer)))
    (qs_InvalidOffer : PySem.W.subIn K (.ref A_InvalidOffer) (.type "BaseException") = some true)
    (qc_InvalidOffer : PySem.W.isClsIn K A_InvalidOffer = true)
    (qt_InvalidOffer : PySem.W.typeIn K (.ref A_InvalidOffer) = some (.type "type"))
    (q_InvalidOrder : PySem.W.nsIn K mainGlobals "InvalidOrder" = some (some (.ref A_InvalidOrder)))
    (qs_InvalidOrder : PySem.W.subIn K (.ref A_InvalidOrder) (.type "BaseException") = some true)
    (qc_InvalidOrder : PySem.W.isClsIn K A_InvalidOrder = true)
    (qt_InvalidOrder : PySem.W.typeIn K (.ref A_InvalidOrder) = some (.type "type"))
    (q_InvalidPlan : PySem.W.nsIn K mainGlobals "InvalidPlan" = some (some (.ref A_InvalidPlan)))
    (qs_InvalidPlan : PySem.W.subIn K (.ref A_InvalidPlan) (.type "BaseException") = some true)
    (qc_InvalidPlan : PySem.W.isClsIn K A_InvalidPlan = true)
    (qt_InvalidPlan : PySem.W.typeIn K (.ref A_InvalidPlan) = some (.type "type"))
    (q_InvalidQuery : PySem.W.nsIn K mainGlobals "InvalidQuery" = some (some (.ref A_InvalidQuery)))
    (qs_InvalidQuery : PySem.W.subIn K (.ref A_InvalidQuery) (.type "BaseException") = some true)
    (qc_InvalidQuery : PySem.W.isClsIn K A_InvalidQuery = true)
    (qt_InvalidQuery : PySem.W.typeIn K (.ref A_InvalidQuery) = some (.type "type"))
    (q_InvalidQuestion : PySem.W.nsIn K mainGlobals "InvalidQuestion" = some (some (.ref A_InvalidQuestion)))
    (qs_InvalidQuestion : PySem.W.subIn K (.ref A_InvalidQuestion) (.type "BaseException") = some true)
    (qc_InvalidQuestion : PySem.W.isClsIn K A_InvalidQuestion = true)
    (qt_InvalidQuestion : PySem.W.typeIn K (.ref A_InvalidQuestion) = some (.type "type"))
    (q_InvalidRow : PySem.W.nsIn K mainGlobals "InvalidRow" = some (some (.ref A_InvalidRow)))
    (qs_InvalidRow : PySem.W.subIn K (.ref A_InvalidRow) (.type "BaseException") = some true)
    (qc_InvalidRow : PySem.W.isClsIn K A_InvalidRow = true)
    (qt_InvalidRow : PySem.W.typeIn K (.ref A_InvalidRow) = some (.type "type"))
    (q_InvalidRule : PySem.W.nsIn K mainGlobals "InvalidRule" = some (some (.ref A_InvalidRule)))
    (qs_InvalidRule : PySem.W.subIn K (.ref A_InvalidRule) (.type "BaseException") = some true)
    (qc_InvalidRule : PySem.W.isClsIn K A_InvalidRule = true)
    (qt_InvalidRule : PySem.W.typeIn K (.ref A_InvalidRule) = some (.type "type"))
    (q_InvalidTable : PySem.W.nsIn K mainGlobals "InvalidTable" = some (some (.ref A_InvalidTable)))
    (qs_InvalidTable : PySem.W.subIn K (.ref A_InvalidTable) (.type "BaseException") = some true)
    (qc_InvalidTable : PySem.W.isClsIn K A_InvalidTable = true)
    (qt_InvalidTable : PySem.W.typeIn K (.ref A_InvalidTable) = some (.type "type"))
    (q_InvalidText : PySem.W.nsIn K mainGlobals "InvalidText" = some (some (.ref A_InvalidText)))
    (qs_InvalidText : PySem.W.subIn K (.ref A_InvalidText) (.type "BaseException") = some true)
    (qc_InvalidText : PySem.W.isClsIn K A_InvalidText = true)
    (qt_InvalidText : PySem.W.typeIn K (.ref A_InvalidText) = some (.type "type"))
    (q_InvalidToken : PySem.W.nsIn K mainGlobals "InvalidToken" = some (some (.ref A_InvalidToken)))
    (qs_InvalidToken : PySem.W.subIn K (.ref A_InvalidToken) (.type "BaseException") = some true)
    (qc_InvalidToken : PySem.W.isClsIn K A_InvalidToken = true)
    (qt_InvalidToken : PySem.W.typeIn K (.ref A_InvalidToken) = some (.type "type"))
    (q_InvalidValue : PySem.W.nsIn K mainGlobals "InvalidValue" = some (some (.ref A_InvalidValue)))
    (qs_InvalidValue : PySem.W.subIn K (.ref A_InvalidValue) (.type "BaseException") = some true)
    (qc_InvalidValue : PySem.W.isClsIn K A_InvalidValue = true)
    (qt_InvalidValue : PySem.W.typeIn K (.ref A_InvalidValue) = some (.type "type"))
    (q_InvalidVector : PySem.W.nsIn K mainGlobals "InvalidVector" = some (some (.ref A_InvalidVector)))
    (qs_InvalidVector : PySem.W.subIn K (.ref A_InvalidVector) (.type "BaseException") = some true)
    (qc_InvalidVector : PySem.W.isClsIn K A_InvalidVector = true)
    (qt_InvalidVector : PySem.W.typeIn K (.ref A_InvalidVector) = some (.type "type"))
    (q_InvalidWrite : PySem.W.nsIn K mainGlobals "InvalidWrite" = some (some (.ref A_InvalidWrite)))
    (qs_InvalidWrite : PySem.W.subIn K (.ref A_InvalidWrite) (.type "BaseException") = some true)
    (qc_InvalidWrite : PySem.W.isClsIn K A_InvalidWrite = true)
    (qt_InvalidWrite : PySem.W.typeIn K (.ref A_InvalidWrite) = some (.type "type"))
    (q_NameTaken : PySem.W.nsIn K mainGlobals "NameTaken" = some (some (.ref A_NameTaken)))
    (qs_NameTaken : PySem.W.subIn K (.ref A_NameTaken) (.type "BaseException") = some true)
    (qc_NameTaken : PySem.W.isClsIn K A_NameTaken = true)
    (qt_NameTaken : PySem.W.typeIn K (.ref A_NameTaken) = some (.type "type"))
    (q_NotServing : PySem.W.nsIn K mainGlobals "NotServing" = some (some (.ref A_NotServing)))
    (qs_NotServing : PySem.W.subIn K (.ref A_NotServing) (.type "BaseException") = some true)
    (qc_NotServing : PySem.W.isClsIn K A_NotServing = true)
    (qt_NotServing : PySem.W.typeIn K (.ref A_NotServing) = some (.type "type"))
    (q_OutOfOrder : PySem.W.nsIn K mainGlobals "OutOfOrder" = some (some (.ref A_OutOfOrder)))
    (qs_OutOfOrder : PySem.W.subIn K (.ref A_OutOfOrder) (.type "BaseException") = some true)
    (qc_OutOfOrder : PySem.W.isClsIn K A_OutOfOrder = true)
    (qt_OutOfOrder : PySem.W.typeIn K (.ref A_OutOfOrder) = some (.type "type"))
    (q_PairBroken : PySem.W.nsIn K mainGlobals "PairBroken" = some (some (.ref A_PairBroken)))
    (qs_PairBroken : PySem.W.subIn K (.ref A_PairBroken) (.type "BaseException") = some true)
    (qc_PairBroken : PySem.W.isClsIn K A_PairBroken = true)
    (qt_PairBroken : PySem.W.typeIn K (.ref A_PairBroken) = some (.type "type"))
    (q_PairError : PySem.W.nsIn K mainGlobals "PairError" = some (some (.ref A_PairError)))
    (qs_PairError : PySem.W.subIn K (.ref A_PairError) (.type "BaseException") = some true)
    (qc_PairError : PySem.W.isClsIn K A_PairError = true)
    (qt_PairError : PySem.W.typeIn K (.ref A_PairError) = some (.type "type"))
    (q_RuleBroken : PySem.W.nsIn K mainGlobals "RuleBroken" = some (some (.ref A_RuleBroken)))
    (qs_RuleBroken : PySem.W.subIn K (.ref A_RuleBroken) (.type "BaseException") = some true)
    (qc_RuleBroken : PySem.W.isClsIn K A_RuleBroken = true)
    (qt_RuleBroken : PySem.W.typeIn K (.ref A_RuleBroken) = some (.type "type"))
    (q_TooMany : PySem.W.nsIn K mainGlobals "TooMany" = some (some (.ref A_TooMany)))
    (qs_TooMany : PySem.W.subIn K (.ref A_TooMany) (.type "BaseException") = some true)
    (qc_TooMany : PySem.W.isClsIn K A_TooMany = true)
    (qt_TooMany : PySem.W.typeIn K (.ref A_TooMany) = some (.type "type"))
    (q_UnknownName : PySem.W.nsIn K mainGlobals "UnknownName" = some (some (.ref A_UnknownName)))
    (qs_UnknownName : PySem.W.subIn K (.ref A_UnknownName) (.type "BaseException") = some true)
    (qc_UnknownName : PySem.W.isClsIn K A_UnknownName = true)
    (qt_UnknownName : PySem.W.typeIn K (.ref A_UnknownName) = some (.type "type"))
    (q_UnknownPlace : PySem.W.nsIn K mainGlobals "UnknownPlace" = some (some (.ref A_UnknownPlace)))
    (qs_UnknownPlace : PySem.W.subIn K (.ref A_UnknownPlace) (.type "BaseException") = some true)
    (qc_UnknownPlace : PySem.W.isClsIn K A_UnknownPlace = true)
    (qt_UnknownPlace : PySem.W.typeIn K (.ref A_UnknownPlace) = some (.type "type"))
    (q_UnknownTable : PySem.W.nsIn K mainGlobals "UnknownTable" = some (some (.ref A_UnknownTable)))
    (qs_UnknownTable : PySem.W.subIn K (.ref A_UnknownTable) (.type "BaseException") = some true)
    (qc_UnknownTable : PySem.W.isClsIn K A_UnknownTable = true)
    (qt_UnknownTable : PySem.W.typeIn K (.ref A_UnknownTable) = some (.type "type"))
    (q_Unlike : PySem.W.nsIn K mainGlobals "Unlike" = some (some (.ref A_Unlike)))
    (qs_Unlike : PySem.W.subIn K (.ref A_Unlike) (.type "BaseException") = some true)
    (qc_Unlike : PySem.W.isClsIn K A_Unlike = true)
    (qt_Unlike : PySem.W.typeIn K (.ref A_Unlike) = some (.type "type"))
    (y_ArithmeticError : PySem.W.nsIn K mainGlobals "ArithmeticError" = some none)
    (ys_ArithmeticError : PySem.W.subIn K (.type "ArithmeticError") (.type "BaseException") = some true)
    (y_LookupError : PySem.W.nsIn K mainGlobals "LookupError" = some none)
    (ys_LookupError : PySem.W.subIn K (.type "LookupError") (.type "BaseException") = some true)
    (y_RuntimeError : PySem.W.nsIn K mainGlobals "RuntimeError" = some none)
    (ys_RuntimeError : PySem.W.subIn K (.type "RuntimeError") (.type "BaseException") = some true)
    (y_ValueError : PySem.W.nsIn K mainGlobals "ValueError" = some none)
    (ys_ValueError : PySem.W.subIn K (.type "ValueError") (.type "BaseException") = some true)
    (allE : madeL.all (errB K T.fld) = true)
    (allC : (clAll clR askL).all (clB K) = true)
    (allX : xclL.all (xclB K) = true)
    (allA : askL.all (askB K) = true)
    (hsp0 : PySem.W.specialIn K (.builtin "object.__class__") "__get__" = some (some (.builtin "getset_descriptor.__get__")))
    (htk0 : PySem.W.takesIn K (.builtin "object.__class__") = some true)
    (x_Apart : K.lookup A_Apart = some (excClassObj nm_Apart qn_Apart A_Apart N_Apart bs_Apart bm_Apart true sn_Apart sub_Apart ab_Apart col_Apart dd_Apart m0_Apart m1_Apart m2_Apart m3_Apart m5_Apart "RuntimeError.__new__"))
    (kc_Apart : PySem.W.keepIn K (.ref A_Apart) = true)
    (ii_Apart : PySem.W.findIn K (.ref A_Apart) "__init__" = some (some (.ref i_Apart)))
    (it_Apart : PySem.W.typeIn K (.ref i_Apart) = some (.type "function"))
    (il_Apart : K.lookup i_Apart = some ⟨ioc_Apart, iod_Apart, .func (PySem.W.fnOf "__init__" "Apart.__init__" (defArgs ini_Apart) (defBody ini_Apart) (defScope ini_Apart) .none ikV_Apart idc_Apart ipm_Apart ian_Apart icd_Apart ict_Apart), isl_Apart⟩)
    (ic_Apart : PySem.W.codeIn K icd_Apart "Apart.__init__" = true)
    (ik_Apart : PySem.W.keepIn K (.ref i_Apart) = true)
    (sa_Apart : PySem.W.findIn K (.ref A_Apart) "__setattr__" = some (some (.builtin "object.__setattr__")))
    (vv_Apart : PySem.W.findCls K (.type "RuntimeError") (.type "type") "__init__" = some (.val (.builtin "RuntimeError.__init__")))
    (bm_Apart' : PySem.W.excTail [.type "RuntimeError", .type "Exception", .type "BaseException", .type "object"] bm_Apart = true)
    (x_InUse : K.lookup A_InUse = some (excClassObj nm_InUse qn_InUse A_InUse N_InUse bs_InUse bm_InUse true sn_InUse sub_InUse ab_InUse col_InUse dd_InUse m0_InUse m1_InUse m2_InUse m3_InUse m5_InUse "RuntimeError.__new__"))
    (kc_InUse : PySem.W.keepIn K (.ref A_InUse) = true)
    (ii_InUse : PySem.W.findIn K (.ref A_InUse) "__init__" = some (some (.ref i_InUse)))
    (it_InUse : PySem.W.typeIn K (.ref i_InUse) = some (.type "function"))
    (il_InUse : K.lookup i_InUse = some ⟨ioc_InUse, iod_InUse, .func (PySem.W.fnOf "__init__" "InUse.__init__" (defArgs ini_InUse) (defBody ini_InUse) (defScope ini_InUse) .none ikV_InUse idc_InUse ipm_InUse ian_InUse icd_InUse ict_InUse), isl_InUse⟩)
    (ic_InUse : PySem.W.codeIn K icd_InUse "InUse.__init__" = true)
    (ik_InUse : PySem.W.keepIn K (.ref i_InUse) = true)
    (sa_InUse : PySem.W.findIn K (.ref A_InUse) "__setattr__" = some (some (.builtin "object.__setattr__")))
    (vv_InUse : PySem.W.findCls K (.type "RuntimeError") (.type "type") "__init__" = some (.val (.builtin "RuntimeError.__init__")))
    (bm_InUse' : PySem.W.excTail [.type "RuntimeError", .type "Exception", .type "BaseException", .type "object"] bm_InUse = true)
    (x_InvalidColumns : K.lookup A_InvalidColumns = some (excClassObj nm_InvalidColumns qn_InvalidColumns A_InvalidColumns N_InvalidColumns bs_InvalidColumns bm_InvalidColumns true sn_InvalidColumns sub_InvalidColumns ab_InvalidColumns col_InvalidColumns dd_InvalidColumns m0_InvalidColumns m1_InvalidColumns m2_InvalidColumns m3_InvalidColumns m5_InvalidColumns "ValueError.__new__"))
    (kc_InvalidColumns : PySem.W.keepIn K (.ref A_InvalidColumns) = true)
    (ii_InvalidColumns : PySem.W.findIn K (.ref A_InvalidColumns) "__init__" = some (some (.ref i_InvalidColumns)))
    (it_InvalidColumns : PySem.W.typeIn K (.ref i_InvalidColumns) = some (.type "function"))
    (il_InvalidColumns : K.lookup i_InvalidColumns = some ⟨ioc_InvalidColumns, iod_InvalidColumns, .func (PySem.W.fnOf "__init__" "InvalidColumns.__init__" (defArgs ini_InvalidColumns) (defBody ini_InvalidColumns) (defScope ini_InvalidColumns) .none ikV_InvalidColumns idc_InvalidColumns ipm_InvalidColumns ian_InvalidColumns icd_InvalidColumns ict_InvalidColumns), isl_InvalidColumns⟩)
    (ic_InvalidColumns : PySem.W.codeIn K icd_InvalidColumns "InvalidColumns.__init__" = true)
    (ik_InvalidColumns : PySem.W.keepIn K (.ref i_InvalidColumns) = true)
    (sa_InvalidColumns : PySem.W.findIn K (.ref A_InvalidColumns) "__setattr__" = some (some (.builtin "object.__setattr__")))
    (sg_InvalidColumns : PySem.W.specialIn K (.ref A_PairError) "__getattribute__" = some (some (.builtin "type.__getattribute__")))
    (rd_InvalidColumns : PySem.W.readsIn K A_PairError (.type "type") = true)
    (vv_InvalidColumns : PySem.W.findCls K (.ref A_PairError) (.type "type") "__init__" = some (.val (.builtin "ValueError.__init__")))
    (bm_InvalidColumns' : PySem.W.excTail [.type "ValueError", .type "Exception", .type "BaseException", .type "object"] bm_InvalidColumns = true)
    (x_InvalidCommand : K.lookup A_InvalidCommand = some (excClassObj nm_InvalidCommand qn_InvalidCommand A_InvalidCommand N_InvalidCommand bs_InvalidCommand bm_InvalidCommand true sn_InvalidCommand sub_InvalidCommand ab_InvalidCommand col_InvalidCommand dd_InvalidCommand m0_InvalidCommand m1_InvalidCommand m2_InvalidCommand m3_InvalidCommand m5_InvalidCommand "ValueError.__new__"))
    (kc_InvalidCommand : PySem.W.keepIn K (.ref A_InvalidCommand) = true)
    (ii_InvalidCommand : PySem.W.findIn K (.ref A_InvalidCommand) "__init__" = some (some (.ref i_InvalidCommand)))
    (it_InvalidCommand : PySem.W.typeIn K (.ref i_InvalidCommand) = some (.type "function"))
    (il_InvalidCommand : K.lookup i_InvalidCommand = some ⟨ioc_InvalidCommand, iod_InvalidCommand, .func (PySem.W.fnOf "__init__" "InvalidCommand.__init__" (defArgs ini_InvalidCommand) (defBody ini_InvalidCommand) (defScope ini_InvalidCommand) .none ikV_InvalidCommand idc_InvalidCommand ipm_InvalidCommand ian_InvalidCommand icd_InvalidCommand ict_InvalidCommand), isl_InvalidCommand⟩)
    (ic_InvalidCommand : PySem.W.codeIn K icd_InvalidCommand "InvalidCommand.__init__" = true)
    (ik_InvalidCommand : PySem.W.keepIn K (.ref i_InvalidCommand) = true)
    (sa_InvalidCommand : PySem.W.findIn K (.ref A_InvalidCommand) "__setattr__" = some (some (.builtin "object.__setattr__")))
    (sg_InvalidCommand : PySem.W.specialIn K (.ref A_PairError) "__getattribute__" = some (some (.builtin "type.__getattribute__")))
    (rd_InvalidCommand : PySem.W.readsIn K A_PairError (.type "type") = true)
    (vv_InvalidCommand : PySem.W.findCls K (.ref A_PairError) (.type "type") "__init__" = some (.val (.builtin "ValueError.__init__")))
    (bm_InvalidCommand' : PySem.W.excTail [.type "ValueError", .type "Exception", .type "BaseException", .type "object"] bm_InvalidCommand = true)
    (x_InvalidCount : K.lookup A_InvalidCount = some (excClassObj nm_InvalidCount qn_InvalidCount A_InvalidCount N_InvalidCount bs_InvalidCount bm_InvalidCount true sn_InvalidCount sub_InvalidCount ab_InvalidCount col_InvalidCount dd_InvalidCount m0_InvalidCount m1_InvalidCount m2_InvalidCount m3_InvalidCount m5_InvalidCount "ValueError.__new__"))
    (kc_InvalidCount : PySem.W.keepIn K (.ref A_InvalidCount) = true)
    (ii_InvalidCount : PySem.W.findIn K (.ref A_InvalidCount) "__init__" = some (some (.ref i_InvalidCount)))
    (it_InvalidCount : PySem.W.typeIn K (.ref i_InvalidCount) = some (.type "function"))
    (il_InvalidCount : K.lookup i_InvalidCount = some ⟨ioc_InvalidCount, iod_InvalidCount, .func (PySem.W.fnOf "__init__" "InvalidCount.__init__" (defArgs ini_InvalidCount) (defBody ini_InvalidCount) (defScope ini_InvalidCount) .none ikV_InvalidCount idc_InvalidCount ipm_InvalidCount ian_InvalidCount icd_InvalidCount ict_InvalidCount), isl_InvalidCount⟩)
    (ic_InvalidCount : PySem.W.codeIn K icd_InvalidCount "InvalidCount.__init__" = true)
    (ik_InvalidCount : PySem.W.keepIn K (.ref i_InvalidCount) = true)
    (sa_InvalidCount : PySem.W.findIn K (.ref A_InvalidCount) "__setattr__" = some (some (.builtin "object.__setattr__")))
    (sg_InvalidCount : PySem.W.specialIn K (.ref A_PairError) "__getattribute__" = some (some (.builtin "type.__getattribute__")))
    (rd_InvalidCount : PySem.W.readsIn K A_PairError (.type "type") = true)
    (vv_InvalidCount : PySem.W.findCls K (.ref A_PairError) (.type "type") "__init__" = some (.val (.builtin "ValueError.__init__")))
    (bm_InvalidCount' : PySem.W.excTail [.type "ValueError", .type "Exception", .type "BaseException", .type "object"] bm_InvalidCount = true)
    (x_InvalidName : K.lookup A_InvalidName = some (excClassObj nm_InvalidName qn_InvalidName A_InvalidName N_InvalidName bs_InvalidName bm_InvalidName true sn_InvalidName sub_InvalidName ab_InvalidName col_InvalidName dd_InvalidName m0_InvalidName m1_InvalidName m2_InvalidName m3_InvalidName m5_InvalidName "ValueError.__new__"))
    (kc_InvalidName : PySem.W.keepIn K (.ref A_InvalidName) = true)
    (ii_InvalidName : PySem.W.findIn K (.ref A_InvalidName) "__init__" = some (some (.ref i_InvalidName)))
    (it_InvalidName : PySem.W.typeIn K (.ref i_InvalidName) = some (.type "function"))
    (il_InvalidName : K.lookup i_InvalidName = some ⟨ioc_InvalidName, iod_InvalidName, .func (PySem.W.fnOf "__init__" "InvalidName.__init__" (defArgs ini_InvalidName) (defBody ini_InvalidName) (defScope ini_InvalidName) .none ikV_InvalidName idc_InvalidName ipm_InvalidName ian_InvalidName icd_InvalidName ict_InvalidName), isl_InvalidName⟩)
    (ic_InvalidName : PySem.W.codeIn K icd_InvalidName "InvalidName.__init__" = true)
    (ik_InvalidName : PySem.W.keepIn K (.ref i_InvalidName) = true)
    (sa_InvalidName : PySem.W.findIn K (.ref A_InvalidName) "__setattr__" = some (some (.builtin "object.__setattr__")))
    (sg_InvalidName : PySem.W.specialIn K (.ref A_PairError) "__getattribute__" = some (some (.builtin "type.__getattribute__")))
    (rd_InvalidName : PySem.W.readsIn K A_PairError (.type "type") = true)
    (vv_InvalidName : PySem.W.findCls K (.ref A_PairError) (.type "type") "__init__" = some (.val (.builtin "ValueError.__init__")))
    (bm_InvalidName' : PySem.W.excTail [.type "ValueError", .type "Exception", .type "BaseException", .type "object"] bm_InvalidName = true)
    (x_InvalidOffer : K.lookup A_InvalidOffer = some (excClassObj nm_InvalidOffer qn_InvalidOffer A_InvalidOffer N_InvalidOffer bs_InvalidOffer bm_InvalidOffer true sn_InvalidOffer sub_InvalidOffer ab_InvalidOffer col_InvalidOffer dd_InvalidOffer m0_InvalidOffer m1_InvalidOffer m2_InvalidOffer m3_InvalidOffer m5_InvalidOffer "ValueError.__new__"))
    (kc_InvalidOffer : PySem.W.keepIn K (.ref A_InvalidOffer) = true)
    (ii_InvalidOffer : PySem.W.findIn K (.ref A_InvalidOffer) "__init__" = some (some (.ref i_InvalidOffer)))
    (it_InvalidOffer : PySem.W.typeIn K (.ref i_InvalidOffer) = some (.type "function"))
    (il_InvalidOffer : K.lookup i_InvalidOffer = some ⟨ioc_InvalidOffer, iod_InvalidOffer, .func (PySem.W.fnOf "__init__" "InvalidOffer.__init__" (defArgs ini_InvalidOffer) (defBody ini_InvalidOffer) (defScope ini_InvalidOffer) .none ikV_InvalidOffer idc_InvalidOffer ipm_InvalidOffer ian_InvalidOffer icd_InvalidOffer ict_InvalidOffer), isl_InvalidOffer⟩)
    (ic_InvalidOffer : PySem.W.codeIn K icd_InvalidOffer "InvalidOffer.__init__" = true)
    (ik_InvalidOffer : PySem.W.keepIn K (.ref i_InvalidOffer) = true)
    (sa_InvalidOffer : PySem.W.findIn K (.ref A_InvalidOffer) "__setattr__" = some (some (.builtin "object.__setattr__")))
    (sg_InvalidOffer : PySem.W.specialIn K (.ref A_PairError) "__getattribute__" = some (some (.builtin "type.__getattribute__")))
    (rd_InvalidOffer : PySem.W.readsIn K A_PairError (.type "type") = true)
    (vv_InvalidOffer : PySem.W.findCls K (.ref A_PairError) (.type "type") "__init__" = some (.val (.builtin "ValueError.__init__")))
    (bm_InvalidOffer' : PySem.W.excTail [.type "ValueError", .type "Exception", .type "BaseException", .type "object"] bm_InvalidOffer = true)
    (x_InvalidOrder : K.lookup A_InvalidOrder = some (excClassObj nm_InvalidOrder qn_InvalidOrder A_InvalidOrder N_InvalidOrder bs_InvalidOrder bm_InvalidOrder true sn_InvalidOrder sub_InvalidOrder ab_InvalidOrder col_InvalidOrder dd_InvalidOrder m0_InvalidOrder m1_InvalidOrder m2_InvalidOrder m3_InvalidOrder m5_InvalidOrder "ValueError.__new__"))
    (kc_InvalidOrder : PySem.W.keepIn K (.ref A_InvalidOrder) = true)
    (ii_InvalidOrder : PySem.W.findIn K (.ref A_InvalidOrder) "__init__" = some (some (.ref i_InvalidOrder)))
    (it_InvalidOrder : PySem.W.typeIn K (.ref i_InvalidOrder) = some (.type "function"))
    (il_InvalidOrder : K.lookup i_InvalidOrder = some ⟨ioc_InvalidOrder, iod_InvalidOrder, .func (PySem.W.fnOf "__init__" "InvalidOrder.__init__" (defArgs ini_InvalidOrder) (defBody ini_InvalidOrder) (defScope ini_InvalidOrder) .none ikV_InvalidOrder idc_InvalidOrder ipm_InvalidOrder ian_InvalidOrder icd_InvalidOrder ict_InvalidOrder), isl_InvalidOrder⟩)
    (ic_InvalidOrder : PySem.W.codeIn K icd_InvalidOrder "InvalidOrder.__init__" = true)
    (ik_InvalidOrder : PySem.W.keepIn K (.ref i_InvalidOrder) = true)
    (sa_InvalidOrder : PySem.W.findIn K (.ref A_InvalidOrder) "__setattr__" = some (some (.builtin "object.__setattr__")))
    (sg_InvalidOrder : PySem.W.specialIn K (.ref A_PairError) "__getattribute__" = some (some (.builtin "type.__getattribute__")))
    (rd_InvalidOrder : PySem.W.readsIn K A_PairError (.type "type") = true)
    (vv_InvalidOrder : PySem.W.findCls K (.ref A_PairError) (.type "type") "__init__" = some (.val (.builtin "ValueError.__init__")))
    (bm_InvalidOrder' : PySem.W.excTail [.type "ValueError", .type "Exception", .type "BaseException", .type "object"] bm_InvalidOrder = true)
    (x_InvalidPlan : K.lookup A_InvalidPlan = some (excClassObj nm_InvalidPlan qn_InvalidPlan A_InvalidPlan N_InvalidPlan bs_InvalidPlan bm_InvalidPlan true sn_InvalidPlan sub_InvalidPlan ab_InvalidPlan col_InvalidPlan dd_InvalidPlan m0_InvalidPlan m1_InvalidPlan m2_InvalidPlan m3_InvalidPlan m5_InvalidPlan "ValueError.__new__"))
    (kc_InvalidPlan : PySem.W.keepIn K (.ref A_InvalidPlan) = true)
    (ii_InvalidPlan : PySem.W.findIn K (.ref A_InvalidPlan) "__init__" = some (some (.ref i_InvalidPlan)))
    (it_InvalidPlan : PySem.W.typeIn K (.ref i_InvalidPlan) = some (.type "function"))
    (il_InvalidPlan : K.lookup i_InvalidPlan = some ⟨ioc_InvalidPlan, iod_InvalidPlan, .func (PySem.W.fnOf "__init__" "InvalidPlan.__init__" (defArgs ini_InvalidPlan) (defBody ini_InvalidPlan) (defScope ini_InvalidPlan) .none ikV_InvalidPlan idc_InvalidPlan ipm_InvalidPlan ian_InvalidPlan icd_InvalidPlan ict_InvalidPlan), isl_InvalidPlan⟩)
    (ic_InvalidPlan : PySem.W.codeIn K icd_InvalidPlan "InvalidPlan.__init__" = true)
    (ik_InvalidPlan : PySem.W.keepIn K (.ref i_InvalidPlan) = true)
    (sa_InvalidPlan : PySem.W.findIn K (.ref A_InvalidPlan) "__setattr__" = some (some (.builtin "object.__setattr__")))
    (sg_InvalidPlan : PySem.W.specialIn K (.ref A_PairError) "__getattribute__" = some (some (.builtin "type.__getattribute__")))
    (rd_InvalidPlan : PySem.W.readsIn K A_PairError (.type "type") = true)
    (vv_InvalidPlan : PySem.W.findCls K (.ref A_PairError) (.type "type") "__init__" = some (.val (.builtin "ValueError.__init__")))
    (bm_InvalidPlan' : PySem.W.excTail [.type "ValueError", .type "Exception", .type "BaseException", .type "object"] bm_InvalidPlan = true)
    (x_InvalidQuery : K.lookup A_InvalidQuery = some (excClassObj nm_InvalidQuery qn_InvalidQuery A_InvalidQuery N_InvalidQuery bs_InvalidQuery bm_InvalidQuery true sn_InvalidQuery sub_InvalidQuery ab_InvalidQuery col_InvalidQuery dd_InvalidQuery m0_InvalidQuery m1_InvalidQuery m2_InvalidQuery m3_InvalidQuery m5_InvalidQuery "ValueError.__new__"))
    (kc_InvalidQuery : PySem.W.keepIn K (.ref A_InvalidQuery) = true)
    (ii_InvalidQuery : PySem.W.findIn K (.ref A_InvalidQuery) "__init__" = some (some (.ref i_InvalidQuery)))
    (it_InvalidQuery : PySem.W.typeIn K (.ref i_InvalidQuery) = some (.type "function"))
    (il_InvalidQuery : K.lookup i_InvalidQuery = some ⟨ioc_InvalidQuery, iod_InvalidQuery, .func (PySem.W.fnOf "__init__" "InvalidQuery.__init__" (defArgs ini_InvalidQuery) (defBody ini_InvalidQuery) (defScope ini_InvalidQuery) .none ikV_InvalidQuery idc_InvalidQuery ipm_InvalidQuery ian_InvalidQuery icd_InvalidQuery ict_InvalidQuery), isl_InvalidQuery⟩)
    (ic_InvalidQuery : PySem.W.codeIn K icd_InvalidQuery "InvalidQuery.__init__" = true)
    (ik_InvalidQuery : PySem.W.keepIn K (.ref i_InvalidQuery) = true)
    (sa_InvalidQuery : PySem.W.findIn K (.ref A_InvalidQuery) "__setattr__" = some (some (.builtin "object.__setattr__")))
    (sg_InvalidQuery : PySem.W.specialIn K (.ref A_PairError) "__getattribute__" = some (some (.builtin "type.__getattribute__")))
    (rd_InvalidQuery : PySem.W.readsIn K A_PairError (.type "type") = true)
    (vv_InvalidQuery : PySem.W.findCls K (.ref A_PairError) (.type "type") "__init__" = some (.val (.builtin "ValueError.__init__")))
    (bm_InvalidQuery' : PySem.W.excTail [.type "ValueError", .type "Exception", .type "BaseException", .type "object"] bm_InvalidQuery = true)
    (x_InvalidQuestion : K.lookup A_InvalidQuestion = some (excClassObj nm_InvalidQuestion qn_InvalidQuestion A_InvalidQuestion N_InvalidQuestion bs_InvalidQuestion bm_InvalidQuestion true sn_InvalidQuestion sub_InvalidQuestion ab_InvalidQuestion col_InvalidQuestion dd_InvalidQuestion m0_InvalidQuestion m1_InvalidQuestion m2_InvalidQuestion m3_InvalidQuestion m5_InvalidQuestion "ValueError.__new__"))
    (kc_InvalidQuestion : PySem.W.keepIn K (.ref A_InvalidQuestion) = true)
    (ii_InvalidQuestion : PySem.W.findIn K (.ref A_InvalidQuestion) "__init__" = some (some (.ref i_InvalidQuestion)))
    (it_InvalidQuestion : PySem.W.typeIn K (.ref i_InvalidQuestion) = some (.type "function"))
    (il_InvalidQuestion : K.lookup i_InvalidQuestion = some ⟨ioc_InvalidQuestion, iod_InvalidQuestion, .func (PySem.W.fnOf "__init__" "InvalidQuestion.__init__" (defArgs ini_InvalidQuestion) (defBody ini_InvalidQuestion) (defScope ini_InvalidQuestion) .none ikV_InvalidQuestion idc_InvalidQuestion ipm_InvalidQuestion ian_InvalidQuestion icd_InvalidQuestion ict_InvalidQuestion), isl_InvalidQuestion⟩)
    (ic_InvalidQuestion : PySem.W.codeIn K icd_InvalidQuestion "InvalidQuestion.__init__" = true)
    (ik_InvalidQuestion : PySem.W.keepIn K (.ref i_InvalidQuestion) = true)
    (sa_InvalidQuestion : PySem.W.findIn K (.ref A_InvalidQuestion) "__setattr__" = some (some (.builtin "object.__setattr__")))
    (sg_InvalidQuestion : PySem.W.specialIn K (.ref A_PairError) "__getattribute__" = some (some (.builtin "type.__getattribute__")))
    (rd_InvalidQuestion : PySem.W.readsIn K A_PairError (.type "type") = true)
    (vv_InvalidQuestion : PySem.W.findCls K (.ref A_PairError) (.type "type") "__init__" = some (.val (.builtin "ValueError.__init__")))
    (bm_InvalidQuestion' : PySem.W.excTail [.type "ValueError", .type "Exception", .type "BaseException", .type "object"] bm_InvalidQuestion = true)
    (x_InvalidRow : K.lookup A_InvalidRow = some (excClassObj nm_InvalidRow qn_InvalidRow A_InvalidRow N_InvalidRow bs_InvalidRow bm_InvalidRow true sn_InvalidRow sub_InvalidRow ab_InvalidRow col_InvalidRow dd_InvalidRow m0_InvalidRow m1_InvalidRow m2_InvalidRow m3_InvalidRow m5_InvalidRow "ValueError.__new__"))
    (kc_InvalidRow : PySem.W.keepIn K (.ref A_InvalidRow) = true)
    (ii_InvalidRow : PySem.W.findIn K (.ref A_InvalidRow) "__init__" = some (some (.ref i_InvalidRow)))
    (it_InvalidRow : PySem.W.typeIn K (.ref i_InvalidRow) = some (.type "function"))
    (il_InvalidRow : K.lookup i_InvalidRow = some ⟨ioc_InvalidRow, iod_InvalidRow, .func (PySem.W.fnOf "__init__" "InvalidRow.__init__" (defArgs ini_InvalidRow) (defBody ini_InvalidRow) (defScope ini_InvalidRow) .none ikV_InvalidRow idc_InvalidRow ipm_InvalidRow ian_InvalidRow icd_InvalidRow ict_InvalidRow), isl_InvalidRow⟩)
    (ic_InvalidRow : PySem.W.codeIn K icd_InvalidRow "InvalidRow.__init__" = true)
    (ik_InvalidRow : PySem.W.keepIn K (.ref i_InvalidRow) = true)
    (sa_InvalidRow : PySem.W.findIn K (.ref A_InvalidRow) "__setattr__" = some (some (.builtin "object.__setattr__")))
    (sg_InvalidRow : PySem.W.specialIn K (.ref A_PairError) "__getattribute__" = some (some (.builtin "type.__getattribute__")))
    (rd_InvalidRow : PySem.W.readsIn K A_PairError (.type "type") = true)
    (vv_InvalidRow : PySem.W.findCls K (.ref A_PairError) (.type "type") "__init__" = some (.val (.builtin "ValueError.__init__")))
    (bm_InvalidRow' : PySem.W.excTail [.type "ValueError", .type "Exception", .type "BaseException", .type "object"] bm_InvalidRow = true)
    (x_InvalidRule : K.lookup A_InvalidRule = some (excClassObj nm_InvalidRule qn_InvalidRule A_InvalidRule N_InvalidRule bs_InvalidRule bm_InvalidRule true sn_InvalidRule sub_InvalidRule ab_InvalidRule col_InvalidRule dd_InvalidRule m0_InvalidRule m1_InvalidRule m2_InvalidRule m3_InvalidRule m5_InvalidRule "ValueError.__new__"))
    (kc_InvalidRule : PySem.W.keepIn K (.ref A_InvalidRule) = true)
    (ii_InvalidRule : PySem.W.findIn K (.ref A_InvalidRule) "__init__" = some (some (.ref i_InvalidRule)))
    (it_InvalidRule : PySem.W.typeIn K (.ref i_InvalidRule) = some (.type "function"))
    (il_InvalidRule : K.lookup i_InvalidRule = some ⟨ioc_InvalidRule, iod_InvalidRule, .func (PySem.W.fnOf "__init__" "InvalidRule.__init__" (defArgs ini_InvalidRule) (defBody ini_InvalidRule) (defScope ini_InvalidRule) .none ikV_InvalidRule idc_InvalidRule ipm_InvalidRule ian_InvalidRule icd_InvalidRule ict_InvalidRule), isl_InvalidRule⟩)
    (ic_InvalidRule : PySem.W.codeIn K icd_InvalidRule "InvalidRule.__init__" = true)
    (ik_InvalidRule : PySem.W.keepIn K (.ref i_InvalidRule) = true)
    (sa_InvalidRule : PySem.W.findIn K (.ref A_InvalidRule) "__setattr__" = some (some (.builtin "object.__setattr__")))
    (sg_InvalidRule : PySem.W.specialIn K (.ref A_PairError) "__getattribute__" = some (some (.builtin "type.__getattribute__")))
    (rd_InvalidRule : PySem.W.readsIn K A_PairError (.type "type") = true)
    (vv_InvalidRule : PySem.W.findCls K (.ref A_PairError) (.type "type") "__init__" = some (.val (.builtin "ValueError.__init__")))
    (bm_InvalidRule' : PySem.W.excTail [.type "ValueError", .type "Exception", .type "BaseException", .type "object"] bm_InvalidRule = true)
    (x_InvalidTable : K.lookup A_InvalidTable = some (excClassObj nm_InvalidTable qn_InvalidTable A_InvalidTable N_InvalidTable bs_InvalidTable bm_InvalidTable true sn_InvalidTable sub_InvalidTable ab_InvalidTable col_InvalidTable dd_InvalidTable m0_InvalidTable m1_InvalidTable m2_InvalidTable m3_InvalidTable m5_InvalidTable "ValueError.__new__"))
    (kc_InvalidTable : PySem.W.keepIn K (.ref A_InvalidTable) = true)
    (ii_InvalidTable : PySem.W.findIn K (.ref A_InvalidTable) "__init__" = some (some (.ref i_InvalidTable)))
    (it_InvalidTable : PySem.W.typeIn K (.ref i_InvalidTable) = some (.type "function"))
    (il_InvalidTable : K.lookup i_InvalidTable = some ⟨ioc_InvalidTable, iod_InvalidTable, .func (PySem.W.fnOf "__init__" "InvalidTable.__init__" (defArgs ini_InvalidTable) (defBody ini_InvalidTable) (defScope ini_InvalidTable) .none ikV_InvalidTable idc_InvalidTable ipm_InvalidTable ian_InvalidTable icd_InvalidTable ict_InvalidTable), isl_InvalidTable⟩)
    (ic_InvalidTable : PySem.W.codeIn K icd_InvalidTable "InvalidTable.__init__" = true)
    (ik_InvalidTable : PySem.W.keepIn K (.ref i_InvalidTable) = true)
    (sa_InvalidTable : PySem.W.findIn K (.ref A_InvalidTable) "__setattr__" = some (some (.builtin "object.__setattr__")))
    (sg_InvalidTable : PySem.W.specialIn K (.ref A_PairError) "__getattribute__" = some (some (.builtin "type.__getattribute__")))
    (rd_InvalidTable : PySem.W.readsIn K A_PairError (.type "type") = true)
    (vv_InvalidTable : PySem.W.findCls K (.ref A_PairError) (.type "type") "__init__" = some (.val (.builtin "ValueError.__init__")))
    (bm_InvalidTable' : PySem.W.excTail [.type "ValueError", .type "Exception", .type "BaseException", .type "object"] bm_InvalidTable = true)
    (x_InvalidText : K.lookup A_InvalidText = some (excClassObj nm_InvalidText qn_InvalidText A_InvalidText N_InvalidText bs_InvalidText bm_InvalidText true sn_InvalidText sub_InvalidText ab_InvalidText col_InvalidText dd_InvalidText m0_InvalidText m1_InvalidText m2_InvalidText m3_InvalidText m5_InvalidText "ValueError.__new__"))
    (kc_InvalidText : PySem.W.keepIn K (.ref A_InvalidText) = true)
    (ii_InvalidText : PySem.W.findIn K (.ref A_InvalidText) "__init__" = some (some (.ref i_InvalidText)))
    (it_InvalidText : PySem.W.typeIn K (.ref i_InvalidText) = some (.type "function"))
    (il_InvalidText : K.lookup i_InvalidText = some ⟨ioc_InvalidText, iod_InvalidText, .func (PySem.W.fnOf "__init__" "InvalidText.__init__" (defArgs ini_InvalidText) (defBody ini_InvalidText) (defScope ini_InvalidText) .none ikV_InvalidText idc_InvalidText ipm_InvalidText ian_InvalidText icd_InvalidText ict_InvalidText), isl_InvalidText⟩)
    (ic_InvalidText : PySem.W.codeIn K icd_InvalidText "InvalidText.__init__" = true)
    (ik_InvalidText : PySem.W.keepIn K (.ref i_InvalidText) = true)
    (sa_InvalidText : PySem.W.findIn K (.ref A_InvalidText) "__setattr__" = some (some (.builtin "object.__setattr__")))
    (sg_InvalidText : PySem.W.specialIn K (.ref A_PairError) "__getattribute__" = some (some (.builtin "type.__getattribute__")))
    (rd_InvalidText : PySem.W.readsIn K A_PairError (.type "type") = true)
    (vv_InvalidText : PySem.W.findCls K (.ref A_PairError) (.type "type") "__init__" = some (.val (.builtin "ValueError.__init__")))
    (bm_InvalidText' : PySem.W.excTail [.type "ValueError", .type "Exception", .type "BaseException", .type "object"] bm_InvalidText = true)
    (x_InvalidToken : K.lookup A_InvalidToken = some (excClassObj nm_InvalidToken qn_InvalidToken A_InvalidToken N_InvalidToken bs_InvalidToken bm_InvalidToken true sn_InvalidToken sub_InvalidToken ab_InvalidToken col_InvalidToken dd_InvalidToken m0_InvalidToken m1_InvalidToken m2_InvalidToken m3_InvalidToken m5_InvalidToken "ValueError.__new__"))
    (kc_InvalidToken : PySem.W.keepIn K (.ref A_InvalidToken) = true)
    (ii_InvalidToken : PySem.W.findIn K (.ref A_InvalidToken) "__init__" = some (some (.ref i_InvalidToken)))
    (it_InvalidToken : PySem.W.typeIn K (.ref i_InvalidToken) = some (.type "function"))
    (il_InvalidToken : K.lookup i_InvalidToken = some ⟨ioc_InvalidToken, iod_InvalidToken, .func (PySem.W.fnOf "__init__" "InvalidToken.__init__" (defArgs ini_InvalidToken) (defBody ini_InvalidToken) (defScope ini_InvalidToken) .none ikV_InvalidToken idc_InvalidToken ipm_InvalidToken ian_InvalidToken icd_InvalidToken ict_InvalidToken), isl_InvalidToken⟩)
    (ic_InvalidToken : PySem.W.codeIn K icd_InvalidToken "InvalidToken.__init__" = true)
    (ik_InvalidToken : PySem.W.keepIn K (.ref i_InvalidToken) = true)
    (sa_InvalidToken : PySem.W.findIn K (.ref A_InvalidToken) "__setattr__" = some (some (.builtin "object.__setattr__")))
    (sg_InvalidToken : PySem.W.specialIn K (.ref A_PairError) "__getattribute__" = some (some (.builtin "type.__getattribute__")))
    (rd_InvalidToken : PySem.W.readsIn K A_PairError (.type "type") = true)
    (vv_InvalidToken : PySem.W.findCls K (.ref A_PairError) (.type "type") "__init__" = some (.val (.builtin "ValueError.__init__")))
    (bm_InvalidToken' : PySem.W.excTail [.type "ValueError", .type "Exception", .type "BaseException", .type "object"] bm_InvalidToken = true)
    (x_InvalidValue : K.lookup A_InvalidValue = some (excClassObj nm_InvalidValue qn_InvalidValue A_InvalidValue N_InvalidValue bs_InvalidValue bm_InvalidValue true sn_InvalidValue sub_InvalidValue ab_InvalidValue col_InvalidValue dd_InvalidValue m0_InvalidValue m1_InvalidValue m2_InvalidValue m3_InvalidValue m5_InvalidValue "ValueError.__new__"))
    (kc_InvalidValue : PySem.W.keepIn K (.ref A_InvalidValue) = true)
    (ii_InvalidValue : PySem.W.findIn K (.ref A_InvalidValue) "__init__" = some (some (.ref i_InvalidValue)))
    (it_InvalidValue : PySem.W.typeIn K (.ref i_InvalidValue) = some (.type "function"))
    (il_InvalidValue : K.lookup i_InvalidValue = some ⟨ioc_InvalidValue, iod_InvalidValue, .func (PySem.W.fnOf "__init__" "InvalidValue.__init__" (defArgs ini_InvalidValue) (defBody ini_InvalidValue) (defScope ini_InvalidValue) .none ikV_InvalidValue idc_InvalidValue ipm_InvalidValue ian_InvalidValue icd_InvalidValue ict_InvalidValue), isl_InvalidValue⟩)
    (ic_InvalidValue : PySem.W.codeIn K icd_InvalidValue "InvalidValue.__init__" = true)
    (ik_InvalidValue : PySem.W.keepIn K (.ref i_InvalidValue) = true)
    (sa_InvalidValue : PySem.W.findIn K (.ref A_InvalidValue) "__setattr__" = some (some (.builtin "object.__setattr__")))
    (sg_InvalidValue : PySem.W.specialIn K (.ref A_PairError) "__getattribute__" = some (some (.builtin "type.__getattribute__")))
    (rd_InvalidValue : PySem.W.readsIn K A_PairError (.type "type") = true)
    (vv_InvalidValue : PySem.W.findCls K (.ref A_PairError) (.type "type") "__init__" = some (.val (.builtin "ValueError.__init__")))
    (bm_InvalidValue' : PySem.W.excTail [.type "ValueError", .type "Exception", .type "BaseException", .type "object"] bm_InvalidValue = true)
    (x_InvalidVector : K.lookup A_InvalidVector = some (excClassObj nm_InvalidVector qn_InvalidVector A_InvalidVector N_InvalidVector bs_InvalidVector bm_InvalidVector true sn_InvalidVector sub_InvalidVector ab_InvalidVector col_InvalidVector dd_InvalidVector m0_InvalidVector m1_InvalidVector m2_InvalidVector m3_InvalidVector m5_InvalidVector "ValueError.__new__"))
    (kc_InvalidVector : PySem.W.keepIn K (.ref A_InvalidVector) = true)
    (ii_InvalidVector : PySem.W.findIn K (.ref A_InvalidVector) "__init__" = some (some (.ref i_InvalidVector)))
    (it_InvalidVector : PySem.W.typeIn K (.ref i_InvalidVector) = some (.type "function"))
    (il_InvalidVector : K.lookup i_InvalidVector = some ⟨ioc_InvalidVector, iod_InvalidVector, .func (PySem.W.fnOf "__init__" "InvalidVector.__init__" (defArgs ini_InvalidVector) (defBody ini_InvalidVector) (defScope ini_InvalidVector) .none ikV_InvalidVector idc_InvalidVector ipm_InvalidVector ian_InvalidVector icd_InvalidVector ict_InvalidVector), isl_InvalidVector⟩)
    (ic_InvalidVector : PySem.W.codeIn K icd_InvalidVector "InvalidVector.__init__" = true)
    (ik_InvalidVector : PySem.W.keepIn K (.ref i_InvalidVector) = true)
    (sa_InvalidVector : PySem.W.findIn K (.ref A_InvalidVector) "__setattr__" = some (some (.builtin "object.__setattr__")))
    (sg_InvalidVector : PySem.W.specialIn K (.ref A_PairError) "__getattribute__" = some (some (.builtin "type.__getattribute__")))
    (rd_InvalidVector : PySem.W.readsIn K A_PairError (.type "type") = true)
    (vv_InvalidVector : PySem.W.findCls K (.ref A_PairError) (.type "type") "__init__" = some (.val (.builtin "ValueError.__init__")))
    (bm_InvalidVector' : PySem.W.excTail [.type "ValueError", .type "Exception", .type "BaseException", .type "object"] bm_InvalidVector = true)
    (x_InvalidWrite : K.lookup A_InvalidWrite = some (excClassObj nm_InvalidWrite qn_InvalidWrite A_InvalidWrite N_InvalidWrite bs_InvalidWrite bm_InvalidWrite true sn_InvalidWrite sub_InvalidWrite ab_InvalidWrite col_InvalidWrite dd_InvalidWrite m0_InvalidWrite m1_InvalidWrite m2_InvalidWrite m3_InvalidWrite m5_InvalidWrite "ValueError.__new__"))
    (kc_InvalidWrite : PySem.W.keepIn K (.ref A_InvalidWrite) = true)
    (ii_InvalidWrite : PySem.W.findIn K (.ref A_InvalidWrite) "__init__" = some (some (.ref i_InvalidWrite)))
    (it_InvalidWrite : PySem.W.typeIn K (.ref i_InvalidWrite) = some (.type "function"))
    (il_InvalidWrite : K.lookup i_InvalidWrite = some ⟨ioc_InvalidWrite, iod_InvalidWrite, .func (PySem.W.fnOf "__init__" "InvalidWrite.__init__" (defArgs ini_InvalidWrite) (defBody ini_InvalidWrite) (defScope ini_InvalidWrite) .none ikV_InvalidWrite idc_InvalidWrite ipm_InvalidWrite ian_InvalidWrite icd_InvalidWrite ict_InvalidWrite), isl_InvalidWrite⟩)
    (ic_InvalidWrite : PySem.W.codeIn K icd_InvalidWrite "InvalidWrite.__init__" = true)
    (ik_InvalidWrite : PySem.W.keepIn K (.ref i_InvalidWrite) = true)
    (sa_InvalidWrite : PySem.W.findIn K (.ref A_InvalidWrite) "__setattr__" = some (some (.builtin "object.__setattr__")))
    (sg_InvalidWrite : PySem.W.specialIn K (.ref A_PairError) "__getattribute__" = some (some (.builtin "type.__getattribute__")))
    (rd_InvalidWrite : PySem.W.readsIn K A_PairError (.type "type") = true)
    (vv_InvalidWrite : PySem.W.findCls K (.ref A_PairError) (.type "type") "__init__" = some (.val (.builtin "ValueError.__init__")))
    (bm_InvalidWrite' : PySem.W.excTail [.type "ValueError", .type "Exception", .type "BaseException", .type "object"] bm_InvalidWrite = true)
    (x_NameTaken : K.lookup A_NameTaken = some (excClassObj nm_NameTaken qn_NameTaken A_NameTaken N_NameTaken bs_NameTaken bm_NameTaken true sn_NameTaken sub_NameTaken ab_NameTaken col_NameTaken dd_NameTaken m0_NameTaken m1_NameTaken m2_NameTaken m3_NameTaken m5_NameTaken "RuntimeError.__new__"))
    (kc_NameTaken : PySem.W.keepIn K (.ref A_NameTaken) = true)
    (ii_NameTaken : PySem.W.findIn K (.ref A_NameTaken) "__init__" = some (some (.ref i_NameTaken)))
    (it_NameTaken : PySem.W.typeIn K (.ref i_NameTaken) = some (.type "function"))
    (il_NameTaken : K.lookup i_NameTaken = some ⟨ioc_NameTaken, iod_NameTaken, .func (PySem.W.fnOf "__init__" "NameTaken.__init__" (defArgs ini_NameTaken) (defBody ini_NameTaken) (defScope ini_NameTaken) .none ikV_NameTaken idc_NameTaken ipm_NameTaken ian_NameTaken icd_NameTaken ict_NameTaken), isl_NameTaken⟩)
    (ic_NameTaken : PySem.W.codeIn K icd_NameTaken "NameTaken.__init__" = true)
    (ik_NameTaken : PySem.W.keepIn K (.ref i_NameTaken) = true)
    (sa_NameTaken : PySem.W.findIn K (.ref A_NameTaken) "__setattr__" = some (some (.builtin "object.__setattr__")))
    (vv_NameTaken : PySem.W.findCls K (.type "RuntimeError") (.type "type") "__init__" = some (.val (.builtin "RuntimeError.__init__")))
    (bm_NameTaken' : PySem.W.excTail [.type "RuntimeError", .type "Exception", .type "BaseException", .type "object"] bm_NameTaken = true)
    (x_NotServing : K.lookup A_NotServing = some (excClassObj nm_NotServing qn_NotServing A_NotServing N_NotServing bs_NotServing bm_NotServing true sn_NotServing sub_NotServing ab_NotServing col_NotServing dd_NotServing m0_NotServing m1_NotServing m2_NotServing m3_NotServing m5_NotServing "RuntimeError.__new__"))
    (kc_NotServing : PySem.W.keepIn K (.ref A_NotServing) = true)
    (ii_NotServing : PySem.W.findIn K (.ref A_NotServing) "__init__" = some (some (.ref i_NotServing)))
    (it_NotServing : PySem.W.typeIn K (.ref i_NotServing) = some (.type "function"))
    (il_NotServing : K.lookup i_NotServing = some ⟨ioc_NotServing, iod_NotServing, .func (PySem.W.fnOf "__init__" "NotServing.__init__" (defArgs ini_NotServing) (defBody ini_NotServing) (defScope ini_NotServing) .none ikV_NotServing idc_NotServing ipm_NotServing ian_NotServing icd_NotServing ict_NotServing), isl_NotServing⟩)
    (ic_NotServing : PySem.W.codeIn K icd_NotServing "NotServing.__init__" = true)
    (ik_NotServing : PySem.W.keepIn K (.ref i_NotServing) = true)
    (sa_NotServing : PySem.W.findIn K (.ref A_NotServing) "__setattr__" = some (some (.builtin "object.__setattr__")))
    (vv_NotServing : PySem.W.findCls K (.type "RuntimeError") (.type "type") "__init__" = some (.val (.builtin "RuntimeError.__init__")))
    (bm_NotServing' : PySem.W.excTail [.type "RuntimeError", .type "Exception", .type "BaseException", .type "object"] bm_NotServing = true)
    (x_OutOfOrder : K.lookup A_OutOfOrder = some (excClassObj nm_OutOfOrder qn_OutOfOrder A_OutOfOrder N_OutOfOrder bs_OutOfOrder bm_OutOfOrder true sn_OutOfOrder sub_OutOfOrder ab_OutOfOrder col_OutOfOrder dd_OutOfOrder m0_OutOfOrder m1_OutOfOrder m2_OutOfOrder m3_OutOfOrder m5_OutOfOrder "RuntimeError.__new__"))
    (kc_OutOfOrder : PySem.W.keepIn K (.ref A_OutOfOrder) = true)
    (ii_OutOfOrder : PySem.W.findIn K (.ref A_OutOfOrder) "__init__" = some (some (.ref i_OutOfOrder)))
    (it_OutOfOrder : PySem.W.typeIn K (.ref i_OutOfOrder) = some (.type "function"))
    (il_OutOfOrder : K.lookup i_OutOfOrder = some ⟨ioc_OutOfOrder, iod_OutOfOrder, .func (PySem.W.fnOf "__init__" "OutOfOrder.__init__" (defArgs ini_OutOfOrder) (defBody ini_OutOfOrder) (defScope ini_OutOfOrder) .none ikV_OutOfOrder idc_OutOfOrder ipm_OutOfOrder ian_OutOfOrder icd_OutOfOrder ict_OutOfOrder), isl_OutOfOrder⟩)
    (ic_OutOfOrder : PySem.W.codeIn K icd_OutOfOrder "OutOfOrder.__init__" = true)
    (ik_OutOfOrder : PySem.W.keepIn K (.ref i_OutOfOrder) = true)
    (sa_OutOfOrder : PySem.W.findIn K (.ref A_OutOfOrder) "__setattr__" = some (some (.builtin "object.__setattr__")))
    (vv_OutOfOrder : PySem.W.findCls K (.type "RuntimeError") (.type "type") "__init__" = some (.val (.builtin "RuntimeError.__init__")))
    (bm_OutOfOrder' : PySem.W.excTail [.type "RuntimeError", .type "Exception", .type "BaseException", .type "object"] bm_OutOfOrder = true)
    (x_PairBroken : K.lookup A_PairBroken = some (excClassObj nm_PairBroken qn_PairBroken A_PairBroken N_PairBroken bs_PairBroken bm_PairBroken true sn_PairBroken sub_PairBroken ab_PairBroken col_PairBroken dd_PairBroken m0_PairBroken m1_PairBroken m2_PairBroken m3_PairBroken m5_PairBroken "RuntimeError.__new__"))
    (kc_PairBroken : PySem.W.keepIn K (.ref A_PairBroken) = true)
    (ii_PairBroken : PySem.W.findIn K (.ref A_PairBroken) "__init__" = some (some (.ref i_PairBroken)))
    (it_PairBroken : PySem.W.typeIn K (.ref i_PairBroken) = some (.type "function"))
    (il_PairBroken : K.lookup i_PairBroken = some ⟨ioc_PairBroken, iod_PairBroken, .func (PySem.W.fnOf "__init__" "PairBroken.__init__" (defArgs ini_PairBroken) (defBody ini_PairBroken) (defScope ini_PairBroken) .none ikV_PairBroken idc_PairBroken ipm_PairBroken ian_PairBroken icd_PairBroken ict_PairBroken), isl_PairBroken⟩)
    (ic_PairBroken : PySem.W.codeIn K icd_PairBroken "PairBroken.__init__" = true)
    (ik_PairBroken : PySem.W.keepIn K (.ref i_PairBroken) = true)
    (sa_PairBroken : PySem.W.findIn K (.ref A_PairBroken) "__setattr__" = some (some (.builtin "object.__setattr__")))
    (vv_PairBroken : PySem.W.findCls K (.type "RuntimeError") (.type "type") "__init__" = some (.val (.builtin "RuntimeError.__init__")))
    (bm_PairBroken' : PySem.W.excTail [.type "RuntimeError", .type "Exception", .type "BaseException", .type "object"] bm_PairBroken = true)
    (x_RuleBroken : K.lookup A_RuleBroken = some (excClassObj nm_RuleBroken qn_RuleBroken A_RuleBroken N_RuleBroken bs_RuleBroken bm_RuleBroken true sn_RuleBroken sub_RuleBroken ab_RuleBroken col_RuleBroken dd_RuleBroken m0_RuleBroken m1_RuleBroken m2_RuleBroken m3_RuleBroken m5_RuleBroken "RuntimeError.__new__"))
    (kc_RuleBroken : PySem.W.keepIn K (.ref A_RuleBroken) = true)
    (ii_RuleBroken : PySem.W.findIn K (.ref A_RuleBroken) "__init__" = some (some (.ref i_RuleBroken)))
    (it_RuleBroken : PySem.W.typeIn K (.ref i_RuleBroken) = some (.type "function"))
    (il_RuleBroken : K.lookup i_RuleBroken = some ⟨ioc_RuleBroken, iod_RuleBroken, .func (PySem.W.fnOf "__init__" "RuleBroken.__init__" (defArgs ini_RuleBroken) (defBody ini_RuleBroken) (defScope ini_RuleBroken) .none ikV_RuleBroken idc_RuleBroken ipm_RuleBroken ian_RuleBroken icd_RuleBroken ict_RuleBroken), isl_RuleBroken⟩)
    (ic_RuleBroken : PySem.W.codeIn K icd_RuleBroken "RuleBroken.__init__" = true)
    (ik_RuleBroken : PySem.W.keepIn K (.ref i_RuleBroken) = true)
    (sa_RuleBroken : PySem.W.findIn K (.ref A_RuleBroken) "__setattr__" = some (some (.builtin "object.__setattr__")))
    (vv_RuleBroken : PySem.W.findCls K (.type "RuntimeError") (.type "type") "__init__" = some (.val (.builtin "RuntimeError.__init__")))
    (bm_RuleBroken' : PySem.W.excTail [.type "RuntimeError", .type "Exception", .type "BaseException", .type "object"] bm_RuleBroken = true)
    (x_TooMany : K.lookup A_TooMany = some (excClassObj nm_TooMany qn_TooMany A_TooMany N_TooMany bs_TooMany bm_TooMany true sn_TooMany sub_TooMany ab_TooMany col_TooMany dd_TooMany m0_TooMany m1_TooMany m2_TooMany m3_TooMany m5_TooMany "ArithmeticError.__new__"))
    (kc_TooMany : PySem.W.keepIn K (.ref A_TooMany) = true)
    (ii_TooMany : PySem.W.findIn K (.ref A_TooMany) "__init__" = some (some (.ref i_TooMany)))
    (it_TooMany : PySem.W.typeIn K (.ref i_TooMany) = some (.type "function"))
    (il_TooMany : K.lookup i_TooMany = some ⟨ioc_TooMany, iod_TooMany, .func (PySem.W.fnOf "__init__" "TooMany.__init__" (defArgs ini_TooMany) (defBody ini_TooMany) (defScope ini_TooMany) .none ikV_TooMany idc_TooMany ipm_TooMany ian_TooMany icd_TooMany ict_TooMany), isl_TooMany⟩)
    (ic_TooMany : PySem.W.codeIn K icd_TooMany "TooMany.__init__" = true)
    (ik_TooMany : PySem.W.keepIn K (.ref i_TooMany) = true)
    (sa_TooMany : PySem.W.findIn K (.ref A_TooMany) "__setattr__" = some (some (.builtin "object.__setattr__")))
    (vv_TooMany : PySem.W.findCls K (.type "ArithmeticError") (.type "type") "__init__" = some (.val (.builtin "ArithmeticError.__init__")))
    (bm_TooMany' : PySem.W.excTail [.type "ArithmeticError", .type "Exception", .type "BaseException", .type "object"] bm_TooMany = true)
    (x_UnknownName : K.lookup A_UnknownName = some (excClassObj nm_UnknownName qn_UnknownName A_UnknownName N_UnknownName bs_UnknownName bm_UnknownName true sn_UnknownName sub_UnknownName ab_UnknownName col_UnknownName dd_UnknownName m0_UnknownName m1_UnknownName m2_UnknownName m3_UnknownName m5_UnknownName "LookupError.__new__"))
    (kc_UnknownName : PySem.W.keepIn K (.ref A_UnknownName) = true)
    (ii_UnknownName : PySem.W.findIn K (.ref A_UnknownName) "__init__" = some (some (.ref i_UnknownName)))
    (it_UnknownName : PySem.W.typeIn K (.ref i_UnknownName) = some (.type "function"))
    (il_UnknownName : K.lookup i_UnknownName = some ⟨ioc_UnknownName, iod_UnknownName, .func (PySem.W.fnOf "__init__" "UnknownName.__init__" (defArgs ini_UnknownName) (defBody ini_UnknownName) (defScope ini_UnknownName) .none ikV_UnknownName idc_UnknownName ipm_UnknownName ian_UnknownName icd_UnknownName ict_UnknownName), isl_UnknownName⟩)
    (ic_UnknownName : PySem.W.codeIn K icd_UnknownName "UnknownName.__init__" = true)
    (ik_UnknownName : PySem.W.keepIn K (.ref i_UnknownName) = true)
    (sa_UnknownName : PySem.W.findIn K (.ref A_UnknownName) "__setattr__" = some (some (.builtin "object.__setattr__")))
    (vv_UnknownName : PySem.W.findCls K (.type "LookupError") (.type "type") "__init__" = some (.val (.builtin "LookupError.__init__")))
    (bm_UnknownName' : PySem.W.excTail [.type "LookupError", .type "Exception", .type "BaseException", .type "object"] bm_UnknownName = true)
    (x_UnknownPlace : K.lookup A_UnknownPlace = some (excClassObj nm_UnknownPlace qn_UnknownPlace A_UnknownPlace N_UnknownPlace bs_UnknownPlace bm_UnknownPlace true sn_UnknownPlace sub_UnknownPlace ab_UnknownPlace col_UnknownPlace dd_UnknownPlace m0_UnknownPlace m1_UnknownPlace m2_UnknownPlace m3_UnknownPlace m5_UnknownPlace "LookupError.__new__"))
    (kc_UnknownPlace : PySem.W.keepIn K (.ref A_UnknownPlace) = true)
    (ii_UnknownPlace : PySem.W.findIn K (.ref A_UnknownPlace) "__init__" = some (some (.ref i_UnknownPlace)))
    (it_UnknownPlace : PySem.W.typeIn K (.ref i_UnknownPlace) = some (.type "function"))
    (il_UnknownPlace : K.lookup i_UnknownPlace = some ⟨ioc_UnknownPlace, iod_UnknownPlace, .func (PySem.W.fnOf "__init__" "UnknownPlace.__init__" (defArgs ini_UnknownPlace) (defBody ini_UnknownPlace) (defScope ini_UnknownPlace) .none ikV_UnknownPlace idc_UnknownPlace ipm_UnknownPlace ian_UnknownPlace icd_UnknownPlace ict_UnknownPlace), isl_UnknownPlace⟩)
    (ic_UnknownPlace : PySem.W.codeIn K icd_UnknownPlace "UnknownPlace.__init__" = true)
    (ik_UnknownPlace : PySem.W.keepIn K (.ref i_UnknownPlace) = true)
    (sa_UnknownPlace : PySem.W.findIn K (.ref A_UnknownPlace) "__setattr__" = some (some (.builtin "object.__setattr__")))
    (vv_UnknownPlace : PySem.W.findCls K (.type "LookupError") (.type "type") "__init__" = some (.val (.builtin "LookupError.__init__")))
    (bm_UnknownPlace' : PySem.W.excTail [.type "LookupError", .type "Exception", .type "BaseException", .type "object"] bm_UnknownPlace = true)
    (x_UnknownTable : K.lookup A_UnknownTable = some (excClassObj nm_UnknownTable qn_UnknownTable A_UnknownTable N_UnknownTable bs_UnknownTable bm_UnknownTable true sn_UnknownTable sub_UnknownTable ab_UnknownTable col_UnknownTable dd_UnknownTable m0_UnknownTable m1_UnknownTable m2_UnknownTable m3_UnknownTable m5_UnknownTable "LookupError.__new__"))
    (kc_UnknownTable : PySem.W.keepIn K (.ref A_UnknownTable) = true)
    (ii_UnknownTable : PySem.W.findIn K (.ref A_UnknownTable) "__init__" = some (some (.ref i_UnknownTable)))
    (it_UnknownTable : PySem.W.typeIn K (.ref i_UnknownTable) = some (.type "function"))
    (il_UnknownTable : K.lookup i_UnknownTable = some ⟨ioc_UnknownTable, iod_UnknownTable, .func (PySem.W.fnOf "__init__" "UnknownTable.__init__" (defArgs ini_UnknownTable) (defBody ini_UnknownTable) (defScope ini_UnknownTable) .none ikV_UnknownTable idc_UnknownTable ipm_UnknownTable ian_UnknownTable icd_UnknownTable ict_UnknownTable), isl_UnknownTable⟩)
    (ic_UnknownTable : PySem.W.codeIn K icd_UnknownTable "UnknownTable.__init__" = true)
    (ik_UnknownTable : PySem.W.keepIn K (.ref i_UnknownTable) = true)
    (sa_UnknownTable : PySem.W.findIn K (.ref A_UnknownTable) "__setattr__" = some (some (.builtin "object.__setattr__")))
    (vv_UnknownTable : PySem.W.findCls K (.type "LookupError") (.type "type") "__init__" = some (.val (.builtin "LookupError.__init__")))
    (bm_UnknownTable' : PySem.W.excTail [.type "LookupError", .type "Exception", .type "BaseException", .type "object"] bm_UnknownTable = true)
    (x_Unlike : K.lookup A_Unlike = some (excClassObj nm_Unlike qn_Unlike A_Unlike N_Unlike bs_Unlike bm_Unlike true sn_Unlike sub_Unlike ab_Unlike col_Unlike dd_Unlike m0_Unlike m1_Unlike m2_Unlike m3_Unlike m5_Unlike "RuntimeError.__new__"))
    (kc_Unlike : PySem.W.keepIn K (.ref A_Unlike) = true)
    (ii_Unlike : PySem.W.findIn K (.ref A_Unlike) "__init__" = some (some (.ref i_Unlike)))
    (it_Unlike : PySem.W.typeIn K (.ref i_Unlike) = some (.type "function"))
    (il_Unlike : K.lookup i_Unlike = some ⟨ioc_Unlike, iod_Unlike, .func (PySem.W.fnOf "__init__" "Unlike.__init__" (defArgs ini_Unlike) (defBody ini_Unlike) (defScope ini_Unlike) .none ikV_Unlike idc_Unlike ipm_Unlike ian_Unlike icd_Unlike ict_Unlike), isl_Unlike⟩)
    (ic_Unlike : PySem.W.codeIn K icd_Unlike "Unlike.__init__" = true)
    (ik_Unlike : PySem.W.keepIn K (.ref i_Unlike) = true)
    (sa_Unlike : PySem.W.findIn K (.ref A_Unlike) "__setattr__" = some (some (.builtin "object.__setattr__")))
    (vv_Unlike : PySem.W.findCls K (.type "RuntimeError") (.type "type") "__init__" = some (.val (.builtin "RuntimeError.__init__")))
    (bm_Unlike' : PySem.W.excTail [.type "RuntimeError", .type "Exception", .type "BaseException", .type "object"] bm_Unlike = true)
    : ∃ fd : FuncData, (∀ (s : Shared) (u : Value), BindsTo s fd ⟨[u], []⟩ [("_law_script", u)]) ∧ ∀ base : Heap, K.In base → base.Ns mainGlobals mg → FnG P w K mg base true 8 fa fd ["_law_script"] (spF K (fun c => .ref (adr K c)) pg 8 12) := by
  have e_Apart : adr K [65, 112, 97, 114, 116] = A_Apart := by
    have z : tx [65, 112, 97, 114, 116] = ("Apart" : Str) := by decide +kernel
    unfold adr
    rw [z, q_Apart]
  have mq_Apart : mg "Apart" = some (.ref A_Apart) := PySem.W.mg_of X G q_Apart
  have e_InUse : adr K [73, 110, 85, 115, 101] = A_InUse := by
    have z : tx [73, 110, 85, 115, 101] = ("InUse" : Str) := by decide +kernel
    unfold adr
    rw [z, q_InUse]
  have mq_InUse : mg "InUse" = some (.ref A_InUse) := PySem.W.mg_of X G q_InUse
  have e_InvalidColumns : adr K [73, 110, 118, 97, 108, 105, 100, 67, 111, 108, 117, 109, 110, 115] = A_InvalidColumns := by
    have z : tx [73, 110, 118, 97, 108, 105, 100, 67, 111, 108, 117, 109, 110, 115] = ("InvalidColumns" : Str) := by decide +kernel
    unfold adr
    rw [z, q_InvalidColumns]
  have mq_InvalidColumns : mg "InvalidColumns" = some (.ref A_InvalidColumns) := PySem.W.mg_of X G q_InvalidColumns
  have e_InvalidCommand : adr K [73, 110, 118, 97, 108, 105, 100, 67, 111, 109, 109, 97, 110, 100] = A_InvalidCommand := by
    have z : tx [73, 110, 118, 97, 108, 105, 100, 67, 111, 109, 109, 97, 110, 100] = ("InvalidCommand" : Str) := by decide +kernel
    unfold adr
    rw [z, q_InvalidCommand]
  have mq_InvalidCommand : mg "InvalidCommand" = some (.ref A_InvalidCommand) := PySem.W.mg_of X G q_InvalidCommand
  have e_InvalidCount : adr K [73, 110, 118, 97, 108, 105, 100, 67, 111, 117, 110, 116] = A_InvalidCount := by
    have z : tx [73, 110, 118, 97, 108, 105, 100, 67, 111, 117, 110, 116] = ("InvalidCount" : Str) := by decide +kernel
    unfold adr
    rw [z, q_InvalidCount]
  have mq_InvalidCount : mg "InvalidCount" = some (.ref A_InvalidCount) := PySem.W.mg_of X G q_InvalidCount
  have e_InvalidName : adr K [73, 110, 118, 97, 108, 105, 100, 78, 97, 109, 101] = A_InvalidName := by
    have z : tx [73, 110, 118, 97, 108, 105, 100, 78, 97, 109, 101] = ("InvalidName" : Str) := by decide +kernel
    unfold adr
    rw [z, q_InvalidName]
  have mq_InvalidName : mg "InvalidName" = some (.ref A_InvalidName) := PySem.W.mg_of X G q_InvalidName
  have e_InvalidOffer : adr K [73, 110, 118, 97, 108, 105, 100, 79, 102, 102, 101, 114] = A_InvalidOffer := by
    have z : tx [73, 110, 118, 97, 108, 105, 100, 79, 102, 102, 101, 114] = ("InvalidOffer" : Str) := by decide +kernel
    unfold adr
    rw [z, q_InvalidOffer]
  have mq_InvalidOffer : mg "InvalidOffer" = some (.ref A_InvalidOffer) := PySem.W.mg_of X G q_InvalidOffer
  have e_InvalidOrder : adr K [73, 110, 118, 97, 108, 105, 100, 79, 114, 100, 101, 114] = A_InvalidOrder := by
    have z : tx [73, 110, 118, 97, 108, 105, 100, 79, 114, 100, 101, 114] = ("InvalidOrder" : Str) := by decide +kernel
    unfold adr
    rw [z, q_InvalidOrder]
  have mq_InvalidOrder : mg "InvalidOrder" = some (.ref A_InvalidOrder) := PySem.W.mg_of X G q_InvalidOrder
  have e_InvalidPlan : adr K [73, 110, 118, 97, 108, 105, 100, 80, 108, 97, 110] = A_InvalidPlan := by
    have z : tx [73, 110, 118, 97, 108, 105, 100, 80, 108, 97, 110] = ("InvalidPlan" : Str) := by decide +kernel
    unfold adr
    rw [z, q_InvalidPlan]
  have mq_InvalidPlan : mg "InvalidPlan" = some (.ref A_InvalidPlan) := PySem.W.mg_of X G q_InvalidPlan
  have e_InvalidQuery : adr K [73, 110, 118, 97, 108, 105, 100, 81, 117, 101, 114, 121] = A_InvalidQuery := by
    have z : tx [73, 110, 118, 97, 108, 105, 100, 81, 117, 101, 114, 121] = ("InvalidQuery" : Str) := by decide +kernel
    unfold adr
    rw [z, q_InvalidQuery]
  have mq_InvalidQuery : mg "InvalidQuery" = some (.ref A_InvalidQuery) := PySem.W.mg_of X G q_InvalidQuery
  have e_InvalidQuestion : adr K [73, 110, 118, 97, 108, 105, 100, 81, 117, 101, 115, 116, 105, 111, 110] = A_InvalidQuestion := by
    have z : tx [73, 110, 118, 97, 108, 105, 100, 81, 117, 101, 115, 116, 105, 111, 110] = ("InvalidQuestion" : Str) := by decide +kernel
    unfold adr
    rw [z, q_InvalidQuestion]
  have mq_InvalidQuestion : mg "InvalidQuestion" = some (.ref A_InvalidQuestion) := PySem.W.mg_of X G q_InvalidQuestion
  have e_InvalidRow : adr K [73, 110, 118, 97, 108, 105, 100, 82, 111, 119] = A_InvalidRow := by
    have z : tx [73, 110, 118, 97, 108, 105, 100, 82, 111, 119] = ("InvalidRow" : Str) := by decide +kernel
    unfold adr
    rw [z, q_InvalidRow]
  have mq_InvalidRow : mg "InvalidRow" = some (.ref A_InvalidRow) := PySem.W.mg_of X G q_InvalidRow
  have e_InvalidRule : adr K [73, 110, 118, 97, 108, 105, 100, 82, 117, 108, 101] = A_InvalidRule := by
    have z : tx [73, 110, 118, 97, 108, 105, 100, 82, 117, 108, 101] = ("InvalidRule" : Str) := by decide +kernel
    unfold adr
    rw [z, q_InvalidRule]
  have mq_InvalidRule : mg "InvalidRule" = some (.ref A_InvalidRule) := PySem.W.mg_of X G q_InvalidRule
  have e_InvalidTable : adr K [73, 110, 118, 97, 108, 105, 100, 84, 97, 98, 108, 101] = A_InvalidTable := by
    have z : tx [73, 110, 118, 97, 108, 105, 100, 84, 97, 98, 108, 101] = ("InvalidTable" : Str) := by decide +kernel
    unfold adr
    rw [z, q_InvalidTable]
  have mq_InvalidTable : mg "InvalidTable" = some (.ref A_InvalidTable) := PySem.W.mg_of X G q_InvalidTable
  have e_InvalidText : adr K [73, 110, 118, 97, 108, 105, 100, 84, 101, 120, 116] = A_InvalidText := by
    have z : tx [73, 110, 118, 97, 108, 105, 100, 84, 101, 120, 116] = ("InvalidText" : Str) := by decide +kernel
    unfold adr
    rw [z, q_InvalidText]
  have mq_InvalidText : mg "InvalidText" = some (.ref A_InvalidText) := PySem.W.mg_of X G q_InvalidText
  have e_InvalidToken : adr K [73, 110, 118, 97, 108, 105, 100, 84, 111, 107, 101, 110] = A_InvalidToken := by
    have z : tx [73, 110, 118, 97, 108, 105, 100, 84, 111, 107, 101, 110] = ("InvalidToken" : Str) := by decide +kernel
    unfold adr
    rw [z, q_InvalidToken]
  have mq_InvalidToken : mg "InvalidToken" = some (.ref A_InvalidToken) := PySem.W.mg_of X G q_InvalidToken
  have e_InvalidValue : adr K [73, 110, 118, 97, 108, 105, 100, 86, 97, 108, 117, 101] = A_InvalidValue := by
    have z : tx [73, 110, 118, 97, 108, 105, 100, 86, 97, 108, 117, 101] = ("InvalidValue" : Str) := by decide +kernel
    unfold adr
    rw [z, q_InvalidValue]
  have mq_InvalidValue : mg "InvalidValue" = some (.ref A_InvalidValue) := PySem.W.mg_of X G q_InvalidValue
  have e_InvalidVector : adr K [73, 110, 118, 97, 108, 105, 100, 86, 101, 99, 116, 111, 114] = A_InvalidVector := by
    have z : tx [73, 110, 118, 97, 108, 105, 100, 86, 101, 99, 116, 111, 114] = ("InvalidVector" : Str) := by decide +kernel
    unfold adr
    rw [z, q_InvalidVector]
  have mq_InvalidVector : mg "InvalidVector" = some (.ref A_InvalidVector) := PySem.W.mg_of X G q_InvalidVector
  have e_InvalidWrite : adr K [73, 110, 118, 97, 108, 105, 100, 87, 114, 105, 116, 101] = A_InvalidWrite := by
    have z : tx [73, 110, 118, 97, 108, 105, 100, 87, 114, 105, 116, 101] = ("InvalidWrite" : Str) := by decide +kernel
    unfold adr
    rw [z, q_InvalidWrite]
  have mq_InvalidWrite : mg "InvalidWrite" = some (.ref A_InvalidWrite) := PySem.W.mg_of X G q_InvalidWrite
  have e_NameTaken : adr K [78, 97, 109, 101, 84, 97, 107, 101, 110] = A_NameTaken := by
    have z : tx [78, 97, 109, 101, 84, 97, 107, 101, 110] = ("NameTaken" : Str) := by decide +kernel
    unfold adr
    rw [z, q_NameTaken]
  have mq_NameTaken : mg "NameTaken" = some (.ref A_NameTaken) := PySem.W.mg_of X G q_NameTaken
  have e_NotServing : adr K [78, 111, 116, 83, 101, 114, 118, 105, 110, 103] = A_NotServing := by
    have z : tx [78, 111, 116, 83, 101, 114, 118, 105, 110, 103] = ("NotServing" : Str) := by decide +kernel
    unfold adr
    rw [z, q_NotServing]
  have mq_NotServing : mg "NotServing" = some (.ref A_NotServing) := PySem.W.mg_of X G q_NotServing
  have e_OutOfOrder : adr K [79, 117, 116, 79, 102, 79, 114, 100, 101, 114] = A_OutOfOrder := by
    have z : tx [79, 117, 116, 79, 102, 79, 114, 100, 101, 114] = ("OutOfOrder" : Str) := by decide +kernel
    unfold adr
    rw [z, q_OutOfOrder]
  have mq_OutOfOrder : mg "OutOfOrder" = some (.ref A_OutOfOrder) := PySem.W.mg_of X G q_OutOfOrder
  have e_PairBroken : adr K [80, 97, 105, 114, 66, 114, 111, 107, 101, 110] = A_PairBroken := by
    have z : tx [80, 97, 105, 114, 66, 114, 111, 107, 101, 110] = ("PairBroken" : Str) := by decide +kernel
    unfold adr
    rw [z, q_PairBroken]
  have mq_PairBroken : mg "PairBroken" = some (.ref A_PairBroken) := PySem.W.mg_of X G q_PairBroken
  have e_PairError : adr K [80, 97, 105, 114, 69, 114, 114, 111, 114] = A_PairError := by
    have z : tx [80, 97, 105, 114, 69, 114, 114, 111, 114] = ("PairError" : Str) := by decide +kernel
    unfold adr
    rw [z, q_PairError]
  have mq_PairError : mg "PairError" = some (.ref A_PairError) := PySem.W.mg_of X G q_PairError
  have e_RuleBroken : adr K [82, 117, 108, 101, 66, 114, 111, 107, 101, 110] = A_RuleBroken := by
    have z : tx [82, 117, 108, 101, 66, 114, 111, 107, 101, 110] = ("RuleBroken" : Str) := by decide +kernel
    unfold adr
    rw [z, q_RuleBroken]
  have mq_RuleBroken : mg "RuleBroken" = some (.ref A_RuleBroken) := PySem.W.mg_of X G q_RuleBroken
  have e_TooMany : adr K [84, 111, 111, 77, 97, 110, 121] = A_TooMany := by
    have z : tx [84, 111, 111, 77, 97, 110, 121] = ("TooMany" : Str) := by decide +kernel
    unfold adr
    rw [z, q_TooMany]
  have mq_TooMany : mg "TooMany" = some (.ref A_TooMany) := PySem.W.mg_of X G q_TooMany
  have e_UnknownName : adr K [85, 110, 107, 110, 111, 119, 110, 78, 97, 109, 101] = A_UnknownName := by
    have z : tx [85, 110, 107, 110, 111, 119, 110, 78, 97, 109, 101] = ("UnknownName" : Str) := by decide +kernel
    unfold adr
    rw [z, q_UnknownName]
  have mq_UnknownName : mg "UnknownName" = some (.ref A_UnknownName) := PySem.W.mg_of X G q_UnknownName
  have e_UnknownPlace : adr K [85, 110, 107, 110, 111, 119, 110, 80, 108, 97, 99, 101] = A_UnknownPlace := by
    have z : tx [85, 110, 107, 110, 111, 119, 110, 80, 108, 97, 99, 101] = ("UnknownPlace" : Str) := by decide +kernel
    unfold adr
    rw [z, q_UnknownPlace]
  have mq_UnknownPlace : mg "UnknownPlace" = some (.ref A_UnknownPlace) := PySem.W.mg_of X G q_UnknownPlace
  have e_UnknownTable : adr K [85, 110, 107, 110, 111, 119, 110, 84, 97, 98, 108, 101] = A_UnknownTable := by
    have z : tx [85, 110, 107, 110, 111, 119, 110, 84, 97, 98, 108, 101] = ("UnknownTable" : Str) := by decide +kernel
    unfold adr
    rw [z, q_UnknownTable]
  have mq_UnknownTable : mg "UnknownTable" = some (.ref A_UnknownTable) := PySem.W.mg_of X G q_UnknownTable
  have e_Unlike : adr K [85, 110, 108, 105, 107, 101] = A_Unlike := by
    have z : tx [85, 110, 108, 105, 107, 101] = ("Unlike" : Str) := by decide +kernel
    unfold adr
    rw [z, q_Unlike]
  have mq_Unlike : mg "Unlike" = some (.ref A_Unlike) := PySem.W.mg_of X G q_Unlike
  have xc_Apart : XcOk K A_Apart T.fld := e_Apart ▸ err_of (cs := madeL) allE hsp0 htk0 (c := [65, 112, 97, 114, 116]) (by decide)
  have xc_InUse : XcOk K A_InUse T.fld := e_InUse ▸ err_of (cs := madeL) allE hsp0 htk0 (c := [73, 110, 85, 115, 101]) (by decide)
  have xc_InvalidColumns : XcOk K A_InvalidColumns T.fld := e_InvalidColumns ▸ err_of (cs := madeL) allE hsp0 htk0 (c := [73, 110, 118, 97, 108, 105, 100, 67, 111, 108, 117, 109, 110, 115]) (by decide)
  have xc_InvalidCommand : XcOk K A_InvalidCommand T.fld := e_InvalidCommand ▸ err_of (cs := madeL) allE hsp0 htk0 (c := [73, 110, 118, 97, 108, 105, 100, 67, 111, 109, 109, 97, 110, 100]) (by decide)
  have xc_InvalidCount : XcOk K A_InvalidCount T.fld := e_InvalidCount ▸ err_of (cs := madeL) allE hsp0 htk0 (c := [73, 110, 118, 97, 108, 105, 100, 67, 111, 117, 110, 116]) (by decide)
  have xc_InvalidName : XcOk K A_InvalidName T.fld := e_InvalidName ▸ err_of (cs := madeL) allE hsp0 htk0 (c := [73, 110, 118, 97, 108, 105, 100, 78, 97, 109, 101]) (by decide)
  have xc_InvalidOffer : XcOk K A_InvalidOffer T.fld := e_InvalidOffer ▸ err_of (cs := madeL) allE hsp0 htk0 (c := [73, 110, 118, 97, 108, 105, 100, 79, 102, 102, 101, 114]) (by decide)
  have xc_InvalidOrder : XcOk K A_InvalidOrder T.fld := e_InvalidOrder ▸ err_of (cs := madeL) allE hsp0 htk0 (c := [73, 110, 118, 97, 108, 105, 100, 79, 114, 100, 101, 114]) (by decide)
  have xc_InvalidPlan : XcOk K A_InvalidPlan T.fld := e_InvalidPlan ▸ err_of (cs := madeL) allE hsp0 htk0 (c := [73, 110, 118, 97, 108, 105, 100, 80, 108, 97, 110]) (by decide)
  have xc_InvalidQuery : XcOk K A_InvalidQuery T.fld := e_InvalidQuery ▸ err_of (cs := madeL) allE hsp0 htk0 (c := [73, 110, 118, 97, 108, 105, 100, 81, 117, 101, 114, 121]) (by decide)
  have xc_InvalidQuestion : XcOk K A_InvalidQuestion T.fld := e_InvalidQuestion ▸ err_of (cs := madeL) allE hsp0 htk0 (c := [73, 110, 118, 97, 108, 105, 100, 81, 117, 101, 115, 116, 105, 111, 110]) (by decide)
  have xc_InvalidRow : XcOk K A_InvalidRow T.fld := e_InvalidRow ▸ err_of (cs := madeL) allE hsp0 htk0 (c := [73, 110, 118, 97, 108, 105, 100, 82, 111, 119]) (by decide)
  have xc_InvalidRule : XcOk K A_InvalidRule T.fld := e_InvalidRule ▸ err_of (cs := madeL) allE hsp0 htk0 (c := [73, 110, 118, 97, 108, 105, 100, 82, 117, 108, 101]) (by decide)
  have xc_InvalidTable : XcOk K A_InvalidTable T.fld := e_InvalidTable ▸ err_of (cs := madeL) allE hsp0 htk0 (c := [73, 110, 118, 97, 108, 105, 100, 84, 97, 98, 108, 101]) (by decide)
  have xc_InvalidText : XcOk K A_InvalidText T.fld := e_InvalidText ▸ err_of (cs := madeL) allE hsp0 htk0 (c := [73, 110, 118, 97, 108, 105, 100, 84, 101, 120, 116]) (by decide)
  have xc_InvalidToken : XcOk K A_InvalidToken T.fld := e_InvalidToken ▸ err_of (cs := madeL) allE hsp0 htk0 (c := [73, 110, 118, 97, 108, 105, 100, 84, 111, 107, 101, 110]) (by decide)
  have xc_InvalidValue : XcOk K A_InvalidValue T.fld := e_InvalidValue ▸ err_of (cs := madeL) allE hsp0 htk0 (c := [73, 110, 118, 97, 108, 105, 100, 86, 97, 108, 117, 101]) (by decide)
  have xc_InvalidVector : XcOk K A_InvalidVector T.fld := e_InvalidVector ▸ err_of (cs := madeL) allE hsp0 htk0 (c := [73, 110, 118, 97, 108, 105, 100, 86, 101, 99, 116, 111, 114]) (by decide)
  have xc_InvalidWrite : XcOk K A_InvalidWrite T.fld := e_InvalidWrite ▸ err_of (cs := madeL) allE hsp0 htk0 (c := [73, 110, 118, 97, 108, 105, 100, 87, 114, 105, 116, 101]) (by decide)
  have xc_NameTaken : XcOk K A_NameTaken T.fld := e_NameTaken ▸ err_of (cs := madeL) allE hsp0 htk0 (c := [78, 97, 109, 101, 84, 97, 107, 101, 110]) (by decide)
  have xc_NotServing : XcOk K A_NotServing T.fld := e_NotServing ▸ err_of (cs := madeL) allE hsp0 htk0 (c := [78, 111, 116, 83, 101, 114, 118, 105, 110, 103]) (by decide)
  have xc_OutOfOrder : XcOk K A_OutOfOrder T.fld := e_OutOfOrder ▸ err_of (cs := madeL) allE hsp0 htk0 (c := [79, 117, 116, 79, 102, 79, 114, 100, 101, 114]) (by decide)
  have xc_PairBroken : XcOk K A_PairBroken T.fld := e_PairBroken ▸ err_of (cs := madeL) allE hsp0 htk0 (c := [80, 97, 105, 114, 66, 114, 111, 107, 101, 110]) (by decide)
  have xc_RuleBroken : XcOk K A_RuleBroken T.fld := e_RuleBroken ▸ err_of (cs := madeL) allE hsp0 htk0 (c := [82, 117, 108, 101, 66, 114, 111, 107, 101, 110]) (by decide)
  have xc_TooMany : XcOk K A_TooMany T.fld := e_TooMany ▸ err_of (cs := madeL) allE hsp0 htk0 (c := [84, 111, 111, 77, 97, 110, 121]) (by decide)
  have xc_UnknownName : XcOk K A_UnknownName T.fld := e_UnknownName ▸ err_of (cs := madeL) allE hsp0 htk0 (c := [85, 110, 107, 110, 111, 119, 110, 78, 97, 109, 101]) (by decide)
  have xc_UnknownPlace : XcOk K A_UnknownPlace T.fld := e_UnknownPlace ▸ err_of (cs := madeL) allE hsp0 htk0 (c := [85, 110, 107, 110, 111, 119, 110, 80, 108, 97, 99, 101]) (by decide)
  have xc_UnknownTable : XcOk K A_UnknownTable T.fld := e_UnknownTable ▸ err_of (cs := madeL) allE hsp0 htk0 (c := [85, 110, 107, 110, 111, 119, 110, 84, 97, 98, 108, 101]) (by decide)
  have xc_Unlike : XcOk K A_Unlike T.fld := e_Unlike ▸ err_of (cs := madeL) allE hsp0 htk0 (c := [85, 110, 108, 105, 107, 101]) (by decide)
  have fs_0 : FnS P K mg T pg 0 "_law_rng" f0 (PySem.W.fnOf "_law_rng" "_law_rng" (defArgs s__law_rng) (defBody s__law_rng) (defScope s__law_rng) .none kV0 dc0 pm0 an0 cd0 ct0) ["_law_script", "_law_k"] [] [] "_law_rng" s__law_rng N__law_rng f__law_rng := ⟨PySem.W.mg_of X G a0, k0, fun F => .nil, .nil, fun m ks ix hm => bd_all hm (.cons (fun z => absurd z (by decide)) (.cons (fun z => absurd z (by decide)) (.cons (fun z => absurd z (by decide)) (.cons (fun z => absurd z (by decide)) (.cons (fun z => absurd z (by decide)) (.cons (fun z => absurd z (by decide)) (.cons (fun z => absurd z (by decide)) (.cons (fun z => absurd z (by decide)) (.cons (fun z => absurd z (by decide)) (.cons (fun z => absurd z (by decide)) (.cons (fun z => absurd z (by decide)) (.cons (fun _ => bd__law_rng_11) .nil)))))))))))), fun_mk (st := s__law_rng) l0 c0 k0, sc__law_rng, rfl, rfl, rfl, by decide, ck__law_rng, fun z => absurd z (by decide)⟩
  have fs_1 : FnS P K mg T pg 1 "_law_draw" f1 (PySem.W.fnOf "_law_draw" "_law_draw" (defArgs s__law_draw) (defBody s__law_draw) (defScope s__law_draw) .none kV1 dc1 pm1 an1 cd1 ct1) ["_law_rng_here", "_law_many"] [] [] "_law_draw" s__law_draw N__law_draw f__law_draw := ⟨PySem.W.mg_of X G a1, k1, fun F => .nil, .nil, fun m ks ix hm => bd_all hm (.cons (fun _ => bd__law_draw_0) (.cons (fun z => absurd z (by decide)) (.cons (fun z => absurd z (by decide)) (.cons (fun z => absurd z (by decide)) (.cons (fun z => absurd z (by decide)) (.cons (fun z => absurd z (by decide)) (.cons (fun z => absurd z (by decide)) (.cons (fun z => absurd z (by decide)) (.cons (fun z => absurd z (by decide)) (.cons (fun z => absurd z (by decide)) (.cons (fun z => absurd z (by decide)) (.cons (fun z => absurd z (by decide)) .nil)))))))))))), fun_mk (st := s__law_draw) l1 c1 k1, sc__law_draw, rfl, rfl, rfl, by decide, ck__law_draw, fun z => absurd z (by decide)⟩
  have fs_2 : FnS P K mg T pg 2 "_law_choice" f2 (PySem.W.fnOf "_law_choice" "_law_choice" (defArgs s__law_choice) (defBody s__law_choice) (defScope s__law_choice) .none kV2 dc2 pm2 an2 cd2 ct2) ["_law_rng_here", "_law_options"] [] [] "_law_choice" s__law_choice N__law_choice f__law_choice := ⟨PySem.W.mg_of X G a2, k2, fun F => .nil, .nil, fun m ks ix hm => bd_all hm (.cons (fun z => absurd z (by decide)) (.cons (fun _ => bd__law_choice_1) (.cons (fun z => absurd z (by decide)) (.cons (fun z => absurd z (by decide)) (.cons (fun z => absurd z (by decide)) (.cons (fun z => absurd z (by decide)) (.cons (fun z => absurd z (by decide)) (.cons (fun z => absurd z (by decide)) (.cons (fun z => absurd z (by decide)) (.cons (fun z => absurd z (by decide)) (.cons (fun z => absurd z (by decide)) (.cons (fun z => absurd z (by decide)) .nil)))))))))))), fun_mk (st := s__law_choice) l2 c2 k2, sc__law_choice, rfl, rfl, rfl, by decide, ck__law_choice, fun z => absurd z (by decide)⟩
  have fs_3 : FnS P K mg T pg 3 "_law_thing" f3 (PySem.W.fnOf "_law_thing" "_law_thing" (defArgs s__law_thing) (defBody s__law_thing) (defScope s__law_thing) .none kV3 dc3 pm3 an3 cd3 ct3) ["_law_rng_here"] [] [] "_law_thing" s__law_thing N__law_thing f__law_thing := ⟨PySem.W.mg_of X G a3, k3, fun F => .nil, .nil, fun m ks ix hm => bd_all hm (.cons (fun z => absurd z (by decide)) (.cons (fun z => absurd z (by decide)) (.cons (fun z => absurd z (by decide)) (.cons (fun z => absurd z (by decide)) (.cons (fun z => absurd z (by decide)) (.cons (fun z => absurd z (by decide)) (.cons (fun z => absurd z (by decide)) (.cons (fun z => absurd z (by decide)) (.cons (fun z => absurd z (by decide)) (.cons (fun z => absurd z (by decide)) (.cons (fun _ => bd__law_thing_10) (.cons (fun z => absurd z (by decide)) .nil)))))))))))), fun_mk (st := s__law_thing) l3 c3 k3, sc__law_thing, rfl, rfl, rfl, by decide, ck__law_thing, fun z => absurd z (by decide)⟩
  have fs_4 : FnS P K mg T pg 4 "_law_by_position" f4 (PySem.W.fnOf "_law_by_position" "_law_by_position" (defArgs s__law_by_position) (defBody s__law_by_position) (defScope s__law_by_position) .none kV4 dc4 pm4 an4 cd4 ct4) ["_law_a", "_law_b", "_law_c", "_law_d"] [] [] "_law_by_position" s__law_by_position N__law_by_position f__law_by_position := ⟨PySem.W.mg_of X G a4, k4, fun F => .nil, .nil, fun m ks ix hm => bd_all hm (.cons (fun z => absurd z (by decide)) (.cons (fun z => absurd z (by decide)) (.cons (fun z => absurd z (by decide)) (.cons (fun z => absurd z (by decide)) (.cons (fun z => absurd z (by decide)) (.cons (fun z => absurd z (by decide)) (.cons (fun z => absurd z (by decide)) (.cons (fun z => absurd z (by decide)) (.cons (fun z => absurd z (by decide)) (.cons (fun _ => bd__law_by_position_9) (.cons (fun z => absurd z (by decide)) (.cons (fun z => absurd z (by decide)) .nil)))))))))))), fun_mk (st := s__law_by_position) l4 c4 k4, sc__law_by_position, rfl, rfl, rfl, by decide, ck__law_by_position, fun z => absurd z (by decide)⟩
  have fs_5 : FnS P K mg T pg 5 "_law_by_name" f5 (PySem.W.fnOf "_law_by_name" "_law_by_name" (defArgs s__law_by_name) (defBody s__law_by_name) (defScope s__law_by_name) .none kV5 dc5 pm5 an5 cd5 ct5) ["_law_a", "_law_b", "_law_c", "_law_d"] [] [] "_law_by_name" s__law_by_name N__law_by_name f__law_by_name := ⟨PySem.W.mg_of X G a5, k5, fun F => .nil, .nil, fun m ks ix hm => bd_all hm (.cons (fun z => absurd z (by decide)) (.cons (fun z => absurd z (by decide)) (.cons (fun z => absurd z (by decide)) (.cons (fun z => absurd z (by decide)) (.cons (fun z => absurd z (by decide)) (.cons (fun z => absurd z (by decide)) (.cons (fun z => absurd z (by decide)) (.cons (fun z => absurd z (by decide)) (.cons (fun _ => bd__law_by_name_8) (.cons (fun z => absurd z (by decide)) (.cons (fun z => absurd z (by decide)) (.cons (fun z => absurd z (by decide)) .nil)))))))))))), fun_mk (st := s__law_by_name) l5 c5 k5, sc__law_by_name, rfl, rfl, rfl, by decide, ck__law_by_name, fun z => absurd z (by decide)⟩
  have fs_6 : FnS P K mg T pg 6 "_law_classes" f6 (PySem.W.fnOf "_law_classes" "_law_classes" (defArgs s__law_classes) (defBody s__law_classes) (defScope s__law_classes) .none kV6 dc6 pm6 an6 cd6 ct6) ["_law_e"] [] [] "_law_classes" s__law_classes N__law_classes f__law_classes := ⟨PySem.W.mg_of X G a6, k6, fun F => .nil, .nil, fun m ks ix hm => bd_all hm (.cons (fun z => absurd z (by decide)) (.cons (fun z => absurd z (by decide)) (.cons (fun z => absurd z (by decide)) (.cons (fun z => absurd z (by decide)) (.cons (fun z => absurd z (by decide)) (.cons (fun z => absurd z (by decide)) (.cons (fun _ => bd__law_classes_6) (.cons (fun z => absurd z (by decide)) (.cons (fun z => absurd z (by decide)) (.cons (fun z => absurd z (by decide)) (.cons (fun z => absurd z (by decide)) (.cons (fun z => absurd z (by decide)) .nil)))))))))))), fun_mk (st := s__law_classes) l6 c6 k6, sc__law_classes, rfl, rfl, rfl, by decide, ck__law_classes, fun z => absurd z (by decide)⟩
  have fs_7 : FnS P K mg T pg 7 "_law_fields" f7 (PySem.W.fnOf "_law_fields" "_law_fields" (defArgs s__law_fields) (defBody s__law_fields) (defScope s__law_fields) .none kV7 dc7 pm7 an7 cd7 ct7) ["_law_some"] [] [] "_law_fields" s__law_fields N__law_fields f__law_fields := ⟨PySem.W.mg_of X G a7, k7, fun F => .nil, .nil, fun m ks ix hm => bd_all hm (.cons (fun z => absurd z (by decide)) (.cons (fun z => absurd z (by decide)) (.cons (fun _ => bd__law_fields_2) (.cons (fun z => absurd z (by decide)) (.cons (fun z => absurd z (by decide)) (.cons (fun z => absurd z (by decide)) (.cons (fun z => absurd z (by decide)) (.cons (fun z => absurd z (by decide)) (.cons (fun z => absurd z (by decide)) (.cons (fun z => absurd z (by decide)) (.cons (fun z => absurd z (by decide)) (.cons (fun z => absurd z (by decide)) .nil)))))))))))), fun_mk (st := s__law_fields) l7 c7 k7, sc__law_fields, rfl, rfl, rfl, by decide, ck__law_fields, fun z => absurd z (by decide)⟩
  have fs_8 : FnS P K mg T pg 8 "_law_bases" f8 (PySem.W.fnOf "_law_bases" "_law_bases" (defArgs s__law_bases) (defBody s__law_bases) (defScope s__law_bases) .none kV8 dc8 pm8 an8 cd8 ct8) ["_law_e"] [] [] "_law_bases" s__law_bases N__law_bases f__law_bases := ⟨PySem.W.mg_of X G a8, k8, fun F => .nil, .nil, fun m ks ix hm => bd_all hm (.cons (fun z => absurd z (by decide)) (.cons (fun z => absurd z (by decide)) (.cons (fun z => absurd z (by decide)) (.cons (fun z => absurd z (by decide)) (.cons (fun _ => bd__law_bases_4) (.cons (fun z => absurd z (by decide)) (.cons (fun z => absurd z (by decide)) (.cons (fun z => absurd z (by decide)) (.cons (fun z => absurd z (by decide)) (.cons (fun z => absurd z (by decide)) (.cons (fun z => absurd z (by decide)) (.cons (fun z => absurd z (by decide)) .nil)))))))))))), fun_mk (st := s__law_bases) l8 c8 k8, sc__law_bases, rfl, rfl, rfl, by decide, ck__law_bases, fun z => absurd z (by decide)⟩
  have fs_9 : FnS P K mg T pg 9 "_law_due_bases" f9 (PySem.W.fnOf "_law_due_bases" "_law_due_bases" (defArgs s__law_due_bases) (defBody s__law_due_bases) (defScope s__law_due_bases) .none kV9 dc9 pm9 an9 cd9 ct9) ["_law_at"] [] [] "_law_due_bases" s__law_due_bases N__law_due_bases f__law_due_bases := ⟨PySem.W.mg_of X G a9, k9, fun F => .nil, .nil, fun m ks ix hm => bd_all hm (.cons (fun z => absurd z (by decide)) (.cons (fun z => absurd z (by decide)) (.cons (fun z => absurd z (by decide)) (.cons (fun z => absurd z (by decide)) (.cons (fun z => absurd z (by decide)) (.cons (fun _ => bd__law_due_bases_5) (.cons (fun z => absurd z (by decide)) (.cons (fun z => absurd z (by decide)) (.cons (fun z => absurd z (by decide)) (.cons (fun z => absurd z (by decide)) (.cons (fun z => absurd z (by decide)) (.cons (fun z => absurd z (by decide)) .nil)))))))))))), fun_mk (st := s__law_due_bases) l9 c9 k9, sc__law_due_bases, rfl, rfl, rfl, by decide, ck__law_due_bases, fun z => absurd z (by decide)⟩
  have fs_10 : FnS P K mg T pg 10 "_law_due_fields" f10 (PySem.W.fnOf "_law_due_fields" "_law_due_fields" (defArgs s__law_due_fields) (defBody s__law_due_fields) (defScope s__law_due_fields) .none kV10 dc10 pm10 an10 cd10 ct10) ["_law_a", "_law_b", "_law_c", "_law_d"] [] [] "_law_due_fields" s__law_due_fields N__law_due_fields f__law_due_fields := ⟨PySem.W.mg_of X G a10, k10, fun F => .nil, .nil, fun m ks ix hm => bd_all hm (.cons (fun z => absurd z (by decide)) (.cons (fun z => absurd z (by decide)) (.cons (fun z => absurd z (by decide)) (.cons (fun _ => bd__law_due_fields_3) (.cons (fun z => absurd z (by decide)) (.cons (fun z => absurd z (by decide)) (.cons (fun z => absurd z (by decide)) (.cons (fun z => absurd z (by decide)) (.cons (fun z => absurd z (by decide)) (.cons (fun z => absurd z (by decide)) (.cons (fun z => absurd z (by decide)) (.cons (fun z => absurd z (by decide)) .nil)))))))))))), fun_mk (st := s__law_due_fields) l10 c10 k10, sc__law_due_fields, rfl, rfl, rfl, by decide, ck__law_due_fields, fun z => absurd z (by decide)⟩
  have fs_11 : FnS P K mg T pg 11 "_law_right" f11 (PySem.W.fnOf "_law_right" "_law_right" (defArgs s__law_right) (defBody s__law_right) (defScope s__law_right) .none kV11 dc11 pm11 an11 cd11 ct11) ["_law_some", "_law_a", "_law_b", "_law_c", "_law_d"] [] [] "_law_right" s__law_right N__law_right f__law_right := ⟨PySem.W.mg_of X G a11, k11, fun F => .nil, .nil, fun m ks ix hm => bd_all hm (.cons (fun z => absurd z (by decide)) (.cons (fun z => absurd z (by decide)) (.cons (fun z => absurd z (by decide)) (.cons (fun z => absurd z (by decide)) (.cons (fun z => absurd z (by decide)) (.cons (fun z => absurd z (by decide)) (.cons (fun z => absurd z (by decide)) (.cons (fun _ => bd__law_right_7) (.cons (fun z => absurd z (by decide)) (.cons (fun z => absurd z (by decide)) (.cons (fun z => absurd z (by decide)) (.cons (fun z => absurd z (by decide)) .nil)))))))))))), fun_mk (st := s__law_right) l11 c11 k11, sc__law_right, rfl, rfl, rfl, by decide, ck__law_right, fun z => absurd z (by decide)⟩
  have fs_12 : FnS P K mg T pg 12 "law" f12 (PySem.W.fnOf "law" "law" (defArgs s_law) (defBody s_law) (defScope s_law) .none kV12 dc12 pm12 an12 cd12 ct12) ["_law_script"] [] [] "law" s_law N_law f_law := ⟨PySem.W.mg_of X G a12, k12, fun F => .nil, .nil, fun m ks ix hm => bd_all hm (.cons (fun z => absurd z (by decide)) (.cons (fun z => absurd z (by decide)) (.cons (fun z => absurd z (by decide)) (.cons (fun z => absurd z (by decide)) (.cons (fun z => absurd z (by decide)) (.cons (fun z => absurd z (by decide)) (.cons (fun z => absurd z (by decide)) (.cons (fun z => absurd z (by decide)) (.cons (fun z => absurd z (by decide)) (.cons (fun z => absurd z (by decide)) (.cons (fun z => absurd z (by decide)) (.cons (fun z => absurd z (by decide)) .nil)))))))))))), fun_mk (st := s_law) l12 c12 k12, sc_law, rfl, rfl, rfl, by decide, ck_law, fun z => absurd z (by decide)⟩
  have S : PfS P K mg T pg (fun c => .ref (adr K c)) := by
    refine ⟨fun k x hx => ?_, fun x hx => ?_, fun x k hx => ?_, fun c k b hb => ?_, fun _ => rfl, fun f x hx => ?_⟩
    · have hk : k < 0 := (List.getElem?_eq_some_iff.mp hx).1
      exact absurd hk (Nat.not_lt_zero _)
    · have hx : x ∈ (["abs", "divmod", "enumerate", "int", "isinstance", "len", "max", "min", "range", "repr"] : List Str) := hx
      simp only [in_cons, in_nil, or_false] at hx
      rcases hx with rfl | rfl | rfl | rfl | rfl | rfl | rfl | rfl | rfl | rfl
      · exact PySem.W.mg_none_of X G z_abs
      · exact PySem.W.mg_none_of X G z_divmod
      · exact PySem.W.mg_none_of X G z_enumerate
      · exact PySem.W.mg_none_of X G z_int
      · exact PySem.W.mg_none_of X G z_isinstance
      · exact PySem.W.mg_none_of X G z_len
      · exact PySem.W.mg_none_of X G z_max
      · exact PySem.W.mg_none_of X G z_min
      · exact PySem.W.mg_none_of X G z_range
      · exact PySem.W.mg_none_of X G z_repr
    · exact xcl_of X G (l := xclL) allX x k hx
    · have hb : clT c k = some b := hb
      have hm := clOf_mem hb
      obtain ⟨m1, m2⟩ := clAll_tab (cs := madeL) (by decide +kernel) hm
      exact ⟨err_of allE hsp0 htk0 m1, cls_of allC allA hm m2⟩
    · have hk : f < 13 := (List.getElem?_eq_some_iff.mp hx).1
      match f, hk, hx with
      | 0, _, hx => cases hx; exact ⟨_, _, _, _, _, _, _, _, _, fs_0⟩
      | 1, _, hx => cases hx; exact ⟨_, _, _, _, _, _, _, _, _, fs_1⟩
      | 2, _, hx => cases hx; exact ⟨_, _, _, _, _, _, _, _, _, fs_2⟩
      | 3, _, hx => cases hx; exact ⟨_, _, _, _, _, _, _, _, _, fs_3⟩
      | 4, _, hx => cases hx; exact ⟨_, _, _, _, _, _, _, _, _, fs_4⟩
      | 5, _, hx => cases hx; exact ⟨_, _, _, _, _, _, _, _, _, fs_5⟩
      | 6, _, hx => cases hx; exact ⟨_, _, _, _, _, _, _, _, _, fs_6⟩
      | 7, _, hx => cases hx; exact ⟨_, _, _, _, _, _, _, _, _, fs_7⟩
      | 8, _, hx => cases hx; exact ⟨_, _, _, _, _, _, _, _, _, fs_8⟩
      | 9, _, hx => cases hx; exact ⟨_, _, _, _, _, _, _, _, _, fs_9⟩
      | 10, _, hx => cases hx; exact ⟨_, _, _, _, _, _, _, _, _, fs_10⟩
      | 11, _, hx => cases hx; exact ⟨_, _, _, _, _, _, _, _, _, fs_11⟩
      | 12, _, hx => cases hx; exact ⟨_, _, _, _, _, _, _, _, _, fs_12⟩
  have efa := hfa.symm.trans (PySem.W.mg_of X G a12)
  cases efa
  refine ⟨PySem.W.fnOf "law" "law" (defArgs s_law) (defBody s_law) (defScope s_law) .none kV12 dc12 pm12 an12 cd12 ct12, fun s u => .of_eq rfl, fun base KB GB => ?_⟩
  have both : ∀ n x c, (x, c) ∈ T.mks → MkOk P w K mg base (pg.wd n).init n x c ∧ MkV P w K mg base T.mkk (pg.wd n).init n x c := by
    intro n x c hx
    have hx : (x, c) ∈ (("Apart", [65, 112, 97, 114, 116]) :: ("InUse", [73, 110, 85, 115, 101]) :: ("InvalidColumns", [73, 110, 118, 97, 108, 105, 100, 67, 111, 108, 117, 109, 110, 115]) :: ("InvalidCommand", [73, 110, 118, 97, 108, 105, 100, 67, 111, 109, 109, 97, 110, 100]) :: ("InvalidCount", [73, 110, 118, 97, 108, 105, 100, 67, 111, 117, 110, 116]) :: ("InvalidName", [73, 110, 118, 97, 108, 105, 100, 78, 97, 109, 101]) :: ("InvalidOffer", [73, 110, 118, 97, 108, 105, 100, 79, 102, 102, 101, 114]) :: ("InvalidOrder", [73, 110, 118, 97, 108, 105, 100, 79, 114, 100, 101, 114]) :: ("InvalidPlan", [73, 110, 118, 97, 108, 105, 100, 80, 108, 97, 110]) :: ("InvalidQuery", [73, 110, 118, 97, 108, 105, 100, 81, 117, 101, 114, 121]) :: ("InvalidQuestion", [73, 110, 118, 97, 108, 105, 100, 81, 117, 101, 115, 116, 105, 111, 110]) :: ("InvalidRow", [73, 110, 118, 97, 108, 105, 100, 82, 111, 119]) :: ("InvalidRule", [73, 110, 118, 97, 108, 105, 100, 82, 117, 108, 101]) :: ("InvalidTable", [73, 110, 118, 97, 108, 105, 100, 84, 97, 98, 108, 101]) :: ("InvalidText", [73, 110, 118, 97, 108, 105, 100, 84, 101, 120, 116]) :: ("InvalidToken", [73, 110, 118, 97, 108, 105, 100, 84, 111, 107, 101, 110]) :: ("InvalidValue", [73, 110, 118, 97, 108, 105, 100, 86, 97, 108, 117, 101]) :: ("InvalidVector", [73, 110, 118, 97, 108, 105, 100, 86, 101, 99, 116, 111, 114]) :: ("InvalidWrite", [73, 110, 118, 97, 108, 105, 100, 87, 114, 105, 116, 101]) :: ("NameTaken", [78, 97, 109, 101, 84, 97, 107, 101, 110]) :: ("NotServing", [78, 111, 116, 83, 101, 114, 118, 105, 110, 103]) :: ("OutOfOrder", [79, 117, 116, 79, 102, 79, 114, 100, 101, 114]) :: ("PairBroken", [80, 97, 105, 114, 66, 114, 111, 107, 101, 110]) :: ("RuleBroken", [82, 117, 108, 101, 66, 114, 111, 107, 101, 110]) :: ("TooMany", [84, 111, 111, 77, 97, 110, 121]) :: ("UnknownName", [85, 110, 107, 110, 111, 119, 110, 78, 97, 109, 101]) :: ("UnknownPlace", [85, 110, 107, 110, 111, 119, 110, 80, 108, 97, 99, 101]) :: ("UnknownTable", [85, 110, 107, 110, 111, 119, 110, 84, 97, 98, 108, 101]) :: ("Unlike", [85, 110, 108, 105, 107, 101]) :: [] : List (Str × Tx)) := hx
    simp only [List.mem_cons, List.not_mem_nil, or_false, Prod.mk.injEq] at hx
    rcases hx with ⟨rfl, rfl⟩ | ⟨rfl, rfl⟩ | ⟨rfl, rfl⟩ | ⟨rfl, rfl⟩ | ⟨rfl, rfl⟩ | ⟨rfl, rfl⟩ | ⟨rfl, rfl⟩ | ⟨rfl, rfl⟩ | ⟨rfl, rfl⟩ | ⟨rfl, rfl⟩ | ⟨rfl, rfl⟩ | ⟨rfl, rfl⟩ | ⟨rfl, rfl⟩ | ⟨rfl, rfl⟩ | ⟨rfl, rfl⟩ | ⟨rfl, rfl⟩ | ⟨rfl, rfl⟩ | ⟨rfl, rfl⟩ | ⟨rfl, rfl⟩ | ⟨rfl, rfl⟩ | ⟨rfl, rfl⟩ | ⟨rfl, rfl⟩ | ⟨rfl, rfl⟩ | ⟨rfl, rfl⟩ | ⟨rfl, rfl⟩ | ⟨rfl, rfl⟩ | ⟨rfl, rfl⟩ | ⟨rfl, rfl⟩ | ⟨rfl, rfl⟩
    · have XT : XB K A_Apart "RuntimeError.__new__" [.type "RuntimeError", .type "Exception", .type "BaseException", .type "object"] := ⟨⟨_, _, _, _, _, _, _, _, _, _, _, _, _, _, _, x_Apart, bm_Apart'⟩, qs_Apart, qt_Apart, kc_Apart⟩
      have Fi := fun_mk (st := ini_Apart) il_Apart ic_Apart ik_Apart
      have ef : ([[112, 97, 116, 104]] : List Tx).map tx = (["path"] : List Str) := by decide +kernel
      have F1 : FnOk P w K mg base CX0 1 i_Apart (PySem.W.fnOf "__init__" "Apart.__init__" (defArgs ini_Apart) (defBody ini_Apart) (defScope ini_Apart) .none ikV_Apart idc_Apart ipm_Apart ian_Apart icd_Apart ict_Apart) ("self" :: ([[112, 97, 116, 104]] : List Tx).map tx) (spI A_Apart (([[112, 97, 116, 104]] : List Tx).map tx)) := by
        rw [ef]
        exact fn_ini (q0 := posI_Apart 0) (q1 := posI_Apart 1) (q2 := posI_Apart 2) (q3 := posI_Apart 3) (q4 := posI_Apart 4) (q5 := posI_Apart 5) PySem.F.excBase_RuntimeError PySem.F.store_RuntimeError XT Fi rfl ie_Apart scI_Apart rfl (by decide) (fun X' hK hM hS => bas_ofB hK hM hS rfl (PySem.W.mg_none_of X G y_RuntimeError) (by decide +kernel) (by decide) (by decide) (PySem.W.kitMeta_of (by decide +kernel)) (by decide +kernel) vv_Apart (by decide +kernel)) pu_Apart sa_Apart (fun f hf => by
          simp only [List.mem_cons, List.not_mem_nil, or_false] at hf
          rcases hf with rfl
          · exact ⟨taker_of (xc_Apart.fd _ (by decide)), rfl, by decide, by decide⟩)
      refine mk_both (fs := [[112, 97, 116, 104]]) PySem.F.excBase_RuntimeError e_Apart XT ii_Apart it_Apart F1 (by rw [ef]; exact Fi.binds fun _ _ _ _ _ _ us hl => match us, hl with | [_, _], _ => rfl) (fun k hk => ?_) (by decide) mq_Apart fun ds gs hi => ?_
      · have e : k = (["path"] : List Str) := by
          have hk : (("Apart" : Str), k) ∈ (("Apart", ["path"]) :: ("InvalidColumns", ["position"]) :: ("InvalidCommand", ["value"]) :: ("InvalidCount", ["value"]) :: ("InvalidName", ["value"]) :: ("InvalidOffer", ["position"]) :: ("InvalidOrder", ["position"]) :: ("InvalidPlan", ["path"]) :: ("InvalidQuery", ["part", "position"]) :: ("InvalidRow", ["position"]) :: ("InvalidRule", ["position"]) :: ("InvalidTable", ["position"]) :: ("InvalidText", ["value"]) :: ("InvalidToken", ["value"]) :: ("InvalidValue", ["value"]) :: ("InvalidVector", ["value"]) :: ("InvalidWrite", ["position"]) :: ("NameTaken", ["value"]) :: ("OutOfOrder", ["path"]) :: ("PairBroken", ["table", "one", "other", "rule"]) :: ("RuleBroken", ["table", "place", "rule"]) :: ("TooMany", ["kind", "limit"]) :: ("UnknownName", ["value"]) :: ("UnknownPlace", ["value"]) :: ("UnknownTable", ["value"]) :: [] : List (Str × List Str)) := hk
          simp only [in_cons, in_nil, or_false, Prod.mk.injEq] at hk
          rcases hk with ⟨z, e⟩ | ⟨z, e⟩ | ⟨z, e⟩ | ⟨z, e⟩ | ⟨z, e⟩ | ⟨z, e⟩ | ⟨z, e⟩ | ⟨z, e⟩ | ⟨z, e⟩ | ⟨z, e⟩ | ⟨z, e⟩ | ⟨z, e⟩ | ⟨z, e⟩ | ⟨z, e⟩ | ⟨z, e⟩ | ⟨z, e⟩ | ⟨z, e⟩ | ⟨z, e⟩ | ⟨z, e⟩ | ⟨z, e⟩ | ⟨z, e⟩ | ⟨z, e⟩ | ⟨z, e⟩ | ⟨z, e⟩ | ⟨z, e⟩
          · exact e
          · exact absurd z (by decide)
          · exact absurd z (by decide)
          · exact absurd z (by decide)
          · exact absurd z (by decide)
          · exact absurd z (by decide)
          · exact absurd z (by decide)
          · exact absurd z (by decide)
          · exact absurd z (by decide)
          · exact absurd z (by decide)
          · exact absurd z (by decide)
          · exact absurd z (by decide)
          · exact absurd z (by decide)
          · exact absurd z (by decide)
          · exact absurd z (by decide)
          · exact absurd z (by decide)
          · exact absurd z (by decide)
          · exact absurd z (by decide)
          · exact absurd z (by decide)
          · exact absurd z (by decide)
          · exact absurd z (by decide)
          · exact absurd z (by decide)
          · exact absurd z (by decide)
          · exact absurd z (by decide)
          · exact absurd z (by decide)
        rw [ef]
        exact ⟨e, fun s a us hl => match us, hl with | [_], _ => .of_eq rfl⟩
      have hi : (if 2 ≤ n then initT [65, 112, 97, 114, 116] ds else none) = some gs := hi
      split at hi
      · rename_i h2
        exact ⟨h2, initT_Apart ds gs hi⟩
      · cases hi
    · have XT : XB K A_InUse "RuntimeError.__new__" [.type "RuntimeError", .type "Exception", .type "BaseException", .type "object"] := ⟨⟨_, _, _, _, _, _, _, _, _, _, _, _, _, _, _, x_InUse, bm_InUse'⟩, qs_InUse, qt_InUse, kc_InUse⟩
      have Fi := fun_mk (st := ini_InUse) il_InUse ic_InUse ik_InUse
      have ef : ([] : List Tx).map tx = ([] : List Str) := by decide +kernel
      have F1 : FnOk P w K mg base CX0 1 i_InUse (PySem.W.fnOf "__init__" "InUse.__init__" (defArgs ini_InUse) (defBody ini_InUse) (defScope ini_InUse) .none ikV_InUse idc_InUse ipm_InUse ian_InUse icd_InUse ict_InUse) ("self" :: ([] : List Tx).map tx) (spI A_InUse (([] : List Tx).map tx)) := by
        rw [ef]
        exact fn_ini (q0 := posI_InUse 0) (q1 := posI_InUse 1) (q2 := posI_InUse 2) (q3 := posI_InUse 3) (q4 := posI_InUse 4) (q5 := posI_InUse 5) PySem.F.excBase_RuntimeError PySem.F.store_RuntimeError XT Fi rfl ie_InUse scI_InUse rfl (by decide) (fun X' hK hM hS => bas_ofB hK hM hS rfl (PySem.W.mg_none_of X G y_RuntimeError) (by decide +kernel) (by decide) (by decide) (PySem.W.kitMeta_of (by decide +kernel)) (by decide +kernel) vv_InUse (by decide +kernel)) pu_InUse sa_InUse (fun f hf => nomatch hf)
      refine mk_both (fs := []) PySem.F.excBase_RuntimeError e_InUse XT ii_InUse it_InUse F1 (by rw [ef]; exact Fi.binds fun _ _ _ _ _ _ us hl => match us, hl with | [_], _ => rfl) (fun k hk => ?_) (by decide) mq_InUse fun ds gs hi => ?_
      · exact absurd (List.mem_map_of_mem (f := Prod.fst) hk) (show _ ∉ T.mkk.map Prod.fst by dsimp only; decide)
      have hi : (if 2 ≤ n then initT [73, 110, 85, 115, 101] ds else none) = some gs := hi
      split at hi
      · rename_i h2
        exact ⟨h2, initT_InUse ds gs hi⟩
      · cases hi
    · have XT : XB K A_InvalidColumns "ValueError.__new__" [.type "ValueError", .type "Exception", .type "BaseException", .type "object"] := ⟨⟨_, _, _, _, _, _, _, _, _, _, _, _, _, _, _, x_InvalidColumns, bm_InvalidColumns'⟩, qs_InvalidColumns, qt_InvalidColumns, kc_InvalidColumns⟩
      have Fi := fun_mk (st := ini_InvalidColumns) il_InvalidColumns ic_InvalidColumns ik_InvalidColumns
      have ef : ([[112, 111, 115, 105, 116, 105, 111, 110]] : List Tx).map tx = (["position"] : List Str) := by decide +kernel
      have F1 : FnOk P w K mg base CX0 1 i_InvalidColumns (PySem.W.fnOf "__init__" "InvalidColumns.__init__" (defArgs ini_InvalidColumns) (defBody ini_InvalidColumns) (defScope ini_InvalidColumns) .none ikV_InvalidColumns idc_InvalidColumns ipm_InvalidColumns ian_InvalidColumns icd_InvalidColumns ict_InvalidColumns) ("self" :: ([[112, 111, 115, 105, 116, 105, 111, 110]] : List Tx).map tx) (spI A_InvalidColumns (([[112, 111, 115, 105, 116, 105, 111, 110]] : List Tx).map tx)) := by
        rw [ef]
        exact fn_ini (q0 := posI_InvalidColumns 0) (q1 := posI_InvalidColumns 1) (q2 := posI_InvalidColumns 2) (q3 := posI_InvalidColumns 3) (q4 := posI_InvalidColumns 4) (q5 := posI_InvalidColumns 5) PySem.F.excBase_ValueError PySem.F.store_ValueError XT Fi rfl ie_InvalidColumns scI_InvalidColumns rfl (by decide) (fun X hK hM hS => bas_of hK hM hS rfl mq_PairError (by decide) sg_InvalidColumns rd_InvalidColumns vv_InvalidColumns (by decide +kernel)) pu_InvalidColumns sa_InvalidColumns (fun f hf => by
          simp only [List.mem_cons, List.not_mem_nil, or_false] at hf
          rcases hf with rfl
          · exact ⟨taker_of (xc_InvalidColumns.fd _ (by decide)), rfl, by decide, by decide⟩)
      refine mk_both (fs := [[112, 111, 115, 105, 116, 105, 111, 110]]) PySem.F.excBase_ValueError e_InvalidColumns XT ii_InvalidColumns it_InvalidColumns F1 (by rw [ef]; exact Fi.binds fun _ _ _ _ _ _ us hl => match us, hl with | [_, _], _ => rfl) (fun k hk => ?_) (by decide) mq_InvalidColumns fun ds gs hi => ?_
      · have e : k = (["position"] : List Str) := by
          have hk : (("InvalidColumns" : Str), k) ∈ (("Apart", ["path"]) :: ("InvalidColumns", ["position"]) :: ("InvalidCommand", ["value"]) :: ("InvalidCount", ["value"]) :: ("InvalidName", ["value"]) :: ("InvalidOffer", ["position"]) :: ("InvalidOrder", ["position"]) :: ("InvalidPlan", ["path"]) :: ("InvalidQuery", ["part", "position"]) :: ("InvalidRow", ["position"]) :: ("InvalidRule", ["position"]) :: ("InvalidTable", ["position"]) :: ("InvalidText", ["value"]) :: ("InvalidToken", ["value"]) :: ("InvalidValue", ["value"]) :: ("InvalidVector", ["value"]) :: ("InvalidWrite", ["position"]) :: ("NameTaken", ["value"]) :: ("OutOfOrder", ["path"]) :: ("PairBroken", ["table", "one", "other", "rule"]) :: ("RuleBroken", ["table", "place", "rule"]) :: ("TooMany", ["kind", "limit"]) :: ("UnknownName", ["value"]) :: ("UnknownPlace", ["value"]) :: ("UnknownTable", ["value"]) :: [] : List (Str × List Str)) := hk
          simp only [in_cons, in_nil, or_false, Prod.mk.injEq] at hk
          rcases hk with ⟨z, e⟩ | ⟨z, e⟩ | ⟨z, e⟩ | ⟨z, e⟩ | ⟨z, e⟩ | ⟨z, e⟩ | ⟨z, e⟩ | ⟨z, e⟩ | ⟨z, e⟩ | ⟨z, e⟩ | ⟨z, e⟩ | ⟨z, e⟩ | ⟨z, e⟩ | ⟨z, e⟩ | ⟨z, e⟩ | ⟨z, e⟩ | ⟨z, e⟩ | ⟨z, e⟩ | ⟨z, e⟩ | ⟨z, e⟩ | ⟨z, e⟩ | ⟨z, e⟩ | ⟨z, e⟩ | ⟨z, e⟩ | ⟨z, e⟩
          · exact absurd z (by decide)
          · exact e
          · exact absurd z (by decide)
          · exact absurd z (by decide)
          · exact absurd z (by decide)
          · exact absurd z (by decide)
          · exact absurd z (by decide)
          · exact absurd z (by decide)
          · exact absurd z (by decide)
          · exact absurd z (by decide)
          · exact absurd z (by decide)
          · exact absurd z (by decide)
          · exact absurd z (by decide)
          · exact absurd z (by decide)
          · exact absurd z (by decide)
          · exact absurd z (by decide)
          · exact absurd z (by decide)
          · exact absurd z (by decide)
          · exact absurd z (by decide)
          · exact absurd z (by decide)
          · exact absurd z (by decide)
          · exact absurd z (by decide)
          · exact absurd z (by decide)
          · exact absurd z (by decide)
          · exact absurd z (by decide)
        rw [ef]
        exact ⟨e, fun s a us hl => match us, hl with | [_], _ => .of_eq rfl⟩
      have hi : (if 2 ≤ n then initT [73, 110, 118, 97, 108, 105, 100, 67, 111, 108, 117, 109, 110, 115] ds else none) = some gs := hi
      split at hi
      · rename_i h2
        exact ⟨h2, initT_InvalidColumns ds gs hi⟩
      · cases hi
    · have XT : XB K A_InvalidCommand "ValueError.__new__" [.type "ValueError", .type "Exception", .type "BaseException", .type "object"] := ⟨⟨_, _, _, _, _, _, _, _, _, _, _, _, _, _, _, x_InvalidCommand, bm_InvalidCommand'⟩, qs_InvalidCommand, qt_InvalidCommand, kc_InvalidCommand⟩
      have Fi := fun_mk (st := ini_InvalidCommand) il_InvalidCommand ic_InvalidCommand ik_InvalidCommand
      have ef : ([[118, 97, 108, 117, 101]] : List Tx).map tx = (["value"] : List Str) := by decide +kernel
      have F1 : FnOk P w K mg base CX0 1 i_InvalidCommand (PySem.W.fnOf "__init__" "InvalidCommand.__init__" (defArgs ini_InvalidCommand) (defBody ini_InvalidCommand) (defScope ini_InvalidCommand) .none ikV_InvalidCommand idc_InvalidCommand ipm_InvalidCommand ian_InvalidCommand icd_InvalidCommand ict_InvalidCommand) ("self" :: ([[118, 97, 108, 117, 101]] : List Tx).map tx) (spI A_InvalidCommand (([[118, 97, 108, 117, 101]] : List Tx).map tx)) := by
        rw [ef]
        exact fn_ini (q0 := posI_InvalidCommand 0) (q1 := posI_InvalidCommand 1) (q2 := posI_InvalidCommand 2) (q3 := posI_InvalidCommand 3) (q4 := posI_InvalidCommand 4) (q5 := posI_InvalidCommand 5) PySem.F.excBase_ValueError PySem.F.store_ValueError XT Fi rfl ie_InvalidCommand scI_InvalidCommand rfl (by decide) (fun X hK hM hS => bas_of hK hM hS rfl mq_PairError (by decide) sg_InvalidCommand rd_InvalidCommand vv_InvalidCommand (by decide +kernel)) pu_InvalidCommand sa_InvalidCommand (fun f hf => by
          simp only [List.mem_cons, List.not_mem_nil, or_false] at hf
          rcases hf with rfl
          · exact ⟨taker_of (xc_InvalidCommand.fd _ (by decide)), rfl, by decide, by decide⟩)
      refine mk_both (fs := [[118, 97, 108, 117, 101]]) PySem.F.excBase_ValueError e_InvalidCommand XT ii_InvalidCommand it_InvalidCommand F1 (by rw [ef]; exact Fi.binds fun _ _ _ _ _ _ us hl => match us, hl with | [_, _], _ => rfl) (fun k hk => ?_) (by decide) mq_InvalidCommand fun ds gs hi => ?_
      · have e : k = (["value"] : List Str) := by
          have hk : (("InvalidCommand" : Str), k) ∈ (("Apart", ["path"]) :: ("InvalidColumns", ["position"]) :: ("InvalidCommand", ["value"]) :: ("InvalidCount", ["value"]) :: ("InvalidName", ["value"]) :: ("InvalidOffer", ["position"]) :: ("InvalidOrder", ["position"]) :: ("InvalidPlan", ["path"]) :: ("InvalidQuery", ["part", "position"]) :: ("InvalidRow", ["position"]) :: ("InvalidRule", ["position"]) :: ("InvalidTable", ["position"]) :: ("InvalidText", ["value"]) :: ("InvalidToken", ["value"]) :: ("InvalidValue", ["value"]) :: ("InvalidVector", ["value"]) :: ("InvalidWrite", ["position"]) :: ("NameTaken", ["value"]) :: ("OutOfOrder", ["path"]) :: ("PairBroken", ["table", "one", "other", "rule"]) :: ("RuleBroken", ["table", "place", "rule"]) :: ("TooMany", ["kind", "limit"]) :: ("UnknownName", ["value"]) :: ("UnknownPlace", ["value"]) :: ("UnknownTable", ["value"]) :: [] : List (Str × List Str)) := hk
          simp only [in_cons, in_nil, or_false, Prod.mk.injEq] at hk
          rcases hk with ⟨z, e⟩ | ⟨z, e⟩ | ⟨z, e⟩ | ⟨z, e⟩ | ⟨z, e⟩ | ⟨z, e⟩ | ⟨z, e⟩ | ⟨z, e⟩ | ⟨z, e⟩ | ⟨z, e⟩ | ⟨z, e⟩ | ⟨z, e⟩ | ⟨z, e⟩ | ⟨z, e⟩ | ⟨z, e⟩ | ⟨z, e⟩ | ⟨z, e⟩ | ⟨z, e⟩ | ⟨z, e⟩ | ⟨z, e⟩ | ⟨z, e⟩ | ⟨z, e⟩ | ⟨z, e⟩ | ⟨z, e⟩ | ⟨z, e⟩
          · exact absurd z (by decide)
          · exact absurd z (by decide)
          · exact e
          · exact absurd z (by decide)
          · exact absurd z (by decide)
          · exact absurd z (by decide)
          · exact absurd z (by decide)
          · exact absurd z (by decide)
          · exact absurd z (by decide)
          · exact absurd z (by decide)
          · exact absurd z (by decide)
          · exact absurd z (by decide)
          · exact absurd z (by decide)
          · exact absurd z (by decide)
          · exact absurd z (by decide)
          · exact absurd z (by decide)
          · exact absurd z (by decide)
          · exact absurd z (by decide)
          · exact absurd z (by decide)
          · exact absurd z (by decide)
          · exact absurd z (by decide)
          · exact absurd z (by decide)
          · exact absurd z (by decide)
          · exact absurd z (by decide)
          · exact absurd z (by decide)
        rw [ef]
        exact ⟨e, fun s a us hl => match us, hl with | [_], _ => .of_eq rfl⟩
      have hi : (if 2 ≤ n then initT [73, 110, 118, 97, 108, 105, 100, 67, 111, 109, 109, 97, 110, 100] ds else none) = some gs := hi
      split at hi
      · rename_i h2
        exact ⟨h2, initT_InvalidCommand ds gs hi⟩
      · cases hi
    · have XT : XB K A_InvalidCount "ValueError.__new__" [.type "ValueError", .type "Exception", .type "BaseException", .type "object"] := ⟨⟨_, _, _, _, _, _, _, _, _, _, _, _, _, _, _, x_InvalidCount, bm_InvalidCount'⟩, qs_InvalidCount, qt_InvalidCount, kc_InvalidCount⟩
      have Fi := fun_mk (st := ini_InvalidCount) il_InvalidCount ic_InvalidCount ik_InvalidCount
      have ef : ([[118, 97, 108, 117, 101]] : List Tx).map tx = (["value"] : List Str) := by decide +kernel
      have F1 : FnOk P w K mg base CX0 1 i_InvalidCount (PySem.W.fnOf "__init__" "InvalidCount.__init__" (defArgs ini_InvalidCount) (defBody ini_InvalidCount) (defScope ini_InvalidCount) .none ikV_InvalidCount idc_InvalidCount ipm_InvalidCount ian_InvalidCount icd_InvalidCount ict_InvalidCount) ("self" :: ([[118, 97, 108, 117, 101]] : List Tx).map tx) (spI A_InvalidCount (([[118, 97, 108, 117, 101]] : List Tx).map tx)) := by
        rw [ef]
        exact fn_ini (q0 := posI_InvalidCount 0) (q1 := posI_InvalidCount 1) (q2 := posI_InvalidCount 2) (q3 := posI_InvalidCount 3) (q4 := posI_InvalidCount 4) (q5 := posI_InvalidCount 5) PySem.F.excBase_ValueError PySem.F.store_ValueError XT Fi rfl ie_InvalidCount scI_InvalidCount rfl (by decide) (fun X hK hM hS => bas_of hK hM hS rfl mq_PairError (by decide) sg_InvalidCount rd_InvalidCount vv_InvalidCount (by decide +kernel)) pu_InvalidCount sa_InvalidCount (fun f hf => by
          simp only [List.mem_cons, List.not_mem_nil, or_false] at hf
          rcases hf with rfl
          · exact ⟨taker_of (xc_InvalidCount.fd _ (by decide)), rfl, by decide, by decide⟩)
      refine mk_both (fs := [[118, 97, 108, 117, 101]]) PySem.F.excBase_ValueError e_InvalidCount XT ii_InvalidCount it_InvalidCount F1 (by rw [ef]; exact Fi.binds fun _ _ _ _ _ _ us hl => match us, hl with | [_, _], _ => rfl) (fun k hk => ?_) (by decide) mq_InvalidCount fun ds gs hi => ?_
      · have e : k = (["value"] : List Str) := by
          have hk : (("InvalidCount" : Str), k) ∈ (("Apart", ["path"]) :: ("InvalidColumns", ["position"]) :: ("InvalidCommand", ["value"]) :: ("InvalidCount", ["value"]) :: ("InvalidName", ["value"]) :: ("InvalidOffer", ["position"]) :: ("InvalidOrder", ["position"]) :: ("InvalidPlan", ["path"]) :: ("InvalidQuery", ["part", "position"]) :: ("InvalidRow", ["position"]) :: ("InvalidRule", ["position"]) :: ("InvalidTable", ["position"]) :: ("InvalidText", ["value"]) :: ("InvalidToken", ["value"]) :: ("InvalidValue", ["value"]) :: ("InvalidVector", ["value"]) :: ("InvalidWrite", ["position"]) :: ("NameTaken", ["value"]) :: ("OutOfOrder", ["path"]) :: ("PairBroken", ["table", "one", "other", "rule"]) :: ("RuleBroken", ["table", "place", "rule"]) :: ("TooMany", ["kind", "limit"]) :: ("UnknownName", ["value"]) :: ("UnknownPlace", ["value"]) :: ("UnknownTable", ["value"]) :: [] : List (Str × List Str)) := hk
          simp only [in_cons, in_nil, or_false, Prod.mk.injEq] at hk
          rcases hk with ⟨z, e⟩ | ⟨z, e⟩ | ⟨z, e⟩ | ⟨z, e⟩ | ⟨z, e⟩ | ⟨z, e⟩ | ⟨z, e⟩ | ⟨z, e⟩ | ⟨z, e⟩ | ⟨z, e⟩ | ⟨z, e⟩ | ⟨z, e⟩ | ⟨z, e⟩ | ⟨z, e⟩ | ⟨z, e⟩ | ⟨z, e⟩ | ⟨z, e⟩ | ⟨z, e⟩ | ⟨z, e⟩ | ⟨z, e⟩ | ⟨z, e⟩ | ⟨z, e⟩ | ⟨z, e⟩ | ⟨z, e⟩ | ⟨z, e⟩
          · exact absurd z (by decide)
          · exact absurd z (by decide)
          · exact absurd z (by decide)
          · exact e
          · exact absurd z (by decide)
          · exact absurd z (by decide)
          · exact absurd z (by decide)
          · exact absurd z (by decide)
          · exact absurd z (by decide)
          · exact absurd z (by decide)
          · exact absurd z (by decide)
          · exact absurd z (by decide)
          · exact absurd z (by decide)
          · exact absurd z (by decide)
          · exact absurd z (by decide)
          · exact absurd z (by decide)
          · exact absurd z (by decide)
          · exact absurd z (by decide)
          · exact absurd z (by decide)
          · exact absurd z (by decide)
          · exact absurd z (by decide)
          · exact absurd z (by decide)
          · exact absurd z (by decide)
          · exact absurd z (by decide)
          · exact absurd z (by decide)
        rw [ef]
        exact ⟨e, fun s a us hl => match us, hl with | [_], _ => .of_eq rfl⟩
      have hi : (if 2 ≤ n then initT [73, 110, 118, 97, 108, 105, 100, 67, 111, 117, 110, 116] ds else none) = some gs := hi
      split at hi
      · rename_i h2
        exact ⟨h2, initT_InvalidCount ds gs hi⟩
      · cases hi
    · have XT : XB K A_InvalidName "ValueError.__new__" [.type "ValueError", .type "Exception", .type "BaseException", .type "object"] := ⟨⟨_, _, _, _, _, _, _, _, _, _, _, _, _, _, _, x_InvalidName, bm_InvalidName'⟩, qs_InvalidName, qt_InvalidName, kc_InvalidName⟩
      have Fi := fun_mk (st := ini_InvalidName) il_InvalidName ic_InvalidName ik_InvalidName
      have ef : ([[118, 97, 108, 117, 101]] : List Tx).map tx = (["value"] : List Str) := by decide +kernel
      have F1 : FnOk P w K mg base CX0 1 i_InvalidName (PySem.W.fnOf "__init__" "InvalidName.__init__" (defArgs ini_InvalidName) (defBody ini_InvalidName) (defScope ini_InvalidName) .none ikV_InvalidName idc_InvalidName ipm_InvalidName ian_InvalidName icd_InvalidName ict_InvalidName) ("self" :: ([[118, 97, 108, 117, 101]] : List Tx).map tx) (spI A_InvalidName (([[118, 97, 108, 117, 101]] : List Tx).map tx)) := by
        rw [ef]
        exact fn_ini (q0 := posI_InvalidName 0) (q1 := posI_InvalidName 1) (q2 := posI_InvalidName 2) (q3 := posI_InvalidName 3) (q4 := posI_InvalidName 4) (q5 := posI_InvalidName 5) PySem.F.excBase_ValueError PySem.F.store_ValueError XT Fi rfl ie_InvalidName scI_InvalidName rfl (by decide) (fun X hK hM hS => bas_of hK hM hS rfl mq_PairError (by decide) sg_InvalidName rd_InvalidName vv_InvalidName (by decide +kernel)) pu_InvalidName sa_InvalidName (fun f hf => by
          simp only [List.mem_cons, List.not_mem_nil, or_false] at hf
          rcases hf with rfl
          · exact ⟨taker_of (xc_InvalidName.fd _ (by decide)), rfl, by decide, by decide⟩)
      refine mk_both (fs := [[118, 97, 108, 117, 101]]) PySem.F.excBase_ValueError e_InvalidName XT ii_InvalidName it_InvalidName F1 (by rw [ef]; exact Fi.binds fun _ _ _ _ _ _ us hl => match us, hl with | [_, _], _ => rfl) (fun k hk => ?_) (by decide) mq_InvalidName fun ds gs hi => ?_
      · have e : k = (["value"] : List Str) := by
          have hk : (("InvalidName" : Str), k) ∈ (("Apart", ["path"]) :: ("InvalidColumns", ["position"]) :: ("InvalidCommand", ["value"]) :: ("InvalidCount", ["value"]) :: ("InvalidName", ["value"]) :: ("InvalidOffer", ["position"]) :: ("InvalidOrder", ["position"]) :: ("InvalidPlan", ["path"]) :: ("InvalidQuery", ["part", "position"]) :: ("InvalidRow", ["position"]) :: ("InvalidRule", ["position"]) :: ("InvalidTable", ["position"]) :: ("InvalidText", ["value"]) :: ("InvalidToken", ["value"]) :: ("InvalidValue", ["value"]) :: ("InvalidVector", ["value"]) :: ("InvalidWrite", ["position"]) :: ("NameTaken", ["value"]) :: ("OutOfOrder", ["path"]) :: ("PairBroken", ["table", "one", "other", "rule"]) :: ("RuleBroken", ["table", "place", "rule"]) :: ("TooMany", ["kind", "limit"]) :: ("UnknownName", ["value"]) :: ("UnknownPlace", ["value"]) :: ("UnknownTable", ["value"]) :: [] : List (Str × List Str)) := hk
          simp only [in_cons, in_nil, or_false, Prod.mk.injEq] at hk
          rcases hk with ⟨z, e⟩ | ⟨z, e⟩ | ⟨z, e⟩ | ⟨z, e⟩ | ⟨z, e⟩ | ⟨z, e⟩ | ⟨z, e⟩ | ⟨z, e⟩ | ⟨z, e⟩ | ⟨z, e⟩ | ⟨z, e⟩ | ⟨z, e⟩ | ⟨z, e⟩ | ⟨z, e⟩ | ⟨z, e⟩ | ⟨z, e⟩ | ⟨z, e⟩ | ⟨z, e⟩ | ⟨z, e⟩ | ⟨z, e⟩ | ⟨z, e⟩ | ⟨z, e⟩ | ⟨z, e⟩ | ⟨z, e⟩ | ⟨z, e⟩
          · exact absurd z (by decide)
          · exact absurd z (by decide)
          · exact absurd z (by decide)
          · exact absurd z (by decide)
          · exact e
          · exact absurd z (by decide)
          · exact absurd z (by decide)
          · exact absurd z (by decide)
          · exact absurd z (by decide)
          · exact absurd z (by decide)
          · exact absurd z (by decide)
          · exact absurd z (by decide)
          · exact absurd z (by decide)
          · exact absurd z (by decide)
          · exact absurd z (by decide)
          · exact absurd z (by decide)
          · exact absurd z (by decide)
          · exact absurd z (by decide)
          · exact absurd z (by decide)
          · exact absurd z (by decide)
          · exact absurd z (by decide)
          · exact absurd z (by decide)
          · exact absurd z (by decide)
          · exact absurd z (by decide)
          · exact absurd z (by decide)
        rw [ef]
        exact ⟨e, fun s a us hl => match us, hl with | [_], _ => .of_eq rfl⟩
      have hi : (if 2 ≤ n then initT [73, 110, 118, 97, 108, 105, 100, 78, 97, 109, 101] ds else none) = some gs := hi
      split at hi
      · rename_i h2
        exact ⟨h2, initT_InvalidName ds gs hi⟩
      · cases hi
    · have XT : XB K A_InvalidOffer "ValueError.__new__" [.type "ValueError", .type "Exception", .type "BaseException", .type "object"] := ⟨⟨_, _, _, _, _, _, _, _, _, _, _, _, _, _, _, x_InvalidOffer, bm_InvalidOffer'⟩, qs_InvalidOffer, qt_InvalidOffer, kc_InvalidOffer⟩
      have Fi := fun_mk (st := ini_InvalidOffer) il_InvalidOffer ic_InvalidOffer ik_InvalidOffer
      have ef : ([[112, 111, 115, 105, 116, 105, 111, 110]] : List Tx).map tx = (["position"] : List Str) := by decide +kernel
      have F1 : FnOk P w K mg base CX0 1 i_InvalidOffer (PySem.W.fnOf "__init__" "InvalidOffer.__init__" (defArgs ini_InvalidOffer) (defBody ini_InvalidOffer) (defScope ini_InvalidOffer) .none ikV_InvalidOffer idc_InvalidOffer ipm_InvalidOffer ian_InvalidOffer icd_InvalidOffer ict_InvalidOffer) ("self" :: ([[112, 111, 115, 105, 116, 105, 111, 110]] : List Tx).map tx) (spI A_InvalidOffer (([[112, 111, 115, 105, 116, 105, 111, 110]] : List Tx).map tx)) := by
        rw [ef]
        exact fn_ini (q0 := posI_InvalidOffer 0) (q1 := posI_InvalidOffer 1) (q2 := posI_InvalidOffer 2) (q3 := posI_InvalidOffer 3) (q4 := posI_InvalidOffer 4) (q5 := posI_InvalidOffer 5) PySem.F.excBase_ValueError PySem.F.store_ValueError XT Fi rfl ie_InvalidOffer scI_InvalidOffer rfl (by decide) (fun X hK hM hS => bas_of hK hM hS rfl mq_PairError (by decide) sg_InvalidOffer rd_InvalidOffer vv_InvalidOffer (by decide +kernel)) pu_InvalidOffer sa_InvalidOffer (fun f hf => by
          simp only [List.mem_cons, List.not_mem_nil, or_false] at hf
          rcases hf with rfl
          · exact ⟨taker_of (xc_InvalidOffer.fd _ (by decide)), rfl, by decide, by decide⟩)
      refine mk_both (fs := [[112, 111, 115, 105, 116, 105, 111, 110]]) PySem.F.excBase_ValueError e_InvalidOffer XT ii_InvalidOffer it_InvalidOffer F1 (by rw [ef]; exact Fi.binds fun _ _ _ _ _ _ us hl => match us, hl with | [_, _], _ => rfl) (fun k hk => ?_) (by decide) mq_InvalidOffer fun ds gs hi => ?_
      · have e : k = (["position"] : List Str) := by
          have hk : (("InvalidOffer" : Str), k) ∈ (("Apart", ["path"]) :: ("InvalidColumns", ["position"]) :: ("InvalidCommand", ["value"]) :: ("InvalidCount", ["value"]) :: ("InvalidName", ["value"]) :: ("InvalidOffer", ["position"]) :: ("InvalidOrder", ["position"]) :: ("InvalidPlan", ["path"]) :: ("InvalidQuery", ["part", "position"]) :: ("InvalidRow", ["position"]) :: ("InvalidRule", ["position"]) :: ("InvalidTable", ["position"]) :: ("InvalidText", ["value"]) :: ("InvalidToken", ["value"]) :: ("InvalidValue", ["value"]) :: ("InvalidVector", ["value"]) :: ("InvalidWrite", ["position"]) :: ("NameTaken", ["value"]) :: ("OutOfOrder", ["path"]) :: ("PairBroken", ["table", "one", "other", "rule"]) :: ("RuleBroken", ["table", "place", "rule"]) :: ("TooMany", ["kind", "limit"]) :: ("UnknownName", ["value"]) :: ("UnknownPlace", ["value"]) :: ("UnknownTable", ["value"]) :: [] : List (Str × List Str)) := hk
          simp only [in_cons, in_nil, or_false, Prod.mk.injEq] at hk
          rcases hk with ⟨z, e⟩ | ⟨z, e⟩ | ⟨z, e⟩ | ⟨z, e⟩ | ⟨z, e⟩ | ⟨z, e⟩ | ⟨z, e⟩ | ⟨z, e⟩ | ⟨z, e⟩ | ⟨z, e⟩ | ⟨z, e⟩ | ⟨z, e⟩ | ⟨z, e⟩ | ⟨z, e⟩ | ⟨z, e⟩ | ⟨z, e⟩ | ⟨z, e⟩ | ⟨z, e⟩ | ⟨z, e⟩ | ⟨z, e⟩ | ⟨z, e⟩ | ⟨z, e⟩ | ⟨z, e⟩ | ⟨z, e⟩ | ⟨z, e⟩
          · exact absurd z (by decide)
          · exact absurd z (by decide)
          · exact absurd z (by decide)
          · exact absurd z (by decide)
          · exact absurd z (by decide)
          · exact e
          · exact absurd z (by decide)
          · exact absurd z (by decide)
          · exact absurd z (by decide)
          · exact absurd z (by decide)
          · exact absurd z (by decide)
          · exact absurd z (by decide)
          · exact absurd z (by decide)
          · exact absurd z (by decide)
          · exact absurd z (by decide)
          · exact absurd z (by decide)
          · exact absurd z (by decide)
          · exact absurd z (by decide)
          · exact absurd z (by decide)
          · exact absurd z (by decide)
          · exact absurd z (by decide)
          · exact absurd z (by decide)
          · exact absurd z (by decide)
          · exact absurd z (by decide)
          · exact absurd z (by decide)
        rw [ef]
        exact ⟨e, fun s a us hl => match us, hl with | [_], _ => .of_eq rfl⟩
      have hi : (if 2 ≤ n then initT [73, 110, 118, 97, 108, 105, 100, 79, 102, 102, 101, 114] ds else none) = some gs := hi
      split at hi
      · rename_i h2
        exact ⟨h2, initT_InvalidOffer ds gs hi⟩
      · cases hi
    · have XT : XB K A_InvalidOrder "ValueError.__new__" [.type "ValueError", .type "Exception", .type "BaseException", .type "object"] := ⟨⟨_, _, _, _, _, _, _, _, _, _, _, _, _, _, _, x_InvalidOrder, bm_InvalidOrder'⟩, qs_InvalidOrder, qt_InvalidOrder, kc_InvalidOrder⟩
      have Fi := fun_mk (st := ini_InvalidOrder) il_InvalidOrder ic_InvalidOrder ik_InvalidOrder
      have ef : ([[112, 111, 115, 105, 116, 105, 111, 110]] : List Tx).map tx = (["position"] : List Str) := by decide +kernel
      have F1 : FnOk P w K mg base CX0 1 i_InvalidOrder (PySem.W.fnOf "__init__" "InvalidOrder.__init__" (defArgs ini_InvalidOrder) (defBody ini_InvalidOrder) (defScope ini_InvalidOrder) .none ikV_InvalidOrder idc_InvalidOrder ipm_InvalidOrder ian_InvalidOrder icd_InvalidOrder ict_InvalidOrder) ("self" :: ([[112, 111, 115, 105, 116, 105, 111, 110]] : List Tx).map tx) (spI A_InvalidOrder (([[112, 111, 115, 105, 116, 105, 111, 110]] : List Tx).map tx)) := by
        rw [ef]
        exact fn_ini (q0 := posI_InvalidOrder 0) (q1 := posI_InvalidOrder 1) (q2 := posI_InvalidOrder 2) (q3 := posI_InvalidOrder 3) (q4 := posI_InvalidOrder 4) (q5 := posI_InvalidOrder 5) PySem.F.excBase_ValueError PySem.F.store_ValueError XT Fi rfl ie_InvalidOrder scI_InvalidOrder rfl (by decide) (fun X hK hM hS => bas_of hK hM hS rfl mq_PairError (by decide) sg_InvalidOrder rd_InvalidOrder vv_InvalidOrder (by decide +kernel)) pu_InvalidOrder sa_InvalidOrder (fun f hf => by
          simp only [List.mem_cons, List.not_mem_nil, or_false] at hf
          rcases hf with rfl
          · exact ⟨taker_of (xc_InvalidOrder.fd _ (by decide)), rfl, by decide, by decide⟩)
      refine mk_both (fs := [[112, 111, 115, 105, 116, 105, 111, 110]]) PySem.F.excBase_ValueError e_InvalidOrder XT ii_InvalidOrder it_InvalidOrder F1 (by rw [ef]; exact Fi.binds fun _ _ _ _ _ _ us hl => match us, hl with | [_, _], _ => rfl) (fun k hk => ?_) (by decide) mq_InvalidOrder fun ds gs hi => ?_
      · have e : k = (["position"] : List Str) := by
          have hk : (("InvalidOrder" : Str), k) ∈ (("Apart", ["path"]) :: ("InvalidColumns", ["position"]) :: ("InvalidCommand", ["value"]) :: ("InvalidCount", ["value"]) :: ("InvalidName", ["value"]) :: ("InvalidOffer", ["position"]) :: ("InvalidOrder", ["position"]) :: ("InvalidPlan", ["path"]) :: ("InvalidQuery", ["part", "position"]) :: ("InvalidRow", ["position"]) :: ("InvalidRule", ["position"]) :: ("InvalidTable", ["position"]) :: ("InvalidText", ["value"]) :: ("InvalidToken", ["value"]) :: ("InvalidValue", ["value"]) :: ("InvalidVector", ["value"]) :: ("InvalidWrite", ["position"]) :: ("NameTaken", ["value"]) :: ("OutOfOrder", ["path"]) :: ("PairBroken", ["table", "one", "other", "rule"]) :: ("RuleBroken", ["table", "place", "rule"]) :: ("TooMany", ["kind", "limit"]) :: ("UnknownName", ["value"]) :: ("UnknownPlace", ["value"]) :: ("UnknownTable", ["value"]) :: [] : List (Str × List Str)) := hk
          simp only [in_cons, in_nil, or_false, Prod.mk.injEq] at hk
          rcases hk with ⟨z, e⟩ | ⟨z, e⟩ | ⟨z, e⟩ | ⟨z, e⟩ | ⟨z, e⟩ | ⟨z, e⟩ | ⟨z, e⟩ | ⟨z, e⟩ | ⟨z, e⟩ | ⟨z, e⟩ | ⟨z, e⟩ | ⟨z, e⟩ | ⟨z, e⟩ | ⟨z, e⟩ | ⟨z, e⟩ | ⟨z, e⟩ | ⟨z, e⟩ | ⟨z, e⟩ | ⟨z, e⟩ | ⟨z, e⟩ | ⟨z, e⟩ | ⟨z, e⟩ | ⟨z, e⟩ | ⟨z, e⟩ | ⟨z, e⟩
          · exact absurd z (by decide)
          · exact absurd z (by decide)
          · exact absurd z (by decide)
          · exact absurd z (by decide)
          · exact absurd z (by decide)
          · exact absurd z (by decide)
          · exact e
          · exact absurd z (by decide)
          · exact absurd z (by decide)
          · exact absurd z (by decide)
          · exact absurd z (by decide)
          · exact absurd z (by decide)
          · exact absurd z (by decide)
          · exact absurd z (by decide)
          · exact absurd z (by decide)
          · exact absurd z (by decide)
          · exact absurd z (by decide)
          · exact absurd z (by decide)
          · exact absurd z (by decide)
          · exact absurd z (by decide)
          · exact absurd z (by decide)
          · exact absurd z (by decide)
          · exact absurd z (by decide)
          · exact absurd z (by decide)
          · exact absurd z (by decide)
        rw [ef]
        exact ⟨e, fun s a us hl => match us, hl with | [_], _ => .of_eq rfl⟩
      have hi : (if 2 ≤ n then initT [73, 110, 118, 97, 108, 105, 100, 79, 114, 100, 101, 114] ds else none) = some gs := hi
      split at hi
      · rename_i h2
        exact ⟨h2, initT_InvalidOrder ds gs hi⟩
      · cases hi
    · have XT : XB K A_InvalidPlan "ValueError.__new__" [.type "ValueError", .type "Exception", .type "BaseException", .type "object"] := ⟨⟨_, _, _, _, _, _, _, _, _, _, _, _, _, _, _, x_InvalidPlan, bm_InvalidPlan'⟩, qs_InvalidPlan, qt_InvalidPlan, kc_InvalidPlan⟩
      have Fi := fun_mk (st := ini_InvalidPlan) il_InvalidPlan ic_InvalidPlan ik_InvalidPlan
      have ef : ([[112, 97, 116, 104]] : List Tx).map tx = (["path"] : List Str) := by decide +kernel
      have F1 : FnOk P w K mg base CX0 1 i_InvalidPlan (PySem.W.fnOf "__init__" "InvalidPlan.__init__" (defArgs ini_InvalidPlan) (defBody ini_InvalidPlan) (defScope ini_InvalidPlan) .none ikV_InvalidPlan idc_InvalidPlan ipm_InvalidPlan ian_InvalidPlan icd_InvalidPlan ict_InvalidPlan) ("self" :: ([[112, 97, 116, 104]] : List Tx).map tx) (spI A_InvalidPlan (([[112, 97, 116, 104]] : List Tx).map tx)) := by
        rw [ef]
        exact fn_ini (q0 := posI_InvalidPlan 0) (q1 := posI_InvalidPlan 1) (q2 := posI_InvalidPlan 2) (q3 := posI_InvalidPlan 3) (q4 := posI_InvalidPlan 4) (q5 := posI_InvalidPlan 5) PySem.F.excBase_ValueError PySem.F.store_ValueError XT Fi rfl ie_InvalidPlan scI_InvalidPlan rfl (by decide) (fun X hK hM hS => bas_of hK hM hS rfl mq_PairError (by decide) sg_InvalidPlan rd_InvalidPlan vv_InvalidPlan (by decide +kernel)) pu_InvalidPlan sa_InvalidPlan (fun f hf => by
          simp only [List.mem_cons, List.not_mem_nil, or_false] at hf
          rcases hf with rfl
          · exact ⟨taker_of (xc_InvalidPlan.fd _ (by decide)), rfl, by decide, by decide⟩)
      refine mk_both (fs := [[112, 97, 116, 104]]) PySem.F.excBase_ValueError e_InvalidPlan XT ii_InvalidPlan it_InvalidPlan F1 (by rw [ef]; exact Fi.binds fun _ _ _ _ _ _ us hl => match us, hl with | [_, _], _ => rfl) (fun k hk => ?_) (by decide) mq_InvalidPlan fun ds gs hi => ?_
      · have e : k = (["path"] : List Str) := by
          have hk : (("InvalidPlan" : Str), k) ∈ (("Apart", ["path"]) :: ("InvalidColumns", ["position"]) :: ("InvalidCommand", ["value"]) :: ("InvalidCount", ["value"]) :: ("InvalidName", ["value"]) :: ("InvalidOffer", ["position"]) :: ("InvalidOrder", ["position"]) :: ("InvalidPlan", ["path"]) :: ("InvalidQuery", ["part", "position"]) :: ("InvalidRow", ["position"]) :: ("InvalidRule", ["position"]) :: ("InvalidTable", ["position"]) :: ("InvalidText", ["value"]) :: ("InvalidToken", ["value"]) :: ("InvalidValue", ["value"]) :: ("InvalidVector", ["value"]) :: ("InvalidWrite", ["position"]) :: ("NameTaken", ["value"]) :: ("OutOfOrder", ["path"]) :: ("PairBroken", ["table", "one", "other", "rule"]) :: ("RuleBroken", ["table", "place", "rule"]) :: ("TooMany", ["kind", "limit"]) :: ("UnknownName", ["value"]) :: ("UnknownPlace", ["value"]) :: ("UnknownTable", ["value"]) :: [] : List (Str × List Str)) := hk
          simp only [in_cons, in_nil, or_false, Prod.mk.injEq] at hk
          rcases hk with ⟨z, e⟩ | ⟨z, e⟩ | ⟨z, e⟩ | ⟨z, e⟩ | ⟨z, e⟩ | ⟨z, e⟩ | ⟨z, e⟩ | ⟨z, e⟩ | ⟨z, e⟩ | ⟨z, e⟩ | ⟨z, e⟩ | ⟨z, e⟩ | ⟨z, e⟩ | ⟨z, e⟩ | ⟨z, e⟩ | ⟨z, e⟩ | ⟨z, e⟩ | ⟨z, e⟩ | ⟨z, e⟩ | ⟨z, e⟩ | ⟨z, e⟩ | ⟨z, e⟩ | ⟨z, e⟩ | ⟨z, e⟩ | ⟨z, e⟩
          · exact absurd z (by decide)
          · exact absurd z (by decide)
          · exact absurd z (by decide)
          · exact absurd z (by decide)
          · exact absurd z (by decide)
          · exact absurd z (by decide)
          · exact absurd z (by decide)
          · exact e
          · exact absurd z (by decide)
          · exact absurd z (by decide)
          · exact absurd z (by decide)
          · exact absurd z (by decide)
          · exact absurd z (by decide)
          · exact absurd z (by decide)
          · exact absurd z (by decide)
          · exact absurd z (by decide)
          · exact absurd z (by decide)
          · exact absurd z (by decide)
          · exact absurd z (by decide)
          · exact absurd z (by decide)
          · exact absurd z (by decide)
          · exact absurd z (by decide)
          · exact absurd z (by decide)
          · exact absurd z (by decide)
          · exact absurd z (by decide)
        rw [ef]
        exact ⟨e, fun s a us hl => match us, hl with | [_], _ => .of_eq rfl⟩
      have hi : (if 2 ≤ n then initT [73, 110, 118, 97, 108, 105, 100, 80, 108, 97, 110] ds else none) = some gs := hi
      split at hi
      · rename_i h2
        exact ⟨h2, initT_InvalidPlan ds gs hi⟩
      · cases hi
    · have XT : XB K A_InvalidQuery "ValueError.__new__" [.type "ValueError", .type "Exception", .type "BaseException", .type "object"] := ⟨⟨_, _, _, _, _, _, _, _, _, _, _, _, _, _, _, x_InvalidQuery, bm_InvalidQuery'⟩, qs_InvalidQuery, qt_InvalidQuery, kc_InvalidQuery⟩
      have Fi := fun_mk (st := ini_InvalidQuery) il_InvalidQuery ic_InvalidQuery ik_InvalidQuery
      have ef : ([[112, 97, 114, 116], [112, 111, 115, 105, 116, 105, 111, 110]] : List Tx).map tx = (["part", "position"] : List Str) := by decide +kernel
      have F1 : FnOk P w K mg base CX0 1 i_InvalidQuery (PySem.W.fnOf "__init__" "InvalidQuery.__init__" (defArgs ini_InvalidQuery) (defBody ini_InvalidQuery) (defScope ini_InvalidQuery) .none ikV_InvalidQuery idc_InvalidQuery ipm_InvalidQuery ian_InvalidQuery icd_InvalidQuery ict_InvalidQuery) ("self" :: ([[112, 97, 114, 116], [112, 111, 115, 105, 116, 105, 111, 110]] : List Tx).map tx) (spI A_InvalidQuery (([[112, 97, 114, 116], [112, 111, 115, 105, 116, 105, 111, 110]] : List Tx).map tx)) := by
        rw [ef]
        exact fn_ini (q0 := posI_InvalidQuery 0) (q1 := posI_InvalidQuery 1) (q2 := posI_InvalidQuery 2) (q3 := posI_InvalidQuery 3) (q4 := posI_InvalidQuery 4) (q5 := posI_InvalidQuery 5) PySem.F.excBase_ValueError PySem.F.store_ValueError XT Fi rfl ie_InvalidQuery scI_InvalidQuery rfl (by decide) (fun X hK hM hS => bas_of hK hM hS rfl mq_PairError (by decide) sg_InvalidQuery rd_InvalidQuery vv_InvalidQuery (by decide +kernel)) pu_InvalidQuery sa_InvalidQuery (fun f hf => by
          simp only [List.mem_cons, List.not_mem_nil, or_false] at hf
          rcases hf with rfl | rfl
          · exact ⟨taker_of (xc_InvalidQuery.fd _ (by decide)), rfl, by decide, by decide⟩
          · exact ⟨taker_of (xc_InvalidQuery.fd _ (by decide)), rfl, by decide, by decide⟩)
      refine mk_both (fs := [[112, 97, 114, 116], [112, 111, 115, 105, 116, 105, 111, 110]]) PySem.F.excBase_ValueError e_InvalidQuery XT ii_InvalidQuery it_InvalidQuery F1 (by rw [ef]; exact Fi.binds fun _ _ _ _ _ _ us hl => match us, hl with | [_, _, _], _ => rfl) (fun k hk => ?_) (by decide) mq_InvalidQuery fun ds gs hi => ?_
      · have e : k = (["part", "position"] : List Str) := by
          have hk : (("InvalidQuery" : Str), k) ∈ (("Apart", ["path"]) :: ("InvalidColumns", ["position"]) :: ("InvalidCommand", ["value"]) :: ("InvalidCount", ["value"]) :: ("InvalidName", ["value"]) :: ("InvalidOffer", ["position"]) :: ("InvalidOrder", ["position"]) :: ("InvalidPlan", ["path"]) :: ("InvalidQuery", ["part", "position"]) :: ("InvalidRow", ["position"]) :: ("InvalidRule", ["position"]) :: ("InvalidTable", ["position"]) :: ("InvalidText", ["value"]) :: ("InvalidToken", ["value"]) :: ("InvalidValue", ["value"]) :: ("InvalidVector", ["value"]) :: ("InvalidWrite", ["position"]) :: ("NameTaken", ["value"]) :: ("OutOfOrder", ["path"]) :: ("PairBroken", ["table", "one", "other", "rule"]) :: ("RuleBroken", ["table", "place", "rule"]) :: ("TooMany", ["kind", "limit"]) :: ("UnknownName", ["value"]) :: ("UnknownPlace", ["value"]) :: ("UnknownTable", ["value"]) :: [] : List (Str × List Str)) := hk
          simp only [in_cons, in_nil, or_false, Prod.mk.injEq] at hk
          rcases hk with ⟨z, e⟩ | ⟨z, e⟩ | ⟨z, e⟩ | ⟨z, e⟩ | ⟨z, e⟩ | ⟨z, e⟩ | ⟨z, e⟩ | ⟨z, e⟩ | ⟨z, e⟩ | ⟨z, e⟩ | ⟨z, e⟩ | ⟨z, e⟩ | ⟨z, e⟩ | ⟨z, e⟩ | ⟨z, e⟩ | ⟨z, e⟩ | ⟨z, e⟩ | ⟨z, e⟩ | ⟨z, e⟩ | ⟨z, e⟩ | ⟨z, e⟩ | ⟨z, e⟩ | ⟨z, e⟩ | ⟨z, e⟩ | ⟨z, e⟩
          · exact absurd z (by decide)
          · exact absurd z (by decide)
          · exact absurd z (by decide)
          · exact absurd z (by decide)
          · exact absurd z (by decide)
          · exact absurd z (by decide)
          · exact absurd z (by decide)
          · exact absurd z (by decide)
          · exact e
          · exact absurd z (by decide)
          · exact absurd z (by decide)
          · exact absurd z (by decide)
          · exact absurd z (by decide)
          · exact absurd z (by decide)
          · exact absurd z (by decide)
          · exact absurd z (by decide)
          · exact absurd z (by decide)
          · exact absurd z (by decide)
          · exact absurd z (by decide)
          · exact absurd z (by decide)
          · exact absurd z (by decide)
          · exact absurd z (by decide)
          · exact absurd z (by decide)
          · exact absurd z (by decide)
          · exact absurd z (by decide)
        rw [ef]
        exact ⟨e, fun s a us hl => match us, hl with | [_, _], _ => .of_eq rfl⟩
      have hi : (if 2 ≤ n then initT [73, 110, 118, 97, 108, 105, 100, 81, 117, 101, 114, 121] ds else none) = some gs := hi
      split at hi
      · rename_i h2
        exact ⟨h2, initT_InvalidQuery ds gs hi⟩
      · cases hi
    · have XT : XB K A_InvalidQuestion "ValueError.__new__" [.type "ValueError", .type "Exception", .type "BaseException", .type "object"] := ⟨⟨_, _, _, _, _, _, _, _, _, _, _, _, _, _, _, x_InvalidQuestion, bm_InvalidQuestion'⟩, qs_InvalidQuestion, qt_InvalidQuestion, kc_InvalidQuestion⟩
      have Fi := fun_mk (st := ini_InvalidQuestion) il_InvalidQuestion ic_InvalidQuestion ik_InvalidQuestion
      have ef : ([] : List Tx).map tx = ([] : List Str) := by decide +kernel
      have F1 : FnOk P w K mg base CX0 1 i_InvalidQuestion (PySem.W.fnOf "__init__" "InvalidQuestion.__init__" (defArgs ini_InvalidQuestion) (defBody ini_InvalidQuestion) (defScope ini_InvalidQuestion) .none ikV_InvalidQuestion idc_InvalidQuestion ipm_InvalidQuestion ian_InvalidQuestion icd_InvalidQuestion ict_InvalidQuestion) ("self" :: ([] : List Tx).map tx) (spI A_InvalidQuestion (([] : List Tx).map tx)) := by
        rw [ef]
        exact fn_ini (q0 := posI_InvalidQuestion 0) (q1 := posI_InvalidQuestion 1) (q2 := posI_InvalidQuestion 2) (q3 := posI_InvalidQuestion 3) (q4 := posI_InvalidQuestion 4) (q5 := posI_InvalidQuestion 5) PySem.F.excBase_ValueError PySem.F.store_ValueError XT Fi rfl ie_InvalidQuestion scI_InvalidQuestion rfl (by decide) (fun X hK hM hS => bas_of hK hM hS rfl mq_PairError (by decide) sg_InvalidQuestion rd_InvalidQuestion vv_InvalidQuestion (by decide +kernel)) pu_InvalidQuestion sa_InvalidQuestion (fun f hf => nomatch hf)
      refine mk_both (fs := []) PySem.F.excBase_ValueError e_InvalidQuestion XT ii_InvalidQuestion it_InvalidQuestion F1 (by rw [ef]; exact Fi.binds fun _ _ _ _ _ _ us hl => match us, hl with | [_], _ => rfl) (fun k hk => ?_) (by decide) mq_InvalidQuestion fun ds gs hi => ?_
      · exact absurd (List.mem_map_of_mem (f := Prod.fst) hk) (show _ ∉ T.mkk.map Prod.fst by dsimp only; decide)
      have hi : (if 2 ≤ n then initT [73, 110, 118, 97, 108, 105, 100, 81, 117, 101, 115, 116, 105, 111, 110] ds else none) = some gs := hi
      split at hi
      · rename_i h2
        exact ⟨h2, initT_InvalidQuestion ds gs hi⟩
      · cases hi
    · have XT : XB K A_InvalidRow "ValueError.__new__" [.type "ValueError", .type "Exception", .type "BaseException", .type "object"] := ⟨⟨_, _, _, _, _, _, _, _, _, _, _, _, _, _, _, x_InvalidRow, bm_InvalidRow'⟩, qs_InvalidRow, qt_InvalidRow, kc_InvalidRow⟩
      have Fi := fun_mk (st := ini_InvalidRow) il_InvalidRow ic_InvalidRow ik_InvalidRow
      have ef : ([[112, 111, 115, 105, 116, 105, 111, 110]] : List Tx).map tx = (["position"] : List Str) := by decide +kernel
      have F1 : FnOk P w K mg base CX0 1 i_InvalidRow (PySem.W.fnOf "__init__" "InvalidRow.__init__" (defArgs ini_InvalidRow) (defBody ini_InvalidRow) (defScope ini_InvalidRow) .none ikV_InvalidRow idc_InvalidRow ipm_InvalidRow ian_InvalidRow icd_InvalidRow ict_InvalidRow) ("self" :: ([[112, 111, 115, 105, 116, 105, 111, 110]] : List Tx).map tx) (spI A_InvalidRow (([[112, 111, 115, 105, 116, 105, 111, 110]] : List Tx).map tx)) := by
        rw [ef]
        exact fn_ini (q0 := posI_InvalidRow 0) (q1 := posI_InvalidRow 1) (q2 := posI_InvalidRow 2) (q3 := posI_InvalidRow 3) (q4 := posI_InvalidRow 4) (q5 := posI_InvalidRow 5) PySem.F.excBase_ValueError PySem.F.store_ValueError XT Fi rfl ie_InvalidRow scI_InvalidRow rfl (by decide) (fun X hK hM hS => bas_of hK hM hS rfl mq_PairError (by decide) sg_InvalidRow rd_InvalidRow vv_InvalidRow (by decide +kernel)) pu_InvalidRow sa_InvalidRow (fun f hf => by
          simp only [List.mem_cons, List.not_mem_nil, or_false] at hf
          rcases hf with rfl
          · exact ⟨taker_of (xc_InvalidRow.fd _ (by decide)), rfl, by decide, by decide⟩)
      refine mk_both (fs := [[112, 111, 115, 105, 116, 105, 111, 110]]) PySem.F.excBase_ValueError e_InvalidRow XT ii_InvalidRow it_InvalidRow F1 (by rw [ef]; exact Fi.binds fun _ _ _ _ _ _ us hl => match us, hl with | [_, _], _ => rfl) (fun k hk => ?_) (by decide) mq_InvalidRow fun ds gs hi => ?_
      · have e : k = (["position"] : List Str) := by
          have hk : (("InvalidRow" : Str), k) ∈ (("Apart", ["path"]) :: ("InvalidColumns", ["position"]) :: ("InvalidCommand", ["value"]) :: ("InvalidCount", ["value"]) :: ("InvalidName", ["value"]) :: ("InvalidOffer", ["position"]) :: ("InvalidOrder", ["position"]) :: ("InvalidPlan", ["path"]) :: ("InvalidQuery", ["part", "position"]) :: ("InvalidRow", ["position"]) :: ("InvalidRule", ["position"]) :: ("InvalidTable", ["position"]) :: ("InvalidText", ["value"]) :: ("InvalidToken", ["value"]) :: ("InvalidValue", ["value"]) :: ("InvalidVector", ["value"]) :: ("InvalidWrite", ["position"]) :: ("NameTaken", ["value"]) :: ("OutOfOrder", ["path"]) :: ("PairBroken", ["table", "one", "other", "rule"]) :: ("RuleBroken", ["table", "place", "rule"]) :: ("TooMany", ["kind", "limit"]) :: ("UnknownName", ["value"]) :: ("UnknownPlace", ["value"]) :: ("UnknownTable", ["value"]) :: [] : List (Str × List Str)) := hk
          simp only [in_cons, in_nil, or_false, Prod.mk.injEq] at hk
          rcases hk with ⟨z, e⟩ | ⟨z, e⟩ | ⟨z, e⟩ | ⟨z, e⟩ | ⟨z, e⟩ | ⟨z, e⟩ | ⟨z, e⟩ | ⟨z, e⟩ | ⟨z, e⟩ | ⟨z, e⟩ | ⟨z, e⟩ | ⟨z, e⟩ | ⟨z, e⟩ | ⟨z, e⟩ | ⟨z, e⟩ | ⟨z, e⟩ | ⟨z, e⟩ | ⟨z, e⟩ | ⟨z, e⟩ | ⟨z, e⟩ | ⟨z, e⟩ | ⟨z, e⟩ | ⟨z, e⟩ | ⟨z, e⟩ | ⟨z, e⟩
          · exact absurd z (by decide)
          · exact absurd z (by decide)
          · exact absurd z (by decide)
          · exact absurd z (by decide)
          · exact absurd z (by decide)
          · exact absurd z (by decide)
          · exact absurd z (by decide)
          · exact absurd z (by decide)
          · exact absurd z (by decide)
          · exact e
          · exact absurd z (by decide)
          · exact absurd z (by decide)
          · exact absurd z (by decide)
          · exact absurd z (by decide)
          · exact absurd z (by decide)
          · exact absurd z (by decide)
          · exact absurd z (by decide)
          · exact absurd z (by decide)
          · exact absurd z (by decide)
          · exact absurd z (by decide)
          · exact absurd z (by decide)
          · exact absurd z (by decide)
          · exact absurd z (by decide)
          · exact absurd z (by decide)
          · exact absurd z (by decide)
        rw [ef]
        exact ⟨e, fun s a us hl => match us, hl with | [_], _ => .of_eq rfl⟩
      have hi : (if 2 ≤ n then initT [73, 110, 118, 97, 108, 105, 100, 82, 111, 119] ds else none) = some gs := hi
      split at hi
      · rename_i h2
        exact ⟨h2, initT_InvalidRow ds gs hi⟩
      · cases hi
    · have XT : XB K A_InvalidRule "ValueError.__new__" [.type "ValueError", .type "Exception", .type "BaseException", .type "object"] := ⟨⟨_, _, _, _, _, _, _, _, _, _, _, _, _, _, _, x_InvalidRule, bm_InvalidRule'⟩, qs_InvalidRule, qt_InvalidRule, kc_InvalidRule⟩
      have Fi := fun_mk (st := ini_InvalidRule) il_InvalidRule ic_InvalidRule ik_InvalidRule
      have ef : ([[112, 111, 115, 105, 116, 105, 111, 110]] : List Tx).map tx = (["position"] : List Str) := by decide +kernel
      have F1 : FnOk P w K mg base CX0 1 i_InvalidRule (PySem.W.fnOf "__init__" "InvalidRule.__init__" (defArgs ini_InvalidRule) (defBody ini_InvalidRule) (defScope ini_InvalidRule) .none ikV_InvalidRule idc_InvalidRule ipm_InvalidRule ian_InvalidRule icd_InvalidRule ict_InvalidRule) ("self" :: ([[112, 111, 115, 105, 116, 105, 111, 110]] : List Tx).map tx) (spI A_InvalidRule (([[112, 111, 115, 105, 116, 105, 111, 110]] : List Tx).map tx)) := by
        rw [ef]
        exact fn_ini (q0 := posI_InvalidRule 0) (q1 := posI_InvalidRule 1) (q2 := posI_InvalidRule 2) (q3 := posI_InvalidRule 3) (q4 := posI_InvalidRule 4) (q5 := posI_InvalidRule 5) PySem.F.excBase_ValueError PySem.F.store_ValueError XT Fi rfl ie_InvalidRule scI_InvalidRule rfl (by decide) (fun X hK hM hS => bas_of hK hM hS rfl mq_PairError (by decide) sg_InvalidRule rd_InvalidRule vv_InvalidRule (by decide +kernel)) pu_InvalidRule sa_InvalidRule (fun f hf => by
          simp only [List.mem_cons, List.not_mem_nil, or_false] at hf
          rcases hf with rfl
          · exact ⟨taker_of (xc_InvalidRule.fd _ (by decide)), rfl, by decide, by decide⟩)
      refine mk_both (fs := [[112, 111, 115, 105, 116, 105, 111, 110]]) PySem.F.excBase_ValueError e_InvalidRule XT ii_InvalidRule it_InvalidRule F1 (by rw [ef]; exact Fi.binds fun _ _ _ _ _ _ us hl => match us, hl with | [_, _], _ => rfl) (fun k hk => ?_) (by decide) mq_InvalidRule fun ds gs hi => ?_
      · have e : k = (["position"] : List Str) := by
          have hk : (("InvalidRule" : Str), k) ∈ (("Apart", ["path"]) :: ("InvalidColumns", ["position"]) :: ("InvalidCommand", ["value"]) :: ("InvalidCount", ["value"]) :: ("InvalidName", ["value"]) :: ("InvalidOffer", ["position"]) :: ("InvalidOrder", ["position"]) :: ("InvalidPlan", ["path"]) :: ("InvalidQuery", ["part", "position"]) :: ("InvalidRow", ["position"]) :: ("InvalidRule", ["position"]) :: ("InvalidTable", ["position"]) :: ("InvalidText", ["value"]) :: ("InvalidToken", ["value"]) :: ("InvalidValue", ["value"]) :: ("InvalidVector", ["value"]) :: ("InvalidWrite", ["position"]) :: ("NameTaken", ["value"]) :: ("OutOfOrder", ["path"]) :: ("PairBroken", ["table", "one", "other", "rule"]) :: ("RuleBroken", ["table", "place", "rule"]) :: ("TooMany", ["kind", "limit"]) :: ("UnknownName", ["value"]) :: ("UnknownPlace", ["value"]) :: ("UnknownTable", ["value"]) :: [] : List (Str × List Str)) := hk
          simp only [in_cons, in_nil, or_false, Prod.mk.injEq] at hk
          rcases hk with ⟨z, e⟩ | ⟨z, e⟩ | ⟨z, e⟩ | ⟨z, e⟩ | ⟨z, e⟩ | ⟨z, e⟩ | ⟨z, e⟩ | ⟨z, e⟩ | ⟨z, e⟩ | ⟨z, e⟩ | ⟨z, e⟩ | ⟨z, e⟩ | ⟨z, e⟩ | ⟨z, e⟩ | ⟨z, e⟩ | ⟨z, e⟩ | ⟨z, e⟩ | ⟨z, e⟩ | ⟨z, e⟩ | ⟨z, e⟩ | ⟨z, e⟩ | ⟨z, e⟩ | ⟨z, e⟩ | ⟨z, e⟩ | ⟨z, e⟩
          · exact absurd z (by decide)
          · exact absurd z (by decide)
          · exact absurd z (by decide)
          · exact absurd z (by decide)
          · exact absurd z (by decide)
          · exact absurd z (by decide)
          · exact absurd z (by decide)
          · exact absurd z (by decide)
          · exact absurd z (by decide)
          · exact absurd z (by decide)
          · exact e
          · exact absurd z (by decide)
          · exact absurd z (by decide)
          · exact absurd z (by decide)
          · exact absurd z (by decide)
          · exact absurd z (by decide)
          · exact absurd z (by decide)
          · exact absurd z (by decide)
          · exact absurd z (by decide)
          · exact absurd z (by decide)
          · exact absurd z (by decide)
          · exact absurd z (by decide)
          · exact absurd z (by decide)
          · exact absurd z (by decide)
          · exact absurd z (by decide)
        rw [ef]
        exact ⟨e, fun s a us hl => match us, hl with | [_], _ => .of_eq rfl⟩
      have hi : (if 2 ≤ n then initT [73, 110, 118, 97, 108, 105, 100, 82, 117, 108, 101] ds else none) = some gs := hi
      split at hi
      · rename_i h2
        exact ⟨h2, initT_InvalidRule ds gs hi⟩
      · cases hi
    · have XT : XB K A_InvalidTable "ValueError.__new__" [.type "ValueError", .type "Exception", .type "BaseException", .type "object"] := ⟨⟨_, _, _, _, _, _, _, _, _, _, _, _, _, _, _, x_InvalidTable, bm_InvalidTable'⟩, qs_InvalidTable, qt_InvalidTable, kc_InvalidTable⟩
      have Fi := fun_mk (st := ini_InvalidTable) il_InvalidTable ic_InvalidTable ik_InvalidTable
      have ef : ([[112, 111, 115, 105, 116, 105, 111, 110]] : List Tx).map tx = (["position"] : List Str) := by decide +kernel
      have F1 : FnOk P w K mg base CX0 1 i_InvalidTable (PySem.W.fnOf "__init__" "InvalidTable.__init__" (defArgs ini_InvalidTable) (defBody ini_InvalidTable) (defScope ini_InvalidTable) .none ikV_InvalidTable idc_InvalidTable ipm_InvalidTable ian_InvalidTable icd_InvalidTable ict_InvalidTable) ("self" :: ([[112, 111, 115, 105, 116, 105, 111, 110]] : List Tx).map tx) (spI A_InvalidTable (([[112, 111, 115, 105, 116, 105, 111, 110]] : List Tx).map tx)) := by
        rw [ef]
        exact fn_ini (q0 := posI_InvalidTable 0) (q1 := posI_InvalidTable 1) (q2 := posI_InvalidTable 2) (q3 := posI_InvalidTable 3) (q4 := posI_InvalidTable 4) (q5 := posI_InvalidTable 5) PySem.F.excBase_ValueError PySem.F.store_ValueError XT Fi rfl ie_InvalidTable scI_InvalidTable rfl (by decide) (fun X hK hM hS => bas_of hK hM hS rfl mq_PairError (by decide) sg_InvalidTable rd_InvalidTable vv_InvalidTable (by decide +kernel)) pu_InvalidTable sa_InvalidTable (fun f hf => by
          simp only [List.mem_cons, List.not_mem_nil, or_false] at hf
          rcases hf with rfl
          · exact ⟨taker_of (xc_InvalidTable.fd _ (by decide)), rfl, by decide, by decide⟩)
      refine mk_both (fs := [[112, 111, 115, 105, 116, 105, 111, 110]]) PySem.F.excBase_ValueError e_InvalidTable XT ii_InvalidTable it_InvalidTable F1 (by rw [ef]; exact Fi.binds fun _ _ _ _ _ _ us hl => match us, hl with | [_, _], _ => rfl) (fun k hk => ?_) (by decide) mq_InvalidTable fun ds gs hi => ?_
      · have e : k = (["position"] : List Str) := by
          have hk : (("InvalidTable" : Str), k) ∈ (("Apart", ["path"]) :: ("InvalidColumns", ["position"]) :: ("InvalidCommand", ["value"]) :: ("InvalidCount", ["value"]) :: ("InvalidName", ["value"]) :: ("InvalidOffer", ["position"]) :: ("InvalidOrder", ["position"]) :: ("InvalidPlan", ["path"]) :: ("InvalidQuery", ["part", "position"]) :: ("InvalidRow", ["position"]) :: ("InvalidRule", ["position"]) :: ("InvalidTable", ["position"]) :: ("InvalidText", ["value"]) :: ("InvalidToken", ["value"]) :: ("InvalidValue", ["value"]) :: ("InvalidVector", ["value"]) :: ("InvalidWrite", ["position"]) :: ("NameTaken", ["value"]) :: ("OutOfOrder", ["path"]) :: ("PairBroken", ["table", "one", "other", "rule"]) :: ("RuleBroken", ["table", "place", "rule"]) :: ("TooMany", ["kind", "limit"]) :: ("UnknownName", ["value"]) :: ("UnknownPlace", ["value"]) :: ("UnknownTable", ["value"]) :: [] : List (Str × List Str)) := hk
          simp only [in_cons, in_nil, or_false, Prod.mk.injEq] at hk
          rcases hk with ⟨z, e⟩ | ⟨z, e⟩ | ⟨z, e⟩ | ⟨z, e⟩ | ⟨z, e⟩ | ⟨z, e⟩ | ⟨z, e⟩ | ⟨z, e⟩ | ⟨z, e⟩ | ⟨z, e⟩ | ⟨z, e⟩ | ⟨z, e⟩ | ⟨z, e⟩ | ⟨z, e⟩ | ⟨z, e⟩ | ⟨z, e⟩ | ⟨z, e⟩ | ⟨z, e⟩ | ⟨z, e⟩ | ⟨z, e⟩ | ⟨z, e⟩ | ⟨z, e⟩ | ⟨z, e⟩ | ⟨z, e⟩ | ⟨z, e⟩
          · exact absurd z (by decide)
          · exact absurd z (by decide)
          · exact absurd z (by decide)
          · exact absurd z (by decide)
          · exact absurd z (by decide)
          · exact absurd z (by decide)
          · exact absurd z (by decide)
          · exact absurd z (by decide)
          · exact absurd z (by decide)
          · exact absurd z (by decide)
          · exact absurd z (by decide)
          · exact e
          · exact absurd z (by decide)
          · exact absurd z (by decide)
          · exact absurd z (by decide)
          · exact absurd z (by decide)
          · exact absurd z (by decide)
          · exact absurd z (by decide)
          · exact absurd z (by decide)
          · exact absurd z (by decide)
          · exact absurd z (by decide)
          · exact absurd z (by decide)
          · exact absurd z (by decide)
          · exact absurd z (by decide)
          · exact absurd z (by decide)
        rw [ef]
        exact ⟨e, fun s a us hl => match us, hl with | [_], _ => .of_eq rfl⟩
      have hi : (if 2 ≤ n then initT [73, 110, 118, 97, 108, 105, 100, 84, 97, 98, 108, 101] ds else none) = some gs := hi
      split at hi
      · rename_i h2
        exact ⟨h2, initT_InvalidTable ds gs hi⟩
      · cases hi
    · have XT : XB K A_InvalidText "ValueError.__new__" [.type "ValueError", .type "Exception", .type "BaseException", .type "object"] := ⟨⟨_, _, _, _, _, _, _, _, _, _, _, _, _, _, _, x_InvalidText, bm_InvalidText'⟩, qs_InvalidText, qt_InvalidText, kc_InvalidText⟩
      have Fi := fun_mk (st := ini_InvalidText) il_InvalidText ic_InvalidText ik_InvalidText
      have ef : ([[118, 97, 108, 117, 101]] : List Tx).map tx = (["value"] : List Str) := by decide +kernel
      have F1 : FnOk P w K mg base CX0 1 i_InvalidText (PySem.W.fnOf "__init__" "InvalidText.__init__" (defArgs ini_InvalidText) (defBody ini_InvalidText) (defScope ini_InvalidText) .none ikV_InvalidText idc_InvalidText ipm_InvalidText ian_InvalidText icd_InvalidText ict_InvalidText) ("self" :: ([[118, 97, 108, 117, 101]] : List Tx).map tx) (spI A_InvalidText (([[118, 97, 108, 117, 101]] : List Tx).map tx)) := by
        rw [ef]
        exact fn_ini (q0 := posI_InvalidText 0) (q1 := posI_InvalidText 1) (q2 := posI_InvalidText 2) (q3 := posI_InvalidText 3) (q4 := posI_InvalidText 4) (q5 := posI_InvalidText 5) PySem.F.excBase_ValueError PySem.F.store_ValueError XT Fi rfl ie_InvalidText scI_InvalidText rfl (by decide) (fun X hK hM hS => bas_of hK hM hS rfl mq_PairError (by decide) sg_InvalidText rd_InvalidText vv_InvalidText (by decide +kernel)) pu_InvalidText sa_InvalidText (fun f hf => by
          simp only [List.mem_cons, List.not_mem_nil, or_false] at hf
          rcases hf with rfl
          · exact ⟨taker_of (xc_InvalidText.fd _ (by decide)), rfl, by decide, by decide⟩)
      refine mk_both (fs := [[118, 97, 108, 117, 101]]) PySem.F.excBase_ValueError e_InvalidText XT ii_InvalidText it_InvalidText F1 (by rw [ef]; exact Fi.binds fun _ _ _ _ _ _ us hl => match us, hl with | [_, _], _ => rfl) (fun k hk => ?_) (by decide) mq_InvalidText fun ds gs hi => ?_
      · have e : k = (["value"] : List Str) := by
          have hk : (("InvalidText" : Str), k) ∈ (("Apart", ["path"]) :: ("InvalidColumns", ["position"]) :: ("InvalidCommand", ["value"]) :: ("InvalidCount", ["value"]) :: ("InvalidName", ["value"]) :: ("InvalidOffer", ["position"]) :: ("InvalidOrder", ["position"]) :: ("InvalidPlan", ["path"]) :: ("InvalidQuery", ["part", "position"]) :: ("InvalidRow", ["position"]) :: ("InvalidRule", ["position"]) :: ("InvalidTable", ["position"]) :: ("InvalidText", ["value"]) :: ("InvalidToken", ["value"]) :: ("InvalidValue", ["value"]) :: ("InvalidVector", ["value"]) :: ("InvalidWrite", ["position"]) :: ("NameTaken", ["value"]) :: ("OutOfOrder", ["path"]) :: ("PairBroken", ["table", "one", "other", "rule"]) :: ("RuleBroken", ["table", "place", "rule"]) :: ("TooMany", ["kind", "limit"]) :: ("UnknownName", ["value"]) :: ("UnknownPlace", ["value"]) :: ("UnknownTable", ["value"]) :: [] : List (Str × List Str)) := hk
          simp only [in_cons, in_nil, or_false, Prod.mk.injEq] at hk
          rcases hk with ⟨z, e⟩ | ⟨z, e⟩ | ⟨z, e⟩ | ⟨z, e⟩ | ⟨z, e⟩ | ⟨z, e⟩ | ⟨z, e⟩ | ⟨z, e⟩ | ⟨z, e⟩ | ⟨z, e⟩ | ⟨z, e⟩ | ⟨z, e⟩ | ⟨z, e⟩ | ⟨z, e⟩ | ⟨z, e⟩ | ⟨z, e⟩ | ⟨z, e⟩ | ⟨z, e⟩ | ⟨z, e⟩ | ⟨z, e⟩ | ⟨z, e⟩ | ⟨z, e⟩ | ⟨z, e⟩ | ⟨z, e⟩ | ⟨z, e⟩
          · exact absurd z (by decide)
          · exact absurd z (by decide)
          · exact absurd z (by decide)
          · exact absurd z (by decide)
          · exact absurd z (by decide)
          · exact absurd z (by decide)
          · exact absurd z (by decide)
          · exact absurd z (by decide)
          · exact absurd z (by decide)
          · exact absurd z (by decide)
          · exact absurd z (by decide)
          · exact absurd z (by decide)
          · exact e
          · exact absurd z (by decide)
          · exact absurd z (by decide)
          · exact absurd z (by decide)
          · exact absurd z (by decide)
          · exact absurd z (by decide)
          · exact absurd z (by decide)
          · exact absurd z (by decide)
          · exact absurd z (by decide)
          · exact absurd z (by decide)
          · exact absurd z (by decide)
          · exact absurd z (by decide)
          · exact absurd z (by decide)
        rw [ef]
        exact ⟨e, fun s a us hl => match us, hl with | [_], _ => .of_eq rfl⟩
      have hi : (if 2 ≤ n then initT [73, 110, 118, 97, 108, 105, 100, 84, 101, 120, 116] ds else none) = some gs := hi
      split at hi
      · rename_i h2
        exact ⟨h2, initT_InvalidText ds gs hi⟩
      · cases hi
    · have XT : XB K A_InvalidToken "ValueError.__new__" [.type "ValueError", .type "Exception", .type "BaseException", .type "object"] := ⟨⟨_, _, _, _, _, _, _, _, _, _, _, _, _, _, _, x_InvalidToken, bm_InvalidToken'⟩, qs_InvalidToken, qt_InvalidToken, kc_InvalidToken⟩
      have Fi := fun_mk (st := ini_InvalidToken) il_InvalidToken ic_InvalidToken ik_InvalidToken
      have ef : ([[118, 97, 108, 117, 101]] : List Tx).map tx = (["value"] : List Str) := by decide +kernel
      have F1 : FnOk P w K mg base CX0 1 i_InvalidToken (PySem.W.fnOf "__init__" "InvalidToken.__init__" (defArgs ini_InvalidToken) (defBody ini_InvalidToken) (defScope ini_InvalidToken) .none ikV_InvalidToken idc_InvalidToken ipm_InvalidToken ian_InvalidToken icd_InvalidToken ict_InvalidToken) ("self" :: ([[118, 97, 108, 117, 101]] : List Tx).map tx) (spI A_InvalidToken (([[118, 97, 108, 117, 101]] : List Tx).map tx)) := by
        rw [ef]
        exact fn_ini (q0 := posI_InvalidToken 0) (q1 := posI_InvalidToken 1) (q2 := posI_InvalidToken 2) (q3 := posI_InvalidToken 3) (q4 := posI_InvalidToken 4) (q5 := posI_InvalidToken 5) PySem.F.excBase_ValueError PySem.F.store_ValueError XT Fi rfl ie_InvalidToken scI_InvalidToken rfl (by decide) (fun X hK hM hS => bas_of hK hM hS rfl mq_PairError (by decide) sg_InvalidToken rd_InvalidToken vv_InvalidToken (by decide +kernel)) pu_InvalidToken sa_InvalidToken (fun f hf => by
          simp only [List.mem_cons, List.not_mem_nil, or_false] at hf
          rcases hf with rfl
          · exact ⟨taker_of (xc_InvalidToken.fd _ (by decide)), rfl, by decide, by decide⟩)
      refine mk_both (fs := [[118, 97, 108, 117, 101]]) PySem.F.excBase_ValueError e_InvalidToken XT ii_InvalidToken it_InvalidToken F1 (by rw [ef]; exact Fi.binds fun _ _ _ _ _ _ us hl => match us, hl with | [_, _], _ => rfl) (fun k hk => ?_) (by decide) mq_InvalidToken fun ds gs hi => ?_
      · have e : k = (["value"] : List Str) := by
          have hk : (("InvalidToken" : Str), k) ∈ (("Apart", ["path"]) :: ("InvalidColumns", ["position"]) :: ("InvalidCommand", ["value"]) :: ("InvalidCount", ["value"]) :: ("InvalidName", ["value"]) :: ("InvalidOffer", ["position"]) :: ("InvalidOrder", ["position"]) :: ("InvalidPlan", ["path"]) :: ("InvalidQuery", ["part", "position"]) :: ("InvalidRow", ["position"]) :: ("InvalidRule", ["position"]) :: ("InvalidTable", ["position"]) :: ("InvalidText", ["value"]) :: ("InvalidToken", ["value"]) :: ("InvalidValue", ["value"]) :: ("InvalidVector", ["value"]) :: ("InvalidWrite", ["position"]) :: ("NameTaken", ["value"]) :: ("OutOfOrder", ["path"]) :: ("PairBroken", ["table", "one", "other", "rule"]) :: ("RuleBroken", ["table", "place", "rule"]) :: ("TooMany", ["kind", "limit"]) :: ("UnknownName", ["value"]) :: ("UnknownPlace", ["value"]) :: ("UnknownTable", ["value"]) :: [] : List (Str × List Str)) := hk
          simp only [in_cons, in_nil, or_false, Prod.mk.injEq] at hk
          rcases hk with ⟨z, e⟩ | ⟨z, e⟩ | ⟨z, e⟩ | ⟨z, e⟩ | ⟨z, e⟩ | ⟨z, e⟩ | ⟨z, e⟩ | ⟨z, e⟩ | ⟨z, e⟩ | ⟨z, e⟩ | ⟨z, e⟩ | ⟨z, e⟩ | ⟨z, e⟩ | ⟨z, e⟩ | ⟨z, e⟩ | ⟨z, e⟩ | ⟨z, e⟩ | ⟨z, e⟩ | ⟨z, e⟩ | ⟨z, e⟩ | ⟨z, e⟩ | ⟨z, e⟩ | ⟨z, e⟩ | ⟨z, e⟩ | ⟨z, e⟩
          · exact absurd z (by decide)
          · exact absurd z (by decide)
          · exact absurd z (by decide)
          · exact absurd z (by decide)
          · exact absurd z (by decide)
          · exact absurd z (by decide)
          · exact absurd z (by decide)
          · exact absurd z (by decide)
          · exact absurd z (by decide)
          · exact absurd z (by decide)
          · exact absurd z (by decide)
          · exact absurd z (by decide)
          · exact absurd z (by decide)
          · exact e
          · exact absurd z (by decide)
          · exact absurd z (by decide)
          · exact absurd z (by decide)
          · exact absurd z (by decide)
          · exact absurd z (by decide)
          · exact absurd z (by decide)
          · exact absurd z (by decide)
          · exact absurd z (by decide)
          · exact absurd z (by decide)
          · exact absurd z (by decide)
          · exact absurd z (by decide)
        rw [ef]
        exact ⟨e, fun s a us hl => match us, hl with | [_], _ => .of_eq rfl⟩
      have hi : (if 2 ≤ n then initT [73, 110, 118, 97, 108, 105, 100, 84, 111, 107, 101, 110] ds else none) = some gs := hi
      split at hi
      · rename_i h2
        exact ⟨h2, initT_InvalidToken ds gs hi⟩
      · cases hi
    · have XT : XB K A_InvalidValue "ValueError.__new__" [.type "ValueError", .type "Exception", .type "BaseException", .type "object"] := ⟨⟨_, _, _, _, _, _, _, _, _, _, _, _, _, _, _, x_InvalidValue, bm_InvalidValue'⟩, qs_InvalidValue, qt_InvalidValue, kc_InvalidValue⟩
      have Fi := fun_mk (st := ini_InvalidValue) il_InvalidValue ic_InvalidValue ik_InvalidValue
      have ef : ([[118, 97, 108, 117, 101]] : List Tx).map tx = (["value"] : List Str) := by decide +kernel
      have F1 : FnOk P w K mg base CX0 1 i_InvalidValue (PySem.W.fnOf "__init__" "InvalidValue.__init__" (defArgs ini_InvalidValue) (defBody ini_InvalidValue) (defScope ini_InvalidValue) .none ikV_InvalidValue idc_InvalidValue ipm_InvalidValue ian_InvalidValue icd_InvalidValue ict_InvalidValue) ("self" :: ([[118, 97, 108, 117, 101]] : List Tx).map tx) (spI A_InvalidValue (([[118, 97, 108, 117, 101]] : List Tx).map tx)) := by
        rw [ef]
        exact fn_ini (q0 := posI_InvalidValue 0) (q1 := posI_InvalidValue 1) (q2 := posI_InvalidValue 2) (q3 := posI_InvalidValue 3) (q4 := posI_InvalidValue 4) (q5 := posI_InvalidValue 5) PySem.F.excBase_ValueError PySem.F.store_ValueError XT Fi rfl ie_InvalidValue scI_InvalidValue rfl (by decide) (fun X hK hM hS => bas_of hK hM hS rfl mq_PairError (by decide) sg_InvalidValue rd_InvalidValue vv_InvalidValue (by decide +kernel)) pu_InvalidValue sa_InvalidValue (fun f hf => by
          simp only [List.mem_cons, List.not_mem_nil, or_false] at hf
          rcases hf with rfl
          · exact ⟨taker_of (xc_InvalidValue.fd _ (by decide)), rfl, by decide, by decide⟩)
      refine mk_both (fs := [[118, 97, 108, 117, 101]]) PySem.F.excBase_ValueError e_InvalidValue XT ii_InvalidValue it_InvalidValue F1 (by rw [ef]; exact Fi.binds fun _ _ _ _ _ _ us hl => match us, hl with | [_, _], _ => rfl) (fun k hk => ?_) (by decide) mq_InvalidValue fun ds gs hi => ?_
      · have e : k = (["value"] : List Str) := by
          have hk : (("InvalidValue" : Str), k) ∈ (("Apart", ["path"]) :: ("InvalidColumns", ["position"]) :: ("InvalidCommand", ["value"]) :: ("InvalidCount", ["value"]) :: ("InvalidName", ["value"]) :: ("InvalidOffer", ["position"]) :: ("InvalidOrder", ["position"]) :: ("InvalidPlan", ["path"]) :: ("InvalidQuery", ["part", "position"]) :: ("InvalidRow", ["position"]) :: ("InvalidRule", ["position"]) :: ("InvalidTable", ["position"]) :: ("InvalidText", ["value"]) :: ("InvalidToken", ["value"]) :: ("InvalidValue", ["value"]) :: ("InvalidVector", ["value"]) :: ("InvalidWrite", ["position"]) :: ("NameTaken", ["value"]) :: ("OutOfOrder", ["path"]) :: ("PairBroken", ["table", "one", "other", "rule"]) :: ("RuleBroken", ["table", "place", "rule"]) :: ("TooMany", ["kind", "limit"]) :: ("UnknownName", ["value"]) :: ("UnknownPlace", ["value"]) :: ("UnknownTable", ["value"]) :: [] : List (Str × List Str)) := hk
          simp only [in_cons, in_nil, or_false, Prod.mk.injEq] at hk
          rcases hk with ⟨z, e⟩ | ⟨z, e⟩ | ⟨z, e⟩ | ⟨z, e⟩ | ⟨z, e⟩ | ⟨z, e⟩ | ⟨z, e⟩ | ⟨z, e⟩ | ⟨z, e⟩ | ⟨z, e⟩ | ⟨z, e⟩ | ⟨z, e⟩ | ⟨z, e⟩ | ⟨z, e⟩ | ⟨z, e⟩ | ⟨z, e⟩ | ⟨z, e⟩ | ⟨z, e⟩ | ⟨z, e⟩ | ⟨z, e⟩ | ⟨z, e⟩ | ⟨z, e⟩ | ⟨z, e⟩ | ⟨z, e⟩ | ⟨z, e⟩
          · exact absurd z (by decide)
          · exact absurd z (by decide)
          · exact absurd z (by decide)
          · exact absurd z (by decide)
          · exact absurd z (by decide)
          · exact absurd z (by decide)
          · exact absurd z (by decide)
          · exact absurd z (by decide)
          · exact absurd z (by decide)
          · exact absurd z (by decide)
          · exact absurd z (by decide)
          · exact absurd z (by decide)
          · exact absurd z (by decide)
          · exact absurd z (by decide)
          · exact e
          · exact absurd z (by decide)
          · exact absurd z (by decide)
          · exact absurd z (by decide)
          · exact absurd z (by decide)
          · exact absurd z (by decide)
          · exact absurd z (by decide)
          · exact absurd z (by decide)
          · exact absurd z (by decide)
          · exact absurd z (by decide)
          · exact absurd z (by decide)
        rw [ef]
        exact ⟨e, fun s a us hl => match us, hl with | [_], _ => .of_eq rfl⟩
      have hi : (if 2 ≤ n then initT [73, 110, 118, 97, 108, 105, 100, 86, 97, 108, 117, 101] ds else none) = some gs := hi
      split at hi
      · rename_i h2
        exact ⟨h2, initT_InvalidValue ds gs hi⟩
      · cases hi
    · have XT : XB K A_InvalidVector "ValueError.__new__" [.type "ValueError", .type "Exception", .type "BaseException", .type "object"] := ⟨⟨_, _, _, _, _, _, _, _, _, _, _, _, _, _, _, x_InvalidVector, bm_InvalidVector'⟩, qs_InvalidVector, qt_InvalidVector, kc_InvalidVector⟩
      have Fi := fun_mk (st := ini_InvalidVector) il_InvalidVector ic_InvalidVector ik_InvalidVector
      have ef : ([[118, 97, 108, 117, 101]] : List Tx).map tx = (["value"] : List Str) := by decide +kernel
      have F1 : FnOk P w K mg base CX0 1 i_InvalidVector (PySem.W.fnOf "__init__" "InvalidVector.__init__" (defArgs ini_InvalidVector) (defBody ini_InvalidVector) (defScope ini_InvalidVector) .none ikV_InvalidVector idc_InvalidVector ipm_InvalidVector ian_InvalidVector icd_InvalidVector ict_InvalidVector) ("self" :: ([[118, 97, 108, 117, 101]] : List Tx).map tx) (spI A_InvalidVector (([[118, 97, 108, 117, 101]] : List Tx).map tx)) := by
        rw [ef]
        exact fn_ini (q0 := posI_InvalidVector 0) (q1 := posI_InvalidVector 1) (q2 := posI_InvalidVector 2) (q3 := posI_InvalidVector 3) (q4 := posI_InvalidVector 4) (q5 := posI_InvalidVector 5) PySem.F.excBase_ValueError PySem.F.store_ValueError XT Fi rfl ie_InvalidVector scI_InvalidVector rfl (by decide) (fun X hK hM hS => bas_of hK hM hS rfl mq_PairError (by decide) sg_InvalidVector rd_InvalidVector vv_InvalidVector (by decide +kernel)) pu_InvalidVector sa_InvalidVector (fun f hf => by
          simp only [List.mem_cons, List.not_mem_nil, or_false] at hf
          rcases hf with rfl
          · exact ⟨taker_of (xc_InvalidVector.fd _ (by decide)), rfl, by decide, by decide⟩)
      refine mk_both (fs := [[118, 97, 108, 117, 101]]) PySem.F.excBase_ValueError e_InvalidVector XT ii_InvalidVector it_InvalidVector F1 (by rw [ef]; exact Fi.binds fun _ _ _ _ _ _ us hl => match us, hl with | [_, _], _ => rfl) (fun k hk => ?_) (by decide) mq_InvalidVector fun ds gs hi => ?_
      · have e : k = (["value"] : List Str) := by
          have hk : (("InvalidVector" : Str), k) ∈ (("Apart", ["path"]) :: ("InvalidColumns", ["position"]) :: ("InvalidCommand", ["value"]) :: ("InvalidCount", ["value"]) :: ("InvalidName", ["value"]) :: ("InvalidOffer", ["position"]) :: ("InvalidOrder", ["position"]) :: ("InvalidPlan", ["path"]) :: ("InvalidQuery", ["part", "position"]) :: ("InvalidRow", ["position"]) :: ("InvalidRule", ["position"]) :: ("InvalidTable", ["position"]) :: ("InvalidText", ["value"]) :: ("InvalidToken", ["value"]) :: ("InvalidValue", ["value"]) :: ("InvalidVector", ["value"]) :: ("InvalidWrite", ["position"]) :: ("NameTaken", ["value"]) :: ("OutOfOrder", ["path"]) :: ("PairBroken", ["table", "one", "other", "rule"]) :: ("RuleBroken", ["table", "place", "rule"]) :: ("TooMany", ["kind", "limit"]) :: ("UnknownName", ["value"]) :: ("UnknownPlace", ["value"]) :: ("UnknownTable", ["value"]) :: [] : List (Str × List Str)) := hk
          simp only [in_cons, in_nil, or_false, Prod.mk.injEq] at hk
          rcases hk with ⟨z, e⟩ | ⟨z, e⟩ | ⟨z, e⟩ | ⟨z, e⟩ | ⟨z, e⟩ | ⟨z, e⟩ | ⟨z, e⟩ | ⟨z, e⟩ | ⟨z, e⟩ | ⟨z, e⟩ | ⟨z, e⟩ | ⟨z, e⟩ | ⟨z, e⟩ | ⟨z, e⟩ | ⟨z, e⟩ | ⟨z, e⟩ | ⟨z, e⟩ | ⟨z, e⟩ | ⟨z, e⟩ | ⟨z, e⟩ | ⟨z, e⟩ | ⟨z, e⟩ | ⟨z, e⟩ | ⟨z, e⟩ | ⟨z, e⟩
          · exact absurd z (by decide)
          · exact absurd z (by decide)
          · exact absurd z (by decide)
          · exact absurd z (by decide)
          · exact absurd z (by decide)
          · exact absurd z (by decide)
          · exact absurd z (by decide)
          · exact absurd z (by decide)
          · exact absurd z (by decide)
          · exact absurd z (by decide)
          · exact absurd z (by decide)
          · exact absurd z (by decide)
          · exact absurd z (by decide)
          · exact absurd z (by decide)
          · exact absurd z (by decide)
          · exact e
          · exact absurd z (by decide)
          · exact absurd z (by decide)
          · exact absurd z (by decide)
          · exact absurd z (by decide)
          · exact absurd z (by decide)
          · exact absurd z (by decide)
          · exact absurd z (by decide)
          · exact absurd z (by decide)
          · exact absurd z (by decide)
        rw [ef]
        exact ⟨e, fun s a us hl => match us, hl with | [_], _ => .of_eq rfl⟩
      have hi : (if 2 ≤ n then initT [73, 110, 118, 97, 108, 105, 100, 86, 101, 99, 116, 111, 114] ds else none) = some gs := hi
      split at hi
      · rename_i h2
        exact ⟨h2, initT_InvalidVector ds gs hi⟩
      · cases hi
    · have XT : XB K A_InvalidWrite "ValueError.__new__" [.type "ValueError", .type "Exception", .type "BaseException", .type "object"] := ⟨⟨_, _, _, _, _, _, _, _, _, _, _, _, _, _, _, x_InvalidWrite, bm_InvalidWrite'⟩, qs_InvalidWrite, qt_InvalidWrite, kc_InvalidWrite⟩
      have Fi := fun_mk (st := ini_InvalidWrite) il_InvalidWrite ic_InvalidWrite ik_InvalidWrite
      have ef : ([[112, 111, 115, 105, 116, 105, 111, 110]] : List Tx).map tx = (["position"] : List Str) := by decide +kernel
      have F1 : FnOk P w K mg base CX0 1 i_InvalidWrite (PySem.W.fnOf "__init__" "InvalidWrite.__init__" (defArgs ini_InvalidWrite) (defBody ini_InvalidWrite) (defScope ini_InvalidWrite) .none ikV_InvalidWrite idc_InvalidWrite ipm_InvalidWrite ian_InvalidWrite icd_InvalidWrite ict_InvalidWrite) ("self" :: ([[112, 111, 115, 105, 116, 105, 111, 110]] : List Tx).map tx) (spI A_InvalidWrite (([[112, 111, 115, 105, 116, 105, 111, 110]] : List Tx).map tx)) := by
        rw [ef]
        exact fn_ini (q0 := posI_InvalidWrite 0) (q1 := posI_InvalidWrite 1) (q2 := posI_InvalidWrite 2) (q3 := posI_InvalidWrite 3) (q4 := posI_InvalidWrite 4) (q5 := posI_InvalidWrite 5) PySem.F.excBase_ValueError PySem.F.store_ValueError XT Fi rfl ie_InvalidWrite scI_InvalidWrite rfl (by decide) (fun X hK hM hS => bas_of hK hM hS rfl mq_PairError (by decide) sg_InvalidWrite rd_InvalidWrite vv_InvalidWrite (by decide +kernel)) pu_InvalidWrite sa_InvalidWrite (fun f hf => by
          simp only [List.mem_cons, List.not_mem_nil, or_false] at hf
          rcases hf with rfl
          · exact ⟨taker_of (xc_InvalidWrite.fd _ (by decide)), rfl, by decide, by decide⟩)
      refine mk_both (fs := [[112, 111, 115, 105, 116, 105, 111, 110]]) PySem.F.excBase_ValueError e_InvalidWrite XT ii_InvalidWrite it_InvalidWrite F1 (by rw [ef]; exact Fi.binds fun _ _ _ _ _ _ us hl => match us, hl with | [_, _], _ => rfl) (fun k hk => ?_) (by decide) mq_InvalidWrite fun ds gs hi => ?_
      · have e : k = (["position"] : List Str) := by
          have hk : (("InvalidWrite" : Str), k) ∈ (("Apart", ["path"]) :: ("InvalidColumns", ["position"]) :: ("InvalidCommand", ["value"]) :: ("InvalidCount", ["value"]) :: ("InvalidName", ["value"]) :: ("InvalidOffer", ["position"]) :: ("InvalidOrder", ["position"]) :: ("InvalidPlan", ["path"]) :: ("InvalidQuery", ["part", "position"]) :: ("InvalidRow", ["position"]) :: ("InvalidRule", ["position"]) :: ("InvalidTable", ["position"]) :: ("InvalidText", ["value"]) :: ("InvalidToken", ["value"]) :: ("InvalidValue", ["value"]) :: ("InvalidVector", ["value"]) :: ("InvalidWrite", ["position"]) :: ("NameTaken", ["value"]) :: ("OutOfOrder", ["path"]) :: ("PairBroken", ["table", "one", "other", "rule"]) :: ("RuleBroken", ["table", "place", "rule"]) :: ("TooMany", ["kind", "limit"]) :: ("UnknownName", ["value"]) :: ("UnknownPlace", ["value"]) :: ("UnknownTable", ["value"]) :: [] : List (Str × List Str)) := hk
          simp only [in_cons, in_nil, or_false, Prod.mk.injEq] at hk
          rcases hk with ⟨z, e⟩ | ⟨z, e⟩ | ⟨z, e⟩ | ⟨z, e⟩ | ⟨z, e⟩ | ⟨z, e⟩ | ⟨z, e⟩ | ⟨z, e⟩ | ⟨z, e⟩ | ⟨z, e⟩ | ⟨z, e⟩ | ⟨z, e⟩ | ⟨z, e⟩ | ⟨z, e⟩ | ⟨z, e⟩ | ⟨z, e⟩ | ⟨z, e⟩ | ⟨z, e⟩ | ⟨z, e⟩ | ⟨z, e⟩ | ⟨z, e⟩ | ⟨z, e⟩ | ⟨z, e⟩ | ⟨z, e⟩ | ⟨z, e⟩
          · exact absurd z (by decide)
          · exact absurd z (by decide)
          · exact absurd z (by decide)
          · exact absurd z (by decide)
          · exact absurd z (by decide)
          · exact absurd z (by decide)
          · exact absurd z (by decide)
          · exact absurd z (by decide)
          · exact absurd z (by decide)
          · exact absurd z (by decide)
          · exact absurd z (by decide)
          · exact absurd z (by decide)
          · exact absurd z (by decide)
          · exact absurd z (by decide)
          · exact absurd z (by decide)
          · exact absurd z (by decide)
          · exact e
          · exact absurd z (by decide)
          · exact absurd z (by decide)
          · exact absurd z (by decide)
          · exact absurd z (by decide)
          · exact absurd z (by decide)
          · exact absurd z (by decide)
          · exact absurd z (by decide)
          · exact absurd z (by decide)
        rw [ef]
        exact ⟨e, fun s a us hl => match us, hl with | [_], _ => .of_eq rfl⟩
      have hi : (if 2 ≤ n then initT [73, 110, 118, 97, 108, 105, 100, 87, 114, 105, 116, 101] ds else none) = some gs := hi
      split at hi
      · rename_i h2
        exact ⟨h2, initT_InvalidWrite ds gs hi⟩
      · cases hi
    · have XT : XB K A_NameTaken "RuntimeError.__new__" [.type "RuntimeError", .type "Exception", .type "BaseException", .type "object"] := ⟨⟨_, _, _, _, _, _, _, _, _, _, _, _, _, _, _, x_NameTaken, bm_NameTaken'⟩, qs_NameTaken, qt_NameTaken, kc_NameTaken⟩
      have Fi := fun_mk (st := ini_NameTaken) il_NameTaken ic_NameTaken ik_NameTaken
      have ef : ([[118, 97, 108, 117, 101]] : List Tx).map tx = (["value"] : List Str) := by decide +kernel
      have F1 : FnOk P w K mg base CX0 1 i_NameTaken (PySem.W.fnOf "__init__" "NameTaken.__init__" (defArgs ini_NameTaken) (defBody ini_NameTaken) (defScope ini_NameTaken) .none ikV_NameTaken idc_NameTaken ipm_NameTaken ian_NameTaken icd_NameTaken ict_NameTaken) ("self" :: ([[118, 97, 108, 117, 101]] : List Tx).map tx) (spI A_NameTaken (([[118, 97, 108, 117, 101]] : List Tx).map tx)) := by
        rw [ef]
        exact fn_ini (q0 := posI_NameTaken 0) (q1 := posI_NameTaken 1) (q2 := posI_NameTaken 2) (q3 := posI_NameTaken 3) (q4 := posI_NameTaken 4) (q5 := posI_NameTaken 5) PySem.F.excBase_RuntimeError PySem.F.store_RuntimeError XT Fi rfl ie_NameTaken scI_NameTaken rfl (by decide) (fun X' hK hM hS => bas_ofB hK hM hS rfl (PySem.W.mg_none_of X G y_RuntimeError) (by decide +kernel) (by decide) (by decide) (PySem.W.kitMeta_of (by decide +kernel)) (by decide +kernel) vv_NameTaken (by decide +kernel)) pu_NameTaken sa_NameTaken (fun f hf => by
          simp only [List.mem_cons, List.not_mem_nil, or_false] at hf
          rcases hf with rfl
          · exact ⟨taker_of (xc_NameTaken.fd _ (by decide)), rfl, by decide, by decide⟩)
      refine mk_both (fs := [[118, 97, 108, 117, 101]]) PySem.F.excBase_RuntimeError e_NameTaken XT ii_NameTaken it_NameTaken F1 (by rw [ef]; exact Fi.binds fun _ _ _ _ _ _ us hl => match us, hl with | [_, _], _ => rfl) (fun k hk => ?_) (by decide) mq_NameTaken fun ds gs hi => ?_
      · have e : k = (["value"] : List Str) := by
          have hk : (("NameTaken" : Str), k) ∈ (("Apart", ["path"]) :: ("InvalidColumns", ["position"]) :: ("InvalidCommand", ["value"]) :: ("InvalidCount", ["value"]) :: ("InvalidName", ["value"]) :: ("InvalidOffer", ["position"]) :: ("InvalidOrder", ["position"]) :: ("InvalidPlan", ["path"]) :: ("InvalidQuery", ["part", "position"]) :: ("InvalidRow", ["position"]) :: ("InvalidRule", ["position"]) :: ("InvalidTable", ["position"]) :: ("InvalidText", ["value"]) :: ("InvalidToken", ["value"]) :: ("InvalidValue", ["value"]) :: ("InvalidVector", ["value"]) :: ("InvalidWrite", ["position"]) :: ("NameTaken", ["value"]) :: ("OutOfOrder", ["path"]) :: ("PairBroken", ["table", "one", "other", "rule"]) :: ("RuleBroken", ["table", "place", "rule"]) :: ("TooMany", ["kind", "limit"]) :: ("UnknownName", ["value"]) :: ("UnknownPlace", ["value"]) :: ("UnknownTable", ["value"]) :: [] : List (Str × List Str)) := hk
          simp only [in_cons, in_nil, or_false, Prod.mk.injEq] at hk
          rcases hk with ⟨z, e⟩ | ⟨z, e⟩ | ⟨z, e⟩ | ⟨z, e⟩ | ⟨z, e⟩ | ⟨z, e⟩ | ⟨z, e⟩ | ⟨z, e⟩ | ⟨z, e⟩ | ⟨z, e⟩ | ⟨z, e⟩ | ⟨z, e⟩ | ⟨z, e⟩ | ⟨z, e⟩ | ⟨z, e⟩ | ⟨z, e⟩ | ⟨z, e⟩ | ⟨z, e⟩ | ⟨z, e⟩ | ⟨z, e⟩ | ⟨z, e⟩ | ⟨z, e⟩ | ⟨z, e⟩ | ⟨z, e⟩ | ⟨z, e⟩
          · exact absurd z (by decide)
          · exact absurd z (by decide)
          · exact absurd z (by decide)
          · exact absurd z (by decide)
          · exact absurd z (by decide)
          · exact absurd z (by decide)
          · exact absurd z (by decide)
          · exact absurd z (by decide)
          · exact absurd z (by decide)
          · exact absurd z (by decide)
          · exact absurd z (by decide)
          · exact absurd z (by decide)
          · exact absurd z (by decide)
          · exact absurd z (by decide)
          · exact absurd z (by decide)
          · exact absurd z (by decide)
          · exact absurd z (by decide)
          · exact e
          · exact absurd z (by decide)
          · exact absurd z (by decide)
          · exact absurd z (by decide)
          · exact absurd z (by decide)
          · exact absurd z (by decide)
          · exact absurd z (by decide)
          · exact absurd z (by decide)
        rw [ef]
        exact ⟨e, fun s a us hl => match us, hl with | [_], _ => .of_eq rfl⟩
      have hi : (if 2 ≤ n then initT [78, 97, 109, 101, 84, 97, 107, 101, 110] ds else none) = some gs := hi
      split at hi
      · rename_i h2
        exact ⟨h2, initT_NameTaken ds gs hi⟩
      · cases hi
    · have XT : XB K A_NotServing "RuntimeError.__new__" [.type "RuntimeError", .type "Exception", .type "BaseException", .type "object"] := ⟨⟨_, _, _, _, _, _, _, _, _, _, _, _, _, _, _, x_NotServing, bm_NotServing'⟩, qs_NotServing, qt_NotServing, kc_NotServing⟩
      have Fi := fun_mk (st := ini_NotServing) il_NotServing ic_NotServing ik_NotServing
      have ef : ([] : List Tx).map tx = ([] : List Str) := by decide +kernel
      have F1 : FnOk P w K mg base CX0 1 i_NotServing (PySem.W.fnOf "__init__" "NotServing.__init__" (defArgs ini_NotServing) (defBody ini_NotServing) (defScope ini_NotServing) .none ikV_NotServing idc_NotServing ipm_NotServing ian_NotServing icd_NotServing ict_NotServing) ("self" :: ([] : List Tx).map tx) (spI A_NotServing (([] : List Tx).map tx)) := by
        rw [ef]
        exact fn_ini (q0 := posI_NotServing 0) (q1 := posI_NotServing 1) (q2 := posI_NotServing 2) (q3 := posI_NotServing 3) (q4 := posI_NotServing 4) (q5 := posI_NotServing 5) PySem.F.excBase_RuntimeError PySem.F.store_RuntimeError XT Fi rfl ie_NotServing scI_NotServing rfl (by decide) (fun X' hK hM hS => bas_ofB hK hM hS rfl (PySem.W.mg_none_of X G y_RuntimeError) (by decide +kernel) (by decide) (by decide) (PySem.W.kitMeta_of (by decide +kernel)) (by decide +kernel) vv_NotServing (by decide +kernel)) pu_NotServing sa_NotServing (fun f hf => nomatch hf)
      refine mk_both (fs := []) PySem.F.excBase_RuntimeError e_NotServing XT ii_NotServing it_NotServing F1 (by rw [ef]; exact Fi.binds fun _ _ _ _ _ _ us hl => match us, hl with | [_], _ => rfl) (fun k hk => ?_) (by decide) mq_NotServing fun ds gs hi => ?_
      · exact absurd (List.mem_map_of_mem (f := Prod.fst) hk) (show _ ∉ T.mkk.map Prod.fst by dsimp only; decide)
      have hi : (if 2 ≤ n then initT [78, 111, 116, 83, 101, 114, 118, 105, 110, 103] ds else none) = some gs := hi
      split at hi
      · rename_i h2
        exact ⟨h2, initT_NotServing ds gs hi⟩
      · cases hi
    · have XT : XB K A_OutOfOrder "RuntimeError.__new__" [.type "RuntimeError", .type "Exception", .type "BaseException", .type "object"] := ⟨⟨_, _, _, _, _, _, _, _, _, _, _, _, _, _, _, x_OutOfOrder, bm_OutOfOrder'⟩, qs_OutOfOrder, qt_OutOfOrder, kc_OutOfOrder⟩
      have Fi := fun_mk (st := ini_OutOfOrder) il_OutOfOrder ic_OutOfOrder ik_OutOfOrder
      have ef : ([[112, 97, 116, 104]] : List Tx).map tx = (["path"] : List Str) := by decide +kernel
      have F1 : FnOk P w K mg base CX0 1 i_OutOfOrder (PySem.W.fnOf "__init__" "OutOfOrder.__init__" (defArgs ini_OutOfOrder) (defBody ini_OutOfOrder) (defScope ini_OutOfOrder) .none ikV_OutOfOrder idc_OutOfOrder ipm_OutOfOrder ian_OutOfOrder icd_OutOfOrder ict_OutOfOrder) ("self" :: ([[112, 97, 116, 104]] : List Tx).map tx) (spI A_OutOfOrder (([[112, 97, 116, 104]] : List Tx).map tx)) := by
        rw [ef]
        exact fn_ini (q0 := posI_OutOfOrder 0) (q1 := posI_OutOfOrder 1) (q2 := posI_OutOfOrder 2) (q3 := posI_OutOfOrder 3) (q4 := posI_OutOfOrder 4) (q5 := posI_OutOfOrder 5) PySem.F.excBase_RuntimeError PySem.F.store_RuntimeError XT Fi rfl ie_OutOfOrder scI_OutOfOrder rfl (by decide) (fun X' hK hM hS => bas_ofB hK hM hS rfl (PySem.W.mg_none_of X G y_RuntimeError) (by decide +kernel) (by decide) (by decide) (PySem.W.kitMeta_of (by decide +kernel)) (by decide +kernel) vv_OutOfOrder (by decide +kernel)) pu_OutOfOrder sa_OutOfOrder (fun f hf => by
          simp only [List.mem_cons, List.not_mem_nil, or_false] at hf
          rcases hf with rfl
          · exact ⟨taker_of (xc_OutOfOrder.fd _ (by decide)), rfl, by decide, by decide⟩)
      refine mk_both (fs := [[112, 97, 116, 104]]) PySem.F.excBase_RuntimeError e_OutOfOrder XT ii_OutOfOrder it_OutOfOrder F1 (by rw [ef]; exact Fi.binds fun _ _ _ _ _ _ us hl => match us, hl with | [_, _], _ => rfl) (fun k hk => ?_) (by decide) mq_OutOfOrder fun ds gs hi => ?_
      · have e : k = (["path"] : List Str) := by
          have hk : (("OutOfOrder" : Str), k) ∈ (("Apart", ["path"]) :: ("InvalidColumns", ["position"]) :: ("InvalidCommand", ["value"]) :: ("InvalidCount", ["value"]) :: ("InvalidName", ["value"]) :: ("InvalidOffer", ["position"]) :: ("InvalidOrder", ["position"]) :: ("InvalidPlan", ["path"]) :: ("InvalidQuery", ["part", "position"]) :: ("InvalidRow", ["position"]) :: ("InvalidRule", ["position"]) :: ("InvalidTable", ["position"]) :: ("InvalidText", ["value"]) :: ("InvalidToken", ["value"]) :: ("InvalidValue", ["value"]) :: ("InvalidVector", ["value"]) :: ("InvalidWrite", ["position"]) :: ("NameTaken", ["value"]) :: ("OutOfOrder", ["path"]) :: ("PairBroken", ["table", "one", "other", "rule"]) :: ("RuleBroken", ["table", "place", "rule"]) :: ("TooMany", ["kind", "limit"]) :: ("UnknownName", ["value"]) :: ("UnknownPlace", ["value"]) :: ("UnknownTable", ["value"]) :: [] : List (Str × List Str)) := hk
          simp only [in_cons, in_nil, or_false, Prod.mk.injEq] at hk
          rcases hk with ⟨z, e⟩ | ⟨z, e⟩ | ⟨z, e⟩ | ⟨z, e⟩ | ⟨z, e⟩ | ⟨z, e⟩ | ⟨z, e⟩ | ⟨z, e⟩ | ⟨z, e⟩ | ⟨z, e⟩ | ⟨z, e⟩ | ⟨z, e⟩ | ⟨z, e⟩ | ⟨z, e⟩ | ⟨z, e⟩ | ⟨z, e⟩ | ⟨z, e⟩ | ⟨z, e⟩ | ⟨z, e⟩ | ⟨z, e⟩ | ⟨z, e⟩ | ⟨z, e⟩ | ⟨z, e⟩ | ⟨z, e⟩ | ⟨z, e⟩
          · exact absurd z (by decide)
          · exact absurd z (by decide)
          · exact absurd z (by decide)
          · exact absurd z (by decide)
          · exact absurd z (by decide)
          · exact absurd z (by decide)
          · exact absurd z (by decide)
          · exact absurd z (by decide)
          · exact absurd z (by decide)
          · exact absurd z (by decide)
          · exact absurd z (by decide)
          · exact absurd z (by decide)
          · exact absurd z (by decide)
          · exact absurd z (by decide)
          · exact absurd z (by decide)
          · exact absurd z (by decide)
          · exact absurd z (by decide)
          · exact absurd z (by decide)
          · exact e
          · exact absurd z (by decide)
          · exact absurd z (by decide)
          · exact absurd z (by decide)
          · exact absurd z (by decide)
          · exact absurd z (by decide)
          · exact absurd z (by decide)
        rw [ef]
        exact ⟨e, fun s a us hl => match us, hl with | [_], _ => .of_eq rfl⟩
      have hi : (if 2 ≤ n then initT [79, 117, 116, 79, 102, 79, 114, 100, 101, 114] ds else none) = some gs := hi
      split at hi
      · rename_i h2
        exact ⟨h2, initT_OutOfOrder ds gs hi⟩
      · cases hi
    · have XT : XB K A_PairBroken "RuntimeError.__new__" [.type "RuntimeError", .type "Exception", .type "BaseException", .type "object"] := ⟨⟨_, _, _, _, _, _, _, _, _, _, _, _, _, _, _, x_PairBroken, bm_PairBroken'⟩, qs_PairBroken, qt_PairBroken, kc_PairBroken⟩
      have Fi := fun_mk (st := ini_PairBroken) il_PairBroken ic_PairBroken ik_PairBroken
      have ef : ([[116, 97, 98, 108, 101], [111, 110, 101], [111, 116, 104, 101, 114], [114, 117, 108, 101]] : List Tx).map tx = (["table", "one", "other", "rule"] : List Str) := by decide +kernel
      have F1 : FnOk P w K mg base CX0 1 i_PairBroken (PySem.W.fnOf "__init__" "PairBroken.__init__" (defArgs ini_PairBroken) (defBody ini_PairBroken) (defScope ini_PairBroken) .none ikV_PairBroken idc_PairBroken ipm_PairBroken ian_PairBroken icd_PairBroken ict_PairBroken) ("self" :: ([[116, 97, 98, 108, 101], [111, 110, 101], [111, 116, 104, 101, 114], [114, 117, 108, 101]] : List Tx).map tx) (spI A_PairBroken (([[116, 97, 98, 108, 101], [111, 110, 101], [111, 116, 104, 101, 114], [114, 117, 108, 101]] : List Tx).map tx)) := by
        rw [ef]
        exact fn_ini (q0 := posI_PairBroken 0) (q1 := posI_PairBroken 1) (q2 := posI_PairBroken 2) (q3 := posI_PairBroken 3) (q4 := posI_PairBroken 4) (q5 := posI_PairBroken 5) PySem.F.excBase_RuntimeError PySem.F.store_RuntimeError XT Fi rfl ie_PairBroken scI_PairBroken rfl (by decide) (fun X' hK hM hS => bas_ofB hK hM hS rfl (PySem.W.mg_none_of X G y_RuntimeError) (by decide +kernel) (by decide) (by decide) (PySem.W.kitMeta_of (by decide +kernel)) (by decide +kernel) vv_PairBroken (by decide +kernel)) pu_PairBroken sa_PairBroken (fun f hf => by
          simp only [List.mem_cons, List.not_mem_nil, or_false] at hf
          rcases hf with rfl | rfl | rfl | rfl
          · exact ⟨taker_of (xc_PairBroken.fd _ (by decide)), rfl, by decide, by decide⟩
          · exact ⟨taker_of (xc_PairBroken.fd _ (by decide)), rfl, by decide, by decide⟩
          · exact ⟨taker_of (xc_PairBroken.fd _ (by decide)), rfl, by decide, by decide⟩
          · exact ⟨taker_of (xc_PairBroken.fd _ (by decide)), rfl, by decide, by decide⟩)
      refine mk_both (fs := [[116, 97, 98, 108, 101], [111, 110, 101], [111, 116, 104, 101, 114], [114, 117, 108, 101]]) PySem.F.excBase_RuntimeError e_PairBroken XT ii_PairBroken it_PairBroken F1 (by rw [ef]; exact Fi.binds fun _ _ _ _ _ _ us hl => match us, hl with | [_, _, _, _, _], _ => rfl) (fun k hk => ?_) (by decide) mq_PairBroken fun ds gs hi => ?_
      · have e : k = (["table", "one", "other", "rule"] : List Str) := by
          have hk : (("PairBroken" : Str), k) ∈ (("Apart", ["path"]) :: ("InvalidColumns", ["position"]) :: ("InvalidCommand", ["value"]) :: ("InvalidCount", ["value"]) :: ("InvalidName", ["value"]) :: ("InvalidOffer", ["position"]) :: ("InvalidOrder", ["position"]) :: ("InvalidPlan", ["path"]) :: ("InvalidQuery", ["part", "position"]) :: ("InvalidRow", ["position"]) :: ("InvalidRule", ["position"]) :: ("InvalidTable", ["position"]) :: ("InvalidText", ["value"]) :: ("InvalidToken", ["value"]) :: ("InvalidValue", ["value"]) :: ("InvalidVector", ["value"]) :: ("InvalidWrite", ["position"]) :: ("NameTaken", ["value"]) :: ("OutOfOrder", ["path"]) :: ("PairBroken", ["table", "one", "other", "rule"]) :: ("RuleBroken", ["table", "place", "rule"]) :: ("TooMany", ["kind", "limit"]) :: ("UnknownName", ["value"]) :: ("UnknownPlace", ["value"]) :: ("UnknownTable", ["value"]) :: [] : List (Str × List Str)) := hk
          simp only [in_cons, in_nil, or_false, Prod.mk.injEq] at hk
          rcases hk with ⟨z, e⟩ | ⟨z, e⟩ | ⟨z, e⟩ | ⟨z, e⟩ | ⟨z, e⟩ | ⟨z, e⟩ | ⟨z, e⟩ | ⟨z, e⟩ | ⟨z, e⟩ | ⟨z, e⟩ | ⟨z, e⟩ | ⟨z, e⟩ | ⟨z, e⟩ | ⟨z, e⟩ | ⟨z, e⟩ | ⟨z, e⟩ | ⟨z, e⟩ | ⟨z, e⟩ | ⟨z, e⟩ | ⟨z, e⟩ | ⟨z, e⟩ | ⟨z, e⟩ | ⟨z, e⟩ | ⟨z, e⟩ | ⟨z, e⟩
          · exact absurd z (by decide)
          · exact absurd z (by decide)
          · exact absurd z (by decide)
          · exact absurd z (by decide)
          · exact absurd z (by decide)
          · exact absurd z (by decide)
          · exact absurd z (by decide)
          · exact absurd z (by decide)
          · exact absurd z (by decide)
          · exact absurd z (by decide)
          · exact absurd z (by decide)
          · exact absurd z (by decide)
          · exact absurd z (by decide)
          · exact absurd z (by decide)
          · exact absurd z (by decide)
          · exact absurd z (by decide)
          · exact absurd z (by decide)
          · exact absurd z (by decide)
          · exact absurd z (by decide)
          · exact e
          · exact absurd z (by decide)
          · exact absurd z (by decide)
          · exact absurd z (by decide)
          · exact absurd z (by decide)
          · exact absurd z (by decide)
        rw [ef]
        exact ⟨e, fun s a us hl => match us, hl with | [_, _, _, _], _ => .of_eq rfl⟩
      have hi : (if 2 ≤ n then initT [80, 97, 105, 114, 66, 114, 111, 107, 101, 110] ds else none) = some gs := hi
      split at hi
      · rename_i h2
        exact ⟨h2, initT_PairBroken ds gs hi⟩
      · cases hi
    · have XT : XB K A_RuleBroken "RuntimeError.__new__" [.type "RuntimeError", .type "Exception", .type "BaseException", .type "object"] := ⟨⟨_, _, _, _, _, _, _, _, _, _, _, _, _, _, _, x_RuleBroken, bm_RuleBroken'⟩, qs_RuleBroken, qt_RuleBroken, kc_RuleBroken⟩
      have Fi := fun_mk (st := ini_RuleBroken) il_RuleBroken ic_RuleBroken ik_RuleBroken
      have ef : ([[116, 97, 98, 108, 101], [112, 108, 97, 99, 101], [114, 117, 108, 101]] : List Tx).map tx = (["table", "place", "rule"] : List Str) := by decide +kernel
      have F1 : FnOk P w K mg base CX0 1 i_RuleBroken (PySem.W.fnOf "__init__" "RuleBroken.__init__" (defArgs ini_RuleBroken) (defBody ini_RuleBroken) (defScope ini_RuleBroken) .none ikV_RuleBroken idc_RuleBroken ipm_RuleBroken ian_RuleBroken icd_RuleBroken ict_RuleBroken) ("self" :: ([[116, 97, 98, 108, 101], [112, 108, 97, 99, 101], [114, 117, 108, 101]] : List Tx).map tx) (spI A_RuleBroken (([[116, 97, 98, 108, 101], [112, 108, 97, 99, 101], [114, 117, 108, 101]] : List Tx).map tx)) := by
        rw [ef]
        exact fn_ini (q0 := posI_RuleBroken 0) (q1 := posI_RuleBroken 1) (q2 := posI_RuleBroken 2) (q3 := posI_RuleBroken 3) (q4 := posI_RuleBroken 4) (q5 := posI_RuleBroken 5) PySem.F.excBase_RuntimeError PySem.F.store_RuntimeError XT Fi rfl ie_RuleBroken scI_RuleBroken rfl (by decide) (fun X' hK hM hS => bas_ofB hK hM hS rfl (PySem.W.mg_none_of X G y_RuntimeError) (by decide +kernel) (by decide) (by decide) (PySem.W.kitMeta_of (by decide +kernel)) (by decide +kernel) vv_RuleBroken (by decide +kernel)) pu_RuleBroken sa_RuleBroken (fun f hf => by
          simp only [List.mem_cons, List.not_mem_nil, or_false] at hf
          rcases hf with rfl | rfl | rfl
          · exact ⟨taker_of (xc_RuleBroken.fd _ (by decide)), rfl, by decide, by decide⟩
          · exact ⟨taker_of (xc_RuleBroken.fd _ (by decide)), rfl, by decide, by decide⟩
          · exact ⟨taker_of (xc_RuleBroken.fd _ (by decide)), rfl, by decide, by decide⟩)
      refine mk_both (fs := [[116, 97, 98, 108, 101], [112, 108, 97, 99, 101], [114, 117, 108, 101]]) PySem.F.excBase_RuntimeError e_RuleBroken XT ii_RuleBroken it_RuleBroken F1 (by rw [ef]; exact Fi.binds fun _ _ _ _ _ _ us hl => match us, hl with | [_, _, _, _], _ => rfl) (fun k hk => ?_) (by decide) mq_RuleBroken fun ds gs hi => ?_
      · have e : k = (["table", "place", "rule"] : List Str) := by
          have hk : (("RuleBroken" : Str), k) ∈ (("Apart", ["path"]) :: ("InvalidColumns", ["position"]) :: ("InvalidCommand", ["value"]) :: ("InvalidCount", ["value"]) :: ("InvalidName", ["value"]) :: ("InvalidOffer", ["position"]) :: ("InvalidOrder", ["position"]) :: ("InvalidPlan", ["path"]) :: ("InvalidQuery", ["part", "position"]) :: ("InvalidRow", ["position"]) :: ("InvalidRule", ["position"]) :: ("InvalidTable", ["position"]) :: ("InvalidText", ["value"]) :: ("InvalidToken", ["value"]) :: ("InvalidValue", ["value"]) :: ("InvalidVector", ["value"]) :: ("InvalidWrite", ["position"]) :: ("NameTaken", ["value"]) :: ("OutOfOrder", ["path"]) :: ("PairBroken", ["table", "one", "other", "rule"]) :: ("RuleBroken", ["table", "place", "rule"]) :: ("TooMany", ["kind", "limit"]) :: ("UnknownName", ["value"]) :: ("UnknownPlace", ["value"]) :: ("UnknownTable", ["value"]) :: [] : List (Str × List Str)) := hk
          simp only [in_cons, in_nil, or_false, Prod.mk.injEq] at hk
          rcases hk with ⟨z, e⟩ | ⟨z, e⟩ | ⟨z, e⟩ | ⟨z, e⟩ | ⟨z, e⟩ | ⟨z, e⟩ | ⟨z, e⟩ | ⟨z, e⟩ | ⟨z, e⟩ | ⟨z, e⟩ | ⟨z, e⟩ | ⟨z, e⟩ | ⟨z, e⟩ | ⟨z, e⟩ | ⟨z, e⟩ | ⟨z, e⟩ | ⟨z, e⟩ | ⟨z, e⟩ | ⟨z, e⟩ | ⟨z, e⟩ | ⟨z, e⟩ | ⟨z, e⟩ | ⟨z, e⟩ | ⟨z, e⟩ | ⟨z, e⟩
          · exact absurd z (by decide)
          · exact absurd z (by decide)
          · exact absurd z (by decide)
          · exact absurd z (by decide)
          · exact absurd z (by decide)
          · exact absurd z (by decide)
          · exact absurd z (by decide)
          · exact absurd z (by decide)
          · exact absurd z (by decide)
          · exact absurd z (by decide)
          · exact absurd z (by decide)
          · exact absurd z (by decide)
          · exact absurd z (by decide)
          · exact absurd z (by decide)
          · exact absurd z (by decide)
          · exact absurd z (by decide)
          · exact absurd z (by decide)
          · exact absurd z (by decide)
          · exact absurd z (by decide)
          · exact absurd z (by decide)
          · exact e
          · exact absurd z (by decide)
          · exact absurd z (by decide)
          · exact absurd z (by decide)
          · exact absurd z (by decide)
        rw [ef]
        exact ⟨e, fun s a us hl => match us, hl with | [_, _, _], _ => .of_eq rfl⟩
      have hi : (if 2 ≤ n then initT [82, 117, 108, 101, 66, 114, 111, 107, 101, 110] ds else none) = some gs := hi
      split at hi
      · rename_i h2
        exact ⟨h2, initT_RuleBroken ds gs hi⟩
      · cases hi
    · have XT : XB K A_TooMany "ArithmeticError.__new__" [.type "ArithmeticError", .type "Exception", .type "BaseException", .type "object"] := ⟨⟨_, _, _, _, _, _, _, _, _, _, _, _, _, _, _, x_TooMany, bm_TooMany'⟩, qs_TooMany, qt_TooMany, kc_TooMany⟩
      have Fi := fun_mk (st := ini_TooMany) il_TooMany ic_TooMany ik_TooMany
      have ef : ([[107, 105, 110, 100], [108, 105, 109, 105, 116]] : List Tx).map tx = (["kind", "limit"] : List Str) := by decide +kernel
      have F1 : FnOk P w K mg base CX0 1 i_TooMany (PySem.W.fnOf "__init__" "TooMany.__init__" (defArgs ini_TooMany) (defBody ini_TooMany) (defScope ini_TooMany) .none ikV_TooMany idc_TooMany ipm_TooMany ian_TooMany icd_TooMany ict_TooMany) ("self" :: ([[107, 105, 110, 100], [108, 105, 109, 105, 116]] : List Tx).map tx) (spI A_TooMany (([[107, 105, 110, 100], [108, 105, 109, 105, 116]] : List Tx).map tx)) := by
        rw [ef]
        exact fn_ini (q0 := posI_TooMany 0) (q1 := posI_TooMany 1) (q2 := posI_TooMany 2) (q3 := posI_TooMany 3) (q4 := posI_TooMany 4) (q5 := posI_TooMany 5) PySem.F.excBase_ArithmeticError PySem.F.store_ArithmeticError XT Fi rfl ie_TooMany scI_TooMany rfl (by decide) (fun X' hK hM hS => bas_ofB hK hM hS rfl (PySem.W.mg_none_of X G y_ArithmeticError) (by decide +kernel) (by decide) (by decide) (PySem.W.kitMeta_of (by decide +kernel)) (by decide +kernel) vv_TooMany (by decide +kernel)) pu_TooMany sa_TooMany (fun f hf => by
          simp only [List.mem_cons, List.not_mem_nil, or_false] at hf
          rcases hf with rfl | rfl
          · exact ⟨taker_of (xc_TooMany.fd _ (by decide)), rfl, by decide, by decide⟩
          · exact ⟨taker_of (xc_TooMany.fd _ (by decide)), rfl, by decide, by decide⟩)
      refine mk_both (fs := [[107, 105, 110, 100], [108, 105, 109, 105, 116]]) PySem.F.excBase_ArithmeticError e_TooMany XT ii_TooMany it_TooMany F1 (by rw [ef]; exact Fi.binds fun _ _ _ _ _ _ us hl => match us, hl with | [_, _, _], _ => rfl) (fun k hk => ?_) (by decide) mq_TooMany fun ds gs hi => ?_
      · have e : k = (["kind", "limit"] : List Str) := by
          have hk : (("TooMany" : Str), k) ∈ (("Apart", ["path"]) :: ("InvalidColumns", ["position"]) :: ("InvalidCommand", ["value"]) :: ("InvalidCount", ["value"]) :: ("InvalidName", ["value"]) :: ("InvalidOffer", ["position"]) :: ("InvalidOrder", ["position"]) :: ("InvalidPlan", ["path"]) :: ("InvalidQuery", ["part", "position"]) :: ("InvalidRow", ["position"]) :: ("InvalidRule", ["position"]) :: ("InvalidTable", ["position"]) :: ("InvalidText", ["value"]) :: ("InvalidToken", ["value"]) :: ("InvalidValue", ["value"]) :: ("InvalidVector", ["value"]) :: ("InvalidWrite", ["position"]) :: ("NameTaken", ["value"]) :: ("OutOfOrder", ["path"]) :: ("PairBroken", ["table", "one", "other", "rule"]) :: ("RuleBroken", ["table", "place", "rule"]) :: ("TooMany", ["kind", "limit"]) :: ("UnknownName", ["value"]) :: ("UnknownPlace", ["value"]) :: ("UnknownTable", ["value"]) :: [] : List (Str × List Str)) := hk
          simp only [in_cons, in_nil, or_false, Prod.mk.injEq] at hk
          rcases hk with ⟨z, e⟩ | ⟨z, e⟩ | ⟨z, e⟩ | ⟨z, e⟩ | ⟨z, e⟩ | ⟨z, e⟩ | ⟨z, e⟩ | ⟨z, e⟩ | ⟨z, e⟩ | ⟨z, e⟩ | ⟨z, e⟩ | ⟨z, e⟩ | ⟨z, e⟩ | ⟨z, e⟩ | ⟨z, e⟩ | ⟨z, e⟩ | ⟨z, e⟩ | ⟨z, e⟩ | ⟨z, e⟩ | ⟨z, e⟩ | ⟨z, e⟩ | ⟨z, e⟩ | ⟨z, e⟩ | ⟨z, e⟩ | ⟨z, e⟩
          · exact absurd z (by decide)
          · exact absurd z (by decide)
          · exact absurd z (by decide)
          · exact absurd z (by decide)
          · exact absurd z (by decide)
          · exact absurd z (by decide)
          · exact absurd z (by decide)
          · exact absurd z (by decide)
          · exact absurd z (by decide)
          · exact absurd z (by decide)
          · exact absurd z (by decide)
          · exact absurd z (by decide)
          · exact absurd z (by decide)
          · exact absurd z (by decide)
          · exact absurd z (by decide)
          · exact absurd z (by decide)
          · exact absurd z (by decide)
          · exact absurd z (by decide)
          · exact absurd z (by decide)
          · exact absurd z (by decide)
          · exact absurd z (by decide)
          · exact e
          · exact absurd z (by decide)
          · exact absurd z (by decide)
          · exact absurd z (by decide)
        rw [ef]
        exact ⟨e, fun s a us hl => match us, hl with | [_, _], _ => .of_eq rfl⟩
      have hi : (if 2 ≤ n then initT [84, 111, 111, 77, 97, 110, 121] ds else none) = some gs := hi
      split at hi
      · rename_i h2
        exact ⟨h2, initT_TooMany ds gs hi⟩
      · cases hi
    · have XT : XB K A_UnknownName "LookupError.__new__" [.type "LookupError", .type "Exception", .type "BaseException", .type "object"] := ⟨⟨_, _, _, _, _, _, _, _, _, _, _, _, _, _, _, x_UnknownName, bm_UnknownName'⟩, qs_UnknownName, qt_UnknownName, kc_UnknownName⟩
      have Fi := fun_mk (st := ini_UnknownName) il_UnknownName ic_UnknownName ik_UnknownName
      have ef : ([[118, 97, 108, 117, 101]] : List Tx).map tx = (["value"] : List Str) := by decide +kernel
      have F1 : FnOk P w K mg base CX0 1 i_UnknownName (PySem.W.fnOf "__init__" "UnknownName.__init__" (defArgs ini_UnknownName) (defBody ini_UnknownName) (defScope ini_UnknownName) .none ikV_UnknownName idc_UnknownName ipm_UnknownName ian_UnknownName icd_UnknownName ict_UnknownName) ("self" :: ([[118, 97, 108, 117, 101]] : List Tx).map tx) (spI A_UnknownName (([[118, 97, 108, 117, 101]] : List Tx).map tx)) := by
        rw [ef]
        exact fn_ini (q0 := posI_UnknownName 0) (q1 := posI_UnknownName 1) (q2 := posI_UnknownName 2) (q3 := posI_UnknownName 3) (q4 := posI_UnknownName 4) (q5 := posI_UnknownName 5) PySem.F.excBase_LookupError PySem.F.store_LookupError XT Fi rfl ie_UnknownName scI_UnknownName rfl (by decide) (fun X' hK hM hS => bas_ofB hK hM hS rfl (PySem.W.mg_none_of X G y_LookupError) (by decide +kernel) (by decide) (by decide) (PySem.W.kitMeta_of (by decide +kernel)) (by decide +kernel) vv_UnknownName (by decide +kernel)) pu_UnknownName sa_UnknownName (fun f hf => by
          simp only [List.mem_cons, List.not_mem_nil, or_false] at hf
          rcases hf with rfl
          · exact ⟨taker_of (xc_UnknownName.fd _ (by decide)), rfl, by decide, by decide⟩)
      refine mk_both (fs := [[118, 97, 108, 117, 101]]) PySem.F.excBase_LookupError e_UnknownName XT ii_UnknownName it_UnknownName F1 (by rw [ef]; exact Fi.binds fun _ _ _ _ _ _ us hl => match us, hl with | [_, _], _ => rfl) (fun k hk => ?_) (by decide) mq_UnknownName fun ds gs hi => ?_
      · have e : k = (["value"] : List Str) := by
          have hk : (("UnknownName" : Str), k) ∈ (("Apart", ["path"]) :: ("InvalidColumns", ["position"]) :: ("InvalidCommand", ["value"]) :: ("InvalidCount", ["value"]) :: ("InvalidName", ["value"]) :: ("InvalidOffer", ["position"]) :: ("InvalidOrder", ["position"]) :: ("InvalidPlan", ["path"]) :: ("InvalidQuery", ["part", "position"]) :: ("InvalidRow", ["position"]) :: ("InvalidRule", ["position"]) :: ("InvalidTable", ["position"]) :: ("InvalidText", ["value"]) :: ("InvalidToken", ["value"]) :: ("InvalidValue", ["value"]) :: ("InvalidVector", ["value"]) :: ("InvalidWrite", ["position"]) :: ("NameTaken", ["value"]) :: ("OutOfOrder", ["path"]) :: ("PairBroken", ["table", "one", "other", "rule"]) :: ("RuleBroken", ["table", "place", "rule"]) :: ("TooMany", ["kind", "limit"]) :: ("UnknownName", ["value"]) :: ("UnknownPlace", ["value"]) :: ("UnknownTable", ["value"]) :: [] : List (Str × List Str)) := hk
          simp only [in_cons, in_nil, or_false, Prod.mk.injEq] at hk
          rcases hk with ⟨z, e⟩ | ⟨z, e⟩ | ⟨z, e⟩ | ⟨z, e⟩ | ⟨z, e⟩ | ⟨z, e⟩ | ⟨z, e⟩ | ⟨z, e⟩ | ⟨z, e⟩ | ⟨z, e⟩ | ⟨z, e⟩ | ⟨z, e⟩ | ⟨z, e⟩ | ⟨z, e⟩ | ⟨z, e⟩ | ⟨z, e⟩ | ⟨z, e⟩ | ⟨z, e⟩ | ⟨z, e⟩ | ⟨z, e⟩ | ⟨z, e⟩ | ⟨z, e⟩ | ⟨z, e⟩ | ⟨z, e⟩ | ⟨z, e⟩
          · exact absurd z (by decide)
          · exact absurd z (by decide)
          · exact absurd z (by decide)
          · exact absurd z (by decide)
          · exact absurd z (by decide)
          · exact absurd z (by decide)
          · exact absurd z (by decide)
          · exact absurd z (by decide)
          · exact absurd z (by decide)
          · exact absurd z (by decide)
          · exact absurd z (by decide)
          · exact absurd z (by decide)
          · exact absurd z (by decide)
          · exact absurd z (by decide)
          · exact absurd z (by decide)
          · exact absurd z (by decide)
          · exact absurd z (by decide)
          · exact absurd z (by decide)
          · exact absurd z (by decide)
          · exact absurd z (by decide)
          · exact absurd z (by decide)
          · exact absurd z (by decide)
          · exact e
          · exact absurd z (by decide)
          · exact absurd z (by decide)
        rw [ef]
        exact ⟨e, fun s a us hl => match us, hl with | [_], _ => .of_eq rfl⟩
      have hi : (if 2 ≤ n then initT [85, 110, 107, 110, 111, 119, 110, 78, 97, 109, 101] ds else none) = some gs := hi
      split at hi
      · rename_i h2
        exact ⟨h2, initT_UnknownName ds gs hi⟩
      · cases hi
    · have XT : XB K A_UnknownPlace "LookupError.__new__" [.type "LookupError", .type "Exception", .type "BaseException", .type "object"] := ⟨⟨_, _, _, _, _, _, _, _, _, _, _, _, _, _, _, x_UnknownPlace, bm_UnknownPlace'⟩, qs_UnknownPlace, qt_UnknownPlace, kc_UnknownPlace⟩
      have Fi := fun_mk (st := ini_UnknownPlace) il_UnknownPlace ic_UnknownPlace ik_UnknownPlace
      have ef : ([[118, 97, 108, 117, 101]] : List Tx).map tx = (["value"] : List Str) := by decide +kernel
      have F1 : FnOk P w K mg base CX0 1 i_UnknownPlace (PySem.W.fnOf "__init__" "UnknownPlace.__init__" (defArgs ini_UnknownPlace) (defBody ini_UnknownPlace) (defScope ini_UnknownPlace) .none ikV_UnknownPlace idc_UnknownPlace ipm_UnknownPlace ian_UnknownPlace icd_UnknownPlace ict_UnknownPlace) ("self" :: ([[118, 97, 108, 117, 101]] : List Tx).map tx) (spI A_UnknownPlace (([[118, 97, 108, 117, 101]] : List Tx).map tx)) := by
        rw [ef]
        exact fn_ini (q0 := posI_UnknownPlace 0) (q1 := posI_UnknownPlace 1) (q2 := posI_UnknownPlace 2) (q3 := posI_UnknownPlace 3) (q4 := posI_UnknownPlace 4) (q5 := posI_UnknownPlace 5) PySem.F.excBase_LookupError PySem.F.store_LookupError XT Fi rfl ie_UnknownPlace scI_UnknownPlace rfl (by decide) (fun X' hK hM hS => bas_ofB hK hM hS rfl (PySem.W.mg_none_of X G y_LookupError) (by decide +kernel) (by decide) (by decide) (PySem.W.kitMeta_of (by decide +kernel)) (by decide +kernel) vv_UnknownPlace (by decide +kernel)) pu_UnknownPlace sa_UnknownPlace (fun f hf => by
          simp only [List.mem_cons, List.not_mem_nil, or_false] at hf
          rcases hf with rfl
          · exact ⟨taker_of (xc_UnknownPlace.fd _ (by decide)), rfl, by decide, by decide⟩)
      refine mk_both (fs := [[118, 97, 108, 117, 101]]) PySem.F.excBase_LookupError e_UnknownPlace XT ii_UnknownPlace it_UnknownPlace F1 (by rw [ef]; exact Fi.binds fun _ _ _ _ _ _ us hl => match us, hl with | [_, _], _ => rfl) (fun k hk => ?_) (by decide) mq_UnknownPlace fun ds gs hi => ?_
      · have e : k = (["value"] : List Str) := by
          have hk : (("UnknownPlace" : Str), k) ∈ (("Apart", ["path"]) :: ("InvalidColumns", ["position"]) :: ("InvalidCommand", ["value"]) :: ("InvalidCount", ["value"]) :: ("InvalidName", ["value"]) :: ("InvalidOffer", ["position"]) :: ("InvalidOrder", ["position"]) :: ("InvalidPlan", ["path"]) :: ("InvalidQuery", ["part", "position"]) :: ("InvalidRow", ["position"]) :: ("InvalidRule", ["position"]) :: ("InvalidTable", ["position"]) :: ("InvalidText", ["value"]) :: ("InvalidToken", ["value"]) :: ("InvalidValue", ["value"]) :: ("InvalidVector", ["value"]) :: ("InvalidWrite", ["position"]) :: ("NameTaken", ["value"]) :: ("OutOfOrder", ["path"]) :: ("PairBroken", ["table", "one", "other", "rule"]) :: ("RuleBroken", ["table", "place", "rule"]) :: ("TooMany", ["kind", "limit"]) :: ("UnknownName", ["value"]) :: ("UnknownPlace", ["value"]) :: ("UnknownTable", ["value"]) :: [] : List (Str × List Str)) := hk
          simp only [in_cons, in_nil, or_false, Prod.mk.injEq] at hk
          rcases hk with ⟨z, e⟩ | ⟨z, e⟩ | ⟨z, e⟩ | ⟨z, e⟩ | ⟨z, e⟩ | ⟨z, e⟩ | ⟨z, e⟩ | ⟨z, e⟩ | ⟨z, e⟩ | ⟨z, e⟩ | ⟨z, e⟩ | ⟨z, e⟩ | ⟨z, e⟩ | ⟨z, e⟩ | ⟨z, e⟩ | ⟨z, e⟩ | ⟨z, e⟩ | ⟨z, e⟩ | ⟨z, e⟩ | ⟨z, e⟩ | ⟨z, e⟩ | ⟨z, e⟩ | ⟨z, e⟩ | ⟨z, e⟩ | ⟨z, e⟩
          · exact absurd z (by decide)
          · exact absurd z (by decide)
          · exact absurd z (by decide)
          · exact absurd z (by decide)
          · exact absurd z (by decide)
          · exact absurd z (by decide)
          · exact absurd z (by decide)
          · exact absurd z (by decide)
          · exact absurd z (by decide)
          · exact absurd z (by decide)
          · exact absurd z (by decide)
          · exact absurd z (by decide)
          · exact absurd z (by decide)
          · exact absurd z (by decide)
          · exact absurd z (by decide)
          · exact absurd z (by decide)
          · exact absurd z (by decide)
          · exact absurd z (by decide)
          · exact absurd z (by decide)
          · exact absurd z (by decide)
          · exact absurd z (by decide)
          · exact absurd z (by decide)
          · exact absurd z (by decide)
          · exact e
          · exact absurd z (by decide)
        rw [ef]
        exact ⟨e, fun s a us hl => match us, hl with | [_], _ => .of_eq rfl⟩
      have hi : (if 2 ≤ n then initT [85, 110, 107, 110, 111, 119, 110, 80, 108, 97, 99, 101] ds else none) = some gs := hi
      split at hi
      · rename_i h2
        exact ⟨h2, initT_UnknownPlace ds gs hi⟩
      · cases hi
    · have XT : XB K A_UnknownTable "LookupError.__new__" [.type "LookupError", .type "Exception", .type "BaseException", .type "object"] := ⟨⟨_, _, _, _, _, _, _, _, _, _, _, _, _, _, _, x_UnknownTable, bm_UnknownTable'⟩, qs_UnknownTable, qt_UnknownTable, kc_UnknownTable⟩
      have Fi := fun_mk (st := ini_UnknownTable) il_UnknownTable ic_UnknownTable ik_UnknownTable
      have ef : ([[118, 97, 108, 117, 101]] : List Tx).map tx = (["value"] : List Str) := by decide +kernel
      have F1 : FnOk P w K mg base CX0 1 i_UnknownTable (PySem.W.fnOf "__init__" "UnknownTable.__init__" (defArgs ini_UnknownTable) (defBody ini_UnknownTable) (defScope ini_UnknownTable) .none ikV_UnknownTable idc_UnknownTable ipm_UnknownTable ian_UnknownTable icd_UnknownTable ict_UnknownTable) ("self" :: ([[118, 97, 108, 117, 101]] : List Tx).map tx) (spI A_UnknownTable (([[118, 97, 108, 117, 101]] : List Tx).map tx)) := by
        rw [ef]
        exact fn_ini (q0 := posI_UnknownTable 0) (q1 := posI_UnknownTable 1) (q2 := posI_UnknownTable 2) (q3 := posI_UnknownTable 3) (q4 := posI_UnknownTable 4) (q5 := posI_UnknownTable 5) PySem.F.excBase_LookupError PySem.F.store_LookupError XT Fi rfl ie_UnknownTable scI_UnknownTable rfl (by decide) (fun X' hK hM hS => bas_ofB hK hM hS rfl (PySem.W.mg_none_of X G y_LookupError) (by decide +kernel) (by decide) (by decide) (PySem.W.kitMeta_of (by decide +kernel)) (by decide +kernel) vv_UnknownTable (by decide +kernel)) pu_UnknownTable sa_UnknownTable (fun f hf => by
          simp only [List.mem_cons, List.not_mem_nil, or_false] at hf
          rcases hf with rfl
          · exact ⟨taker_of (xc_UnknownTable.fd _ (by decide)), rfl, by decide, by decide⟩)
      refine mk_both (fs := [[118, 97, 108, 117, 101]]) PySem.F.excBase_LookupError e_UnknownTable XT ii_UnknownTable it_UnknownTable F1 (by rw [ef]; exact Fi.binds fun _ _ _ _ _ _ us hl => match us, hl with | [_, _], _ => rfl) (fun k hk => ?_) (by decide) mq_UnknownTable fun ds gs hi => ?_
      · have e : k = (["value"] : List Str) := by
          have hk : (("UnknownTable" : Str), k) ∈ (("Apart", ["path"]) :: ("InvalidColumns", ["position"]) :: ("InvalidCommand", ["value"]) :: ("InvalidCount", ["value"]) :: ("InvalidName", ["value"]) :: ("InvalidOffer", ["position"]) :: ("InvalidOrder", ["position"]) :: ("InvalidPlan", ["path"]) :: ("InvalidQuery", ["part", "position"]) :: ("InvalidRow", ["position"]) :: ("InvalidRule", ["position"]) :: ("InvalidTable", ["position"]) :: ("InvalidText", ["value"]) :: ("InvalidToken", ["value"]) :: ("InvalidValue", ["value"]) :: ("InvalidVector", ["value"]) :: ("InvalidWrite", ["position"]) :: ("NameTaken", ["value"]) :: ("OutOfOrder", ["path"]) :: ("PairBroken", ["table", "one", "other", "rule"]) :: ("RuleBroken", ["table", "place", "rule"]) :: ("TooMany", ["kind", "limit"]) :: ("UnknownName", ["value"]) :: ("UnknownPlace", ["value"]) :: ("UnknownTable", ["value"]) :: [] : List (Str × List Str)) := hk
          simp only [in_cons, in_nil, or_false, Prod.mk.injEq] at hk
          rcases hk with ⟨z, e⟩ | ⟨z, e⟩ | ⟨z, e⟩ | ⟨z, e⟩ | ⟨z, e⟩ | ⟨z, e⟩ | ⟨z, e⟩ | ⟨z, e⟩ | ⟨z, e⟩ | ⟨z, e⟩ | ⟨z, e⟩ | ⟨z, e⟩ | ⟨z, e⟩ | ⟨z, e⟩ | ⟨z, e⟩ | ⟨z, e⟩ | ⟨z, e⟩ | ⟨z, e⟩ | ⟨z, e⟩ | ⟨z, e⟩ | ⟨z, e⟩ | ⟨z, e⟩ | ⟨z, e⟩ | ⟨z, e⟩ | ⟨z, e⟩
          · exact absurd z (by decide)
          · exact absurd z (by decide)
          · exact absurd z (by decide)
          · exact absurd z (by decide)
          · exact absurd z (by decide)
          · exact absurd z (by decide)
          · exact absurd z (by decide)
          · exact absurd z (by decide)
          · exact absurd z (by decide)
          · exact absurd z (by decide)
          · exact absurd z (by decide)
          · exact absurd z (by decide)
          · exact absurd z (by decide)
          · exact absurd z (by decide)
          · exact absurd z (by decide)
          · exact absurd z (by decide)
          · exact absurd z (by decide)
          · exact absurd z (by decide)
          · exact absurd z (by decide)
          · exact absurd z (by decide)
          · exact absurd z (by decide)
          · exact absurd z (by decide)
          · exact absurd z (by decide)
          · exact absurd z (by decide)
          · exact e
        rw [ef]
        exact ⟨e, fun s a us hl => match us, hl with | [_], _ => .of_eq rfl⟩
      have hi : (if 2 ≤ n then initT [85, 110, 107, 110, 111, 119, 110, 84, 97, 98, 108, 101] ds else none) = some gs := hi
      split at hi
      · rename_i h2
        exact ⟨h2, initT_UnknownTable ds gs hi⟩
      · cases hi
    · have XT : XB K A_Unlike "RuntimeError.__new__" [.type "RuntimeError", .type "Exception", .type "BaseException", .type "object"] := ⟨⟨_, _, _, _, _, _, _, _, _, _, _, _, _, _, _, x_Unlike, bm_Unlike'⟩, qs_Unlike, qt_Unlike, kc_Unlike⟩
      have Fi := fun_mk (st := ini_Unlike) il_Unlike ic_Unlike ik_Unlike
      have ef : ([] : List Tx).map tx = ([] : List Str) := by decide +kernel
      have F1 : FnOk P w K mg base CX0 1 i_Unlike (PySem.W.fnOf "__init__" "Unlike.__init__" (defArgs ini_Unlike) (defBody ini_Unlike) (defScope ini_Unlike) .none ikV_Unlike idc_Unlike ipm_Unlike ian_Unlike icd_Unlike ict_Unlike) ("self" :: ([] : List Tx).map tx) (spI A_Unlike (([] : List Tx).map tx)) := by
        rw [ef]
        exact fn_ini (q0 := posI_Unlike 0) (q1 := posI_Unlike 1) (q2 := posI_Unlike 2) (q3 := posI_Unlike 3) (q4 := posI_Unlike 4) (q5 := posI_Unlike 5) PySem.F.excBase_RuntimeError PySem.F.store_RuntimeError XT Fi rfl ie_Unlike scI_Unlike rfl (by decide) (fun X' hK hM hS => bas_ofB hK hM hS rfl (PySem.W.mg_none_of X G y_RuntimeError) (by decide +kernel) (by decide) (by decide) (PySem.W.kitMeta_of (by decide +kernel)) (by decide +kernel) vv_Unlike (by decide +kernel)) pu_Unlike sa_Unlike (fun f hf => nomatch hf)
      refine mk_both (fs := []) PySem.F.excBase_RuntimeError e_Unlike XT ii_Unlike it_Unlike F1 (by rw [ef]; exact Fi.binds fun _ _ _ _ _ _ us hl => match us, hl with | [_], _ => rfl) (fun k hk => ?_) (by decide) mq_Unlike fun ds gs hi => ?_
      · exact absurd (List.mem_map_of_mem (f := Prod.fst) hk) (show _ ∉ T.mkk.map Prod.fst by dsimp only; decide)
      have hi : (if 2 ≤ n then initT [85, 110, 108, 105, 107, 101] ds else none) = some gs := hi
      split at hi
      · rename_i h2
        exact ⟨h2, initT_Unlike ds gs hi⟩
      · cases hi
  exact fn_step fs_12 (all_pf S (fun n x c h => (both n x c h).1) (fun n x c h => (both n x c h).2) 7) fun x c h => (both 7 x c h).1
def defL : List (Str × Stmt) := ("_law_rng", s__law_rng) :: ("_law_draw", s__law_draw) :: ("_law_choice", s__law_choice) :: ("_law_thing", s__law_thing) :: ("_law_by_position", s__law_by_position) :: ("_law_by_name", s__law_by_name) :: ("_law_classes", s__law_classes) :: ("_law_fields", s__law_fields) :: ("_law_bases", s__law_bases) :: ("_law_due_bases", s__law_due_bases) :: ("_law_due_fields", s__law_due_fields) :: ("_law_right", s__law_right) :: ("law", s_law) :: []
def mi_Apart : MkI := ⟨"Apart", "Apart.__init__", "RuntimeError", "RuntimeError.__new__", "RuntimeError.__init__", "RuntimeError", "RuntimeError", false, ini_Apart⟩
def mi_InUse : MkI := ⟨"InUse", "InUse.__init__", "RuntimeError", "RuntimeError.__new__", "RuntimeError.__init__", "RuntimeError", "RuntimeError", false, ini_InUse⟩
def mi_InvalidColumns : MkI := ⟨"InvalidColumns", "InvalidColumns.__init__", "ValueError", "ValueError.__new__", "ValueError.__init__", "PairError", "PairError", true, ini_InvalidColumns⟩
def mi_InvalidCommand : MkI := ⟨"InvalidCommand", "InvalidCommand.__init__", "ValueError", "ValueError.__new__", "ValueError.__init__", "PairError", "PairError", true, ini_InvalidCommand⟩
def mi_InvalidCount : MkI := ⟨"InvalidCount", "InvalidCount.__init__", "ValueError", "ValueError.__new__", "ValueError.__init__", "PairError", "PairError", true, ini_InvalidCount⟩
def mi_InvalidName : MkI := ⟨"InvalidName", "InvalidName.__init__", "ValueError", "ValueError.__new__", "ValueError.__init__", "PairError", "PairError", true, ini_InvalidName⟩
def mi_InvalidOffer : MkI := ⟨"InvalidOffer", "InvalidOffer.__init__", "ValueError", "ValueError.__new__", "ValueError.__init__", "PairError", "PairError", true, ini_InvalidOffer⟩
def mi_InvalidOrder : MkI := ⟨"InvalidOrder", "InvalidOrder.__init__", "ValueError", "ValueError.__new__", "ValueError.__init__", "PairError", "PairError", true, ini_InvalidOrder⟩
def mi_InvalidPlan : MkI := ⟨"InvalidPlan", "InvalidPlan.__init__", "ValueError", "ValueError.__new__", "ValueError.__init__", "PairError", "PairError", true, ini_InvalidPlan⟩
def mi_InvalidQuery : MkI := ⟨"InvalidQuery", "InvalidQuery.__init__", "ValueError", "ValueError.__new__", "ValueError.__init__", "PairError", "PairError", true, ini_InvalidQuery⟩
def mi_InvalidQuestion : MkI := ⟨"InvalidQuestion", "InvalidQuestion.__init__", "ValueError", "ValueError.__new__", "ValueError.__init__", "PairError", "PairError", true, ini_InvalidQuestion⟩
def mi_InvalidRow : MkI := ⟨"InvalidRow", "InvalidRow.__init__", "ValueError", "ValueError.__new__", "ValueError.__init__", "PairError", "PairError", true, ini_InvalidRow⟩
def mi_InvalidRule : MkI := ⟨"InvalidRule", "InvalidRule.__init__", "ValueError", "ValueError.__new__", "ValueError.__init__", "PairError", "PairError", true, ini_InvalidRule⟩
def mi_InvalidTable : MkI := ⟨"InvalidTable", "InvalidTable.__init__", "ValueError", "ValueError.__new__", "ValueError.__init__", "PairError", "PairError", true, ini_InvalidTable⟩
def mi_InvalidText : MkI := ⟨"InvalidText", "InvalidText.__init__", "ValueError", "ValueError.__new__", "ValueError.__init__", "PairError", "PairError", true, ini_InvalidText⟩
def mi_InvalidToken : MkI := ⟨"InvalidToken", "InvalidToken.__init__", "ValueError", "ValueError.__new__", "ValueError.__init__", "PairError", "PairError", true, ini_InvalidToken⟩
def mi_InvalidValue : MkI := ⟨"InvalidValue", "InvalidValue.__init__", "ValueError", "ValueError.__new__", "ValueError.__init__", "PairError", "PairError", true, ini_InvalidValue⟩
def mi_InvalidVector : MkI := ⟨"InvalidVector", "InvalidVector.__init__", "ValueError", "ValueError.__new__", "ValueError.__init__", "PairError", "PairError", true, ini_InvalidVector⟩
def mi_InvalidWrite : MkI := ⟨"InvalidWrite", "InvalidWrite.__init__", "ValueError", "ValueError.__new__", "ValueError.__init__", "PairError", "PairError", true, ini_InvalidWrite⟩
def mi_NameTaken : MkI := ⟨"NameTaken", "NameTaken.__init__", "RuntimeError", "RuntimeError.__new__", "RuntimeError.__init__", "RuntimeError", "RuntimeError", false, ini_NameTaken⟩
def mi_NotServing : MkI := ⟨"NotServing", "NotServing.__init__", "RuntimeError", "RuntimeError.__new__", "RuntimeError.__init__", "RuntimeError", "RuntimeError", false, ini_NotServing⟩
def mi_OutOfOrder : MkI := ⟨"OutOfOrder", "OutOfOrder.__init__", "RuntimeError", "RuntimeError.__new__", "RuntimeError.__init__", "RuntimeError", "RuntimeError", false, ini_OutOfOrder⟩
def mi_PairBroken : MkI := ⟨"PairBroken", "PairBroken.__init__", "RuntimeError", "RuntimeError.__new__", "RuntimeError.__init__", "RuntimeError", "RuntimeError", false, ini_PairBroken⟩
def mi_RuleBroken : MkI := ⟨"RuleBroken", "RuleBroken.__init__", "RuntimeError", "RuntimeError.__new__", "RuntimeError.__init__", "RuntimeError", "RuntimeError", false, ini_RuleBroken⟩
def mi_TooMany : MkI := ⟨"TooMany", "TooMany.__init__", "ArithmeticError", "ArithmeticError.__new__", "ArithmeticError.__init__", "ArithmeticError", "ArithmeticError", false, ini_TooMany⟩
def mi_UnknownName : MkI := ⟨"UnknownName", "UnknownName.__init__", "LookupError", "LookupError.__new__", "LookupError.__init__", "LookupError", "LookupError", false, ini_UnknownName⟩
def mi_UnknownPlace : MkI := ⟨"UnknownPlace", "UnknownPlace.__init__", "LookupError", "LookupError.__new__", "LookupError.__init__", "LookupError", "LookupError", false, ini_UnknownPlace⟩
def mi_UnknownTable : MkI := ⟨"UnknownTable", "UnknownTable.__init__", "LookupError", "LookupError.__new__", "LookupError.__init__", "LookupError", "LookupError", false, ini_UnknownTable⟩
def mi_Unlike : MkI := ⟨"Unlike", "Unlike.__init__", "RuntimeError", "RuntimeError.__new__", "RuntimeError.__init__", "RuntimeError", "RuntimeError", false, ini_Unlike⟩
def mkL : List MkI := mi_Apart :: mi_InUse :: mi_InvalidColumns :: mi_InvalidCommand :: mi_InvalidCount :: mi_InvalidName :: mi_InvalidOffer :: mi_InvalidOrder :: mi_InvalidPlan :: mi_InvalidQuery :: mi_InvalidQuestion :: mi_InvalidRow :: mi_InvalidRule :: mi_InvalidTable :: mi_InvalidText :: mi_InvalidToken :: mi_InvalidValue :: mi_InvalidVector :: mi_InvalidWrite :: mi_NameTaken :: mi_NotServing :: mi_OutOfOrder :: mi_PairBroken :: mi_RuleBroken :: mi_TooMany :: mi_UnknownName :: mi_UnknownPlace :: mi_UnknownTable :: mi_Unlike :: []
def gkL : List (Str × D) := []
def cxL : List Str := "Apart" :: "InUse" :: "InvalidColumns" :: "InvalidCommand" :: "InvalidCount" :: "InvalidName" :: "InvalidOffer" :: "InvalidOrder" :: "InvalidPlan" :: "InvalidQuery" :: "InvalidQuestion" :: "InvalidRow" :: "InvalidRule" :: "InvalidTable" :: "InvalidText" :: "InvalidToken" :: "InvalidValue" :: "InvalidVector" :: "InvalidWrite" :: "NameTaken" :: "NotServing" :: "OutOfOrder" :: "PairBroken" :: "PairError" :: "RuleBroken" :: "TooMany" :: "UnknownName" :: "UnknownPlace" :: "UnknownTable" :: "Unlike" :: []
def frL : List Str := "ArithmeticError" :: "LookupError" :: "RuntimeError" :: "ValueError" :: "abs" :: "divmod" :: "enumerate" :: "int" :: "isinstance" :: "len" :: "max" :: "min" :: "range" :: "repr" :: []
def spB (K : PySem.W.Frag) : Bool := (PySem.W.specialIn K (.builtin "object.__class__") "__get__" == some (some (.builtin "getset_descriptor.__get__"))) && (PySem.W.takesIn K (.builtin "object.__class__") == some true) && (PySem.W.subIn K (.type "ArithmeticError") (.type "BaseException") == some true) && (PySem.W.subIn K (.type "LookupError") (.type "BaseException") == some true) && (PySem.W.subIn K (.type "RuntimeError") (.type "BaseException") == some true) && (PySem.W.subIn K (.type "ValueError") (.type "BaseException") == some true)
def f1 (K : PySem.W.Frag) : Bool := (defL.all fun d => dfB K d.1) && gkL.all (gkB K) && cxL.all (cxB K) && frL.all (frB K)
def f2 (K : PySem.W.Frag) : Bool := mkL.all (mkB K) && mkL.all (bsB K) && spB K && madeL.all (errB K T.fld)
def f3 (K : PySem.W.Frag) : Bool := (clAll clR askL).all (clB K) && xclL.all (xclB K) && askL.all (askB K)
abbrev fb (K : PySem.W.Frag) : Bool := f1 K && (f2 K && f3 K)
theorem all_H {P : Program} {w : World} {K : PySem.W.Frag} {h : Heap} {mg : Str → Option Value} {fa : Addr} (X : K.In h) (G : h.Ns mainGlobals mg) (hfa : mg "law" = some (.ref fa)) (c : Says fb defL mkL K)
    : ∃ fd : FuncData, (∀ (s : Shared) (u : Value), BindsTo s fd ⟨[u], []⟩ [("_law_script", u)]) ∧ ∀ base : Heap, K.In base → base.Ns mainGlobals mg → FnG P w K mg base true 8 fa fd ["_law_script"] (spF K (fun c => .ref (adr K c)) pg 8 12) := by
  have hfb := c.fb
  unfold fb f1 f2 f3 at hfb
  simp only [and_iff2] at hfb
  obtain ⟨⟨⟨⟨hD, hG⟩, hX⟩, hF⟩, ⟨⟨⟨hM, hB⟩, hS⟩, allE⟩, ⟨allC, allX⟩, allA⟩ := hfb
  unfold spB at hS
  simp only [and_iff2, beq_iff_eq] at hS
  obtain ⟨⟨⟨⟨⟨hsp0, htk0⟩, ys_ArithmeticError⟩, ys_LookupError⟩, ys_RuntimeError⟩, ys_ValueError⟩ := hS
  obtain ⟨f0, od0, an0, sl0, oc0, kV0, dc0, pm0, cd0, ct0, a0, l0, c0, k0⟩ := def_of (x := "_law_rng") (st := s__law_rng) (List.all_eq_true.mp hD ("_law_rng", s__law_rng) (List.mem_of_getElem? (i := 0) rfl)) (c.def (i := 0) rfl)
  obtain ⟨f1, od1, an1, sl1, oc1, kV1, dc1, pm1, cd1, ct1, a1, l1, c1, k1⟩ := def_of (x := "_law_draw") (st := s__law_draw) (List.all_eq_true.mp hD ("_law_draw", s__law_draw) (List.mem_of_getElem? (i := 1) rfl)) (c.def (i := 1) rfl)
  obtain ⟨f2, od2, an2, sl2, oc2, kV2, dc2, pm2, cd2, ct2, a2, l2, c2, k2⟩ := def_of (x := "_law_choice") (st := s__law_choice) (List.all_eq_true.mp hD ("_law_choice", s__law_choice) (List.mem_of_getElem? (i := 2) rfl)) (c.def (i := 2) rfl)
  obtain ⟨f3, od3, an3, sl3, oc3, kV3, dc3, pm3, cd3, ct3, a3, l3, c3, k3⟩ := def_of (x := "_law_thing") (st := s__law_thing) (List.all_eq_true.mp hD ("_law_thing", s__law_thing) (List.mem_of_getElem? (i := 3) rfl)) (c.def (i := 3) rfl)
  obtain ⟨f4, od4, an4, sl4, oc4, kV4, dc4, pm4, cd4, ct4, a4, l4, c4, k4⟩ := def_of (x := "_law_by_position") (st := s__law_by_position) (List.all_eq_true.mp hD ("_law_by_position", s__law_by_position) (List.mem_of_getElem? (i := 4) rfl)) (c.def (i := 4) rfl)
  obtain ⟨f5, od5, an5, sl5, oc5, kV5, dc5, pm5, cd5, ct5, a5, l5, c5, k5⟩ := def_of (x := "_law_by_name") (st := s__law_by_name) (List.all_eq_true.mp hD ("_law_by_name", s__law_by_name) (List.mem_of_getElem? (i := 5) rfl)) (c.def (i := 5) rfl)
  obtain ⟨f6, od6, an6, sl6, oc6, kV6, dc6, pm6, cd6, ct6, a6, l6, c6, k6⟩ := def_of (x := "_law_classes") (st := s__law_classes) (List.all_eq_true.mp hD ("_law_classes", s__law_classes) (List.mem_of_getElem? (i := 6) rfl)) (c.def (i := 6) rfl)
  obtain ⟨f7, od7, an7, sl7, oc7, kV7, dc7, pm7, cd7, ct7, a7, l7, c7, k7⟩ := def_of (x := "_law_fields") (st := s__law_fields) (List.all_eq_true.mp hD ("_law_fields", s__law_fields) (List.mem_of_getElem? (i := 7) rfl)) (c.def (i := 7) rfl)
  obtain ⟨f8, od8, an8, sl8, oc8, kV8, dc8, pm8, cd8, ct8, a8, l8, c8, k8⟩ := def_of (x := "_law_bases") (st := s__law_bases) (List.all_eq_true.mp hD ("_law_bases", s__law_bases) (List.mem_of_getElem? (i := 8) rfl)) (c.def (i := 8) rfl)
  obtain ⟨f9, od9, an9, sl9, oc9, kV9, dc9, pm9, cd9, ct9, a9, l9, c9, k9⟩ := def_of (x := "_law_due_bases") (st := s__law_due_bases) (List.all_eq_true.mp hD ("_law_due_bases", s__law_due_bases) (List.mem_of_getElem? (i := 9) rfl)) (c.def (i := 9) rfl)
  obtain ⟨f10, od10, an10, sl10, oc10, kV10, dc10, pm10, cd10, ct10, a10, l10, c10, k10⟩ := def_of (x := "_law_due_fields") (st := s__law_due_fields) (List.all_eq_true.mp hD ("_law_due_fields", s__law_due_fields) (List.mem_of_getElem? (i := 10) rfl)) (c.def (i := 10) rfl)
  obtain ⟨f11, od11, an11, sl11, oc11, kV11, dc11, pm11, cd11, ct11, a11, l11, c11, k11⟩ := def_of (x := "_law_right") (st := s__law_right) (List.all_eq_true.mp hD ("_law_right", s__law_right) (List.mem_of_getElem? (i := 11) rfl)) (c.def (i := 11) rfl)
  obtain ⟨f12, od12, an12, sl12, oc12, kV12, dc12, pm12, cd12, ct12, a12, l12, c12, k12⟩ := def_of (x := "law") (st := s_law) (List.all_eq_true.mp hD ("law", s_law) (List.mem_of_getElem? (i := 12) rfl)) (c.def (i := 12) rfl)
  obtain ⟨A_Apart, eA_Apart, q_Apart, qs_Apart, qc_Apart, qt_Apart⟩ := cx_of (List.all_eq_true.mp hX "Apart" (List.mem_of_getElem? (i := 0) rfl))
  obtain ⟨A_InUse, eA_InUse, q_InUse, qs_InUse, qc_InUse, qt_InUse⟩ := cx_of (List.all_eq_true.mp hX "InUse" (List.mem_of_getElem? (i := 1) rfl))
  obtain ⟨A_InvalidColumns, eA_InvalidColumns, q_InvalidColumns, qs_InvalidColumns, qc_InvalidColumns, qt_InvalidColumns⟩ := cx_of (List.all_eq_true.mp hX "InvalidColumns" (List.mem_of_getElem? (i := 2) rfl))
  obtain ⟨A_InvalidCommand, eA_InvalidCommand, q_InvalidCommand, qs_InvalidCommand, qc_InvalidCommand, qt_InvalidCommand⟩ := cx_of (List.all_eq_true.mp hX "InvalidCommand" (List.mem_of_getElem? (i := 3) rfl))
  obtain ⟨A_InvalidCount, eA_InvalidCount, q_InvalidCount, qs_InvalidCount, qc_InvalidCount, qt_InvalidCount⟩ := cx_of (List.all_eq_true.mp hX "InvalidCount" (List.mem_of_getElem? (i := 4) rfl))
  obtain ⟨A_InvalidName, eA_InvalidName, q_InvalidName, qs_InvalidName, qc_InvalidName, qt_InvalidName⟩ := cx_of (List.all_eq_true.mp hX "InvalidName" (List.mem_of_getElem? (i := 5) rfl))
  obtain ⟨A_InvalidOffer, eA_InvalidOffer, q_InvalidOffer, qs_InvalidOffer, qc_InvalidOffer, qt_InvalidOffer⟩ := cx_of (List.all_eq_true.mp hX "InvalidOffer" (List.mem_of_getElem? (i := 6) rfl))
  obtain ⟨A_InvalidOrder, eA_InvalidOrder, q_InvalidOrder, qs_InvalidOrder, qc_InvalidOrder, qt_InvalidOrder⟩ := cx_of (List.all_eq_true.mp hX "InvalidOrder" (List.mem_of_getElem? (i := 7) rfl))
  obtain ⟨A_InvalidPlan, eA_InvalidPlan, q_InvalidPlan, qs_InvalidPlan, qc_InvalidPlan, qt_InvalidPlan⟩ := cx_of (List.all_eq_true.mp hX "InvalidPlan" (List.mem_of_getElem? (i := 8) rfl))
  obtain ⟨A_InvalidQuery, eA_InvalidQuery, q_InvalidQuery, qs_InvalidQuery, qc_InvalidQuery, qt_InvalidQuery⟩ := cx_of (List.all_eq_true.mp hX "InvalidQuery" (List.mem_of_getElem? (i := 9) rfl))
  obtain ⟨A_InvalidQuestion, eA_InvalidQuestion, q_InvalidQuestion, qs_InvalidQuestion, qc_InvalidQuestion, qt_InvalidQuestion⟩ := cx_of (List.all_eq_true.mp hX "InvalidQuestion" (List.mem_of_getElem? (i := 10) rfl))
  obtain ⟨A_InvalidRow, eA_InvalidRow, q_InvalidRow, qs_InvalidRow, qc_InvalidRow, qt_InvalidRow⟩ := cx_of (List.all_eq_true.mp hX "InvalidRow" (List.mem_of_getElem? (i := 11) rfl))
  obtain ⟨A_InvalidRule, eA_InvalidRule, q_InvalidRule, qs_InvalidRule, qc_InvalidRule, qt_InvalidRule⟩ := cx_of (List.all_eq_true.mp hX "InvalidRule" (List.mem_of_getElem? (i := 12) rfl))
  obtain ⟨A_InvalidTable, eA_InvalidTable, q_InvalidTable, qs_InvalidTable, qc_InvalidTable, qt_InvalidTable⟩ := cx_of (List.all_eq_true.mp hX "InvalidTable" (List.mem_of_getElem? (i := 13) rfl))
  obtain ⟨A_InvalidText, eA_InvalidText, q_InvalidText, qs_InvalidText, qc_InvalidText, qt_InvalidText⟩ := cx_of (List.all_eq_true.mp hX "InvalidText" (List.mem_of_getElem? (i := 14) rfl))
  obtain ⟨A_InvalidToken, eA_InvalidToken, q_InvalidToken, qs_InvalidToken, qc_InvalidToken, qt_InvalidToken⟩ := cx_of (List.all_eq_true.mp hX "InvalidToken" (List.mem_of_getElem? (i := 15) rfl))
  obtain ⟨A_InvalidValue, eA_InvalidValue, q_InvalidValue, qs_InvalidValue, qc_InvalidValue, qt_InvalidValue⟩ := cx_of (List.all_eq_true.mp hX "InvalidValue" (List.mem_of_getElem? (i := 16) rfl))
  obtain ⟨A_InvalidVector, eA_InvalidVector, q_InvalidVector, qs_InvalidVector, qc_InvalidVector, qt_InvalidVector⟩ := cx_of (List.all_eq_true.mp hX "InvalidVector" (List.mem_of_getElem? (i := 17) rfl))
  obtain ⟨A_InvalidWrite, eA_InvalidWrite, q_InvalidWrite, qs_InvalidWrite, qc_InvalidWrite, qt_InvalidWrite⟩ := cx_of (List.all_eq_true.mp hX "InvalidWrite" (List.mem_of_getElem? (i := 18) rfl))
  obtain ⟨A_NameTaken, eA_NameTaken, q_NameTaken, qs_NameTaken, qc_NameTaken, qt_NameTaken⟩ := cx_of (List.all_eq_true.mp hX "NameTaken" (List.mem_of_getElem? (i := 19) rfl))
  obtain ⟨A_NotServing, eA_NotServing, q_NotServing, qs_NotServing, qc_NotServing, qt_NotServing⟩ := cx_of (List.all_eq_true.mp hX "NotServing" (List.mem_of_getElem? (i := 20) rfl))
  obtain ⟨A_OutOfOrder, eA_OutOfOrder, q_OutOfOrder, qs_OutOfOrder, qc_OutOfOrder, qt_OutOfOrder⟩ := cx_of (List.all_eq_true.mp hX "OutOfOrder" (List.mem_of_getElem? (i := 21) rfl))
  obtain ⟨A_PairBroken, eA_PairBroken, q_PairBroken, qs_PairBroken, qc_PairBroken, qt_PairBroken⟩ := cx_of (List.all_eq_true.mp hX "PairBroken" (List.mem_of_getElem? (i := 22) rfl))
  obtain ⟨A_PairError, eA_PairError, q_PairError, qs_PairError, qc_PairError, qt_PairError⟩ := cx_of (List.all_eq_true.mp hX "PairError" (List.mem_of_getElem? (i := 23) rfl))
  obtain ⟨A_RuleBroken, eA_RuleBroken, q_RuleBroken, qs_RuleBroken, qc_RuleBroken, qt_RuleBroken⟩ := cx_of (List.all_eq_true.mp hX "RuleBroken" (List.mem_of_getElem? (i := 24) rfl))
  obtain ⟨A_TooMany, eA_TooMany, q_TooMany, qs_TooMany, qc_TooMany, qt_TooMany⟩ := cx_of (List.all_eq_true.mp hX "TooMany" (List.mem_of_getElem? (i := 25) rfl))
  obtain ⟨A_UnknownName, eA_UnknownName, q_UnknownName, qs_UnknownName, qc_UnknownName, qt_UnknownName⟩ := cx_of (List.all_eq_true.mp hX "UnknownName" (List.mem_of_getElem? (i := 26) rfl))
  obtain ⟨A_UnknownPlace, eA_UnknownPlace, q_UnknownPlace, qs_UnknownPlace, qc_UnknownPlace, qt_UnknownPlace⟩ := cx_of (List.all_eq_true.mp hX "UnknownPlace" (List.mem_of_getElem? (i := 27) rfl))
  obtain ⟨A_UnknownTable, eA_UnknownTable, q_UnknownTable, qs_UnknownTable, qc_UnknownTable, qt_UnknownTable⟩ := cx_of (List.all_eq_true.mp hX "UnknownTable" (List.mem_of_getElem? (i := 28) rfl))
  obtain ⟨A_Unlike, eA_Unlike, q_Unlike, qs_Unlike, qc_Unlike, qt_Unlike⟩ := cx_of (List.all_eq_true.mp hX "Unlike" (List.mem_of_getElem? (i := 29) rfl))
  have z_ArithmeticError : PySem.W.nsIn K mainGlobals "ArithmeticError" = some none := beq_iff_eq.mp (List.all_eq_true.mp hF "ArithmeticError" (List.mem_of_getElem? (i := 0) rfl))
  have z_LookupError : PySem.W.nsIn K mainGlobals "LookupError" = some none := beq_iff_eq.mp (List.all_eq_true.mp hF "LookupError" (List.mem_of_getElem? (i := 1) rfl))
  have z_RuntimeError : PySem.W.nsIn K mainGlobals "RuntimeError" = some none := beq_iff_eq.mp (List.all_eq_true.mp hF "RuntimeError" (List.mem_of_getElem? (i := 2) rfl))
  have z_ValueError : PySem.W.nsIn K mainGlobals "ValueError" = some none := beq_iff_eq.mp (List.all_eq_true.mp hF "ValueError" (List.mem_of_getElem? (i := 3) rfl))
  have z_abs : PySem.W.nsIn K mainGlobals "abs" = some none := beq_iff_eq.mp (List.all_eq_true.mp hF "abs" (List.mem_of_getElem? (i := 4) rfl))
  have z_divmod : PySem.W.nsIn K mainGlobals "divmod" = some none := beq_iff_eq.mp (List.all_eq_true.mp hF "divmod" (List.mem_of_getElem? (i := 5) rfl))
  have z_enumerate : PySem.W.nsIn K mainGlobals "enumerate" = some none := beq_iff_eq.mp (List.all_eq_true.mp hF "enumerate" (List.mem_of_getElem? (i := 6) rfl))
  have z_int : PySem.W.nsIn K mainGlobals "int" = some none := beq_iff_eq.mp (List.all_eq_true.mp hF "int" (List.mem_of_getElem? (i := 7) rfl))
  have z_isinstance : PySem.W.nsIn K mainGlobals "isinstance" = some none := beq_iff_eq.mp (List.all_eq_true.mp hF "isinstance" (List.mem_of_getElem? (i := 8) rfl))
  have z_len : PySem.W.nsIn K mainGlobals "len" = some none := beq_iff_eq.mp (List.all_eq_true.mp hF "len" (List.mem_of_getElem? (i := 9) rfl))
  have z_max : PySem.W.nsIn K mainGlobals "max" = some none := beq_iff_eq.mp (List.all_eq_true.mp hF "max" (List.mem_of_getElem? (i := 10) rfl))
  have z_min : PySem.W.nsIn K mainGlobals "min" = some none := beq_iff_eq.mp (List.all_eq_true.mp hF "min" (List.mem_of_getElem? (i := 11) rfl))
  have z_range : PySem.W.nsIn K mainGlobals "range" = some none := beq_iff_eq.mp (List.all_eq_true.mp hF "range" (List.mem_of_getElem? (i := 12) rfl))
  have z_repr : PySem.W.nsIn K mainGlobals "repr" = some none := beq_iff_eq.mp (List.all_eq_true.mp hF "repr" (List.mem_of_getElem? (i := 13) rfl))
  have y_ArithmeticError := z_ArithmeticError
  have y_LookupError := z_LookupError
  have y_RuntimeError := z_RuntimeError
  have y_ValueError := z_ValueError
  have b0_Apart := List.all_eq_true.mp hB mi_Apart (List.mem_of_getElem? (i := 0) rfl)
  have m0_Apart := mk_of (i := mi_Apart) (List.all_eq_true.mp hM mi_Apart (List.mem_of_getElem? (i := 0) rfl)) (c.mk' (j := 0) rfl)
  rw [show He.ga K (mi_Apart).c = A_Apart from eA_Apart.symm] at m0_Apart
  obtain ⟨i_Apart, iod_Apart, ian_Apart, isl_Apart, ioc_Apart, ikV_Apart, idc_Apart, ipm_Apart, icd_Apart, ict_Apart, nm_Apart, qn_Apart, N_Apart, bs_Apart, bm_Apart, sn_Apart, sub_Apart, ab_Apart, col_Apart, dd_Apart, mm0_Apart, mm1_Apart, mm2_Apart, mm3_Apart, mm5_Apart, x_Apart, bm_Apart', kc_Apart, ii_Apart, it_Apart, il_Apart, ic_Apart, ik_Apart, sa_Apart⟩ := m0_Apart
  have vv_Apart := bs_blt b0_Apart rfl
  have b0_InUse := List.all_eq_true.mp hB mi_InUse (List.mem_of_getElem? (i := 1) rfl)
  have m0_InUse := mk_of (i := mi_InUse) (List.all_eq_true.mp hM mi_InUse (List.mem_of_getElem? (i := 1) rfl)) (c.mk' (j := 1) rfl)
  rw [show He.ga K (mi_InUse).c = A_InUse from eA_InUse.symm] at m0_InUse
  obtain ⟨i_InUse, iod_InUse, ian_InUse, isl_InUse, ioc_InUse, ikV_InUse, idc_InUse, ipm_InUse, icd_InUse, ict_InUse, nm_InUse, qn_InUse, N_InUse, bs_InUse, bm_InUse, sn_InUse, sub_InUse, ab_InUse, col_InUse, dd_InUse, mm0_InUse, mm1_InUse, mm2_InUse, mm3_InUse, mm5_InUse, x_InUse, bm_InUse', kc_InUse, ii_InUse, it_InUse, il_InUse, ic_InUse, ik_InUse, sa_InUse⟩ := m0_InUse
  have vv_InUse := bs_blt b0_InUse rfl
  have b0_InvalidColumns := List.all_eq_true.mp hB mi_InvalidColumns (List.mem_of_getElem? (i := 2) rfl)
  have m0_InvalidColumns := mk_of (i := mi_InvalidColumns) (List.all_eq_true.mp hM mi_InvalidColumns (List.mem_of_getElem? (i := 2) rfl)) (c.mk' (j := 2) rfl)
  rw [show He.ga K (mi_InvalidColumns).c = A_InvalidColumns from eA_InvalidColumns.symm] at m0_InvalidColumns
  obtain ⟨i_InvalidColumns, iod_InvalidColumns, ian_InvalidColumns, isl_InvalidColumns, ioc_InvalidColumns, ikV_InvalidColumns, idc_InvalidColumns, ipm_InvalidColumns, icd_InvalidColumns, ict_InvalidColumns, nm_InvalidColumns, qn_InvalidColumns, N_InvalidColumns, bs_InvalidColumns, bm_InvalidColumns, sn_InvalidColumns, sub_InvalidColumns, ab_InvalidColumns, col_InvalidColumns, dd_InvalidColumns, mm0_InvalidColumns, mm1_InvalidColumns, mm2_InvalidColumns, mm3_InvalidColumns, mm5_InvalidColumns, x_InvalidColumns, bm_InvalidColumns', kc_InvalidColumns, ii_InvalidColumns, it_InvalidColumns, il_InvalidColumns, ic_InvalidColumns, ik_InvalidColumns, sa_InvalidColumns⟩ := m0_InvalidColumns
  obtain ⟨sg_InvalidColumns, rd_InvalidColumns, vv_InvalidColumns⟩ := bs_own b0_InvalidColumns rfl
  rw [show He.ga K (mi_InvalidColumns).base = A_PairError from eA_PairError.symm] at sg_InvalidColumns rd_InvalidColumns vv_InvalidColumns
  have b0_InvalidCommand := List.all_eq_true.mp hB mi_InvalidCommand (List.mem_of_getElem? (i := 3) rfl)
  have m0_InvalidCommand := mk_of (i := mi_InvalidCommand) (List.all_eq_true.mp hM mi_InvalidCommand (List.mem_of_getElem? (i := 3) rfl)) (c.mk' (j := 3) rfl)
  rw [show He.ga K (mi_InvalidCommand).c = A_InvalidCommand from eA_InvalidCommand.symm] at m0_InvalidCommand
  obtain ⟨i_InvalidCommand, iod_InvalidCommand, ian_InvalidCommand, isl_InvalidCommand, ioc_InvalidCommand, ikV_InvalidCommand, idc_InvalidCommand, ipm_InvalidCommand, icd_InvalidCommand, ict_InvalidCommand, nm_InvalidCommand, qn_InvalidCommand, N_InvalidCommand, bs_InvalidCommand, bm_InvalidCommand, sn_InvalidCommand, sub_InvalidCommand, ab_InvalidCommand, col_InvalidCommand, dd_InvalidCommand, mm0_InvalidCommand, mm1_InvalidCommand, mm2_InvalidCommand, mm3_InvalidCommand, mm5_InvalidCommand, x_InvalidCommand, bm_InvalidCommand', kc_InvalidCommand, ii_InvalidCommand, it_InvalidCommand, il_InvalidCommand, ic_InvalidCommand, ik_InvalidCommand, sa_InvalidCommand⟩ := m0_InvalidCommand
  obtain ⟨sg_InvalidCommand, rd_InvalidCommand, vv_InvalidCommand⟩ := bs_own b0_InvalidCommand rfl
  rw [show He.ga K (mi_InvalidCommand).base = A_PairError from eA_PairError.symm] at sg_InvalidCommand rd_InvalidCommand vv_InvalidCommand
  have b0_InvalidCount := List.all_eq_true.mp hB mi_InvalidCount (List.mem_of_getElem? (i := 4) rfl)
  have m0_InvalidCount := mk_of (i := mi_InvalidCount) (List.all_eq_true.mp hM mi_InvalidCount (List.mem_of_getElem? (i := 4) rfl)) (c.mk' (j := 4) rfl)
  rw [show He.ga K (mi_InvalidCount).c = A_InvalidCount from eA_InvalidCount.symm] at m0_InvalidCount
  obtain ⟨i_InvalidCount, iod_InvalidCount, ian_InvalidCount, isl_InvalidCount, ioc_InvalidCount, ikV_InvalidCount, idc_InvalidCount, ipm_InvalidCount, icd_InvalidCount, ict_InvalidCount, nm_InvalidCount, qn_InvalidCount, N_InvalidCount, bs_InvalidCount, bm_InvalidCount, sn_InvalidCount, sub_InvalidCount, ab_InvalidCount, col_InvalidCount, dd_InvalidCount, mm0_InvalidCount, mm1_InvalidCount, mm2_InvalidCount, mm3_InvalidCount, mm5_InvalidCount, x_InvalidCount, bm_InvalidCount', kc_InvalidCount, ii_InvalidCount, it_InvalidCount, il_InvalidCount, ic_InvalidCount, ik_InvalidCount, sa_InvalidCount⟩ := m0_InvalidCount
  obtain ⟨sg_InvalidCount, rd_InvalidCount, vv_InvalidCount⟩ := bs_own b0_InvalidCount rfl
  rw [show He.ga K (mi_InvalidCount).base = A_PairError from eA_PairError.symm] at sg_InvalidCount rd_InvalidCount vv_InvalidCount
  have b0_InvalidName := List.all_eq_true.mp hB mi_InvalidName (List.mem_of_getElem? (i := 5) rfl)
  have m0_InvalidName := mk_of (i := mi_InvalidName) (List.all_eq_true.mp hM mi_InvalidName (List.mem_of_getElem? (i := 5) rfl)) (c.mk' (j := 5) rfl)
  rw [show He.ga K (mi_InvalidName).c = A_InvalidName from eA_InvalidName.symm] at m0_InvalidName
  obtain ⟨i_InvalidName, iod_InvalidName, ian_InvalidName, isl_InvalidName, ioc_InvalidName, ikV_InvalidName, idc_InvalidName, ipm_InvalidName, icd_InvalidName, ict_InvalidName, nm_InvalidName, qn_InvalidName, N_InvalidName, bs_InvalidName, bm_InvalidName, sn_InvalidName, sub_InvalidName, ab_InvalidName, col_InvalidName, dd_InvalidName, mm0_InvalidName, mm1_InvalidName, mm2_InvalidName, mm3_InvalidName, mm5_InvalidName, x_InvalidName, bm_InvalidName', kc_InvalidName, ii_InvalidName, it_InvalidName, il_InvalidName, ic_InvalidName, ik_InvalidName, sa_InvalidName⟩ := m0_InvalidName
  obtain ⟨sg_InvalidName, rd_InvalidName, vv_InvalidName⟩ := bs_own b0_InvalidName rfl
  rw [show He.ga K (mi_InvalidName).base = A_PairError from eA_PairError.symm] at sg_InvalidName rd_InvalidName vv_InvalidName
  have b0_InvalidOffer := List.all_eq_true.mp hB mi_InvalidOffer (List.mem_of_getElem? (i := 6) rfl)
  have m0_InvalidOffer := mk_of (i := mi_InvalidOffer) (List.all_eq_true.mp hM mi_InvalidOffer (List.mem_of_getElem? (i := 6) rfl)) (c.mk' (j := 6) rfl)
  rw [show He.ga K (mi_InvalidOffer).c = A_InvalidOffer from eA_InvalidOffer.symm] at m0_InvalidOffer
  obtain ⟨i_InvalidOffer, iod_InvalidOffer, ian_InvalidOffer, isl_InvalidOffer, ioc_InvalidOffer, ikV_InvalidOffer, idc_InvalidOffer, ipm_InvalidOffer, icd_InvalidOffer, ict_InvalidOffer, nm_InvalidOffer, qn_InvalidOffer, N_InvalidOffer, bs_InvalidOffer, bm_InvalidOffer, sn_InvalidOffer, sub_InvalidOffer, ab_InvalidOffer, col_InvalidOffer, dd_InvalidOffer, mm0_InvalidOffer, mm1_InvalidOffer, mm2_InvalidOffer, mm3_InvalidOffer, mm5_InvalidOffer, x_InvalidOffer, bm_InvalidOffer', kc_InvalidOffer, ii_InvalidOffer, it_InvalidOffer, il_InvalidOffer, ic_InvalidOffer, ik_InvalidOffer, sa_InvalidOffer⟩ := m0_InvalidOffer
  obtain ⟨sg_InvalidOffer, rd_InvalidOffer, vv_InvalidOffer⟩ := bs_own b0_InvalidOffer rfl
  rw [show He.ga K (mi_InvalidOffer).base = A_PairError from eA_PairError.symm] at sg_InvalidOffer rd_InvalidOffer vv_InvalidOffer
  have b0_InvalidOrder := List.all_eq_true.mp hB mi_InvalidOrder (List.mem_of_getElem? (i := 7) rfl)
  have m0_InvalidOrder := mk_of (i := mi_InvalidOrder) (List.all_eq_true.mp hM mi_InvalidOrder (List.mem_of_getElem? (i := 7) rfl)) (c.mk' (j := 7) rfl)
  rw [show He.ga K (mi_InvalidOrder).c = A_InvalidOrder from eA_InvalidOrder.symm] at m0_InvalidOrder
  obtain ⟨i_InvalidOrder, iod_InvalidOrder, ian_InvalidOrder, isl_InvalidOrder, ioc_InvalidOrder, ikV_InvalidOrder, idc_InvalidOrder, ipm_InvalidOrder, icd_InvalidOrder, ict_InvalidOrder, nm_InvalidOrder, qn_InvalidOrder, N_InvalidOrder, bs_InvalidOrder, bm_InvalidOrder, sn_InvalidOrder, sub_InvalidOrder, ab_InvalidOrder, col_InvalidOrder, dd_InvalidOrder, mm0_InvalidOrder, mm1_InvalidOrder, mm2_InvalidOrder, mm3_InvalidOrder, mm5_InvalidOrder, x_InvalidOrder, bm_InvalidOrder', kc_InvalidOrder, ii_InvalidOrder, it_InvalidOrder, il_InvalidOrder, ic_InvalidOrder, ik_InvalidOrder, sa_InvalidOrder⟩ := m0_InvalidOrder
  obtain ⟨sg_InvalidOrder, rd_InvalidOrder, vv_InvalidOrder⟩ := bs_own b0_InvalidOrder rfl
  rw [show He.ga K (mi_InvalidOrder).base = A_PairError from eA_PairError.symm] at sg_InvalidOrder rd_InvalidOrder vv_InvalidOrder
  have b0_InvalidPlan := List.all_eq_true.mp hB mi_InvalidPlan (List.mem_of_getElem? (i := 8) rfl)
  have m0_InvalidPlan := mk_of (i := mi_InvalidPlan) (List.all_eq_true.mp hM mi_InvalidPlan (List.mem_of_getElem? (i := 8) rfl)) (c.mk' (j := 8) rfl)
  rw [show He.ga K (mi_InvalidPlan).c = A_InvalidPlan from eA_InvalidPlan.symm] at m0_InvalidPlan
  obtain ⟨i_InvalidPlan, iod_InvalidPlan, ian_InvalidPlan, isl_InvalidPlan, ioc_InvalidPlan, ikV_InvalidPlan, idc_InvalidPlan, ipm_InvalidPlan, icd_InvalidPlan, ict_InvalidPlan, nm_InvalidPlan, qn_InvalidPlan, N_InvalidPlan, bs_InvalidPlan, bm_InvalidPlan, sn_InvalidPlan, sub_InvalidPlan, ab_InvalidPlan, col_InvalidPlan, dd_InvalidPlan, mm0_InvalidPlan, mm1_InvalidPlan, mm2_InvalidPlan, mm3_InvalidPlan, mm5_InvalidPlan, x_InvalidPlan, bm_InvalidPlan', kc_InvalidPlan, ii_InvalidPlan, it_InvalidPlan, il_InvalidPlan, ic_InvalidPlan, ik_InvalidPlan, sa_InvalidPlan⟩ := m0_InvalidPlan
  obtain ⟨sg_InvalidPlan, rd_InvalidPlan, vv_InvalidPlan⟩ := bs_own b0_InvalidPlan rfl
  rw [show He.ga K (mi_InvalidPlan).base = A_PairError from eA_PairError.symm] at sg_InvalidPlan rd_InvalidPlan vv_InvalidPlan
  have b0_InvalidQuery := List.all_eq_true.mp hB mi_InvalidQuery (List.mem_of_getElem? (i := 9) rfl)
  have m0_InvalidQuery := mk_of (i := mi_InvalidQuery) (List.all_eq_true.mp hM mi_InvalidQuery (List.mem_of_getElem? (i := 9) rfl)) (c.mk' (j := 9) rfl)
  rw [show He.ga K (mi_InvalidQuery).c = A_InvalidQuery from eA_InvalidQuery.symm] at m0_InvalidQuery
  obtain ⟨i_InvalidQuery, iod_InvalidQuery, ian_InvalidQuery, isl_InvalidQuery, ioc_InvalidQuery, ikV_InvalidQuery, idc_InvalidQuery, ipm_InvalidQuery, icd_InvalidQuery, ict_InvalidQuery, nm_InvalidQuery, qn_InvalidQuery, N_InvalidQuery, bs_InvalidQuery, bm_InvalidQuery, sn_InvalidQuery, sub_InvalidQuery, ab_InvalidQuery, col_InvalidQuery, dd_InvalidQuery, mm0_InvalidQuery, mm1_InvalidQuery, mm2_InvalidQuery, mm3_InvalidQuery, mm5_InvalidQuery, x_InvalidQuery, bm_InvalidQuery', kc_InvalidQuery, ii_InvalidQuery, it_InvalidQuery, il_InvalidQuery, ic_InvalidQuery, ik_InvalidQuery, sa_InvalidQuery⟩ := m0_InvalidQuery
  obtain ⟨sg_InvalidQuery, rd_InvalidQuery, vv_InvalidQuery⟩ := bs_own b0_InvalidQuery rfl
  rw [show He.ga K (mi_InvalidQuery).base = A_PairError from eA_PairError.symm] at sg_InvalidQuery rd_InvalidQuery vv_InvalidQuery
  have b0_InvalidQuestion := List.all_eq_true.mp hB mi_InvalidQuestion (List.mem_of_getElem? (i := 10) rfl)
  have m0_InvalidQuestion := mk_of (i := mi_InvalidQuestion) (List.all_eq_true.mp hM mi_InvalidQuestion (List.mem_of_getElem? (i := 10) rfl)) (c.mk' (j := 10) rfl)
  rw [show He.ga K (mi_InvalidQuestion).c = A_InvalidQuestion from eA_InvalidQuestion.symm] at m0_InvalidQuestion
  obtain ⟨i_InvalidQuestion, iod_InvalidQuestion, ian_InvalidQuestion, isl_InvalidQuestion, ioc_InvalidQuestion, ikV_InvalidQuestion, idc_InvalidQuestion, ipm_InvalidQuestion, icd_InvalidQuestion, ict_InvalidQuestion, nm_InvalidQuestion, qn_InvalidQuestion, N_InvalidQuestion, bs_InvalidQuestion, bm_InvalidQuestion, sn_InvalidQuestion, sub_InvalidQuestion, ab_InvalidQuestion, col_InvalidQuestion, dd_InvalidQuestion, mm0_InvalidQuestion, mm1_InvalidQuestion, mm2_InvalidQuestion, mm3_InvalidQuestion, mm5_InvalidQuestion, x_InvalidQuestion, bm_InvalidQuestion', kc_InvalidQuestion, ii_InvalidQuestion, it_InvalidQuestion, il_InvalidQuestion, ic_InvalidQuestion, ik_InvalidQuestion, sa_InvalidQuestion⟩ := m0_InvalidQuestion
  obtain ⟨sg_InvalidQuestion, rd_InvalidQuestion, vv_InvalidQuestion⟩ := bs_own b0_InvalidQuestion rfl
  rw [show He.ga K (mi_InvalidQuestion).base = A_PairError from eA_PairError.symm] at sg_InvalidQuestion rd_InvalidQuestion vv_InvalidQuestion
  have b0_InvalidRow := List.all_eq_true.mp hB mi_InvalidRow (List.mem_of_getElem? (i := 11) rfl)
  have m0_InvalidRow := mk_of (i := mi_InvalidRow) (List.all_eq_true.mp hM mi_InvalidRow (List.mem_of_getElem? (i := 11) rfl)) (c.mk' (j := 11) rfl)
  rw [show He.ga K (mi_InvalidRow).c = A_InvalidRow from eA_InvalidRow.symm] at m0_InvalidRow
  obtain ⟨i_InvalidRow, iod_InvalidRow, ian_InvalidRow, isl_InvalidRow, ioc_InvalidRow, ikV_InvalidRow, idc_InvalidRow, ipm_InvalidRow, icd_InvalidRow, ict_InvalidRow, nm_InvalidRow, qn_InvalidRow, N_InvalidRow, bs_InvalidRow, bm_InvalidRow, sn_InvalidRow, sub_InvalidRow, ab_InvalidRow, col_InvalidRow, dd_InvalidRow, mm0_InvalidRow, mm1_InvalidRow, mm2_InvalidRow, mm3_InvalidRow, mm5_InvalidRow, x_InvalidRow, bm_InvalidRow', kc_InvalidRow, ii_InvalidRow, it_InvalidRow, il_InvalidRow, ic_InvalidRow, ik_InvalidRow, sa_InvalidRow⟩ := m0_InvalidRow
  obtain ⟨sg_InvalidRow, rd_InvalidRow, vv_InvalidRow⟩ := bs_own b0_InvalidRow rfl
  rw [show He.ga K (mi_InvalidRow).base = A_PairError from eA_PairError.symm] at sg_InvalidRow rd_InvalidRow vv_InvalidRow
  have b0_InvalidRule := List.all_eq_true.mp hB mi_InvalidRule (List.mem_of_getElem? (i := 12) rfl)
  have m0_InvalidRule := mk_of (i := mi_InvalidRule) (List.all_eq_true.mp hM mi_InvalidRule (List.mem_of_getElem? (i := 12) rfl)) (c.mk' (j := 12) rfl)
  rw [show He.ga K (mi_InvalidRule).c = A_InvalidRule from eA_InvalidRule.symm] at m0_InvalidRule
  obtain ⟨i_InvalidRule, iod_InvalidRule, ian_InvalidRule, isl_InvalidRule, ioc_InvalidRule, ikV_InvalidRule, idc_InvalidRule, ipm_InvalidRule, icd_InvalidRule, ict_InvalidRule, nm_InvalidRule, qn_InvalidRule, N_InvalidRule, bs_InvalidRule, bm_InvalidRule, sn_InvalidRule, sub_InvalidRule, ab_InvalidRule, col_InvalidRule, dd_InvalidRule, mm0_InvalidRule, mm1_InvalidRule, mm2_InvalidRule, mm3_InvalidRule, mm5_InvalidRule, x_InvalidRule, bm_InvalidRule', kc_InvalidRule, ii_InvalidRule, it_InvalidRule, il_InvalidRule, ic_InvalidRule, ik_InvalidRule, sa_InvalidRule⟩ := m0_InvalidRule
  obtain ⟨sg_InvalidRule, rd_InvalidRule, vv_InvalidRule⟩ := bs_own b0_InvalidRule rfl
  rw [show He.ga K (mi_InvalidRule).base = A_PairError from eA_PairError.symm] at sg_InvalidRule rd_InvalidRule vv_InvalidRule
  have b0_InvalidTable := List.all_eq_true.mp hB mi_InvalidTable (List.mem_of_getElem? (i := 13) rfl)
  have m0_InvalidTable := mk_of (i := mi_InvalidTable) (List.all_eq_true.mp hM mi_InvalidTable (List.mem_of_getElem? (i := 13) rfl)) (c.mk' (j := 13) rfl)
  rw [show He.ga K (mi_InvalidTable).c = A_InvalidTable from eA_InvalidTable.symm] at m0_InvalidTable
  obtain ⟨i_InvalidTable, iod_InvalidTable, ian_InvalidTable, isl_InvalidTable, ioc_InvalidTable, ikV_InvalidTable, idc_InvalidTable, ipm_InvalidTable, icd_InvalidTable, ict_InvalidTable, nm_InvalidTable, qn_InvalidTable, N_InvalidTable, bs_InvalidTable, bm_InvalidTable, sn_InvalidTable, sub_InvalidTable, ab_InvalidTable, col_InvalidTable, dd_InvalidTable, mm0_InvalidTable, mm1_InvalidTable, mm2_InvalidTable, mm3_InvalidTable, mm5_InvalidTable, x_InvalidTable, bm_InvalidTable', kc_InvalidTable, ii_InvalidTable, it_InvalidTable, il_InvalidTable, ic_InvalidTable, ik_InvalidTable, sa_InvalidTable⟩ := m0_InvalidTable
  obtain ⟨sg_InvalidTable, rd_InvalidTable, vv_InvalidTable⟩ := bs_own b0_InvalidTable rfl
  rw [show He.ga K (mi_InvalidTable).base = A_PairError from eA_PairError.symm] at sg_InvalidTable rd_InvalidTable vv_InvalidTable
  have b0_InvalidText := List.all_eq_true.mp hB mi_InvalidText (List.mem_of_getElem? (i := 14) rfl)
  have m0_InvalidText := mk_of (i := mi_InvalidText) (List.all_eq_true.mp hM mi_InvalidText (List.mem_of_getElem? (i := 14) rfl)) (c.mk' (j := 14) rfl)
  rw [show He.ga K (mi_InvalidText).c = A_InvalidText from eA_InvalidText.symm] at m0_InvalidText
  obtain ⟨i_InvalidText, iod_InvalidText, ian_InvalidText, isl_InvalidText, ioc_InvalidText, ikV_InvalidText, idc_InvalidText, ipm_InvalidText, icd_InvalidText, ict_InvalidText, nm_InvalidText, qn_InvalidText, N_InvalidText, bs_InvalidText, bm_InvalidText, sn_InvalidText, sub_InvalidText, ab_InvalidText, col_InvalidText, dd_InvalidText, mm0_InvalidText, mm1_InvalidText, mm2_InvalidText, mm3_InvalidText, mm5_InvalidText, x_InvalidText, bm_InvalidText', kc_InvalidText, ii_InvalidText, it_InvalidText, il_InvalidText, ic_InvalidText, ik_InvalidText, sa_InvalidText⟩ := m0_InvalidText
  obtain ⟨sg_InvalidText, rd_InvalidText, vv_InvalidText⟩ := bs_own b0_InvalidText rfl
  rw [show He.ga K (mi_InvalidText).base = A_PairError from eA_PairError.symm] at sg_InvalidText rd_InvalidText vv_InvalidText
  have b0_InvalidToken := List.all_eq_true.mp hB mi_InvalidToken (List.mem_of_getElem? (i := 15) rfl)
  have m0_InvalidToken := mk_of (i := mi_InvalidToken) (List.all_eq_true.mp hM mi_InvalidToken (List.mem_of_getElem? (i := 15) rfl)) (c.mk' (j := 15) rfl)
  rw [show He.ga K (mi_InvalidToken).c = A_InvalidToken from eA_InvalidToken.symm] at m0_InvalidToken
  obtain ⟨i_InvalidToken, iod_InvalidToken, ian_InvalidToken, isl_InvalidToken, ioc_InvalidToken, ikV_InvalidToken, idc_InvalidToken, ipm_InvalidToken, icd_InvalidToken, ict_InvalidToken, nm_InvalidToken, qn_InvalidToken, N_InvalidToken, bs_InvalidToken, bm_InvalidToken, sn_InvalidToken, sub_InvalidToken, ab_InvalidToken, col_InvalidToken, dd_InvalidToken, mm0_InvalidToken, mm1_InvalidToken, mm2_InvalidToken, mm3_InvalidToken, mm5_InvalidToken, x_InvalidToken, bm_InvalidToken', kc_InvalidToken, ii_InvalidToken, it_InvalidToken, il_InvalidToken, ic_InvalidToken, ik_InvalidToken, sa_InvalidToken⟩ := m0_InvalidToken
  obtain ⟨sg_InvalidToken, rd_InvalidToken, vv_InvalidToken⟩ := bs_own b0_InvalidToken rfl
  rw [show He.ga K (mi_InvalidToken).base = A_PairError from eA_PairError.symm] at sg_InvalidToken rd_InvalidToken vv_InvalidToken
  have b0_InvalidValue := List.all_eq_true.mp hB mi_InvalidValue (List.mem_of_getElem? (i := 16) rfl)
  have m0_InvalidValue := mk_of (i := mi_InvalidValue) (List.all_eq_true.mp hM mi_InvalidValue (List.mem_of_getElem? (i := 16) rfl)) (c.mk' (j := 16) rfl)
  rw [show He.ga K (mi_InvalidValue).c = A_InvalidValue from eA_InvalidValue.symm] at m0_InvalidValue
  obtain ⟨i_InvalidValue, iod_InvalidValue, ian_InvalidValue, isl_InvalidValue, ioc_InvalidValue, ikV_InvalidValue, idc_InvalidValue, ipm_InvalidValue, icd_InvalidValue, ict_InvalidValue, nm_InvalidValue, qn_InvalidValue, N_InvalidValue, bs_InvalidValue, bm_InvalidValue, sn_InvalidValue, sub_InvalidValue, ab_InvalidValue, col_InvalidValue, dd_InvalidValue, mm0_InvalidValue, mm1_InvalidValue, mm2_InvalidValue, mm3_InvalidValue, mm5_InvalidValue, x_InvalidValue, bm_InvalidValue', kc_InvalidValue, ii_InvalidValue, it_InvalidValue, il_InvalidValue, ic_InvalidValue, ik_InvalidValue, sa_InvalidValue⟩ := m0_InvalidValue
  obtain ⟨sg_InvalidValue, rd_InvalidValue, vv_InvalidValue⟩ := bs_own b0_InvalidValue rfl
  rw [show He.ga K (mi_InvalidValue).base = A_PairError from eA_PairError.symm] at sg_InvalidValue rd_InvalidValue vv_InvalidValue
  have b0_InvalidVector := List.all_eq_true.mp hB mi_InvalidVector (List.mem_of_getElem? (i := 17) rfl)
  have m0_InvalidVector := mk_of (i := mi_InvalidVector) (List.all_eq_true.mp hM mi_InvalidVector (List.mem_of_getElem? (i := 17) rfl)) (c.mk' (j := 17) rfl)
  rw [show He.ga K (mi_InvalidVector).c = A_InvalidVector from eA_InvalidVector.symm] at m0_InvalidVector
  obtain ⟨i_InvalidVector, iod_InvalidVector, ian_InvalidVector, isl_InvalidVector, ioc_InvalidVector, ikV_InvalidVector, idc_InvalidVector, ipm_InvalidVector, icd_InvalidVector, ict_InvalidVector, nm_InvalidVector, qn_InvalidVector, N_InvalidVector, bs_InvalidVector, bm_InvalidVector, sn_InvalidVector, sub_InvalidVector, ab_InvalidVector, col_InvalidVector, dd_InvalidVector, mm0_InvalidVector, mm1_InvalidVector, mm2_InvalidVector, mm3_InvalidVector, mm5_InvalidVector, x_InvalidVector, bm_InvalidVector', kc_InvalidVector, ii_InvalidVector, it_InvalidVector, il_InvalidVector, ic_InvalidVector, ik_InvalidVector, sa_InvalidVector⟩ := m0_InvalidVector
  obtain ⟨sg_InvalidVector, rd_InvalidVector, vv_InvalidVector⟩ := bs_own b0_InvalidVector rfl
  rw [show He.ga K (mi_InvalidVector).base = A_PairError from eA_PairError.symm] at sg_InvalidVector rd_InvalidVector vv_InvalidVector
  have b0_InvalidWrite := List.all_eq_true.mp hB mi_InvalidWrite (List.mem_of_getElem? (i := 18) rfl)
  have m0_InvalidWrite := mk_of (i := mi_InvalidWrite) (List.all_eq_true.mp hM mi_InvalidWrite (List.mem_of_getElem? (i := 18) rfl)) (c.mk' (j := 18) rfl)
  rw [show He.ga K (mi_InvalidWrite).c = A_InvalidWrite from eA_InvalidWrite.symm] at m0_InvalidWrite
  obtain ⟨i_InvalidWrite, iod_InvalidWrite, ian_InvalidWrite, isl_InvalidWrite, ioc_InvalidWrite, ikV_InvalidWrite, idc_InvalidWrite, ipm_InvalidWrite, icd_InvalidWrite, ict_InvalidWrite, nm_InvalidWrite, qn_InvalidWrite, N_InvalidWrite, bs_InvalidWrite, bm_InvalidWrite, sn_InvalidWrite, sub_InvalidWrite, ab_InvalidWrite, col_InvalidWrite, dd_InvalidWrite, mm0_InvalidWrite, mm1_InvalidWrite, mm2_InvalidWrite, mm3_InvalidWrite, mm5_InvalidWrite, x_InvalidWrite, bm_InvalidWrite', kc_InvalidWrite, ii_InvalidWrite, it_InvalidWrite, il_InvalidWrite, ic_InvalidWrite, ik_InvalidWrite, sa_InvalidWrite⟩ := m0_InvalidWrite
  obtain ⟨sg_InvalidWrite, rd_InvalidWrite, vv_InvalidWrite⟩ := bs_own b0_InvalidWrite rfl
  rw [show He.ga K (mi_InvalidWrite).base = A_PairError from eA_PairError.symm] at sg_InvalidWrite rd_InvalidWrite vv_InvalidWrite
  have b0_NameTaken := List.all_eq_true.mp hB mi_NameTaken (List.mem_of_getElem? (i := 19) rfl)
  have m0_NameTaken := mk_of (i := mi_NameTaken) (List.all_eq_true.mp hM mi_NameTaken (List.mem_of_getElem? (i := 19) rfl)) (c.mk' (j := 19) rfl)
  rw [show He.ga K (mi_NameTaken).c = A_NameTaken from eA_NameTaken.symm] at m0_NameTaken
  obtain ⟨i_NameTaken, iod_NameTaken, ian_NameTaken, isl_NameTaken, ioc_NameTaken, ikV_NameTaken, idc_NameTaken, ipm_NameTaken, icd_NameTaken, ict_NameTaken, nm_NameTaken, qn_NameTaken, N_NameTaken, bs_NameTaken, bm_NameTaken, sn_NameTaken, sub_NameTaken, ab_NameTaken, col_NameTaken, dd_NameTaken, mm0_NameTaken, mm1_NameTaken, mm2_NameTaken, mm3_NameTaken, mm5_NameTaken, x_NameTaken, bm_NameTaken', kc_NameTaken, ii_NameTaken, it_NameTaken, il_NameTaken, ic_NameTaken, ik_NameTaken, sa_NameTaken⟩ := m0_NameTaken
  have vv_NameTaken := bs_blt b0_NameTaken rfl
  have b0_NotServing := List.all_eq_true.mp hB mi_NotServing (List.mem_of_getElem? (i := 20) rfl)
  have m0_NotServing := mk_of (i := mi_NotServing) (List.all_eq_true.mp hM mi_NotServing (List.mem_of_getElem? (i := 20) rfl)) (c.mk' (j := 20) rfl)
  rw [show He.ga K (mi_NotServing).c = A_NotServing from eA_NotServing.symm] at m0_NotServing
  obtain ⟨i_NotServing, iod_NotServing, ian_NotServing, isl_NotServing, ioc_NotServing, ikV_NotServing, idc_NotServing, ipm_NotServing, icd_NotServing, ict_NotServing, nm_NotServing, qn_NotServing, N_NotServing, bs_NotServing, bm_NotServing, sn_NotServing, sub_NotServing, ab_NotServing, col_NotServing, dd_NotServing, mm0_NotServing, mm1_NotServing, mm2_NotServing, mm3_NotServing, mm5_NotServing, x_NotServing, bm_NotServing', kc_NotServing, ii_NotServing, it_NotServing, il_NotServing, ic_NotServing, ik_NotServing, sa_NotServing⟩ := m0_NotServing
  have vv_NotServing := bs_blt b0_NotServing rfl
  have b0_OutOfOrder := List.all_eq_true.mp hB mi_OutOfOrder (List.mem_of_getElem? (i := 21) rfl)
  have m0_OutOfOrder := mk_of (i := mi_OutOfOrder) (List.all_eq_true.mp hM mi_OutOfOrder (List.mem_of_getElem? (i := 21) rfl)) (c.mk' (j := 21) rfl)
  rw [show He.ga K (mi_OutOfOrder).c = A_OutOfOrder from eA_OutOfOrder.symm] at m0_OutOfOrder
  obtain ⟨i_OutOfOrder, iod_OutOfOrder, ian_OutOfOrder, isl_OutOfOrder, ioc_OutOfOrder, ikV_OutOfOrder, idc_OutOfOrder, ipm_OutOfOrder, icd_OutOfOrder, ict_OutOfOrder, nm_OutOfOrder, qn_OutOfOrder, N_OutOfOrder, bs_OutOfOrder, bm_OutOfOrder, sn_OutOfOrder, sub_OutOfOrder, ab_OutOfOrder, col_OutOfOrder, dd_OutOfOrder, mm0_OutOfOrder, mm1_OutOfOrder, mm2_OutOfOrder, mm3_OutOfOrder, mm5_OutOfOrder, x_OutOfOrder, bm_OutOfOrder', kc_OutOfOrder, ii_OutOfOrder, it_OutOfOrder, il_OutOfOrder, ic_OutOfOrder, ik_OutOfOrder, sa_OutOfOrder⟩ := m0_OutOfOrder
  have vv_OutOfOrder := bs_blt b0_OutOfOrder rfl
  have b0_PairBroken := List.all_eq_true.mp hB mi_PairBroken (List.mem_of_getElem? (i := 22) rfl)
  have m0_PairBroken := mk_of (i := mi_PairBroken) (List.all_eq_true.mp hM mi_PairBroken (List.mem_of_getElem? (i := 22) rfl)) (c.mk' (j := 22) rfl)
  rw [show He.ga K (mi_PairBroken).c = A_PairBroken from eA_PairBroken.symm] at m0_PairBroken
  obtain ⟨i_PairBroken, iod_PairBroken, ian_PairBroken, isl_PairBroken, ioc_PairBroken, ikV_PairBroken, idc_PairBroken, ipm_PairBroken, icd_PairBroken, ict_PairBroken, nm_PairBroken, qn_PairBroken, N_PairBroken, bs_PairBroken, bm_PairBroken, sn_PairBroken, sub_PairBroken, ab_PairBroken, col_PairBroken, dd_PairBroken, mm0_PairBroken, mm1_PairBroken, mm2_PairBroken, mm3_PairBroken, mm5_PairBroken, x_PairBroken, bm_PairBroken', kc_PairBroken, ii_PairBroken, it_PairBroken, il_PairBroken, ic_PairBroken, ik_PairBroken, sa_PairBroken⟩ := m0_PairBroken
  have vv_PairBroken := bs_blt b0_PairBroken rfl
  have b0_RuleBroken := List.all_eq_true.mp hB mi_RuleBroken (List.mem_of_getElem? (i := 23) rfl)
  have m0_RuleBroken := mk_of (i := mi_RuleBroken) (List.all_eq_true.mp hM mi_RuleBroken (List.mem_of_getElem? (i := 23) rfl)) (c.mk' (j := 23) rfl)
  rw [show He.ga K (mi_RuleBroken).c = A_RuleBroken from eA_RuleBroken.symm] at m0_RuleBroken
  obtain ⟨i_RuleBroken, iod_RuleBroken, ian_RuleBroken, isl_RuleBroken, ioc_RuleBroken, ikV_RuleBroken, idc_RuleBroken, ipm_RuleBroken, icd_RuleBroken, ict_RuleBroken, nm_RuleBroken, qn_RuleBroken, N_RuleBroken, bs_RuleBroken, bm_RuleBroken, sn_RuleBroken, sub_RuleBroken, ab_RuleBroken, col_RuleBroken, dd_RuleBroken, mm0_RuleBroken, mm1_RuleBroken, mm2_RuleBroken, mm3_RuleBroken, mm5_RuleBroken, x_RuleBroken, bm_RuleBroken', kc_RuleBroken, ii_RuleBroken, it_RuleBroken, il_RuleBroken, ic_RuleBroken, ik_RuleBroken, sa_RuleBroken⟩ := m0_RuleBroken
  have vv_RuleBroken := bs_blt b0_RuleBroken rfl
  have b0_TooMany := List.all_eq_true.mp hB mi_TooMany (List.mem_of_getElem? (i := 24) rfl)
  have m0_TooMany := mk_of (i := mi_TooMany) (List.all_eq_true.mp hM mi_TooMany (List.mem_of_getElem? (i := 24) rfl)) (c.mk' (j := 24) rfl)
  rw [show He.ga K (mi_TooMany).c = A_TooMany from eA_TooMany.symm] at m0_TooMany
  obtain ⟨i_TooMany, iod_TooMany, ian_TooMany, isl_TooMany, ioc_TooMany, ikV_TooMany, idc_TooMany, ipm_TooMany, icd_TooMany, ict_TooMany, nm_TooMany, qn_TooMany, N_TooMany, bs_TooMany, bm_TooMany, sn_TooMany, sub_TooMany, ab_TooMany, col_TooMany, dd_TooMany, mm0_TooMany, mm1_TooMany, mm2_TooMany, mm3_TooMany, mm5_TooMany, x_TooMany, bm_TooMany', kc_TooMany, ii_TooMany, it_TooMany, il_TooMany, ic_TooMany, ik_TooMany, sa_TooMany⟩ := m0_TooMany
  have vv_TooMany := bs_blt b0_TooMany rfl
  have b0_UnknownName := List.all_eq_true.mp hB mi_UnknownName (List.mem_of_getElem? (i := 25) rfl)
  have m0_UnknownName := mk_of (i := mi_UnknownName) (List.all_eq_true.mp hM mi_UnknownName (List.mem_of_getElem? (i := 25) rfl)) (c.mk' (j := 25) rfl)
  rw [show He.ga K (mi_UnknownName).c = A_UnknownName from eA_UnknownName.symm] at m0_UnknownName
  obtain ⟨i_UnknownName, iod_UnknownName, ian_UnknownName, isl_UnknownName, ioc_UnknownName, ikV_UnknownName, idc_UnknownName, ipm_UnknownName, icd_UnknownName, ict_UnknownName, nm_UnknownName, qn_UnknownName, N_UnknownName, bs_UnknownName, bm_UnknownName, sn_UnknownName, sub_UnknownName, ab_UnknownName, col_UnknownName, dd_UnknownName, mm0_UnknownName, mm1_UnknownName, mm2_UnknownName, mm3_UnknownName, mm5_UnknownName, x_UnknownName, bm_UnknownName', kc_UnknownName, ii_UnknownName, it_UnknownName, il_UnknownName, ic_UnknownName, ik_UnknownName, sa_UnknownName⟩ := m0_UnknownName
  have vv_UnknownName := bs_blt b0_UnknownName rfl
  have b0_UnknownPlace := List.all_eq_true.mp hB mi_UnknownPlace (List.mem_of_getElem? (i := 26) rfl)
  have m0_UnknownPlace := mk_of (i := mi_UnknownPlace) (List.all_eq_true.mp hM mi_UnknownPlace (List.mem_of_getElem? (i := 26) rfl)) (c.mk' (j := 26) rfl)
  rw [show He.ga K (mi_UnknownPlace).c = A_UnknownPlace from eA_UnknownPlace.symm] at m0_UnknownPlace
  obtain ⟨i_UnknownPlace, iod_UnknownPlace, ian_UnknownPlace, isl_UnknownPlace, ioc_UnknownPlace, ikV_UnknownPlace, idc_UnknownPlace, ipm_UnknownPlace, icd_UnknownPlace, ict_UnknownPlace, nm_UnknownPlace, qn_UnknownPlace, N_UnknownPlace, bs_UnknownPlace, bm_UnknownPlace, sn_UnknownPlace, sub_UnknownPlace, ab_UnknownPlace, col_UnknownPlace, dd_UnknownPlace, mm0_UnknownPlace, mm1_UnknownPlace, mm2_UnknownPlace, mm3_UnknownPlace, mm5_UnknownPlace, x_UnknownPlace, bm_UnknownPlace', kc_UnknownPlace, ii_UnknownPlace, it_UnknownPlace, il_UnknownPlace, ic_UnknownPlace, ik_UnknownPlace, sa_UnknownPlace⟩ := m0_UnknownPlace
  have vv_UnknownPlace := bs_blt b0_UnknownPlace rfl
  have b0_UnknownTable := List.all_eq_true.mp hB mi_UnknownTable (List.mem_of_getElem? (i := 27) rfl)
  have m0_UnknownTable := mk_of (i := mi_UnknownTable) (List.all_eq_true.mp hM mi_UnknownTable (List.mem_of_getElem? (i := 27) rfl)) (c.mk' (j := 27) rfl)
  rw [show He.ga K (mi_UnknownTable).c = A_UnknownTable from eA_UnknownTable.symm] at m0_UnknownTable
  obtain ⟨i_UnknownTable, iod_UnknownTable, ian_UnknownTable, isl_UnknownTable, ioc_UnknownTable, ikV_UnknownTable, idc_UnknownTable, ipm_UnknownTable, icd_UnknownTable, ict_UnknownTable, nm_UnknownTable, qn_UnknownTable, N_UnknownTable, bs_UnknownTable, bm_UnknownTable, sn_UnknownTable, sub_UnknownTable, ab_UnknownTable, col_UnknownTable, dd_UnknownTable, mm0_UnknownTable, mm1_UnknownTable, mm2_UnknownTable, mm3_UnknownTable, mm5_UnknownTable, x_UnknownTable, bm_UnknownTable', kc_UnknownTable, ii_UnknownTable, it_UnknownTable, il_UnknownTable, ic_UnknownTable, ik_UnknownTable, sa_UnknownTable⟩ := m0_UnknownTable
  have vv_UnknownTable := bs_blt b0_UnknownTable rfl
  have b0_Unlike := List.all_eq_true.mp hB mi_Unlike (List.mem_of_getElem? (i := 28) rfl)
  have m0_Unlike := mk_of (i := mi_Unlike) (List.all_eq_true.mp hM mi_Unlike (List.mem_of_getElem? (i := 28) rfl)) (c.mk' (j := 28) rfl)
  rw [show He.ga K (mi_Unlike).c = A_Unlike from eA_Unlike.symm] at m0_Unlike
  obtain ⟨i_Unlike, iod_Unlike, ian_Unlike, isl_Unlike, ioc_Unlike, ikV_Unlike, idc_Unlike, ipm_Unlike, icd_Unlike, ict_Unlike, nm_Unlike, qn_Unlike, N_Unlike, bs_Unlike, bm_Unlike, sn_Unlike, sub_Unlike, ab_Unlike, col_Unlike, dd_Unlike, mm0_Unlike, mm1_Unlike, mm2_Unlike, mm3_Unlike, mm5_Unlike, x_Unlike, bm_Unlike', kc_Unlike, ii_Unlike, it_Unlike, il_Unlike, ic_Unlike, ik_Unlike, sa_Unlike⟩ := m0_Unlike
  have vv_Unlike := bs_blt b0_Unlike rfl
  exact all_mk X G hfa a0 l0 c0 k0 a1 l1 c1 k1 a2 l2 c2 k2 a3 l3 c3 k3 a4 l4 c4 k4 a5 l5 c5 k5 a6 l6 c6 k6 a7 l7 c7 k7 a8 l8 c8 k8 a9 l9 c9 k9 a10 l10 c10 k10 a11 l11 c11 k11 a12 l12 c12 k12 z_abs z_divmod z_enumerate z_int z_isinstance z_len z_max z_min z_range z_repr q_Apart qs_Apart qc_Apart qt_Apart q_InUse qs_InUse qc_InUse qt_InUse q_InvalidColumns qs_InvalidColumns qc_InvalidColumns qt_InvalidColumns q_InvalidCommand qs_InvalidCommand qc_InvalidCommand qt_InvalidCommand q_InvalidCount qs_InvalidCount qc_InvalidCount qt_InvalidCount q_InvalidName qs_InvalidName qc_InvalidName qt_InvalidName q_InvalidOffer qs_InvalidOffer qc_InvalidOffer qt_InvalidOffer q_InvalidOrder qs_InvalidOrder qc_InvalidOrder qt_InvalidOrder q_InvalidPlan qs_InvalidPlan qc_InvalidPlan qt_InvalidPlan q_InvalidQuery qs_InvalidQuery qc_InvalidQuery qt_InvalidQuery q_InvalidQuestion qs_InvalidQuestion qc_InvalidQuestion qt_InvalidQuestion q_InvalidRow qs_InvalidRow qc_InvalidRow qt_InvalidRow q_InvalidRule qs_InvalidRule qc_InvalidRule qt_InvalidRule q_InvalidTable qs_InvalidTable qc_InvalidTable qt_InvalidTable q_InvalidText qs_InvalidText qc_InvalidText qt_InvalidText q_InvalidToken qs_InvalidToken qc_InvalidToken qt_InvalidToken q_InvalidValue qs_InvalidValue qc_InvalidValue qt_InvalidValue q_InvalidVector qs_InvalidVector qc_InvalidVector qt_InvalidVector q_InvalidWrite qs_InvalidWrite qc_InvalidWrite qt_InvalidWrite q_NameTaken qs_NameTaken qc_NameTaken qt_NameTaken q_NotServing qs_NotServing qc_NotServing qt_NotServing q_OutOfOrder qs_OutOfOrder qc_OutOfOrder qt_OutOfOrder q_PairBroken qs_PairBroken qc_PairBroken qt_PairBroken q_PairError qs_PairError qc_PairError qt_PairError q_RuleBroken qs_RuleBroken qc_RuleBroken qt_RuleBroken q_TooMany qs_TooMany qc_TooMany qt_TooMany q_UnknownName qs_UnknownName qc_UnknownName qt_UnknownName q_UnknownPlace qs_UnknownPlace qc_UnknownPlace qt_UnknownPlace q_UnknownTable qs_UnknownTable qc_UnknownTable qt_UnknownTable q_Unlike qs_Unlike qc_Unlike qt_Unlike y_ArithmeticError ys_ArithmeticError y_LookupError ys_LookupError y_RuntimeError ys_RuntimeError y_ValueError ys_ValueError allE allC allX allA hsp0 htk0 x_Apart kc_Apart ii_Apart it_Apart il_Apart ic_Apart ik_Apart sa_Apart vv_Apart bm_Apart' x_InUse kc_InUse ii_InUse it_InUse il_InUse ic_InUse ik_InUse sa_InUse vv_InUse bm_InUse' x_InvalidColumns kc_InvalidColumns ii_InvalidColumns it_InvalidColumns il_InvalidColumns ic_InvalidColumns ik_InvalidColumns sa_InvalidColumns sg_InvalidColumns rd_InvalidColumns vv_InvalidColumns bm_InvalidColumns' x_InvalidCommand kc_InvalidCommand ii_InvalidCommand it_InvalidCommand il_InvalidCommand ic_InvalidCommand ik_InvalidCommand sa_InvalidCommand sg_InvalidCommand rd_InvalidCommand vv_InvalidCommand bm_InvalidCommand' x_InvalidCount kc_InvalidCount ii_InvalidCount it_InvalidCount il_InvalidCount ic_InvalidCount ik_InvalidCount sa_InvalidCount sg_InvalidCount rd_InvalidCount vv_InvalidCount bm_InvalidCount' x_InvalidName kc_InvalidName ii_InvalidName it_InvalidName il_InvalidName ic_InvalidName ik_InvalidName sa_InvalidName sg_InvalidName rd_InvalidName vv_InvalidName bm_InvalidName' x_InvalidOffer kc_InvalidOffer ii_InvalidOffer it_InvalidOffer il_InvalidOffer ic_InvalidOffer ik_InvalidOffer sa_InvalidOffer sg_InvalidOffer rd_InvalidOffer vv_InvalidOffer bm_InvalidOffer' x_InvalidOrder kc_InvalidOrder ii_InvalidOrder it_InvalidOrder il_InvalidOrder ic_InvalidOrder ik_InvalidOrder sa_InvalidOrder sg_InvalidOrder rd_InvalidOrder vv_InvalidOrder bm_InvalidOrder' x_InvalidPlan kc_InvalidPlan ii_InvalidPlan it_InvalidPlan il_InvalidPlan ic_InvalidPlan ik_InvalidPlan sa_InvalidPlan sg_InvalidPlan rd_InvalidPlan vv_InvalidPlan bm_InvalidPlan' x_InvalidQuery kc_InvalidQuery ii_InvalidQuery it_InvalidQuery il_InvalidQuery ic_InvalidQuery ik_InvalidQuery sa_InvalidQuery sg_InvalidQuery rd_InvalidQuery vv_InvalidQuery bm_InvalidQuery' x_InvalidQuestion kc_InvalidQuestion ii_InvalidQuestion it_InvalidQuestion il_InvalidQuestion ic_InvalidQuestion ik_InvalidQuestion sa_InvalidQuestion sg_InvalidQuestion rd_InvalidQuestion vv_InvalidQuestion bm_InvalidQuestion' x_InvalidRow kc_InvalidRow ii_InvalidRow it_InvalidRow il_InvalidRow ic_InvalidRow ik_InvalidRow sa_InvalidRow sg_InvalidRow rd_InvalidRow vv_InvalidRow bm_InvalidRow' x_InvalidRule kc_InvalidRule ii_InvalidRule it_InvalidRule il_InvalidRule ic_InvalidRule ik_InvalidRule sa_InvalidRule sg_InvalidRule rd_InvalidRule vv_InvalidRule bm_InvalidRule' x_InvalidTable kc_InvalidTable ii_InvalidTable it_InvalidTable il_InvalidTable ic_InvalidTable ik_InvalidTable sa_InvalidTable sg_InvalidTable rd_InvalidTable vv_InvalidTable bm_InvalidTable' x_InvalidText kc_InvalidText ii_InvalidText it_InvalidText il_InvalidText ic_InvalidText ik_InvalidText sa_InvalidText sg_InvalidText rd_InvalidText vv_InvalidText bm_InvalidText' x_InvalidToken kc_InvalidToken ii_InvalidToken it_InvalidToken il_InvalidToken ic_InvalidToken ik_InvalidToken sa_InvalidToken sg_InvalidToken rd_InvalidToken vv_InvalidToken bm_InvalidToken' x_InvalidValue kc_InvalidValue ii_InvalidValue it_InvalidValue il_InvalidValue ic_InvalidValue ik_InvalidValue sa_InvalidValue sg_InvalidValue rd_InvalidValue vv_InvalidValue bm_InvalidValue' x_InvalidVector kc_InvalidVector ii_InvalidVector it_InvalidVector il_InvalidVector ic_InvalidVector ik_InvalidVector sa_InvalidVector sg_InvalidVector rd_InvalidVector vv_InvalidVector bm_InvalidVector' x_InvalidWrite kc_InvalidWrite ii_InvalidWrite it_InvalidWrite il_InvalidWrite ic_InvalidWrite ik_InvalidWrite sa_InvalidWrite sg_InvalidWrite rd_InvalidWrite vv_InvalidWrite bm_InvalidWrite' x_NameTaken kc_NameTaken ii_NameTaken it_NameTaken il_NameTaken ic_NameTaken ik_NameTaken sa_NameTaken vv_NameTaken bm_NameTaken' x_NotServing kc_NotServing ii_NotServing it_NotServing il_NotServing ic_NotServing ik_NotServing sa_NotServing vv_NotServing bm_NotServing' x_OutOfOrder kc_OutOfOrder ii_OutOfOrder it_OutOfOrder il_OutOfOrder ic_OutOfOrder ik_OutOfOrder sa_OutOfOrder vv_OutOfOrder bm_OutOfOrder' x_PairBroken kc_PairBroken ii_PairBroken it_PairBroken il_PairBroken ic_PairBroken ik_PairBroken sa_PairBroken vv_PairBroken bm_PairBroken' x_RuleBroken kc_RuleBroken ii_RuleBroken it_RuleBroken il_RuleBroken ic_RuleBroken ik_RuleBroken sa_RuleBroken vv_RuleBroken bm_RuleBroken' x_TooMany kc_TooMany ii_TooMany it_TooMany il_TooMany ic_TooMany ik_TooMany sa_TooMany vv_TooMany bm_TooMany' x_UnknownName kc_UnknownName ii_UnknownName it_UnknownName il_UnknownName ic_UnknownName ik_UnknownName sa_UnknownName vv_UnknownName bm_UnknownName' x_UnknownPlace kc_UnknownPlace ii_UnknownPlace it_UnknownPlace il_UnknownPlace ic_UnknownPlace ik_UnknownPlace sa_UnknownPlace vv_UnknownPlace bm_UnknownPlace' x_UnknownTable kc_UnknownTable ii_UnknownTable it_UnknownTable il_UnknownTable ic_UnknownTable ik_UnknownTable sa_UnknownTable vv_UnknownTable bm_UnknownTable' x_Unlike kc_Unlike ii_Unlike it_Unlike il_Unlike ic_Unlike ik_Unlike sa_Unlike vv_Unlike bm_Unlike'
end K11
set_option maxRecDepth 100000
set_option maxHeartbeats 0
namespace K11
open PySem
def loose : List PySem.Str := (["PairError", "InvalidValue", "InvalidVector", "InvalidOrder", "InvalidCount", "InvalidName", "InvalidColumns", "InvalidRule", "InvalidTable", "InvalidRow", "InvalidQuery", "InvalidPlan", "InvalidQuestion", "InvalidOffer", "InvalidWrite", "InvalidText", "InvalidToken", "InvalidCommand", "UnknownTable", "UnknownPlace", "UnknownName", "NameTaken", "RuleBroken", "PairBroken", "Unlike", "OutOfOrder", "Apart", "NotServing", "InUse", "TooMany"] : List PySem.Str) ++ (["_law_rng", "_law_draw", "_law_choice", "_law_thing", "_law_by_position", "_law_by_name", "_law_classes", "_law_fields", "_law_bases", "_law_due_bases", "_law_due_fields", "_law_right", "__name__"] : List PySem.Str)
abbrev hk : PySem.W.Hook := Pi.hkP 5 fb defL mkL
def ob (s : PySem.W.SharedT) : Pi.AlP := Pi.obG 5 fb defL mkL (HandSHeadRun.getT s)
theorem ob_eq (s : PySem.W.SharedT) : ob s = hk.obs s.abs := Pi.obG_eq s
abbrev Rw : PySem.W.OpenRow := PySem.W.OpenLaw.row PySem.Challenge.rw_pairsigns_k11_errors_created
abbrev Vw : Program := PySem.W.view Rw.prog [44]
theorem runA (w : World) (os : OsState) : (HandSHeadRun.endF (HandSHeadRun.stepQ (HandSHeadRun.denQ HandSHeadRun.tabQ) Rw.prog w) 20000 Rw.prog w os).map (fun s => (HandSHeadRun.looksF Rw.prog (PySem.W.boot_heap w.params) s.abs, HandSHeadRun.seenQ Vw loose (importedModules Rw.prog.main.body) (fun s => PySem.W.xlAt Vw [] s && PySem.W.recOk Rw.toRowW.records s) s.abs, Pi.obP f1 defL mkL (Pi.ptG 5 (HandSHeadRun.getT s)))) = some (true, PySem.W.openGood Vw loose, Pi.vlP defL mkL) := by kernel_rfl
theorem runB (w : World) (os : OsState) : (HandSHeadRun.endF (HandSHeadRun.stepQ (HandSHeadRun.denQ HandSHeadRun.tabQ) Rw.prog w) 20000 Rw.prog w os).map (fun s => f2 (Pi.ptG 5 (HandSHeadRun.getT s))) = some true := by kernel_rfl
theorem runC (w : World) (os : OsState) : (HandSHeadRun.endF (HandSHeadRun.stepQ (HandSHeadRun.denQ HandSHeadRun.tabQ) Rw.prog w) 20000 Rw.prog w os).map (fun s => f3 (Pi.ptG 5 (HandSHeadRun.getT s))) = some true := by kernel_rfl
theorem run (w : World) : HandSHeadRun.RunEq Rw Vw hk ob 20000 loose w := Pi.run_parts (runA w) (runB w) (runC w)
end K11
open PySem PySem.W PyProof.Rows
theorem PySem.Challenge.cw_pairsigns_k11_errors_created_holds : PySem.Challenge.rw_pairsigns_k11_errors_created.Holds := by
  w_on; o_law
  refine HandSHeadRun.head_any (q := view (PySem.W.OpenLaw.row PySem.Challenge.rw_pairsigns_k11_errors_created).prog [44]) (H := K11.hk) (M := 20000) (loose := K11.loose) (d := HandSHeadRun.topDef (PySem.W.OpenLaw.row PySem.Challenge.rw_pairsigns_k11_errors_created).prog 44) (kwd := []) K11.ob_eq (by kernel_rfl) (fun s => by kernel_rfl) K11.run (by kernel_rfl) (by kernel_rfl) (by kernel_rfl) (by rfl) (by first | assumption | decide +kernel) (by decide +kernel) ⟨rfl, rfl, rfl, rfl, rfl, by decide +kernel⟩ ?hw ?hc
  case hw => w_witness2
  case hc =>
    refine Pi.walkH (l := PySem.Challenge.rw_pairsigns_k11_errors_created) (m := 63) (k := 8) (f := 12) (x := "_law_script") (p := K11.pg) rfl (by decide) (by kernel_rfl) ⟨rfl, by decide, by decide⟩ (fun w h Y => Y) (fun w mg fa h K KX S G named => ?_) ⟨_, rfl, rfl, rfl⟩ K11.law_all
    have nm : (HandSHeadRun.topDef (PySem.W.OpenLaw.row PySem.Challenge.rw_pairsigns_k11_errors_created).prog 44).name = ("law" : PySem.Str) := by kernel_rfl
    rw [nm] at named
    exact K11.all_H KX G named S
