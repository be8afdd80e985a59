import PyProof.Rows.All
import PyProof.ReprReads
import PyProof.EqLayable
import HandS.List
import Wide.All
import OpenK.AllK
import Wide.FinOn
import HandS.ForMost
import HandS.ForExc
import HandS.Deep
import HandS.TupAny
import HandS.Wide
import HandS.WideBits
import HandS.StrMore
import PyProof.TupleOfStr
import HandS.HotCalls
import HandS.CallSlots
import HandS.Ends
import KE.DataIsa
import HandS.ExcIs
import HandS.Comp
import HandS.Iter
import HandS.NoneIn
import HandS.ExcField
import KE.GoesNew
import KE.KExcIs
import HandS.TryMany
import HandS.Exc
import KE.KExcPX
import HandS.Words
import HandS.ExcInit
import HandS.ExcValue
import KE.KExcInit
import PySem.Challenge.RW_pairsigns_k12_signs_of_values
set_option Elab.async false
set_option linter.all false
/-! A small evaluator over trees of data: an intermediate form of the defs of the program, and what it computes. -/
namespace Pi
/-! ### own shorthands -/
theorem and_iff2 {a b : Bool} : (a && b) = true ↔ a = true ∧ b = true := by cases a <;> cases b <;> simp
theorem dec_iff {p : Prop} [Decidable p] : decide p = true ↔ p := ⟨of_decide_eq_true, decide_eq_true⟩
theorem in_cons {α : Type} {a b : α} {l : List α} : a ∈ b :: l ↔ a = b ∨ a ∈ l := by simp
theorem in_nil {α : Type} {a : α} : a ∈ ([] : List α) ↔ False := by simp
theorem mem_or {α : Type} {a b : α} {l : List α} (h : a ∈ b :: l) : a = b ∨ a ∈ l := by cases h with
  | head => exact .inl rfl
  | tail _ h => exact .inr h
theorem all_hd {α : Type} {p : α → Bool} {x : α} {xs : List α} (h : (x :: xs).all p = true) : p x = true ∧ xs.all p = true := by
  simpa using h
theorem lt_get {α : Type} {l : List α} {i : Nat} {x : α} (h : l[i]? = some x) : i < l.length := by
  rcases Nat.lt_or_ge i l.length with z | z
  · exact z
  · simp [List.getElem?_eq_none z] at h
abbrev Tx := List Nat
abbrev Ky := Sum Int Tx
inductive D where
  | non | bl (b : Bool) | int (i : Int) | str (x : Tx) | lst (xs : List D) | tup (xs : List D)
  | dic (kvs : List (Ky × D)) | scr (xs : List D) | exc (c : Tx) (fs : List (Tx × D)) | obj (c : Nat) (fs : List (Tx × D))
instance : Inhabited D := ⟨.non⟩
inductive BOp where
  | add | sub | mul | mod | fdiv | pow
inductive COp where
  | eq | ne | lt | le | gt | ge | isN | notN | isIn | notIn
/-- built-in functions -/
inductive BI where
  | len | max2 | min2 | abs | int | divmod | repr | str | all | any | tuple | list | sorted | sum | tupS
/-- built-in methods -/
inductive MI where
  | join | index | split | endswith | startswith | get | count
/-- classes that isinstance is asked for -/
inductive Cl where
  | int | bool | str | list | tuple | dict | own (c : Tx) | ve | le | re | ae
  deriving DecidableEq
inductive Tg where
  | nm (i : Nat) | tp (is : List Nat)
mutual
inductive IE where
  | var (i : Nat) | cst (d : D) | gc (k : Nat) | bin (o : BOp) (a b : IE) | neg (a : IE) | not (a : IE) | and (a b : IE) | or (a b : IE)
  | cmp (o : COp) (a b : IE) | chn (o p : COp) (a b c : IE) | ite (t a b : IE)
  | lst (es : IEs) | tup (es : IEs) | idx (a i : IE) | slc (a : IE) (lo hi : IO)
  | call (f : Nat) (ix : List Nat) (es : IEs) | bi (b : BI) (es : IEs) | mth (m : MI) (o : IE) (es : IEs)
  | isi (a : IE) (c : Cl) | isx (a : IE) (k : Cl) | isxs (a : IE) (ks : List Cl) | attr (o : IE) (f : Tx)
  | lcm (elt : IE) (tg : Tg) (it : IT) (cond : IO)
  | dic (kvs : List (Ky × D)) | dget (kvs : List (Ky × D)) (i : IE) | lix (o e : IE)
inductive IEs where
  | nil | cons (e : IE) (es : IEs)
inductive IO where
  | no | so (e : IE)
inductive IT where
  | seq (e : IE) | rng (es : IEs) | zip (es : IEs)
end
inductive TG where
  | nm (i : Nat) | ix (i : Nat) (e : IE)
mutual
inductive IS where
  | set (i : Nat) (e : IE) | setT (ts : List TG) (e : IE) | par (i j : Nat) (es : IEs) | setI (i : Nat) (ix e : IE)
  | app (i : Nat) (e : IE) | ext (i : Nat) (e : IE)
  | ret (e : IE) | retN | ite (t : IE) (a b : ISs) | loop (tg : Tg) (it : IT) (b : ISs)
  | rais (c : Tx) (es : IEs) | tryS (b : ISs) (hs : IHs) | pass | brk | cont | drop (e : IE)
inductive ISs where
  | nil | cons (s : IS) (r : ISs)
inductive IHs where
  | nil | cons (ks : List Cl) (i : Nat) (b : ISs) (r : IHs)
end

/-! ### the state of a frame -/
inductive Sl where
  | un | val (d : D) | own (xs : List D) | ref
instance : Inhabited Sl := ⟨.un⟩
structure Fr where
  sl : List Sl
  cell : List D
inductive ER where
  | val (d : D) | fresh (xs : List D) | slot (i : Nat) | cell
inductive Rs (α : Type) where
  | ok (a : α) (s : Fr) | exc (c : Tx) (fs : List (Tx × D)) (s : Fr) | stuck
@[inline] def Rs.bind {α β : Type} : Rs α → (α → Fr → Rs β) → Rs β
  | .ok a s, f => f a s
  | .exc c fs s, _ => .exc c fs s
  | .stuck, _ => .stuck
def Rs.of {α : Type} (o : Option α) (s : Fr) : Rs α := match o with
  | some a => .ok a s
  | none => .stuck
def Fr.put (s : Fr) (i : Nat) (x : Sl) : Fr := ⟨s.sl.set i x, s.cell⟩
/-- what is read -/
def ER.rd (s : Fr) : ER → Option D
  | .val d => some d
  | .fresh xs => some (.lst xs)
  | .slot i => match s.sl[i]? with
    | some (.own xs) => some (.lst xs)
    | some (.val d) => some d
    | _ => none
  | .cell => some (.lst s.cell)
/-- held while others are reckoned -/
def ER.hold : ER → ER
  | .fresh xs => .val (.lst xs)
  | e => e
/-- kept by another holder: no longer one's own -/
def ER.fz (s : Fr) : ER → Rs D
  | .val d => .ok d s
  | .fresh xs => .ok (.lst xs) s
  | .slot i => match s.sl[i]? with
    | some (.own xs) => .ok (.lst xs) (s.put i (.val (.lst xs)))
    | some (.val d) => .ok d s
    | _ => .stuck
  | .cell => .stuck
end Pi
/-! What is reckoned. -/
namespace Pi
open PySem (PyData)
def txS (x : Tx) : PySem.Str := ⟨x.toArray⟩
mutual
/-- as the library's data -/
def D.pd : D → Option PyData
  | .non => some .none
  | .bl b => some (.bool b)
  | .int i => some (.int i)
  | .str x => some (.str (txS x))
  | .lst xs => (pdL xs).map .list
  | .tup xs => (pdL xs).map .tuple
  | .dic kvs => (pdK kvs).map .dict
  | .scr _ => none
  | .exc _ _ => none
  | .obj _ _ => none
def pdL : List D → Option (List PyData)
  | [] => some []
  | x :: xs => match x.pd, pdL xs with
    | some a, some b => some (a :: b)
    | _, _ => none
def pdK : List (Ky × D) → Option (List (PyData × PyData))
  | [] => some []
  | (k, x) :: r => match x.pd, pdK r with
    | some a, some b => some ((match k with | .inl i => PyData.int i | .inr t => .str (txS t), a) :: b)
    | _, _ => none
end
mutual
/-- == of data (no dict in it) -/
def D.eqv : D → D → Bool
  | .non, .non => true
  | .bl a, .bl b => a == b
  | .bl a, .int j => (if a then 1 else 0) == j
  | .int i, .bl b => i == (if b then 1 else 0)
  | .int i, .int j => i == j
  | .str x, .str y => x == y
  | .lst xs, .lst ys => eqvL xs ys
  | .tup xs, .tup ys => eqvL xs ys
  | _, _ => false
def eqvL : List D → List D → Bool
  | [], [] => true
  | x :: xs, y :: ys => x.eqv y && eqvL xs ys
  | _, _ => false
end
/-- plain signs -/
def okT (x : Tx) : Bool := x.all fun c => decide (c < 55296)
mutual
/-- data without dicts, not deep -/
def D.flat : Nat → D → Bool
  | 0, _ => false
  | _ + 1, .non => true
  | _ + 1, .bl _ => true
  | _ + 1, .int _ => true
  | _ + 1, .str x => okT x
  | n + 1, .lst xs => flatL n xs
  | n + 1, .tup xs => flatL n xs
  | _ + 1, _ => false
def flatL : Nat → List D → Bool
  | _, [] => true
  | n, x :: xs => x.flat n && flatL n xs
end
def lim : Nat := 1000000
def addR : D → D → Option ER
  | .int i, .int j => some (.val (.int (i + j)))
  | .str x, .str y => if x.length + y.length ≤ lim then some (.val (.str (x ++ y))) else none
  | .lst x, .lst y => if x.length + y.length ≤ lim then some (.fresh (x ++ y)) else none
  | .tup x, .tup y => if x.length + y.length ≤ lim then some (.val (.tup (x ++ y))) else none
  | _, _ => none
def intR (c : Int → Int → Bool) (f : Int → Int → Int) : D → D → Option ER
  | .int i, .int j => if c i j then some (.val (.int (f i j))) else none
  | _, _ => none
def w64 (i : Int) : Bool := decide (-18446744073709551616 < i) && decide (i < 18446744073709551616)
def opR : BOp → D → D → Option ER
  | .add => addR
  | .sub => intR (fun _ _ => true) fun i j => i - j
  | .mul => intR (fun i j => w64 i || w64 j) fun i j => i * j
  | .mod => intR (fun _ j => decide (0 < j)) fun i j => i % j
  | .fdiv => intR (fun _ j => decide (0 < j) && decide (j < 1073741824)) fun i j => i / j
  | .pow => intR (fun i j => decide (0 ≤ j) && decide (j ≤ 1000) && decide (i.natAbs < 1000)) fun i j => i ^ j.toNat
/-- texts in order -/
def ltT : Tx → Tx → Bool
  | [], [] => false
  | [], _ :: _ => true
  | _ :: _, [] => false
  | a :: x, b :: y => if a < b then true else if b < a then false else ltT x y
def isIn (d : D) : D → Option Bool
  | .str y => match d with
    | .str [c] => some (y.contains c)
    | _ => none
  | .lst ys => if d.flat 30 && flatL 30 ys then some (ys.any fun y => y.eqv d) else none
  | .tup ys => if d.flat 30 && flatL 30 ys then some (ys.any fun y => y.eqv d) else none
  | _ => none
def isNon : D → Bool
  | .non => true
  | _ => false
def eqR (a b : D) : Option Bool := if a.flat 30 && b.flat 30 then some (a.eqv b) else none
def ltR : D → D → Option Bool
  | .int i, .int j => some (decide (i < j))
  | .str x, .str y => some (ltT x y)
  | _, _ => none
def leR : D → D → Option Bool
  | .int i, .int j => some (decide (i ≤ j))
  | _, _ => none
def nonR (a : D) : D → Option Bool
  | .non => some (isNon a)
  | _ => none
def cmpR : COp → D → D → Option Bool
  | .eq => eqR
  | .ne => fun a b => (eqR a b).map (!·)
  | .lt => ltR
  | .le => leR
  | .gt => fun a b => ltR b a
  | .ge => fun a b => leR b a
  | .isN => nonR
  | .notN => fun a b => (nonR a b).map (!·)
  | .isIn => isIn
  | .notIn => fun a b => (isIn a b).map (!·)
/-- the place that an index means -/
def ixOf (n : Nat) (i : Int) : Option Nat := if 0 ≤ i then (if i < n then some i.toNat else none) else if -(n : Int) ≤ i then some (i + n).toNat else none
def atS : D → D → Option D
  | .lst xs, .int i => (ixOf xs.length i).bind fun k => xs[k]?
  | .tup xs, .int i => (ixOf xs.length i).bind fun k => xs[k]?
  | .scr xs, .int i => (ixOf xs.length i).bind fun k => xs[k]?
  | .str x, .int i => if x.length ≤ lim then (ixOf x.length i).bind fun k => x[k]?.map fun c => .str [c] else none
  | _, _ => none
def dicAt (kvs : List (Ky × D)) : D → Option D
  | .int i => (kvs.find? fun p => decide (p.1 = .inl i)).map (·.2)
  | .str x => (kvs.find? fun p => decide (p.1 = .inr x)).map (·.2)
  | _ => none
def atD (a i : D) : Option D := match a with
  | .dic kvs => dicAt kvs i
  | a => atS a i
def cut {α : Type} (x : List α) (lo hi : Option Int) : List α := (x.drop (HT.sIx x.length 0 lo)).take (HT.sIx x.length x.length hi - HT.sIx x.length 0 lo)
def bndO : Option D → Option (Option Int)
  | none => some none
  | some (.int i) => some (some i)
  | _ => none
def slcD (a : D) (lo hi : Option Int) : Option ER := match a with
  | .lst xs => some (.fresh (cut xs lo hi))
  | .tup xs => some (.val (.tup (cut xs lo hi)))
  | .str x => if x.length ≤ lim then some (.val (.str (cut x lo hi))) else none
  | _ => none
mutual
/-- lists within -/
def D.lists : D → Bool
  | .lst _ => true
  | .tup xs => listsL xs
  | .dic kvs => listsK kvs
  | _ => false
def listsL : List D → Bool
  | [] => false
  | x :: xs => x.lists || listsL xs
def listsK : List (Ky × D) → Bool
  | [] => false
  | (_, x) :: r => x.lists || listsK r
end
def reprD (d : D) : Option D := match d.pd with
  | some p => if p.showable && decide (p.depth ≤ 50) && decide (p.shown.length ≤ lim) && (!p.hasDict || !d.lists) then some (.str p.shown.cps.toList) else none
  | none => none
/-- what the items of something are -/
def itemsD : D → Option (List D)
  | .lst xs => some xs
  | .tup xs => some xs
  | .str x => some (x.map fun c => .str [c])
  | _ => none
def bools : List D → Option (List Bool)
  | [] => some []
  | .bl b :: r => (bools r).map (b :: ·)
  | _ => none
def strsD : List D → Option (List Tx)
  | [] => some []
  | .str b :: r => (strsD r).map (b :: ·)
  | _ => none
def joinT (s : Tx) : List Tx → Tx
  | [] => []
  | [x] => x
  | x :: r => x ++ s ++ joinT s r
def lenR : List D → Option ER
  | [.lst xs] => some (.val (.int xs.length))
  | [.tup xs] => some (.val (.int xs.length))
  | [.scr xs] => some (.val (.int xs.length))
  | [.str x] => if x.length ≤ lim then some (.val (.int x.length)) else none
  | _ => none
def int2R (f : Int → Int → Option ER) : List D → Option ER
  | [.int i, .int j] => f i j
  | _ => none
def absR : List D → Option ER
  | [.int i] => some (.val (.int (if i < 0 then -i else i)))
  | _ => none
def intcR : List D → Option ER
  | [.int i] => some (.val (.int i))
  | [.bl b] => some (.val (.int (if b then 1 else 0)))
  | _ => none
def reprR : List D → Option ER
  | [d] => (reprD d).map .val
  | _ => none
def boolR (f : List Bool → Bool) : List D → Option ER
  | [.lst xs] => (bools xs).map fun bs => .val (.bl (f bs))
  | _ => none
def tupleR : List D → Option ER
  | [.lst xs] => some (.val (.tup xs))
  | [.tup xs] => some (.val (.tup xs))
  | _ => none
def listR : List D → Option ER
  | [.lst xs] => some (.fresh xs)
  | [.tup xs] => some (.fresh xs)
  | _ => none
def tupSR : List D → Option ER
  | [.str x] => if x.length ≤ lim then some (.val (.tup (x.map fun c => .str [c]))) else none
  | _ => none
/-- the first place of an equal one -/
def lixR (d : D) : D → Option ER
  | .lst ys => if d.flat 30 && flatL 30 ys then (ys.findIdx? fun y => y.eqv d).map fun (k : Nat) => .val (.int (k : Int)) else none
  | _ => none
def biR : BI → List D → Option ER
  | .len => lenR
  | .max2 => int2R fun i j => some (.val (.int (if j > i then j else i)))
  | .min2 => int2R fun i j => some (.val (.int (if j < i then j else i)))
  | .abs => absR
  | .int => intcR
  | .divmod => int2R fun i j => if 0 < j ∧ j < 1606938044258990275541962092341162602522202993782792835301376 then some (.val (.tup [.int (i / j), .int (i % j)])) else none
  | .repr => reprR
  | .all => boolR fun bs => bs.all id
  | .any => boolR fun bs => bs.any id
  | .tuple => tupleR
  | .list => listR
  | .tupS => tupSR
  | _ => fun _ => none
def joinR (s : Tx) : List D → Option ER
  | [.lst xs] => (strsD xs).bind fun ts => if (ts.map List.length).sum + ts.length * s.length ≤ lim then some (.val (.str (joinT s ts))) else none
  | _ => none
def indexR (s : Tx) : List D → Option ER
  | [.str [c]] => (s.findIdx? (· == c)).map fun (k : Nat) => .val (.int (k : Int))
  | _ => none
def mthR : MI → Tx → List D → Option ER
  | .join => joinR
  | .index => indexR
  | _ => fun _ _ => none
/-- is d one of class c (data alone) -/
def isiD : D → Cl → Bool
  | .int _, .int => true
  | .bl _, .int => true
  | .bl _, .bool => true
  | .str _, .str => true
  | .lst _, .list => true
  | .tup _, .tuple => true
  | .dic _, .dict => true
  | _, _ => false
/-- a def's own account: how its parameters are filled -/
structure Fn where
  np : Nat
  br : Bool
  df : List D
  ns : Nat
  body : ISs
inductive CV where
  | val (d : D) | fresh (xs : List D)
inductive CR where
  | ok (v : CV) (c : List D) | exc (k : Tx) (fs : List (Tx × D)) (c : List D) | stuck
def CV.er : CV → ER
  | .val d => .val d
  | .fresh xs => .fresh xs
/-- the world of a run: the classes, the calls -/
structure Wd where
  cl : Tx → Cl → Option Bool
  call : Nat → List D → List D → CR
  br : Nat → Bool
  df : Nat → List D
  cst : Nat → D
  init : Tx → List D → Option (List (Tx × D))
def truth : D → Option Bool
  | .bl b => some b
  | _ => none
/-- the parameters in order: by places in the arguments and the defaults -/
def pick {α : Type} (l : List α) : List Nat → Option (List α)
  | [] => some []
  | k :: r => match l[k]?, pick l r with
    | some x, some xs => some (x :: xs)
    | _, _ => none
def fzAll : List ER → Fr → Rs (List D)
  | [], s => .ok [] s
  | e :: r, s => (e.fz s).bind fun d s => (fzAll r s).bind fun ds s => .ok (d :: ds) s
def rdAll (s : Fr) : List ER → Option (List D)
  | [] => some []
  | e :: r => match e.rd s, rdAll s r with
    | some d, some t => some (d :: t)
    | _, _ => none
/-- what a call leaves -/
def CR.rs (r : CR) (f : List D → Fr) : Rs ER := match r with
  | .ok v c => .ok v.er (f c)
  | .exc k fs c => .exc k fs (f c)
  | .stuck => .stuck
/-- the first argument is lent -/
def lend (w : Wd) (f : Nat) (as : List D) (er : List ER) (s : Fr) : ER → Rs ER
  | .cell => (w.call f as s.cell).rs fun c => ⟨s.sl, c⟩
  | .slot i => match s.sl[i]? with
    | some (.own xs) => (w.call f as xs).rs fun c => s.put i (.own c)
    | _ => .stuck
  | .fresh xs => match er with
    | [] => (w.call f as xs).rs fun _ => s
    | _ => .stuck
  | _ => .stuck
/-- a call: the arguments in the parameters' order; the first one may be lent -/
def doCall (w : Wd) (f : Nat) (ix : List Nat) (es : List ER) (s : Fr) : Rs ER :=
  match w.br f with
  | false => (fzAll (es.map ER.hold) s).bind fun ds s => match pick (ds ++ w.df f) ix with
    | none => .stuck
    | some as => (w.call f as []).rs fun _ => s
  | true => match es, ix with
    | e0 :: er, 0 :: r => if r.all fun k => decide (0 < k) then (fzAll (er.map ER.hold) s).bind fun ds s => match pick (ds ++ w.df f) (r.map (· - 1)) with
        | none => .stuck
        | some as => lend w f (.non :: as) er s e0
      else .stuck
    | _, _ => .stuck
/-- the slots of a target -/
def Tg.slots : Tg → List Nat
  | .nm i => [i]
  | .tp is => is
def putAll (s : Fr) : List Nat → List D → Option Fr
  | [], [] => some s
  | i :: is, d :: ds => putAll (s.put i (.val d)) is ds
  | _, _ => none
def Tg.bind (t : Tg) (d : D) (s : Fr) : Option Fr := match t with
  | .nm i => some (s.put i (.val d))
  | .tp is => match d with
    | .tup ds => putAll s is ds
    | _ => none
/-- what is left of an outer slot -/
def Sl.left : Sl → Sl
  | .own _ => .un
  | x => x
def Fr.back (s old : Fr) (is : List Nat) : Fr := ⟨is.foldl (fun l i => l.set i (old.sl.getD i .un).left) s.sl, s.cell⟩
def Fr.wipe (s : Fr) (is : List Nat) : Fr := ⟨is.foldl (fun l i => l.set i .un) s.sl, s.cell⟩
def lcGo (f : D → Fr → Rs (Option D)) : List D → Fr → Rs (List D)
  | [], s => .ok [] s
  | x :: r, s => match f x s with
    | .ok y s => match lcGo f r s with
      | .ok ys s => .ok (match y with | some y => y :: ys | none => ys) s
      | _ => .stuck
    | _ => .stuck
def enumD : Nat → List D → List D
  | _, [] => []
  | k, x :: r => .tup [.int k, x] :: enumD (k + 1) r
def rngD (a : Int) : Nat → List D
  | 0 => []
  | n + 1 => .int a :: rngD (a + 1) n
def zipD (xs ys : List D) : List D := List.zipWith (fun x y => .tup [x, y]) xs ys
/-- as a test -/
def tst (r : Rs ER) : Rs Bool := r.bind fun x s => match x.rd s with
  | some d => Rs.of (truth d) s
  | none => .stuck
/-- held, unless nothing comes behind -/
def holdL (x : ER) : List ER → ER
  | [] => x
  | _ => x.hold
/-- is it of one of the classes -/
def anyCl (w : Wd) (c : Tx) : List Cl → Option Bool
  | [] => some false
  | k :: r => match w.cl c k with
    | some true => some true
    | some false => anyCl w c r
    | none => none
/-- .. where all of them are known -/
def exCl (w : Wd) (c : Tx) : List Cl → Option Bool
  | [] => some false
  | k :: r => (w.cl c k).bind fun b => (exCl w c r).map fun d => b || d
mutual
def ev (w : Wd) : IE → Fr → Rs ER
  | .var i, s => match s.sl[i]? with
    | some (.val d) => .ok (.val d) s
    | some (.own _) => .ok (.slot i) s
    | some .ref => .ok .cell s
    | _ => .stuck
  | .cst d, s => .ok (.val d) s
  | .gc k, s => .ok (.val (w.cst k)) s
  | .bin o a b, s => (ev w a s).bind fun x s => (ev w b s).bind fun y s => match x.hold.rd s, y.rd s with
    | some x, some y => Rs.of (opR o x y) s
    | _, _ => .stuck
  | .neg a, s => (ev w a s).bind fun x s => match x.rd s with
    | some (.int i) => .ok (.val (.int (-i))) s
    | _ => .stuck
  | .not a, s => (tst (ev w a s)).bind fun b s => .ok (.val (.bl (!b))) s
  | .and a b, s => (tst (ev w a s)).bind fun t s => if t then (tst (ev w b s)).bind fun t s => .ok (.val (.bl t)) s else .ok (.val (.bl false)) s
  | .or a b, s => (tst (ev w a s)).bind fun t s => if t then .ok (.val (.bl true)) s else (tst (ev w b s)).bind fun t s => .ok (.val (.bl t)) s
  | .cmp o a b, s => (ev w a s).bind fun x s => (ev w b s).bind fun y s => match x.hold.rd s, y.rd s with
    | some x, some y => Rs.of ((cmpR o x y).map fun t => .val (.bl t)) s
    | _, _ => .stuck
  | .chn o p a b c, s => (ev w a s).bind fun x s => (ev w b s).bind fun y s => match x.hold.rd s, y.hold.rd s with
    | some x', some y' => match cmpR o x' y' with
      | some true => (ev w c s).bind fun z s => match y.hold.rd s, z.rd s with
        | some y, some z => Rs.of ((cmpR p y z).map fun t => .val (.bl t)) s
        | _, _ => .stuck
      | some false => .ok (.val (.bl false)) s
      | none => .stuck
    | _, _ => .stuck
  | .ite t a b, s => (tst (ev w t s)).bind fun t s => if t then ev w a s else ev w b s
  | .lst es, s => (evF w es s).bind fun ds s => if ds.length ≤ lim then .ok (.fresh ds) s else .stuck
  | .tup es, s => (evF w es s).bind fun ds s => if ds.length ≤ lim then .ok (.val (.tup ds)) s else .stuck
  | .idx a i, s => (ev w a s).bind fun x s => (ev w i s).bind fun y s => match x.hold.rd s, y.rd s with
    | some x, some y => Rs.of ((atS x y).map .val) s
    | _, _ => .stuck
  | .slc a lo hi, s => (ev w a s).bind fun x s => (evO w lo s).bind fun l s => (evO w hi s).bind fun h s => match x.hold.rd s with
    | some x => Rs.of (slcD x l h) s
    | _ => .stuck
  | .call f ix es, s => (evB w es s).bind fun xs s => doCall w f ix xs s
  | .bi b es, s => (evB w es s).bind fun xs s => match rdAll s xs with
    | some ds => Rs.of (biR b ds) s
    | none => .stuck
  | .mth m o es, s => (ev w o s).bind fun x s => match x with
    | .val (.str t) => (evB w es s).bind fun xs s => match rdAll s xs with
      | some ds => Rs.of (mthR m t ds) s
      | none => .stuck
    | _ => .stuck
  | .isi a c, s => (ev w a s).bind fun x s => match x.rd s with
    | some d => if d.pd.isSome then .ok (.val (.bl (isiD d c))) s else .stuck
    | none => .stuck
  | .isx a k, s => (ev w a s).bind fun x s => match x with
    | .val (.exc c _) => Rs.of ((w.cl c k).map fun b => .val (.bl b)) s
    | _ => .stuck
  | .isxs a ks, s => (ev w a s).bind fun x s => match x with
    | .val (.exc c _) => Rs.of ((anyCl w c ks).map fun b => .val (.bl b)) s
    | _ => .stuck
  | .attr o f, s => (ev w o s).bind fun x s => match x with
    | .val (.exc c fs) => match w.cl c .ve with
      | some _ => Rs.of ((fs.lookup f).map .val) s
      | none => .stuck
    | _ => .stuck
  | .lcm e tg it cond, s => (evI w it s).bind fun xs s1 =>
    match lcGo (fun x s2 => match tg.bind x (s2.wipe tg.slots) with
      | none => .stuck
      | some s3 => (evC w cond s3).bind fun t s4 => if t then (ev w e s4).bind fun y s5 => (y.fz s5).bind fun d s6 => .ok (some d) s6 else .ok none s4) xs s1 with
    | .ok ds s2 => if ds.length ≤ lim then .ok (.fresh ds) ((s2.wipe tg.slots).back s1 tg.slots) else .stuck
    | _ => .stuck
  | .dic kvs, s => .ok (.val (.dic kvs)) s
  | .dget kvs i, s => (ev w i s).bind fun x s => match x.rd s with
    | some d => Rs.of ((dicAt kvs d).map .val) s
    | none => .stuck
  | .lix o e, s => (ev w o s).bind fun x s => match x.hold.rd s with
    | some (.lst _) => (ev w e s).bind fun y s => match x.hold.rd s, y.rd s with
      | some x, some y => Rs.of (lixR y x) s
      | _, _ => .stuck
    | _ => .stuck
def evC (w : Wd) : IO → Fr → Rs Bool
  | .no, s => .ok true s
  | .so e, s => tst (ev w e s)
def evF (w : Wd) : IEs → Fr → Rs (List D)
  | .nil, s => .ok [] s
  | .cons e r, s => (ev w e s).bind fun x s => (x.fz s).bind fun d s => (evF w r s).bind fun ds s => .ok (d :: ds) s
/-- borrowed; the last one may be fresh -/
def evB (w : Wd) : IEs → Fr → Rs (List ER)
  | .nil, s => .ok [] s
  | .cons e r, s => (ev w e s).bind fun x s => (evB w r s).bind fun xs s => .ok (holdL x xs :: xs) s
def evO (w : Wd) : IO → Fr → Rs (Option Int)
  | .no, s => .ok none s
  | .so e, s => (ev w e s).bind fun x s => match x.rd s with
    | some (.int i) => .ok (some i) s
    | _ => .stuck
/-- what is walked -/
def evI (w : Wd) : IT → Fr → Rs (List D)
  | .seq e, s => (ev w e s).bind fun x s => (x.fz s).bind fun d s => Rs.of (itemsD d) s
  | .rng es, s => (evF w es s).bind fun ds s => match ds with
    | [.int n] => if -lim ≤ n ∧ n ≤ lim then .ok (rngD 0 n.toNat) s else .stuck
    | [.int m, .int n] => if -lim ≤ n ∧ n ≤ lim ∧ -lim ≤ m ∧ m ≤ lim then .ok (rngD m (n - m).toNat) s else .stuck
    | _ => .stuck
  | .zip es, s => (evF w es s).bind fun ds s => match ds with
    | [.str x, .str y] => .ok (zipD (x.map fun c => .str [c]) (y.map fun c => .str [c])) s
    | _ => .stuck
end
end Pi
/-! Statements, defs. -/
namespace Pi
inductive Out where
  | next (s : Fr) | ret (v : CV) (s : Fr) | brk (s : Fr) | cont (s : Fr) | exc (c : Tx) (fs : List (Tx × D)) (s : Fr) | stuck
def Rs.out {α : Type} (r : Rs α) (f : α → Fr → Out) : Out := match r with
  | .ok a s => f a s
  | .exc c fs s => .exc c fs s
  | .stuck => .stuck
def Out.seq (o : Out) (f : Fr → Out) : Out := match o with
  | .next s => f s
  | o => o
def outO (o : Option Fr) : Out := match o with
  | some s => .next s
  | none => .stuck
/-- name = what has come -/
def stoR (i : Nat) (x : ER) (s : Fr) : Out := match x with
  | .val d => .next (s.put i (.val d))
  | .fresh xs => .next (s.put i (.own xs))
  | .slot j => match s.sl[j]? with
    | some (.own xs) => .next ((s.put j (.val (.lst xs))).put i (.val (.lst xs)))
    | some (.val d) => .next (s.put i (.val d))
    | _ => .stuck
  | .cell => .stuck
def retR (x : ER) (s : Fr) : Out := match x with
  | .val d => .ret (.val d) s
  | .fresh xs => .ret (.fresh xs) s
  | .slot j => match s.sl[j]? with
    | some (.own xs) => .ret (.fresh xs) s
    | some (.val d) => .ret (.val d) s
    | _ => .stuck
  | .cell => .stuck
/-- a change of the list in slot i -/
def mutS (i : Nat) (f : List D → Option (List D)) (s : Fr) : Option Fr := match s.sl[i]? with
  | some (.own xs) => (f xs).map fun ys => s.put i (.own ys)
  | some .ref => (f s.cell).map fun ys => ⟨s.sl, ys⟩
  | _ => none
def setAt (k : Int) (d : D) (xs : List D) : Option (List D) := (ixOf xs.length k).map fun j => xs.set j d
/-- an index that is told at once -/
def ixV : IE → Fr → Option Int
  | .cst (.int k), _ => some k
  | .var j, s => match s.sl[j]? with
    | some (.val (.int k)) => some k
    | _ => none
  | _, _ => none
def setX (i : Nat) (e : IE) (d : D) (s : Fr) : Option Fr := match ixV e s with
  | some k => mutS i (setAt k d) s
  | none => none
def tgs : List TG → List D → Fr → Option Fr
  | [], [], s => some s
  | .nm i :: ts, d :: ds, s => tgs ts ds (s.put i (.val d))
  | .ix i e :: ts, d :: ds, s => match setX i e d s with
    | some s => tgs ts ds s
    | none => none
  | _, _, _ => none
def loopGo (f : D → Fr → Out) : List D → Fr → Out
  | [], s => .next s
  | x :: r, s => match f x s with
    | .next s => loopGo f r s
    | .cont s => loopGo f r s
    | .brk s => .next s
    | o => o
/-- behind an except suite its name is gone -/
def Out.drop (i : Nat) : Out → Out
  | .next s => .next (s.put i .un)
  | .ret v s => .ret v (s.put i .un)
  | .brk s => .brk (s.put i .un)
  | .cont s => .cont (s.put i .un)
  | _ => .stuck
mutual
def exec (w : Wd) : IS → Fr → Out
  | .set i e, s => (ev w e s).out fun x s => stoR i x s
  | .setT ts e, s => (ev w e s).out fun x s => match x.hold.rd s with
    | some (.tup ds) => outO (tgs ts ds s)
    | some (.lst ds) => outO (tgs ts ds s)
    | _ => .stuck
  | .par i j es, s => (evF w es s).out fun ds s => outO (putAll s [i, j] ds)
  | .setI i ix e, s => (ev w e s).out fun x s => (x.fz s).out fun d s => outO (setX i ix d s)
  | .app i e, s => (ev w e s).out fun x s => (x.fz s).out fun d s => outO (mutS i (fun xs => if xs.length < lim then some (xs ++ [d]) else none) s)
  | .ext i e, s => (ev w e s).out fun x s => match x.hold.rd s with
    | some (.lst ys) => outO (mutS i (fun xs => if xs.length + ys.length < lim then some (xs ++ ys) else none) s)
    | some (.tup ys) => outO (mutS i (fun xs => if xs.length + ys.length < lim then some (xs ++ ys) else none) s)
    | _ => .stuck
  | .ret e, s => (ev w e s).out retR
  | .retN, s => .ret (.val .non) s
  | .ite t a b, s => (tst (ev w t s)).out fun t s => if t then execs w a s else execs w b s
  | .loop tg it b, s => (evI w it s).out fun xs s => loopGo (fun x s => match tg.bind x s with
    | none => .stuck
    | some s => execs w b s) xs s
  | .rais c es, s => (evF w es s).out fun ds s => match w.init c ds with
    | some fs => .exc c fs s
    | none => .stuck
  | .tryS b hs, s => match execs w b s with
    | .exc c fs s => hand w hs c fs s
    | o => o
  | .pass, s => .next s
  | .brk, s => .brk s
  | .cont, s => .cont s
  | .drop e, s => (ev w e s).out fun _ s => .next s
def execs (w : Wd) : ISs → Fr → Out
  | .nil, s => .next s
  | .cons a r, s => (exec w a s).seq fun s => execs w r s
def hand (w : Wd) : IHs → Tx → List (Tx × D) → Fr → Out
  | .nil, c, fs, s => .exc c fs s
  | .cons ks i b r, c, fs, s => match exCl w c ks with
    | some true => (execs w b (s.put i (.val (.exc c fs)))).drop i
    | some false => hand w r c fs s
    | none => .stuck
end
/-! ### defs -/
structure Pg where
  cl : Tx → Cl → Option Bool
  fns : List Fn
  cst : List D
  init : Tx → List D → Option (List (Tx × D))
def Pg.br (p : Pg) (f : Nat) : Bool := match p.fns[f]? with
  | some d => d.br
  | none => false
def Pg.df (p : Pg) (f : Nat) : List D := match p.fns[f]? with
  | some d => d.df
  | none => []
/-- the slots at the entry: the parameter that is lent stands for the cell -/
def entryP (br : Bool) : List D → List Sl
  | [] => []
  | d :: ds => (if br then .ref else .val d) :: ds.map .val
def entry (d : Fn) (as : List D) : List Sl := entryP d.br as ++ List.replicate (d.ns - d.np) .un
def ofOut (o : Out) : CR := match o with
  | .next s => .ok (.val .non) s.cell
  | .ret v s => .ok v s.cell
  | .exc c fs s => .exc c fs s.cell
  | _ => .stuck
def Pg.wd0 (p : Pg) (n : Nat) (call : Nat → List D → List D → CR) : Wd := ⟨p.cl, call, p.br, p.df, fun k => p.cst.getD k .non, fun c ds => if 2 ≤ n then p.init c ds else none⟩
def Pg.run (p : Pg) : Nat → Nat → List D → List D → CR
  | 0, _, _, _ => .stuck
  | n + 1, f, as, c => match p.fns[f]? with
    | none => .stuck
    | some d => if as.length = d.np then ofOut (execs (p.wd0 n (p.run n)) d.body ⟨entry d as, c⟩) else .stuck
def Pg.wd (p : Pg) (n : Nat) : Wd := p.wd0 n (p.run n)
end Pi
set_option maxRecDepth 100000
set_option maxHeartbeats 3900000
namespace Pi
open PySem PySem.Spec L2 PyProof.Rows
abbrev Sg := List (Option V)
/-! ### what a value stands for -/
def tx (x : Tx) : Str := ⟨x.toArray⟩
def kyS : Ky → Key
  | .inl i => .inl i
  | .inr x => .inr (tx x)
/-- where the class of that name stands -/
def adr (K : PySem.W.Frag) (c : Tx) : Addr := match PySem.W.nsIn K mainGlobals (tx c) with
  | some (some (.ref a)) => a
  | _ => 0
/-- an error that was caught: its class, its dict -/
def exq (a c : Addr) (d : Option Addr) : HO := .ext fun h => ∃ oe vs, h.get? a = some oe ∧ oe.cls = .ref c ∧ oe.dict = d ∧ oe.data = .fields vs
/-- v stands for d over the frozen heap F -/
inductive Rp (K : PySem.W.Frag) (F : Hp) : V → D → Prop where
  | non : Rp K F .non .non
  | bl (b : Bool) : Rp K F (.bl b) (.bl b)
  | int (i : Int) : Rp K F (.int i) (.int i)
  | str (x : Tx) : Rp K F (.str (tx x)) (.str x)
  | lst {a : Addr} {vs : List V} {xs : List D} (h : F a = some (.lst vs)) (l : vs.length = xs.length) (r : ∀ (i : Nat) v x, vs[i]? = some v → xs[i]? = some x → Rp K F v x) : Rp K F (.ref a) (.lst xs)
  | tup {a : Addr} {vs : List V} {xs : List D} (h : SqT K F a vs) (l : vs.length = xs.length) (r : ∀ (i : Nat) v x, vs[i]? = some v → xs[i]? = some x → Rp K F v x) : Rp K F (.ref a) (.tup xs)
  | scr {a : Addr} {vs : List V} {xs : List D} (h : SqL K F a vs) (l : vs.length = xs.length) (r : ∀ (i : Nat) v x, vs[i]? = some v → xs[i]? = some x → Rp K F v x) : Rp K F (.ref a) (.scr xs)
  | dic {a : Addr} {kvs : List (Key × V)} {xs : List (Ky × D)} (h : F a = some (.dK kvs)) (l : kvs.map (·.1) = xs.map (fun p => kyS p.1)) (r : ∀ (i : Nat) p q, kvs[i]? = some p → xs[i]? = some q → Rp K F p.2 q.2) : Rp K F (.ref a) (.dic xs)
  | ex0 {a : Addr} {c : Tx} (h : F a = some (exq a (adr K c) none)) : Rp K F (.ref a) (.exc c [])
  | ex1 {a dx : Addr} {c : Tx} {vs : List (Str × V)} {fs : List (Tx × D)} (h : F a = some (exq a (adr K c) (some dx))) (hd : F dx = some (.xd vs)) (l : vs.map (·.1) = fs.map (fun p => tx p.1)) (r : ∀ (i : Nat) p q, vs[i]? = some p → fs[i]? = some q → Rp K F p.2 q.2) : Rp K F (.ref a) (.exc c fs)
/-- item by item -/
def RpA (K : PySem.W.Frag) (F : Hp) (vs : List V) (xs : List D) : Prop := vs.length = xs.length ∧ ∀ (i : Nat) v x, vs[i]? = some v → xs[i]? = some x → Rp K F v x
section
variable {K : PySem.W.Frag} {F F' : Hp} {v : V} {d : D} {vs : List V} {xs : List D}
theorem sql_mono {a : Addr} {ws : List V} (e : Same F F') (h : SqL K F a ws) : SqL K F' a ws := e.seq h
theorem sqt_mono {a : Addr} {ws : List V} (e : Same F F') (h : SqT K F a ws) : SqT K F' a ws := by
  exact Or.imp_left (Or.imp (fun z => e _ _ z) fun z => z.imp fun _ y => e _ _ y) h
theorem Rp.mono (e : Same F F') (h : Rp K F v d) : Rp K F' v d := by
  induction h with
  | non => exact .non
  | bl b => exact .bl b
  | int i => exact .int i
  | str x => exact .str x
  | lst h l _ ih => exact .lst (e _ _ h) l ih
  | scr h l _ ih => exact .scr (sql_mono e h) l ih
  | tup h l _ ih => exact .tup (sqt_mono e h) l ih
  | dic h l _ ih => exact .dic (e _ _ h) l ih
  | ex0 h => exact .ex0 (e _ _ h)
  | ex1 h hd l _ ih => exact .ex1 (e _ _ h) (e _ _ hd) l ih
theorem RpA.mono (e : Same F F') (h : RpA K F vs xs) : RpA K F' vs xs := ⟨h.1, fun i v x a b => (h.2 i v x a b).mono e⟩
theorem RpA.nil : RpA K F [] [] := ⟨rfl, fun i v x a => by simp at a⟩
theorem RpA.cons (h : Rp K F v d) (t : RpA K F vs xs) : RpA K F (v :: vs) (d :: xs) := by
  refine ⟨by simp [t.1], fun i w x a b => ?_⟩
  cases i with
  | zero =>
    simp only [List.getElem?_cons_zero, Option.some.injEq] at a b
    subst a; subst b
    exact h
  | succ i => exact t.2 i w x (by simpa using a) (by simpa using b)
theorem RpA.cons_inv {x : D} (h : RpA K F (v :: vs) (x :: xs)) : Rp K F v x ∧ RpA K F vs xs :=
  ⟨h.2 0 v x rfl rfl, by have := h.1; simpa using this, fun i w y a b => h.2 (i + 1) w y (by simpa using a) (by simpa using b)⟩
theorem RpA.append {ws : List V} {ys : List D} (h : RpA K F vs xs) (t : RpA K F ws ys) : RpA K F (vs ++ ws) (xs ++ ys) := by
  induction vs generalizing xs with
  | nil =>
    cases xs with
    | nil => exact t
    | cons x xs => have := h.1; simp at this
  | cons v vs ih =>
    cases xs with
    | nil => have := h.1; simp at this
    | cons x xs =>
      obtain ⟨a, b⟩ := h.cons_inv
      exact RpA.cons a (ih b)
theorem RpA.get {i : Nat} {x : D} (h : RpA K F vs xs) (e : xs[i]? = some x) : ∃ v, vs[i]? = some v ∧ Rp K F v x := by
  have hi : i < vs.length := by
    rw [h.1]
    exact lt_get e
  exact ⟨vs[i], List.getElem?_eq_getElem hi, h.2 i _ x (List.getElem?_eq_getElem hi) e⟩
theorem RpA.take (h : RpA K F vs xs) (n : Nat) : RpA K F (vs.take n) (xs.take n) := by
  refine ⟨by simp [h.1], fun i v x a b => ?_⟩
  rw [List.getElem?_take] at a b
  split at a
  · rename_i c
    rw [if_pos c] at b
    exact h.2 i v x a b
  · cases a
theorem RpA.drop (h : RpA K F vs xs) (n : Nat) : RpA K F (vs.drop n) (xs.drop n) := by
  refine ⟨by simp [h.1], fun i v x a b => ?_⟩
  rw [List.getElem?_drop] at a b
  exact h.2 _ v x a b
theorem RpA.set (h : RpA K F vs xs) (r : Rp K F v d) (n : Nat) : RpA K F (vs.set n v) (xs.set n d) := by
  refine ⟨by simp [h.1], fun i w x a b => ?_⟩
  rw [List.getElem?_set] at a b
  split at a
  · rename_i c
    rw [if_pos c] at b
    split at a
    · rename_i c2
      rw [if_pos (by rw [← h.1]; exact c2)] at b
      cases a; cases b
      exact r
    · cases a
  · rename_i c
    rw [if_neg c] at b
    exact h.2 i w x a b
end
/-- .. where the outermost list may be one's own (it stands in H) -/
inductive Rt (K : PySem.W.Frag) (F H : Hp) : V → D → Prop where
  | fz {v : V} {d : D} (h : Rp K F v d) : Rt K F H v d
  | ow {p : Addr} {vs : List V} {xs : List D} (h : H p = some (.lst vs)) (r : RpA K F vs xs) : Rt K F H (.ref p) (.lst xs)
section
variable {K : PySem.W.Frag} {F H : Hp} {v : V} {d : D} {xs : List D}
theorem Rt.int {i : Int} (h : Rt K F H v (.int i)) : v = .int i := by
  cases h with
  | fz h => cases h; rfl
theorem Rt.bl {b : Bool} (h : Rt K F H v (.bl b)) : v = .bl b := by
  cases h with
  | fz h => cases h; rfl
theorem Rt.str {x : Tx} (h : Rt K F H v (.str x)) : v = .str (tx x) := by
  cases h with
  | fz h => cases h; rfl
theorem Rt.non (h : Rt K F H v .non) : v = .non := by
  cases h with
  | fz h => cases h; rfl
theorem Rt.lst (s : Same F H) (h : Rt K F H v (.lst xs)) : ∃ p vs, v = .ref p ∧ H p = some (.lst vs) ∧ RpA K F vs xs := by
  cases h with
  | fz h =>
    cases h with
    | lst h l r => exact ⟨_, _, rfl, s _ _ h, l, r⟩
  | ow h r => exact ⟨_, _, rfl, h, r⟩
theorem Rt.scr (s : Same F H) (h : Rt K F H v (.scr xs)) : ∃ p vs, v = .ref p ∧ SqL K H p vs ∧ RpA K F vs xs := by
  cases h with
  | fz h =>
    cases h with
    | scr h l r => exact ⟨_, _, rfl, sql_mono s h, l, r⟩
theorem Rt.tup (s : Same F H) (h : Rt K F H v (.tup xs)) : ∃ p vs, v = .ref p ∧ SqT K H p vs ∧ RpA K F vs xs := by
  cases h with
  | fz h =>
    cases h with
    | tup h l r => exact ⟨_, _, rfl, sqt_mono s h, l, r⟩
end

/-! ### the state -/
/-- where the cell stands, what was frozen and tracked at the entry -/
structure En where
  c : Option Addr
  F0 : Hp
  H0 : Hp
def SlOk (K : PySem.W.Frag) (e : En) (σ : Sg) (F H : Hp) (i : Nat) : Sl → Prop
  | .un => True
  | .val d => ∃ v, σ[i]? = some (some v) ∧ Rp K F v d
  | .own xs => ∃ p vs, σ[i]? = some (some (.ref p)) ∧ e.H0 p = none ∧ F p = none ∧ some p ≠ e.c ∧ H p = some (.lst vs) ∧ RpA K F vs xs
  | .ref => ∃ a, e.c = some a ∧ σ[i]? = some (some (.ref a))
def isOwn : Sl → Bool
  | .own _ => true
  | _ => false
structure Rl (K : PySem.W.Frag) (e : En) (s : Fr) (σ : Sg) (F H : Hp) : Prop where
  sub : Same F H
  fnew : ∀ b o, F b = some o → e.F0 b = some o ∨ e.H0 b = none
  f0 : Same e.F0 F
  keep : ∀ b o, e.H0 b = some o → some b ≠ e.c → H b = some o
  cell : ∀ a, e.c = some a → F a = none ∧ ∃ vs, H a = some (.lst vs) ∧ RpA K F vs s.cell
  slot : ∀ (i : Nat) x, s.sl[i]? = some x → SlOk K e σ F H i x
  dist : ∀ (i j : Nat) x y, s.sl[i]? = some x → s.sl[j]? = some y → isOwn x = true → isOwn y = true → σ[i]? = σ[j]? → i = j
  len : s.sl.length = σ.length
/-- what has come -/
def Rv (K : PySem.W.Frag) (e : En) (s : Fr) (σ : Sg) (F H : Hp) (v : V) : ER → Prop
  | .val d => Rp K F v d
  | .fresh xs => ∃ p vs, v = .ref p ∧ e.H0 p = none ∧ F p = none ∧ some p ≠ e.c ∧ H p = some (.lst vs) ∧ RpA K F vs xs ∧ ∀ (i : Nat) x, s.sl[i]? = some x → isOwn x = true → σ[i]? ≠ some (some (.ref p))
  | .slot i => σ[i]? = some (some v)
  | .cell => ∃ a, e.c = some a ∧ v = .ref a
section
variable {K : PySem.W.Frag} {e : En} {s : Fr} {σ : Sg} {F H : Hp} {v : V} {d : D} {er : ER}
/-- what is read of it -/
theorem Rl.rd (R : Rl K e s σ F H) (h : Rv K e s σ F H v er) (q : er.rd s = some d) : Rt K F H v d := by
  cases er with
  | val x =>
    cases q
    exact .fz h
  | fresh xs =>
    cases q
    obtain ⟨p, vs, rfl, _, _, _, hp, r, _⟩ := h
    exact .ow hp r
  | slot i =>
    have h : σ[i]? = some (some v) := h
    unfold ER.rd at q
    cases hs : s.sl[i]? with
    | none =>
      simp only [hs] at q
      cases q
    | some x =>
      simp only [hs] at q
      have k := R.slot i x hs
      cases x with
      | un => cases q
      | ref => cases q
      | val y =>
        cases q
        obtain ⟨w, hw, r⟩ := k
        rw [h] at hw
        cases hw
        exact .fz r
      | own xs =>
        cases q
        obtain ⟨p, vs, hw, _, _, _, hp, r⟩ := k
        rw [h] at hw
        cases hw
        exact .ow hp r
  | cell =>
    cases q
    obtain ⟨a, ha, rfl⟩ := h
    obtain ⟨_, vs, hv, r⟩ := R.cell a ha
    exact .ow hv r
/-- a new frozen object -/
theorem Rl.freeze {p : Addr} {vs : List V} (R : Rl K e s σ F H) (h0 : e.H0 p = none) (hF : F p = none) (hc : some p ≠ e.c) (hp : H p = some (.lst vs))
    (ns : ∀ (i : Nat) x, s.sl[i]? = some x → isOwn x = true → σ[i]? ≠ some (some (.ref p))) : Rl K e s σ (upd F p (.lst vs)) H ∧ Same F (upd F p (.lst vs)) := by
  have sm : Same F (upd F p (.lst vs)) := fun b o q => by
    rw [upd_ne (ne_of_none q hF)]
    exact q
  refine ⟨⟨fun b o q => ?_, fun b o q => ?_, R.f0.trans sm, R.keep, fun a ha => ?_, fun i x q => ?_, R.dist, R.len⟩, sm⟩
  · by_cases hb : b = p
    · subst hb
      rw [upd_same] at q
      cases q
      exact hp
    · rw [upd_ne hb] at q
      exact R.sub b o q
  · by_cases hb : b = p
    · subst hb
      exact .inr h0
    · rw [upd_ne hb] at q
      exact R.fnew b o q
  · obtain ⟨h1, ws, h2, r⟩ := R.cell a ha
    refine ⟨?_, ws, h2, r.mono sm⟩
    rw [upd_ne (fun z => hc (by rw [ha, z]))]
    exact h1
  · have k := R.slot i x q
    cases x with
    | un => trivial
    | val d =>
      obtain ⟨w, hw, r⟩ := k
      exact ⟨w, hw, r.mono sm⟩
    | own xs =>
      obtain ⟨p', ws, hw, h1, h2, h3, h4, r⟩ := k
      have np : p' ≠ p := fun z => ns i _ q rfl (by rw [hw, z])
      exact ⟨p', ws, hw, h1, by rw [upd_ne np]; exact h2, h3, h4, r.mono sm⟩
    | ref => exact k
/-- held: a fresh list is frozen -/
theorem Rl.hold (R : Rl K e s σ F H) (h : Rv K e s σ F H v er) : ∃ F', Rl K e s σ F' H ∧ Same F F' ∧ Rv K e s σ F' H v er.hold := by
  cases er with
  | fresh xs =>
    obtain ⟨p, vs, rfl, h0, hF, hc, hp, r, ns⟩ := h
    obtain ⟨R', sm⟩ := R.freeze h0 hF hc hp ns
    exact ⟨_, R', sm, .lst upd_same r.1 (r.mono sm).2⟩
  | val d => exact ⟨F, R, Same.refl F, h⟩
  | slot i => exact ⟨F, R, Same.refl F, h⟩
  | cell => exact ⟨F, R, Same.refl F, h⟩
/-- what is held stays -/
theorem Rv.stay {s' : Fr} {F' H' : Hp} (h : Rv K e s σ F H v er.hold) (sm : Same F F') : Rv K e s' σ F' H' v er.hold := by
  cases er with
  | fresh xs => exact Rp.mono sm h
  | val d => exact Rp.mono sm h
  | slot i => exact h
  | cell => exact h
end
end Pi
set_option maxRecDepth 100000
set_option maxHeartbeats 3900000
namespace Pi
open PySem PySem.Spec L2 PyProof.Rows
/-! ### new objects -/
section
variable {K : PySem.W.Frag} {e : En} {s : Fr} {σ : Sg} {F H : Hp} {v : V} {d : D} {er : ER} {p : Addr} {o : HO}
structure Nw (e : En) (s : Fr) (σ : Sg) (F : Hp) (p : Addr) : Prop where
  h0 : e.H0 p = none
  f : F p = none
  c : some p ≠ e.c
  ow : ∀ (i : Nat) x, s.sl[i]? = some x → isOwn x = true → σ[i]? ≠ some (some (.ref p))
theorem Rl.nw (R : Rl K e s σ F H) (hp : H p = none) : Nw e s σ F p := by
  have hc : some p ≠ e.c := fun z => by
    obtain ⟨_, vs, h, _⟩ := R.cell p z.symm
    rw [hp] at h
    cases h
  refine ⟨?_, ?_, hc, fun i x q io z => ?_⟩
  · cases q : e.H0 p with
    | none => rfl
    | some u =>
      rw [R.keep p u q hc] at hp
      cases hp
  · cases q : F p with
    | none => rfl
    | some u =>
      rw [R.sub p u q] at hp
      cases hp
  · have k := R.slot i x q
    cases x with
    | own xs =>
      obtain ⟨p', vs, hw, _, _, _, h, _⟩ := k
      rw [z] at hw
      cases hw
      rw [hp] at h
      cases h
    | un => cases io
    | val _ => cases io
    | ref => cases io
/-- an object laid beside -/
theorem Rl.put (R : Rl K e s σ F H) (hp : H p = none) : Rl K e s σ F (upd H p o) := by
  have ne : ∀ {b u}, H b = some u → upd H p o b = some u := fun {b u} q => by
    rw [upd_ne (ne_of_none q hp)]
    exact q
  refine ⟨fun b u q => ne (R.sub b u q), R.fnew, R.f0, fun b u q hc => ne (R.keep b u q hc), fun a ha => ?_, fun i x q => ?_, R.dist, R.len⟩
  · obtain ⟨h1, vs, h2, r⟩ := R.cell a ha
    exact ⟨h1, vs, ne h2, r⟩
  · have k := R.slot i x q
    cases x with
    | own xs =>
      obtain ⟨p', vs, hw, h1, h2, h3, h4, r⟩ := k
      exact ⟨p', vs, hw, h1, h2, h3, ne h4, r⟩
    | un => exact k
    | val _ => exact k
    | ref => exact k
/-- an object laid beside, frozen -/
theorem Rl.ice (R : Rl K e s σ F H) (n : Nw e s σ F p) (hp : H p = some o) : Rl K e s σ (upd F p o) H ∧ Same F (upd F p o) := by
  have sm : Same F (upd F p o) := fun b u q => by
    rw [upd_ne (ne_of_none q n.f)]
    exact q
  refine ⟨⟨fun b u q => ?_, fun b u q => ?_, R.f0.trans sm, R.keep, fun a ha => ?_, fun i x q => ?_, R.dist, R.len⟩, sm⟩
  · by_cases hb : b = p
    · subst hb
      rw [upd_same] at q
      cases q
      exact hp
    · rw [upd_ne hb] at q
      exact R.sub b u q
  · by_cases hb : b = p
    · subst hb
      exact .inr n.h0
    · rw [upd_ne hb] at q
      exact R.fnew b u q
  · obtain ⟨h1, ws, h2, r⟩ := R.cell a ha
    refine ⟨?_, ws, h2, r.mono sm⟩
    rw [upd_ne (fun z => n.c (by rw [ha, z]))]
    exact h1
  · have k := R.slot i x q
    cases x with
    | un => trivial
    | val d =>
      obtain ⟨w, hw, r⟩ := k
      exact ⟨w, hw, r.mono sm⟩
    | own xs =>
      obtain ⟨p', ws, hw, h1, h2, h3, h4, r⟩ := k
      have np : p' ≠ p := fun z => n.ow i _ q rfl (by rw [hw, z])
      exact ⟨p', ws, hw, h1, by rw [upd_ne np]; exact h2, h3, h4, r.mono sm⟩
    | ref => exact k
theorem Rl.iced (R : Rl K e s σ F H) (hp : H p = none) : Rl K e s σ (upd F p o) (upd H p o) ∧ Same F (upd F p o) := (R.put hp).ice (R.nw hp) upd_same
/-- a new list of one's own -/
theorem Rl.newL {vs : List V} {xs : List D} (R : Rl K e s σ F H) (hp : H p = none) (r : RpA K F vs xs) : Rl K e s σ F (upd H p (.lst vs)) ∧ Rv K e s σ F (upd H p (.lst vs)) (.ref p) (.fresh xs) := by
  have n := R.nw hp
  exact ⟨R.put hp, p, vs, rfl, n.h0, n.f, n.c, upd_same, r, n.ow⟩
theorem Rl.newT {vs : List V} {xs : List D} (R : Rl K e s σ F H) (hp : H p = none) (r : RpA K F vs xs) : Rl K e s σ (upd F p (.tup vs)) (upd H p (.tup vs)) ∧ Same F (upd F p (.tup vs)) ∧ Rv K e s σ (upd F p (.tup vs)) (upd H p (.tup vs)) (.ref p) (.val (.tup xs)) := by
  obtain ⟨a, b⟩ := R.iced (o := .tup vs) hp
  exact ⟨a, b, .tup (.of upd_same) r.1 (r.mono b).2⟩
end
/-! ### what follows -/
/-- the own dict of an error: its fields -/
def Xd (K : PySem.W.Frag) (F H : Hp) (d : Option Addr) (fs : List (Tx × D)) : Prop :=
  (fs = [] ∧ d = none) ∨ ∃ dx vs, d = some dx ∧ H dx = some (.xd vs) ∧ F dx = some (.xd vs) ∧ vs.map (·.1) = fs.map (fun p => tx p.1) ∧ RpA K F (vs.map (·.2)) (fs.map (·.2))
/-- where a body stands: what is wanted of an error -/
structure Wi where
  cn : Tx → Value
  W : WX
def Po {α : Type} (K : PySem.W.Frag) (g : Wi) (e : En) (σ : Sg) (F : Hp) (R : α → Fr → Hp → Hp → Prop) : Rs α → Prop
  | .ok a s => ∀ H F', Rl K e s σ F' H → Same F F' → R a s F' H
  | .exc c fs s => ∀ d H F', Rl K e s σ F' H → Same F F' → Xd K F' H d fs → g.W (g.cn c) d σ H
  | .stuck => False
section
variable {α β : Type} {K : PySem.W.Frag} {g : Wi} {e : En} {σ : Sg} {F F' : Hp} {R R' : α → Fr → Hp → Hp → Prop} {T : β → Fr → Hp → Hp → Prop} {r : Rs α}
theorem Po.mono (h : Po K g e σ F R r) (s : Same F F') : Po K g e σ F' R r := by
  cases r with
  | ok a t => exact fun H F2 k q => h H F2 k (s.trans q)
  | exc c fs t => exact fun d H F2 k q x => h d H F2 k (s.trans q) x
  | stuck => exact h
theorem Po.imp (h : Po K g e σ F R r) (i : ∀ a s F' H, Rl K e s σ F' H → Same F F' → R a s F' H → R' a s F' H) : Po K g e σ F R' r := by
  cases r with
  | ok a t => exact fun H F2 k q => i a t F2 H k q (h H F2 k q)
  | exc c fs t => exact h
  | stuck => exact h
theorem Po.bind {f : α → Fr → Rs β} (h : Po K g e σ F T (r.bind f)) : Po K g e σ F (fun a s F1 _ => Po K g e σ F1 T (f a s)) r := by
  cases r with
  | ok a t => exact fun H F2 k q => Po.mono (r := f a t) h q
  | exc c fs t => exact h
  | stuck => exact h
end
/-- what an expression's value gives -/
def Vo (K : PySem.W.Frag) (e : En) (σ : Sg) (Q : VK) : ER → Fr → Hp → Hp → Prop := fun er s F H => ∀ v, Rv K e s σ F H v er → Q v H
def tE (K : PySem.W.Frag) (g : Wi) (w : Wd) (ie : IE) : TE := fun σ H Q => ∃ e s F, Rl K e s σ F H ∧ Po K g e σ F (Vo K e σ Q) (ev w ie s)
def tT (K : PySem.W.Frag) (g : Wi) (w : Wd) (ie : IE) : TT := fun σ H Q => ∃ e s F, Rl K e s σ F H ∧ Po K g e σ F (fun b _ _ H => Q b H) (tst (ev w ie s))
/-- arguments that are kept; that are lent -/
def tF (K : PySem.W.Frag) (g : Wi) (w : Wd) (es : IEs) : TA := fun σ H Q => ∃ e s F, Rl K e s σ F H ∧ Po K g e σ F (fun ds _ F H => ∀ vs, RpA K F vs ds → Q vs H) (evF w es s)
def RvA (K : PySem.W.Frag) (e : En) (s : Fr) (σ : Sg) (F H : Hp) (vs : List V) (ers : List ER) : Prop := vs.length = ers.length ∧ ∀ (i : Nat) v er, vs[i]? = some v → ers[i]? = some er → Rv K e s σ F H v er
def tB (K : PySem.W.Frag) (g : Wi) (w : Wd) (es : IEs) : TA := fun σ H Q => ∃ e s F, Rl K e s σ F H ∧ Po K g e σ F (fun ers s F H => ∀ vs, RvA K e s σ F H vs ers → Q vs H) (evB w es s)
theorem _root_.L2.PE.imp {X : Cx} {e : Expr} {t t' : TE} (h : PE X e t) (i : ∀ σ H Q, t' σ H Q → t σ H Q) : PE X e t' := ⟨fun pins s σ H Q I q => h.run pins s σ H Q I (i σ H Q q)⟩
theorem _root_.L2.PT.imp {X : Cx} {e : Expr} {t t' : TT} (h : PT X e t) (i : ∀ σ H Q, t' σ H Q → t σ H Q) : PT X e t' := ⟨fun pins s σ H Q I q => h.run pins s σ H Q I (i σ H Q q)⟩
theorem _root_.L2.PA.imp {X : Cx} {e : List Expr} {t t' : TA} (h : PA X e t) (i : ∀ σ H Q, t' σ H Q → t σ H Q) : PA X e t' := ⟨fun pos pins s σ H Q I q => h.run pos pins s σ H Q I (i σ H Q q)⟩
theorem _root_.L2.OpR.imp {X : Cx} {f : Value → Value → Sem Value} {r r' : R2} (h : OpR X f r) (i : ∀ x y H Q, r' x y H Q → r x y H Q) : OpR X f r' :=
  fun pins s σ H x y v u Q I rx ry q => h pins s σ H x y v u Q I rx ry (i x y H Q q)
theorem Rt.tupF {K : PySem.W.Frag} {F H : Hp} {v : V} {xs : List D} (h : Rt K F H v (.tup xs)) : Rp K F v (.tup xs) := by
  cases h with
  | fz h => exact h
/-! ### two operands -/
/-- the values stand for data; what comes is er -/
def rD (K : PySem.W.Frag) (f : D → D → Option ER) : R2 := fun x y H Q => ∃ (e : En) (s : Fr) (σ : Sg) (F : Hp) (dx dy : D) (er : ER), Rl K e s σ F H ∧ Rt K F H x dx ∧ Rt K F H y dy ∧ f dx dy = some er ∧
  ∀ v H' F', Rl K e s σ F' H' → Same F F' → Rv K e s σ F' H' v er → Q v H'
theorem t_two {K : PySem.W.Frag} {g : Wi} {w : Wd} {a b : IE} {f : D → D → Option ER} {σ : Sg} {H : Hp} {Q : VK} {e : En} {s : Fr} {F : Hp} (R : Rl K e s σ F H)
    (h : Po K g e σ F (Vo K e σ Q) ((ev w a s).bind fun x s => (ev w b s).bind fun y s => match x.hold.rd s, y.rd s with | some x, some y => Rs.of (f x y) s | _, _ => .stuck)) :
    tOp (rD K f) (tE K g w a) (tE K g w b) σ H Q := by
  refine ⟨e, s, F, R, h.bind.imp fun er s1 F1 H1 R1 sm1 h1 v rv => ?_⟩
  obtain ⟨F1', R1', smf, rv'⟩ := R1.hold rv
  refine ⟨e, s1, F1', R1', (h1.mono smf).bind.imp fun er2 s2 F2 H2 R2 sm2 h2 v2 rv2 => ?_⟩
  have rx := rv'.stay (s' := s2) (H' := H2) sm2
  cases ex : er.hold.rd s2 with
  | none =>
    simp only [ex] at h2
    exact h2.elim
  | some dx =>
    cases ey : er2.rd s2 with
    | none =>
      simp only [ex, ey] at h2
      exact h2.elim
    | some dy =>
      simp only [ex, ey] at h2
      cases ef : f dx dy with
      | none =>
        rw [ef] at h2
        exact h2.elim
      | some r =>
        rw [ef] at h2
        exact ⟨e, s2, σ, F2, dx, dy, r, R2, R2.rd rx ex, R2.rd rv2 ey, ef, fun v H' F' R' sm rv => h2 H' F' R' sm v rv⟩
/-! ### + - * % // ** -/
def boS : BOp → Operator
  | .add => .Add | .sub => .Sub | .mul => .Mult | .mod => .Mod | .fdiv => .FloorDiv | .pow => .Pow
theorem tx_app (x y : Tx) : tx x ++ tx y = tx (x ++ y) := by
  show (⟨x.toArray ++ y.toArray⟩ : Str) = ⟨(x ++ y).toArray⟩
  simp
theorem tx_len (x : Tx) : (tx x).length = x.length := by simp [tx, Str.length]
theorem lim_le {n : Nat} (h : n ≤ lim) : n ≤ sizeLine := Nat.le_trans h (by decide)
theorem rd_int {K : PySem.W.Frag} {c : Int → Int → Bool} {f : Int → Int → Int} {x y : V} {H : Hp} {Q : VK} (h : rD K (intR c f) x y H Q) : ∃ i j, x = .int i ∧ y = .int j ∧ c i j = true ∧ Q (.int (f i j)) H := by
  obtain ⟨e, s, σ, F, dx, dy, er, R, rx, ry, ef, q⟩ := h
  unfold intR at ef
  split at ef
  · split at ef
    · rename_i hc
      cases ef
      cases rx.int; cases ry.int
      exact ⟨_, _, rfl, rfl, hc, q _ H F R (Same.refl F) (.int _)⟩
    · cases ef
  · cases ef
theorem op_bin {X : Cx} (o : BOp) : OpR X (binaryOp (boS o)) (rD X.K (opR o)) := by
  cases o with
  | add =>
    refine ((op_add (X := X)).or ((op_add_str (X := X)).or ((op_cat (X := X)).or (op_catA (X := X))))).imp fun x y H Q ⟨e, s, σ, F, dx, dy, er, R, rx, ry, ef, q⟩ => ?_
    have ef : addR dx dy = some er := ef
    unfold addR at ef
    split at ef
    · cases ef
      cases rx.int; cases ry.int
      exact .inl ⟨_, _, rfl, rfl, q _ H F R (Same.refl F) (.int _)⟩
    · split at ef
      · rename_i hl
        cases ef
        cases rx.str; cases ry.str
        refine .inr (.inl ⟨_, _, rfl, rfl, by rw [tx_len, tx_len]; exact lim_le hl, ?_⟩)
        rw [tx_app]
        exact q _ H F R (Same.refl F) (.str _)
      · cases ef
    · split at ef
      · rename_i hl
        cases ef
        obtain ⟨p1, v1, rfl, h1, r1⟩ := rx.lst R.sub
        obtain ⟨p2, v2, rfl, h2, r2⟩ := ry.lst R.sub
        refine .inr (.inr (.inl ⟨p1, p2, v1, v2, rfl, rfl, h1, h2, by rw [r1.1, r2.1]; exact lim_le hl, fun p hp => ?_⟩))
        obtain ⟨R', rv⟩ := R.newL hp (r1.append r2)
        exact q _ _ F R' (Same.refl F) rv
      · cases ef
    · split at ef
      · rename_i hl
        cases ef
        have fx := rx.tupF
        have fy := ry.tupF
        obtain ⟨p1, v1, rfl, h1, r1⟩ := rx.tup R.sub
        obtain ⟨p2, v2, rfl, h2, r2⟩ := ry.tup R.sub
        refine .inr (.inr (.inr ⟨p1, p2, v1, v2, rfl, rfl, h1, h2, by rw [r1.1, r2.1]; exact lim_le hl, fun z => ?_, fun _ z => ?_, fun _ _ p hp => ?_⟩))
        · subst z
          have z := r1.1
          obtain rfl := List.eq_nil_of_length_eq_zero z.symm
          exact q _ H F R (Same.refl F) fy
        · subst z
          have z := r2.1
          obtain rfl := List.eq_nil_of_length_eq_zero z.symm
          rw [List.append_nil] at q
          exact q _ H F R (Same.refl F) fx
        · obtain ⟨R', sm, rv⟩ := R.newT hp (r1.append r2)
          exact q _ _ _ R' sm rv
      · cases ef
    · cases ef
  | sub =>
    refine (op_sub (X := X)).imp fun x y H Q h => ?_
    obtain ⟨i, j, rfl, rfl, _, q⟩ := rd_int h
    exact ⟨_, _, rfl, rfl, q⟩
  | mul =>
    refine (op_mul (X := X)).imp fun x y H Q h => ?_
    obtain ⟨i, j, rfl, rfl, hc, q⟩ := rd_int h
    refine ⟨_, _, rfl, rfl, ?_, q⟩
    simp only [w64, Bool.or_eq_true, Bool.and_eq_true, decide_eq_true_eq] at hc
    exact hc
  | mod =>
    refine (op_mod (X := X)).imp fun x y H Q h => ?_
    obtain ⟨i, j, rfl, rfl, hc, q⟩ := rd_int h
    exact ⟨_, _, rfl, rfl, of_decide_eq_true hc, q⟩
  | fdiv =>
    refine (op_fdiv (X := X)).imp fun x y H Q h => ?_
    obtain ⟨i, j, rfl, rfl, hc, q⟩ := rd_int h
    simp only [and_iff2, dec_iff] at hc
    exact ⟨_, _, rfl, rfl, hc, q⟩
  | pow =>
    refine (op_pow (X := X)).imp fun x y H Q h => ?_
    obtain ⟨i, j, rfl, rfl, hc, q⟩ := rd_int h
    simp only [and_iff2, dec_iff] at hc
    exact ⟨_, _, rfl, rfl, ⟨hc.1.1, by omega, by omega⟩, q⟩
/-! ### data as the library's -/
theorem txS_tx (x : Tx) : txS x = tx x := rfl
/-- flat data as the library's: shape, depth -/
structure Pd (d : D) (n : Nat) (p : PyData) : Prop where
  pd : d.pd = some p
  lay : p.canLay0 = true
  dep : p.depth ≤ n
structure PdL (xs : List D) (n : Nat) (ps : List PyData) : Prop where
  pd : pdL xs = some ps
  lay : PyData.canLayAll0 ps = true
  dep : PyData.depthAll ps ≤ n
mutual
theorem pd_flat : ∀ (n : Nat) (d : D), d.flat n = true → ∃ p, Pd d n p
  | 0, d, h => by unfold D.flat at h; cases h
  | n + 1, .non, _ => ⟨_, rfl, rfl, by simp [PyData.depth]⟩
  | n + 1, .bl b, _ => ⟨_, rfl, rfl, by simp [PyData.depth]⟩
  | n + 1, .int i, _ => ⟨_, rfl, rfl, by simp [PyData.depth]⟩
  | n + 1, .str x, h => ⟨_, rfl, by
      unfold D.flat okT at h
      unfold PyData.canLay0 PyData.strOk
      show (x.toArray).all (· < 0x110000) = true
      rw [List.all_toArray, List.all_eq_true] at *
      intro c hc
      have := of_decide_eq_true (h c hc)
      exact decide_eq_true (by omega), by simp [PyData.depth]⟩
  | n + 1, .lst xs, h => by
    unfold D.flat at h
    obtain ⟨ps, h1, h2, h3⟩ := pdL_flat n xs h
    exact ⟨.list ps, by unfold D.pd; rw [h1]; rfl, h2, by unfold PyData.depth; omega⟩
  | n + 1, .tup xs, h => by
    unfold D.flat at h
    obtain ⟨ps, h1, h2, h3⟩ := pdL_flat n xs h
    exact ⟨.tuple ps, by unfold D.pd; rw [h1]; rfl, h2, by unfold PyData.depth; omega⟩
  | n + 1, .dic _, h => by unfold D.flat at h; cases h
  | n + 1, .scr _, h => by unfold D.flat at h; cases h
  | n + 1, .exc _ _, h => by unfold D.flat at h; cases h
  | n + 1, .obj _ _, h => by unfold D.flat at h; cases h
theorem pdL_flat : ∀ (n : Nat) (xs : List D), flatL n xs = true → ∃ ps, PdL xs n ps
  | n, [], _ => ⟨[], rfl, rfl, by simp [PyData.depthAll]⟩
  | n, x :: xs, h => by
    unfold flatL at h
    rw [Bool.and_eq_true] at h
    obtain ⟨p, h1, h2, h3⟩ := pd_flat n x h.1
    obtain ⟨ps, g1, g2, g3⟩ := pdL_flat n xs h.2
    refine ⟨p :: ps, by unfold pdL; rw [h1, g1], ?_, ?_⟩
    · unfold PyData.canLayAll0
      rw [h2, g2]; rfl
    · unfold PyData.depthAll
      omega
end
mutual
theorem dp_of {K : PySem.W.Frag} {F H : Hp} (sm : Same F H) : ∀ (d : D) (p : PyData) (v : V), d.pd = some p → p.canLay0 = true → Rp K F v d → Dp K H v p
  | .non, p, v, e, _, h => by cases e; cases h; exact .non
  | .bl b, p, v, e, _, h => by cases e; cases h; exact .bl b
  | .int i, p, v, e, _, h => by cases e; cases h; exact .int i
  | .str x, p, v, e, _, h => by cases e; cases h; exact .str _
  | .lst xs, p, v, e, l, h => by
    unfold D.pd at e
    cases q : pdL xs with
    | none => simp [q] at e
    | some ps =>
      rw [q] at e
      cases e
      cases h with
      | lst ha hl hr => exact .lst (.of (sm _ _ ha)) (dpA_of sm xs ps _ q l ⟨hl, hr⟩)
  | .tup xs, p, v, e, l, h => by
    unfold D.pd at e
    cases q : pdL xs with
    | none => simp [q] at e
    | some ps =>
      rw [q] at e
      cases e
      cases h with
      | tup ha hl hr => exact .tup (sqt_mono sm ha) (dpA_of sm xs ps _ q l ⟨hl, hr⟩)
  | .dic kvs, p, v, e, l, h => by
    unfold D.pd at e
    cases q : pdK kvs with
    | none => simp [q] at e
    | some ps =>
      rw [q] at e
      cases e
      cases l
  | .scr _, p, v, e, _, h => by cases e
  | .exc _ _, p, v, e, _, h => by cases e
  | .obj _ _, p, v, e, _, h => by cases e
theorem dpA_of {K : PySem.W.Frag} {F H : Hp} (sm : Same F H) : ∀ (xs : List D) (ps : List PyData) (vs : List V), pdL xs = some ps → PyData.canLayAll0 ps = true → RpA K F vs xs → DpAll K H vs ps
  | [], ps, vs, e, _, h => by
    cases e
    have := h.1
    cases vs with
    | nil => exact .nil
    | cons v vs => simp at this
  | x :: xs, ps, vs, e, l, h => by
    cases vs with
    | nil => have := h.1; simp at this
    | cons v vs =>
      unfold pdL at e
      cases q1 : x.pd with
      | none => rw [q1] at e; cases e
      | some p =>
        cases q2 : pdL xs with
        | none => rw [q1, q2] at e; cases e
        | some ps' =>
          rw [q1, q2] at e
          cases e
          unfold PyData.canLayAll0 at l
          rw [Bool.and_eq_true] at l
          obtain ⟨a, b⟩ := h.cons_inv
          exact .cons (dp_of sm x p v q1 l.1 a) (dpA_of sm xs ps' vs q2 l.2 b)
end
theorem tx_inj {x y : Tx} : tx x = tx y ↔ x = y := by
  constructor
  · intro h
    have := congrArg (fun s : Str => s.cps.toList) h
    simpa [tx] using this
  · intro h
    rw [h]
theorem tx_beq (x y : Tx) : (txS x == txS y) = (x == y) := by
  by_cases h : x = y
  · subst h
    rw [beq_self_eq_true, beq_self_eq_true]
  · rw [beq_eq_false_iff_ne.mpr h, (beq_eq_false_iff_ne (a := txS x) (b := txS y)).mpr (fun z => h (tx_inj.mp z))]
mutual
theorem eqv_pd : ∀ (a b : D) (p q : PyData), a.pd = some p → b.pd = some q → PyData.eqv p q = a.eqv b
  | .non, b, p, q, e, f => by
    cases e
    cases b <;> simp only [D.pd, Option.map_eq_some_iff, Option.some.injEq, reduceCtorEq] at f <;> first | (obtain ⟨_, _, rfl⟩ := f) | (subst f)
    all_goals simp [PyData.eqv, D.eqv]
  | .bl i, b, p, q, e, f => by
    cases e
    cases b <;> simp only [D.pd, Option.map_eq_some_iff, Option.some.injEq, reduceCtorEq] at f <;> first | (obtain ⟨_, _, rfl⟩ := f) | (subst f)
    all_goals simp [PyData.eqv, D.eqv]
  | .int i, b, p, q, e, f => by
    cases e
    cases b <;> simp only [D.pd, Option.map_eq_some_iff, Option.some.injEq, reduceCtorEq] at f <;> first | (obtain ⟨_, _, rfl⟩ := f) | (subst f)
    all_goals simp [PyData.eqv, D.eqv]
  | .str x, b, p, q, e, f => by
    cases e
    cases b <;> simp only [D.pd, Option.map_eq_some_iff, Option.some.injEq, reduceCtorEq] at f <;> first | (obtain ⟨_, _, rfl⟩ := f) | (subst f)
    all_goals simp only [PyData.eqv, D.eqv, tx_beq]
  | .lst xs, b, p, q, e, f => by
    simp only [D.pd, Option.map_eq_some_iff] at e
    obtain ⟨ps, e, rfl⟩ := e
    cases b <;> simp only [D.pd, Option.map_eq_some_iff, Option.some.injEq, reduceCtorEq] at f
    case lst ys =>
      obtain ⟨qs, f, rfl⟩ := f
      simp only [PyData.eqv, D.eqv]
      exact eqvL_pd xs ys ps qs e f
    all_goals first | (obtain ⟨_, _, rfl⟩ := f) | (subst f)
    all_goals simp [PyData.eqv, D.eqv]
  | .tup xs, b, p, q, e, f => by
    simp only [D.pd, Option.map_eq_some_iff] at e
    obtain ⟨ps, e, rfl⟩ := e
    cases b <;> simp only [D.pd, Option.map_eq_some_iff, Option.some.injEq, reduceCtorEq] at f
    case tup ys =>
      obtain ⟨qs, f, rfl⟩ := f
      simp only [PyData.eqv, D.eqv]
      exact eqvL_pd xs ys ps qs e f
    all_goals first | (obtain ⟨_, _, rfl⟩ := f) | (subst f)
    all_goals simp [PyData.eqv, D.eqv]
  | .dic xs, b, p, q, e, f => by
    simp only [D.pd, Option.map_eq_some_iff] at e
    obtain ⟨ps, e, rfl⟩ := e
    cases b <;> simp only [D.pd, Option.map_eq_some_iff, Option.some.injEq, reduceCtorEq] at f <;> first | (obtain ⟨_, _, rfl⟩ := f) | (subst f)
    all_goals simp [PyData.eqv, D.eqv]
  | .scr _, b, p, q, e, f => by cases e
  | .exc _ _, b, p, q, e, f => by cases e
  | .obj _ _, b, p, q, e, f => by cases e
theorem eqvL_pd : ∀ (xs ys : List D) (ps qs : List PyData), pdL xs = some ps → pdL ys = some qs → PyData.eqvAll ps qs = eqvL xs ys
  | [], [], ps, qs, e, f => by cases e; cases f; simp [PyData.eqvAll, eqvL]
  | [], y :: ys, ps, qs, e, f => by
    cases e
    unfold pdL at f
    split at f
    · cases f; simp [PyData.eqvAll, eqvL]
    · cases f
  | x :: xs, [], ps, qs, e, f => by
    cases f
    unfold pdL at e
    split at e
    · cases e; simp [PyData.eqvAll, eqvL]
    · cases e
  | x :: xs, y :: ys, ps, qs, e, f => by
    unfold pdL at e f
    split at e
    · rename_i a b h1 h2
      split at f
      · rename_i c d g1 g2
        cases e; cases f
        unfold PyData.eqvAll eqvL
        rw [eqv_pd x y a c h1 g1, eqvL_pd xs ys b d h2 g2]
      · cases f
    · cases e
end
/-- what is read, as the library's data -/
theorem rt_dp {K : PySem.W.Frag} {F H : Hp} {v : V} {d : D} {n : Nat} (sm : Same F H) (h : Rt K F H v d) (hf : d.flat n = true) (hn : n ≤ 64) : ∃ p, d.pd = some p ∧ Dp K H v p ∧ SeqAt.shaped p = true := by
  obtain ⟨p, h1, h2, h3⟩ := pd_flat n d hf
  refine ⟨p, h1, ?_, ?_⟩
  · cases h with
    | fz h => exact dp_of sm d p v h1 h2 h
    | ow hp r =>
      unfold D.pd at h1
      rename_i xs
      cases q : pdL xs with
      | none => rw [q] at h1; cases h1
      | some ps =>
        rw [q] at h1
        cases h1
        exact .lst (.of hp) (dpA_of sm xs ps _ q h2 r)
  · unfold SeqAt.shaped
    rw [h2, decide_eq_true (Nat.le_trans h3 hn)]
    rfl
/-! ### comparisons -/
def coS : COp → CmpOp
  | .eq => .Eq | .ne => .NotEq | .lt => .Lt | .le => .LtE | .gt => .Gt | .ge => .GtE | .isN => .Is | .notN => .IsNot | .isIn => .In | .notIn => .NotIn
theorem lt_tx : ∀ x y : Tx, decide (x < y) = ltT x y
  | [], [] => by simp [ltT]
  | [], _ :: _ => by simp [ltT]
  | _ :: _, [] => by simp [ltT]
  | a :: x, b :: y => by
    have ih := lt_tx x y
    unfold ltT
    by_cases h : a < b
    · rw [if_pos h]
      simp [List.cons_lt_cons_iff, h]
    · rw [if_neg h]
      by_cases h2 : b < a
      · rw [if_pos h2]
        simp [List.cons_lt_cons_iff]
        omega
      · rw [if_neg h2, ← ih]
        have e : a = b := by omega
        subst e
        simp [List.cons_lt_cons_iff]
/-- a comparison's answer -/
def cB (o : COp) : D → D → Option ER := fun x y => (cmpR o x y).map fun t => .val (.bl t)
theorem rd_cmp {K : PySem.W.Frag} {o : COp} {x y : V} {H : Hp} {Q : VK} (h : rD K (cB o) x y H Q) : ∃ (F : Hp) (dx dy : D) (t : Bool), Same F H ∧ Rt K F H x dx ∧ Rt K F H y dy ∧ cmpR o dx dy = some t ∧ Q (.bl t) H := by
  obtain ⟨e, s, σ, F, dx, dy, er, R, rx, ry, ef, q⟩ := h
  unfold cB at ef
  cases c : cmpR o dx dy with
  | none => rw [c] at ef; cases ef
  | some t =>
    rw [c] at ef
    cases ef
    exact ⟨F, dx, dy, t, R.sub, rx, ry, c, q _ H F R (Same.refl F) (.bl t)⟩
theorem in_any (d : D) (p : PyData) (h : d.pd = some p) : ∀ (ys : List D) (ps : List PyData), pdL ys = some ps → (ps.any fun z => PyData.eqv z p) = ys.any fun y => y.eqv d
  | [], ps, e => by cases e; rfl
  | y :: ys, ps, e => by
    unfold pdL at e
    split at e
    · rename_i a b h1 h2
      cases e
      rw [List.any_cons, List.any_cons, eqv_pd y d a p h1 h, in_any d p h ys b h2]
    · cases e
/-- x in a list or a tuple of data -/
def rInP (K : PySem.W.Frag) (neg : Bool) : R2 := fun x y H Q => ∃ d ds, Dp K H x d ∧ (Dp K H y (.list ds) ∨ Dp K H y (.tuple ds)) ∧ d.canLay0 = true ∧ d.depth ≤ 64 ∧ PyData.canLayAll0 ds = true ∧ Q (.bl (neg ^^ (ds.any fun z => PyData.eqv z d))) H
theorem op_inP {X : Cx} (hu : X.A.units + 65 < cLine) : OpR X (compareOp .In) (rInP X.K false) := by
  rintro pins s σ H x y v u Q I rx ry ⟨d, ds, hd, he, l1, n1, l2, q⟩
  rw [Bool.false_xor] at q
  have fits : X.A.units + 1 + min (PyData.depthAll ds) d.depth < cLine := by omega
  have there : ∀ {z : PyData} {a : V} {b : Value}, Dp X.K H a z → RelV a b → ∃ l, _ := fun k r => Dp.reads I _ _ _ k r
  exact (there hd rx).elim fun _ r1 => he.elim
    (fun k => (there k ry).elim fun _ r2 => SeqAt.in_list_reads r2 r1 l2 l1 fits ⟨.bl _, H, I, rfl, q⟩)
    (fun k => (there k ry).elim fun _ r2 => SeqAt.in_tuple_reads r2 r1 l2 l1 fits ⟨.bl _, H, I, rfl, q⟩)
theorem op_notInP {X : Cx} (hu : X.A.units + 65 < cLine) : OpR X (compareOp .NotIn) (rInP X.K true) := by
  rintro pins s σ H x y v u Q I rx ry ⟨d, ds, hd, he, l1, n1, l2, q⟩
  rw [Bool.true_xor] at q
  have fits : X.A.units + 1 + min (PyData.depthAll ds) d.depth < cLine := by omega
  have there : ∀ {z : PyData} {a : V} {b : Value}, Dp X.K H a z → RelV a b → ∃ l, _ := fun k r => Dp.reads I _ _ _ k r
  exact (there hd rx).elim fun _ r1 => he.elim
    (fun k => (there k ry).elim fun _ r2 => SeqAt.notIn_list_reads r2 r1 l2 l1 fits ⟨.bl _, H, I, rfl, q⟩)
    (fun k => (there k ry).elim fun _ r2 => SeqAt.notIn_tuple_reads r2 r1 l2 l1 fits ⟨.bl _, H, I, rfl, q⟩)
theorem rt_dpl {K : PySem.W.Frag} {F H : Hp} {v : V} {xs : List D} {n : Nat} (sm : Same F H) (h : Rt K F H v (.lst xs)) (hf : flatL n xs = true) : ∃ ps, pdL xs = some ps ∧ Dp K H v (.list ps) ∧ PyData.canLayAll0 ps = true := by
  obtain ⟨ps, h1, h2, h3⟩ := pdL_flat n xs hf
  obtain ⟨p, vs, rfl, hp, r⟩ := h.lst sm
  exact ⟨ps, h1, .lst (.of hp) (dpA_of sm xs ps _ h1 h2 r), h2⟩
theorem rt_dpt {K : PySem.W.Frag} {F H : Hp} {v : V} {xs : List D} {n : Nat} (sm : Same F H) (h : Rt K F H v (.tup xs)) (hf : flatL n xs = true) : ∃ ps, pdL xs = some ps ∧ Dp K H v (.tuple ps) ∧ PyData.canLayAll0 ps = true := by
  obtain ⟨ps, h1, h2, h3⟩ := pdL_flat n xs hf
  obtain ⟨p, vs, rfl, hp, r⟩ := h.tup sm
  exact ⟨ps, h1, .tup hp (dpA_of sm xs ps _ h1 h2 r), h2⟩
/-- in: what is asked of the values -/
theorem in_of {K : PySem.W.Frag} {F H : Hp} {x y : V} {dx dy : D} {t : Bool} (neg : Bool) {Q : VK} (sm : Same F H) (rx : Rt K F H x dx) (ry : Rt K F H y dy) (h : isIn dx dy = some t) (q : Q (.bl (neg ^^ t)) H) :
    (∃ (c : Nat) (z : Str), x = .str ⟨#[c]⟩ ∧ y = .str z ∧ Q (.bl (neg ^^ decide (c ∈ z.cps.toList))) H) ∨ rInP K neg x y H Q := by
  unfold isIn at h
  split at h
  · split at h
    · rename_i ys _ c
      cases h
      cases rx.str; cases ry.str
      refine .inl ⟨c, tx ys, rfl, rfl, ?_⟩
      have e : decide (c ∈ (tx ys).cps.toList) = ys.contains c := by
        simp only [tx, List.contains_eq_mem]
        rfl
      rw [e]
      exact q
    · cases h
  · split at h
    · rename_i ys hf
      cases h
      rw [Bool.and_eq_true] at hf
      obtain ⟨p, hp, dp, sh⟩ := rt_dp sm rx hf.1 (by decide)
      obtain ⟨ps, hps, dps, lay⟩ := rt_dpl sm ry hf.2
      refine .inr ⟨p, ps, dp, .inl dps, SeqAt.canLay_of_shaped sh, SeqAt.depth_of_shaped sh, lay, ?_⟩
      rw [in_any dx p hp ys ps hps]
      exact q
    · cases h
  · split at h
    · rename_i ys hf
      cases h
      rw [Bool.and_eq_true] at hf
      obtain ⟨p, hp, dp, sh⟩ := rt_dp sm rx hf.1 (by decide)
      obtain ⟨ps, hps, dps, lay⟩ := rt_dpt sm ry hf.2
      refine .inr ⟨p, ps, dp, .inr dps, SeqAt.canLay_of_shaped sh, SeqAt.depth_of_shaped sh, lay, ?_⟩
      rw [in_any dx p hp ys ps hps]
      exact q
    · cases h
  · cases h
theorem isNon_of {K : PySem.W.Frag} {F H : Hp} {x : V} {d : D} (h : Rt K F H x d) : decide (x = .non) = isNon d := by
  cases h with
  | fz h => cases h <;> simp [isNon]
  | ow h r => simp [isNon]
theorem map_not {o : Option Bool} {t : Bool} (h : o.map (!·) = some t) : ∃ b, o = some b ∧ t = !b := by
  cases o with
  | none => cases h
  | some b =>
    cases h
    exact ⟨b, rfl, rfl⟩
theorem eq_of {K : PySem.W.Frag} {F H : Hp} {x y : V} {dx dy : D} {t : Bool} (sm : Same F H) (rx : Rt K F H x dx) (ry : Rt K F H y dy) (c : eqR dx dy = some t) : ∃ d e, Dp K H x d ∧ Dp K H y e ∧ SeqAt.shaped d = true ∧ SeqAt.shaped e = true ∧ PyData.eqv d e = t := by
  unfold eqR at c
  split at c
  · rename_i hf
    cases c
    rw [Bool.and_eq_true] at hf
    obtain ⟨p, hp, dp, sh⟩ := rt_dp sm rx hf.1 (by decide)
    obtain ⟨p', hp', dp', sh'⟩ := rt_dp sm ry hf.2 (by decide)
    exact ⟨p, p', dp, dp', sh, sh', eqv_pd dx dy p p' hp hp'⟩
  · cases c
theorem lt_of {K : PySem.W.Frag} {F H : Hp} {x y : V} {dx dy : D} {t : Bool} (rx : Rt K F H x dx) (ry : Rt K F H y dy) (c : ltR dx dy = some t) :
    (∃ i j, x = .int i ∧ y = .int j ∧ decide (i < j) = t) ∨ ∃ i j : Str, x = .str i ∧ y = .str j ∧ decide (i.cps.toList < j.cps.toList) = t := by
  unfold ltR at c
  split at c
  · cases c
    cases rx.int; cases ry.int
    exact .inl ⟨_, _, rfl, rfl, rfl⟩
  · cases c
    cases rx.str; cases ry.str
    exact .inr ⟨_, _, rfl, rfl, lt_tx _ _⟩
  · cases c
theorem le_of {K : PySem.W.Frag} {F H : Hp} {x y : V} {dx dy : D} {t : Bool} (rx : Rt K F H x dx) (ry : Rt K F H y dy) (c : leR dx dy = some t) : ∃ i j, x = .int i ∧ y = .int j ∧ decide (i ≤ j) = t := by
  unfold leR at c
  split at c
  · cases c
    cases rx.int; cases ry.int
    exact ⟨_, _, rfl, rfl, rfl⟩
  · cases c
theorem non_of {K : PySem.W.Frag} {F H : Hp} {x y : V} {dx dy : D} {t : Bool} (rx : Rt K F H x dx) (ry : Rt K F H y dy) (c : nonR dx dy = some t) : y = .non ∧ decide (x = .non) = t := by
  unfold nonR at c
  split at c
  · cases c
    exact ⟨ry.non, isNon_of rx⟩
  · cases c
theorem op_cmp {X : Cx} (hu : X.A.units + 65 < cLine) (o : COp) : OpR X (compareOp (coS o)) (rD X.K (cB o)) := by
  cases o with
  | eq =>
    refine (op_eqD (X := X) (by omega)).imp fun x y H Q h => ?_
    obtain ⟨F, dx, dy, t, sm, rx, ry, c, q⟩ := rd_cmp h
    obtain ⟨p, p', dp, dp', sh, sh', e⟩ := eq_of sm rx ry c
    exact ⟨p, p', dp, dp', sh, sh', by rw [e]; exact q⟩
  | ne =>
    refine (op_neD (X := X) (by omega)).imp fun x y H Q h => ?_
    obtain ⟨F, dx, dy, t, sm, rx, ry, c, q⟩ := rd_cmp h
    obtain ⟨b, c2, rfl⟩ := map_not c
    obtain ⟨p, p', dp, dp', sh, sh', e⟩ := eq_of sm rx ry c2
    exact ⟨p, p', dp, dp', sh, sh', by rw [e]; exact q⟩
  | lt =>
    refine ((op_lt (X := X)).or (op_lt_str (X := X))).imp fun x y H Q h => ?_
    obtain ⟨F, dx, dy, t, sm, rx, ry, c, q⟩ := rd_cmp h
    rcases lt_of rx ry c with ⟨i, j, rfl, rfl, rfl⟩ | ⟨i, j, rfl, rfl, rfl⟩
    · exact .inl ⟨_, _, rfl, rfl, q⟩
    · exact .inr ⟨_, _, rfl, rfl, q⟩
  | le =>
    refine (op_le (X := X)).imp fun x y H Q h => ?_
    obtain ⟨F, dx, dy, t, sm, rx, ry, c, q⟩ := rd_cmp h
    obtain ⟨i, j, rfl, rfl, rfl⟩ := le_of rx ry c
    exact ⟨_, _, rfl, rfl, q⟩
  | gt =>
    refine ((op_gt (X := X)).or (op_gt_str (X := X))).imp fun x y H Q h => ?_
    obtain ⟨F, dx, dy, t, sm, rx, ry, c, q⟩ := rd_cmp h
    rcases lt_of ry rx c with ⟨i, j, rfl, rfl, rfl⟩ | ⟨i, j, rfl, rfl, rfl⟩
    · exact .inl ⟨_, _, rfl, rfl, q⟩
    · exact .inr ⟨_, _, rfl, rfl, q⟩
  | ge =>
    refine (op_ge (X := X)).imp fun x y H Q h => ?_
    obtain ⟨F, dx, dy, t, sm, rx, ry, c, q⟩ := rd_cmp h
    obtain ⟨i, j, rfl, rfl, rfl⟩ := le_of ry rx c
    exact ⟨_, _, rfl, rfl, q⟩
  | isN =>
    refine (op_isN (X := X)).imp fun x y H Q h => ?_
    obtain ⟨F, dx, dy, t, sm, rx, ry, c, q⟩ := rd_cmp h
    obtain ⟨rfl, rfl⟩ := non_of rx ry c
    exact ⟨rfl, q⟩
  | notN =>
    refine (op_notN (X := X)).imp fun x y H Q h => ?_
    obtain ⟨F, dx, dy, t, sm, rx, ry, c, q⟩ := rd_cmp h
    obtain ⟨b, c2, rfl⟩ := map_not c
    obtain ⟨rfl, rfl⟩ := non_of rx ry c2
    exact ⟨rfl, q⟩
  | isIn =>
    refine ((op_in_sign (X := X)).or (op_inP (X := X) hu)).imp fun x y H Q h => ?_
    obtain ⟨F, dx, dy, t, sm, rx, ry, c, q⟩ := rd_cmp h
    have z := in_of (Q := Q) false sm rx ry c (by rw [Bool.false_xor]; exact q)
    simpa only [Bool.false_xor] using z
  | notIn =>
    refine ((op_notIn_sign (X := X)).or (op_notInP (X := X) hu)).imp fun x y H Q h => ?_
    obtain ⟨F, dx, dy, t, sm, rx, ry, c, q⟩ := rd_cmp h
    obtain ⟨b, c2, rfl⟩ := map_not c
    have z := in_of (Q := Q) true sm rx ry c2 (by rw [Bool.true_xor]; exact q)
    simpa only [Bool.true_xor] using z
end Pi
set_option maxRecDepth 100000
set_option maxHeartbeats 3900000
namespace Pi
open PySem PySem.Spec L2 PyProof.Rows
/-! ### built-in functions -/
def RtA (K : PySem.W.Frag) (F H : Hp) (vs : List V) (ds : List D) : Prop := vs.length = ds.length ∧ ∀ (i : Nat) v d, vs[i]? = some v → ds[i]? = some d → Rt K F H v d
section
variable {K : PySem.W.Frag} {F H : Hp} {vs : List V}
theorem RtA.nil (h : RtA K F H vs []) : vs = [] := List.eq_nil_of_length_eq_zero h.1
theorem RtA.cons {d : D} {ds : List D} (h : RtA K F H vs (d :: ds)) : ∃ v ws, vs = v :: ws ∧ Rt K F H v d ∧ RtA K F H ws ds := by
  cases vs with
  | nil => have := h.1; simp at this
  | cons v ws => exact ⟨v, ws, rfl, h.2 0 v d rfl rfl, by have := h.1; simpa using this, fun i w x a b => h.2 (i + 1) w x (by simpa using a) (by simpa using b)⟩
theorem RtA.one {d : D} (h : RtA K F H vs [d]) : ∃ v, vs = [v] ∧ Rt K F H v d := by
  obtain ⟨v, ws, rfl, r, t⟩ := h.cons
  cases t.nil
  exact ⟨v, rfl, r⟩
theorem RtA.two {d e : D} (h : RtA K F H vs [d, e]) : ∃ v w, vs = [v, w] ∧ Rt K F H v d ∧ Rt K F H w e := by
  obtain ⟨v, ws, rfl, r, t⟩ := h.cons
  obtain ⟨w, rfl, r'⟩ := t.one
  exact ⟨v, w, rfl, r, r'⟩
end
def rDs (K : PySem.W.Frag) (f : List D → Option ER) : List V → Hp → VK → Prop := fun xs H Q => ∃ (e : En) (s : Fr) (σ : Sg) (F : Hp) (ds : List D) (er : ER), Rl K e s σ F H ∧ RtA K F H xs ds ∧ f ds = some er ∧
  ∀ v H' F', Rl K e s σ F' H' → Same F F' → Rv K e s σ F' H' v er → Q v H'
theorem _root_.L2.CallR.imp {X : Cx} {f : Value} {r r' : List V → Hp → VK → Prop} (h : CallR X f r) (i : ∀ xs H Q, r' xs H Q → r xs H Q) : CallR X f r' := fun pins s σ H xs us Q I rx q => h pins s σ H xs us Q I rx (i _ _ _ q)
theorem _root_.L2.CallR.or2 {X : Cx} {f : Value} {r r' : List V → Hp → VK → Prop} (h : CallR X f r) (h' : CallR X f r') : CallR X f (fun xs H Q => r xs H Q ∨ r' xs H Q) := by
  intro pins s σ H xs us Q I rx q
  rcases q with q | q
  · exact h pins s σ H xs us Q I rx q
  · exact h' pins s σ H xs us Q I rx q
theorem bi_len {X : Cx} : CallR X (.builtin "len") (rDs X.K lenR) := by
  refine ((call_len_seq (X := X)).or2 (call_len_str (X := X))).imp fun xs H Q ⟨e, s, σ, F, ds, er, R, ra, ef, q⟩ => ?_
  unfold lenR at ef
  split at ef
  · cases ef
    obtain ⟨v, rfl, r⟩ := ra.one
    obtain ⟨p, vs, rfl, h, r⟩ := r.lst R.sub
    exact .inl ⟨p, vs, rfl, .inl (.of h), by rw [r.1]; exact q _ H F R (Same.refl F) (.int _)⟩
  · cases ef
    obtain ⟨v, rfl, r⟩ := ra.one
    obtain ⟨p, vs, rfl, h, r⟩ := r.tup R.sub
    exact .inl ⟨p, vs, rfl, .inr h, by rw [r.1]; exact q _ H F R (Same.refl F) (.int _)⟩
  · cases ef
    obtain ⟨v, rfl, r⟩ := ra.one
    obtain ⟨p, vs, rfl, h, r⟩ := r.scr R.sub
    exact .inl ⟨p, vs, rfl, .inl h, by rw [r.1]; exact q _ H F R (Same.refl F) (.int _)⟩
  · split at ef
    · rename_i hl
      cases ef
      obtain ⟨v, rfl, r⟩ := ra.one
      cases r.str
      exact .inr ⟨_, rfl, by rw [tx_len]; exact lim_le hl, by rw [tx_len]; exact q _ H F R (Same.refl F) (.int _)⟩
    · cases ef
  · cases ef
theorem rd_int2 {K : PySem.W.Frag} {f : Int → Int → Option ER} {xs : List V} {H : Hp} {Q : VK} (h : rDs K (int2R f) xs H Q) : ∃ (e : En) (s : Fr) (σ : Sg) (F : Hp) (i j : Int) (er : ER), Rl K e s σ F H ∧ xs = [.int i, .int j] ∧ f i j = some er ∧
    ∀ v H' F', Rl K e s σ F' H' → Same F F' → Rv K e s σ F' H' v er → Q v H' := by
  obtain ⟨e, s, σ, F, ds, er, R, ra, ef, q⟩ := h
  unfold int2R at ef
  split at ef
  · obtain ⟨v, w, rfl, r1, r2⟩ := ra.two
    cases r1.int; cases r2.int
    exact ⟨e, s, σ, F, _, _, er, R, rfl, ef, q⟩
  · cases ef
theorem bi_max {X : Cx} (hc : X.calm = true) : CallR X (.builtin "max") (rDs X.K (biR .max2)) := by
  refine (call_max2 hc).imp fun xs H Q h => ?_
  obtain ⟨e, s, σ, F, i, j, er, R, rfl, ef, q⟩ := rd_int2 h
  cases ef
  exact ⟨i, j, rfl, q _ H F R (Same.refl F) (.int _)⟩
theorem bi_min {X : Cx} (hc : X.calm = true) : CallR X (.builtin "min") (rDs X.K (biR .min2)) := by
  refine (call_min2 hc).imp fun xs H Q h => ?_
  obtain ⟨e, s, σ, F, i, j, er, R, rfl, ef, q⟩ := rd_int2 h
  cases ef
  exact ⟨i, j, rfl, q _ H F R (Same.refl F) (.int _)⟩
theorem bi_abs {X : Cx} : CallR X (.builtin "abs") (rDs X.K absR) := by
  refine (call_abs (X := X)).imp fun xs H Q ⟨e, s, σ, F, ds, er, R, ra, ef, q⟩ => ?_
  unfold absR at ef
  split at ef
  · cases ef
    obtain ⟨v, rfl, r⟩ := ra.one
    cases r.int
    exact ⟨_, rfl, q _ H F R (Same.refl F) (.int _)⟩
  · cases ef
theorem bi_int {X : Cx} : CallR X (.type "int") (rDs X.K intcR) := by
  refine (call_int1 (X := X)).imp fun xs H Q ⟨e, s, σ, F, ds, er, R, ra, ef, q⟩ => ?_
  unfold intcR at ef
  split at ef
  · cases ef
    obtain ⟨v, rfl, r⟩ := ra.one
    cases r.int
    exact .inl ⟨_, rfl, q _ H F R (Same.refl F) (.int _)⟩
  · cases ef
    obtain ⟨v, rfl, r⟩ := ra.one
    cases r.bl
    exact .inr ⟨_, rfl, q _ H F R (Same.refl F) (.int _)⟩
  · cases ef
theorem bi_divmod {X : Cx} : CallR X (.builtin "divmod") (rDs X.K (biR .divmod)) := by
  refine (call_divmodW (X := X)).imp fun xs H Q h => ?_
  obtain ⟨e, s, σ, F, i, j, er, R, rfl, ef, q⟩ := rd_int2 h
  split at ef
  · rename_i hj
    cases ef
    refine ⟨i, j, rfl, ⟨hj.1, ?_⟩, fun p hp => ?_⟩
    · refine PyProof.noPylong_of_log2 ?_
      have h1 : j.natAbs < 2 ^ 201 := by omega
      by_cases z : j.natAbs = 0
      · rw [z]; decide
      · exact Nat.lt_of_lt_of_le (Nat.log2_lt z |>.mpr h1) (by decide)
    · obtain ⟨R', sm, rv⟩ := R.newT (vs := [.int (i / j), .int (i % j)]) hp (.cons (.int _) (.cons (.int _) .nil))
      exact q _ _ _ R' sm rv
  · cases ef
theorem bools_of {K : PySem.W.Frag} {F : Hp} : ∀ {xs : List D} {bs : List Bool} {vs : List V}, bools xs = some bs → RpA K F vs xs → vs = bs.map V.bl
  | [], bs, vs, e, h => by
    cases e
    exact List.eq_nil_of_length_eq_zero h.1
  | x :: xs, bs, vs, e, h => by
    cases x <;> simp only [bools, reduceCtorEq, Option.map_eq_some_iff] at e
    obtain ⟨cs, e, rfl⟩ := e
    cases vs with
    | nil => have := h.1; simp at this
    | cons v vs =>
      obtain ⟨a, b⟩ := h.cons_inv
      cases a
      rw [bools_of e b]
      rfl
theorem rd_bools {K : PySem.W.Frag} {f : List Bool → Bool} {xs : List V} {H : Hp} {Q : VK} (h : rDs K (boolR f) xs H Q) : ∃ (a : Addr) (bs : List Bool), xs = [V.ref a] ∧ SqL K H a (bs.map V.bl) ∧ Q (.bl (f bs)) H := by
  obtain ⟨e, s, σ, F, ds, er, R, ra, ef, q⟩ := h
  unfold boolR at ef
  split at ef
  · rename_i ys
    cases eb : bools ys with
    | none => rw [eb] at ef; cases ef
    | some bs =>
      rw [eb] at ef
      cases ef
      obtain ⟨v, rfl, r⟩ := ra.one
      obtain ⟨p, vs, rfl, h, r⟩ := r.lst R.sub
      cases bools_of eb r
      exact ⟨p, bs, rfl, .of h, q _ H F R (Same.refl F) (.bl _)⟩
  · cases ef
theorem bi_all {X : Cx} (hc : X.calm = true) : CallR X (.builtin "all") (rDs X.K (biR .all)) := (cr_all hc).imp fun _ _ _ h => rd_bools h
theorem bi_any {X : Cx} (hc : X.calm = true) : CallR X (.builtin "any") (rDs X.K (biR .any)) := (cr_any hc).imp fun _ _ _ h => rd_bools h
theorem vals_get : ∀ {vs : List V} {us : List Value}, vs.length = us.length → (∀ (i : Nat) v u, vs[i]? = some v → us[i]? = some u → RelV v u) → Vals vs us
  | [], [], _, _ => .nil
  | [], _ :: _, l, _ => by simp at l
  | _ :: _, [], l, _ => by simp at l
  | v :: vs, u :: us, l, h => .cons (h 0 v u rfl rfl) (vals_get (by simpa using l) fun i v u a b => h (i + 1) v u (by simpa using a) (by simpa using b))
theorem signs_vals {x : Tx} {acc : Array Value} (h : ItemsOf (SignAt (tx x)) acc (tx x).cps.size) : Vals (x.map fun c => V.str (tx [c])) acc.toList := by
  obtain ⟨l, g⟩ := h
  refine vals_get (by simpa [tx] using l.symm) fun i v u a b => ?_
  obtain ⟨c, t, h1, rfl⟩ := g i u (by simpa using b)
  rw [List.getElem?_map] at a
  have h1 : x[i]? = some c := by simpa [tx] using h1
  rw [h1] at a
  cases a
  exact ⟨t, rfl⟩
theorem bi_tupS {X : Cx} (hc : X.calm = true) : CallR X (.type "tuple") (rDs X.K tupSR) := by
  intro pins s σ H xs us Q I rx ⟨e, fr, σ', F, ds, er, R, ra, ef, q⟩
  unfold tupSR at ef
  split at ef
  · rename_i x
    split at ef
    · rename_i hl
      cases ef
      obtain ⟨v, rfl, r⟩ := ra.one
      cases r.str
      match us, rx with
      | [_], .cons ⟨t, rfl⟩ .nil =>
        refine call_tuple_str (I.ok.hd hc) (tx x) t (fun h' tk acc kept its => ?_) (by show (tx x).cps.size ≤ _; simpa [tx] using lim_le hl)
        have I1 : Inv X pins σ H { s with heap := h', toks := tk } := I.kept (t' := tk) kept
        have rv : Vals (x.map fun c => V.str (tx [c])) acc.toList := signs_vals its
        have I2 := I1.laid (t' := tk) (a := h'.objs.size) (o := .tup (x.map fun c => V.str (tx [c]))) (h' := h'.push { cls := .type "tuple", data := .seq acc }) (fun b o z => Heap.get?_push_of_some _ z) (Nat.le_refl _) ⟨by simpa using lim_le hl, acc.toList, rv, by simpa using IsTup.new h' acc⟩
        have nd : H h'.objs.size = none := I1.hok.fresh (Nat.le_refl _)
        have rp : RpA X.K F (x.map fun c => V.str (tx [c])) (x.map fun c => D.str [c]) := by
          refine ⟨by simp, fun i v d a b => ?_⟩
          rw [List.getElem?_map] at a b
          cases z : x[i]? with
          | none => rw [z] at a; cases a
          | some c => rw [z] at a b; cases a; cases b; exact .str [c]
        obtain ⟨R', sm, rv'⟩ := R.newT nd rp
        exact ⟨.ref h'.objs.size, _, I2, rfl, q _ _ _ R' sm rv'⟩
    · cases ef
  · cases ef
theorem bi_tuple {X : Cx} : CallR X (.type "tuple") (rDs X.K tupleR) := by
  refine (call_tuple_of (X := X)).imp fun xs H Q ⟨e, s, σ, F, ds, er, R, ra, ef, q⟩ => ?_
  unfold tupleR at ef
  split at ef
  · cases ef
    obtain ⟨v, rfl, r⟩ := ra.one
    obtain ⟨p, vs, rfl, h, r⟩ := r.lst R.sub
    refine ⟨p, vs, rfl, .inl ⟨.of h, fun l hl => ?_⟩⟩
    obtain ⟨R', sm, rv⟩ := R.newT hl r
    exact q _ _ _ R' sm rv
  · cases ef
    obtain ⟨v, rfl, r⟩ := ra.one
    have f := r.tupF
    obtain ⟨p, vs, rfl, h, r⟩ := r.tup R.sub
    exact ⟨p, vs, rfl, .inr ⟨h, q _ H F R (Same.refl F) f⟩⟩
  · cases ef
theorem bi_list {X : Cx} : CallR X (.type "list") (rDs X.K listR) := by
  refine (call_list_of (X := X)).imp fun xs H Q ⟨e, s, σ, F, ds, er, R, ra, ef, q⟩ => ?_
  unfold listR at ef
  split at ef
  · cases ef
    obtain ⟨v, rfl, r⟩ := ra.one
    obtain ⟨p, vs, rfl, h, r⟩ := r.lst R.sub
    refine ⟨p, vs, rfl, .inl (.of h), fun l hl => ?_⟩
    obtain ⟨R', rv⟩ := R.newL hl r
    exact q _ _ _ R' (Same.refl F) rv
  · cases ef
    obtain ⟨v, rfl, r⟩ := ra.one
    obtain ⟨p, vs, rfl, h, r⟩ := r.tup R.sub
    refine ⟨p, vs, rfl, .inr h, fun l hl => ?_⟩
    obtain ⟨R', rv⟩ := R.newL hl r
    exact q _ _ _ R' (Same.refl F) rv
  · cases ef
/-! ### repr -/
theorem noM {a : Addr} {as : List Addr} (h : (a == sysModules) = false) (t : sysModules ∉ as) : sysModules ∉ a :: as := fun z => by
  rcases mem_or z with z | z
  · subst z; simp at h
  · exact t z
section
variable {X : Cx} {pins : List (Addr × Obj)} {σ : Sg} {F H : Hp} {s : Shared}
theorem keys_reads {h : Heap} {k : Key} {v : Value} (e : keyIs k v = true) : ∃ p, Reads h v p [] ∧ p = (match k with | .inl i => PyData.int i | .inr t => .str t) := by
  rcases keyIs_shape e with ⟨i, t, rfl, rfl⟩ | ⟨x, t, rfl, rfl⟩
  · exact ⟨_, .int i t, rfl⟩
  · exact ⟨_, .str x t, rfl⟩
mutual
theorem reads_of (I : Inv X pins σ H s) (sm : Same F H) : ∀ (d : D) (p : PyData) (v : V) (u : Value), d.pd = some p → Rp X.K F v d → RelV v u → ∃ as, Reads s.heap u p as ∧ (d.lists = false → sysModules ∉ as)
  | .non, p, v, u, e, h, r => by cases e; cases h; cases r; exact ⟨[], .none, fun _ => by simp⟩
  | .bl b, p, v, u, e, h, r => by cases e; cases h; cases r; exact ⟨[], .bool b, fun _ => by simp⟩
  | .int i, p, v, u, e, h, r => by cases e; cases h; obtain ⟨t, rfl⟩ := r; exact ⟨[], .int i t, fun _ => by simp⟩
  | .str x, p, v, u, e, h, r => by cases e; cases h; obtain ⟨t, rfl⟩ := r; exact ⟨[], .str _ t, fun _ => by simp⟩
  | .lst xs, p, v, u, e, h, r => by
    unfold D.pd at e
    rw [Option.map_eq_some_iff] at e
    obtain ⟨ps, q, rfl⟩ := e
    cases h with
    | lst ha hl hr =>
      cases r
      obtain ⟨its, rv, ⟨o, n, ho, hc, _, hd⟩, _⟩ := I.list (SqL.of (sm _ _ ha))
      obtain ⟨as, ra, _⟩ := readsL_of I sm xs ps _ its q ⟨hl, hr⟩ rv
      exact ⟨_, .list ho hc hd (by simpa using ra), fun z => by cases z⟩
  | .tup xs, p, v, u, e, h, r => by
    unfold D.pd at e
    rw [Option.map_eq_some_iff] at e
    obtain ⟨ps, q, rfl⟩ := e
    cases h with
    | tup ha hl hr =>
      cases r
      obtain ⟨its, rv, ⟨o, ho, hc, n, hd⟩, _⟩ := I.tuple (sqt_mono sm ha)
      obtain ⟨as, ra, na⟩ := readsL_of I sm xs ps _ its q ⟨hl, hr⟩ rv
      exact ⟨as, .tuple ho hc hd (by simpa using ra), fun z => na z⟩
  | .dic kvs, p, v, u, e, h, r => by
    unfold D.pd at e
    rw [Option.map_eq_some_iff] at e
    obtain ⟨ps, q, rfl⟩ := e
    cases h with
    | dic ha hl hr =>
      cases r
      obtain ⟨_, ns, vs, kv, hdo⟩ := I.hok _ _ (sm _ _ ha)
      obtain ⟨o, es, ep, ho, hx, hd, hk, hp, _⟩ := hdo
      obtain ⟨as, bs, r1, r2, n1, n2⟩ := readsK_of I sm kvs ps _ vs es.toList q hl hr kv hp
      refine ⟨_, .dict ho hx.1 hd r1 r2, fun z => ?_⟩
      intro z2
      rcases List.mem_append.mp z2 with z2 | z2
      · exact noM ns n1 z2
      · exact n2 z z2
  | .scr _, p, v, u, e, h, r => by cases e
  | .exc _ _, p, v, u, e, h, r => by cases e
  | .obj _ _, p, v, u, e, h, r => by cases e
theorem readsL_of (I : Inv X pins σ H s) (sm : Same F H) : ∀ (xs : List D) (ps : List PyData) (vs : List V) (us : List Value), pdL xs = some ps → RpA X.K F vs xs → Vals vs us → ∃ as, ReadsAll s.heap us ps as ∧ (listsL xs = false → sysModules ∉ as)
  | [], ps, vs, us, e, h, r => by
    cases e
    cases List.eq_nil_of_length_eq_zero h.1
    cases r
    exact ⟨[], .nil, fun _ => by simp⟩
  | x :: xs, ps, vs, us, e, h, r => by
    cases r with
    | nil => have := h.1; simp at this
    | cons r rr =>
      unfold pdL at e
      split at e
      · rename_i a b h1 h2
        cases e
        obtain ⟨hx, hxs⟩ := h.cons_inv
        obtain ⟨as, ra, na⟩ := reads_of I sm x a _ _ h1 hx r
        obtain ⟨bs, rb, nb⟩ := readsL_of I sm xs b _ _ h2 hxs rr
        refine ⟨as ++ bs, .cons ra rb, fun z z2 => ?_⟩
        unfold listsL at z
        rw [Bool.or_eq_false_iff] at z
        rcases List.mem_append.mp z2 with z2 | z2
        · exact na z.1 z2
        · exact nb z.2 z2
      · cases e
theorem readsK_of (I : Inv X pins σ H s) (sm : Same F H) : ∀ (xs : List (Ky × D)) (ps : List (PyData × PyData)) (kvs : List (Key × V)) (vs : List (Key × Value)) (es : List DictEntry), pdK xs = some ps → kvs.map (·.1) = xs.map (fun p => kyS p.1) →
    (∀ (i : Nat) p q, kvs[i]? = some p → xs[i]? = some q → Rp X.K F p.2 q.2) → KV kvs vs → Pairs (mixKind X.prog X.w) es vs → ∃ as bs, ReadsAll s.heap (es.map (·.key)) (ps.map (·.1)) as ∧ ReadsAll s.heap (es.map (·.val)) (ps.map (·.2)) bs ∧ sysModules ∉ as ∧ (listsK xs = false → sysModules ∉ bs)
  | [], ps, kvs, vs, es, e, hk, hr, kv, hp => by
    cases e
    have z : kvs = [] := by simpa using hk
    subst z
    cases kv
    cases hp
    exact ⟨[], [], .nil, .nil, by simp, fun _ => by simp⟩
  | (k, x) :: xs, ps, kvs, vs, es, e, hk, hr, kv, hp => by
    cases kv with
    | nil => simp at hk
    | cons r rr =>
      rename_i p1 p2 l1 l2
      obtain ⟨k1, v1⟩ := p1
      obtain ⟨k2, v2⟩ := p2
      obtain ⟨rk, rv⟩ := r
      simp only at rk rv
      subst rk
      simp only [List.map_cons, List.cons.injEq] at hk
      obtain ⟨hk1, hk2⟩ := hk
      subst hk1
      cases hp with
      | cons he hv ht =>
        rename_i en ens
        unfold pdK at e
        split at e
        · rename_i a b h1 h2
          cases e
          have hx : Rp X.K F v1 x := hr 0 _ _ rfl rfl
          obtain ⟨bs, rb, nb⟩ := reads_of I sm x a v1 v2 h1 hx rv
          obtain ⟨as', bs', r1, r2, n1, n2⟩ := readsK_of I sm xs b l1 l2 ens h2 hk2 (fun i p q a b => hr (i + 1) p q (by simpa using a) (by simpa using b)) rr ht
          obtain ⟨kp, rk, ek⟩ := keys_reads (h := s.heap) he
          have ev : en.val = v2 := hv
          refine ⟨[] ++ as', bs ++ bs', .cons ?_ r1, .cons ?_ r2, by simpa using n1, fun z z2 => ?_⟩
          · subst ek
            cases k <;> exact rk
          · show Reads s.heap en.val a bs
            rw [ev]
            exact rb
          · unfold listsK at z
            rw [Bool.or_eq_false_iff] at z
            rcases List.mem_append.mp z2 with z2 | z2
            · exact nb z.1 z2
            · exact n2 z.2 z2
        · cases e
end
end
/-- what is read off -/
theorem reads_rt {X : Cx} {pins : List (Addr × Obj)} {σ : Sg} {F H : Hp} {s : Shared} {d : D} {p : PyData} {v : V} {u : Value} (I : Inv X pins σ H s) (sm : Same F H) (e : d.pd = some p) (h : Rt X.K F H v d) (r : RelV v u) : ∃ as, Reads s.heap u p as ∧ (d.lists = false → sysModules ∉ as) := by
  cases h with
  | fz h => exact reads_of I sm d p v u e h r
  | ow hp ra =>
    rename_i xs
    unfold D.pd at e
    rw [Option.map_eq_some_iff] at e
    obtain ⟨ps, q, rfl⟩ := e
    cases r
    obtain ⟨its, rv, ⟨o, n, ho, hc, _, hd⟩, _⟩ := I.list (SqL.of hp)
    obtain ⟨as, rs, _⟩ := readsL_of I sm xs ps _ its q ra rv
    exact ⟨_, .list ho hc hd (by simpa using rs), fun z => by cases z⟩
theorem bi_repr {X : Cx} (hg : X.A.guards = some []) (hu : X.A.units + 64 < cLine) : CallR X (.builtin "repr") (rDs X.K reprR) := by
  intro pins s σ H xs us Q I rx ⟨e, fr, σ', F, ds, er, R, ra, ef, q⟩
  unfold reprR at ef
  split at ef
  · rename_i d
    rw [Option.map_eq_some_iff] at ef
    obtain ⟨t, ed, rfl⟩ := ef
    unfold reprD at ed
    cases epd : d.pd with
    | none => rw [epd] at ed; cases ed
    | some p =>
      rw [epd] at ed
      simp only at ed
      split at ed
      · rename_i hc
        cases ed
        simp only [Bool.and_eq_true, decide_eq_true_eq, Bool.or_eq_true, Bool.not_eq_true'] at hc
        obtain ⟨⟨⟨h1, h2⟩, h3⟩, h4⟩ := hc
        obtain ⟨v, rfl, rt⟩ := ra.one
        cases rx with
        | cons r1 rr =>
          cases rr
          rename_i u
          obtain ⟨as, rd, nm⟩ := reads_rt I R.sub epd rt r1
          have fin : ∀ (h' : Heap) (tk : Nat) (t : Tok), (∀ b o, s.heap.get? b = some o → h'.get? b = some o) → EP X pins σ Q (.str p.shown t) { s with heap := h', toks := tk } := fun h' tk t hk =>
            ⟨.str p.shown, H, I.kept hk, ⟨t, rfl⟩, q _ H F R (Same.refl F) (.str p.shown.cps.toList)⟩
          have hsz : p.shown.length ≤ sizeLine := lim_le h3
          have nm2 : p.hasDict = true → sysModules ∉ as := fun z => by
            rcases h4 with h | h
            · rw [h] at z
              cases z
            · exact nm h
          cases p with
          | none =>
            cases rd
            exact PySem.P.repr_of_none (fin s.heap _ _ fun _ _ z => z)
          | bool b =>
            cases rd
            exact PySem.P.repr_of_bool (fin s.heap _ _ fun _ _ z => z)
          | int i =>
            cases rd
            exact PySem.P.repr_of_int (of_decide_eq_true h1) (fin s.heap _ _ fun _ _ z => z)
          | str x =>
            cases rd
            exact PySem.P.repr_of_str (fin s.heap _ _ fun _ _ z => z) hsz
          | list xs =>
            obtain ⟨a, rfl⟩ : ∃ a, u = .ref a := by cases rd; exact ⟨_, rfl⟩
            exact repr_of_reads' rd h1 nm2 hg (by omega) (fun _ _ z => z) (fun h' t tk hk => fin h' tk t hk) hsz
          | tuple xs =>
            obtain ⟨a, rfl⟩ : ∃ a, u = .ref a := by cases rd; exact ⟨_, rfl⟩
            exact repr_of_reads' rd h1 nm2 hg (by omega) (fun _ _ z => z) (fun h' t tk hk => fin h' tk t hk) hsz
          | dict xs =>
            obtain ⟨a, rfl⟩ : ∃ a, u = .ref a := by cases rd; exact ⟨_, rfl⟩
            exact repr_of_reads' rd h1 nm2 hg (by omega) (fun _ _ z => z) (fun h' t tk hk => fin h' tk t hk) hsz
      · cases ed
  · cases ef
end Pi
set_option maxRecDepth 100000
set_option maxHeartbeats 3900000
namespace Pi
open PySem PySem.Spec L2 PyProof.Rows
/-! ### defs where no repr is under way -/
/-- room for calls; where cm is told, no error is being handled -/
structure RoomC (cm : Bool) (k : Nat) (A : Around) : Prop extends L2H.RoomH k A where
  hd : cm = true → A.handled = none
theorem RoomC.mono {cm : Bool} {j k : Nat} {A : Around} (r : RoomC cm k A) (h : j ≤ k) : RoomC cm j A := ⟨r.toRoomH.mono h, r.hd⟩
theorem RoomC.room {k : Nat} {A : Around} (r : RoomC true k A) : Room k A := ⟨r.hd rfl, r.dp, r.un⟩
theorem RoomC.of {k : Nat} {A : Around} (r : Room k A) : RoomC true k A := ⟨L2H.roomH_of r, fun _ => r.hd⟩
theorem RoomC.hot {cm : Bool} {k : Nat} {A : Around} (r : RoomC cm k A) : RoomC false k A := ⟨r.toRoomH, nofun⟩
theorem RoomC.deeper {cm : Bool} {k : Nat} {A : Around} (r : RoomC cm (k + 1) A) (env : Env) : RoomC cm k (A.deeper env) := ⟨r.toRoomH.deeper env, r.hd⟩
structure FnG (P : Program) (w : World) (K : PySem.W.Frag) (mg : Str → Option Value) (base : Heap) (cm : Bool) (k : Nat) (f : Addr) (fd : FuncData) (ps : List Str) (sp : Sp) : Prop where
  fits : ∀ vs H Q E, sp vs H Q E → vs.length = ps.length
  run : ∀ (A : Around) (outer : List Env) (s : Shared) (H : Hp) (args : Args) (us : List Value) (vs : List V) (Q : VK) (E : XK),
    A.guards = some [] → RoomC cm k A → Env0 P w K mg base A outer s H → BindsTo s fd args (ps.zip us) → Vals vs us → sp vs H Q E →
    codeAny (model P w) A (.call (.ref f) args) (L2.CR (L2.CX P w) outer P w H s Q E) s
theorem FnG.mono {P : Program} {w : World} {K : PySem.W.Frag} {mg : Str → Option Value} {base : Heap} {cm : Bool} {j k : Nat} {f : Addr} {fd : FuncData} {ps : List Str} {sp : Sp} (F : FnG P w K mg base cm j f fd ps sp) (h : j ≤ k) : FnG P w K mg base cm k f fd ps sp :=
  ⟨F.fits, fun A o s H a us vs Q E hg hr e0 b r q => F.run A o s H a us vs Q E hg (hr.mono h) e0 b r q⟩
/-- the parameters are locals or cells -/
theorem params_kinds {N ps : List Str} {sc : Scope} (S : FnScope N ps sc) (us : List Value) : ((ps.zip us).all fun y => sc.names.lookup y.1 == some .local || sc.names.lookup y.1 == some .cell) = true := by
  rw [List.all_eq_true]
  rintro ⟨y, u⟩ hy
  rcases S.par y (List.of_mem_zip hy).1 with q | q <;> simp [q]
/-- the context of a body that may be entered while an error is handled (cm = false) -/
abbrev cxC (cm : Bool) (P : Program) (w : World) (K : PySem.W.Frag) (mg : Str → Option Value) (base : Heap) (N : List Str) (qual : Str) (scope : Scope) (f : Addr) (cd : Value) (A : Around) (outer : List Env) (s : Shared) (H : Hp) (E : XK) : Cx := { cxOf (L2.CX P w) P w K mg base N qual scope f cd A outer s H E with calm := cm }
theorem inv_startC {cm : Bool} {P : Program} {w : World} {K : PySem.W.Frag} {mg : Str → Option Value} {base : Heap} {N ps : List Str} {qual : Str} {scope : Scope} {f : Addr} {cd : Value} {A : Around} {outer : List Env} {s s1 : Shared} {H : Hp} {E : XK} {us : List Value} {vs : List V} (S : FnScope N ps scope) (hd : cm = true → A.handled = none) (e0 : Env0 P w K mg base A outer s H) (hl : vs.length = ps.length) (r : Vals vs us)
    (x : InCallC s s.heap.objs.size (bindL (envOfC qual scope s.heap.objs.size f cd).kindOf (ps.zip us) fun _ => none) (cellsFrom (s.heap.objs.size + 1) scope.names []) (bindC (envOfC qual scope s.heap.objs.size f cd).kindOf (ps.zip us) fun _ => none) s1) : Inv (cxC cm P w K mg base N qual scope f cd A outer s H E) [] (start N vs) H s1 := by
  -- entered as if nothing were handled; the state tells nothing of that
  have I := inv_start (CX := L2.CX P w) (E := E) (A := { A with handled := none }) (qual := qual) (f := f) (cd := cd) S rfl { e0 with frames := e0.frames } hl r x
  exact { I with ok := { I.ok with hd := hd, frames := I.ok.frames } }
/-- a def of the text by its body: the entry is the library's Att.call_fn -/
theorem fng_of {cm : Bool} {P : Program} {w : World} {K : PySem.W.Frag} {mg : Str → Option Value} {base : Heap} {x qual : Str} {st : Stmt} {f : Addr} {fd : FuncData} {N ps : List Str} {k : Nat} {sp : Sp} (F : Fun K x qual st f fd) (S : FnScope N ps (defScope st)) (fits : ∀ vs H Q E, sp vs H Q E → vs.length = ps.length)
    (hbody : ∀ (cdv : Value) (A : Around) (outer : List Env) (s : Shared) (H : Hp) (vs : List V) (Q : VK) (E : XK), A.guards = some [] → RoomC cm k (A.deeper (envOfC qual (defScope st) s.heap.objs.size f cdv)) → sp vs H Q E →
      ∃ t, PSs (cxC cm P w K mg base N qual (defScope st) f cdv A outer s H E) (defBody st) t ∧ t { nx := fun _ H' => Q .non H', rt := Q } (start N vs) H) : FnG P w K mg base cm (k + 1) f fd ps sp where
  fits := fits
  run A outer s H args us vs Q E hg hr e0 hb r hsp := by
    rcases F.ex with ⟨v1, v2, v3, v4, v5, v6, cdv, v8, v9, fdq, lk, cin⟩
    subst fdq
    have old : ∀ b o, base.get? b = some o → s.heap.get? b = some o := fun b o q => (e0.bs b o q).1
    obtain ⟨t, ht, hq⟩ := hbody cdv A outer s H vs Q E hg (hr.deeper _) hsp
    refine Att.call_fn (e0.mod.kin.keeps old) (e0.mod.nolimit.keeps old) lk cin (by have := hr.dp; omega) hb (params_kinds S us) (fun s1 x => ?_) S.co S.gen S.kind
    refine wpAny_mono (ht.run [] s1 _ H _ (inv_startC (E := E) S hr.hd e0 (fits _ _ _ _ hsp) r x) hq) (fun fl t1 z => ?_) fun _ _ z => z
    cases fl with
    | ret u =>
      obtain ⟨v, _, H2, J, k1, k2⟩ := z
      exact ⟨v, H2, J.os, J.bare, J.base, J.hok, k1, k2⟩
    | next =>
      obtain ⟨_, H2, J, k1⟩ := z
      exact ⟨.non, H2, J.os, J.bare, J.base, J.hok, rfl, k1⟩
    | brk => obtain ⟨_, _, _, k1⟩ := z; exact k1.elim
    | cont => obtain ⟨_, _, _, k1⟩ := z; exact k1.elim
theorem guards_deeper (A : Around) (env : Env) (h : A.guards = some []) : (A.deeper env).guards = some [] := by
  first | exact h | simpa [Around.deeper] using h
/-! ### what a def promises, over data -/
/-- the arguments: data, the first one lent or not -/
def ArgOk (K : PySem.W.Frag) (br : Bool) (c : Option Addr) (F H : Hp) (vs : List V) (as cs : List D) : Prop :=
  match br with
  | false => c = none ∧ RpA K F vs as
  | true => ∃ a ws ys v0 vs' a0 as', c = some a ∧ vs = v0 :: vs' ∧ as = a0 :: as' ∧ v0 = .ref a ∧ F a = none ∧ H a = some (.lst ws) ∧ ys = cs ∧ RpA K F ws ys ∧ RpA K F vs' as'
def PoC (K : PySem.W.Frag) (cn : Tx → Value) (e : En) (F : Hp) (Q : VK) (E : XK) : CR → Prop
  | .ok v cs => ∀ u H' F', Rl K e ⟨[], cs⟩ [] F' H' → Same F F' → Rv K e ⟨[], cs⟩ [] F' H' u v.er → Q u H'
  | .exc k fs cs => ∀ d H' F', Rl K e ⟨[], cs⟩ [] F' H' → Same F F' → Xd K F' H' d fs → E (cn k) d H'
  | .stuck => False
def spF (K : PySem.W.Frag) (cn : Tx → Value) (p : Pg) (n f : Nat) : Sp := fun vs H Q E => ∃ c F as cs, Same F H ∧ ArgOk K (p.br f) c F H vs as cs ∧ (∃ d, p.fns[f]? = some d ∧ vs.length = d.np) ∧ PoC K cn ⟨c, F, H⟩ F Q E (p.run n f as cs)
section
variable {K : PySem.W.Frag} {e : En} {s : Fr} {σ : Sg} {F H F' H' : Hp} {c : Option Addr} {cs : List D}
theorem after_keep (Z : Rl K ⟨c, F, H⟩ ⟨[], cs⟩ [] F' H') {b : Addr} {o : HO} (h : H b = some o) (hc : some b ≠ c) : H' b = some o := Z.keep b o h hc
theorem after_none (Z : Rl K ⟨c, F, H⟩ ⟨[], cs⟩ [] F' H') {b : Addr} {o : HO} (hF : F b = none) (h : H b = some o) : F' b = none := by
  cases q : F' b with
  | none => rfl
  | some u =>
    rcases Z.fnew b u q with z | z
    · have z : F b = some u := z
      rw [hF] at z
      cases z
    · have z : H b = none := z
      rw [h] at z
      cases z
/-- the slots behind a call that does not touch them -/
theorem after_slot (R : Rl K e s σ F H) (Z : Rl K ⟨c, F, H⟩ ⟨[], cs⟩ [] F' H') (sm : Same F F') (i : Nat) (x : Sl) (q : s.sl[i]? = some x) (hc : isOwn x = true → ∀ p, σ[i]? = some (some (.ref p)) → some p ≠ c) : SlOk K e σ F' H' i x := by
  have k := R.slot i x q
  cases x with
  | un => trivial
  | val d =>
    obtain ⟨v, h1, h2⟩ := k
    exact ⟨v, h1, h2.mono sm⟩
  | own xs =>
    obtain ⟨p, vs, h1, h2, h3, h4, h5, h6⟩ := k
    exact ⟨p, vs, h1, h2, after_none Z h3 h5, h4, after_keep Z h5 (hc rfl p h1), h6.mono sm⟩
  | ref => exact k
theorem after_base (R : Rl K e s σ F H) (Z : Rl K ⟨c, F, H⟩ ⟨[], cs⟩ [] F' H') (hc : ∀ b o, e.H0 b = some o → some b ≠ e.c → some b ≠ c) :
    Same F' H' ∧ (∀ b o, F' b = some o → e.F0 b = some o ∨ e.H0 b = none) ∧ Same e.F0 F' ∧ (∀ b o, e.H0 b = some o → some b ≠ e.c → H' b = some o) := by
  have f0 : Same F F' := Z.f0
  refine ⟨Z.sub, fun b o q => ?_, R.f0.trans f0, fun b o q h => ?_⟩
  · rcases Z.fnew b o q with z | z
    · exact R.fnew b o z
    · exact Or.inr (R.nw z).h0
  · exact after_keep Z (R.keep b o q h) (hc b o q h)
/-- nothing was lent (or something that nobody else holds) -/
theorem Rl.after0 (R : Rl K e s σ F H) (Z : Rl K ⟨c, F, H⟩ ⟨[], cs⟩ [] F' H') (hc : ∀ p, c = some p → Nw e s σ F p) : Rl K e s σ F' H' := by
  have f0 : Same F F' := Z.f0
  obtain ⟨a1, a2, a3, a4⟩ := after_base R Z fun b o q _ z => by
    have := (hc b z.symm).h0
    rw [q] at this
    cases this
  refine ⟨a1, a2, a3, a4, fun a ha => ?_, fun i x q => ?_, R.dist, R.len⟩
  · obtain ⟨h1, vs, h2, r⟩ := R.cell a ha
    have nc : some a ≠ c := fun z => (hc a z.symm).c ha.symm
    exact ⟨after_none Z h1 h2, vs, after_keep Z h2 nc, r.mono f0⟩
  · refine after_slot R Z f0 i x q fun io p hp z => ?_
    exact (hc p z.symm).ow i x q io hp
/-- the cell was lent -/
theorem Rl.afterC (R : Rl K e s σ F H) (Z : Rl K ⟨e.c, F, H⟩ ⟨[], cs⟩ [] F' H') : Rl K e ⟨s.sl, cs⟩ σ F' H' := by
  have f0 : Same F F' := Z.f0
  obtain ⟨a1, a2, a3, a4⟩ := after_base R Z fun b o q h => h
  refine ⟨a1, a2, a3, a4, fun a ha => Z.cell a ha, fun i x q => ?_, R.dist, R.len⟩
  refine after_slot R Z f0 i x q fun io p hp => ?_
  have k := R.slot i x q
  cases x with
  | own xs =>
    obtain ⟨p', vs, h1, h2, h3, h4, h5, h6⟩ := k
    rw [hp] at h1
    cases h1
    exact h4
  | un => cases io
  | val _ => cases io
  | ref => cases io
/-- a list of one's own was lent -/
theorem Rl.afterO {j : Nat} {xs : List D} {p : Addr} (R : Rl K e s σ F H) (hj : s.sl[j]? = some (.own xs)) (hp : σ[j]? = some (some (.ref p))) (Z : Rl K ⟨some p, F, H⟩ ⟨[], cs⟩ [] F' H') : Rl K e (s.put j (.own cs)) σ F' H' := by
  have f0 : Same F F' := Z.f0
  obtain ⟨p', vs, h1, h2, h3, h4, h5, h6⟩ := R.slot j _ hj
  rw [hp] at h1
  cases h1
  obtain ⟨a1, a2, a3, a4⟩ := after_base R Z fun b o q _ z => by
    cases z
    rw [h2] at q
    cases q
  have jl : j < s.sl.length := (List.getElem?_eq_some_iff.mp hj).1
  have own : ∀ (i : Nat) x, (s.sl.set j (.own cs))[i]? = some x → isOwn x = true → ∃ y, s.sl[i]? = some y ∧ isOwn y = true := fun i x q io => by
    by_cases hi : j = i
    · subst hi
      exact ⟨_, hj, rfl⟩
    · rw [List.getElem?_set_ne hi] at q
      exact ⟨x, q, io⟩
  refine ⟨a1, a2, a3, a4, fun a ha => ?_, fun i x q => ?_, fun i k x y q1 q2 i1 i2 => ?_, by show (s.sl.set j _).length = _; rw [List.length_set]; exact R.len⟩
  · obtain ⟨g1, ws, g2, r⟩ := R.cell a ha
    have nc : some a ≠ some p := fun z => h4 (by rw [ha]; exact z.symm)
    exact ⟨after_none Z g1 g2, ws, after_keep Z g2 nc, r.mono f0⟩
  · by_cases hi : j = i
    · subst hi
      have q : (s.sl.set j (.own cs))[j]? = some x := q
      rw [List.getElem?_set_self jl] at q
      cases q
      obtain ⟨z1, ws, z2, z3⟩ := Z.cell p rfl
      exact ⟨p, ws, hp, h2, z1, h4, z2, z3⟩
    · have q : (s.sl.set j (.own cs))[i]? = some x := q
      rw [List.getElem?_set_ne hi] at q
      refine after_slot R Z f0 i x q fun io p2 hp2 z => ?_
      cases z
      exact hi (R.dist j i _ x hj q rfl io (hp.trans hp2.symm))
  · obtain ⟨x', w1, w2⟩ := own i x q1 i1
    obtain ⟨y', w3, w4⟩ := own k y q2 i2
    exact R.dist i k x' y' w1 w3 w2 w4
/-- what has come out of the call -/
theorem Rv.after {s' : Fr} {u : V} {v : CV} (R : Rl K e s σ F H) (h : Rv K ⟨c, F, H⟩ ⟨[], cs⟩ [] F' H' u v.er) (hs : ∀ (i : Nat) x, s'.sl[i]? = some x → isOwn x = true → ∃ y, s.sl[i]? = some y ∧ isOwn y = true) : Rv K e s' σ F' H' u v.er := by
  cases v with
  | val d => exact h
  | fresh xs =>
    obtain ⟨p, vs, rfl, h1, h2, h3, h4, h5, _⟩ := h
    have n := R.nw (p := p) h1
    refine ⟨p, vs, rfl, n.h0, h2, n.c, h4, h5, fun i x q io => ?_⟩
    obtain ⟨y, q2, io2⟩ := hs i x q io
    exact n.ow i y q2 io2
end
end Pi
set_option maxRecDepth 100000
set_option maxHeartbeats 3900000
namespace Pi
open PySem PySem.Spec L2 PyProof.Rows
/-! ### arguments -/
section
variable {K : PySem.W.Frag} {e : En} {s s' : Fr} {σ : Sg} {F F' H H' : Hp} {v : V} {vs : List V} {er : ER} {ers : List ER} {ds : List D} {d : D}
theorem RvA.nil : RvA K e s σ F H [] [] := ⟨rfl, fun i v x a => by simp at a⟩
theorem RvA.cons (h : Rv K e s σ F H v er) (t : RvA K e s σ F H vs ers) : RvA K e s σ F H (v :: vs) (er :: ers) := by
  refine ⟨by simp [t.1], fun i w x a b => ?_⟩
  cases i with
  | zero =>
    simp only [List.getElem?_cons_zero, Option.some.injEq] at a b
    subst a; subst b
    exact h
  | succ i => exact t.2 i w x (by simpa using a) (by simpa using b)
theorem RvA.inv (h : RvA K e s σ F H vs (er :: ers)) : ∃ v ws, vs = v :: ws ∧ Rv K e s σ F H v er ∧ RvA K e s σ F H ws ers := by
  cases vs with
  | nil => have := h.1; simp at this
  | cons v ws => exact ⟨v, ws, rfl, h.2 0 v er rfl rfl, by have := h.1; simpa using this, fun i w x a b => h.2 (i + 1) w x (by simpa using a) (by simpa using b)⟩
theorem RvA.nil_inv (h : RvA K e s σ F H vs []) : vs = [] := List.eq_nil_of_length_eq_zero h.1
/-- held: nothing fresh -/
def held : ER → Bool
  | .fresh _ => false
  | _ => true
theorem hold_held (x : ER) : held x.hold = true := by cases x <;> rfl
theorem held_hold {x : ER} (h : held x = true) : x.hold = x := by cases x <;> first | rfl | cases h
theorem Rv.stay' (h : Rv K e s σ F H v er) (hh : held er = true) (sm : Same F F') : Rv K e s' σ F' H' v er := by
  rw [← held_hold hh] at h ⊢
  exact h.stay sm
theorem RvA.stay (h : RvA K e s σ F H vs ers) (hh : ers.all held = true) (sm : Same F F') : RvA K e s' σ F' H' vs ers :=
  ⟨h.1, fun i v x a b => (h.2 i v x a b).stay' (List.all_eq_true.mp hh x (List.mem_of_getElem? b)) sm⟩
/-- all but the last are held -/
def heldL : List ER → Bool
  | [] => true
  | [_] => true
  | x :: r => held x && heldL r
theorem heldL_cons (x : ER) (xs : List ER) (h : heldL xs = true) : heldL (holdL x xs :: xs) = true := by
  cases xs with
  | nil => rfl
  | cons y ys =>
    show (held x.hold && heldL (y :: ys)) = true
    rw [hold_held, h]
    rfl
theorem evB_held (w : Wd) : ∀ (es : IEs) (s s' : Fr) (ers : List ER), evB w es s = .ok ers s' → heldL ers = true
  | .nil, s, s', ers, h => by
    unfold evB at h
    cases h
    rfl
  | .cons a r, s, s', ers, h => by
    unfold evB at h
    cases h1 : ev w a s with
    | stuck => rw [h1] at h; cases h
    | exc c fs t => rw [h1] at h; cases h
    | ok x s1 =>
      rw [h1] at h
      simp only [Rs.bind] at h
      cases h2 : evB w r s1 with
      | stuck => rw [h2] at h; cases h
      | exc c fs t => rw [h2] at h; cases h
      | ok xs s2 =>
        rw [h2] at h
        cases h
        exact heldL_cons x xs (evB_held w r s1 _ xs h2)
theorem Rl.holdAll (R : Rl K e s σ F H) : ∀ (ers : List ER) (vs : List V), heldL ers = true → RvA K e s σ F H vs ers → ∃ F', Rl K e s σ F' H ∧ Same F F' ∧ RvA K e s σ F' H vs (ers.map ER.hold)
  | [], vs, _, h => ⟨F, R, Same.refl F, h⟩
  | [x], vs, _, h => by
    obtain ⟨v, ws, rfl, h1, h2⟩ := h.inv
    cases h2.nil_inv
    obtain ⟨F', R', sm, r⟩ := R.hold h1
    exact ⟨F', R', sm, .cons r .nil⟩
  | x :: y :: r, vs, hh, h => by
    unfold heldL at hh
    rw [Bool.and_eq_true] at hh
    obtain ⟨v, ws, rfl, h1, h2⟩ := h.inv
    obtain ⟨F', R', sm, t⟩ := R.holdAll (y :: r) ws hh.2 h2
    refine ⟨F', R', sm, ?_⟩
    show RvA K e s σ F' H (v :: ws) (x.hold :: (y :: r).map ER.hold)
    rw [held_hold hh.1]
    exact .cons (h1.stay' hh.1 sm) t
/-- kept by others from here on -/
theorem Rl.fz1 (R : Rl K e s σ F H) (h : Rv K e s σ F H v er) (hh : held er = true) (q : er.fz s = .ok d s') : ∃ F', Rl K e s' σ F' H ∧ Same F F' ∧ Rp K F' v d := by
  cases er with
  | val x => cases q; exact ⟨F, R, Same.refl F, h⟩
  | fresh xs => cases hh
  | cell => cases q
  | slot i =>
    have h : σ[i]? = some (some v) := h
    unfold ER.fz at q
    cases hs : s.sl[i]? with
    | none => simp only [hs] at q; cases q
    | some x =>
      simp only [hs] at q
      cases x with
      | un => cases q
      | ref => cases q
      | val y =>
        cases q
        obtain ⟨w, hw, r⟩ := R.slot i _ hs
        rw [h] at hw
        cases hw
        exact ⟨F, R, Same.refl F, r⟩
      | own xs =>
        cases q
        obtain ⟨p, ws, hw, h0, hF, hc, hp, r⟩ := R.slot i _ hs
        rw [h] at hw
        cases hw
        have il : i < s.sl.length := (List.getElem?_eq_some_iff.mp hs).1
        have sm : Same F (upd F p (.lst ws)) := fun b u z => by
          rw [upd_ne (ne_of_none z hF)]
          exact z
        have rp : Rp K (upd F p (.lst ws)) (.ref p) (.lst xs) := .lst upd_same r.1 (r.mono sm).2
        refine ⟨upd F p (.lst ws), ⟨fun b u z => ?_, fun b u z => ?_, R.f0.trans sm, R.keep, fun a ha => ?_, fun j x z => ?_, fun j k x y z1 z2 i1 i2 => ?_, ?_⟩, sm, rp⟩
        · by_cases hb : b = p
          · subst hb
            rw [upd_same] at z
            cases z
            exact hp
          · rw [upd_ne hb] at z
            exact R.sub b u z
        · by_cases hb : b = p
          · subst hb
            exact Or.inr h0
          · rw [upd_ne hb] at z
            exact R.fnew b u z
        · obtain ⟨g1, us, g2, r'⟩ := R.cell a ha
          refine ⟨?_, us, g2, r'.mono sm⟩
          rw [upd_ne (fun z => hc (by rw [ha, z]))]
          exact g1
        · have z : (s.sl.set i (.val (.lst xs)))[j]? = some x := z
          by_cases hj : i = j
          · subst hj
            rw [List.getElem?_set_self il] at z
            cases z
            exact ⟨_, h, rp⟩
          · rw [List.getElem?_set_ne hj] at z
            have k := R.slot j x z
            cases x with
            | un => trivial
            | val d =>
              obtain ⟨u, hu, r'⟩ := k
              exact ⟨u, hu, r'.mono sm⟩
            | own ys =>
              obtain ⟨p', us, g1, g2, g3, g4, g5, g6⟩ := k
              have np : p' ≠ p := fun z2 => by
                subst z2
                exact hj (R.dist i j _ _ hs z rfl rfl (h.trans g1.symm))
              exact ⟨p', us, g1, g2, by rw [upd_ne np]; exact g3, g4, g5, g6.mono sm⟩
            | ref => exact k
        · have z1 : (s.sl.set i (.val (.lst xs)))[j]? = some x := z1
          have z2 : (s.sl.set i (.val (.lst xs)))[k]? = some y := z2
          have nj : i ≠ j := fun z => by
            subst z
            rw [List.getElem?_set_self il] at z1
            cases z1
            cases i1
          have nk : i ≠ k := fun z => by
            subst z
            rw [List.getElem?_set_self il] at z2
            cases z2
            cases i2
          rw [List.getElem?_set_ne nj] at z1
          rw [List.getElem?_set_ne nk] at z2
          exact R.dist j k x y z1 z2 i1 i2
        · show (s.sl.set i _).length = _
          rw [List.length_set]
          exact R.len
theorem Rl.fzAll (R : Rl K e s σ F H) : ∀ (ers : List ER) (vs : List V) (ds : List D) (s' : Fr), ers.all held = true → RvA K e s σ F H vs ers → fzAll ers s = .ok ds s' → ∃ F', Rl K e s' σ F' H ∧ Same F F' ∧ RpA K F' vs ds := by
  intro ers
  induction ers generalizing s F with
  | nil =>
    intro vs ds s' _ h q
    unfold Pi.fzAll at q
    cases q
    cases h.nil_inv
    exact ⟨F, R, Same.refl F, .nil⟩
  | cons x r ih =>
    intro vs ds s' hh h q
    rw [List.all_cons, Bool.and_eq_true] at hh
    obtain ⟨v, ws, rfl, h1, h2⟩ := h.inv
    unfold Pi.fzAll at q
    cases q1 : x.fz s with
    | stuck => rw [q1] at q; cases q
    | exc c fs t => rw [q1] at q; cases q
    | ok d s1 =>
      rw [q1] at q
      simp only [Rs.bind] at q
      obtain ⟨F1, R1, sm1, r1⟩ := R.fz1 h1 hh.1 q1
      cases q2 : Pi.fzAll r s1 with
      | stuck => rw [q2] at q; cases q
      | exc c fs t => rw [q2] at q; cases q
      | ok ds' s2 =>
        rw [q2] at q
        cases q
        obtain ⟨F2, R2, sm2, r2⟩ := ih R1 ws ds' _ hh.2 (h2.stay hh.2 sm1) q2
        exact ⟨F2, R2, sm1.trans sm2, .cons (r1.mono sm2) r2⟩
theorem fz_noexc {er : ER} {s : Fr} {c : Tx} {fs : List (Tx × D)} {t : Fr} : er.fz s ≠ .exc c fs t := by
  intro h
  cases er <;> simp only [ER.fz, reduceCtorEq] at h
  split at h <;> cases h
theorem fzAll_noexc : ∀ {ers : List ER} {s : Fr} {c : Tx} {fs : List (Tx × D)} {t : Fr}, fzAll ers s ≠ .exc c fs t
  | [], s, c, fs, t, h => by unfold Pi.fzAll at h; cases h
  | x :: r, s, c, fs, t, h => by
    unfold Pi.fzAll at h
    cases q1 : x.fz s with
    | stuck => rw [q1] at h; cases h
    | exc c fs t => exact fz_noexc q1
    | ok d s1 =>
      rw [q1] at h
      simp only [Rs.bind] at h
      cases q2 : Pi.fzAll r s1 with
      | stuck => rw [q2] at h; cases h
      | exc c fs t => exact fzAll_noexc q2
      | ok ds s2 => rw [q2] at h; cases h
theorem pick_rp : ∀ {ix : List Nat} {vs : List V} {ds as : List D}, RpA K F vs ds → pick ds ix = some as → ∃ us, pick vs ix = some us ∧ RpA K F us as
  | [], vs, ds, as, h, q => by
    cases q
    exact ⟨[], rfl, .nil⟩
  | k :: r, vs, ds, as, h, q => by
    unfold pick at q
    cases q1 : ds[k]? with
    | none => rw [q1] at q; cases q
    | some x =>
      cases q2 : pick ds r with
      | none => rw [q1, q2] at q; cases q
      | some xs =>
        rw [q1, q2] at q
        cases q
        obtain ⟨v, h1, h2⟩ := h.get q1
        obtain ⟨us, h3, h4⟩ := pick_rp h q2
        exact ⟨v :: us, by unfold pick; rw [h1, h3], .cons h2 h4⟩
theorem pick_vals : ∀ {ix : List Nat} {vs us : List V} {ws : List Value}, Vals vs ws → pick vs ix = some us → ∃ xs, pick ws ix = some xs ∧ Vals us xs
  | [], vs, us, ws, h, q => by
    cases q
    exact ⟨[], rfl, .nil⟩
  | k :: r, vs, us, ws, h, q => by
    unfold pick at q
    cases q1 : vs[k]? with
    | none => rw [q1] at q; cases q
    | some x =>
      cases q2 : pick vs r with
      | none => rw [q1, q2] at q; cases q
      | some xs =>
        rw [q1, q2] at q
        cases q
        obtain ⟨u, h1, h2⟩ := h.get q1
        obtain ⟨ys, h3, h4⟩ := pick_vals h q2
        exact ⟨u :: ys, by unfold pick; rw [h1, h3], .cons h2 h4⟩
end
/-! ### a call -/
def IEs.len : IEs → Nat
  | .nil => 0
  | .cons _ r => r.len + 1
theorem evB_len (w : Wd) : ∀ (es : IEs) (s s' : Fr) (ers : List ER), evB w es s = .ok ers s' → ers.length = es.len
  | .nil, s, s', ers, h => by
    unfold evB at h
    cases h
    rfl
  | .cons a r, s, s', ers, h => by
    unfold evB at h
    cases h1 : ev w a s with
    | stuck => rw [h1] at h; cases h
    | exc c fs t => rw [h1] at h; cases h
    | ok x s1 =>
      rw [h1] at h
      simp only [Rs.bind] at h
      cases h2 : evB w r s1 with
      | stuck => rw [h2] at h; cases h
      | exc c fs t => rw [h2] at h; cases h
      | ok xs s2 =>
        rw [h2] at h
        cases h
        have := evB_len w r s1 _ xs h2
        simp [IEs.len, this]
def tCal (m : Nat) (sp : Sp) (W : WX) (ix : List Nat) (dvs : List V) (t : TA) : TE := fun σ H Q => t σ H fun vs H1 => vs.length = m ∧ ∃ as, pick (vs ++ dvs) ix = some as ∧ sp as H1 Q (WE W σ)
theorem run_some {p : Pg} {n f : Nat} {as c : List D} (h : p.run n f as c ≠ .stuck) : ∃ d, p.fns[f]? = some d ∧ as.length = d.np := by
  cases n with
  | zero => exact absurd rfl h
  | succ n =>
    unfold Pg.run at h
    split at h
    · exact absurd rfl h
    · rename_i d hd
      split at h
      · exact ⟨d, hd, by assumption⟩
      · exact absurd rfl h
theorem heldL_tail {x : ER} {r : List ER} (h : heldL (x :: r) = true) : heldL r = true := by
  cases r with
  | nil => rfl
  | cons y ys =>
    unfold heldL at h
    rw [Bool.and_eq_true] at h
    exact h.2
theorem all_hold (r : List ER) : (r.map ER.hold).all held = true := by
  rw [List.all_map, List.all_eq_true]
  exact fun x _ => hold_held x
theorem pick_pred {α : Type} {x : α} {l : List α} : ∀ {r : List Nat}, r.all (fun k => decide (0 < k)) = true → pick (x :: l) r = pick l (r.map (· - 1))
  | [], _ => rfl
  | k :: r, h => by
    replace h := all_hd h
    have hk := of_decide_eq_true h.1
    show (match (x :: l)[k]?, pick (x :: l) r with | some x, some xs => some (x :: xs) | _, _ => none) = (match l[k - 1]?, pick l (r.map (· - 1)) with | some x, some xs => some (x :: xs) | _, _ => none)
    rw [pick_pred h.2]
    obtain ⟨j, rfl⟩ : ∃ j, k = j + 1 := ⟨k - 1, by omega⟩
    rfl
section
variable {K : PySem.W.Frag} {g : Wi} {p : Pg} {n f : Nat} {e : En} {σ : Sg} {Q : VK}
/-- from the wish behind the call to the promise's -/
theorem poC {c : Option Addr} {F0 F H : Hp} {s s1 : Fr} {fr : List D → Fr} {r : CR} (sm : Same F0 F) (R : Rl K e s σ F H)
    (h : Po K g e σ F0 (Vo K e σ Q) (r.rs fr)) (after : ∀ cs F' H', Rl K ⟨c, F, H⟩ ⟨[], cs⟩ [] F' H' → Rl K e (fr cs) σ F' H')
    (own : ∀ cs (i : Nat) x, (fr cs).sl[i]? = some x → isOwn x = true → ∃ y, s.sl[i]? = some y ∧ isOwn y = true) : PoC K g.cn ⟨c, F, H⟩ F Q (WE g.W σ) r := by
  cases r with
  | stuck => exact h
  | ok v cs => exact fun u H' F' Z sm' rv => h H' F' (after cs F' H' Z) (sm.trans sm') u (rv.after R (own cs))
  | exc k fs cs => exact fun d H' F' Z sm' x => h d H' F' (after cs F' H' Z) (sm.trans sm') x
theorem rs_stuck {r : CR} {fr : List D → Fr} {F : Hp} (h : Po K g e σ F (Vo K e σ Q) (r.rs fr)) : r ≠ .stuck := fun z => by
  rw [z] at h
  exact h
theorem t_call {ix : List Nat} {es : IEs} {H : Hp} {dvs : List V} (hdf : ∀ F, RpA K F dvs (p.df f)) (h : tE K g (p.wd n) (.call f ix es) σ H Q) : tCal es.len (spF K g.cn p n f) g.W ix dvs (tB K g (p.wd n) es) σ H Q := by
  obtain ⟨e, s, F, R, h⟩ := h
  refine ⟨e, s, F, R, ?_⟩
  unfold ev at h
  cases q : evB (p.wd n) es s with
  | stuck => rw [q] at h; exact h
  | exc c fs t => rw [q] at h; exact h
  | ok ers s1 =>
    rw [q] at h
    have hh := evB_held _ es s s1 ers q
    have h : Po K g e σ F (Vo K e σ Q) (doCall (p.wd n) f ix ers s1) := h
    intro H1 F1 R1 sm1 vs ra
    refine ⟨ra.1.trans (evB_len _ es s s1 ers q), ?_⟩
    unfold doCall at h
    cases hb : p.br f with
    | false =>
      have hb' : (p.wd n).br f = false := hb
      simp only [hb'] at h
      obtain ⟨F2, R2, sm2, ra2⟩ := R1.holdAll ers vs hh ra
      cases q2 : fzAll (ers.map ER.hold) s1 with
      | stuck => rw [q2] at h; exact h.elim
      | exc c fs t => exact absurd q2 fzAll_noexc
      | ok ds s2 =>
        rw [q2] at h
        obtain ⟨F3, R3, sm3, rp⟩ := R2.fzAll _ vs ds s2 (all_hold ers) ra2 q2
        have h : Po K g e σ F (Vo K e σ Q) (match pick (ds ++ p.df f) ix with | none => .stuck | some as => (p.run n f as []).rs fun _ => s2) := h
        cases q3 : pick (ds ++ p.df f) ix with
        | none => rw [q3] at h; exact h.elim
        | some as =>
          rw [q3] at h
          obtain ⟨us, h1, h2⟩ := pick_rp (rp.append (hdf F3)) q3
          obtain ⟨d, hd, hl⟩ := run_some (rs_stuck h)
          refine ⟨us, h1, none, F3, as, [], R3.sub, ?_, ⟨d, hd, h2.1.trans hl⟩, ?_⟩
          · rw [hb]
            exact ⟨rfl, h2⟩
          · exact poC (s1 := s2) ((sm1.trans sm2).trans sm3) R3 h (fun cs F' H' Z => R3.after0 Z (fun p z => by cases z)) (fun cs i x a b => ⟨x, a, b⟩)
    | true =>
      have hb' : (p.wd n).br f = true := hb
      simp only [hb'] at h
      cases ers with
      | nil => exact h.elim
      | cons e0 er =>
        cases ix with
        | nil => exact h.elim
        | cons i0 r =>
          cases i0 with
          | succ i0 => exact h.elim
          | zero =>
            simp only at h
            split at h
            · rename_i hr
              obtain ⟨v0, ws, rfl, rv0, ra'⟩ := ra.inv
              have key : ∃ F2, Rl K e s1 σ F2 H1 ∧ Same F1 F2 ∧ RvA K e s1 σ F2 H1 ws (er.map ER.hold) ∧ (er = [] → F2 = F1) ∧ (er ≠ [] → held e0 = true) := by
                cases er with
                | nil => exact ⟨F1, R1, Same.refl F1, ra', fun _ => rfl, fun z => absurd rfl z⟩
                | cons y ys =>
                  obtain ⟨F2, R2, sm2, ra2⟩ := R1.holdAll (y :: ys) ws (heldL_tail hh) ra'
                  refine ⟨F2, R2, sm2, ra2, (fun z => by cases z), fun _ => ?_⟩
                  unfold heldL at hh
                  rw [Bool.and_eq_true] at hh
                  exact hh.1
              obtain ⟨F2, R2, sm2, ra2, heq, hhe⟩ := key
              cases q2 : fzAll (er.map ER.hold) s1 with
              | stuck => rw [q2] at h; exact h.elim
              | exc c fs t => exact absurd q2 fzAll_noexc
              | ok ds s2 =>
                rw [q2] at h
                obtain ⟨F3, R3, sm3, rp⟩ := R2.fzAll _ ws ds s2 (all_hold er) ra2 q2
                have hB : Po K g e σ F (Vo K e σ Q) (match pick (ds ++ p.df f) (r.map (· - 1)) with | none => .stuck | some as => lend (p.wd n) f (.non :: as) er s2 e0) := h
                cases q3 : pick (ds ++ p.df f) (r.map (· - 1)) with
                | none => rw [q3] at hB; exact hB.elim
                | some as =>
                  rw [q3] at hB
                  obtain ⟨us, h1, h2⟩ := pick_rp (rp.append (hdf F3)) q3
                  have hp : pick (v0 :: ws ++ dvs) (0 :: r) = some (v0 :: us) := by
                    unfold pick
                    rw [show (v0 :: ws ++ dvs) = v0 :: (ws ++ dvs) from rfl, pick_pred hr, h1]
                    rfl
                  refine ⟨v0 :: us, hp, ?_⟩
                  -- what is lent
                  cases e0 with
                  | val d => exact hB.elim
                  | cell =>
                    have h : Po K g e σ F (Vo K e σ Q) ((p.run n f (.non :: as) s2.cell).rs fun c => ⟨s2.sl, c⟩) := hB
                    obtain ⟨a, ha, rfl⟩ := rv0
                    obtain ⟨hFa, vs2, hHa, rc⟩ := R3.cell a ha
                    obtain ⟨d, hd, hl⟩ := run_some (rs_stuck h)
                    refine ⟨some a, F3, .non :: as, s2.cell, R3.sub, ?_, ⟨d, hd, ?_⟩, ?_⟩
                    · rw [hb]
                      exact ⟨a, vs2, _, _, us, .non, as, rfl, rfl, rfl, rfl, hFa, hHa, rfl, rc, h2⟩
                    · rw [← hl]
                      simp [h2.1]
                    · rw [← ha]
                      exact poC (s1 := s2) ((sm1.trans sm2).trans sm3) R3 h (fun cs F' H' Z => R3.afterC Z) (fun cs i x a b => ⟨x, a, b⟩)
                  | slot i =>
                    have h : Po K g e σ F (Vo K e σ Q) (match s2.sl[i]? with | some (.own xs) => (p.run n f (.non :: as) xs).rs fun c => s2.put i (.own c) | _ => .stuck) := hB
                    have hv : σ[i]? = some (some v0) := rv0
                    cases hs : s2.sl[i]? with
                    | none => rw [hs] at h; exact h.elim
                    | some x =>
                      cases x with
                      | un => rw [hs] at h; exact h.elim
                      | val d => rw [hs] at h; exact h.elim
                      | ref => rw [hs] at h; exact h.elim
                      | own xs =>
                        rw [hs] at h
                        have h : Po K g e σ F (Vo K e σ Q) ((p.run n f (.non :: as) xs).rs fun c => s2.put i (.own c)) := h
                        obtain ⟨a, vs2, hw, g0, gF, gc, gH, gr⟩ := R3.slot i _ hs
                        rw [hv] at hw
                        cases hw
                        obtain ⟨d, hd, hl⟩ := run_some (rs_stuck h)
                        refine ⟨some a, F3, .non :: as, xs, R3.sub, ?_, ⟨d, hd, ?_⟩, ?_⟩
                        · rw [hb]
                          exact ⟨a, vs2, _, _, us, .non, as, rfl, rfl, rfl, rfl, gF, gH, rfl, gr, h2⟩
                        · rw [← hl]
                          simp [h2.1]
                        · refine poC (s1 := s2) ((sm1.trans sm2).trans sm3) R3 h (fun cs F' H' Z => R3.afterO hs hv Z) (fun cs j x a b => ?_)
                          by_cases hj : i = j
                          · subst hj
                            exact ⟨_, hs, rfl⟩
                          · have a : (s2.sl.set i (.own cs))[j]? = some x := a
                            rw [List.getElem?_set_ne hj] at a
                            exact ⟨x, a, b⟩
                  | fresh xs =>
                    cases er with
                    | cons y ys => exact absurd (hhe (by simp)) (by simp [held])
                    | nil =>
                      cases heq rfl
                      unfold Pi.fzAll at q2
                      cases q2
                      have h : Po K g e σ F (Vo K e σ Q) ((p.run n f (.non :: as) xs).rs fun _ => s1) := hB
                      obtain ⟨a, vs2, rfl, g0, gF, gc, gH, gr, gn⟩ := rv0
                      obtain ⟨d, hd, hl⟩ := run_some (rs_stuck h)
                      refine ⟨some a, F1, .non :: as, xs, R1.sub, ?_, ⟨d, hd, ?_⟩, ?_⟩
                      · rw [hb]
                        exact ⟨a, vs2, _, _, us, .non, as, rfl, rfl, rfl, rfl, gF, gH, rfl, gr, (by
                          have := ra'.nil_inv
                          subst this
                          obtain ⟨us2, k1, k2⟩ := pick_rp (K := K) (hdf F1) (show pick (p.df f) (r.map (· - 1)) = some as from q3)
                          have e1 : us = us2 := Option.some.inj (h1.symm.trans (show pick ([] ++ dvs) (r.map (· - 1)) = some us2 from k1))
                          rw [e1]
                          exact k2)⟩
                      · rw [← hl]
                        simp [h2.1]
                      · exact poC (s1 := s1) sm1 R1 h (fun cs F' H' Z => R1.after0 Z (fun q z => by cases z; exact ⟨g0, gF, gc, gn⟩)) (fun cs i x a b => ⟨x, a, b⟩)
            · exact h.elim
end
end Pi
set_option maxRecDepth 100000
set_option maxHeartbeats 3900000
namespace Pi
open PySem PySem.Spec L2 PyProof.Rows
/-! ### methods of texts -/
def rDm (K : PySem.W.Frag) (f : Tx → List D → Option ER) : V → List V → Hp → VK → Prop := fun x xs H Q => ∃ (e : En) (s : Fr) (σ : Sg) (F : Hp) (a : Tx) (ds : List D) (er : ER), Rl K e s σ F H ∧ x = .str (tx a) ∧ RtA K F H xs ds ∧ f a ds = some er ∧
  ∀ v H' F', Rl K e s σ F' H' → Same F F' → Rv K e s σ F' H' v er → Q v H'
theorem _root_.L2.MtR.imp {X : Cx} {id : String} {r r' : V → List V → Hp → VK → Prop} (h : MtR X id r) (i : ∀ x xs H Q, r' x xs H Q → r x xs H Q) : MtR X id r' := fun pins s σ H x xs v us Q I a b q => h pins s σ H x xs v us Q I a b (i _ _ _ _ q)
theorem strs_of {K : PySem.W.Frag} {F : Hp} : ∀ {xs : List D} {ts : List Tx} {vs : List V}, strsD xs = some ts → RpA K F vs xs → vs = (ts.map tx).map V.str
  | [], ts, vs, e, h => by
    cases e
    exact List.eq_nil_of_length_eq_zero h.1
  | x :: xs, ts, vs, e, h => by
    cases x <;> simp only [strsD, reduceCtorEq, Option.map_eq_some_iff] at e
    obtain ⟨cs, e, rfl⟩ := e
    cases vs with
    | nil => have := h.1; simp at this
    | cons v vs =>
      obtain ⟨a, b⟩ := h.cons_inv
      cases a
      rw [strs_of e b]
      rfl
theorem join_tx (s : Tx) : ∀ ts : List Tx, Str.join (tx s) (ts.map tx) = tx (joinT s ts)
  | [] => rfl
  | [_] => rfl
  | x :: y :: r => by
    show tx x ++ tx s ++ Str.join (tx s) ((y :: r).map tx) = tx (x ++ s ++ joinT s (y :: r))
    rw [join_tx s (y :: r), tx_app, tx_app]
theorem len_tx (ts : List Tx) : ((ts.map tx).map (·.length)) = ts.map List.length := by
  rw [List.map_map]
  exact List.map_congr_left fun x _ => tx_len x
theorem mt_joinD {X : Cx} : MtR X "str.join" (rDm X.K joinR) := by
  refine (mt_join (X := X)).imp fun x xs H Q ⟨e, s, σ, F, a, ds, er, R, hx, ra, ef, q⟩ => ?_
  unfold joinR at ef
  split at ef
  · rename_i ys
    cases eb : strsD ys with
    | none => rw [eb] at ef; cases ef
    | some ts =>
      rw [eb] at ef
      simp only [Option.bind_some] at ef
      split at ef
      · rename_i hl
        cases ef
        obtain ⟨v, rfl, r⟩ := ra.one
        obtain ⟨p, vs, rfl, h, r⟩ := r.lst R.sub
        cases strs_of eb r
        refine ⟨tx a, p, ts.map tx, hx, rfl, .inl (.of h), ?_, ?_⟩
        · rw [len_tx, tx_len, List.length_map]
          exact Nat.le_trans hl (by decide)
        · rw [show Txt.join (tx a) (ts.map tx) = Str.join (tx a) (ts.map tx) from PySem.StrLaws.glued_eq_join _ _, join_tx]
          exact q _ H F R (Same.refl F) (.str _)
      · cases ef
  · cases ef
theorem occ_one (s : Tx) (c k : Nat) (h : s.findIdx? (· == c) = some k) : ∃ r, Builtin.Str.occurrences (tx s) (tx [c]) 0 (tx s).length 1 = k :: r := by
  rw [List.findIdx?_eq_some_iff_getElem] at h
  obtain ⟨hk, h1, h2⟩ := h
  have at_iff : ∀ i, PySem.StrLaws.At (tx s) ⟨#[c]⟩ (tx s).length i ↔ s[i]? = some c := fun i => by
    have := PySem.StrLaws.subAt_one (tx s) c i
    unfold PySem.StrLaws.At
    rw [this]
    exact Iff.rfl
  rcases PySem.StrLaws.occ_head (tx s) ⟨#[c]⟩ 1 (Nat.le_refl 1) with ⟨_, hn⟩ | ⟨i, r, e, ha, hn⟩
  · refine absurd ((at_iff k).mpr ?_) (hn k)
    rw [List.getElem?_eq_getElem hk]
    have : s[k] = c := by simpa using h1
    rw [this]
  · have hi := (at_iff i).mp ha
    have e2 : i = k := by
      rcases Nat.lt_trichotomy i k with hlt | heq | hgt
      · have z := h2 i hlt
        have : s[i]'(by omega) = c := by
          rw [List.getElem?_eq_getElem (by omega)] at hi
          exact Option.some.inj hi
        simp [this] at z
      · exact heq
      · refine absurd ((at_iff k).mpr ?_) (hn k hgt)
        rw [List.getElem?_eq_getElem hk]
        have : s[k] = c := by simpa using h1
        rw [this]
    subst e2
    exact ⟨r, e⟩
theorem mt_indexD1 {X : Cx} : MtR X "str.index" (rDm X.K indexR) := by
  intro pins s σ H x xs v us Q I rx rs ⟨e, fr, σ', F, a, ds, er, R, hx, ra, ef, q⟩
  unfold indexR at ef
  split at ef
  · rename_i c
    rw [Option.map_eq_some_iff] at ef
    obtain ⟨k, hk, rfl⟩ := ef
    obtain ⟨w, rfl, r⟩ := ra.one
    cases r.str
    subst hx
    obtain ⟨t, rfl⟩ := rx
    cases rs with
    | cons r1 rr =>
      cases rr
      obtain ⟨u, rfl⟩ := r1
      obtain ⟨r, ho⟩ := occ_one a c k hk
      exact PySem.SC.index ho ⟨.int (k : Nat), H, I.tok _, ⟨_, rfl⟩, q _ H F R (Same.refl F) (.int _)⟩
  · cases ef
/-! ### subscripts -/
theorem ixOf_ixN (n : Nat) (i : Int) : ixOf n i = ixN n i := rfl
theorem at_rp {K : PySem.W.Frag} {F : Hp} {vs : List V} {xs : List D} {i : Int} {d : D} (r : RpA K F vs xs) (h : ((ixOf xs.length i).bind fun k => xs[k]?) = some d) : ∃ v, atI vs i = some v ∧ Rp K F v d := by
  unfold atI
  rw [r.1]
  cases q : ixOf xs.length i with
  | none => rw [q] at h; cases h
  | some k =>
    rw [q] at h
    have q2 : ixN xs.length i = some k := q
    obtain ⟨v, h1, h2⟩ := r.get h
    exact ⟨v, by rw [q2]; exact h1, h2⟩
theorem _root_.L2.IxR.imp {X : Cx} {r r' : R2} (h : IxR X r) (i : ∀ x y H Q, r' x y H Q → r x y H Q) : IxR X r' := fun value slice pins s σ H x y v u Q I a b q hs => h value slice pins s σ H x y v u Q I a b (i _ _ _ _ q) hs
theorem ix_data {X : Cx} : IxR X (rD X.K fun a i => (atS a i).map .val) := by
  refine ((ix_list (X := X)).or ((ix_tup (X := X)).or (ix_str (X := X)))).imp fun x y H Q ⟨e, s, σ, F, dx, dy, er, R, rx, ry, ef, q⟩ => ?_
  rw [Option.map_eq_some_iff] at ef
  obtain ⟨d, hd, rfl⟩ := ef
  unfold atS at hd
  split at hd
  · obtain ⟨p, vs, rfl, h, r⟩ := rx.lst R.sub
    cases ry.int
    obtain ⟨v, h1, h2⟩ := at_rp r hd
    exact .inl ⟨p, vs, _, v, rfl, rfl, .of h, h1, q _ H F R (Same.refl F) h2⟩
  · obtain ⟨p, vs, rfl, h, r⟩ := rx.tup R.sub
    cases ry.int
    obtain ⟨v, h1, h2⟩ := at_rp r hd
    exact .inr (.inl ⟨p, vs, _, v, rfl, rfl, h, h1, q _ H F R (Same.refl F) h2⟩)
  · obtain ⟨p, vs, rfl, h, r⟩ := rx.scr R.sub
    cases ry.int
    obtain ⟨v, h1, h2⟩ := at_rp r hd
    exact .inl ⟨p, vs, _, v, rfl, rfl, h, h1, q _ H F R (Same.refl F) h2⟩
  · split at hd
    · rename_i xt i hl
      cases rx.str
      cases ry.int
      cases q1 : ixOf xt.length i with
      | none => rw [q1] at hd; cases hd
      | some k =>
        rw [q1] at hd
        have hd : (xt[k]?.map fun c => D.str [c]) = some d := hd
        rw [Option.map_eq_some_iff] at hd
        obtain ⟨c, hc, rfl⟩ := hd
        refine .inr (.inr ⟨_, _, c, rfl, rfl, by rw [tx_len]; exact lim_le hl, ?_, q _ H F R (Same.refl F) (.str _)⟩)
        show ((ixN xt.length i).bind fun j => xt[j]?) = some c
        rw [show ixN xt.length i = some k from q1]
        exact hc
    · cases hd
  · cases hd
/-! ### slices -/
def rDsl (K : PySem.W.Frag) : V → Option Int → Option Int → Hp → VK → Prop := fun x lo hi H Q => ∃ (e : En) (s : Fr) (σ : Sg) (F : Hp) (d : D) (er : ER), Rl K e s σ F H ∧ Rt K F H x d ∧ slcD d lo hi = some er ∧
  ∀ v H' F', Rl K e s σ F' H' → Same F F' → Rv K e s σ F' H' v er → Q v H'
theorem RpA.cut {K : PySem.W.Frag} {F : Hp} {vs : List V} {xs : List D} (r : RpA K F vs xs) (lo hi : Option Int) : RpA K F (cutV vs lo hi) (cut xs lo hi) := by
  unfold cutV Pi.cut
  rw [r.1]
  exact (r.drop _).take _
theorem whole_cut {K : PySem.W.Frag} {F : Hp} {vs : List V} {xs : List D} (r : RpA K F vs xs) {lo hi : Option Int} (h : HT.sIx vs.length 0 lo = 0 ∧ HT.sIx vs.length vs.length hi = vs.length) : Pi.cut xs lo hi = xs := by
  unfold Pi.cut
  rw [r.1] at h
  have h1 : HT.sIx xs.length 0 lo = 0 := h.1
  have h2 : HT.sIx xs.length xs.length hi = xs.length := h.2
  rw [h1, h2]
  simp
theorem _root_.L2.SlR.imp {X : Cx} {r r' : V → Option Int → Option Int → Hp → VK → Prop} (h : SlR X r) (i : ∀ x lo hi H Q, r' x lo hi H Q → r x lo hi H Q) : SlR X r' := fun pins s σ H x v vl vu lo hi sl Q I a b c d q => h pins s σ H x v vl vu lo hi sl Q I a b c d (i _ _ _ _ _ q)
theorem sl_data {X : Cx} : SlR X (rDsl X.K) := by
  refine ((sl_list (X := X)).or ((sl_tupA (X := X)).or (sl_str (X := X)))).imp fun x lo hi H Q ⟨e, s, σ, F, d, er, R, rx, ef, q⟩ => ?_
  unfold slcD at ef
  split at ef
  · cases ef
    obtain ⟨p, vs, rfl, h, r⟩ := rx.lst R.sub
    refine .inl ⟨p, vs, rfl, .of h, fun l hl => ?_⟩
    obtain ⟨R', rv⟩ := R.newL hl (r.cut lo hi)
    exact q _ _ _ R' (Same.refl F) rv
  · cases ef
    have f := rx.tupF
    obtain ⟨p, vs, rfl, h, r⟩ := rx.tup R.sub
    refine .inr (.inl ⟨p, vs, rfl, h, fun hw => ?_, fun _ l hl => ?_⟩)
    · rw [whole_cut r hw] at q
      exact q _ H F R (Same.refl F) f
    · obtain ⟨R', sm, rv⟩ := R.newT hl (r.cut lo hi)
      exact q _ _ _ R' sm rv
  · split at ef
    · rename_i xt hl
      cases ef
      cases rx.str
      refine .inr (.inr ⟨_, rfl, by rw [tx_len]; exact lim_le hl, ?_⟩)
      have e2 : cutS (tx xt) lo hi = tx (Pi.cut xt lo hi) := by
        unfold cutS Pi.cut
        rw [tx_len]
        rfl
      rw [e2]
      exact q _ H F R (Same.refl F) (.str _)
    · cases ef
  · cases ef
/-! ### isinstance of data -/
/-- a class's built-in name -/
def clN : Cl → Option String
  | .int => some "int" | .bool => some "bool" | .str => some "str" | .list => some "list" | .tuple => some "tuple" | .dict => some "dict"
  | _ => none
def rIsi (K : PySem.W.Frag) (c : Cl) : List V → Hp → VK → Prop := fun xs H Q => ∃ (F : Hp) (n : String) (x : V) (d : D) (p : PyData), Same F H ∧ clN c = some n ∧ xs = [x, .ty n] ∧ Rt K F H x d ∧ d.pd = some p ∧ Q (.bl (isiD d c)) H
theorem call_isiD {X : Cx} (c : Cl) : CallR X (.builtin "isinstance") (rIsi X.K c) := by
  intro pins s σ H xs us Q I rx ⟨F, n, x, d, p, sm, hn, hx, rt, hp, q⟩
  subst hx
  cases rx with
  | cons r1 rr =>
    cases rr with
    | cons r2 r3 =>
      cases r3
      obtain rfl := r2
      obtain ⟨as, rd, _⟩ := reads_rt I sm hp rt r1
      have fin : ∀ b, b = isiD d c → ∀ tk, EP X pins σ Q (.bool b) { s with toks := tk } := fun b hb tk => ⟨.bl b, H, I.tok tk, rfl, by rw [hb]; exact q⟩
      have pdc : ∀ (f : PyData → Bool), (∀ b, f .none = isiD .non c ∧ f (.bool b) = isiD (.bl b) c) → (∀ i, f (.int i) = isiD (.int i) c) → (∀ x, f (.str (txS x)) = isiD (.str x) c) →
          (∀ xs ys, f (.list xs) = isiD (.lst ys) c) → (∀ xs ys, f (.tuple xs) = isiD (.tup ys) c) → (∀ xs ys, f (.dict xs) = isiD (.dic ys) c) → f p = isiD d c := by
        intro f h0 h1 h2 h3 h4 h5
        cases d <;> simp only [D.pd, Option.some.injEq, reduceCtorEq, Option.map_eq_some_iff] at hp
        · subst hp; exact (h0 true).1
        · subst hp; exact (h0 _).2
        · subst hp; exact h1 _
        · subst hp; exact h2 _
        · obtain ⟨_, _, rfl⟩ := hp; exact h3 _ _
        · obtain ⟨_, _, rfl⟩ := hp; exact h4 _ _
        · obtain ⟨_, _, rfl⟩ := hp; exact h5 _ _
      cases c <;> simp only [clN, reduceCtorEq, Option.some.injEq] at hn <;> subst hn
      · exact PySem.W.isinstance_int_data rd fun tk _ => fin _ (pdc _ (fun _ => ⟨rfl, rfl⟩) (fun _ => rfl) (fun _ => rfl) (fun _ _ => rfl) (fun _ _ => rfl) (fun _ _ => rfl)) tk
      · exact PySem.W.isinstance_bool_data rd fun tk _ => fin _ (pdc _ (fun _ => ⟨rfl, rfl⟩) (fun _ => rfl) (fun _ => rfl) (fun _ _ => rfl) (fun _ _ => rfl) (fun _ _ => rfl)) tk
      · exact PySem.W.isinstance_str_data rd fun tk _ => fin _ (pdc _ (fun _ => ⟨rfl, rfl⟩) (fun _ => rfl) (fun _ => rfl) (fun _ _ => rfl) (fun _ _ => rfl) (fun _ _ => rfl)) tk
      · exact PySem.W.isinstance_list_data rd fun tk _ => fin _ (pdc _ (fun _ => ⟨rfl, rfl⟩) (fun _ => rfl) (fun _ => rfl) (fun _ _ => rfl) (fun _ _ => rfl) (fun _ _ => rfl)) tk
      · exact PySem.W.isinstance_tuple_data rd fun tk _ => fin _ (pdc _ (fun _ => ⟨rfl, rfl⟩) (fun _ => rfl) (fun _ => rfl) (fun _ _ => rfl) (fun _ _ => rfl) (fun _ _ => rfl)) tk
      · exact PySem.W.isinstance_dict_data rd fun tk _ => fin _ (pdc _ (fun _ => ⟨rfl, rfl⟩) (fun _ => rfl) (fun _ => rfl) (fun _ _ => rfl) (fun _ _ => rfl) (fun _ _ => rfl)) tk
end Pi
set_option maxRecDepth 100000
set_option maxHeartbeats 3900000
namespace Pi
open PySem PySem.Spec L2 PyProof.Rows
/-! ### the text against the small form -/
structure Tb where
  cst : List Str
  fn : List Str
  pats : List (Nat × Nat × List Str × List Nat)
  xcl : List (Str × Cl)
  mks : List (Str × Tx)
  blt : List Str
  fld : List Str
  hot : List Nat
def visOk (sc : Scope) (x : Str) : Bool := (match sc.names.lookup x with | some .local => true | some .cell => true | some .free => true | _ => false) && !(x == ("__debug__" : Str)) && !(x == ("__classdict__" : Str))
def globOk (sc : Scope) (x : Str) : Bool := (match sc.names.lookup x with | some .globalImplicit => true | _ => false) && !(x == ("__debug__" : Str)) && decide (x ≠ "__name__")
def cstOk : Const → D → Bool
  | .none, .non => true
  | .bool a, .bl b => a == b
  | .int i, .int j => i == j
  | .str x, .str y => decide (x = txS y)
  | _, _ => false
def noStar : Expr → Bool
  | .Starred _ _ => false
  | _ => true
def noIf : Expr → Bool
  | .IfExp _ _ _ _ => false
  | _ => true
def noSlice : Expr → Bool
  | .Slice _ _ _ _ => false
  | _ => true
def noSup : Expr → Bool
  | .Call _ _ _ _ => false
  | _ => true
def noSet : Expr → Bool
  | .Set _ _ _ => false
  | _ => true
def biName : BI → Option (String × Bool)
  | .len => some ("len", false) | .max2 => some ("max", false) | .min2 => some ("min", false) | .abs => some ("abs", false) | .int => some ("int", true) | .divmod => some ("divmod", false)
  | .repr => some ("repr", false) | .tupS => some ("tuple", true) | .all => some ("all", false) | .any => some ("any", false) | .tuple => some ("tuple", true) | .list => some ("list", true)
  | _ => none
def mName : MI → Option String
  | .join => some "join" | .index => some "index"
  | _ => none
/-- built-ins that need no calm -/
def hotB : BI → Bool
  | .max2 => false | .min2 => false | .all => false | .any => false | .tupS => false
  | _ => true
def clV (K : PySem.W.Frag) : Cl → V
  | .own c => .ref (adr K c)
  | .ve => .ty "ValueError" | .le => .ty "LookupError" | .re => .ty "RuntimeError" | .ae => .ty "ArithmeticError"
  | _ => .non
def clU (K : PySem.W.Frag) : Cl → Value
  | .own c => .ref (adr K c)
  | .ve => .type "ValueError" | .le => .type "LookupError" | .re => .type "RuntimeError" | .ae => .type "ArithmeticError"
  | _ => .none
def xclOk (T : Tb) (sc : Scope) : List Cl → List Expr → Bool
  | [], [] => true
  | k :: ks, .Name x _ :: xs => decide ((x, k) ∈ T.xcl) && globOk sc x && xclOk T sc ks xs
  | _, _ => false
def kyOk : Ky → Expr → Bool
  | .inl i, .Constant (.int j) _ _ => i == j
  | .inr x, .Constant (.str y) _ _ => decide (y = txS x)
  | _, _ => false
def dicOk : List (Ky × D) → List (Option Expr) → List Expr → Bool
  | [], [], [] => true
  | [(k, d)], [some a], [.Constant c _ _] => kyOk k a && cstOk c d
  | _, _, _ => false
/-- a key or a value of a display: written, or with a minus ahead -/
def kyOk2 (k : Ky) (e : Expr) : Bool := kyOk k e || (match k, e with
  | .inl i, .UnaryOp .USub (.Constant (.int j) _ _) _ => i == -j
  | _, _ => false)
def cstOk2 (d : D) : Expr → Bool
  | .Constant c _ _ => cstOk c d
  | .UnaryOp .USub (.Constant (.int j) _ _) _ => (match d with | .int i => i == -j | _ => false)
  | _ => false
def dicsOk : List (Ky × D) → List (Option Expr) → List Expr → Bool
  | [], [], [] => true
  | (k, d) :: r, some a :: ks, v :: vs => kyOk2 k a && cstOk2 d v && dicsOk r ks vs
  | _, _, _ => false
def noComp : Expr → Bool
  | .ListComp _ _ _ _ => false
  | .SetComp _ _ _ _ => false
  | .DictComp _ _ _ _ _ => false
  | _ => true
/-- the names that a target of a comprehension binds -/
def tgOk (N : List Str) (sc : Scope) (fn : Str → Bool) (x : Str) (i : Nat) : Bool := decide (N[i]? = some x) && (match sc.names.lookup x with | some .local => true | some .cell => fn x | _ => false)
def tgsOk (N : List Str) (sc : Scope) (fn : Str → Bool) : List Nat → List Expr → Bool
  | [], [] => true
  | i :: is, .Name x _ :: xs => tgOk N sc fn x i && tgsOk N sc fn is xs
  | _, _ => false
def chkTg (N : List Str) (sc : Scope) (fn : Str → Bool) : Tg → Expr → Bool
  | .nm i, .Name x _ => tgOk N sc fn x i
  | .tp is, .Tuple es _ _ => tgsOk N sc fn is es
  | _, _ => false
def tgN : Tg → Expr → List (Str × Nat)
  | .nm i, .Name x _ => [(x, i)]
  | .tp is, .Tuple es _ _ => (es.map fun e => match e with | .Name x _ => x | _ => "").zip is
  | _, _ => []
def kwN : List Keyword → List Str
  | [] => []
  | k :: r => (k.arg.getD "") :: kwN r
def kwE : List Keyword → List Expr
  | [] => []
  | k :: r => k.value :: kwE r
def kwS : List Keyword → Bool
  | [] => true
  | k :: r => k.arg.isSome && kwS r
mutual
def chk (T : Tb) (cm : Bool) (N : List Str) (sc : Scope) : IE → Expr → Bool
  | .var i, .Name x _ => decide (N[i]? = some x) && visOk sc x
  | .cst d, .Constant k _ _ => cstOk k d
  | .gc k, .Name x _ => decide (T.cst[k]? = some x) && globOk sc x
  | .bin o a b, .BinOp l op r _ => decide (op = boS o) && chk T cm N sc a l && chk T cm N sc b r
  | .neg a, .UnaryOp op e _ => decide (op = .USub) && chk T cm N sc a e
  | .not a, .UnaryOp op e _ => decide (op = .Not) && noIf e && chk T cm N sc a e
  | .and a b, .BoolOp op (x :: y :: r) p => decide (op = .And) && noIf x && chk T cm N sc a x && (match r with | [] => noIf y && chk T cm N sc b y | _ => chk T cm N sc b (.BoolOp .And (y :: r) p))
  | .or a b, .BoolOp op (x :: y :: r) p => decide (op = .Or) && noIf x && chk T cm N sc a x && (match r with | [] => noIf y && chk T cm N sc b y | _ => chk T cm N sc b (.BoolOp .Or (y :: r) p))
  | .cmp o a b, .Compare l [op] [r] _ => decide (op = coS o) && noSet r && chk T cm N sc a l && chk T cm N sc b r
  | .chn o p a b c, .Compare l [op, op'] [m, r] _ => decide (op = coS o) && decide (op' = coS p) && noSet m && noSet r && chk T cm N sc a l && chk T cm N sc b m && chk T cm N sc c r
  | .ite t a b, .IfExp c x y _ => noIf c && chk T cm N sc t c && chk T cm N sc a x && chk T cm N sc b y
  | .lst es, .List xs _ => chkA T cm N sc es xs
  | .tup es, .Tuple xs _ _ => chkA T cm N sc es xs
  | .idx a i, .Subscript x y _ => noSlice y && chk T cm N sc a x && chk T cm N sc i y
  | .slc a lo hi, .Subscript x (.Slice l u none _) _ => chk T cm N sc a x && chkO T cm N sc lo l && chkO T cm N sc hi u
  | .call f ix es, .Call (.Name x _) as ks _ => (cm || decide (f ∈ T.hot)) && decide (T.fn[f]? = some x) && globOk sc x && decide ((f, as.length, kwN ks, ix) ∈ T.pats) && (match ks with | [] => chkA T cm N sc es as | _ => as.isEmpty && kwS ks && chkA T cm N sc es (kwE ks))
  | .bi b es, .Call (.Name x _) (a :: as) [] _ => (cm || hotB b) && (match biName b with | some (n, _) => decide (x = n) | none => false) && decide (x ∈ T.blt) && globOk sc x && chkA T cm N sc es (a :: as)
  | .mth m o (.cons e .nil), .Call (.Attribute x n ap) [y] [] p => (match mName m with | some k => decide (n = k) | none => false) && noSup x && noStar y && (ap.endLine == p.line) && chk T cm N sc o x && chk T cm N sc e y
  | .isi a c, .Call (.Name x _) [y, .Name t _] [] _ => decide (x = "isinstance") && decide (x ∈ T.blt) && globOk sc x && (match clN c with | some k => decide (t = k) | none => false) && decide (t ∈ T.blt) && globOk sc t && noStar y && chk T cm N sc a y
  | .isx a k, .Call (.Name x _) [y, .Name t _] [] _ => decide (x = "isinstance") && decide (x ∈ T.blt) && globOk sc x && decide ((t, k) ∈ T.xcl) && globOk sc t && noStar y && chk T cm N sc a y
  | .isxs a ks, .Call (.Name x _) [y, .Tuple ts _ _] [] _ => decide (x = "isinstance") && decide (x ∈ T.blt) && globOk sc x && xclOk T sc ks ts && decide (ks.length ≤ 100) && !ks.isEmpty && noStar y && chk T cm N sc a y
  | .attr o f, .Attribute e n _ => decide (n = txS f) && decide (n ∈ T.fld) && noSup e && chk T cm N sc o e
  | .dic kvs, .Dict ks vs _ => dicOk kvs ks vs
  | .dget kvs i, .Subscript (.Dict ks vs _) y _ => noSlice y && dicsOk kvs ks vs && decide ((kvs.map (·.1)).Nodup) && decide (kvs ≠ []) && decide (kvs.length ≤ 15) && chk T cm N sc i y
  | .lix o e, .Call (.Attribute x n ap) [y] [] p => decide (n = "index") && noSup x && noStar y && (ap.endLine == p.line) && chk T cm N sc o x && chk T cm N sc e y
  | .lcm e tg it cond, .ListComp el [⟨t, i, ifs, k⟩] scope _ => decide (k = 0) && cm && noSet i && chkI T cm N sc it t i && blkC N sc scope (tgN tg t) && decide ((tgN tg t).map (·.2) = tg.slots) && chkTg N (relS scope sc) (fun x => scope.names.lookup x == some .cell) tg t && chkC T cm N (relS scope sc) cond ifs && chk T cm N (relS scope sc) e el
  | _, _ => false
def chkC (T : Tb) (cm : Bool) (N : List Str) (sc : Scope) : IO → List Expr → Bool
  | .no, [] => true
  | .so a, [x] => noIf x && chk T cm N sc a x
  | _, _ => false
def chkI (T : Tb) (cm : Bool) (N : List Str) (sc : Scope) : IT → Expr → Expr → Bool
  | .seq e, _, x => chk T cm N sc e x
  | .rng es, _, .Call (.Name x _) as [] _ => decide (x = "range") && decide (x ∈ T.blt) && globOk sc x && decide (as.length = 1 ∨ as.length = 2) && chkA T cm N sc es as
  | .zip es, .Tuple _ _ _, .Call (.Name x _) as [] _ => decide (x = "zip") && decide (x ∈ T.blt) && globOk sc x && decide (as.length = 2) && chkA T cm N sc es as
  | _, _, _ => false
def chkA (T : Tb) (cm : Bool) (N : List Str) (sc : Scope) : IEs → List Expr → Bool
  | .nil, [] => true
  | .cons a r, x :: xs => noStar x && chk T cm N sc a x && chkA T cm N sc r xs
  | _, _ => false
def chkO (T : Tb) (cm : Bool) (N : List Str) (sc : Scope) : IO → Option Expr → Bool
  | .no, none => true
  | .so a, some x => chk T cm N sc a x
  | _, _ => false
end
/-! ### where a body stands -/
/-- how arguments come to parameters -/
def BindOk (K : PySem.W.Frag) (fd : FuncData) (ps : List Str) (dfs : List Value) (n : Nat) (ks : List Str) (ix : List Nat) : Prop :=
  ∀ (s : Shared) (us ws as : List Value), K.In s.heap → us.length = n → ws.length = ks.length → pick (us ++ ws ++ dfs) ix = some as → BindsTo s fd ⟨us, ks.zip ws⟩ (ps.zip as)
structure FnAt (P : Program) (w : World) (K : PySem.W.Frag) (mg : Str → Option Value) (base : Heap) (T : Tb) (p : Pg) (cn : Tx → Value) (n f : Nat) (x : Str) (a : Addr) (fd : FuncData) (ps : List Str) (dvs : List V) (dfs : List Value) : Prop where
  at_ : mg x = some (.ref a)
  kp : PySem.W.keepIn K (.ref a) = true
  df : ∀ F, RpA K F dvs (p.df f)
  dv : Vals dvs dfs
  ok : FnG P w K mg base true n a fd ps (spF K cn p n f)
  hot : f ∈ T.hot → FnG P w K mg base false n a fd ps (spF K cn p n f)
  bd : ∀ m ks ix, (f, m, ks, ix) ∈ T.pats → BindOk K fd ps dfs m ks ix
/-- what is known of a class of errors -/
structure XcOk (K : PySem.W.Frag) (c : Addr) (fld : List Str) : Prop extends L2.ExcC K c where
  ec : (PySem.W.clsIn K c).isSome = true
  fd : ∀ f ∈ fld, PySem.W.findIn K (.ref c) f = some none
structure Pf (P : Program) (w : World) (K : PySem.W.Frag) (mg : Str → Option Value) (base : Heap) (T : Tb) (p : Pg) (cn : Tx → Value) (n : Nat) : Prop where
  cst : ∀ (k : Nat) x, T.cst[k]? = some x → ∃ v u, mg x = some u ∧ RelV v u ∧ ∀ F, Rp K F v (p.cst.getD k .non)
  blt : ∀ x ∈ T.blt, mg x = none
  xcl : ∀ x k, (x, k) ∈ T.xcl → (∃ c, k = .own c ∧ mg x = some (.ref (adr K c))) ∨ (mg x = none ∧ ∃ t, clV K k = .ty t ∧ clU K k = .type t ∧ x = (t : Str) ∧ bootBuiltins x = some (.type t) ∧ x ≠ "__name__")
  cls : ∀ c k b, p.cl c k = some b → XcOk K (adr K c) T.fld ∧ PySem.W.kitOne K (.ref (adr K c)) (clU K k) = some b ∧ PySem.W.exmOne K (.ref (adr K c)) (clU K k) = some b
  cne : ∀ c, cn c = .ref (adr K c)
  fn : ∀ (f : Nat) x, T.fn[f]? = some x → ∃ a fd ps dvs dfs, FnAt P w K mg base T p cn n f x a fd ps dvs dfs
structure Gx (X : Cx) (T : Tb) (cm : Bool) (N : List Str) (sc : Scope) (p : Pg) (n : Nat) (g : Wi) : Prop where
  hN : X.N = N
  nd : X.N.Nodup
  hsc : X.env.scope = sc
  calm : cm = true → X.calm = true
  gd : X.A.guards = some []
  room : RoomC cm n X.A
  un : X.A.units + 65 < cLine
  tk : Takes X g.W
  pf : Pf X.prog X.w X.K X.mg X.base T p g.cn n
section
variable {X : Cx} {T : Tb} {cm : Bool} {N : List Str} {sc : Scope} {p : Pg} {n : Nat} {g : Wi}
theorem vis_of (G : Gx X T cm N sc p n g) {x : Str} (h : visOk sc x = true) : Vis X.env.scope x ∧ (x == ("__debug__" : Str)) = false ∧ (x == ("__classdict__" : Str)) = false := by
  unfold visOk at h
  simp only [Bool.not_eq_true', Bool.and_eq_true] at h
  obtain ⟨⟨h1, h2⟩, h3⟩ := h
  refine ⟨?_, h2, h3⟩
  rw [G.hsc]
  unfold Vis
  split at h1 <;> first | (rename_i q; simp [q]; done) | cases h1
theorem gl_of (G : Gx X T cm N sc p n g) {x : Str} (h : globOk sc x = true) : Gl X x ∧ (x == ("__debug__" : Str)) = false ∧ x ≠ "__name__" := by
  unfold globOk at h
  simp only [Bool.and_eq_true, Bool.not_eq_true', decide_eq_true_eq] at h
  obtain ⟨⟨h1, h2⟩, h3⟩ := h
  refine ⟨?_, h2, h3⟩
  show X.env.scope.names.lookup x = some .globalImplicit
  rw [G.hsc]
  split at h1
  · assumption
  · cases h1
theorem star1 {e : Expr} {es : List Expr} {env : Env} (h : noStar e = true) : starEach (e :: es) env = (false, eval e env) :: starEach es env := by
  cases e <;> first | rfl | cases h
theorem star_none {T : Tb} {cm : Bool} {N : List Str} {sc : Scope} {env : Env} {pos : Pos} : ∀ {es : IEs} {xs : List Expr}, chkA T cm N sc es xs = true → (backTo pos (starEach xs env)).any (·.1) = false
  | .nil, [], _ => rfl
  | .cons a r, [], h => by unfold chkA at h; cases h
  | .nil, x :: xs, h => by unfold chkA at h; cases h
  | .cons a r, x :: xs, h => by
    unfold chkA at h
    simp only [and_iff2] at h
    rw [star1 h.1.1]
    have ih := star_none (env := env) (pos := pos) h.2
    show (false || (backTo pos (starEach xs env)).any (·.1)) = false
    rw [ih]
    rfl
/-- a value as a test -/
theorem pt_plain {e : Expr} {t : TE} (h : PE X e t) (he : ∀ whole, isTrue e X.env whole = (do let v ← whole; standAt e.pos; holding [v] (truthy v))) : PT X e (L2.tB t) := pt_val h he
theorem test_of {w : Wd} {a : IE} {σ : Sg} {H : Hp} {Q : Bool → Hp → Prop} (h : tT X.K g w a σ H Q) : L2.tB (tE X.K g w a) σ H Q := by
  obtain ⟨e, s, F, R, h⟩ := h
  refine ⟨e, s, F, R, h.bind.imp fun er s1 F1 H1 R1 sm h1 v rv => ?_⟩
  cases q : er.rd s1 with
  | none =>
    simp only [q] at h1
    exact h1.elim
  | some d =>
    simp only [q] at h1
    have rt := R1.rd rv q
    cases d <;> first | exact h1.elim | skip
    rename_i b
    exact ⟨b, rt.bl, h1 H1 F1 R1 (Same.refl F1)⟩
end
end Pi
set_option maxRecDepth 100000
set_option maxHeartbeats 3900000
namespace Pi
open PySem PySem.Spec L2 PyProof.Rows
section
variable {X : Cx} {T : Tb} {cm : Bool} {N : List Str} {sc : Scope} {p : Pg} {n : Nat} {g : Wi}
/-! ### argument lists -/
theorem t_consF {a : IE} {r : IEs} {w : Wd} {σ : Sg} {H : Hp} {Q : List V → Hp → Prop} (h : tF X.K g w (.cons a r) σ H Q) : tCons (tE X.K g w a) (tF X.K g w r) σ H Q := by
  obtain ⟨e, s, F, R, h⟩ := h
  unfold evF at h
  refine ⟨e, s, F, R, h.bind.imp fun er s1 F1 H1 R1 sm h1 v rv => ?_⟩
  obtain ⟨F1', R1', smf, rv'⟩ := R1.hold rv
  cases q : er.fz s1 with
  | stuck => rw [q] at h1; exact h1.elim
  | exc c fs t => exact absurd q fz_noexc
  | ok d s2 =>
    rw [q] at h1
    have key : ∃ F2, Rl X.K e s2 σ F2 H1 ∧ Same F1 F2 ∧ Rp X.K F2 v d := by
      cases er with
      | fresh xs =>
        cases q
        exact ⟨F1', R1', smf, rv'⟩
      | val d => exact R1.fz1 rv rfl q
      | slot i => exact R1.fz1 rv rfl q
      | cell => exact R1.fz1 rv rfl q
    obtain ⟨F2, R2, sm2, rp⟩ := key
    have h2 : Po X.K g e σ F1 (fun ds _ F H => ∀ vs, RpA X.K F vs ds → Q vs H) ((evF w r s2).bind fun ds s => .ok (d :: ds) s) := h1
    refine ⟨e, s2, F2, R2, (h2.mono sm2).bind.imp fun ds s3 F3 H3 R3 sm3 h3 vs ra => ?_⟩
    exact h3 H3 F3 R3 (Same.refl F3) (v :: vs) (.cons (rp.mono sm3) ra)
theorem t_nilF {w : Wd} {σ : Sg} {H : Hp} {Q : List V → Hp → Prop} (h : tF X.K g w .nil σ H Q) : tNil σ H Q := by
  obtain ⟨e, s, F, R, h⟩ := h
  unfold evF at h
  exact h H F R (Same.refl F) [] .nil
theorem t_nilB {w : Wd} {σ : Sg} {H : Hp} {Q : List V → Hp → Prop} (h : tB X.K g w .nil σ H Q) : tNil σ H Q := by
  obtain ⟨e, s, F, R, h⟩ := h
  unfold evB at h
  exact h H F R (Same.refl F) [] .nil
theorem t_oneB {a : IE} {w : Wd} {σ : Sg} {H : Hp} {Q : List V → Hp → Prop} (h : tB X.K g w (.cons a .nil) σ H Q) : tCons (tE X.K g w a) tNil σ H Q := by
  obtain ⟨e, s, F, R, h⟩ := h
  unfold evB at h
  refine ⟨e, s, F, R, h.bind.imp fun er s1 F1 H1 R1 sm h1 v rv => ?_⟩
  unfold evB at h1
  exact h1 H1 F1 R1 (Same.refl F1) [v] (.cons rv .nil)
theorem t_consB {a b : IE} {r : IEs} {w : Wd} {σ : Sg} {H : Hp} {Q : List V → Hp → Prop} (h : tB X.K g w (.cons a (.cons b r)) σ H Q) : tCons (tE X.K g w a) (tB X.K g w (.cons b r)) σ H Q := by
  obtain ⟨e, s, F, R, h⟩ := h
  unfold evB at h
  refine ⟨e, s, F, R, h.bind.imp fun er s1 F1 H1 R1 sm h1 v rv => ?_⟩
  obtain ⟨F1', R1', smf, rv'⟩ := R1.hold rv
  refine ⟨e, s1, F1', R1', ?_⟩
  have h1 := (h1.mono smf).bind
  cases q : evB w (.cons b r) s1 with
  | stuck => rw [q] at h1; exact h1.elim
  | exc c fs t => rw [q] at h1; exact h1
  | ok ers s2 =>
    rw [q] at h1
    intro H2 F2 R2 sm2 vs ra
    have ne : ers ≠ [] := by
      unfold evB at q
      cases q1 : ev w b s1 with
      | stuck => rw [q1] at q; cases q
      | exc c fs t => rw [q1] at q; cases q
      | ok x s3 =>
        rw [q1] at q
        simp only [Rs.bind] at q
        cases q2 : evB w r s3 with
        | stuck => rw [q2] at q; cases q
        | exc c fs t => rw [q2] at q; cases q
        | ok xs s4 =>
          rw [q2] at q
          cases q
          simp
    have e1 : holdL er ers = er.hold := by
      cases ers with
      | nil => exact absurd rfl ne
      | cons y ys => rfl
    have h2 : Po X.K g e σ F2 (fun ers s F H => ∀ vs, RvA X.K e s σ F H vs ers → Q vs H) (Rs.ok (holdL er ers :: ers) s2) := h1 H2 F2 R2 sm2
    rw [e1] at h2
    exact h2 H2 F2 R2 (Same.refl F2) (v :: vs) (.cons (rv'.stay sm2) ra)
/-! ### the expressions -/
/-- what is shown of each -/
def Ok (X : Cx) (g : Wi) (w : Wd) (a : IE) (e : Expr) : Prop := PE X e (tE X.K g w a) ∧ (noIf e = true → PT X e (tT X.K g w a))
theorem ok_plain {w : Wd} {a : IE} {e : Expr} (h : PE X e (tE X.K g w a)) (he : ∀ whole, isTrue e X.env whole = (do let v ← whole; standAt e.pos; holding [v] (truthy v))) : Ok X g w a e :=
  ⟨h, fun _ => (pt_val h he).imp fun _ _ _ q => test_of q⟩
theorem t_test_of {w : Wd} {a : IE} {t : TE} {σ : Sg} {H : Hp} {Q : Bool → Hp → Prop} (i : ∀ σ H Q, tE X.K g w a σ H Q → t σ H Q) (h : tT X.K g w a σ H Q) : tTest t σ H Q := by
  have z := test_of h
  exact i σ H _ z
theorem vo_bool {e : En} {σ : Sg} {Q : VK} {t : Bool} {s : Fr} {F H : Hp} (h : Po X.K g e σ F (Vo X.K e σ Q) (.ok (.val (.bl t)) s)) (R : Rl X.K e s σ F H) : Q (.bl t) H := h H F R (Same.refl F) _ (.bl t)
theorem ok_and {w : Wd} {a b : IE} {x y : Expr} {pos : Pos} {r : List Expr} (nx : noIf x = true) (ha : Ok X g w a x) (hb : PE X (.BoolOp .And (y :: r) pos) (tE X.K g w b) ∧ PW X (.BoolOp .And (y :: r) pos) (tT X.K g w b)) :
    Ok X g w (.and a b) (.BoolOp .And (x :: y :: r) pos) ∧ PW X (.BoolOp .And (x :: y :: r) pos) (tT X.K g w (.and a b)) := by
  have pw : PW X (.BoolOp .And (x :: y :: r) pos) (tT X.K g w (.and a b)) := by
    have z := pw_and (ha.2 nx) hb.2
    refine ⟨fun wh pins s σ H Q I h => z.run wh pins s σ H Q I ?_⟩
    obtain ⟨e, fr, F, R, h⟩ := h
    unfold ev at h
    have h1 : Po X.K g e σ F (fun b _ _ H => Q b H) ((tst (ev w a fr)).bind fun t s => if t then (tst (ev w b s)).bind fun t s => .ok t s else .ok false s) := by
      unfold tst at h ⊢
      cases q : ev w a fr with
      | stuck => rw [q] at h; exact h
      | exc c fs t => rw [q] at h; exact h
      | ok er s1 =>
        rw [q] at h
        simp only [Rs.bind] at h ⊢
        cases q2 : er.rd s1 with
        | none => simp only [q2] at h; exact h.elim
        | some d =>
          simp only [q2] at h ⊢
          cases q3 : truth d with
          | none => rw [q3] at h; exact h.elim
          | some t =>
            rw [q3] at h
            simp only [Rs.of] at h ⊢
            cases t with
            | false => exact h
            | true =>
              simp only [if_true] at h ⊢
              cases q4 : ev w b s1 with
              | stuck => rw [q4] at h; exact h
              | exc c fs t => rw [q4] at h; exact h
              | ok er2 s2 =>
                rw [q4] at h
                simp only [Rs.bind] at h ⊢
                cases q5 : er2.rd s2 with
                | none => simp only [q5] at h; exact h.elim
                | some d2 =>
                  simp only [q5] at h ⊢
                  cases q6 : truth d2 with
                  | none => rw [q6] at h; exact h.elim
                  | some t2 => rw [q6] at h; exact h
    refine ⟨e, fr, F, R, h1.bind.imp fun t s1 F1 H1 R1 sm h2 => ?_⟩
    cases t with
    | false => exact h2 H1 F1 R1 (Same.refl F1)
    | true =>
      refine ⟨e, s1, F1, R1, ?_⟩
      simp only [if_true] at h2
      exact h2.bind.imp fun t s2 F2 H2 R2 sm2 h3 => h3 H2 F2 R2 (Same.refl F2)
  refine ⟨⟨?_, fun _ => pw.pt⟩, pw⟩
  refine (pe_and ha.1 hb.1).imp fun σ H Q h => ?_
  obtain ⟨e, fr, F, R, h⟩ := h
  unfold ev at h
  have z : tT X.K g w a σ H (fun t H1 => if t = true then tE X.K g w b σ H1 Q else Q (.bl false) H1) := by
    refine ⟨e, fr, F, R, h.bind.imp fun t s1 F1 H1 R1 sm h1 => ?_⟩
    cases t with
    | false => exact vo_bool h1 R1
    | true =>
      simp only [if_true] at h1 ⊢
      refine ⟨e, s1, F1, R1, ?_⟩
      unfold tst at h1
      cases q : ev w b s1 with
      | stuck => rw [q] at h1; exact h1
      | exc c fs t => rw [q] at h1; exact h1
      | ok er2 s2 =>
        rw [q] at h1
        simp only [Rs.bind] at h1
        intro H2 F2 R2 sm2 v rv
        cases q5 : er2.rd s2 with
        | none => simp only [q5] at h1; exact h1.elim
        | some d2 =>
          simp only [q5] at h1
          cases q6 : truth d2 with
          | none => rw [q6] at h1; exact h1.elim
          | some t2 =>
            rw [q6] at h1
            have rt := R2.rd rv q5
            cases d2 <;> simp only [truth, reduceCtorEq, Option.some.injEq] at q6
            subst q6
            cases rt.bl
            exact h1 H2 F2 R2 sm2 _ (.bl _)
  exact test_of z
theorem ok_or {w : Wd} {a b : IE} {x y : Expr} {pos : Pos} {r : List Expr} (nx : noIf x = true) (ha : Ok X g w a x) (hb : PE X (.BoolOp .Or (y :: r) pos) (tE X.K g w b) ∧ PW X (.BoolOp .Or (y :: r) pos) (tT X.K g w b)) :
    Ok X g w (.or a b) (.BoolOp .Or (x :: y :: r) pos) ∧ PW X (.BoolOp .Or (x :: y :: r) pos) (tT X.K g w (.or a b)) := by
  have pw : PW X (.BoolOp .Or (x :: y :: r) pos) (tT X.K g w (.or a b)) := by
    have z := pw_or (ha.2 nx) hb.2
    refine ⟨fun wh pins s σ H Q I h => z.run wh pins s σ H Q I ?_⟩
    obtain ⟨e, fr, F, R, h⟩ := h
    unfold ev at h
    have h1 : Po X.K g e σ F (fun b _ _ H => Q b H) ((tst (ev w a fr)).bind fun t s => if t then .ok true s else (tst (ev w b s)).bind fun t s => .ok t s) := by
      unfold tst at h ⊢
      cases q : ev w a fr with
      | stuck => rw [q] at h; exact h
      | exc c fs t => rw [q] at h; exact h
      | ok er s1 =>
        rw [q] at h
        simp only [Rs.bind] at h ⊢
        cases q2 : er.rd s1 with
        | none => simp only [q2] at h; exact h.elim
        | some d =>
          simp only [q2] at h ⊢
          cases q3 : truth d with
          | none => rw [q3] at h; exact h.elim
          | some t =>
            rw [q3] at h
            simp only [Rs.of] at h ⊢
            cases t with
            | true => exact h
            | false =>
              simp only [Bool.false_eq_true, if_false] at h ⊢
              cases q4 : ev w b s1 with
              | stuck => rw [q4] at h; exact h
              | exc c fs t => rw [q4] at h; exact h
              | ok er2 s2 =>
                rw [q4] at h
                simp only [Rs.bind] at h ⊢
                cases q5 : er2.rd s2 with
                | none => simp only [q5] at h; exact h.elim
                | some d2 =>
                  simp only [q5] at h ⊢
                  cases q6 : truth d2 with
                  | none => rw [q6] at h; exact h.elim
                  | some t2 => rw [q6] at h; exact h
    refine ⟨e, fr, F, R, h1.bind.imp fun t s1 F1 H1 R1 sm h2 => ?_⟩
    cases t with
    | true => exact h2 H1 F1 R1 (Same.refl F1)
    | false =>
      refine ⟨e, s1, F1, R1, ?_⟩
      simp only [Bool.false_eq_true, if_false] at h2
      exact h2.bind.imp fun t s2 F2 H2 R2 sm2 h3 => h3 H2 F2 R2 (Same.refl F2)
  refine ⟨⟨?_, fun _ => pw.pt⟩, pw⟩
  refine (pe_or ha.1 hb.1).imp fun σ H Q h => ?_
  obtain ⟨e, fr, F, R, h⟩ := h
  unfold ev at h
  have z : tT X.K g w a σ H (fun t H1 => if t = true then Q (.bl true) H1 else tE X.K g w b σ H1 Q) := by
    refine ⟨e, fr, F, R, h.bind.imp fun t s1 F1 H1 R1 sm h1 => ?_⟩
    cases t with
    | true => exact vo_bool h1 R1
    | false =>
      simp only [Bool.false_eq_true, if_false] at h1 ⊢
      refine ⟨e, s1, F1, R1, ?_⟩
      unfold tst at h1
      cases q : ev w b s1 with
      | stuck => rw [q] at h1; exact h1
      | exc c fs t => rw [q] at h1; exact h1
      | ok er2 s2 =>
        rw [q] at h1
        simp only [Rs.bind] at h1
        intro H2 F2 R2 sm2 v rv
        cases q5 : er2.rd s2 with
        | none => simp only [q5] at h1; exact h1.elim
        | some d2 =>
          simp only [q5] at h1
          cases q6 : truth d2 with
          | none => rw [q6] at h1; exact h1.elim
          | some t2 =>
            rw [q6] at h1
            have rt := R2.rd rv q5
            cases d2 <;> simp only [truth, reduceCtorEq, Option.some.injEq] at q6
            subst q6
            cases rt.bl
            exact h1 H2 F2 R2 sm2 _ (.bl _)
  exact test_of z
theorem pt_pw {op : PySem.BoolOp} {es : List Expr} {pos : Pos} {t : TT} (h : PT X (.BoolOp op es pos) t) : PW X (.BoolOp op es pos) t := ⟨fun _ pins s σ H Q I q => h.run pins s σ H Q I q⟩
theorem t_idx {w : Wd} {a i : IE} {σ : Sg} {H : Hp} {Q : VK} (h : tE X.K g w (.idx a i) σ H Q) : tOp (rD X.K fun a i => (atS a i).map .val) (tE X.K g w a) (tE X.K g w i) σ H Q := by
  obtain ⟨e, s, F, R, h⟩ := h
  unfold ev at h
  exact t_two R h
theorem t_bi {w : Wd} {b : BI} {es : IEs} {σ : Sg} {H : Hp} {Q : VK} (h : tE X.K g w (.bi b es) σ H Q) : tCB (rDs X.K (biR b)) (tB X.K g w es) σ H Q := by
  obtain ⟨e, s, F, R, h⟩ := h
  unfold ev at h
  refine ⟨e, s, F, R, h.bind.imp fun ers s1 F1 H1 R1 sm h1 vs ra => ?_⟩
  cases q : rdAll s1 ers with
  | none => simp only [q] at h1; exact h1.elim
  | some ds =>
    simp only [q] at h1
    cases q2 : biR b ds with
    | none => rw [q2] at h1; exact h1.elim
    | some er =>
      rw [q2] at h1
      refine ⟨e, s1, σ, F1, ds, er, R1, ?_, q2, fun v H' F' R' sm' rv => h1 H' F' R' sm' v rv⟩
      clear q2 h1 h
      induction ers generalizing vs ds with
      | nil =>
        unfold rdAll at q
        cases q
        cases ra.nil_inv
        exact ⟨rfl, fun i v d a => by simp at a⟩
      | cons x r ih =>
        unfold rdAll at q
        cases q1 : x.rd s1 with
        | none => simp only [q1] at q; cases q
        | some d =>
          cases q2 : rdAll s1 r with
          | none => simp only [q1, q2] at q; cases q
          | some ds' =>
            simp only [q1, q2] at q
            cases q
            obtain ⟨v, ws, rfl, rv, ra'⟩ := ra.inv
            have z := ih ws ra' ds' q2
            refine ⟨by simp [z.1], fun i w d' a b => ?_⟩
            cases i with
            | zero =>
              simp only [List.getElem?_cons_zero, Option.some.injEq] at a b
              subst a; subst b
              exact R1.rd rv q1
            | succ i => exact z.2 i w d' (by simpa using a) (by simpa using b)
theorem t_mth {w : Wd} {m : MI} {o a : IE} {σ : Sg} {H : Hp} {Q : VK} (h : tE X.K g w (.mth m o (.cons a .nil)) σ H Q) : tM1 (rDm X.K (mthR m)) (tE X.K g w o) (tE X.K g w a) σ H Q := by
  obtain ⟨e, s, F, R, h⟩ := h
  unfold ev at h
  refine ⟨e, s, F, R, h.bind.imp fun er s1 F1 H1 R1 sm h1 v rv => ?_⟩
  split at h1
  · rename_i t
    cases rv
    refine ⟨⟨_, rfl⟩, ?_⟩
    unfold evB at h1
    have h2 : Po X.K g e σ F1 (Vo X.K e σ Q) ((ev w a s1).bind fun x s => match x.rd s with | some d => Rs.of (mthR m t [d]) s | none => .stuck) := by
      cases q : ev w a s1 with
      | stuck => rw [q] at h1; exact h1
      | exc c fs t => rw [q] at h1; exact h1
      | ok x s2 =>
        rw [q] at h1
        unfold evB at h1
        simp only [Rs.bind, holdL, rdAll] at h1 ⊢
        cases q2 : x.rd s2 with
        | none => simp only [q2] at h1; exact h1.elim
        | some d => simp only [q2] at h1 ⊢; exact h1
    refine ⟨e, s1, F1, R1, h2.bind.imp fun er2 s2 F2 H2 R2 sm2 h3 v2 rv2 => ?_⟩
    cases q2 : er2.rd s2 with
    | none => simp only [q2] at h3; exact h3.elim
    | some d =>
      simp only [q2] at h3
      cases q3 : mthR m t [d] with
      | none => rw [q3] at h3; exact h3.elim
      | some er =>
        rw [q3] at h3
        refine ⟨e, s2, σ, F2, t, [d], er, R2, rfl, ⟨rfl, fun i v' d' a b => ?_⟩, q3, fun v H' F' R' sm' rv => h3 H' F' R' sm' v rv⟩
        cases i with
        | zero =>
          simp only [List.getElem?_cons_zero, Option.some.injEq] at a b
          subst a; subst b
          exact R2.rd rv2 q2
        | succ i => simp at a
  · exact h1.elim
theorem t_isi {w : Wd} {a : IE} {c : Cl} {k : String} (hk : clN c = some k) {σ : Sg} {H : Hp} {Q : VK} (h : tE X.K g w (.isi a c) σ H Q) : tCB (rIsi X.K c) (tCons (tE X.K g w a) (tCons (tC (.ty k)) tNil)) σ H Q := by
  obtain ⟨e, s, F, R, h⟩ := h
  unfold ev at h
  refine ⟨e, s, F, R, h.bind.imp fun er s1 F1 H1 R1 sm h1 v rv => ?_⟩
  cases q : er.rd s1 with
  | none => simp only [q] at h1; exact h1.elim
  | some d =>
    simp only [q] at h1
    split at h1
    · rename_i hp
      obtain ⟨pd, hpd⟩ := Option.isSome_iff_exists.mp hp
      exact ⟨F1, k, v, d, pd, R1.sub, hk, rfl, R1.rd rv q, hpd, vo_bool h1 R1⟩
    · exact h1.elim
/-! ### the theorem -/
def noTest : Expr → Bool
  | .BoolOp _ _ _ => false
  | .UnaryOp _ _ _ => false
  | .Compare _ _ _ _ => false
  | .IfExp _ _ _ _ => false
  | _ => true
theorem plain_true {e : Expr} {env : Env} (h1 : noTest e = true) :
    ∀ whole, isTrue e env whole = (do let v ← whole; standAt e.pos; holding [v] (truthy v)) := by
  intro whole
  cases e <;> first | rfl | cases h1
theorem mem_blt (G : Gx X T cm N sc p n g) {x : Str} (h : x ∈ T.blt) : X.mg x = none := G.pf.blt x h
theorem kwN_len : ∀ ks : List Keyword, (kwN ks).length = ks.length
  | [] => rfl
  | _ :: r => by simp [kwN, kwN_len r]
theorem kw_all {env : Env} {pos : Pos} : ∀ {ks : List Keyword}, kwS ks = true → (backToKw pos (keywordEach ks env)).all (·.1.isSome) = true ∧ (backToKw pos (keywordEach ks env)).filterMap (·.1) = kwN ks ∧ (backToKw pos (keywordEach ks env)).any (·.1.isNone) = false
  | [], _ => ⟨rfl, rfl, rfl⟩
  | ⟨a, v, q⟩ :: r, h => by
    unfold kwS at h
    rw [Bool.and_eq_true] at h
    obtain ⟨x, hx⟩ := Option.isSome_iff_exists.mp h.1
    have hx : a = some x := hx
    subst hx
    obtain ⟨h1, h2, h3⟩ := kw_all (env := env) (pos := pos) h.2
    refine ⟨?_, ?_, ?_⟩
    · show (true && (backToKw pos (keywordEach r env)).all (·.1.isSome)) = true
      rw [h1]; rfl
    · show x :: (backToKw pos (keywordEach r env)).filterMap (·.1) = x :: kwN r
      rw [h2]
    · show (false || (backToKw pos (keywordEach r env)).any (·.1.isNone)) = false
      rw [h3]; rfl
/-- a call by positions or by names alone -/
theorem ok_call (G : Gx X T cm N sc p n g) {f : Nat} (hcm : (cm || decide (f ∈ T.hot)) = true) {ix : List Nat} {es : IEs} {x : Str} {q pos : Pos} {as : List Expr} {ks : List Keyword} (hx : T.fn[f]? = some x) (hg : globOk sc x = true) (hp : (f, as.length, kwN ks, ix) ∈ T.pats)
    (ha : (ks = [] ∧ as.length = es.len ∧ ((as = [] ∧ es = .nil) ∨ ∃ a r, as = a :: r ∧ PA X as (tB X.K g (p.wd n) es) ∧ noStar a = true ∧ (backTo pos (starEach r X.env)).any (·.1) = false)) ∨ (as = [] ∧ ks.length = es.len ∧ kwS ks = true ∧ PK X ks (tB X.K g (p.wd n) es))) : PE X (.Call (.Name x q) as ks pos) (tE X.K g (p.wd n) (.call f ix es)) := by
  obtain ⟨a, fd, ps, dvs, dfs, A⟩ := G.pf.fn f x hx
  obtain ⟨gl, gd, _⟩ := gl_of G hg
  refine PE.imp (t := tCal es.len (spF X.K g.cn p n f) g.W ix dvs (tB X.K g (p.wd n) es)) ⟨fun pins s σ H Q I h => ?_⟩ fun σ H Q h => t_call A.df h
  refine wpAny_Call_Name_kw (ld_glob I gl A.at_ ?_ gd)
  -- the callee runs
  have go : ∀ (us ws : List Value) (vs : List V) (s1 : Shared) (H1 : Hp), Inv X pins σ H1 s1 → us.length = as.length → ws.length = (kwN ks).length → Vals vs (us ++ ws) → (∃ as', pick (vs ++ dvs) ix = some as' ∧ spF X.K g.cn p n f as' H1 Q (WE g.W σ)) →
      wpAny (model X.prog X.w) X.A (call (.ref a) us ((kwN ks).zip ws)) (EP X pins σ Q) X.xe s1 := by
    intro us ws vs s1 H1 I1 l1 l2 r ⟨as', pk, hs⟩
    obtain ⟨xs, pk2, r2⟩ := pick_vals (r.append A.dv) pk
    have b := A.bd _ _ _ hp s1 us ws xs I1.kIn l1 l2 pk2
    have run : codeAny (model X.prog X.w) X.A (.call (.ref a) ⟨us, (kwN ks).zip ws⟩) (L2.CR (L2.CX X.prog X.w) X.stack X.prog X.w H1 s1 Q (WE g.W σ)) s1 := by
      rcases Bool.or_eq_true_iff.mp hcm with z | z
      · exact A.ok.run X.A X.stack s1 H1 _ xs as' Q (WE g.W σ) G.gd (z ▸ G.room) I1.env0 b r2 hs
      · exact (A.hot (of_decide_eq_true z)).run X.A X.stack s1 H1 _ xs as' Q (WE g.W σ) G.gd G.room.hot I1.env0 b r2 hs
    refine wpAny_call (codeAny_mono run fun rr s' hq => ?_)
    cases rr with
    | error er => exact passAt G.tk σ pins H1 s1 er s' I1 hq
    | ok fl =>
      cases fl with
      | ret u => exact I1.after hq
      | next => exact hq.elim
      | brk => exact hq.elim
      | cont => exact hq.elim
  rcases ha with ⟨rfl, hl, h0⟩ | ⟨rfl, hl, hks, pk⟩
  · rcases h0 with ⟨rfl, rfl⟩ | ⟨a0, r, rfl, pa, ns, nr⟩
    · have z := t_nilB h
      exact PySem.W.callWith_K0 I.kIn A.kp (go [] [] [] s H I rfl rfl .nil z.2)
    · refine PySem.W.callWith_K (h₀ := X.base) I.ok.mod.kin A.kp (thn (pa.run pos pins s σ H _ I h) fun us s1 ⟨vs, H1, I1, rv, lv, hq⟩ => ⟨I1.kIn, ?_⟩) (star1 ns) nr
      exact go us [] vs s1 H1 I1 (by rw [← rv.length, lv, hl]) rfl (by rw [List.append_nil]; exact rv) hq
  · obtain ⟨k1, k2, k3⟩ := kw_all (env := X.env) (pos := pos) hks
    refine PySem.W.callWith_KW0 (h₀ := X.base) I.ok.mod.kin A.kp k1 (thn (pk.run pos pins s σ H _ I h) fun ws s1 ⟨vs, H1, I1, rv, lv, hq⟩ => ⟨I1.kIn, ?_⟩) (by rw [k3]; rfl)
    rw [k2]
    exact go [] ws vs s1 H1 I1 rfl (by rw [← rv.length, lv, kwN_len, hl]) rv hq
end
end Pi
set_option maxRecDepth 100000
set_option maxHeartbeats 3900000
namespace Pi
open PySem PySem.Spec L2 PyProof.Rows
section
variable {X : Cx} {T : Tb} {cm : Bool} {N : List Str} {sc : Scope} {p : Pg} {n : Nat} {g : Wi}
theorem bi_rule (G : Gx X T cm N sc p n g) (b : BI) (k : String) (hh : (cm || hotB b) = true) (h : biName b = some (k, false)) : CallR X (.builtin k) (rDs X.K (biR b)) ∧ bootBuiltins k = some (.builtin k) := by
  cases b <;> simp only [biName, Option.some.injEq, Prod.mk.injEq, reduceCtorEq, Bool.true_eq_false, and_false, and_true] at h <;> subst h
  · exact ⟨bi_len, by decide +kernel⟩
  · exact ⟨bi_max (G.calm (by simpa [hotB] using hh)), by decide +kernel⟩
  · exact ⟨bi_min (G.calm (by simpa [hotB] using hh)), by decide +kernel⟩
  · exact ⟨bi_abs, by decide +kernel⟩
  · exact ⟨bi_divmod, by decide +kernel⟩
  · exact ⟨bi_repr G.gd (by have := G.un; omega), by decide +kernel⟩
  · exact ⟨bi_all (G.calm (by simpa [hotB] using hh)), by decide +kernel⟩
  · exact ⟨bi_any (G.calm (by simpa [hotB] using hh)), by decide +kernel⟩
theorem bi_ruleT (G : Gx X T cm N sc p n g) (b : BI) (k : String) (hh : (cm || hotB b) = true) (h : biName b = some (k, true)) : CallR X (.type k) (rDs X.K (biR b)) ∧ bootBuiltins k = some (.type k) := by
  cases b <;> simp only [biName, Option.some.injEq, Prod.mk.injEq, reduceCtorEq, Bool.false_eq_true, and_false, and_true] at h <;> subst h
  · exact ⟨bi_int, by decide +kernel⟩
  · exact ⟨bi_tuple, by decide +kernel⟩
  · exact ⟨bi_list, by decide +kernel⟩
  · exact ⟨bi_tupS (G.calm (by simpa [hotB] using hh)), by decide +kernel⟩
theorem cl_boot (c : Cl) (k : String) (h : clN c = some k) : bootBuiltins k = some (.type k) := by
  cases c <;> simp only [clN, Option.some.injEq, reduceCtorEq] at h <;> subst h <;> decide +kernel
theorem cst_ok {c : Const} {d : D} {j : Nat} {pos : Pos} {w : Wd} (h : cstOk c d = true) : PE X (.Constant c j pos) (tE X.K g w (.cst d)) := by
  have key : ∀ (v : V), PE X (.Constant c j pos) (tC v) → (∀ F, Rp X.K F v d) → PE X (.Constant c j pos) (tE X.K g w (.cst d)) := fun v hp hr => hp.imp fun σ H Q ⟨e, s, F, R, h⟩ => h H F R (Same.refl F) v (hr F)
  cases c <;> cases d <;> simp only [cstOk, Bool.false_eq_true] at h
  · exact key _ pe_non fun F => .non
  · rename_i a b
    have e : a = b := by simpa using h
    subst e
    exact key _ pe_bl fun F => .bl _
  · rename_i a b
    have e : a = b := by simpa using h
    subst e
    exact key _ pe_int fun F => .int _
  · rename_i a b
    have e := of_decide_eq_true h
    subst e
    exact key _ pe_str fun F => .str _
theorem slice_ix {e : Expr} (h : noSlice e = true) : PlainIx e := by
  intro o i
  cases e <;> first | rfl | cases h
theorem chkA_len {T : Tb} {cm : Bool} {N : List Str} {sc : Scope} : ∀ {es : IEs} {xs : List Expr}, chkA T cm N sc es xs = true → xs.length = es.len
  | .nil, [], _ => rfl
  | .cons a r, [], h => by unfold chkA at h; cases h
  | .nil, x :: xs, h => by unfold chkA at h; cases h
  | .cons a r, x :: xs, h => by
    unfold chkA at h
    simp only [and_iff2] at h
    simp [IEs.len, chkA_len h.2]
theorem kwE_len : ∀ ks : List Keyword, (kwE ks).length = ks.length
  | [] => rfl
  | _ :: r => by simp [kwE, kwE_len r]
theorem base_of {e : Expr} {nm : Str} {env : Env} {wh : Sem Value} (h : noSup e = true) : attributeBase e nm env wh = wh := by
  cases e <;> first | rfl | cases h
/-- list items, tuple items -/
theorem t_lst {w : Wd} {es : IEs} {σ : Sg} {H : Hp} {Q : VK} (h : tE X.K g w (.lst es) σ H Q) : tLst (tF X.K g w es) σ H Q := by
  obtain ⟨e, s, F, R, h⟩ := h
  unfold ev at h
  refine ⟨e, s, F, R, h.bind.imp fun ds s1 F1 H1 R1 sm h1 vs ra => ?_⟩
  split at h1
  · rename_i hl
    refine ⟨by rw [ra.1]; exact lim_le hl, fun q hq => ?_⟩
    obtain ⟨R2, rv⟩ := R1.newL hq ra
    exact h1 _ _ R2 (Same.refl F1) _ rv
  · exact h1.elim
theorem t_tup {w : Wd} {es : IEs} {σ : Sg} {H : Hp} {Q : VK} (h : tE X.K g w (.tup es) σ H Q) : tTup (tF X.K g w es) σ H Q := by
  obtain ⟨e, s, F, R, h⟩ := h
  unfold ev at h
  refine ⟨e, s, F, R, h.bind.imp fun ds s1 F1 H1 R1 sm h1 vs ra => ?_⟩
  split at h1
  · rename_i hl
    refine ⟨by rw [ra.1]; exact lim_le hl, fun q hq => ?_⟩
    obtain ⟨R2, sm2, rv⟩ := R1.newT hq ra
    exact h1 _ _ R2 sm2 _ rv
  · exact h1.elim
theorem t_ite {w : Wd} {t a b : IE} {σ : Sg} {H : Hp} {Q : VK} (h : tE X.K g w (.ite t a b) σ H Q) : tIf (tT X.K g w t) (tE X.K g w a) (tE X.K g w b) σ H Q := by
  obtain ⟨e, s, F, R, h⟩ := h
  unfold ev at h
  refine ⟨e, s, F, R, h.bind.imp fun c s1 F1 H1 R1 sm h1 => ?_⟩
  cases c with
  | true =>
    simp only [if_true] at h1 ⊢
    exact ⟨e, s1, F1, R1, h1⟩
  | false =>
    simp only [Bool.false_eq_true, if_false] at h1 ⊢
    exact ⟨e, s1, F1, R1, h1⟩
theorem t_not {w : Wd} {a : IE} {σ : Sg} {H : Hp} {Q : VK} (h : tE X.K g w (.not a) σ H Q) : tNotV (tE X.K g w a) σ H Q := by
  obtain ⟨e, s, F, R, h⟩ := h
  unfold ev at h
  refine test_of (Q := fun c H1 => Q (.bl (!c)) H1) ⟨e, s, F, R, h.bind.imp fun c s1 F1 H1 R1 sm h1 => vo_bool h1 R1⟩
theorem t_notT {w : Wd} {a : IE} {σ : Sg} {H : Hp} {Q : Bool → Hp → Prop} (h : tT X.K g w (.not a) σ H Q) : tNot (tT X.K g w a) σ H Q := by
  obtain ⟨e, s, F, R, h⟩ := h
  unfold ev at h
  refine ⟨e, s, F, R, ?_⟩
  have h : Po X.K g e σ F (fun b _ _ H => Q b H) (tst ((tst (ev w a s)).bind fun b s => .ok (.val (.bl (!b))) s)) := h
  cases q : tst (ev w a s) with
  | stuck => rw [q] at h; exact h
  | exc c fs t => rw [q] at h; exact h
  | ok b s1 => rw [q] at h; exact h
theorem t_neg {w : Wd} {a : IE} {σ : Sg} {H : Hp} {Q : VK} (h : tE X.K g w (.neg a) σ H Q) : tUn (rU fun i => .int (-i)) (tE X.K g w a) σ H Q := by
  obtain ⟨e, s, F, R, h⟩ := h
  unfold ev at h
  refine ⟨e, s, F, R, h.bind.imp fun er s1 F1 H1 R1 sm h1 v rv => ?_⟩
  cases q : er.rd s1 with
  | none => simp only [q] at h1; exact h1.elim
  | some d =>
    simp only [q] at h1
    cases d <;> first | exact h1.elim | skip
    rename_i i
    exact ⟨i, (R1.rd rv q).int, h1 H1 F1 R1 (Same.refl F1) _ (.int _)⟩
theorem t_chn {w : Wd} {o o' : COp} {a b c : IE} {σ : Sg} {H : Hp} {Q : VK} (h : tE X.K g w (.chn o o' a b c) σ H Q) : tChain (rD X.K (cB o)) (rD X.K (cB o')) (tE X.K g w a) (tE X.K g w b) (tE X.K g w c) σ H Q := by
  obtain ⟨e, s, F, R, h⟩ := h
  unfold ev at h
  refine ⟨e, s, F, R, h.bind.imp fun er s1 F1 H1 R1 sm h1 v rv => ?_⟩
  obtain ⟨F1', R1', smf, rv'⟩ := R1.hold rv
  refine ⟨e, s1, F1', R1', (h1.mono smf).bind.imp fun er2 s2 F2 H2 R2 sm2 h2 v2 rv2 => ?_⟩
  obtain ⟨F2', R2', smf2, rv2'⟩ := R2.hold rv2
  have h2 := h2.mono smf2
  have rx := rv'.stay (s' := s2) (H' := H2) (sm2.trans smf2)
  cases ex : er.hold.rd s2 with
  | none => simp only [ex] at h2; exact h2.elim
  | some dx =>
    cases ey : er2.hold.rd s2 with
    | none => simp only [ex, ey] at h2; exact h2.elim
    | some dy =>
      simp only [ex, ey] at h2
      cases q : cmpR o dx dy with
      | none => simp only [q] at h2; exact h2.elim
      | some t =>
        refine ⟨e, s2, σ, F2', dx, dy, .val (.bl t), R2', R2'.rd rx ex, R2'.rd rv2' ey, by unfold cB; rw [q]; rfl, fun u H3 F3 R3 sm3 rv3 => ?_⟩
        cases rv3
        refine ⟨t, rfl, ?_⟩
        cases t with
        | false =>
          simp only [q] at h2
          rw [if_neg (by decide)]
          exact vo_bool (h2.mono sm3) R3
        | true =>
          simp only [q] at h2
          simp only [if_true]
          refine ⟨e, s2, F3, R3, (h2.mono sm3).bind.imp fun er4 s4 F4 H4 R4 sm4 h4 v4 rv4 => ?_⟩
          have ry := rv2'.stay (s' := s4) (H' := H4) (sm3.trans sm4)
          cases ey4 : er2.hold.rd s4 with
          | none => simp only [ey4] at h4; exact h4.elim
          | some dy4 =>
            cases ez : er4.rd s4 with
            | none => simp only [ey4, ez] at h4; exact h4.elim
            | some dz =>
              simp only [ey4, ez] at h4
              cases q2 : cmpR o' dy4 dz with
              | none => rw [q2] at h4; exact h4.elim
              | some t2 =>
                rw [q2] at h4
                exact ⟨e, s4, σ, F4, dy4, dz, .val (.bl t2), R4, R4.rd ry ey4, R4.rd rv4 ez, by unfold cB; rw [q2]; rfl, fun u H5 F5 R5 sm5 rv5 => h4 H5 F5 R5 sm5 u rv5⟩
/-- parts of a slice -/
def tOo (K : PySem.W.Frag) (g : Wi) (w : Wd) (a : IO) : TO := fun σ H Q => ∃ e s F, Rl K e s σ F H ∧ Po K g e σ F (fun o _ _ H => Q o H) (evO w a s)
theorem t_slc {w : Wd} {a : IE} {lo hi : IO} {σ : Sg} {H : Hp} {Q : VK} (h : tE X.K g w (.slc a lo hi) σ H Q) : tSl (rDsl X.K) (tE X.K g w a) (tOo X.K g w lo) (tOo X.K g w hi) σ H Q := by
  obtain ⟨e, s, F, R, h⟩ := h
  unfold ev at h
  refine ⟨e, s, F, R, h.bind.imp fun er s1 F1 H1 R1 sm h1 v rv => ?_⟩
  obtain ⟨F1', R1', smf, rv'⟩ := R1.hold rv
  refine ⟨e, s1, F1', R1', (h1.mono smf).bind.imp fun l s2 F2 H2 R2 sm2 h2 => ?_⟩
  refine ⟨e, s2, F2, R2, h2.bind.imp fun u s3 F3 H3 R3 sm3 h3 => ?_⟩
  have rx := rv'.stay (s' := s3) (H' := H3) (sm2.trans sm3)
  cases q : er.hold.rd s3 with
  | none => simp only [q] at h3; exact h3.elim
  | some d =>
    simp only [q] at h3
    cases q2 : slcD d l u with
    | none => rw [q2] at h3; exact h3.elim
    | some r =>
      rw [q2] at h3
      exact ⟨e, s3, σ, F3, d, r, R3, R3.rd rx q, q2, fun v H' F' R' sm' rv => h3 H' F' R' sm' v rv⟩
theorem po_noneO {w : Wd} : PO X none (tOo X.K g w .no) := by
  constructor; intro pins s σ H Q I h
  obtain ⟨e, fr, F, R, h⟩ := h
  unfold evO at h
  exact po_none.run pins s σ H Q I (h H F R (Same.refl F))
theorem po_someO {w : Wd} {a : IE} {x : Expr} (hx : PE X x (tE X.K g w a)) : PO X (some x) (tOo X.K g w (.so a)) := by
  refine ⟨fun pins s σ H Q I h => (po_some hx).run pins s σ H Q I ?_⟩
  obtain ⟨e, fr, F, R, h⟩ := h
  unfold evO at h
  refine ⟨e, fr, F, R, h.bind.imp fun er s1 F1 H1 R1 sm h1 v rv => ?_⟩
  cases q : er.rd s1 with
  | none => simp only [q] at h1; exact h1.elim
  | some d =>
    simp only [q] at h1
    cases d <;> first | exact h1.elim | skip
    rename_i i
    exact ⟨i, (R1.rd rv q).int, h1 H1 F1 R1 (Same.refl F1)⟩
end
end Pi
set_option maxRecDepth 100000
set_option maxHeartbeats 3900000
namespace Pi
open PySem PySem.Spec L2 PyProof.Rows
/-! ### what is walked -/
structure JOk (K : PySem.W.Frag) (F : Hp) (J : It) (xs : List D) : Prop where
  go : ∀ (i : Nat) H d, Same F H → xs[i]? = some d → J.go i H ∧ ∀ x H', J.yld i H x H' → (H' = H ∧ Rp K F x d) ∨ (∃ p vs ds, H p = none ∧ H' = upd H p (.tup vs) ∧ x = .ref p ∧ d = .tup ds ∧ RpA K F vs ds)
  stop : ∀ H, Same F H → J.stop xs.length H
theorem JOk.mono {K : PySem.W.Frag} {F F' : Hp} {J : It} {xs : List D} (h : JOk K F J xs) (sm : Same F F') : JOk K F' J xs := by
  refine ⟨fun i H d s q => ?_, fun H s => h.stop H (sm.trans s)⟩
  obtain ⟨a, b⟩ := h.go i H d (sm.trans s) q
  refine ⟨a, fun x H' y => ?_⟩
  rcases b x H' y with ⟨e, r⟩ | ⟨p, vs, ds, h1, h2, h3, h4, r⟩
  · exact .inl ⟨e, r.mono sm⟩
  · exact .inr ⟨p, vs, ds, h1, h2, h3, h4, r.mono sm⟩
section
variable {K : PySem.W.Frag} {e : En} {s s' : Fr} {σ : Sg} {F F' H H' : Hp} {v : V} {er : ER} {d : D} {xs : List D} {J : It}
/-- a turn -/
theorem JOk.turn {i : Nat} (h : JOk K F J xs) (R : Rl K e s σ F' H) (sm : Same F F') (q : xs[i]? = some d) (y : J.yld i H v H') : ∃ F2, Rl K e s σ F2 H' ∧ Same F' F2 ∧ Rp K F2 v d := by
  obtain ⟨_, b⟩ := (h.mono sm).go i H d R.sub q
  rcases b v H' y with ⟨rfl, r⟩ | ⟨p, vs, ds, h1, rfl, rfl, rfl, r⟩
  · exact ⟨F', R, Same.refl F', r⟩
  · obtain ⟨R2, s2, rv⟩ := R.newT h1 r
    exact ⟨_, R2, s2, rv⟩
theorem fz_no {c : Tx} {fs : List (Tx × D)} {t : Fr} (q : er.fz s = .exc c fs t) : False := absurd q fz_noexc
theorem Rl.fzz (R : Rl K e s σ F H) (rv : Rv K e s σ F H v er) (q : er.fz s = .ok d s') : ∃ F2, Rl K e s' σ F2 H ∧ Same F F2 ∧ Rp K F2 v d := by
  cases er with
  | fresh xs =>
    cases q
    exact R.hold rv
  | val d => exact R.fz1 rv rfl q
  | slot i => exact R.fz1 rv rfl q
  | cell => exact R.fz1 rv rfl q
end
theorem evF_len (w : Wd) : ∀ (es : IEs) (s s' : Fr) (ds : List D), evF w es s = .ok ds s' → ds.length = es.len
  | .nil, s, s', ds, h => by
    unfold evF at h
    cases h
    rfl
  | .cons a r, s, s', ds, h => by
    unfold evF at h
    cases h1 : ev w a s with
    | stuck => rw [h1] at h; cases h
    | exc c fs t => rw [h1] at h; cases h
    | ok x s1 =>
      rw [h1] at h
      simp only [Rs.bind] at h
      cases h2 : x.fz s1 with
      | stuck => rw [h2] at h; cases h
      | exc c fs t => exact (fz_no h2).elim
      | ok d s2 =>
        rw [h2] at h
        simp only [Rs.bind] at h
        cases h3 : evF w r s2 with
        | stuck => rw [h3] at h; cases h
        | exc c fs t => rw [h3] at h; cases h
        | ok ds' s3 =>
          rw [h3] at h
          cases h
          simp [IEs.len, evF_len w r s2 _ ds' h3]
/-! ### the iterators over data -/
theorem jok_list {K : PySem.W.Frag} {F : Hp} {a : Addr} {vs : List V} {xs : List D} (h : F a = some (.lst vs)) (r : RpA K F vs xs) : JOk K F (Itl K a) xs := by
  refine ⟨fun i H d s q => ?_, fun H s => ⟨vs, .of (s _ _ h), Nat.le_of_eq r.1⟩⟩
  obtain ⟨v, hv, rp⟩ := r.get q
  refine ⟨⟨vs, v, .of (s _ _ h), hv⟩, fun x H' ⟨e, y⟩ => .inl ⟨e, ?_⟩⟩
  have := y vs (.of (s _ _ h))
  rw [hv] at this
  cases this
  exact rp
theorem jok_tup {K : PySem.W.Frag} {F : Hp} {a : Addr} {vs : List V} {xs : List D} (h : SqT K F a vs) (r : RpA K F vs xs) : JOk K F (Itt K a) xs := by
  refine ⟨fun i H d s q => ?_, fun H s => ⟨vs, sqt_mono s h, Nat.le_of_eq r.1⟩⟩
  obtain ⟨v, hv, rp⟩ := r.get q
  refine ⟨⟨vs, v, sqt_mono s h, hv⟩, fun x H' ⟨e, y⟩ => .inl ⟨e, ?_⟩⟩
  have := y vs (sqt_mono s h)
  rw [hv] at this
  cases this
  exact rp
theorem tx_size (x : Tx) : (tx x).cps.size = x.length := by simp [tx]
theorem tx_get (x : Tx) (i : Nat) : (tx x).cps[i]? = x[i]? := by simp [tx]
theorem jok_str {K : PySem.W.Frag} {F : Hp} (x : Tx) : JOk K F (Its (tx x)) (x.map fun c => .str [c]) := by
  refine ⟨fun i H d s q => ?_, fun H s => ?_⟩
  · rw [List.getElem?_map] at q
    cases hc : x[i]? with
    | none => rw [hc] at q; cases q
    | some c =>
      rw [hc] at q
      cases q
      have hi : i < x.length := (List.getElem?_eq_some_iff.mp hc).1
      refine ⟨by show i < (tx x).cps.size; rw [tx_size]; exact hi, fun v H' ⟨e, c', h1, h2⟩ => .inl ⟨e, ?_⟩⟩
      rw [tx_get, hc] at h1
      cases h1
      subst h2
      exact .str [c]
  · show (tx x).cps.size ≤ _
    rw [tx_size, List.length_map]
    exact Nat.le_refl _
theorem rngD_len (a : Int) : ∀ n, (rngD a n).length = n
  | 0 => rfl
  | n + 1 => by simp [rngD, rngD_len (a + 1) n]
theorem rngD_get : ∀ (n i : Nat) (a : Int) (d : D), (rngD a n)[i]? = some d → i < n ∧ d = .int (a + i)
  | 0, i, a, d, h => by simp [rngD] at h
  | n + 1, 0, a, d, h => by
    simp only [rngD, List.getElem?_cons_zero, Option.some.injEq] at h
    subst h
    exact ⟨by omega, by simp⟩
  | n + 1, i + 1, a, d, h => by
    simp only [rngD, List.getElem?_cons_succ] at h
    obtain ⟨h1, h2⟩ := rngD_get n i (a + 1) d h
    refine ⟨by omega, ?_⟩
    rw [h2]
    congr 1
    push_cast
    omega
theorem jok_rng {K : PySem.W.Frag} {F : Hp} (a : Int) (n : Nat) : JOk K F (Itr a n) (rngD a n) := by
  refine ⟨fun i H d s q => ?_, fun H s => by show n ≤ _; rw [rngD_len]; exact Nat.le_refl _⟩
  obtain ⟨h1, rfl⟩ := rngD_get n i a d q
  exact ⟨h1, fun v H' ⟨e, h2⟩ => .inl ⟨e, by subst h2; exact .int _⟩⟩
/-! ### two texts side by side -/
def Itzs (x y : Str) : It := ⟨fun i _ => i < min x.cps.size y.cps.size,
  fun i H v H' => ∃ T c d, v = .ref T ∧ H T = none ∧ H' = upd H T (.tup [.str ⟨#[c]⟩, .str ⟨#[d]⟩]) ∧ x.cps[i]? = some c ∧ y.cps[i]? = some d, fun i _ => i = min x.cps.size y.cps.size⟩
def ZsAt (z TI TO i1 i2 : Addr) (x y : Str) (t u : Tok) (i : Nat) (h : Heap) : Prop :=
  IsZip h z TI TO .none ∧ IsTupOf2 h TI (.ref i1) (.ref i2) ∧ (∃ a1 a2, IsTupOf2 h TO a1 a2) ∧ h.IsStrIter i1 (strIterType x) x t i ∧ h.IsStrIter i2 (strIterType y) y u i
theorem goes_zs {P : Program} {w : World} {A : Around} {elts : List Expr} {kk : Nat} {tpos : Pos} {z TI TO i1 i2 : Addr} {x y : Str} {t u : Tok} (S : ZipSep2 z TI TO i1 i2 [i1] [i2]) (hh : A.in1.handled = none) :
    GoesN P w A (.Tuple elts kk tpos) z [z, TI, TO, i1, i2] [z, TO, i1, i2] (min x.cps.size y.cps.size) (fun i h₀ v h => ∃ T a b, v = .ref T ∧ h₀.objs.size ≤ T ∧ (∃ c k, x.cps[i]? = some c ∧ a = .str ⟨#[c]⟩ k) ∧ (∃ c k, y.cps[i]? = some c ∧ b = .str ⟨#[c]⟩ k) ∧ h.IsTuple T #[a, b]) (ZsAt z TI TO i1 i2 x y t u) :=
  GoesN.zip2 S (Draws.text hh i1 x t) (Draws.text hh i2 y u)
/-- a walk of the library (GoesN) as a turn of a loop -/
theorem turn_goes {P : Program} {w : World} {K : PySem.W.Frag} {tg : Expr} {J : It} {it : Addr} {fp wr : List Addr} {n : Nat} {Y : Nat → Heap → Value → Heap → Prop} {At : Nat → Heap → Prop} (W : ∀ A : Around, A.in1.handled = none → GoesN P w A tg it fp wr n Y At) (mem : it ∈ fp)
    (obj : ∀ i h, At i h → ∀ b ∈ fp, ∃ o, h.get? b = some o ∧ ∀ v, o.data ≠ .cell v) (go : ∀ i H, J.go i H → i < n) (stop : ∀ i H, J.stop i H → i = n)
    (yld : ∀ (X : Cx) (pins : List (Addr × Obj)) (σ : L2.St) (H : Hp) (s : Shared) (i : Nat) (v : Value) (h' : Heap) (tk : Nat), X.prog = P → X.w = w → X.K = K → Inv X pins σ H s → (∀ b ∈ fp, FpOk X pins H b) → At i s.heap → Y i s.heap v h' → (∀ b o, b ∉ fp → s.heap.get? b = some o → h'.get? b = some o) →
      ∃ x H', Inv X pins σ H' { s with heap := h', toks := tk } ∧ RelV x v ∧ J.yld i H x H' ∧ ∀ b ∈ fp, H' b = none)
    (self : ∀ (A : Around) (i : Nat) (s : Shared) (Q : Value → Shared → Prop) (E : Value → Shared → Prop), At i s.heap → Q (.ref it) s → wpAny (model P w) A (pyIter (.ref it)) Q E s) : Turn P w K tg J fp it At := by
  have calmA : ∀ {X : Cx} {pins : List (Addr × Obj)} {σ : L2.St} {H : Hp} {s : Shared}, X.calm = true → Inv X pins σ H s → X.A.in1.handled = none := fun c I => I.ok.hd c
  have wider : ∀ {A : Around} {h h' : Heap}, A.in1.handled = none → (∀ b o, b ∉ wr → h.get? b = some o → h'.get? b = some o) → ∀ b o, b ∉ fp → h.get? b = some o → h'.get? b = some o := fun q k b o n e => k b o (fun z => n ((W _ q).sub b z)) e
  refine Turn.mk mem obj (fun i h h' st k => (W {} rfl).frame i h h' st k) ?_ ?_ self
  · rintro X rfl rfl rfl c i pins s σ H E I free st g
    refine (W X.A (calmA c I)).goes i s _ E (go i H g) st fun v h' tk y st' k _ => ?_
    obtain ⟨x, H', J1, rv, y', none'⟩ := yld X pins σ H s i v h' tk rfl rfl rfl I free st y (wider (calmA c I) k)
    exact ⟨x, H', J1, rv, y', st', none'⟩
  · rintro X rfl rfl rfl c i pins s σ H E I free st g
    obtain rfl := stop i H g
    exact (W X.A (calmA c I)).stops s _ E st fun h' tk k _ => I.turnedL (t' := tk) (h' := h') (wider (calmA c I) k) free
theorem zs_obj {z TI TO i1 i2 : Addr} {x y : Str} {t u : Tok} {i : Nat} {h : Heap} (st : ZsAt z TI TO i1 i2 x y t u i h) (b : Addr) (hb : b ∈ [z, TI, TO, i1, i2]) : ∃ o, h.get? b = some o ∧ ∀ v, o.data ≠ .cell v := by
  obtain ⟨k1, k2, ⟨a1, a2, k3⟩, ⟨o1, e1, _, d1⟩, ⟨o2, e2, _, d2⟩⟩ := st
  simp only [in_cons, in_nil, or_false] at hb
  have zip2 : ∀ {o : Obj} {vs : Array Value}, o.data = .fields vs → ∀ v, o.data ≠ .cell v := fun q v z => by rw [q] at z; exact nomatch z
  rcases hb with rfl | rfl | rfl | rfl | rfl
  · exact ⟨_, k1, nofun⟩
  · exact ⟨_, k2, nofun⟩
  · exact ⟨_, k3, nofun⟩
  · exact ⟨o1, e1, zip2 d1⟩
  · exact ⟨o2, e2, zip2 d2⟩
theorem turn_zs {P : Program} {w : World} {K : PySem.W.Frag} {elts : List Expr} {kk : Nat} {tpos : Pos} {z TI TO i1 i2 : Addr} {x y : Str} {t u : Tok} (S : ZipSep2 z TI TO i1 i2 [i1] [i2]) :
    Turn P w K (.Tuple elts kk tpos) (Itzs x y) [z, TI, TO, i1, i2] z (ZsAt z TI TO i1 i2 x y t u) := by
  refine turn_goes (fun A q => goes_zs S q) (by simp) (fun i h st => zs_obj st) (fun _ _ g => g) (fun _ _ g => g) ?_ fun A i s Q E st q => wpAny_pyIter_zip (And.left st) q
  rintro X pins σ H s i v h' tk - - - I free st ⟨T, p, q, rfl, new, ⟨c, t1, cx, rfl⟩, ⟨d, t2, dy, rfl⟩, tup⟩ kept
  have two : ObjOk X.prog X.w (upd H T (.tup [.str ⟨#[c]⟩, .str ⟨#[d]⟩])) h' T (.tup [.str ⟨#[c]⟩, .str ⟨#[d]⟩]) := ⟨by simp [sizeLine_eq], _, .cons ⟨t1, rfl⟩ (.cons ⟨t2, rfl⟩ .nil), tup⟩
  refine ⟨.ref T, _, I.turnedNew (t' := tk) (h' := h') kept free new two, rfl, ⟨T, c, d, rfl, I.hok.fresh new, rfl, cx, dy⟩, fun b hb => ?_⟩
  obtain ⟨o, there, _⟩ := zs_obj st b hb
  rw [upd_ne (Nat.ne_of_lt (Nat.lt_of_lt_of_le (Heap.lt_size there) new))]
  exact (free b hb).1
theorem jok_zs {K : PySem.W.Frag} {F : Hp} (x y : Tx) : JOk K F (Itzs (tx x) (tx y)) (zipD (x.map fun c => .str [c]) (y.map fun c => .str [c])) := by
  refine ⟨fun i H d s q => ?_, fun H s => ?_⟩
  · unfold zipD at q
    rw [List.getElem?_zipWith, List.getElem?_map, List.getElem?_map] at q
    cases hx : x[i]? with
    | none => rw [hx] at q; simp at q
    | some a =>
      cases hy : y[i]? with
      | none => rw [hx, hy] at q; simp at q
      | some b =>
        rw [hx, hy] at q
        simp only [Option.map_some, Option.some.injEq] at q
        subst q
        have h1 : i < x.length := (List.getElem?_eq_some_iff.mp hx).1
        have h2 : i < y.length := (List.getElem?_eq_some_iff.mp hy).1
        refine ⟨by show i < min _ _; rw [tx_size, tx_size]; omega, fun v H' ⟨T, c, d, e1, e2, e3, e4, e5⟩ => .inr ⟨T, _, [.str [a], .str [b]], e2, e3, e1, rfl, ?_⟩⟩
        rw [tx_get, hx] at e4
        rw [tx_get, hy] at e5
        cases e4; cases e5
        exact .cons (.str [a]) (.cons (.str [b]) .nil)
  · show _ = min _ _
    rw [tx_size, tx_size]
    simp [zipD]
/-! ### the readings -/
def tI (K : PySem.W.Frag) (g : Wi) (w : Wd) (it : IT) : TI := fun σ H R => ∃ e s F, Rl K e s σ F H ∧ Po K g e σ F (fun xs _ F H => ∀ J, JOk K F J xs → R J H) (evI w it s)
section
variable {X : Cx} {g : Wi} {w : Wd} {tg : Expr}
theorem pi_seqD {a : IE} {l : Expr} (hl : PE X l (tE X.K g w a)) : PI X tg l (tI X.K g w (.seq a)) := by
  refine PI.mk fun pins s σ H R I h => ?_
  obtain ⟨e, fr, F, R0, h⟩ := h
  unfold evI at h
  have hq : tE X.K g w a σ H fun v H1 => ∃ (F : Hp) (d : D) (xs : List D), Same F H1 ∧ Rp X.K F v d ∧ itemsD d = some xs ∧ ∀ J, JOk X.K F J xs → R J H1 := by
    refine ⟨e, fr, F, R0, h.bind.imp fun er s1 F1 H1 R1 sm h1 v rv => ?_⟩
    cases q : er.fz s1 with
    | stuck => rw [q] at h1; exact h1.elim
    | exc c fs t => exact (fz_no q).elim
    | ok d s2 =>
      obtain ⟨F2, R2, sm2, rp⟩ := R1.fzz rv q
      rw [q] at h1
      cases q2 : itemsD d with
      | none => simp only [Rs.bind, q2] at h1; exact h1.elim
      | some xs =>
        simp only [Rs.bind, q2] at h1
        exact ⟨F2, d, xs, R2.sub, rp, q2, h1 H1 F2 R2 sm2⟩
  refine thn (hl.run pins s σ H _ I hq) fun u s1 ⟨v, H1, I1, r1, F1, d, xs, sm, rp, q, k⟩ => ?_
  cases d <;> simp only [itemsD, Option.some.injEq, reduceCtorEq] at q
  · subst q
    rename_i x
    cases rp
    obtain ⟨t, rfl⟩ := r1
    cases ha : (tx x).cps.all (· < 128)
    · exact wpAny_pyIter_wide ha (pi_one (tk := s1.toks) I1 _ (turn_str _ (tx x) t "str_iterator" (.inr rfl)) ⟨_, Heap.get?_push_size _ rfl, rfl, rfl⟩ (k _ (jok_str x)))
    · exact wpAny_pyIter_ascii ha (pi_one (tk := s1.toks) I1 _ (turn_str _ (tx x) t "str_ascii_iterator" (.inl rfl)) ⟨_, Heap.get?_push_size _ rfl, rfl, rfl⟩ (k _ (jok_str x)))
  · subst q
    cases rp with
    | @lst a vs _ hF hl' hr =>
      cases r1
      obtain ⟨its, rv, p, hz⟩ := I1.list (SqL.of (sm _ _ hF))
      exact wpAny_pyIter_list p.isList (pi_one (tk := s1.toks) I1 _ (turn_list a _) ⟨_, Heap.get?_push_size _ rfl, rfl, rfl⟩ (k _ (jok_list hF ⟨hl', hr⟩)))
  · subst q
    cases rp with
    | @tup a vs _ hF hl' hr =>
      cases r1
      obtain ⟨its, rv, p, hz⟩ := I1.tuple (sqt_mono sm hF)
      exact wpAny_pyIter_tuple (show s1.heap.IsTuple a its.toArray from p) (pi_one (tk := s1.toks) I1 _ (turn_tuple a _) ⟨_, Heap.get?_push_size _ rfl, rfl, rfl⟩ (k _ (jok_tup hF ⟨hl', hr⟩)))
theorem RpA.one {K : PySem.W.Frag} {F : Hp} {vs : List V} {d : D} (h : RpA K F vs [d]) : ∃ v, vs = [v] ∧ Rp K F v d := by
  cases vs with
  | nil => have := h.1; simp at this
  | cons v r =>
    obtain ⟨a, b⟩ := h.cons_inv
    have z : r = [] := List.eq_nil_of_length_eq_zero b.1
    subst z
    exact ⟨v, rfl, a⟩
theorem RpA.two {K : PySem.W.Frag} {F : Hp} {vs : List V} {d d' : D} (h : RpA K F vs [d, d']) : ∃ v v', vs = [v, v'] ∧ Rp K F v d ∧ Rp K F v' d' := by
  cases vs with
  | nil => have := h.1; simp at this
  | cons v r =>
    obtain ⟨a, b⟩ := h.cons_inv
    obtain ⟨v', rfl, c⟩ := b.one
    exact ⟨v, v', rfl, a, c⟩
theorem lim62 {n : Int} (h1 : -(lim : Int) ≤ n) (h2 : n ≤ lim) : -(2 ^ 62) ≤ n ∧ n < 2 ^ 62 := by
  unfold lim at h1 h2
  constructor <;> omega
theorem pi_rngD {es : IEs} {as : List Expr} {p pos : Pos} (hg : Gl X "range") (hm : X.mg "range" = none) (ha : PA X as (tF X.K g w es)) (hl : as.length = es.len) (h12 : as.length = 1 ∨ as.length = 2) (hst : ∀ a ∈ as, noStar a = true) :
    PI X tg (.Call (.Name "range" p) as [] pos) (tI X.K g w (.rng es)) := by
  rcases h12 with h1 | h2
  · obtain ⟨a, rfl⟩ : ∃ a, as = [a] := by
      cases as with
      | nil => cases h1
      | cons a r =>
        cases r with
        | nil => exact ⟨a, rfl⟩
        | cons _ _ => simp at h1
    have z := pi_range1 (tg := tg) (p := p) (pos := pos) hg hm ha (star1 (hst a (by simp)))
    refine ⟨fun pins s σ H R I h => z.run pins s σ H R I ?_⟩
    obtain ⟨e, fr, F, R0, h⟩ := h
    unfold evI at h
    cases q : evF w es fr with
    | stuck => rw [q] at h; exact h.elim
    | exc c fs t => rw [q] at h; exact ⟨e, fr, F, R0, by rw [q]; exact h⟩
    | ok ds s1 =>
      have hl2 := evF_len w es fr s1 ds q
      refine ⟨e, fr, F, R0, ?_⟩
      rw [q] at h ⊢
      intro H1 F1 R1 sm vs ra
      simp only [Rs.bind] at h
      split at h
      · rename_i n
        obtain ⟨v, rfl, rp⟩ := ra.one
        cases rp
        split at h
        · rename_i hb
          obtain ⟨b1, b2⟩ := lim62 hb.1 hb.2
          exact ⟨n, rfl, b1, b2, h H1 F1 R1 sm _ (jok_rng 0 _)⟩
        · exact h.elim
      · exfalso
        rw [← hl] at hl2
        simp at hl2
      · exact h.elim
  · obtain ⟨a, b, rfl⟩ : ∃ a b, as = [a, b] := by
      match as, h2 with
      | [a, b], _ => exact ⟨a, b, rfl⟩
    have z := pi_range2 (tg := tg) (p := p) (pos := pos) hg hm ha (by rw [star1 (hst a (by simp)), star1 (hst b (by simp))]; rfl) (star1 (hst b (by simp)))
    refine ⟨fun pins s σ H R I h => z.run pins s σ H R I ?_⟩
    obtain ⟨e, fr, F, R0, h⟩ := h
    unfold evI at h
    cases q : evF w es fr with
    | stuck => rw [q] at h; exact h.elim
    | exc c fs t => rw [q] at h; exact ⟨e, fr, F, R0, by rw [q]; exact h⟩
    | ok ds s1 =>
      have hl2 := evF_len w es fr s1 ds q
      refine ⟨e, fr, F, R0, ?_⟩
      rw [q] at h ⊢
      intro H1 F1 R1 sm vs ra
      simp only [Rs.bind] at h
      split at h
      · exfalso
        rw [← hl] at hl2
        simp at hl2
      · rename_i m n
        obtain ⟨v, v', rfl, rp, rp'⟩ := ra.two
        cases rp
        cases rp'
        split at h
        · rename_i hb
          obtain ⟨b1, b2⟩ := lim62 hb.1 hb.2.1
          obtain ⟨c1, c2⟩ := lim62 hb.2.2.1 hb.2.2.2
          exact ⟨m, n, rfl, ⟨c1, c2, b1, b2⟩, h H1 F1 R1 sm _ (jok_rng m _)⟩
        · exact h.elim
      · exact h.elim
theorem pi_zsD {es : IEs} {a b : Expr} {p pos tpos : Pos} {elts : List Expr} {kk : Nat} (hg : Gl X "zip") (hm : X.mg "zip" = none) (ha : PA X [a, b] (tF X.K g w es)) (ha1 : noStar a = true) (hb1 : noStar b = true) :
    PI X (.Tuple elts kk tpos) (.Call (.Name "zip" p) [a, b] [] pos) (tI X.K g w (.zip es)) := by
  refine PI.mk fun pins s σ H R I h => ?_
  obtain ⟨e, fr, F, R0, h⟩ := h
  unfold evI at h
  have hq : tF X.K g w es σ H fun vs H1 => ∃ x y, vs = [.str (tx x), .str (tx y)] ∧ R (Itzs (tx x) (tx y)) H1 := by
    refine ⟨e, fr, F, R0, h.bind.imp fun ds s1 F1 H1 R1 sm h1 vs ra => ?_⟩
    split at h1
    · rename_i x y
      obtain ⟨v, v', rfl, rp, rp'⟩ := ra.two
      cases rp
      cases rp'
      exact ⟨x, y, rfl, h1 H1 F1 R1 (Same.refl F1) _ (jok_zs x y)⟩
    · exact h1.elim
  refine Call_ (ld_blt I hg hm PyProof.Rows.boot_zip (PyProof.Rows.callWith_type1 (thn (ha.run pos pins s σ H _ I hq) fun us s1 ⟨vs, H1, I1, r1, x, y, ev, q⟩ => ?_) (star1 ha1) (by rw [star1 hb1]; rfl)))
  subst ev
  obtain ⟨u, u', rfl, ⟨t, rfl⟩, ⟨t', rfl⟩⟩ := vals2 r1
  refine zip_begins2 (begins_text (tx x) t) (begins_text (tx y) t') trivial trivial fun h' hz hTI hTO h1 h2 hsz hk => wpAny_pyIter_zip hz ?_
  have S : ZipSep2 (s1.heap.objs.size + 4) (s1.heap.objs.size + 2) (s1.heap.objs.size + 3) s1.heap.objs.size (s1.heap.objs.size + 1) [s1.heap.objs.size] [s1.heap.objs.size + 1] := zip_sep2 (fp1 := []) (fp2 := []) (by simp) (by simp)
  refine ⟨_, _, _, _, H1, rfl, I1.kept (t' := s1.toks) (h' := h') hk, turn_zs (x := tx x) (y := tx y) (t := t) (u := t') S, ⟨hz, hTI, ⟨_, _, hTO⟩, ⟨_, h1, rfl, rfl⟩, ⟨_, h2, rfl, rfl⟩⟩, fun b hb => ?_, q⟩
  have above : s1.heap.objs.size ≤ b := by
    simp only [in_cons, in_nil, or_false] at hb
    rcases hb with z | z | z | z | z <;> rw [z] <;> first | exact Nat.le_refl _ | exact Nat.le_add_right _ _
  exact I1.fpOk above (I1.hok.fresh above)
end
end Pi
set_option maxRecDepth 100000
set_option maxHeartbeats 3900000
namespace Pi
open PySem PySem.Spec L2 PyProof.Rows
/-! ### slots stored, wiped, brought back -/
section
variable {K : PySem.W.Frag} {e : En} {s s' : Fr} {σ : Sg} {F F' H H' : Hp} {v : V} {d : D} {xs : List D}
theorem set_get {α : Type} {l : List α} {i j : Nat} {x y : α} (h : (l.set i x)[j]? = some y) : (i = j ∧ y = x) ∨ (i ≠ j ∧ l[j]? = some y) := by
  by_cases e : i = j
  · subst e
    by_cases hl : i < l.length
    · rw [List.getElem?_set_self hl] at h
      cases h
      exact .inl ⟨rfl, rfl⟩
    · rw [List.getElem?_eq_none (by simpa using hl)] at h
      cases h
  · rw [List.getElem?_set_ne e] at h
    exact .inr ⟨e, h⟩
/-- a slot is stored: neither of one's own -/
theorem Rl.put1 {i : Nat} {x : Sl} {o : Option V} (R : Rl K e s σ F H) (hx : isOwn x = false) (ok : i < σ.length → SlOk K e (σ.set i o) F H i x) : Rl K e (s.put i x) (σ.set i o) F H := by
  refine ⟨R.sub, R.fnew, R.f0, R.keep, R.cell, fun j y q => ?_, fun j k x' y' q1 q2 i1 i2 z => ?_, by show (s.sl.set i x).length = (σ.set i o).length; simp [R.len]⟩
  · rcases set_get q with ⟨rfl, rfl⟩ | ⟨ne, q⟩
    · refine ok ?_
      have z : i < (s.sl.set i y).length := (List.getElem?_eq_some_iff.mp q).1
      rw [List.length_set, R.len] at z
      exact z
    · have k := R.slot j y q
      have es : (σ.set i o)[j]? = σ[j]? := List.getElem?_set_ne ne
      cases y with
      | un => trivial
      | val d =>
        obtain ⟨u, h1, h2⟩ := k
        exact ⟨u, by rw [es]; exact h1, h2⟩
      | own xs =>
        obtain ⟨p, vs, h1, h2⟩ := k
        exact ⟨p, vs, by rw [es]; exact h1, h2⟩
      | ref =>
        obtain ⟨a, h1, h2⟩ := k
        exact ⟨a, h1, by rw [es]; exact h2⟩
  · rcases set_get q1 with ⟨rfl, rfl⟩ | ⟨n1, q1⟩
    · rw [hx] at i1; cases i1
    · rcases set_get q2 with ⟨rfl, rfl⟩ | ⟨n2, q2⟩
      · rw [hx] at i2; cases i2
      · rw [List.getElem?_set_ne n1, List.getElem?_set_ne n2] at z
        exact R.dist j k x' y' q1 q2 i1 i2 z
theorem Rl.store {i : Nat} (R : Rl K e s σ F H) (r : Rp K F v d) : Rl K e (s.put i (.val d)) (σ.set i (some v)) F H :=
  R.put1 rfl fun hl => ⟨v, List.getElem?_set_self hl, r⟩
theorem Rl.gone {i : Nat} {o : Option V} (R : Rl K e s σ F H) : Rl K e (s.put i .un) (σ.set i o) F H := R.put1 rfl fun _ => trivial
/-- .. a list of one's own -/
theorem Rl.storeO {i : Nat} (R : Rl K e s σ F H) (r : Rv K e s σ F H v (.fresh xs)) : Rl K e (s.put i (.own xs)) (σ.set i (some v)) F H := by
  obtain ⟨p, vs, rfl, h0, hF, hc, hp, ra, no⟩ := r
  refine ⟨R.sub, R.fnew, R.f0, R.keep, R.cell, fun j y q => ?_, fun j k x' y' q1 q2 i1 i2 z => ?_, by show (s.sl.set i _).length = (σ.set i _).length; simp [R.len]⟩
  · have il : i < s.sl.length → i < σ.length := fun h => by rw [← R.len]; exact h
    rcases set_get q with ⟨rfl, rfl⟩ | ⟨ne, q⟩
    · have z : i < (s.sl.set i (.own xs)).length := (List.getElem?_eq_some_iff.mp q).1
      rw [List.length_set] at z
      exact ⟨p, vs, List.getElem?_set_self (il z), h0, hF, hc, hp, ra⟩
    · have k := R.slot j y q
      have es : (σ.set i (some (V.ref p)))[j]? = σ[j]? := List.getElem?_set_ne ne
      cases y with
      | un => trivial
      | val d =>
        obtain ⟨u, h1, h2⟩ := k
        exact ⟨u, by rw [es]; exact h1, h2⟩
      | own xs =>
        obtain ⟨p, vs, h1, h2⟩ := k
        exact ⟨p, vs, by rw [es]; exact h1, h2⟩
      | ref =>
        obtain ⟨a, h1, h2⟩ := k
        exact ⟨a, h1, by rw [es]; exact h2⟩
  · have here : ∀ {y : Sl}, (s.sl.set i (.own xs))[i]? = some y → i < σ.length := fun {y} h => by
      have z := (List.getElem?_eq_some_iff.mp h).1
      rw [List.length_set, R.len] at z
      exact z
    rcases set_get q1 with ⟨rfl, rfl⟩ | ⟨n1, q1'⟩
    · rcases set_get q2 with ⟨rfl, rfl⟩ | ⟨n2, q2'⟩
      · rfl
      · rw [List.getElem?_set_self (here q1), List.getElem?_set_ne n2] at z
        exact absurd z.symm (no k y' q2' i2)
    · rcases set_get q2 with ⟨rfl, rfl⟩ | ⟨n2, q2'⟩
      · rw [List.getElem?_set_self (here q2), List.getElem?_set_ne n1] at z
        exact absurd z (no j x' q1' i1)
      · rw [List.getElem?_set_ne n1, List.getElem?_set_ne n2] at z
        exact R.dist j k x' y' q1' q2' i1 i2 z
theorem wipeS (s : Fr) (i : Nat) (is : List Nat) : s.wipe (i :: is) = (s.put i .un).wipe is := rfl
theorem Rl.wipe (R : Rl K e s σ F H) : ∀ is : List Nat, Rl K e (s.wipe is) (L2.wipe σ is) F H := by
  intro is
  have len : ∀ (is : List Nat) (l : List Sl), (is.foldl (fun l i => l.set i Sl.un) l).length = l.length := by
    intro is
    induction is with
    | nil => intro l; rfl
    | cons i is ih => intro l; rw [List.foldl_cons, ih, List.length_set]
  have get : ∀ (is : List Nat) (l : List Sl) (j : Nat) (x : Sl), (is.foldl (fun l i => l.set i Sl.un) l)[j]? = some x → x = .un ∨ (l[j]? = some x ∧ j ∉ is) := by
    intro is
    induction is with
    | nil => intro l j x h; exact .inr ⟨h, by simp⟩
    | cons i is ih =>
      intro l j x h
      rcases ih _ j x h with rfl | ⟨h1, h2⟩
      · exact .inl rfl
      · rcases set_get h1 with ⟨_, rfl⟩ | ⟨ne, h3⟩
        · exact .inl rfl
        · exact .inr ⟨h3, by simp only [List.mem_cons, not_or]; exact ⟨fun z => ne z.symm, h2⟩⟩
  have keepσ : ∀ (is : List Nat) (j : Nat), j ∉ is → (L2.wipe σ is)[j]? = σ[j]? := by
    intro is
    induction is with
    | nil => intro j _; rfl
    | cons i is ih =>
      intro j hj
      simp only [List.mem_cons, not_or] at hj
      unfold L2.wipe
      rw [List.getElem?_set_ne (fun z => hj.1 z.symm)]
      exact ih j hj.2
  refine ⟨R.sub, R.fnew, R.f0, R.keep, R.cell, fun j x q => ?_, fun j k x y q1 q2 i1 i2 z => ?_, by show (is.foldl _ s.sl).length = _; rw [len, wipe_length]; exact R.len⟩
  · rcases get is s.sl j x q with rfl | ⟨h1, h2⟩
    · trivial
    · have k := R.slot j x h1
      have es := keepσ is j h2
      cases x with
      | un => trivial
      | val d =>
        obtain ⟨u, h3, h4⟩ := k
        exact ⟨u, by rw [es]; exact h3, h4⟩
      | own xs =>
        obtain ⟨p, vs, h3, h4⟩ := k
        exact ⟨p, vs, by rw [es]; exact h3, h4⟩
      | ref =>
        obtain ⟨a, h3, h4⟩ := k
        exact ⟨a, h3, by rw [es]; exact h4⟩
  · rcases get is s.sl j x q1 with rfl | ⟨h1, h2⟩
    · cases i1
    · rcases get is s.sl k y q2 with rfl | ⟨h3, h4⟩
      · cases i2
      · rw [keepσ is j h2, keepσ is k h4] at z
        exact R.dist j k x y h1 h3 i1 i2 z
/-- the slots as they were -/
theorem Rl.back {s1 : Fr} {F1 H1 : Hp} {σ' : Sg} {is : List Nat} (R1 : Rl K e s1 σ F1 H1) (R : Rl K e s σ' F H) (sm : Same F1 F) (hσ : L2.wipe σ' is = L2.wipe σ is) : Rl K e (s.back s1 is) σ F H := by
  have hlen : σ'.length = σ.length := by
    have := congrArg List.length hσ
    rwa [wipe_length, wipe_length] at this
  have len : ∀ (is : List Nat) (l : List Sl), (is.foldl (fun l i => l.set i (s1.sl.getD i .un).left) l).length = l.length := by
    intro is
    induction is with
    | nil => intro l; rfl
    | cons i is ih => intro l; rw [List.foldl_cons, ih, List.length_set]
  have get : ∀ (is : List Nat) (l : List Sl) (j : Nat) (x : Sl), (is.foldl (fun l i => l.set i (s1.sl.getD i .un).left) l)[j]? = some x → x = (s1.sl.getD j .un).left ∨ (l[j]? = some x ∧ j ∉ is) := by
    intro is
    induction is with
    | nil => intro l j x h; exact .inr ⟨h, by simp⟩
    | cons i is ih =>
      intro l j x h
      rcases ih _ j x h with rfl | ⟨h1, h2⟩
      · exact .inl rfl
      · rcases set_get h1 with ⟨rfl, rfl⟩ | ⟨ne, h3⟩
        · exact .inl rfl
        · exact .inr ⟨h3, by simp only [List.mem_cons, not_or]; exact ⟨fun z => ne z.symm, h2⟩⟩
  have keepσ : ∀ (σ : Sg) (is : List Nat) (j : Nat), j ∉ is → (L2.wipe σ is)[j]? = σ[j]? := by
    intro σ is
    induction is with
    | nil => intro j _; rfl
    | cons i is ih =>
      intro j hj
      simp only [List.mem_cons, not_or] at hj
      unfold L2.wipe
      rw [List.getElem?_set_ne (fun z => hj.1 z.symm)]
      exact ih j hj.2
  have eqσ : ∀ j, j ∉ is → σ'[j]? = σ[j]? := fun j hj => by rw [← keepσ σ' is j hj, ← keepσ σ is j hj, hσ]
  have left_own : ∀ x : Sl, isOwn x.left = false := fun x => by cases x <;> rfl
  refine ⟨R.sub, R.fnew, R.f0, R.keep, R.cell, fun j x q => ?_, fun j k x y q1 q2 i1 i2 z => ?_, by show (is.foldl _ s.sl).length = _; rw [len, R.len, hlen]⟩
  · rcases get is s.sl j x q with rfl | ⟨h1, h2⟩
    · cases q1 : s1.sl[j]? with
      | none =>
        rw [List.getD_eq_getElem?_getD, q1]
        trivial
      | some y =>
        have k := R1.slot j y q1
        rw [List.getD_eq_getElem?_getD, q1]
        cases y with
        | un => trivial
        | own _ => trivial
        | val d =>
          obtain ⟨u, h3, h4⟩ := k
          exact ⟨u, h3, h4.mono sm⟩
        | ref => exact k
    · have k := R.slot j x h1
      have es := eqσ j h2
      cases x with
      | un => trivial
      | val d =>
        obtain ⟨u, h3, h4⟩ := k
        exact ⟨u, by rw [← es]; exact h3, h4⟩
      | own xs =>
        obtain ⟨p, vs, h3, h4⟩ := k
        exact ⟨p, vs, by rw [← es]; exact h3, h4⟩
      | ref =>
        obtain ⟨a, h3, h4⟩ := k
        exact ⟨a, h3, by rw [← es]; exact h4⟩
  · rcases get is s.sl j x q1 with rfl | ⟨h1, h2⟩
    · rw [left_own] at i1; cases i1
    · rcases get is s.sl k y q2 with rfl | ⟨h3, h4⟩
      · rw [left_own] at i2; cases i2
      · rw [← eqσ j h2, ← eqσ k h4] at z
        exact R.dist j k x y h1 h3 i1 i2 z
/-! ### an object of one's own that stands aside while others are reckoned -/
def En.with (e : En) (p : Addr) (o : HO) : En := ⟨e.c, e.F0, upd e.H0 p o⟩
theorem Rl.aside {p : Addr} {o : HO} (R : Rl K e s σ F H) (hp : H p = none) : Rl K (e.with p o) s σ F (upd H p o) := by
  have n := R.nw hp
  have ne : ∀ {b : Addr} {u : HO}, H b = some u → b ≠ p := fun {b u} q => ne_of_none q hp
  refine ⟨fun b u q => ?_, fun b u q => ?_, R.f0, fun b u q hc => ?_, fun a ha => ?_, fun i x q => ?_, R.dist, R.len⟩
  · rw [upd_ne (ne (R.sub b u q))]
    exact R.sub b u q
  · rcases R.fnew b u q with z | z
    · exact .inl z
    · refine .inr ?_
      show upd e.H0 p o b = none
      rw [upd_ne (ne (R.sub b u q))]
      exact z
  · have q : upd e.H0 p o b = some u := q
    by_cases hb : b = p
    · subst hb
      rw [upd_same] at q ⊢
      exact q
    · rw [upd_ne hb] at q ⊢
      exact R.keep b u q hc
  · obtain ⟨h1, vs, h2, r⟩ := R.cell a ha
    exact ⟨h1, vs, by rw [upd_ne (ne h2)]; exact h2, r⟩
  · have k := R.slot i x q
    cases x with
    | own xs =>
      obtain ⟨p', vs, hw, h1, h2, h3, h4, r⟩ := k
      exact ⟨p', vs, hw, by show upd e.H0 p o p' = none; rw [upd_ne (ne h4)]; exact h1, h2, h3, by rw [upd_ne (ne h4)]; exact h4, r⟩
    | un => exact k
    | val _ => exact k
    | ref => exact k
/-- what is known of it -/
structure As (e : En) (p : Addr) : Prop where
  h0 : e.H0 p = none
  f0 : e.F0 p = none
  c : some p ≠ e.c
theorem Rl.as {p : Addr} (R : Rl K e s σ F H) (hp : H p = none) : As e p := by
  have n := R.nw hp
  refine ⟨n.h0, ?_, n.c⟩
  cases q : e.F0 p with
  | none => rfl
  | some u =>
    have := R.f0 p u q
    rw [n.f] at this
    cases this
theorem Rl.asF {p : Addr} {o : HO} (A : As e p) (R : Rl K (e.with p o) s σ F H) : F p = none := by
  cases q : F p with
  | none => rfl
  | some u =>
    rcases R.fnew p u q with z | z
    · have z : e.F0 p = some u := z
      rw [A.f0] at z
      cases z
    · have z : upd e.H0 p o p = none := z
      rw [upd_same] at z
      cases z
theorem Rl.asH {p : Addr} {o : HO} (A : As e p) (R : Rl K (e.with p o) s σ F H) : H p = some o := R.keep p o upd_same A.c
theorem Rl.asO {p : Addr} {o : HO} (R : Rl K (e.with p o) s σ F H) (i : Nat) (x : Sl) (q : s.sl[i]? = some x) (io : isOwn x = true) : σ[i]? ≠ some (some (.ref p)) := by
  intro z
  have k := R.slot i x q
  cases x with
  | own xs =>
    obtain ⟨p', vs, hw, h1, _⟩ := k
    rw [z] at hw
    cases hw
    have h1 : upd e.H0 p o p = none := h1
    rw [upd_same] at h1
    cases h1
  | un => cases io
  | val _ => cases io
  | ref => cases io
/-- it changes -/
theorem Rl.asSet {p : Addr} {o o' : HO} (A : As e p) (R : Rl K (e.with p o) s σ F H) : Rl K (e.with p o') s σ F (upd H p o') := by
  have hF := R.asF A
  have own := R.asO
  refine ⟨fun b u q => ?_, fun b u q => ?_, R.f0, fun b u q hc => ?_, fun a ha => ?_, fun i x q => ?_, R.dist, R.len⟩
  · rw [upd_ne (ne_of_none q hF)]
    exact R.sub b u q
  · rcases R.fnew b u q with z | z
    · exact .inl z
    · refine .inr ?_
      have z : upd e.H0 p o b = none := z
      show upd e.H0 p o' b = none
      rw [upd_ne (ne_of_none q hF)] at z ⊢
      exact z
  · have q : upd e.H0 p o' b = some u := q
    by_cases hb : b = p
    · subst hb
      rw [upd_same] at q ⊢
      exact q
    · rw [upd_ne hb] at q ⊢
      exact R.keep b u (by show upd e.H0 p o b = some u; rw [upd_ne hb]; exact q) hc
  · obtain ⟨h1, vs, h2, r⟩ := R.cell a ha
    have na : a ≠ p := fun z => A.c (by rw [← z]; exact ha.symm)
    exact ⟨h1, vs, by rw [upd_ne na]; exact h2, r⟩
  · have k := R.slot i x q
    cases x with
    | own xs =>
      obtain ⟨p', vs, hw, h1, h2, h3, h4, r⟩ := k
      have np : p' ≠ p := fun z => own i _ q rfl (by rw [hw, z])
      have h1 : upd e.H0 p o p' = none := h1
      rw [upd_ne np] at h1
      exact ⟨p', vs, hw, by show upd e.H0 p o' p' = none; rw [upd_ne np]; exact h1, h2, h3, by rw [upd_ne np]; exact h4, r⟩
    | un => exact k
    | val _ => exact k
    | ref => exact k
/-- it is one's own again -/
theorem Rl.asEnd {p : Addr} {o : HO} (A : As e p) (R : Rl K (e.with p o) s σ F H) : Rl K e s σ F H := by
  have own := R.asO
  refine ⟨R.sub, fun b u q => ?_, R.f0, fun b u q hc => ?_, R.cell, fun i x q => ?_, R.dist, R.len⟩
  · rcases R.fnew b u q with z | z
    · exact .inl z
    · refine .inr ?_
      have z : upd e.H0 p o b = none := z
      by_cases hb : b = p
      · rw [hb]; exact A.h0
      · rw [upd_ne hb] at z
        exact z
  · have hb : b ≠ p := fun z => by rw [z, A.h0] at q; cases q
    exact R.keep b u (by show upd e.H0 p o b = some u; rw [upd_ne hb]; exact q) hc
  · have k := R.slot i x q
    cases x with
    | own xs =>
      obtain ⟨p', vs, hw, h1, h2, h3, h4, r⟩ := k
      have np : p' ≠ p := fun z => own i _ q rfl (by rw [hw, z])
      have h1 : upd e.H0 p o p' = none := h1
      rw [upd_ne np] at h1
      exact ⟨p', vs, hw, h1, h2, h3, h4, r⟩
    | un => exact k
    | val _ => exact k
    | ref => exact k
end
end Pi
set_option maxRecDepth 100000
set_option maxHeartbeats 3900000
namespace Pi
open PySem PySem.Spec L2 PyProof.Rows
theorem wipe_get (σ : Sg) : ∀ (is : List Nat) (j : Nat), (L2.wipe σ is)[j]? = if j ∈ is then (σ[j]?).map (fun _ => none) else σ[j]?
  | [], j => by simp [L2.wipe]
  | i :: is, j => by
    unfold L2.wipe
    by_cases h : i = j
    · subst h
      have hm : i ∈ i :: is := by simp
      rw [if_pos hm]
      by_cases hl : i < σ.length
      · rw [List.getElem?_set_self (by rw [wipe_length]; exact hl), List.getElem?_eq_getElem hl]
        rfl
      · rw [List.getElem?_eq_none (by rw [List.length_set, wipe_length]; omega), List.getElem?_eq_none (by omega)]
        rfl
    · rw [List.getElem?_set_ne h, wipe_get σ is j]
      have hm : (j ∈ i :: is) ↔ j ∈ is := by simp [Ne.symm h]
      by_cases hj : j ∈ is
      · rw [if_pos hj, if_pos (hm.mpr hj)]
      · rw [if_neg hj, if_neg (fun z => hj (hm.mp z))]
theorem wipe_idem (σ : Sg) (is : List Nat) : L2.wipe (L2.wipe σ is) is = L2.wipe σ is := by
  apply List.ext_getElem?; intro j
  rw [wipe_get, wipe_get]
  by_cases h : j ∈ is
  · simp only [if_pos h, Option.map_map]
    rfl
  · simp only [if_neg h]
theorem wipe_set (σ : Sg) (is : List Nat) (i : Nat) (o : Option V) (h : i ∈ is) : L2.wipe (σ.set i o) is = L2.wipe σ is := by
  apply List.ext_getElem?; intro j
  rw [wipe_get, wipe_get]
  by_cases hj : j ∈ is
  · simp only [if_pos hj]
    by_cases e : i = j
    · subst e
      by_cases hl : i < σ.length
      · rw [List.getElem?_set_self hl, List.getElem?_eq_getElem hl]; rfl
      · rw [List.getElem?_eq_none (by rw [List.length_set]; omega), List.getElem?_eq_none (by omega)]
    · rw [List.getElem?_set_ne e]
  · simp only [if_neg hj]
    rw [List.getElem?_set_ne (fun z => hj (by rw [← z]; exact h))]
theorem wipe_sub {σ σ' : Sg} {is js : List Nat} (h : L2.wipe σ is = L2.wipe σ' is) (hs : ∀ i ∈ is, i ∈ js) : L2.wipe σ js = L2.wipe σ' js := by
  apply List.ext_getElem?; intro j
  have z := congrArg (fun l : Sg => l[j]?) h
  simp only [wipe_get] at z ⊢
  by_cases hj : j ∈ js
  · simp only [if_pos hj]
    by_cases hi : j ∈ is
    · simp only [if_pos hi] at z
      exact z
    · simp only [if_neg hi] at z
      rw [z]
  · have hi : j ∉ is := fun q => hj (hs j q)
    simp only [if_neg hi] at z
    simp only [if_neg hj]
    exact z
theorem putAll_len : ∀ {is : List Nat} {s s' : Fr} {ds : List D}, putAll s is ds = some s' → ds.length = is.length
  | [], _, _, [], _ => rfl
  | [], _, _, _ :: _, h => by cases h
  | _ :: _, _, _, [], h => by cases h
  | i :: is, s, s', d :: ds, h => by simp [putAll_len (is := is) (ds := ds) h]
/-! ### targets of loops -/
def gT (K : PySem.W.Frag) (tg : Tg) : L2.TG := fun v σ H Q => ∃ e s F d s', Rl K e s σ F H ∧ Rp K F v d ∧ tg.bind d s = some s' ∧ ∀ σ', L2.wipe σ' tg.slots = L2.wipe σ tg.slots → Rl K e s' σ' F H → Q σ' H
def gNs (K : PySem.W.Frag) (is : List Nat) : TGs := fun vs σ H Q => ∃ e s F ds s', Rl K e s σ F H ∧ RpA K F vs ds ∧ putAll s is ds = some s' ∧ ∀ σ', L2.wipe σ' is = L2.wipe σ is → Rl K e s' σ' F H → Q σ' H
theorem L2PG_imp {X : Cx} {e : Expr} {t t' : L2.TG} (h : PG X e t) (i : ∀ v σ H Q, t' v σ H Q → t v σ H Q) : PG X e t' := ⟨fun pins s σ H v u Q I r q => h.run pins s σ H v u Q I r (i v σ H Q q)⟩
theorem L2PGs_imp {X : Cx} {e : List Expr} {t t' : TGs} (h : PGs X e t) (i : ∀ v σ H Q, t' v σ H Q → t v σ H Q) : PGs X e t' := ⟨fun pins s σ H v u Q I r q => h.run pins s σ H v u Q I r (i v σ H Q q)⟩
section
variable {X : Cx} {fn : Str → Bool}
theorem tg_loc {N : List Str} {sc : Scope} {x : Str} {i : Nat} (h : tgOk N sc fn x i = true) : N[i]? = some x ∧ Loc sc x ∧ (fn x = true ∨ sc.names.lookup x = some .local) := by
  unfold tgOk at h
  simp only [and_iff2, dec_iff] at h
  obtain ⟨h1, h2⟩ := h
  refine ⟨h1, ?_⟩
  split at h2
  · rename_i q
    exact ⟨.inl q, .inr q⟩
  · rename_i q
    exact ⟨.inr q, .inl h2⟩
  · cases h2
theorem pg_nm {x : Str} {pos : Pos} {i : Nat} (hN : X.N.Nodup) (hf : ∀ x, fn x = true → X.fn x = true) (h : tgOk X.N X.env.scope fn x i = true) : PG X (.Name x pos) (gT X.K (.nm i)) := by
  obtain ⟨h1, h2, h3⟩ := tg_loc h
  refine L2PG_imp (pg_name hN h1 h2 (h3.imp (hf x) id)) fun v σ H Q ⟨e, s, F, d, s', R, rp, q, k⟩ => ?_
  cases q
  exact k _ (wipe_set σ [i] i (some v) (by simp)) (R.store rp)
theorem each_names {env : Env} {N : List Str} {sc : Scope} : ∀ {is : List Nat} {es : List Expr}, tgsOk N sc fn is es = true → (assignEach es env).length = is.length ∧ (assignEach es env).findIdx? (·.1) = none
  | [], [], _ => ⟨rfl, rfl⟩
  | i :: is, [], h => by unfold tgsOk at h; cases h
  | [], _ :: _, h => by unfold tgsOk at h; cases h
  | i :: is, e :: es, h => by
    cases e <;> first | (simp only [tgsOk, Bool.false_eq_true] at h; done) | skip
    rename_i x pos
    simp only [tgsOk, Bool.and_eq_true] at h
    obtain ⟨h1, h2⟩ := each_names (env := env) h.2
    refine ⟨?_, ?_⟩
    · show (assignEach es env).length + 1 = _
      rw [h1]; rfl
    · show ((false, _) :: assignEach es env).findIdx? (·.1) = none
      rw [List.findIdx?_cons]
      simp [h2]
theorem pgs_nms (hN : X.N.Nodup) (hf : ∀ x, fn x = true → X.fn x = true) : ∀ {is : List Nat} {es : List Expr}, tgsOk X.N X.env.scope fn is es = true → PGs X es (gNs X.K is)
  | [], [], _ => L2PGs_imp pgs_nil fun vs σ H Q ⟨e, s, F, ds, s', R, ra, q, k⟩ => by
    cases ds with
    | cons _ _ => cases q
    | nil =>
      cases q
      have z : vs = [] := List.eq_nil_of_length_eq_zero ra.1
      exact ⟨z, k σ rfl R⟩
  | i :: is, [], h => by unfold tgsOk at h; cases h
  | [], _ :: _, h => by unfold tgsOk at h; cases h
  | i :: is, e :: es, h => by
    cases e <;> first | (simp only [tgsOk, Bool.false_eq_true] at h; done) | skip
    rename_i x pos
    simp only [tgsOk, Bool.and_eq_true] at h
    obtain ⟨h1, h2, h3⟩ := tg_loc h.1
    refine L2PGs_imp (pgs_cons (pg_name hN h1 h2 (h3.imp (hf x) id)) (pgs_nms hN hf h.2)) fun vs σ H Q ⟨e, s, F, ds, s', R, ra, q, k⟩ => ?_
    cases ds with
    | nil => cases q
    | cons d ds =>
      cases vs with
      | nil => have := ra.1; simp at this
      | cons v vs =>
        obtain ⟨r1, r2⟩ := ra.cons_inv
        refine ⟨v, vs, rfl, e, s.put i (.val d), F, ds, s', R.store r1, r2, q, fun σ' hw R' => k σ' ?_ R'⟩
        have hw2 := wipe_sub (js := i :: is) hw (fun j hj => List.mem_cons_of_mem _ hj)
        rw [hw2]
        exact wipe_set σ (i :: is) i (some v) (by simp)
theorem pg_T {N : List Str} {sc : Scope} (hc : X.calm = true) (hXN : X.N = N) (hsc : X.env.scope = sc) (hN : X.N.Nodup) (hf : ∀ x, fn x = true → X.fn x = true) : ∀ {tg : Tg} {e : Expr}, chkTg N sc fn tg e = true → PG X e (gT X.K tg) := by
  subst hXN hsc
  intro tg e h
  cases tg with
  | nm i =>
    cases e <;> first | (simp only [chkTg, Bool.false_eq_true] at h; done) | skip
    exact pg_nm hN hf h
  | tp is =>
    cases e <;> first | (simp only [chkTg, Bool.false_eq_true] at h; done) | skip
    rename_i es kk pos
    have h : tgsOk X.N X.env.scope fn is es = true := h
    obtain ⟨l1, l2⟩ := each_names (env := X.env) h
    refine L2PG_imp (pg_tup hc (pgs_nms hN hf h) l1 l2) fun v σ H Q ⟨e, s, F, d, s', R, rp, q, k⟩ => ?_
    unfold Tg.bind at q
    cases d <;> simp only [reduceCtorEq] at q
    rename_i ds
    cases rp with
    | @tup a vs _ hF hl hr =>
      refine ⟨a, vs, rfl, sqt_mono R.sub hF, ?_, e, s, F, ds, s', R, ⟨hl, hr⟩, q, k⟩
      rw [hl]
      exact putAll_len q
/-! ### [.. for .. in .. if ..] -/
def g0 (g : Wi) : Wi := ⟨g.cn, fun _ _ _ _ => False⟩
def tCd (K : PySem.W.Frag) (g : Wi) (w : Wd) (c : IO) : TT := fun σ H Q => ∃ e s F, Rl K e s σ F H ∧ Po K g e σ F (fun b _ _ H => Q b H) (evC w c s)
theorem drop_get {α : Type} {l : List α} {i : Nat} {x : α} (h : l[i]? = some x) : l.drop i = x :: l.drop (i + 1) := by
  rw [List.drop_eq_getElem_cons (lt_get h), (List.getElem_eq_iff (lt_get h)).mpr h]
theorem t_lcm {g : Wi} {w : Wd} {a : IE} {tg : Tg} {it : IT} {cond : IO} {σ : Sg} {H : Hp} {Q : VK} (h : tE X.K g w (.lcm a tg it cond) σ H Q) : tLc (tI X.K g w it) (gT X.K tg) (tCd X.K (g0 g) w cond) (tE X.K (g0 g) w a) tg.slots σ H Q := by
  obtain ⟨e, s, F, R, h⟩ := h
  unfold ev at h
  refine ⟨e, s, F, R, h.bind.imp fun xs s1 F1 H1 R1 sm h1 J jok pD hD => ?_⟩
  generalize hf : (fun (x : D) (s2 : Fr) => match tg.bind x (s2.wipe tg.slots) with
      | none => Rs.stuck
      | some s3 => (evC w cond s3).bind fun t s4 => if t then (ev w a s4).bind fun y s5 => (y.fz s5).bind fun d s6 => Rs.ok (some d) s6 else Rs.ok none s4) = f at h1
  cases q : lcGo f xs s1 with
  | stuck => simp only [q] at h1; exact h1.elim
  | exc c fs t => simp only [q] at h1; exact h1.elim
  | ok ds s2 =>
    simp only [q] at h1
    split at h1
    case isFalse => exact h1.elim
    rename_i hlim
    have A := R1.as hD
    refine ⟨fun i m H => ∃ s' F' acc as rest, Rl X.K (e.with pD (.lst acc)) (s'.wipe tg.slots) (L2.wipe σ tg.slots) F' H ∧ Same F1 F' ∧ RpA X.K F' acc as ∧ lcGo f (xs.drop i) s' = .ok rest s2 ∧ as ++ rest = ds ∧ m = xs.length - i ∧ i ≤ xs.length,
      ⟨xs.length, s1, F1, [], [], ds, (R1.aside hD).wipe _, Same.refl F1, .nil, by rw [List.drop_zero]; exact q, rfl, by omega, by omega⟩, ?_⟩
    rintro i m H ⟨s', F', acc, as, rest, R', sm', ra, hgo, hds, rfl, hi⟩
    cases hx : xs[i]? with
    | none =>
      have hl : i = xs.length := by
        have := List.getElem?_eq_none_iff.mp hx
        omega
      subst hl
      refine .inl ⟨(jok.mono sm').stop H R'.sub, ?_⟩
      rw [List.drop_length] at hgo
      unfold lcGo at hgo
      cases hgo
      rw [List.append_nil] at hds
      subst hds
      have RE := R'.asEnd A
      have RB : Rl X.K e ((s2.wipe tg.slots).back s1 tg.slots) σ F' H := R1.back RE sm' (wipe_idem σ _)
      refine h1 H F' RB sm' _ ⟨pD, acc, rfl, A.h0, R'.asF A, A.c, R'.asH A, ra, fun j x qj io z => ?_⟩
      -- no slot of one's own holds it
      have k := RB.slot j x qj
      cases x with
      | own ys =>
        obtain ⟨p', vs, hw, k1, k2, k3, k4, k5⟩ := k
        rw [z] at hw
        cases hw
        have RB2 : Rl X.K (e.with pD (.lst acc)) ((s2.wipe tg.slots).back s1 tg.slots) σ F' H := by
          have R1' := (R1.aside (o := .lst acc) hD)
          exact R1'.back R' sm' (wipe_idem σ _)
        exact RB2.asO j _ qj rfl z
      | un => cases io
      | val _ => cases io
      | ref => cases io
    | some x =>
      refine .inr ⟨((jok.mono sm').go i H x R'.sub hx).1, fun H' => ∃ s' F' acc as rest, Rl X.K (e.with pD (.lst acc)) (s'.wipe tg.slots) (L2.wipe σ tg.slots) F' H' ∧ Same F1 F' ∧ RpA X.K F' acc as ∧ lcGo f (xs.drop (i + 1)) s' = .ok rest s2 ∧ as ++ rest = ds, fun H' ⟨s', F', acc, as, rest, k1, k2, k3, k4, k5⟩ => ?_, fun v H' y => ?_⟩
      · have hl : i < xs.length := (List.getElem?_eq_some_iff.mp hx).1
        exact ⟨xs.length - (i + 1), by omega, s', F', acc, as, rest, k1, k2, k3, k4, k5, rfl, hl⟩
      · obtain ⟨F2, R2, sm2, rp⟩ := jok.turn R' sm' hx y
        rw [drop_get hx] at hgo
        unfold lcGo at hgo
        cases hfx : f x s' with
        | stuck => simp only [hfx] at hgo; cases hgo
        | exc c fs t => simp only [hfx] at hgo; cases hgo
        | ok yo s3 =>
          simp only [hfx] at hgo
          cases hr : lcGo f (xs.drop (i + 1)) s3 with
          | stuck => simp only [hr] at hgo; cases hgo
          | exc c fs t => simp only [hr] at hgo; cases hgo
          | ok ys s4 =>
            simp only [hr] at hgo
            cases hgo
            rw [← hf] at hfx
            simp only at hfx
            cases hb : tg.bind x (s'.wipe tg.slots) with
            | none => rw [hb] at hfx; cases hfx
            | some sb =>
              rw [hb] at hfx
              simp only at hfx
              refine ⟨_, s'.wipe tg.slots, F2, x, sb, R2, rp, hb, fun σ2 hw R3 => ?_⟩
              rw [wipe_idem] at hw
              refine ⟨hw, _, sb, F2, R3, ?_⟩
              cases hc : evC w cond sb with
              | stuck => rw [hc] at hfx; cases hfx
              | exc c fs t => rw [hc] at hfx; cases hfx
              | ok t sc =>
                rw [hc] at hfx
                simp only [Rs.bind] at hfx
                intro H4 F4 R4 sm4
                cases t with
                | false =>
                  simp only [Bool.false_eq_true, if_false] at hfx ⊢
                  cases hfx
                  refine ⟨_, F4, acc, as, ys, ?_, (sm'.trans sm2).trans sm4, (ra.mono sm2).mono sm4, hr, hds⟩
                  rw [← hw]
                  exact R4.wipe _
                | true =>
                  simp only [if_true] at hfx ⊢
                  refine ⟨_, sc, F4, R4, ?_⟩
                  cases he : ev w a sc with
                  | stuck => rw [he] at hfx; cases hfx
                  | exc c fs t => rw [he] at hfx; cases hfx
                  | ok er s5 =>
                    rw [he] at hfx
                    simp only [Rs.bind] at hfx
                    intro H5 F5 R5 sm5 yv rv
                    cases hz : er.fz s5 with
                    | stuck => rw [hz] at hfx; cases hfx
                    | exc c fs t => exact (fz_no hz).elim
                    | ok d s6 =>
                      rw [hz] at hfx
                      simp only [Rs.bind] at hfx
                      cases hfx
                      obtain ⟨F6, R6, sm6, rp6⟩ := R5.fzz rv hz
                      refine ⟨acc, R6.asH A, ?_, _, F6, acc ++ [yv], as ++ [d], ys, ?_, (((sm'.trans sm2).trans sm4).trans sm5).trans sm6, ?_, hr, ?_⟩
                      · rw [ra.1]
                        have := congrArg List.length hds
                        simp at this
                        have l1 : lim < sizeLine := by decide
                        omega
                      · rw [← hw]
                        exact (R6.asSet A).wipe _
                      · exact ((((ra.mono sm2).mono sm4).mono sm5).mono sm6).append (.cons rp6 .nil)
                      · rw [List.append_assoc]
                        exact hds
end
end Pi
set_option maxRecDepth 100000
set_option maxHeartbeats 3900000
namespace Pi
open PySem PySem.Spec L2 PyProof.Rows
/-! ### errors that were caught, as values -/
theorem ext_at {P : Program} {w : World} {H : Hp} {h : Heap} {b a c : Addr} {d : Option Addr} (hok : HOk P w H h) (e : H b = some (exq a c d)) : ∃ oe vs, h.get? a = some oe ∧ oe.cls = .ref c ∧ oe.dict = d ∧ oe.data = .fields vs := by
  have x : ObjOk P w H h b (.ext fun h => ∃ oe vs, h.get? a = some oe ∧ oe.cls = .ref c ∧ oe.dict = d ∧ oe.data = .fields vs) := hok b _ e
  exact x.1
section
variable {X : Cx} {pins : List (Addr × Obj)} {σ : Sg} {F H : Hp} {s : Shared} {v : V} {c : Tx} {fs : List (Tx × D)}
/-- the fields of an error, as its namespace holds them -/
theorem xd_ns {dx : Addr} {vs : List (Str × V)} (I : Inv X pins σ H s) (h : H dx = some (.xd vs)) : ∃ o, s.heap.get? dx = some o ∧ ∀ n y, vs.lookup n = some y → ∃ u, PySem.W.lookIn n o = some (some u) ∧ RelV y u := by
  rcases (I.hok dx _ h : ObjOk X.prog X.w H s.heap dx (.xd vs)) with ⟨m, ns, rel⟩
  refine (lookIn_ns ns).imp fun o ⟨g, look⟩ => ⟨g, fun n y hy => ?_⟩
  have z := rel n
  rw [hy] at z
  exact (RelO.some_of z).imp fun u ⟨e, r⟩ => ⟨by rw [look, e], r⟩
theorem look_tx {K : PySem.W.Frag} : ∀ {fs : List (Tx × D)} {vs : List (Str × V)} {f : Tx} {d : D}, vs.map (·.1) = fs.map (fun p => tx p.1) → (∀ (i : Nat) p q, vs[i]? = some p → fs[i]? = some q → Rp K F p.2 q.2) → fs.lookup f = some d → ∃ v, vs.lookup (tx f) = some v ∧ Rp K F v d
  | [], _, f, d, _, _, h => by cases h
  | (k, x) :: fs, [], f, d, l, _, _ => by simp at l
  | (k, x) :: fs, (n, y) :: vs, f, d, l, r, h => by
    simp only [List.map_cons, List.cons.injEq] at l
    obtain ⟨rfl, l⟩ := l
    by_cases e : f = k
    · subst e
      simp only [List.lookup, beq_self_eq_true, Option.some.injEq] at h
      subst h
      exact ⟨y, by simp [List.lookup], r 0 _ _ rfl rfl⟩
    · have e1 : (f == k) = false := by simpa using e
      have e2 : (tx f == tx k) = false := (beq_eq_false_iff_ne (a := tx f) (b := tx k)).mpr fun z => e (tx_inj.mp z)
      simp only [List.lookup, e1] at h
      obtain ⟨v, h1, h2⟩ := look_tx l (fun i p q a b => r (i + 1) p q (by simpa using a) (by simpa using b)) h
      exact ⟨v, by simp only [List.lookup, e2]; exact h1, h2⟩
/-- an error as a value: its object, and under each of its fields what stands for the field's data -/
theorem exc_full (I : Inv X pins σ H s) (sm : Same F H) (rp : Rp X.K F v (.exc c fs)) : ∃ a oe od, v = .ref a ∧ PySem.W.InstAt s.heap a oe (adr X.K c) od ∧
    ∀ f d, fs.lookup f = some d → ∃ o y u, od = some o ∧ PySem.W.lookIn (tx f) o = some (some u) ∧ RelV y u ∧ Rp X.K F y d := by
  cases rp with
  | @ex0 a _ h =>
    have ⟨oe, ws, g, k, e, t⟩ := ext_at I.hok (sm _ _ h)
    exact ⟨a, oe, none, rfl, ⟨g, k, by simp [PySem.W.notCls, t], by simp [e]⟩, fun f d l => by cases l⟩
  | @ex1 a dx _ vs _ h hd l r =>
    have ⟨oe, ws, g, k, e, t⟩ := ext_at I.hok (sm _ _ h)
    have ⟨o, go, look⟩ := xd_ns I (sm _ _ hd)
    refine ⟨a, oe, some o, rfl, ⟨g, k, by simp [PySem.W.notCls, t], by rw [e]; exact go⟩, fun f d q => ?_⟩
    have ⟨y, hy, ry⟩ := look_tx l r q
    have ⟨u, hu, ru⟩ := look _ _ hy
    exact ⟨o, y, u, rfl, hu, ru, ry⟩
theorem exc_inst (I : Inv X pins σ H s) (sm : Same F H) (rp : Rp X.K F v (.exc c fs)) : ∃ a oe od, v = .ref a ∧ PySem.W.InstAt s.heap a oe (adr X.K c) od :=
  (exc_full I sm rp).imp fun _ z => z.imp fun _ z => z.imp fun _ z => ⟨z.1, z.2.1⟩
/-- .f of it -/
theorem exc_attr {f : Tx} {d : D} {E : Value → Shared → Prop} {Q : VK} {u : Value} {A : Around} {fld : List Str} (I : Inv X pins σ H s) (sm : Same F H) (rp : Rp X.K F v (.exc c fs)) (ru : RelV v u) (hx : XcOk X.K (adr X.K c) fld) (hf : tx f ∈ fld) (l : fs.lookup f = some d) (k : ∀ y, Rp X.K F y d → Q y H) :
    wpAny (model X.prog X.w) A (getAttr u (tx f) true) (EP X pins σ Q) E s := by
  have ⟨a, oe, od, ev, J, all⟩ := exc_full I sm rp
  have ⟨o, y, w, eo, lk, rw', ry⟩ := all f d l
  subst ev eo
  cases (ru : u = Value.ref a)
  have own := PySem.W.findObj_own hx.hd (hx.fd _ hf) rfl lk
  exact HandSPX.exc_get I.kIn J hx.hg hx.hk hx.hs own (handed_of rw') ⟨y, H, I.tok _, rw', k y ry⟩
end
/-! ### isinstance -/
def rIsx (K : PySem.W.Frag) (fld : List Str) (k : Cl) : List V → Hp → VK → Prop := fun xs H Q => ∃ (F : Hp) (v : V) (c : Tx) (fs : List (Tx × D)) (b : Bool), Same F H ∧ xs = [v, clV K k] ∧ Rp K F v (.exc c fs) ∧ XcOk K (adr K c) fld ∧ PySem.W.kitOne K (.ref (adr K c)) (clU K k) = some b ∧ Q (.bl b) H
def rIsxs (K : PySem.W.Frag) (fld : List Str) (ks : List Cl) : List V → Hp → VK → Prop := fun xs H Q => ∃ (F : Hp) (v : V) (tp : Addr) (c : Tx) (fs : List (Tx × D)) (b : Bool), Same F H ∧ xs = [v, .ref tp] ∧ H tp = some (.tup (ks.map (clV K))) ∧ Rp K F v (.exc c fs) ∧ XcOk K (adr K c) fld ∧ PySem.W.kitAny K (.ref (adr K c)) (ks.map (clU K)) = some b ∧ Q (.bl b) H
theorem clV_u {K : PySem.W.Frag} {k : Cl} {u : Value} (h : RelV (clV K k) u) : u = clU K k := by
  cases k <;> exact h
theorem clV_us {K : PySem.W.Frag} : ∀ {ks : List Cl} {us : List Value}, Vals (ks.map (clV K)) us → us = ks.map (clU K)
  | [], us, h => by
    rw [List.map_nil] at h
    cases h
    rfl
  | k :: ks, us, h => by
    rw [List.map_cons] at h
    cases h with
    | cons a b =>
      rw [List.map_cons, clV_us b, clV_u a]
theorem call_isx {X : Cx} (fld : List Str) (k : Cl) : CallR X (.builtin "isinstance") (rIsx X.K fld k) := by
  rintro pins s σ H xs us Q I r ⟨F, v, c, fs, b, sm, rfl, rp, hx, e, q⟩
  obtain ⟨u, u', rfl, ru, ru'⟩ := vals2 r
  obtain ⟨a, oe, od, rfl, J⟩ := exc_inst I sm rp
  cases (ru : u = Value.ref a)
  obtain rfl := clV_u ru'
  exact PySem.W.kia_one (PySem.W.kitx_exc (ox := oe) (od := od) hx.ec hx.hg hx.hk hx.hs hx.ha hx.hn hx.ht hx.hm) I.kIn J e (fun z => nomatch z) fun tk => ⟨.bl b, H, I.kept (t' := tk) fun _ _ z => z, rfl, q⟩
theorem call_isxs {X : Cx} (fld : List Str) (ks : List Cl) : CallR X (.builtin "isinstance") (rIsxs X.K fld ks) := by
  rintro pins s σ H xs us Q I r ⟨F, v, tp, c, fs, b, sm, rfl, htp, rp, hx, e, q⟩
  obtain ⟨u, u', rfl, ru, ru'⟩ := vals2 r
  obtain ⟨a, oe, od, rfl, J⟩ := exc_inst I sm rp
  cases (ru : u = Value.ref a)
  obtain rfl : u' = Value.ref tp := ru'
  obtain ⟨its, rv, ⟨o, h1, h2, n, h3⟩, hz⟩ := I.tuple (SqT.of htp)
  have ei := clV_us rv
  subst ei
  obtain ⟨oc, od2, oda, osl⟩ := o
  dsimp only at h2 h3
  subst h2 h3
  exact PySem.W.kia_tup (PySem.W.kitx_exc (ox := oe) (od := od) hx.ec hx.hg hx.hk hx.hs hx.ha hx.hn hx.ht hx.hm) I.kIn J h1 e (fun z => nomatch z) fun tk => ⟨.bl b, H, I.kept (t' := tk) fun _ _ z => z, rfl, q⟩
section
variable {X : Cx} {T : Tb} {cm : Bool} {N : List Str} {sc : Scope} {p : Pg} {n : Nat} {g : Wi}
theorem pe_clsN (G : Gx X T cm N sc p n g) {x : Str} {k : Cl} {pos : Pos} (h : (x, k) ∈ T.xcl) (hg : globOk sc x = true) : PE X (.Name x pos) (tC (clV X.K k)) := by
  obtain ⟨gl, gd, gn⟩ := gl_of G hg
  rcases G.pf.xcl x k h with ⟨c, rfl, hm⟩ | ⟨hm, t, e1, e2, e3, e4, e5⟩
  · exact pe_glob gl hm rfl gd
  · rw [e1]
    exact pe_bltn gl hm e4 rfl e5 gd
theorem kit_any (G : Gx X T cm N sc p n g) {c : Tx} : ∀ {ks : List Cl} {b : Bool}, anyCl (p.wd n) c ks = some b → PySem.W.kitAny X.K (.ref (adr X.K c)) (ks.map (clU X.K)) = some b
  | [], b, h => h
  | k :: ks, b, h => by
    unfold anyCl at h
    unfold PySem.W.kitAny
    have hc : (p.wd n).cl = p.cl := rfl
    rw [hc] at h
    rw [List.map_cons]
    cases q : p.cl c k with
    | none => rw [q] at h; cases h
    | some t =>
      rw [q] at h
      obtain ⟨_, k1, _⟩ := G.pf.cls c k t q
      simp only [k1]
      cases t with
      | true => exact h
      | false => exact kit_any G h
theorem t_isx (G : Gx X T cm N sc p n g) {a : IE} {k : Cl} {σ : Sg} {H : Hp} {Q : VK} (h : tE X.K g (p.wd n) (.isx a k) σ H Q) : tCB (rIsx X.K T.fld k) (tCons (tE X.K g (p.wd n) a) (tCons (tC (clV X.K k)) tNil)) σ H Q := by
  obtain ⟨e, s, F, R, h⟩ := h
  unfold ev at h
  refine ⟨e, s, F, R, h.bind.imp fun er s1 F1 H1 R1 sm h1 v rv => ?_⟩
  split at h1
  · rename_i c fs
    have hc : (p.wd n).cl = p.cl := rfl
    rw [hc] at h1
    cases q : p.cl c k with
    | none => rw [q] at h1; exact h1.elim
    | some b =>
      rw [q] at h1
      obtain ⟨x1, x2, _⟩ := G.pf.cls c k b q
      exact ⟨F1, v, c, fs, b, R1.sub, rfl, rv, x1, x2, vo_bool h1 R1⟩
  · exact h1.elim
/-- the classes in a tuple -/
theorem pa_cls (G : Gx X T cm N sc p n g) : ∀ {ks : List Cl} {xs : List Expr}, xclOk T sc ks xs = true → PA X xs (fun _ H Q => Q (ks.map (clV X.K)) H)
  | [], [], _ => pa_nil
  | _ :: _, [], h => by simp only [xclOk, Bool.false_eq_true] at h
  | [], _ :: _, h => by simp only [xclOk, Bool.false_eq_true] at h
  | k :: ks, x :: xs, h => by
    cases x <;> first | (simp only [xclOk, Bool.false_eq_true] at h; done) | skip
    simp only [xclOk, Bool.and_eq_true, decide_eq_true_eq] at h
    exact (pa_cons (pe_clsN G h.1.1 h.1.2) (pa_cls G h.2) rfl).imp fun σ H Q h => h
theorem t_isxs (G : Gx X T cm N sc p n g) {a : IE} {ks : List Cl} (hk : ks.isEmpty = false) (hl : ks.length ≤ 100) {σ : Sg} {H : Hp} {Q : VK} (h : tE X.K g (p.wd n) (.isxs a ks) σ H Q) :
    tCB (rIsxs X.K T.fld ks) (tCons (tE X.K g (p.wd n) a) (tCons (tTup (fun _ H Q => Q (ks.map (clV X.K)) H)) tNil)) σ H Q := by
  obtain ⟨e, s, F, R, h⟩ := h
  unfold ev at h
  refine ⟨e, s, F, R, h.bind.imp fun er s1 F1 H1 R1 sm h1 v rv => ?_⟩
  split at h1
  · rename_i c fs
    cases q : anyCl (p.wd n) c ks with
    | none => rw [q] at h1; exact h1.elim
    | some b =>
      rw [q] at h1
      have x2 := kit_any G q
      have x1 : XcOk X.K (adr X.K c) T.fld := by
        cases ks with
        | nil => cases hk
        | cons k ks =>
          unfold anyCl at q
          have hc : (p.wd n).cl = p.cl := rfl
          rw [hc] at q
          cases q2 : p.cl c k with
          | none => rw [q2] at q; cases q
          | some t => exact (G.pf.cls c k t q2).1
      refine ⟨by rw [List.length_map, sizeLine_eq]; omega, fun tp htp => ?_⟩
      have R2 := R1.put (o := .tup (ks.map (clV X.K))) htp
      have rv : Rp X.K F1 v (.exc c fs) := rv
      exact ⟨F1, v, tp, c, fs, b, R2.sub, rfl, upd_same, rv, x1, x2, vo_bool h1 R2⟩
  · exact h1.elim
theorem pe_attrD (G : Gx X T cm N sc p n g) {o : IE} {f : Tx} {e : Expr} {pos : Pos} (hf : txS f ∈ T.fld) (hs : noSup e = true) (ho : PE X e (tE X.K g (p.wd n) o)) : PE X (.Attribute e (txS f) pos) (tE X.K g (p.wd n) (.attr o f)) := by
  constructor; intro pins s σ H Q I h
  obtain ⟨en, fr, F, R, h⟩ := h
  unfold ev at h
  have hq : tE X.K g (p.wd n) o σ H fun v H1 => ∃ (F : Hp) (c : Tx) (fs : List (Tx × D)) (d : D), Same F H1 ∧ Rp X.K F v (.exc c fs) ∧ XcOk X.K (adr X.K c) T.fld ∧ fs.lookup f = some d ∧ ∀ y, Rp X.K F y d → Q y H1 := by
    refine ⟨en, fr, F, R, h.bind.imp fun er s1 F1 H1 R1 sm h1 v rv => ?_⟩
    split at h1
    · rename_i c fs
      have hc : (p.wd n).cl = p.cl := rfl
      rw [hc] at h1
      cases q : p.cl c .ve with
      | none => rw [q] at h1; exact h1.elim
      | some b =>
        rw [q] at h1
        obtain ⟨x1, _, _⟩ := G.pf.cls c .ve b q
        cases q2 : fs.lookup f with
        | none => simp only [q2] at h1; exact h1.elim
        | some d =>
          simp only [q2] at h1
          exact ⟨F1, c, fs, d, R1.sub, rv, x1, q2, fun y ry => h1 H1 F1 R1 (Same.refl F1) y ry⟩
    · exact h1.elim
  refine attr_of (base_of hs) (thn (ho.run pins s σ H _ I hq) fun u s1 ⟨v, H1, I1, r1, F1, c, fs, d, sm, rp, x1, l, k⟩ => ?_)
  exact exc_attr I1 sm rp r1 x1 hf l k
/-! ### {..} -/
theorem cst_v {c : Const} {d : D} {j : Nat} {pos : Pos} (h : cstOk c d = true) : ∃ v, PE X (.Constant c j pos) (tC v) ∧ ∀ F, Rp X.K F v d := by
  cases c <;> cases d <;> simp only [cstOk, Bool.false_eq_true] at h
  · exact ⟨_, pe_non, fun F => .non⟩
  · rename_i a b
    have e : a = b := by simpa using h
    subst e
    exact ⟨_, pe_bl, fun F => .bl _⟩
  · rename_i a b
    have e : a = b := by simpa using h
    subst e
    exact ⟨_, pe_int, fun F => .int _⟩
  · rename_i a b
    have e := of_decide_eq_true h
    subst e
    exact ⟨_, pe_str, fun F => .str _⟩
theorem upd_upd {H : Hp} {p : Addr} {o o' : HO} : upd (upd H p o) p o' = upd H p o' := by
  funext b
  by_cases hb : b = p
  · subst hb
    rw [upd_same, upd_same]
  · rw [upd_ne hb, upd_ne hb, upd_ne hb]
theorem pe_ky {k : Ky} {e : Expr} (h : kyOk k e = true) : PE X e (tC (kV (kyS k))) := by
  cases k with
  | inl i =>
    cases e <;> first | (simp only [kyOk, Bool.false_eq_true] at h; done) | skip
    rename_i c j pos
    cases c <;> first | (simp only [kyOk, Bool.false_eq_true] at h; done) | skip
    simp only [kyOk, beq_iff_eq] at h
    subst h
    exact pe_int
  | inr x =>
    cases e <;> first | (simp only [kyOk, Bool.false_eq_true] at h; done) | skip
    rename_i c j pos
    cases c <;> first | (simp only [kyOk, Bool.false_eq_true] at h; done) | skip
    simp only [kyOk, decide_eq_true_eq] at h
    subst h
    exact pe_str
theorem pe_dic {w : Wd} {kvs : List (Ky × D)} {ks : List (Option Expr)} {vs : List Expr} {pos : Pos} (h : dicOk kvs ks vs = true) : PE X (.Dict ks vs pos) (tE X.K g w (.dic kvs)) := by
  unfold dicOk at h
  split at h
  · refine (pe_dnewK).imp fun σ H Q ⟨e, s, F, R, h⟩ q hq => ?_
    unfold ev at h
    obtain ⟨R2, sm⟩ := R.iced (o := .dK []) hq
    exact h _ _ R2 sm _ (.dic upd_same rfl (fun i p q a => by simp at a))
  · rename_i k d a c j pos'
    rw [Bool.and_eq_true] at h
    obtain ⟨v, hv, rv⟩ := cst_v (X := X) (j := j) (pos := pos') h.2
    refine (pe_disp (pps_cons (pe_ky h.1) hv pps_nil) rfl rfl (by simp) (by simp)).imp fun σ H Q ⟨e, s, F, R, h⟩ q hq => ?_
    unfold ev at h
    refine ⟨upd_same, [(kyS k, v)], rfl, by simp, ?_⟩
    show Q (.ref q) (upd (upd H q (.dK [])) q (.dK [(kyS k, v)]))
    rw [upd_upd]
    obtain ⟨R2, sm⟩ := R.iced (o := .dK [(kyS k, v)]) hq
    refine h _ _ R2 sm _ (.dic upd_same rfl (fun i p q a b => ?_))
    cases i with
    | zero =>
      simp only [List.getElem?_cons_zero, Option.some.injEq] at a b
      subst a; subst b
      exact rv _
    | succ i => simp at a
  · cases h
end
end Pi
set_option maxRecDepth 100000
set_option maxHeartbeats 3900000
namespace Pi
open PySem PySem.Spec L2 PyProof.Rows
/-! ### a display of a dict, asked at once; the place of an item in a list -/
section
variable {X : Cx} {g : Wi} {w : Wd}
theorem no_sl {y : Expr} (h : noSlice y = true) : NoSl y := by
  intro ov iv
  revert h
  cases y <;> intro h <;> first | rfl | cases h
theorem pe_negI {j : Int} {k : Nat} {p q : Pos} : PE X (.UnaryOp .USub (.Constant (.int j) k p) q) (tC (.int (-j))) := (pe_un un_neg pe_int).imp fun σ H Q h => ⟨j, rfl, h⟩
theorem pe_ky2 {k : Ky} {e : Expr} (h : kyOk2 k e = true) : PE X e (tC (kV (kyS k))) := by
  unfold kyOk2 at h
  rcases (by simpa using h : _ ∨ _) with h | h
  · exact pe_ky h
  · split at h
    · have h := eq_of_beq h
      subst h
      exact pe_negI
    · cases h
theorem cst2_v {d : D} {e : Expr} (h : cstOk2 d e = true) : ∃ v, PE X e (tC v) ∧ ∀ F, Rp X.K F v d := by
  unfold cstOk2 at h
  split at h
  · exact cst_v h
  · split at h
    · have h := eq_of_beq h
      subst h
      exact ⟨_, pe_negI, fun F => .int _⟩
    · cases h
  · cases h
/-- the pairs of the display, as values -/
def RpK (K : PySem.W.Frag) (kvs : List (Key × V)) (xs : List (Ky × D)) : Prop := kvs.map (·.1) = xs.map (fun p => kyS p.1) ∧ ∀ F (i : Nat) p q, kvs[i]? = some p → xs[i]? = some q → Rp K F p.2 q.2
theorem pairs_of {pos : Pos} : ∀ {xs : List (Ky × D)} {ks : List (Option Expr)} {vs : List Expr}, dicsOk xs ks vs = true → ∃ kvs : List (Key × V), RpK X.K kvs xs ∧ PPs X pos ks vs (kvs.map fun p => (tC (kV p.1), tC p.2)) ∧ ks.all (·.isSome) = true ∧ ks.length = vs.length ∧ ks.length = xs.length
  | [], [], [], _ => ⟨[], ⟨rfl, fun F i p q a => by simp at a⟩, pps_nil, rfl, rfl, rfl⟩
  | (k, d) :: xs, some a :: ks, v :: vs, h => by
    simp only [dicsOk, Bool.and_eq_true] at h
    obtain ⟨⟨h1, h2⟩, h3⟩ := h
    obtain ⟨kvs, ⟨r1, r2⟩, pp, al, l1, l2⟩ := pairs_of (pos := pos) h3
    obtain ⟨y, py, ry⟩ := cst2_v (X := X) h2
    refine ⟨(kyS k, y) :: kvs, ⟨by simp [r1], fun F i p q a b => ?_⟩, pps_cons (pe_ky2 h1) py pp, by simpa using al, by simp [l1], by simp [l2]⟩
    cases i with
    | zero => cases a; cases b; exact ry F
    | succ i => exact r2 F i p q (by simpa using a) (by simpa using b)
  | [], _ :: _, _, h => by simp [dicsOk] at h
  | [], [], _ :: _, h => by simp [dicsOk] at h
  | _ :: _, [], _, h => by simp [dicsOk] at h
  | _ :: _, none :: _, _, h => by simp [dicsOk] at h
  | _ :: _, some _ :: _, [], h => by simp [dicsOk] at h
theorem tPairs_cst {σ : L2.St} : ∀ {kvs : List (Key × V)} {H : Hp} {Q : List (V × V) → Hp → Prop}, Q (kvs.map fun p => (kV p.1, p.2)) H → tPairs (kvs.map fun p => (tC (kV p.1), tC p.2)) σ H Q
  | [], _, _, q => q
  | _ :: kvs, _, _, q => tPairs_cst (kvs := kvs) q
theorem merge_new : ∀ {more acc : List (Key × V)}, ((acc ++ more).map (·.1)).Nodup → mergeK acc more = acc ++ more
  | [], acc, _ => by simp [mergeK]
  | kv :: more, acc, h => by
    show mergeK (putK acc kv.1 kv.2) more = _
    have n : valV acc kv.1 = none := by
      unfold valV
      rw [Option.map_eq_none_iff, List.find?_eq_none]
      intro x hx z
      have z : x.1 = kv.1 := of_decide_eq_true z
      rw [List.map_append, List.nodup_append] at h
      exact h.2.2 x.1 (List.mem_map_of_mem hx) kv.1 (by simp) z
    rw [putK_new kv.2 n, merge_new (by simpa using h)]
    simp
theorem kyS_inj {a b : Ky} (h : kyS a = kyS b) : a = b := by
  cases a <;> cases b <;> simp only [kyS, Sum.inl.injEq, Sum.inr.injEq, reduceCtorEq] at h
  · rw [h]
  · rw [tx_inj.mp h]
theorem val_at {F : Hp} : ∀ {kvs : List (Key × V)} {xs : List (Ky × D)} {k : Ky} {d : D}, RpK X.K kvs xs → (xs.find? fun p => decide (p.1 = k)).map (·.2) = some d → ∃ v, valV kvs (kyS k) = some v ∧ Rp X.K F v d
  | [], [], k, d, _, h => by simp at h
  | [], _ :: _, _, _, r, _ => by have := r.1; simp at this
  | _ :: _, [], _, _, r, _ => by have := r.1; simp at this
  | (k', v) :: kvs, (j, d') :: xs, k, d, r, h => by
    obtain ⟨r1, r2⟩ := r
    simp only [List.map_cons, List.cons.injEq] at r1
    obtain ⟨rfl, r1⟩ := r1
    by_cases e : j = k
    · subst e
      simp only [List.find?_cons, decide_true, Option.map_some, Option.some.injEq] at h
      subst h
      exact ⟨v, valV_pos rfl, r2 F 0 _ _ rfl rfl⟩
    · simp only [List.find?_cons, e, decide_false] at h
      obtain ⟨y, h1, h2⟩ := val_at (kvs := kvs) ⟨r1, fun F i p q a b => r2 F (i + 1) p q (by simpa using a) (by simpa using b)⟩ h
      exact ⟨y, by rw [valV_neg (fun z => e (kyS_inj z))]; exact h1, h2⟩
theorem pe_dgetD {xs : List (Ky × D)} {i : IE} {ks : List (Option Expr)} {vs : List Expr} {y : Expr} {p2 pos : Pos} (hu : X.A.units + 1 < cLine) (h : dicsOk xs ks vs = true) (nd : (xs.map (·.1)).Nodup) (ne : xs ≠ []) (few : xs.length ≤ 15) (hs : NoSl y) (hi : PE X y (tE X.K g w i)) : PE X (.Subscript (.Dict ks vs p2) y pos) (tE X.K g w (.dget xs i)) := by
  obtain ⟨kvs, rk, pp, al, l1, l2⟩ := pairs_of (X := X) (pos := p2) h
  have nd2 : (kvs.map (·.1)).Nodup := by
    rw [rk.1]
    have : (xs.map fun p => kyS p.1) = (xs.map (·.1)).map kyS := by simp
    rw [this]
    exact nd.map kyS fun a b n z => n (kyS_inj z)
  have l3 : kvs.length = xs.length := by simpa using congrArg List.length rk.1
  refine (pe_dget hu (pe_disp pp al l1 (fun z => ne (List.eq_nil_of_length_eq_zero (by rw [← l2, z]; rfl))) (by omega)) hi hs).imp fun σ H Q ⟨e, s, F, R, q⟩ p hp => ?_
  unfold ev at q
  refine tPairs_cst ⟨upd_same, kvs, rfl, by omega, ?_⟩
  rw [upd_upd, merge_new (acc := []) (by simpa using nd2), List.nil_append]
  obtain ⟨R2, sm⟩ := R.iced (o := .dK kvs) hp
  refine ⟨e, s, _, R2, (q.bind.mono sm).imp fun er s1 F1 H1 R1 sm1 q1 v rv => ?_⟩
  cases z : er.rd s1 with
  | none => simp only [z] at q1; exact q1.elim
  | some d =>
    simp only [z] at q1
    have rt := R1.rd rv z
    have there : H1 p = some (.dK kvs) := R1.sub _ _ (sm1 _ _ upd_same)
    have fin : ∀ k : Ky, v = kV (kyS k) → (xs.find? fun p => decide (p.1 = k)).map (·.2) = dicAt xs d → ∃ a v', V.ref p = .ref a ∧ DGet H1 a v (some v') ∧ Q v' H1 := fun k e1 e2 => by
      cases z2 : dicAt xs d with
      | none => rw [z2] at q1; exact q1.elim
      | some d' =>
        rw [z2] at q1
        obtain ⟨v', h1, h2⟩ := val_at (X := X) (F := F1) rk (e2.trans z2)
        exact ⟨p, v', rfl, by rw [e1, ← h1]; exact DGet.k there, q1 H1 F1 R1 (Same.refl F1) v' h2⟩
    cases d with
    | int j => cases rt.int; exact fin (.inl j) rfl rfl
    | str t => cases rt.str; exact fin (.inr t) rfl rfl
    | _ => exact q1.elim
theorem pdL_get : ∀ {xs : List D} {ps : List PyData}, pdL xs = some ps → ∀ (i : Nat) x, xs[i]? = some x → ∃ p, ps[i]? = some p ∧ x.pd = some p
  | [], _, _, i, x, h => by simp at h
  | y :: ys, ps, e, i, x, h => by
    unfold pdL at e
    split at e
    · rename_i a b h1 h2
      cases e
      cases i with
      | zero =>
        replace h := Option.some.inj h
        subst h
        exact ⟨a, rfl, h1⟩
      | succ i => simpa using pdL_get h2 i x (by simpa using h)
    · cases e
/-- l.index(x) -/
theorem pe_lixD {o a : IE} {x y : Expr} {ap pos : Pos} (hu : X.A.units + 65 < cLine) (hs : noSup x = true) (hst : noStar y = true) (hl : (ap.endLine == pos.line) = true) (ho : PE X x (tE X.K g w o)) (ha : PE X y (tE X.K g w a)) : PE X (.Call (.Attribute x "index" ap) [y] [] pos) (tE X.K g w (.lix o a)) := by
  have pa : PA X [y] (tCons (tE X.K g w a) tNil) := pa_cons ha pa_nil (star1 hst)
  refine (pe_bm (T := "list") PySem.F.plainAttrs_list PySem.F.slot_list_index PySem.F.type_list_index (mt_indexD hu) ho pa (base_of hs) (by rw [star1 hst]; rfl) hl (star1 hst) rfl).imp fun σ H Q ⟨e, s, F, R, q⟩ => ?_
  unfold ev at q
  refine ⟨e, s, F, R, q.bind.imp fun er s1 F1 H1 R1 sm1 q1 v rv => ?_⟩
  obtain ⟨F1', R1', smh, rvh⟩ := R1.hold rv
  split at q1
  · rename_i ys e1
    obtain ⟨l, vs, rfl, there, _⟩ := (R1'.rd rvh e1).lst R1'.sub
    refine ⟨Or.inl ⟨rfl, vs, .of there⟩, ?_⟩
    refine ⟨e, s1, F1', R1', (q1.mono smh).bind.imp fun er2 s2 F2 H2 R2 sm2 q2 v2 rv2 => ?_⟩
    have rx := rvh.stay (s' := s2) (H' := H2) sm2
    cases ex : er.hold.rd s2 with
    | none => simp only [ex] at q2; exact q2.elim
    | some dx =>
      cases ey : er2.rd s2 with
      | none => simp only [ex, ey] at q2; exact q2.elim
      | some dy =>
        simp only [ex, ey] at q2
        have r1 := R2.rd rx ex
        have r2 := R2.rd rv2 ey
        unfold lixR at q2
        split at q2
        · rename_i zs
          split at q2
          · rename_i hf
            rw [Bool.and_eq_true] at hf
            cases hk : zs.findIdx? fun y => y.eqv dy with
            | none => rw [hk] at q2; exact q2.elim
            | some k =>
              rw [hk] at q2
              obtain ⟨p, hp, dp, sh⟩ := rt_dp R2.sub r2 hf.1 (by decide)
              obtain ⟨p', hp', dp', sh'⟩ := rt_dp (n := 31) R2.sub r1 (by unfold D.flat; exact hf.2) (by decide)
              unfold D.pd at hp'
              obtain ⟨ps, hps, rfl⟩ := Option.map_eq_some_iff.mp hp'
              obtain ⟨hlt, at1, before⟩ := List.findIdx?_eq_some_iff_getElem.mp hk
              obtain ⟨z, z1, z2⟩ := pdL_get hps k zs[k] (List.getElem?_eq_getElem hlt)
              refine ⟨l, v2, p, ps, k, z, rfl, rfl, dp', dp, sh', sh, z1, ?_, fun m z' lt z3 => ?_, q2 H2 F2 R2 (Same.refl F2) _ (.int _)⟩
              · rw [eqv_pd zs[k] dy z p z2 hp]
                exact at1
              · have lt2 : m < zs.length := Nat.lt_trans lt hlt
                obtain ⟨y', y1, y2⟩ := pdL_get hps m zs[m] (List.getElem?_eq_getElem lt2)
                rw [z3] at y1
                cases y1
                rw [eqv_pd zs[m] dy z' p y2 hp]
                simpa using before m lt
          · exact q2.elim
        · exact q2.elim
  · exact q1.elim
end
end Pi
set_option maxRecDepth 100000
set_option maxHeartbeats 3900000
namespace Pi
open PySem PySem.Spec L2 PyProof.Rows
theorem _root_.L2.PTs.imp {X : Cx} {e : List Expr} {t t' : TT} (h : PTs X e t) (i : ∀ σ H Q, t' σ H Q → t σ H Q) : PTs X e t' := ⟨fun pins s σ H Q I q => h.run pins s σ H Q I (i σ H Q q)⟩
theorem folded_of {e : Expr} {env : Env} (h : noSet e = true) : ∀ x, foldedSetIterable e env x = pure x := by
  intro x
  cases e <;> first | rfl | cases h
theorem chkA_star {T : Tb} {cm : Bool} {N : List Str} {sc : Scope} : ∀ {es : IEs} {xs : List Expr}, chkA T cm N sc es xs = true → ∀ a ∈ xs, noStar a = true
  | .nil, [], _ => by simp
  | .cons a r, [], h => by simp
  | .nil, x :: xs, h => by simp only [chkA, Bool.false_eq_true] at h
  | .cons a r, x :: xs, h => by
    simp only [chkA, Bool.and_eq_true] at h
    intro b hb
    rcases mem_or hb with rfl | hb
    · exact h.1.1
    · exact chkA_star h.2 b hb
mutual
theorem sE {X : Cx} {T : Tb} {cm : Bool} {N : List Str} {sc : Scope} {p : Pg} {n : Nat} {g : Wi} (G : Gx X T cm N sc p n g) : ∀ (a : IE) (e : Expr), chk T cm N sc a e = true → Ok X g (p.wd n) a e
  | .var i, e, h => by
    cases e <;> simp only [chk, Bool.false_eq_true, Bool.and_eq_true, decide_eq_true_eq] at h
    obtain ⟨hN, hv⟩ := h
    obtain ⟨v1, v2, v3⟩ := vis_of G hv
    refine ok_plain ((pe_var (i := i) (by rw [G.hN]; exact hN) v1 v2 v3).imp fun σ H Q ⟨e, s, F, R, h⟩ => ?_) (plain_true rfl)
    unfold ev at h
    cases q : s.sl[i]? with
    | none => simp only [q] at h; exact h.elim
    | some x =>
      have k := R.slot i x q
      cases x with
      | un => simp only [q] at h; exact h.elim
      | val d =>
        simp only [q] at h
        obtain ⟨v, hv, r⟩ := k
        exact ⟨v, hv, h H F R (Same.refl F) v r⟩
      | own xs =>
        simp only [q] at h
        obtain ⟨a, vs, hv, _⟩ := k
        exact ⟨_, hv, h H F R (Same.refl F) _ hv⟩
      | ref =>
        simp only [q] at h
        obtain ⟨a, ha, hv⟩ := k
        exact ⟨_, hv, h H F R (Same.refl F) _ ⟨a, ha, rfl⟩⟩
  | .cst d, e, h => by
    cases e <;> simp only [chk, Bool.false_eq_true] at h
    exact ok_plain (cst_ok h) (plain_true rfl)
  | .gc k, e, h => by
    cases e <;> simp only [chk, Bool.false_eq_true, Bool.and_eq_true, decide_eq_true_eq] at h
    obtain ⟨hx, hg⟩ := h
    obtain ⟨v, u, h1, h2, h3⟩ := G.pf.cst k _ hx
    obtain ⟨gl, gd, _⟩ := gl_of G hg
    refine ok_plain ((pe_glob gl h1 h2 gd).imp fun σ H Q ⟨e, s, F, R, h⟩ => ?_) (plain_true rfl)
    exact h H F R (Same.refl F) v (h3 F)
  | .bin o a b, e, h => by
    cases e <;> simp only [chk, Bool.false_eq_true, Bool.and_eq_true, decide_eq_true_eq] at h
    obtain ⟨⟨ho, ha⟩, hb⟩ := h
    subst ho
    refine ok_plain ((pe_op (op_bin o) (sE G a _ ha).1 (sE G b _ hb).1).imp fun σ H Q ⟨e, s, F, R, h⟩ => ?_) (plain_true rfl)
    unfold ev at h
    exact t_two R h
  | .neg a, e, h => by
    cases e <;> simp only [chk, Bool.false_eq_true, Bool.and_eq_true, decide_eq_true_eq] at h
    obtain ⟨ho, ha⟩ := h
    subst ho
    exact ok_plain ((pe_un un_neg (sE G a _ ha).1).imp fun σ H Q h => t_neg h) (fun _ => rfl)
  | .not a, e, h => by
    cases e <;> simp only [chk, Bool.false_eq_true, Bool.and_eq_true, decide_eq_true_eq] at h
    obtain ⟨⟨ho, hi⟩, ha⟩ := h
    subst ho
    have k := sE G a _ ha
    exact ⟨(pe_not k.1).imp fun σ H Q h => t_not h, fun _ => (pt_not (k.2 hi)).imp fun σ H Q h => t_notT h⟩
  | .and a b, e, h => by
    cases e with
    | BoolOp op vs pos =>
      cases vs with
      | nil => simp only [chk, Bool.false_eq_true] at h
      | cons x r =>
        cases r with
        | nil => simp only [chk, Bool.false_eq_true] at h
        | cons y r =>
          simp only [chk, Bool.and_eq_true, decide_eq_true_eq] at h
          obtain ⟨⟨⟨ho, hx⟩, ha⟩, hb⟩ := h
          subst ho
          cases r with
          | nil =>
            simp only [and_iff2] at hb
            have k := sE G b y hb.2
            exact (ok_and hx (sE G a x ha) ⟨pe_one k.1, pw_and1 (k.2 hb.1)⟩).1
          | cons z r =>
            have k := sE G b _ hb
            exact (ok_and hx (sE G a x ha) ⟨k.1, pt_pw (k.2 rfl)⟩).1
    | _ => simp only [chk, Bool.false_eq_true] at h
  | .or a b, e, h => by
    cases e with
    | BoolOp op vs pos =>
      cases vs with
      | nil => simp only [chk, Bool.false_eq_true] at h
      | cons x r =>
        cases r with
        | nil => simp only [chk, Bool.false_eq_true] at h
        | cons y r =>
          simp only [chk, Bool.and_eq_true, decide_eq_true_eq] at h
          obtain ⟨⟨⟨ho, hx⟩, ha⟩, hb⟩ := h
          subst ho
          cases r with
          | nil =>
            simp only [and_iff2] at hb
            have k := sE G b y hb.2
            exact (ok_or hx (sE G a x ha) ⟨pe_one k.1, pw_or1 (k.2 hb.1)⟩).1
          | cons z r =>
            have k := sE G b _ hb
            exact (ok_or hx (sE G a x ha) ⟨k.1, pt_pw (k.2 rfl)⟩).1
    | _ => simp only [chk, Bool.false_eq_true] at h
  | .cmp o a b, e, h => by
    cases e with
    | Compare l ops rs pos =>
      cases ops with
      | nil => simp only [chk, Bool.false_eq_true] at h
      | cons op ops =>
        cases ops with
        | cons _ _ => cases rs <;> simp only [chk, Bool.false_eq_true] at h
        | nil =>
          cases rs with
          | nil => simp only [chk, Bool.false_eq_true] at h
          | cons r rs =>
            cases rs with
            | cons _ _ => simp only [chk, Bool.false_eq_true] at h
            | nil =>
              simp only [chk, Bool.and_eq_true, decide_eq_true_eq] at h
              obtain ⟨⟨⟨ho, hs⟩, ha⟩, hb⟩ := h
              subst ho
              have hm : behindInMarks (coS o) r = false := by cases r <;> first | rfl | cases hs
              have ka := (sE G a _ ha).1
              have kb := (sE G b _ hb).1
              have im : ∀ σ H Q, tE X.K g (p.wd n) (.cmp o a b) σ H Q → tOp (rD X.K (cB o)) (tE X.K g (p.wd n) a) (tE X.K g (p.wd n) b) σ H Q := fun σ H Q ⟨e, s, F, R, h⟩ => by
                unfold ev at h
                exact t_two R h
              exact ⟨(pe_cmpR (op_cmp G.un o) ka kb hm).imp im, fun _ => (pt_cmpR (op_cmp G.un o) ka kb hm).imp fun σ H Q h => t_test_of im h⟩
    | _ => simp only [chk, Bool.false_eq_true] at h
  | .chn o o' a b c, e, h => by
    cases e with
    | Compare l ops rs pos =>
      match ops, rs, h with
      | [op, op'], [m, r], h =>
        simp only [chk, Bool.and_eq_true, decide_eq_true_eq] at h
        obtain ⟨⟨⟨⟨⟨⟨ho, ho'⟩, hs⟩, hs'⟩, ha⟩, hb⟩, hc⟩ := h
        subst ho; subst ho'
        have hm : lastMarks [coS o, coS o'] [m, r] = false := by
          show behindInMarks (coS o') r = false
          cases r <;> first | rfl | cases hs'
        have ka := (sE G a _ ha).1
        have kb := (sE G b _ hb).1
        have kc := (sE G c _ hc).1
        exact ⟨(pe_chain (op_cmp G.un o) (op_cmp G.un o') ka kb kc hm).imp fun σ H Q h => t_chn h, fun _ => (pt_chain (op_cmp G.un o) (op_cmp G.un o') ka kb kc hm).imp fun σ H Q h => t_test_of (fun σ H Q h => t_chn h) h⟩
      | [], _, h => simp only [chk, Bool.false_eq_true] at h
      | [_], _, h => simp only [chk, Bool.false_eq_true] at h
      | _ :: _ :: _ :: _, _, h => simp only [chk, Bool.false_eq_true] at h
      | [_, _], [], h => simp only [chk, Bool.false_eq_true] at h
      | [_, _], [_], h => simp only [chk, Bool.false_eq_true] at h
      | [_, _], _ :: _ :: _ :: _, h => simp only [chk, Bool.false_eq_true] at h
    | _ => simp only [chk, Bool.false_eq_true] at h
  | .ite t a b, e, h => by
    cases e <;> simp only [chk, Bool.false_eq_true, Bool.and_eq_true] at h
    obtain ⟨⟨⟨hi, ht⟩, ha⟩, hb⟩ := h
    exact ⟨(pe_ifExp ((sE G t _ ht).2 hi) (sE G a _ ha).1 (sE G b _ hb).1).imp fun σ H Q h => t_ite h, fun z => by cases z⟩
  | .lst es, e, h => by
    cases e <;> simp only [chk, Bool.false_eq_true] at h
    exact ok_plain ((pe_lst (sF G es _ h)).imp fun σ H Q h => t_lst h) (plain_true rfl)
  | .tup es, e, h => by
    cases e <;> simp only [chk, Bool.false_eq_true] at h
    exact ok_plain ((pe_tup (sF G es _ h)).imp fun σ H Q h => t_tup h) (plain_true rfl)
  | .idx a i, e, h => by
    cases e <;> simp only [chk, Bool.false_eq_true, Bool.and_eq_true] at h
    obtain ⟨⟨hs, ha⟩, hi⟩ := h
    exact ok_plain ((pe_ix ix_data (sE G a _ ha).1 (sE G i _ hi).1 (slice_ix hs)).imp fun σ H Q h => t_idx h) (plain_true rfl)
  | .slc a lo hi, e, h => by
    cases e with
    | Subscript x y pos =>
      cases y with
      | Slice l u st q =>
        cases st with
        | some _ => simp only [chk, Bool.false_eq_true] at h
        | none =>
          simp only [chk, Bool.and_eq_true] at h
          obtain ⟨⟨ha, hl⟩, hu⟩ := h
          exact ok_plain ((pe_slice sl_data (sE G a _ ha).1 (sO G lo l hl) (sO G hi u hu)).imp fun σ H Q h => t_slc h) (plain_true rfl)
      | _ => simp only [chk, Bool.false_eq_true] at h
    | _ => simp only [chk, Bool.false_eq_true] at h
  | .call f ix es, e, h => by
    cases e with
    | Call fe as ks pos =>
      cases fe with
      | Name x q =>
        simp only [chk, Bool.and_eq_true, decide_eq_true_eq] at h
        obtain ⟨⟨⟨⟨hcm, hx⟩, hg⟩, hp⟩, hA⟩ := h
        refine ok_plain (ok_call G hcm hx hg hp ?_) (plain_true rfl)
        cases ks with
        | nil =>
          have hA : chkA T cm N sc es as = true := hA
          refine .inl ⟨rfl, chkA_len hA, ?_⟩
          cases as with
          | nil =>
            cases es with
            | nil => left; constructor <;> rfl
            | cons _ _ => simp only [chkA, Bool.false_eq_true] at hA
          | cons a0 r =>
            have pa := sB G es _ hA
            cases es with
            | nil => simp only [chkA, Bool.false_eq_true] at hA
            | cons e0 er =>
              simp only [chkA, Bool.and_eq_true] at hA
              exact .inr ⟨a0, r, rfl, pa, hA.1.1, star_none hA.2⟩
        | cons k ks =>
          have hA : (as.isEmpty && kwS (k :: ks) && chkA T cm N sc es (kwE (k :: ks))) = true := hA
          simp only [and_iff2] at hA
          obtain ⟨⟨h1, h2⟩, h3⟩ := hA
          have e0 : as = [] := List.isEmpty_iff.mp h1
          exact .inr ⟨e0, by rw [← kwE_len, chkA_len h3], h2, sK G es _ h3⟩
      | _ => simp only [chk, Bool.false_eq_true] at h
    | _ => simp only [chk, Bool.false_eq_true] at h
  | .bi b es, e, h => by
    cases e with
    | Call fe as ks pos =>
      cases fe with
      | Name x q =>
        cases as with
        | nil => cases ks <;> simp only [chk, Bool.false_eq_true] at h
        | cons a as =>
          cases ks with
          | cons _ _ => simp only [chk, Bool.false_eq_true] at h
          | nil =>
            simp only [chk, Bool.and_eq_true, decide_eq_true_eq] at h
            obtain ⟨⟨⟨⟨hh, hb⟩, hm⟩, hg⟩, hA⟩ := h
            obtain ⟨gl, gd, gn⟩ := gl_of G hg
            have pa := sB G es _ hA
            have st : noStar a = true ∧ (backTo pos (starEach as X.env)).any (·.1) = false := by
              cases es with
              | nil => simp only [chkA, Bool.false_eq_true] at hA
              | cons e0 er =>
                simp only [chkA, Bool.and_eq_true] at hA
                exact ⟨hA.1.1, star_none hA.2⟩
            cases hn : biName b with
            | none => rw [hn] at hb; cases hb
            | some kt =>
              obtain ⟨k, ty⟩ := kt
              rw [hn] at hb
              have hb : x = (k : Str) := of_decide_eq_true hb
              subst hb
              cases ty with
              | false =>
                obtain ⟨r1, r2⟩ := bi_rule G b k hh hn
                exact ok_plain ((pe_callB r1 gl (mem_blt G hm) r2 pa gn gd (star1 st.1) st.2).imp fun σ H Q h => t_bi h) (plain_true rfl)
              | true =>
                obtain ⟨r1, r2⟩ := bi_ruleT G b k hh hn
                exact ok_plain ((pe_callTy r1 gl (mem_blt G hm) r2 pa gn gd (star1 st.1) st.2).imp fun σ H Q h => t_bi h) (plain_true rfl)
      | _ => simp only [chk, Bool.false_eq_true] at h
    | _ => simp only [chk, Bool.false_eq_true] at h
  | .mth m o es, e, h => by
    match es, h with
    | .nil, h => cases e <;> simp only [chk, Bool.false_eq_true] at h
    | .cons _ (.cons _ _), h => cases e <;> simp only [chk, Bool.false_eq_true] at h
    | .cons a .nil, h =>
      cases e with
      | Call fe as ks pos =>
        cases fe with
        | Attribute x nm ap =>
          match as, ks, h with
          | [y], [], h =>
            simp only [chk, Bool.and_eq_true] at h
            obtain ⟨⟨⟨⟨⟨hm, hs⟩, hst⟩, hl⟩, ho⟩, ha⟩ := h
            have ko := (sE G o _ ho).1
            have ka := (sE G a _ ha).1
            have st : starEach [y] X.env = [(false, eval y X.env)] := star1 hst
            cases m with
            | join =>
              have hm : nm = ("join" : Str) := of_decide_eq_true hm
              subst hm
              exact ok_plain ((pe_m1 PySem.F.slot_str_join PySem.F.type_str_join mt_joinD ko ka st (base_of hs) hl).imp fun σ H Q h => t_mth h) (plain_true rfl)
            | index =>
              have hm : nm = ("index" : Str) := of_decide_eq_true hm
              subst hm
              exact ok_plain ((pe_m1 PySem.F.slot_str_index PySem.F.type_str_index mt_indexD1 ko ka st (base_of hs) hl).imp fun σ H Q h => t_mth h) (plain_true rfl)
            | _ => cases hm
          | [], _, h => simp only [chk, Bool.false_eq_true] at h
          | _ :: _ :: _, _, h => simp only [chk, Bool.false_eq_true] at h
          | [_], _ :: _, h => simp only [chk, Bool.false_eq_true] at h
        | _ => simp only [chk, Bool.false_eq_true] at h
      | _ => simp only [chk, Bool.false_eq_true] at h
  | .isi a c, e, h => by
    cases e with
    | Call fe as ks pos =>
      cases fe with
      | Name x q =>
        match as, ks, h with
        | [y, z], [], h =>
          cases z with
          | Name t tp =>
            simp only [chk, Bool.and_eq_true, decide_eq_true_eq] at h
            obtain ⟨⟨⟨⟨⟨⟨⟨hx, hm⟩, hg⟩, hc⟩, hm2⟩, hg2⟩, hst⟩, ha⟩ := h
            subst hx
            obtain ⟨gl, gd, gn⟩ := gl_of G hg
            obtain ⟨gl2, gd2, gn2⟩ := gl_of G hg2
            cases hk : clN c with
            | none => rw [hk] at hc; cases hc
            | some k =>
              rw [hk] at hc
              have hc : t = (k : Str) := of_decide_eq_true hc
              subst hc
              have pa : PA X [y, .Name k tp] (tCons (tE X.K g (p.wd n) a) (tCons (tC (.ty k)) tNil)) := pa_cons (sE G a _ ha).1 (pa_cons (pe_bltn gl2 (mem_blt G hm2) (cl_boot c k hk) rfl gn2 gd2) pa_nil rfl) (star1 hst)
              exact ok_plain ((pe_callB (call_isiD c) gl (mem_blt G hm) (by decide +kernel) pa gn gd (star1 hst) rfl).imp fun σ H Q h => t_isi hk h) (plain_true rfl)
          | _ => simp only [chk, Bool.false_eq_true] at h
        | [], _, h => simp only [chk, Bool.false_eq_true] at h
        | [_], _, h => simp only [chk, Bool.false_eq_true] at h
        | _ :: _ :: _ :: _, _, h => simp only [chk, Bool.false_eq_true] at h
        | [_, z], _ :: _, h => cases z <;> simp only [chk, Bool.false_eq_true] at h
      | _ => simp only [chk, Bool.false_eq_true] at h
    | _ => simp only [chk, Bool.false_eq_true] at h
  | .isx a k, e, h => by
    cases e with
    | Call fe as ks pos =>
      cases fe with
      | Name x q =>
        match as, ks, h with
        | [y, z], [], h =>
          cases z with
          | Name t tp =>
            simp only [chk, Bool.and_eq_true, decide_eq_true_eq] at h
            obtain ⟨⟨⟨⟨⟨⟨hx, hm⟩, hg⟩, hc⟩, hg2⟩, hst⟩, ha⟩ := h
            subst hx
            obtain ⟨gl, gd, gn⟩ := gl_of G hg
            have pa : PA X [y, .Name t tp] (tCons (tE X.K g (p.wd n) a) (tCons (tC (clV X.K k)) tNil)) := pa_cons (sE G a _ ha).1 (pa_cons (pe_clsN G hc hg2) pa_nil rfl) (star1 hst)
            exact ok_plain ((pe_callB (call_isx T.fld k) gl (mem_blt G hm) (by decide +kernel) pa gn gd (star1 hst) rfl).imp fun σ H Q h => t_isx G h) (plain_true rfl)
          | _ => simp only [chk, Bool.false_eq_true] at h
        | [], _, h => simp only [chk, Bool.false_eq_true] at h
        | [_], _, h => simp only [chk, Bool.false_eq_true] at h
        | _ :: _ :: _ :: _, _, h => simp only [chk, Bool.false_eq_true] at h
        | [_, z], _ :: _, h => cases z <;> simp only [chk, Bool.false_eq_true] at h
      | _ => simp only [chk, Bool.false_eq_true] at h
    | _ => simp only [chk, Bool.false_eq_true] at h
  | .isxs a cs, e, h => by
    cases e with
    | Call fe as ks pos =>
      cases fe with
      | Name x q =>
        match as, ks, h with
        | [y, z], [], h =>
          cases z with
          | Tuple ts kt tp =>
            simp only [chk, Bool.and_eq_true, decide_eq_true_eq, Bool.not_eq_true'] at h
            obtain ⟨⟨⟨⟨⟨⟨⟨hx, hm⟩, hg⟩, hc⟩, hl⟩, hne⟩, hst⟩, ha⟩ := h
            subst hx
            obtain ⟨gl, gd, gn⟩ := gl_of G hg
            have pa : PA X [y, .Tuple ts kt tp] (tCons (tE X.K g (p.wd n) a) (tCons (tTup (fun _ H Q => Q (cs.map (clV X.K)) H)) tNil)) := pa_cons (sE G a _ ha).1 (pa_cons (pe_tup (pa_cls G hc)) pa_nil rfl) (star1 hst)
            exact ok_plain ((pe_callB (call_isxs T.fld cs) gl (mem_blt G hm) (by decide +kernel) pa gn gd (star1 hst) rfl).imp fun σ H Q h => t_isxs G hne hl h) (plain_true rfl)
          | _ => simp only [chk, Bool.false_eq_true] at h
        | [], _, h => simp only [chk, Bool.false_eq_true] at h
        | [_], _, h => simp only [chk, Bool.false_eq_true] at h
        | _ :: _ :: _ :: _, _, h => simp only [chk, Bool.false_eq_true] at h
        | [_, z], _ :: _, h => cases z <;> simp only [chk, Bool.false_eq_true] at h
      | _ => simp only [chk, Bool.false_eq_true] at h
    | _ => simp only [chk, Bool.false_eq_true] at h
  | .attr o f, e, h => by
    cases e <;> simp only [chk, Bool.false_eq_true, Bool.and_eq_true, decide_eq_true_eq] at h
    obtain ⟨⟨⟨hn, hf⟩, hs⟩, ho⟩ := h
    subst hn
    exact ok_plain (pe_attrD G hf hs (sE G o _ ho).1) (plain_true rfl)
  | .lcm a tg it cond, e, h => by
    cases e with
    | ListComp el gs scope pos =>
      match gs, h with
      | [⟨t, i, ifs, k⟩], h =>
        simp only [chk, Bool.and_eq_true, decide_eq_true_eq] at h
        obtain ⟨⟨⟨⟨⟨⟨⟨⟨hk, hcm⟩, hns⟩, hI⟩, hblk⟩, hsl⟩, htg⟩, hC⟩, hE⟩ := h
        subst hk
        have hc := G.calm hcm
        have GB : ∀ (s : Shared) (H : Hp) (C : Addr) (cl : List (Str × Addr)) (fp : List Addr), Gx (X.blk s H scope (compEnvC scope cl C X.env) fp) T cm N (relS scope sc) p n (g0 g) := fun s H C cl fp =>
          ⟨G.hN, G.nd, by show relS scope X.env.scope = _; rw [G.hsc], G.calm, G.gd, G.room, G.un, takes_none5, G.pf⟩
        have ok : BlkOk X.N X.env.scope scope (tgN tg t) := blkOk_by (by rw [G.hN, G.hsc]; exact hblk)
        have z := pe_lc (pos := pos) (X := X) (elt := el) (tg := t) (iter := i) (ifs := ifs) (wi := tI X.K g (p.wd n) it) (g := gT X.K tg) (tt := tCd X.K (g0 g) (p.wd n) cond) (te := tE X.K (g0 g) (p.wd n) a) hc G.nd (sI G it t i hI) ok
          (fun s H C cl fp => pg_T (X := X.blk s H scope (compEnvC scope cl C X.env) fp) (fn := fun x => scope.names.lookup x == some .cell) hc (GB s H C cl fp).hN (GB s H C cl fp).hsc G.nd (fun x hx => hx) htg)
          (fun s H C cl fp => sC (GB s H C cl fp) cond ifs hC) (fun s H C cl fp => (sE (GB s H C cl fp) a el hE).1) (folded_of hns)
        refine ok_plain (z.imp fun σ H Q h => ?_) (plain_true rfl)
        rw [hsl]
        exact t_lcm h
      | [], h => simp only [chk, Bool.false_eq_true] at h
      | _ :: _ :: _, h => simp only [chk, Bool.false_eq_true] at h
    | _ => simp only [chk, Bool.false_eq_true] at h
  | .dic kvs, e, h => by
    cases e <;> simp only [chk, Bool.false_eq_true] at h
    exact ok_plain (pe_dic h) (plain_true rfl)
  | .dget kvs i, e, h => by
    cases e with
    | Subscript o y pos =>
      cases o with
      | Dict ks vs p2 =>
        simp only [chk, Bool.and_eq_true, decide_eq_true_eq] at h
        obtain ⟨⟨⟨⟨⟨h1, h2⟩, h3⟩, h4⟩, h5⟩, h6⟩ := h
        exact ok_plain (pe_dgetD (by have := G.un; omega) h2 h3 h4 h5 (no_sl h1) (sE G i _ h6).1) (plain_true rfl)
      | _ => simp only [chk, Bool.false_eq_true] at h
    | _ => simp only [chk, Bool.false_eq_true] at h
  | .lix o a, e, h => by
    cases e with
    | Call fe as ks pos =>
      cases fe with
      | Attribute x nm ap =>
        match as, ks, h with
        | [y], [], h =>
          simp only [chk, Bool.and_eq_true, decide_eq_true_eq] at h
          obtain ⟨⟨⟨⟨⟨hm, hs⟩, hst⟩, hl⟩, ho⟩, ha⟩ := h
          subst hm
          exact ok_plain (pe_lixD G.un hs hst hl (sE G o _ ho).1 (sE G a _ ha).1) (plain_true rfl)
        | [], _, h => simp only [chk, Bool.false_eq_true] at h
        | _ :: _ :: _, _, h => simp only [chk, Bool.false_eq_true] at h
        | [_], _ :: _, h => simp only [chk, Bool.false_eq_true] at h
      | _ => simp only [chk, Bool.false_eq_true] at h
    | _ => simp only [chk, Bool.false_eq_true] at h
theorem sC {X : Cx} {T : Tb} {cm : Bool} {N : List Str} {sc : Scope} {p : Pg} {n : Nat} {g : Wi} (G : Gx X T cm N sc p n g) : ∀ (c : IO) (ifs : List Expr), chkC T cm N sc c ifs = true → PTs X ifs (tCd X.K g (p.wd n) c)
  | .no, [], _ => pts_nil.imp fun σ H Q ⟨e, s, F, R, h⟩ => by
    unfold evC at h
    exact h H F R (Same.refl F)
  | .so a, [x], h => by
    simp only [chkC, Bool.and_eq_true] at h
    exact (pts_one ((sE G a x h.2).2 h.1)).imp fun σ H Q ⟨e, s, F, R, h⟩ => by
      unfold evC at h
      exact ⟨e, s, F, R, h⟩
  | .no, _ :: _, h => by simp only [chkC, Bool.false_eq_true] at h
  | .so a, [], h => by simp only [chkC, Bool.false_eq_true] at h
  | .so a, _ :: _ :: _, h => by simp only [chkC, Bool.false_eq_true] at h
theorem sI {X : Cx} {T : Tb} {cm : Bool} {N : List Str} {sc : Scope} {p : Pg} {n : Nat} {g : Wi} (G : Gx X T cm N sc p n g) : ∀ (it : IT) (t i : Expr), chkI T cm N sc it t i = true → PI X t i (tI X.K g (p.wd n) it)
  | .seq a, t, i, h => by
    simp only [chkI] at h
    exact pi_seqD (sE G a i h).1
  | .rng es, t, i, h => by
    cases i with
    | Call fe as ks pos =>
      cases fe with
      | Name x q =>
        cases ks with
        | nil =>
          simp only [chkI, Bool.and_eq_true, decide_eq_true_eq] at h
          obtain ⟨⟨⟨⟨hx, hm⟩, hg⟩, h12⟩, hA⟩ := h
          subst hx
          obtain ⟨gl, gd, gn⟩ := gl_of G hg
          exact pi_rngD gl (mem_blt G hm) (sF G es as hA) (chkA_len hA) h12 (chkA_star hA)
        | cons _ _ => simp only [chkI, Bool.false_eq_true] at h
      | _ => simp only [chkI, Bool.false_eq_true] at h
    | _ => simp only [chkI, Bool.false_eq_true] at h
  | .zip es, t, i, h => by
    cases t with
    | Tuple ts kt tp =>
      cases i with
      | Call fe as ks pos =>
        cases fe with
        | Name x q =>
          cases ks with
          | nil =>
            simp only [chkI, Bool.and_eq_true, decide_eq_true_eq] at h
            obtain ⟨⟨⟨⟨hx, hm⟩, hg⟩, h2⟩, hA⟩ := h
            subst hx
            obtain ⟨gl, gd, gn⟩ := gl_of G hg
            have st := chkA_star hA
            have pa := sF G es as hA
            match as, h2, st, pa with
            | [a, b], _, st, pa => exact pi_zsD gl (mem_blt G hm) pa (st a (by simp)) (st b (by simp))
          | cons _ _ => simp only [chkI, Bool.false_eq_true] at h
        | _ => simp only [chkI, Bool.false_eq_true] at h
      | _ => simp only [chkI, Bool.false_eq_true] at h
    | _ => simp only [chkI, Bool.false_eq_true] at h
theorem sF {X : Cx} {T : Tb} {cm : Bool} {N : List Str} {sc : Scope} {p : Pg} {n : Nat} {g : Wi} (G : Gx X T cm N sc p n g) : ∀ (es : IEs) (xs : List Expr), chkA T cm N sc es xs = true → PA X xs (tF X.K g (p.wd n) es)
  | .nil, [], _ => pa_nil.imp fun _ _ _ h => t_nilF h
  | .cons a r, [], h => by simp only [chkA, Bool.false_eq_true] at h
  | .nil, x :: xs, h => by simp only [chkA, Bool.false_eq_true] at h
  | .cons a r, x :: xs, h => by
    simp only [chkA, Bool.and_eq_true] at h
    exact (pa_cons (sE G a x h.1.2).1 (sF G r xs h.2) (star1 h.1.1)).imp fun _ _ _ h => t_consF h
theorem sB {X : Cx} {T : Tb} {cm : Bool} {N : List Str} {sc : Scope} {p : Pg} {n : Nat} {g : Wi} (G : Gx X T cm N sc p n g) : ∀ (es : IEs) (xs : List Expr), chkA T cm N sc es xs = true → PA X xs (tB X.K g (p.wd n) es)
  | .nil, [], _ => pa_nil.imp fun _ _ _ h => t_nilB h
  | .cons a r, [], h => by simp only [chkA, Bool.false_eq_true] at h
  | .nil, x :: xs, h => by simp only [chkA, Bool.false_eq_true] at h
  | .cons a .nil, x :: xs, h => by
    simp only [chkA, Bool.and_eq_true] at h
    cases xs with
    | nil => exact (pa_cons (sE G a x h.1.2).1 pa_nil (star1 h.1.1)).imp fun _ _ _ h => t_oneB h
    | cons _ _ => simp only [chkA, Bool.false_eq_true, and_false] at h
  | .cons a (.cons b r), x :: xs, h => by
    have h' := h
    unfold chkA at h
    simp only [and_iff2] at h
    exact (pa_cons (sE G a x h.1.2).1 (sB G (.cons b r) xs h.2) (star1 h.1.1)).imp fun _ _ _ h => t_consB h
theorem sK {X : Cx} {T : Tb} {cm : Bool} {N : List Str} {sc : Scope} {p : Pg} {n : Nat} {g : Wi} (G : Gx X T cm N sc p n g) : ∀ (es : IEs) (ks : List Keyword), chkA T cm N sc es (kwE ks) = true → PK X ks (tB X.K g (p.wd n) es)
  | .nil, [], _ => ⟨fun pos pins s σ H Q I h => pk_nil.run pos pins s σ H Q I (t_nilB h)⟩
  | .cons a r, [], h => by simp only [kwE, chkA, Bool.false_eq_true] at h
  | .nil, x :: xs, h => by simp only [kwE, chkA, Bool.false_eq_true] at h
  | .cons a .nil, ⟨nm, x, kp⟩ :: xs, h => by
    simp only [kwE, chkA, Bool.and_eq_true] at h
    cases xs with
    | nil => exact ⟨fun pos pins s σ H Q I q => (pk_cons (sE G a x h.1.2).1 pk_nil).run pos pins s σ H Q I (t_oneB q)⟩
    | cons _ _ => simp only [kwE, chkA, Bool.false_eq_true, and_false] at h
  | .cons a (.cons b r), ⟨nm, x, kp⟩ :: xs, h => by
    have h2 : chkA T cm N sc (.cons a (.cons b r)) (x :: kwE xs) = true := h
    unfold chkA at h2
    simp only [and_iff2] at h2
    exact ⟨fun pos pins s σ H Q I q => (pk_cons (sE G a x h2.1.2).1 (sK G (.cons b r) xs h2.2)).run pos pins s σ H Q I (t_consB q)⟩
theorem sO {X : Cx} {T : Tb} {cm : Bool} {N : List Str} {sc : Scope} {p : Pg} {n : Nat} {g : Wi} (G : Gx X T cm N sc p n g) : ∀ (a : IO) (x : Option Expr), chkO T cm N sc a x = true → PO X x (tOo X.K g (p.wd n) a)
  | .no, none, _ => po_noneO
  | .so a, none, h => by simp only [chkO, Bool.false_eq_true] at h
  | .no, some x, h => by simp only [chkO, Bool.false_eq_true] at h
  | .so a, some x, h => by
    simp only [chkO] at h
    exact po_someO (sE G a x h).1
end
end Pi
set_option maxRecDepth 100000
set_option maxHeartbeats 3900000
namespace Pi
open PySem PySem.Spec L2 PyProof.Rows
/-! ### what follows a statement -/
def PoS (K : PySem.W.Frag) (g : Wi) (e : En) (F : Hp) (D : Ends) : Out → Prop
  | .next s => ∀ σ H F', Rl K e s σ F' H → Same F F' → D.nx σ H
  | .brk s => ∀ σ H F', Rl K e s σ F' H → Same F F' → D.bk σ H
  | .cont s => ∀ σ H F', Rl K e s σ F' H → Same F F' → D.ct σ H
  | .ret v s => ∀ H F' u, Rl K e ⟨[], s.cell⟩ [] F' H → Same F F' → Rv K e ⟨[], s.cell⟩ [] F' H u v.er → D.rt u H
  | .exc c fs s => ∀ σ d H F', Rl K e s σ F' H → Same F F' → Xd K F' H d fs → g.W (g.cn c) d σ H
  | .stuck => False
def tS (K : PySem.W.Frag) (g : Wi) (w : Wd) (a : IS) : TS := fun D σ H => ∃ e s F, Rl K e s σ F H ∧ PoS K g e F D (exec w a s)
def tSs (K : PySem.W.Frag) (g : Wi) (w : Wd) (a : ISs) : TS := fun D σ H => ∃ e s F, Rl K e s σ F H ∧ PoS K g e F D (execs w a s)
section
variable {K : PySem.W.Frag} {g : Wi} {e : En} {s s' : Fr} {σ : Sg} {F F' H H' : Hp} {D D' : Ends} {o : Out} {v : V} {er : ER}
theorem PoS.mono (h : PoS K g e F D o) (sm : Same F F') : PoS K g e F' D o := by
  cases o with
  | next t => exact fun σ H F2 k q => h σ H F2 k (sm.trans q)
  | brk t => exact fun σ H F2 k q => h σ H F2 k (sm.trans q)
  | cont t => exact fun σ H F2 k q => h σ H F2 k (sm.trans q)
  | ret u t => exact fun H F2 u k q x => h H F2 u k (sm.trans q) x
  | exc c fs t => exact fun σ d H F2 k q x => h σ d H F2 k (sm.trans q) x
  | stuck => exact h
theorem PoS.out {α : Type} {r : Rs α} {f : α → Fr → Out} (h : PoS K g e F D (r.out f)) (σ : Sg) : Po K g e σ F (fun a s F1 _ => PoS K g e F1 D (f a s)) r := by
  cases r with
  | ok a t => exact fun H F2 k q => PoS.mono (o := f a t) h q
  | exc c fs t => exact fun d H F2 k q x => h σ d H F2 k q x
  | stuck => exact h
theorem PoS.seq {f : Fr → Out} (h : PoS K g e F D (o.seq f)) (hn : ∀ s σ H F', Rl K e s σ F' H → Same F F' → PoS K g e F' D (f s) → D'.nx σ H) (h1 : D'.rt = D.rt) (h2 : D'.bk = D.bk) (h3 : D'.ct = D.ct) : PoS K g e F D' o := by
  cases o with
  | next t => exact fun σ H F2 k q => hn t σ H F2 k q (PoS.mono (o := f t) h q)
  | brk t => exact fun σ H F2 k q => by rw [h2]; exact h σ H F2 k q
  | cont t => exact fun σ H F2 k q => by rw [h3]; exact h σ H F2 k q
  | ret u t => exact fun H F2 u k q x => by rw [h1]; exact h H F2 u k q x
  | exc c fs t => exact h
  | stuck => exact h
theorem Rl.drop (R : Rl K e s σ F H) : Rl K e ⟨[], s.cell⟩ [] F H :=
  ⟨R.sub, R.fnew, R.f0, R.keep, R.cell, fun i x q => by simp at q, fun i j x y q => by simp at q, rfl⟩
/-- a list of one's own is written -/
theorem Rl.mutO {i : Nat} {p : Addr} {xs ys : List Pi.D} {ws : List V} (R : Rl K e s σ F H) (hs : s.sl[i]? = some (.own xs)) (hv : σ[i]? = some (some (.ref p))) (ra : RpA K F ws ys) : Rl K e (s.put i (.own ys)) σ F (upd H p (.lst ws)) := by
  obtain ⟨p', vs, hw, h1, h2, h3, h4, h5⟩ := R.slot i _ hs
  rw [hv] at hw
  cases hw
  have il : i < s.sl.length := (List.getElem?_eq_some_iff.mp hs).1
  refine ⟨fun b u q => ?_, R.fnew, R.f0, fun b u q hc => ?_, fun a ha => ?_, fun j x q => ?_, fun j k x y q1 q2 i1 i2 z => ?_, by show (s.sl.set i _).length = _; rw [List.length_set]; exact R.len⟩
  · rw [upd_ne (ne_of_none q h2)]
    exact R.sub b u q
  · rw [upd_ne (ne_of_none q h1)]
    exact R.keep b u q hc
  · obtain ⟨g1, us, g2, r⟩ := R.cell a ha
    have na : a ≠ p := fun z => h3 (by rw [← z]; exact ha.symm)
    exact ⟨g1, us, by rw [upd_ne na]; exact g2, r⟩
  · rcases set_get q with ⟨rfl, rfl⟩ | ⟨ne, q⟩
    · exact ⟨p, ws, hv, h1, h2, h3, upd_same, ra⟩
    · have k := R.slot j x q
      cases x with
      | own zs =>
        obtain ⟨p2, us, hw, g1, g2, g3, g4, g5⟩ := k
        have np : p2 ≠ p := fun z => ne (R.dist i j _ _ hs q rfl rfl (by rw [hv, hw, z]))
        exact ⟨p2, us, hw, g1, g2, g3, by rw [upd_ne np]; exact g4, g5⟩
      | un => exact k
      | val _ => exact k
      | ref => exact k
  · have own : ∀ (j : Nat) x, (s.sl.set i (.own ys))[j]? = some x → isOwn x = true → ∃ y, s.sl[j]? = some y ∧ isOwn y = true := fun j x q io => by
      rcases set_get q with ⟨rfl, rfl⟩ | ⟨ne, q⟩
      · exact ⟨_, hs, rfl⟩
      · exact ⟨x, q, io⟩
    obtain ⟨x', w1, w2⟩ := own j x q1 i1
    obtain ⟨y', w3, w4⟩ := own k y q2 i2
    exact R.dist j k x' y' w1 w3 w2 w4 z
/-- the cell is written -/
theorem Rl.mutC {a : Addr} {ys : List Pi.D} {ws : List V} (R : Rl K e s σ F H) (ha : e.c = some a) (ra : RpA K F ws ys) : Rl K e ⟨s.sl, ys⟩ σ F (upd H a (.lst ws)) := by
  obtain ⟨h1, vs, h2, h3⟩ := R.cell a ha
  refine ⟨fun b u q => ?_, R.fnew, R.f0, fun b u q hc => ?_, fun a' ha' => ?_, fun j x q => ?_, R.dist, R.len⟩
  · rw [upd_ne (ne_of_none q h1)]
    exact R.sub b u q
  · rw [upd_ne (fun z => hc (by rw [z]; exact ha.symm))]
    exact R.keep b u q hc
  · rw [ha] at ha'
    cases ha'
    exact ⟨h1, ws, upd_same, ra⟩
  · have k := R.slot j x q
    cases x with
    | own zs =>
      obtain ⟨p2, us, hw, g1, g2, g3, g4, g5⟩ := k
      exact ⟨p2, us, hw, g1, g2, g3, by rw [upd_ne (fun z => g3 (by rw [z]; exact ha.symm))]; exact g4, g5⟩
    | un => exact k
    | val _ => exact k
    | ref => exact k
/-- what is changed at slot i: where it stands, what it was -/
theorem Rl.mutS {i : Nat} {f : List Pi.D → Option (List Pi.D)} (R : Rl K e s σ F H) (q : mutS i f s = some s') : ∃ p vs xs ys, σ[i]? = some (some (.ref p)) ∧ H p = some (.lst vs) ∧ RpA K F vs xs ∧ f xs = some ys ∧ ∀ ws, RpA K F ws ys → Rl K e s' σ F (upd H p (.lst ws)) := by
  unfold Pi.mutS at q
  cases hs : s.sl[i]? with
  | none => simp only [hs] at q; cases q
  | some x =>
    simp only [hs] at q
    have k := R.slot i x hs
    cases x with
    | un => cases q
    | val _ => cases q
    | own xs =>
      simp only at q
      cases hf : f xs with
      | none => rw [hf] at q; cases q
      | some ys =>
        rw [hf] at q
        cases q
        obtain ⟨p, vs, hw, h1, h2, h3, h4, h5⟩ := k
        exact ⟨p, vs, xs, ys, hw, h4, h5, hf, fun ws ra => R.mutO hs hw ra⟩
    | ref =>
      simp only at q
      cases hf : f s.cell with
      | none => rw [hf] at q; cases q
      | some ys =>
        rw [hf] at q
        cases q
        obtain ⟨a, ha, hw⟩ := k
        obtain ⟨h1, vs, h2, h3⟩ := R.cell a ha
        exact ⟨a, vs, s.cell, ys, hw, h2, h3, hf, fun ws ra => R.mutC ha ra⟩
/-- name = .. -/
theorem po_sto {i : Nat} (R : Rl K e s σ F H) (rv : Rv K e s σ F H v er) (h : PoS K g e F D (stoR i er s)) : D.nx (σ.set i (some v)) H := by
  cases er with
  | val d => exact h _ H F (R.store rv) (Same.refl F)
  | fresh xs => exact h _ H F (R.storeO rv) (Same.refl F)
  | cell => exact h.elim
  | slot j =>
    have rv' : σ[j]? = some (some v) := rv
    unfold stoR at h
    cases hs : s.sl[j]? with
    | none => simp only [hs] at h; exact h.elim
    | some x =>
      simp only [hs] at h
      cases x with
      | un => exact h.elim
      | ref => exact h.elim
      | val d =>
        obtain ⟨u, h1, h2⟩ := R.slot j _ hs
        rw [rv'] at h1
        cases h1
        exact h _ H F (R.store h2) (Same.refl F)
      | own xs =>
        have q : ER.fz s (.slot j) = .ok (.lst xs) (s.put j (.val (.lst xs))) := by
          unfold ER.fz
          simp only [hs]
        obtain ⟨F2, R2, sm2, rp⟩ := R.fzz (er := .slot j) rv q
        exact h _ H F2 (R2.store rp) sm2
/-- return .. -/
theorem po_ret (R : Rl K e s σ F H) (rv : Rv K e s σ F H v er) (h : PoS K g e F D (retR er s)) : D.rt v H := by
  cases er with
  | val d => exact h H F v R.drop (Same.refl F) rv
  | fresh xs =>
    obtain ⟨p, vs, rfl, h1, h2, h3, h4, h5, _⟩ := rv
    exact h H F _ R.drop (Same.refl F) ⟨p, vs, rfl, h1, h2, h3, h4, h5, fun i x q => by simp at q⟩
  | cell => exact h.elim
  | slot j =>
    have rv : σ[j]? = some (some v) := rv
    unfold retR at h
    cases hs : s.sl[j]? with
    | none => simp only [hs] at h; exact h.elim
    | some x =>
      simp only [hs] at h
      cases x with
      | un => exact h.elim
      | ref => exact h.elim
      | val d =>
        obtain ⟨u, h1, h2⟩ := R.slot j _ hs
        rw [rv] at h1
        cases h1
        exact h H F v R.drop (Same.refl F) h2
      | own xs =>
        obtain ⟨p, vs, hw, h1, h2, h3, h4, h5⟩ := R.slot j _ hs
        rw [rv] at hw
        cases hw
        exact h H F _ R.drop (Same.refl F) ⟨p, vs, rfl, h1, h2, h3, h4, h5, fun i x q => by simp at q⟩
end
end Pi
set_option maxRecDepth 100000
set_option maxHeartbeats 3900000
namespace Pi
open PySem PySem.Spec L2 PyProof.Rows
/-! ### except clauses with names; the error is told of while its suite runs. Each clause is one of the library's steps PX.clause_asZ, PX.clause_passZ, PX.no_clauseZ. -/
/-- an error has come to rest in the frame of X; tI is the state without it, B the ground -/
structure Rest (X : Cx) (pins : List (Addr × Obj)) (σ : L2.St) (H : Hp) (a : Addr) (cls : Value) (d : Option Addr) (B : Heap) (tI s : Shared) : Prop where
  bare : Inv X pins σ H tI
  ground : ∀ b o, tI.heap.get? b = some o → b ∉ frs X.stack → B.get? b = some o
  slots : tI.heap.UpToSlots s.heap
  fly : PX.FlyingZ B (X.env :: X.outer) a (Zc cls d) s.heap
  out : H a = none
  sys : s.os = tI.os
  gens : AllBare s.gens
section
variable {X : Cx} {pins : List (Addr × Obj)} {σ : L2.St} {H : Hp} {a : Addr} {cls : Value} {d : Option Addr} {B : Heap} {tI s : Shared}
theorem Rest.now (R : Rest X pins σ H a cls d B tI s) : Inv X pins σ H s := R.bare.landed R.ground R.fly.1 R.slots R.sys R.gens
theorem Rest.later {h : Heap} (R : Rest X pins σ H a cls d B tI s) (f : PX.FlyingZ B (X.env :: X.outer) a (Zc cls d) h) (u : s.heap.UpToSlots h) : Rest X pins σ H a cls d B tI { s with heap := h } :=
  { R with slots := R.slots.trans u, fly := f }
theorem Rest.obj (R : Rest X pins σ H a cls d B tI s) : ∃ oe vs, s.heap.get? a = some oe ∧ oe.cls = cls ∧ oe.dict = d ∧ oe.data = .fields vs := by
  obtain ⟨_, _, _, oe, vs, _, _, _, q, ⟨z1, z2⟩, dd, _⟩ := R.fly
  exact ⟨oe, vs, q, z1, z2, dd⟩
/-- it is no frame -/
theorem Rest.noframe (R : Rest X pins σ H a cls d B tI s) : a ∉ frs (X.env :: X.outer) := by
  intro hm
  obtain ⟨_, o, q, no⟩ := R.fly.2.2.1.mem hm
  obtain ⟨oe, vs, q2, _, _, dd⟩ := R.obj
  have e := Option.some.inj (q2.symm.trans q)
  exact no vs (e ▸ dd)
theorem Rest.noloc (hf : X.env.frame = some X.env.locals) (R : Rest X pins σ H a cls d B tI s) : a ≠ X.env.locals := by
  rintro rfl
  refine R.noframe ?_
  unfold frs
  simp [hf]
/-- it was not there before -/
theorem Rest.fresh (hs : X.stack = X.env :: X.outer) (R : Rest X pins σ H a cls d B tI s) : tI.heap.get? a = none := by
  match q : tI.heap.get? a with
  | none => rfl
  | some o =>
    have z := R.ground a o q (hs ▸ R.noframe)
    rw [show B.get? a = none from R.fly.2.1] at z
    exact nomatch z
end
theorem exq_ok {P : Program} {w : World} {H : Hp} {h : Heap} {a c : Addr} {d : Option Addr} {oe : Obj} {vs : Array Value} (h1 : h.get? a = some oe) (h2 : oe.cls = .ref c) (h3 : oe.dict = d) (h4 : oe.data = .fields vs) : ObjOk P w H h a (exq a c d) :=
  ⟨⟨oe, vs, h1, h2, h3, h4⟩, ⟨oe, h1⟩, fun g1 g2 ⟨oe', vs', k1, k2, k3, k4⟩ k => ⟨oe', vs', k _ k1, k2, k3, k4⟩⟩
section
variable {X : Cx} {pins : List (Addr × Obj)} {σ : L2.St} {H : Hp} {s tI : Shared} {a C : Addr} {d : Option Addr} {B : Heap}
/-- in its suite the error is told of in H -/
theorem Rest.told (hs : X.stack = X.env :: X.outer) (hf : X.env.frame = some X.env.locals) (hex : X.ex = []) (R : Rest X pins σ H a (.ref C) d B tI s) : Inv (X.suite a (X.pn ++ pins)) [] σ (upd H a (exq a C d)) s := by
  have I := R.now
  have hn := R.fresh hs
  have nl : a ≠ X.env.locals := R.noloc hf
  obtain ⟨oe, vs, h1, h2, h3, h4⟩ := R.obj
  have far : ∀ {b : Addr} {u : HO}, H b = some u → upd H a (exq a C d) b = some u := fun {b u} q => by rw [upd_ne (ne_of_none q R.out)]; exact q
  have far0 : ∀ {b : Addr}, b ≠ a → H b = none → upd H a (exq a C d) b = none := fun {b} n q => by rw [upd_ne n]; exact q
  have old : ∀ {b : Addr} {o : Obj}, tI.heap.get? b = some o → b ≠ a := fun {b o} q z => by
    rw [z, hn] at q
    exact nomatch q
  exact {
    ok := I.ok.suite _ _
    os := I.os
    bare := I.bare
    base := { keep := I.base.keep, slot := I.base.slot, there := I.base.there
              free := fun b o e n hx => by
                obtain ⟨o', q⟩ := R.bare.base.there b o e (by simp [hex])
                exact far0 (old q) (I.base.free b o e n hx)
              tups := fun b xs q => far (I.base.tups b xs q)
              frzs := fun b o v q => far (I.base.frzs b o v q)
              tbls := fun b ps q => let ⟨m, z⟩ := I.base.tbls b ps q; ⟨m, far z⟩ }
    loc := I.loc
    cell := I.cell
    free := far0 (Ne.symm nl) I.free
    freeC := fun y k q => by
      obtain ⟨_, o', z, _⟩ := R.bare.cell y k q
      exact far0 (old z) (I.freeC y k q)
    pin := fun p hp => by
      have hp : p ∈ X.pn ++ pins := by simpa using hp
      obtain ⟨k1, k2, k3⟩ := I.pin p hp
      exact ⟨k1, far0 (old (R.bare.pin p hp).1) k2, k3⟩
    hok := fun b o q => by
      by_cases hb : b = a
      · subst hb
        rw [upd_same] at q
        cases q
        exact exq_ok h1 h2 h3 h4
      · rw [upd_ne hb] at q
        exact (I.hok b o q).stay (fun _ _ _ z => z) (fun k z => far z) fun k xs z => far z
    len := I.len }
/-- .. and behind it the frame is as before -/
theorem inv_back {pn' : List (Addr × Obj)} (I : Inv (X.suite a (X.pn ++ pins)) pn' σ H s) (ok : X.Ok) : Inv X pins σ H s :=
  { I with ok := ok, pin := fun p hp => I.pin p (List.mem_append_left _ hp) }
end
section
variable {X : Cx} {pins : List (Addr × Obj)} {σ : L2.St} {H : Hp} {s tI : Shared} {a : Addr} {cls : Value} {d : Option Addr} {B : Heap}
/-- new objects do not stir it -/
theorem Rest.kept {h : Heap} (R : Rest X pins σ H a cls d B tI s) (k : ∀ b o, s.heap.get? b = some o → h.get? b = some o) : Rest X pins σ H a cls d B tI { s with heap := h } := by
  obtain ⟨f1, f2, f3, oe, vs, T, oT, ts, q1, q2, q3, q4, q5, q6, q7, q8⟩ := R.fly
  exact R.later ⟨fun b o z => k b o (f1 b o z), f2, Heap.FunFrames.of_keeps (fun b o z _ => ⟨o, k b o z, rfl⟩) f3, oe, vs, T, oT, ts, k _ _ q1, q2, q3, q4, q5, q6, k _ _ q7, q8⟩ (Heap.UpToSlots.of_keeps k)
theorem Rest.looks (R : Rest X pins σ H a cls d B tI s) : PySem.W.Looks (model X.prog X.w) s.heap (typeOf (.ref a)) cls := by
  obtain ⟨oe, vs, there, c, _⟩ := R.obj
  exact fun A Q E s k q => wpAny_typeOf_ref (k _ _ there) (c ▸ q)
end
/-- an except clause's test, asked beside the error, tells b -/
def Sees (X : Cx) (t : Expr) (cls : Value) (b : Bool) : Prop := ∀ (pins : List (Addr × Obj)) (σ : L2.St) (H : Hp) (a : Addr) (d : Option Addr) (B : Heap) (tI s : Shared), Rest X pins σ H a cls d B tI s → ∀ (Q : Bool → Shared → Prop) (E : Value → Shared → Prop),
  (∀ h, (∀ q o, s.heap.get? q = some o → h.get? q = some o) → Q b { s with heap := h }) → wpAny (model X.prog X.w) (X.A.mark (some (.ref a))) (eval t X.env) (fun c s1 => wpAny (model X.prog X.w) (X.A.mark (some (.ref a))) (excMatches (.ref a) c) Q E s1) E s
section
variable {X : Cx} {cls c c' : Value} {x x' : Str} {np np' : Pos} {b : Bool}
/-- a class is read beside the error -/
theorem Rest.reads (hf : X.env.frame = some X.env.locals) {pins : List (Addr × Obj)} {σ : L2.St} {H : Hp} {a : Addr} {d : Option Addr} {B : Heap} {tI s : Shared} (R : Rest X pins σ H a cls d B tI s) (hc : Names X x c) {Q : Value → Shared → Prop} {E : Value → Shared → Prop} (q : Q c s) :
    wpAny (model X.prog X.w) (X.A.mark (some (.ref a))) (eval (.Name x np) X.env) Q E s := by
  obtain ⟨oe, vs, o1, _, _, o2⟩ := R.obj
  have nF : a ∉ X.fs := fun z => R.noframe (by
    obtain ⟨e, he, q⟩ := List.mem_filterMap.mp z
    exact List.mem_filterMap.mpr ⟨e, .tail _ he, q⟩)
  have S := R.now.suite o1 o2 R.out (R.noloc hf) nF
  rcases hc with ⟨hg, hdb, hm | ⟨hm, hv, hn⟩⟩
  · exact ld_glob (X := X.suite a ((a, oe) :: (X.pn ++ pins))) S hg hm q hdb
  · exact ld_blt (X := X.suite a ((a, oe) :: (X.pn ++ pins))) S hg hm hv q hn hdb
theorem sees_one (hf : X.env.frame = some X.env.locals) (hc : Names X x c) (hm : PySem.W.exmOne X.K cls c = some b) : Sees X (.Name x np) cls b := fun pins σ H a d B tI s R Q E q =>
  R.reads hf hc ((PySem.W.exm_one R.now.kIn R.looks hm).here (q s.heap fun _ _ z => z))
theorem sees_two {kk : Nat} {tp : Pos} (hf : X.env.frame = some X.env.locals) (hc : Names X x c) (hc' : Names X x' c') (hm : PySem.W.exmAny X.K cls [c, c'] = some b) : Sees X (.Tuple [.Name x np, .Name x' np'] kk tp) cls b := by
  intro pins σ H a d B tI s R Q E q
  refine wpAny_Tuple (wpAny_items_cons (R.reads hf hc (wpAny_items_cons (R.reads hf hc' (wpAny_items_nil ⟨by size_fits, ?_⟩)))))
  have k : ∀ q o, s.heap.get? q = some o → (s.heap.push { cls := .type "tuple", data := .seq [c, c'].toArray }).get? q = some o := fun _ _ z => Heap.get?_push_of_some _ z
  exact (PySem.W.exm_tup2 (R.now.kIn.keeps k) (R.looks.keeps k) (Heap.get?_push_size s.heap rfl) hm).here (q _ k)
end
/-- the name is gone behind the suite -/
def goneD (i : Nat) (D : Ends) : Ends := { nx := fun σ H => D.nx (σ.set i none) H, rt := D.rt, bk := fun σ H => D.bk (σ.set i none) H, ct := fun σ H => D.ct (σ.set i none) H }
def wMix (K : PySem.W.Frag) (Wout : WX) (D : Ends) : List (List Value × Nat × TS) → WX
  | [] => Wout
  | (cs, i, ts) :: r => fun cls d σ H => ∃ b, PySem.W.exmAny K cls cs = some b ∧ (b = true → ∃ C, cls = .ref C ∧ ∀ a, H a = none → ts (goneD i D) (σ.set i (some (.ref a))) (upd H a (exq a C d))) ∧ (b = false → wMix K Wout D r cls d σ H)
inductive HdsD (X : Cx) : List ExceptHandler → List (List Value × Nat × TS) → Prop
  | nil : HdsD X [] []
  | cons {t : Expr} {nm : Str} {cs : List Value} {i : Nat} {ts : TS} {b₀ : Stmt} {suite : List Stmt} {pos' : Pos} {hds : List ExceptHandler} {l : List (List Value × Nat × TS)} (see : ∀ cls b, PySem.W.exmAny X.K cls cs = some b → Sees X t cls b) (hi : X.N[i]? = some nm) (hln : X.env.kindOf nm = some .local)
      (hsu : ∀ (a : Addr) (pn : List (Addr × Obj)), PSs (X.suite a pn) (b₀ :: suite) ts) (r : HdsD X hds l) : HdsD X (.ExceptHandler (some t) (some nm) (b₀ :: suite) pos' :: hds) ((cs, i, ts) :: l)
/-- what a statement leaves, read in two frames -/
theorem SP.to {X Y : Cx} {p q : List (Addr × Obj)} {D : Ends} {f : Flow} {s : Shared} (h : SP Y p D f s) (g : ∀ σ H, Inv Y p σ H s → Inv X q σ H s) : SP X q D f s := by
  cases f with
  | ret u => obtain ⟨v, σ, H, J, k⟩ := h; exact ⟨v, σ, H, g _ _ J, k⟩
  | next => obtain ⟨σ, H, J, k⟩ := h; exact ⟨σ, H, g _ _ J, k⟩
  | brk => obtain ⟨σ, H, J, k⟩ := h; exact ⟨σ, H, g _ _ J, k⟩
  | cont => obtain ⟨σ, H, J, k⟩ := h; exact ⟨σ, H, g _ _ J, k⟩
section
variable {X : Cx} {pins : List (Addr × Obj)} {D : Ends} {Wout : WX}
/-- the clauses, one behind the other -/
theorem clauses (hs : X.stack = X.env :: X.outer) (hf : X.env.frame = some X.env.locals) (hex : X.ex = []) (hN : X.N.Nodup) (tk : Takes X Wout) {hds : List ExceptHandler} {l : List (List Value × Nat × TS)} (hh : HdsD X hds l) :
    ∀ {σ : L2.St} {H : Hp} {a : Addr} {cls : Value} {d : Option Addr} {B : Heap} {tI s : Shared}, Rest X pins σ H a cls d B tI s → wMix X.K Wout D l cls d σ H → wpAny (model X.prog X.w) X.A (handleBy (.ref a) X.env hds) (SP X pins D) X.xe s := by
  induction hh with
  | nil =>
    intro σ H a cls d B tI s R w
    refine PX.no_clauseZ hf R.fly fun h held u => tk _ _ ⟨a, B, tI, pins, σ, H, cls, d, rfl, R.bare, R.ground, R.slots.trans u, Or.inr (Or.inr ?_), R.out, R.sys, R.gens, w⟩
    rw [hs]
    exact held
  | @cons t nm cs i ts b₀ suite pos' hds l see hi hln hsu r ih =>
    intro σ H a cls d B tI s R w
    obtain ⟨b, hm, yes, no⟩ := w
    refine wpAny_handleBy_cons (codeAny_handlers_test (see cls b hm pins σ H a d B tI s R _ _ fun h k => ?_)) (fun q => nomatch q)
    have R1 := R.kept k
    cases b with
    | false => exact ih R1 (no rfl)
    | true =>
      obtain ⟨C, rfl, run⟩ := yes rfl
      refine codeAny_handlers_suite_as (PX.lands_againZ R1.fly fun h f u => ?_)
      refine store_ok (X := X.suite a (X.pn ++ pins)) (v := .ref a) ((R1.later f u).told hs hf hex) hN hi (Or.inl hln) rfl (fun s5 S5 => ?_) (Or.inr hln)
      refine wpAny_mono ((hsu a (X.pn ++ pins)).run [] s5 _ _ _ S5 (run a R.out)) (fun fl s6 z => ?_) fun _ _ z => z.elim
      cases fl with
      | ret u => obtain ⟨v, σ6, H6, S6, k1, k2⟩ := z; exact gone_ok (inv_back S6 R.bare.ok) hN hi hln fun s7 J => ⟨v, _, H6, J, k1, k2⟩
      | next => obtain ⟨σ6, H6, S6, k⟩ := z; exact gone_ok (inv_back S6 R.bare.ok) hN hi hln fun s7 J => ⟨_, H6, J, k⟩
      | brk => obtain ⟨σ6, H6, S6, k⟩ := z; exact gone_ok (inv_back S6 R.bare.ok) hN hi hln fun s7 J => ⟨_, H6, J, k⟩
      | cont => obtain ⟨σ6, H6, S6, k⟩ := z; exact gone_ok (inv_back S6 R.bare.ok) hN hi hln fun s7 J => ⟨_, H6, J, k⟩
theorem ps_tryD {body : List Stmt} {h₀ : ExceptHandler} {hds : List ExceptHandler} {l : List (List Value × Nat × TS)} {pos : Pos} {tb : WX → TS} (hs : X.stack = X.env :: X.outer) (hf : X.env.frame = some X.env.locals) (hex : X.ex = []) (hN : X.N.Nodup) (tk : Takes X Wout)
    (hb : ∀ (W : WX) (pn : List (Addr × Obj)) (xe : Value → Shared → Prop), Takes (X.tr pn xe) W → PassesOwn (model X.prog X.w) X.A X.env xe → PSs (X.tr pn xe) body (tb W)) (hh : HdsD X (h₀ :: hds) l) : PS X (.Try body (h₀ :: hds) [] [] pos) (fun D σ H => tb (wMix X.K Wout D l) D σ H) := by
  refine PS.mk fun pins s σ H D I h => wpAny_Try_except ?_
  have fr : X.A.frames = some (X.env :: X.outer) := I.ok.frames.trans (congrArg some hs)
  have run := (hb (wMix X.K Wout D l) (X.pn ++ pins) (fun e t => wpAny (model X.prog X.w) X.A (noteFrame e X.env) (fun _ t => wpAny (model X.prog X.w) X.A (setFlight e none) (fun _ t => wpAny (model X.prog X.w) X.A (handleBy e X.env (h₀ :: hds)) (SP X pins D) X.xe t) X.xe t) X.xe t) ?land PassesOwn.looking).run [] s σ H D (I.toTry _) h
  · refine wpAny_mono run (fun f t z => ?_) fun _ _ z => z
    have z2 : SP X pins D f t := SP.to z fun σ' H' J => J.ofTry I.ok
    cases f with
    | next => exact wpAny_execs_nil z2
    | ret u => exact z2
    | brk => exact z2
    | cont => exact z2
  · rintro u t ⟨a, B, tI, pn, σ', H', cls, d, rfl, J, ground, up, sky, out, sys, gens, w⟩
    have sky : PX.AirZ B (X.env :: X.outer) a (Zc cls d) X.env.locals t.heap := hs ▸ sky
    exact PX.AirZ.land (Z := Zc cls d) (fun o _ z => Zc.steady o _ z) fr hf sky fun h f u => clauses hs hf hex hN tk hh ⟨J.ofTry I.ok, ground, up.trans u, f, out, sys, gens⟩ w
end
end Pi
set_option maxRecDepth 100000
set_option maxHeartbeats 3900000
namespace Pi
open PySem PySem.Spec L2 PyProof.Rows
/-! ### stores -/
theorem sw_plain {v : Expr} {t : Option Expr} {l : Nat} {env : Env} (h : noComp v = true) : swapsWith v t l env = pure false := by
  cases v <;> first | rfl | cases h
def lineOf (ts : List Expr) : Nat := (ts.head?.map (·.pos.line)).getD 0
def locN (sc : Scope) (l : Nat) : Expr → Option Str
  | .Name id pos => if sc.names.lookup id == some .local && pos.line == l then some id else none
  | _ => none
def swOff (sc : Scope) (ts : List Expr) : Expr → Bool
  | .Tuple _ _ _ => decide ((ts.filterMap (locN sc (lineOf ts))).length ≠ ts.length)
  | _ => true
theorem locN_eq (env : Env) (l : Nat) : (fun (e : Expr) => match e with | .Name id pos => if env.kindOf id == some .local && pos.line == l then some id else none | _ => none) = locN env.scope l := by
  funext e
  cases e <;> rfl
theorem sw_off {ts : List Expr} {k : Nat} {p : Pos} {v : Expr} {env : Env} (h : swOff env.scope ts v = true) : swappedStores [.Tuple ts k p] v env = pure none := by
  cases v <;> try rfl
  rename_i vs k2 p2
  have h : (ts.filterMap (locN env.scope (lineOf ts))).length ≠ ts.length := of_decide_eq_true h
  unfold swappedStores
  dsimp only
  split
  · rfl
  · split
    · rfl
    · split
      · rfl
      · rename_i q
        exfalso
        simp only [Bool.or_eq_true, bne_iff_ne, ne_eq, not_or, Decidable.not_not] at q
        exact h q.1
def swOn (sc : Scope) (ts vs : List Expr) (x y : Str) : Bool := decide (ts.length = 2) && decide (vs.length = 2) && !(vs.any fun | .Starred .. => true | _ => false) && decide (ts.filterMap (locN sc (lineOf ts)) = [x, y]) && decide (x ≠ y) && !(vs.all (foldedForSure 8)) && !(vs.all (constantsAlone 8))
theorem sw_on {ts vs : List Expr} {k k2 : Nat} {p p2 : Pos} {env : Env} {x y : Str} (hk : env.scope.kind = .function) (h : swOn env.scope ts vs x y = true) : swappedStores [.Tuple ts k p] (.Tuple vs k2 p2) env = pure (some [x, y]) := by
  unfold swOn at h
  simp only [Bool.and_eq_true, decide_eq_true_eq, Bool.not_eq_true'] at h
  rcases h with ⟨⟨⟨⟨⟨⟨h1, h2⟩, h3⟩, h4⟩, h5⟩, h6⟩, h7⟩
  have hb : env.blockKind = .function := by simp [Env.blockKind, hk]
  have h4' : (ts.filterMap fun (e : Expr) => match e with | .Name id pos => if env.kindOf id == some .local && pos.line == lineOf ts then some id else none | _ => none) = [x, y] := by rw [locN_eq]; exact h4
  have he : ([x, y] : List Str).eraseDups.length = 2 := by
    have z : (x == y) = false := by simpa using h5
    simp [List.eraseDups, List.eraseDupsBy, List.eraseDupsBy.loop, z, Bool.beq_comm, h5, Ne.symm h5]
  unfold swappedStores
  dsimp only
  generalize hL : List.filterMap _ ts = L
  have hn : L = [x, y] := hL.symm.trans h4'
  subst hn
  split
  · rename_i q
    exfalso
    rw [h1, h2, hb] at q
    exact absurd q (by decide)
  · split
    · rename_i q
      exact Bool.noConfusion (h3.symm.trans q)
    · split
      · rename_i q
        exfalso
        rw [h1, he] at q
        exact Bool.noConfusion q
      · split
        · rename_i q
          rw [h6] at q
          cases q
        · split
          · rename_i q
            rw [h7] at q
            cases q
          · rfl
end Pi
set_option maxRecDepth 100000
set_option maxHeartbeats 3900000
namespace Pi
open PySem PySem.Spec L2 PyProof.Rows
/-! ### the text of statements against the small form -/
def isC : IE → Bool
  | .cst (.int _) => true
  | .var _ => true
  | _ => false
def chkTG (T : Tb) (cm : Bool) (N : List Str) (sc : Scope) : TG → Expr → Bool
  | .nm i, .Name x _ => tgOk N sc (fun _ => true) x i
  | .ix i e, .Subscript (.Name x xp) y _ => chk T cm N sc (.var i) (.Name x xp) && isC e && noSlice y && chk T cm N sc e y
  | _, _ => false
def chkTGs (T : Tb) (cm : Bool) (N : List Str) (sc : Scope) : List TG → List Expr → Bool
  | [], [] => true
  | t :: ts, x :: xs => chkTG T cm N sc t x && chkTGs T cm N sc ts xs
  | _, _ => false
def chkPar (T : Tb) (cm : Bool) (N : List Str) (sc : Scope) (i j : Nat) (es : IEs) : Stmt → Bool
  | .Assign [.Tuple [.Name x xp, .Name y yp] _ _] (.Tuple [v1, v2] _ _) _ => cm && decide (N[i]? = some x) && decide (N[j]? = some y) && decide (i ≠ j) && decide (sc.names.lookup x = some .local) && decide (sc.names.lookup y = some .local) && swOn sc [.Name x xp, .Name y yp] [v1, v2] x y && chkA T cm N sc es [v1, v2]
  | _ => false
def chkSet (T : Tb) (cm : Bool) (N : List Str) (sc : Scope) (i : Nat) (e : IE) : Stmt → Bool
  | .Assign [.Name x _] v _ => tgOk N sc (fun _ => true) x i && noComp v && chk T cm N sc e v
  | _ => false
def chkSetT (T : Tb) (cm : Bool) (N : List Str) (sc : Scope) (ts : List TG) (e : IE) : Stmt → Bool
  | .Assign [.Tuple es _ _] v _ => cm && chkTGs T cm N sc ts es && noComp v && swOff sc es v && chk T cm N sc e v
  | _ => false
def chkSetI (T : Tb) (cm : Bool) (N : List Str) (sc : Scope) (i : Nat) (ix e : IE) : Stmt → Bool
  | .Assign [.Subscript (.Name x xp) y yp] v _ => chkTG T cm N sc (.ix i ix) (.Subscript (.Name x xp) y yp) && noComp v && chk T cm N sc e v
  | _ => false
def chkRet (T : Tb) (cm : Bool) (N : List Str) (sc : Scope) (e : IE) : Stmt → Bool
  | .Return (some x) _ => chk T cm N sc e x
  | _ => false
def chkRetN : Stmt → Bool
  | .Return none _ => true
  | _ => false
def chkRais (T : Tb) (cm : Bool) (N : List Str) (sc : Scope) (c : Tx) (es : IEs) : Stmt → Bool
  | .Raise (some (.Call (.Name x _) as [] _)) none _ => cm && decide ((x, c) ∈ T.mks) && globOk sc x && chkA T cm N sc es as
  | _ => false
/-- the test of an except clause: a class, or two -/
def chkT (T : Tb) (sc : Scope) : List Cl → Expr → Bool
  | [k], .Name x _ => decide ((x, k) ∈ T.xcl) && globOk sc x
  | [k, l], .Tuple [.Name x _, .Name y _] _ _ => decide ((x, k) ∈ T.xcl) && globOk sc x && decide ((y, l) ∈ T.xcl) && globOk sc y
  | _, _ => false
mutual
def chkS (T : Tb) (cm : Bool) (N : List Str) (sc : Scope) : IS → Stmt → Bool
  | .set i e, st => chkSet T cm N sc i e st
  | .setT ts e, st => chkSetT T cm N sc ts e st
  | .par i j es, st => chkPar T cm N sc i j es st
  | .setI i ix e, st => chkSetI T cm N sc i ix e st
  | .ret e, st => chkRet T cm N sc e st
  | .retN, st => chkRetN st
  | .rais c es, st => chkRais T cm N sc c es st
  | .ite t a b, .If c x y _ => noIf c && chk T cm N sc t c && chkSs T cm N sc a x && chkSs T cm N sc b y
  | .loop tg it b, .For t i body [] _ => cm && noSet i && chkI T cm N sc it t i && chkTg N sc (fun _ => true) tg t && chkSs T cm N sc b body
  | .tryS b hs, .Try body (h :: hds) [] [] _ => cm && chkSs T cm N sc b body && chkH T N sc hs (h :: hds)
  | .pass, .Pass _ => true
  | .drop e, .Expr x _ => noComp x && chk T cm N sc e x
  | .brk, .Break _ => true
  | .cont, .Continue _ => true
  | _, _ => false
def chkSs (T : Tb) (cm : Bool) (N : List Str) (sc : Scope) : ISs → List Stmt → Bool
  | .nil, [] => true
  | .cons a r, x :: xs => chkS T cm N sc a x && chkSs T cm N sc r xs
  | _, _ => false
def chkH (T : Tb) (N : List Str) (sc : Scope) : IHs → List ExceptHandler → Bool
  | .nil, [] => true
  | .cons ks i b r, .ExceptHandler (some t) (some nm) (b₀ :: suite) _ :: hds => chkT T sc ks t && decide (N[i]? = some nm) && decide (sc.names.lookup nm = some .local) && chkSs T false N sc b (b₀ :: suite) && chkH T N sc r hds
  | _, _ => false
end
/-! ### errors that are made -/
def tMk (K : PySem.W.Frag) (g : Wi) (w : Wd) (init : Tx → List D → Option (List (Tx × D))) (c : Tx) (es : IEs) : L2.St → Hp → XK → Prop := fun σ H Q => ∃ e s F, Rl K e s σ F H ∧
  Po K g e σ F (fun ds s F _ => ∃ fs, init c ds = some fs ∧ ∀ d H' F', Rl K e s σ F' H' → Same F F' → Xd K F' H' d fs → Q (.ref (adr K c)) d H') (evF w es s)
structure MkOk (P : Program) (w : World) (K : PySem.W.Frag) (mg : Str → Option Value) (base : Heap) (init : Tx → List D → Option (List (Tx × D))) (n : Nat) (x : Str) (c : Tx) : Prop where
  run : ∀ (X : Cx) (g : Wi) (wd : Wd) (es : IEs) (as : List Expr) (q pos : Pos), X.prog = P → X.w = w → X.K = K → X.mg = mg → X.base = base → X.ex = [] → X.calm = true → X.A.guards = some [] → Room n X.A → Gl X x → (x == ("__debug__" : Str)) = false →
    PA X as (tF X.K g wd es) → as.length = es.len → (∀ a ∈ as, noStar a = true) → PMk X (.Call (.Name x q) as [] pos) (tMk X.K g wd init c es)
/-! ### where statements stand -/
structure Gs (X : Cx) (T : Tb) (cm : Bool) (N : List Str) (sc : Scope) (p : Pg) (n : Nat) (g : Wi) : Prop where
  gx : Gx X T cm N sc p n g
  fn : ∀ x, X.fn x = true
  kd : sc.kind = .function
  po : cm = true → PassesOwn (model X.prog X.w) X.A X.env X.xe
  st : X.stack = X.env :: X.outer
  fr : X.env.frame = some X.env.locals
  ex : X.ex = []
  mks : ∀ x c, (x, c) ∈ T.mks → MkOk X.prog X.w X.K X.mg X.base (p.wd n).init n x c
section
variable {X : Cx} {T : Tb} {cm : Bool} {N : List Str} {sc : Scope} {p : Pg} {n : Nat} {g : Wi}
theorem _root_.L2.PS.imp {X : Cx} {st : Stmt} {t t' : TS} (h : PS X st t) (i : ∀ D σ H, t' D σ H → t D σ H) : PS X st t' := ⟨fun pins s σ H D I q => h.run pins s σ H D I (i D σ H q)⟩
theorem _root_.L2.PSs.imp {X : Cx} {st : List Stmt} {t t' : TS} (h : PSs X st t) (i : ∀ D σ H, t' D σ H → t D σ H) : PSs X st t' := ⟨fun pins s σ H D I q => h.run pins s σ H D I (i D σ H q)⟩
theorem t_loop {w : Wd} {tg : Tg} {it : IT} {b : ISs} {D : Ends} {σ : Sg} {H : Hp} (h : tS X.K g w (.loop tg it b) D σ H) : tFor (tI X.K g w it) (gT X.K tg) (tSs X.K g w b) D σ H := by
  obtain ⟨e, s, F, R, h⟩ := h
  unfold exec at h
  refine ⟨e, s, F, R, (h.out σ).imp fun xs s1 F1 H1 R1 sm h1 J jok => ?_⟩
  generalize hf : (fun (x : Pi.D) (s : Fr) => match tg.bind x s with
    | none => Out.stuck
    | some s => execs w b s) = f at h1
  refine ⟨fun i m σ H => ∃ s' F', Rl X.K e s' σ F' H ∧ Same F1 F' ∧ PoS X.K g e F' D (loopGo f (xs.drop i) s') ∧ m = xs.length - i ∧ i ≤ xs.length, ⟨xs.length, s1, F1, R1, Same.refl F1, by rw [List.drop_zero]; exact h1, by omega, by omega⟩, ?_⟩
  rintro i m σ H ⟨s', F', R', sm', hgo, rfl, hi⟩
  cases hx : xs[i]? with
  | none =>
    have hl : i = xs.length := by
      have := List.getElem?_eq_none_iff.mp hx
      omega
    subst hl
    rw [List.drop_length] at hgo
    exact .inl ⟨(jok.mono sm').stop H R'.sub, hgo σ H F' R' (Same.refl F')⟩
  | some x =>
    have hl : i < xs.length := (List.getElem?_eq_some_iff.mp hx).1
    refine .inr ⟨((jok.mono sm').go i H x R'.sub hx).1, fun σ H => ∃ s' F', Rl X.K e s' σ F' H ∧ Same F1 F' ∧ PoS X.K g e F' D (loopGo f (xs.drop (i + 1)) s'), fun σ' H' ⟨s', F', k1, k2, k3⟩ => ⟨xs.length - (i + 1), by omega, s', F', k1, k2, k3, rfl, hl⟩, fun v H' y => ?_⟩
    obtain ⟨F2, R2, sm2, rp⟩ := jok.turn R' sm' hx y
    rw [drop_get hx] at hgo
    unfold loopGo at hgo
    rw [← hf] at hgo
    simp only at hgo
    rw [hf] at hgo
    cases hb : tg.bind x s' with
    | none => rw [hb] at hgo; exact hgo.elim
    | some sb =>
      rw [hb] at hgo
      simp only at hgo
      refine ⟨e, s', F2, x, sb, R2, rp, hb, fun σ2 _ R3 => ⟨e, sb, F2, R3, ?_⟩⟩
      cases ho : execs w b sb with
      | stuck => rw [ho] at hgo; exact hgo.elim
      | exc c fs t => rw [ho] at hgo; exact PoS.mono (o := .exc c fs t) hgo sm2
      | ret v t => rw [ho] at hgo; exact PoS.mono (o := .ret v t) hgo sm2
      | brk t => rw [ho] at hgo; exact fun σ H F3 k q => hgo σ H F3 k (sm2.trans q)
      | next t => rw [ho] at hgo; exact fun σ H F3 k q => ⟨t, F3, k, (sm'.trans sm2).trans q, PoS.mono hgo (sm2.trans q)⟩
      | cont t => rw [ho] at hgo; exact fun σ H F3 k q => ⟨t, F3, k, (sm'.trans sm2).trans q, PoS.mono hgo (sm2.trans q)⟩
/-! ### targets -/
def gTs (K : PySem.W.Frag) (ts : List TG) : TGs := fun vs σ H Q => ∃ e s F ds s', Rl K e s σ F H ∧ RpA K F vs ds ∧ tgs ts ds s = some s' ∧ ∀ σ' H' F', Rl K e s' σ' F' H' → Same F F' → Q σ' H'
theorem isC_ev {w : Wd} {a : IE} {s : Fr} {k : Int} (h : ixV a s = some k) : ev w a s = .ok (.val (.int k)) s := by
  cases a with
  | cst d =>
    cases d <;> simp only [ixV, reduceCtorEq, Option.some.injEq] at h
    subst h
    rfl
  | var j =>
    unfold ixV at h
    unfold ev
    cases hs : s.sl[j]? with
    | none => simp only [hs] at h; cases h
    | some x =>
      simp only [hs] at h ⊢
      cases x with
      | val d =>
        cases d <;> simp only [reduceCtorEq, Option.some.injEq] at h
        subst h
        rfl
      | _ => cases h
  | _ => cases h
/-- a[k] = v -/
theorem t_setX {w : Wd} {i : Nat} {ix : IE} {d : D} {e : En} {s s' : Fr} {σ : Sg} {F H : Hp} {v : V} {Q : L2.St → Hp → Prop} (R : Rl X.K e s σ F H) (rp : Rp X.K F v d) (q : setX i ix d s = some s') (k : ∀ σ' H' F', Rl X.K e s' σ' F' H' → Same F F' → Q σ' H') :
    gSub (tE X.K g w (.var i)) (tE X.K g w ix) rSetL v σ H Q := by
  unfold setX at q
  cases hk : ixV ix s with
  | none => rw [hk] at q; cases q
  | some j =>
    rw [hk] at q
    simp only at q
    have hvar : ∃ er, ev w (.var i) s = .ok er s := by
      unfold ev
      unfold mutS at q
      cases hs : s.sl[i]? with
      | none => simp only [hs] at q; cases q
      | some x =>
        simp only [hs] at q ⊢
        cases x with
        | un => cases q
        | val _ => cases q
        | own _ => exact ⟨_, rfl⟩
        | ref => exact ⟨_, rfl⟩
    obtain ⟨er, hv⟩ := hvar
    refine ⟨e, s, F, R, ?_⟩
    rw [hv]
    intro H1 F1 R1 sm1 o ro
    refine ⟨e, s, F1, R1, ?_⟩
    rw [isC_ev hk]
    intro H2 F2 R2 sm2 iv ri
    cases ri
    obtain ⟨pa, vs, xs, ys, hw, hp, ra, hf, kk⟩ := R2.mutS q
    have ho : o = .ref pa := by
      unfold ev at hv
      unfold mutS at q
      cases hs : s.sl[i]? with
      | none => simp only [hs] at q; cases q
      | some x =>
        simp only [hs] at hv q
        cases x with
        | un => cases q
        | val _ => cases q
        | own _ =>
          cases hv
          have ro : σ[i]? = some (some o) := ro
          rw [hw] at ro
          cases ro
          rfl
        | ref =>
          cases hv
          obtain ⟨a, h1, rfl⟩ := ro
          obtain ⟨a', h2, h3⟩ := R2.slot i _ hs
          rw [h1] at h2
          cases h2
          rw [hw] at h3
          cases h3
          rfl
    unfold setAt at hf
    cases hj : ixOf xs.length j with
    | none => rw [hj] at hf; cases hf
    | some m =>
      rw [hj] at hf
      cases hf
      refine ⟨pa, vs, j, m, ho, rfl, hp, ?_, ?_⟩
      · rw [ra.1]
        exact hj
      · exact k σ _ F2 (kk _ (ra.set ((rp.mono sm1).mono sm2) m)) (sm1.trans sm2)
theorem pg_ix (G : Gs X T cm N sc p n g) {i : Nat} {ix : IE} {x : Expr} (h : chkTG T cm N sc (.ix i ix) x = true) : ∃ o y pos, x = .Subscript o y pos ∧ noSlice y = true ∧ PE X o (tE X.K g (p.wd n) (.var i)) ∧ PE X y (tE X.K g (p.wd n) ix) := by
  cases x <;> first | (simp only [chkTG, Bool.false_eq_true] at h; done) | skip
  rename_i o y pos
  cases o <;> first | (simp only [chkTG, Bool.false_eq_true] at h; done) | skip
  simp only [chkTG, Bool.and_eq_true] at h
  exact ⟨_, y, pos, rfl, h.1.2, (sE G.gx (.var i) _ h.1.1.1).1, (sE G.gx ix y h.2).1⟩
theorem pgs_TG (G : Gs X T cm N sc p n g) : ∀ {ts : List TG} {es : List Expr}, chkTGs T cm N sc ts es = true → PGs X es (gTs X.K ts) ∧ (assignEach es X.env).length = ts.length ∧ (assignEach es X.env).findIdx? (·.1) = none
  | [], [], _ => ⟨L2PGs_imp pgs_nil fun vs σ H Q ⟨e, s, F, ds, s', R, ra, q, k⟩ => by
      cases ds with
      | cons _ _ => cases q
      | nil =>
        cases q
        exact ⟨List.eq_nil_of_length_eq_zero ra.1, k σ H F R (Same.refl F)⟩, rfl, rfl⟩
  | _ :: _, [], h => by simp only [chkTGs, Bool.false_eq_true] at h
  | [], _ :: _, h => by simp only [chkTGs, Bool.false_eq_true] at h
  | .nm i :: ts, x :: xs, h => by
    simp only [chkTGs, Bool.and_eq_true] at h
    obtain ⟨h1, h2⟩ := h
    cases x <;> first | (simp only [chkTG, Bool.false_eq_true] at h1; done) | skip
    rename_i x pos
    have h1 : tgOk N sc (fun _ => true) x i = true := h1
    rw [← G.gx.hN, ← G.gx.hsc] at h1
    obtain ⟨a1, a2, a3⟩ := tg_loc h1
    obtain ⟨b1, b2, b3⟩ := pgs_TG G h2
    refine ⟨L2PGs_imp (pgs_cons (pg_name G.gx.nd a1 a2 (.inl (G.fn x))) b1) fun vs σ H Q ⟨e, s, F, ds, s', R, ra, q, k⟩ => ?_, ?_, ?_⟩
    · cases ds with
      | nil => cases q
      | cons d ds =>
        cases vs with
        | nil => have := ra.1; simp at this
        | cons v vs =>
          obtain ⟨r1, r2⟩ := ra.cons_inv
          exact ⟨v, vs, rfl, e, s.put i (.val d), F, ds, s', R.store r1, r2, q, k⟩
    · show (assignEach xs X.env).length + 1 = _
      rw [b2]; rfl
    · show ((false, _) :: assignEach xs X.env).findIdx? (·.1) = none
      rw [List.findIdx?_cons]
      simp [b3]
  | .ix i ix :: ts, x :: xs, h => by
    simp only [chkTGs, Bool.and_eq_true] at h
    obtain ⟨h1, h2⟩ := h
    obtain ⟨o, y, pos, rfl, ns, po, py⟩ := pg_ix G h1
    obtain ⟨b1, b2, b3⟩ := pgs_TG G h2
    refine ⟨L2PGs_imp (pgs_cons (pg_sub po py set_list (by intro v; revert ns; cases y <;> intro ns <;> first | rfl | cases ns)) b1) fun vs σ H Q ⟨e, s, F, ds, s', R, ra, q, k⟩ => ?_, ?_, ?_⟩
    · cases ds with
      | nil => cases q
      | cons d ds =>
        cases vs with
        | nil => have := ra.1; simp at this
        | cons v vs =>
          obtain ⟨r1, r2⟩ := ra.cons_inv
          unfold tgs at q
          cases hs : setX i ix d s with
          | none => rw [hs] at q; cases q
          | some s1 =>
            rw [hs] at q
            simp only at q
            exact ⟨v, vs, rfl, t_setX R r1 hs fun σ' H' F' R' sm => ⟨e, s1, F', ds, s', R', r2.mono sm, q, fun σ2 H2 F2 R2 sm2 => k σ2 H2 F2 R2 (sm.trans sm2)⟩⟩
    · show (assignEach xs X.env).length + 1 = _
      rw [b2]; rfl
    · show ((false, _) :: assignEach xs X.env).findIdx? (·.1) = none
      rw [List.findIdx?_cons]
      simp [b3]
theorem tgs_len : ∀ {ts : List TG} {s s' : Fr} {ds : List D}, tgs ts ds s = some s' → ds.length = ts.length
  | [], _, _, [], _ => rfl
  | [], _, _, _ :: _, h => by cases h
  | .nm _ :: _, _, _, [], h => by cases h
  | .ix _ _ :: _, _, _, [], h => by cases h
  | .nm i :: ts, s, s', d :: ds, h => by simp [tgs_len (ts := ts) (ds := ds) h]
  | .ix i e :: ts, s, s', d :: ds, h => by
    unfold tgs at h
    cases hs : setX i e d s with
    | none => simp [hs] at h
    | some s1 =>
      rw [hs] at h
      simp [tgs_len (ts := ts) (ds := ds) h]
/-- (.., ..) = a tuple or a list -/
def gTL (K : PySem.W.Frag) (n : Nat) (t : TGs) : L2.TG := fun v σ H Q => gTup K n t v σ H Q ∨ gUnl K n t v σ H Q
theorem pg_TL (G : Gs X T cm N sc p n g) (hcm : cm = true) {ts : List TG} {es : List Expr} {k : Nat} {pos : Pos} (h : chkTGs T cm N sc ts es = true) : PG X (.Tuple es k pos) (gTL X.K ts.length (gTs X.K ts)) := by
  obtain ⟨b1, b2, b3⟩ := pgs_TG G h
  have h1 := pg_tup (pos := pos) (k := k) (G.gx.calm hcm) b1 b2 b3
  have h2 := pg_unl (pos := pos) (k := k) (G.gx.calm hcm) b1 b2 b3
  constructor; intro pins s σ H v u Q I r hw
  rcases hw with hw | hw
  · exact h1.run pins s σ H v u Q I r hw
  · exact h2.run pins s σ H v u Q I r hw
theorem t_setT {w : Wd} {ts : List TG} {e : IE} {D : Ends} {σ : Sg} {H : Hp} (h : tS X.K g w (.setT ts e) D σ H) : tAsg (tE X.K g w e) (gTL X.K ts.length (gTs X.K ts)) D σ H := by
  obtain ⟨en, s, F, R, h⟩ := h
  unfold exec at h
  refine ⟨en, s, F, R, (h.out σ).imp fun er s1 F1 H1 R1 sm h1 v rv => ?_⟩
  obtain ⟨F2, R2, sm2, rv2⟩ := R1.hold rv
  cases q : er.hold.rd s1 with
  | none => simp only [q] at h1; exact h1.elim
  | some d =>
    simp only [q] at h1
    have rt := R2.rd rv2 q
    have fin : ∀ {ds : List Pi.D} {vs : List V}, RpA X.K F2 vs ds → PoS X.K g en F1 D (outO (tgs ts ds s1)) → vs.length = ts.length ∧ gTs X.K ts vs σ H1 D.nx := by
      intro ds vs ra hp
      cases hq : tgs ts ds s1 with
      | none => rw [hq] at hp; exact hp.elim
      | some s2 =>
        rw [hq] at hp
        exact ⟨by rw [ra.1]; exact tgs_len hq, en, s1, F2, ds, s2, R2, ra, hq, fun σ' H' F' R' sm' => hp σ' H' F' R' (sm2.trans sm')⟩
    cases d <;> first | exact h1.elim | skip
    · obtain ⟨pa, vs, rfl, hp, ra⟩ := rt.lst R2.sub
      obtain ⟨l1, l2⟩ := fin ra h1
      exact .inr ⟨pa, vs, rfl, .of hp, l1, l2⟩
    · obtain ⟨pa, vs, rfl, hp, ra⟩ := rt.tup R2.sub
      obtain ⟨l1, l2⟩ := fin ra h1
      exact .inl ⟨pa, vs, rfl, hp, l1, l2⟩
theorem t_par {w : Wd} {i j : Nat} {es : IEs} {D : Ends} {σ : Sg} {H : Hp} (h : tS X.K g w (.par i j es) D σ H) : tPar i j (tF X.K g w es) D σ H := by
  obtain ⟨en, s, F, R, h⟩ := h
  unfold exec at h
  refine ⟨en, s, F, R, (h.out σ).imp fun ds s1 F1 H1 R1 sm h1 vs ra => ?_⟩
  cases q : putAll s1 [i, j] ds with
  | none => rw [q] at h1; exact h1.elim
  | some s2 =>
    rw [q] at h1
    match ds, q, ra with
    | [], q, _ => cases q
    | [_], q, _ => cases q
    | _ :: _ :: _ :: _, q, _ => cases q
    | [d1, d2], q, ra =>
      obtain ⟨v, v', rfl, r1, r2⟩ := ra.two
      cases q
      exact ⟨v, v', rfl, h1 _ H1 F1 ((R1.store r1).store r2) (Same.refl F1)⟩
theorem t_setI {w : Wd} {i : Nat} {ix e : IE} {D : Ends} {σ : Sg} {H : Hp} (h : tS X.K g w (.setI i ix e) D σ H) : tAsg (tE X.K g w e) (gSub (tE X.K g w (.var i)) (tE X.K g w ix) rSetL) D σ H := by
  obtain ⟨en, s, F, R, h⟩ := h
  unfold exec at h
  refine ⟨en, s, F, R, (h.out σ).imp fun er s1 F1 H1 R1 sm h1 v rv => ?_⟩
  cases q : er.fz s1 with
  | stuck => rw [q] at h1; exact h1.elim
  | exc c fs t => exact (fz_no q).elim
  | ok d s2 =>
    rw [q] at h1
    obtain ⟨F2, R2, sm2, rp⟩ := R1.fzz rv q
    have h1 : PoS X.K g en F1 D (outO (setX i ix d s2)) := h1
    cases hs : setX i ix d s2 with
    | none => rw [hs] at h1; exact h1.elim
    | some s3 =>
      rw [hs] at h1
      exact t_setX R2 rp hs fun σ' H' F' R' sm' => h1 σ' H' F' R' (sm2.trans sm')
end
end Pi
set_option maxRecDepth 100000
set_option maxHeartbeats 3900000
namespace Pi
open PySem PySem.Spec L2 PyProof.Rows
theorem sw_sole {v t : Expr} {l : Nat} {env : Env} (h : noComp v = true) : swapsWithSole [t] v l env = pure false := sw_plain h
def hdL (K : PySem.W.Frag) (g : Wi) (w : Wd) : IHs → List (List Value × Nat × TS)
  | .nil => []
  | .cons ks i b r => (ks.map (clU K), i, tSs K (g0 g) w b) :: hdL K g w r
section
variable {X : Cx} {T : Tb} {cm : Bool} {N : List Str} {sc : Scope} {p : Pg} {n : Nat} {g : Wi}
theorem rp_exc {K : PySem.W.Frag} {F : Hp} {a : Addr} {c : Tx} {d : Option Addr} {H : Hp} {fs : List (Tx × D)} (hF : F a = none) (h : Xd K F H d fs) : Rp K (upd F a (exq a (adr K c) d)) (.ref a) (.exc c fs) := by
  have sm : Same F (upd F a (exq a (adr K c) d)) := fun b u q => by
    rw [upd_ne (ne_of_none q hF)]
    exact q
  rcases h with ⟨rfl, rfl⟩ | ⟨dx, vs, rfl, h1, h2, h3, h4⟩
  · exact .ex0 upd_same
  · refine .ex1 upd_same (sm _ _ h2) h3 fun i p q a b => ?_
    have z := h4.2 i p.2 q.2 (by rw [List.getElem?_map, a]; rfl) (by rw [List.getElem?_map, b]; rfl)
    exact z.mono sm
theorem po_gone {K : PySem.W.Frag} {e : En} {F : Hp} {D : Ends} {o : Out} {i : Nat} (h : PoS K g e F D (o.drop i)) : PoS K (g0 g) e F (goneD i D) o := by
  cases o with
  | next t => exact fun σ H F2 R q => h _ H F2 R.gone q
  | brk t => exact fun σ H F2 R q => h _ H F2 R.gone q
  | cont t => exact fun σ H F2 R q => h _ H F2 R.gone q
  | ret v t => exact fun H F2 u R q x => h H F2 u R q x
  | exc c fs t => exact h.elim
  | stuck => exact h.elim
theorem exm_all (G : Gx X T cm N sc p n g) {c : Tx} : ∀ (ks : List Cl) (b : Bool), exCl (p.wd n) c ks = some b → PySem.W.exmAny X.K (.ref (adr X.K c)) (ks.map (clU X.K)) = some b
  | [], b, h => h
  | k :: ks, b, h => by
    obtain ⟨b1, h1, h⟩ := Option.bind_eq_some_iff.mp h
    obtain ⟨b2, h2, e⟩ := Option.map_eq_some_iff.mp h
    have x3 := (G.pf.cls c k b1 h1).2.2
    rw [List.map_cons]
    unfold PySem.W.exmAny
    simp only [x3, exm_all G ks b2 h2, e]
theorem hand_mix (G : Gx X T cm N sc p n g) {e : En} {D : Ends} {c : Tx} {fs : List (Tx × Pi.D)} {t : Fr} {σ : Sg} {d : Option Addr} {F F' H : Hp} (R : Rl X.K e t σ F' H) (sm : Same F F') (xd : Xd X.K F' H d fs) :
    ∀ hs : IHs, PoS X.K g e F D (hand (p.wd n) hs c fs t) → wMix X.K g.W D (hdL X.K g (p.wd n) hs) (.ref (adr X.K c)) d σ H
  | .nil, h => by
    unfold hand at h
    have z := h σ d H F' R sm xd
    rw [G.pf.cne] at z
    exact z
  | .cons ks i b r, h => by
    unfold hand at h
    cases q : exCl (p.wd n) c ks with
    | none => rw [q] at h; exact h.elim
    | some v =>
      rw [q] at h
      have x3 := exm_all G ks v q
      cases v with
      | false => exact ⟨false, x3, fun z => Bool.noConfusion z, fun _ => hand_mix G R sm xd r h⟩
      | true =>
        refine ⟨true, x3, fun _ => ⟨adr X.K c, rfl, fun a ha => ?_⟩, fun z => Bool.noConfusion z⟩
        obtain ⟨R2, sm2⟩ := R.iced (o := exq a (adr X.K c) d) ha
        exact ⟨e, t.put i (.val (.exc c fs)), _, R2.store (rp_exc (R.nw ha).f xd), (po_gone h).mono (sm.trans sm2)⟩
theorem t_try (G : Gx X T cm N sc p n g) {b : ISs} {hs : IHs} {D : Ends} {σ : Sg} {H : Hp} (h : tS X.K g (p.wd n) (.tryS b hs) D σ H) : tSs X.K ⟨g.cn, wMix X.K g.W D (hdL X.K g (p.wd n) hs)⟩ (p.wd n) b D σ H := by
  obtain ⟨e, s, F, R, h⟩ := h
  unfold exec at h
  refine ⟨e, s, F, R, ?_⟩
  cases q : execs (p.wd n) b s with
  | stuck => rw [q] at h; exact h
  | next t => rw [q] at h; exact h
  | brk t => rw [q] at h; exact h
  | cont t => rw [q] at h; exact h
  | ret v t => rw [q] at h; exact h
  | exc c fs t =>
    rw [q] at h
    intro σ2 d H2 F2 R2 sm xd
    have z := hand_mix G R2 sm xd hs h
    show wMix X.K g.W D _ (g.cn c) d σ2 H2
    rw [G.pf.cne]
    exact z
theorem t_rais (G : Gx X T cm N sc p n g) {c : Tx} {es : IEs} {D : Ends} {σ : Sg} {H : Hp} (h : tS X.K g (p.wd n) (.rais c es) D σ H) : tMk X.K g (p.wd n) (p.wd n).init c es σ H fun cls d H' => g.W cls d σ H' := by
  obtain ⟨e, s, F, R, h⟩ := h
  unfold exec at h
  refine ⟨e, s, F, R, (h.out σ).imp fun ds s1 F1 H1 R1 sm h1 => ?_⟩
  cases q : (p.wd n).init c ds with
  | none => rw [q] at h1; exact h1.elim
  | some fs =>
    rw [q] at h1
    refine ⟨fs, rfl, fun d H' F' R' sm' xd => ?_⟩
    have z := h1 σ d H' F' R' sm' xd
    rw [G.pf.cne] at z
    exact z
theorem Gs.tr (G : Gs X T cm N sc p n g) {W : WX} {pn : List (Addr × Obj)} {xe : Value → Shared → Prop} (tk : Takes (X.tr pn xe) W) (po : PassesOwn (model X.prog X.w) X.A X.env xe) : Gs (X.tr pn xe) T cm N sc p n ⟨g.cn, W⟩ :=
  ⟨⟨G.gx.hN, G.gx.nd, G.gx.hsc, G.gx.calm, G.gx.gd, G.gx.room, G.gx.un, tk, G.gx.pf⟩, G.fn, G.kd, fun _ => po, G.st, G.fr, G.ex, G.mks⟩
theorem Gs.suite (G : Gs X T cm N sc p n g) (a : Addr) (pn : List (Addr × Obj)) : Gs (X.suite a pn) T false N sc p n (g0 g) :=
  ⟨⟨G.gx.hN, G.gx.nd, G.gx.hsc, fun z => absurd z Bool.false_ne_true, G.gx.gd, ⟨⟨G.gx.room.dp, G.gx.room.un⟩, nofun⟩, G.gx.un, takes_none5, G.gx.pf⟩, G.fn, G.kd, fun z => absurd z Bool.false_ne_true, G.st, G.fr, G.ex, G.mks⟩
end
section
variable {X : Cx} {T : Tb} {cm : Bool} {N : List Str} {sc : Scope} {p : Pg} {n : Nat} {g : Wi}
theorem names_of (G : Gs X T cm N sc p n g) {x : Str} {k : Cl} (h1 : (x, k) ∈ T.xcl) (h2 : globOk sc x = true) : Names X x (clU X.K k) := by
  obtain ⟨gl, gd, gn⟩ := gl_of G.gx h2
  refine ⟨gl, gd, ?_⟩
  rcases G.gx.pf.xcl x k h1 with ⟨c, rfl, hm⟩ | ⟨hm, t, e1, e2, e3, e4, e5⟩
  · exact Or.inl hm
  · exact Or.inr ⟨hm, by rw [e2]; exact e4, e5⟩
theorem see_of (G : Gs X T cm N sc p n g) {ks : List Cl} {t : Expr} {cls : Value} {b : Bool} (h : chkT T sc ks t = true) (hm : PySem.W.exmAny X.K cls (ks.map (clU X.K)) = some b) : Sees X t cls b := by
  unfold chkT at h
  split at h
  · rename_i k x np
    simp only [and_iff2, dec_iff] at h
    refine sees_one G.fr (names_of G h.1 h.2) ?_
    obtain ⟨b1, d1, x1, y1, rfl⟩ := PySem.W.exmAny_cons hm
    cases (show some false = some d1 from y1)
    rw [x1, Bool.or_false]
  · simp only [and_iff2, dec_iff] at h
    rcases h with ⟨⟨⟨h1, h2⟩, h3⟩, h4⟩
    exact sees_two G.fr (names_of G h1 h2) (names_of G h3 h4) hm
  · cases h
end
mutual
theorem sS {X : Cx} {T : Tb} {cm : Bool} {N : List Str} {sc : Scope} {p : Pg} {n : Nat} {g : Wi} (G : Gs X T cm N sc p n g) : ∀ (a : IS) (st : Stmt), chkS T cm N sc a st = true → PS X st (tS X.K g (p.wd n) a)
  | .set i e, st, h => by
    unfold chkS chkSet at h
    split at h
    · rename_i x xp v pos
      simp only [and_iff2] at h
      obtain ⟨⟨h1, h2⟩, h3⟩ := h
      rw [← G.gx.hN, ← G.gx.hsc] at h1
      obtain ⟨a1, a2, a3⟩ := tg_loc h1
      refine (ps_set G.gx.nd a1 a2 (sE G.gx e v h3).1 (sw_plain h2) (.inl (G.fn x))).imp fun D σ H ⟨en, s, F, R, h⟩ => ?_
      unfold exec at h
      exact ⟨en, s, F, R, (h.out σ).imp fun er s1 F1 H1 R1 sm h1 v rv => po_sto R1 rv h1⟩
    · cases h
  | .setT ts e, st, h => by
    unfold chkS chkSetT at h
    split at h
    · rename_i es kt pt v pos
      simp only [and_iff2] at h
      obtain ⟨⟨⟨⟨hcm, h1⟩, h2⟩, h3⟩, h4⟩ := h
      exact (ps_asg (sE G.gx e v h4).1 (pg_TL G hcm h1) (sw_sole h2) (sw_off (by rw [G.gx.hsc]; exact h3))).imp fun D σ H h => t_setT h
    · cases h
  | .par i j es, st, h => by
    unfold chkS chkPar at h
    split at h
    · simp only [and_iff2, dec_iff] at h
      obtain ⟨⟨⟨⟨⟨⟨⟨hcm, h1⟩, h2⟩, h3⟩, h4⟩, h5⟩, h6⟩, h7⟩ := h
      rw [← G.gx.hN] at h1 h2
      have h4' := h4
      rw [← G.gx.hsc] at h4 h5
      exact (ps_par (G.gx.calm hcm) G.gx.nd h1 h2 h3 h4 h5 (sF G.gx es _ h7) (sw_on (by rw [G.gx.hsc]; exact G.kd) (by rw [G.gx.hsc]; exact h6))).imp fun D σ H h => t_par h
    · cases h
  | .setI i ix e, st, h => by
    unfold chkS chkSetI at h
    split at h
    · rename_i x xp y yp v pos
      simp only [and_iff2] at h
      obtain ⟨⟨h1, h2⟩, h3⟩ := h
      obtain ⟨o', y', pos', ex, ns, po, py⟩ := pg_ix G h1
      cases ex
      exact (ps_asg (sE G.gx e v h3).1 (pg_sub po py set_list (by intro v; revert ns; cases y <;> intro ns <;> first | rfl | cases ns)) (sw_sole h2) rfl).imp fun D σ H h => t_setI h
    · cases h
  | .app i e, st, h => by cases st <;> simp only [chkS, Bool.false_eq_true] at h
  | .ext i e, st, h => by cases st <;> simp only [chkS, Bool.false_eq_true] at h
  | .drop e, st, h => by
    cases st <;> simp only [chkS, Bool.false_eq_true, Bool.and_eq_true] at h
    rename_i x pos
    have sw : swapsWith x none pos.line X.env = pure false := by
      have z := h.1
      revert z
      cases x <;> intro z <;> first | rfl | cases z
    refine (ps_expr (sE G.gx e _ h.2).1 sw).imp fun D σ H ⟨en, s, F, R, h⟩ => ?_
    unfold exec at h
    exact ⟨en, s, F, R, (h.out σ).imp fun er s1 F1 H1 R1 sm h1 v rv => h1 σ H1 F1 R1 (Same.refl F1)⟩
  | .ret e, st, h => by
    unfold chkS chkRet at h
    split at h
    · rename_i x pos
      refine (ps_ret (sE G.gx e x h).1).imp fun D σ H ⟨en, s, F, R, h⟩ => ?_
      unfold exec at h
      exact ⟨en, s, F, R, (h.out σ).imp fun er s1 F1 H1 R1 sm h1 v rv => po_ret R1 rv h1⟩
    · cases h
  | .retN, st, h => by
    unfold chkS chkRetN at h
    split at h
    · refine ps_retN.imp fun D σ H ⟨en, s, F, R, h⟩ => ?_
      unfold exec at h
      exact h H F _ R.drop (Same.refl F) .non
    · cases h
  | .ite t a b, st, h => by
    cases st <;> simp only [chkS, Bool.false_eq_true, Bool.and_eq_true] at h
    rcases h with ⟨⟨⟨h1, h2⟩, h3⟩, h4⟩
    refine (ps_if ((sE G.gx t _ h2).2 h1) (sSs G a _ h3) (sSs G b _ h4)).imp fun D σ H ⟨en, s, F, R, h⟩ => ?_
    unfold exec at h
    refine ⟨en, s, F, R, (h.out σ).imp fun c s1 F1 H1 R1 sm h1 => ?_⟩
    cases c with
    | true =>
      simp only [if_true] at h1 ⊢
      exact ⟨en, s1, F1, R1, h1⟩
    | false =>
      simp only [Bool.false_eq_true, if_false] at h1 ⊢
      exact ⟨en, s1, F1, R1, h1⟩
  | .loop tg it b, st, h => by
    cases st with
    | For t i body oe pos =>
      cases oe with
      | cons _ _ => simp only [chkS, Bool.false_eq_true] at h
      | nil =>
        simp only [chkS, Bool.and_eq_true] at h
        obtain ⟨⟨⟨⟨hcm, h1⟩, h2⟩, h3⟩, h4⟩ := h
        exact (ps_for (G.po hcm) (G.gx.calm hcm) (sI G.gx it t i h2) (pg_T (G.gx.calm hcm) G.gx.hN G.gx.hsc G.gx.nd (fun x _ => G.fn x) h3) (sSs G b body h4) (folded_of h1)).imp fun D σ H h => t_loop h
    | _ => simp only [chkS, Bool.false_eq_true] at h
  | .rais c es, st, h => by
    unfold chkS chkRais at h
    split at h
    · rename_i x xp as q pos
      simp only [and_iff2, dec_iff] at h
      obtain ⟨⟨⟨hcm, h1⟩, h2⟩, h3⟩ := h
      obtain ⟨gl, gd, gn⟩ := gl_of G.gx h2
      have mk := (G.mks x c h1).run X g (p.wd n) es as xp q rfl rfl rfl rfl rfl G.ex (G.gx.calm hcm) G.gx.gd (hcm ▸ G.gx.room : RoomC true n X.A).room gl gd (sF G.gx es as h3) (chkA_len h3) (chkA_star h3)
      exact (ps_raise (G.gx.calm hcm) G.gx.tk mk).imp fun D σ H h => t_rais G.gx h
    · cases h
  | .tryS b hs, st, h => by
    cases st with
    | Try body hds oe fb pos =>
      match hds, oe, fb, h with
      | hd :: hds, [], [], h =>
        simp only [chkS, Bool.and_eq_true] at h
        obtain ⟨⟨hcm, h1⟩, h2⟩ := h
        exact (ps_tryD (tb := fun W => tSs X.K ⟨g.cn, W⟩ (p.wd n) b) G.st G.fr G.ex G.gx.nd G.gx.tk (fun W pn xe tk po => sSs (G.tr tk po) b body h1) (sH G hs (hd :: hds) h2)).imp fun D σ H h => t_try G.gx h
      | [], _, _, h => simp only [chkS, Bool.false_eq_true] at h
      | _ :: _, _ :: _, _, h => simp only [chkS, Bool.false_eq_true] at h
      | _ :: _, [], _ :: _, h => simp only [chkS, Bool.false_eq_true] at h
    | _ => simp only [chkS, Bool.false_eq_true] at h
  | .pass, st, h => by
    cases st <;> first | (simp only [chkS, Bool.false_eq_true] at h; done) | skip
    refine ps_pass.imp fun D σ H ⟨en, s, F, R, h⟩ => ?_
    unfold exec at h
    exact h σ H F R (Same.refl F)
  | .brk, st, h => by
    cases st <;> first | (simp only [chkS, Bool.false_eq_true] at h; done) | skip
    refine ps_break.imp fun D σ H ⟨en, s, F, R, h⟩ => ?_
    unfold exec at h
    exact h σ H F R (Same.refl F)
  | .cont, st, h => by
    cases st <;> first | (simp only [chkS, Bool.false_eq_true] at h; done) | skip
    refine ps_continue.imp fun D σ H ⟨en, s, F, R, h⟩ => ?_
    unfold exec at h
    exact h σ H F R (Same.refl F)
theorem sSs {X : Cx} {T : Tb} {cm : Bool} {N : List Str} {sc : Scope} {p : Pg} {n : Nat} {g : Wi} (G : Gs X T cm N sc p n g) : ∀ (a : ISs) (st : List Stmt), chkSs T cm N sc a st = true → PSs X st (tSs X.K g (p.wd n) a)
  | .nil, [], _ => pss_nil.imp fun D σ H ⟨en, s, F, R, h⟩ => by
    unfold execs at h
    exact h σ H F R (Same.refl F)
  | .cons a r, [], h => by simp only [chkSs, Bool.false_eq_true] at h
  | .nil, _ :: _, h => by simp only [chkSs, Bool.false_eq_true] at h
  | .cons a r, x :: xs, h => by
    simp only [chkSs, Bool.and_eq_true] at h
    refine (pss_cons (sS G a x h.1) (sSs G r xs h.2)).imp fun D σ H ⟨en, s, F, R, h⟩ => ?_
    unfold execs at h
    exact ⟨en, s, F, R, h.seq (fun s1 σ1 H1 F1 R1 sm h1 => ⟨en, s1, F1, R1, h1⟩) rfl rfl rfl⟩
theorem sH {X : Cx} {T : Tb} {cm : Bool} {N : List Str} {sc : Scope} {p : Pg} {n : Nat} {g : Wi} (G : Gs X T cm N sc p n g) : ∀ (hs : IHs) (hds : List ExceptHandler), chkH T N sc hs hds = true → HdsD X hds (hdL X.K g (p.wd n) hs)
  | .nil, [], _ => .nil
  | .nil, _ :: _, h => by simp only [chkH, Bool.false_eq_true] at h
  | .cons k i b r, hds, h => by
    cases hds with
    | nil => simp only [chkH, Bool.false_eq_true] at h
    | cons hd hds =>
      cases hd with
      | ExceptHandler ty nm body pos =>
        cases ty with
        | none => simp only [chkH, Bool.false_eq_true] at h
        | some ty =>
          cases nm with
          | none => simp only [chkH, Bool.false_eq_true] at h
          | some nm =>
            cases body with
            | nil => simp only [chkH, Bool.false_eq_true] at h
            | cons b₀ suite =>
              simp only [chkH, Bool.and_eq_true, decide_eq_true_eq] at h
              obtain ⟨⟨⟨⟨h1, h3⟩, h4⟩, h5⟩, h6⟩ := h
              refine .cons (fun cls b hm => see_of G h1 hm) (by rw [G.gx.hN]; exact h3) ?_ (fun a pn => sSs (G.suite a pn) b _ h5) (sH G r hds h6)
              show X.env.scope.names.lookup nm = some .local
              rw [G.gx.hsc]
              exact h4
end
end Pi
set_option maxRecDepth 100000
set_option maxHeartbeats 3900000
namespace Pi
open PySem PySem.Spec L2 PyProof.Rows
/-! ### a def's body, then all defs, level by level -/
section
variable {P : Program} {w : World} {K : PySem.W.Frag} {mg : Str → Option Value} {base : Heap} {T : Tb} {p : Pg} {cn : Tx → Value} {n : Nat}
theorem arg_len {br : Bool} {c : Option Addr} {F H : Hp} {vs : List V} {as cs : List D} (h : ArgOk K br c F H vs as cs) : as.length = vs.length := by
  cases br with
  | false => exact h.2.1.symm
  | true =>
    obtain ⟨a, ws, ys, v0, vs', a0, as', _, rfl, rfl, _, _, _, _, _, r⟩ := h
    simp [r.1]
theorem entry_rl {d : Fn} {c : Option Addr} {F H : Hp} {vs : List V} {as cs : List D} {N : List Str} (sm : Same F H) (ha : ArgOk K d.br c F H vs as cs) (hl : vs.length = d.np) (hN : d.ns = N.length) (hp : d.np ≤ d.ns) : Rl K ⟨c, F, H⟩ ⟨entry d as, cs⟩ (start N vs) F H := by
  have la := arg_len ha
  have get : ∀ (i : Nat) x, (entry d as)[i]? = some x → x = .un ∨ (i = 0 ∧ d.br = true ∧ x = .ref ∧ 0 < as.length) ∨ ∃ a, as[i]? = some a ∧ x = .val a ∧ (d.br = true → 0 < i) := by
    intro i x q
    unfold entry at q
    rw [List.getElem?_append] at q
    split at q
    · unfold entryP at q
      cases as with
      | nil => simp at q
      | cons a as =>
        cases i with
        | zero =>
          simp only [List.getElem?_cons_zero, Option.some.injEq] at q
          cases hb : d.br with
          | true =>
            rw [hb] at q
            simp only [if_true] at q
            exact .inr (.inl ⟨rfl, rfl, q.symm, by simp⟩)
          | false =>
            rw [hb] at q
            simp only [Bool.false_eq_true, if_false] at q
            exact .inr (.inr ⟨a, rfl, q.symm, fun z => by cases z⟩)
        | succ i =>
          simp only [List.getElem?_cons_succ, List.getElem?_map] at q
          cases hx : as[i]? with
          | none => rw [hx] at q; cases q
          | some b =>
            rw [hx] at q
            cases q
            exact .inr (.inr ⟨b, by simp [hx], rfl, fun _ => by omega⟩)
    · have := List.mem_of_getElem? q
      rw [List.mem_replicate] at this
      exact .inl this.2
  have lenE : (entryP d.br as).length = as.length := by cases as <;> simp [entryP]
  have own : ∀ (i : Nat) x, (entry d as)[i]? = some x → isOwn x = false := by
    intro i x q
    rcases get i x q with rfl | ⟨_, _, rfl, _⟩ | ⟨a, _, rfl, _⟩ <;> rfl
  have sget : ∀ (i : Nat) v, vs[i]? = some v → (start N vs)[i]? = some (some v) := by
    intro i v q
    have hi : i < vs.length := (List.getElem?_eq_some_iff.mp q).1
    unfold L2.start
    rw [List.getElem?_append_left (by simpa using hi), List.getElem?_map, q]
    rfl
  refine ⟨sm, fun b o q => .inl q, Same.refl F, fun b o q _ => q, fun a e => ?_, fun i x q => ?_, fun i j x y q1 _ i1 => ?_, ?_⟩
  · cases hb : d.br with
    | false =>
      rw [hb] at ha
      have e : c = some a := e
      rw [ha.1] at e
      cases e
    | true =>
      rw [hb] at ha
      obtain ⟨a', ws, ys, v0, vs', a0, as', h1, h2, h3, h4, h5, h6, rfl, h7, h8⟩ := ha
      have e : c = some a := e
      rw [h1] at e
      cases e
      exact ⟨h5, ws, h6, h7⟩
  · rcases get i x q with rfl | ⟨rfl, hb, rfl, _⟩ | ⟨a, h1, rfl, h2⟩
    · trivial
    · rw [hb] at ha
      obtain ⟨a', ws, ys, v0, vs', a0, as', h1, rfl, rfl, rfl, _⟩ := ha
      exact ⟨a', h1, sget 0 _ rfl⟩
    · cases hb : d.br with
      | false =>
        rw [hb] at ha
        obtain ⟨v, hv, r⟩ := ha.2.get h1
        exact ⟨v, sget i v hv, r⟩
      | true =>
        have hi := h2 hb
        rw [hb] at ha
        obtain ⟨a', ws, ys, v0, vs', a0, as', _, rfl, rfl, _, _, _, _, _, r⟩ := ha
        cases i with
        | zero => omega
        | succ i =>
          obtain ⟨v, hv, r⟩ := r.get (i := i) (by simpa using h1)
          exact ⟨v, sget (i + 1) v (by simpa using hv), r⟩
  · rw [own i x q1] at i1
    cases i1
  · show (entry d as).length = (start N vs).length
    unfold entry L2.start
    simp only [List.length_append, List.length_replicate, List.length_map, lenE]
    omega
/-- the static side of a def -/
structure FnS (P : Program) (K : PySem.W.Frag) (mg : Str → Option Value) (T : Tb) (p : Pg) (f : Nat) (x : Str) (a : Addr) (fd : FuncData) (ps : List Str) (dvs : List V) (dfs : List Value) (qual : Str) (st : Stmt) (N : List Str) (d : Fn) : Prop where
  at_ : mg x = some (.ref a)
  kp : PySem.W.keepIn K (.ref a) = true
  df : ∀ F, RpA K F dvs (p.df f)
  dv : Vals dvs dfs
  bd : ∀ m ks ix, (f, m, ks, ix) ∈ T.pats → BindOk K fd ps dfs m ks ix
  fu : Fun K x qual st a fd
  sc : FnScope N ps (defScope st)
  hd : p.fns[f]? = some d
  np : d.np = ps.length
  ns : d.ns = N.length
  le : d.np ≤ d.ns
  ck : chkSs T true N (defScope st) d.body (defBody st) = true
  hot : f ∈ T.hot → chkSs T false N (defScope st) d.body (defBody st) = true
theorem sp_len {f : Nat} {ps : List Str} {d : Fn} (hd : p.fns[f]? = some d) (np : d.np = ps.length) : ∀ vs H Q E, spF K cn p n f vs H Q E → vs.length = ps.length := by
  intro vs H Q E ⟨c, F, as, cs, _, _, ⟨d', h1, h2⟩, _⟩
  rw [hd] at h1
  cases h1
  rw [h2, np]
theorem fn_stepC {cm : Bool} {f : Nat} {x : Str} {a : Addr} {fd : FuncData} {ps : List Str} {dvs : List V} {dfs : List Value} {qual : Str} {st : Stmt} {N : List Str} {d : Fn} (S : FnS P K mg T p f x a fd ps dvs dfs qual st N d) (ck : chkSs T cm N (defScope st) d.body (defBody st) = true)
    (pf : Pf P w K mg base T p cn n) (mks : ∀ x c, (x, c) ∈ T.mks → MkOk P w K mg base (p.wd n).init n x c) : FnG P w K mg base cm (n + 1) a fd ps (spF K cn p (n + 1) f) := by
  refine fng_of S.fu S.sc (sp_len S.hd S.np) fun cdv A outer s H vs Q E hg hr hsp => ?_
  have G : Gs (cxC cm P w K mg base N qual (defScope st) a cdv A outer s H E) T cm N (defScope st) p n ⟨cn, fun cls d _ H => E cls d H⟩ :=
    ⟨⟨rfl, S.sc.nd, rfl, fun z => z, guards_deeper A _ hg, hr, by have := hr.un; show (A.deeper _).units + 65 < cLine; omega, takes_of rfl rfl rfl rfl, pf⟩, fun _ => rfl, S.sc.kind, fun _ => passes_of rfl, rfl, rfl, rfl, mks⟩
  refine ⟨_, sSs G d.body (defBody st) ck, ?_⟩
  obtain ⟨c, F, as, cs, sm, ha, ⟨d', hd', hl⟩, hp⟩ := hsp
  rw [S.hd] at hd'
  cases hd'
  have hb : p.br f = d.br := by unfold Pg.br; rw [S.hd]
  rw [hb] at ha
  refine ⟨⟨c, F, H⟩, ⟨entry d as, cs⟩, F, entry_rl sm ha hl S.ns S.le, ?_⟩
  unfold Pg.run at hp
  rw [S.hd] at hp
  simp only [(arg_len ha).trans hl, if_true] at hp
  have hp : PoC K cn ⟨c, F, H⟩ F Q E (ofOut (execs (p.wd n) d.body ⟨entry d as, cs⟩)) := hp
  cases ho : execs (p.wd n) d.body ⟨entry d as, cs⟩ with
  | stuck => rw [ho] at hp; exact hp.elim
  | brk t => rw [ho] at hp; exact hp.elim
  | cont t => rw [ho] at hp; exact hp.elim
  | next t => rw [ho] at hp; exact fun σ H' F' R sm' => hp .non H' F' R.drop sm' .non
  | ret v t => rw [ho] at hp; exact fun H' F' u R sm' rv => hp u H' F' R sm' rv
  | exc k fs t => rw [ho] at hp; exact fun σ dd H' F' R sm' xd => hp dd H' F' R.drop sm' xd
theorem fn_step {f : Nat} {x : Str} {a : Addr} {fd : FuncData} {ps : List Str} {dvs : List V} {dfs : List Value} {qual : Str} {st : Stmt} {N : List Str} {d : Fn} (S : FnS P K mg T p f x a fd ps dvs dfs qual st N d)
    (pf : Pf P w K mg base T p cn n) (mks : ∀ x c, (x, c) ∈ T.mks → MkOk P w K mg base (p.wd n).init n x c) : FnG P w K mg base true (n + 1) a fd ps (spF K cn p (n + 1) f) := fn_stepC S S.ck pf mks
/-- what is the same at all levels -/
structure PfS (P : Program) (K : PySem.W.Frag) (mg : Str → Option Value) (T : Tb) (p : Pg) (cn : Tx → Value) : Prop where
  cst : ∀ (k : Nat) x, T.cst[k]? = some x → ∃ v u, mg x = some u ∧ RelV v u ∧ ∀ F, Rp K F v (p.cst.getD k .non)
  blt : ∀ x ∈ T.blt, mg x = none
  xcl : ∀ x k, (x, k) ∈ T.xcl → (∃ c, k = .own c ∧ mg x = some (.ref (adr K c))) ∨ (mg x = none ∧ ∃ t, clV K k = .ty t ∧ clU K k = .type t ∧ x = (t : Str) ∧ bootBuiltins x = some (.type t) ∧ x ≠ "__name__")
  cls : ∀ c k b, p.cl c k = some b → XcOk K (adr K c) T.fld ∧ PySem.W.kitOne K (.ref (adr K c)) (clU K k) = some b ∧ PySem.W.exmOne K (.ref (adr K c)) (clU K k) = some b
  cne : ∀ c, cn c = .ref (adr K c)
  fn : ∀ (f : Nat) x, T.fn[f]? = some x → ∃ a fd ps dvs dfs qual st N d, FnS P K mg T p f x a fd ps dvs dfs qual st N d
theorem all_pf (S : PfS P K mg T p cn) (mks : ∀ n x c, (x, c) ∈ T.mks → MkOk P w K mg base (p.wd n).init n x c) : ∀ n, Pf P w K mg base T p cn n
  | 0 => ⟨S.cst, S.blt, S.xcl, S.cls, S.cne, fun f x hx => by
      obtain ⟨a, fd, ps, dvs, dfs, qual, st, N, d, h⟩ := S.fn f x hx
      have no : ∀ cm, FnG P w K mg base cm 0 a fd ps (spF K cn p 0 f) := fun cm => ⟨sp_len h.hd h.np, fun A o s H args us vs Q E _ _ _ _ _ hsp => by
        obtain ⟨c, F, as, cs, _, _, _, hp⟩ := hsp
        exact False.elim hp⟩
      exact ⟨a, fd, ps, dvs, dfs, h.at_, h.kp, h.df, h.dv, no true, fun _ => no false, h.bd⟩⟩
  | n + 1 => ⟨S.cst, S.blt, S.xcl, S.cls, S.cne, fun f x hx => by
      obtain ⟨a, fd, ps, dvs, dfs, qual, st, N, d, h⟩ := S.fn f x hx
      exact ⟨a, fd, ps, dvs, dfs, h.at_, h.kp, h.df, h.dv, fn_step h (all_pf S mks n) (mks n), fun z => fn_stepC h (h.hot z) (all_pf S mks n) (mks n), h.bd⟩⟩
end
end Pi
set_option maxRecDepth 100000
set_option maxHeartbeats 3900000
namespace Pi
open PySem PySem.Spec L2 PyProof.Rows
/-! ### a law's own head, for defs that may ask for a repr -/
/-- the script is told of, unless it is one of the module's own objects -/
def scrH (K : PySem.W.Frag) (a : Addr) (ob : Obj) (xs : List V) : Hp := fun b => if b = a ∧ (K.lookup a).isNone = true then some (.frz ob (.lst xs)) else none
section
variable {P : Program} {w : World} {K : PySem.W.Frag} {mg mb : Str → Option Value} {k : Nat} {fa a : Addr} {fd : FuncData} {x : Str} {sp : Sp} {t : Shared} {vs : List Value} {ns : List Int}
theorem scr_cases {ob : Obj} {xs : List V} (b : Addr) : scrH K a ob xs b = none ∨ (b = a ∧ K.lookup a = none ∧ scrH K a ob xs b = some (.frz ob (.lst xs))) := by
  unfold scrH
  by_cases h : b = a ∧ (K.lookup a).isNone = true
  · exact Or.inr ⟨h.1, Option.isNone_iff_eq_none.mp h.2, if_pos h⟩
  · exact Or.inl (if_neg h)
/-- the state ahead of the law's call, as a def's promise wants it -/
theorem script_env (KX : K.In t.heap) (hns : t.heap.Ns mainGlobals mg) (hb : t.heap.Ns builtinsNs mb) (hbb : ∀ y : Str, y ≠ "__name__" → mb y = bootBuiltins y) (hlim : t.heap.NoLimit) (hg : t.gens = #[])
    (ha : t.heap.get? a = some { cls := .type "list", data := .seq vs.toArray }) (hi : IntsAre vs ns) (hl : ns.length ≤ sizeLine) :
    ∃ (base : Heap) (H : Hp), Env0 P w K mg base callerA [] t H ∧ SqL K H a (ns.map V.int) ∧ ∀ b o, t.heap.get? b = some o → H b = none ∨ ∃ u, H b = some (.frz o u) := by
  let ob : Obj := { cls := .type "list", data := .seq vs.toArray }
  let H := scrH K a ob (ns.map V.int)
  have stays : ∀ b o, t.heap.get? b = some o → (b = a → K.lookup a ≠ none) → (hidT t.heap H).get? b = some o := fun b o q n => by
    rcases scr_cases (K := K) (a := a) (ob := ob) (xs := ns.map V.int) b with z | ⟨z1, z2, _⟩
    · exact hidT_get q z
    · exact absurd z2 (n z1)
  have spaces : ∀ {b : Addr} {m : Str → Option Value}, t.heap.Ns b m → (hidT t.heap H).Ns b m := by
    rintro b m ⟨o, es, ep, q, dq, rest⟩
    refine ⟨o, es, ep, stays b o q fun e => ?_, dq, rest⟩
    rw [e, ha] at q
    rw [← Option.some.inj q] at dq
    exact nomatch dq
  have inside : K.In (hidT t.heap H) := fun b o q => stays b o (KX b o q) fun e z => by rw [e, z] at q; exact nomatch q
  obtain ⟨mc, lim1, lim2⟩ := hlim
  refine ⟨hidT t.heap H, H, { frames := rfl, mod := ⟨inside, spaces hns, ⟨mb, spaces hb, hbb⟩, mc, spaces lim1, lim2⟩, bs := fun b o q => of_hidT q, bsz := Nat.le_of_eq (hidT_size _ _), funs := trivial, frf := fun b z => absurd z List.not_mem_nil, hok := fun b u q => ?_, bare := .of_eq hg }, ?_, fun b o q => ?_⟩
  · rcases scr_cases (K := K) (a := a) (ob := ob) (xs := ns.map V.int) b with z | ⟨rfl, _, z⟩
    · exact nomatch z.symm.trans q
    · cases z.symm.trans q
      refine ⟨ha, ?_, vs, _, vals_ints hi, ha⟩
      simpa using hl
  · cases e : K.lookup a with
    | none =>
      refine .inl (.inr ⟨ob, ?_⟩)
      show scrH K a ob (ns.map V.int) a = _
      unfold scrH
      rw [if_pos ⟨rfl, by simp [e]⟩]
    | some o =>
      obtain rfl := Option.some.inj ((KX a o e).symm.trans ha)
      refine .inr ⟨_, vs.toArray, _, e, rfl, rfl, rfl, ?_, ?_⟩
      · simpa [hi.length] using hl
      · simpa using vals_ints hi
  · rcases scr_cases (K := K) (a := a) (ob := ob) (xs := ns.map V.int) b with z | ⟨rfl, _, z⟩
    · exact Or.inl z
    · rw [← Option.some.inj (ha.symm.trans q)]
      exact Or.inr ⟨_, z⟩
theorem law_callG (KX : K.In t.heap) (hns : t.heap.Ns mainGlobals mg) (hb : t.heap.Ns builtinsNs mb) (hbb : ∀ y : Str, y ≠ "__name__" → mb y = bootBuiltins y) (hlim : t.heap.NoLimit) (hg : t.gens = #[])
    (ha : t.heap.get? a = some { cls := .type "list", data := .seq vs.toArray }) (hi : IntsAre vs ns) (hl : ns.length ≤ sizeLine) (hr : Room k callerA)
    (F : ∀ base : Heap, K.In base → base.Ns mainGlobals mg → FnG P w K mg base true k fa fd [x] sp) (hbind : ∀ (s : Shared) (u : Value), BindsTo s fd ⟨[u], []⟩ [(x, u)])
    (hsp : ∀ H : Hp, SqL K H a (ns.map V.int) → sp [.ref a] H (fun v _ => v = .bl true) fun _ _ _ => False) :
    codeAny (model P w) callerA (.call (.ref fa) ⟨[.ref a], []⟩) (fun r t' => r = .ok (.ret (.bool true)) ∧ OldK t.heap t'.heap ∧ t'.os = t.os ∧ AllBare t'.gens) t := by
  obtain ⟨base, H, e0, sq, froz⟩ := script_env (P := P) (w := w) (mb := mb) KX hns hb hbb hlim hg ha hi hl
  have run := (F base e0.mod.kin e0.mod.glob).run callerA [] t H ⟨[.ref a], []⟩ [.ref a] [.ref a] _ _ rfl (RoomC.of hr) e0 (hbind t (.ref a)) (.cons rfl .nil) (hsp H sq)
  refine codeAny_mono run ?_
  rintro (e | fl) t' z
  · obtain ⟨a', B, H', cls, d, z⟩ := z
    exact z.2.2.2.2.2.2.2.elim
  · match fl, z with
    | .ret u, ⟨v, H', os, gens, un, hok, rv, e⟩ =>
      subst e
      cases rv
      refine ⟨rfl, OldK.of_keep fun b o q => ?_, os, gens⟩
      rcases froz b o q with n | ⟨v', n⟩
      · exact un.keep b o q n (fun z => absurd z List.not_mem_nil) List.not_mem_nil
      · exact (hok b _ (un.frzs b o v' n)).1
end
/-- the law's def, as a def of the small form, over every ground -/
def LawF (P : Program) (d : DefRec) (K : Params → PySem.W.Frag) (x : Str) (k f : Nat) (p : Pg) : Prop := ∀ (w : World) (mg : Str → Option Value) (fa : Addr) (h : Heap), (K w.params).In h → h.Ns mainGlobals mg → mg d.name = some (.ref fa) → ∃ fd : FuncData, (∀ (s : Shared) (u : Value), BindsTo s fd ⟨[u], []⟩ [(x, u)]) ∧
  ∀ base : Heap, (K w.params).In base → base.Ns mainGlobals mg → FnG P w (K w.params) mg base true k fa fd [x] (spF (K w.params) (fun c => .ref (adr (K w.params) c)) p k f)
/-- what k_head leaves to be shown -/
abbrev LawW (l : PySem.W.OpenLaw) (q : Program) (loose : List Str) (XP : (Str → Option Value) → Heap → Prop) (YP : World → Heap → Prop) (d : DefRec) : Prop := PySem.W.WalkO q loose XP YP l.row.toRowW d [] fun f vs => PySem.call f vs
/-- the end of a law, from the small form's answers -/
theorem walkG {l : PySem.W.OpenLaw} {m k f : Nat} {q : Program} {loose : List Str} {XP : (Str → Option Value) → Heap → Prop} {YP : World → Heap → Prop} {d : DefRec} {K : Params → PySem.W.Frag} {x : Str} {p : Pg}
    (hn : l.most = some m) (hn2 : m ≤ sizeLine) (hdf : d.params.defaults = []) (hr : Room k callerA) (hY : ∀ (w : World) (h : Heap), YP w h → (K w.params).In h)
    (F : LawF l.prog d K x k f p)
    (hf : ∃ dd, p.fns[f]? = some dd ∧ dd.np = 1 ∧ dd.br = false) (law : ∀ ns : List Int, ns.length ≤ m → p.run k f [.scr (ns.map .int)] [] = .ok (.val (.bl true)) []) :
    LawW l q loose XP YP d := by
  refine Att.attach_call hn hdf fun w _ t mg _ fa _ _ _ _ a vs ns G Y _ _ _ named there allInts short nogens => ?_
  have inK := hY w _ Y
  obtain ⟨fd, binds, ok⟩ := F w mg fa _ inK G.T.g named
  refine law_callG inK G.T.g G.T.b G.T.builtins G.T.nolimit nogens there allInts (Nat.le_trans short hn2) hr ok binds fun H hS => ?_
  obtain ⟨dd, h1, h2, h3⟩ := hf
  have hbr : p.br f = false := by unfold Pg.br; rw [h1]; exact h3
  refine ⟨none, H, [.scr (ns.map .int)], [], Same.refl H, ?_, ⟨dd, h1, h2.symm⟩, ?_⟩
  · rw [hbr]
    refine ⟨rfl, .cons (.scr hS (by simp) fun i v y q1 q2 => ?_) .nil⟩
    rw [List.getElem?_map] at q1 q2
    cases hz : ns[i]? with
    | none => rw [hz] at q1; cases q1
    | some z =>
      rw [hz] at q1 q2
      cases q1; cases q2
      exact .int z
  · rw [law ns short]
    intro u H' F' _ _ rv
    cases rv
    rfl
end Pi
set_option maxRecDepth 100000
set_option maxHeartbeats 3900000
namespace Pi
open PySem PySem.Spec L2 PyProof.Rows
/-! ### errors are made: C(..) with an own __init__ that asks its base's one and then stores its parameters. The error is made as a value that is tracked; where it is raised it is let go. -/
/-- a class of the module whose chain ends with a built-in one (bmB: that one's own chain) -/
structure XB (K : PySem.W.Frag) (C : Addr) (newId : String) (bmB : List Value) : Prop where
  look : ∃ nm q N bs bm sn sub ab col dd k0 k1 k2 k3 k5, K.lookup C = some (excClassObj nm q C N bs bm true sn sub ab col dd k0 k1 k2 k3 k5 newId) ∧ PySem.W.excTail bmB bm = true
  isE : PySem.W.subIn K (.ref C) (.type "BaseException") = some true
  isT : PySem.W.typeIn K (.ref C) = some (.type "type")
  kept : PySem.W.keepIn K (.ref C) = true
section
variable {K : PySem.W.Frag} {C : Addr} {newId : String} {bmB : List Value}
theorem XB.cd (T : XB K C newId bmB) : ∃ cd bm, PySem.W.clsIn K C = some cd ∧ cd.mro = .ref C :: bm ∧ PySem.W.excTail bmB bm = true ∧ cd.hasDict = true := by
  obtain ⟨nm, q, N, bs, bm, sn, sub, ab, col, dd, k0, k1, k2, k3, k5, e, t⟩ := T.look
  exact ⟨_, bm, by unfold PySem.W.clsIn; rw [e] <;> rfl, rfl, t, rfl⟩
theorem XB.over (T : XB K C newId bmB) : PySem.W.excOver K C bmB = true := by
  obtain ⟨cd, bm, e, m, t, _⟩ := T.cd
  unfold PySem.W.excOver
  rw [e]
  show (match cd.mro with | .ref C' :: bm => C' == C && PySem.W.excTail bmB bm | _ => false) = true
  rw [m]
  simp [t]
end
theorem upd_id {H : Hp} {a : Addr} {o : HO} (e : H a = some o) : upd H a o = H := by
  funext b
  unfold upd
  split
  · rename_i q
    rw [q, e]
  · rfl
theorem upd_swap {H : Hp} {a b : Addr} {o o' : HO} (n : a ≠ b) : upd (upd H a o) b o' = upd (upd H b o') a o := by
  funext c
  unfold upd
  by_cases h1 : c = b
  · rw [if_pos h1, if_neg (fun z => n (z.symm.trans h1)), if_pos h1]
  · rw [if_neg h1]
    by_cases h2 : c = a
    · rw [if_pos h2, if_pos h2]
    · rw [if_neg h2, if_neg h2, if_neg h1]
/-! the base's __init__ -/
section
variable {X : Cx} {C : Addr} {B newId initId : String} {bmB : List Value}
def rIni (C : Addr) : List V → Hp → VK → Prop := fun xs H Q => ∃ (a : Addr) (ws : List V), xs = .ref a :: ws ∧ ws.length ≤ 1000 ∧ H a = some (exo a C none) ∧ Q .non H
theorem call_ini (FB : ExcBaseFacts B newId initId bmB) (T : XB X.K C newId bmB) : CallR X (.builtin initId) (rIni C) := by
  rintro pins ⟨hp, g, dr, tk, os⟩ σ H _ us Q I rv ⟨a, ws, rfl, short, e, q⟩
  obtain ⟨t1, made⟩ := exo_at I.hok e
  obtain ⟨nm, qn, N, bs, bm, sn, sub, ab, col, dd, k0, k1, k2, k3, k5, lk, tail⟩ := T.look
  match us, rv with
  | _ :: us, .cons rfl rs =>
    have z : us.length ≤ sizeLine := by
      have := rs.length
      simp only [sizeLine_eq]
      omega
    refine wpAny_call (HandSPX.init_base FB (fun Y => PySem.W.excTail_contains Y bm tail) (I.kIn _ _ lk) made z fun h' t2 same there => ⟨.non, H, ?_, rfl, q⟩)
    exact upd_id e ▸ I.write (t' := tk) (x := a) (e := a) (o := exo a C none) (by rw [e]; exact trivial) (Or.inl rfl) same ⟨_, there⟩ (exo_ok there)
end
/-- D.__init__(..): how the row is walked (told by its text) -/
def IniW (nm txt : Str) (j : Nat) (q0 q1 q2 q3 q4 : Pos) : Prop := ∀ env : Env, ∃ pl : Sem Bool, ∀ (M : Model) (A : Around) (E : Value → Shared → Prop) (s : Shared) (Q : Value → Shared → Prop),
  wpAny M A (eval (.Name nm q0) env) (fun v s1 => wpAny M A (getMethod v "__init__" pl) (fun fx s2 => wpAny M A (callWith q4 fx.1 fx.2 (backTo q4 (starEach [.Name "self" q2, .Constant (.str txt) j q3] env)) []) Q E s2) E s1) E s →
  wpAny M A (eval (.Call (.Attribute (.Name nm q0) "__init__" q1) [.Name "self" q2, .Constant (.str txt) j q3] [] q4) env) Q E s
/-- the name of the base, and that its __init__ is the built-in one -/
def Bas (X : Cx) (nm : Str) (initId : String) : Prop := ∃ cv : Value, (∀ (p : Pos) (pins : List (Addr × Obj)) (σ : L2.St) (H : Hp) (s : Shared) (E : Value → Shared → Prop) (Q : Value → Shared → Prop), Inv X pins σ H s → Q cv s → wpAny (model X.prog X.w) X.A (eval (.Name nm p) X.env) Q E s) ∧
  ∀ (pl : Sem Bool) (pins : List (Addr × Obj)) (σ : L2.St) (H : Hp) (s : Shared) (E : Value → Shared → Prop) (Q : Value × List Value → Shared → Prop), Inv X pins σ H s → (∀ t, Q (.builtin initId, []) { s with toks := t }) → wpAny (model X.prog X.w) X.A (getMethod cv "__init__" pl) Q E s
section
variable {X : Cx} {nm : Str} {B initId : String} {D : Addr}
/-- .. a class of the module -/
theorem bas_own (hg : Gl X nm) (hm : X.mg nm = some (.ref D)) (hd : (nm == ("__debug__" : Str)) = false) (sg : PySem.W.specialIn X.K (.ref D) "__getattribute__" = some (some (.builtin "type.__getattribute__"))) (rd : PySem.W.readsIn X.K D (.type "type") = true)
    (vV : PySem.W.findCls X.K (.ref D) (.type "type") "__init__" = some (.val (.builtin initId))) (hh : PySem.W.handedIn (.builtin initId) = true) : Bas X nm initId :=
  ⟨.ref D, fun _ _ _ _ _ _ _ I q => ld_glob I hg hm q hd, fun _ _ _ _ _ _ _ I q => PySem.W.method_cls I.kIn sg (PySem.W.cls_value I.kIn rd vV hh (q _))⟩
/-- .. a built-in class -/
theorem bas_blt (hg : Gl X B) (hm : X.mg B = none) (hv : bootBuiltins B = some (.type B)) (hn : (B : Str) ≠ "__name__") (hd : ((B : Str) == ("__debug__" : Str)) = false) (ht : typeOf (.type B) = pure (.type "type")) (hst : Manifest.isStub B = false)
    (vV : PySem.W.findCls X.K (.type B) (.type "type") "__init__" = some (.val (.builtin initId))) (hh : PySem.W.handedIn (.builtin initId) = true) : Bas X B initId :=
  ⟨.type B, fun _ _ _ _ _ _ _ I q => ld_blt I hg hm hv q hn hd, fun _ _ _ _ _ _ _ I q => PySem.W.method_type I.fr.choose_spec I.ok.mod.kin ht hst vV hh (q _)⟩
theorem ps_ini {C : Addr} {newId : String} {bmB : List Value} {txt : Str} {j : Nat} {q0 q1 q2 q3 q4 q5 : Pos} (W : IniW nm txt j q0 q1 q2 q3 q4) (FB : ExcBaseFacts B newId initId bmB) (T : XB X.K C newId bmB) (b : Bas X nm initId) (hN : X.N[0]? = some ("self" : Str)) (hs : Vis X.env.scope "self") :
    PS X (.Expr (.Call (.Attribute (.Name nm q0) "__init__" q1) [.Name "self" q2, .Constant (.str txt) j q3] [] q4) q5) (fun D σ H => ∃ a : Addr, σ[0]? = some (some (.ref a)) ∧ H a = some (exo a C none) ∧ D.nx σ H) := by
  have e : PE X (.Call (.Attribute (.Name nm q0) "__init__" q1) [.Name "self" q2, .Constant (.str txt) j q3] [] q4) (fun σ H Q => ∃ a : Addr, σ[0]? = some (some (.ref a)) ∧ H a = some (exo a C none) ∧ Q .non H) := by
    refine PE.mk fun pins s σ H Q I h => ?_
    obtain ⟨a, h1, h2, h3⟩ := h
    obtain ⟨pl, go⟩ := W X.env
    obtain ⟨cv, ld, mt⟩ := b
    refine go _ _ _ _ _ (ld _ pins σ H s _ _ I (mt pl pins σ H s _ _ I fun t => ?_))
    have pas : PA X [.Name "self" q2, .Constant (.str txt) j q3] _ := pa_cons (pe_var (X := X) (pos := q2) hN hs) (pa_cons (pe_str (X := X) (x := txt)) pa_nil)
    have as := pas.run q4 pins { s with toks := t } σ H (fun vs H' => rIni C vs H' Q) (I.tok t) ⟨_, h1, a, [.str txt], rfl, by simp, h2, h3⟩
    exact callWith_method1 (thn as fun us s1 ⟨vs, H1, I1, rv, r⟩ => call_ini FB T pins s1 σ H1 vs us Q I1 rv r)
  exact PS.mk fun pins s σ H D I ⟨a, h1, h2, h3⟩ => (ps_expr e).run pins s σ H D I ⟨a, h1, h2, h3⟩
end
/-! self.f = f -/
/-- what is told behind the first store, and behind a further one -/
def hFirst (H : Hp) (a C dx : Addr) (fs : List (Str × V)) : Hp := upd (upd H dx (exd dx fs)) a (exo a C (some dx))
def hNext (H : Hp) (dx : Addr) (fs : List (Str × V)) : Hp := upd H dx (exd dx fs)
/-- the heap with the object at a as it was -/
theorem mid_heap {h' : Heap} {a : Addr} {o o' : Obj} (e : h'.get? a = some o') (nf : o.isFreed = false) : ∃ m : Heap, m.get? a = some o ∧ ∀ b, b ≠ a → m.get? b = h'.get? b :=
  ⟨h'.update a fun _ => o, Heap.get?_update_self _ e nf, fun b n => Heap.get?_update_other _ _ (Ne.symm n)⟩
section
variable {X : Cx} {pins : List (Addr × Obj)} {σ : L2.St} {H : Hp} {s : Shared} {a C dx : Addr} {B newId : String} {bmB : List Value} {f : Str} {y : V} {u : Value} {fs : List (Str × V)} {A : Around} {E : Value → Shared → Prop} {Q : Unit → Shared → Prop}
theorem put_first (SF : StoreFacts B bmB "object.__setattr__" "object") (T : XB X.K C newId bmB) (sa : PySem.W.findIn X.K (.ref C) "__setattr__" = some (some (.builtin "object.__setattr__"))) (tf : PySem.W.takerIn X.K C f = some none) (I : Inv X pins σ H s) (e : H a = some (exo a C none)) (ry : RelV y u)
    (h : ∀ dx s', H dx = none → dx ≠ a → Inv X pins σ (hFirst H a C dx [(f, y)]) s' → Q () s') : wpAny (model X.prog X.w) A (setAttr (.ref a) f u) Q E s := by
  obtain ⟨t1, made⟩ := exo_at I.hok e
  obtain ⟨cd, bm, ec, _, _, hd⟩ := T.cd
  rcases s with ⟨hp, g, dr, tk, os⟩
  have lt : a < hp.objs.size := Heap.lt_size made
  refine PySem.W.set_plain (od := none) I.kIn ⟨made, rfl, rfl, trivial⟩ sa (PySem.W.osa_openX (od := none) SF I.kIn ⟨made, rfl, rfl, trivial⟩ T.over tf fun _ => ?_)
  refine wpAny_bind (wpAny_pure (wpAny_bind (PySem.W.instanceDict_exc (t := t1) (c2 := .none) made (PySem.W.looks_clsIn I.kIn ec) hd ?_)))
  refine HandSPX.store_in_new ⟨_, #[], _, (Heap.get?_update_other _ _ (Nat.ne_of_lt lt)).trans (Heap.get?_push_at rfl rfl), rfl, fun q z => absurd z (by simp), fun _ => rfl⟩ fun h' tk' hn' sb => ?_
  have here : h'.get? a = some { cls := .ref C, dict := some hp.objs.size, data := .fields #[.ref t1, .none, .none, .none, .bool false, .none] } := (sb.2 a (Nat.ne_of_lt lt)).trans (Heap.get?_update_self _ (Heap.get?_push_of_some _ made) rfl)
  have rest : ∀ b o, b ≠ a → hp.get? b = some o → h'.get? b = some o := fun b o n q => (sb.2 b (Nat.ne_of_lt (Heap.lt_size q))).trans ((Heap.get?_update_other _ _ (Ne.symm n)).trans (Heap.get?_push_of_some _ q))
  have nd : H hp.objs.size = none := I.hok.fresh (Nat.le_refl _)
  have ne : hp.objs.size ≠ a := Nat.ne_of_gt lt
  -- first the new dict, beside the object as it was; then the object
  obtain ⟨m, m1, m2⟩ := mid_heap (o := { cls := .ref C, dict := none, data := .fields #[.ref t1, .none, .none, .none, .bool false, .none] }) here rfl
  have rel : ∀ g, RelO ([(f, y)].lookup g) (if g = f then some u else none) := fun g => by
    by_cases z : g = f
    · subst z
      simp only [List.lookup, BEq.rfl, if_pos]
      exact ry
    · rw [if_neg z]
      simp only [List.lookup, beq_eq_false_iff_ne.mpr z]
      exact trivial
  have J1 := I.laidN (t' := tk') (a := hp.objs.size) (o := exd hp.objs.size [(f, y)]) (h' := m) (fun b o q => by
      by_cases z : b = a
      · rw [z] at q ⊢
        exact m1.trans (made.symm.trans q)
      · exact (m2 b z).trans (rest b o z q)) (by
      cases q : hp.get? hp.objs.size with
      | none => rfl
      | some o => exact absurd (Heap.lt_size q) (Nat.lt_irrefl _)) nd (exd_ok (hn'.at fun o q => (m2 _ ne).trans q) rel)
  have J2 := J1.write (t' := tk') (x := a) (e := a) (o := exo a C (some hp.objs.size)) (h' := h') (by rw [upd_ne (Ne.symm ne), e]; exact trivial) (Or.inl rfl) (fun b o n q => (m2 b n).symm.trans q) ⟨_, here⟩ (exo_ok here)
  exact h _ _ nd ne J2
theorem put_next (SF : StoreFacts B bmB "object.__setattr__" "object") (T : XB X.K C newId bmB) (sa : PySem.W.findIn X.K (.ref C) "__setattr__" = some (some (.builtin "object.__setattr__"))) (tf : PySem.W.takerIn X.K C f = some none) (I : Inv X pins σ H s) (e : H a = some (exo a C (some dx))) (ed : H dx = some (exd dx fs)) (few : fs.length ≤ 900) (ry : RelV y u)
    (h : ∀ s', Inv X pins σ (hNext H dx ((f, y) :: fs)) s' → Q () s') : wpAny (model X.prog X.w) A (setAttr (.ref a) f u) Q E s := by
  obtain ⟨t1, made⟩ := exo_at I.hok e
  obtain ⟨mA, ns, rel⟩ := exd_at I.hok ed
  obtain ⟨cd, bm, ec, _, _, hd⟩ := T.cd
  rcases s with ⟨hp, g, dr, tk, os⟩
  obtain ⟨oD, _, _, od, _⟩ := id ns
  refine PySem.W.set_plain (od := some oD) I.kIn ⟨made, rfl, rfl, od⟩ sa (PySem.W.osa_openX (od := some oD) SF I.kIn ⟨made, rfl, rfl, od⟩ T.over tf fun _ => ?_)
  refine wpAny_bind (wpAny_pure (wpAny_bind (wpAny_bind (wpAny_loadPart made (wpAny_bind ((PySem.W.looks_clsIn I.kIn ec).at ?_))))))
  rw [hd]
  refine wpAny_pure (a := some dx) (PySem.OEX.store_in_old ns (within_of rel) (by rw [List.length_map]; omega) fun h' tk' hn' sb => ?_)
  obtain ⟨o', _, _, od', _⟩ := id hn'
  exact h _ (I.write (t' := tk') (x := dx) (e := dx) (h' := h') (by rw [ed]; exact trivial) (Or.inl rfl) (fun b o n q => (sb.2 b n).trans q) ⟨o', od'⟩ (exd_ok hn' (relO_put ry rel)))
end
/-- one row -/
def tPut (C : Addr) (f : Str) (i : Nat) : TS := fun D σ H => ∃ (a : Addr) (y : V) (at' : Option Addr), σ[0]? = some (some (.ref a)) ∧ σ[i]? = some (some y) ∧ H a = some (exo a C at') ∧
  match at' with
  | none => ∀ n, H n = none → n ≠ a → D.nx σ (upd (upd H n (exd n [(f, y)])) a (exo a C (some n)))
  | some n => ∃ gs : List (Str × V), gs.length ≤ 900 ∧ H n = some (exd n gs) ∧ D.nx σ (upd H n (exd n ((f, y) :: gs)))
def tPuts (C : Addr) : List Str → Nat → TS
  | [], _ => tNext
  | f :: fs, i => tSeq (tPut C f i) (tPuts C fs (i + 1))
/-- the rows self.f = f, one for each field -/
inductive Puts : List Str → List Stmt → Prop
  | nil : Puts [] []
  | cons {f : Str} {fs : List Str} {p1 p2 p3 p4 : Pos} {sts : List Stmt} (r : Puts fs sts) : Puts (f :: fs) (.Assign [.Attribute (.Name "self" p1) f p2] (.Name f p3) p4 :: sts)
/-- what the written part says of the fields -/
structure FldOk (K : PySem.W.Frag) (C : Addr) (sc : Scope) (f : Str) : Prop where
  tk : PySem.W.takerIn K C f = some none
  lc : sc.names.lookup f = some .local
  nd : (f == ("__debug__" : Str)) = false
  nc : (f == ("__classdict__" : Str)) = false
section
variable {X : Cx} {C : Addr} {B newId : String} {bmB : List Value}
theorem pss_puts (SF : StoreFacts B bmB "object.__setattr__" "object") (T : XB X.K C newId bmB) (sa : PySem.W.findIn X.K (.ref C) "__setattr__" = some (some (.builtin "object.__setattr__"))) (hN : X.N[0]? = some ("self" : Str)) (hs : Vis X.env.scope "self") {fs : List Str} {sts : List Stmt} (P : Puts fs sts) :
    ∀ i, (∀ (j : Nat) f, fs[j]? = some f → X.N[i + j]? = some f ∧ FldOk X.K C X.env.scope f) → PSs X sts (tPuts C fs i) := by
  induction P with
  | nil => exact fun i _ => pss_nil
  | @cons f fs p1 p2 p3 p4 sts r ih =>
    intro i ok
    obtain ⟨n0, f0⟩ := ok 0 f rfl
    refine pss_cons (PS.mk fun pins s σ H D I ⟨a, y, at', s0, si, e, q⟩ => ?_) (ih (i + 1) fun j g z => by simpa [Nat.add_assoc, Nat.add_comm 1] using ok (j + 1) g (by simpa using z))
    have self := pe_var (X := X) (pos := p1) hN hs
    have par := pe_var (X := X) (pos := p3) (i := i) n0 (Or.inl f0.lc) f0.nd f0.nc
    refine plainObj_wpAny_Assign_Attribute (thn (par.run pins s σ H (fun v H' => v = y ∧ H' = H) I ⟨y, si, rfl, rfl⟩) fun v s1 ⟨_, _, I1, rv, rfl, rfl⟩ => thn (self.run pins s1 σ _ (fun w H' => w = .ref a ∧ H' = _) I1 ⟨_, s0, rfl, rfl⟩) fun u s2 ⟨_, _, I2, ru, rfl, e2⟩ => ?_)
    subst e2
    cases ru
    cases at' with
    | none => exact put_first SF T sa f0.tk I2 e rv fun dx s' n1 n2 J => ⟨σ, _, J, q dx n1 n2⟩
    | some dx =>
      have ⟨gs, few, ed, k⟩ := q
      exact put_next SF T sa f0.tk I2 e ed few rv fun s' J => ⟨σ, _, J, k⟩
end
/-- once the dict is there -/
theorem puts_go {C a dx : Addr} {σ : L2.St} {D : Ends} (s0 : σ[0]? = some (some (.ref a))) (ne : dx ≠ a) : ∀ (fs : List Str) (ys : List V) (i : Nat) (H : Hp) (gs : List (Str × V)), ys.length = fs.length → (∀ (j : Nat) y, ys[j]? = some y → σ[i + j]? = some (some y)) → H a = some (exo a C (some dx)) → H dx = some (exd dx gs) → gs.length + fs.length ≤ 900 →
    D.nx σ (upd H dx (exd dx ((fs.zip ys).reverse ++ gs))) → tPuts C fs i D σ H
  | [], _, i, H, gs, _, _, _, ed, _, q => by
    simp only [List.zip_nil_left, List.reverse_nil, List.nil_append, upd_id ed] at q
    exact q
  | f :: fs, [], i, H, gs, l, _, _, _, _, _ => by simp at l
  | f :: fs, y :: ys, i, H, gs, l, sl, e, ed, few, q => by
    simp only [List.length_cons] at l few
    refine ⟨a, y, some dx, s0, by simpa using sl 0 y rfl, e, gs, by omega, ed, ?_⟩
    refine puts_go s0 ne fs ys (i + 1) _ ((f, y) :: gs) (by omega) (fun j z q => by simpa [Nat.add_assoc, Nat.add_comm 1] using sl (j + 1) z (by simpa using q)) (by rw [upd_ne (Ne.symm ne)]; exact e) upd_same (by simp only [List.length_cons]; omega) ?_
    rw [upd_upd]
    simpa [List.zip_cons_cons, List.append_assoc] using q
/-! ### the promise of an __init__ -/
/-- the fields as they stand in the end: the last one first -/
def flds (fs : List Str) (ys : List V) : List (Str × V) := (fs.zip ys).reverse
def spI (C : Addr) (fs : List Str) : Sp := fun vs H Q _ => ∃ (a : Addr) (ys : List V), vs = .ref a :: ys ∧ ys.length = fs.length ∧ H a = some (exo a C none) ∧
  (fs = [] → Q .non H) ∧ (fs ≠ [] → ∀ dx, H dx = none → dx ≠ a → Q .non (upd (upd H dx (exd dx (flds fs ys))) a (exo a C (some dx))))
section
variable {P : Program} {w : World} {K : PySem.W.Frag} {mg : Str → Option Value} {base : Heap} {qual : Str} {st : Stmt} {fI C : Addr} {fd : FuncData} {nm txt : Str} {j : Nat} {B newId initId : String} {bmB : List Value} {fs : List Str} {sts : List Stmt} {q0 q1 q2 q3 q4 q5 : Pos}
theorem fn_ini (FB : ExcBaseFacts B newId initId bmB) (SF : StoreFacts B bmB "object.__setattr__" "object") (T : XB K C newId bmB) (Fi : Fun K "__init__" qual st fI fd) (hbd : defBody st = .Expr (.Call (.Attribute (.Name nm q0) "__init__" q1) [.Name "self" q2, .Constant (.str txt) j q3] [] q4) q5 :: sts)
    (W : IniW nm txt j q0 q1 q2 q3 q4) (S : FnScope ("self" :: fs) ("self" :: fs) (defScope st)) (hs : (defScope st).names.lookup ("self" : Str) = some .local) (few : fs.length ≤ 100)
    (bas : ∀ X : Cx, X.K = K → X.mg = mg → X.env.scope = defScope st → Bas X nm initId) (pts : Puts fs sts) (sa : PySem.W.findIn K (.ref C) "__setattr__" = some (some (.builtin "object.__setattr__"))) (fl : ∀ f ∈ fs, FldOk K C (defScope st) f) : FnOk P w K mg base CX0 1 fI fd ("self" :: fs) (spI C fs) := by
  refine Fi.ok S (fun vs H Q E ⟨a, ys, e, l, _⟩ => by rw [e]; simp [l]) fun cdv A outer s H vs Q E hr ⟨a, ys, ev, l, ea, z0, z1⟩ => ?_
  subst ev
  rw [hbd]
  let X := (cxOf CX0 P w K mg base ("self" :: fs) qual (defScope st) fI cdv A outer s H E).nox
  have vs : Vis X.env.scope "self" := Or.inl hs
  refine ⟨_, pss_cons (ps_ini (X := X) W FB T (bas X rfl rfl rfl) rfl vs) (pss_puts (X := X) SF T sa rfl vs pts 1 fun j f q => ⟨by show (("self" : Str) :: fs)[1 + j]? = some f; rw [Nat.add_comm]; simpa using q, fl f (List.mem_of_getElem? q)⟩), a, ?_, ea, ?_⟩
  · simp [L2.start]
  · have sl : ∀ (j : Nat) y, ys[j]? = some y → (L2.start (("self" : Str) :: fs) (V.ref a :: ys))[1 + j]? = some (some y) := fun j y q => by
      have lt : j < ys.length := (List.getElem?_eq_some_iff.mp q).1
      rw [Nat.add_comm]
      show ((V.ref a :: ys).map some ++ _)[j + 1]? = _
      rw [List.getElem?_append_left (by simpa using lt)]
      simp [q]
    match fs, ys, l, z0, z1 with
    | [], _, _, z0, _ => exact z0 rfl
    | f :: fs, y :: ys, l, _, z1 =>
      refine ⟨a, y, none, by simp [L2.start], by simpa using sl 0 y rfl, ea, fun dx n1 n2 => ?_⟩
      refine puts_go (by simp [L2.start]) n2 fs ys 2 _ [(f, y)] (by simpa using l) (fun j z q => by have := sl (j + 1) z (by simpa using q); rw [show 1 + (j + 1) = 2 + j by omega] at this; exact this) upd_same (by rw [upd_ne n2, upd_same]) (by simp only [List.length_cons] at few ⊢; simp; omega) ?_
      have := z1 (by simp) dx n1 n2
      rw [upd_swap (Ne.symm n2), upd_upd]
      simpa [flds] using this
end
end Pi
set_option maxRecDepth 100000
set_option maxHeartbeats 3900000
namespace Pi
open PySem PySem.Spec L2 PyProof.Rows
/-! ### C(..) where it is raised: the error is let go -/
/-- the state without the object at a -/
def Without (X : Cx) (pins : List (Addr × Obj)) (σ : L2.St) (H : Hp) (s : Shared) (a : Addr) : Prop := ∃ G : Heap, (∀ b o, G.get? b = some o → s.heap.get? b = some o) ∧ G.get? a = none ∧ Inv X pins σ (delH H a) { s with heap := G }
/-- an object that was not there at the entry may be let go: the library's Inv.untrack, seen from an entry that tells nothing of its place -/
theorem letgo {X : Cx} {pins : List (Addr × Obj)} {σ : L2.St} {H : Hp} {s : Shared} {a : Addr} {φ : Heap → Prop} (I : Inv X pins σ H s) (ha : H a = some (.ext φ)) (n0 : X.s_0.heap.get? a = none) (hx : X.ex = []) :
    Without X pins σ H s a := by
  have away : ∀ {b : Addr} {o : Obj}, X.s_0.heap.get? b = some o → delH X.H_0 a b = X.H_0 b := fun {b o} q => delH_ne fun z => by rw [z, n0] at q; exact nomatch q
  have sub : ∀ {b : Addr} {u : HO}, delH X.H_0 a b = some u → X.H_0 b = some u := fun {b u} q => by
    by_cases z : b = a
    · rw [z, delH_same] at q
      exact nomatch q
    · rwa [delH_ne z] at q
  have J : Inv { X with H_0 := delH X.H_0 a } pins σ H s := { I with
    ok := { I.ok with
      bs := fun b o q => ⟨(I.ok.bs b o q).1, (away (I.ok.bs b o q).1).trans (I.ok.bs b o q).2⟩
      frf := fun b q => by
        have z := I.ok.frf b q
        by_cases e : b = a
        · show delH X.H_0 a b = none
          rw [e, delH_same]
        · show delH X.H_0 a b = none
          rw [delH_ne e]
          exact z }
    base := { I.base with
      keep := fun b o q n => I.base.keep b o q ((away q).symm.trans n)
      slot := fun b o q n => I.base.slot b o q ((away q).symm.trans n)
      free := fun b o q n => I.base.free b o q ((away q).symm.trans n)
      tups := fun b xs q => I.base.tups b xs (sub q)
      frzs := fun b o u q => I.base.frzs b o u (sub q)
      tbls := fun b ps q => I.base.tbls b ps (sub q) } }
  obtain ⟨G, g1, g2, Y⟩ := J.untrack ha (fr0_none delH_same) hx
  have no : ∀ {b : Addr} {u : HO}, (∀ φ, u ≠ .ext φ) → (X.H_0 b = some u → ∃ u', H b = some u' ∧ ∀ φ, u' ≠ .ext φ) → X.H_0 b = some u → delH X.H_0 a b = some u := fun {b u} _ up q => by
    by_cases z : b = a
    · obtain ⟨u', q', n'⟩ := up q
      rw [z, ha] at q'
      exact absurd (Option.some.inj q').symm (n' φ)
    · rw [delH_ne z]
      exact q
  refine ⟨G, g1, g2, { Y with
    ok := I.ok
    base := { Y.base with
      keep := fun b o q n => Y.base.keep b o q ((away q).trans n)
      slot := fun b o q n => Y.base.slot b o q ((away q).trans n)
      free := fun b o q n => Y.base.free b o q ((away q).trans n)
      tups := fun b xs q => Y.base.tups b xs (no nofun (fun q => ⟨_, I.base.tups b xs q, nofun⟩) q)
      frzs := fun b o u q => Y.base.frzs b o u (no nofun (fun q => ⟨_, I.base.frzs b o u q, nofun⟩) q)
      tbls := fun b ps q => Y.base.tbls b ps (no nofun (fun q => let ⟨m, z⟩ := I.base.tbls b ps q; ⟨_, z, nofun⟩) q) } }⟩
/-- what is wanted of the arguments -/
def GoM (C : Addr) (fs : List Str) (Q : XK) (vs : List V) (H : Hp) : Prop := vs.length = fs.length ∧ (fs = [] → Q (.ref C) none H) ∧ (fs ≠ [] → ∀ d, H d = none → Q (.ref C) (some d) (upd H d (.xd (flds fs vs))))
section
variable {X : Cx} {C fI : Addr} {k : Nat} {fd : FuncData} {fs : List Str} {B newId initId : String} {bmB : List Value}
theorem made (FB : ExcBaseFacts B newId initId bmB) (T : XB X.K C newId bmB) (iC : PySem.W.findIn X.K (.ref C) "__init__" = some (some (.ref fI))) (tI : PySem.W.typeIn X.K (.ref fI) = some (.type "function"))
    (F1 : FnOk X.prog X.w X.K X.mg X.base CX0 k fI fd ("self" :: fs) (spI C fs)) (hb : Binds X.K fd ("self" :: fs) []) (few : fs.length ≤ 100) (hx : X.ex = []) (hr : Room (k + 1) X.A)
    {pins : List (Addr × Obj)} {σ : L2.St} {H : Hp} {s : Shared} {vs : List V} {us : List Value} {Q : XK} (I : Inv X pins σ H s) (rv : Vals vs us) (go : GoM C fs Q vs H) : wpAny (model X.prog X.w) X.A (call (.ref C) us) (MkP X pins σ Q) X.xe s := by
  obtain ⟨l, q0, q1⟩ := go
  obtain ⟨nm, qn, N, bs, bm, sn, sub, ab, col, dd, k0, k1, k2, k3, k5, lk, tail⟩ := T.look
  rcases s with ⟨hp, g, dr, tk, os⟩
  have ll : us.length = fs.length := rv.length.symm.trans l
  -- the place of the new error
  generalize ea : hp.objs.size + 1 = a
  have na : H a = none := I.hok.fresh (by show hp.objs.size ≤ a; omega)
  have n0 : X.s_0.heap.get? a = none := by -- it is new
    cases q : X.s_0.heap.get? a with
    | none => rfl
    | some o =>
      have h1 := Heap.lt_size q
      have h2 : X.s_0.heap.objs.size ≤ hp.objs.size := I.sz
      have h3 : (a : Nat) = hp.objs.size + 1 := ea.symm
      exact absurd (Nat.lt_of_lt_of_le h1 h2) (by rw [h3]; omega)
  have new : ((hp.push (PySem.W.kdv_tup us)).push (HandSPX.excO C hp.objs.size)).get? a = some (HandSPX.excO C hp.objs.size) := by subst ea; heap_get
  have I2 := I.laid (t' := tk) (a := a) (o := exo a C none) (h' := (hp.push (PySem.W.kdv_tup us)).push (HandSPX.excO C hp.objs.size)) (fun b o q => Heap.get?_push_of_some _ (Heap.get?_push_of_some _ q)) (by show hp.objs.size ≤ a; omega) (exo_ok new)
  let QQ : VK := fun v H2 => v = .non ∧ ((fs = [] ∧ H2 = upd H a (exo a C none)) ∨ (fs ≠ [] ∧ ∃ dx, H dx = none ∧ dx ≠ a ∧ H2 = upd (upd (upd H a (exo a C none)) dx (exd dx (flds fs vs))) a (exo a C (some dx))))
  have run := F1.run (X.A.under (.builtin "type.__call__" ⟨.ref C :: us, []⟩)) X.stack ⟨_, g, dr, tk, os⟩ _ ⟨.ref a :: us, []⟩ (.ref a :: us) (.ref a :: vs) QQ (fun _ _ _ => False) (hr.make C us []) (I2.env0.make C us []) (by simpa using hb _ (.ref a :: us) I2.kIn (by simp [ll])) (.cons rfl rv)
    ⟨a, vs, rfl, l, upd_same, fun z => ⟨rfl, Or.inl ⟨z, rfl⟩⟩, fun z dx n1 n2 => ⟨rfl, Or.inr ⟨z, dx, by rwa [upd_ne n2] at n1, n2, rfl⟩⟩⟩
  refine wpAny_call (HandSPX.call_own FB (fun Y => PySem.W.excTail_contains Y bm tail) (I.kIn _ _ lk) (PySem.W.looks_findIn I.kIn iC) (fun self => PySem.W.bind_fn I.kIn self tI) (by rw [ll, sizeLine_eq]; omega) ?_)
  subst ea
  refine codeAny_mono run ?_
  rintro (er | fl) s' z
  · exact z.elim
  match fl, z with
  | .ret u, z =>
    obtain ⟨v, H2, J, ru, rfl, ends⟩ := I2.after z
    refine ⟨ru, ?_⟩
    have rs := raises_own (X := X) T.isE T.isT
    rcases ends with ⟨e0, rfl⟩ | ⟨e1, dx, nd, ne, rfl⟩
    · obtain ⟨t1, obj⟩ := exo_at J.hok (e := hp.objs.size + 1) (C := C) (d := none) upd_same
      obtain ⟨G, g1, g2, J2⟩ := letgo J upd_same n0 hx
      rw [delH_new na] at J2
      exact ⟨_, _, _, _, H, .ref C, none, rfl, J2, g1, g2, obj, ⟨rfl, rfl⟩, rfl, rfl, na, rfl, J.bare, rs, q0 e0⟩
    · obtain ⟨t1, obj⟩ := exo_at J.hok (e := hp.objs.size + 1) (C := C) (d := some dx) upd_same
      have ed : upd (upd (upd H (hp.objs.size + 1) (exo (hp.objs.size + 1) C none)) dx (exd dx (flds fs vs))) (hp.objs.size + 1) (exo (hp.objs.size + 1) C (some dx)) dx = some (exd dx (flds fs vs)) := by rw [upd_ne ne, upd_same]
      obtain ⟨mA, ns, rel⟩ := exd_at J.hok ed
      obtain ⟨oD, _, _, od, _⟩ := id ns
      have J1 := J.write (t' := s'.toks) (x := dx) (e := dx) (o := .xd (flds fs vs)) (h' := s'.heap) (by rw [ed]; exact trivial) (Or.inl rfl) (fun _ _ _ q => q) ⟨oD, od⟩ ⟨mA, ns, rel⟩
      obtain ⟨G, g1, g2, J2⟩ := letgo J1 (by rw [upd_ne (Ne.symm ne), upd_same]; rfl) n0 hx
      have eH : delH (upd (upd (upd (upd H (hp.objs.size + 1) (exo (hp.objs.size + 1) C none)) dx (exd dx (flds fs vs))) (hp.objs.size + 1) (exo (hp.objs.size + 1) C (some dx))) dx (.xd (flds fs vs))) (hp.objs.size + 1) = upd H dx (.xd (flds fs vs)) := by
        funext b
        by_cases z1 : b = hp.objs.size + 1
        · rw [z1, delH_same, upd_ne (Ne.symm ne), na]
        · rw [delH_ne z1]
          by_cases z2 : b = dx
          · rw [z2, upd_same, upd_same]
          · rw [upd_ne z2, upd_ne z1, upd_ne z2, upd_ne z1, upd_ne z2]
      rw [eH] at J2
      exact ⟨_, _, _, _, _, .ref C, some dx, rfl, J2, g1, g2, obj, ⟨rfl, rfl⟩, rfl, rfl, by rw [upd_ne (Ne.symm ne)]; exact na, rfl, J.bare, rs, q1 e1 dx nd⟩
end
/-! ### over data -/
theorem no_stars {env : Env} {pos : Pos} : ∀ {as : List Expr}, (∀ a ∈ as, noStar a = true) → (backTo pos (starEach as env)).any (·.1) = false
  | [], _ => rfl
  | a :: as, h => by
    rw [star1 (h a (.head _))]
    exact no_stars fun b z => h b (.tail _ z)
theorem flds_rel {K : PySem.W.Frag} {F : Hp} : ∀ {fs : List Tx} {vs : List V} {ds : List D}, fs.length = ds.length → RpA K F vs ds → ((fs.map tx).zip vs).map (·.1) = (fs.zip ds).map (fun p => tx p.1) ∧ ((fs.map tx).zip vs).map (·.2) = vs ∧ (fs.zip ds).map (·.2) = ds
  | [], vs, [], _, r => by
    obtain rfl : vs = [] := List.eq_nil_of_length_eq_zero r.1
    exact ⟨rfl, rfl, rfl⟩
  | f :: fs, vs, d :: ds, l, r => by
    match vs, r with
    | [], r => exact absurd r.1 (by simp)
    | v :: vs, r =>
      obtain ⟨h1, h2, h3⟩ := flds_rel (fs := fs) (by simpa using l) r.cons_inv.2
      simp only [List.map_cons, List.zip_cons_cons]
      exact ⟨by rw [h1], by rw [h2], by rw [h3]⟩
  | [], _, _ :: _, l, _ => by simp at l
  | _ :: _, _, [], l, _ => by simp at l
theorem RpA.rev {K : PySem.W.Frag} {F : Hp} {vs : List V} {ds : List D} (r : RpA K F vs ds) : RpA K F vs.reverse ds.reverse := by
  refine ⟨by simp [r.1], fun i v d h1 h2 => ?_⟩
  have l : i < vs.length := by simpa using (List.getElem?_eq_some_iff.mp h1).1
  rw [List.getElem?_reverse l] at h1
  rw [List.getElem?_reverse (by rw [← r.1]; exact l)] at h2
  rw [← r.1] at h2
  exact r.2 _ v d h1 h2
theorem mk_flds {P : Program} {w : World} {K : PySem.W.Frag} {mg : Str → Option Value} {base : Heap} {fI C : Addr} {fd : FuncData} {n : Nat} {x : Str} {c : Tx} {fs : List Tx} {init : Tx → List D → Option (List (Tx × D))} {B newId initId : String} {bmB : List Value}
    (FB : ExcBaseFacts B newId initId bmB) (hC : adr K c = C) (T : XB K C newId bmB) (iC : PySem.W.findIn K (.ref C) "__init__" = some (some (.ref fI))) (tI : PySem.W.typeIn K (.ref fI) = some (.type "function"))
    (F1 : FnOk P w K mg base CX0 1 fI fd ("self" :: fs.map tx) (spI C (fs.map tx))) (hb : Binds K fd ("self" :: fs.map tx) []) (few : fs.length ≤ 100) (hm : mg x = some (.ref C)) (hi : ∀ ds gs, init c ds = some gs → 2 ≤ n ∧ ds.length = fs.length ∧ gs = (fs.zip ds).reverse) : MkOk P w K mg base init n x c := by
  refine MkOk.mk fun X g wd es as q pos h1 h2 h3 h4 h5 hex hcalm hgd hr hg hdb ha hl hst => ?_
  subst h1 h2 h3 h4 h5 hC
  -- what the arguments must bring
  let Go : XK → List V → Hp → Prop := fun Q vs H => 2 ≤ n ∧ GoM (adr X.K c) (fs.map tx) Q vs H
  have fin : ∀ {pins : List (Addr × Obj)} {σ : L2.St} {H : Hp} {s : Shared} {vs : List V} {us : List Value} {Q : XK}, Inv X pins σ H s → Vals vs us → Go Q vs H → wpAny (model X.prog X.w) X.A (call (.ref (adr X.K c)) us) (MkP X pins σ Q) X.xe s :=
    fun I rv ⟨h2, go⟩ => made FB T iC tI F1 hb (by simpa using few) hex (hr.mono h2) I rv go
  have pay : ∀ {e : En} {s : Fr} {σ : Sg} {F H : Hp} {ds : List D} {vs : List V} {Q : XK}, Rl X.K e s σ F H → RpA X.K F vs ds → (∃ gs, init c ds = some gs ∧ ∀ d H' F', Rl X.K e s σ F' H' → Same F F' → Xd X.K F' H' d gs → Q (.ref (adr X.K c)) d H') → Go Q vs H := by
    rintro e s σ F H ds vs Q R ra ⟨gs, e1, k⟩
    obtain ⟨h2, hl, rfl⟩ := hi _ _ e1
    refine ⟨h2, by rw [ra.1, hl, List.length_map], fun z => ?_, fun z d nd => ?_⟩
    · have z : fs = [] := by simpa using z
      exact k none H F R (Same.refl F) (Or.inl ⟨by simp [z], rfl⟩)
    · obtain ⟨R2, sm⟩ := R.iced (o := .xd (flds (fs.map tx) vs)) nd
      obtain ⟨k1, k2, k3⟩ := flds_rel hl.symm ra
      refine k (some d) _ _ R2 sm (Or.inr ⟨d, _, rfl, upd_same, upd_same, ?_, ?_⟩)
      · unfold flds
        rw [List.map_reverse, List.map_reverse, k1]
      · unfold flds
        rw [List.map_reverse, List.map_reverse, k2, k3]
        exact (ra.mono sm).rev
  intro pins s σ H Q I h
  obtain ⟨e, fr, F, R, h⟩ := h
  refine wpAny_Call_Name_kw (args := as) (ld_glob (pos := q) I hg hm ?_ hdb)
  match as, ha, hl, hst with
  | [], _, hl, _ =>
    cases es with
    | cons _ _ => simp [IEs.len] at hl
    | nil =>
      unfold evF at h
      exact PySem.W.callWith_K0 I.kIn T.kept (fin I .nil (pay R .nil (h H F R (Same.refl F))))
  | a :: as, ha, _, hst =>
    have tr : tF X.K g wd es σ H (fun vs H1 => Go Q vs H1) := ⟨e, fr, F, R, h.imp fun ds s1 F1 H1 R1 _ z vs ra => pay R1 ra z⟩
    exact PySem.W.callWith_K (h₀ := X.base) I.ok.mod.kin T.kept (thn (ha.run pos pins s σ H _ I tr) fun us s1 ⟨vs, H1, I1, rv, go⟩ => ⟨I1.kIn, fin I1 rv go⟩) (star1 (hst a (.head _))) (no_stars fun b z => hst b (.tail _ z))
end Pi
set_option maxRecDepth 100000
set_option maxHeartbeats 3900000
namespace Pi
open PySem PySem.Spec L2 PyProof.Rows
/-! ### for the static facts -/
inductive AllP (K : PySem.W.Frag) (fd : FuncData) (ps : List Str) (dfs : List Value) (f : Nat) : List (Nat × Nat × List Str × List Nat) → Prop
  | nil : AllP K fd ps dfs f []
  | cons {q : Nat × Nat × List Str × List Nat} {l : List (Nat × Nat × List Str × List Nat)} (h : q.1 = f → BindOk K fd ps dfs q.2.1 q.2.2.1 q.2.2.2) (r : AllP K fd ps dfs f l) : AllP K fd ps dfs f (q :: l)
theorem bd_all {K : PySem.W.Frag} {fd : FuncData} {ps : List Str} {dfs : List Value} {f m : Nat} {ks : List Str} {ix : List Nat} {l : List (Nat × Nat × List Str × List Nat)} (hm : (f, m, ks, ix) ∈ l) (h : AllP K fd ps dfs f l) : BindOk K fd ps dfs m ks ix := by
  induction h with
  | nil => cases hm
  | cons h r ih =>
    rcases mem_or hm with e | e
    · subst e
      exact h rfl
    · exact ih e
theorem cls_mem {l : List ((Tx × Cl) × Bool)} {c : Tx} {k : Cl} {b : Bool} (h : (l.find? fun e => decide (e.1 = (c, k))).map (·.2) = some b) : ((c, k), b) ∈ l := by
  cases q : l.find? fun e => decide (e.1 = (c, k)) with
  | none => rw [q] at h; cases h
  | some e =>
    rw [q] at h
    have h1 := List.find?_some q
    have h2 := List.mem_of_find?_eq_some q
    obtain ⟨e1, e2⟩ := e
    have h1 : e1 = (c, k) := of_decide_eq_true h1
    cases h
    subst h1
    exact h2
theorem kit_ref {K : PySem.W.Frag} {C D : Addr} {b : Bool} (h1 : PySem.W.subIn K (.ref D) (.type "BaseException") = some true) (h2 : PySem.W.isClsIn K D = true) (h3 : PySem.W.typeIn K (.ref D) = some (.type "type")) (h4 : PySem.W.subIn K (.ref C) (.ref D) = some b) (h5 : b = true ∨ C ≠ D) :
    PySem.W.kitOne K (.ref C) (.ref D) = some b ∧ PySem.W.exmOne K (.ref C) (.ref D) = some b := by
  have e1 : (PySem.W.subIn K (.ref D) (.type "BaseException") == some true) = true := by rw [h1]; rfl
  have h2' : (PySem.W.clsIn K D).isSome = true := h2
  have e2 : ((PySem.W.clsIn K D).isSome && PySem.W.typeIn K (.ref D) == some (.type "type")) = true := by rw [h2', h3]; rfl
  have k : PySem.W.kitCls K (.ref C) (.ref D) = some b := by
    show (if ((PySem.W.clsIn K D).isSome && PySem.W.typeIn K (.ref D) == some (.type "type")) = true then PySem.W.subIn K (.ref C) (.ref D) else none) = some b
    rw [if_pos e2]
    exact h4
  constructor
  · unfold PySem.W.kitOne
    split
    · rename_i q
      rcases h5 with rfl | h5
      · rfl
      · exact absurd (Value.ref.inj (beq_iff_eq.mp q)) h5
    · exact k
  · unfold PySem.W.exmOne
    rw [if_pos e1]
    exact k
theorem kit_ty {K : PySem.W.Frag} {C : Addr} {t : String} {b : Bool} (h1 : PySem.W.subIn K (.type t) (.type "BaseException") = some true) (h2 : PySem.W.kitMeta t = true) (h4 : PySem.W.subIn K (.ref C) (.type t) = some b) :
    PySem.W.kitOne K (.ref C) (.type t) = some b ∧ PySem.W.exmOne K (.ref C) (.type t) = some b := by
  have e1 : (PySem.W.subIn K (.type t) (.type "BaseException") == some true) = true := by rw [h1]; rfl
  have k : PySem.W.kitCls K (.ref C) (.type t) = some b := by
    show (if PySem.W.kitMeta t = true then PySem.W.subIn K (.ref C) (.type t) else none) = some b
    rw [if_pos h2]
    exact h4
  constructor
  · unfold PySem.W.kitOne
    rw [if_neg (by simp)]
    exact k
  · unfold PySem.W.exmOne
    rw [if_pos e1]
    exact k
/-- where the first row of an __init__ stands -/
def posOf : List Stmt → Fin 6 → Pos
  | .Expr (.Call (.Attribute (.Name _ p0) _ p1) [.Name _ p2, .Constant _ _ p3] _ p4) p5 :: _ => fun i => [p0, p1, p2, p3, p4, p5].getD i ⟨0, 0, 0, 0⟩
  | _ => fun _ => ⟨0, 0, 0, 0⟩
theorem bas_of {X : Cx} {K : PySem.W.Frag} {mg : Str → Option Value} {sc : Scope} {nm : Str} {initId : String} {D : Addr} (hK : X.K = K) (hM : X.mg = mg) (hS : X.env.scope = sc) (hg : sc.names.lookup nm = some .globalImplicit) (hm : mg nm = some (.ref D)) (hd : (nm == ("__debug__" : Str)) = false)
    (sg : PySem.W.specialIn K (.ref D) "__getattribute__" = some (some (.builtin "type.__getattribute__"))) (rd : PySem.W.readsIn K D (.type "type") = true) (vV : PySem.W.findCls K (.ref D) (.type "type") "__init__" = some (.val (.builtin initId))) (hh : PySem.W.handedIn (.builtin initId) = true) : Bas X nm initId := by
  subst hK hM hS
  exact bas_own hg hm hd sg rd vV hh
theorem bas_ofB {X : Cx} {K : PySem.W.Frag} {mg : Str → Option Value} {sc : Scope} {B initId : String} (hK : X.K = K) (hM : X.mg = mg) (hS : X.env.scope = sc) (hg : sc.names.lookup (B : Str) = some .globalImplicit) (hm : mg B = none) (hv : bootBuiltins B = some (.type B)) (hn : (B : Str) ≠ "__name__") (hd : ((B : Str) == ("__debug__" : Str)) = false)
    (ht : typeOf (.type B) = pure (.type "type")) (hst : Manifest.isStub B = false) (vV : PySem.W.findCls K (.type B) (.type "type") "__init__" = some (.val (.builtin initId))) (hh : PySem.W.handedIn (.builtin initId) = true) : Bas X B initId := by
  subst hK hM hS
  exact bas_blt hg hm hv hn hd ht hst vV hh
theorem taker_of {K : PySem.W.Frag} {C : Addr} {f : Str} (h : PySem.W.findIn K (.ref C) f = some none) : PySem.W.takerIn K C f = some none := by
  unfold PySem.W.takerIn
  rw [h]
  rfl
end Pi
set_option maxRecDepth 100000
set_option maxHeartbeats 7900000
/-! The small form of the law's text (printed by wip/gen.py). -/
namespace K12
open PySem PySem.Spec PyProof.Rows L2 Pi
/-- is_integer : value -/
def b_is_integer : ISs := (.cons (.ret (.and (.isi (.var 0) .int) (.not (.isi (.var 0) .bool)))) .nil)
def f_is_integer : Fn := ⟨1, false, [], 1, b_is_integer⟩
/-- has_letters_only : text letter -/
def b_has_letters_only : ISs := (.cons (.ret (.bi .all (.cons (.lcm (.cmp .isIn (.var 1) (.gc 2)) (.nm 1) (.seq (.var 0)) .no) .nil))) .nil)
def f_has_letters_only : Fn := ⟨1, false, [], 2, b_has_letters_only⟩
/-- kind_of : value -/
def b_kind_of : ISs := (.cons (.ite (.call 0 [0] (.cons (.var 0) .nil)) (.cons (.ret (.gc 0)) .nil) .nil) (.cons (.ite (.and (.isi (.var 0) .str) (.and (.cmp .le (.bi .len (.cons (.var 0) .nil)) (.gc 3)) (.call 1 [0] (.cons (.var 0) .nil)))) (.cons (.ret (.gc 1)) .nil) .nil) (.cons (.ret (.cst .non)) .nil)))
def f_kind_of : Fn := ⟨1, false, [], 1, b_kind_of⟩
/-- is_value : value -/
def b_is_value : ISs := (.cons (.ret (.cmp .notN (.call 2 [0] (.cons (.var 0) .nil)) (.cst .non))) .nil)
def f_is_value : Fn := ⟨1, false, [], 1, b_is_value⟩
/-- compared : one other -/
def b_compared : ISs := (.cons (.ret (.bin .sub (.bi .int (.cons (.cmp .gt (.var 0) (.var 1)) .nil)) (.bi .int (.cons (.cmp .lt (.var 0) (.var 1)) .nil)))) .nil)
def f_compared : Fn := ⟨2, false, [], 2, b_compared⟩
/-- sign_of : one other value -/
def b_sign_of : ISs := (.cons (.loop (.nm 2) (.seq (.tup (.cons (.var 0) (.cons (.var 1) .nil)))) (.cons (.ite (.not (.call 3 [0] (.cons (.var 2) .nil))) (.cons (.rais [73, 110, 118, 97, 108, 105, 100, 86, 97, 108, 117, 101] (.cons (.var 2) .nil)) .nil) .nil) .nil)) (.cons (.ite (.cmp .ne (.call 2 [0] (.cons (.var 0) .nil)) (.call 2 [0] (.cons (.var 1) .nil))) (.cons (.rais [85, 110, 108, 105, 107, 101] .nil) .nil) .nil) (.cons (.ret (.call 4 [0, 1] (.cons (.var 0) (.cons (.var 1) .nil)))) .nil)))
def f_sign_of : Fn := ⟨2, false, [], 3, b_sign_of⟩
/-- _law_rng : _law_script _law_k _law_cell -/
def b__law_rng : ISs := (.cons (.set 2 (.bin .add (.bin .mul (.cst (.int 7)) (.var 1)) (.cst (.int 3)))) (.cons (.ite (.cmp .lt (.var 1) (.bi .len (.cons (.var 0) .nil))) (.cons (.set 2 (.idx (.var 0) (.var 1))) .nil) .nil) (.cons (.ret (.lst (.cons (.bi .max2 (.cons (.cst (.int 0)) (.cons (.bin .sub (.bi .abs (.cons (.var 2) .nil)) (.bin .pow (.cst (.int 10)) (.cst (.int 18)))) .nil))) (.cons (.bin .add (.bin .mod (.bi .int (.cons (.bin .mul (.bin .add (.bin .mod (.bi .int (.cons (.bi .abs (.cons (.var 2) .nil)) .nil)) (.cst (.int 2147483579))) (.cst (.int 1))) (.bin .pow (.bin .add (.var 1) (.cst (.int 3))) (.cst (.int 3)))) .nil)) (.cst (.int 2147483563))) (.cst (.int 1))) .nil)))) .nil)))
def f__law_rng : Fn := ⟨2, false, [], 3, b__law_rng⟩
/-- _law_draw : _law_rng_here _law_many _law_digit _law_mixed -/
def b__law_draw : ISs := (.cons (.ite (.cmp .gt (.idx (.var 0) (.cst (.int 0))) (.cst (.int 0))) (.cons (.setT [.ix 0 (.cst (.int 0)), .nm 2] (.bi .divmod (.cons (.idx (.var 0) (.cst (.int 0))) (.cons (.var 1) .nil)))) (.cons (.ret (.var 2)) .nil)) .nil) (.cons (.setI 0 (.cst (.int 1)) (.bin .mod (.bi .int (.cons (.bin .add (.bin .mul (.idx (.var 0) (.cst (.int 1))) (.cst (.int 48283))) (.cst (.int 10007))) .nil)) (.cst (.int 2147483587)))) (.cons (.set 3 (.bin .fdiv (.bin .mod (.bi .int (.cons (.bin .mul (.idx (.var 0) (.cst (.int 1))) (.idx (.var 0) (.cst (.int 1)))) .nil)) (.cst (.int 2147483549))) (.cst (.int 13)))) (.cons (.ite (.cmp .lt (.var 1) (.bin .pow (.cst (.int 2)) (.cst (.int 20)))) (.cons (.ret (.bin .mod (.bi .int (.cons (.var 3) .nil)) (.var 1))) .nil) .nil) (.cons (.ret (.bin .mod (.bi .int (.cons (.bin .add (.bin .mul (.bin .add (.bin .mul (.var 3) (.cst (.int 2147483563))) (.idx (.var 0) (.cst (.int 1)))) (.cst (.int 2147483563))) (.var 3)) .nil)) (.var 1))) .nil)))))
def f__law_draw : Fn := ⟨2, true, [], 4, b__law_draw⟩
/-- _law_choice : _law_rng_here _law_options -/
def b__law_choice : ISs := (.cons (.ret (.idx (.var 1) (.call 7 [0, 1] (.cons (.var 0) (.cons (.bi .len (.cons (.var 1) .nil)) .nil))))) .nil)
def f__law_choice : Fn := ⟨2, true, [], 2, b__law_choice⟩
/-- _law_number : _law_rng_here _law_near _law_way -/
def b__law_number : ISs := (.cons (.set 2 (.call 7 [0, 1] (.cons (.var 0) (.cons (.cst (.int 5)) .nil)))) (.cons (.ite (.cmp .lt (.var 2) (.cst (.int 2))) (.cons (.ret (.bin .sub (.bin .add (.var 1) (.call 7 [0, 1] (.cons (.var 0) (.cons (.cst (.int 5)) .nil)))) (.cst (.int 2)))) .nil) .nil) (.cons (.ite (.cmp .eq (.var 2) (.cst (.int 2))) (.cons (.ret (.neg (.var 1))) .nil) .nil) (.cons (.ret (.idx (.lst (.cons (.call 7 [0, 1] (.cons (.var 0) (.cons (.bin .pow (.cst (.int 10)) (.cst (.int 30))) .nil))) (.cons (.neg (.call 7 [0, 1] (.cons (.var 0) (.cons (.bin .pow (.cst (.int 10)) (.cst (.int 30))) .nil)))) .nil))) (.bin .sub (.var 2) (.cst (.int 3))))) .nil))))
def f__law_number : Fn := ⟨2, true, [], 3, b__law_number⟩
/-- _law_text : _law_rng_here _law_near _law_letters _law_way _law_at _law_k -/
def b__law_text : ISs := (.cons (.set 2 (.cst (.str [97, 98, 99, 100, 101, 102, 103, 104, 105, 106, 107, 108, 109, 110, 111, 112, 113, 114, 115, 116, 117, 118, 119, 120, 121, 122]))) (.cons (.setT [.nm 3, .nm 4] (.tup (.cons (.call 7 [0, 1] (.cons (.var 0) (.cons (.cst (.int 5)) .nil))) (.cons (.call 7 [0, 1] (.cons (.var 0) (.cons (.bin .add (.bi .len (.cons (.var 1) .nil)) (.cst (.int 1))) .nil))) .nil)))) (.cons (.ite (.cmp .eq (.var 3) (.cst (.int 0))) (.cons (.ret (.var 1)) .nil) .nil) (.cons (.ite (.cmp .eq (.var 3) (.cst (.int 1))) (.cons (.ret (.slc (.var 1) .no (.so (.var 4)))) .nil) .nil) (.cons (.ite (.and (.cmp .eq (.var 3) (.cst (.int 2))) (.cmp .lt (.bi .len (.cons (.var 1) .nil)) (.cst (.int 12)))) (.cons (.ret (.bin .add (.bin .add (.slc (.var 1) .no (.so (.var 4))) (.idx (.var 2) (.call 7 [0, 1] (.cons (.var 0) (.cons (.cst (.int 26)) .nil))))) (.slc (.var 1) (.so (.var 4)) .no))) .nil) .nil) (.cons (.ite (.and (.cmp .eq (.var 3) (.cst (.int 3))) (.cmp .lt (.var 4) (.bi .len (.cons (.var 1) .nil)))) (.cons (.ret (.bin .add (.bin .add (.slc (.var 1) .no (.so (.var 4))) (.idx (.var 2) (.call 7 [0, 1] (.cons (.var 0) (.cons (.cst (.int 26)) .nil))))) (.slc (.var 1) (.so (.bin .add (.var 4) (.cst (.int 1)))) .no))) .nil) .nil) (.cons (.ret (.mth .join (.cst (.str [])) (.cons (.lcm (.idx (.var 2) (.call 7 [0, 1] (.cons (.var 0) (.cons (.idx (.lst (.cons (.cst (.int 26)) (.cons (.cst (.int 2)) .nil))) (.bin .mod (.var 3) (.cst (.int 2)))) .nil)))) (.nm 5) (.rng (.cons (.call 7 [0, 1] (.cons (.var 0) (.cons (.cst (.int 13)) .nil))) .nil)) .no) .nil))) .nil)))))))
def f__law_text : Fn := ⟨2, true, [], 6, b__law_text⟩
/-- _law_odd : _law_rng_here _law_some -/
def b__law_odd : ISs := (.cons (.set 1 (.lst (.cons (.cst .non) (.cons (.cst (.bl true)) (.cons (.cst (.bl false)) (.cons (.cst (.str [65])) (.cons (.cst (.str [97, 32, 98])) (.cons (.cst (.str [97, 46, 98])) (.cons (.cst (.str [122, 122, 122, 122, 122, 122, 122, 122, 122, 122, 122, 122, 122])) (.cons (.cst (.str [48])) (.cons (.lst .nil) (.cons (.lst (.cons (.cst (.str [97])) .nil)) (.cons (.tup .nil) (.cons (.tup (.cons (.cst (.int 1)) .nil)) (.cons (.dic []) (.cons (.dic [(.inr [97], (.int 1))]) (.cons (.cst (.str [32])) .nil))))))))))))))))) (.cons (.ret (.call 8 [0, 1] (.cons (.var 0) (.cons (.var 1) .nil)))) .nil))
def f__law_odd : Fn := ⟨1, true, [], 2, b__law_odd⟩
/-- _law_pair : _law_rng_here _law_first _law_text_here _law_numbers _law_texts _law_way _law_made -/
def b__law_pair : ISs := (.cons (.par 1 2 (.cons (.call 7 [0, 1] (.cons (.var 0) (.cons (.bin .pow (.cst (.int 10)) (.cst (.int 6))) .nil))) (.cons (.call 10 [0, 1] (.cons (.var 0) (.cons (.cst (.str [])) .nil))) .nil))) (.cons (.par 3 4 (.cons (.lst (.cons (.var 1) (.cons (.call 9 [0, 1] (.cons (.var 0) (.cons (.var 1) .nil))) .nil))) (.cons (.lst (.cons (.var 2) (.cons (.call 10 [0, 1] (.cons (.var 0) (.cons (.var 2) .nil))) .nil))) .nil))) (.cons (.set 5 (.call 7 [0, 1] (.cons (.var 0) (.cons (.cst (.int 9)) .nil)))) (.cons (.ite (.cmp .lt (.var 5) (.cst (.int 3))) (.cons (.ret (.var 3)) .nil) .nil) (.cons (.ite (.cmp .lt (.var 5) (.cst (.int 6))) (.cons (.ret (.var 4)) .nil) .nil) (.cons (.ite (.cmp .eq (.var 5) (.cst (.int 6))) (.cons (.ret (.idx (.lst (.cons (.lst (.cons (.idx (.var 3) (.cst (.int 0))) (.cons (.var 2) .nil))) (.cons (.lst (.cons (.var 2) (.cons (.idx (.var 3) (.cst (.int 1))) .nil))) .nil))) (.call 7 [0, 1] (.cons (.var 0) (.cons (.cst (.int 2)) .nil))))) .nil) .nil) (.cons (.set 6 (.lst (.cons (.call 8 [0, 1] (.cons (.var 0) (.cons (.bin .add (.var 3) (.var 4)) .nil))) (.cons (.call 11 [0] (.cons (.var 0) .nil)) .nil)))) (.cons (.ite (.cmp .eq (.var 5) (.cst (.int 8))) (.cons (.set 6 (.lst (.cons (.call 11 [0] (.cons (.var 0) .nil)) (.cons (.call 8 [0, 1] (.cons (.var 0) (.cons (.lst (.cons (.idx (.var 6) (.cst (.int 0))) (.cons (.idx (.var 6) (.cst (.int 1))) .nil))) .nil))) .nil)))) .nil) .nil) (.cons (.ret (.var 6)) .nil)))))))))
def f__law_pair : Fn := ⟨1, true, [], 7, b__law_pair⟩
/-- _law_kind : _law_thing _law_letter -/
def b__law_kind : ISs := (.cons (.ite (.and (.isi (.var 0) .int) (.not (.isi (.var 0) .bool))) (.cons (.ret (.cst (.str [110, 117, 109, 98, 101, 114]))) .nil) .nil) (.cons (.ite (.or (.not (.isi (.var 0) .str)) (.cmp .gt (.bi .len (.cons (.var 0) .nil)) (.cst (.int 12)))) (.cons (.ret (.cst .non)) .nil) .nil) (.cons (.ret (.ite (.bi .all (.cons (.lcm (.cmp .isIn (.var 1) (.cst (.str [97, 98, 99, 100, 101, 102, 103, 104, 105, 106, 107, 108, 109, 110, 111, 112, 113, 114, 115, 116, 117, 118, 119, 120, 121, 122]))) (.nm 1) (.seq (.var 0)) .no) .nil)) (.cst (.str [116, 101, 120, 116])) (.cst .non))) .nil)))
def f__law_kind : Fn := ⟨1, false, [], 2, b__law_kind⟩
/-- _law_text_sign : _law_first _law_second _law_letters _law_a _law_b -/
def b__law_text_sign : ISs := (.cons (.set 2 (.cst (.str [97, 98, 99, 100, 101, 102, 103, 104, 105, 106, 107, 108, 109, 110, 111, 112, 113, 114, 115, 116, 117, 118, 119, 120, 121, 122]))) (.cons (.loop (.tp [3, 4]) (.zip (.cons (.var 0) (.cons (.var 1) .nil))) (.cons (.ite (.cmp .ne (.var 3) (.var 4)) (.cons (.ret (.idx (.lst (.cons (.neg (.cst (.int 1))) (.cons (.cst (.int 1)) .nil))) (.bi .int (.cons (.cmp .gt (.mth .index (.var 2) (.cons (.var 3) .nil)) (.mth .index (.var 2) (.cons (.var 4) .nil))) .nil)))) .nil) .nil) .nil)) (.cons (.ret (.call 15 [0, 1] (.cons (.bi .len (.cons (.var 0) .nil)) (.cons (.bi .len (.cons (.var 1) .nil)) .nil)))) .nil)))
def f__law_text_sign : Fn := ⟨2, false, [], 5, b__law_text_sign⟩
/-- _law_number_sign : _law_first _law_second -/
def b__law_number_sign : ISs := (.cons (.ite (.cmp .eq (.var 0) (.var 1)) (.cons (.ret (.cst (.int 0))) .nil) .nil) (.cons (.ret (.idx (.lst (.cons (.cst (.int 1)) (.cons (.neg (.cst (.int 1))) .nil))) (.bi .int (.cons (.cmp .gt (.bin .sub (.var 1) (.var 0)) (.cst (.int 0))) .nil)))) .nil))
def f__law_number_sign : Fn := ⟨2, false, [], 2, b__law_number_sign⟩
/-- _law_due : _law_first _law_second _law_thing -/
def b__law_due : ISs := (.cons (.loop (.nm 2) (.seq (.tup (.cons (.var 0) (.cons (.var 1) .nil)))) (.cons (.ite (.cmp .isN (.call 13 [0] (.cons (.var 2) .nil)) (.cst .non)) (.cons (.ret (.lst (.cons (.cst (.str [105, 110, 118, 97, 108, 105, 100])) (.cons (.bi .repr (.cons (.var 2) .nil)) .nil)))) .nil) .nil) .nil)) (.cons (.ite (.cmp .ne (.call 13 [0] (.cons (.var 0) .nil)) (.call 13 [0] (.cons (.var 1) .nil))) (.cons (.ret (.lst (.cons (.cst (.str [117, 110, 108, 105, 107, 101])) .nil))) .nil) .nil) (.cons (.ite (.cmp .eq (.call 13 [0] (.cons (.var 0) .nil)) (.cst (.str [116, 101, 120, 116]))) (.cons (.ret (.lst (.cons (.cst (.str [116, 111, 108, 100])) (.cons (.bi .repr (.cons (.call 14 [0, 1] (.cons (.var 0) (.cons (.var 1) .nil))) .nil)) .nil)))) .nil) .nil) (.cons (.ret (.lst (.cons (.cst (.str [116, 111, 108, 100])) (.cons (.bi .repr (.cons (.call 15 [0, 1] (.cons (.var 0) (.cons (.var 1) .nil))) .nil)) .nil)))) .nil))))
def f__law_due : Fn := ⟨2, false, [], 3, b__law_due⟩
/-- _law_told : _law_first _law_second _law_is_named _law_made e _law_others -/
def b__law_told : ISs := (.cons (.tryS (.cons (.set 3 (.lst (.cons (.cst (.str [116, 111, 108, 100])) (.cons (.bi .repr (.cons (.ite (.var 2) (.call 5 [0, 1] (.cons (.var 0) (.cons (.var 1) .nil))) (.call 5 [0, 1] (.cons (.var 0) (.cons (.var 1) .nil)))) .nil)) .nil)))) .nil) (.cons [(.own [85, 110, 108, 105, 107, 101])] 4 (.cons (.set 3 (.ite (.and (.isx (.var 4) (.re)) (.not (.isx (.var 4) (.own [80, 97, 105, 114, 69, 114, 114, 111, 114])))) (.lst (.cons (.cst (.str [117, 110, 108, 105, 107, 101])) .nil)) (.lst (.cons (.cst (.str [115, 116, 114, 97, 110, 103, 101])) .nil)))) .nil) (.cons [(.own [80, 97, 105, 114, 69, 114, 114, 111, 114])] 4 (.cons (.set 5 (.or (.isxs (.var 4) [(.own [73, 110, 118, 97, 108, 105, 100, 67, 111, 117, 110, 116]), (.own [73, 110, 118, 97, 108, 105, 100, 78, 97, 109, 101]), (.own [73, 110, 118, 97, 108, 105, 100, 84, 101, 120, 116]), (.own [73, 110, 118, 97, 108, 105, 100, 86, 101, 99, 116, 111, 114])]) (.not (.isx (.var 4) (.ve))))) (.cons (.set 3 (.lst (.cons (.cst (.str [115, 116, 114, 97, 110, 103, 101])) .nil))) (.cons (.ite (.and (.isx (.var 4) (.own [73, 110, 118, 97, 108, 105, 100, 86, 97, 108, 117, 101])) (.not (.var 5))) (.cons (.set 3 (.lst (.cons (.cst (.str [105, 110, 118, 97, 108, 105, 100])) (.cons (.bi .repr (.cons (.attr (.var 4) [118, 97, 108, 117, 101]) .nil)) .nil)))) .nil) .nil) .nil))) .nil))) (.cons (.ret (.var 3)) .nil))
def f__law_told : Fn := ⟨3, false, [], 6, b__law_told⟩
/-- law : _law_script _law_k _law_rng_here _law_turn _law_first _law_second _law_a _law_b -/
def b_law : ISs := (.cons (.loop (.nm 1) (.rng (.cons (.bi .max2 (.cons (.cst (.int 1)) (.cons (.bi .min2 (.cons (.bi .len (.cons (.var 0) .nil)) (.cons (.cst (.int 8)) .nil))) .nil))) .nil)) (.cons (.set 2 (.call 6 [0, 1] (.cons (.var 0) (.cons (.var 1) .nil)))) (.cons (.loop (.nm 3) (.rng (.cons (.cst (.int 12)) .nil)) (.cons (.setT [.nm 4, .nm 5] (.call 12 [0] (.cons (.var 2) .nil))) (.cons (.loop (.tp [6, 7]) (.seq (.tup (.cons (.tup (.cons (.var 4) (.cons (.var 5) .nil))) (.cons (.tup (.cons (.var 5) (.cons (.var 4) .nil))) (.cons (.tup (.cons (.var 4) (.cons (.var 4) .nil))) (.cons (.tup (.cons (.var 4) (.cons (.var 5) .nil))) .nil)))))) (.cons (.ite (.cmp .ne (.call 17 [0, 1, 2] (.cons (.var 6) (.cons (.var 7) (.cons (.cmp .eq (.bin .mod (.var 3) (.cst (.int 2))) (.cst (.int 1))) .nil)))) (.call 16 [0, 1] (.cons (.var 6) (.cons (.var 7) .nil)))) (.cons (.ret (.cst (.bl false))) .nil) .nil) .nil)) .nil))) .nil))) (.cons (.ret (.cst (.bl true))) .nil))
def f_law : Fn := ⟨1, false, [], 8, b_law⟩
def fns : List Fn := [f_is_integer, f_has_letters_only, f_kind_of, f_is_value, f_compared, f_sign_of, f__law_rng, f__law_draw, f__law_choice, f__law_number, f__law_text, f__law_odd, f__law_pair, f__law_kind, f__law_text_sign, f__law_number_sign, f__law_due, f__law_told, f_law]
def cstL : List D := [(.str [110, 117, 109, 98, 101, 114]), (.str [116, 101, 120, 116]), (.str [97, 98, 99, 100, 101, 102, 103, 104, 105, 106, 107, 108, 109, 110, 111, 112, 113, 114, 115, 116, 117, 118, 119, 120, 121, 122]), (.int 12)]
def clL : List ((Tx × Cl) × Bool) := [(([73, 110, 118, 97, 108, 105, 100, 86, 97, 108, 117, 101], .own [73, 110, 118, 97, 108, 105, 100, 86, 97, 108, 117, 101]), true), (([73, 110, 118, 97, 108, 105, 100, 86, 97, 108, 117, 101], .ve), true), (([73, 110, 118, 97, 108, 105, 100, 86, 97, 108, 117, 101], .own [73, 110, 118, 97, 108, 105, 100, 67, 111, 117, 110, 116]), false), (([73, 110, 118, 97, 108, 105, 100, 86, 97, 108, 117, 101], .own [73, 110, 118, 97, 108, 105, 100, 78, 97, 109, 101]), false), (([73, 110, 118, 97, 108, 105, 100, 86, 97, 108, 117, 101], .own [73, 110, 118, 97, 108, 105, 100, 84, 101, 120, 116]), false), (([73, 110, 118, 97, 108, 105, 100, 86, 97, 108, 117, 101], .own [73, 110, 118, 97, 108, 105, 100, 86, 101, 99, 116, 111, 114]), false), (([73, 110, 118, 97, 108, 105, 100, 86, 97, 108, 117, 101], .own [80, 97, 105, 114, 69, 114, 114, 111, 114]), true), (([73, 110, 118, 97, 108, 105, 100, 86, 97, 108, 117, 101], .re), false), (([73, 110, 118, 97, 108, 105, 100, 86, 97, 108, 117, 101], .own [85, 110, 108, 105, 107, 101]), false), (([85, 110, 108, 105, 107, 101], .own [73, 110, 118, 97, 108, 105, 100, 86, 97, 108, 117, 101]), false), (([85, 110, 108, 105, 107, 101], .ve), false), (([85, 110, 108, 105, 107, 101], .own [73, 110, 118, 97, 108, 105, 100, 67, 111, 117, 110, 116]), false), (([85, 110, 108, 105, 107, 101], .own [73, 110, 118, 97, 108, 105, 100, 78, 97, 109, 101]), false), (([85, 110, 108, 105, 107, 101], .own [73, 110, 118, 97, 108, 105, 100, 84, 101, 120, 116]), false), (([85, 110, 108, 105, 107, 101], .own [73, 110, 118, 97, 108, 105, 100, 86, 101, 99, 116, 111, 114]), false), (([85, 110, 108, 105, 107, 101], .own [80, 97, 105, 114, 69, 114, 114, 111, 114]), false), (([85, 110, 108, 105, 107, 101], .re), true), (([85, 110, 108, 105, 107, 101], .own [85, 110, 108, 105, 107, 101]), true)]
def clT (c : Tx) (k : Cl) : Option Bool := (clL.find? fun e => decide (e.1 = (c, k))).map (·.2)
def initT (c : Tx) (ds : List D) : Option (List (Tx × D)) :=
  if c = [73, 110, 118, 97, 108, 105, 100, 86, 97, 108, 117, 101] then (match ds with | [d0] => some [([118, 97, 108, 117, 101], d0)] | _ => none) else
  if c = [85, 110, 108, 105, 107, 101] then (match ds with | [] => some [] | _ => none) else
  none
def pg : Pg := ⟨clT, fns, cstL, initT⟩
def T : Tb := ⟨["NUMBER", "TEXT", "LETTERS", "MOST_TEXT_LETTERS"], ["is_integer", "has_letters_only", "kind_of", "is_value", "compared", "sign_of", "_law_rng", "_law_draw", "_law_choice", "_law_number", "_law_text", "_law_odd", "_law_pair", "_law_kind", "_law_text_sign", "_law_number_sign", "_law_due", "_law_told", "law"], [(1, 1, [], [0]), (0, 1, [], [0]), (2, 1, [], [0]), (4, 2, [], [0, 1]), (3, 1, [], [0]), (7, 2, [], [0, 1]), (8, 2, [], [0, 1]), (11, 1, [], [0]), (10, 2, [], [0, 1]), (9, 2, [], [0, 1]), (15, 2, [], [0, 1]), (13, 1, [], [0]), (14, 2, [], [0, 1]), (5, 0, ["one", "other"], [0, 1]), (5, 2, [], [0, 1]), (17, 3, [], [0, 1, 2]), (16, 2, [], [0, 1]), (12, 1, [], [0]), (6, 2, [], [0, 1])], [("InvalidValue", .own [73, 110, 118, 97, 108, 105, 100, 86, 97, 108, 117, 101]), ("ValueError", .ve), ("InvalidCount", .own [73, 110, 118, 97, 108, 105, 100, 67, 111, 117, 110, 116]), ("InvalidName", .own [73, 110, 118, 97, 108, 105, 100, 78, 97, 109, 101]), ("InvalidText", .own [73, 110, 118, 97, 108, 105, 100, 84, 101, 120, 116]), ("InvalidVector", .own [73, 110, 118, 97, 108, 105, 100, 86, 101, 99, 116, 111, 114]), ("PairError", .own [80, 97, 105, 114, 69, 114, 114, 111, 114]), ("RuntimeError", .re), ("Unlike", .own [85, 110, 108, 105, 107, 101])], [("InvalidValue", [73, 110, 118, 97, 108, 105, 100, 86, 97, 108, 117, 101]), ("Unlike", [85, 110, 108, 105, 107, 101])], ["abs", "all", "bool", "divmod", "int", "isinstance", "len", "max", "min", "range", "repr", "str", "zip"], ["value"], []⟩
def N_is_integer : List Str := ["value"]
def N_has_letters_only : List Str := ["text", "letter"]
def N_kind_of : List Str := ["value"]
def N_is_value : List Str := ["value"]
def N_compared : List Str := ["one", "other"]
def N_sign_of : List Str := ["one", "other", "value"]
def N__law_rng : List Str := ["_law_script", "_law_k", "_law_cell"]
def N__law_draw : List Str := ["_law_rng_here", "_law_many", "_law_digit", "_law_mixed"]
def N__law_choice : List Str := ["_law_rng_here", "_law_options"]
def N__law_number : List Str := ["_law_rng_here", "_law_near", "_law_way"]
def N__law_text : List Str := ["_law_rng_here", "_law_near", "_law_letters", "_law_way", "_law_at", "_law_k"]
def N__law_odd : List Str := ["_law_rng_here", "_law_some"]
def N__law_pair : List Str := ["_law_rng_here", "_law_first", "_law_text_here", "_law_numbers", "_law_texts", "_law_way", "_law_made"]
def N__law_kind : List Str := ["_law_thing", "_law_letter"]
def N__law_text_sign : List Str := ["_law_first", "_law_second", "_law_letters", "_law_a", "_law_b"]
def N__law_number_sign : List Str := ["_law_first", "_law_second"]
def N__law_due : List Str := ["_law_first", "_law_second", "_law_thing"]
def N__law_told : List Str := ["_law_first", "_law_second", "_law_is_named", "_law_made", "e", "_law_others"]
def N_law : List Str := ["_law_script", "_law_k", "_law_rng_here", "_law_turn", "_law_first", "_law_second", "_law_a", "_law_b"]
end K12
set_option maxRecDepth 100000
set_option maxHeartbeats 7900000
namespace K12
open Pi
/-! ### plain reckoning -/
theorem run_at (n f : Nat) (d : Fn) (h : fns[f]? = some d) (as c : List D) (hl : as.length = d.np) : pg.run (n + 1) f as c = ofOut (execs (pg.wd n) d.body ⟨entry d as, c⟩) := by
  unfold Pg.run
  have h : pg.fns[f]? = some d := h
  rw [h]
  simp only [hl, if_true]
  rfl
def isInt : D → Bool
  | .int _ => true
  | _ => false
theorem r_is_integer (n : Nat) (d : D) (c : List D) (hp : d.pd.isSome = true) : pg.run (n + 1) 0 [d] c = .ok (.val (.bl (isInt d))) c := by
  rw [run_at n 0 f_is_integer rfl [d] c rfl]
  simp only [f_is_integer, b_is_integer, execs, exec, ev, tst, Rs.bind, Rs.out, ER.rd, truth, Rs.of, hp, entry, entryP, retR, ofOut, Out.seq, List.map_nil, List.replicate, List.cons_append, List.nil_append, List.getElem?_cons_zero, if_true, if_false, Bool.false_eq_true]
  cases d <;> first | rfl | (cases hp; done)
theorem r_draw (n : Nat) (a b many : Int) (h1 : 1 ≤ many) (h2 : many < 2 ^ 150) : ∃ a' b' r, pg.run (n + 1) 7 [.non, .int many] [.int a, .int b] = .ok (.val (.int r)) [.int a', .int b'] ∧ 0 ≤ r ∧ r < many := by
  rw [run_at n 7 f__law_draw rfl _ _ rfl]
  by_cases ha : 0 < a
  · refine ⟨a / many, b, a % many, ?_, Int.emod_nonneg _ (by omega), Int.emod_lt_of_pos _ (by omega)⟩
    have h0 : 0 < many := by omega
    have hb : many < 1606938044258990275541962092341162602522202993782792835301376 := by omega
    simp [f__law_draw, b__law_draw, execs, exec, ev, evB, evF, holdL, ER.hold, rdAll, tst, Rs.bind, Rs.out, ER.rd, truth, Rs.of, entry, entryP, retR, ofOut, Out.seq, atS, ixOf, cmpR, ltR, ha, biR, int2R, h0, hb, tgs, setX, ixV, mutS, setAt, outO, Fr.put]
  · have hb0 : ∀ x : Int, w64 (x % 2147483587) = true := fun x => by
      have h1 := Int.emod_nonneg x (show (2147483587 : Int) ≠ 0 by decide)
      have h2 := Int.emod_lt_of_pos x (show (0 : Int) < 2147483587 by decide)
      simp only [w64, Bool.and_eq_true, decide_eq_true_eq]
      omega
    have hw1 : w64 48283 = true := by decide
    have hw2 : w64 2147483563 = true := by decide
    have h0 : 0 < many := by omega
    generalize hbb : (b * 48283 + 10007) % 2147483587 = b1
    have hwb : w64 b1 = true := by rw [← hbb]; exact hb0 _
    generalize hmm : b1 * b1 % 2147483549 / 13 = m1
    by_cases hm : many < 1048576
    · refine ⟨a, b1, m1 % many, ?_, Int.emod_nonneg _ (by omega), Int.emod_lt_of_pos _ (by omega)⟩
      simp [f__law_draw, b__law_draw, execs, exec, ev, evB, evF, holdL, ER.hold, rdAll, tst, Rs.bind, Rs.out, ER.rd, ER.fz, truth, Rs.of, entry, entryP, retR, ofOut, Out.seq, atS, ixOf, cmpR, ltR, ha, biR, intcR, opR, addR, intR, h0, tgs, setX, ixV, mutS, setAt, outO, Fr.put, hw1, hw2, hbb, hwb, hmm, hm, stoR]
    · refine ⟨a, b1, ((m1 * 2147483563 + b1) * 2147483563 + m1) % many, ?_, Int.emod_nonneg _ (by omega), Int.emod_lt_of_pos _ (by omega)⟩
      simp [f__law_draw, b__law_draw, execs, exec, ev, evB, evF, holdL, ER.hold, rdAll, tst, Rs.bind, Rs.out, ER.rd, ER.fz, truth, Rs.of, entry, entryP, retR, ofOut, Out.seq, atS, ixOf, cmpR, ltR, ha, biR, intcR, opR, addR, intR, h0, tgs, setX, ixV, mutS, setAt, outO, Fr.put, hw1, hw2, hbb, hwb, hmm, hm, stoR]
theorem wbr (n f : Nat) : (pg.wd n).br f = pg.br f := rfl
theorem wdf (n f : Nat) : (pg.wd n).df f = pg.df f := rfl
theorem wcall (n : Nat) : (pg.wd n).call = pg.run n := rfl
theorem wcst (n : Nat) : (pg.wd n).cst = fun k => cstL.getD k .non := rfl
theorem brs : pg.br 0 = false ∧ pg.br 1 = false ∧ pg.br 2 = false ∧ pg.br 3 = false ∧ pg.br 4 = false ∧ pg.br 5 = false ∧ pg.br 6 = false ∧ pg.br 7 = true ∧ pg.br 8 = true ∧ pg.br 9 = true ∧ pg.br 10 = true ∧ pg.br 11 = true ∧ pg.br 12 = true ∧ pg.br 13 = false ∧ pg.br 14 = false ∧ pg.br 15 = false ∧ pg.br 16 = false ∧ pg.br 17 = false := ⟨rfl, rfl, rfl, rfl, rfl, rfl, rfl, rfl, rfl, rfl, rfl, rfl, rfl, rfl, rfl, rfl, rfl, rfl⟩
theorem dfs (f : Nat) : pg.df f = [] := by
  unfold Pg.df
  split
  · rename_i d h
    have h : fns[f]? = some d := h
    have hf : f < 19 := (List.getElem?_eq_some_iff.mp h).1
    match f, hf, h with
    | 0, _, h | 1, _, h | 2, _, h | 3, _, h | 4, _, h | 5, _, h | 6, _, h | 7, _, h | 8, _, h | 9, _, h | 10, _, h | 11, _, h | 12, _, h | 13, _, h | 14, _, h | 15, _, h | 16, _, h | 17, _, h | 18, _, h => cases h; rfl
  · rfl
theorem r_choice (n : Nat) (a b : Int) (xs : List D) (hx : xs ≠ []) (hl : xs.length < 1000000) : ∃ a' b' x, x ∈ xs ∧ pg.run (n + 2) 8 [.non, .lst xs] [.int a, .int b] = .ok (.val x) [.int a', .int b'] := by
  have hp : 0 < xs.length := List.length_pos_iff.mpr hx
  obtain ⟨a', b', r, hr, h0, h1⟩ := r_draw n a b xs.length (by omega) (by omega)
  have hk : r.toNat < xs.length := by omega
  refine ⟨a', b', xs[r.toNat], List.getElem_mem hk, ?_⟩
  rw [run_at (n + 1) 8 f__law_choice rfl _ _ rfl]
  simp [f__law_choice, b__law_choice, execs, exec, ev, evB, evF, evO, evC, holdL, ER.hold, rdAll, tst, Rs.bind, Rs.out, ER.rd, ER.fz, truth, Rs.of, entry, entryP, retR, ofOut, Out.seq, atS, ixOf, cmpR, ltR, biR, intcR, opR, addR, intR, tgs, setX, ixV, mutS, setAt, outO, Fr.put, stoR, doCall, lend, fzAll, pick, CR.rs, CV.er, wbr, wcall, wdf, brs, dfs, lenR, lim, hr, h0, h1, hk]
theorem r_number (n : Nat) (a b near : Int) : ∃ a' b' z, pg.run (n + 2) 9 [.non, .int near] [.int a, .int b] = .ok (.val (.int z)) [.int a', .int b'] := by
  obtain ⟨a1, b1, w, hw, w0, w1⟩ := r_draw n a b 5 (by decide) (by decide)
  rw [run_at (n + 1) 9 f__law_number rfl _ _ rfl]
  by_cases c1 : w < 2
  · obtain ⟨a2, b2, y, hy, y0, y1⟩ := r_draw n a1 b1 5 (by decide) (by decide)
    exact ⟨a2, b2, near + y - 2, by simp [f__law_number, b__law_number, execs, exec, ev, evB, evF, evO, evC, holdL, ER.hold, rdAll, tst, Rs.bind, Rs.out, ER.rd, ER.fz, truth, Rs.of, entry, entryP, retR, ofOut, Out.seq, atS, ixOf, cmpR, ltR, biR, intcR, opR, addR, intR, tgs, setX, ixV, mutS, setAt, outO, Fr.put, stoR, doCall, lend, fzAll, pick, CR.rs, CV.er, wbr, wcall, wdf, brs, dfs, lenR, lim, hw, c1, hy]⟩
  · by_cases c2 : w = 2
    · subst c2
      exact ⟨a1, b1, -near, by simp [f__law_number, b__law_number, execs, exec, ev, evB, evF, evO, evC, holdL, ER.hold, rdAll, tst, Rs.bind, Rs.out, ER.rd, ER.fz, truth, Rs.of, entry, entryP, retR, ofOut, Out.seq, atS, ixOf, cmpR, ltR, biR, intcR, opR, addR, intR, tgs, setX, ixV, mutS, setAt, outO, Fr.put, stoR, doCall, lend, fzAll, pick, CR.rs, CV.er, wbr, wcall, wdf, brs, dfs, lenR, lim, hw, eqR, D.flat, D.eqv]⟩
    · obtain ⟨a2, b2, y, hy, y0, y1⟩ := r_draw n a1 b1 1000000000000000000000000000000 (by decide) (by decide)
      obtain ⟨a3, b3, z, hz, z0, z1⟩ := r_draw n a2 b2 1000000000000000000000000000000 (by decide) (by decide)
      have c3 : w = 3 ∨ w = 4 := by omega
      rcases c3 with rfl | rfl
      · exact ⟨a3, b3, y, by simp [f__law_number, b__law_number, execs, exec, ev, evB, evF, evO, evC, holdL, ER.hold, rdAll, tst, Rs.bind, Rs.out, ER.rd, ER.fz, truth, Rs.of, entry, entryP, retR, ofOut, Out.seq, atS, ixOf, cmpR, ltR, biR, intcR, opR, addR, intR, tgs, setX, ixV, mutS, setAt, outO, Fr.put, stoR, doCall, lend, fzAll, pick, CR.rs, CV.er, wbr, wcall, wdf, brs, dfs, lenR, lim, hw, eqR, D.flat, D.eqv, hy, hz]⟩
      · exact ⟨a3, b3, -z, by simp [f__law_number, b__law_number, execs, exec, ev, evB, evF, evO, evC, holdL, ER.hold, rdAll, tst, Rs.bind, Rs.out, ER.rd, ER.fz, truth, Rs.of, entry, entryP, retR, ofOut, Out.seq, atS, ixOf, cmpR, ltR, biR, intcR, opR, addR, intR, tgs, setX, ixV, mutS, setAt, outO, Fr.put, stoR, doCall, lend, fzAll, pick, CR.rs, CV.er, wbr, wcall, wdf, brs, dfs, lenR, lim, hw, eqR, D.flat, D.eqv, hy, hz]⟩
end K12
set_option maxRecDepth 100000
set_option maxHeartbeats 7900000
namespace K12
open Pi
def abc : Tx := [97, 98, 99, 100, 101, 102, 103, 104, 105, 106, 107, 108, 109, 110, 111, 112, 113, 114, 115, 116, 117, 118, 119, 120, 121, 122]
def Txt (x : Tx) : Prop := x.length ≤ 12 ∧ ∀ c ∈ x, 97 ≤ c ∧ c ≤ 122
theorem abc_at : ∀ k, k < 26 → abc[k]? = some (97 + k) := by decide
theorem take_in {x : Tx} {c : Nat} {k : Nat} (h : c ∈ x.take k) : c ∈ x := List.mem_of_mem_take h
theorem drop_in {x : Tx} {c : Nat} {k : Nat} (h : c ∈ x.drop k) : c ∈ x := List.mem_of_mem_drop h
def drawF (n : Nat) : D → Fr → Rs (Option D) := fun x s2 => match (Tg.nm 5).bind x (s2.wipe (Tg.nm 5).slots) with
      | none => .stuck
      | some s3 => (evC (pg.wd (n + 1)) .no s3).bind fun t s4 => if t then (ev (pg.wd (n + 1)) (.idx (.var 2) (.call 7 [0, 1] (.cons (.var 0) (.cons (.idx (.lst (.cons (.cst (.int 26)) (.cons (.cst (.int 2)) .nil))) (.bin .mod (.var 3) (.cst (.int 2)))) .nil)))) s4).bind fun y s5 => (y.fz s5).bind fun d s6 => .ok (some d) s6 else .ok none s4
/-- letters drawn one by one -/
theorem draws (n : Nat) (near : Tx) (way at_ : Int) (w0 : 0 ≤ way) (w1 : way < 5) : ∀ (m : Nat) (i a b : Int) (z : Sl), ∃ (cs : Tx) (a' b' : Int) (z' : Sl), cs.length = m ∧ (∀ c ∈ cs, 97 ≤ c ∧ c ≤ 122) ∧
    lcGo (drawF n) (rngD i m) ⟨[.ref, .val (.str near), .val (.str abc), .val (.int way), .val (.int at_), z], [.int a, .int b]⟩ = .ok (cs.map fun c => .str [c]) ⟨[.ref, .val (.str near), .val (.str abc), .val (.int way), .val (.int at_), z'], [.int a', .int b']⟩
  | 0, i, a, b, z => ⟨[], a, b, z, rfl, by simp, rfl⟩
  | m + 1, i, a, b, z => by
    have hl : abc.length = 26 := rfl
    have key : ∃ (a1 b1 : Int) (c : Nat), 97 ≤ c ∧ c ≤ 122 ∧ drawF n (.int i) ⟨[.ref, .val (.str near), .val (.str abc), .val (.int way), .val (.int at_), z], [.int a, .int b]⟩ = .ok (some (.str [c])) ⟨[.ref, .val (.str near), .val (.str abc), .val (.int way), .val (.int at_), .val (.int i)], [.int a1, .int b1]⟩ := by
      have hm : way % 2 = 0 ∨ way % 2 = 1 := by omega
      rcases hm with hm | hm
      · obtain ⟨a1, b1, r, hr, r0, r1⟩ := r_draw n a b 26 (by decide) (by decide)
        have hc := abc_at r.toNat (by omega)
        refine ⟨a1, b1, 97 + r.toNat, by omega, by omega, ?_⟩
        simp [drawF, Tg.bind, Fr.wipe, Tg.slots, execs, exec, ev, evB, evF, evO, evC, evI, holdL, ER.hold, rdAll, tst, Rs.bind, Rs.out, ER.rd, ER.fz, truth, Rs.of, entry, entryP, retR, ofOut, Out.seq, atS, ixOf, cmpR, ltR, biR, intcR, opR, addR, intR, tgs, setX, ixV, mutS, setAt, outO, Fr.put, stoR, doCall, lend, fzAll, pick, CR.rs, CV.er, wbr, wcall, wdf, brs, dfs, lenR, lim, eqR, D.flat, D.eqv, okT, hm, hr, hc, r0, r1, hl]
        exact (List.getElem?_eq_some_iff.mp hc).2
      · obtain ⟨a1, b1, r, hr, r0, r1⟩ := r_draw n a b 2 (by decide) (by decide)
        have hc := abc_at r.toNat (by omega)
        have r2 : r < 26 := by omega
        refine ⟨a1, b1, 97 + r.toNat, by omega, by omega, ?_⟩
        simp [drawF, Tg.bind, Fr.wipe, Tg.slots, execs, exec, ev, evB, evF, evO, evC, evI, holdL, ER.hold, rdAll, tst, Rs.bind, Rs.out, ER.rd, ER.fz, truth, Rs.of, entry, entryP, retR, ofOut, Out.seq, atS, ixOf, cmpR, ltR, biR, intcR, opR, addR, intR, tgs, setX, ixV, mutS, setAt, outO, Fr.put, stoR, doCall, lend, fzAll, pick, CR.rs, CV.er, wbr, wcall, wdf, brs, dfs, lenR, lim, eqR, D.flat, D.eqv, okT, hm, hr, hc, r0, r2, hl]
        exact (List.getElem?_eq_some_iff.mp hc).2
    obtain ⟨a1, b1, c, c0, c1, hk⟩ := key
    obtain ⟨cs, a', b', z', l1, l2, l3⟩ := draws n near way at_ w0 w1 m (i + 1) a1 b1 (.val (.int i))
    refine ⟨c :: cs, a', b', z', by simp [l1], ?_, ?_⟩
    · intro d hd
      rcases mem_or hd with rfl | hd
      · exact ⟨c0, c1⟩
      · exact l2 d hd
    · simp only [rngD, lcGo, hk, l3, List.map_cons]
theorem strs_map : ∀ cs : Tx, strsD (cs.map fun c => D.str [c]) = some (cs.map fun c => [c])
  | [] => rfl
  | c :: cs => by simp [strsD, strs_map cs]
theorem join_map : ∀ cs : Tx, joinT [] (cs.map fun c => [c]) = cs
  | [] => rfl
  | [c] => rfl
  | c :: d :: cs => by
    have ih := join_map (d :: cs)
    simp only [List.map_cons] at ih ⊢
    simp only [joinT, ih]
    rfl
theorem sum_map : ∀ cs : Tx, ((cs.map fun c => [c]).map List.length).sum = cs.length
  | [] => rfl
  | c :: cs => by
    have ih := sum_map cs
    simp only [List.map_cons, List.sum_cons, ih]
    simp
    omega
theorem sub_txt {x y : Tx} (h : Txt x) (hl : y.length ≤ 12) (hm : ∀ c ∈ y, c ∈ x) : Txt y := ⟨hl, fun c hc => h.2 c (hm c hc)⟩
def joinE : IE := .mth .join (.cst (.str [])) (.cons (.lcm (.idx (.var 2) (.call 7 [0, 1] (.cons (.var 0) (.cons (.idx (.lst (.cons (.cst (.int 26)) (.cons (.cst (.int 2)) .nil))) (.bin .mod (.var 3) (.cst (.int 2)))) .nil)))) (.nm 5) (.rng (.cons (.call 7 [0, 1] (.cons (.var 0) (.cons (.cst (.int 13)) .nil))) .nil)) .no) .nil)
theorem ev_join (n : Nat) (near : Tx) (way at_ a b : Int) (w0 : 0 ≤ way) (w1 : way < 5) : ∃ (t : Tx) (a' b' : Int) (z' : Sl), Txt t ∧ ev (pg.wd (n + 1)) joinE ⟨[.ref, .val (.str near), .val (.str abc), .val (.int way), .val (.int at_), .un], [.int a, .int b]⟩ = .ok (.val (.str t)) ⟨[.ref, .val (.str near), .val (.str abc), .val (.int way), .val (.int at_), z'], [.int a', .int b']⟩ := by
  obtain ⟨a1, b1, r, hr, r0, r1⟩ := r_draw n a b 13 (by decide) (by decide)
  obtain ⟨cs, a', b', z', l1, l2, l3⟩ := draws n near way at_ w0 w1 r.toNat 0 a1 b1 .un
  refine ⟨cs, a', b', .un, ⟨by omega, l2⟩, ?_⟩
  have hI : evI (pg.wd (n + 1)) (.rng (.cons (.call 7 [0, 1] (.cons (.var 0) (.cons (.cst (.int 13)) .nil))) .nil)) ⟨[.ref, .val (.str near), .val (.str abc), .val (.int way), .val (.int at_), .un], [.int a, .int b]⟩ = .ok (rngD 0 r.toNat) ⟨[.ref, .val (.str near), .val (.str abc), .val (.int way), .val (.int at_), .un], [.int a1, .int b1]⟩ := by
    have h1 : -1000000 ≤ r := by omega
    have h2 : r ≤ 1000000 := by omega
    simp [execs, exec, ev, evB, evF, evO, evC, evI, holdL, ER.hold, rdAll, tst, Rs.bind, Rs.out, ER.rd, ER.fz, truth, Rs.of, entry, entryP, retR, ofOut, Out.seq, atS, ixOf, cmpR, ltR, biR, intcR, opR, addR, intR, tgs, setX, ixV, mutS, setAt, outO, Fr.put, stoR, doCall, lend, fzAll, pick, CR.rs, CV.er, wbr, wcall, wdf, brs, dfs, lenR, lim, eqR, D.flat, D.eqv, okT, hr, h1, h2]
  have hL : ev (pg.wd (n + 1)) (.lcm (.idx (.var 2) (.call 7 [0, 1] (.cons (.var 0) (.cons (.idx (.lst (.cons (.cst (.int 26)) (.cons (.cst (.int 2)) .nil))) (.bin .mod (.var 3) (.cst (.int 2)))) .nil)))) (.nm 5) (.rng (.cons (.call 7 [0, 1] (.cons (.var 0) (.cons (.cst (.int 13)) .nil))) .nil)) .no) ⟨[.ref, .val (.str near), .val (.str abc), .val (.int way), .val (.int at_), .un], [.int a, .int b]⟩ = .ok (.fresh (cs.map fun c => .str [c])) ⟨[.ref, .val (.str near), .val (.str abc), .val (.int way), .val (.int at_), .un], [.int a', .int b']⟩ := by
    unfold ev
    rw [hI]
    show (match lcGo (drawF n) (rngD 0 r.toNat) _ with | .ok ds s2 => _ | _ => _) = _
    rw [l3]
    have h3 : (cs.map fun c => D.str [c]).length ≤ lim := by
      rw [List.length_map, l1]
      unfold lim
      omega
    simp only [h3, if_true]
    rfl
  unfold joinE ev
  simp only [ev, Rs.bind]
  unfold evB
  rw [hL]
  have h4 : ((cs.map fun c => [c]).map List.length).sum + (cs.map fun c => [c]).length * 0 ≤ lim := by
    rw [sum_map]
    unfold lim
    omega
  simp only [Rs.bind, evB, holdL, rdAll, ER.rd, mthR, joinR, strs_map, Option.bind_some, List.length_nil, h4, if_true, Rs.of, join_map]
theorem b_text : b__law_text = (.cons (.set 2 (.cst (.str [97, 98, 99, 100, 101, 102, 103, 104, 105, 106, 107, 108, 109, 110, 111, 112, 113, 114, 115, 116, 117, 118, 119, 120, 121, 122]))) (.cons (.setT [.nm 3, .nm 4] (.tup (.cons (.call 7 [0, 1] (.cons (.var 0) (.cons (.cst (.int 5)) .nil))) (.cons (.call 7 [0, 1] (.cons (.var 0) (.cons (.bin .add (.bi .len (.cons (.var 1) .nil)) (.cst (.int 1))) .nil))) .nil)))) (.cons (.ite (.cmp .eq (.var 3) (.cst (.int 0))) (.cons (.ret (.var 1)) .nil) .nil) (.cons (.ite (.cmp .eq (.var 3) (.cst (.int 1))) (.cons (.ret (.slc (.var 1) .no (.so (.var 4)))) .nil) .nil) (.cons (.ite (.and (.cmp .eq (.var 3) (.cst (.int 2))) (.cmp .lt (.bi .len (.cons (.var 1) .nil)) (.cst (.int 12)))) (.cons (.ret (.bin .add (.bin .add (.slc (.var 1) .no (.so (.var 4))) (.idx (.var 2) (.call 7 [0, 1] (.cons (.var 0) (.cons (.cst (.int 26)) .nil))))) (.slc (.var 1) (.so (.var 4)) .no))) .nil) .nil) (.cons (.ite (.and (.cmp .eq (.var 3) (.cst (.int 3))) (.cmp .lt (.var 4) (.bi .len (.cons (.var 1) .nil)))) (.cons (.ret (.bin .add (.bin .add (.slc (.var 1) .no (.so (.var 4))) (.idx (.var 2) (.call 7 [0, 1] (.cons (.var 0) (.cons (.cst (.int 26)) .nil))))) (.slc (.var 1) (.so (.bin .add (.var 4) (.cst (.int 1)))) .no))) .nil) .nil) (.cons (.ret joinE) .nil))))))) := rfl
theorem r_text (n : Nat) (a b : Int) (near : Tx) (ht : Txt near) : ∃ a' b' t, Txt t ∧ pg.run (n + 2) 10 [.non, .str near] [.int a, .int b] = .ok (.val (.str t)) [.int a', .int b'] := by
  obtain ⟨h12, hab⟩ := id ht
  obtain ⟨a1, b1, w, hw, w0, w1⟩ := r_draw n a b 5 (by decide) (by decide)
  obtain ⟨a2, b2, t, hat, t0, t1⟩ := r_draw n a1 b1 (near.length + 1) (by omega) (by omega)
  rw [run_at (n + 1) 10 f__law_text rfl _ _ rfl]
  have hl6 : near.length ≤ 1000000 := by omega
  obtain ⟨k, rfl⟩ : ∃ k : Nat, t = k := ⟨t.toNat, by omega⟩
  have tk : min k near.length = k := by omega
  have tn : ¬ ((k : Int) < 0) := by omega
  have tn1 : ¬ ((k : Int) + 1 < 0) := by omega
  have hcase : w = 0 ∨ w = 1 ∨ w = 2 ∨ w = 3 ∨ w = 4 := by omega
  obtain ⟨cs, a5, b5, z5, hcs, hj⟩ := ev_join n near w k a2 b2 w0 w1
  have hl26 : abc.length = 26 := rfl
  have habc : ([97, 98, 99, 100, 101, 102, 103, 104, 105, 106, 107, 108, 109, 110, 111, 112, 113, 114, 115, 116, 117, 118, 119, 120, 121, 122] : Tx) = abc := rfl
  rcases hcase with rfl | rfl | rfl | rfl | rfl
  · exact ⟨a2, b2, near, ht, by simp [f__law_text, b_text, habc, execs, exec, ev, evB, evF, evO, evC, evI, holdL, ER.hold, rdAll, tst, Rs.bind, Rs.out, ER.rd, ER.fz, truth, Rs.of, entry, entryP, retR, ofOut, Out.seq, atS, ixOf, cmpR, ltR, biR, intcR, opR, addR, intR, tgs, setX, ixV, mutS, setAt, outO, Fr.put, stoR, doCall, lend, fzAll, pick, CR.rs, CV.er, wbr, wcall, wdf, brs, dfs, lenR, lim, eqR, D.flat, D.eqv, okT, hw, hat, hl6]⟩
  · refine ⟨a2, b2, near.take k, sub_txt ht (by rw [List.length_take]; omega) fun c => take_in, ?_⟩
    simp [f__law_text, b_text, habc, execs, exec, ev, evB, evF, evO, evC, evI, holdL, ER.hold, rdAll, tst, Rs.bind, Rs.out, ER.rd, ER.fz, truth, Rs.of, entry, entryP, retR, ofOut, Out.seq, atS, ixOf, cmpR, ltR, biR, intcR, opR, addR, intR, tgs, setX, ixV, mutS, setAt, outO, Fr.put, stoR, doCall, lend, fzAll, pick, CR.rs, CV.er, wbr, wcall, wdf, brs, dfs, lenR, lim, eqR, D.flat, D.eqv, okT, hw, hat, hl6, slcD, cut, HT.sIx, tk, tn]
  · by_cases h : near.length < 12
    · obtain ⟨a3, b3, r, hr, r0, r1⟩ := r_draw n a2 b2 26 (by decide) (by decide)
      have hc := abc_at r.toNat (by omega)
      have hc2 := (List.getElem?_eq_some_iff.mp hc).2
      refine ⟨a3, b3, near.take k ++ [97 + r.toNat] ++ near.drop k, ⟨by simp; omega, ?_⟩, ?_⟩
      · intro c hm
        simp only [List.mem_append, List.mem_singleton] at hm
        rcases hm with (hm | rfl) | hm
        · exact hab c (take_in hm)
        · omega
        · exact hab c (drop_in hm)
      · have e1 : ((near.take k).length + 1 ≤ 1000000) := by rw [List.length_take]; omega
        have e2 : ((near.take k).length + 1 + (near.drop k).length ≤ 1000000) := by rw [List.length_take, List.length_drop]; omega
        have hI : (near.length : Int) < 12 := by omega
        have k1 : k ≤ 999999 := by omega
        have k2 : k + (1 + (near.length - k)) ≤ 1000000 := by omega
        have k3 : near.length - min k near.length = near.length - k := by omega
        have k4 : k + 1 + (near.length - k) ≤ 1000000 := by omega
        have k5 : min k near.length = k := by omega
        simp [f__law_text, b_text, habc, execs, exec, ev, evB, evF, evO, evC, evI, holdL, ER.hold, rdAll, tst, Rs.bind, Rs.out, ER.rd, ER.fz, truth, Rs.of, entry, entryP, retR, ofOut, Out.seq, atS, ixOf, cmpR, ltR, biR, intcR, opR, addR, intR, tgs, setX, ixV, mutS, setAt, outO, Fr.put, stoR, doCall, lend, fzAll, pick, CR.rs, CV.er, wbr, wcall, wdf, brs, dfs, lenR, lim, eqR, D.flat, D.eqv, okT, hw, hat, hl6, slcD, cut, HT.sIx, tk, tn, hI, hr, hc, hc2, hl26, r0, r1, k1, k2, k3, k4, k5]
        apply List.take_of_length_le; rw [List.length_drop]; omega
    · have h : ¬ ((near.length : Int) < 12) := by omega
      exact ⟨a5, b5, cs, hcs, by simp [f__law_text, b_text, habc, execs, exec, ev, evB, evF, evO, evC, evI, holdL, ER.hold, rdAll, tst, Rs.bind, Rs.out, ER.rd, ER.fz, truth, Rs.of, entry, entryP, retR, ofOut, Out.seq, atS, ixOf, cmpR, ltR, biR, intcR, opR, addR, intR, tgs, setX, ixV, mutS, setAt, outO, Fr.put, stoR, doCall, lend, fzAll, pick, CR.rs, CV.er, wbr, wcall, wdf, brs, dfs, lenR, lim, eqR, D.flat, D.eqv, okT, hw, hat, hl6, h, hj]⟩
  · by_cases h : (k : Int) < near.length
    · obtain ⟨a3, b3, r, hr, r0, r1⟩ := r_draw n a2 b2 26 (by decide) (by decide)
      have hc := abc_at r.toNat (by omega)
      have hc2 := (List.getElem?_eq_some_iff.mp hc).2
      refine ⟨a3, b3, near.take k ++ [97 + r.toNat] ++ near.drop (k + 1), ⟨by simp; omega, ?_⟩, ?_⟩
      · intro c hm
        simp only [List.mem_append, List.mem_singleton] at hm
        rcases hm with (hm | rfl) | hm
        · exact hab c (take_in hm)
        · omega
        · exact hab c (drop_in hm)
      · have k1 : k ≤ 999999 := by omega
        have k2 : k + 1 + (near.length - (k + 1)) ≤ 1000000 := by omega
        have k3 : min (k + 1) near.length = k + 1 := by omega
        have k4 : ((k : Int) + 1).toNat = k + 1 := by omega
        have k5 : k + (1 + (near.length - (k + 1))) ≤ 1000000 := by omega
        have k6 : min k near.length = k := by omega
        simp [f__law_text, b_text, habc, execs, exec, ev, evB, evF, evO, evC, evI, holdL, ER.hold, rdAll, tst, Rs.bind, Rs.out, ER.rd, ER.fz, truth, Rs.of, entry, entryP, retR, ofOut, Out.seq, atS, ixOf, cmpR, ltR, biR, intcR, opR, addR, intR, tgs, setX, ixV, mutS, setAt, outO, Fr.put, stoR, doCall, lend, fzAll, pick, CR.rs, CV.er, wbr, wcall, wdf, brs, dfs, lenR, lim, eqR, D.flat, D.eqv, okT, hw, hat, hl6, slcD, cut, HT.sIx, tk, tn, tn1, h, hr, hc, hc2, hl26, r0, r1, k1, k2, k3, k4, k5, k6]
        apply List.take_of_length_le; rw [List.length_drop]; omega
    · exact ⟨a5, b5, cs, hcs, by simp [f__law_text, b_text, habc, execs, exec, ev, evB, evF, evO, evC, evI, holdL, ER.hold, rdAll, tst, Rs.bind, Rs.out, ER.rd, ER.fz, truth, Rs.of, entry, entryP, retR, ofOut, Out.seq, atS, ixOf, cmpR, ltR, biR, intcR, opR, addR, intR, tgs, setX, ixV, mutS, setAt, outO, Fr.put, stoR, doCall, lend, fzAll, pick, CR.rs, CV.er, wbr, wcall, wdf, brs, dfs, lenR, lim, eqR, D.flat, D.eqv, okT, hw, hat, hl6, h, hj]⟩
  · exact ⟨a5, b5, cs, hcs, by simp [f__law_text, b_text, habc, execs, exec, ev, evB, evF, evO, evC, evI, holdL, ER.hold, rdAll, tst, Rs.bind, Rs.out, ER.rd, ER.fz, truth, Rs.of, entry, entryP, retR, ofOut, Out.seq, atS, ixOf, cmpR, ltR, biR, intcR, opR, addR, intR, tgs, setX, ixV, mutS, setAt, outO, Fr.put, stoR, doCall, lend, fzAll, pick, CR.rs, CV.er, wbr, wcall, wdf, brs, dfs, lenR, lim, eqR, D.flat, D.eqv, okT, hw, hat, hl6, hj]⟩
end K12
set_option maxRecDepth 100000
set_option maxHeartbeats 8000000
namespace K12
open Pi
def odds : List D := [.non, .bl true, .bl false, .str [65], .str [97, 32, 98], .str [97, 46, 98], .str [122, 122, 122, 122, 122, 122, 122, 122, 122, 122, 122, 122, 122], .str [48], .lst [], .lst [.str [97]], .tup [], .tup [.int 1], .dic [], .dic [(.inr [97], .int 1)], .str [32]]
inductive Good : D → Prop where
  | int (z : Int) : Good (.int z)
  | txt (t : Tx) (h : Txt t) : Good (.str t)
  | odd (d : D) (h : d ∈ odds) : Good d
theorem r_odd (n : Nat) (a b : Int) : ∃ a' b' d, d ∈ odds ∧ pg.run (n + 3) 11 [.non] [.int a, .int b] = .ok (.val d) [.int a', .int b'] := by
  obtain ⟨a', b', d, hd, hr⟩ := r_choice n a b odds (by decide) (by decide)
  refine ⟨a', b', d, hd, ?_⟩
  unfold odds at hr
  rw [run_at (n + 2) 11 f__law_odd rfl _ _ rfl]
  simp [f__law_odd, b__law_odd, execs, exec, ev, evB, evF, evO, evC, evI, holdL, ER.hold, rdAll, tst, Rs.bind, Rs.out, ER.rd, ER.fz, truth, Rs.of, entry, entryP, retR, ofOut, Out.seq, atS, ixOf, cmpR, ltR, biR, intcR, opR, addR, intR, tgs, setX, ixV, mutS, setAt, outO, Fr.put, stoR, doCall, lend, fzAll, pick, CR.rs, CV.er, wbr, wcall, wdf, brs, dfs, lenR, lim, eqR, D.flat, D.eqv, okT, putAll, hr]
def CV.dat : CV → D
  | .val d => d
  | .fresh xs => .lst xs
theorem txt_nil : Txt [] := ⟨by decide, by simp⟩
theorem r_pair (n : Nat) (a b : Int) : ∃ a' b' v x y, Good x ∧ Good y ∧ CV.dat v = .lst [x, y] ∧ pg.run (n + 4) 12 [.non] [.int a, .int b] = .ok v [.int a', .int b'] := by
  obtain ⟨a1, b1, z1, h1, _, _⟩ := r_draw (n + 2) a b 1000000 (by decide) (by decide)
  obtain ⟨a2, b2, t1, ht1, h2⟩ := r_text (n + 1) a1 b1 [] txt_nil
  obtain ⟨a3, b3, z2, h3⟩ := r_number (n + 1) a2 b2 z1
  obtain ⟨a4, b4, t2, ht2, h4⟩ := r_text (n + 1) a3 b3 t1 ht1
  obtain ⟨a5, b5, w, h5, w0, w1⟩ := r_draw (n + 2) a4 b4 9 (by decide) (by decide)
  rw [run_at (n + 3) 12 f__law_pair rfl _ _ rfl]
  by_cases c1 : w < 3
  · exact ⟨a5, b5, .val (.lst [.int z1, .int z2]), _, _, .int _, .int _, rfl, by simp [f__law_pair, b__law_pair, execs, exec, ev, evB, evF, evO, evC, evI, holdL, ER.hold, rdAll, tst, Rs.bind, Rs.out, ER.rd, ER.fz, truth, Rs.of, entry, entryP, retR, ofOut, Out.seq, atS, ixOf, cmpR, ltR, biR, intcR, opR, addR, intR, tgs, setX, ixV, mutS, setAt, outO, Fr.put, stoR, doCall, lend, fzAll, pick, CR.rs, CV.er, wbr, wcall, wdf, brs, dfs, lenR, lim, eqR, D.flat, D.eqv, okT, putAll, h1, h2, h3, h4, h5, c1]⟩
  · by_cases c2 : w < 6
    · exact ⟨a5, b5, .val (.lst [.str t1, .str t2]), _, _, .txt _ ht1, .txt _ ht2, rfl, by simp [f__law_pair, b__law_pair, execs, exec, ev, evB, evF, evO, evC, evI, holdL, ER.hold, rdAll, tst, Rs.bind, Rs.out, ER.rd, ER.fz, truth, Rs.of, entry, entryP, retR, ofOut, Out.seq, atS, ixOf, cmpR, ltR, biR, intcR, opR, addR, intR, tgs, setX, ixV, mutS, setAt, outO, Fr.put, stoR, doCall, lend, fzAll, pick, CR.rs, CV.er, wbr, wcall, wdf, brs, dfs, lenR, lim, eqR, D.flat, D.eqv, okT, putAll, h1, h2, h3, h4, h5, c1, c2]⟩
    · by_cases c3 : w = 6
      · subst c3
        obtain ⟨a6, b6, r, h6, r0, r1⟩ := r_draw (n + 2) a5 b5 2 (by decide) (by decide)
        have c4 : r = 0 ∨ r = 1 := by omega
        rcases c4 with rfl | rfl
        · exact ⟨a6, b6, .val (.lst [.int z1, .str t1]), _, _, .int _, .txt _ ht1, rfl, by simp [f__law_pair, b__law_pair, execs, exec, ev, evB, evF, evO, evC, evI, holdL, ER.hold, rdAll, tst, Rs.bind, Rs.out, ER.rd, ER.fz, truth, Rs.of, entry, entryP, retR, ofOut, Out.seq, atS, ixOf, cmpR, ltR, biR, intcR, opR, addR, intR, tgs, setX, ixV, mutS, setAt, outO, Fr.put, stoR, doCall, lend, fzAll, pick, CR.rs, CV.er, wbr, wcall, wdf, brs, dfs, lenR, lim, eqR, D.flat, D.eqv, okT, putAll, h1, h2, h3, h4, h5, h6]⟩
        · exact ⟨a6, b6, .val (.lst [.str t1, .int z2]), _, _, .txt _ ht1, .int _, rfl, by simp [f__law_pair, b__law_pair, execs, exec, ev, evB, evF, evO, evC, evI, holdL, ER.hold, rdAll, tst, Rs.bind, Rs.out, ER.rd, ER.fz, truth, Rs.of, entry, entryP, retR, ofOut, Out.seq, atS, ixOf, cmpR, ltR, biR, intcR, opR, addR, intR, tgs, setX, ixV, mutS, setAt, outO, Fr.put, stoR, doCall, lend, fzAll, pick, CR.rs, CV.er, wbr, wcall, wdf, brs, dfs, lenR, lim, eqR, D.flat, D.eqv, okT, putAll, h1, h2, h3, h4, h5, h6]⟩
      · obtain ⟨a6, b6, x, hx, h6⟩ := r_choice (n + 1) a5 b5 [.int z1, .int z2, .str t1, .str t2] (by simp) (by simp)
        have gx : Good x := by
          simp only [in_cons, in_nil, or_false] at hx
          rcases hx with rfl | rfl | rfl | rfl
          · exact .int _
          · exact .int _
          · exact .txt _ ht1
          · exact .txt _ ht2
        obtain ⟨a7, b7, y, hy, h7⟩ := r_odd n a6 b6
        have c4 : w = 7 ∨ w = 8 := by omega
        rcases c4 with rfl | rfl
        · exact ⟨a7, b7, .fresh [x, y], _, _, gx, .odd _ hy, rfl, by simp [f__law_pair, b__law_pair, execs, exec, ev, evB, evF, evO, evC, evI, holdL, ER.hold, rdAll, tst, Rs.bind, Rs.out, ER.rd, ER.fz, truth, Rs.of, entry, entryP, retR, ofOut, Out.seq, atS, ixOf, cmpR, ltR, biR, intcR, opR, addR, intR, tgs, setX, ixV, mutS, setAt, outO, Fr.put, stoR, doCall, lend, fzAll, pick, CR.rs, CV.er, wbr, wcall, wdf, brs, dfs, lenR, lim, eqR, D.flat, D.eqv, okT, putAll, h1, h2, h3, h4, h5, h6, h7]⟩
        · obtain ⟨a8, b8, u, hu, h8⟩ := r_odd n a7 b7
          obtain ⟨a9, b9, v, hv, h9⟩ := r_choice (n + 1) a8 b8 [x, y] (by simp) (by simp)
          have gv : Good v := by
            simp only [in_cons, in_nil, or_false] at hv
            rcases hv with rfl | rfl
            · exact gx
            · exact .odd _ hy
          exact ⟨a9, b9, .fresh [u, v], _, _, .odd _ hu, gv, rfl, by simp [f__law_pair, b__law_pair, execs, exec, ev, evB, evF, evO, evC, evI, holdL, ER.hold, rdAll, tst, Rs.bind, Rs.out, ER.rd, ER.fz, truth, Rs.of, entry, entryP, retR, ofOut, Out.seq, atS, ixOf, cmpR, ltR, biR, intcR, opR, addR, intR, tgs, setX, ixV, mutS, setAt, outO, Fr.put, stoR, doCall, lend, fzAll, pick, CR.rs, CV.er, wbr, wcall, wdf, brs, dfs, lenR, lim, eqR, D.flat, D.eqv, okT, putAll, h1, h2, h3, h4, h5, h6, h7, h8, h9]⟩
end K12
set_option maxRecDepth 100000
set_option maxHeartbeats 8000000
namespace K12
open Pi
/-! ### kinds -/
def inF (w : Wd) (e : IE) : D → Fr → Rs (Option D) := fun x s2 => match (Tg.nm 1).bind x (s2.wipe (Tg.nm 1).slots) with
      | none => .stuck
      | some s3 => (evC w .no s3).bind fun t s4 => if t then (ev w (.cmp .isIn (.var 1) e) s4).bind fun y s5 => (y.fz s5).bind fun d s6 => .ok (some d) s6 else .ok none s4
theorem in_go (w : Wd) (e : IE) (he : ∀ s, ev w e s = .ok (.val (.str abc)) s) (u : Sl) (c : List D) : ∀ (x : Tx) (z : Sl), ∃ z', lcGo (inF w e) (x.map fun k => .str [k]) ⟨[u, z], c⟩ = .ok (x.map fun k => .bl (abc.contains k)) ⟨[u, z'], c⟩
  | [], z => ⟨z, rfl⟩
  | k :: x, z => by
    obtain ⟨z', h⟩ := in_go w e he u c x (.val (.str [k]))
    have hk : inF w e (.str [k]) ⟨[u, z], c⟩ = .ok (some (.bl (abc.contains k))) ⟨[u, .val (.str [k])], c⟩ := by
      simp [inF, Tg.bind, Fr.wipe, Tg.slots, evC, Rs.bind, Fr.put, ev, he, ER.hold, ER.rd, cmpR, Pi.isIn, Rs.of, ER.fz]
    refine ⟨z', ?_⟩
    simp only [List.map_cons, lcGo, hk, h]
theorem bools_map (f : Nat → Bool) : ∀ x : Tx, bools (x.map fun k => D.bl (f k)) = some (x.map f)
  | [] => rfl
  | k :: x => by simp [bools, bools_map f x]
theorem ev_all (w : Wd) (e : IE) (he : ∀ s, ev w e s = .ok (.val (.str abc)) s) (x : Tx) (hl : x.length ≤ 1000000) (c : List D) (hx : ∀ k ∈ x, 97 ≤ k ∧ k ≤ 122) : ev w (.bi .all (.cons (.lcm (.cmp .isIn (.var 1) e) (.nm 1) (.seq (.var 0)) .no) .nil)) ⟨[.val (.str x), .un], c⟩ = .ok (.val (.bl true)) ⟨[.val (.str x), .un], c⟩ := by
  obtain ⟨z', h⟩ := in_go w e he (.val (.str x)) c x .un
  have hI : evI w (.seq (.var 0)) ⟨[.val (.str x), .un], c⟩ = .ok (x.map fun k => .str [k]) ⟨[.val (.str x), .un], c⟩ := rfl
  have hL : ev w (.lcm (.cmp .isIn (.var 1) e) (.nm 1) (.seq (.var 0)) .no) ⟨[.val (.str x), .un], c⟩ = .ok (.fresh (x.map fun k => .bl (abc.contains k))) ⟨[.val (.str x), .un], c⟩ := by
    unfold ev
    rw [hI]
    show (match lcGo (inF w e) (x.map fun k => .str [k]) _ with | .ok ds s2 => _ | _ => _) = _
    rw [h]
    have h3 : (x.map fun k => D.bl (abc.contains k)).length ≤ lim := by
      rw [List.length_map]
      exact hl
    simp only [h3, if_true]
    rfl
  have ha : (x.map fun k => abc.contains k).all id = true := by
    rw [List.all_eq_true]
    intro b hb
    obtain ⟨k, hk, rfl⟩ := List.mem_map.mp hb
    obtain ⟨k0, k1⟩ := hx k hk
    have : ∀ k, 97 ≤ k → k ≤ 122 → abc.contains k = true := by
      intro k h1 h2
      obtain ⟨j, rfl⟩ : ∃ j, k = 97 + j := ⟨k - 97, by omega⟩
      have hj : j < 26 := by omega
      exact List.contains_iff_mem.mpr (List.mem_of_getElem? (abc_at j hj))
    exact this k k0 k1
  unfold ev evB
  rw [hL]
  simp only [Rs.bind, evB, holdL, rdAll, ER.rd, biR, boolR, bools_map, Option.map_some, ha, Rs.of]
def numT : Tx := [110, 117, 109, 98, 101, 114]
def txtT : Tx := [116, 101, 120, 116]
theorem r_letters (n : Nat) (x : Tx) (c : List D) (hx : Txt x) : pg.run (n + 1) 1 [.str x] c = .ok (.val (.bl true)) c := by
  rw [run_at n 1 f_has_letters_only rfl _ _ rfl]
  have h := ev_all (pg.wd n) (.gc 2) (fun s => rfl) x (by have := hx.1; omega) c hx.2
  show ofOut (execs (pg.wd n) b_has_letters_only ⟨[.val (.str x), .un], c⟩) = _
  unfold b_has_letters_only
  simp only [execs, exec]
  rw [h]
  rfl
theorem r_kind_of (n : Nat) (c : List D) : (∀ z, pg.run (n + 2) 2 [.int z] c = .ok (.val (.str numT)) c) ∧ (∀ x, Txt x → pg.run (n + 2) 2 [.str x] c = .ok (.val (.str txtT)) c) ∧ (∀ d ∈ odds, pg.run (n + 2) 2 [d] c = .ok (.val .non) c) := by
  refine ⟨fun z => rfl, fun x hx => ?_, fun d hd => ?_⟩
  · rw [run_at (n + 1) 2 f_kind_of rfl _ _ rfl]
    have h1 := r_is_integer n (.str x) [] rfl
    have h2 := r_letters n x [] hx
    have h3 : x.length ≤ 1000000 := by have := hx.1; omega
    have h4 : (x.length : Int) ≤ 12 := by have := hx.1; omega
    simp [f_kind_of, b_kind_of, execs, exec, ev, evB, evF, evO, evC, evI, holdL, ER.hold, rdAll, tst, Rs.bind, Rs.out, ER.rd, ER.fz, truth, Rs.of, entry, entryP, retR, ofOut, Out.seq, atS, ixOf, cmpR, ltR, biR, intcR, opR, addR, intR, tgs, setX, ixV, mutS, setAt, outO, Fr.put, stoR, doCall, lend, fzAll, pick, CR.rs, CV.er, wbr, wcall, wdf, brs, dfs, lenR, lim, eqR, D.flat, D.eqv, okT, putAll, h1, h2, h3, h4, isInt, leR, wcst, cstL, D.pd, isiD]
    rfl
  · simp only [odds, List.mem_cons, List.not_mem_nil, or_false] at hd
    rcases hd with rfl | rfl | rfl | rfl | rfl | rfl | rfl | rfl | rfl | rfl | rfl | rfl | rfl | rfl | rfl <;> rfl
end K12
set_option maxRecDepth 100000
set_option maxHeartbeats 8000000
namespace K12
open Pi
def allE : IE := (.bi .all (.cons (.lcm (.cmp .isIn (.var 1) (.cst (.str [97, 98, 99, 100, 101, 102, 103, 104, 105, 106, 107, 108, 109, 110, 111, 112, 113, 114, 115, 116, 117, 118, 119, 120, 121, 122]))) (.nm 1) (.seq (.var 0)) .no) .nil))
theorem b_kind2 : b__law_kind = (.cons (.ite (.and (.isi (.var 0) .int) (.not (.isi (.var 0) .bool))) (.cons (.ret (.cst (.str [110, 117, 109, 98, 101, 114]))) .nil) .nil) (.cons (.ite (.or (.not (.isi (.var 0) .str)) (.cmp .gt (.bi .len (.cons (.var 0) .nil)) (.cst (.int 12)))) (.cons (.ret (.cst .non)) .nil) .nil) (.cons (.ret (.ite allE (.cst (.str [116, 101, 120, 116])) (.cst .non))) .nil))) := rfl
theorem r_law_kind (n : Nat) (c : List D) : (∀ z, pg.run (n + 1) 13 [.int z] c = .ok (.val (.str numT)) c) ∧ (∀ x, Txt x → pg.run (n + 1) 13 [.str x] c = .ok (.val (.str txtT)) c) ∧ (∀ d ∈ odds, pg.run (n + 1) 13 [d] c = .ok (.val .non) c) := by
  refine ⟨fun z => rfl, fun x hx => ?_, fun d hd => ?_⟩
  · rw [run_at n 13 f__law_kind rfl _ _ rfl]
    have h3 : x.length ≤ 1000000 := by have := hx.1; omega
    have h4 : ¬ ((12 : Int) < x.length) := by have := hx.1; omega
    have h := ev_all (pg.wd n) (.cst (.str abc)) (fun s => rfl) x h3 c hx.2
    have h : ev (pg.wd n) allE ⟨[.val (.str x), .un], c⟩ = .ok (.val (.bl true)) ⟨[.val (.str x), .un], c⟩ := h
    simp [f__law_kind, b_kind2, execs, exec, ev, tst, Rs.bind, Rs.out, ER.rd, truth, Rs.of, entry, entryP, D.pd, isiD, evB, holdL, rdAll, biR, lenR, lim, h3, h4, ER.hold, cmpR, ltR, Out.seq, h, retR, ofOut]
    rfl
  · simp only [odds, List.mem_cons, List.not_mem_nil, or_false] at hd
    rcases hd with rfl | rfl | rfl | rfl | rfl | rfl | rfl | rfl | rfl | rfl | rfl | rfl | rfl | rfl | rfl <;> rfl
theorem r_is_value (n : Nat) (c : List D) : (∀ z, pg.run (n + 3) 3 [.int z] c = .ok (.val (.bl true)) c) ∧ (∀ x, Txt x → pg.run (n + 3) 3 [.str x] c = .ok (.val (.bl true)) c) ∧ (∀ d ∈ odds, pg.run (n + 3) 3 [d] c = .ok (.val (.bl false)) c) := by
  obtain ⟨k1, k2, k3⟩ := r_kind_of n []
  refine ⟨fun z => rfl, fun x hx => ?_, fun d hd => ?_⟩
  · rw [run_at (n + 2) 3 f_is_value rfl _ _ rfl]
    simp [f_is_value, b_is_value, execs, exec, ev, evB, evF, evO, evC, evI, holdL, ER.hold, rdAll, tst, Rs.bind, Rs.out, ER.rd, ER.fz, truth, Rs.of, entry, entryP, retR, ofOut, Out.seq, atS, ixOf, cmpR, ltR, biR, intcR, opR, addR, intR, tgs, setX, ixV, mutS, setAt, outO, Fr.put, stoR, doCall, lend, fzAll, pick, CR.rs, CV.er, wbr, wcall, wdf, brs, dfs, lenR, lim, eqR, D.flat, D.eqv, okT, putAll, k2 x hx, nonR, isNon]
  · rw [run_at (n + 2) 3 f_is_value rfl _ _ rfl]
    simp [f_is_value, b_is_value, execs, exec, ev, evB, evF, evO, evC, evI, holdL, ER.hold, rdAll, tst, Rs.bind, Rs.out, ER.rd, ER.fz, truth, Rs.of, entry, entryP, retR, ofOut, Out.seq, atS, ixOf, cmpR, ltR, biR, intcR, opR, addR, intR, tgs, setX, ixV, mutS, setAt, outO, Fr.put, stoR, doCall, lend, fzAll, pick, CR.rs, CV.er, wbr, wcall, wdf, brs, dfs, lenR, lim, eqR, D.flat, D.eqv, okT, putAll, k3 d hd, nonR, isNon]
/-! ### signs -/
def sgI (a b : Int) : Int := if a = b then 0 else if a < b then -1 else 1
def sgT (a b : Tx) : Int := if ltT b a then 1 else if ltT a b then -1 else 0
theorem r_compared_int (n : Nat) (c : List D) (a b : Int) : pg.run (n + 1) 4 [.int a, .int b] c = .ok (.val (.int (sgI a b))) c := by
  rw [run_at n 4 f_compared rfl _ _ rfl]
  have h : a = b ∨ a < b ∨ b < a := by omega
  rcases h with rfl | h | h
  · simp [f_compared, b_compared, execs, exec, ev, evB, evF, evO, evC, evI, holdL, ER.hold, rdAll, tst, Rs.bind, Rs.out, ER.rd, ER.fz, truth, Rs.of, entry, entryP, retR, ofOut, Out.seq, atS, ixOf, cmpR, ltR, biR, intcR, opR, addR, intR, tgs, setX, ixV, mutS, setAt, outO, Fr.put, stoR, doCall, lend, fzAll, pick, CR.rs, CV.er, wbr, wcall, wdf, brs, dfs, lenR, lim, eqR, D.flat, D.eqv, okT, putAll, sgI]
  · have h1 : ¬ b < a := by omega
    have h2 : a ≠ b := by omega
    simp [f_compared, b_compared, execs, exec, ev, evB, evF, evO, evC, evI, holdL, ER.hold, rdAll, tst, Rs.bind, Rs.out, ER.rd, ER.fz, truth, Rs.of, entry, entryP, retR, ofOut, Out.seq, atS, ixOf, cmpR, ltR, biR, intcR, opR, addR, intR, tgs, setX, ixV, mutS, setAt, outO, Fr.put, stoR, doCall, lend, fzAll, pick, CR.rs, CV.er, wbr, wcall, wdf, brs, dfs, lenR, lim, eqR, D.flat, D.eqv, okT, putAll, sgI, h, h1, h2]
  · have h1 : ¬ a < b := by omega
    have h2 : a ≠ b := by omega
    simp [f_compared, b_compared, execs, exec, ev, evB, evF, evO, evC, evI, holdL, ER.hold, rdAll, tst, Rs.bind, Rs.out, ER.rd, ER.fz, truth, Rs.of, entry, entryP, retR, ofOut, Out.seq, atS, ixOf, cmpR, ltR, biR, intcR, opR, addR, intR, tgs, setX, ixV, mutS, setAt, outO, Fr.put, stoR, doCall, lend, fzAll, pick, CR.rs, CV.er, wbr, wcall, wdf, brs, dfs, lenR, lim, eqR, D.flat, D.eqv, okT, putAll, sgI, h, h1, h2]
theorem ltT_asymm : ∀ x y : Tx, ltT x y = true → ltT y x = false
  | [], [], h => by cases h
  | [], _ :: _, _ => rfl
  | _ :: _, [], h => by cases h
  | a :: x, b :: y, h => by
    unfold ltT at h ⊢
    split at h
    · rename_i q
      rw [if_neg (by omega), if_pos q]
    · split at h
      · cases h
      · rename_i q1 q2
        rw [if_neg q2, if_neg q1]
        exact ltT_asymm x y h
theorem r_compared_str (n : Nat) (c : List D) (a b : Tx) : pg.run (n + 1) 4 [.str a, .str b] c = .ok (.val (.int (sgT a b))) c := by
  rw [run_at n 4 f_compared rfl _ _ rfl]
  cases h1 : ltT a b with
  | true =>
    have h2 := ltT_asymm a b h1
    simp [f_compared, b_compared, execs, exec, ev, evB, evF, evO, evC, evI, holdL, ER.hold, rdAll, tst, Rs.bind, Rs.out, ER.rd, ER.fz, truth, Rs.of, entry, entryP, retR, ofOut, Out.seq, atS, ixOf, cmpR, ltR, biR, intcR, opR, addR, intR, tgs, setX, ixV, mutS, setAt, outO, Fr.put, stoR, doCall, lend, fzAll, pick, CR.rs, CV.er, wbr, wcall, wdf, brs, dfs, lenR, lim, eqR, D.flat, D.eqv, okT, putAll, sgT, h1, h2]
  | false =>
    cases h2 : ltT b a with
    | true => simp [f_compared, b_compared, execs, exec, ev, evB, evF, evO, evC, evI, holdL, ER.hold, rdAll, tst, Rs.bind, Rs.out, ER.rd, ER.fz, truth, Rs.of, entry, entryP, retR, ofOut, Out.seq, atS, ixOf, cmpR, ltR, biR, intcR, opR, addR, intR, tgs, setX, ixV, mutS, setAt, outO, Fr.put, stoR, doCall, lend, fzAll, pick, CR.rs, CV.er, wbr, wcall, wdf, brs, dfs, lenR, lim, eqR, D.flat, D.eqv, okT, putAll, sgT, h1, h2]
    | false => simp [f_compared, b_compared, execs, exec, ev, evB, evF, evO, evC, evI, holdL, ER.hold, rdAll, tst, Rs.bind, Rs.out, ER.rd, ER.fz, truth, Rs.of, entry, entryP, retR, ofOut, Out.seq, atS, ixOf, cmpR, ltR, biR, intcR, opR, addR, intR, tgs, setX, ixV, mutS, setAt, outO, Fr.put, stoR, doCall, lend, fzAll, pick, CR.rs, CV.er, wbr, wcall, wdf, brs, dfs, lenR, lim, eqR, D.flat, D.eqv, okT, putAll, sgT, h1, h2]
theorem r_number_sign (n : Nat) (c : List D) (a b : Int) : pg.run (n + 1) 15 [.int a, .int b] c = .ok (.val (.int (sgI a b))) c := by
  rw [run_at n 15 f__law_number_sign rfl _ _ rfl]
  have h : a = b ∨ a < b ∨ b < a := by omega
  rcases h with rfl | h | h
  · simp [f__law_number_sign, b__law_number_sign, execs, exec, ev, evB, evF, evO, evC, evI, holdL, ER.hold, rdAll, tst, Rs.bind, Rs.out, ER.rd, ER.fz, truth, Rs.of, entry, entryP, retR, ofOut, Out.seq, atS, ixOf, cmpR, ltR, biR, intcR, opR, addR, intR, tgs, setX, ixV, mutS, setAt, outO, Fr.put, stoR, doCall, lend, fzAll, pick, CR.rs, CV.er, wbr, wcall, wdf, brs, dfs, lenR, lim, eqR, D.flat, D.eqv, okT, putAll, sgI]
  · have h1 : 0 < b - a := by omega
    have h2 : a ≠ b := by omega
    simp [f__law_number_sign, b__law_number_sign, execs, exec, ev, evB, evF, evO, evC, evI, holdL, ER.hold, rdAll, tst, Rs.bind, Rs.out, ER.rd, ER.fz, truth, Rs.of, entry, entryP, retR, ofOut, Out.seq, atS, ixOf, cmpR, ltR, biR, intcR, opR, addR, intR, tgs, setX, ixV, mutS, setAt, outO, Fr.put, stoR, doCall, lend, fzAll, pick, CR.rs, CV.er, wbr, wcall, wdf, brs, dfs, lenR, lim, eqR, D.flat, D.eqv, okT, putAll, sgI, h, h1, h2]
  · have h1 : ¬ 0 < b - a := by omega
    have h2 : a ≠ b := by omega
    have h3 : ¬ a < b := by omega
    simp [f__law_number_sign, b__law_number_sign, execs, exec, ev, evB, evF, evO, evC, evI, holdL, ER.hold, rdAll, tst, Rs.bind, Rs.out, ER.rd, ER.fz, truth, Rs.of, entry, entryP, retR, ofOut, Out.seq, atS, ixOf, cmpR, ltR, biR, intcR, opR, addR, intR, tgs, setX, ixV, mutS, setAt, outO, Fr.put, stoR, doCall, lend, fzAll, pick, CR.rs, CV.er, wbr, wcall, wdf, brs, dfs, lenR, lim, eqR, D.flat, D.eqv, okT, putAll, sgI, h, h1, h2, h3]
/-! ### texts letter by letter -/
def tsB : ISs := (.cons (.ite (.cmp .ne (.var 3) (.var 4)) (.cons (.ret (.idx (.lst (.cons (.neg (.cst (.int 1))) (.cons (.cst (.int 1)) .nil))) (.bi .int (.cons (.cmp .gt (.mth .index (.var 2) (.cons (.var 3) .nil)) (.mth .index (.var 2) (.cons (.var 4) .nil))) .nil)))) .nil) .nil) .nil)
def tsF (w : Wd) : D → Fr → Out := fun x s => match (Tg.tp [3, 4]).bind x s with
    | none => .stuck
    | some s => execs w tsB s
theorem abc_ix (k : Nat) (h1 : 97 ≤ k) (h2 : k ≤ 122) : abc.findIdx? (· == k) = some (k - 97) := by
  obtain ⟨j, rfl⟩ : ∃ j, k = 97 + j := ⟨k - 97, by omega⟩
  have : ∀ j, j < 26 → abc.findIdx? (· == 97 + j) = some (97 + j - 97) := by decide
  exact this j (by omega)
theorem ts_go (w : Wd) (A B : Tx) (c : List D) : ∀ (x y : Tx) (z3 z4 : Sl), (∀ k ∈ x, 97 ≤ k ∧ k ≤ 122) → (∀ k ∈ y, 97 ≤ k ∧ k ≤ 122) →
    (∃ s3 s4, loopGo (tsF w) (zipD (x.map fun k => .str [k]) (y.map fun k => .str [k])) ⟨[.val (.str A), .val (.str B), .val (.str abc), z3, z4], c⟩ = .ret (.val (.int (sgT x y))) ⟨[.val (.str A), .val (.str B), .val (.str abc), s3, s4], c⟩) ∨
    (sgT x y = sgI x.length y.length ∧ ∃ s3 s4, loopGo (tsF w) (zipD (x.map fun k => .str [k]) (y.map fun k => .str [k])) ⟨[.val (.str A), .val (.str B), .val (.str abc), z3, z4], c⟩ = .next ⟨[.val (.str A), .val (.str B), .val (.str abc), s3, s4], c⟩)
  | [], [], z3, z4, _, _ => .inr ⟨rfl, z3, z4, rfl⟩
  | [], k :: y, z3, z4, _, _ => .inr ⟨by simp [sgT, ltT, sgI]; omega, z3, z4, rfl⟩
  | k :: x, [], z3, z4, _, _ => .inr ⟨by simp [sgT, ltT, sgI]; omega, z3, z4, rfl⟩
  | p :: x, q :: y, z3, z4, hx, hy => by
    obtain ⟨p0, p1⟩ := hx p (by simp)
    obtain ⟨q0, q1⟩ := hy q (by simp)
    have ip := abc_ix p p0 p1
    have iq := abc_ix q q0 q1
    have fp : p < 55296 := by omega
    have fq : q < 55296 := by omega
    have hz : zipD ((p :: x).map fun k => D.str [k]) ((q :: y).map fun k => D.str [k]) = .tup [.str [p], .str [q]] :: zipD (x.map fun k => D.str [k]) (y.map fun k => D.str [k]) := rfl
    rw [hz]
    by_cases e : p = q
    · subst e
      have hf : tsF w (.tup [.str [p], .str [p]]) ⟨[.val (.str A), .val (.str B), .val (.str abc), z3, z4], c⟩ = .next ⟨[.val (.str A), .val (.str B), .val (.str abc), .val (.str [p]), .val (.str [p])], c⟩ := by
        simp [tsF, tsB, Tg.bind, execs, exec, ev, evB, evF, evO, evC, evI, holdL, ER.hold, rdAll, tst, Rs.bind, Rs.out, ER.rd, ER.fz, truth, Rs.of, entry, entryP, retR, ofOut, Out.seq, atS, ixOf, cmpR, ltR, biR, intcR, opR, addR, intR, tgs, setX, ixV, mutS, setAt, outO, Fr.put, stoR, doCall, lend, fzAll, pick, CR.rs, CV.er, wbr, wcall, wdf, brs, dfs, lenR, lim, eqR, D.flat, D.eqv, okT, putAll, fp]
      have hs : sgT (p :: x) (p :: y) = sgT x y := by simp [sgT, ltT]
      have hl : sgI (p :: x).length (p :: y).length = sgI x.length y.length := by simp [sgI]
      simp only [loopGo, hf]
      rw [hs, hl]
      exact ts_go w A B c x y _ _ (fun k hk => hx k (by simp [hk])) fun k hk => hy k (by simp [hk])
    · refine .inl ⟨.val (.str [p]), .val (.str [q]), ?_⟩
      have hc : p < q ∨ q < p := by omega
      rcases hc with hc | hc
      · have hs : sgT (p :: x) (q :: y) = -1 := by
          have : ¬ q < p := by omega
          simp [sgT, ltT, hc, this]
        have hi : ¬ (((q - 97 : Nat) : Int) < ((p - 97 : Nat) : Int)) := by omega
        have hf : tsF w (.tup [.str [p], .str [q]]) ⟨[.val (.str A), .val (.str B), .val (.str abc), z3, z4], c⟩ = .ret (.val (.int (-1))) ⟨[.val (.str A), .val (.str B), .val (.str abc), .val (.str [p]), .val (.str [q])], c⟩ := by
          simp [tsF, tsB, Tg.bind, execs, exec, ev, evB, evF, evO, evC, evI, holdL, ER.hold, rdAll, tst, Rs.bind, Rs.out, ER.rd, ER.fz, truth, Rs.of, entry, entryP, retR, ofOut, Out.seq, atS, ixOf, cmpR, ltR, biR, intcR, opR, addR, intR, tgs, setX, ixV, mutS, setAt, outO, Fr.put, stoR, doCall, lend, fzAll, pick, CR.rs, CV.er, wbr, wcall, wdf, brs, dfs, lenR, lim, eqR, D.flat, D.eqv, okT, putAll, fp, fq, e, mthR, indexR, ip, iq, hi]
        simp only [loopGo, hf, hs]
      · have hs : sgT (p :: x) (q :: y) = 1 := by
          have : ¬ p < q := by omega
          simp [sgT, ltT, hc, this]
        have hi : ((q - 97 : Nat) : Int) < ((p - 97 : Nat) : Int) := by omega
        have hf : tsF w (.tup [.str [p], .str [q]]) ⟨[.val (.str A), .val (.str B), .val (.str abc), z3, z4], c⟩ = .ret (.val (.int 1)) ⟨[.val (.str A), .val (.str B), .val (.str abc), .val (.str [p]), .val (.str [q])], c⟩ := by
          simp [tsF, tsB, Tg.bind, execs, exec, ev, evB, evF, evO, evC, evI, holdL, ER.hold, rdAll, tst, Rs.bind, Rs.out, ER.rd, ER.fz, truth, Rs.of, entry, entryP, retR, ofOut, Out.seq, atS, ixOf, cmpR, ltR, biR, intcR, opR, addR, intR, tgs, setX, ixV, mutS, setAt, outO, Fr.put, stoR, doCall, lend, fzAll, pick, CR.rs, CV.er, wbr, wcall, wdf, brs, dfs, lenR, lim, eqR, D.flat, D.eqv, okT, putAll, fp, fq, e, mthR, indexR, ip, iq, hi]
        simp only [loopGo, hf, hs]
theorem r_text_sign (n : Nat) (c : List D) (a b : Tx) (ha : Txt a) (hb : Txt b) : pg.run (n + 2) 14 [.str a, .str b] c = .ok (.val (.int (sgT a b))) c := by
  rw [run_at (n + 1) 14 f__law_text_sign rfl _ _ rfl]
  have la : a.length ≤ 1000000 := by have := ha.1; omega
  have lb : b.length ≤ 1000000 := by have := hb.1; omega
  have hn := r_number_sign n [] a.length b.length
  have e0 : ofOut (execs (pg.wd (n + 1)) f__law_text_sign.body ⟨entry f__law_text_sign [.str a, .str b], c⟩) = ofOut ((loopGo (tsF (pg.wd (n + 1))) (zipD (a.map fun k => .str [k]) (b.map fun k => .str [k])) ⟨[.val (.str a), .val (.str b), .val (.str abc), .un, .un], c⟩).seq fun s => execs (pg.wd (n + 1)) (.cons (.ret (.call 15 [0, 1] (.cons (.bi .len (.cons (.var 0) .nil)) (.cons (.bi .len (.cons (.var 1) .nil)) .nil)))) .nil) s) := rfl
  rw [e0]
  rcases ts_go (pg.wd (n + 1)) a b c a b .un .un ha.2 hb.2 with ⟨s3, s4, h⟩ | ⟨hs, s3, s4, h⟩
  · rw [h]
    rfl
  · rw [h, hs]
    simp [execs, exec, ev, evB, evF, evO, evC, evI, holdL, ER.hold, rdAll, tst, Rs.bind, Rs.out, ER.rd, ER.fz, truth, Rs.of, entry, entryP, retR, ofOut, Out.seq, atS, ixOf, cmpR, ltR, biR, intcR, opR, addR, intR, tgs, setX, ixV, mutS, setAt, outO, Fr.put, stoR, doCall, lend, fzAll, pick, CR.rs, CV.er, wbr, wcall, wdf, brs, dfs, lenR, lim, eqR, D.flat, D.eqv, okT, putAll, la, lb, hn]
end K12
set_option maxRecDepth 100000
set_option maxHeartbeats 8000000
namespace K12
open Pi
abbrev ivT : Tx := [73, 110, 118, 97, 108, 105, 100, 86, 97, 108, 117, 101]
abbrev ulT : Tx := [85, 110, 108, 105, 107, 101]
abbrev vaT : Tx := [118, 97, 108, 117, 101]
theorem winit (m : Nat) (c : Tx) (ds : List D) : (pg.wd m).init c ds = if 2 ≤ m then initT c ds else none := rfl
theorem wcl (m : Nat) : (pg.wd m).cl = clT := rfl
theorem in_iv (d : D) : initT ivT [d] = some [(vaT, d)] := rfl
theorem in_ul : initT ulT [] = some [] := rfl
theorem lv2 (n : Nat) : 2 ≤ n + 3 := by omega
/-- a value, no value -/
theorem sg_odd1 (n : Nat) (x y : D) (c : List D) (hx : x ∈ odds) : pg.run (n + 4) 5 [x, y] c = .exc ivT [(vaT, x)] c := by
  have v := (r_is_value n []).2.2 x hx
  rw [run_at (n + 3) 5 f_sign_of rfl _ _ rfl]
  simp [f_sign_of, b_sign_of, execs, exec, ev, evB, evF, evO, evC, evI, holdL, ER.hold, rdAll, tst, Rs.bind, Rs.out, ER.rd, ER.fz, truth, Rs.of, entry, entryP, retR, ofOut, Out.seq, atS, ixOf, cmpR, ltR, biR, intcR, opR, addR, intR, tgs, setX, ixV, mutS, setAt, outO, Fr.put, stoR, doCall, lend, fzAll, pick, CR.rs, CV.er, wbr, wcall, wdf, brs, dfs, lenR, lim, eqR, D.flat, D.eqv, okT, putAll, loopGo, Tg.bind, itemsD, v, winit, lv2, in_iv]
theorem sg_odd2 (n : Nat) (x y : D) (c : List D) (hv : pg.run (n + 3) 3 [x] [] = .ok (.val (.bl true)) []) (hy : y ∈ odds) : pg.run (n + 4) 5 [x, y] c = .exc ivT [(vaT, y)] c := by
  have v := (r_is_value n []).2.2 y hy
  rw [run_at (n + 3) 5 f_sign_of rfl _ _ rfl]
  simp [f_sign_of, b_sign_of, execs, exec, ev, evB, evF, evO, evC, evI, holdL, ER.hold, rdAll, tst, Rs.bind, Rs.out, ER.rd, ER.fz, truth, Rs.of, entry, entryP, retR, ofOut, Out.seq, atS, ixOf, cmpR, ltR, biR, intcR, opR, addR, intR, tgs, setX, ixV, mutS, setAt, outO, Fr.put, stoR, doCall, lend, fzAll, pick, CR.rs, CV.er, wbr, wcall, wdf, brs, dfs, lenR, lim, eqR, D.flat, D.eqv, okT, putAll, loopGo, Tg.bind, itemsD, hv, v, winit, lv2, in_iv]
theorem sg_ii (n : Nat) (a b : Int) (c : List D) : pg.run (n + 4) 5 [.int a, .int b] c = .ok (.val (.int (sgI a b))) c := by
  obtain ⟨v1, _, _⟩ := r_is_value n []
  obtain ⟨k1, _, _⟩ := r_kind_of (n + 1) []
  rw [run_at (n + 3) 5 f_sign_of rfl _ _ rfl]
  simp [f_sign_of, b_sign_of, execs, exec, ev, evB, evF, evO, evC, evI, holdL, ER.hold, rdAll, tst, Rs.bind, Rs.out, ER.rd, ER.fz, truth, Rs.of, entry, entryP, retR, ofOut, Out.seq, atS, ixOf, cmpR, ltR, biR, intcR, opR, addR, intR, tgs, setX, ixV, mutS, setAt, outO, Fr.put, stoR, doCall, lend, fzAll, pick, CR.rs, CV.er, wbr, wcall, wdf, brs, dfs, lenR, lim, eqR, D.flat, D.eqv, okT, putAll, loopGo, Tg.bind, itemsD, v1, k1, numT, r_compared_int (n + 2) [] a b]
theorem sg_tt (n : Nat) (a b : Tx) (ha : Txt a) (hb : Txt b) (c : List D) : pg.run (n + 4) 5 [.str a, .str b] c = .ok (.val (.int (sgT a b))) c := by
  obtain ⟨_, v1, _⟩ := r_is_value n []
  obtain ⟨_, k1, _⟩ := r_kind_of (n + 1) []
  rw [run_at (n + 3) 5 f_sign_of rfl _ _ rfl]
  simp [f_sign_of, b_sign_of, execs, exec, ev, evB, evF, evO, evC, evI, holdL, ER.hold, rdAll, tst, Rs.bind, Rs.out, ER.rd, ER.fz, truth, Rs.of, entry, entryP, retR, ofOut, Out.seq, atS, ixOf, cmpR, ltR, biR, intcR, opR, addR, intR, tgs, setX, ixV, mutS, setAt, outO, Fr.put, stoR, doCall, lend, fzAll, pick, CR.rs, CV.er, wbr, wcall, wdf, brs, dfs, lenR, lim, eqR, D.flat, D.eqv, okT, putAll, loopGo, Tg.bind, itemsD, v1 a ha, v1 b hb, k1 a ha, k1 b hb, txtT, r_compared_str (n + 2) [] a b]
theorem sg_it (n : Nat) (a : Int) (b : Tx) (hb : Txt b) (c : List D) : pg.run (n + 4) 5 [.int a, .str b] c = .exc ulT [] c := by
  obtain ⟨v0, v1, _⟩ := r_is_value n []
  obtain ⟨k0, k1, _⟩ := r_kind_of (n + 1) []
  rw [run_at (n + 3) 5 f_sign_of rfl _ _ rfl]
  simp [f_sign_of, b_sign_of, execs, exec, ev, evB, evF, evO, evC, evI, holdL, ER.hold, rdAll, tst, Rs.bind, Rs.out, ER.rd, ER.fz, truth, Rs.of, entry, entryP, retR, ofOut, Out.seq, atS, ixOf, cmpR, ltR, biR, intcR, opR, addR, intR, tgs, setX, ixV, mutS, setAt, outO, Fr.put, stoR, doCall, lend, fzAll, pick, CR.rs, CV.er, wbr, wcall, wdf, brs, dfs, lenR, lim, eqR, D.flat, D.eqv, okT, putAll, loopGo, Tg.bind, itemsD, v0 a, v1 b hb, k0 a, k1 b hb, txtT, numT, winit, lv2, in_ul]
theorem sg_ti (n : Nat) (a : Int) (b : Tx) (hb : Txt b) (c : List D) : pg.run (n + 4) 5 [.str b, .int a] c = .exc ulT [] c := by
  obtain ⟨v0, v1, _⟩ := r_is_value n []
  obtain ⟨k0, k1, _⟩ := r_kind_of (n + 1) []
  rw [run_at (n + 3) 5 f_sign_of rfl _ _ rfl]
  simp [f_sign_of, b_sign_of, execs, exec, ev, evB, evF, evO, evC, evI, holdL, ER.hold, rdAll, tst, Rs.bind, Rs.out, ER.rd, ER.fz, truth, Rs.of, entry, entryP, retR, ofOut, Out.seq, atS, ixOf, cmpR, ltR, biR, intcR, opR, addR, intR, tgs, setX, ixV, mutS, setAt, outO, Fr.put, stoR, doCall, lend, fzAll, pick, CR.rs, CV.er, wbr, wcall, wdf, brs, dfs, lenR, lim, eqR, D.flat, D.eqv, okT, putAll, loopGo, Tg.bind, itemsD, v0 a, v1 b hb, k0 a, k1 b hb, txtT, numT, winit, lv2, in_ul]
end K12
set_option maxRecDepth 100000
set_option maxHeartbeats 8000000
namespace K12
open Pi
abbrev peT : Tx := [80, 97, 105, 114, 69, 114, 114, 111, 114]
abbrev icT : Tx := [73, 110, 118, 97, 108, 105, 100, 67, 111, 117, 110, 116]
abbrev inT : Tx := [73, 110, 118, 97, 108, 105, 100, 78, 97, 109, 101]
abbrev itT : Tx := [73, 110, 118, 97, 108, 105, 100, 84, 101, 120, 116]
abbrev ieT : Tx := [73, 110, 118, 97, 108, 105, 100, 86, 101, 99, 116, 111, 114]
theorem cl_iv : clT ivT (.own ulT) = some false ∧ clT ivT (.own peT) = some true ∧ clT ivT (.own icT) = some false ∧ clT ivT (.own inT) = some false ∧ clT ivT (.own itT) = some false ∧ clT ivT (.own ieT) = some false ∧ clT ivT .ve = some true ∧ clT ivT (.own ivT) = some true := ⟨rfl, rfl, rfl, rfl, rfl, rfl, rfl, rfl⟩
theorem cl_ul : clT ulT (.own ulT) = some true ∧ clT ulT .re = some true ∧ clT ulT (.own peT) = some false := ⟨rfl, rfl, rfl⟩
def repOk (d : D) : Bool := match reprD d with
  | some (.str r) => okT r
  | _ => false
theorem rep_of {d : D} (h : repOk d = true) : ∃ r, reprD d = some (.str r) ∧ okT r = true := by
  unfold repOk at h
  split at h
  · rename_i r q
    exact ⟨r, q, h⟩
  · cases h
theorem rep_odds : odds.all repOk = true := by decide +kernel
theorem rep_m : repOk (.int (-1)) = true := by decide +kernel
theorem rep_0 : repOk (.int 0) = true := by decide +kernel
theorem rep_1 : repOk (.int 1) = true := by decide +kernel
theorem rep_sI (a b : Int) : repOk (.int (sgI a b)) = true := by
  unfold sgI
  split
  · exact rep_0
  · split
    · exact rep_m
    · exact rep_1
theorem rep_sT (a b : Tx) : repOk (.int (sgT a b)) = true := by
  unfold sgT
  split
  · exact rep_1
  · split
    · exact rep_m
    · exact rep_0
/-- told, by what sign_of does -/
theorem told_ok (n : Nat) (x y : D) (nm : Bool) (z : Int) (r : Tx) (h : pg.run n 5 [x, y] [] = .ok (.val (.int z)) []) (hr : reprD (.int z) = some (.str r)) : pg.run (n + 1) 17 [x, y, .bl nm] [] = .ok (.fresh [.str [116, 111, 108, 100], .str r]) [] := by
  rw [run_at n 17 f__law_told rfl _ _ rfl]
  cases nm <;> simp [f__law_told, b__law_told, execs, exec, ev, evB, evF, evO, evC, evI, holdL, ER.hold, rdAll, tst, Rs.bind, Rs.out, ER.rd, ER.fz, truth, Rs.of, entry, entryP, retR, ofOut, Out.seq, atS, ixOf, cmpR, ltR, biR, intcR, opR, addR, intR, tgs, setX, ixV, mutS, setAt, outO, Fr.put, stoR, doCall, lend, fzAll, pick, CR.rs, CV.er, wbr, wcall, wdf, brs, dfs, lenR, lim, eqR, D.flat, D.eqv, okT, putAll, loopGo, Tg.bind, itemsD, h, reprR, hr]
theorem told_iv (n : Nat) (x y d : D) (nm : Bool) (r : Tx) (h : pg.run n 5 [x, y] [] = .exc ivT [(vaT, d)] []) (hr : reprD d = some (.str r)) : pg.run (n + 1) 17 [x, y, .bl nm] [] = .ok (.fresh [.str [105, 110, 118, 97, 108, 105, 100], .str r]) [] := by
  rw [run_at n 17 f__law_told rfl _ _ rfl]
  cases nm <;> simp [f__law_told, b__law_told, execs, exec, ev, evB, evF, evO, evC, evI, holdL, ER.hold, rdAll, tst, Rs.bind, Rs.out, ER.rd, ER.fz, truth, Rs.of, entry, entryP, retR, ofOut, Out.seq, atS, ixOf, cmpR, ltR, biR, intcR, opR, addR, intR, tgs, setX, ixV, mutS, setAt, outO, Fr.put, stoR, doCall, lend, fzAll, pick, CR.rs, CV.er, wbr, wcall, wdf, brs, dfs, lenR, lim, eqR, D.flat, D.eqv, okT, putAll, loopGo, Tg.bind, itemsD, h, hand, wcl, cl_iv, anyCl, exCl, Out.drop, reprR, hr, List.lookup]
theorem told_ul (n : Nat) (x y : D) (nm : Bool) (h : pg.run n 5 [x, y] [] = .exc ulT [] []) : pg.run (n + 1) 17 [x, y, .bl nm] [] = .ok (.fresh [.str [117, 110, 108, 105, 107, 101]]) [] := by
  rw [run_at n 17 f__law_told rfl _ _ rfl]
  cases nm <;> simp [f__law_told, b__law_told, execs, exec, ev, evB, evF, evO, evC, evI, holdL, ER.hold, rdAll, tst, Rs.bind, Rs.out, ER.rd, ER.fz, truth, Rs.of, entry, entryP, retR, ofOut, Out.seq, atS, ixOf, cmpR, ltR, biR, intcR, opR, addR, intR, tgs, setX, ixV, mutS, setAt, outO, Fr.put, stoR, doCall, lend, fzAll, pick, CR.rs, CV.er, wbr, wcall, wdf, brs, dfs, lenR, lim, eqR, D.flat, D.eqv, okT, putAll, loopGo, Tg.bind, itemsD, h, hand, wcl, cl_ul, anyCl, exCl, Out.drop]
/-- due -/
theorem due_1 (n : Nat) (x y : D) (r : Tx) (hk : pg.run n 13 [x] [] = .ok (.val .non) []) (hr : reprD x = some (.str r)) : pg.run (n + 1) 16 [x, y] [] = .ok (.fresh [.str [105, 110, 118, 97, 108, 105, 100], .str r]) [] := by
  rw [run_at n 16 f__law_due rfl _ _ rfl]
  simp [f__law_due, b__law_due, execs, exec, ev, evB, evF, evO, evC, evI, holdL, ER.hold, rdAll, tst, Rs.bind, Rs.out, ER.rd, ER.fz, truth, Rs.of, entry, entryP, retR, ofOut, Out.seq, atS, ixOf, cmpR, ltR, biR, intcR, opR, addR, intR, tgs, setX, ixV, mutS, setAt, outO, Fr.put, stoR, doCall, lend, fzAll, pick, CR.rs, CV.er, wbr, wcall, wdf, brs, dfs, lenR, lim, eqR, D.flat, D.eqv, okT, putAll, loopGo, Tg.bind, itemsD, hk, nonR, isNon, reprR, hr]
theorem due_2 (n : Nat) (x y : D) (k r : Tx) (hx : pg.run n 13 [x] [] = .ok (.val (.str k)) []) (hk : pg.run n 13 [y] [] = .ok (.val .non) []) (hr : reprD y = some (.str r)) : pg.run (n + 1) 16 [x, y] [] = .ok (.fresh [.str [105, 110, 118, 97, 108, 105, 100], .str r]) [] := by
  rw [run_at n 16 f__law_due rfl _ _ rfl]
  simp [f__law_due, b__law_due, execs, exec, ev, evB, evF, evO, evC, evI, holdL, ER.hold, rdAll, tst, Rs.bind, Rs.out, ER.rd, ER.fz, truth, Rs.of, entry, entryP, retR, ofOut, Out.seq, atS, ixOf, cmpR, ltR, biR, intcR, opR, addR, intR, tgs, setX, ixV, mutS, setAt, outO, Fr.put, stoR, doCall, lend, fzAll, pick, CR.rs, CV.er, wbr, wcall, wdf, brs, dfs, lenR, lim, eqR, D.flat, D.eqv, okT, putAll, loopGo, Tg.bind, itemsD, hx, hk, nonR, isNon, reprR, hr]
theorem due_u1 (n : Nat) (x y : D) (hx : pg.run n 13 [x] [] = .ok (.val (.str numT)) []) (hy : pg.run n 13 [y] [] = .ok (.val (.str txtT)) []) : pg.run (n + 1) 16 [x, y] [] = .ok (.fresh [.str [117, 110, 108, 105, 107, 101]]) [] := by
  rw [run_at n 16 f__law_due rfl _ _ rfl]
  simp [f__law_due, b__law_due, execs, exec, ev, evB, evF, evO, evC, evI, holdL, ER.hold, rdAll, tst, Rs.bind, Rs.out, ER.rd, ER.fz, truth, Rs.of, entry, entryP, retR, ofOut, Out.seq, atS, ixOf, cmpR, ltR, biR, intcR, opR, addR, intR, tgs, setX, ixV, mutS, setAt, outO, Fr.put, stoR, doCall, lend, fzAll, pick, CR.rs, CV.er, wbr, wcall, wdf, brs, dfs, lenR, lim, eqR, D.flat, D.eqv, okT, putAll, loopGo, Tg.bind, itemsD, hx, hy, nonR, isNon, numT, txtT]
theorem due_u2 (n : Nat) (x y : D) (hx : pg.run n 13 [x] [] = .ok (.val (.str txtT)) []) (hy : pg.run n 13 [y] [] = .ok (.val (.str numT)) []) : pg.run (n + 1) 16 [x, y] [] = .ok (.fresh [.str [117, 110, 108, 105, 107, 101]]) [] := by
  rw [run_at n 16 f__law_due rfl _ _ rfl]
  simp [f__law_due, b__law_due, execs, exec, ev, evB, evF, evO, evC, evI, holdL, ER.hold, rdAll, tst, Rs.bind, Rs.out, ER.rd, ER.fz, truth, Rs.of, entry, entryP, retR, ofOut, Out.seq, atS, ixOf, cmpR, ltR, biR, intcR, opR, addR, intR, tgs, setX, ixV, mutS, setAt, outO, Fr.put, stoR, doCall, lend, fzAll, pick, CR.rs, CV.er, wbr, wcall, wdf, brs, dfs, lenR, lim, eqR, D.flat, D.eqv, okT, putAll, loopGo, Tg.bind, itemsD, hx, hy, nonR, isNon, numT, txtT]
theorem due_n (n : Nat) (x y : D) (z : Int) (r : Tx) (hx : pg.run n 13 [x] [] = .ok (.val (.str numT)) []) (hy : pg.run n 13 [y] [] = .ok (.val (.str numT)) []) (h : pg.run n 15 [x, y] [] = .ok (.val (.int z)) []) (hr : reprD (.int z) = some (.str r)) : pg.run (n + 1) 16 [x, y] [] = .ok (.fresh [.str [116, 111, 108, 100], .str r]) [] := by
  rw [run_at n 16 f__law_due rfl _ _ rfl]
  simp [f__law_due, b__law_due, execs, exec, ev, evB, evF, evO, evC, evI, holdL, ER.hold, rdAll, tst, Rs.bind, Rs.out, ER.rd, ER.fz, truth, Rs.of, entry, entryP, retR, ofOut, Out.seq, atS, ixOf, cmpR, ltR, biR, intcR, opR, addR, intR, tgs, setX, ixV, mutS, setAt, outO, Fr.put, stoR, doCall, lend, fzAll, pick, CR.rs, CV.er, wbr, wcall, wdf, brs, dfs, lenR, lim, eqR, D.flat, D.eqv, okT, putAll, loopGo, Tg.bind, itemsD, hx, hy, nonR, isNon, numT, txtT, h, reprR, hr]
theorem due_t (n : Nat) (x y : D) (z : Int) (r : Tx) (hx : pg.run n 13 [x] [] = .ok (.val (.str txtT)) []) (hy : pg.run n 13 [y] [] = .ok (.val (.str txtT)) []) (h : pg.run n 14 [x, y] [] = .ok (.val (.int z)) []) (hr : reprD (.int z) = some (.str r)) : pg.run (n + 1) 16 [x, y] [] = .ok (.fresh [.str [116, 111, 108, 100], .str r]) [] := by
  rw [run_at n 16 f__law_due rfl _ _ rfl]
  simp [f__law_due, b__law_due, execs, exec, ev, evB, evF, evO, evC, evI, holdL, ER.hold, rdAll, tst, Rs.bind, Rs.out, ER.rd, ER.fz, truth, Rs.of, entry, entryP, retR, ofOut, Out.seq, atS, ixOf, cmpR, ltR, biR, intcR, opR, addR, intR, tgs, setX, ixV, mutS, setAt, outO, Fr.put, stoR, doCall, lend, fzAll, pick, CR.rs, CV.er, wbr, wcall, wdf, brs, dfs, lenR, lim, eqR, D.flat, D.eqv, okT, putAll, loopGo, Tg.bind, itemsD, hx, hy, nonR, isNon, numT, txtT, h, reprR, hr]
end K12
set_option maxRecDepth 100000
set_option maxHeartbeats 8000000
namespace K12
open Pi
theorem same_of {s : Tx} {r : Tx} (h1 : okT s = true) (h2 : okT r = true) : flatL 29 [.str s, .str r] = true ∧ eqvL [.str s, .str r] [.str s, .str r] = true := by
  constructor
  · simp [flatL, D.flat, h1, h2]
  · simp [eqvL, D.eqv]
theorem r_same (n : Nat) (x y : D) (gx : Good x) (gy : Good y) (nm : Bool) : ∃ l, flatL 29 l = true ∧ eqvL l l = true ∧ pg.run (n + 5) 17 [x, y, .bl nm] [] = .ok (.fresh l) [] ∧ pg.run (n + 5) 16 [x, y] [] = .ok (.fresh l) [] := by
  obtain ⟨k0, k1, k2⟩ := r_law_kind (n + 3) []
  obtain ⟨v0, v1, _⟩ := r_is_value n []
  have oi : okT [105, 110, 118, 97, 108, 105, 100] = true := by decide
  have ot : okT [116, 111, 108, 100] = true := by decide
  have odd1 : ∀ d ∈ odds, ∀ y : D, x = d → ∃ l, flatL 29 l = true ∧ eqvL l l = true ∧ pg.run (n + 5) 17 [x, y, .bl nm] [] = .ok (.fresh l) [] ∧ pg.run (n + 5) 16 [x, y] [] = .ok (.fresh l) [] := by
    intro d hd y e
    subst e
    obtain ⟨r, hr, ho⟩ := rep_of (List.all_eq_true.mp rep_odds x hd)
    obtain ⟨f1, f2⟩ := same_of oi ho
    exact ⟨_, f1, f2, told_iv (n + 4) x y x nm r (sg_odd1 n x y [] hd) hr, due_1 (n + 4) x y r (k2 x hd) hr⟩
  have odd2 : ∀ k : Tx, pg.run (n + 3) 3 [x] [] = .ok (.val (.bl true)) [] → pg.run (n + 4) 13 [x] [] = .ok (.val (.str k)) [] → y ∈ odds → ∃ l, flatL 29 l = true ∧ eqvL l l = true ∧ pg.run (n + 5) 17 [x, y, .bl nm] [] = .ok (.fresh l) [] ∧ pg.run (n + 5) 16 [x, y] [] = .ok (.fresh l) [] := by
    intro k hv hk hd
    obtain ⟨r, hr, ho⟩ := rep_of (List.all_eq_true.mp rep_odds y hd)
    obtain ⟨f1, f2⟩ := same_of oi ho
    exact ⟨_, f1, f2, told_iv (n + 4) x y y nm r (sg_odd2 n x y [] hv hd) hr, due_2 (n + 4) x y k r hk (k2 y hd) hr⟩
  cases gx with
  | odd d hd => exact odd1 x hd y rfl
  | int a =>
    cases gy with
    | odd d hd => exact odd2 numT (v0 a) (k0 a) hd
    | int b =>
      obtain ⟨r, hr, ho⟩ := rep_of (rep_sI a b)
      obtain ⟨f1, f2⟩ := same_of ot ho
      exact ⟨_, f1, f2, told_ok (n + 4) _ _ nm _ r (sg_ii n a b []) hr, due_n (n + 4) _ _ _ r (k0 a) (k0 b) (r_number_sign (n + 3) [] a b) hr⟩
    | txt b hb => exact ⟨_, by decide, by decide, told_ul (n + 4) _ _ nm (sg_it n a b hb []), due_u1 (n + 4) _ _ (k0 a) (k1 b hb)⟩
  | txt a ha =>
    cases gy with
    | odd d hd => exact odd2 txtT (v1 a ha) (k1 a ha) hd
    | int b => exact ⟨_, by decide, by decide, told_ul (n + 4) _ _ nm (sg_ti n b a ha []), due_u2 (n + 4) _ _ (k1 a ha) (k0 b)⟩
    | txt b hb =>
      obtain ⟨r, hr, ho⟩ := rep_of (rep_sT a b)
      obtain ⟨f1, f2⟩ := same_of ot ho
      exact ⟨_, f1, f2, told_ok (n + 4) _ _ nm _ r (sg_tt n a b ha hb []) hr, due_t (n + 4) _ _ _ r (k1 a ha) (k1 b hb) (r_text_sign (n + 2) [] a b ha hb) hr⟩
theorem r_rng (n : Nat) (xs : List Int) (k : Int) (c : List D) (h0 : 0 ≤ k) (h1 : k < 900) : ∃ a b, pg.run (n + 1) 6 [.scr (xs.map .int), .int k] c = .ok (.fresh [.int a, .int b]) c := by
  rw [run_at n 6 f__law_rng rfl _ _ rfl]
  have hw : ∀ v : Int, w64 (v % 2147483579 + 1) = true := fun v => by
    have e1 := Int.emod_nonneg v (show (2147483579 : Int) ≠ 0 by decide)
    have e2 := Int.emod_lt_of_pos v (show (0 : Int) < 2147483579 by decide)
    simp only [w64, Bool.and_eq_true, decide_eq_true_eq]
    omega
  have hp : (k + 3).natAbs < 1000 := by omega
  have w7 : w64 7 = true := by decide
  by_cases hk : k < xs.length
  · obtain ⟨v, hv⟩ : ∃ v, xs[k.toNat]? = some v := ⟨xs[k.toNat], List.getElem?_eq_getElem (by omega)⟩
    refine ⟨if (if v < 0 then -v else v) - 1000000000000000000 > 0 then (if v < 0 then -v else v) - 1000000000000000000 else 0, ((if v < 0 then -v else v) % 2147483579 + 1) * (k + 3) ^ 3 % 2147483563 + 1, ?_⟩
    generalize hab : (if v < 0 then -v else v) = av
    simp [f__law_rng, b__law_rng, execs, exec, ev, evB, evF, evO, evC, evI, holdL, ER.hold, rdAll, tst, Rs.bind, Rs.out, ER.rd, ER.fz, truth, Rs.of, entry, entryP, retR, ofOut, Out.seq, atS, ixOf, cmpR, ltR, biR, intcR, opR, addR, intR, tgs, setX, ixV, mutS, setAt, outO, Fr.put, stoR, doCall, lend, fzAll, pick, CR.rs, CV.er, wbr, wcall, wdf, brs, dfs, lenR, lim, eqR, D.flat, D.eqv, okT, putAll, Tg.bind, itemsD, hk, h0, hv, w7, int2R, absR, hp, hw, hab]
    have e : xs[k.toNat]'(by omega) = v := (List.getElem?_eq_some_iff.mp hv).2
    simp only [e, hab, and_self]
  · refine ⟨if (if 7 * k + 3 < 0 then -(7 * k + 3) else 7 * k + 3) - 1000000000000000000 > 0 then (if 7 * k + 3 < 0 then -(7 * k + 3) else 7 * k + 3) - 1000000000000000000 else 0, ((if 7 * k + 3 < 0 then -(7 * k + 3) else 7 * k + 3) % 2147483579 + 1) * (k + 3) ^ 3 % 2147483563 + 1, ?_⟩
    generalize hab : (if 7 * k + 3 < 0 then -(7 * k + 3) else 7 * k + 3) = av
    simp [f__law_rng, b__law_rng, execs, exec, ev, evB, evF, evO, evC, evI, holdL, ER.hold, rdAll, tst, Rs.bind, Rs.out, ER.rd, ER.fz, truth, Rs.of, entry, entryP, retR, ofOut, Out.seq, atS, ixOf, cmpR, ltR, biR, intcR, opR, addR, intR, tgs, setX, ixV, mutS, setAt, outO, Fr.put, stoR, doCall, lend, fzAll, pick, CR.rs, CV.er, wbr, wcall, wdf, brs, dfs, lenR, lim, eqR, D.flat, D.eqv, okT, putAll, Tg.bind, itemsD, hk, w7, int2R, absR, hp, hw, hab]
def inB : ISs := (.cons (.ite (.cmp .ne (.call 17 [0, 1, 2] (.cons (.var 6) (.cons (.var 7) (.cons (.cmp .eq (.bin .mod (.var 3) (.cst (.int 2))) (.cst (.int 1))) .nil)))) (.call 16 [0, 1] (.cons (.var 6) (.cons (.var 7) .nil)))) (.cons (.ret (.cst (.bl false))) .nil) .nil) .nil)
def tuB : ISs := (.cons (.setT [.nm 4, .nm 5] (.call 12 [0] (.cons (.var 2) .nil))) (.cons (.loop (.tp [6, 7]) (.seq (.tup (.cons (.tup (.cons (.var 4) (.cons (.var 5) .nil))) (.cons (.tup (.cons (.var 5) (.cons (.var 4) .nil))) (.cons (.tup (.cons (.var 4) (.cons (.var 4) .nil))) (.cons (.tup (.cons (.var 4) (.cons (.var 5) .nil))) .nil)))))) (.cons (.ite (.cmp .ne (.call 17 [0, 1, 2] (.cons (.var 6) (.cons (.var 7) (.cons (.cmp .eq (.bin .mod (.var 3) (.cst (.int 2))) (.cst (.int 1))) .nil)))) (.call 16 [0, 1] (.cons (.var 6) (.cons (.var 7) .nil)))) (.cons (.ret (.cst (.bl false))) .nil) .nil) .nil)) .nil))
def ouB : ISs := (.cons (.set 2 (.call 6 [0, 1] (.cons (.var 0) (.cons (.var 1) .nil)))) (.cons (.loop (.nm 3) (.rng (.cons (.cst (.int 12)) .nil)) (.cons (.setT [.nm 4, .nm 5] (.call 12 [0] (.cons (.var 2) .nil))) (.cons (.loop (.tp [6, 7]) (.seq (.tup (.cons (.tup (.cons (.var 4) (.cons (.var 5) .nil))) (.cons (.tup (.cons (.var 5) (.cons (.var 4) .nil))) (.cons (.tup (.cons (.var 4) (.cons (.var 4) .nil))) (.cons (.tup (.cons (.var 4) (.cons (.var 5) .nil))) .nil)))))) (.cons (.ite (.cmp .ne (.call 17 [0, 1, 2] (.cons (.var 6) (.cons (.var 7) (.cons (.cmp .eq (.bin .mod (.var 3) (.cst (.int 2))) (.cst (.int 1))) .nil)))) (.call 16 [0, 1] (.cons (.var 6) (.cons (.var 7) .nil)))) (.cons (.ret (.cst (.bl false))) .nil) .nil) .nil)) .nil))) .nil))
def inF4 (w : Wd) : D → Fr → Out := fun x s => match (Tg.tp [6, 7]).bind x s with
    | none => .stuck
    | some s => execs w inB s
def tuF (w : Wd) : D → Fr → Out := fun x s => match (Tg.nm 3).bind x s with
    | none => .stuck
    | some s => execs w tuB s
def ouF (w : Wd) : D → Fr → Out := fun x s => match (Tg.nm 1).bind x s with
    | none => .stuck
    | some s => execs w ouB s
theorem in_step (n : Nat) (sc k t x y u v : D) (cell : List D) (z6 z7 : Sl) (ti : Int) (ht : t = .int ti) (gu : Good u) (gv : Good v) : inF4 (pg.wd (n + 5)) (.tup [u, v]) ⟨[.val sc, .val k, .own cell, .val t, .val x, .val y, z6, z7], []⟩ = .next ⟨[.val sc, .val k, .own cell, .val t, .val x, .val y, .val u, .val v], []⟩ := by
  subst ht
  obtain ⟨l, f1, f2, h1, h2⟩ := r_same n u v gu gv (decide (ti % 2 = 1))
  have e1 : (ti % 2 == 1) = decide (ti % 2 = 1) := rfl
  simp [inF4, inB, execs, exec, ev, evB, evF, evO, evC, evI, holdL, ER.hold, rdAll, tst, Rs.bind, Rs.out, ER.rd, ER.fz, truth, Rs.of, entry, entryP, retR, ofOut, Out.seq, atS, ixOf, cmpR, ltR, biR, intcR, opR, addR, intR, tgs, setX, ixV, mutS, setAt, outO, Fr.put, stoR, doCall, lend, fzAll, pick, CR.rs, CV.er, wbr, wcall, wdf, brs, dfs, lenR, lim, eqR, D.flat, D.eqv, okT, putAll, Tg.bind, itemsD, h1, h2, f1, f2, e1]
theorem in_loop (n : Nat) (sc k t : D) (cell : List D) (ti : Int) (ht : t = .int ti) (x y : D) : ∀ (l : List (D × D)) (z6 z7 : Sl), (∀ p ∈ l, Good p.1 ∧ Good p.2) → ∃ z6' z7', loopGo (inF4 (pg.wd (n + 5))) (l.map fun p => .tup [p.1, p.2]) ⟨[.val sc, .val k, .own cell, .val t, .val x, .val y, z6, z7], []⟩ = .next ⟨[.val sc, .val k, .own cell, .val t, .val x, .val y, z6', z7'], []⟩
  | [], z6, z7, _ => ⟨z6, z7, rfl⟩
  | (u, v) :: l, z6, z7, h => by
    obtain ⟨gu, gv⟩ := h (u, v) (by simp)
    obtain ⟨z6', z7', hl⟩ := in_loop n sc k t cell ti ht x y l (.val u) (.val v) fun p hp => h p (by simp [hp])
    refine ⟨z6', z7', ?_⟩
    simp only [List.map_cons, loopGo, in_step n sc k t x y u v cell z6 z7 ti ht gu gv]
    exact hl
end K12
set_option maxRecDepth 100000
set_option maxHeartbeats 8000000
namespace K12
open Pi
def setE : IS := (.setT [.nm 4, .nm 5] (.call 12 [0] (.cons (.var 2) .nil)))
def lpE : IS := (.loop (.tp [6, 7]) (.seq (.tup (.cons (.tup (.cons (.var 4) (.cons (.var 5) .nil))) (.cons (.tup (.cons (.var 5) (.cons (.var 4) .nil))) (.cons (.tup (.cons (.var 4) (.cons (.var 4) .nil))) (.cons (.tup (.cons (.var 4) (.cons (.var 5) .nil))) .nil)))))) (.cons (.ite (.cmp .ne (.call 17 [0, 1, 2] (.cons (.var 6) (.cons (.var 7) (.cons (.cmp .eq (.bin .mod (.var 3) (.cst (.int 2))) (.cst (.int 1))) .nil)))) (.call 16 [0, 1] (.cons (.var 6) (.cons (.var 7) .nil)))) (.cons (.ret (.cst (.bl false))) .nil) .nil) .nil))
theorem tuB_eq : tuB = .cons setE (.cons lpE .nil) := rfl
theorem set_step (n : Nat) (sc k t : D) (a b : Int) (z4 z5 z6 z7 : Sl) : ∃ a' b' x y, Good x ∧ Good y ∧ exec (pg.wd (n + 4)) setE ⟨[.val sc, .val k, .own [.int a, .int b], .val t, z4, z5, z6, z7], []⟩ = .next ⟨[.val sc, .val k, .own [.int a', .int b'], .val t, .val x, .val y, z6, z7], []⟩ := by
  obtain ⟨a', b', v, x, y, gx, gy, hv, h⟩ := r_pair n a b
  refine ⟨a', b', x, y, gx, gy, ?_⟩
  cases v with
  | val d =>
    have hv : d = .lst [x, y] := hv
    subst hv
    simp [setE, execs, exec, ev, evB, evF, evO, evC, evI, holdL, ER.hold, rdAll, tst, Rs.bind, Rs.out, ER.rd, ER.fz, truth, Rs.of, entry, entryP, retR, ofOut, Out.seq, atS, ixOf, cmpR, ltR, biR, intcR, opR, addR, intR, tgs, setX, ixV, mutS, setAt, outO, Fr.put, stoR, doCall, lend, fzAll, pick, CR.rs, CV.er, wbr, wcall, wdf, brs, dfs, lenR, lim, eqR, D.flat, D.eqv, okT, putAll, Tg.bind, itemsD, loopGo, h]
  | fresh l =>
    have hv : D.lst l = .lst [x, y] := hv
    cases hv
    simp [setE, execs, exec, ev, evB, evF, evO, evC, evI, holdL, ER.hold, rdAll, tst, Rs.bind, Rs.out, ER.rd, ER.fz, truth, Rs.of, entry, entryP, retR, ofOut, Out.seq, atS, ixOf, cmpR, ltR, biR, intcR, opR, addR, intR, tgs, setX, ixV, mutS, setAt, outO, Fr.put, stoR, doCall, lend, fzAll, pick, CR.rs, CV.er, wbr, wcall, wdf, brs, dfs, lenR, lim, eqR, D.flat, D.eqv, okT, putAll, Tg.bind, itemsD, loopGo, h]
theorem lp_step (n : Nat) (sc k x y : D) (ti : Int) (cell : List D) (z6 z7 : Sl) (gx : Good x) (gy : Good y) : ∃ z6' z7', exec (pg.wd (n + 5)) lpE ⟨[.val sc, .val k, .own cell, .val (.int ti), .val x, .val y, z6, z7], []⟩ = .next ⟨[.val sc, .val k, .own cell, .val (.int ti), .val x, .val y, z6', z7'], []⟩ := by
  obtain ⟨z6', z7', h⟩ := in_loop n sc k (.int ti) cell ti rfl x y [(x, y), (y, x), (x, x), (x, y)] z6 z7 (by
    intro p hp
    simp only [in_cons, in_nil, or_false] at hp
    rcases hp with rfl | rfl | rfl | rfl
    · exact ⟨gx, gy⟩
    · exact ⟨gy, gx⟩
    · exact ⟨gx, gx⟩
    · exact ⟨gx, gy⟩)
  refine ⟨z6', z7', ?_⟩
  have hI : evI (pg.wd (n + 5)) (.seq (.tup (.cons (.tup (.cons (.var 4) (.cons (.var 5) .nil))) (.cons (.tup (.cons (.var 5) (.cons (.var 4) .nil))) (.cons (.tup (.cons (.var 4) (.cons (.var 4) .nil))) (.cons (.tup (.cons (.var 4) (.cons (.var 5) .nil))) .nil)))))) ⟨[.val sc, .val k, .own cell, .val (.int ti), .val x, .val y, z6, z7], []⟩ = .ok [.tup [x, y], .tup [y, x], .tup [x, x], .tup [x, y]] ⟨[.val sc, .val k, .own cell, .val (.int ti), .val x, .val y, z6, z7], []⟩ := by
    simp [execs, exec, ev, evB, evF, evO, evC, evI, holdL, ER.hold, rdAll, tst, Rs.bind, Rs.out, ER.rd, ER.fz, truth, Rs.of, entry, entryP, retR, ofOut, Out.seq, atS, ixOf, cmpR, ltR, biR, intcR, opR, addR, intR, tgs, setX, ixV, mutS, setAt, outO, Fr.put, stoR, doCall, lend, fzAll, pick, CR.rs, CV.er, wbr, wcall, wdf, brs, dfs, lenR, lim, eqR, D.flat, D.eqv, okT, putAll, Tg.bind, itemsD, loopGo]
  unfold lpE exec
  rw [hI]
  exact h
theorem tu_loop (n : Nat) (sc k : D) : ∀ (m : Nat) (i a b : Int) (z3 z4 z5 z6 z7 : Sl), ∃ a' b' y3 y4 y5 y6 y7, loopGo (tuF (pg.wd (n + 5))) (rngD i m) ⟨[.val sc, .val k, .own [.int a, .int b], z3, z4, z5, z6, z7], []⟩ = .next ⟨[.val sc, .val k, .own [.int a', .int b'], y3, y4, y5, y6, y7], []⟩
  | 0, i, a, b, z3, z4, z5, z6, z7 => ⟨a, b, z3, z4, z5, z6, z7, rfl⟩
  | m + 1, i, a, b, z3, z4, z5, z6, z7 => by
    obtain ⟨a1, b1, x, y, gx, gy, h1⟩ := set_step (n + 1) sc k (.int i) a b z4 z5 z6 z7
    obtain ⟨y6, y7, h2⟩ := lp_step n sc k x y i [.int a1, .int b1] z6 z7 gx gy
    obtain ⟨a', b', w3, w4, w5, w6, w7, h3⟩ := tu_loop n sc k m (i + 1) a1 b1 (.val (.int i)) (.val x) (.val y) y6 y7
    refine ⟨a', b', w3, w4, w5, w6, w7, ?_⟩
    have hf : tuF (pg.wd (n + 5)) (.int i) ⟨[.val sc, .val k, .own [.int a, .int b], z3, z4, z5, z6, z7], []⟩ = .next ⟨[.val sc, .val k, .own [.int a1, .int b1], .val (.int i), .val x, .val y, y6, y7], []⟩ := by
      show execs (pg.wd (n + 5)) tuB ⟨[.val sc, .val k, .own [.int a, .int b], .val (.int i), z4, z5, z6, z7], []⟩ = _
      rw [tuB_eq]
      unfold execs
      rw [h1]
      show (execs (pg.wd (n + 5)) (.cons lpE .nil) _) = _
      unfold execs
      rw [h2]
      rfl
    simp only [rngD, loopGo, hf]
    exact h3
def callE : IS := .set 2 (.call 6 [0, 1] (.cons (.var 0) (.cons (.var 1) .nil)))
def tuE : IS := (.loop (.nm 3) (.rng (.cons (.cst (.int 12)) .nil)) (.cons (.setT [.nm 4, .nm 5] (.call 12 [0] (.cons (.var 2) .nil))) (.cons (.loop (.tp [6, 7]) (.seq (.tup (.cons (.tup (.cons (.var 4) (.cons (.var 5) .nil))) (.cons (.tup (.cons (.var 5) (.cons (.var 4) .nil))) (.cons (.tup (.cons (.var 4) (.cons (.var 4) .nil))) (.cons (.tup (.cons (.var 4) (.cons (.var 5) .nil))) .nil)))))) (.cons (.ite (.cmp .ne (.call 17 [0, 1, 2] (.cons (.var 6) (.cons (.var 7) (.cons (.cmp .eq (.bin .mod (.var 3) (.cst (.int 2))) (.cst (.int 1))) .nil)))) (.call 16 [0, 1] (.cons (.var 6) (.cons (.var 7) .nil)))) (.cons (.ret (.cst (.bl false))) .nil) .nil) .nil)) .nil)))
theorem ouB_eq : ouB = .cons callE (.cons tuE .nil) := rfl
theorem ou_loop (n : Nat) (xs : List Int) : ∀ (m : Nat) (i : Int) (z1 z2 z3 z4 z5 z6 z7 : Sl), 0 ≤ i → i + m < 900 → ∃ y1 y2 y3 y4 y5 y6 y7, loopGo (ouF (pg.wd (n + 5))) (rngD i m) ⟨[.val (.scr (xs.map .int)), z1, z2, z3, z4, z5, z6, z7], []⟩ = .next ⟨[.val (.scr (xs.map .int)), y1, y2, y3, y4, y5, y6, y7], []⟩
  | 0, i, z1, z2, z3, z4, z5, z6, z7, _, _ => ⟨z1, z2, z3, z4, z5, z6, z7, rfl⟩
  | m + 1, i, z1, z2, z3, z4, z5, z6, z7, h0, h1 => by
    obtain ⟨a, b, hr⟩ := r_rng (n + 4) xs i [] h0 (by omega)
    obtain ⟨a', b', y3, y4, y5, y6, y7, ht⟩ := tu_loop n (.scr (xs.map .int)) (.int i) 12 0 a b z3 z4 z5 z6 z7
    obtain ⟨w1, w2, w3, w4, w5, w6, w7, h⟩ := ou_loop n xs m (i + 1) (.val (.int i)) (.own [.int a', .int b']) y3 y4 y5 y6 y7 (by omega) (by omega)
    refine ⟨w1, w2, w3, w4, w5, w6, w7, ?_⟩
    have hf : ouF (pg.wd (n + 5)) (.int i) ⟨[.val (.scr (xs.map .int)), z1, z2, z3, z4, z5, z6, z7], []⟩ = .next ⟨[.val (.scr (xs.map .int)), .val (.int i), .own [.int a', .int b'], y3, y4, y5, y6, y7], []⟩ := by
      show execs (pg.wd (n + 5)) ouB ⟨[.val (.scr (xs.map .int)), .val (.int i), z2, z3, z4, z5, z6, z7], []⟩ = _
      rw [ouB_eq]
      have hc : exec (pg.wd (n + 5)) callE ⟨[.val (.scr (xs.map .int)), .val (.int i), z2, z3, z4, z5, z6, z7], []⟩ = .next ⟨[.val (.scr (xs.map .int)), .val (.int i), .own [.int a, .int b], z3, z4, z5, z6, z7], []⟩ := by
        simp [callE, execs, exec, ev, evB, evF, evO, evC, evI, holdL, ER.hold, rdAll, tst, Rs.bind, Rs.out, ER.rd, ER.fz, truth, Rs.of, entry, entryP, retR, ofOut, Out.seq, atS, ixOf, cmpR, ltR, biR, intcR, opR, addR, intR, tgs, setX, ixV, mutS, setAt, outO, Fr.put, stoR, doCall, lend, fzAll, pick, CR.rs, CV.er, wbr, wcall, wdf, brs, dfs, lenR, lim, eqR, D.flat, D.eqv, okT, putAll, Tg.bind, itemsD, loopGo, hr]
      have hI : evI (pg.wd (n + 5)) (.rng (.cons (.cst (.int 12)) .nil)) ⟨[.val (.scr (xs.map .int)), .val (.int i), .own [.int a, .int b], z3, z4, z5, z6, z7], []⟩ = .ok (rngD 0 12) ⟨[.val (.scr (xs.map .int)), .val (.int i), .own [.int a, .int b], z3, z4, z5, z6, z7], []⟩ := rfl
      have ht2 : exec (pg.wd (n + 5)) tuE ⟨[.val (.scr (xs.map .int)), .val (.int i), .own [.int a, .int b], z3, z4, z5, z6, z7], []⟩ = .next ⟨[.val (.scr (xs.map .int)), .val (.int i), .own [.int a', .int b'], y3, y4, y5, y6, y7], []⟩ := by
        unfold tuE exec
        rw [hI]
        exact ht
      unfold execs
      rw [hc]
      show (execs (pg.wd (n + 5)) (.cons tuE .nil) _) = _
      unfold execs
      rw [ht2]
      rfl
    simp only [rngD, loopGo, hf]
    exact h
def ouE : IS := (.loop (.nm 1) (.rng (.cons (.bi .max2 (.cons (.cst (.int 1)) (.cons (.bi .min2 (.cons (.bi .len (.cons (.var 0) .nil)) (.cons (.cst (.int 8)) .nil))) .nil))) .nil)) (.cons (.set 2 (.call 6 [0, 1] (.cons (.var 0) (.cons (.var 1) .nil)))) (.cons (.loop (.nm 3) (.rng (.cons (.cst (.int 12)) .nil)) (.cons (.setT [.nm 4, .nm 5] (.call 12 [0] (.cons (.var 2) .nil))) (.cons (.loop (.tp [6, 7]) (.seq (.tup (.cons (.tup (.cons (.var 4) (.cons (.var 5) .nil))) (.cons (.tup (.cons (.var 5) (.cons (.var 4) .nil))) (.cons (.tup (.cons (.var 4) (.cons (.var 4) .nil))) (.cons (.tup (.cons (.var 4) (.cons (.var 5) .nil))) .nil)))))) (.cons (.ite (.cmp .ne (.call 17 [0, 1, 2] (.cons (.var 6) (.cons (.var 7) (.cons (.cmp .eq (.bin .mod (.var 3) (.cst (.int 2))) (.cst (.int 1))) .nil)))) (.call 16 [0, 1] (.cons (.var 6) (.cons (.var 7) .nil)))) (.cons (.ret (.cst (.bl false))) .nil) .nil) .nil)) .nil))) .nil)))
theorem law_eq : b_law = .cons ouE (.cons (.ret (.cst (.bl true))) .nil) := rfl
theorem law_all : ∀ ns : List Int, ns.length ≤ 63 → pg.run 12 18 [.scr (ns.map .int)] [] = .ok (.val (.bl true)) [] := by
  intro ns hn
  rw [run_at 11 18 f_law rfl _ _ rfl]
  show ofOut (execs (pg.wd 11) b_law ⟨[.val (.scr (ns.map .int)), .un, .un, .un, .un, .un, .un, .un], []⟩) = _
  rw [law_eq]
  have hm : ∃ m : Nat, m < 100 ∧ evI (pg.wd 11) (.rng (.cons (.bi .max2 (.cons (.cst (.int 1)) (.cons (.bi .min2 (.cons (.bi .len (.cons (.var 0) .nil)) (.cons (.cst (.int 8)) .nil))) .nil))) .nil)) ⟨[.val (.scr (ns.map .int)), .un, .un, .un, .un, .un, .un, .un], []⟩ = .ok (rngD 0 m) ⟨[.val (.scr (ns.map .int)), .un, .un, .un, .un, .un, .un, .un], []⟩ := by
    by_cases h8 : (8 : Int) < ns.length
    · refine ⟨8, by decide, ?_⟩
      simp [execs, exec, ev, evB, evF, evO, evC, evI, holdL, ER.hold, rdAll, tst, Rs.bind, Rs.out, ER.rd, ER.fz, truth, Rs.of, entry, entryP, retR, ofOut, Out.seq, atS, ixOf, cmpR, ltR, biR, intcR, opR, addR, intR, tgs, setX, ixV, mutS, setAt, outO, Fr.put, stoR, doCall, lend, fzAll, pick, CR.rs, CV.er, wbr, wcall, wdf, brs, dfs, lenR, lim, eqR, D.flat, D.eqv, okT, putAll, Tg.bind, itemsD, loopGo, int2R, h8]
    · by_cases h1 : (1 : Int) < ns.length
      · refine ⟨ns.length, by omega, ?_⟩
        have e1 : (ns.length : Int) ≤ 1000000 := by omega
        have e2 : -1000000 ≤ (ns.length : Int) := by omega
        simp [execs, exec, ev, evB, evF, evO, evC, evI, holdL, ER.hold, rdAll, tst, Rs.bind, Rs.out, ER.rd, ER.fz, truth, Rs.of, entry, entryP, retR, ofOut, Out.seq, atS, ixOf, cmpR, ltR, biR, intcR, opR, addR, intR, tgs, setX, ixV, mutS, setAt, outO, Fr.put, stoR, doCall, lend, fzAll, pick, CR.rs, CV.er, wbr, wcall, wdf, brs, dfs, lenR, lim, eqR, D.flat, D.eqv, okT, putAll, Tg.bind, itemsD, loopGo, int2R, h8, h1, e1, e2]
      · refine ⟨1, by decide, ?_⟩
        simp [execs, exec, ev, evB, evF, evO, evC, evI, holdL, ER.hold, rdAll, tst, Rs.bind, Rs.out, ER.rd, ER.fz, truth, Rs.of, entry, entryP, retR, ofOut, Out.seq, atS, ixOf, cmpR, ltR, biR, intcR, opR, addR, intR, tgs, setX, ixV, mutS, setAt, outO, Fr.put, stoR, doCall, lend, fzAll, pick, CR.rs, CV.er, wbr, wcall, wdf, brs, dfs, lenR, lim, eqR, D.flat, D.eqv, okT, putAll, Tg.bind, itemsD, loopGo, int2R, h8, h1]
  obtain ⟨m, hm1, hI⟩ := hm
  obtain ⟨y1, y2, y3, y4, y5, y6, y7, h⟩ := ou_loop 6 ns m 0 .un .un .un .un .un .un .un (by decide) (by omega)
  have ho : exec (pg.wd 11) ouE ⟨[.val (.scr (ns.map .int)), .un, .un, .un, .un, .un, .un, .un], []⟩ = .next ⟨[.val (.scr (ns.map .int)), y1, y2, y3, y4, y5, y6, y7], []⟩ := by
    unfold ouE exec
    rw [hI]
    exact h
  unfold execs
  rw [ho]
  rfl
end K12
set_option maxRecDepth 100000
set_option maxHeartbeats 7900000
namespace K12
open PySem PySem.Spec PyProof.Rows L2 Pi
def top (i : Nat) : Stmt := PySem.Challenge.pw_pairsigns_k12_signs_of_values.main.body.getD i (.Pass ⟨0, 0, 0, 0⟩)
def clsB : Stmt → List Stmt
  | .ClassDef _ _ _ b _ _ _ _ _ _ _ => b
  | _ => []
abbrev ini_InvalidValue : Stmt := (clsB (top 2)).getD 0 (.Pass ⟨0, 0, 0, 0⟩)
abbrev ini_Unlike : Stmt := (clsB (top 7)).getD 0 (.Pass ⟨0, 0, 0, 0⟩)
abbrev s_is_integer : Stmt := top 13
theorem sc_is_integer : FnScope N_is_integer ["value"] (defScope s_is_integer) := ⟨rfl, rfl, rfl, by decide +kernel, rfl, by decide +kernel, by decide +kernel⟩
theorem ck_is_integer : chkSs T true N_is_integer (defScope s_is_integer) b_is_integer (defBody s_is_integer) = true := by decide +kernel
abbrev s_has_letters_only : Stmt := top 14
theorem sc_has_letters_only : FnScope N_has_letters_only ["text"] (defScope s_has_letters_only) := ⟨rfl, rfl, rfl, by decide +kernel, rfl, by decide +kernel, by decide +kernel⟩
theorem ck_has_letters_only : chkSs T true N_has_letters_only (defScope s_has_letters_only) b_has_letters_only (defBody s_has_letters_only) = true := by decide +kernel
abbrev s_kind_of : Stmt := top 15
theorem sc_kind_of : FnScope N_kind_of ["value"] (defScope s_kind_of) := ⟨rfl, rfl, rfl, by decide +kernel, rfl, by decide +kernel, by decide +kernel⟩
theorem ck_kind_of : chkSs T true N_kind_of (defScope s_kind_of) b_kind_of (defBody s_kind_of) = true := by decide +kernel
abbrev s_is_value : Stmt := top 16
theorem sc_is_value : FnScope N_is_value ["value"] (defScope s_is_value) := ⟨rfl, rfl, rfl, by decide +kernel, rfl, by decide +kernel, by decide +kernel⟩
theorem ck_is_value : chkSs T true N_is_value (defScope s_is_value) b_is_value (defBody s_is_value) = true := by decide +kernel
abbrev s_compared : Stmt := top 17
theorem sc_compared : FnScope N_compared ["one", "other"] (defScope s_compared) := ⟨rfl, rfl, rfl, by decide +kernel, rfl, by decide +kernel, by decide +kernel⟩
theorem ck_compared : chkSs T true N_compared (defScope s_compared) b_compared (defBody s_compared) = true := by decide +kernel
abbrev s_sign_of : Stmt := top 18
theorem sc_sign_of : FnScope N_sign_of ["one", "other"] (defScope s_sign_of) := ⟨rfl, rfl, rfl, by decide +kernel, rfl, by decide +kernel, by decide +kernel⟩
theorem ck_sign_of : chkSs T true N_sign_of (defScope s_sign_of) b_sign_of (defBody s_sign_of) = true := by decide +kernel
abbrev s__law_rng : Stmt := top 20
theorem sc__law_rng : FnScope N__law_rng ["_law_script", "_law_k"] (defScope s__law_rng) := ⟨rfl, rfl, rfl, by decide +kernel, rfl, by decide +kernel, by decide +kernel⟩
theorem ck__law_rng : chkSs T true N__law_rng (defScope s__law_rng) b__law_rng (defBody s__law_rng) = true := by decide +kernel
abbrev s__law_draw : Stmt := top 21
theorem sc__law_draw : FnScope N__law_draw ["_law_rng_here", "_law_many"] (defScope s__law_draw) := ⟨rfl, rfl, rfl, by decide +kernel, rfl, by decide +kernel, by decide +kernel⟩
theorem ck__law_draw : chkSs T true N__law_draw (defScope s__law_draw) b__law_draw (defBody s__law_draw) = true := by decide +kernel
abbrev s__law_choice : Stmt := top 22
theorem sc__law_choice : FnScope N__law_choice ["_law_rng_here", "_law_options"] (defScope s__law_choice) := ⟨rfl, rfl, rfl, by decide +kernel, rfl, by decide +kernel, by decide +kernel⟩
theorem ck__law_choice : chkSs T true N__law_choice (defScope s__law_choice) b__law_choice (defBody s__law_choice) = true := by decide +kernel
abbrev s__law_number : Stmt := top 23
theorem sc__law_number : FnScope N__law_number ["_law_rng_here", "_law_near"] (defScope s__law_number) := ⟨rfl, rfl, rfl, by decide +kernel, rfl, by decide +kernel, by decide +kernel⟩
theorem ck__law_number : chkSs T true N__law_number (defScope s__law_number) b__law_number (defBody s__law_number) = true := by decide +kernel
abbrev s__law_text : Stmt := top 24
theorem sc__law_text : FnScope N__law_text ["_law_rng_here", "_law_near"] (defScope s__law_text) := ⟨rfl, rfl, rfl, by decide +kernel, rfl, by decide +kernel, by decide +kernel⟩
theorem ck__law_text : chkSs T true N__law_text (defScope s__law_text) b__law_text (defBody s__law_text) = true := by decide +kernel
abbrev s__law_odd : Stmt := top 25
theorem sc__law_odd : FnScope N__law_odd ["_law_rng_here"] (defScope s__law_odd) := ⟨rfl, rfl, rfl, by decide +kernel, rfl, by decide +kernel, by decide +kernel⟩
theorem ck__law_odd : chkSs T true N__law_odd (defScope s__law_odd) b__law_odd (defBody s__law_odd) = true := by decide +kernel
abbrev s__law_pair : Stmt := top 26
theorem sc__law_pair : FnScope N__law_pair ["_law_rng_here"] (defScope s__law_pair) := ⟨rfl, rfl, rfl, by decide +kernel, rfl, by decide +kernel, by decide +kernel⟩
theorem ck__law_pair : chkSs T true N__law_pair (defScope s__law_pair) b__law_pair (defBody s__law_pair) = true := by decide +kernel
abbrev s__law_kind : Stmt := top 27
theorem sc__law_kind : FnScope N__law_kind ["_law_thing"] (defScope s__law_kind) := ⟨rfl, rfl, rfl, by decide +kernel, rfl, by decide +kernel, by decide +kernel⟩
theorem ck__law_kind : chkSs T true N__law_kind (defScope s__law_kind) b__law_kind (defBody s__law_kind) = true := by decide +kernel
abbrev s__law_text_sign : Stmt := top 28
theorem sc__law_text_sign : FnScope N__law_text_sign ["_law_first", "_law_second"] (defScope s__law_text_sign) := ⟨rfl, rfl, rfl, by decide +kernel, rfl, by decide +kernel, by decide +kernel⟩
theorem ck__law_text_sign : chkSs T true N__law_text_sign (defScope s__law_text_sign) b__law_text_sign (defBody s__law_text_sign) = true := by decide +kernel
abbrev s__law_number_sign : Stmt := top 29
theorem sc__law_number_sign : FnScope N__law_number_sign ["_law_first", "_law_second"] (defScope s__law_number_sign) := ⟨rfl, rfl, rfl, by decide +kernel, rfl, by decide +kernel, by decide +kernel⟩
theorem ck__law_number_sign : chkSs T true N__law_number_sign (defScope s__law_number_sign) b__law_number_sign (defBody s__law_number_sign) = true := by decide +kernel
abbrev s__law_due : Stmt := top 30
theorem sc__law_due : FnScope N__law_due ["_law_first", "_law_second"] (defScope s__law_due) := ⟨rfl, rfl, rfl, by decide +kernel, rfl, by decide +kernel, by decide +kernel⟩
theorem ck__law_due : chkSs T true N__law_due (defScope s__law_due) b__law_due (defBody s__law_due) = true := by decide +kernel
abbrev s__law_told : Stmt := top 31
theorem sc__law_told : FnScope N__law_told ["_law_first", "_law_second", "_law_is_named"] (defScope s__law_told) := ⟨rfl, rfl, rfl, by decide +kernel, rfl, by decide +kernel, by decide +kernel⟩
theorem ck__law_told : chkSs T true N__law_told (defScope s__law_told) b__law_told (defBody s__law_told) = true := by decide +kernel
abbrev s_law : Stmt := top 32
theorem sc_law : FnScope N_law ["_law_script"] (defScope s_law) := ⟨rfl, rfl, rfl, by decide +kernel, rfl, by decide +kernel, by decide +kernel⟩
theorem ck_law : chkSs T true N_law (defScope s_law) b_law (defBody s_law) = true := by decide +kernel
theorem bd_is_integer_1 {K : PySem.W.Frag} {kV doc pm cdv ct : Value} {an : Option Addr} : BindOk K (PySem.W.fnOf "is_integer" "is_integer" (defArgs s_is_integer) (defBody s_is_integer) (defScope s_is_integer) .none kV doc pm an cdv ct) ["value"] [] 1 [] [0] := by
  intro s us ws as _ h1 h2 hp
  match us, ws, h1, h2, hp with
  | [_], [], _, _, hp =>
    cases hp
    exact .of_eq rfl
theorem bd_has_letters_only_0 {K : PySem.W.Frag} {kV doc pm cdv ct : Value} {an : Option Addr} : BindOk K (PySem.W.fnOf "has_letters_only" "has_letters_only" (defArgs s_has_letters_only) (defBody s_has_letters_only) (defScope s_has_letters_only) .none kV doc pm an cdv ct) ["text"] [] 1 [] [0] := by
  intro s us ws as _ h1 h2 hp
  match us, ws, h1, h2, hp with
  | [_], [], _, _, hp =>
    cases hp
    exact .of_eq rfl
theorem bd_kind_of_2 {K : PySem.W.Frag} {kV doc pm cdv ct : Value} {an : Option Addr} : BindOk K (PySem.W.fnOf "kind_of" "kind_of" (defArgs s_kind_of) (defBody s_kind_of) (defScope s_kind_of) .none kV doc pm an cdv ct) ["value"] [] 1 [] [0] := by
  intro s us ws as _ h1 h2 hp
  match us, ws, h1, h2, hp with
  | [_], [], _, _, hp =>
    cases hp
    exact .of_eq rfl
theorem bd_is_value_4 {K : PySem.W.Frag} {kV doc pm cdv ct : Value} {an : Option Addr} : BindOk K (PySem.W.fnOf "is_value" "is_value" (defArgs s_is_value) (defBody s_is_value) (defScope s_is_value) .none kV doc pm an cdv ct) ["value"] [] 1 [] [0] := by
  intro s us ws as _ h1 h2 hp
  match us, ws, h1, h2, hp with
  | [_], [], _, _, hp =>
    cases hp
    exact .of_eq rfl
theorem bd_compared_3 {K : PySem.W.Frag} {kV doc pm cdv ct : Value} {an : Option Addr} : BindOk K (PySem.W.fnOf "compared" "compared" (defArgs s_compared) (defBody s_compared) (defScope s_compared) .none kV doc pm an cdv ct) ["one", "other"] [] 2 [] [0, 1] := by
  intro s us ws as _ h1 h2 hp
  match us, ws, h1, h2, hp with
  | [_, _], [], _, _, hp =>
    cases hp
    exact .of_eq rfl
theorem bd_sign_of_13 {K : PySem.W.Frag} {kV doc pm cdv ct : Value} {an : Option Addr} : BindOk K (PySem.W.fnOf "sign_of" "sign_of" (defArgs s_sign_of) (defBody s_sign_of) (defScope s_sign_of) .none kV doc pm an cdv ct) ["one", "other"] [] 0 ["one", "other"] [0, 1] := by
  intro s us ws as _ h1 h2 hp
  match us, ws, h1, h2, hp with
  | [], [_, _], _, _, hp =>
    cases hp
    exact .of_eq rfl
theorem bd_sign_of_14 {K : PySem.W.Frag} {kV doc pm cdv ct : Value} {an : Option Addr} : BindOk K (PySem.W.fnOf "sign_of" "sign_of" (defArgs s_sign_of) (defBody s_sign_of) (defScope s_sign_of) .none kV doc pm an cdv ct) ["one", "other"] [] 2 [] [0, 1] := by
  intro s us ws as _ h1 h2 hp
  match us, ws, h1, h2, hp with
  | [_, _], [], _, _, hp =>
    cases hp
    exact .of_eq rfl
theorem bd__law_rng_18 {K : PySem.W.Frag} {kV doc pm cdv ct : Value} {an : Option Addr} : BindOk K (PySem.W.fnOf "_law_rng" "_law_rng" (defArgs s__law_rng) (defBody s__law_rng) (defScope s__law_rng) .none kV doc pm an cdv ct) ["_law_script", "_law_k"] [] 2 [] [0, 1] := by
  intro s us ws as _ h1 h2 hp
  match us, ws, h1, h2, hp with
  | [_, _], [], _, _, hp =>
    cases hp
    exact .of_eq rfl
theorem bd__law_draw_5 {K : PySem.W.Frag} {kV doc pm cdv ct : Value} {an : Option Addr} : BindOk K (PySem.W.fnOf "_law_draw" "_law_draw" (defArgs s__law_draw) (defBody s__law_draw) (defScope s__law_draw) .none kV doc pm an cdv ct) ["_law_rng_here", "_law_many"] [] 2 [] [0, 1] := by
  intro s us ws as _ h1 h2 hp
  match us, ws, h1, h2, hp with
  | [_, _], [], _, _, hp =>
    cases hp
    exact .of_eq rfl
theorem bd__law_choice_6 {K : PySem.W.Frag} {kV doc pm cdv ct : Value} {an : Option Addr} : BindOk K (PySem.W.fnOf "_law_choice" "_law_choice" (defArgs s__law_choice) (defBody s__law_choice) (defScope s__law_choice) .none kV doc pm an cdv ct) ["_law_rng_here", "_law_options"] [] 2 [] [0, 1] := by
  intro s us ws as _ h1 h2 hp
  match us, ws, h1, h2, hp with
  | [_, _], [], _, _, hp =>
    cases hp
    exact .of_eq rfl
theorem bd__law_number_9 {K : PySem.W.Frag} {kV doc pm cdv ct : Value} {an : Option Addr} : BindOk K (PySem.W.fnOf "_law_number" "_law_number" (defArgs s__law_number) (defBody s__law_number) (defScope s__law_number) .none kV doc pm an cdv ct) ["_law_rng_here", "_law_near"] [] 2 [] [0, 1] := by
  intro s us ws as _ h1 h2 hp
  match us, ws, h1, h2, hp with
  | [_, _], [], _, _, hp =>
    cases hp
    exact .of_eq rfl
theorem bd__law_text_8 {K : PySem.W.Frag} {kV doc pm cdv ct : Value} {an : Option Addr} : BindOk K (PySem.W.fnOf "_law_text" "_law_text" (defArgs s__law_text) (defBody s__law_text) (defScope s__law_text) .none kV doc pm an cdv ct) ["_law_rng_here", "_law_near"] [] 2 [] [0, 1] := by
  intro s us ws as _ h1 h2 hp
  match us, ws, h1, h2, hp with
  | [_, _], [], _, _, hp =>
    cases hp
    exact .of_eq rfl
theorem bd__law_odd_7 {K : PySem.W.Frag} {kV doc pm cdv ct : Value} {an : Option Addr} : BindOk K (PySem.W.fnOf "_law_odd" "_law_odd" (defArgs s__law_odd) (defBody s__law_odd) (defScope s__law_odd) .none kV doc pm an cdv ct) ["_law_rng_here"] [] 1 [] [0] := by
  intro s us ws as _ h1 h2 hp
  match us, ws, h1, h2, hp with
  | [_], [], _, _, hp =>
    cases hp
    exact .of_eq rfl
theorem bd__law_pair_17 {K : PySem.W.Frag} {kV doc pm cdv ct : Value} {an : Option Addr} : BindOk K (PySem.W.fnOf "_law_pair" "_law_pair" (defArgs s__law_pair) (defBody s__law_pair) (defScope s__law_pair) .none kV doc pm an cdv ct) ["_law_rng_here"] [] 1 [] [0] := by
  intro s us ws as _ h1 h2 hp
  match us, ws, h1, h2, hp with
  | [_], [], _, _, hp =>
    cases hp
    exact .of_eq rfl
theorem bd__law_kind_11 {K : PySem.W.Frag} {kV doc pm cdv ct : Value} {an : Option Addr} : BindOk K (PySem.W.fnOf "_law_kind" "_law_kind" (defArgs s__law_kind) (defBody s__law_kind) (defScope s__law_kind) .none kV doc pm an cdv ct) ["_law_thing"] [] 1 [] [0] := by
  intro s us ws as _ h1 h2 hp
  match us, ws, h1, h2, hp with
  | [_], [], _, _, hp =>
    cases hp
    exact .of_eq rfl
theorem bd__law_text_sign_12 {K : PySem.W.Frag} {kV doc pm cdv ct : Value} {an : Option Addr} : BindOk K (PySem.W.fnOf "_law_text_sign" "_law_text_sign" (defArgs s__law_text_sign) (defBody s__law_text_sign) (defScope s__law_text_sign) .none kV doc pm an cdv ct) ["_law_first", "_law_second"] [] 2 [] [0, 1] := by
  intro s us ws as _ h1 h2 hp
  match us, ws, h1, h2, hp with
  | [_, _], [], _, _, hp =>
    cases hp
    exact .of_eq rfl
theorem bd__law_number_sign_10 {K : PySem.W.Frag} {kV doc pm cdv ct : Value} {an : Option Addr} : BindOk K (PySem.W.fnOf "_law_number_sign" "_law_number_sign" (defArgs s__law_number_sign) (defBody s__law_number_sign) (defScope s__law_number_sign) .none kV doc pm an cdv ct) ["_law_first", "_law_second"] [] 2 [] [0, 1] := by
  intro s us ws as _ h1 h2 hp
  match us, ws, h1, h2, hp with
  | [_, _], [], _, _, hp =>
    cases hp
    exact .of_eq rfl
theorem bd__law_due_16 {K : PySem.W.Frag} {kV doc pm cdv ct : Value} {an : Option Addr} : BindOk K (PySem.W.fnOf "_law_due" "_law_due" (defArgs s__law_due) (defBody s__law_due) (defScope s__law_due) .none kV doc pm an cdv ct) ["_law_first", "_law_second"] [] 2 [] [0, 1] := by
  intro s us ws as _ h1 h2 hp
  match us, ws, h1, h2, hp with
  | [_, _], [], _, _, hp =>
    cases hp
    exact .of_eq rfl
theorem bd__law_told_15 {K : PySem.W.Frag} {kV doc pm cdv ct : Value} {an : Option Addr} : BindOk K (PySem.W.fnOf "_law_told" "_law_told" (defArgs s__law_told) (defBody s__law_told) (defScope s__law_told) .none kV doc pm an cdv ct) ["_law_first", "_law_second", "_law_is_named"] [] 3 [] [0, 1, 2] := by
  intro s us ws as _ h1 h2 hp
  match us, ws, h1, h2, hp with
  | [_, _, _], [], _, _, hp =>
    cases hp
    exact .of_eq rfl
def posI_InvalidValue := posOf (defBody ini_InvalidValue)
theorem ie_InvalidValue : IniW "PairError" "a value is required" 0 (posI_InvalidValue 0) (posI_InvalidValue 1) (posI_InvalidValue 2) (posI_InvalidValue 3) (posI_InvalidValue 4) := fun env => ⟨_, fun M A E s Q h => PySem.W.methodCall_KW h⟩
theorem initT_InvalidValue (ds : List D) (gs : List (Tx × D)) (z : initT [73, 110, 118, 97, 108, 105, 100, 86, 97, 108, 117, 101] ds = some gs) : ds.length = 1 ∧ gs = (([[118, 97, 108, 117, 101]] : List Tx).zip ds).reverse := by
  match ds, z with
  | [], z => cases z
  | [_], z => exact ⟨rfl, (Option.some.inj z).symm⟩
  | _ :: _ ::  _, z => cases z
theorem pu_InvalidValue : Puts ["value"] ((defBody ini_InvalidValue).drop 1) := (.cons .nil)
theorem scI_InvalidValue : FnScope ["self", "value"] ["self", "value"] (defScope ini_InvalidValue) := ⟨rfl, rfl, rfl, by decide +kernel, rfl, by decide +kernel, by decide +kernel⟩
def posI_Unlike := posOf (defBody ini_Unlike)
theorem ie_Unlike : IniW "RuntimeError" "these do not belong together" 0 (posI_Unlike 0) (posI_Unlike 1) (posI_Unlike 2) (posI_Unlike 3) (posI_Unlike 4) := fun env => ⟨_, fun M A E s Q h => PySem.W.methodCall_KW h⟩
theorem initT_Unlike (ds : List D) (gs : List (Tx × D)) (z : initT [85, 110, 108, 105, 107, 101] ds = some gs) : ds.length = 0 ∧ gs = (([] : List Tx).zip ds).reverse := by
  match ds, z with
  | [], z => exact ⟨rfl, (Option.some.inj z).symm⟩
  | _ ::  _, z => cases z
theorem pu_Unlike : Puts [] ((defBody ini_Unlike).drop 1) := .nil
theorem scI_Unlike : FnScope ["self"] ["self"] (defScope ini_Unlike) := ⟨rfl, rfl, rfl, by decide +kernel, rfl, by decide +kernel, by decide +kernel⟩
/-! ### all that the module has written -/
theorem all_mk {P : Program} {w : World} {K : PySem.W.Frag} {h : Heap} {mg : Str → Option Value} {fa : Addr} (X : K.In h) (G : h.Ns mainGlobals mg) (hfa : mg "law" = some (.ref fa))
    {f0 : Addr} {od0 an0 : Option Addr} {sl0 : Array (Option Value)} {oc0 kV0 dc0 pm0 cd0 ct0 : Value}
    {f1 : Addr} {od1 an1 : Option Addr} {sl1 : Array (Option Value)} {oc1 kV1 dc1 pm1 cd1 ct1 : Value}
    {f2 : Addr} {od2 an2 : Option Addr} {sl2 : Array (Option Value)} {oc2 kV2 dc2 pm2 cd2 ct2 : Value}
    {f3 : Addr} {od3 an3 : Option Addr} {sl3 : Array (Option Value)} {oc3 kV3 dc3 pm3 cd3 ct3 : Value}
    {f4 : Addr} {od4 an4 : Option Addr} {sl4 : Array (Option Value)} {oc4 kV4 dc4 pm4 cd4 ct4 : Value}
    {f5 : Addr} {od5 an5 : Option Addr} {sl5 : Array (Option Value)} {oc5 kV5 dc5 pm5 cd5 ct5 : Value}
    {f6 : Addr} {od6 an6 : Option Addr} {sl6 : Array (Option Value)} {oc6 kV6 dc6 pm6 cd6 ct6 : Value}
    {f7 : Addr} {od7 an7 : Option Addr} {sl7 : Array (Option Value)} {oc7 kV7 dc7 pm7 cd7 ct7 : Value}
    {f8 : Addr} {od8 an8 : Option Addr} {sl8 : Array (Option Value)} {oc8 kV8 dc8 pm8 cd8 ct8 : Value}
    {f9 : Addr} {od9 an9 : Option Addr} {sl9 : Array (Option Value)} {oc9 kV9 dc9 pm9 cd9 ct9 : Value}
    {f10 : Addr} {od10 an10 : Option Addr} {sl10 : Array (Option Value)} {oc10 kV10 dc10 pm10 cd10 ct10 : Value}
    {f11 : Addr} {od11 an11 : Option Addr} {sl11 : Array (Option Value)} {oc11 kV11 dc11 pm11 cd11 ct11 : Value}
    {f12 : Addr} {od12 an12 : Option Addr} {sl12 : Array (Option Value)} {oc12 kV12 dc12 pm12 cd12 ct12 : Value}
    {f13 : Addr} {od13 an13 : Option Addr} {sl13 : Array (Option Value)} {oc13 kV13 dc13 pm13 cd13 ct13 : Value}
    {f14 : Addr} {od14 an14 : Option Addr} {sl14 : Array (Option Value)} {oc14 kV14 dc14 pm14 cd14 ct14 : Value}
    {f15 : Addr} {od15 an15 : Option Addr} {sl15 : Array (Option Value)} {oc15 kV15 dc15 pm15 cd15 ct15 : Value}
    {f16 : Addr} {od16 an16 : Option Addr} {sl16 : Array (Option Value)} {oc16 kV16 dc16 pm16 cd16 ct16 : Value}
    {f17 : Addr} {od17 an17 : Option Addr} {sl17 : Array (Option Value)} {oc17 kV17 dc17 pm17 cd17 ct17 : Value}
    {f18 : Addr} {od18 an18 : Option Addr} {sl18 : Array (Option Value)} {oc18 kV18 dc18 pm18 cd18 ct18 : Value}
    {tk0 : Tok}
    {tk1 : Tok}
    {tk2 : Tok}
    {tk3 : Tok}
    {A_InvalidCount : Addr}
    {A_InvalidName : Addr}
    {A_InvalidText : Addr}
    {A_InvalidValue : Addr}
    {A_InvalidVector : Addr}
    {A_PairError : Addr}
    {A_Unlike : Addr}
    {i_InvalidValue : Addr} {iod_InvalidValue ian_InvalidValue : Option Addr} {isl_InvalidValue : Array (Option Value)} {ioc_InvalidValue ikV_InvalidValue idc_InvalidValue ipm_InvalidValue icd_InvalidValue ict_InvalidValue : Value} {nm_InvalidValue qn_InvalidValue : Str} {N_InvalidValue : Addr} {bs_InvalidValue bm_InvalidValue : List Value} {sn_InvalidValue : List Str} {sub_InvalidValue : List Value} {ab_InvalidValue : Bool} {col_InvalidValue : Option Bool} {dd_InvalidValue : Option Addr} {m0_InvalidValue m1_InvalidValue m2_InvalidValue m3_InvalidValue m5_InvalidValue : Option Value}
    {i_Unlike : Addr} {iod_Unlike ian_Unlike : Option Addr} {isl_Unlike : Array (Option Value)} {ioc_Unlike ikV_Unlike idc_Unlike ipm_Unlike icd_Unlike ict_Unlike : Value} {nm_Unlike qn_Unlike : Str} {N_Unlike : Addr} {bs_Unlike bm_Unlike : List Value} {sn_Unlike : List Str} {sub_Unlike : List Value} {ab_Unlike : Bool} {col_Unlike : Option Bool} {dd_Unlike : Option Addr} {m0_Unlike m1_Unlike m2_Unlike m3_Unlike m5_Unlike : Option Value}
    (a0 : PySem.W.nsIn K mainGlobals "is_integer" = some (some (.ref f0)))
    (l0 : K.lookup f0 = some ⟨oc0, od0, .func (PySem.W.fnOf "is_integer" "is_integer" (defArgs s_is_integer) (defBody s_is_integer) (defScope s_is_integer) .none kV0 dc0 pm0 an0 cd0 ct0), sl0⟩)
    (c0 : PySem.W.codeIn K cd0 "is_integer" = true)
    (k0 : PySem.W.keepIn K (.ref f0) = true)
    (a1 : PySem.W.nsIn K mainGlobals "has_letters_only" = some (some (.ref f1)))
    (l1 : K.lookup f1 = some ⟨oc1, od1, .func (PySem.W.fnOf "has_letters_only" "has_letters_only" (defArgs s_has_letters_only) (defBody s_has_letters_only) (defScope s_has_letters_only) .none kV1 dc1 pm1 an1 cd1 ct1), sl1⟩)
    (c1 : PySem.W.codeIn K cd1 "has_letters_only" = true)
    (k1 : PySem.W.keepIn K (.ref f1) = true)
    (a2 : PySem.W.nsIn K mainGlobals "kind_of" = some (some (.ref f2)))
    (l2 : K.lookup f2 = some ⟨oc2, od2, .func (PySem.W.fnOf "kind_of" "kind_of" (defArgs s_kind_of) (defBody s_kind_of) (defScope s_kind_of) .none kV2 dc2 pm2 an2 cd2 ct2), sl2⟩)
    (c2 : PySem.W.codeIn K cd2 "kind_of" = true)
    (k2 : PySem.W.keepIn K (.ref f2) = true)
    (a3 : PySem.W.nsIn K mainGlobals "is_value" = some (some (.ref f3)))
    (l3 : K.lookup f3 = some ⟨oc3, od3, .func (PySem.W.fnOf "is_value" "is_value" (defArgs s_is_value) (defBody s_is_value) (defScope s_is_value) .none kV3 dc3 pm3 an3 cd3 ct3), sl3⟩)
    (c3 : PySem.W.codeIn K cd3 "is_value" = true)
    (k3 : PySem.W.keepIn K (.ref f3) = true)
    (a4 : PySem.W.nsIn K mainGlobals "compared" = some (some (.ref f4)))
    (l4 : K.lookup f4 = some ⟨oc4, od4, .func (PySem.W.fnOf "compared" "compared" (defArgs s_compared) (defBody s_compared) (defScope s_compared) .none kV4 dc4 pm4 an4 cd4 ct4), sl4⟩)
    (c4 : PySem.W.codeIn K cd4 "compared" = true)
    (k4 : PySem.W.keepIn K (.ref f4) = true)
    (a5 : PySem.W.nsIn K mainGlobals "sign_of" = some (some (.ref f5)))
    (l5 : K.lookup f5 = some ⟨oc5, od5, .func (PySem.W.fnOf "sign_of" "sign_of" (defArgs s_sign_of) (defBody s_sign_of) (defScope s_sign_of) .none kV5 dc5 pm5 an5 cd5 ct5), sl5⟩)
    (c5 : PySem.W.codeIn K cd5 "sign_of" = true)
    (k5 : PySem.W.keepIn K (.ref f5) = true)
    (a6 : PySem.W.nsIn K mainGlobals "_law_rng" = some (some (.ref f6)))
    (l6 : K.lookup f6 = some ⟨oc6, od6, .func (PySem.W.fnOf "_law_rng" "_law_rng" (defArgs s__law_rng) (defBody s__law_rng) (defScope s__law_rng) .none kV6 dc6 pm6 an6 cd6 ct6), sl6⟩)
    (c6 : PySem.W.codeIn K cd6 "_law_rng" = true)
    (k6 : PySem.W.keepIn K (.ref f6) = true)
    (a7 : PySem.W.nsIn K mainGlobals "_law_draw" = some (some (.ref f7)))
    (l7 : K.lookup f7 = some ⟨oc7, od7, .func (PySem.W.fnOf "_law_draw" "_law_draw" (defArgs s__law_draw) (defBody s__law_draw) (defScope s__law_draw) .none kV7 dc7 pm7 an7 cd7 ct7), sl7⟩)
    (c7 : PySem.W.codeIn K cd7 "_law_draw" = true)
    (k7 : PySem.W.keepIn K (.ref f7) = true)
    (a8 : PySem.W.nsIn K mainGlobals "_law_choice" = some (some (.ref f8)))
    (l8 : K.lookup f8 = some ⟨oc8, od8, .func (PySem.W.fnOf "_law_choice" "_law_choice" (defArgs s__law_choice) (defBody s__law_choice) (defScope s__law_choice) .none kV8 dc8 pm8 an8 cd8 ct8), sl8⟩)
    (c8 : PySem.W.codeIn K cd8 "_law_choice" = true)
    (k8 : PySem.W.keepIn K (.ref f8) = true)
    (a9 : PySem.W.nsIn K mainGlobals "_law_number" = some (some (.ref f9)))
    (l9 : K.lookup f9 = some ⟨oc9, od9, .func (PySem.W.fnOf "_law_number" "_law_number" (defArgs s__law_number) (defBody s__law_number) (defScope s__law_number) .none kV9 dc9 pm9 an9 cd9 ct9), sl9⟩)
    (c9 : PySem.W.codeIn K cd9 "_law_number" = true)
    (k9 : PySem.W.keepIn K (.ref f9) = true)
    (a10 : PySem.W.nsIn K mainGlobals "_law_text" = some (some (.ref f10)))
    (l10 : K.lookup f10 = some ⟨oc10, od10, .func (PySem.W.fnOf "_law_text" "_law_text" (defArgs s__law_text) (defBody s__law_text) (defScope s__law_text) .none kV10 dc10 pm10 an10 cd10 ct10), sl10⟩)
    (c10 : PySem.W.codeIn K cd10 "_law_text" = true)
    (k10 : PySem.W.keepIn K (.ref f10) = true)
    (a11 : PySem.W.nsIn K mainGlobals "_law_odd" = some (some (.ref f11)))
    (l11 : K.lookup f11 = some ⟨oc11, od11, .func (PySem.W.fnOf "_law_odd" "_law_odd" (defArgs s__law_odd) (defBody s__law_odd) (defScope s__law_odd) .none kV11 dc11 pm11 an11 cd11 ct11), sl11⟩)
    (c11 : PySem.W.codeIn K cd11 "_law_odd" = true)
    (k11 : PySem.W.keepIn K (.ref f11) = true)
    (a12 : PySem.W.nsIn K mainGlobals "_law_pair" = some (some (.ref f12)))
    (l12 : K.lookup f12 = some ⟨oc12, od12, .func (PySem.W.fnOf "_law_pair" "_law_pair" (defArgs s__law_pair) (defBody s__law_pair) (defScope s__law_pair) .none kV12 dc12 pm12 an12 cd12 ct12), sl12⟩)
    (c12 : PySem.W.codeIn K cd12 "_law_pair" = true)
    (k12 : PySem.W.keepIn K (.ref f12) = true)
    (a13 : PySem.W.nsIn K mainGlobals "_law_kind" = some (some (.ref f13)))
    (l13 : K.lookup f13 = some ⟨oc13, od13, .func (PySem.W.fnOf "_law_kind" "_law_kind" (defArgs s__law_kind) (defBody s__law_kind) (defScope s__law_kind) .none kV13 dc13 pm13 an13 cd13 ct13), sl13⟩)
    (c13 : PySem.W.codeIn K cd13 "_law_kind" = true)
    (k13 : PySem.W.keepIn K (.ref f13) = true)
    (a14 : PySem.W.nsIn K mainGlobals "_law_text_sign" = some (some (.ref f14)))
    (l14 : K.lookup f14 = some ⟨oc14, od14, .func (PySem.W.fnOf "_law_text_sign" "_law_text_sign" (defArgs s__law_text_sign) (defBody s__law_text_sign) (defScope s__law_text_sign) .none kV14 dc14 pm14 an14 cd14 ct14), sl14⟩)
    (c14 : PySem.W.codeIn K cd14 "_law_text_sign" = true)
    (k14 : PySem.W.keepIn K (.ref f14) = true)
    (a15 : PySem.W.nsIn K mainGlobals "_law_number_sign" = some (some (.ref f15)))
    (l15 : K.lookup f15 = some ⟨oc15, od15, .func (PySem.W.fnOf "_law_number_sign" "_law_number_sign" (defArgs s__law_number_sign) (defBody s__law_number_sign) (defScope s__law_number_sign) .none kV15 dc15 pm15 an15 cd15 ct15), sl15⟩)
    (c15 : PySem.W.codeIn K cd15 "_law_number_sign" = true)
    (k15 : PySem.W.keepIn K (.ref f15) = true)
    (a16 : PySem.W.nsIn K mainGlobals "_law_due" = some (some (.ref f16)))
    (l16 : K.lookup f16 = some ⟨oc16, od16, .func (PySem.W.fnOf "_law_due" "_law_due" (defArgs s__law_due) (defBody s__law_due) (defScope s__law_due) .none kV16 dc16 pm16 an16 cd16 ct16), sl16⟩)
    (c16 : PySem.W.codeIn K cd16 "_law_due" = true)
    (k16 : PySem.W.keepIn K (.ref f16) = true)
    (a17 : PySem.W.nsIn K mainGlobals "_law_told" = some (some (.ref f17)))
    (l17 : K.lookup f17 = some ⟨oc17, od17, .func (PySem.W.fnOf "_law_told" "_law_told" (defArgs s__law_told) (defBody s__law_told) (defScope s__law_told) .none kV17 dc17 pm17 an17 cd17 ct17), sl17⟩)
    (c17 : PySem.W.codeIn K cd17 "_law_told" = true)
    (k17 : PySem.W.keepIn K (.ref f17) = true)
    (a18 : PySem.W.nsIn K mainGlobals "law" = some (some (.ref f18)))
    (l18 : K.lookup f18 = some ⟨oc18, od18, .func (PySem.W.fnOf "law" "law" (defArgs s_law) (defBody s_law) (defScope s_law) .none kV18 dc18 pm18 an18 cd18 ct18), sl18⟩)
    (c18 : PySem.W.codeIn K cd18 "law" = true)
    (k18 : PySem.W.keepIn K (.ref f18) = true)
    (z_abs : PySem.W.nsIn K mainGlobals "abs" = some none)
    (z_all : PySem.W.nsIn K mainGlobals "all" = some none)
    (z_bool : PySem.W.nsIn K mainGlobals "bool" = some none)
    (z_divmod : PySem.W.nsIn K mainGlobals "divmod" = some none)
    (z_int : PySem.W.nsIn K mainGlobals "int" = some none)
    (z_isinstance : PySem.W.nsIn K mainGlobals "isinstance" = some none)
    (z_len : PySem.W.nsIn K mainGlobals "len" = some none)
    (z_max : PySem.W.nsIn K mainGlobals "max" = some none)
    (z_min : PySem.W.nsIn K mainGlobals "min" = some none)
    (z_range : PySem.W.nsIn K mainGlobals "range" = some none)
    (z_repr : PySem.W.nsIn K mainGlobals "repr" = some none)
    (z_str : PySem.W.nsIn K mainGlobals "str" = some none)
    (z_zip : PySem.W.nsIn K mainGlobals "zip" = some none)
    (gk0 : PySem.W.nsIn K mainGlobals "NUMBER" = some (some (.str "number" tk0)))
    (gk1 : PySem.W.nsIn K mainGlobals "TEXT" = some (some (.str "text" tk1)))
    (gk2 : PySem.W.nsIn K mainGlobals "LETTERS" = some (some (.str "abcdefghijklmnopqrstuvwxyz" tk2)))
    (gk3 : PySem.W.nsIn K mainGlobals "MOST_TEXT_LETTERS" = some (some (.int 12 tk3)))
    (q_InvalidCount : PySem.W.nsIn K mainGlobals "InvalidCount" = some (some (.ref A_InvalidCount)))
    (qs_InvalidCount : PySem.W.subIn K (.ref A_InvalidCount) (.type "BaseException") = some true)
    (qc_InvalidCount : PySem.W.isClsIn K A_InvalidCount = true)
    (qt_InvalidCount : PySem.W.typeIn K (.ref A_InvalidCount) = some (.type "type"))
    (q_InvalidName : PySem.W.nsIn K mainGlobals "InvalidName" = some (some (.ref A_InvalidName)))
    (qs_InvalidName : PySem.W.subIn K (.ref A_InvalidName) (.type "BaseException") = some true)
    (qc_InvalidName : PySem.W.isClsIn K A_InvalidName = true)
    (qt_InvalidName : PySem.W.typeIn K (.ref A_InvalidName) = some (.type "type"))
    (q_InvalidText : PySem.W.nsIn K mainGlobals "InvalidText" = some (some (.ref A_InvalidText)))
    (qs_InvalidText : PySem.W.subIn K (.ref A_InvalidText) (.type "BaseException") = some true)
    (qc_InvalidText : PySem.W.isClsIn K A_InvalidText = true)
    (qt_InvalidText : PySem.W.typeIn K (.ref A_InvalidText) = some (.type "type"))
    (q_InvalidValue : PySem.W.nsIn K mainGlobals "InvalidValue" = some (some (.ref A_InvalidValue)))
    (qs_InvalidValue : PySem.W.subIn K (.ref A_InvalidValue) (.type "BaseException") = some true)
    (qc_InvalidValue : PySem.W.isClsIn K A_InvalidValue = true)
    (qt_InvalidValue : PySem.W.typeIn K (.ref A_InvalidValue) = some (.type "type"))
    (q_InvalidVector : PySem.W.nsIn K mainGlobals "InvalidVector" = some (some (.ref A_InvalidVector)))
    (qs_InvalidVector : PySem.W.subIn K (.ref A_InvalidVector) (.type "BaseException") = some true)
    (qc_InvalidVector : PySem.W.isClsIn K A_InvalidVector = true)
    (qt_InvalidVector : PySem.W.typeIn K (.ref A_InvalidVector) = some (.type "type"))
    (q_PairError : PySem.W.nsIn K mainGlobals "PairError" = some (some (.ref A_PairError)))
    (qs_PairError : PySem.W.subIn K (.ref A_PairError) (.type "BaseException") = some true)
    (qc_PairError : PySem.W.isClsIn K A_PairError = true)
    (qt_PairError : PySem.W.typeIn K (.ref A_PairError) = some (.type "type"))
    (q_Unlike : PySem.W.nsIn K mainGlobals "Unlike" = some (some (.ref A_Unlike)))
    (qs_Unlike : PySem.W.subIn K (.ref A_Unlike) (.type "BaseException") = some true)
    (qc_Unlike : PySem.W.isClsIn K A_Unlike = true)
    (qt_Unlike : PySem.W.typeIn K (.ref A_Unlike) = some (.type "type"))
    (y_RuntimeError : PySem.W.nsIn K mainGlobals "RuntimeError" = some none)
    (ys_RuntimeError : PySem.W.subIn K (.type "RuntimeError") (.type "BaseException") = some true)
    (y_ValueError : PySem.W.nsIn K mainGlobals "ValueError" = some none)
    (ys_ValueError : PySem.W.subIn K (.type "ValueError") (.type "BaseException") = some true)
    (hsp0 : PySem.W.specialIn K (.builtin "object.__class__") "__get__" = some (some (.builtin "getset_descriptor.__get__")))
    (htk0 : PySem.W.takesIn K (.builtin "object.__class__") = some true)
    (hd_InvalidValue : PySem.W.hasDictIn K A_InvalidValue = true)
    (ga_InvalidValue : PySem.W.findIn K (.ref A_InvalidValue) "__getattribute__" = some (some (.builtin "BaseException.__getattribute__")))
    (gt_InvalidValue : PySem.W.findIn K (.ref A_InvalidValue) "__getattr__" = some none)
    (cl_InvalidValue : PySem.W.findIn K (.ref A_InvalidValue) "__class__" = some (some (.builtin "object.__class__")))
    (mo_InvalidValue : PySem.W.mroIn K A_InvalidValue (.type "object") = some true)
    (fd_InvalidValue_value : PySem.W.findIn K (.ref A_InvalidValue) "value" = some none)
    (s_InvalidValue_InvalidValue : PySem.W.subIn K (.ref A_InvalidValue) (.ref A_InvalidValue) = some true)
    (s_InvalidValue_ValueError : PySem.W.subIn K (.ref A_InvalidValue) (.type "ValueError") = some true)
    (s_InvalidValue_InvalidCount : PySem.W.subIn K (.ref A_InvalidValue) (.ref A_InvalidCount) = some false)
    (ne_InvalidValue_InvalidCount : A_InvalidValue ≠ A_InvalidCount)
    (s_InvalidValue_InvalidName : PySem.W.subIn K (.ref A_InvalidValue) (.ref A_InvalidName) = some false)
    (ne_InvalidValue_InvalidName : A_InvalidValue ≠ A_InvalidName)
    (s_InvalidValue_InvalidText : PySem.W.subIn K (.ref A_InvalidValue) (.ref A_InvalidText) = some false)
    (ne_InvalidValue_InvalidText : A_InvalidValue ≠ A_InvalidText)
    (s_InvalidValue_InvalidVector : PySem.W.subIn K (.ref A_InvalidValue) (.ref A_InvalidVector) = some false)
    (ne_InvalidValue_InvalidVector : A_InvalidValue ≠ A_InvalidVector)
    (s_InvalidValue_PairError : PySem.W.subIn K (.ref A_InvalidValue) (.ref A_PairError) = some true)
    (s_InvalidValue_RuntimeError : PySem.W.subIn K (.ref A_InvalidValue) (.type "RuntimeError") = some false)
    (s_InvalidValue_Unlike : PySem.W.subIn K (.ref A_InvalidValue) (.ref A_Unlike) = some false)
    (ne_InvalidValue_Unlike : A_InvalidValue ≠ A_Unlike)
    (x_InvalidValue : K.lookup A_InvalidValue = some (excClassObj nm_InvalidValue qn_InvalidValue A_InvalidValue N_InvalidValue bs_InvalidValue bm_InvalidValue true sn_InvalidValue sub_InvalidValue ab_InvalidValue col_InvalidValue dd_InvalidValue m0_InvalidValue m1_InvalidValue m2_InvalidValue m3_InvalidValue m5_InvalidValue "ValueError.__new__"))
    (kc_InvalidValue : PySem.W.keepIn K (.ref A_InvalidValue) = true)
    (ii_InvalidValue : PySem.W.findIn K (.ref A_InvalidValue) "__init__" = some (some (.ref i_InvalidValue)))
    (it_InvalidValue : PySem.W.typeIn K (.ref i_InvalidValue) = some (.type "function"))
    (il_InvalidValue : K.lookup i_InvalidValue = some ⟨ioc_InvalidValue, iod_InvalidValue, .func (PySem.W.fnOf "__init__" "InvalidValue.__init__" (defArgs ini_InvalidValue) (defBody ini_InvalidValue) (defScope ini_InvalidValue) .none ikV_InvalidValue idc_InvalidValue ipm_InvalidValue ian_InvalidValue icd_InvalidValue ict_InvalidValue), isl_InvalidValue⟩)
    (ic_InvalidValue : PySem.W.codeIn K icd_InvalidValue "InvalidValue.__init__" = true)
    (ik_InvalidValue : PySem.W.keepIn K (.ref i_InvalidValue) = true)
    (sa_InvalidValue : PySem.W.findIn K (.ref A_InvalidValue) "__setattr__" = some (some (.builtin "object.__setattr__")))
    (sg_InvalidValue : PySem.W.specialIn K (.ref A_PairError) "__getattribute__" = some (some (.builtin "type.__getattribute__")))
    (rd_InvalidValue : PySem.W.readsIn K A_PairError (.type "type") = true)
    (vv_InvalidValue : PySem.W.findCls K (.ref A_PairError) (.type "type") "__init__" = some (.val (.builtin "ValueError.__init__")))
    (bm_InvalidValue' : PySem.W.excTail [.type "ValueError", .type "Exception", .type "BaseException", .type "object"] bm_InvalidValue = true)
    (hd_Unlike : PySem.W.hasDictIn K A_Unlike = true)
    (ga_Unlike : PySem.W.findIn K (.ref A_Unlike) "__getattribute__" = some (some (.builtin "BaseException.__getattribute__")))
    (gt_Unlike : PySem.W.findIn K (.ref A_Unlike) "__getattr__" = some none)
    (cl_Unlike : PySem.W.findIn K (.ref A_Unlike) "__class__" = some (some (.builtin "object.__class__")))
    (mo_Unlike : PySem.W.mroIn K A_Unlike (.type "object") = some true)
    (fd_Unlike_value : PySem.W.findIn K (.ref A_Unlike) "value" = some none)
    (s_Unlike_InvalidValue : PySem.W.subIn K (.ref A_Unlike) (.ref A_InvalidValue) = some false)
    (ne_Unlike_InvalidValue : A_Unlike ≠ A_InvalidValue)
    (s_Unlike_ValueError : PySem.W.subIn K (.ref A_Unlike) (.type "ValueError") = some false)
    (s_Unlike_InvalidCount : PySem.W.subIn K (.ref A_Unlike) (.ref A_InvalidCount) = some false)
    (ne_Unlike_InvalidCount : A_Unlike ≠ A_InvalidCount)
    (s_Unlike_InvalidName : PySem.W.subIn K (.ref A_Unlike) (.ref A_InvalidName) = some false)
    (ne_Unlike_InvalidName : A_Unlike ≠ A_InvalidName)
    (s_Unlike_InvalidText : PySem.W.subIn K (.ref A_Unlike) (.ref A_InvalidText) = some false)
    (ne_Unlike_InvalidText : A_Unlike ≠ A_InvalidText)
    (s_Unlike_InvalidVector : PySem.W.subIn K (.ref A_Unlike) (.ref A_InvalidVector) = some false)
    (ne_Unlike_InvalidVector : A_Unlike ≠ A_InvalidVector)
    (s_Unlike_PairError : PySem.W.subIn K (.ref A_Unlike) (.ref A_PairError) = some false)
    (ne_Unlike_PairError : A_Unlike ≠ A_PairError)
    (s_Unlike_RuntimeError : PySem.W.subIn K (.ref A_Unlike) (.type "RuntimeError") = some true)
    (s_Unlike_Unlike : PySem.W.subIn K (.ref A_Unlike) (.ref A_Unlike) = some true)
    (x_Unlike : K.lookup A_Unlike = some (excClassObj nm_Unlike qn_Unlike A_Unlike N_Unlike bs_Unlike bm_Unlike true sn_Unlike sub_Unlike ab_Unlike col_Unlike dd_Unlike m0_Unlike m1_Unlike m2_Unlike m3_Unlike m5_Unlike "RuntimeError.__new__"))
    (kc_Unlike : PySem.W.keepIn K (.ref A_Unlike) = true)
    (ii_Unlike : PySem.W.findIn K (.ref A_Unlike) "__init__" = some (some (.ref i_Unlike)))
    (it_Unlike : PySem.W.typeIn K (.ref i_Unlike) = some (.type "function"))
    (il_Unlike : K.lookup i_Unlike = some ⟨ioc_Unlike, iod_Unlike, .func (PySem.W.fnOf "__init__" "Unlike.__init__" (defArgs ini_Unlike) (defBody ini_Unlike) (defScope ini_Unlike) .none ikV_Unlike idc_Unlike ipm_Unlike ian_Unlike icd_Unlike ict_Unlike), isl_Unlike⟩)
    (ic_Unlike : PySem.W.codeIn K icd_Unlike "Unlike.__init__" = true)
    (ik_Unlike : PySem.W.keepIn K (.ref i_Unlike) = true)
    (sa_Unlike : PySem.W.findIn K (.ref A_Unlike) "__setattr__" = some (some (.builtin "object.__setattr__")))
    (vv_Unlike : PySem.W.findCls K (.type "RuntimeError") (.type "type") "__init__" = some (.val (.builtin "RuntimeError.__init__")))
    (bm_Unlike' : PySem.W.excTail [.type "RuntimeError", .type "Exception", .type "BaseException", .type "object"] bm_Unlike = true)
    : ∃ fd : FuncData, (∀ (s : Shared) (u : Value), BindsTo s fd ⟨[u], []⟩ [("_law_script", u)]) ∧ ∀ base : Heap, K.In base → base.Ns mainGlobals mg → FnG P w K mg base true 12 fa fd ["_law_script"] (spF K (fun c => .ref (adr K c)) pg 12 18) := by
  have e_InvalidCount : adr K [73, 110, 118, 97, 108, 105, 100, 67, 111, 117, 110, 116] = A_InvalidCount := by
    have z : tx [73, 110, 118, 97, 108, 105, 100, 67, 111, 117, 110, 116] = ("InvalidCount" : Str) := by decide +kernel
    unfold adr
    rw [z, q_InvalidCount]
  have mq_InvalidCount : mg "InvalidCount" = some (.ref A_InvalidCount) := PySem.W.mg_of X G q_InvalidCount
  have e_InvalidName : adr K [73, 110, 118, 97, 108, 105, 100, 78, 97, 109, 101] = A_InvalidName := by
    have z : tx [73, 110, 118, 97, 108, 105, 100, 78, 97, 109, 101] = ("InvalidName" : Str) := by decide +kernel
    unfold adr
    rw [z, q_InvalidName]
  have mq_InvalidName : mg "InvalidName" = some (.ref A_InvalidName) := PySem.W.mg_of X G q_InvalidName
  have e_InvalidText : adr K [73, 110, 118, 97, 108, 105, 100, 84, 101, 120, 116] = A_InvalidText := by
    have z : tx [73, 110, 118, 97, 108, 105, 100, 84, 101, 120, 116] = ("InvalidText" : Str) := by decide +kernel
    unfold adr
    rw [z, q_InvalidText]
  have mq_InvalidText : mg "InvalidText" = some (.ref A_InvalidText) := PySem.W.mg_of X G q_InvalidText
  have e_InvalidValue : adr K [73, 110, 118, 97, 108, 105, 100, 86, 97, 108, 117, 101] = A_InvalidValue := by
    have z : tx [73, 110, 118, 97, 108, 105, 100, 86, 97, 108, 117, 101] = ("InvalidValue" : Str) := by decide +kernel
    unfold adr
    rw [z, q_InvalidValue]
  have mq_InvalidValue : mg "InvalidValue" = some (.ref A_InvalidValue) := PySem.W.mg_of X G q_InvalidValue
  have e_InvalidVector : adr K [73, 110, 118, 97, 108, 105, 100, 86, 101, 99, 116, 111, 114] = A_InvalidVector := by
    have z : tx [73, 110, 118, 97, 108, 105, 100, 86, 101, 99, 116, 111, 114] = ("InvalidVector" : Str) := by decide +kernel
    unfold adr
    rw [z, q_InvalidVector]
  have mq_InvalidVector : mg "InvalidVector" = some (.ref A_InvalidVector) := PySem.W.mg_of X G q_InvalidVector
  have e_PairError : adr K [80, 97, 105, 114, 69, 114, 114, 111, 114] = A_PairError := by
    have z : tx [80, 97, 105, 114, 69, 114, 114, 111, 114] = ("PairError" : Str) := by decide +kernel
    unfold adr
    rw [z, q_PairError]
  have mq_PairError : mg "PairError" = some (.ref A_PairError) := PySem.W.mg_of X G q_PairError
  have e_Unlike : adr K [85, 110, 108, 105, 107, 101] = A_Unlike := by
    have z : tx [85, 110, 108, 105, 107, 101] = ("Unlike" : Str) := by decide +kernel
    unfold adr
    rw [z, q_Unlike]
  have mq_Unlike : mg "Unlike" = some (.ref A_Unlike) := PySem.W.mg_of X G q_Unlike
  have xc_InvalidValue : XcOk K A_InvalidValue T.fld := ⟨⟨ga_InvalidValue, gt_InvalidValue, qs_InvalidValue, hd_InvalidValue, cl_InvalidValue, hsp0, htk0, mo_InvalidValue⟩, qc_InvalidValue, by
    intro f hf
    have hf : f ∈ (["value"] : List Str) := hf
    simp only [List.mem_cons, List.not_mem_nil, or_false] at hf
    rcases hf with rfl
    · exact fd_InvalidValue_value
    ⟩
  have xc_Unlike : XcOk K A_Unlike T.fld := ⟨⟨ga_Unlike, gt_Unlike, qs_Unlike, hd_Unlike, cl_Unlike, hsp0, htk0, mo_Unlike⟩, qc_Unlike, by
    intro f hf
    have hf : f ∈ (["value"] : List Str) := hf
    simp only [List.mem_cons, List.not_mem_nil, or_false] at hf
    rcases hf with rfl
    · exact fd_Unlike_value
    ⟩
  have fs_0 : FnS P K mg T pg 0 "is_integer" f0 (PySem.W.fnOf "is_integer" "is_integer" (defArgs s_is_integer) (defBody s_is_integer) (defScope s_is_integer) .none kV0 dc0 pm0 an0 cd0 ct0) ["value"] [] [] "is_integer" s_is_integer N_is_integer f_is_integer := ⟨PySem.W.mg_of X G a0, k0, fun F => .nil, .nil, fun m ks ix hm => bd_all hm (.cons (fun z => absurd z (by decide)) (.cons (fun _ => bd_is_integer_1) (.cons (fun z => absurd z (by decide)) (.cons (fun z => absurd z (by decide)) (.cons (fun z => absurd z (by decide)) (.cons (fun z => absurd z (by decide)) (.cons (fun z => absurd z (by decide)) (.cons (fun z => absurd z (by decide)) (.cons (fun z => absurd z (by decide)) (.cons (fun z => absurd z (by decide)) (.cons (fun z => absurd z (by decide)) (.cons (fun z => absurd z (by decide)) (.cons (fun z => absurd z (by decide)) (.cons (fun z => absurd z (by decide)) (.cons (fun z => absurd z (by decide)) (.cons (fun z => absurd z (by decide)) (.cons (fun z => absurd z (by decide)) (.cons (fun z => absurd z (by decide)) (.cons (fun z => absurd z (by decide)) .nil))))))))))))))))))), fun_mk (st := s_is_integer) l0 c0 k0, sc_is_integer, rfl, rfl, rfl, by decide, ck_is_integer, fun z => absurd z (by decide)⟩
  have fs_1 : FnS P K mg T pg 1 "has_letters_only" f1 (PySem.W.fnOf "has_letters_only" "has_letters_only" (defArgs s_has_letters_only) (defBody s_has_letters_only) (defScope s_has_letters_only) .none kV1 dc1 pm1 an1 cd1 ct1) ["text"] [] [] "has_letters_only" s_has_letters_only N_has_letters_only f_has_letters_only := ⟨PySem.W.mg_of X G a1, k1, fun F => .nil, .nil, fun m ks ix hm => bd_all hm (.cons (fun _ => bd_has_letters_only_0) (.cons (fun z => absurd z (by decide)) (.cons (fun z => absurd z (by decide)) (.cons (fun z => absurd z (by decide)) (.cons (fun z => absurd z (by decide)) (.cons (fun z => absurd z (by decide)) (.cons (fun z => absurd z (by decide)) (.cons (fun z => absurd z (by decide)) (.cons (fun z => absurd z (by decide)) (.cons (fun z => absurd z (by decide)) (.cons (fun z => absurd z (by decide)) (.cons (fun z => absurd z (by decide)) (.cons (fun z => absurd z (by decide)) (.cons (fun z => absurd z (by decide)) (.cons (fun z => absurd z (by decide)) (.cons (fun z => absurd z (by decide)) (.cons (fun z => absurd z (by decide)) (.cons (fun z => absurd z (by decide)) (.cons (fun z => absurd z (by decide)) .nil))))))))))))))))))), fun_mk (st := s_has_letters_only) l1 c1 k1, sc_has_letters_only, rfl, rfl, rfl, by decide, ck_has_letters_only, fun z => absurd z (by decide)⟩
  have fs_2 : FnS P K mg T pg 2 "kind_of" f2 (PySem.W.fnOf "kind_of" "kind_of" (defArgs s_kind_of) (defBody s_kind_of) (defScope s_kind_of) .none kV2 dc2 pm2 an2 cd2 ct2) ["value"] [] [] "kind_of" s_kind_of N_kind_of f_kind_of := ⟨PySem.W.mg_of X G a2, k2, fun F => .nil, .nil, fun m ks ix hm => bd_all hm (.cons (fun z => absurd z (by decide)) (.cons (fun z => absurd z (by decide)) (.cons (fun _ => bd_kind_of_2) (.cons (fun z => absurd z (by decide)) (.cons (fun z => absurd z (by decide)) (.cons (fun z => absurd z (by decide)) (.cons (fun z => absurd z (by decide)) (.cons (fun z => absurd z (by decide)) (.cons (fun z => absurd z (by decide)) (.cons (fun z => absurd z (by decide)) (.cons (fun z => absurd z (by decide)) (.cons (fun z => absurd z (by decide)) (.cons (fun z => absurd z (by decide)) (.cons (fun z => absurd z (by decide)) (.cons (fun z => absurd z (by decide)) (.cons (fun z => absurd z (by decide)) (.cons (fun z => absurd z (by decide)) (.cons (fun z => absurd z (by decide)) (.cons (fun z => absurd z (by decide)) .nil))))))))))))))))))), fun_mk (st := s_kind_of) l2 c2 k2, sc_kind_of, rfl, rfl, rfl, by decide, ck_kind_of, fun z => absurd z (by decide)⟩
  have fs_3 : FnS P K mg T pg 3 "is_value" f3 (PySem.W.fnOf "is_value" "is_value" (defArgs s_is_value) (defBody s_is_value) (defScope s_is_value) .none kV3 dc3 pm3 an3 cd3 ct3) ["value"] [] [] "is_value" s_is_value N_is_value f_is_value := ⟨PySem.W.mg_of X G a3, k3, fun F => .nil, .nil, fun m ks ix hm => bd_all hm (.cons (fun z => absurd z (by decide)) (.cons (fun z => absurd z (by decide)) (.cons (fun z => absurd z (by decide)) (.cons (fun z => absurd z (by decide)) (.cons (fun _ => bd_is_value_4) (.cons (fun z => absurd z (by decide)) (.cons (fun z => absurd z (by decide)) (.cons (fun z => absurd z (by decide)) (.cons (fun z => absurd z (by decide)) (.cons (fun z => absurd z (by decide)) (.cons (fun z => absurd z (by decide)) (.cons (fun z => absurd z (by decide)) (.cons (fun z => absurd z (by decide)) (.cons (fun z => absurd z (by decide)) (.cons (fun z => absurd z (by decide)) (.cons (fun z => absurd z (by decide)) (.cons (fun z => absurd z (by decide)) (.cons (fun z => absurd z (by decide)) (.cons (fun z => absurd z (by decide)) .nil))))))))))))))))))), fun_mk (st := s_is_value) l3 c3 k3, sc_is_value, rfl, rfl, rfl, by decide, ck_is_value, fun z => absurd z (by decide)⟩
  have fs_4 : FnS P K mg T pg 4 "compared" f4 (PySem.W.fnOf "compared" "compared" (defArgs s_compared) (defBody s_compared) (defScope s_compared) .none kV4 dc4 pm4 an4 cd4 ct4) ["one", "other"] [] [] "compared" s_compared N_compared f_compared := ⟨PySem.W.mg_of X G a4, k4, fun F => .nil, .nil, fun m ks ix hm => bd_all hm (.cons (fun z => absurd z (by decide)) (.cons (fun z => absurd z (by decide)) (.cons (fun z => absurd z (by decide)) (.cons (fun _ => bd_compared_3) (.cons (fun z => absurd z (by decide)) (.cons (fun z => absurd z (by decide)) (.cons (fun z => absurd z (by decide)) (.cons (fun z => absurd z (by decide)) (.cons (fun z => absurd z (by decide)) (.cons (fun z => absurd z (by decide)) (.cons (fun z => absurd z (by decide)) (.cons (fun z => absurd z (by decide)) (.cons (fun z => absurd z (by decide)) (.cons (fun z => absurd z (by decide)) (.cons (fun z => absurd z (by decide)) (.cons (fun z => absurd z (by decide)) (.cons (fun z => absurd z (by decide)) (.cons (fun z => absurd z (by decide)) (.cons (fun z => absurd z (by decide)) .nil))))))))))))))))))), fun_mk (st := s_compared) l4 c4 k4, sc_compared, rfl, rfl, rfl, by decide, ck_compared, fun z => absurd z (by decide)⟩
  have fs_5 : FnS P K mg T pg 5 "sign_of" f5 (PySem.W.fnOf "sign_of" "sign_of" (defArgs s_sign_of) (defBody s_sign_of) (defScope s_sign_of) .none kV5 dc5 pm5 an5 cd5 ct5) ["one", "other"] [] [] "sign_of" s_sign_of N_sign_of f_sign_of := ⟨PySem.W.mg_of X G a5, k5, fun F => .nil, .nil, fun m ks ix hm => bd_all hm (.cons (fun z => absurd z (by decide)) (.cons (fun z => absurd z (by decide)) (.cons (fun z => absurd z (by decide)) (.cons (fun z => absurd z (by decide)) (.cons (fun z => absurd z (by decide)) (.cons (fun z => absurd z (by decide)) (.cons (fun z => absurd z (by decide)) (.cons (fun z => absurd z (by decide)) (.cons (fun z => absurd z (by decide)) (.cons (fun z => absurd z (by decide)) (.cons (fun z => absurd z (by decide)) (.cons (fun z => absurd z (by decide)) (.cons (fun z => absurd z (by decide)) (.cons (fun _ => bd_sign_of_13) (.cons (fun _ => bd_sign_of_14) (.cons (fun z => absurd z (by decide)) (.cons (fun z => absurd z (by decide)) (.cons (fun z => absurd z (by decide)) (.cons (fun z => absurd z (by decide)) .nil))))))))))))))))))), fun_mk (st := s_sign_of) l5 c5 k5, sc_sign_of, rfl, rfl, rfl, by decide, ck_sign_of, fun z => absurd z (by decide)⟩
  have fs_6 : FnS P K mg T pg 6 "_law_rng" f6 (PySem.W.fnOf "_law_rng" "_law_rng" (defArgs s__law_rng) (defBody s__law_rng) (defScope s__law_rng) .none kV6 dc6 pm6 an6 cd6 ct6) ["_law_script", "_law_k"] [] [] "_law_rng" s__law_rng N__law_rng f__law_rng := ⟨PySem.W.mg_of X G a6, k6, fun F => .nil, .nil, fun m ks ix hm => bd_all hm (.cons (fun z => absurd z (by decide)) (.cons (fun z => absurd z (by decide)) (.cons (fun z => absurd z (by decide)) (.cons (fun z => absurd z (by decide)) (.cons (fun z => absurd z (by decide)) (.cons (fun z => absurd z (by decide)) (.cons (fun z => absurd z (by decide)) (.cons (fun z => absurd z (by decide)) (.cons (fun z => absurd z (by decide)) (.cons (fun z => absurd z (by decide)) (.cons (fun z => absurd z (by decide)) (.cons (fun z => absurd z (by decide)) (.cons (fun z => absurd z (by decide)) (.cons (fun z => absurd z (by decide)) (.cons (fun z => absurd z (by decide)) (.cons (fun z => absurd z (by decide)) (.cons (fun z => absurd z (by decide)) (.cons (fun z => absurd z (by decide)) (.cons (fun _ => bd__law_rng_18) .nil))))))))))))))))))), fun_mk (st := s__law_rng) l6 c6 k6, sc__law_rng, rfl, rfl, rfl, by decide, ck__law_rng, fun z => absurd z (by decide)⟩
  have fs_7 : FnS P K mg T pg 7 "_law_draw" f7 (PySem.W.fnOf "_law_draw" "_law_draw" (defArgs s__law_draw) (defBody s__law_draw) (defScope s__law_draw) .none kV7 dc7 pm7 an7 cd7 ct7) ["_law_rng_here", "_law_many"] [] [] "_law_draw" s__law_draw N__law_draw f__law_draw := ⟨PySem.W.mg_of X G a7, k7, fun F => .nil, .nil, fun m ks ix hm => bd_all hm (.cons (fun z => absurd z (by decide)) (.cons (fun z => absurd z (by decide)) (.cons (fun z => absurd z (by decide)) (.cons (fun z => absurd z (by decide)) (.cons (fun z => absurd z (by decide)) (.cons (fun _ => bd__law_draw_5) (.cons (fun z => absurd z (by decide)) (.cons (fun z => absurd z (by decide)) (.cons (fun z => absurd z (by decide)) (.cons (fun z => absurd z (by decide)) (.cons (fun z => absurd z (by decide)) (.cons (fun z => absurd z (by decide)) (.cons (fun z => absurd z (by decide)) (.cons (fun z => absurd z (by decide)) (.cons (fun z => absurd z (by decide)) (.cons (fun z => absurd z (by decide)) (.cons (fun z => absurd z (by decide)) (.cons (fun z => absurd z (by decide)) (.cons (fun z => absurd z (by decide)) .nil))))))))))))))))))), fun_mk (st := s__law_draw) l7 c7 k7, sc__law_draw, rfl, rfl, rfl, by decide, ck__law_draw, fun z => absurd z (by decide)⟩
  have fs_8 : FnS P K mg T pg 8 "_law_choice" f8 (PySem.W.fnOf "_law_choice" "_law_choice" (defArgs s__law_choice) (defBody s__law_choice) (defScope s__law_choice) .none kV8 dc8 pm8 an8 cd8 ct8) ["_law_rng_here", "_law_options"] [] [] "_law_choice" s__law_choice N__law_choice f__law_choice := ⟨PySem.W.mg_of X G a8, k8, fun F => .nil, .nil, fun m ks ix hm => bd_all hm (.cons (fun z => absurd z (by decide)) (.cons (fun z => absurd z (by decide)) (.cons (fun z => absurd z (by decide)) (.cons (fun z => absurd z (by decide)) (.cons (fun z => absurd z (by decide)) (.cons (fun z => absurd z (by decide)) (.cons (fun _ => bd__law_choice_6) (.cons (fun z => absurd z (by decide)) (.cons (fun z => absurd z (by decide)) (.cons (fun z => absurd z (by decide)) (.cons (fun z => absurd z (by decide)) (.cons (fun z => absurd z (by decide)) (.cons (fun z => absurd z (by decide)) (.cons (fun z => absurd z (by decide)) (.cons (fun z => absurd z (by decide)) (.cons (fun z => absurd z (by decide)) (.cons (fun z => absurd z (by decide)) (.cons (fun z => absurd z (by decide)) (.cons (fun z => absurd z (by decide)) .nil))))))))))))))))))), fun_mk (st := s__law_choice) l8 c8 k8, sc__law_choice, rfl, rfl, rfl, by decide, ck__law_choice, fun z => absurd z (by decide)⟩
  have fs_9 : FnS P K mg T pg 9 "_law_number" f9 (PySem.W.fnOf "_law_number" "_law_number" (defArgs s__law_number) (defBody s__law_number) (defScope s__law_number) .none kV9 dc9 pm9 an9 cd9 ct9) ["_law_rng_here", "_law_near"] [] [] "_law_number" s__law_number N__law_number f__law_number := ⟨PySem.W.mg_of X G a9, k9, fun F => .nil, .nil, fun m ks ix hm => bd_all hm (.cons (fun z => absurd z (by decide)) (.cons (fun z => absurd z (by decide)) (.cons (fun z => absurd z (by decide)) (.cons (fun z => absurd z (by decide)) (.cons (fun z => absurd z (by decide)) (.cons (fun z => absurd z (by decide)) (.cons (fun z => absurd z (by decide)) (.cons (fun z => absurd z (by decide)) (.cons (fun z => absurd z (by decide)) (.cons (fun _ => bd__law_number_9) (.cons (fun z => absurd z (by decide)) (.cons (fun z => absurd z (by decide)) (.cons (fun z => absurd z (by decide)) (.cons (fun z => absurd z (by decide)) (.cons (fun z => absurd z (by decide)) (.cons (fun z => absurd z (by decide)) (.cons (fun z => absurd z (by decide)) (.cons (fun z => absurd z (by decide)) (.cons (fun z => absurd z (by decide)) .nil))))))))))))))))))), fun_mk (st := s__law_number) l9 c9 k9, sc__law_number, rfl, rfl, rfl, by decide, ck__law_number, fun z => absurd z (by decide)⟩
  have fs_10 : FnS P K mg T pg 10 "_law_text" f10 (PySem.W.fnOf "_law_text" "_law_text" (defArgs s__law_text) (defBody s__law_text) (defScope s__law_text) .none kV10 dc10 pm10 an10 cd10 ct10) ["_law_rng_here", "_law_near"] [] [] "_law_text" s__law_text N__law_text f__law_text := ⟨PySem.W.mg_of X G a10, k10, fun F => .nil, .nil, fun m ks ix hm => bd_all hm (.cons (fun z => absurd z (by decide)) (.cons (fun z => absurd z (by decide)) (.cons (fun z => absurd z (by decide)) (.cons (fun z => absurd z (by decide)) (.cons (fun z => absurd z (by decide)) (.cons (fun z => absurd z (by decide)) (.cons (fun z => absurd z (by decide)) (.cons (fun z => absurd z (by decide)) (.cons (fun _ => bd__law_text_8) (.cons (fun z => absurd z (by decide)) (.cons (fun z => absurd z (by decide)) (.cons (fun z => absurd z (by decide)) (.cons (fun z => absurd z (by decide)) (.cons (fun z => absurd z (by decide)) (.cons (fun z => absurd z (by decide)) (.cons (fun z => absurd z (by decide)) (.cons (fun z => absurd z (by decide)) (.cons (fun z => absurd z (by decide)) (.cons (fun z => absurd z (by decide)) .nil))))))))))))))))))), fun_mk (st := s__law_text) l10 c10 k10, sc__law_text, rfl, rfl, rfl, by decide, ck__law_text, fun z => absurd z (by decide)⟩
  have fs_11 : FnS P K mg T pg 11 "_law_odd" f11 (PySem.W.fnOf "_law_odd" "_law_odd" (defArgs s__law_odd) (defBody s__law_odd) (defScope s__law_odd) .none kV11 dc11 pm11 an11 cd11 ct11) ["_law_rng_here"] [] [] "_law_odd" s__law_odd N__law_odd f__law_odd := ⟨PySem.W.mg_of X G a11, k11, fun F => .nil, .nil, fun m ks ix hm => bd_all hm (.cons (fun z => absurd z (by decide)) (.cons (fun z => absurd z (by decide)) (.cons (fun z => absurd z (by decide)) (.cons (fun z => absurd z (by decide)) (.cons (fun z => absurd z (by decide)) (.cons (fun z => absurd z (by decide)) (.cons (fun z => absurd z (by decide)) (.cons (fun _ => bd__law_odd_7) (.cons (fun z => absurd z (by decide)) (.cons (fun z => absurd z (by decide)) (.cons (fun z => absurd z (by decide)) (.cons (fun z => absurd z (by decide)) (.cons (fun z => absurd z (by decide)) (.cons (fun z => absurd z (by decide)) (.cons (fun z => absurd z (by decide)) (.cons (fun z => absurd z (by decide)) (.cons (fun z => absurd z (by decide)) (.cons (fun z => absurd z (by decide)) (.cons (fun z => absurd z (by decide)) .nil))))))))))))))))))), fun_mk (st := s__law_odd) l11 c11 k11, sc__law_odd, rfl, rfl, rfl, by decide, ck__law_odd, fun z => absurd z (by decide)⟩
  have fs_12 : FnS P K mg T pg 12 "_law_pair" f12 (PySem.W.fnOf "_law_pair" "_law_pair" (defArgs s__law_pair) (defBody s__law_pair) (defScope s__law_pair) .none kV12 dc12 pm12 an12 cd12 ct12) ["_law_rng_here"] [] [] "_law_pair" s__law_pair N__law_pair f__law_pair := ⟨PySem.W.mg_of X G a12, k12, fun F => .nil, .nil, fun m ks ix hm => bd_all hm (.cons (fun z => absurd z (by decide)) (.cons (fun z => absurd z (by decide)) (.cons (fun z => absurd z (by decide)) (.cons (fun z => absurd z (by decide)) (.cons (fun z => absurd z (by decide)) (.cons (fun z => absurd z (by decide)) (.cons (fun z => absurd z (by decide)) (.cons (fun z => absurd z (by decide)) (.cons (fun z => absurd z (by decide)) (.cons (fun z => absurd z (by decide)) (.cons (fun z => absurd z (by decide)) (.cons (fun z => absurd z (by decide)) (.cons (fun z => absurd z (by decide)) (.cons (fun z => absurd z (by decide)) (.cons (fun z => absurd z (by decide)) (.cons (fun z => absurd z (by decide)) (.cons (fun z => absurd z (by decide)) (.cons (fun _ => bd__law_pair_17) (.cons (fun z => absurd z (by decide)) .nil))))))))))))))))))), fun_mk (st := s__law_pair) l12 c12 k12, sc__law_pair, rfl, rfl, rfl, by decide, ck__law_pair, fun z => absurd z (by decide)⟩
  have fs_13 : FnS P K mg T pg 13 "_law_kind" f13 (PySem.W.fnOf "_law_kind" "_law_kind" (defArgs s__law_kind) (defBody s__law_kind) (defScope s__law_kind) .none kV13 dc13 pm13 an13 cd13 ct13) ["_law_thing"] [] [] "_law_kind" s__law_kind N__law_kind f__law_kind := ⟨PySem.W.mg_of X G a13, k13, fun F => .nil, .nil, fun m ks ix hm => bd_all hm (.cons (fun z => absurd z (by decide)) (.cons (fun z => absurd z (by decide)) (.cons (fun z => absurd z (by decide)) (.cons (fun z => absurd z (by decide)) (.cons (fun z => absurd z (by decide)) (.cons (fun z => absurd z (by decide)) (.cons (fun z => absurd z (by decide)) (.cons (fun z => absurd z (by decide)) (.cons (fun z => absurd z (by decide)) (.cons (fun z => absurd z (by decide)) (.cons (fun z => absurd z (by decide)) (.cons (fun _ => bd__law_kind_11) (.cons (fun z => absurd z (by decide)) (.cons (fun z => absurd z (by decide)) (.cons (fun z => absurd z (by decide)) (.cons (fun z => absurd z (by decide)) (.cons (fun z => absurd z (by decide)) (.cons (fun z => absurd z (by decide)) (.cons (fun z => absurd z (by decide)) .nil))))))))))))))))))), fun_mk (st := s__law_kind) l13 c13 k13, sc__law_kind, rfl, rfl, rfl, by decide, ck__law_kind, fun z => absurd z (by decide)⟩
  have fs_14 : FnS P K mg T pg 14 "_law_text_sign" f14 (PySem.W.fnOf "_law_text_sign" "_law_text_sign" (defArgs s__law_text_sign) (defBody s__law_text_sign) (defScope s__law_text_sign) .none kV14 dc14 pm14 an14 cd14 ct14) ["_law_first", "_law_second"] [] [] "_law_text_sign" s__law_text_sign N__law_text_sign f__law_text_sign := ⟨PySem.W.mg_of X G a14, k14, fun F => .nil, .nil, fun m ks ix hm => bd_all hm (.cons (fun z => absurd z (by decide)) (.cons (fun z => absurd z (by decide)) (.cons (fun z => absurd z (by decide)) (.cons (fun z => absurd z (by decide)) (.cons (fun z => absurd z (by decide)) (.cons (fun z => absurd z (by decide)) (.cons (fun z => absurd z (by decide)) (.cons (fun z => absurd z (by decide)) (.cons (fun z => absurd z (by decide)) (.cons (fun z => absurd z (by decide)) (.cons (fun z => absurd z (by decide)) (.cons (fun z => absurd z (by decide)) (.cons (fun _ => bd__law_text_sign_12) (.cons (fun z => absurd z (by decide)) (.cons (fun z => absurd z (by decide)) (.cons (fun z => absurd z (by decide)) (.cons (fun z => absurd z (by decide)) (.cons (fun z => absurd z (by decide)) (.cons (fun z => absurd z (by decide)) .nil))))))))))))))))))), fun_mk (st := s__law_text_sign) l14 c14 k14, sc__law_text_sign, rfl, rfl, rfl, by decide, ck__law_text_sign, fun z => absurd z (by decide)⟩
  have fs_15 : FnS P K mg T pg 15 "_law_number_sign" f15 (PySem.W.fnOf "_law_number_sign" "_law_number_sign" (defArgs s__law_number_sign) (defBody s__law_number_sign) (defScope s__law_number_sign) .none kV15 dc15 pm15 an15 cd15 ct15) ["_law_first", "_law_second"] [] [] "_law_number_sign" s__law_number_sign N__law_number_sign f__law_number_sign := ⟨PySem.W.mg_of X G a15, k15, fun F => .nil, .nil, fun m ks ix hm => bd_all hm (.cons (fun z => absurd z (by decide)) (.cons (fun z => absurd z (by decide)) (.cons (fun z => absurd z (by decide)) (.cons (fun z => absurd z (by decide)) (.cons (fun z => absurd z (by decide)) (.cons (fun z => absurd z (by decide)) (.cons (fun z => absurd z (by decide)) (.cons (fun z => absurd z (by decide)) (.cons (fun z => absurd z (by decide)) (.cons (fun z => absurd z (by decide)) (.cons (fun _ => bd__law_number_sign_10) (.cons (fun z => absurd z (by decide)) (.cons (fun z => absurd z (by decide)) (.cons (fun z => absurd z (by decide)) (.cons (fun z => absurd z (by decide)) (.cons (fun z => absurd z (by decide)) (.cons (fun z => absurd z (by decide)) (.cons (fun z => absurd z (by decide)) (.cons (fun z => absurd z (by decide)) .nil))))))))))))))))))), fun_mk (st := s__law_number_sign) l15 c15 k15, sc__law_number_sign, rfl, rfl, rfl, by decide, ck__law_number_sign, fun z => absurd z (by decide)⟩
  have fs_16 : FnS P K mg T pg 16 "_law_due" f16 (PySem.W.fnOf "_law_due" "_law_due" (defArgs s__law_due) (defBody s__law_due) (defScope s__law_due) .none kV16 dc16 pm16 an16 cd16 ct16) ["_law_first", "_law_second"] [] [] "_law_due" s__law_due N__law_due f__law_due := ⟨PySem.W.mg_of X G a16, k16, fun F => .nil, .nil, fun m ks ix hm => bd_all hm (.cons (fun z => absurd z (by decide)) (.cons (fun z => absurd z (by decide)) (.cons (fun z => absurd z (by decide)) (.cons (fun z => absurd z (by decide)) (.cons (fun z => absurd z (by decide)) (.cons (fun z => absurd z (by decide)) (.cons (fun z => absurd z (by decide)) (.cons (fun z => absurd z (by decide)) (.cons (fun z => absurd z (by decide)) (.cons (fun z => absurd z (by decide)) (.cons (fun z => absurd z (by decide)) (.cons (fun z => absurd z (by decide)) (.cons (fun z => absurd z (by decide)) (.cons (fun z => absurd z (by decide)) (.cons (fun z => absurd z (by decide)) (.cons (fun z => absurd z (by decide)) (.cons (fun _ => bd__law_due_16) (.cons (fun z => absurd z (by decide)) (.cons (fun z => absurd z (by decide)) .nil))))))))))))))))))), fun_mk (st := s__law_due) l16 c16 k16, sc__law_due, rfl, rfl, rfl, by decide, ck__law_due, fun z => absurd z (by decide)⟩
  have fs_17 : FnS P K mg T pg 17 "_law_told" f17 (PySem.W.fnOf "_law_told" "_law_told" (defArgs s__law_told) (defBody s__law_told) (defScope s__law_told) .none kV17 dc17 pm17 an17 cd17 ct17) ["_law_first", "_law_second", "_law_is_named"] [] [] "_law_told" s__law_told N__law_told f__law_told := ⟨PySem.W.mg_of X G a17, k17, fun F => .nil, .nil, fun m ks ix hm => bd_all hm (.cons (fun z => absurd z (by decide)) (.cons (fun z => absurd z (by decide)) (.cons (fun z => absurd z (by decide)) (.cons (fun z => absurd z (by decide)) (.cons (fun z => absurd z (by decide)) (.cons (fun z => absurd z (by decide)) (.cons (fun z => absurd z (by decide)) (.cons (fun z => absurd z (by decide)) (.cons (fun z => absurd z (by decide)) (.cons (fun z => absurd z (by decide)) (.cons (fun z => absurd z (by decide)) (.cons (fun z => absurd z (by decide)) (.cons (fun z => absurd z (by decide)) (.cons (fun z => absurd z (by decide)) (.cons (fun z => absurd z (by decide)) (.cons (fun _ => bd__law_told_15) (.cons (fun z => absurd z (by decide)) (.cons (fun z => absurd z (by decide)) (.cons (fun z => absurd z (by decide)) .nil))))))))))))))))))), fun_mk (st := s__law_told) l17 c17 k17, sc__law_told, rfl, rfl, rfl, by decide, ck__law_told, fun z => absurd z (by decide)⟩
  have fs_18 : FnS P K mg T pg 18 "law" f18 (PySem.W.fnOf "law" "law" (defArgs s_law) (defBody s_law) (defScope s_law) .none kV18 dc18 pm18 an18 cd18 ct18) ["_law_script"] [] [] "law" s_law N_law f_law := ⟨PySem.W.mg_of X G a18, k18, fun F => .nil, .nil, fun m ks ix hm => bd_all hm (.cons (fun z => absurd z (by decide)) (.cons (fun z => absurd z (by decide)) (.cons (fun z => absurd z (by decide)) (.cons (fun z => absurd z (by decide)) (.cons (fun z => absurd z (by decide)) (.cons (fun z => absurd z (by decide)) (.cons (fun z => absurd z (by decide)) (.cons (fun z => absurd z (by decide)) (.cons (fun z => absurd z (by decide)) (.cons (fun z => absurd z (by decide)) (.cons (fun z => absurd z (by decide)) (.cons (fun z => absurd z (by decide)) (.cons (fun z => absurd z (by decide)) (.cons (fun z => absurd z (by decide)) (.cons (fun z => absurd z (by decide)) (.cons (fun z => absurd z (by decide)) (.cons (fun z => absurd z (by decide)) (.cons (fun z => absurd z (by decide)) (.cons (fun z => absurd z (by decide)) .nil))))))))))))))))))), fun_mk (st := s_law) l18 c18 k18, sc_law, rfl, rfl, rfl, by decide, ck_law, fun z => absurd z (by decide)⟩
  have S : PfS P K mg T pg (fun c => .ref (adr K c)) := by
    refine ⟨fun k x hx => ?_, fun x hx => ?_, fun x k hx => ?_, fun c k b hb => ?_, fun _ => rfl, fun f x hx => ?_⟩
    · have hk : k < 4 := (List.getElem?_eq_some_iff.mp hx).1
      match k, hk, hx with
      | 0, _, hx => cases hx; exact ⟨.str "number", _, PySem.W.mg_of X G gk0, ⟨_, rfl⟩, fun F => .str [110, 117, 109, 98, 101, 114]⟩
      | 1, _, hx => cases hx; exact ⟨.str "text", _, PySem.W.mg_of X G gk1, ⟨_, rfl⟩, fun F => .str [116, 101, 120, 116]⟩
      | 2, _, hx => cases hx; exact ⟨.str "abcdefghijklmnopqrstuvwxyz", _, PySem.W.mg_of X G gk2, ⟨_, rfl⟩, fun F => .str [97, 98, 99, 100, 101, 102, 103, 104, 105, 106, 107, 108, 109, 110, 111, 112, 113, 114, 115, 116, 117, 118, 119, 120, 121, 122]⟩
      | 3, _, hx => cases hx; exact ⟨.int 12, _, PySem.W.mg_of X G gk3, ⟨_, rfl⟩, fun F => .int _⟩
    · have hx : x ∈ (["abs", "all", "bool", "divmod", "int", "isinstance", "len", "max", "min", "range", "repr", "str", "zip"] : List Str) := hx
      simp only [in_cons, in_nil, or_false] at hx
      rcases hx with rfl | rfl | rfl | rfl | rfl | rfl | rfl | rfl | rfl | rfl | rfl | rfl | rfl
      · exact PySem.W.mg_none_of X G z_abs
      · exact PySem.W.mg_none_of X G z_all
      · exact PySem.W.mg_none_of X G z_bool
      · exact PySem.W.mg_none_of X G z_divmod
      · exact PySem.W.mg_none_of X G z_int
      · exact PySem.W.mg_none_of X G z_isinstance
      · exact PySem.W.mg_none_of X G z_len
      · exact PySem.W.mg_none_of X G z_max
      · exact PySem.W.mg_none_of X G z_min
      · exact PySem.W.mg_none_of X G z_range
      · exact PySem.W.mg_none_of X G z_repr
      · exact PySem.W.mg_none_of X G z_str
      · exact PySem.W.mg_none_of X G z_zip
    · have hx : (x, k) ∈ ([("InvalidValue", .own [73, 110, 118, 97, 108, 105, 100, 86, 97, 108, 117, 101]), ("ValueError", .ve), ("InvalidCount", .own [73, 110, 118, 97, 108, 105, 100, 67, 111, 117, 110, 116]), ("InvalidName", .own [73, 110, 118, 97, 108, 105, 100, 78, 97, 109, 101]), ("InvalidText", .own [73, 110, 118, 97, 108, 105, 100, 84, 101, 120, 116]), ("InvalidVector", .own [73, 110, 118, 97, 108, 105, 100, 86, 101, 99, 116, 111, 114]), ("PairError", .own [80, 97, 105, 114, 69, 114, 114, 111, 114]), ("RuntimeError", .re), ("Unlike", .own [85, 110, 108, 105, 107, 101])] : List (Str × Cl)) := hx
      simp only [List.mem_cons, List.not_mem_nil, or_false, Prod.mk.injEq] at hx
      rcases hx with ⟨rfl, rfl⟩ | ⟨rfl, rfl⟩ | ⟨rfl, rfl⟩ | ⟨rfl, rfl⟩ | ⟨rfl, rfl⟩ | ⟨rfl, rfl⟩ | ⟨rfl, rfl⟩ | ⟨rfl, rfl⟩ | ⟨rfl, rfl⟩
      · exact .inl ⟨_, rfl, by rw [e_InvalidValue]; exact mq_InvalidValue⟩
      · exact .inr ⟨PySem.W.mg_none_of X G y_ValueError, "ValueError", rfl, rfl, rfl, by decide +kernel, by decide⟩
      · exact .inl ⟨_, rfl, by rw [e_InvalidCount]; exact mq_InvalidCount⟩
      · exact .inl ⟨_, rfl, by rw [e_InvalidName]; exact mq_InvalidName⟩
      · exact .inl ⟨_, rfl, by rw [e_InvalidText]; exact mq_InvalidText⟩
      · exact .inl ⟨_, rfl, by rw [e_InvalidVector]; exact mq_InvalidVector⟩
      · exact .inl ⟨_, rfl, by rw [e_PairError]; exact mq_PairError⟩
      · exact .inr ⟨PySem.W.mg_none_of X G y_RuntimeError, "RuntimeError", rfl, rfl, rfl, by decide +kernel, by decide⟩
      · exact .inl ⟨_, rfl, by rw [e_Unlike]; exact mq_Unlike⟩
    · have hb : clT c k = some b := hb
      have hm := cls_mem (l := clL) hb
      have hm : ((c, k), b) ∈ ([(([73, 110, 118, 97, 108, 105, 100, 86, 97, 108, 117, 101], .own [73, 110, 118, 97, 108, 105, 100, 86, 97, 108, 117, 101]), true), (([73, 110, 118, 97, 108, 105, 100, 86, 97, 108, 117, 101], .ve), true), (([73, 110, 118, 97, 108, 105, 100, 86, 97, 108, 117, 101], .own [73, 110, 118, 97, 108, 105, 100, 67, 111, 117, 110, 116]), false), (([73, 110, 118, 97, 108, 105, 100, 86, 97, 108, 117, 101], .own [73, 110, 118, 97, 108, 105, 100, 78, 97, 109, 101]), false), (([73, 110, 118, 97, 108, 105, 100, 86, 97, 108, 117, 101], .own [73, 110, 118, 97, 108, 105, 100, 84, 101, 120, 116]), false), (([73, 110, 118, 97, 108, 105, 100, 86, 97, 108, 117, 101], .own [73, 110, 118, 97, 108, 105, 100, 86, 101, 99, 116, 111, 114]), false), (([73, 110, 118, 97, 108, 105, 100, 86, 97, 108, 117, 101], .own [80, 97, 105, 114, 69, 114, 114, 111, 114]), true), (([73, 110, 118, 97, 108, 105, 100, 86, 97, 108, 117, 101], .re), false), (([73, 110, 118, 97, 108, 105, 100, 86, 97, 108, 117, 101], .own [85, 110, 108, 105, 107, 101]), false), (([85, 110, 108, 105, 107, 101], .own [73, 110, 118, 97, 108, 105, 100, 86, 97, 108, 117, 101]), false), (([85, 110, 108, 105, 107, 101], .ve), false), (([85, 110, 108, 105, 107, 101], .own [73, 110, 118, 97, 108, 105, 100, 67, 111, 117, 110, 116]), false), (([85, 110, 108, 105, 107, 101], .own [73, 110, 118, 97, 108, 105, 100, 78, 97, 109, 101]), false), (([85, 110, 108, 105, 107, 101], .own [73, 110, 118, 97, 108, 105, 100, 84, 101, 120, 116]), false), (([85, 110, 108, 105, 107, 101], .own [73, 110, 118, 97, 108, 105, 100, 86, 101, 99, 116, 111, 114]), false), (([85, 110, 108, 105, 107, 101], .own [80, 97, 105, 114, 69, 114, 114, 111, 114]), false), (([85, 110, 108, 105, 107, 101], .re), true), (([85, 110, 108, 105, 107, 101], .own [85, 110, 108, 105, 107, 101]), true)] : List ((Tx × Cl) × Bool)) := hm
      simp only [List.mem_cons, List.not_mem_nil, or_false, Prod.mk.injEq] at hm
      rcases hm with ⟨⟨rfl, rfl⟩, rfl⟩ | ⟨⟨rfl, rfl⟩, rfl⟩ | ⟨⟨rfl, rfl⟩, rfl⟩ | ⟨⟨rfl, rfl⟩, rfl⟩ | ⟨⟨rfl, rfl⟩, rfl⟩ | ⟨⟨rfl, rfl⟩, rfl⟩ | ⟨⟨rfl, rfl⟩, rfl⟩ | ⟨⟨rfl, rfl⟩, rfl⟩ | ⟨⟨rfl, rfl⟩, rfl⟩ | ⟨⟨rfl, rfl⟩, rfl⟩ | ⟨⟨rfl, rfl⟩, rfl⟩ | ⟨⟨rfl, rfl⟩, rfl⟩ | ⟨⟨rfl, rfl⟩, rfl⟩ | ⟨⟨rfl, rfl⟩, rfl⟩ | ⟨⟨rfl, rfl⟩, rfl⟩ | ⟨⟨rfl, rfl⟩, rfl⟩ | ⟨⟨rfl, rfl⟩, rfl⟩ | ⟨⟨rfl, rfl⟩, rfl⟩
      · show XcOk K (adr K [73, 110, 118, 97, 108, 105, 100, 86, 97, 108, 117, 101]) T.fld ∧ PySem.W.kitOne K (.ref (adr K [73, 110, 118, 97, 108, 105, 100, 86, 97, 108, 117, 101])) (.ref (adr K [73, 110, 118, 97, 108, 105, 100, 86, 97, 108, 117, 101])) = _ ∧ PySem.W.exmOne K (.ref (adr K [73, 110, 118, 97, 108, 105, 100, 86, 97, 108, 117, 101])) (.ref (adr K [73, 110, 118, 97, 108, 105, 100, 86, 97, 108, 117, 101])) = _
        rw [e_InvalidValue]
        exact ⟨xc_InvalidValue, kit_ref qs_InvalidValue qc_InvalidValue qt_InvalidValue s_InvalidValue_InvalidValue (.inl rfl)⟩
      · show XcOk K (adr K [73, 110, 118, 97, 108, 105, 100, 86, 97, 108, 117, 101]) T.fld ∧ PySem.W.kitOne K (.ref (adr K [73, 110, 118, 97, 108, 105, 100, 86, 97, 108, 117, 101])) (.type "ValueError") = _ ∧ PySem.W.exmOne K (.ref (adr K [73, 110, 118, 97, 108, 105, 100, 86, 97, 108, 117, 101])) (.type "ValueError") = _
        rw [e_InvalidValue]
        exact ⟨xc_InvalidValue, kit_ty ys_ValueError (by decide +kernel) s_InvalidValue_ValueError⟩
      · show XcOk K (adr K [73, 110, 118, 97, 108, 105, 100, 86, 97, 108, 117, 101]) T.fld ∧ PySem.W.kitOne K (.ref (adr K [73, 110, 118, 97, 108, 105, 100, 86, 97, 108, 117, 101])) (.ref (adr K [73, 110, 118, 97, 108, 105, 100, 67, 111, 117, 110, 116])) = _ ∧ PySem.W.exmOne K (.ref (adr K [73, 110, 118, 97, 108, 105, 100, 86, 97, 108, 117, 101])) (.ref (adr K [73, 110, 118, 97, 108, 105, 100, 67, 111, 117, 110, 116])) = _
        rw [e_InvalidValue, e_InvalidCount]
        exact ⟨xc_InvalidValue, kit_ref qs_InvalidCount qc_InvalidCount qt_InvalidCount s_InvalidValue_InvalidCount (by exact .inr ne_InvalidValue_InvalidCount)⟩
      · show XcOk K (adr K [73, 110, 118, 97, 108, 105, 100, 86, 97, 108, 117, 101]) T.fld ∧ PySem.W.kitOne K (.ref (adr K [73, 110, 118, 97, 108, 105, 100, 86, 97, 108, 117, 101])) (.ref (adr K [73, 110, 118, 97, 108, 105, 100, 78, 97, 109, 101])) = _ ∧ PySem.W.exmOne K (.ref (adr K [73, 110, 118, 97, 108, 105, 100, 86, 97, 108, 117, 101])) (.ref (adr K [73, 110, 118, 97, 108, 105, 100, 78, 97, 109, 101])) = _
        rw [e_InvalidValue, e_InvalidName]
        exact ⟨xc_InvalidValue, kit_ref qs_InvalidName qc_InvalidName qt_InvalidName s_InvalidValue_InvalidName (by exact .inr ne_InvalidValue_InvalidName)⟩
      · show XcOk K (adr K [73, 110, 118, 97, 108, 105, 100, 86, 97, 108, 117, 101]) T.fld ∧ PySem.W.kitOne K (.ref (adr K [73, 110, 118, 97, 108, 105, 100, 86, 97, 108, 117, 101])) (.ref (adr K [73, 110, 118, 97, 108, 105, 100, 84, 101, 120, 116])) = _ ∧ PySem.W.exmOne K (.ref (adr K [73, 110, 118, 97, 108, 105, 100, 86, 97, 108, 117, 101])) (.ref (adr K [73, 110, 118, 97, 108, 105, 100, 84, 101, 120, 116])) = _
        rw [e_InvalidValue, e_InvalidText]
        exact ⟨xc_InvalidValue, kit_ref qs_InvalidText qc_InvalidText qt_InvalidText s_InvalidValue_InvalidText (by exact .inr ne_InvalidValue_InvalidText)⟩
      · show XcOk K (adr K [73, 110, 118, 97, 108, 105, 100, 86, 97, 108, 117, 101]) T.fld ∧ PySem.W.kitOne K (.ref (adr K [73, 110, 118, 97, 108, 105, 100, 86, 97, 108, 117, 101])) (.ref (adr K [73, 110, 118, 97, 108, 105, 100, 86, 101, 99, 116, 111, 114])) = _ ∧ PySem.W.exmOne K (.ref (adr K [73, 110, 118, 97, 108, 105, 100, 86, 97, 108, 117, 101])) (.ref (adr K [73, 110, 118, 97, 108, 105, 100, 86, 101, 99, 116, 111, 114])) = _
        rw [e_InvalidValue, e_InvalidVector]
        exact ⟨xc_InvalidValue, kit_ref qs_InvalidVector qc_InvalidVector qt_InvalidVector s_InvalidValue_InvalidVector (by exact .inr ne_InvalidValue_InvalidVector)⟩
      · show XcOk K (adr K [73, 110, 118, 97, 108, 105, 100, 86, 97, 108, 117, 101]) T.fld ∧ PySem.W.kitOne K (.ref (adr K [73, 110, 118, 97, 108, 105, 100, 86, 97, 108, 117, 101])) (.ref (adr K [80, 97, 105, 114, 69, 114, 114, 111, 114])) = _ ∧ PySem.W.exmOne K (.ref (adr K [73, 110, 118, 97, 108, 105, 100, 86, 97, 108, 117, 101])) (.ref (adr K [80, 97, 105, 114, 69, 114, 114, 111, 114])) = _
        rw [e_InvalidValue, e_PairError]
        exact ⟨xc_InvalidValue, kit_ref qs_PairError qc_PairError qt_PairError s_InvalidValue_PairError (by exact .inl rfl)⟩
      · show XcOk K (adr K [73, 110, 118, 97, 108, 105, 100, 86, 97, 108, 117, 101]) T.fld ∧ PySem.W.kitOne K (.ref (adr K [73, 110, 118, 97, 108, 105, 100, 86, 97, 108, 117, 101])) (.type "RuntimeError") = _ ∧ PySem.W.exmOne K (.ref (adr K [73, 110, 118, 97, 108, 105, 100, 86, 97, 108, 117, 101])) (.type "RuntimeError") = _
        rw [e_InvalidValue]
        exact ⟨xc_InvalidValue, kit_ty ys_RuntimeError (by decide +kernel) s_InvalidValue_RuntimeError⟩
      · show XcOk K (adr K [73, 110, 118, 97, 108, 105, 100, 86, 97, 108, 117, 101]) T.fld ∧ PySem.W.kitOne K (.ref (adr K [73, 110, 118, 97, 108, 105, 100, 86, 97, 108, 117, 101])) (.ref (adr K [85, 110, 108, 105, 107, 101])) = _ ∧ PySem.W.exmOne K (.ref (adr K [73, 110, 118, 97, 108, 105, 100, 86, 97, 108, 117, 101])) (.ref (adr K [85, 110, 108, 105, 107, 101])) = _
        rw [e_InvalidValue, e_Unlike]
        exact ⟨xc_InvalidValue, kit_ref qs_Unlike qc_Unlike qt_Unlike s_InvalidValue_Unlike (by exact .inr ne_InvalidValue_Unlike)⟩
      · show XcOk K (adr K [85, 110, 108, 105, 107, 101]) T.fld ∧ PySem.W.kitOne K (.ref (adr K [85, 110, 108, 105, 107, 101])) (.ref (adr K [73, 110, 118, 97, 108, 105, 100, 86, 97, 108, 117, 101])) = _ ∧ PySem.W.exmOne K (.ref (adr K [85, 110, 108, 105, 107, 101])) (.ref (adr K [73, 110, 118, 97, 108, 105, 100, 86, 97, 108, 117, 101])) = _
        rw [e_Unlike, e_InvalidValue]
        exact ⟨xc_Unlike, kit_ref qs_InvalidValue qc_InvalidValue qt_InvalidValue s_Unlike_InvalidValue (by exact .inr ne_Unlike_InvalidValue)⟩
      · show XcOk K (adr K [85, 110, 108, 105, 107, 101]) T.fld ∧ PySem.W.kitOne K (.ref (adr K [85, 110, 108, 105, 107, 101])) (.type "ValueError") = _ ∧ PySem.W.exmOne K (.ref (adr K [85, 110, 108, 105, 107, 101])) (.type "ValueError") = _
        rw [e_Unlike]
        exact ⟨xc_Unlike, kit_ty ys_ValueError (by decide +kernel) s_Unlike_ValueError⟩
      · show XcOk K (adr K [85, 110, 108, 105, 107, 101]) T.fld ∧ PySem.W.kitOne K (.ref (adr K [85, 110, 108, 105, 107, 101])) (.ref (adr K [73, 110, 118, 97, 108, 105, 100, 67, 111, 117, 110, 116])) = _ ∧ PySem.W.exmOne K (.ref (adr K [85, 110, 108, 105, 107, 101])) (.ref (adr K [73, 110, 118, 97, 108, 105, 100, 67, 111, 117, 110, 116])) = _
        rw [e_Unlike, e_InvalidCount]
        exact ⟨xc_Unlike, kit_ref qs_InvalidCount qc_InvalidCount qt_InvalidCount s_Unlike_InvalidCount (by exact .inr ne_Unlike_InvalidCount)⟩
      · show XcOk K (adr K [85, 110, 108, 105, 107, 101]) T.fld ∧ PySem.W.kitOne K (.ref (adr K [85, 110, 108, 105, 107, 101])) (.ref (adr K [73, 110, 118, 97, 108, 105, 100, 78, 97, 109, 101])) = _ ∧ PySem.W.exmOne K (.ref (adr K [85, 110, 108, 105, 107, 101])) (.ref (adr K [73, 110, 118, 97, 108, 105, 100, 78, 97, 109, 101])) = _
        rw [e_Unlike, e_InvalidName]
        exact ⟨xc_Unlike, kit_ref qs_InvalidName qc_InvalidName qt_InvalidName s_Unlike_InvalidName (by exact .inr ne_Unlike_InvalidName)⟩
      · show XcOk K (adr K [85, 110, 108, 105, 107, 101]) T.fld ∧ PySem.W.kitOne K (.ref (adr K [85, 110, 108, 105, 107, 101])) (.ref (adr K [73, 110, 118, 97, 108, 105, 100, 84, 101, 120, 116])) = _ ∧ PySem.W.exmOne K (.ref (adr K [85, 110, 108, 105, 107, 101])) (.ref (adr K [73, 110, 118, 97, 108, 105, 100, 84, 101, 120, 116])) = _
        rw [e_Unlike, e_InvalidText]
        exact ⟨xc_Unlike, kit_ref qs_InvalidText qc_InvalidText qt_InvalidText s_Unlike_InvalidText (by exact .inr ne_Unlike_InvalidText)⟩
      · show XcOk K (adr K [85, 110, 108, 105, 107, 101]) T.fld ∧ PySem.W.kitOne K (.ref (adr K [85, 110, 108, 105, 107, 101])) (.ref (adr K [73, 110, 118, 97, 108, 105, 100, 86, 101, 99, 116, 111, 114])) = _ ∧ PySem.W.exmOne K (.ref (adr K [85, 110, 108, 105, 107, 101])) (.ref (adr K [73, 110, 118, 97, 108, 105, 100, 86, 101, 99, 116, 111, 114])) = _
        rw [e_Unlike, e_InvalidVector]
        exact ⟨xc_Unlike, kit_ref qs_InvalidVector qc_InvalidVector qt_InvalidVector s_Unlike_InvalidVector (by exact .inr ne_Unlike_InvalidVector)⟩
      · show XcOk K (adr K [85, 110, 108, 105, 107, 101]) T.fld ∧ PySem.W.kitOne K (.ref (adr K [85, 110, 108, 105, 107, 101])) (.ref (adr K [80, 97, 105, 114, 69, 114, 114, 111, 114])) = _ ∧ PySem.W.exmOne K (.ref (adr K [85, 110, 108, 105, 107, 101])) (.ref (adr K [80, 97, 105, 114, 69, 114, 114, 111, 114])) = _
        rw [e_Unlike, e_PairError]
        exact ⟨xc_Unlike, kit_ref qs_PairError qc_PairError qt_PairError s_Unlike_PairError (by exact .inr ne_Unlike_PairError)⟩
      · show XcOk K (adr K [85, 110, 108, 105, 107, 101]) T.fld ∧ PySem.W.kitOne K (.ref (adr K [85, 110, 108, 105, 107, 101])) (.type "RuntimeError") = _ ∧ PySem.W.exmOne K (.ref (adr K [85, 110, 108, 105, 107, 101])) (.type "RuntimeError") = _
        rw [e_Unlike]
        exact ⟨xc_Unlike, kit_ty ys_RuntimeError (by decide +kernel) s_Unlike_RuntimeError⟩
      · show XcOk K (adr K [85, 110, 108, 105, 107, 101]) T.fld ∧ PySem.W.kitOne K (.ref (adr K [85, 110, 108, 105, 107, 101])) (.ref (adr K [85, 110, 108, 105, 107, 101])) = _ ∧ PySem.W.exmOne K (.ref (adr K [85, 110, 108, 105, 107, 101])) (.ref (adr K [85, 110, 108, 105, 107, 101])) = _
        rw [e_Unlike]
        exact ⟨xc_Unlike, kit_ref qs_Unlike qc_Unlike qt_Unlike s_Unlike_Unlike (.inl rfl)⟩
    · have hk : f < 19 := (List.getElem?_eq_some_iff.mp hx).1
      match f, hk, hx with
      | 0, _, hx => cases hx; exact ⟨_, _, _, _, _, _, _, _, _, fs_0⟩
      | 1, _, hx => cases hx; exact ⟨_, _, _, _, _, _, _, _, _, fs_1⟩
      | 2, _, hx => cases hx; exact ⟨_, _, _, _, _, _, _, _, _, fs_2⟩
      | 3, _, hx => cases hx; exact ⟨_, _, _, _, _, _, _, _, _, fs_3⟩
      | 4, _, hx => cases hx; exact ⟨_, _, _, _, _, _, _, _, _, fs_4⟩
      | 5, _, hx => cases hx; exact ⟨_, _, _, _, _, _, _, _, _, fs_5⟩
      | 6, _, hx => cases hx; exact ⟨_, _, _, _, _, _, _, _, _, fs_6⟩
      | 7, _, hx => cases hx; exact ⟨_, _, _, _, _, _, _, _, _, fs_7⟩
      | 8, _, hx => cases hx; exact ⟨_, _, _, _, _, _, _, _, _, fs_8⟩
      | 9, _, hx => cases hx; exact ⟨_, _, _, _, _, _, _, _, _, fs_9⟩
      | 10, _, hx => cases hx; exact ⟨_, _, _, _, _, _, _, _, _, fs_10⟩
      | 11, _, hx => cases hx; exact ⟨_, _, _, _, _, _, _, _, _, fs_11⟩
      | 12, _, hx => cases hx; exact ⟨_, _, _, _, _, _, _, _, _, fs_12⟩
      | 13, _, hx => cases hx; exact ⟨_, _, _, _, _, _, _, _, _, fs_13⟩
      | 14, _, hx => cases hx; exact ⟨_, _, _, _, _, _, _, _, _, fs_14⟩
      | 15, _, hx => cases hx; exact ⟨_, _, _, _, _, _, _, _, _, fs_15⟩
      | 16, _, hx => cases hx; exact ⟨_, _, _, _, _, _, _, _, _, fs_16⟩
      | 17, _, hx => cases hx; exact ⟨_, _, _, _, _, _, _, _, _, fs_17⟩
      | 18, _, hx => cases hx; exact ⟨_, _, _, _, _, _, _, _, _, fs_18⟩
  have efa := hfa.symm.trans (PySem.W.mg_of X G a18)
  cases efa
  refine ⟨PySem.W.fnOf "law" "law" (defArgs s_law) (defBody s_law) (defScope s_law) .none kV18 dc18 pm18 an18 cd18 ct18, fun s u => .of_eq rfl, fun base KB GB => ?_⟩
  have mks : ∀ n x c, (x, c) ∈ T.mks → MkOk P w K mg base (pg.wd n).init n x c := by
    intro n x c hx
    have hx : (x, c) ∈ ([("InvalidValue", [73, 110, 118, 97, 108, 105, 100, 86, 97, 108, 117, 101]), ("Unlike", [85, 110, 108, 105, 107, 101])] : List (Str × Tx)) := hx
    simp only [List.mem_cons, List.not_mem_nil, or_false, Prod.mk.injEq] at hx
    rcases hx with ⟨rfl, rfl⟩ | ⟨rfl, rfl⟩
    · have XT : XB K A_InvalidValue "ValueError.__new__" [.type "ValueError", .type "Exception", .type "BaseException", .type "object"] := ⟨⟨_, _, _, _, _, _, _, _, _, _, _, _, _, _, _, x_InvalidValue, bm_InvalidValue'⟩, qs_InvalidValue, qt_InvalidValue, kc_InvalidValue⟩
      have Fi := fun_mk (st := ini_InvalidValue) il_InvalidValue ic_InvalidValue ik_InvalidValue
      have ef : ([[118, 97, 108, 117, 101]] : List Tx).map tx = (["value"] : List Str) := by decide +kernel
      have F1 : FnOk P w K mg base CX0 1 i_InvalidValue (PySem.W.fnOf "__init__" "InvalidValue.__init__" (defArgs ini_InvalidValue) (defBody ini_InvalidValue) (defScope ini_InvalidValue) .none ikV_InvalidValue idc_InvalidValue ipm_InvalidValue ian_InvalidValue icd_InvalidValue ict_InvalidValue) ("self" :: ([[118, 97, 108, 117, 101]] : List Tx).map tx) (spI A_InvalidValue (([[118, 97, 108, 117, 101]] : List Tx).map tx)) := by
        rw [ef]
        exact fn_ini (q0 := posI_InvalidValue 0) (q1 := posI_InvalidValue 1) (q2 := posI_InvalidValue 2) (q3 := posI_InvalidValue 3) (q4 := posI_InvalidValue 4) (q5 := posI_InvalidValue 5) PySem.F.excBase_ValueError PySem.F.store_ValueError XT Fi rfl ie_InvalidValue scI_InvalidValue rfl (by decide) (fun X hK hM hS => bas_of hK hM hS rfl mq_PairError (by decide) sg_InvalidValue rd_InvalidValue vv_InvalidValue (by decide +kernel)) pu_InvalidValue sa_InvalidValue (fun f hf => by
          simp only [List.mem_cons, List.not_mem_nil, or_false] at hf
          rcases hf with rfl
          · exact ⟨taker_of fd_InvalidValue_value, rfl, by decide, by decide⟩)
      refine mk_flds (fs := [[118, 97, 108, 117, 101]]) PySem.F.excBase_ValueError e_InvalidValue XT ii_InvalidValue it_InvalidValue F1 (by rw [ef]; exact Fi.binds fun _ _ _ _ _ _ us hl => match us, hl with | [_, _], _ => rfl) (by decide) mq_InvalidValue fun ds gs hi => ?_
      have hi : (if 2 ≤ n then initT [73, 110, 118, 97, 108, 105, 100, 86, 97, 108, 117, 101] ds else none) = some gs := hi
      split at hi
      · rename_i h2
        exact ⟨h2, initT_InvalidValue ds gs hi⟩
      · cases hi
    · have XT : XB K A_Unlike "RuntimeError.__new__" [.type "RuntimeError", .type "Exception", .type "BaseException", .type "object"] := ⟨⟨_, _, _, _, _, _, _, _, _, _, _, _, _, _, _, x_Unlike, bm_Unlike'⟩, qs_Unlike, qt_Unlike, kc_Unlike⟩
      have Fi := fun_mk (st := ini_Unlike) il_Unlike ic_Unlike ik_Unlike
      have ef : ([] : List Tx).map tx = ([] : List Str) := by decide +kernel
      have F1 : FnOk P w K mg base CX0 1 i_Unlike (PySem.W.fnOf "__init__" "Unlike.__init__" (defArgs ini_Unlike) (defBody ini_Unlike) (defScope ini_Unlike) .none ikV_Unlike idc_Unlike ipm_Unlike ian_Unlike icd_Unlike ict_Unlike) ("self" :: ([] : List Tx).map tx) (spI A_Unlike (([] : List Tx).map tx)) := by
        rw [ef]
        exact fn_ini (q0 := posI_Unlike 0) (q1 := posI_Unlike 1) (q2 := posI_Unlike 2) (q3 := posI_Unlike 3) (q4 := posI_Unlike 4) (q5 := posI_Unlike 5) PySem.F.excBase_RuntimeError PySem.F.store_RuntimeError XT Fi rfl ie_Unlike scI_Unlike rfl (by decide) (fun X' hK hM hS => bas_ofB hK hM hS rfl (PySem.W.mg_none_of X G y_RuntimeError) (by decide +kernel) (by decide) (by decide) (PySem.W.kitMeta_of (by decide +kernel)) (by decide +kernel) vv_Unlike (by decide +kernel)) pu_Unlike sa_Unlike (fun f hf => nomatch hf)
      refine mk_flds (fs := []) PySem.F.excBase_RuntimeError e_Unlike XT ii_Unlike it_Unlike F1 (by rw [ef]; exact Fi.binds fun _ _ _ _ _ _ us hl => match us, hl with | [_], _ => rfl) (by decide) mq_Unlike fun ds gs hi => ?_
      have hi : (if 2 ≤ n then initT [85, 110, 108, 105, 107, 101] ds else none) = some gs := hi
      split at hi
      · rename_i h2
        exact ⟨h2, initT_Unlike ds gs hi⟩
      · cases hi
  exact fn_step fs_18 (all_pf S mks 11) (mks 11)
end K12
open PySem PySem.W PyProof.Rows
set_option maxRecDepth 100000 in
set_option maxHeartbeats 0 in
theorem PySem.Challenge.cw_pairsigns_k12_signs_of_values_holds : PySem.Challenge.rw_pairsigns_k12_signs_of_values.Holds := by
  w_on; o_law; k_head
  (case hw => w_witness2)
  k_fill
  refine Pi.walkG (l := PySem.Challenge.rw_pairsigns_k12_signs_of_values) (m := 63) (k := 12) (f := 18) (x := "_law_script") (p := K12.pg) rfl (by decide) rfl ⟨rfl, by decide, by decide⟩ (fun w h Y => PySem.W.kIn_of Y) ?F ⟨_, rfl, rfl, rfl⟩ K12.law_all
  case F =>
    intro w mg fa h KX G hmg
    refine' K12.all_mk KX G hmg ?a0 ?l0 ?c0 ?k0 ?a1 ?l1 ?c1 ?k1 ?a2 ?l2 ?c2 ?k2 ?a3 ?l3 ?c3 ?k3 ?a4 ?l4 ?c4 ?k4 ?a5 ?l5 ?c5 ?k5 ?a6 ?l6 ?c6 ?k6 ?a7 ?l7 ?c7 ?k7 ?a8 ?l8 ?c8 ?k8 ?a9 ?l9 ?c9 ?k9 ?a10 ?l10 ?c10 ?k10 ?a11 ?l11 ?c11 ?k11 ?a12 ?l12 ?c12 ?k12 ?a13 ?l13 ?c13 ?k13 ?a14 ?l14 ?c14 ?k14 ?a15 ?l15 ?c15 ?k15 ?a16 ?l16 ?c16 ?k16 ?a17 ?l17 ?c17 ?k17 ?a18 ?l18 ?c18 ?k18 ?z_abs ?z_all ?z_bool ?z_divmod ?z_int ?z_isinstance ?z_len ?z_max ?z_min ?z_range ?z_repr ?z_str ?z_zip ?gk0 ?gk1 ?gk2 ?gk3 ?q_InvalidCount ?qs_InvalidCount ?qc_InvalidCount ?qt_InvalidCount ?q_InvalidName ?qs_InvalidName ?qc_InvalidName ?qt_InvalidName ?q_InvalidText ?qs_InvalidText ?qc_InvalidText ?qt_InvalidText ?q_InvalidValue ?qs_InvalidValue ?qc_InvalidValue ?qt_InvalidValue ?q_InvalidVector ?qs_InvalidVector ?qc_InvalidVector ?qt_InvalidVector ?q_PairError ?qs_PairError ?qc_PairError ?qt_PairError ?q_Unlike ?qs_Unlike ?qc_Unlike ?qt_Unlike ?y_RuntimeError ?ys_RuntimeError ?y_ValueError ?ys_ValueError ?hsp0 ?htk0 ?hd_InvalidValue ?ga_InvalidValue ?gt_InvalidValue ?cl_InvalidValue ?mo_InvalidValue ?fd_InvalidValue_value ?s_InvalidValue_InvalidValue ?s_InvalidValue_ValueError ?s_InvalidValue_InvalidCount ?ne_InvalidValue_InvalidCount ?s_InvalidValue_InvalidName ?ne_InvalidValue_InvalidName ?s_InvalidValue_InvalidText ?ne_InvalidValue_InvalidText ?s_InvalidValue_InvalidVector ?ne_InvalidValue_InvalidVector ?s_InvalidValue_PairError ?s_InvalidValue_RuntimeError ?s_InvalidValue_Unlike ?ne_InvalidValue_Unlike ?x_InvalidValue ?kc_InvalidValue ?ii_InvalidValue ?it_InvalidValue ?il_InvalidValue ?ic_InvalidValue ?ik_InvalidValue ?sa_InvalidValue ?sg_InvalidValue ?rd_InvalidValue ?vv_InvalidValue ?bm_InvalidValue' ?hd_Unlike ?ga_Unlike ?gt_Unlike ?cl_Unlike ?mo_Unlike ?fd_Unlike_value ?s_Unlike_InvalidValue ?ne_Unlike_InvalidValue ?s_Unlike_ValueError ?s_Unlike_InvalidCount ?ne_Unlike_InvalidCount ?s_Unlike_InvalidName ?ne_Unlike_InvalidName ?s_Unlike_InvalidText ?ne_Unlike_InvalidText ?s_Unlike_InvalidVector ?ne_Unlike_InvalidVector ?s_Unlike_PairError ?ne_Unlike_PairError ?s_Unlike_RuntimeError ?s_Unlike_Unlike ?x_Unlike ?kc_Unlike ?ii_Unlike ?it_Unlike ?il_Unlike ?ic_Unlike ?ik_Unlike ?sa_Unlike ?vv_Unlike ?bm_Unlike'
    (case a0 => k_is)
    (case l0 => k_is)
    (case c0 => k_is)
    (case k0 => k_is)
    (case a1 => k_is)
    (case l1 => k_is)
    (case c1 => k_is)
    (case k1 => k_is)
    (case a2 => k_is)
    (case l2 => k_is)
    (case c2 => k_is)
    (case k2 => k_is)
    (case a3 => k_is)
    (case l3 => k_is)
    (case c3 => k_is)
    (case k3 => k_is)
    (case a4 => k_is)
    (case l4 => k_is)
    (case c4 => k_is)
    (case k4 => k_is)
    (case a5 => k_is)
    (case l5 => k_is)
    (case c5 => k_is)
    (case k5 => k_is)
    (case a6 => k_is)
    (case l6 => k_is)
    (case c6 => k_is)
    (case k6 => k_is)
    (case a7 => k_is)
    (case l7 => k_is)
    (case c7 => k_is)
    (case k7 => k_is)
    (case a8 => k_is)
    (case l8 => k_is)
    (case c8 => k_is)
    (case k8 => k_is)
    (case a9 => k_is)
    (case l9 => k_is)
    (case c9 => k_is)
    (case k9 => k_is)
    (case a10 => k_is)
    (case l10 => k_is)
    (case c10 => k_is)
    (case k10 => k_is)
    (case a11 => k_is)
    (case l11 => k_is)
    (case c11 => k_is)
    (case k11 => k_is)
    (case a12 => k_is)
    (case l12 => k_is)
    (case c12 => k_is)
    (case k12 => k_is)
    (case a13 => k_is)
    (case l13 => k_is)
    (case c13 => k_is)
    (case k13 => k_is)
    (case a14 => k_is)
    (case l14 => k_is)
    (case c14 => k_is)
    (case k14 => k_is)
    (case a15 => k_is)
    (case l15 => k_is)
    (case c15 => k_is)
    (case k15 => k_is)
    (case a16 => k_is)
    (case l16 => k_is)
    (case c16 => k_is)
    (case k16 => k_is)
    (case a17 => k_is)
    (case l17 => k_is)
    (case c17 => k_is)
    (case k17 => k_is)
    (case a18 => k_is)
    (case l18 => k_is)
    (case c18 => k_is)
    (case k18 => k_is)
    (case z_abs => k_is)
    (case z_all => k_is)
    (case z_bool => k_is)
    (case z_divmod => k_is)
    (case z_int => k_is)
    (case z_isinstance => k_is)
    (case z_len => k_is)
    (case z_max => k_is)
    (case z_min => k_is)
    (case z_range => k_is)
    (case z_repr => k_is)
    (case z_str => k_is)
    (case z_zip => k_is)
    (case gk0 => k_is)
    (case gk1 => k_is)
    (case gk2 => k_is)
    (case gk3 => k_is)
    (case q_InvalidCount => k_is)
    (case qs_InvalidCount => k_is)
    (case qc_InvalidCount => k_is)
    (case qt_InvalidCount => k_is)
    (case q_InvalidName => k_is)
    (case qs_InvalidName => k_is)
    (case qc_InvalidName => k_is)
    (case qt_InvalidName => k_is)
    (case q_InvalidText => k_is)
    (case qs_InvalidText => k_is)
    (case qc_InvalidText => k_is)
    (case qt_InvalidText => k_is)
    (case q_InvalidValue => k_is)
    (case qs_InvalidValue => k_is)
    (case qc_InvalidValue => k_is)
    (case qt_InvalidValue => k_is)
    (case q_InvalidVector => k_is)
    (case qs_InvalidVector => k_is)
    (case qc_InvalidVector => k_is)
    (case qt_InvalidVector => k_is)
    (case q_PairError => k_is)
    (case qs_PairError => k_is)
    (case qc_PairError => k_is)
    (case qt_PairError => k_is)
    (case q_Unlike => k_is)
    (case qs_Unlike => k_is)
    (case qc_Unlike => k_is)
    (case qt_Unlike => k_is)
    (case y_RuntimeError => k_is)
    (case ys_RuntimeError => k_is)
    (case y_ValueError => k_is)
    (case ys_ValueError => k_is)
    (case hsp0 => k_is)
    (case htk0 => k_is)
    (case hd_InvalidValue => k_is)
    (case ga_InvalidValue => k_is)
    (case gt_InvalidValue => k_is)
    (case cl_InvalidValue => k_is)
    (case mo_InvalidValue => k_is)
    (case fd_InvalidValue_value => k_is)
    (case s_InvalidValue_InvalidValue => k_is)
    (case s_InvalidValue_ValueError => k_is)
    (case s_InvalidValue_InvalidCount => k_is)
    (case ne_InvalidValue_InvalidCount => decide)
    (case s_InvalidValue_InvalidName => k_is)
    (case ne_InvalidValue_InvalidName => decide)
    (case s_InvalidValue_InvalidText => k_is)
    (case ne_InvalidValue_InvalidText => decide)
    (case s_InvalidValue_InvalidVector => k_is)
    (case ne_InvalidValue_InvalidVector => decide)
    (case s_InvalidValue_PairError => k_is)
    (case s_InvalidValue_RuntimeError => k_is)
    (case s_InvalidValue_Unlike => k_is)
    (case ne_InvalidValue_Unlike => decide)
    (case x_InvalidValue => k_is)
    (case kc_InvalidValue => k_is)
    (case ii_InvalidValue => k_is)
    (case it_InvalidValue => k_is)
    (case il_InvalidValue => k_is)
    (case ic_InvalidValue => k_is)
    (case ik_InvalidValue => k_is)
    (case sa_InvalidValue => k_is)
    (case sg_InvalidValue => k_is)
    (case rd_InvalidValue => k_is)
    (case vv_InvalidValue => k_is)
    (case bm_InvalidValue' => decide +kernel)
    (case hd_Unlike => k_is)
    (case ga_Unlike => k_is)
    (case gt_Unlike => k_is)
    (case cl_Unlike => k_is)
    (case mo_Unlike => k_is)
    (case fd_Unlike_value => k_is)
    (case s_Unlike_InvalidValue => k_is)
    (case ne_Unlike_InvalidValue => decide)
    (case s_Unlike_ValueError => k_is)
    (case s_Unlike_InvalidCount => k_is)
    (case ne_Unlike_InvalidCount => decide)
    (case s_Unlike_InvalidName => k_is)
    (case ne_Unlike_InvalidName => decide)
    (case s_Unlike_InvalidText => k_is)
    (case ne_Unlike_InvalidText => decide)
    (case s_Unlike_InvalidVector => k_is)
    (case ne_Unlike_InvalidVector => decide)
    (case s_Unlike_PairError => k_is)
    (case ne_Unlike_PairError => decide)
    (case s_Unlike_RuntimeError => k_is)
    (case s_Unlike_Unlike => k_is)
    (case x_Unlike => k_is)
    (case kc_Unlike => k_is)
    (case ii_Unlike => k_is)
    (case it_Unlike => k_is)
    (case il_Unlike => k_is)
    (case ic_Unlike => k_is)
    (case ik_Unlike => k_is)
    (case sa_Unlike => k_is)
    (case vv_Unlike => k_is)
    (case bm_Unlike' => decide +kernel)
