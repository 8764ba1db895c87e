import PyProof.Rows.All
import Open.Line
import PySem.Challenge.RW_xm0429_01
set_option Elab.async false

section
/- The light layer: data, run-time values, predicate transformers. No library in sight. -/
namespace Mine

inductive D where
  | none
  | bool (b : Bool)
  | int (i : Int)
  | fn (a : Nat)
  | tup (ds : List D)
  | lst (ds : List D)
  deriving Inhabited

inductive RV where
  | val (d : D)
  | ptr (i : Nat)
  deriving Inhabited

inductive Cell where
  | lst (xs : List D)
  | dict (kv : List (List Int × D))
  | dead
  deriving Inhabited

structure MS where
  fr : List (Option RV)
  cs : List Cell

/-- predicate transformers -/
noncomputable abbrev T (α : Type) := MS → (α → MS → Prop) → Prop

inductive Fl where
  | next
  | ret (d : D)

noncomputable def LIM : Nat := 1048576

noncomputable def MS.set (ms : MS) (i : Nat) (r : RV) : MS := ⟨ms.fr.set i (some r), ms.cs⟩
noncomputable def MS.setC (ms : MS) (i : Nat) (c : Cell) : MS := ⟨ms.fr, ms.cs.set i c⟩
noncomputable def MS.addC (ms : MS) (c : Cell) : MS := ⟨ms.fr, ms.cs ++ [c]⟩

/-- what a run-time value is as data -/
noncomputable def MS.dat (ms : MS) : RV → Option D
  | .val d => some d
  | .ptr i => match ms.cs[i]? with
    | some (.lst xs) => some (.lst xs)
    | _ => Option.none

noncomputable def MS.look (ms : MS) (r : RV) : Option (List D) := match ms.dat r with
  | some (.lst xs) => some xs
  | _ => Option.none

-- names and constants
noncomputable def tVar (i : Nat) : T RV := fun ms Q => match ms.fr[i]? with
  | some (some r) => Q r ms
  | _ => False
noncomputable def tC (d : D) : T RV := fun ms Q => Q (.val d) ms

/-- from a run-time value to data: a cell of the call's own is frozen -/
noncomputable def tFrz (np : Nat) (e : T RV) : T D := fun ms Q => e ms fun r ms1 => match r with
  | .val d => Q d ms1
  | .ptr i => match ms1.cs[i]? with
    | some (.lst xs) => np ≤ i ∧ Q (.lst xs) (ms1.setC i .dead)
    | _ => False
noncomputable def tVal (e : T RV) : T D := fun ms Q => e ms fun r ms1 => match r with
  | .val d => Q d ms1
  | .ptr _ => False
noncomputable def tUp (e : T D) : T RV := fun ms Q => e ms fun d ms1 => Q (.val d) ms1

inductive Op where
  | add | sub | mul | div | mod | shl | shr | band | bor | pow

noncomputable def Op.ok : Op → Int → Int → Prop
  | .add, _, _ => True
  | .sub, _, _ => True
  | .mul, a, b => a.natAbs < 2 ^ 60 ∨ b.natAbs < 2 ^ 60
  | .div, _, b => 0 < b ∧ b < 2 ^ 30
  | .mod, _, b => 0 < b
  | .shl, a, b => 0 ≤ b ∧ b ≤ 1000 ∧ a.natAbs < 2 ^ 60
  | .shr, _, b => 0 ≤ b ∧ b ≤ 1000
  | .band, a, b => 0 ≤ a ∧ 0 ≤ b
  | .bor, a, b => 0 ≤ a ∧ 0 ≤ b
  | .pow, a, b => a.natAbs < 2 ^ 60 ∧ 0 ≤ b ∧ b ≤ 1000
noncomputable def Op.ev : Op → Int → Int → Int
  | .add, a, b => a + b
  | .sub, a, b => a - b
  | .mul, a, b => a * b
  | .div, a, b => a / b
  | .mod, a, b => a % b
  | .shl, a, b => a * 2 ^ b.toNat
  | .shr, a, b => a / 2 ^ b.toNat
  | .band, a, b => ((a.toNat &&& b.toNat : Nat) : Int)
  | .bor, a, b => ((a.toNat ||| b.toNat : Nat) : Int)
  | .pow, a, b => a ^ b.toNat

noncomputable def evBin (op : Op) (a b : RV) (Q : RV → Prop) : Prop := match a, b with
  | .val (.int x), .val (.int y) => op.ok x y ∧ Q (.val (.int (op.ev x y)))
  | _, _ => False
noncomputable def tBin (op : Op) (l r : T RV) : T RV := fun ms Q => l ms fun a ms1 => r ms1 fun b ms2 => evBin op a b fun v => Q v ms2

noncomputable def tNeg (e : T RV) : T RV := fun ms Q => e ms fun a ms1 => match a with
  | .val (.int x) => Q (.val (.int (-x))) ms1
  | _ => False

-- lists and tuples
noncomputable def tArgs : List (T D) → T (List D)
  | [] => fun ms Q => Q [] ms
  | e :: es => fun ms Q => e ms fun d ms1 => tArgs es ms1 fun ds ms2 => Q (d :: ds) ms2
noncomputable def tTup (es : List (T D)) : T RV := fun ms Q => tArgs es ms fun ds ms1 => Q (.val (.tup ds)) ms1
/-- a list display that stays the call's own -/
noncomputable def tLst (es : List (T D)) : T RV := fun ms Q => tArgs es ms fun ds ms1 => Q (.ptr ms1.cs.length) (ms1.addC (.lst ds))
/-- a list display that no one writes -/
noncomputable def tLstV (es : List (T D)) : T RV := fun ms Q => tArgs es ms fun ds ms1 => Q (.val (.lst ds)) ms1
noncomputable def tRep (l n : T RV) : T RV := fun ms Q => l ms fun a ms1 => n ms1 fun b ms2 => match ms2.look a, b with
  | some xs, .val (.int k) => xs ≠ [] ∧ xs.length * k.toNat ≤ LIM ∧ k ≤ 1000000 ∧ 0 ≤ k ∧ Q (.ptr ms2.cs.length) (ms2.addC (.lst (List.replicate k.toNat xs).flatten))
  | _, _ => False
noncomputable def tCat (l r : T RV) : T RV := fun ms Q => l ms fun a ms1 => r ms1 fun b ms2 => match ms2.look a, ms2.look b with
  | some xs, some ys => xs.length + ys.length ≤ LIM ∧ Q (.ptr ms2.cs.length) (ms2.addC (.lst (xs ++ ys)))
  | _, _ => False
noncomputable def tTCat (l r : T RV) : T RV := fun ms Q => l ms fun a ms1 => r ms1 fun b ms2 => match a, b with
  | .val (.tup xs), .val (.tup ys) => xs.length + ys.length ≤ LIM ∧ Q (.val (.tup (xs ++ ys))) ms2
  | _, _ => False
noncomputable def tLen (e : T RV) : T RV := fun ms Q => e ms fun a ms1 => match ms1.look a with
  | some xs => Q (.val (.int xs.length)) ms1
  | Option.none => False
noncomputable def clip (n : Nat) (i : Int) : Nat := (max 0 (min (if i < 0 then i + n else i) n)).toNat
noncomputable def cut (xs : List D) (lo hi : Option Int) : List D :=
  (xs.drop (lo.elim 0 (clip xs.length))).take (hi.elim xs.length (clip xs.length) - lo.elim 0 (clip xs.length))
noncomputable def tOpt : Option (T RV) → T (Option Int)
  | Option.none => fun ms Q => Q Option.none ms
  | some e => fun ms Q => e ms fun a ms1 => match a with
    | .val (.int k) => Q (some k) ms1
    | _ => False
noncomputable def tCut (e : T RV) (lo hi : Option (T RV)) : T RV := fun ms Q => e ms fun a ms1 => tOpt lo ms1 fun l ms2 => tOpt hi ms2 fun h ms3 => match ms3.look a with
  | some xs => Q (.val (.lst (cut xs l h))) ms3
  | Option.none => False
noncomputable def evItem (ms : MS) (a b : RV) (Q : RV → Prop) : Prop := match ms.dat a, b with
  | some (.lst xs), .val (.int k) => 0 ≤ (if k < 0 then k + xs.length else k) ∧ ∃ d, xs[(if k < 0 then k + xs.length else k).toNat]? = some d ∧ Q (.val d)
  | some (.tup xs), .val (.int k) => 0 ≤ k ∧ ∃ d, xs[k.toNat]? = some d ∧ Q (.val d)
  | _, _ => False
noncomputable def tItem (e i : T RV) : T RV := fun ms Q => e ms fun a ms1 => i ms1 fun b ms2 => evItem ms2 a b fun v => Q v ms2
noncomputable def keyOf : D → Option (List Int)
  | .tup ds => ds.mapM fun d => match d with
    | .int i => some i
    | _ => Option.none
  | _ => Option.none
noncomputable def tGet (e i : T RV) : T RV := fun ms Q => e ms fun a ms1 => i ms1 fun b ms2 => match a, b with
  | .ptr n, .val k => match ms2.cs[n]?, keyOf k with
    | some (.dict kv), some ks => ∃ d, kv.lookup ks = some d ∧ Q (.val d) ms2
    | _, _ => False
  | _, _ => False

-- built-in functions
noncomputable def tAbs (e : T RV) : T RV := fun ms Q => e ms fun a ms1 => match a with
  | .val (.int x) => Q (.val (.int x.natAbs)) ms1
  | _ => False
noncomputable def tIntOf (e : T RV) : T RV := fun ms Q => e ms fun a ms1 => match a with
  | .val (.int x) => Q (.val (.int x)) ms1
  | _ => False
noncomputable def tBitLen (e : T RV) : T RV := fun ms Q => e ms fun a ms1 => match a with
  | .val (.int x) => 0 < x ∧ Q (.val (.int (x.toNat.log2 + 1))) ms1
  | _ => False
noncomputable def tMin (l r : T RV) : T RV := fun ms Q => l ms fun a ms1 => r ms1 fun b ms2 => match a, b with
  | .val (.int x), .val (.int y) => Q (.val (.int (if y < x then y else x))) ms2
  | _, _ => False
noncomputable def intsOf : List D → Option (List Int)
  | [] => some []
  | .int i :: r => (intsOf r).map (i :: ·)
  | _ => Option.none
noncomputable def tSum (e : T RV) : T RV := fun ms Q => e ms fun a ms1 => match ms1.look a with
  | some xs => ∃ ns, intsOf xs = some ns ∧ Q (.val (.int ns.sum)) ms1
  | Option.none => False

-- tests
inductive Cmp where
  | eq | ne | lt | le | gt | ge
noncomputable def Cmp.ev : Cmp → Int → Int → Bool
  | .eq, a, b => decide (a = b)
  | .ne, a, b => decide (a ≠ b)
  | .lt, a, b => decide (a < b)
  | .le, a, b => decide (a ≤ b)
  | .gt, a, b => decide (b < a)
  | .ge, a, b => decide (b ≤ a)
noncomputable def evCmp (op : Cmp) (a b : RV) (Q : Bool → Prop) : Prop := match a, b with
  | .val (.int x), .val (.int y) => Q (op.ev x y)
  | _, _ => False
noncomputable def tCmp (op : Cmp) (l r : T RV) : T Bool := fun ms Q => l ms fun a ms1 => r ms1 fun b ms2 => evCmp op a b fun v => Q v ms2
noncomputable def evEqB (neg : Bool) (a b : RV) (Q : Bool → Prop) : Prop := match a, b with
  | .val (.bool x), .val (.bool y) => Q (if neg then x != y else x == y)
  | _, _ => False
noncomputable def tEqB (neg : Bool) (l r : T RV) : T Bool := fun ms Q => l ms fun a ms1 => r ms1 fun b ms2 => evEqB neg a b fun v => Q v ms2
/-- the data that two readings of the law compare: bools, dInts, tuples and lists of one make -/
inductive Alike : Nat → D → D → Prop
  | bool (n : Nat) (a b : Bool) : Alike n (.bool a) (.bool b)
  | lst (n : Nat) (xs ys : List Int) : Alike (n + 1) (.lst (xs.map .int)) (.lst (ys.map .int))
  | tup2 {n : Nat} {a b a' b' : D} : Alike n a a' → Alike n b b' → Alike (n + 1) (.tup [a, b]) (.tup [a', b'])
/-- l != r -/
noncomputable def evNe (a b : RV) (Q : Bool → Prop) : Prop := match a, b with
  | .val x, .val y => Alike 8 x y ∧ ∀ v : Bool, (v = true ↔ x ≠ y) → Q v
  | _, _ => False
noncomputable def tNe (l r : T RV) : T Bool := fun ms Q => l ms fun a ms1 => r ms1 fun b ms2 => evNe a b fun v => Q v ms2
noncomputable def evNotIn (a b : RV) (Q : Bool → Prop) : Prop := match a, b with
  | .val (.int x), .val (.tup ys) => ∃ ns, intsOf ys = some ns ∧ Q (decide (x ∉ ns))
  | _, _ => False
noncomputable def tNotIn (l r : T RV) : T Bool := fun ms Q => l ms fun a ms1 => r ms1 fun b ms2 => evNotIn a b fun v => Q v ms2
noncomputable def tAnd (l r : T Bool) : T Bool := fun ms Q => l ms fun a ms1 => if a then r ms1 Q else Q false ms1
noncomputable def tNot (e : T Bool) : T Bool := fun ms Q => e ms fun a ms1 => Q (!a) ms1
/-- the truth of a bool -/
noncomputable def tTruth (e : T RV) : T Bool := fun ms Q => e ms fun a ms1 => match a with
  | .val (.bool b) => Q b ms1
  | _ => False
/-- a test as a value -/
noncomputable def tBoolV (e : T Bool) : T RV := fun ms Q => e ms fun b ms1 => Q (.val (.bool b)) ms1
noncomputable def tIfE (c : T Bool) (a b : T RV) : T RV := fun ms Q => c ms fun v ms1 => if v then a ms1 Q else b ms1 Q

-- calls of the text's own defs
noncomputable def tCall (K : List D → D → Prop) (es : List (T D)) : T RV := fun ms Q => tArgs es ms fun ds ms1 => ∃ d, K ds d ∧ Q (.val d) ms1
/-- the callee is a local name -/
noncomputable def tCallV (as : List Nat) (K : Nat → List D → D → Prop) (f : Nat) (es : List (T D)) : T RV := fun ms Q => match ms.fr[f]? with
  | some (some (.val (.fn a))) => a ∈ as ∧ tArgs es ms fun ds ms1 => ∃ d, K a ds d ∧ Q (.val d) ms1
  | _ => False
noncomputable def D.flat : D → Prop
  | .none => True
  | .bool _ => True
  | .int _ => True
  | _ => False
/-- the first argument is a name that holds a list of the call's own; the def only reads it, and gives back what holds no reference -/
noncomputable def tCallL (K : List D → D → Prop) (i : Nat) (es : List (T D)) : T RV := fun ms Q => match ms.fr[i]? with
  | some (some r) => tArgs es ms fun ds ms1 => match ms1.look r with
    | some xs => ∃ d, K (.lst xs :: ds) d ∧ d.flat ∧ Q (.val d) ms1
    | Option.none => False
  | _ => False
/-- the first argument is a name that holds a list of the call's own; the def writes it -/
noncomputable def tCallM (K : List D → List D → List D → D → Prop) (i : Nat) (es : List (T D)) : T RV := fun ms Q => match ms.fr[i]? with
  | some (some (.ptr n)) => tArgs es ms fun ds ms1 => match ms1.cs[n]? with
    | some (.lst xs) => ∃ xs' d, K xs ds xs' d ∧ Q (.val d) (ms1.setC n (.lst xs'))
    | _ => False
  | _ => False

-- binding
noncomputable def bind1 (i : Nat) (d : D) (ms : MS) : Option MS := some (ms.set i (.val d))
noncomputable def bindAll : List Nat → List D → MS → Option MS
  | [], [], ms => some ms
  | i :: is, d :: ds, ms => bindAll is ds (ms.set i (.val d))
  | _, _, _ => Option.none
noncomputable def bindT (is : List Nat) (d : D) (ms : MS) : Option MS := match d with
  | .tup ds => bindAll is ds ms
  | _ => Option.none

-- comprehensions
noncomputable def compGo (bind : D → MS → Option MS) (cond : T Bool) (elt : T D) : List D → List D → T (List D)
  | [], acc => fun ms Q => Q acc ms
  | d :: ds, acc => fun ms Q => ∃ ms1, bind d ms = some ms1 ∧ cond ms1 fun b ms2 =>
      if b then elt ms2 fun x ms3 => compGo bind cond elt ds (acc ++ [x]) ms3 Q else compGo bind cond elt ds acc ms2 Q
noncomputable def tTrue : T Bool := fun ms Q => Q true ms
noncomputable def pick (fr : List (Option RV)) (j : Nat) : Option RV := match fr[j]? with
  | some r => r
  | Option.none => Option.none
/-- the inner frame: tg names of its own, then what it takes from the outer one -/
noncomputable def mkFr (tg : Nat) (cap : List Nat) (fr : List (Option RV)) : List (Option RV) := List.replicate tg Option.none ++ cap.map (pick fr)
noncomputable def tComp (it : T (List D)) (tg : Nat) (cap : List Nat) (bind : D → MS → Option MS) (cond : T Bool) (elt : T D) : T (List D) := fun ms Q =>
  it ms fun ds ms1 => compGo bind cond elt ds [] ⟨mkFr tg cap ms1.fr, ms1.cs⟩ fun out ms2 => Q out ⟨ms1.fr, ms2.cs.take ms1.cs.length⟩
/-- a comprehension whose list no one writes -/
noncomputable def tCompV (it : T (List D)) (tg : Nat) (cap : List Nat) (bind : D → MS → Option MS) (cond : T Bool) (elt : T D) : T RV := fun ms Q =>
  tComp it tg cap bind cond elt ms fun out ms1 => Q (.val (.lst out)) ms1
noncomputable def tCompP (it : T (List D)) (tg : Nat) (cap : List Nat) (bind : D → MS → Option MS) (cond : T Bool) (elt : T D) : T RV := fun ms Q =>
  tComp it tg cap bind cond elt ms fun out ms1 => Q (.ptr ms1.cs.length) (ms1.addC (.lst out))

-- what is walked
noncomputable def dInts (a c : Int) (n : Nat) : List D := (List.range n).map fun i : Nat => .int (a + (i : Int) * c)
noncomputable def Small (a : Int) : Prop := a.natAbs < 2 ^ 60
noncomputable def tRange1 (e : T RV) : T (List D) := fun ms Q => e ms fun a ms1 => match a with
  | .val (.int n) => Small n ∧ n ≤ LIM ∧ Q (dInts 0 1 n.toNat) ms1
  | _ => False
noncomputable def tRange2 (e1 e2 : T RV) : T (List D) := fun ms Q => e1 ms fun a ms1 => e2 ms1 fun b ms2 => match a, b with
  | .val (.int x), .val (.int y) => Small x ∧ Small y ∧ y - x ≤ LIM ∧ Q (dInts x 1 (y - x).toNat) ms2
  | _, _ => False
/-- range(a, b, -1) -/
noncomputable def tRangeD (e1 e2 : T RV) : T (List D) := fun ms Q => e1 ms fun a ms1 => e2 ms1 fun b ms2 => match a, b with
  | .val (.int x), .val (.int y) => Small x ∧ Small y ∧ x - y ≤ LIM ∧ Q (dInts x (-1) (x - y).toNat) ms2
  | _, _ => False
noncomputable def tItems (e : T D) : T (List D) := fun ms Q => e ms fun d ms1 => match d with
  | .lst xs => Q xs ms1
  | _ => False
/-- a tuple is walked -/
noncomputable def tItemsT (e : T D) : T (List D) := fun ms Q => e ms fun d ms1 => match d with
  | .tup xs => Q xs ms1
  | _ => False
noncomputable def enumFrom : Nat → List D → List D
  | _, [] => []
  | i, d :: ds => .tup [.int i, d] :: enumFrom (i + 1) ds
noncomputable def tEnum (e : T D) : T (List D) := fun ms Q => e ms fun d ms1 => match d with
  | .lst xs => Q (enumFrom 0 xs) ms1
  | _ => False

-- statements
noncomputable def tSeq (a b : T Fl) : T Fl := fun ms Q => a ms fun f ms1 => match f with
  | .next => b ms1 Q
  | .ret d => Q (.ret d) ms1
noncomputable def tNext : T Fl := fun ms Q => Q .next ms
noncomputable def tSeqs : List (T Fl) → T Fl
  | [] => tNext
  | a :: r => tSeq a (tSeqs r)
noncomputable def tAsg (i : Nat) (e : T RV) : T Fl := fun ms Q => e ms fun r ms1 => Q .next (ms1.set i r)
noncomputable def tRVs : List (T RV) → T (List RV)
  | [] => fun ms Q => Q [] ms
  | e :: es => fun ms Q => e ms fun r ms1 => tRVs es ms1 fun rs ms2 => Q (r :: rs) ms2
noncomputable def setAll : List Nat → List RV → MS → MS
  | i :: is, r :: rs, ms => setAll is rs (ms.set i r)
  | _, _, ms => ms
/-- x, y = (e1, e2) -/
noncomputable def tMulti (is : List Nat) (es : List (T RV)) : T Fl := fun ms Q => tRVs es ms fun rs ms1 => Q .next (setAll is rs ms1)
/-- x, y = e, e a tuple made elsewhere -/
noncomputable def tUnp (is : List Nat) (e : T D) : T Fl := fun ms Q => e ms fun d ms1 => ∃ ms2, bindT is d ms1 = some ms2 ∧ Q .next ms2
/-- xs[i] = e -/
noncomputable def tPut (x : Nat) (i : T RV) (e : T D) : T Fl := fun ms Q => e ms fun d ms1 => match ms1.fr[x]? with
  | some (some (.ptr n)) => i ms1 fun b ms2 => match b, ms2.cs[n]? with
    | .val (.int k), some (.lst xs) => 0 ≤ k ∧ k < xs.length ∧ Q .next (ms2.setC n (.lst (xs.set k.toNat d)))
    | _, _ => False
  | _ => False
/-- d[k] = e, d a dict by tuples of dInts -/
noncomputable def dictPut : List (List Int × D) → List Int → D → List (List Int × D)
  | [], k, v => [(k, v)]
  | (k', v') :: r, k, v => if k = k' then (k', v) :: r else (k', v') :: dictPut r k v
noncomputable def tPutD (x : Nat) (i : T RV) (e : T D) : T Fl := fun ms Q => e ms fun d ms1 => match ms1.fr[x]? with
  | some (some (.ptr n)) => i ms1 fun b ms2 => match b, ms2.cs[n]? with
    | .val k, some (.dict kv) => ∃ ks, keyOf k = some ks ∧ kv.length < 1000 ∧ Q .next (ms2.setC n (.dict (dictPut kv ks d)))
    | _, _ => False
  | _ => False
/-- xs[i], xs[j] = (a, b) -/
noncomputable def tSwap (x : Nat) (i j : T RV) (a b : T D) : T Fl := fun ms Q => a ms fun d1 ms1 => b ms1 fun d2 ms2 => match ms2.fr[x]? with
  | some (some (.ptr n)) => i ms2 fun r1 ms3 => match r1, ms3.cs[n]? with
    | .val (.int k1), some (.lst xs) => 0 ≤ k1 ∧ k1 < xs.length ∧ ms3.fr[x]? = some (some (.ptr n)) ∧ j (ms3.setC n (.lst (xs.set k1.toNat d1))) fun r2 ms4 => match r2, ms4.cs[n]? with
      | .val (.int k2), some (.lst ys) => 0 ≤ k2 ∧ k2 < ys.length ∧ Q .next (ms4.setC n (.lst (ys.set k2.toNat d2)))
      | _, _ => False
    | _, _ => False
  | _ => False
noncomputable def tAug (i : Nat) (op : Op) (e : T RV) : T Fl := fun ms Q => match ms.fr[i]? with
  | some (some a) => e ms fun b ms1 => evBin op a b fun v => Q .next (ms1.set i v)
  | _ => False
/-- xs.append(e) -/
noncomputable def tApp (x : Nat) (e : T D) : T Fl := fun ms Q => match ms.fr[x]? with
  | some (some (.ptr n)) => (∃ ys, ms.cs[n]? = some (.lst ys)) ∧ e ms fun d ms1 => match ms1.cs[n]? with
    | some (.lst xs) => xs.length < LIM ∧ Q .next (ms1.setC n (.lst (xs ++ [d])))
    | _ => False
  | _ => False
noncomputable def tDict : T RV := fun ms Q => Q (.ptr ms.cs.length) (ms.addC (.dict []))
/-- a call for its deed -/
noncomputable def tDo (e : T RV) : T Fl := fun ms Q => e ms fun r ms1 => r = .val .none ∧ Q .next ms1
noncomputable def tIf (c : T Bool) (a b : T Fl) : T Fl := fun ms Q => c ms fun v ms1 => if v then a ms1 Q else b ms1 Q
noncomputable def tRet (e : T D) : T Fl := fun ms Q => e ms fun d ms1 => Q (.ret d) ms1
/-- never reached -/
noncomputable def tNever : T Fl := fun _ _ => False
noncomputable def forGo (bind : D → MS → Option MS) (body : T Fl) : List D → T Fl
  | [] => fun ms Q => Q .next ms
  | d :: ds => fun ms Q => ∃ ms1, bind d ms = some ms1 ∧ body ms1 fun f ms2 => match f with
    | .next => forGo bind body ds ms2 Q
    | .ret r => Q (.ret r) ms2
noncomputable def tFor (it : T (List D)) (bind : D → MS → Option MS) (body : T Fl) : T Fl := fun ms Q => it ms fun ds ms1 => forGo bind body ds ms1 Q
noncomputable def whileGo (c : T Bool) (body : T Fl) : Nat → T Fl
  | 0 => fun _ _ => False
  | n + 1 => fun ms Q => c ms fun v ms1 => if v then body ms1 fun f ms2 => match f with
      | .next => whileGo c body n ms2 Q
      | .ret r => Q (.ret r) ms2
    else Q .next ms1
noncomputable def tWhile (c : T Bool) (body : T Fl) : T Fl := fun ms Q => ∃ n, whileGo c body n ms Q

/-- a pure def: its body, started with its arguments -/
noncomputable def Runs (body : T Fl) (more : Nat) (ds : List D) (d : D) : Prop :=
  body ⟨ds.map (fun d => some (.val d)) ++ List.replicate more Option.none, []⟩ fun f _ => f = .ret d ∨ (f = .next ∧ d = .none)
/-- a def that writes its first argument, a list -/
noncomputable def RunsM (body : T Fl) (more : Nat) (xs : List D) (ds : List D) (xs' : List D) (d : D) : Prop :=
  body ⟨some (.ptr 0) :: (ds.map (fun d => some (.val d)) ++ List.replicate more Option.none), [.lst xs]⟩
    fun f ms => (f = .ret d ∨ (f = .next ∧ d = .none)) ∧ ms.cs[0]? = some (.lst xs')
end Mine
end

section
set_option maxRecDepth 100000
set_option Elab.async false
set_option autoImplicit false
set_option linter.unusedVariables false
namespace Mine
open PySem

noncomputable abbrev PH := Addr → Option Obj
noncomputable abbrev tupO (vs : List Value) (n : Nat) : Obj := { cls := .type "tuple", dict := none, data := .seq vs.toArray n, slots := #[] }
noncomputable abbrev lstO (vs : List Value) (n : Nat) : Obj := { cls := .type "list", dict := none, data := .seq vs.toArray n, slots := #[] }

mutual
inductive Rep (g : PH) : Value → D → Prop
  | none : Rep g .none .none
  | bool (b : Bool) : Rep g (.bool b) (.bool b)
  | int (i : Int) (t : Tok) : Rep g (.int i t) (.int i)
  | fn (a : Addr) : Rep g (.ref a) (.fn a)
  | tup {a : Addr} {vs : List Value} {n : Nat} {ds : List D} : g a = some (tupO vs n) → ds.length ≤ LIM → RepL g vs ds → Rep g (.ref a) (.tup ds)
  | lst {a : Addr} {vs : List Value} {n : Nat} {ds : List D} : g a = some (lstO vs n) → ds.length ≤ LIM → RepL g vs ds → Rep g (.ref a) (.lst ds)
inductive RepL (g : PH) : List Value → List D → Prop
  | nil : RepL g [] []
  | cons {v : Value} {d : D} {vs : List Value} {ds : List D} : Rep g v d → RepL g vs ds → RepL g (v :: vs) (d :: ds)
end

noncomputable def Sub (g g' : PH) : Prop := ∀ a o, g a = some o → g' a = some o
theorem Sub.refl (g : PH) : Sub g g := fun _ _ e => e
theorem Sub.trans {g g' g'' : PH} (x : Sub g g') (y : Sub g' g'') : Sub g g'' := fun a o e => y a o (x a o e)

theorem Rep.mono {g g' : PH} (hs : Sub g g') {v : Value} {d : D} (h : Rep g v d) : Rep g' v d := by
  refine Rep.rec (motive_1 := fun v d _ => Rep g' v d) (motive_2 := fun vs ds _ => RepL g' vs ds) .none .bool .int .fn ?_ ?_ .nil ?_ h
  · intro a vs n ds e l _ ih; exact .tup (hs _ _ e) l ih
  · intro a vs n ds e l _ ih; exact .lst (hs _ _ e) l ih
  · intro v d vs ds _ _ i1 i2; exact .cons i1 i2
theorem RepL.mono {g g' : PH} (hs : Sub g g') {vs : List Value} {ds : List D} (h : RepL g vs ds) : RepL g' vs ds := by
  induction vs generalizing ds with
  | nil => cases h; exact .nil
  | cons v vs ih => cases h with | cons a b => exact .cons (a.mono hs) (ih b)
theorem RepL.length {g : PH} {vs : List Value} {ds : List D} (h : RepL g vs ds) : vs.length = ds.length := by
  induction vs generalizing ds with
  | nil => cases h; rfl
  | cons v vs ih => cases h with | cons a b => simp [ih b]
theorem RepL.get {g : PH} {vs : List Value} {ds : List D} (h : RepL g vs ds) {i : Nat} {d : D} (e : ds[i]? = some d) : ∃ v, vs[i]? = some v ∧ Rep g v d := by
  induction vs generalizing ds i with
  | nil => cases h; simp at e
  | cons v vs ih =>
    cases h with
    | cons a b =>
      cases i with
      | zero => simp at e; subst e; exact ⟨v, rfl, a⟩
      | succ i => exact ih b (by simpa using e)
theorem RepL.get' {g : PH} {vs : List Value} {ds : List D} (h : RepL g vs ds) {i : Nat} {v : Value} (e : vs[i]? = some v) : ∃ d, ds[i]? = some d ∧ Rep g v d := by
  induction vs generalizing ds i with
  | nil => cases h; simp at e
  | cons u vs ih =>
    cases h with
    | cons a b =>
      cases i with
      | zero => simp at e; subst e; exact ⟨_, rfl, a⟩
      | succ i => simpa using ih b (by simpa using e)
theorem RepL.append {g : PH} {vs us : List Value} {ds es : List D} (h : RepL g vs ds) (k : RepL g us es) : RepL g (vs ++ us) (ds ++ es) := by
  induction vs generalizing ds with
  | nil => cases h; exact k
  | cons v vs ih => cases h with | cons a b => exact .cons a (ih b)
theorem RepL.set {g : PH} {vs : List Value} {ds : List D} (h : RepL g vs ds) (i : Nat) {v : Value} {d : D} (k : Rep g v d) : RepL g (vs.set i v) (ds.set i d) := by
  induction vs generalizing ds i with
  | nil => cases h; exact .nil
  | cons u vs ih =>
    cases h with
    | cons a b =>
      cases i with
      | zero => exact .cons k b
      | succ i => exact .cons a (ih b i)
theorem RepL.take {g : PH} {vs : List Value} {ds : List D} (h : RepL g vs ds) (i : Nat) : RepL g (vs.take i) (ds.take i) := by
  induction vs generalizing ds i with
  | nil => cases h; simpa using RepL.nil
  | cons u vs ih =>
    cases h with
    | cons a b =>
      cases i with
      | zero => exact .nil
      | succ i => exact .cons a (ih b i)
theorem RepL.drop {g : PH} {vs : List Value} {ds : List D} (h : RepL g vs ds) (i : Nat) : RepL g (vs.drop i) (ds.drop i) := by
  induction vs generalizing ds i with
  | nil => cases h; simpa using RepL.nil
  | cons u vs ih =>
    cases h with
    | cons a b =>
      cases i with
      | zero => exact .cons a b
      | succ i => exact ih b i
theorem RepL.reps {g : PH} {vs : List Value} {ds : List D} (h : RepL g vs ds) (k : Nat) : RepL g (List.replicate k vs).flatten (List.replicate k ds).flatten := by
  induction k with
  | zero => exact .nil
  | succ k ih => simpa [List.replicate_succ] using h.append ih

structure Cx where
  H : PH
  g0 : PH
  n0 : Nat
  priv : Addr → Prop
  np : Nat
  env : Env
  names : List Str
  vc : List Addr
  par : List Addr

noncomputable def LocIs (c : Cx) (m : Str → Option Value) (h : Heap) (x : Str) (v : Value) : Prop := match c.env.cells.lookup x with
  | none => m x = some v
  | some ca => h.IsCell ca (some v)

noncomputable def RVRep (g : PH) (ρ : List Addr) (v : Value) : RV → Prop
  | .val d => Rep g v d
  | .ptr i => ∃ a, ρ[i]? = some a ∧ v = .ref a

noncomputable def entD (x : List Int × Addr × Value) : DictEntry := ⟨reduceHash (Builtin.Tuple.tupleHashOf (x.1.map hashInt)), .ref x.2.1, x.2.2⟩
/-- the object holds these pairs -/
noncomputable def DictAt (h : Heap) (a : Addr) (xs : List (List Int × Addr × Value)) : Prop := ∃ o es ep, h.get? a = some o ∧ o.ExactDict ∧ o.data = .dict es ep ∧ es.toList = xs.map entD ∧ (xs.map (·.1)).Nodup
inductive PairsAre (g : PH) : List (List Int × Addr × Value) → List (List Int × D) → Prop
  | nil : PairsAre g [] []
  | cons {ks : List Int} {b : Addr} {v : Value} {d : D} {vs : List Value} {n : Nat} {xs : List (List Int × Addr × Value)} {kv : List (List Int × D)} :
    g b = some (tupO vs n) → RepL g vs (ks.map .int) → Rep g v d → PairsAre g xs kv → PairsAre g ((ks, b, v) :: xs) ((ks, d) :: kv)
noncomputable def DictIs (g : PH) (h : Heap) (a : Addr) (kv : List (List Int × D)) : Prop := ∃ xs, DictAt h a xs ∧ PairsAre g xs kv
theorem PairsAre.mono {g g' : PH} (hs : Sub g g') {xs : List (List Int × Addr × Value)} {kv : List (List Int × D)} (p : PairsAre g xs kv) : PairsAre g' xs kv := by
  induction p with
  | nil => exact .nil
  | cons h1 h2 h3 _ ih => exact .cons (hs _ _ h1) (h2.mono hs) (h3.mono hs) ih
theorem DictIs.mono {g g' : PH} (hs : Sub g g') {h : Heap} {a : Addr} {kv : List (List Int × D)} (p : DictIs g h a kv) : DictIs g' h a kv := let ⟨xs, h1, h2⟩ := p; ⟨xs, h1, h2.mono hs⟩
theorem DictIs.keeps {g : PH} {h h' : Heap} {a : Addr} {kv : List (List Int × D)} (hk : ∀ o, h.get? a = some o → h'.get? a = some o) (p : DictIs g h a kv) : DictIs g h' a kv := let ⟨xs, ⟨o, es, ep, h1, h2⟩, h3⟩ := p; ⟨xs, ⟨o, es, ep, hk _ h1, h2⟩, h3⟩

noncomputable def CellIs (c : Cx) (g : PH) (h : Heap) (a : Addr) : Cell → Prop
  | .lst xs => g a = none ∧ c.H a = none ∧ xs.length ≤ LIM ∧ ∃ vs n, h.get? a = some (lstO vs n) ∧ RepL g vs xs
  | .dict kv => g a = none ∧ c.H a = none ∧ DictIs g h a kv
  | .dead => True

structure SG (c : Cx) (ms : MS) (tmp : List (Value × RV)) (h : Heap) (g : PH) (ρ : List Addr) (m : Str → Option Value) : Prop where
  keepH : ∀ a o, c.H a = some o → h.get? a = some o
  gh : ∀ a o, g a = some o → h.get? a = some o
  g0 : Sub c.g0 g
  fresh : ∀ a o, g a = some o → c.g0 a = some o ∨ c.n0 ≤ a
  ns : h.Ns c.env.locals m
  gL : g c.env.locals = none
  Lρ : c.env.locals ∉ ρ
  vcg : ∀ a ∈ c.vc, g a = none ∧ a ∉ ρ ∧ ∃ v₀, h.IsCell a v₀
  privg : ∀ a, c.priv a → g a = none ∧ a ∉ ρ ∧ ∃ o, h.get? a = some o
  len : ρ.length = ms.cs.length
  nodup : ρ.Nodup
  ex : ∀ a ∈ ρ, ∃ o, h.get? a = some o
  cells : ∀ (i : Nat) cl a, ms.cs[i]? = some cl → ρ[i]? = some a → CellIs c g h a cl
  own : ∀ (i : Nat) a, c.np ≤ i → ρ[i]? = some a → c.n0 ≤ a
  slots : ∀ (i : Nat) x r, c.names[i]? = some x → ms.fr[i]? = some (some r) → ∃ v, LocIs c m h x v ∧ RVRep g ρ v r
  tmps : ∀ p ∈ tmp, RVRep g ρ p.1 p.2
  nL : c.n0 ≤ c.env.locals
  par : c.par <+: ρ

inductive St (c : Cx) (ms : MS) (tmp : List (Value × RV)) (h : Heap) : Prop
  | mk (g : PH) (ρ : List Addr) (m : Str → Option Value) (G : SG c ms tmp h g ρ m)

structure Cx.Ok (B : Heap) (c : Cx) : Prop where
  base : ∀ a o, B.get? a = some o → c.H a = some o
  baseg : Sub B.get? c.g0
  kind : c.env.scope.kind = .function
  glob : c.env.globals = mainGlobals
  blt : c.env.builtins = builtinsNs
  HL : c.H c.env.locals = none
  cellH : ∀ x ca, c.env.cells.lookup x = some ca → ca ∈ c.vc ∨ ∃ o, c.H ca = some o
  vcH : ∀ a ∈ c.vc, c.H a = none ∧ a ≠ c.env.locals
  inj : ∀ x y ca, c.env.cells.lookup x = some ca → c.env.cells.lookup y = some ca → ca ∈ c.vc → x = y
  privO : ∀ a, c.priv a → ∃ o, c.H a = some o
  names : c.names.Nodup
  kinds : ∀ (i : Nat) x, c.names[i]? = some x → c.env.kindOf x = some (if (c.env.cells.lookup x).isSome then .cell else .local)

structure AOk (A : Around) (k : Nat) : Prop where
  handled : A.handled = none
  depth : A.depth + k + 100 < recursionLimit
  units : A.units + 3 * k + 100 < cLine

structure BaseOk (B : Heap) (mg mb : Str → Option Value) : Prop where
  nolimit : B.NoLimit
  g : B.Ns mainGlobals mg
  b : B.Ns builtinsNs mb

/-- what is fixed of a def while its body runs -/
structure Sx where
  k : Nat
  sc : Scope
  nm : List Str
  np : Nat
  cn : List Str
  own : Bool

structure Cx.Is (c : Cx) (x : Sx) : Prop where
  sc : c.env.scope = x.sc
  nm : c.names = x.nm
  np : c.np = x.np
  cn : c.env.cells.map (·.1) = x.cn
  own : x.own = true → ∀ n ca, c.env.cells.lookup n = some ca → ca ∈ c.vc

noncomputable def Same (s s' : Shared) : Prop := s'.gens = s.gens ∧ s'.drawn = s.drawn ∧ s'.os = s.os
theorem Same.refl (s : Shared) : Same s s := ⟨rfl, rfl, rfl⟩
theorem Same.trans {s s' s'' : Shared} (x : Same s s') (y : Same s' s'') : Same s s'' := ⟨y.1.trans x.1, y.2.1.trans x.2.1, y.2.2.trans x.2.2⟩

noncomputable def NoE : Value → Shared → Prop := fun _ _ => False

inductive PostV (c : Cx) (tmp : List (Value × RV)) (s : Shared) (Q : RV → MS → Prop) (v : Value) (s' : Shared) : Prop
  | mk (q : Same s s') (r : RV) (ms' : MS) (S : St c ms' ((v, r) :: tmp) s'.heap) (hf : Q r ms')
inductive PostD (c : Cx) (tmp : List (Value × RV)) (s : Shared) (Q : D → MS → Prop) (v : Value) (s' : Shared) : Prop
  | mk (q : Same s s') (d : D) (ms' : MS) (S : St c ms' ((v, .val d) :: tmp) s'.heap) (hf : Q d ms')
inductive PostB (c : Cx) (tmp : List (Value × RV)) (s : Shared) (Q : Bool → MS → Prop) (b : Bool) (s' : Shared) : Prop
  | mk (q : Same s s') (ms' : MS) (S : St c ms' tmp s'.heap) (hf : Q b ms')
noncomputable def PostF (c : Cx) (tmp : List (Value × RV)) (s : Shared) (Q : Fl → MS → Prop) : Flow → Shared → Prop :=
  fun f s' => Same s s' ∧ match f with
    | .next => ∃ ms', St c ms' tmp s'.heap ∧ Q .next ms'
    | .ret v => ∃ d ms', St c ms' ((v, .val d) :: tmp) s'.heap ∧ Q (.ret d) ms'
    | _ => False

section
variable (prog : Program) (w : World) (B : Heap) (mg mb : Str → Option Value) (x : Sx)

noncomputable def SemE (e : Expr) (f : T RV) : Prop := ∀ A c ms tmp s Q, AOk A x.k → c.Ok B → c.Is x → St c ms tmp s.heap → f ms Q →
  wpAny (model prog w) A (eval e c.env) (PostV c tmp s Q) NoE s
noncomputable def SemD (e : Expr) (f : T D) : Prop := ∀ A c ms tmp s Q, AOk A x.k → c.Ok B → c.Is x → St c ms tmp s.heap → f ms Q →
  wpAny (model prog w) A (eval e c.env) (PostD c tmp s Q) NoE s
noncomputable def SemB (e : Expr) (f : T Bool) : Prop := ∀ A c ms tmp s Q, AOk A x.k → c.Ok B → c.Is x → St c ms tmp s.heap → f ms Q →
  wpAny (model prog w) A (isTrue e c.env (eval e c.env)) (PostB c tmp s Q) NoE s
noncomputable def SemS (e : Stmt) (f : T Fl) : Prop := ∀ A c ms tmp s Q, AOk A x.k → c.Ok B → c.Is x → St c ms tmp s.heap → f ms Q →
  wpAny (model prog w) A (exec e c.env) (PostF c tmp s Q) NoE s
noncomputable def SemSs (e : List Stmt) (f : T Fl) : Prop := ∀ A c ms tmp s Q, AOk A x.k → c.Ok B → c.Is x → St c ms tmp s.heap → f ms Q →
  wpAny (model prog w) A (execs e c.env) (PostF c tmp s Q) NoE s
end

-- St's own lemmas
section
variable {c : Cx} {ms : MS} {tmp : List (Value × RV)} {h h' : Heap} {g : PH} {ρ : List Addr} {m : Str → Option Value}

theorem LocIs.keeps {x : Str} {v : Value} (hk : ∀ b o, h.get? b = some o → h'.get? b = some o) (l : LocIs c m h x v) : LocIs c m h' x v := by
  unfold LocIs at l ⊢
  cases e : c.env.cells.lookup x with
  | none => rw [e] at l; exact l
  | some ca => rw [e] at l; exact Heap.IsCell.keeps l hk

theorem CellIs.keeps {a : Addr} {cl : Cell} (hk : ∀ o, h.get? a = some o → h'.get? a = some o) (l : CellIs c g h a cl) : CellIs c g h' a cl := by
  cases cl with
  | lst xs => obtain ⟨e1, e2, e3, vs, n, e4, e5⟩ := l; exact ⟨e1, e2, e3, vs, n, hk _ e4, e5⟩
  | dict kv => exact ⟨l.1, l.2.1, l.2.2.keeps hk⟩
  | dead => trivial

theorem SG.ext (S : SG c ms tmp h g ρ m) (hk : ∀ b o, h.get? b = some o → h'.get? b = some o) : SG c ms tmp h' g ρ m where
  keepH a o e := hk _ _ (S.keepH a o e)
  gh a o e := hk _ _ (S.gh a o e)
  g0 := S.g0
  fresh := S.fresh
  ns := S.ns.at' fun o e => hk _ _ e
  gL := S.gL
  Lρ := S.Lρ
  vcg a ha := ⟨(S.vcg a ha).1, (S.vcg a ha).2.1, let ⟨o, e⟩ := (S.vcg a ha).2.2; ⟨o, e.keeps hk⟩⟩
  privg a ha := ⟨(S.privg a ha).1, (S.privg a ha).2.1, let ⟨o, e⟩ := (S.privg a ha).2.2; ⟨o, hk _ _ e⟩⟩
  len := S.len
  nodup := S.nodup
  ex a ha := let ⟨o, e⟩ := S.ex a ha; ⟨o, hk _ _ e⟩
  cells i cl a e1 e2 := (S.cells i cl a e1 e2).keeps fun o e => hk _ _ e
  own := S.own
  slots i x r e1 e2 := let ⟨v, l, q⟩ := S.slots i x r e1 e2; ⟨v, l.keeps hk, q⟩
  tmps := S.tmps
  nL := S.nL
  par := S.par

theorem SG.L_lt (S : SG c ms tmp h g ρ m) : c.env.locals < h.objs.size := let ⟨_, _, _, e, _⟩ := S.ns; Heap.lt_size e
theorem SG.size (S : SG c ms tmp h g ρ m) : c.n0 ≤ h.objs.size := Nat.le_trans S.nL (Nat.le_of_lt S.L_lt)
theorem SG.lt (S : SG c ms tmp h g ρ m) : ∀ a ∈ ρ, a < h.objs.size := fun a ha => let ⟨_, e⟩ := S.ex a ha; Heap.lt_size e

theorem St.ext (S : St c ms tmp h) (hk : ∀ b o, h.get? b = some o → h'.get? b = some o) : St c ms tmp h' :=
  let ⟨g, ρ, m, x⟩ := S; ⟨g, ρ, m, x.ext hk⟩
theorem St.push (S : St c ms tmp h) (o : Obj) : St c ms tmp (h.push o) := S.ext (fun _ _ e => Heap.get?_push_of_some _ e)

theorem SG.withTmp (S : SG c ms tmp h g ρ m) {tmp' : List (Value × RV)} (ht : ∀ p ∈ tmp', RVRep g ρ p.1 p.2) : SG c ms tmp' h g ρ m :=
  { S with tmps := ht }
theorem St.pop {p : Value × RV} (S : St c ms (p :: tmp) h) : St c ms tmp h :=
  let ⟨g, ρ, m, x⟩ := S; ⟨g, ρ, m, x.withTmp fun q hq => x.tmps q (.tail _ hq)⟩
theorem St.pop2 {p q : Value × RV} (S : St c ms (p :: q :: tmp) h) : St c ms tmp h := S.pop.pop
theorem St.sub {tmp' : List (Value × RV)} (S : St c ms tmp h) (ht : ∀ p ∈ tmp', p ∈ tmp) : St c ms tmp' h :=
  let ⟨g, ρ, m, x⟩ := S; ⟨g, ρ, m, x.withTmp fun q hq => x.tmps q (ht q hq)⟩
/-- a value that holds no reference -/
theorem St.flat (S : St c ms tmp h) {v : Value} {d : D} (hr : ∀ g, Rep g v d) : St c ms ((v, .val d) :: tmp) h := by
  obtain ⟨g, ρ, m, x⟩ := S
  refine ⟨g, ρ, m, x.withTmp fun q hq => ?_⟩
  rcases List.mem_cons.mp hq with rfl | hq
  · exact hr g
  · exact x.tmps q hq
theorem St.int (S : St c ms tmp h) (i : Int) (t : Tok) : St c ms ((.int i t, .val (.int i)) :: tmp) h := S.flat fun _ => .int i t
theorem St.bool (S : St c ms tmp h) (b : Bool) : St c ms ((.bool b, .val (.bool b)) :: tmp) h := S.flat fun _ => .bool b

theorem RVRep.mono {g g' : PH} (hs : Sub g g') {ρ : List Addr} {v : Value} {r : RV} (q : RVRep g ρ v r) : RVRep g' ρ v r := by
  cases r with
  | val d => exact Rep.mono hs q
  | ptr i => exact q

/-- more is known to stand still -/
theorem SG.regrow (S : SG c ms tmp h g ρ m) {g' : PH} (hs : Sub g g') (gh' : ∀ a o, g' a = some o → h.get? a = some o) (fr' : ∀ a o, g' a = some o → g a = some o ∨ c.n0 ≤ a)
    (hL : g' c.env.locals = none) (hvc : ∀ a ∈ c.vc, g' a = none) (hpr : ∀ a, c.priv a → g' a = none)
    (hce : ∀ (i : Nat) cl a, ms.cs[i]? = some cl → ρ[i]? = some a → cl ≠ .dead → g' a = none) : SG c ms tmp h g' ρ m where
  keepH := S.keepH
  gh := gh'
  g0 := S.g0.trans hs
  fresh a o e := (fr' a o e).elim (S.fresh a o) .inr
  ns := S.ns
  gL := hL
  Lρ := S.Lρ
  vcg a ha := ⟨hvc a ha, (S.vcg a ha).2⟩
  privg a ha := ⟨hpr a ha, (S.privg a ha).2⟩
  len := S.len
  nodup := S.nodup
  ex := S.ex
  cells i cl a e1 e2 := by
    have := S.cells i cl a e1 e2
    cases cl with
    | lst xs => obtain ⟨q1, q2, q3, vs, n, q4, q5⟩ := this; exact ⟨hce i _ a e1 e2 (by intro z; cases z), q2, q3, vs, n, q4, q5.mono hs⟩
    | dict kv => exact ⟨hce i _ a e1 e2 (by intro z; cases z), this.2.1, this.2.2.mono hs⟩
    | dead => trivial
  own := S.own
  slots i x r e1 e2 := let ⟨v, l, q⟩ := S.slots i x r e1 e2; ⟨v, l, q.mono hs⟩
  tmps p hp := (S.tmps p hp).mono hs
  nL := S.nL
  par := S.par

/-- new objects, some of them known to stand still -/
theorem SG.grow (S : SG c ms tmp h g ρ m) (hk : ∀ b o, h.get? b = some o → h'.get? b = some o) {g' : PH} (hs : Sub g g')
    (gh' : ∀ a o, g' a = some o → h'.get? a = some o) (fr' : ∀ a o, g' a = some o → g a = some o ∨ h.objs.size ≤ a) : SG c ms tmp h' g' ρ m := by
  have no : ∀ a, a < h.objs.size → g a = none → g' a = none := fun a hlt hg => by
    cases e : g' a with
    | none => rfl
    | some o =>
      rcases fr' a o e with e1 | e1
      · rw [hg] at e1; cases e1
      · exact absurd hlt (Nat.not_lt.mpr e1)
  refine (S.ext hk).regrow hs gh' (fun a o e => (fr' a o e).imp id fun q => Nat.le_trans S.size q) (no _ S.L_lt S.gL) (fun a ha => no a (let ⟨_, e⟩ := (S.vcg a ha).2.2; e.lt) (S.vcg a ha).1)
    (fun a ha => no a (let ⟨_, e⟩ := (S.privg a ha).2.2; Heap.lt_size e) (S.privg a ha).1) fun i cl a e1 e2 hd => no a (S.lt a (List.mem_of_getElem? e2)) ?_
  have := S.cells i cl a e1 e2
  cases cl with
  | lst xs => exact this.1
  | dict kv => exact this.1
  | dead => exact absurd rfl hd

/-- a new object that no one writes -/
theorem SG.freeze (S : SG c ms tmp h g ρ m) {o : Obj} (ho : o.isFreed = false) :
    ∃ g', SG c ms tmp (h.push o) g' ρ m ∧ Sub g g' ∧ g' h.objs.size = some o := by
  have hgn : ∀ b o', g b = some o' → b ≠ h.objs.size := fun b o' e => Nat.ne_of_lt (Heap.lt_size (S.gh b o' e))
  have hsub : Sub g fun b => if b = h.objs.size then some o else g b := fun b o' e => (if_neg (hgn b o' e)).trans e
  refine ⟨fun b => if b = h.objs.size then some o else g b, S.grow (fun _ _ e => Heap.get?_push_of_some _ e) hsub ?_ ?_, hsub, if_pos rfl⟩
  · intro a o' e
    by_cases ha : a = h.objs.size
    · have e : (if a = h.objs.size then some o else g a) = some o' := e
      rw [if_pos ha] at e; cases e; subst ha; exact Heap.get?_push_size _ ho
    · have e : (if a = h.objs.size then some o else g a) = some o' := e
      rw [if_neg ha] at e; exact Heap.get?_push_of_some _ (S.gh a o' e)
  · intro a o' e
    by_cases ha : a = h.objs.size
    · exact .inr (Nat.le_of_eq ha.symm)
    · have e : (if a = h.objs.size then some o else g a) = some o' := e
      rw [if_neg ha] at e; exact .inl e

/-- a new tuple or list of data at hand -/
theorem St.newSeq (S : St c ms tmp h) {o : Obj} (ho : o.isFreed = false) {d : D}
    (hr : ∀ g ρ m, SG c ms tmp h g ρ m → ∀ g', Sub g g' → g' h.objs.size = some o → Rep g' (.ref h.objs.size) d) (tmp' : List (Value × RV)) (ht : ∀ p ∈ tmp', p ∈ tmp) :
    St c ms ((.ref h.objs.size, .val d) :: tmp') (h.push o) := by
  obtain ⟨g, ρ, m, x⟩ := S
  obtain ⟨g', x', hs, e⟩ := x.freeze ho
  refine ⟨g', ρ, m, x'.withTmp fun p hp => ?_⟩
  rcases List.mem_cons.mp hp with rfl | hp
  · exact hr g ρ m x g' hs e
  · exact x'.tmps p (ht p hp)

/-- a new cell of the call's own -/
theorem St.newCell (S : St c ms tmp h) {o : Obj} (ho : o.isFreed = false) (hH : ∀ a o, c.H a = some o → h.get? a = some o) {cl : Cell}
    (hr : ∀ g ρ m, SG c ms tmp h g ρ m → g h.objs.size = none → c.H h.objs.size = none → CellIs c g (h.push o) h.objs.size cl) (tmp' : List (Value × RV)) (ht : ∀ p ∈ tmp', p ∈ tmp) :
    St c (ms.addC cl) ((.ref h.objs.size, .ptr ms.cs.length) :: tmp') (h.push o) := by
  obtain ⟨g, ρ, m, x⟩ := S
  have X := x.ext (h' := h.push o) (fun _ _ e => Heap.get?_push_of_some _ e)
  have hρ : h.objs.size ∉ ρ := fun q => Nat.lt_irrefl _ (x.lt _ q)
  have gn : g h.objs.size = none := by
    cases e : g h.objs.size with
    | none => rfl
    | some o => exact absurd (Heap.lt_size (x.gh _ _ e)) (Nat.lt_irrefl _)
  have Hn : c.H h.objs.size = none := by
    cases e : c.H h.objs.size with
    | none => rfl
    | some o => exact absurd (Heap.lt_size (hH _ _ e)) (Nat.lt_irrefl _)
  have ge : ∀ {i : Nat} {a : Addr}, ρ[i]? = some a → (ρ ++ [h.objs.size])[i]? = some a := fun {i a} e => by
    rw [List.getElem?_append_left (List.getElem?_eq_some_iff.mp e).1]; exact e
  have rv : ∀ {v : Value} {r : RV}, RVRep g ρ v r → RVRep g (ρ ++ [h.objs.size]) v r := fun {v r} q => by
    cases r with
    | val d => exact q
    | ptr i => obtain ⟨a, e, q⟩ := q; exact ⟨a, ge e, q⟩
  refine ⟨g, ρ ++ [h.objs.size], m, { X with Lρ := ?_, vcg := ?_, privg := ?_, len := ?_, nodup := ?_, ex := ?_, cells := ?_, own := ?_, slots := ?_, tmps := ?_, par := x.par.trans (List.prefix_append _ _) }⟩
  · intro q
    rcases List.mem_append.mp q with q | q
    · exact x.Lρ q
    · have := x.L_lt; rw [List.mem_singleton.mp q] at this; exact Nat.lt_irrefl _ this
  · intro a ha
    refine ⟨(X.vcg a ha).1, fun q => ?_, (X.vcg a ha).2.2⟩
    rcases List.mem_append.mp q with q | q
    · exact (x.vcg a ha).2.1 q
    · obtain ⟨_, e⟩ := (x.vcg a ha).2.2; have := e.lt; rw [List.mem_singleton.mp q] at this; exact Nat.lt_irrefl _ this
  · intro a ha
    refine ⟨(X.privg a ha).1, fun q => ?_, (X.privg a ha).2.2⟩
    rcases List.mem_append.mp q with q | q
    · exact (x.privg a ha).2.1 q
    · obtain ⟨_, e⟩ := (x.privg a ha).2.2; have := Heap.lt_size e; rw [List.mem_singleton.mp q] at this; exact Nat.lt_irrefl _ this
  · simp [MS.addC, x.len]
  · rw [List.nodup_append]
    refine ⟨x.nodup, by simp, fun a ha b hb => ?_⟩
    rw [List.mem_singleton.mp hb]; exact fun q => hρ (q ▸ ha)
  · intro a ha
    rcases List.mem_append.mp ha with q | q
    · exact X.ex a q
    · rw [List.mem_singleton.mp q]; exact ⟨_, Heap.get?_push_size _ ho⟩
  · intro i cl' a e1 e2
    by_cases hi : i < ρ.length
    · rw [List.getElem?_append_left hi] at e2
      refine X.cells i cl' a ?_ e2
      rw [← e1]; show _ = (ms.cs ++ [cl])[i]?
      rw [List.getElem?_append_left (x.len ▸ hi)]
    · have hlen : i < (ρ ++ [h.objs.size]).length := (List.getElem?_eq_some_iff.mp e2).1
      have hi' : i = ρ.length := by simp at hlen; omega
      subst hi'
      simp at e2; subst e2
      have : (ms.cs ++ [cl])[ρ.length]? = some cl' := e1
      rw [x.len] at this; simp at this; subst this
      exact hr g ρ m x gn Hn
  · intro i a hi e2
    by_cases hl : i < ρ.length
    · rw [List.getElem?_append_left hl] at e2; exact x.own i a hi e2
    · have hlen : i < (ρ ++ [h.objs.size]).length := (List.getElem?_eq_some_iff.mp e2).1
      have hi' : i = ρ.length := by simp at hlen; omega
      subst hi'
      simp at e2; subst e2
      exact x.size
  · intro i y r e1 e2
    obtain ⟨v, l, q⟩ := X.slots i y r e1 e2
    exact ⟨v, l, rv q⟩
  · intro p hp
    rcases List.mem_cons.mp hp with rfl | hp
    · exact ⟨h.objs.size, by rw [← x.len]; simp, rfl⟩
    · exact rv (x.tmps p (ht p hp))

theorem SG.LocKeep (ok : ∀ x ca, c.env.cells.lookup x = some ca → ca ∈ c.vc ∨ ∃ o, c.H ca = some o) (S : SG c ms tmp h g ρ m) {a : Addr} (ha : c.H a = none) (hv : a ∉ c.vc)
    (hk : ∀ b o, b ≠ a → h.get? b = some o → h'.get? b = some o) {x : Str} {v : Value} (l : LocIs c m h x v) : LocIs c m h' x v := by
  unfold LocIs at l ⊢
  cases e : c.env.cells.lookup x with
  | none => rw [e] at l; exact l
  | some ca =>
    rw [e] at l
    obtain ⟨o, l, l2⟩ := l
    refine ⟨o, hk ca _ (fun q => ?_) l, l2⟩
    subst q
    rcases ok x ca e with q | ⟨o, q⟩
    · exact hv q
    · rw [ha] at q; cases q

/-- a cell of the call's own is written -/
theorem SG.upd {B : Heap} (S : SG c ms tmp h g ρ m) (ok : c.Ok B) {i : Nat} {a : Addr} {cl cl' : Cell} (hi : ms.cs[i]? = some cl) (ha : ρ[i]? = some a) (hd : cl ≠ .dead)
    (hk : ∀ b o, b ≠ a → h.get? b = some o → h'.get? b = some o) (he : ∃ o, h'.get? a = some o) (hc : g a = none → c.H a = none → CellIs c g h' a cl') : SG c (ms.setC i cl') tmp h' g ρ m := by
  have gn : g a = none ∧ c.H a = none := by
    have := S.cells i cl a hi ha
    cases cl with
    | lst xs => exact ⟨this.1, this.2.1⟩
    | dict kv => exact ⟨this.1, this.2.1⟩
    | dead => exact absurd rfl hd
  have hmem : a ∈ ρ := List.mem_of_getElem? ha
  have hv : a ∉ c.vc := fun q => (S.vcg a q).2.1 hmem
  have hlt : i < ms.cs.length := (List.getElem?_eq_some_iff.mp hi).1
  refine { keepH := ?_, gh := ?_, g0 := S.g0, fresh := S.fresh, ns := ?_, gL := S.gL, Lρ := S.Lρ, vcg := ?_, privg := ?_, len := ?_, nodup := S.nodup, ex := ?_, cells := ?_, own := S.own, slots := ?_, tmps := S.tmps, nL := S.nL, par := S.par }
  · intro b o e; exact hk b o (fun q => by rw [q, gn.2] at e; cases e) (S.keepH b o e)
  · intro b o e; exact hk b o (fun q => by rw [q, gn.1] at e; cases e) (S.gh b o e)
  · exact S.ns.at' fun o e => hk _ o (fun q => S.Lρ (q ▸ hmem)) e
  · intro b hb; obtain ⟨v₀, o, e, e'⟩ := (S.vcg b hb).2.2; exact ⟨(S.vcg b hb).1, (S.vcg b hb).2.1, v₀, o, hk b o (fun q => (S.vcg b hb).2.1 (q ▸ hmem)) e, e'⟩
  · intro b hb; obtain ⟨o, e⟩ := (S.privg b hb).2.2; exact ⟨(S.privg b hb).1, (S.privg b hb).2.1, o, hk b o (fun q => (S.privg b hb).2.1 (q ▸ hmem)) e⟩
  · simp [MS.setC, S.len]
  · intro b hb
    by_cases q : b = a
    · rw [q]; exact he
    · obtain ⟨o, e⟩ := S.ex b hb; exact ⟨o, hk b o q e⟩
  · intro j cj b e1 e2
    by_cases hj : j = i
    · subst hj
      rw [ha] at e2; cases e2
      have : (ms.cs.set j cl')[j]? = some cj := e1
      rw [List.getElem?_set_self hlt] at this; cases this
      exact hc gn.1 gn.2
    · have : (ms.cs.set i cl')[j]? = some cj := e1
      rw [List.getElem?_set_ne (Ne.symm hj)] at this
      refine (S.cells j cj b this e2).keeps fun o e => hk b o (fun q => hj ?_) e
      subst q
      have h1 := List.getElem?_eq_some_iff.mp ha
      have h2 := List.getElem?_eq_some_iff.mp e2
      obtain ⟨l1, h1⟩ := h1
      obtain ⟨l2, h2⟩ := h2
      exact (List.getElem_inj S.nodup).mp (h2.trans h1.symm)
  · intro j y r e1 e2
    obtain ⟨v, l, q⟩ := S.slots j y r e1 e2
    exact ⟨v, S.LocKeep ok.cellH gn.2 hv hk l, q⟩
end
end Mine
end

section
set_option maxRecDepth 100000
set_option Elab.async false
set_option autoImplicit false
set_option linter.unusedVariables false
namespace Mine
open PySem PySem.Calls

section
variable {prog : Program} {w : World} {B : Heap} {mg mb : Str → Option Value} {x : Sx}

theorem Rep.intI {g : PH} {v : Value} {i : Int} (r : Rep g v (.int i)) : ∃ t, v = .int i t := by
  cases r; exact ⟨_, rfl⟩
theorem Rep.boolI {g : PH} {v : Value} {b : Bool} (r : Rep g v (.bool b)) : v = .bool b := by
  cases r; rfl
theorem Rep.lstJ {g : PH} {v : Value} {ds : List D} (r : Rep g v (.lst ds)) : ∃ a vs n, v = .ref a ∧ g a = some (lstO vs n) ∧ ds.length ≤ LIM ∧ RepL g vs ds := by
  cases r with | lst e l r => exact ⟨_, _, _, rfl, e, l, r⟩
theorem Rep.tupJ {g : PH} {v : Value} {ds : List D} (r : Rep g v (.tup ds)) : ∃ a vs n, v = .ref a ∧ g a = some (tupO vs n) ∧ ds.length ≤ LIM ∧ RepL g vs ds := by
  cases r with | tup e l r => exact ⟨_, _, _, rfl, e, l, r⟩
theorem up {α : Type} {M : Model} {A : Around} {t : Sem α} {Q : α → Shared → Prop} {s : Shared} {E : Value → Shared → Prop} (h : wpAny M A t Q NoE s) : wpAny M A t Q E s :=
  wpAny_mono h (fun _ _ q => q) fun _ _ e => e.elim

-- names and constants
theorem e_int (i : Int) (k : Nat) (pos : Pos) : SemE prog w B x (.Constant (.int i) k pos) (tC (.int i)) := fun A c ms tmp s Q a ok hi S f =>
  wpAny_Constant_int ⟨Same.refl _, _, _, S.int i _, f⟩
theorem e_bool (b : Bool) (k : Nat) (pos : Pos) : SemE prog w B x (.Constant (.bool b) k pos) (tC (.bool b)) := fun A c ms tmp s Q a ok hi S f =>
  PyProof.Rows.Constant_bool ⟨Same.refl _, _, _, S.bool b, f⟩

theorem load_var {A : Around} {c : Cx} {ms : MS} {tmp : List (Value × RV)} {s : Shared} {Q : Value → Shared → Prop} {i : Nat} {n : Str} {r : RV} (ok : c.Ok B) (S : St c ms tmp s.heap)
    (hn : c.names[i]? = some n) (hr : ms.fr[i]? = some (some r)) (h : ∀ v, St c ms ((v, r) :: tmp) s.heap → Q v s) : wpAny (model prog w) A (loadName c.env n) Q NoE s := by
  obtain ⟨g, ρ, m, G⟩ := S
  obtain ⟨v, l, q⟩ := G.slots i n r hn hr
  have hk := ok.kinds i n hn
  have S' : St c ms ((v, r) :: tmp) s.heap := ⟨g, ρ, m, G.withTmp fun p hp => by
    rcases List.mem_cons.mp hp with rfl | hp
    · exact q
    · exact G.tmps p hp⟩
  unfold LocIs at l
  cases e : c.env.cells.lookup n with
  | none =>
    rw [e] at l hk
    exact wpAny_loadName_local ok.kind hk G.ns l (h v S')
  | some ca =>
    rw [e] at l hk
    exact wpAny_loadName_cell ok.kind hk e l (h v S')

theorem e_var (i : Nat) (n : Str) (pos : Pos) (hn : x.nm[i]? = some n) (hd : (n == ("__debug__" : Str)) = false) : SemE prog w B x (.Name n pos) (tVar i) := fun A c ms tmp s Q a ok hi S f => by
  unfold tVar at f
  split at f
  · rename_i r hr
    exact wpAny_Name (load_var ok S (hi.nm ▸ hn) hr fun v S' => ⟨Same.refl _, r, ms, S', f⟩) hd
  · exact f.elim

theorem load_glob {A : Around} {c : Cx} {ms : MS} {tmp : List (Value × RV)} {s : Shared} {Q : Value → Shared → Prop} {n : Str} {v : Value} {pos : Pos} (hB : BaseOk B mg mb) (ok : c.Ok B) (S : St c ms tmp s.heap)
    (hk : c.env.kindOf n = some .globalImplicit) (hv : mg n = some v) (h : Q v s) (hd : (n == ("__debug__" : Str)) = false) : wpAny (model prog w) A (eval (.Name n pos) c.env) Q NoE s := by
  obtain ⟨g, ρ, m, G⟩ := S
  exact Name_function_global ok.kind hk (loadGlobal_global (mg := mg) (by rw [ok.glob]; exact hB.g.keeps fun b o e => G.keepH b o (ok.base b o e)) hv h) hd
theorem load_blt {A : Around} {c : Cx} {ms : MS} {tmp : List (Value × RV)} {s : Shared} {Q : Value → Shared → Prop} {n : Str} {v : Value} {pos : Pos} (hB : BaseOk B mg mb) (ok : c.Ok B) (S : St c ms tmp s.heap)
    (hk : c.env.kindOf n = some .globalImplicit) (hm : mg n = none) (hv : mb n = some v) (h : Q v s) (hd : (n == ("__debug__" : Str)) = false) : wpAny (model prog w) A (eval (.Name n pos) c.env) Q NoE s := by
  obtain ⟨g, ρ, m, G⟩ := S
  exact Name_function_global ok.kind hk (loadGlobal_builtin (mg := mg) (mb := mb) (by rw [ok.glob]; exact hB.g.keeps fun b o e => G.keepH b o (ok.base b o e)) hm
    (by rw [ok.blt]; exact hB.b.keeps fun b o e => G.keepH b o (ok.base b o e)) hv h) hd

theorem Cx.Is.kindOf {c : Cx} (hi : c.Is x) (n : Str) : c.env.kindOf n = x.sc.names.lookup n := by unfold Env.kindOf; rw [hi.sc]

theorem e_fn (hB : BaseOk B mg mb) (n : Str) (pos : Pos) (a : Addr) (hk : x.sc.names.lookup n = some .globalImplicit) (hv : mg n = some (.ref a)) (hd : (n == ("__debug__" : Str)) = false) :
    SemE prog w B x (.Name n pos) (tC (.fn a)) := fun A c ms tmp s Q _ ok hi S f =>
  load_glob hB ok S (by rw [hi.kindOf]; exact hk) hv ⟨Same.refl _, _, _, S.flat fun _ => .fn a, f⟩ hd

theorem SG.baseg {c : Cx} {ms : MS} {tmp : List (Value × RV)} {h : Heap} {g : PH} {ρ : List Addr} {m : Str → Option Value} (G : SG c ms tmp h g ρ m) (hb : Sub B.get? c.g0) : Sub B.get? g := hb.trans G.g0
theorem e_const (hB : BaseOk B mg mb) (n : Str) (pos : Pos) (v : Value) (d : D) (hk : x.sc.names.lookup n = some .globalImplicit) (hv : mg n = some v) (hd : (n == ("__debug__" : Str)) = false) (hr : Rep B.get? v d) :
    SemE prog w B x (.Name n pos) (tC d) := fun A c ms tmp s Q _ ok hi S f => by
  refine load_glob hB ok S (by rw [hi.kindOf]; exact hk) hv ⟨Same.refl _, .val d, ms, ?_, f⟩ hd
  obtain ⟨g, ρ, m, G⟩ := S
  refine ⟨g, ρ, m, G.withTmp fun p hp => ?_⟩
  rcases List.mem_cons.mp hp with rfl | hp
  · exact hr.mono (G.baseg ok.baseg)
  · exact G.tmps p hp

-- arithmetic
theorem band_nat {a b : Int} (ha : 0 ≤ a) (hb : 0 ≤ b) : Builtin.bitAnd a b = ((a.toNat &&& b.toNat : Nat) : Int) := by
  unfold Builtin.bitAnd
  rw [decide_eq_true ha, decide_eq_true hb]
theorem bitNot_neg {a : Int} (ha : 0 ≤ a) : ¬ 0 ≤ Builtin.bitNot a := by unfold Builtin.bitNot; omega
theorem bitNot_not (a : Int) : Builtin.bitNot (Builtin.bitNot a) = a := by unfold Builtin.bitNot; omega
theorem bor_nat {a b : Int} (ha : 0 ≤ a) (hb : 0 ≤ b) : Builtin.bitOr a b = ((a.toNat ||| b.toNat : Nat) : Int) := by
  unfold Builtin.bitOr Builtin.bitAnd
  rw [decide_eq_false (bitNot_neg ha), decide_eq_false (bitNot_neg hb)]
  simp only [bitNot_not]
theorem small64 {a : Int} (h : a.natAbs < 2 ^ 60) : -(2 ^ 64) < a ∧ a < 2 ^ 64 := by omega

theorem nolim {c : Cx} {ms : MS} {tmp : List (Value × RV)} {h : Heap} (hB : BaseOk B mg mb) (ok : c.Ok B) (S : St c ms tmp h) : h.NoLimit :=
  let ⟨g, ρ, m, G⟩ := S; hB.nolimit.keeps fun b o e => G.keepH b o (ok.base b o e)

noncomputable def opOf : Op → Operator
  | .add => .Add | .sub => .Sub | .mul => .Mult | .div => .FloorDiv | .mod => .Mod | .shl => .LShift | .shr => .RShift | .band => .BitAnd | .bor => .BitOr | .pow => .Pow

theorem op_int {A : Around} {s : Shared} {Q : Value → Shared → Prop} {a b : Int} {t u : Tok} (op : Op) {k : Nat} (hA : AOk A k) (hl : s.heap.NoLimit) (hok : op.ok a b)
    (h : ∀ t', Q (.int (op.ev a b) t') { s with toks := s.toks + 1 }) : wpAny (model prog w) A (binaryOp (opOf op) (.int a t) (.int b u)) Q NoE s := by
  cases op with
  | add => exact PyProof.Rows.add_int (h _)
  | sub => exact PyProof.Rows.sub_int (h _)
  | mul =>
    refine PyProof.Rows.mul_int (h _) ?_
    rcases hok with hok | hok
    · exact IntMulOk.of_left (intBits_le_64 (small64 hok).1 (small64 hok).2)
    · exact IntMulOk.of_right (intBits_le_64 (small64 hok).1 (small64 hok).2)
  | div =>
    obtain ⟨hok, hs⟩ := hok
    refine PyProof.Rows.floordiv_int (by omega) ?_ (.inl (PyProof.noPylong_small (by omega)))
    have := h s.toks
    rw [Int.fdiv_eq_ediv_of_nonneg a (by omega)]; exact this
  | mod =>
    have hok : 0 < b := hok
    refine PyProof.Rows.mod_int' (by omega) ?_
    have := h s.toks
    rw [Int.fmod_eq_emod_of_nonneg a (by omega)]; exact this
  | shl =>
    obtain ⟨h0, h1, h2⟩ := hok
    exact PyProof.Rows.lshift_int_small h0 (by omega) (by omega) (h _)
  | shr =>
    obtain ⟨h0, h1⟩ := hok
    refine PyProof.Rows.rshift_int h0 ?_
    have := h s.toks
    rw [Int.fdiv_eq_ediv_of_nonneg a (Int.pow_nonneg (by omega))]; exact this
  | band =>
    obtain ⟨h0, h1⟩ := hok
    refine PyProof.Rows.and_int ?_
    rw [band_nat h0 h1]; exact h _
  | bor =>
    obtain ⟨h0, h1⟩ := hok
    refine PyProof.Rows.or_int ?_
    rw [bor_nat h0 h1]; exact h _
  | pow =>
    obtain ⟨h0, h1, h2⟩ := hok
    refine PyProof.Rows.pow_int h1 ?_ (h _)
    have := intBits_le_64 (small64 h0).1 (small64 h0).2
    have : (Builtin.Int.intBits a : Int) * b ≤ 64 * 1000 := Int.mul_le_mul (by omega) h2 h1 (by omega)
    omega

theorem Same.toks {s s₁ : Shared} (q : Same s s₁) (n : Nat) : Same s { s₁ with toks := n } := q

theorem e_bin (hB : BaseOk B mg mb) (op : Op) {l r : Expr} {pos : Pos} {f g : T RV} (hl : SemE prog w B x l f) (hr : SemE prog w B x r g) : SemE prog w B x (.BinOp l (opOf op) r pos) (tBin op f g) := fun A c ms tmp s Q a ok hi S hf => by
  refine wpAny_BinOp (wpAny_mono (hl A c ms tmp s _ a ok hi S hf) (fun va s₁ h₁ => ?_) fun _ _ e => e)
  obtain ⟨q₁, ra, ms₁, S₁, hf₁⟩ := h₁
  refine wpAny_mono (hr A c ms₁ _ s₁ _ a ok hi S₁ hf₁) (fun vb s₂ h₂ => ?_) fun _ _ e => e
  obtain ⟨q₂, rb, ms₂, S₂, hf₂⟩ := h₂
  have hl := nolim hB ok S₂
  have S₃ := S₂.pop2
  obtain ⟨G, ρ, m, X⟩ := S₂
  have t1 := X.tmps _ (.head _)
  have t2 := X.tmps _ (.tail _ (.head _))
  unfold evBin at hf₂
  split at hf₂
  · obtain ⟨ho, hf₂⟩ := hf₂
    cases t1; cases t2
    exact op_int op a hl ho fun t' => ⟨(q₁.trans q₂), _, _, S₃.int _ _, hf₂⟩
  · exact hf₂.elim

theorem iop_int {A : Around} {s : Shared} {Q : Value → Shared → Prop} {a b : Int} {t u : Tok} (op : Op) {k : Nat} (hA : AOk A k) (hop : op = .add ∨ op = .sub ∨ op = .mod ∨ op = .shr ∨ op = .bor) (hok : op.ok a b)
    (h : ∀ t', Q (.int (op.ev a b) t') { s with toks := s.toks + 1 }) : wpAny (model prog w) A (inplaceOp (opOf op) (.int a t) (.int b u)) Q NoE s := by
  rcases hop with rfl | rfl | rfl | rfl | rfl
  · exact PyProof.Rows.iadd_int (h _)
  · exact PyProof.Rows.isub_int (h _)
  · have hok : 0 < b := hok
    refine PyProof.Rows.imod_int (by omega) ?_
    have := h s.toks
    rw [Int.fmod_eq_emod_of_nonneg a (by omega)]; exact this
  · obtain ⟨h0, h1⟩ := hok
    refine PyProof.Rows.irshift_int h0 ?_
    have := h s.toks
    rw [Int.fdiv_eq_ediv_of_nonneg a (Int.pow_nonneg (by omega))]; exact this
  · obtain ⟨h0, h1⟩ := hok
    refine PyProof.Rows.ior_int ?_
    rw [bor_nat h0 h1]; exact h _

theorem e_neg {e : Expr} {pos : Pos} {f : T RV} (he : SemE prog w B x e f) : SemE prog w B x (.UnaryOp .USub e pos) (tNeg f) := fun A c ms tmp s Q a ok hi S hf => by
  refine PyProof.Rows.UnaryOp_ (wpAny_mono (he A c ms tmp s _ a ok hi S hf) (fun va s₁ h₁ => ?_) fun _ _ e => e)
  obtain ⟨q₁, ra, ms₁, S₁, hf₁⟩ := h₁
  have S₃ := S₁.pop
  obtain ⟨G, ρ, m, X⟩ := S₁
  have t1 := X.tmps _ (.head _)
  split at hf₁
  · obtain ⟨_, rfl⟩ := Rep.intI t1
    exact PyProof.Rows.neg_int ⟨q₁, _, _, S₃.int _ _, hf₁⟩
  · exact hf₁.elim

-- from run-time values to data
theorem SG.setDead {c : Cx} {ms : MS} {tmp : List (Value × RV)} {h : Heap} {g : PH} {ρ : List Addr} {m : Str → Option Value} (S : SG c ms tmp h g ρ m) (i : Nat) : SG c (ms.setC i .dead) tmp h g ρ m :=
  { S with
    len := by simp [MS.setC, S.len]
    cells := fun j cl a e1 e2 => by
      have e1 : (ms.cs.set i .dead)[j]? = some cl := e1
      rw [List.getElem?_set] at e1
      split at e1
      · split at e1
        · cases e1; trivial
        · cases e1
      · exact S.cells j cl a e1 e2 }
theorem SG.frz {c : Cx} {ms : MS} {tmp : List (Value × RV)} {h : Heap} {g : PH} {ρ : List Addr} {m : Str → Option Value} (S : SG c ms tmp h g ρ m) (ok : c.Ok B) {i : Nat} {a : Addr} {xs : List D} (hi : ms.cs[i]? = some (.lst xs)) (ha : ρ[i]? = some a) (hn : c.np ≤ i) :
    ∃ g', SG c (ms.setC i .dead) tmp h g' ρ m ∧ Sub g g' ∧ Rep g' (.ref a) (.lst xs) := by
  obtain ⟨hg, hH, hlen, vs, n, ho, hr⟩ := S.cells i _ a hi ha
  have hmem : a ∈ ρ := List.mem_of_getElem? ha
  have hsub : Sub g fun b => if b = a then some (lstO vs n) else g b := fun b o' e => by
    have : b ≠ a := fun q => by rw [q, hg] at e; cases e
    exact (if_neg this).trans e
  have no : ∀ b, b ≠ a → g b = none → (if b = a then some (lstO vs n) else g b) = none := fun b hb e => (if_neg hb).trans e
  refine ⟨fun b => if b = a then some (lstO vs n) else g b, (S.setDead i).regrow hsub ?_ ?_ (no _ (fun q => S.Lρ (q ▸ hmem)) S.gL) (fun b hb => no b (fun q => (S.vcg b hb).2.1 (q ▸ hmem)) (S.vcg b hb).1)
    (fun b hb => no b (fun q => (S.privg b hb).2.1 (q ▸ hmem)) (S.privg b hb).1) ?_, hsub, .lst (if_pos rfl) hlen (hr.mono hsub)⟩
  · intro b o e
    by_cases hb : b = a
    · have e : (if b = a then some (lstO vs n) else g b) = some o := e
      rw [if_pos hb] at e; cases e; subst hb; exact ho
    · have e : (if b = a then some (lstO vs n) else g b) = some o := e
      rw [if_neg hb] at e; exact S.gh b o e
  · intro b o e
    by_cases hb : b = a
    · exact .inr (hb ▸ S.own i a hn ha)
    · have e : (if b = a then some (lstO vs n) else g b) = some o := e
      rw [if_neg hb] at e; exact .inl e
  · intro j cl b e1 e2 hd
    have hne : j ≠ i := fun q => by
      subst q
      have e1 : (ms.cs.set j .dead)[j]? = some cl := e1
      rw [List.getElem?_set_self (List.getElem?_eq_some_iff.mp hi).1] at e1; cases e1; exact hd rfl
    have e1 : (ms.cs.set i .dead)[j]? = some cl := e1
    rw [List.getElem?_set_ne (Ne.symm hne)] at e1
    refine no b (fun q => hne ?_) ?_
    · subst q
      obtain ⟨l1, h1⟩ := List.getElem?_eq_some_iff.mp ha
      obtain ⟨l2, h2⟩ := List.getElem?_eq_some_iff.mp e2
      exact (List.getElem_inj S.nodup).mp (h2.trans h1.symm)
    · have := S.cells j cl b e1 e2
      cases cl with
      | lst xs => exact this.1
      | dict kv => exact this.1
      | dead => exact absurd rfl hd

theorem d_frz {e : Expr} {f : T RV} (he : SemE prog w B x e f) : SemD prog w B x e (tFrz x.np f) := fun A c ms tmp s Q a ok hi S hf => by
  refine wpAny_mono (he A c ms tmp s _ a ok hi S hf) (fun va s₁ h₁ => ?_) fun _ _ e => e
  obtain ⟨q₁, ra, ms₁, S₁, hf₁⟩ := h₁
  cases ra with
  | val d => exact ⟨q₁, d, ms₁, S₁, hf₁⟩
  | ptr i =>
    simp only at hf₁
    split at hf₁
    · rename_i xs hc
      obtain ⟨hn, hq⟩ := hf₁
      obtain ⟨g, ρ, m, G⟩ := S₁
      obtain ⟨ad, ha, e⟩ := G.tmps _ (.head _)
      have e : va = .ref ad := e
      subst e
      obtain ⟨g', G', hs, hr⟩ := G.frz ok hc ha (hi.np ▸ hn)
      refine ⟨q₁, .lst xs, _, ⟨g', ρ, m, G'.withTmp fun p hp => ?_⟩, hq⟩
      rcases List.mem_cons.mp hp with rfl | hp
      · exact hr
      · exact G'.tmps p (.tail _ hp)
    · exact hf₁.elim
theorem e_up {e : Expr} {f : T D} (he : SemD prog w B x e f) : SemE prog w B x e (tUp f) := fun A c ms tmp s Q a ok hi S hf => by
  refine wpAny_mono (he A c ms tmp s _ a ok hi S hf) (fun va s₁ h₁ => ?_) fun _ _ e => e
  obtain ⟨q₁, d, ms₁, S₁, hf₁⟩ := h₁
  exact ⟨q₁, .val d, ms₁, S₁, hf₁⟩
end
end Mine
end

section
set_option maxRecDepth 100000
set_option Elab.async false
set_option autoImplicit false
set_option linter.unusedVariables false
namespace Mine
open PySem PySem.Calls

section
variable {prog : Program} {w : World} {B : Heap} {mg mb : Str → Option Value} {x : Sx}

/-- the next of several expressions is no starred one -/
noncomputable def NoStar (e : Expr) : Prop := ∀ rest env, starEach (e :: rest) env = (false, eval e env) :: starEach rest env

inductive SemArgs (prog : Program) (w : World) (B : Heap) (x : Sx) : List Expr → List (T D) → Prop
  | nil : SemArgs prog w B x [] []
  | cons {e : Expr} {f : T D} {es : List Expr} {fs : List (T D)} : SemD prog w B x e f → NoStar e → SemArgs prog w B x es fs → SemArgs prog w B x (e :: es) (f :: fs)
inductive SemRVs (prog : Program) (w : World) (B : Heap) (x : Sx) : List Expr → List (T RV) → Prop
  | nil : SemRVs prog w B x [] []
  | cons {e : Expr} {f : T RV} {es : List Expr} {fs : List (T RV)} : SemE prog w B x e f → NoStar e → SemRVs prog w B x es fs → SemRVs prog w B x (e :: es) (f :: fs)

inductive ArgsPost (c : Cx) (tmp : List (Value × RV)) (s : Shared) (Q : List D → MS → Prop) (n : Nat) (vs : List Value) (s' : Shared) : Prop
  | mk (q : Same s s') (ds : List D) (ms' : MS) (h1 : vs.length = n) (h2 : ds.length = n) (S : St c ms' (vs.zip (ds.map .val) ++ tmp) s'.heap) (hf : Q ds ms')
inductive RVsPost (c : Cx) (tmp : List (Value × RV)) (s : Shared) (Q : List RV → MS → Prop) (n : Nat) (vs : List Value) (s' : Shared) : Prop
  | mk (q : Same s s') (rs : List RV) (ms' : MS) (h1 : vs.length = n) (h2 : rs.length = n) (S : St c ms' (vs.zip rs ++ tmp) s'.heap) (hf : Q rs ms')
theorem args_run {es : List Expr} {fs : List (T D)} (H : SemArgs prog w B x es fs) (pos : Pos) : ∀ A c ms tmp s (Q : List D → MS → Prop), AOk A x.k → c.Ok B → c.Is x → St c ms tmp s.heap → tArgs fs ms Q →
    wpAny (model prog w) A (spliced (backTo pos (starEach es c.env))) (ArgsPost c tmp s Q es.length) NoE s := by
  induction H with
  | nil => intro A c ms tmp s Q a ok hi S hf; exact spliced_nil ⟨Same.refl _, [], ms, rfl, rfl, S, hf⟩
  | cons he hs _ ih =>
    intro A c ms tmp s Q a ok hi S hf
    rw [hs]
    refine spliced_cons (wpAny_mono (he A c ms tmp s _ a ok hi S hf) (fun v s₁ h₁ => ?_) fun _ _ e => e)
    obtain ⟨q₁, d, ms₁, S₁, hf₁⟩ := h₁
    refine wpAny_mono (ih A c ms₁ _ s₁ _ a ok hi S₁ hf₁) (fun vs s₂ h₂ => ?_) fun _ _ e => e
    obtain ⟨q₂, ds, ms₂, l1, l2, S₂, hf₂⟩ := h₂
    refine ⟨q₁.trans q₂, d :: ds, ms₂, by simp [l1], by simp [l2], S₂.sub fun p hp => ?_, hf₂⟩
    simp only [List.map_cons, List.zip_cons_cons, List.cons_append, List.mem_cons, List.mem_append] at hp ⊢
    rcases hp with h | h | h
    · exact .inr (.inl h)
    · exact .inl h
    · exact .inr (.inr h)
theorem rvs_run {es : List Expr} {fs : List (T RV)} (H : SemRVs prog w B x es fs) (pos : Pos) : ∀ A c ms tmp s (Q : List RV → MS → Prop), AOk A x.k → c.Ok B → c.Is x → St c ms tmp s.heap → tRVs fs ms Q →
    wpAny (model prog w) A (spliced (backTo pos (starEach es c.env))) (RVsPost c tmp s Q es.length) NoE s := by
  induction H with
  | nil => intro A c ms tmp s Q a ok hi S hf; exact spliced_nil ⟨Same.refl _, [], ms, rfl, rfl, S, hf⟩
  | cons he hs _ ih =>
    intro A c ms tmp s Q a ok hi S hf
    rw [hs]
    refine spliced_cons (wpAny_mono (he A c ms tmp s _ a ok hi S hf) (fun v s₁ h₁ => ?_) fun _ _ e => e)
    obtain ⟨q₁, d, ms₁, S₁, hf₁⟩ := h₁
    refine wpAny_mono (ih A c ms₁ _ s₁ _ a ok hi S₁ hf₁) (fun vs s₂ h₂ => ?_) fun _ _ e => e
    obtain ⟨q₂, ds, ms₂, l1, l2, S₂, hf₂⟩ := h₂
    refine ⟨q₁.trans q₂, d :: ds, ms₂, by simp [l1], by simp [l2], S₂.sub fun p hp => ?_, hf₂⟩
    simp only [List.zip_cons_cons, List.cons_append, List.mem_cons, List.mem_append] at hp ⊢
    rcases hp with h | h | h
    · exact .inr (.inl h)
    · exact .inl h
    · exact .inr (.inr h)

theorem repL_of {g : PH} {ρ : List Addr} : ∀ {vs : List Value} {ds : List D}, vs.length = ds.length → (∀ p ∈ vs.zip (ds.map RV.val), RVRep g ρ p.1 p.2) → RepL g vs ds
  | [], [], _, _ => .nil
  | v :: vs, d :: ds, hl, h => .cons (h (v, .val d) (by simp)) (repL_of (by simpa using hl) fun p hp => h p (by simp only [List.map_cons, List.zip_cons_cons, List.mem_cons]; exact .inr hp))
  | [], _ :: _, hl, _ => by simp at hl
  | _ :: _, [], hl, _ => by simp at hl
theorem SG.repL {c : Cx} {ms : MS} {tmp : List (Value × RV)} {h : Heap} {g : PH} {ρ : List Addr} {m : Str → Option Value} {vs : List Value} {ds : List D} (G : SG c ms (vs.zip (ds.map .val) ++ tmp) h g ρ m) (hl : vs.length = ds.length) : RepL g vs ds :=
  repL_of hl fun p hp => G.tmps p (List.mem_append.mpr (.inl hp))

theorem LIM_le : LIM ≤ sizeLine := by decide

theorem newTuple_ {A : Around} {s : Shared} {vs : List Value} {Q : Value → Shared → Prop} (h : Q (.ref s.heap.objs.size) { s with heap := s.heap.push (tupO vs 0) }) (hsz : vs.length ≤ LIM) : wpAny (model prog w) A (newTuple vs) Q NoE s :=
  wpAny_newObj_type h (by show vs.toArray.size ≤ sizeLine; rw [List.size_toArray]; exact Nat.le_trans hsz LIM_le)
theorem newList_ {A : Around} {s : Shared} {vs : List Value} {Q : Value → Shared → Prop} (h : Q (.ref s.heap.objs.size) { s with heap := s.heap.push (lstO vs 0) }) (hsz : vs.length ≤ LIM) : wpAny (model prog w) A (newList vs) Q NoE s :=
  wpAny_newObj_type h (by show vs.toArray.size ≤ sizeLine; rw [List.size_toArray]; exact Nat.le_trans hsz LIM_le)

theorem St.H {c : Cx} {ms : MS} {tmp : List (Value × RV)} {h : Heap} (S : St c ms tmp h) : ∀ a o, c.H a = some o → h.get? a = some o := let ⟨_, _, _, G⟩ := S; G.keepH

theorem e_tup {es : List Expr} {fs : List (T D)} {k : Nat} {pos : Pos} (H : SemArgs prog w B x es fs) (hz : es.length ≤ LIM) : SemE prog w B x (.Tuple es k pos) (tTup fs) := fun A c ms tmp s Q a ok hi S hf => by
  refine PyProof.Rows.Tuple_ (wpAny_mono (args_run H pos A c ms tmp s _ a ok hi S hf) (fun vs s₁ h₁ => ?_) fun _ _ e => e)
  obtain ⟨q₁, ds, ms₁, l1, l2, S₁, hf₁⟩ := h₁
  refine newTuple_ ⟨q₁, .val (.tup ds), ms₁, S₁.newSeq rfl (fun g ρ m G g' hs e => .tup e (by lia) ((G.repL (l1.trans l2.symm)).mono hs)) _ fun p hp => List.mem_append.mpr (.inr hp), hf₁⟩ (by lia)
theorem e_lstV {es : List Expr} {fs : List (T D)} {pos : Pos} (H : SemArgs prog w B x es fs) (hz : es.length ≤ LIM) : SemE prog w B x (.List es pos) (tLstV fs) := fun A c ms tmp s Q a ok hi S hf => by
  refine PyProof.Rows.List_ (wpAny_mono (args_run H pos A c ms tmp s _ a ok hi S hf) (fun vs s₁ h₁ => ?_) fun _ _ e => e)
  obtain ⟨q₁, ds, ms₁, l1, l2, S₁, hf₁⟩ := h₁
  refine newList_ ⟨q₁, .val (.lst ds), ms₁, S₁.newSeq rfl (fun g ρ m G g' hs e => .lst e (by lia) ((G.repL (l1.trans l2.symm)).mono hs)) _ fun p hp => List.mem_append.mpr (.inr hp), hf₁⟩ (by lia)
theorem e_lst {es : List Expr} {fs : List (T D)} {pos : Pos} (H : SemArgs prog w B x es fs) (hz : es.length ≤ LIM) : SemE prog w B x (.List es pos) (tLst fs) := fun A c ms tmp s Q a ok hi S hf => by
  refine PyProof.Rows.List_ (wpAny_mono (args_run H pos A c ms tmp s _ a ok hi S hf) (fun vs s₁ h₁ => ?_) fun _ _ e => e)
  obtain ⟨q₁, ds, ms₁, l1, l2, S₁, hf₁⟩ := h₁
  refine newList_ ⟨q₁, .ptr ms₁.cs.length, _, S₁.newCell (cl := .lst ds) rfl S₁.H (fun g ρ m G gn Hn => ⟨gn, Hn, by lia, vs, 0, Heap.get?_push_size _ rfl, G.repL (l1.trans l2.symm)⟩) _ fun p hp => List.mem_append.mpr (.inr hp), hf₁⟩ (by lia)

/-- what a list that is looked at is -/
theorem SG.look {c : Cx} {ms : MS} {tmp : List (Value × RV)} {h : Heap} {g : PH} {ρ : List Addr} {m : Str → Option Value} (G : SG c ms tmp h g ρ m) {v : Value} {r : RV} {xs : List D} (hr : RVRep g ρ v r) (hx : ms.look r = some xs) :
    ∃ a vs n, v = .ref a ∧ h.get? a = some (lstO vs n) ∧ RepL g vs xs ∧ xs.length ≤ LIM := by
  unfold MS.look MS.dat at hx
  cases r with
  | val d =>
    cases d with
    | lst ys =>
      simp only [Option.some.injEq] at hx; subst hx
      cases hr with | lst e l r => exact ⟨_, _, _, rfl, G.gh _ _ e, r, l⟩
    | _ => simp at hx
  | ptr i =>
    obtain ⟨a, ha, e⟩ := hr
    simp only at hx
    split at hx
    · rename_i ys hy
      cases hx
      split at hy
      · rename_i zs hc
        cases hy
        obtain ⟨_, _, l, vs, n, ho, hr⟩ := G.cells i _ a hc ha
        exact ⟨a, vs, n, e, ho, hr, l⟩
      · cases hy
    · cases hx

/-- a call of a built-in of one argument -/
theorem call_blt1 (hB : BaseOk B mg mb) {n : Str} {p pos : Pos} {e : Expr} {id : String} {f : T RV} (he : SemE prog w B x e f) (hst : NoStar e) (hk : x.sc.names.lookup n = some .globalImplicit) (hm : mg n = none) (hv : mb n = some (.builtin id)) (hd : (n == ("__debug__" : Str)) = false)
    {A : Around} {c : Cx} {ms : MS} {tmp : List (Value × RV)} {s : Shared} {Q : RV → MS → Prop} {P : Value → Shared → Prop} (a : AOk A x.k) (ok : c.Ok B) (hi : c.Is x) (S : St c ms tmp s.heap) (hf : f ms Q)
    (h : ∀ v s₁ r ms₁, Same s s₁ → St c ms₁ ((v, r) :: tmp) s₁.heap → Q r ms₁ → wpAny (model prog w) A (call (.builtin id) [v]) P NoE s₁) : wpAny (model prog w) A (eval (.Call (.Name n p) [e] [] pos) c.env) P NoE s := by
  refine PyProof.Rows.Call_ (load_blt hB ok S (by rw [hi.kindOf]; exact hk) hm hv ?_ hd)
  rw [hst]
  refine callWith_builtin rfl (evalArgs_plain (spliced_cons (wpAny_mono (he A c ms tmp s _ a ok hi S hf) (fun v s₁ h₁ => ?_) fun _ _ e => e)))
  obtain ⟨q₁, r, ms₁, S₁, hf₁⟩ := h₁
  exact spliced_nil (h v s₁ r ms₁ q₁ S₁ hf₁)

theorem e_len (hB : BaseOk B mg mb) {p pos : Pos} {e : Expr} {f : T RV} (he : SemE prog w B x e f) (hst : NoStar e) (hk : x.sc.names.lookup (Str.ofString "len") = some .globalImplicit) (hm : mg (Str.ofString "len") = none) (hv : mb (Str.ofString "len") = some (.builtin "len")) :
    SemE prog w B x (.Call (.Name (Str.ofString "len") p) [e] [] pos) (tLen f) := fun A c ms tmp s Q a ok hi S hf => by
  refine call_blt1 hB he hst hk hm hv (by decide) a ok hi S hf fun v s₁ r ms₁ q₁ S₁ hf₁ => ?_
  have S₂ := S₁.pop
  obtain ⟨g, ρ, m, G⟩ := S₁
  split at hf₁
  · rename_i xs hx
    obtain ⟨ad, vs, n, rfl, ho, hr, hl⟩ := G.look (G.tmps _ (.head _)) hx
    have hz : (vs.toArray.size : Int) = (xs.length : Int) := by simp [hr.length]
    refine Calls.call_len_list ⟨_, ho, rfl, n, rfl⟩ ?_ ?_
    · rw [hz]; have : LIM = 1048576 := rfl; lia
    · rw [hz]; exact ⟨q₁, _, _, S₂.int _ _, hf₁⟩
  · exact hf₁.elim
theorem e_abs (hB : BaseOk B mg mb) {p pos : Pos} {e : Expr} {f : T RV} (he : SemE prog w B x e f) (hst : NoStar e) (hk : x.sc.names.lookup (Str.ofString "abs") = some .globalImplicit) (hm : mg (Str.ofString "abs") = none) (hv : mb (Str.ofString "abs") = some (.builtin "abs")) :
    SemE prog w B x (.Call (.Name (Str.ofString "abs") p) [e] [] pos) (tAbs f) := fun A c ms tmp s Q a ok hi S hf => by
  refine call_blt1 hB he hst hk hm hv (by decide) a ok hi S hf fun v s₁ r ms₁ q₁ S₁ hf₁ => ?_
  have S₂ := S₁.pop
  obtain ⟨g, ρ, m, G⟩ := S₁
  have t1 := G.tmps _ (.head _)
  split at hf₁
  · rename_i i
    obtain ⟨_, rfl⟩ := Rep.intI t1
    refine PyProof.Rows.call_abs_int fun u tk => ?_
    have : (if i < 0 then -i else i) = (i.natAbs : Int) := by split <;> lia
    rw [this]
    exact ⟨q₁, _, _, S₂.int _ _, hf₁⟩
  · exact hf₁.elim

/-- o[i], o of a built-in type -/
theorem sub_tail {A : Around} {s : Shared} {value slice : Expr} {o i : Value} {T id : String} {Q : Value → Shared → Prop} (hT : s.TypeIs o T)
    (hl : typeLookup (.type T) "__getitem__" = pure (some (.builtin id))) (hs : subscripted slice false o i = operate [o, i] (getItem o i)) (h : wpAny (model prog w) A (getItem o i) Q NoE s) :
    wpAny (model prog w) A (PyProof.Rows.subscriptTail value slice o i) Q NoE s := by
  unfold PyProof.Rows.subscriptTail
  refine wpAny_bind ?_
  rw [getitemInPython_of_ne hT.not_modules]
  refine wpAny_bind (wpAny_specialOf hT hl ?_)
  have fin : wpAny (model prog w) A (subscripted slice false o i) (fun r s₃ => wpAny (model prog w) A (letTemporaryGo value o r >>= fun _ => pure r) Q NoE s₃) NoE s := by
    rw [hs]
    exact wpAny_operating (wpAny_mono h (fun r s₃ h₃ => wpAny_bind (wpAny_letTemporaryGo (wpAny_pure h₃))) fun _ _ x => x)
  first
    | exact wpAny_pure (wpAny_bind fin)
    | exact wpAny_bind (wpAny_pure (wpAny_bind fin))
    | exact wpAny_bind fin

noncomputable def NoSlice (e : Expr) : Prop := ∀ o i, subscripted e false o i = operate [o, i] (getItem o i)

theorem SG.dat {c : Cx} {ms : MS} {tmp : List (Value × RV)} {h : Heap} {g : PH} {ρ : List Addr} {m : Str → Option Value} (G : SG c ms tmp h g ρ m) {v : Value} {r : RV} {xs : List D} (hr : RVRep g ρ v r) (hx : ms.dat r = some (.lst xs)) :
    ∃ a vs n, v = .ref a ∧ h.get? a = some (lstO vs n) ∧ RepL g vs xs ∧ xs.length ≤ LIM := G.look hr (by unfold MS.look; rw [hx])

theorem e_item {v i : Expr} {pos : Pos} {f g : T RV} (hv : SemE prog w B x v f) (hx : SemE prog w B x i g) (hs : NoSlice i) : SemE prog w B x (.Subscript v i pos) (tItem f g) := fun A c ms tmp s Q a ok hi S hf => by
  refine PyProof.Rows.Subscript_ (wpAny_mono (hv A c ms tmp s _ a ok hi S hf) (fun vo s₁ h₁ => ?_) fun _ _ e => e)
  obtain ⟨q₁, ro, ms₁, S₁, hf₁⟩ := h₁
  refine wpAny_mono (hx A c ms₁ _ s₁ _ a ok hi S₁ hf₁) (fun vi s₂ h₂ => ?_) fun _ _ e => e
  obtain ⟨q₂, ri, ms₂, S₂, hf₂⟩ := h₂
  obtain ⟨g', ρ, m, G⟩ := S₂
  have ti := G.tmps _ (.head _)
  have to := G.tmps _ (.tail _ (.head _))
  have L : LIM = 1048576 := rfl
  have fin : ∀ (y : Value) (d : D), Rep g' y d → Q (.val d) ms₂ → PostV c tmp s Q y s₂ := fun y d hr hq => ⟨q₁.trans q₂, .val d, ms₂, ⟨g', ρ, m, G.withTmp fun p hp => by
    rcases List.mem_cons.mp hp with rfl | hp
    · exact hr
    · exact G.tmps p (.tail _ (.tail _ hp))⟩, hq⟩
  unfold evItem at hf₂
  split at hf₂
  · rename_i xs k hd
    obtain ⟨h0, d, hget, hq⟩ := hf₂
    obtain ⟨ad, vs, n, rfl, ho, hr, hl⟩ := G.dat to hd
    cases ti
    obtain ⟨y, hy, hry⟩ := hr.get hget
    have hlen := hr.length
    have hIs : s₂.heap.IsList ad vs.toArray := ⟨_, ho, rfl, n, rfl⟩
    refine sub_tail hIs.typeIs list_getitem_lookup (hs _ _) ?_
    have hb := (List.getElem?_eq_some_iff.mp hget).1
    by_cases hneg : k < 0
    · rw [if_pos hneg] at h0 hget hy hb
      refine wpAny_getItem_list_neg hIs hneg (by simp only [List.size_toArray]; lia) (by lia) ?_ (fin y d hry hq)
      simp only [List.size_toArray, List.getElem?_toArray]; rw [hlen]; exact hy
    · rw [if_neg hneg] at h0 hget hy hb
      refine wpAny_getItem_list hIs h0 (by lia) ?_ (fin y d hry hq)
      simpa using hy
  · rename_i xs k hd
    obtain ⟨h0, d, hget, hq⟩ := hf₂
    have hro : ro = .val (.tup xs) := by
      cases ro with
      | val d => unfold MS.dat at hd; cases hd; rfl
      | ptr i => unfold MS.dat at hd; simp only at hd; split at hd <;> cases hd
    subst hro
    cases ti
    cases to with
    | tup e l r =>
      rename_i ad vs n
      obtain ⟨y, hy, hry⟩ := r.get hget
      have hb := (List.getElem?_eq_some_iff.mp hget).1
      have ho : s₂.heap.get? ad = some (tupO vs n) := G.gh _ _ e
      have hlen := r.length
      refine sub_tail ⟨_, ho, rfl⟩ F.slot_tuple_getitem.lookup (hs _ _) (P.getItem_tuple ho (by lia) (by lia) (seqIndex_of h0 (by simp only [List.size_toArray]; lia)) (by simpa using hy) (fin y d hry hq))
  · exact hf₂.elim
end
end Mine
end

section
set_option maxRecDepth 100000
set_option Elab.async false
set_option autoImplicit false
set_option linter.unusedVariables false
namespace Mine
open PySem PySem.Calls

section
variable {prog : Program} {w : World} {B : Heap} {mg mb : Str → Option Value} {x : Sx}

theorem lstO_inj {vs us : List Value} {n k : Nat} (e : some (lstO vs n) = some (lstO us k)) : vs = us := by
  have := congrArg (fun o : Option Obj => match o with | some ⟨_, _, .seq xs _, _⟩ => xs.toList | _ => []) e
  simpa using this
theorem tupO_inj {vs us : List Value} {n k : Nat} (e : some (tupO vs n) = some (tupO us k)) : vs = us := by
  have := congrArg (fun o : Option Obj => match o with | some ⟨_, _, .seq xs _, _⟩ => xs.toList | _ => []) e
  simpa using this

-- slices
theorem clip_eq (n : Nat) (i : Int) : clip n i = clipAt n i := rfl
theorem cut_rep {g : PH} {vs : List Value} {xs : List D} (h : RepL g vs xs) (lo hi : Option Int) : RepL g (slicePick vs.toArray lo hi none).toList (cut xs lo hi) := by
  rw [slicePick_plain]
  have : vs.toArray.size = xs.length := by simp [h.length]
  rw [this]
  exact (h.drop _).take _
theorem cut_len (xs : List D) (lo hi : Option Int) : (cut xs lo hi).length ≤ xs.length := by
  unfold cut
  rw [List.length_take, List.length_drop]; lia

inductive SemOpt (prog : Program) (w : World) (B : Heap) (x : Sx) : Option Expr → Option (T RV) → Prop
  | none : SemOpt prog w B x Option.none Option.none
  | some {e : Expr} {f : T RV} : SemE prog w B x e f → SemOpt prog w B x (some e) (some f)
theorem opt_run {e : Option Expr} {f : Option (T RV)} (H : SemOpt prog w B x e f) : ∀ A c ms tmp s (Q : Option Int → MS → Prop), AOk A x.k → c.Ok B → c.Is x → St c ms tmp s.heap → tOpt f ms Q →
    wpAny (model prog w) A (evalPart e c.env) (fun v s' => Same s s' ∧ ∃ i ms', IsPart v i ∧ St c ms' tmp s'.heap ∧ Q i ms') NoE s := by
  intro A c ms tmp s Q a ok hi S hf
  cases H with
  | none => exact wpAny_evalPart_none ⟨Same.refl _, _, ms, .none, S, hf⟩
  | some he =>
    refine wpAny_evalPart_some (wpAny_mono (he A c ms tmp s _ a ok hi S hf) (fun v s₁ h₁ => ?_) fun _ _ e => e)
    obtain ⟨q₁, r, ms₁, S₁, hf₁⟩ := h₁
    have S₂ := S₁.pop
    obtain ⟨g, ρ, m, G⟩ := S₁
    have t := G.tmps _ (.head _)
    split at hf₁
    · cases t; exact ⟨q₁, _, ms₁, .int _ _, S₂, hf₁⟩
    · exact hf₁.elim

theorem e_cut {n : Str} {np p pos : Pos} {lo hi : Option Expr} {f : T RV} {fl fh : Option (T RV)} (hv : SemE prog w B x (.Name n np) f) (hlo : SemOpt prog w B x lo fl) (hhi : SemOpt prog w B x hi fh) :
    SemE prog w B x (.Subscript (.Name n np) (.Slice lo hi none p) pos) (tCut f fl fh) := fun A c ms tmp s Q a ok hi' S hf => by
  refine wpAny_Subscript_list_slice (wpAny_mono (hv A c ms tmp s _ a ok hi' S hf) (fun vo s₁ h₁ => ?_) fun _ _ e => e) (fun _ _ => rfl)
  obtain ⟨q₁, ro, ms₁, S₁, hf₁⟩ := h₁
  refine wpAny_mono (opt_run hlo A c ms₁ _ s₁ _ a ok hi' S₁ hf₁) (fun vl s₂ h₂ => ?_) fun _ _ e => e
  obtain ⟨q₂, il, ms₂, pl, S₂, hf₂⟩ := h₂
  refine wpAny_mono (opt_run hhi A c ms₂ _ s₂ _ a ok hi' S₂ hf₂) (fun vu s₃ h₃ => ?_) fun _ _ e => e
  obtain ⟨q₃, iu, ms₃, pu, S₃, hf₃⟩ := h₃
  split at hf₃
  · rename_i xs hx
    have S₃' := S₃
    obtain ⟨g, ρ, m, G⟩ := S₃'
    obtain ⟨ad, vs, n, rfl, ho, hr, hl⟩ := G.look (G.tmps _ (.head _)) hx
    have hlen := hr.length
    refine ⟨ad, vs.toArray, il, iu, rfl, ⟨_, ho, rfl, n, rfl⟩, Nat.le_trans (by simp only [List.size_toArray]; lia) LIM_le, pl, pu, (q₁.trans q₂).trans q₃, .val (.lst (cut xs il iu)), ms₃, ?_, hf₃⟩
    have := (S₃.push { cls := .type "slice", data := .fields #[vl, vu, Value.none] }).newSeq (o := lstO (slicePick vs.toArray il iu Option.none).toList 0) rfl (d := .lst (cut xs il iu)) (fun g ρ m G g' hs e => .lst e (Nat.le_trans (cut_len ..) hl) ?_) tmp (fun p hp => .tail _ hp)
    · rw [Heap.size_push] at this
      exact this
    · obtain ⟨ad', vs', n', e1, ho', hr', _⟩ := G.look (G.tmps _ (.head _)) hx
      cases e1
      have e2 : some (lstO vs' n') = some (lstO vs n) := ho'.symm.trans (Heap.get?_push_of_some _ ho)
      have e3 : vs' = vs := lstO_inj e2
      subst e3
      exact (cut_rep hr' il iu).mono hs
  · exact hf₃.elim

-- repetition and concatenation
theorem foldl_flat (vs : List Value) : ∀ (k : Nat) (acc : Array Value), (List.foldl (fun x1 x2 => x1 ++ x2) acc (List.replicate k vs.toArray)) = acc ++ ((List.replicate k vs).flatten).toArray
  | 0, acc => by simp
  | k + 1, acc => by
    rw [List.replicate_succ, List.foldl_cons, foldl_flat vs k]
    simp [List.replicate_succ]
theorem mul_list_ {A : Around} {s : Shared} {l : Addr} {vs : List Value} {n : Nat} {k : Int} {u : Tok} {Q : Value → Shared → Prop} (hl : s.heap.get? l = some (lstO vs n)) (hne : vs ≠ []) (h0 : 0 ≤ k) (h1 : k ≤ 1000000) (hsz : vs.length * k.toNat ≤ LIM)
    (h : Q (.ref s.heap.objs.size) { s with heap := s.heap.push (lstO (List.replicate k.toNat vs).flatten 0) }) : wpAny (model prog w) A (binaryOp .Mult (.ref l) (.int k u)) Q NoE s := by
  have L : LIM = 1048576 := rfl
  refine wpAny_binaryOp_repeat_ref (T := "list") (U := "int") (by decide) ⟨_, hl, rfl⟩ (fun s' => typeIs_int s' k u) noFill_list_mul F.fills_int_mul F.slot_int_rmul repeat_list F.slot_int_index.lookup
    (call_meets F.slot_int_rmul (typeIs_int s k u) F.entry_int_rmul (F.args_int_rmul_2 _ _) (int___rmul___int_list k u l vs.toArray n)
      ⟨hl, rfl, ⟨_, hl, rfl⟩, call_meets F.slot_list_mul ⟨_, hl, rfl⟩ F.entry_list_mul (F.args_list_mul_2 _ _) (lm_list_mul_any l vs.toArray n Option.none #[] k u ?_ ?_ ?_) ⟨hl, ?_⟩⟩)
  · rw [fitsIndex_of h0 (by lia)]; decide
  · simp only [List.size_toArray]; lia
  · have : Builtin.List.listTooLong (vs.toArray.size * k.toNat) = false := by
      unfold Builtin.List.listTooLong
      simp only [List.size_toArray]
      have := LIM_le
      simp; lia
    rw [this]; decide
  · have e : vs.toArray.isEmpty = false := by
      cases vs with
      | nil => exact absurd rfl hne
      | cons _ _ => rfl
    rw [e, if_neg (by decide), foldl_flat]
    simpa using h

theorem reps_len (k : Nat) (xs : List D) : (List.replicate k xs).flatten.length = xs.length * k := by
  induction k with
  | zero => simp
  | succ k ih => simp [List.replicate_succ]; rw [Nat.mul_succ]; have := ih; simp at this; lia

theorem e_rep {l r : Expr} {pos : Pos} {f g : T RV} (hl : SemE prog w B x l f) (hr : SemE prog w B x r g) : SemE prog w B x (.BinOp l .Mult r pos) (tRep f g) := fun A c ms tmp s Q a ok hi S hf => by
  refine wpAny_BinOp (wpAny_mono (hl A c ms tmp s _ a ok hi S hf) (fun va s₁ h₁ => ?_) fun _ _ e => e)
  obtain ⟨q₁, ra, ms₁, S₁, hf₁⟩ := h₁
  refine wpAny_mono (hr A c ms₁ _ s₁ _ a ok hi S₁ hf₁) (fun vb s₂ h₂ => ?_) fun _ _ e => e
  obtain ⟨q₂, rb, ms₂, S₂, hf₂⟩ := h₂
  have S₂' := S₂
  obtain ⟨G', ρ, m, X⟩ := S₂'
  have tb := X.tmps _ (.head _)
  split at hf₂
  · rename_i xs k hx
    obtain ⟨hne, hsz, hk, h0, hq⟩ := hf₂
    obtain ⟨ad, vs, n, rfl, ho, hr, hlen⟩ := X.look (X.tmps _ (.tail _ (.head _))) hx
    obtain ⟨_, rfl⟩ := Rep.intI tb
    have hl := hr.length
    refine mul_list_ ho (fun e => hne (List.length_eq_zero_iff.mp (by rw [← hl, e]; rfl))) h0 hk (by rw [hl]; exact hsz) ⟨q₁.trans q₂, _, _, S₂.newCell (cl := .lst (List.replicate k.toNat xs).flatten) rfl S₂.H (fun g ρ m G gn Hn => ⟨gn, Hn, by rw [reps_len]; lia, _, 0, Heap.get?_push_size _ rfl, ?_⟩) tmp (fun p hp => .tail _ (.tail _ hp)), hq⟩
    obtain ⟨ad', vs', n', e1, ho', hr', _⟩ := G.look (G.tmps _ (.tail _ (.head _))) hx
    cases e1
    have e2 : some (lstO vs' n') = some (lstO vs n) := ho'.symm.trans ho
    have e3 : vs' = vs := lstO_inj e2
    subst e3
    exact hr'.reps _
  · exact hf₂.elim

theorem e_cat {l r : Expr} {pos : Pos} {f g : T RV} (hl : SemE prog w B x l f) (hr : SemE prog w B x r g) : SemE prog w B x (.BinOp l .Add r pos) (tCat f g) := fun A c ms tmp s Q a ok hi S hf => by
  refine wpAny_BinOp (wpAny_mono (hl A c ms tmp s _ a ok hi S hf) (fun va s₁ h₁ => ?_) fun _ _ e => e)
  obtain ⟨q₁, ra, ms₁, S₁, hf₁⟩ := h₁
  refine wpAny_mono (hr A c ms₁ _ s₁ _ a ok hi S₁ hf₁) (fun vb s₂ h₂ => ?_) fun _ _ e => e
  obtain ⟨q₂, rb, ms₂, S₂, hf₂⟩ := h₂
  have S₂' := S₂
  obtain ⟨G', ρ, m, X⟩ := S₂'
  split at hf₂
  · rename_i xs ys hx hy
    obtain ⟨hsz, hq⟩ := hf₂
    obtain ⟨ad, vs, n, rfl, ho, hr, hlen⟩ := X.look (X.tmps _ (.tail _ (.head _))) hx
    obtain ⟨bd, us, k, rfl, ho2, hr2, hlen2⟩ := X.look (X.tmps _ (.head _)) hy
    have l1 := hr.length
    have l2 := hr2.length
    refine P.add_list (items := vs.toArray) (n := n) ho (items2 := us.toArray) (n2 := k) ho2 ?_ (by simp only [List.size_toArray]; have := LIM_le; lia)
    have e : vs.toArray ++ us.toArray = (vs ++ us).toArray := by simp
    rw [e]
    refine ⟨q₁.trans q₂, _, _, S₂.newCell (cl := .lst (xs ++ ys)) rfl S₂.H (fun g ρ m G gn Hn => ⟨gn, Hn, by simp; lia, vs ++ us, 0, Heap.get?_push_size _ rfl, ?_⟩) tmp (fun p hp => .tail _ (.tail _ hp)), hq⟩
    obtain ⟨ad', vs', n', e1, ho', hr', _⟩ := G.look (G.tmps _ (.tail _ (.head _))) hx
    obtain ⟨bd', us', k', e1', ho2', hr2', _⟩ := G.look (G.tmps _ (.head _)) hy
    cases e1; cases e1'
    have e2 : some (lstO vs' n') = some (lstO vs n) := ho'.symm.trans ho
    have e3 : vs' = vs := lstO_inj e2
    have e4 : some (lstO us' k') = some (lstO us k) := ho2'.symm.trans ho2
    have e5 : us' = us := lstO_inj e4
    subst e3 e5
    exact hr'.append hr2'
  · exact hf₂.elim

theorem tup_add {A : Around} {s : Shared} {l b : Addr} {vs us : List Value} {n k : Nat} {Q : Value → Shared → Prop} (hl : s.heap.get? l = some (tupO vs n)) (hb : s.heap.get? b = some (tupO us k)) (hsz : vs.length + us.length ≤ LIM)
    (h0 : vs = [] → Q (.ref b) s) (h1 : us = [] → Q (.ref l) s) (h2 : Q (.ref s.heap.objs.size) { s with heap := s.heap.push (tupO (vs ++ us) 0) }) : wpAny (model prog w) A (binaryOp .Add (.ref l) (.ref b)) Q NoE s := by
  by_cases hv : vs = []
  · subst hv
    exact concat_meets ⟨_, hl, rfl⟩ ⟨_, hb, rfl⟩ noFill_tuple_add seq_tuple_add F.slot_tuple_add F.entry_tuple_add (F.args_tuple_add_2 _ _) (AutoSeq1.tuple___add___tuple_tuple_0 l _ n b _ k rfl) ⟨hl, hb, h0 rfl⟩
  · have e1 : ¬ vs.toArray.isEmpty = true := by
      cases vs with
      | nil => exact absurd rfl hv
      | cons _ _ => simp
    by_cases hu : us = []
    · subst hu
      exact concat_meets ⟨_, hl, rfl⟩ ⟨_, hb, rfl⟩ noFill_tuple_add seq_tuple_add F.slot_tuple_add F.entry_tuple_add (F.args_tuple_add_2 _ _) (AutoSeq1.tuple___add___tuple_tuple_1 l _ n b _ k e1 rfl) ⟨hl, hb, h1 rfl⟩
    · have e2 : ¬ us.toArray.isEmpty = true := by
        cases us with
        | nil => exact absurd rfl hu
        | cons _ _ => simp
      refine P.add_tuple (items := vs.toArray) (n := n) hl (items2 := us.toArray) (n2 := k) hb e1 e2 ?_ (by simp only [List.size_toArray]; have := LIM_le; lia)
      have e : vs.toArray ++ us.toArray = (vs ++ us).toArray := by simp
      rw [e]; exact h2
end
end Mine
end

section
set_option maxRecDepth 100000
set_option Elab.async false
set_option autoImplicit false
set_option linter.unusedVariables false
namespace Mine
open PySem PySem.Calls

section
variable {prog : Program} {w : World} {B : Heap} {mg mb : Str → Option Value} {x : Sx}

theorem e_tcat {l r : Expr} {pos : Pos} {f g : T RV} (hl : SemE prog w B x l f) (hr : SemE prog w B x r g) : SemE prog w B x (.BinOp l .Add r pos) (tTCat f g) := fun A c ms tmp s Q a ok hi S hf => by
  refine wpAny_BinOp (wpAny_mono (hl A c ms tmp s _ a ok hi S hf) (fun va s₁ h₁ => ?_) fun _ _ e => e)
  obtain ⟨q₁, ra, ms₁, S₁, hf₁⟩ := h₁
  refine wpAny_mono (hr A c ms₁ _ s₁ _ a ok hi S₁ hf₁) (fun vb s₂ h₂ => ?_) fun _ _ e => e
  obtain ⟨q₂, rb, ms₂, S₂, hf₂⟩ := h₂
  obtain ⟨G', ρ, m, X⟩ := S₂
  have tb := X.tmps _ (.head _)
  have ta := X.tmps _ (.tail _ (.head _))
  split at hf₂
  · rename_i xs ys
    obtain ⟨hsz, hq⟩ := hf₂
    obtain ⟨ad, vs, n, rfl, e1, l1, r1⟩ := Rep.tupJ ta
    · obtain ⟨bd, us, k, rfl, e2, l2, r2⟩ := Rep.tupJ tb
      · 
        have k1 := r1.length
        have k2 := r2.length
        have back : ∀ v, Rep G' v (.tup (xs ++ ys)) → PostV c tmp s Q v s₂ := fun v hv => ⟨q₁.trans q₂, _, ms₂, ⟨G', ρ, m, X.withTmp fun p hp => by
          rcases List.mem_cons.mp hp with rfl | hp
          · exact hv
          · exact X.tmps p (.tail _ (.tail _ hp))⟩, hq⟩
        refine tup_add (X.gh _ _ e1) (X.gh _ _ e2) (by lia) (fun e => back _ ?_) (fun e => back _ ?_) ⟨q₁.trans q₂, _, ms₂, ?_, hq⟩
        · have : xs = [] := List.length_eq_zero_iff.mp (by rw [← k1, e]; rfl)
          subst this; exact .tup e2 l2 r2
        · have : ys = [] := List.length_eq_zero_iff.mp (by rw [← k2, e]; rfl)
          subst this; rw [List.append_nil]; exact .tup e1 l1 r1
        · obtain ⟨g', X', hs, e⟩ := X.freeze (o := tupO (vs ++ us) 0) rfl
          refine ⟨g', ρ, m, X'.withTmp fun p hp => ?_⟩
          rcases List.mem_cons.mp hp with rfl | hp
          · exact .tup e (by simp; lia) ((r1.append r2).mono hs)
          · exact X'.tmps p (.tail _ (.tail _ hp))
  · exact hf₂.elim

-- built-in functions
theorem e_min (hB : BaseOk B mg mb) {p pos : Pos} {e1 e2 : Expr} {f g : T RV} (he : SemE prog w B x e1 f) (hst : NoStar e1) (he2 : SemE prog w B x e2 g) (hst2 : NoStar e2)
    (hk : x.sc.names.lookup (Str.ofString "min") = some .globalImplicit) (hm : mg (Str.ofString "min") = none) (hv : mb (Str.ofString "min") = some (.builtin "min")) :
    SemE prog w B x (.Call (.Name (Str.ofString "min") p) [e1, e2] [] pos) (tMin f g) := fun A c ms tmp s Q a ok hi S hf => by
  refine PyProof.Rows.Call_ (load_blt hB ok S (by rw [hi.kindOf]; exact hk) hm hv ?_ (by decide))
  rw [hst, hst2]
  refine callWith_builtin rfl (evalArgs_plain (spliced_cons (wpAny_mono (he A c ms tmp s _ a ok hi S hf) (fun v s₁ h₁ => ?_) fun _ _ e => e)))
  obtain ⟨q₁, r, ms₁, S₁, hf₁⟩ := h₁
  refine spliced_cons (wpAny_mono (he2 A c ms₁ _ s₁ _ a ok hi S₁ hf₁) (fun v2 s₂ h₂ => ?_) fun _ _ e => e)
  obtain ⟨q₂, r2, ms₂, S₂, hf₂⟩ := h₂
  refine spliced_nil ?_
  have S₃ := S₂.pop2
  obtain ⟨G', ρ, m, X⟩ := S₂
  have tb := X.tmps _ (.head _)
  have ta := X.tmps _ (.tail _ (.head _))
  split at hf₂
  · rename_i i j
    obtain ⟨_, rfl⟩ := Rep.intI ta
    obtain ⟨_, rfl⟩ := Rep.intI tb
    refine min_two_ints a.handled fun h' tk hk => ?_
    have S₄ := S₃.ext hk
    by_cases hlt : j < i
    · rw [if_pos hlt] at hf₂ ⊢; exact ⟨q₁.trans q₂, _, ms₂, S₄.int _ _, hf₂⟩
    · rw [if_neg hlt] at hf₂ ⊢; exact ⟨q₁.trans q₂, _, ms₂, S₄.int _ _, hf₂⟩
  · exact hf₂.elim

theorem intsOf_map : ∀ {xs : List D} {ns : List Int}, intsOf xs = some ns → xs = ns.map .int
  | [], ns, h => by cases h; rfl
  | .int i :: r, ns, h => by
    unfold intsOf at h
    cases e : intsOf r with
    | none => rw [e] at h; cases h
    | some ms => rw [e] at h; cases h; rw [intsOf_map e]; rfl
  | .none :: _, _, h => by cases h
  | .bool _ :: _, _, h => by cases h
  | .fn _ :: _, _, h => by cases h
  | .tup _ :: _, _, h => by cases h
  | .lst _ :: _, _, h => by cases h
theorem repL_ints {g : PH} : ∀ {vs : List Value} {ns : List Int}, RepL g vs (ns.map .int) → ∃ ps : List (Int × Tok), vs = ps.map (fun p => Value.int p.1 p.2) ∧ ps.map (·.1) = ns
  | [], [], _ => ⟨[], rfl, rfl⟩
  | v :: vs, n :: ns, h => by
    cases h with
    | cons a b =>
      obtain ⟨ps, e1, e2⟩ := repL_ints b
      cases a
      rename_i t
      exact ⟨(n, t) :: ps, by rw [e1]; rfl, by rw [← e2]; rfl⟩
  | [], _ :: _, h => by cases h
  | _ :: _, [], h => by cases h

theorem preSum_eq (ns : List Int) : ∀ k, k ≤ ns.length → preSum (fun i => ns.getD i 0) k = (ns.take k).sum
  | 0, _ => by simp [preSum]
  | k + 1, h => by
    unfold preSum
    rw [preSum_eq ns k (by lia)]
    have e : ns.getD k 0 = ns[k] := by simp [List.getD, List.getElem?_eq_getElem (show k < ns.length by lia)]
    have e3 : ns.take (k + 1) = ns.take k ++ [ns[k]] := by rw [List.take_add_one, List.getElem?_eq_getElem (show k < ns.length by lia)]; rfl
    rw [e, e3, List.sum_append, List.sum_cons, List.sum_nil, Int.add_zero]

theorem e_sum (hB : BaseOk B mg mb) {p pos : Pos} {e : Expr} {f : T RV} (he : SemE prog w B x e f) (hst : NoStar e) (hk : x.sc.names.lookup (Str.ofString "sum") = some .globalImplicit) (hm : mg (Str.ofString "sum") = none) (hv : mb (Str.ofString "sum") = some (.builtin "sum")) :
    SemE prog w B x (.Call (.Name (Str.ofString "sum") p) [e] [] pos) (tSum f) := fun A c ms tmp s Q a ok hi S hf => by
  refine call_blt1 hB he hst hk hm hv (by decide) a ok hi S hf fun v s₁ r ms₁ q₁ S₁ hf₁ => ?_
  have S₂ := S₁.pop
  obtain ⟨g, ρ, m, G⟩ := S₁
  split at hf₁
  · rename_i xs hx
    obtain ⟨ns, hns, hq⟩ := hf₁
    obtain ⟨ad, vs, n, rfl, ho, hr, hl⟩ := G.look (G.tmps _ (.head _)) hx
    rw [intsOf_map hns] at hr
    obtain ⟨ps, e1, e2⟩ := repL_ints hr
    subst e1
    refine sum_intListG (xs := ps.toArray) a.handled ⟨_, ho, rfl, n, ?_⟩ fun h' tk t' hk => ?_
    · simp [intItems]
    · have e : preSum (numAt ps.toArray) ps.toArray.size = ns.sum := by
        have := preSum_eq ns ns.length (Nat.le_refl _)
        rw [List.take_length] at this
        rw [← this]
        have : numAt ps.toArray = fun i => ns.getD i 0 := by
          funext i
          unfold numAt
          rw [← e2]
          simp only [List.getElem?_toArray, List.getD, List.getElem?_map]
        rw [this, List.size_toArray, ← e2, List.length_map]
      rw [e]
      exact ⟨q₁, _, _, (S₂.ext hk).int _ _, hq⟩
  · exact hf₁.elim

theorem e_intof (hB : BaseOk B mg mb) {p pos : Pos} {e : Expr} {f : T RV} (he : SemE prog w B x e f) (hst : NoStar e) (hk : x.sc.names.lookup (Str.ofString "int") = some .globalImplicit) (hm : mg (Str.ofString "int") = none) (hv : mb (Str.ofString "int") = some (.type "int")) :
    SemE prog w B x (.Call (.Name (Str.ofString "int") p) [e] [] pos) (tIntOf f) := fun A c ms tmp s Q a ok hi S hf => by
  refine PyProof.Rows.Call_ (load_blt hB ok S (by rw [hi.kindOf]; exact hk) hm hv ?_ (by decide))
  rw [hst]
  refine callWith_type rfl (evalArgs_plain (spliced_cons (wpAny_mono (he A c ms tmp s _ a ok hi S hf) (fun v s₁ h₁ => ?_) fun _ _ e => e)))
  obtain ⟨q₁, r, ms₁, S₁, hf₁⟩ := h₁
  refine spliced_nil ?_
  have S₂ := S₁.pop
  obtain ⟨g, ρ, m, G⟩ := S₁
  have t1 := G.tmps _ (.head _)
  split at hf₁
  · obtain ⟨_, rfl⟩ := Rep.intI t1
    exact call_int_int ⟨q₁, _, _, S₂.int _ _, hf₁⟩
  · exact hf₁.elim

/-- a method's call: how it begins -/
theorem meth_run {o : Expr} {name : Str} {apos pos : Pos} {args : List Expr} (hbase : ∀ env, attributeBase o name env (eval o env) = eval o env) (hline : (apos.endLine == pos.line) = true)
    (hfew : ∀ env, methodCallForm (args.length + ([] : List Keyword).length) (backTo pos (starEach args env)) (backToKw pos (keywordEach [] env)) = true)
    {A : Around} {env : Env} {s : Shared} {P : Value → Shared → Prop} {id : String}
    (h : wpAny (model prog w) A (eval o env) (fun ov s₁ => (∀ pl Q', Q' (.builtin id, [ov]) s₁ → wpAny (model prog w) A (getMethod ov name pl) Q' NoE s₁) ∧
      wpAny (model prog w) A (callWith pos (.builtin id) [ov] (backTo pos (starEach args env)) []) P NoE s₁) NoE s) :
    wpAny (model prog w) A (eval (.Call (.Attribute o name apos) args [] pos) env) P NoE s := by
  rw [arm_eval_Call, hbase]
  refine wpAny_bind (wpAny_mono h (fun ov s₁ h₁ => ?_) fun _ _ e => e)
  refine wpAny_bind (wpAny_standAt ?_)
  have hpos : methodCallPos true o env apos pos = pure pos := by unfold methodCallPos; simp [hline]
  unfold methodCall
  rw [hfew]
  refine wpAny_bind (wpAny_holding (h₁.1 _ _ ?_))
  exact wpAny_bind (wpAny_of_eq hpos h₁.2)

theorem e_bitlen {e : Expr} {apos pos : Pos} {f : T RV} (he : SemE prog w B x e f) (hbase : ∀ env, attributeBase e (Str.ofString "bit_length") env (eval e env) = eval e env) (hline : (apos.endLine == pos.line) = true) :
    SemE prog w B x (.Call (.Attribute e (Str.ofString "bit_length") apos) [] [] pos) (tBitLen f) := fun A c ms tmp s Q a ok hi S hf => by
  refine meth_run (id := "int.bit_length") hbase hline (fun _ => rfl) (wpAny_mono (he A c ms tmp s _ a ok hi S hf) (fun v s₁ h₁ => ?_) fun _ _ e => e)
  obtain ⟨q₁, r, ms₁, S₁, hf₁⟩ := h₁
  have S₂ := S₁.pop
  obtain ⟨g, ρ, m, G⟩ := S₁
  have t1 := G.tmps _ (.head _)
  split at hf₁
  · rename_i i
    obtain ⟨_, rfl⟩ := Rep.intI t1
    obtain ⟨h0, hq⟩ := hf₁
    refine ⟨fun pl Q' h => PyProof.Rows.getMethod_int_bit_length h, callWith_builtin rfl (PyProof.Rows.evalArgs_nil3 (PyProof.Rows.call_int_bit_length ⟨q₁, _, ms₁, S₂.int _ _, ?_⟩))⟩
    have : (Builtin.Int.intBits i : Int) = (i.toNat.log2 : Int) + 1 := by
      unfold Builtin.Int.intBits
      have : (i == 0) = false := by simp; lia
      rw [this]
      have : i.natAbs = i.toNat := by lia
      rw [this]; simp
    rw [this]; exact hq
  · exact hf₁.elim

-- tests
noncomputable def SemB' (prog : Program) (w : World) (B : Heap) (x : Sx) (e : Expr) (f : T Bool) : Prop := ∀ A c ms tmp s Q, AOk A x.k → c.Ok B → c.Is x → St c ms tmp s.heap → f ms Q →
  wpAny (model prog w) A (eval e c.env) (fun v s' => ∃ b, v = .bool b ∧ PostB c tmp s Q b s') NoE s

noncomputable def CmpOk (prog : Program) (w : World) (B : Heap) (x : Sx) (op : CmpOp) (F : RV → RV → (Bool → Prop) → Prop) : Prop := ∀ A c ms tmp s (Q : Bool → MS → Prop) va vb ra rb, AOk A x.k → c.Ok B → c.Is x → St c ms ((vb, rb) :: (va, ra) :: tmp) s.heap → F ra rb (fun v => Q v ms) →
  wpAny (model prog w) A (compareOp op va vb) (fun v s' => ∃ b, v = .bool b ∧ PostB c tmp s Q b s') NoE s

theorem PostB.trans {c : Cx} {tmp : List (Value × RV)} {s s₁ s' : Shared} {Q : Bool → MS → Prop} {b : Bool} (q : Same s s₁) (h : PostB c tmp s₁ Q b s') : PostB c tmp s Q b s' := let ⟨a, b, c, d⟩ := h; ⟨q.trans a, b, c, d⟩

theorem bv_cmp {op : CmpOp} {l r : Expr} {pos : Pos} {f g : T RV} {F : RV → RV → (Bool → Prop) → Prop} (hl : SemE prog w B x l f) (hr : SemE prog w B x r g) (hm : behindInMarks op r = false) (hF : CmpOk prog w B x op F) :
    SemB' prog w B x (.Compare l [op] [r] pos) (fun ms Q => f ms fun a ms1 => g ms1 fun b ms2 => F a b fun v => Q v ms2) := fun A c ms tmp s Q a ok hi S hf => by
  refine wpAny_Compare1 (wpAny_mono (hl A c ms tmp s _ a ok hi S hf) (fun va s₁ h₁ => ?_) fun _ _ e => e) hm
  obtain ⟨q₁, ra, ms₁, S₁, hf₁⟩ := h₁
  refine wpAny_mono (hr A c ms₁ _ s₁ _ a ok hi S₁ hf₁) (fun vb s₂ h₂ => ?_) fun _ _ e => e
  obtain ⟨q₂, rb, ms₂, S₂, hf₂⟩ := h₂
  exact wpAny_mono (hF A c ms₂ tmp s₂ Q va vb ra rb a ok hi S₂ hf₂) (fun v s₃ ⟨b, e, h⟩ => ⟨b, e, h.trans (q₁.trans q₂)⟩) fun _ _ e => e
theorem b_cmp {op : CmpOp} {l r : Expr} {pos : Pos} {f g : T RV} {F : RV → RV → (Bool → Prop) → Prop} (hl : SemE prog w B x l f) (hr : SemE prog w B x r g) (hm : behindInMarks op r = false) (hF : CmpOk prog w B x op F) :
    SemB prog w B x (.Compare l [op] [r] pos) (fun ms Q => f ms fun a ms1 => g ms1 fun b ms2 => F a b fun v => Q v ms2) := fun A c ms tmp s Q a ok hi S hf => by
  refine wpAny_isTrue_Compare1 (wpAny_mono (hl A c ms tmp s _ a ok hi S hf) (fun va s₁ h₁ => ?_) fun _ _ e => e) hm
  obtain ⟨q₁, ra, ms₁, S₁, hf₁⟩ := h₁
  refine wpAny_mono (hr A c ms₁ _ s₁ _ a ok hi S₁ hf₁) (fun vb s₂ h₂ => ?_) fun _ _ e => e
  obtain ⟨q₂, rb, ms₂, S₂, hf₂⟩ := h₂
  refine wpAny_mono (hF A c ms₂ tmp s₂ Q va vb ra rb a ok hi S₂ hf₂) (fun v s₃ ⟨b, e, h⟩ => ?_) fun _ _ e => e
  subst e
  exact wpAny_truthy_bool (h.trans (q₁.trans q₂))
theorem e_boolv {e : Expr} {f : T Bool} (h : SemB' prog w B x e f) : SemE prog w B x e (tBoolV f) := fun A c ms tmp s Q a ok hi S hf =>
  wpAny_mono (h A c ms tmp s _ a ok hi S hf) (fun v s₁ ⟨b, e, q, ms₁, S₁, hq⟩ => e ▸ ⟨q, _, ms₁, S₁.bool b, hq⟩) fun _ _ e => e

noncomputable def cmpOf : Cmp → CmpOp
  | .eq => .Eq | .ne => .NotEq | .lt => .Lt | .le => .LtE | .gt => .Gt | .ge => .GtE
theorem cmp_int (op : Cmp) : CmpOk prog w B x (cmpOf op) (evCmp op) := fun A c ms tmp s Q va vb ra rb a ok hi S hf => by
  have S₂ := S.pop2
  obtain ⟨g, ρ, m, G⟩ := S
  have tb := G.tmps _ (.head _)
  have ta := G.tmps _ (.tail _ (.head _))
  unfold evCmp at hf
  split at hf
  · rename_i i j
    obtain ⟨_, rfl⟩ := Rep.intI ta
    obtain ⟨_, rfl⟩ := Rep.intI tb
    have fin : ∀ b, b = op.ev i j → ∃ b', Value.bool b = .bool b' ∧ PostB c tmp s Q b' s := fun b e => ⟨b, rfl, Same.refl _, ms, S₂, e ▸ hf⟩
    cases op with
    | eq => exact PyProof.Rows.eq_int (fin _ (by simp [Cmp.ev]; rfl))
    | ne => exact PyProof.Rows.ne_int (fin _ (by simp [Cmp.ev, bne]; rfl))
    | lt => exact PyProof.Rows.lt_int (fin _ rfl)
    | le => exact PyProof.Rows.le_int (fin _ rfl)
    | gt => exact PyProof.Rows.gt_int (fin _ rfl)
    | ge => exact PyProof.Rows.ge_int (fin _ rfl)
  · exact hf.elim
theorem cmp_eqb : CmpOk prog w B x .Eq (evEqB false) := fun A c ms tmp s Q va vb ra rb a ok hi S hf => by
  have S₂ := S.pop2
  obtain ⟨g, ρ, m, G⟩ := S
  have tb := G.tmps _ (.head _)
  have ta := G.tmps _ (.tail _ (.head _))
  unfold evEqB at hf
  split at hf
  · obtain rfl := Rep.boolI ta
    obtain rfl := Rep.boolI tb
    exact PyProof.Rows.eq_bool ⟨_, rfl, Same.refl _, ms, S₂, hf⟩
  · exact hf.elim
theorem cmp_neb : CmpOk prog w B x .NotEq (evEqB true) := fun A c ms tmp s Q va vb ra rb a ok hi S hf => by
  have S₂ := S.pop2
  obtain ⟨g, ρ, m, G⟩ := S
  have tb := G.tmps _ (.head _)
  have ta := G.tmps _ (.tail _ (.head _))
  unfold evEqB at hf
  split at hf
  · obtain rfl := Rep.boolI ta
    obtain rfl := Rep.boolI tb
    exact PyProof.Rows.ne_bool ⟨_, rfl, Same.refl _, ms, S₂, hf⟩
  · exact hf.elim

theorem readsAll_ints {h : Heap} : ∀ (ps : List (Int × Tok)), ∃ as, ReadsAll h (ps.map (fun p => Value.int p.1 p.2)) ((ps.map (·.1)).map PyData.int) as
  | [] => ⟨[], .nil⟩
  | p :: ps => let ⟨as, h⟩ := readsAll_ints ps; ⟨[] ++ as, .cons (.int _ _) h⟩
theorem canLay_ints : ∀ ns : List Int, PyData.canLayAll0 (ns.map PyData.int) = true
  | [] => rfl
  | _ :: r => by simp [PyData.canLayAll0, PyData.canLay0, canLay_ints r]
theorem depth_ints : ∀ ns : List Int, PyData.depthAll (ns.map PyData.int) = 0
  | [] => rfl
  | _ :: r => by simp [PyData.depthAll, PyData.depth, depth_ints r]
theorem eqv_ints : ∀ ns ms : List Int, PyData.eqvAll (ns.map PyData.int) (ms.map PyData.int) = true ↔ ns = ms
  | [], [] => by simp [PyData.eqvAll]
  | [], _ :: _ => by simp [PyData.eqvAll]
  | _ :: _, [] => by simp [PyData.eqvAll]
  | a :: r, b :: t => by simp [PyData.eqvAll, PyData.eqv, eqv_ints r t]

theorem map_int_inj {ns ms : List Int} (e : ns.map D.int = ms.map D.int) : ns = ms := by
  induction ns generalizing ms with
  | nil => cases ms with | nil => rfl | cons _ _ => cases e
  | cons a r ih => cases ms with
    | nil => cases e
    | cons b t => simp at e; rw [e.1, ih e.2]

theorem RepL.nilI {g : PH} {vs : List Value} (r : RepL g vs []) : vs = [] := by
  cases r; rfl
theorem RepL.consI {g : PH} {vs : List Value} {d : D} {ds : List D} (r : RepL g vs (d :: ds)) : ∃ v us, vs = v :: us ∧ Rep g v d ∧ RepL g us ds := by
  cases r with | cons a b => exact ⟨_, _, rfl, a, b⟩
theorem RepL.two {g : PH} {vs : List Value} {d e : D} (r : RepL g vs [d, e]) : ∃ u v, vs = [u, v] ∧ Rep g u d ∧ Rep g v e := by
  obtain ⟨u, us, rfl, h1, h2⟩ := r.consI
  obtain ⟨v, us, rfl, h3, h4⟩ := h2.consI
  exact ⟨u, v, by rw [h4.nilI], h1, h3⟩

theorem alike_reads {g : PH} {h : Heap} (gh : ∀ a o, g a = some o → h.get? a = some o) {n : Nat} {d d' : D} (al : Alike n d d') : ∀ {v v' : Value}, Rep g v d → Rep g v' d' →
    ∃ p p' as as', Reads h v p as ∧ Reads h v' p' as' ∧ p.canLay0 = true ∧ p'.canLay0 = true ∧ p.depth ≤ n ∧ p'.depth ≤ n ∧ (PyData.eqv p p' = true ↔ d = d') := by
  induction al with
  | bool n a b =>
    intro v v' r r'
    rw [r.boolI, r'.boolI]
    exact ⟨.bool a, .bool b, [], [], .bool _, .bool _, rfl, rfl, Nat.zero_le _, Nat.zero_le _, by simp [PyData.eqv]⟩
  | lst n xs ys =>
    intro v v' r r'
    obtain ⟨a, vs, k, rfl, e, _, r⟩ := r.lstJ
    obtain ⟨a', vs', k', rfl, e', _, r'⟩ := r'.lstJ
    obtain ⟨ps, e1, e2⟩ := repL_ints r
    obtain ⟨ps', e1', e2'⟩ := repL_ints r'
    subst e1 e2 e1' e2'
    obtain ⟨as, h1⟩ := readsAll_ints (h := h) ps
    obtain ⟨as', h1'⟩ := readsAll_ints (h := h) ps'
    have dp : ∀ ps : List Int, PyData.depthAll (ps.map PyData.int) + 1 ≤ n + 1 := fun ps => by rw [depth_ints ps]; exact Nat.le_add_left _ _
    refine ⟨.list _, .list _, _, _, .list (gh _ _ e) rfl rfl h1, .list (gh _ _ e') rfl rfl h1', canLay_ints _, canLay_ints _, dp _, dp _, ?_⟩
    rw [PyData.eqv, eqv_ints]
    exact ⟨fun q => by rw [q], fun q => map_int_inj (by injection q)⟩
  | tup2 _ _ ih ih2 =>
    intro v v' r r'
    obtain ⟨a, vs, k, rfl, e, _, r⟩ := r.tupJ
    obtain ⟨a', vs', k', rfl, e', _, r'⟩ := r'.tupJ
    obtain ⟨x1, x2, rfl, r1, r2⟩ := r.two
    obtain ⟨y1, y2, rfl, s1, s2⟩ := r'.two
    obtain ⟨p, p', as, as', h1, h2, h3, h4, h5, h6, h7⟩ := ih r1 s1
    obtain ⟨u, u', bs, bs', k1, k2, k3, k4, k5, k6, k7⟩ := ih2 r2 s2
    have cl : ∀ p u : PyData, p.canLay0 = true → u.canLay0 = true → (PyData.tuple [p, u]).canLay0 = true := fun p u h k => by simp [PyData.canLay0, PyData.canLayAll0, h, k]
    have dp : ∀ (n : Nat) (p u : PyData), p.depth ≤ n → u.depth ≤ n → (PyData.tuple [p, u]).depth ≤ n + 1 := fun n p u h k => by simp [PyData.depth, PyData.depthAll]; lia
    exact ⟨.tuple [p, u], .tuple [p', u'], _, _, .tuple (gh _ _ e) rfl rfl (.cons h1 (.cons k1 .nil)), .tuple (gh _ _ e') rfl rfl (.cons h2 (.cons k2 .nil)), cl _ _ h3 k3, cl _ _ h4 k4, dp _ _ _ h5 k5, dp _ _ _ h6 k6, by simp [PyData.eqv, PyData.eqvAll, h7, k7]⟩

theorem cmp_ne : CmpOk prog w B x .NotEq evNe := fun A c ms tmp s Q va vb ra rb a ok hi S hf => by
  have S₂ := S.pop2
  obtain ⟨g, ρ, m, G⟩ := S
  have tb := G.tmps _ (.head _)
  have ta := G.tmps _ (.tail _ (.head _))
  unfold evNe at hf
  split at hf
  · obtain ⟨al, hq⟩ := hf
    obtain ⟨p, p', as, as', h1, h2, h3, h4, h5, h6, h7⟩ := alike_reads G.gh al ta tb
    have u := a.units
    refine PyProof.Rows.ne_dataH h1 h2 (by unfold SeqAt.shaped; rw [h3, decide_eq_true (by lia)]; rfl) (by unfold SeqAt.shaped; rw [h4, decide_eq_true (by lia)]; rfl) (by lia) ⟨_, rfl, Same.refl _, ms, S₂, hq _ ?_⟩
    rw [Bool.not_eq_true', ← Bool.not_eq_true, h7]
  · exact hf.elim
theorem any_ints (i : Int) : ∀ ns : List Int, ((ns.map PyData.int).any fun y => PyData.eqv y (.int i)) = decide (i ∈ ns)
  | [] => by simp
  | n :: r => by
    rw [List.map_cons, List.any_cons, any_ints i r]
    by_cases h : n = i
    · subst h; simp [PyData.eqv]
    · have h' : ¬ i = n := fun e => h e.symm
      simp [PyData.eqv, h, h']
theorem cmp_notin : CmpOk prog w B x .NotIn evNotIn := fun A c ms tmp s Q va vb ra rb a ok hi S hf => by
  have S₂ := S.pop2
  obtain ⟨g, ρ, m, G⟩ := S
  have tb := G.tmps _ (.head _)
  have ta := G.tmps _ (.tail _ (.head _))
  unfold evNotIn at hf
  split at hf
  · rename_i i ys
    obtain ⟨ns, hns, hq⟩ := hf
    obtain ⟨_, rfl⟩ := Rep.intI ta
    obtain ⟨_, _, _, rfl, e, _, r⟩ := Rep.tupJ tb
    · rw [intsOf_map hns] at r
      obtain ⟨ps, e1, e2⟩ := repL_ints r
      subst e1 e2
      obtain ⟨as, h1⟩ := readsAll_ints (h := s.heap) ps
      have u := a.units
      refine SeqAt.notIn_tuple_reads (.tuple (G.gh _ _ e) rfl rfl h1) (.int i _) (canLay_ints _) rfl (by rw [depth_ints]; show A.units + 1 + min 0 _ < _; rw [Nat.zero_min]; lia) ⟨_, rfl, Same.refl _, ms, S₂, ?_⟩
      have : (!((ps.map (·.1)).map PyData.int).any fun y => PyData.eqv y (.int i)) = decide (i ∉ ps.map (·.1)) := by
        rw [any_ints, decide_not]
      rw [this]; exact hq
  · exact hf.elim

noncomputable def PlainTest (e : Expr) : Prop := ∀ env (whole : Sem Value), isTrue e env whole = (do let v ← whole; standAt e.pos; holding [v] (truthy v))
theorem b_truth {e : Expr} {f : T RV} (he : SemE prog w B x e f) (hp : PlainTest e) : SemB prog w B x e (tTruth f) := fun A c ms tmp s Q a ok hi S hf => by
  refine PyProof.Rows.isTrue_plain (wpAny_mono (he A c ms tmp s _ a ok hi S hf) (fun v s₁ h₁ => ?_) fun _ _ e => e) (hp _ _)
  obtain ⟨q₁, r, ms₁, S₁, hf₁⟩ := h₁
  have S₂ := S₁.pop
  obtain ⟨g, ρ, m, G⟩ := S₁
  have t1 := G.tmps _ (.head _)
  split at hf₁
  · obtain rfl := Rep.boolI t1
    exact wpAny_truthy_bool ⟨q₁, ms₁, S₂, hf₁⟩
  · exact hf₁.elim
theorem b_not {e : Expr} {pos : Pos} {f : T Bool} (he : SemB prog w B x e f) : SemB prog w B x (.UnaryOp .Not e pos) (tNot f) := fun A c ms tmp s Q a ok hi S hf => by
  refine PyProof.Rows.isTrue_not (wpAny_mono (he A c ms tmp s _ a ok hi S hf) (fun b s₁ h₁ => let ⟨q, ms', S, hf⟩ := h₁; ⟨q, ms', S, hf⟩) fun _ _ e => e)
theorem bv_not {e : Expr} {pos : Pos} {f : T RV} (he : SemE prog w B x e f) : SemB' prog w B x (.UnaryOp .Not e pos) (tNot (tTruth f)) := fun A c ms tmp s Q a ok hi S hf => by
  refine PyProof.Rows.UnaryOp_ (wpAny_mono (he A c ms tmp s _ a ok hi S hf) (fun v s₁ h₁ => ?_) fun _ _ e => e)
  obtain ⟨q₁, r, ms₁, S₁, hf₁⟩ := h₁
  have S₂ := S₁.pop
  obtain ⟨g, ρ, m, G⟩ := S₁
  have t1 := G.tmps _ (.head _)
  split at hf₁
  · obtain rfl := Rep.boolI t1
    exact PyProof.Rows.not_of (wpAny_truthy_bool ⟨_, rfl, q₁, ms₁, S₂, hf₁⟩)
  · exact hf₁.elim
theorem b_and {e1 e2 : Expr} {pos : Pos} {f g : T Bool} (h1 : SemB prog w B x e1 f) (h2 : SemB prog w B x e2 g) : SemB prog w B x (.BoolOp .And [e1, e2] pos) (tAnd f g) := fun A c ms tmp s Q a ok hi S hf => by
  refine PyProof.Rows.isTrue_and (wpAny_mono (h1 A c ms tmp s _ a ok hi S hf) (fun b s₁ h₁ => ?_) fun _ _ e => e)
  obtain ⟨q₁, ms₁, S₁, hf₁⟩ := h₁
  cases b with
  | false => exact ⟨q₁, ms₁, S₁, hf₁⟩
  | true =>
    refine PyProof.Rows.isTrue_and (wpAny_mono (h2 A c ms₁ tmp s₁ _ a ok hi S₁ hf₁) (fun b s₂ h₂ => ?_) fun _ _ e => e)
    cases b with
    | false => exact h₂.trans q₁
    | true => exact PyProof.Rows.isTrue_and_nil (h₂.trans q₁)
theorem bv_and {e1 e2 : Expr} {pos : Pos} {f : T RV} {g : T Bool} (h1 : SemE prog w B x e1 f) (h2 : SemB' prog w B x e2 g) : SemB' prog w B x (.BoolOp .And [e1, e2] pos) (tAnd (tTruth f) g) := fun A c ms tmp s Q a ok hi S hf => by
  refine PyProof.Rows.BoolOp_and (wpAny_mono (h1 A c ms tmp s _ a ok hi S hf) (fun v s₁ h₁ => ?_) fun _ _ e => e)
  obtain ⟨q₁, r, ms₁, S₁, hf₁⟩ := h₁
  have S₂ := S₁.pop
  obtain ⟨g', ρ, m, G⟩ := S₁
  have t1 := G.tmps _ (.head _)
  split at hf₁
  · rename_i b
    obtain rfl := Rep.boolI t1
    refine wpAny_truthy_bool ?_
    cases b with
    | false => exact ⟨false, rfl, q₁, ms₁, S₂, hf₁⟩
    | true =>
      refine PyProof.Rows.BoolOp_one (wpAny_mono (h2 A c ms₁ tmp s₁ _ a ok hi S₂ hf₁) (fun v s₂ h₂ => ?_) fun _ _ e => e)
      obtain ⟨b, e, h⟩ := h₂
      exact ⟨b, e, h.trans q₁⟩
  · exact hf₁.elim
theorem PostV.trans {c : Cx} {tmp : List (Value × RV)} {s s₁ s' : Shared} {Q : RV → MS → Prop} {v : Value} (q : Same s s₁) (h : PostV c tmp s₁ Q v s') : PostV c tmp s Q v s' := let ⟨a, b, c, d, e⟩ := h; ⟨q.trans a, b, c, d, e⟩
theorem e_ife {t b o : Expr} {pos : Pos} {f : T Bool} {g k : T RV} (h1 : SemB prog w B x t f) (h2 : SemE prog w B x b g) (h3 : SemE prog w B x o k) : SemE prog w B x (.IfExp t b o pos) (tIfE f g k) := fun A c ms tmp s Q a ok hi S hf => by
  refine PyProof.Rows.IfExp_ (wpAny_mono (h1 A c ms tmp s _ a ok hi S hf) (fun v s₁ h₁ => ?_) fun _ _ e => e)
  obtain ⟨q₁, ms₁, S₁, hf₁⟩ := h₁
  cases v with
  | true => exact wpAny_mono (h2 A c ms₁ tmp s₁ _ a ok hi S₁ hf₁) (fun _ _ h => h.trans q₁) fun _ _ e => e
  | false => exact wpAny_mono (h3 A c ms₁ tmp s₁ _ a ok hi S₁ hf₁) (fun _ _ h => h.trans q₁) fun _ _ e => e
end
end Mine
end

section
set_option maxRecDepth 100000
set_option Elab.async false
set_option autoImplicit false
set_option linter.unusedVariables false
namespace Mine
open PySem PySem.Calls

section
variable {prog : Program} {w : World} {B : Heap} {mg mb : Str → Option Value} {x : Sx}

theorem lookup_none {l : List (Str × Addr)} {n : Str} (h : n ∉ l.map (·.1)) : l.lookup n = none := by
  induction l with
  | nil => rfl
  | cons p l ih =>
    simp only [List.map_cons, List.mem_cons, not_or] at h
    rw [List.lookup_cons]
    have : (n == p.1) = false := beq_eq_false_iff_ne.mpr h.1
    rw [this]; exact ih h.2

theorem get_set {fr : List (Option RV)} {i j : Nat} {r r' : RV} (e : (fr.set i (some r))[j]? = some (some r')) : (j = i ∧ r' = r) ∨ (j ≠ i ∧ fr[j]? = some (some r')) := by
  rw [List.getElem?_set] at e
  split at e
  · rename_i q
    split at e
    · exact .inl ⟨q.symm, by cases e; rfl⟩
    · cases e
  · rename_i q; exact .inr ⟨fun z => q z.symm, e⟩

/-- something that only names see is written -/
theorem SG.at1 {c : Cx} {ms : MS} {tmp : List (Value × RV)} {h h' : Heap} {g : PH} {ρ : List Addr} {m m' : Str → Option Value} {fr' : List (Option RV)} (S : SG c ms tmp h g ρ m) {b : Addr} (hs : Heap.SameBut b h h')
    (hg : g b = none) (hH : c.H b = none) (hρ : b ∉ ρ) (hp : ¬ c.priv b) (hns : h'.Ns c.env.locals m') (hvc : ∀ a ∈ c.vc, ∃ v₀, h'.IsCell a v₀)
    (hsl : ∀ (i : Nat) x r, c.names[i]? = some x → fr'[i]? = some (some r) → ∃ v, LocIs c m' h' x v ∧ RVRep g ρ v r) : SG c ⟨fr', ms.cs⟩ tmp h' g ρ m' where
  keepH a o e := hs.extBut a o (fun q => by rw [q, hH] at e; cases e) (S.keepH a o e)
  gh a o e := hs.extBut a o (fun q => by rw [q, hg] at e; cases e) (S.gh a o e)
  g0 := S.g0
  fresh := S.fresh
  ns := hns
  gL := S.gL
  Lρ := S.Lρ
  vcg a ha := ⟨(S.vcg a ha).1, (S.vcg a ha).2.1, hvc a ha⟩
  privg a ha := ⟨(S.privg a ha).1, (S.privg a ha).2.1, let ⟨o, e⟩ := (S.privg a ha).2.2; ⟨o, hs.extBut a o (fun q => hp (q ▸ ha)) e⟩⟩
  len := S.len
  nodup := S.nodup
  ex a ha := let ⟨o, e⟩ := S.ex a ha; ⟨o, hs.extBut a o (fun q => hρ (q ▸ ha)) e⟩
  cells i cl a e1 e2 := (S.cells i cl a e1 e2).keeps fun o e => hs.extBut a o (fun q => hρ (q ▸ List.mem_of_getElem? e2)) e
  own := S.own
  slots := hsl
  tmps := S.tmps
  nL := S.nL
  par := S.par

theorem names_ne {c : Cx} (hnd : c.names.Nodup) {i j : Nat} {n y : Str} (hi : c.names[i]? = some n) (hj : c.names[j]? = some y) (h : j ≠ i) : y ≠ n := fun e => by
  subst e
  obtain ⟨l1, h1⟩ := List.getElem?_eq_some_iff.mp hi
  obtain ⟨l2, h2⟩ := List.getElem?_eq_some_iff.mp hj
  exact h ((List.getElem_inj hnd).mp (h2.trans h1.symm))

theorem SG.privL {c : Cx} {ms : MS} {tmp : List (Value × RV)} {h : Heap} {g : PH} {ρ : List Addr} {m : Str → Option Value} (ok : c.Ok B) (S : SG c ms tmp h g ρ m) : ¬ c.priv c.env.locals := fun q => by
  obtain ⟨o, e⟩ := ok.privO _ q
  rw [ok.HL] at e; cases e

theorem store_var {A : Around} {c : Cx} {ms : MS} {tmp : List (Value × RV)} {s : Shared} {i : Nat} {n : Str} {v : Value} {r : RV} (ok : c.Ok B) (hi : c.Is x) (hn : x.nm[i]? = some n) (hs : n ∉ x.cn ∨ x.own = true)
    (S : St c ms ((v, r) :: tmp) s.heap) : wpAny (model prog w) A (storeName c.env n v) (fun _ s' => Same s s' ∧ St c (ms.set i r) tmp s'.heap) NoE s := by
  have hn : c.names[i]? = some n := hi.nm ▸ hn
  have hk := ok.kinds i n hn
  obtain ⟨g, ρ, m, G⟩ := S
  have hv := G.tmps _ (.head _)
  have G := G.withTmp fun p hp => G.tmps p (.tail _ hp)
  cases e : c.env.cells.lookup n with
  | none =>
    rw [e] at hk
    refine wpAny_storeName_local hk G.ns (fun h' hns hsb => ⟨Same.refl _, g, ρ, _, G.at1 hsb G.gL ok.HL G.Lρ (G.privL ok) hns (fun a ha => ?_) fun j y r' hj hr' => ?_⟩) (by rw [ok.kind]; rfl)
    · obtain ⟨v₀, q⟩ := (G.vcg a ha).2.2
      exact ⟨v₀, q.sameBut hsb (ok.vcH a ha).2⟩
    · rcases get_set hr' with ⟨rfl, rfl⟩ | ⟨hne, hr'⟩
      · rw [hn] at hj; cases hj
        refine ⟨v, ?_, hv⟩
        unfold LocIs; rw [e]; simp
      · obtain ⟨u, l, q⟩ := G.slots j y r' hj hr'
        refine ⟨u, ?_, q⟩
        have hy := names_ne ok.names hn hj hne
        unfold LocIs at l ⊢
        cases e' : c.env.cells.lookup y with
        | none => rw [e'] at l; simp [hy]; exact l
        | some ca =>
          rw [e'] at l
          refine Heap.IsCell.sameBut l hsb fun q => ?_
          rcases ok.cellH y ca e' with z | ⟨o, z⟩
          · exact (ok.vcH ca z).2 q
          · rw [q, ok.HL] at z; cases z
  | some ca =>
    rw [e] at hk
    have hvc : ca ∈ c.vc := by
      rcases hs with hs | hs
      · rw [lookup_none (by rw [hi.cn]; exact hs)] at e; cases e
      · exact hi.own hs n ca e
    obtain ⟨hg, hρ, v₀, hc⟩ := G.vcg ca hvc
    have hp : ¬ c.priv ca := fun q => by
      obtain ⟨o, e⟩ := ok.privO _ q
      rw [(ok.vcH ca hvc).1] at e; cases e
    refine wpAny_storeName_cell ok.kind hk e hc (fun h' hc' hsb => ⟨Same.refl _, g, ρ, m, G.at1 hsb hg (ok.vcH ca hvc).1 hρ hp (G.ns.sameBut hsb (Ne.symm (ok.vcH ca hvc).2)) (fun a ha => ?_) fun j y r' hj hr' => ?_⟩)
    · by_cases q : a = ca
      · subst q; exact ⟨_, hc'⟩
      · obtain ⟨v₀, z⟩ := (G.vcg a ha).2.2
        exact ⟨v₀, z.sameBut hsb q⟩
    · rcases get_set hr' with ⟨rfl, rfl⟩ | ⟨hne, hr'⟩
      · rw [hn] at hj; cases hj
        refine ⟨v, ?_, hv⟩
        unfold LocIs; rw [e]; exact hc'
      · obtain ⟨u, l, q⟩ := G.slots j y r' hj hr'
        refine ⟨u, ?_, q⟩
        have hy := names_ne ok.names hn hj hne
        unfold LocIs at l ⊢
        cases e' : c.env.cells.lookup y with
        | none => rw [e'] at l; exact l
        | some cb =>
          rw [e'] at l
          exact Heap.IsCell.sameBut l hsb fun q => hy (ok.inj y n cb e' (q ▸ e) (q ▸ hvc))

-- statements
theorem PostF.trans {c : Cx} {tmp : List (Value × RV)} {s s₁ s' : Shared} {Q : Fl → MS → Prop} {f : Flow} (q : Same s s₁) (h : PostF c tmp s₁ Q f s') : PostF c tmp s Q f s' := ⟨q.trans h.1, h.2⟩

theorem s_asg {i : Nat} {n : Str} {p pos : Pos} {e : Expr} {f : T RV} (he : SemE prog w B x e f) (hn : x.nm[i]? = some n) (hs : n ∉ x.cn ∨ x.own = true) (hsw : ∀ env line, swapsWith e (some (.Name n p)) line env = pure false) :
    SemS prog w B x (.Assign [.Name n p] e pos) (tAsg i f) := fun A c ms tmp s Q a ok hi S hf => by
  refine wpAny_Assign_Name (wpAny_mono (he A c ms tmp s _ a ok hi S hf) (fun v s₁ h₁ => ?_) fun _ _ e => e) (hsw _ _)
  obtain ⟨q₁, r, ms₁, S₁, hf₁⟩ := h₁
  exact wpAny_mono (store_var ok hi hn hs S₁) (fun _ s₂ h₂ => ⟨q₁.trans h₂.1, _, h₂.2, hf₁⟩) fun _ _ e => e

theorem s_aug {i : Nat} {n : Str} {p pos : Pos} {op : Op} {e : Expr} {f : T RV} (he : SemE prog w B x e f) (hn : x.nm[i]? = some n) (hs : n ∉ x.cn ∨ x.own = true) (hop : op = .add ∨ op = .sub ∨ op = .mod ∨ op = .shr ∨ op = .bor) :
    SemS prog w B x (.AugAssign (.Name n p) (opOf op) e pos) (tAug i op f) := fun A c ms tmp s Q a ok hi S hf => by
  unfold tAug at hf
  split at hf
  · rename_i r hr
    refine wpAny_AugAssign_Name (load_var ok S (hi.nm ▸ hn) hr fun v S' => ?_)
    refine wpAny_mono (he A c ms _ s _ a ok hi S' hf) (fun vb s₂ h₂ => ?_) fun _ _ e => e
    obtain ⟨q₂, rb, ms₂, S₂, hf₂⟩ := h₂
    have S₃ := S₂.pop2
    obtain ⟨G, ρ, m, X⟩ := S₂
    have t1 := X.tmps _ (.head _)
    have t2 := X.tmps _ (.tail _ (.head _))
    unfold evBin at hf₂
    split at hf₂
    · obtain ⟨ho, hf₂⟩ := hf₂
      cases t1; cases t2
      refine iop_int op a hop ho fun t' => ?_
      exact wpAny_mono (store_var (s := { s₂ with toks := s₂.toks + 1 }) ok hi hn hs (S₃.int _ _)) (fun _ s₃ h₃ => ⟨q₂.trans h₃.1, _, h₃.2, hf₂⟩) fun _ _ e => e
    · exact hf₂.elim
  · exact hf.elim

theorem ss_nil : SemSs prog w B x [] tNext := fun A c ms tmp s Q a ok hi S hf => wpAny_execs_nil ⟨Same.refl _, ms, S, hf⟩
theorem ss_cons {st : Stmt} {rest : List Stmt} {f g : T Fl} (h1 : SemS prog w B x st f) (h2 : SemSs prog w B x rest g) : SemSs prog w B x (st :: rest) (tSeq f g) := fun A c ms tmp s Q a ok hi S hf => by
  refine wpAny_execs_cons (wpAny_mono (h1 A c ms tmp s _ a ok hi S hf) (fun fl s₁ h₁ => ?_) fun _ _ e => e)
  obtain ⟨q₁, h₁⟩ := h₁
  cases fl with
  | next =>
    obtain ⟨ms₁, S₁, hf₁⟩ := h₁
    exact wpAny_mono (h2 A c ms₁ tmp s₁ _ a ok hi S₁ hf₁) (fun _ _ h => h.trans q₁) fun _ _ e => e
  | ret v => exact ⟨q₁, h₁⟩
  | brk => exact h₁.elim
  | cont => exact h₁.elim
theorem ss_seqs_nil : SemSs prog w B x [] (tSeqs []) := ss_nil
theorem ss_seqs {st : Stmt} {rest : List Stmt} {f : T Fl} {fs : List (T Fl)} (h1 : SemS prog w B x st f) (h2 : SemSs prog w B x rest (tSeqs fs)) : SemSs prog w B x (st :: rest) (tSeqs (f :: fs)) := ss_cons h1 h2

theorem s_if {t : Expr} {b o : List Stmt} {pos : Pos} {f : T Bool} {g k : T Fl} (h1 : SemB prog w B x t f) (h2 : SemSs prog w B x b g) (h3 : SemSs prog w B x o k) : SemS prog w B x (.If t b o pos) (tIf f g k) := fun A c ms tmp s Q a ok hi S hf => by
  refine wpAny_If (wpAny_mono (h1 A c ms tmp s _ a ok hi S hf) (fun v s₁ h₁ => ?_) fun _ _ e => e)
  obtain ⟨q₁, ms₁, S₁, hf₁⟩ := h₁
  cases v with
  | true => exact wpAny_mono (h2 A c ms₁ tmp s₁ _ a ok hi S₁ hf₁) (fun _ _ h => h.trans q₁) fun _ _ e => e
  | false => exact wpAny_mono (h3 A c ms₁ tmp s₁ _ a ok hi S₁ hf₁) (fun _ _ h => h.trans q₁) fun _ _ e => e
theorem s_ret {e : Expr} {pos : Pos} {f : T D} (he : SemD prog w B x e f) : SemS prog w B x (.Return (some e) pos) (tRet f) := fun A c ms tmp s Q a ok hi S hf =>
  wpAny_Return_some (wpAny_mono (he A c ms tmp s _ a ok hi S hf) (fun v s₁ ⟨q, d, ms₁, S₁, hq⟩ => ⟨q, d, ms₁, S₁, hq⟩) fun _ _ e => e)
theorem s_never {st : Stmt} : SemS prog w B x st tNever := fun A c ms tmp s Q a ok hi S hf => hf.elim

end
end Mine
end

section
set_option maxRecDepth 100000
set_option Elab.async false
set_option autoImplicit false
set_option linter.unusedVariables false
namespace Mine
open PySem PySem.Calls

section
variable {prog : Program} {w : World} {B : Heap} {mg mb : Str → Option Value} {x : Sx}

-- several targets at once
inductive Targets (x : Sx) : List Expr → List Nat → List Str → Prop
  | nil : Targets x [] [] []
  | cons {n : Str} {p : Pos} {i : Nat} {es : List Expr} {is : List Nat} {ns : List Str} : x.nm[i]? = some n → (n ∉ x.cn ∨ x.own = true) → Targets x es is ns → Targets x (.Name n p :: es) (i :: is) (n :: ns)

theorem assign_run {es : List Expr} {is : List Nat} {ns : List Str} (H : Targets x es is ns) : ∀ {A : Around} {c : Cx} {ms : MS} {tmp : List (Value × RV)} {s : Shared} {vs : List Value} {rs : List RV}, c.Ok B → c.Is x → vs.length = es.length → rs.length = es.length →
    St c ms (vs.zip rs ++ tmp) s.heap → wpAny (model prog w) A (assignInOrder ((assignEach es c.env).map (·.2)) vs) (fun _ s' => Same s s' ∧ St c (setAll is rs ms) tmp s'.heap) NoE s := by
  induction H with
  | nil =>
    intro A c ms tmp s vs rs ok hi l1 l2 S
    cases vs with
    | nil => cases rs with
      | nil => exact wpAny_pure ⟨Same.refl _, S⟩
      | cons _ _ => simp at l2
    | cons _ _ => simp at l1
  | cons hn hs _ ih =>
    intro A c ms tmp s vs rs ok hi l1 l2 S
    cases vs with
    | nil => simp at l1
    | cons v vs => cases rs with
      | nil => simp at l2
      | cons r rs =>
        refine wpAny_bind (wpAny_holding (wpAny_assign_Name (wpAny_mono (store_var ok hi hn hs S) (fun _ s₁ h₁ => ?_) fun _ _ e => e)))
        exact wpAny_mono (ih ok hi (by simpa using l1) (by simpa using l2) h₁.2) (fun _ s₂ h₂ => ⟨h₁.1.trans h₂.1, h₂.2⟩) fun _ _ e => e
theorem cons_of {α : Type} {l : List α} {n : Nat} (h : l.length = n + 1) : ∃ a r, l = a :: r ∧ r.length = n := by
  cases l with
  | nil => cases h
  | cons a r => exact ⟨a, r, rfl, Nat.succ.inj h⟩
theorem names_run {ns : List Str} : ∀ {is : List Nat}, ns.length = is.length → (∀ (k i : Nat) (n : Str), is[k]? = some i → ns[k]? = some n → x.nm[i]? = some n ∧ (n ∉ x.cn ∨ x.own = true)) → ∀ {A : Around} {c : Cx} {ms : MS} {tmp : List (Value × RV)} {s : Shared} {vs : List Value} {rs : List RV}, c.Ok B → c.Is x → vs.length = ns.length → rs.length = ns.length →
    St c ms (vs.zip rs ++ tmp) s.heap → wpAny (model prog w) A (assignInOrder (ns.map fun n => bindName c.env n) vs) (fun _ s' => Same s s' ∧ St c (setAll is rs ms) tmp s'.heap) NoE s := by
  induction ns with
  | nil =>
    intro is hl H A c ms tmp s vs rs ok hi l1 l2 S
    rw [List.length_eq_zero_iff.mp hl.symm]
    rw [List.length_eq_zero_iff.mp l1] at S ⊢
    exact wpAny_pure ⟨Same.refl _, S⟩
  | cons n ns ih =>
    intro is hl H A c ms tmp s vs rs ok hi l1 l2 S
    obtain ⟨i, is, rfl, kl⟩ := cons_of hl.symm
    obtain ⟨v, vs, rfl, k1⟩ := cons_of l1
    obtain ⟨r, rs, rfl, k2⟩ := cons_of l2
    obtain ⟨hn, hs⟩ := H 0 i n rfl rfl
    refine wpAny_bind (wpAny_holding (wpAny_bindName (wpAny_mono (store_var ok hi hn hs S) (fun _ s₁ h₁ => ?_) fun _ _ e => e)))
    exact wpAny_mono (ih kl.symm (fun k i n e1 e2 => H (k + 1) i n e1 e2) ok hi k1 k2 h₁.2) (fun _ s₂ h₂ => ⟨h₁.1.trans h₂.1, h₂.2⟩) fun _ _ e => e
theorem Targets.length {es : List Expr} {is : List Nat} {ns : List Str} (H : Targets x es is ns) : is.length = es.length ∧ ns.length = es.length := by
  induction H with
  | nil => exact ⟨rfl, rfl⟩
  | cons _ _ _ ih => simp [ih.1, ih.2]
theorem Targets.get {es : List Expr} {is : List Nat} {ns : List Str} (H : Targets x es is ns) : ∀ (k i : Nat) (n : Str), is[k]? = some i → ns[k]? = some n → x.nm[i]? = some n ∧ (n ∉ x.cn ∨ x.own = true) := by
  induction H with
  | nil => intro k i n e; simp at e
  | cons hn hs _ ih =>
    intro k i n e1 e2
    cases k with
    | zero => simp at e1 e2; subst e1 e2; exact ⟨hn, hs⟩
    | succ k => exact ih k i n (by simpa using e1) (by simpa using e2)
theorem Targets.noStar {es : List Expr} {is : List Nat} {ns : List Str} (H : Targets x es is ns) (env : Env) : (assignEach es env).length = es.length ∧ (assignEach es env).findIdx? (·.1) = none := by
  induction H with
  | nil => exact ⟨rfl, rfl⟩
  | cons hn hs _ ih =>
    rename_i n p i es is ns _
    have e : assignEach (Expr.Name n p :: es) env = (false, assign (Expr.Name n p) env) :: assignEach es env := rfl
    rw [e]
    refine ⟨by simp [ih.1], ?_⟩
    rw [List.findIdx?_cons, ih.2]; rfl

/-- x, y = t, t a tuple -/
theorem unpack_run {es : List Expr} {is : List Nat} {ns : List Str} {k : Nat} {pos : Pos} (H : Targets x es is ns) {A : Around} {c : Cx} {ms : MS} {tmp : List (Value × RV)} {s : Shared} {t : Addr} {vs : List Value} {rs : List RV} (hh : A.handled = none) (ok : c.Ok B) (hi : c.Is x)
    (ht : s.heap.IsTuple t vs.toArray) (l1 : vs.length = es.length) (l2 : rs.length = es.length) (S : St c ms (vs.zip rs ++ tmp) s.heap) :
    wpAny (model prog w) A (assign (.Tuple es k pos) c.env (.ref t)) (fun _ s' => Same s s' ∧ St c (setAll is rs ms) tmp s'.heap) NoE s := by
  obtain ⟨n1, n2⟩ := H.noStar c.env
  refine wpAny_assign_Tuple hh ht (by rw [n1]; simp [l1]) n2 fun h' he => ?_
  have S' : St c ms (vs.zip rs ++ tmp) h' := S.ext fun b o e => he b o (Nat.ne_of_lt (Heap.lt_size e)) e
  exact assign_run H (s := { s with heap := h' }) ok hi l1 l2 S'

theorem s_multi {es ts : List Expr} {is : List Nat} {ns : List Str} {fs : List (T RV)} {k k2 : Nat} {tpos vpos pos : Pos} (H : Targets x ts is ns) (hv : SemRVs prog w B x es fs) (hl : es.length = ts.length) (hz : es.length ≤ LIM)
    (hs : ∀ env line, swapsWithSole [.Tuple ts k tpos] (.Tuple es k2 vpos) line env = pure false) (hw : ∀ env : Env, env.scope = x.sc → swappedStores [.Tuple ts k tpos] (.Tuple es k2 vpos) env = pure none) :
    SemS prog w B x (.Assign [.Tuple ts k tpos] (.Tuple es k2 vpos) pos) (tMulti is fs) := fun A c ms tmp s Q a ok hi S hf => by
  refine PyProof.Rows.Assign_Tuple (PyProof.Rows.Tuple_ (wpAny_mono (rvs_run hv vpos A c ms tmp s _ a ok hi S hf) (fun vs s₁ h₁ => ?_) fun _ _ e => e)) (hs _ _) (hw _ hi.sc)
  obtain ⟨q₁, rs, ms₁, l1, l2, S₁, hf₁⟩ := h₁
  refine newTuple_ ?_ (by lia)
  refine wpAny_mono (unpack_run (s := { s₁ with heap := s₁.heap.push (tupO vs 0) }) H a.handled ok hi ⟨_, Heap.get?_push_size _ rfl, rfl, 0, rfl⟩ (by lia) (by lia) (S₁.push _)) (fun _ s₂ h₂ => ?_) fun _ _ e => e
  exact ⟨q₁.trans h₂.1, _, h₂.2, hf₁⟩

theorem zip_rev {α β : Type} : ∀ (vs : List α) (rs : List β), vs.length = rs.length → vs.reverse.zip rs.reverse = (vs.zip rs).reverse
  | [], [], _ => rfl
  | v :: vs, r :: rs, h => by
    have h' : vs.length = rs.length := by simpa using h
    rw [List.reverse_cons, List.reverse_cons, List.zip_append (by simp [h']), zip_rev vs rs h']
    simp
  | [], _ :: _, h => by simp at h
  | _ :: _, [], h => by simp at h
theorem setAll_rev2 {i j : Nat} (h : i ≠ j) (a b : RV) (ms : MS) : setAll [j, i] [b, a] ms = setAll [i, j] [a, b] ms := by
  unfold setAll setAll setAll MS.set
  simp only
  rw [List.set_comm _ _ h]
theorem setAll_rev3 {i j k : Nat} (h1 : i ≠ j) (h2 : i ≠ k) (h3 : j ≠ k) (a b c : RV) (ms : MS) : setAll [k, j, i] [c, b, a] ms = setAll [i, j, k] [a, b, c] ms := by
  unfold setAll setAll setAll setAll MS.set
  simp only
  rw [List.set_comm _ _ h1, List.set_comm _ _ h2, List.set_comm _ _ h3]
theorem setAll_rev {is : List Nat} {rs : List RV} (hl : is.length = rs.length) (hn : is.length = 2 ∨ is.length = 3) (hd : is.Nodup) (ms : MS) : setAll is.reverse rs.reverse ms = setAll is rs ms := by
  match is, rs, hl, hn, hd with
  | [i, j], [a, b], _, _, hd => exact setAll_rev2 (by simp at hd; exact hd) a b ms
  | [i, j, k], [a, b, c], _, _, hd => simp at hd; exact setAll_rev3 hd.1.1 hd.1.2 hd.2 a b c ms
  | [], _, _, hn, _ => simp at hn
  | [_], _, _, hn, _ => simp at hn
  | _ :: _ :: _ :: _ :: _, _, _, hn, _ => simp at hn

theorem s_multiR {es ts : List Expr} {is : List Nat} {ns : List Str} {fs : List (T RV)} {k k2 : Nat} {tpos vpos pos : Pos} (H : Targets x ts is ns) (hv : SemRVs prog w B x es fs) (hl : es.length = ts.length) (hz : es.length ≤ LIM) (h23 : ts.length = 2 ∨ ts.length = 3) (hd : is.Nodup)
    (hs : ∀ env line, swapsWithSole [.Tuple ts k tpos] (.Tuple es k2 vpos) line env = pure false) (hw : ∀ env : Env, env.scope = x.sc → swappedStores [.Tuple ts k tpos] (.Tuple es k2 vpos) env = pure (some ns)) :
    SemS prog w B x (.Assign [.Tuple ts k tpos] (.Tuple es k2 vpos) pos) (tMulti is fs) := fun A c ms tmp s Q a ok hi S hf => by
  obtain ⟨t1, t2⟩ := H.length
  refine PyProof.Rows.Assign_Tuple_swapped (PyProof.Rows.Tuple_ (wpAny_mono (rvs_run hv vpos A c ms tmp s _ a ok hi S hf) (fun vs s₁ h₁ => ?_) fun _ _ e => e)) (hs _ _) (hw _ hi.sc)
  obtain ⟨q₁, rs, ms₁, l1, l2, S₁, hf₁⟩ := h₁
  refine newTuple_ ?_ (by lia)
  have hsz : ns.length = vs.toArray.size := by simp; lia
  rw [hsz]
  refine wpAny_unpackItems_tuple a.handled ⟨_, Heap.get?_push_size _ rfl, rfl, 0, rfl⟩ fun h' he => ?_
  have S' : St c ms₁ (vs.reverse.zip rs.reverse ++ tmp) h' := ((S₁.push (tupO vs 0)).ext fun b o e => he b o (Nat.ne_of_lt (Heap.lt_size e)) e).sub fun p hp => by
    have e : vs.reverse.zip rs.reverse = (vs.zip rs).reverse := zip_rev _ _ (by lia)
    rw [e] at hp
    rcases List.mem_append.mp hp with h | h
    · exact List.mem_append.mpr (.inl (List.mem_reverse.mp h))
    · exact List.mem_append.mpr (.inr h)
  have hg := H.get
  refine wpAny_mono (names_run (s := { s₁ with heap := h' }) (is := is.reverse) (by simp; lia) (fun q i n e1 e2 => ?_) ok hi (by simp; lia) (by simp; lia) S') (fun _ s₂ h₂ => ?_) fun _ _ e => e
  · have lk : q < is.length := by have := (List.getElem?_eq_some_iff.mp e1).1; simpa using this
    rw [List.getElem?_reverse lk] at e1
    rw [List.getElem?_reverse (by lia)] at e2
    refine hg (is.length - 1 - q) i n e1 ?_
    have : ns.length = is.length := by lia
    rw [← this]; exact e2
  · refine ⟨q₁.trans h₂.1, _, ?_, hf₁⟩
    have := h₂.2
    rwa [setAll_rev (by lia) (by lia) hd] at this

theorem bindAll_eq : ∀ {is : List Nat} {ds : List D} {ms ms' : MS}, bindAll is ds ms = some ms' → is.length = ds.length ∧ ms' = setAll is (ds.map .val) ms
  | [], [], ms, ms', h => by cases h; exact ⟨rfl, rfl⟩
  | i :: is, d :: ds, ms, ms', h => by
    obtain ⟨a, b⟩ := bindAll_eq (is := is) (ds := ds) h
    exact ⟨by simp [a], b⟩
  | [], _ :: _, _, _, h => by cases h
  | _ :: _, [], _, _, h => by cases h

theorem zip_vals_rep {g : PH} {ρ : List Addr} {vs : List Value} : ∀ {ds : List D}, RepL g vs ds → ∀ p ∈ vs.zip (ds.map RV.val), RVRep g ρ p.1 p.2 := by
  induction vs with
  | nil => intro ds h p hp; cases hp
  | cons v vs ih =>
    intro ds h p hp
    cases h with
    | cons a b =>
      rcases List.mem_cons.mp hp with rfl | hp
      · exact a
      · exact ih b p hp

/-- a tuple at hand is unpacked -/
theorem unpack_tup {es : List Expr} {is : List Nat} {ns : List Str} {k : Nat} {pos : Pos} (H : Targets x es is ns) {A : Around} {c : Cx} {ms ms' : MS} {tmp : List (Value × RV)} {s : Shared} {v : Value} {d : D} (hh : A.handled = none) (ok : c.Ok B) (hi : c.Is x)
    (S : St c ms ((v, .val d) :: tmp) s.heap) (hb : bindT is d ms = some ms') :
    wpAny (model prog w) A (assign (.Tuple es k pos) c.env v) (fun _ s' => Same s s' ∧ St c ms' tmp s'.heap) NoE s := by
  unfold bindT at hb
  split at hb
  · rename_i ds
    obtain ⟨e1, rfl⟩ := bindAll_eq hb
    obtain ⟨t1, t2⟩ := H.length
    obtain ⟨g, ρ, m, G⟩ := S
    cases G.tmps _ (.head _) with
    | tup e l r =>
      have hl := r.length
      refine unpack_run H hh ok hi ⟨_, G.gh _ _ e, rfl, _, rfl⟩ (by lia) (by simp; lia) ⟨g, ρ, m, G.withTmp fun p hp => ?_⟩
      rcases List.mem_append.mp hp with hp | hp
      · exact zip_vals_rep r p hp
      · exact G.tmps p (.tail _ hp)
  · cases hb

theorem s_unp {e : Expr} {ts : List Expr} {is : List Nat} {ns : List Str} {f : T D} {k : Nat} {tpos pos : Pos} (H : Targets x ts is ns) (he : SemD prog w B x e f)
    (hs : ∀ env line, swapsWithSole [.Tuple ts k tpos] e line env = pure false) (hw : ∀ env, swappedStores [.Tuple ts k tpos] e env = pure none) :
    SemS prog w B x (.Assign [.Tuple ts k tpos] e pos) (tUnp is f) := fun A c ms tmp s Q a ok hi S hf => by
  refine PyProof.Rows.Assign_Tuple (wpAny_mono (he A c ms tmp s _ a ok hi S hf) (fun v s₁ h₁ => ?_) fun _ _ e => e) (hs _ _) (hw _)
  obtain ⟨q₁, d, ms₁, S₁, ms₂, hb, hf₁⟩ := h₁
  exact wpAny_mono (unpack_tup H a.handled ok hi S₁ hb) (fun _ s₂ h₂ => ⟨q₁.trans h₂.1, _, h₂.2, hf₁⟩) fun _ _ e => e

-- lists that are written
theorem set_list {A : Around} {s : Shared} {l : Addr} {vs : List Value} {n : Nat} {k : Int} {t : Tok} {v : Value} {P : Unit → Shared → Prop} (ho : s.heap.get? l = some (lstO vs n)) (h0 : 0 ≤ k) (hk : k < vs.length) (hz : vs.length ≤ LIM)
    (h : ∀ h', h'.get? l = some (lstO (vs.set k.toNat v) n) → (∀ b o, b ≠ l → s.heap.get? b = some o → h'.get? b = some o) → P () { s with heap := h' }) : wpAny (model prog w) A (setItem (.ref l) (.int k t) v) P NoE s := by
  have hl : s.heap.IsList l vs.toArray := ⟨_, ho, rfl, n, rfl⟩
  have ho' : (s.heap.update l (Obj.mapSeq (·.setIfInBounds k.toNat v))).get? l = some (lstO (vs.set k.toNat v) n) := by
    have := IsL.update (n := n) (items := vs.toArray) ho (·.setIfInBounds k.toNat v)
    rw [if_pos (by simp)] at this
    simpa using this
  have fin := h _ ho' fun b o hb e => (Heap.get?_update_other _ _ (Ne.symm hb)).trans e
  have fits : Builtin.List.listFitsIndex k = true := fitsIndex_of h0 (by have L : LIM = 1048576 := rfl; lia)
  unfold setItem
  refine wpAny_holding (wpAny_bind (wpAny_sequenceKey hl.typeIs (by decide) ?_))
  refine wpAny_bind (wpAny_callSpecial?_slot (name := Str.ofString "__setitem__") hl.typeIs slot_list_setitem (wpAny_call_entry slot_list_setitem hl.typeIs entry_list_setitem ?_ (args_list_setitem _ _ _)))
  show wpAny _ _ (Builtin.List.listSubscript? (.int k t) >>= _) _ _ s
  refine wpAny_bind (wpAny_listSubscript_int fits ?_)
  clear fits
  obtain ⟨j, rfl⟩ := Int.eq_ofNat_of_zero_le h0
  show wpAny _ _ ((seqItemAt l j >>= fun r => pure (r.map (j, ·))) >>= _) _ _ s
  refine wpAny_bind (wpAny_bind (wpAny_seqItemAt ho rfl (wpAny_pure ?_)))
  have hj : j < vs.length := by lia
  have hx : vs.toArray[j]? = some vs[j] := by simp [List.getElem?_eq_getElem hj]
  rw [hx]
  refine wpAny_bind (wpAny_setSeqItemAt ho rfl ?_)
  exact wpAny_pure ⟨.none, rfl, wpAny_pure fin⟩

/-- a store behind a subscript, its value at hand -/
theorem asg_sub {M : Model} {A : Around} {E : Value → Shared → Prop} {s : Shared} {env : Env} {o i : Expr} {pos : Pos} {v : Value} {Q : Unit → Shared → Prop}
    (h : wpAny M A (eval o env) (fun ov s₂ => wpAny M A (eval i env) (fun iv s₃ => wpAny M A (setItem ov iv v) Q E s₃) E s₂) E s) : wpAny M A (assign (.Subscript o i pos) env v) Q E s := by
  rw [assign_Subscript]
  refine wpAny_bind (wpAny_holding (wpAny_mono h (fun ov s₂ h₂ => ?_) fun _ _ e => e))
  refine wpAny_bind (wpAny_holding (wpAny_mono h₂ (fun iv s₃ h₃ => ?_) fun _ _ e => e))
  exact wpAny_bind (wpAny_standAt (wpAny_bind (wpAny_holding (wpAny_mono h₃ (fun _ s₄ h₄ => wpAny_release h₄) fun _ _ e => e))))

inductive SetRes (c : Cx) (ms : MS) (tmp : List (Value × RV)) (h : Heap) (n : Nat) (xs : List D) (a : Value) : Prop
  | mk (l : Addr) (vs : List Value) (k : Nat) (e : a = .ref l) (ho : h.get? l = some (lstO vs k)) (hlen : vs.length = xs.length) (hz : xs.length ≤ LIM)
    (fin : ∀ (tmp' : List (Value × RV)), (∀ p ∈ tmp', p ∈ tmp) → ∀ h' vs' k' xs', (∀ b o, b ≠ l → h.get? b = some o → h'.get? b = some o) → h'.get? l = some (lstO vs' k') → (∀ g, (∀ q ∈ tmp, ∀ d, q.2 = RV.val d → Rep g q.1 d) → RepL g vs xs → RepL g vs' xs') → xs'.length ≤ LIM → St c (ms.setC n (.lst xs')) tmp' h')
theorem St.setCell {c : Cx} {ms : MS} {tmp : List (Value × RV)} {h : Heap} (S : St c ms tmp h) (ok : c.Ok B) {n : Nat} {xs : List D} {a : Value} (hc : ms.cs[n]? = some (.lst xs)) (hp : (a, RV.ptr n) ∈ tmp) :
    SetRes c ms tmp h n xs a := by
  obtain ⟨g, ρ, m, G⟩ := S
  obtain ⟨l, ha, e⟩ := G.tmps _ hp
  have e : a = .ref l := e
  obtain ⟨hg, hH, hz, vs, k, ho, hr⟩ := G.cells n _ l hc ha
  refine ⟨l, vs, k, e, ho, hr.length, hz, fun tmp' ht h' vs' k' xs' hk ho' hr' hz' => ⟨g, ρ, m, ?_⟩⟩
  refine (G.upd (cl' := .lst xs') ok hc ha (by intro z; cases z) hk ⟨_, ho'⟩ fun hg hH => ⟨hg, hH, hz', vs', k', ho', hr' g (fun q hq d e => ?_) hr⟩).withTmp fun p hp => G.tmps p (ht p hp)
  have := G.tmps q hq
  rw [e] at this; exact this

/-- the index is at hand: the store -/
noncomputable def PutAt (q : Nat) (d : D) (P : MS → Prop) (r : RV) (ms3 : MS) : Prop := match r, ms3.cs[q]? with
  | .val (.int k), some (.lst xs) => 0 ≤ k ∧ k < xs.length ∧ P (ms3.setC q (.lst (xs.set k.toNat d)))
  | _, _ => False
inductive PostU (c : Cx) (tmp : List (Value × RV)) (s : Shared) (P : MS → Prop) (s' : Shared) : Prop
  | mk (q : Same s s') (ms' : MS) (S : St c ms' tmp s'.heap) (hf : P ms')
theorem put_idx {A : Around} {c : Cx} {ms : MS} {tmp : List (Value × RV)} {s s₃ : Shared} {q : Nat} {d : D} {v vi u : Value} {ri : RV} {P : MS → Prop} (ok : c.Ok B) (S₃ : St c ms ((vi, ri) :: (u, .ptr q) :: tmp) s₃.heap) (hm : (v, RV.val d) ∈ tmp) (q₃ : Same s s₃) (hf : PutAt q d P ri ms) :
    wpAny (model prog w) A (setItem u vi v) (fun _ s' => PostU c tmp s P s') NoE s₃ := by
  unfold PutAt at hf
  split at hf
  · rename_i j xs hc
    obtain ⟨h0, hlt, hq⟩ := hf
    have ti : ∃ t, vi = .int j t := by
      obtain ⟨g, ρ, m, G⟩ := S₃
      have := G.tmps _ (.head _)
      cases this; exact ⟨_, rfl⟩
    obtain ⟨l, vs, k', e1, ho, hlen, hz, fin⟩ := S₃.setCell ok hc (.tail _ (.head _))
    obtain ⟨t, rfl⟩ := ti
    subst e1
    have e3 : (vs.set j.toNat v).length = xs.length := by rw [List.length_set]; exact hlen
    refine set_list ho h0 (by rw [hlen]; exact hlt) (by rw [hlen]; exact hz) fun h' ho' hk => ?_
    exact ⟨q₃, _, fin tmp (fun p hp => .tail _ (.tail _ hp)) h' _ _ _ hk ho' (fun g hg hr => hr.set _ (hg (v, .val d) (.tail _ (.tail _ hm)) d rfl)) (by rw [List.length_set]; exact hz), hq⟩
  · exact hf.elim
theorem put_one {i : Nat} {n : Str} {A : Around} {c : Cx} {e : Expr} {np ip : Pos} {f : T RV} {d : D} {v : Value} {ms : MS} {tmp : List (Value × RV)} {s : Shared} {q : Nat} {P : MS → Prop} (a : AOk A x.k) (ok : c.Ok B) (hi : c.Is x) (hn : x.nm[i]? = some n) (hd : (n == ("__debug__" : Str)) = false)
    (h : SemE prog w B x e f) (hr : ms.fr[i]? = some (some (.ptr q))) (hm : (v, RV.val d) ∈ tmp) (S : St c ms tmp s.heap) (hf : f ms (PutAt q d P)) :
    wpAny (model prog w) A (assign (.Subscript (.Name n np) e ip) c.env v) (fun _ s' => PostU c tmp s P s') NoE s := by
  refine asg_sub (wpAny_Name (load_var ok S (hi.nm ▸ hn) hr fun u S₂ => ?_) hd)
  refine wpAny_mono (h A c ms _ s _ a ok hi S₂ hf) (fun vi s₃ h₃ => ?_) fun _ _ e => e
  obtain ⟨q₃, ri, ms₃, S₃, hf₃⟩ := h₃
  exact put_idx ok S₃ hm q₃ hf₃

theorem s_put {i : Nat} {n : Str} {np ip pos : Pos} {ie e : Expr} {fi : T RV} {f : T D} (he : SemD prog w B x e f) (hi' : SemE prog w B x ie fi) (hn : x.nm[i]? = some n) (hd : (n == ("__debug__" : Str)) = false) (hsw : ∀ env line, swapsWith e (some (.Subscript (.Name n np) ie ip)) line env = pure false) :
    SemS prog w B x (.Assign [.Subscript (.Name n np) ie ip] e pos) (tPut i fi f) := fun A c ms tmp s Q a ok hi S hf => by
  refine wpAny_Assign_Subscript (wpAny_mono (he A c ms tmp s _ a ok hi S hf) (fun v s₁ h₁ => ?_) fun _ _ e => e) (hsw _ _)
  obtain ⟨q₁, d, ms₁, S₁, hf₁⟩ := h₁
  split at hf₁
  · rename_i k hr
    refine wpAny_Name (load_var ok S₁ (hi.nm ▸ hn) hr fun u S₂ => ?_) hd
    refine wpAny_mono (hi' A c ms₁ _ s₁ _ a ok hi S₂ hf₁) (fun vi s₃ h₃ => ?_) fun _ _ e => e
    obtain ⟨q₃, ri, ms₃, S₃, hf₃⟩ := h₃
    refine wpAny_mono (put_idx (P := fun m => Q .next m) ok S₃ (.head _) (q₁.trans q₃) hf₃) (fun _ s' h => ?_) fun _ _ e => e
    obtain ⟨q, ms', S', hq⟩ := h
    exact ⟨q, ms', S'.pop, hq⟩
  · exact hf₁.elim

theorem e_app {i : Nat} {n : Str} {np apos pos : Pos} {e : Expr} {f : T D} (he : SemD prog w B x e f) (hst : NoStar e) (hn : x.nm[i]? = some n) (hd : (n == ("__debug__" : Str)) = false) (hline : (apos.endLine == pos.line) = true)
    {A : Around} {c : Cx} {ms : MS} {tmp : List (Value × RV)} {s : Shared} {Q : Fl → MS → Prop} (a : AOk A x.k) (ok : c.Ok B) (hi : c.Is x) (S : St c ms tmp s.heap) (hf : tApp i f ms Q) :
    wpAny (model prog w) A (eval (.Call (.Attribute (.Name n np) (Str.ofString "append") apos) [e] [] pos) c.env) (fun v s' => v = .none ∧ Same s s' ∧ ∃ ms', St c ms' tmp s'.heap ∧ Q .next ms') NoE s := by
  unfold tApp at hf
  split at hf
  · rename_i k hr
    refine meth_run (id := "list.append") (fun _ => rfl) hline (fun env => by rw [hst]; rfl) (wpAny_Name (load_var ok S (hi.nm ▸ hn) hr fun u S₂ => ?_) hd)
    obtain ⟨⟨ys, hys⟩, hf⟩ := hf
    obtain ⟨l, vs0, k0, rfl, ho0, _, _, _⟩ := S₂.setCell ok hys (.head _)
    refine ⟨fun pl Q' h' => getMethod_list_append ho0 rfl rfl h', ?_⟩
    rw [hst]
    refine P.append_list (wpAny_mono (he A c ms _ s _ a ok hi S₂ hf) (fun v s₁ h₁ => ?_) fun _ _ e => e)
    obtain ⟨q₁, d, ms₁, S₁, hf₁⟩ := h₁
    split at hf₁
    · rename_i xs hc
      obtain ⟨hlt, hq⟩ := hf₁
      obtain ⟨l', vs, k', e1, ho, hlen, hz, fin⟩ := S₁.setCell ok hc (.tail _ (.head _))
      cases e1
      have L := LIM_le
      refine ⟨vs.toArray, k', by simp only [List.size_toArray]; lia, ho, rfl, q₁, _, fin tmp (fun p hp => .tail _ (.tail _ hp)) _ (vs ++ [v]) (if (vs.toArray.push v).size == vs.toArray.size then k' else k' + 1) _ (fun b o hb e => (Heap.get?_update_other _ _ (Ne.symm hb)).trans e) ?_ (fun g hg hr => hr.append (.cons (hg (v, .val d) (.head _) d rfl) .nil)) (by simp; lia), hq⟩
      have := IsL.update (n := k') (items := vs.toArray) ho (fun xs => xs.push v)
      simpa using this
    · exact hf₁.elim
  · exact hf.elim

theorem s_app {i : Nat} {n : Str} {np apos cpos pos : Pos} {e : Expr} {f : T D} (he : SemD prog w B x e f) (hst : NoStar e) (hn : x.nm[i]? = some n) (hd : (n == ("__debug__" : Str)) = false) (hline : (apos.endLine == cpos.line) = true) (hint : ∀ env : Env, env.scope = x.sc → interactive env = false) :
    SemS prog w B x (.Expr (.Call (.Attribute (.Name n np) (Str.ofString "append") apos) [e] [] cpos) pos) (tApp i f) := fun A c ms tmp s Q a ok hi S hf => by
  refine wpAny_Expr (wpAny_mono (e_app he hst hn hd hline a ok hi S hf) (fun v s₁ h₁ => ?_) fun _ _ e => e) (hint _ hi.sc) rfl
  obtain ⟨rfl, q, ms₁, S₁, hq⟩ := h₁
  exact ⟨q, ms₁, S₁, hq⟩

theorem s_swap {i : Nat} {n : Str} {n1 n2 p1 p2 tpos vpos pos : Pos} {k k2 : Nat} {e1 e2 a1 a2 : Expr} {f1 f2 : T RV} {g1 g2 : T D} (h1 : SemE prog w B x e1 f1) (h2 : SemE prog w B x e2 f2) (k1 : SemD prog w B x a1 g1) (k2' : SemD prog w B x a2 g2)
    (hst1 : NoStar a1) (hst2 : NoStar a2) (hn : x.nm[i]? = some n) (hd : (n == ("__debug__" : Str)) = false)
    (hs : ∀ env line, swapsWithSole [.Tuple [.Subscript (.Name n n1) e1 p1, .Subscript (.Name n n2) e2 p2] k tpos] (.Tuple [a1, a2] k2 vpos) line env = pure false)
    (hw : ∀ env : Env, env.scope = x.sc → swappedStores [.Tuple [.Subscript (.Name n n1) e1 p1, .Subscript (.Name n n2) e2 p2] k tpos] (.Tuple [a1, a2] k2 vpos) env = pure none) :
    SemS prog w B x (.Assign [.Tuple [.Subscript (.Name n n1) e1 p1, .Subscript (.Name n n2) e2 p2] k tpos] (.Tuple [a1, a2] k2 vpos) pos) (tSwap i f1 f2 g1 g2) := fun A c ms tmp s Q a ok hi S hf => by
  refine PyProof.Rows.Assign_Tuple (PyProof.Rows.Tuple_ ?_) (hs _ _) (hw _ hi.sc)
  rw [hst1, hst2]
  refine spliced_cons (wpAny_mono (k1 A c ms tmp s _ a ok hi S hf) (fun v1 s₁ h₁ => ?_) fun _ _ e => e)
  obtain ⟨q₁, d1, ms₁, S₁, hf₁⟩ := h₁
  refine spliced_cons (wpAny_mono (k2' A c ms₁ _ s₁ _ a ok hi S₁ hf₁) (fun v2 s₂ h₂ => ?_) fun _ _ e => e)
  obtain ⟨q₂, d2, ms₂, S₂, hf₂⟩ := h₂
  refine spliced_nil (newTuple_ ?_ (by simp; exact Nat.le_of_ble_eq_true rfl))
  refine wpAny_assign_Tuple a.handled ⟨_, Heap.get?_push_size _ rfl, rfl, 0, rfl⟩ rfl rfl fun h' he => ?_
  have S₃ : St c ms₂ ((v2, .val d2) :: (v1, .val d1) :: tmp) h' := (S₂.push (tupO [v1, v2] 0)).ext fun b o e => he b o (Nat.ne_of_lt (Heap.lt_size e)) e
  split at hf₂
  · rename_i q hr
    refine wpAny_bind (wpAny_holding (wpAny_mono (put_one (s := { s₂ with heap := h' }) (P := fun ms4 => ms4.fr[i]? = some (some (.ptr q)) ∧ f2 ms4 (PutAt q d2 fun m => Q .next m)) a ok hi hn hd h1 hr (.tail _ (.head _)) S₃ hf₂) (fun _ s₄ h₄ => ?_) fun _ _ e => e))
    obtain ⟨q₄, ms₄, S₄, hr₄, hf₄⟩ := h₄
    refine wpAny_bind (wpAny_holding (wpAny_mono (put_one a ok hi hn hd h2 hr₄ (.head _) S₄ hf₄) (fun _ s₅ h₅ => ?_) fun _ _ e => e))
    obtain ⟨q₅, ms₅, S₅, hf₅⟩ := h₅
    exact wpAny_pure ⟨((q₁.trans q₂).trans q₄).trans q₅, ms₅, S₅.pop2, hf₅⟩
  · exact hf₂.elim
end
end Mine
end

section
set_option maxRecDepth 100000
set_option Elab.async false
set_option autoImplicit false
set_option linter.unusedVariables false
namespace Mine
open PySem PySem.Calls

section
variable {prog : Program} {w : World} {B : Heap} {mg mb : Str → Option Value} {x : Sx}

theorem up' {α : Type} {M : Model} {A : Around} {t : Sem α} {Q Q' : α → Shared → Prop} {s : Shared} {E : Value → Shared → Prop} (h : wpAny M A t Q NoE s) (hq : ∀ a s', Q a s' → Q' a s') : wpAny M A t Q' E s :=
  wpAny_mono h hq fun _ _ e => e.elim

theorem s_while {t : Expr} {body : List Stmt} {pos : Pos} {f : T Bool} {g : T Fl} (ht : SemB prog w B x t f) (hb : SemSs prog w B x body g) : SemS prog w B x (.While t body [] pos) (tWhile f g) := fun A c ms tmp s Q a ok hi S hf => by
  obtain ⟨n, hf⟩ := hf
  refine wpAny_While (codeAny_whileLoop (fun k s' => Same s s' ∧ ∃ ms', St c ms' tmp s'.heap ∧ whileGo f g k ms' Q) ?_ n ⟨Same.refl _, ms, S, hf⟩)
  rintro k s' ⟨q, ms', S', hf'⟩
  cases k with
  | zero => exact hf'.elim
  | succ k =>
    refine up' (ht A c ms' tmp s' _ a ok hi S' hf') fun b s₁ h₁ => ?_
    obtain ⟨q₁, ms₁, S₁, hf₁⟩ := h₁
    cases b with
    | false =>
      simp only [Bool.false_eq_true, if_false] at hf₁ ⊢
      exact wpAny_execs_nil ⟨q.trans q₁, ms₁, S₁, hf₁⟩
    | true =>
      simp only [if_true] at hf₁ ⊢
      refine up' (hb A c ms₁ tmp s₁ _ a ok hi S₁ hf₁) fun fl s₂ h₂ => ?_
      obtain ⟨q₂, h₂⟩ := h₂
      cases fl with
      | next =>
        obtain ⟨ms₂, S₂, hf₂⟩ := h₂
        exact ⟨k, Nat.lt_succ_self _, (q.trans q₁).trans q₂, ms₂, S₂, hf₂⟩
      | ret v => exact ⟨(q.trans q₁).trans q₂, h₂⟩
      | brk => exact h₂.elim
      | cont => exact h₂.elim

-- iteration
/-- an address that no name, no cell and no frozen object has -/
structure Off (c : Cx) (g : PH) (ρ : List Addr) (b : Addr) : Prop where
  g : g b = none
  ρ : b ∉ ρ
  L : b ≠ c.env.locals
  vc : b ∉ c.vc
  priv : ¬ c.priv b
  H : c.H b = none

theorem SG.off {c : Cx} {ms : MS} {tmp : List (Value × RV)} {h : Heap} {g : PH} {ρ : List Addr} {m : Str → Option Value} (S : SG c ms tmp h g ρ m) {b : Addr} (hb : h.objs.size ≤ b) : Off c g ρ b where
  g := by
    cases e : g b with
    | none => rfl
    | some o => exact absurd (Heap.lt_size (S.gh _ _ e)) (Nat.not_lt.mpr hb)
  ρ := fun q => absurd (S.lt _ q) (Nat.not_lt.mpr hb)
  L := fun q => absurd S.L_lt (Nat.not_lt.mpr (q ▸ hb))
  vc := fun q => absurd (let ⟨_, e⟩ := (S.vcg b q).2.2; e.lt) (Nat.not_lt.mpr hb)
  priv := fun q => absurd (let ⟨_, e⟩ := (S.privg b q).2.2; Heap.lt_size e) (Nat.not_lt.mpr hb)
  H := by
    cases e : c.H b with
    | none => rfl
    | some o => exact absurd (Heap.lt_size (S.keepH _ _ e)) (Nat.not_lt.mpr hb)

/-- only such addresses are written -/
theorem SG.offs {c : Cx} {ms : MS} {tmp : List (Value × RV)} {h h' : Heap} {g : PH} {ρ : List Addr} {m : Str → Option Value} (ok : c.Ok B) (S : SG c ms tmp h g ρ m) {wr : List Addr} (hw : ∀ b ∈ wr, Off c g ρ b)
    (hk : ∀ b o, b ∉ wr → h.get? b = some o → h'.get? b = some o) : SG c ms tmp h' g ρ m where
  keepH a o e := hk a o (fun q => by rw [(hw a q).H] at e; cases e) (S.keepH a o e)
  gh a o e := hk a o (fun q => by rw [(hw a q).g] at e; cases e) (S.gh a o e)
  g0 := S.g0
  fresh := S.fresh
  ns := S.ns.at' fun o e => hk _ o (fun q => (hw _ q).L rfl) e
  gL := S.gL
  Lρ := S.Lρ
  vcg a ha := ⟨(S.vcg a ha).1, (S.vcg a ha).2.1, let ⟨v, o, e, e'⟩ := (S.vcg a ha).2.2; ⟨v, o, hk a o (fun q => (hw a q).vc ha) e, e'⟩⟩
  privg a ha := ⟨(S.privg a ha).1, (S.privg a ha).2.1, let ⟨o, e⟩ := (S.privg a ha).2.2; ⟨o, hk a o (fun q => (hw a q).priv ha) e⟩⟩
  len := S.len
  nodup := S.nodup
  ex a ha := let ⟨o, e⟩ := S.ex a ha; ⟨o, hk a o (fun q => (hw a q).ρ ha) e⟩
  cells i cl a e1 e2 := (S.cells i cl a e1 e2).keeps fun o e => hk a o (fun q => (hw a q).ρ (List.mem_of_getElem? e2)) e
  own := S.own
  slots i y r e1 e2 := by
    obtain ⟨v, l, q⟩ := S.slots i y r e1 e2
    refine ⟨v, ?_, q⟩
    unfold LocIs at l ⊢
    cases e : c.env.cells.lookup y with
    | none => rw [e] at l; exact l
    | some ca =>
      rw [e] at l
      obtain ⟨o, e1, e2⟩ := l
      refine ⟨o, hk ca o (fun z => ?_) e1, e2⟩
      rcases ok.cellH y ca e with w | ⟨o, w⟩
      · exact (hw ca z).vc w
      · rw [(hw ca z).H] at w; cases w
  tmps := S.tmps
  nL := S.nL
  par := S.par

/-- the context of a loop's body: the iterator stands still -/
noncomputable def Cx.inLoop (c : Cx) (g : PH) (h : Heap) (wr : List Addr) : Cx :=
  { c with H := fun b => if b ∈ wr then h.get? b else c.H b, g0 := g, priv := fun b => c.priv b ∨ b ∈ wr }

theorem Cx.inLoop_is {c : Cx} {g : PH} {h : Heap} {wr : List Addr} (hi : c.Is x) : (c.inLoop g h wr).Is x := ⟨hi.sc, hi.nm, hi.np, hi.cn, hi.own⟩
theorem Cx.inLoop_ok {c : Cx} {ms : MS} {tmp : List (Value × RV)} {h : Heap} {g : PH} {ρ : List Addr} {m : Str → Option Value} (ok : c.Ok B) (S : SG c ms tmp h g ρ m) {wr : List Addr} (hw : ∀ b ∈ wr, Off c g ρ b) (he : ∀ b ∈ wr, ∃ o, h.get? b = some o) : (c.inLoop g h wr).Ok B where
  base a o e := by
    show (if a ∈ wr then _ else _) = _
    have := ok.base a o e
    rw [if_neg (fun q => by rw [(hw a q).H] at this; cases this)]; exact this
  baseg := ok.baseg.trans S.g0
  kind := ok.kind
  glob := ok.glob
  blt := ok.blt
  HL := by
    show (if c.env.locals ∈ wr then _ else _) = _
    rw [if_neg (fun q => (hw _ q).L rfl)]; exact ok.HL
  cellH y ca e := by
    rcases ok.cellH y ca e with q | ⟨o, q⟩
    · exact .inl q
    · refine .inr ⟨o, ?_⟩
      show (if ca ∈ wr then _ else _) = _
      rw [if_neg (fun z => by rw [(hw ca z).H] at q; cases q)]; exact q
  vcH a ha := ⟨by
    show (if a ∈ wr then _ else _) = _
    rw [if_neg (fun q => (hw a q).vc ha)]; exact (ok.vcH a ha).1, (ok.vcH a ha).2⟩
  inj := ok.inj
  privO a ha := by
    show ∃ o, (if a ∈ wr then _ else _) = _
    by_cases q : a ∈ wr
    · rw [if_pos q]; exact he a q
    · rw [if_neg q]; exact ok.privO a (ha.resolve_right q)
  names := ok.names
  kinds := ok.kinds

theorem SG.toLoop {c : Cx} {ms : MS} {tmp : List (Value × RV)} {h : Heap} {g : PH} {ρ : List Addr} {m : Str → Option Value} (S : SG c ms tmp h g ρ m) {wr : List Addr} (hw : ∀ b ∈ wr, Off c g ρ b) (he : ∀ b ∈ wr, ∃ o, h.get? b = some o) : SG (c.inLoop g h wr) ms tmp h g ρ m :=
  { S with
    keepH := fun a o e => by
      have e : (if a ∈ wr then h.get? a else c.H a) = some o := e
      by_cases q : a ∈ wr
      · rw [if_pos q] at e; exact e
      · rw [if_neg q] at e; exact S.keepH a o e
    g0 := Sub.refl _
    fresh := fun a o e => .inl e
    privg := fun a ha => by
      rcases ha with ha | ha
      · exact S.privg a ha
      · exact ⟨(hw a ha).g, (hw a ha).ρ, he a ha⟩
    cells := fun i cl a e1 e2 => by
      have hn : a ∉ wr := fun q => (hw a q).ρ (List.mem_of_getElem? e2)
      have := S.cells i cl a e1 e2
      cases cl with
      | lst xs =>
        refine ⟨this.1, ?_, this.2.2⟩
        show (if a ∈ wr then _ else _) = _
        rw [if_neg hn]; exact this.2.1
      | dict kv =>
        refine ⟨this.1, ?_, this.2.2⟩
        show (if a ∈ wr then _ else _) = _
        rw [if_neg hn]; exact this.2.1
      | dead => trivial }

theorem SG.ofLoop {c : Cx} {ms ms₀ : MS} {tmp tmp₀ : List (Value × RV)} {h h₀ : Heap} {g g₀ : PH} {ρ ρ₀ : List Addr} {m m₀ : Str → Option Value} (ok : c.Ok B) (S₀ : SG c ms₀ tmp₀ h₀ g₀ ρ₀ m₀) {wr : List Addr} (hw : ∀ b ∈ wr, Off c g₀ ρ₀ b) (he : ∀ b ∈ wr, ∃ o, h₀.get? b = some o) (S : SG (c.inLoop g₀ h₀ wr) ms tmp h g ρ m) :
    SG c ms tmp h g ρ m ∧ (∀ b ∈ wr, Off c g ρ b) ∧ (∀ b ∈ wr, ∀ o, h₀.get? b = some o → h.get? b = some o) ∧ Sub g₀ g := by
  have hk : ∀ b ∈ wr, ∀ o, h₀.get? b = some o → h.get? b = some o := fun b hb o e => S.keepH b o (by
    show (if b ∈ wr then _ else _) = _
    rw [if_pos hb]; exact e)
  refine ⟨{ S with
    keepH := fun a o e => S.keepH a o (by
      show (if a ∈ wr then _ else _) = _
      rw [if_neg (fun q => by rw [(hw a q).H] at e; cases e)]; exact e)
    g0 := S₀.g0.trans S.g0
    fresh := fun a o e => (S.fresh a o e).elim (S₀.fresh a o) .inr
    privg := fun a ha => S.privg a (.inl ha)
    cells := fun i cl a e1 e2 => by
      have := S.cells i cl a e1 e2
      cases cl with
      | lst xs =>
        refine ⟨this.1, ?_, this.2.2⟩
        have q : (if a ∈ wr then h₀.get? a else c.H a) = none := this.2.1
        by_cases z : a ∈ wr
        · exact (hw a z).H
        · rw [if_neg z] at q; exact q
      | dict kv =>
        refine ⟨this.1, ?_, this.2.2⟩
        have q : (if a ∈ wr then h₀.get? a else c.H a) = none := this.2.1
        by_cases z : a ∈ wr
        · exact (hw a z).H
        · rw [if_neg z] at q; exact q
      | dead => trivial }, fun b hb => ?_, hk, S.g0⟩
  have p := S.privg b (.inr hb)
  exact ⟨p.1, p.2.1, (hw b hb).L, (hw b hb).vc, (hw b hb).priv, (hw b hb).H⟩

/-- what is iterated over, and what a turn does with its item -/
structure It (prog : Program) (w : World) (B : Heap) (x : Sx) (A : Around) (target : Expr) (bind : D → MS → Option MS) (I : Addr) (fp wr : List Addr) (ds : List D) (g₀ : PH) (Stt : Nat → Heap → Prop) (Get Got : Nat → Value → Heap → Prop) : Prop where
  fpg : ∀ b ∈ fp, b ∈ wr ∨ ∃ o, g₀ b = some o
  ex : ∀ i h, Stt i h → ∀ b ∈ wr, ∃ o, h.get? b = some o
  frame : ∀ i h h', Stt i h → (∀ b ∈ fp, ∀ o, h.get? b = some o → h'.get? b = some o) → Stt i h'
  next : ∀ i (s : Shared) (P : Option Value → Shared → Prop) (E : Value → Shared → Prop), i < ds.length → Stt i s.heap →
    (∀ v h' tk, Get i v h' → (∀ b o, b ∉ wr → s.heap.get? b = some o → h'.get? b = some o) → P (some v) { s with heap := h', toks := tk }) → wpAny (model prog w) A (pyNext (.ref I)) P E s
  go : ∀ i v (s : Shared) (P : Unit → Shared → Prop) (E : Value → Shared → Prop), Get i v s.heap →
    (∀ h', Stt (i + 1) h' → Got i v h' → (∀ b o, b ∉ wr → s.heap.get? b = some o → h'.get? b = some o) → P () { s with heap := h' }) → wpAny (model prog w) A (letOwnedTupleGo target (.ref I) v) P E s
  asg : ∀ i v c ms ms' tmp (s : Shared) d, i < ds.length → ds[i]? = some d → Got i v s.heap → c.Ok B → c.Is x → Sub g₀ c.g0 → St c ms tmp s.heap → bind d ms = some ms' →
    wpAny (model prog w) A (assign target c.env v) (fun _ s' => Same s s' ∧ St c ms' tmp s'.heap) NoE s
  done : ∀ (s : Shared) (P : Option Value → Shared → Prop) (E : Value → Shared → Prop), Stt ds.length s.heap →
    (∀ h' tk, (∀ b o, b ∉ wr → s.heap.get? b = some o → h'.get? b = some o) → P none { s with heap := h', toks := tk }) → wpAny (model prog w) A (pyNext (.ref I)) P E s
  self : ∀ i (s : Shared) (P : Value → Shared → Prop) (E : Value → Shared → Prop), Stt i s.heap → P (.ref I) s → wpAny (model prog w) A (pyIter (.ref I)) P E s

/-- what a walk has at its start -/
inductive ItPost (prog : Program) (w : World) (B : Heap) (x' : Sx) (A : Around) (target : Expr) (bind : D → MS → Option MS) (c : Cx) (tmp : List (Value × RV)) (s : Shared) (Q : List D → MS → Prop) (it : Value) (s₂ : Shared) : Prop
  | mk (q : Same s s₂) (ds : List D) (ms' : MS) (g : PH) (ρ : List Addr) (m : Str → Option Value) (I : Addr) (fp wr : List Addr) (Stt : Nat → Heap → Prop) (Get Got : Nat → Value → Heap → Prop) (hI : it = .ref I) (G : SG c ms' tmp s₂.heap g ρ m)
    (W : It prog w B x' A target bind I fp wr ds g Stt Get Got) (h0 : Stt 0 s₂.heap) (hoff : ∀ b ∈ wr, Off c g ρ b) (hlim : ds.length ≤ LIM) (hf : Q ds ms')
noncomputable def SemIt (prog : Program) (w : World) (B : Heap) (x x' : Sx) (target : Expr) (bind : D → MS → Option MS) (e : Expr) (f : T (List D)) : Prop := ∀ A c ms tmp s Q, AOk A x.k → c.Ok B → c.Is x → St c ms tmp s.heap → f ms Q →
  wpAny (model prog w) A (eval e c.env) (fun xv s₁ => wpAny (model prog w) A (pyIter xv) (ItPost prog w B x' A target bind c tmp s Q) NoE s₁) NoE s

theorem It.stay {A : Around} {target : Expr} {bind : D → MS → Option MS} {I : Addr} {fp wr : List Addr} {ds : List D} {g₀ : PH} {Stt : Nat → Heap → Prop} {Get Got : Nat → Value → Heap → Prop} (W : It prog w B x A target bind I fp wr ds g₀ Stt Get Got) {i : Nat} {h h' : Heap} {g : PH}
    (hs : Stt i h) (h1 : ∀ b ∈ wr, ∀ o, h.get? b = some o → h'.get? b = some o) (hg : Sub g₀ g) (gh : ∀ a o, g a = some o → h.get? a = some o) (gh' : ∀ a o, g a = some o → h'.get? a = some o) : Stt i h' := by
  refine W.frame i h h' hs fun b hb o e => ?_
  rcases W.fpg b hb with q | ⟨o', q⟩
  · exact h1 b q o e
  · have q := hg _ _ q
    have := gh _ _ q
    rw [e] at this; cases this
    exact gh' _ _ q

/-- what holds at the head of a loop -/
inductive ForInv (c : Cx) (tmp : List (Value × RV)) (s : Shared) (wr : List Addr) (ds : List D) (g₂ : PH) (Stt : Nat → Heap → Prop) (bind : D → MS → Option MS) (g : T Fl) (Q : Fl → MS → Prop) (k : Nat) (s' : Shared) : Prop
  | mk (q : Same s s') (i : Nat) (ms' : MS) (g' : PH) (ρ' : List Addr) (m' : Str → Option Value) (hk : k = ds.length + 1 - i) (hi : i ≤ ds.length) (G : SG c ms' tmp s'.heap g' ρ' m') (hsub : Sub g₂ g') (hoff : ∀ b ∈ wr, Off c g' ρ' b) (hst : Stt i s'.heap) (hf : forGo bind g (ds.drop i) ms' Q)
theorem s_for {target e : Expr} {body : List Stmt} {pos : Pos} {bind : D → MS → Option MS} {f : T (List D)} {g : T Fl} (he : SemIt prog w B x x target bind e f) (hb : SemSs prog w B x body g) (hs : ∀ env (v : Value), foldedSetIterable e env v = pure v) :
    SemS prog w B x (.For target e body [] pos) (tFor f bind g) := fun A c ms tmp s Q a ok hi S hf => by
  refine wpAny_For (up' (he A c ms tmp s _ a ok hi S hf) fun xv s₁ h₁ => up' h₁ fun it s₂ h₂ => ?_) (hs _)
  obtain ⟨q₂, ds, ms₂, g₂, ρ₂, m₂, I, fp, wr, Stt, Get, Got, rfl, G₂, W, hst, hoff, hlim, hf₂⟩ := h₂
  refine codeAny_forLoop_any (ForInv c tmp s wr ds g₂ Stt bind g Q) ?_ (ds.length + 1)
    ⟨q₂, 0, ms₂, g₂, ρ₂, m₂, rfl, Nat.zero_le _, G₂, Sub.refl _, hoff, hst, hf₂⟩
  rintro k s' ⟨q', i, ms', g', ρ', m', rfl, hle, G', hsub, hoff', hst', hf'⟩
  by_cases hlt : i < ds.length
  · refine W.next i s' _ _ hlt hst' fun v h₁ tk₁ hget hk₁ => ?_
    refine W.go i v _ _ _ hget fun h₃ hst₃ hgot hk₃ => ?_
    have G₃ : SG c ms' tmp h₃ g' ρ' m' := (G'.offs ok hoff' hk₁).offs ok hoff' hk₃
    have he₃ := W.ex _ _ hst₃
    have ok₃ := Cx.inLoop_ok ok G₃ hoff' he₃
    have S₃ : St (c.inLoop g' h₃ wr) ms' tmp h₃ := ⟨g', ρ', m', G₃.toLoop hoff' he₃⟩
    obtain ⟨d, hd⟩ : ∃ d, ds[i]? = some d := ⟨ds[i], List.getElem?_eq_getElem hlt⟩
    have hdrop : ds.drop i = d :: ds.drop (i + 1) := by
      have : ds[i] = d := by rw [List.getElem?_eq_getElem hlt] at hd; exact Option.some.inj hd
      rw [← this]; exact List.drop_eq_getElem_cons hlt
    rw [hdrop] at hf'
    obtain ⟨ms₄, hbd, hf₄⟩ := hf'
    refine up' (W.asg i v (c.inLoop g' h₃ wr) ms' ms₄ tmp { s' with heap := h₃, toks := tk₁ } d hlt hd hgot ok₃ (Cx.inLoop_is hi) hsub S₃ hbd) fun _ s₄ h₄ => ?_
    refine up' (hb A (c.inLoop g' h₃ wr) ms₄ tmp s₄ _ a ok₃ (Cx.inLoop_is hi) h₄.2 hf₄) fun fl s₅ h₅ => ?_
    obtain ⟨q₅, h₅⟩ := h₅
    have qq : Same s s₅ := Same.trans (s' := s') q' (Same.trans (s' := s₄) h₄.1 q₅)
    cases fl with
    | next =>
      obtain ⟨ms₅, ⟨g₅, ρ₅, m₅, G₅⟩, hf₅⟩ := h₅
      obtain ⟨G₆, hoff₆, hk₆, hsub₆⟩ := SG.ofLoop ok G₃ hoff' he₃ G₅
      exact ⟨ds.length + 1 - (i + 1), by lia, qq, i + 1, ms₅, g₅, ρ₅, m₅, rfl, hlt, G₆, hsub.trans hsub₆, hoff₆, W.stay hst₃ hk₆ hsub G₃.gh (fun a o e => G₆.gh a o (hsub₆ a o e)), hf₅⟩
    | ret v =>
      obtain ⟨d', ms₅, ⟨g₅, ρ₅, m₅, G₅⟩, hf₅⟩ := h₅
      obtain ⟨G₆, _⟩ := SG.ofLoop ok G₃ hoff' he₃ G₅
      exact ⟨qq, d', ms₅, ⟨g₅, ρ₅, m₅, G₆⟩, hf₅⟩
    | brk => exact h₅.elim
    | cont => exact h₅.elim
  · have hi' : i = ds.length := by lia
    subst hi'
    refine W.done s' _ _ hst' fun h₁ tk₁ hk₁ => wpAny_execs_nil ?_
    rw [List.drop_length] at hf'
    exact ⟨q', ms', ⟨g', ρ', m', G'.offs ok hoff' hk₁⟩, hf'⟩
end
end Mine
end

section
set_option maxRecDepth 100000
set_option Elab.async false
set_option autoImplicit false
set_option linter.unusedVariables false
namespace Mine
open PySem PySem.Calls

section
variable {prog : Program} {w : World} {B : Heap} {mg mb : Str → Option Value} {x x' : Sx}

theorem It.name {A : Around} {I : Addr} {fp wr : List Addr} {ds : List D} {P : Nat → Value → Prop} {Stt : Nat → Heap → Prop} (W : Walks prog w A I fp wr ds.length P Stt) {g₀ : PH} (hfp : ∀ b ∈ fp, b ∈ wr ∨ ∃ o, g₀ b = some o)
    (hex : ∀ i h, Stt i h → ∀ b ∈ wr, ∃ o, h.get? b = some o) (hP : ∀ (i : Nat) v d, P i v → ds[i]? = some d → Rep g₀ v d) {j : Nat} {n : Str} {p : Pos} (hn : x.nm[j]? = some n) (hs : n ∉ x.cn ∨ x.own = true) :
    It prog w B x A (.Name n p) (bind1 j) I fp wr ds g₀ Stt (fun i v h => P i v ∧ Stt (i + 1) h) (fun i v _ => P i v) where
  fpg := hfp
  ex := hex
  frame := W.frame
  next := fun i s P' E hi st h => W.item i s P' E hi st fun v h' tk hp hst hk => h v h' tk ⟨hp, hst⟩ hk
  go := fun i v s P' E hg h => by
    show wpAny _ _ (pure ()) P' E s
    exact wpAny_pure (h s.heap hg.2 hg.1 fun _ _ _ e => e)
  asg := fun i v c ms ms' tmp s d hi hd hg ok hi' hsub S hb => by
    cases hb
    refine wpAny_assign_Name (store_var ok hi' hn hs ?_)
    obtain ⟨g, ρ, m, G⟩ := S
    refine ⟨g, ρ, m, G.withTmp fun q hq => ?_⟩
    rcases List.mem_cons.mp hq with rfl | hq
    · exact (hP i v d hg hd).mono (hsub.trans G.g0)
    · exact G.tmps q hq
  done := fun s P' E st h => W.done s P' E st h
  self := W.self

theorem dInts_len (a c : Int) (n : Nat) : (dInts a c n).length = n := by simp [dInts]
theorem dInts_get {a c : Int} {n i : Nat} {d : D} (h : (dInts a c n)[i]? = some d) : d = .int (a + (i : Int) * c) := by
  unfold dInts at h
  rw [List.getElem?_map] at h
  cases e : (List.range n)[i]? with
  | none => rw [e] at h; cases h
  | some k =>
    rw [e] at h
    have : k = i := by
      rw [List.getElem?_eq_some_iff] at e
      obtain ⟨_, e⟩ := e
      simpa using e.symm
    subst this; cases h; rfl

theorem It.range {A : Around} (hh : A.handled = none) {I : Addr} (a c : Int) (k : Nat) {g₀ : PH} {j : Nat} {n : Str} {p : Pos} (hn : x.nm[j]? = some n) (hs : n ∉ x.cn ∨ x.own = true) :
    ∃ Get Got, It prog w B x A (.Name n p) (bind1 j) I [I] [I] (dInts a c k) g₀ (fun i h => IsRangeIter h I (a + (i : Nat) * c) ((k : Int) - (i : Nat)) c) Get Got := by
  have W := Walks.range (prog := prog) (w := w) hh I a c k
  have e : k = (dInts a c k).length := (dInts_len a c k).symm
  have W' : Walks prog w A I [I] [I] (dInts a c k).length (fun i v => ∃ t, v = .int (a + i * c) t) (fun i h => IsRangeIter h I (a + (i : Nat) * c) ((k : Int) - (i : Nat)) c) := by rw [← e]; exact W
  exact ⟨_, _, It.name W' (fun b hb => .inl hb) (fun i h st b hb => by simp at hb; subst hb; exact ⟨_, st⟩) (fun i v d hp hd => by
    obtain ⟨t, rfl⟩ := hp
    rw [dInts_get hd]; exact .int _ _) hn hs⟩

/-- from the range object on -/
theorem range_run {A : Around} {c : Cx} {ms : MS} {tmp : List (Value × RV)} {s s₀ : Shared} {Q : List D → MS → Prop} {r : Addr} {a b st : Int} {t u v : Tok} {k : Nat} (hA : AOk A x.k) (q : Same s₀ s) (S : St c ms tmp s.heap)
    (hr : IsRange s.heap r a b st t u v) (hsm : Builtin.Range.small a b st = true) (hsz : Builtin.Range.rangeSize a b st = k) (hk : k ≤ LIM) {j : Nat} {n : Str} {p : Pos} (hn : x'.nm[j]? = some n) (hs : n ∉ x'.cn ∨ x'.own = true) (hq : Q (dInts a st k) ms) :
    wpAny (model prog w) A (pyIter (.ref r)) (ItPost prog w B x' A (.Name n p) (bind1 j) c tmp s₀ Q) NoE s := by
  refine wpAny_pyIter_range hr hsm ?_
  obtain ⟨g, ρ, m, G⟩ := S
  obtain ⟨Get, Got, W⟩ := It.range (prog := prog) (w := w) (B := B) (x := x') (I := s.heap.objs.size) (p := p) (g₀ := g) hA.handled a st k hn hs
  refine ⟨q, dInts a st k, ms, g, ρ, m, s.heap.objs.size, _, _, _, Get, Got, rfl, G.ext fun _ _ e => Heap.get?_push_of_some _ e, W, ?_, fun b hb => ?_, by rw [dInts_len]; exact hk, hq⟩
  · show IsRangeIter _ _ _ _ _
    rw [hsz, show a + ((0 : Nat) : Int) * st = a from by simp, show (k : Int) - ((0 : Nat) : Int) = k from by simp]
    exact Heap.get?_push_size _ rfl
  · simp at hb; subst hb; exact G.off (Nat.le_refl _)

theorem it_range1 (hB : BaseOk B mg mb) {e : Expr} {f : T RV} {rp pos p : Pos} {j : Nat} {n : Str} (he : SemE prog w B x e f) (hst : NoStar e) (hk : x.sc.names.lookup (Str.ofString "range") = some .globalImplicit) (hm : mg (Str.ofString "range") = none) (hv : mb (Str.ofString "range") = some (.type "range"))
    (hn : x'.nm[j]? = some n) (hs : n ∉ x'.cn ∨ x'.own = true) : SemIt prog w B x x' (.Name n p) (bind1 j) (.Call (.Name (Str.ofString "range") rp) [e] [] pos) (tRange1 f) := fun A c ms tmp s Q a ok hi S hf => by
  refine PyProof.Rows.Call_ (load_blt hB ok S (by rw [hi.kindOf]; exact hk) hm hv ?_ (by decide))
  rw [hst]
  refine callWith_type rfl (evalArgs_plain (spliced_cons (wpAny_mono (he A c ms tmp s _ a ok hi S hf) (fun v s₁ h₁ => ?_) fun _ _ e => e)))
  obtain ⟨q₁, r, ms₁, S₁, hf₁⟩ := h₁
  refine spliced_nil ?_
  have S₂ := S₁.pop
  obtain ⟨g, ρ, m, G⟩ := S₁
  have t1 := G.tmps _ (.head _)
  split at hf₁
  · rename_i i
    obtain ⟨hsm, hl, hq⟩ := hf₁
    obtain ⟨_, rfl⟩ := Rep.intI t1
    have L : LIM = 1048576 := rfl
    unfold Small at hsm
    refine call_range_1 ?_
    refine range_run (k := i.toNat) (a := 0) (b := i) (st := 1) a (by exact q₁) (by exact S₂.push _) (by exact IsRange.new ..) (small_one (by lia) (by lia) (by lia) (by lia)) ?_ (by lia) hn hs hq
    rw [rangeSize_one]; split <;> lia
  · exact hf₁.elim
theorem it_range2 (hB : BaseOk B mg mb) {e1 e2 : Expr} {f1 f2 : T RV} {rp pos p : Pos} {j : Nat} {n : Str} (he : SemE prog w B x e1 f1) (he2 : SemE prog w B x e2 f2) (hst : NoStar e1) (hst2 : NoStar e2) (hk : x.sc.names.lookup (Str.ofString "range") = some .globalImplicit) (hm : mg (Str.ofString "range") = none) (hv : mb (Str.ofString "range") = some (.type "range"))
    (hn : x'.nm[j]? = some n) (hs : n ∉ x'.cn ∨ x'.own = true) : SemIt prog w B x x' (.Name n p) (bind1 j) (.Call (.Name (Str.ofString "range") rp) [e1, e2] [] pos) (tRange2 f1 f2) := fun A c ms tmp s Q a ok hi S hf => by
  refine PyProof.Rows.Call_ (load_blt hB ok S (by rw [hi.kindOf]; exact hk) hm hv ?_ (by decide))
  rw [hst, hst2]
  refine callWith_type rfl (evalArgs_plain (spliced_cons (wpAny_mono (he A c ms tmp s _ a ok hi S hf) (fun v s₁ h₁ => ?_) fun _ _ e => e)))
  obtain ⟨q₁, r, ms₁, S₁, hf₁⟩ := h₁
  refine spliced_cons (wpAny_mono (he2 A c ms₁ _ s₁ _ a ok hi S₁ hf₁) (fun v2 s₂ h₂ => ?_) fun _ _ e => e)
  obtain ⟨q₂, r2, ms₂, S₂, hf₂⟩ := h₂
  refine spliced_nil ?_
  have S₃ := S₂.pop2
  obtain ⟨g, ρ, m, G⟩ := S₂
  have t1 := G.tmps _ (.head _)
  have t2 := G.tmps _ (.tail _ (.head _))
  split at hf₂
  · rename_i i k
    obtain ⟨hsm, hsm2, hl, hq⟩ := hf₂
    cases t1; cases t2
    have L : LIM = 1048576 := rfl
    unfold Small at hsm hsm2
    refine call_range_2 ?_
    refine range_run (k := (k - i).toNat) (a := i) (b := k) (st := 1) a (by exact q₁.trans q₂) (by exact S₃.push _) (by exact IsRange.new ..) (small_one (by lia) (by lia) (by lia) (by lia)) ?_ (by lia) hn hs hq
    rw [rangeSize_one]; split <;> lia
  · exact hf₂.elim
/-- how many steps a range goes down -/
theorem down_size (a b : Int) : Builtin.Range.rangeSize a b (-1) = ((a - b).toNat : Int) := by
  have h1 : ¬ ((-1 : Int) > 0) := by decide
  have h2 : (-(-1) : Int) = 1 := rfl
  unfold Builtin.Range.rangeSize
  rw [if_neg h1, h2]
  simp only [Int.ediv_one]
  split <;> lia
theorem down_small {a b : Int} (ha : Small a) (hb : Small b) : Builtin.Range.small a b (-1) = true := by
  have h1 : ¬ ((-1 : Int) > 0) := by decide
  unfold Small at ha hb
  unfold Builtin.Range.small
  rw [down_size]
  simp only [Builtin.Range.rangeFitsLong, Bool.and_eq_true, Bool.or_eq_true, decide_eq_true_eq, beq_iff_eq, h1, if_false]
  have fits : ∀ z : Int, z.natAbs < 2 ^ 61 → -2 ^ 63 ≤ z ∧ z < 2 ^ 63 := fun z h => by omega
  have up : ∀ z : Int, z.natAbs < 2 ^ 60 → z.natAbs < 2 ^ 61 := fun z h => Nat.lt_trans h (by decide)
  exact ⟨⟨⟨⟨fits a (up a ha), fits b (up b hb)⟩, by decide⟩, fits _ (by omega)⟩, .inr (fits (b + 0) (by rw [Int.add_zero]; exact up b hb))⟩

theorem it_rangeD (hB : BaseOk B mg mb) {e1 e2 : Expr} {k1 : Nat} {f1 f2 : T RV} {rp pos p p1 p2 : Pos} {j : Nat} {n : Str} (he : SemE prog w B x e1 f1) (he2 : SemE prog w B x e2 f2) (hst : NoStar e1) (hst2 : NoStar e2) (hk : x.sc.names.lookup (Str.ofString "range") = some .globalImplicit) (hm : mg (Str.ofString "range") = none) (hv : mb (Str.ofString "range") = some (.type "range"))
    (hn : x'.nm[j]? = some n) (hs : n ∉ x'.cn ∨ x'.own = true) : SemIt prog w B x x' (.Name n p) (bind1 j) (.Call (.Name (Str.ofString "range") rp) [e1, e2, .UnaryOp .USub (.Constant (.int 1) k1 p1) p2] [] pos) (tRangeD f1 f2) := fun A c ms tmp s Q a ok hi S hf => by
  refine PyProof.Rows.Call_ (load_blt hB ok S (by rw [hi.kindOf]; exact hk) hm hv ?_ (by decide))
  rw [hst, hst2]
  refine callWith_type rfl (evalArgs_plain (spliced_cons (wpAny_mono (he A c ms tmp s _ a ok hi S hf) (fun v s₁ h₁ => ?_) fun _ _ e => e)))
  obtain ⟨q₁, r, ms₁, S₁, hf₁⟩ := h₁
  refine spliced_cons (wpAny_mono (he2 A c ms₁ _ s₁ _ a ok hi S₁ hf₁) (fun v2 s₂ h₂ => ?_) fun _ _ e => e)
  obtain ⟨q₂, r2, ms₂, S₂, hf₂⟩ := h₂
  refine spliced_cons (wpAny_mono (e_neg (e_int 1 k1 p1) (x := x) (B := B) (prog := prog) (w := w) (pos := p2) A c ms₂ _ s₂ (fun r ms' => r = .val (.int (-1)) ∧ ms' = ms₂) a ok hi S₂ ⟨rfl, rfl⟩) (fun v3 s₃ h₃ => ?_) fun _ _ e => e)
  obtain ⟨q₃, r3, ms₃, S₃, rfl, rfl⟩ := h₃
  refine spliced_nil ?_
  have S₄ := S₃.pop.pop2
  obtain ⟨g, ρ, m, G⟩ := S₃
  have t0 := G.tmps _ (.head _)
  have t1 := G.tmps _ (.tail _ (.head _))
  have t2 := G.tmps _ (.tail _ (.tail _ (.head _)))
  split at hf₂
  · rename_i i k
    obtain ⟨hsm, hsm2, hl, hq⟩ := hf₂
    obtain ⟨_, rfl⟩ := Rep.intI t0
    obtain ⟨_, rfl⟩ := Rep.intI t1
    obtain ⟨_, rfl⟩ := Rep.intI t2
    have L : LIM = 1048576 := rfl
    refine call_range_3 (by decide) ?_ (.inl (PyProof.noPylong_small (by decide)))
    refine range_run (k := (i - k).toNat) (a := i) (b := k) (st := -1) a (by exact (q₁.trans q₂).trans q₃) (by exact S₄.push _) (by exact IsRange.new ..) (down_small hsm hsm2) (down_size i k) (by lia) hn hs hq
  · exact hf₂.elim

theorem it_items {e : Expr} {f : T D} {p : Pos} {j : Nat} {n : Str} (he : SemD prog w B x e f) (hn : x'.nm[j]? = some n) (hs : n ∉ x'.cn ∨ x'.own = true) : SemIt prog w B x x' (.Name n p) (bind1 j) e (tItems f) := fun A c ms tmp s Q a ok hi S hf => by
  refine wpAny_mono (he A c ms tmp s _ a ok hi S hf) (fun v s₁ h₁ => ?_) fun _ _ e => e
  obtain ⟨q₁, d, ms₁, S₁, hf₁⟩ := h₁
  split at hf₁
  · rename_i xs
    obtain ⟨g, ρ, m, G⟩ := S₁
    have t := G.tmps _ (.head _)
    have G2 := G.withTmp (tmp' := tmp) fun q hq => G.tmps q (.tail _ hq)
    obtain ⟨ad, vs, k, rfl, e, l, r⟩ := Rep.lstJ t
    ·
      have hl : s₁.heap.IsList ad vs.toArray := ⟨_, G.gh _ _ e, rfl, k, rfl⟩
      have hlen := r.length
      refine wpAny_pyIter_list hl ?_
      have hne : ad ≠ s₁.heap.objs.size := Nat.ne_of_lt (Heap.lt_size (G.gh _ _ e))
      have W := Walks.list (prog := prog) (w := w) a.handled s₁.heap.objs.size ad hne vs.toArray
      have W' : Walks prog w A s₁.heap.objs.size [s₁.heap.objs.size, ad] [s₁.heap.objs.size] xs.length (fun i v => vs.toArray[i]? = some v) (fun i h => h.IsListIter s₁.heap.objs.size ad i ∧ h.IsList ad vs.toArray) := by
        have : xs.length = vs.toArray.size := by simp [hlen]
        rw [this]; exact W
      refine ⟨q₁, xs, ms₁, g, ρ, m, s₁.heap.objs.size, _, _, _, _, _, rfl, G2.ext fun _ _ e => Heap.get?_push_of_some _ e, It.name W' ?_ ?_ ?_ hn hs, ⟨⟨_, Heap.get?_push_size _ rfl, rfl, rfl⟩, hl.push _⟩, fun b hb => ?_, l, hf₁⟩
      · intro b hb
        simp at hb
        rcases hb with rfl | rfl
        · exact .inl (by simp)
        · exact .inr ⟨_, e⟩
      · intro i h st b hb
        simp at hb; subst hb
        obtain ⟨o, ho, _⟩ := st.1
        exact ⟨o, ho⟩
      · intro i v d hp hd
        obtain ⟨v', hv', hr⟩ := r.get hd
        have hp : vs[i]? = some v := by simpa using hp
        rw [hp] at hv'; cases hv'
        exact hr
      · simp at hb; subst hb; exact G.off (Nat.le_refl _)
  · exact hf₁.elim

theorem it_itemsT {e : Expr} {f : T D} {p : Pos} {j : Nat} {n : Str} (he : SemD prog w B x e f) (hn : x'.nm[j]? = some n) (hs : n ∉ x'.cn ∨ x'.own = true) : SemIt prog w B x x' (.Name n p) (bind1 j) e (tItemsT f) := fun A c ms tmp s Q a ok hi S hf => by
  refine wpAny_mono (he A c ms tmp s _ a ok hi S hf) (fun v s₁ h₁ => ?_) fun _ _ e => e
  obtain ⟨q₁, d, ms₁, S₁, hf₁⟩ := h₁
  split at hf₁
  · rename_i xs
    obtain ⟨g, ρ, m, G⟩ := S₁
    have t := G.tmps _ (.head _)
    have G2 := G.withTmp (tmp' := tmp) fun q hq => G.tmps q (.tail _ hq)
    obtain ⟨ad, vs, k, rfl, e, l, r⟩ := Rep.tupJ t
    ·
      have hl : s₁.heap.IsTuple ad vs.toArray := ⟨_, G.gh _ _ e, rfl, k, rfl⟩
      have hlen := r.length
      refine wpAny_pyIter_tuple hl ?_
      have hne : ad ≠ s₁.heap.objs.size := Nat.ne_of_lt (Heap.lt_size (G.gh _ _ e))
      have W := Walks.tuple (prog := prog) (w := w) a.handled s₁.heap.objs.size ad hne vs.toArray
      have W' : Walks prog w A s₁.heap.objs.size [s₁.heap.objs.size, ad] [s₁.heap.objs.size] xs.length (fun i v => vs.toArray[i]? = some v) (fun i h => h.IsTupleIter s₁.heap.objs.size ad i ∧ h.IsTuple ad vs.toArray) := by
        have : xs.length = vs.toArray.size := by simp [hlen]
        rw [this]; exact W
      refine ⟨q₁, xs, ms₁, g, ρ, m, s₁.heap.objs.size, _, _, _, _, _, rfl, G2.ext fun _ _ e => Heap.get?_push_of_some _ e, It.name W' ?_ ?_ ?_ hn hs, ⟨⟨_, Heap.get?_push_size _ rfl, rfl, rfl⟩, hl.push _⟩, fun b hb => ?_, l, hf₁⟩
      · intro b hb
        simp at hb
        rcases hb with rfl | rfl
        · exact .inl (by simp)
        · exact .inr ⟨_, e⟩
      · intro i h st b hb
        simp at hb; subst hb
        obtain ⟨o, ho, _⟩ := st.1
        exact ⟨o, ho⟩
      · intro i v d hp hd
        obtain ⟨v', hv', hr⟩ := r.get hd
        have hp : vs[i]? = some v := by simpa using hp
        rw [hp] at hv'; cases hv'
        exact hr
      · simp at hb; subst hb; exact G.off (Nat.le_refl _)
  · exact hf₁.elim

theorem it_pairs {e : Expr} {f : T D} {k : Nat} {p : Pos} {es : List Expr} {is : List Nat} {ns : List Str} (he : SemD prog w B x e f) (H : Targets x' es is ns) : SemIt prog w B x x' (.Tuple es k p) (bindT is) e (tItems f) := fun A c ms tmp s Q a ok hi S hf => by
  refine wpAny_mono (he A c ms tmp s _ a ok hi S hf) (fun v s₁ h₁ => ?_) fun _ _ e => e
  obtain ⟨q₁, d, ms₁, S₁, hf₁⟩ := h₁
  split at hf₁
  · rename_i xs
    obtain ⟨g, ρ, m, G⟩ := S₁
    have t := G.tmps _ (.head _)
    have G2 := G.withTmp (tmp' := tmp) fun q hq => G.tmps q (.tail _ hq)
    obtain ⟨ad, vs, kk, rfl, e, l, r⟩ := Rep.lstJ t
    ·
      have hl : s₁.heap.IsList ad vs.toArray := ⟨_, G.gh _ _ e, rfl, kk, rfl⟩
      have hlen := r.length
      refine wpAny_pyIter_list hl ?_
      have hne : ad ≠ s₁.heap.objs.size := Nat.ne_of_lt (Heap.lt_size (G.gh _ _ e))
      refine ⟨q₁, xs, ms₁, g, ρ, m, s₁.heap.objs.size, [s₁.heap.objs.size, ad], [s₁.heap.objs.size], (fun i h => h.IsListIter s₁.heap.objs.size ad i ∧ h.IsList ad vs.toArray), (fun i v h => vs[i]? = some v ∧ h.IsListIter s₁.heap.objs.size ad (i + 1) ∧ h.IsList ad vs.toArray), (fun i v h => vs[i]? = some v), rfl, G2.ext fun _ _ e => Heap.get?_push_of_some _ e, ?_, ⟨⟨_, Heap.get?_push_size _ rfl, rfl, rfl⟩, hl.push _⟩, fun b hb => ?_, l, hf₁⟩
      · have hh := a.handled
        have W := Walks.list (prog := prog) (w := w) a.handled s₁.heap.objs.size ad hne vs.toArray
        refine ⟨?_, ?_, W.frame, ?_, ?_, ?_, ?_, W.self⟩
        · intro b hb
          simp at hb
          rcases hb with rfl | rfl
          · exact .inl (by simp)
          · exact .inr ⟨_, e⟩
        · intro i h st b hb
          simp at hb; subst hb
          obtain ⟨o, ho, _⟩ := st.1
          exact ⟨o, ho⟩
        · intro i s P E hi' st h
          exact W.item i s P E (by simp; lia) st fun v h' tk hp hst hk => h v h' tk ⟨by simpa using hp, hst⟩ hk
        · intro i v s P E hg h
          have hv := hg.1
          obtain ⟨d, hd, hr⟩ := r.get' hv
          cases hr with
          | tup e2 l2 r2 => exact wpAny_letOwnedTupleGo_listiter hg.2.1 (h s.heap hg.2 hv fun _ _ _ e => e)
          | lst e2 l2 r2 => exact wpAny_letOwnedTupleGo_listiter hg.2.1 (h s.heap hg.2 hv fun _ _ _ e => e)
          | fn b => exact wpAny_letOwnedTupleGo_listiter hg.2.1 (h s.heap hg.2 hv fun _ _ _ e => e)
          | none => exact wpAny_pure (h s.heap hg.2 hv fun _ _ _ e => e)
          | bool b => exact wpAny_pure (h s.heap hg.2 hv fun _ _ _ e => e)
          | int b t => exact wpAny_pure (h s.heap hg.2 hv fun _ _ _ e => e)
        · intro i v c ms ms' tmp s d hi' hd hg ok hi'' hsub S hb
          refine unpack_tup H hh ok hi'' ?_ hb
          obtain ⟨g', ρ', m', G'⟩ := S
          refine ⟨g', ρ', m', G'.withTmp fun q hq => ?_⟩
          rcases List.mem_cons.mp hq with rfl | hq
          · obtain ⟨v', hv', hr⟩ := r.get hd
            rw [hg] at hv'; cases hv'
            exact hr.mono (hsub.trans G'.g0)
          · exact G'.tmps q hq
        · intro s P E st h
          refine W.done s P E ?_ h
          have : vs.toArray.size = xs.length := by simp [hlen]
          rw [this]; exact st
      · simp at hb; subst hb; exact G.off (Nat.le_refl _)
  · exact hf₁.elim
end
end Mine
end

section
set_option maxRecDepth 100000
set_option Elab.async false
set_option autoImplicit false
set_option linter.unusedVariables false
namespace Mine
open PySem PySem.Calls

section
variable {prog : Program} {w : World} {B : Heap} {mg mb : Str → Option Value} {x x' : Sx}

theorem enumFrom_len : ∀ (xs : List D) (k : Nat), (enumFrom k xs).length = xs.length
  | [], _ => rfl
  | _ :: xs, k => by simp [enumFrom, enumFrom_len xs]
theorem enumFrom_get : ∀ (xs : List D) (k i : Nat) (d : D), (enumFrom k xs)[i]? = some d → ∃ y, xs[i]? = some y ∧ d = .tup [.int ((k + i : Nat) : Int), y]
  | [], _, i, d, h => by simp [enumFrom] at h
  | y :: xs, k, 0, d, h => by simp [enumFrom] at h; exact ⟨y, rfl, by rw [← h]; simp⟩
  | y :: xs, k, i + 1, d, h => by
    simp only [enumFrom, List.getElem?_cons_succ] at h ⊢
    obtain ⟨z, h1, h2⟩ := enumFrom_get xs (k + 1) i d h
    exact ⟨z, h1, by rw [h2]; congr 4; lia⟩

inductive EnumGot (vs : List Value) (i : Nat) (v : Value) (h : Heap) : Prop
  | mk (T : Addr) (vals : Array Value) (hv : v = .ref T) (hp : ∃ t y, vs.toArray[i]? = some y ∧ vals = #[.int i t, y]) (ht : h.IsTuple T vals)
inductive EnumGet (n ad : Addr) (vs : List Value) (i : Nat) (v : Value) (h : Heap) : Prop
  | mk (T : Addr) (vals : Array Value) (hv : v = .ref T) (hp : ∃ t y, vs.toArray[i]? = some y ∧ vals = #[.int i t, y]) (ht : h.IsTuple T vals) (hm : (∃ y, IsEnumOut h (n + 1) n ((i : Int) + 1) y T) ∧ h.IsListIter n ad (i + 1) ∧ h.IsList ad vs.toArray ∧ T ≠ n + 1 ∧ T ≠ n)
theorem it_enum (hB : BaseOk B mg mb) {e : Expr} {f : T D} {k : Nat} {rp pos p : Pos} {es : List Expr} {is : List Nat} {ns : List Str} (he : SemD prog w B x e f) (hst : NoStar e) (hk : x.sc.names.lookup (Str.ofString "enumerate") = some .globalImplicit) (hm : mg (Str.ofString "enumerate") = none) (hv : mb (Str.ofString "enumerate") = some (.type "enumerate"))
    (H : Targets x' es is ns) (h2 : es.length = 2) : SemIt prog w B x x' (.Tuple es k p) (bindT is) (.Call (.Name (Str.ofString "enumerate") rp) [e] [] pos) (tEnum f) := fun A c ms tmp s Q a ok hi S hf => by
  refine PyProof.Rows.Call_ (load_blt hB ok S (by rw [hi.kindOf]; exact hk) hm hv ?_ (by decide))
  rw [hst]
  refine callWith_type rfl (evalArgs_plain (spliced_cons (wpAny_mono (he A c ms tmp s _ a ok hi S hf) (fun v s₁ h₁ => ?_) fun _ _ e => e)))
  obtain ⟨q₁, d, ms₁, S₁, hf₁⟩ := h₁
  refine spliced_nil ?_
  split at hf₁
  · rename_i xs
    obtain ⟨g, ρ, m, G⟩ := S₁
    have t := G.tmps _ (.head _)
    have G2 := G.withTmp (tmp' := tmp) fun q hq => G.tmps q (.tail _ hq)
    obtain ⟨ad, vs, kk, rfl, e, l, r⟩ := Rep.lstJ t
    ·
      have hl : s₁.heap.IsList ad vs.toArray := ⟨_, G.gh _ _ e, rfl, kk, rfl⟩
      have hlen := r.length
      have had : ad < s₁.heap.objs.size := Heap.lt_size (G.gh _ _ e)
      refine call_enumerate_list hl fun h' hen hit hsz hkp => wpAny_pyIter_enum hen ?_
      have hh := a.handled
      have W := (WalksT.enumerate (prog := prog) (w := w) hh (s₁.heap.objs.size + 1) s₁.heap.objs.size ad (Nat.succ_ne_self _) (Nat.ne_of_lt (Nat.lt_succ_of_lt had)) (Nat.ne_of_lt had) vs.toArray)
      refine ⟨q₁, enumFrom 0 xs, ms₁, g, ρ, m, s₁.heap.objs.size + 1, [s₁.heap.objs.size + 1, s₁.heap.objs.size, ad], [s₁.heap.objs.size + 1, s₁.heap.objs.size], _, (EnumGet s₁.heap.objs.size ad vs),
        (EnumGot vs), rfl, G2.ext hkp, ⟨?_, ?_, W.frame, ?_, ?_, ?_, ?_, fun i s P E st h => let ⟨⟨_, h1⟩, _⟩ := st; wpAny_pyIter_enum h1 h⟩, ⟨⟨_, hen⟩, hit, hl.at fun o e => hkp _ _ e⟩, fun b hb => ?_, by rw [enumFrom_len]; exact l, hf₁⟩
      · intro b hb
        simp at hb
        rcases hb with rfl | rfl | rfl
        · exact .inl (by simp)
        · exact .inl (by simp)
        · exact .inr ⟨_, e⟩
      · intro i h st b hb
        obtain ⟨⟨old, h1⟩, ⟨o, h2, _⟩, _⟩ := st
        simp at hb
        rcases hb with rfl | rfl
        · exact ⟨_, h1⟩
        · exact ⟨_, h2⟩
      · intro i s P E hi' st h
        rw [enumFrom_len] at hi'
        exact W.item i s P E (by simp; lia) st fun T vals h' tk hp hT ht hm hk' => h (.ref T) h' tk ⟨T, vals, rfl, hp, ht, hm⟩ hk'
      · intro i v s P E hg h
        obtain ⟨T, vals, rfl, hp, ht, hm⟩ := hg
        refine W.go es k p i T s P E hm fun h' hst' hk' => h h' hst' ⟨T, vals, rfl, hp, PySem.Heap.IsTuple.at ht fun o e => hk' T o (W.apart i T _ hm) e⟩ hk'
      · intro i v c ms ms' tmp s d hi' hd hg ok hi'' hsub S hb
        obtain ⟨T, vals, rfl, ⟨t, y, hy, rfl⟩, ht⟩ := hg
        obtain ⟨z, hz, rfl⟩ := enumFrom_get xs 0 i d hd
        unfold bindT at hb
        simp only at hb
        obtain ⟨e1, rfl⟩ := bindAll_eq hb
        obtain ⟨t1, t2⟩ := H.length
        refine unpack_run H (vs := [.int i t, y]) hh ok hi'' ht (by rw [h2]; rfl) (by simp; lia) ?_
        obtain ⟨g', ρ', m', G'⟩ := S
        refine ⟨g', ρ', m', G'.withTmp fun q hq => ?_⟩
        obtain ⟨y', hy', hr⟩ := r.get hz
        have hy : vs[i]? = some y := by simpa using hy
        rw [hy] at hy'; cases hy'
        simp only [List.map_cons, List.map_nil, List.zip_cons_cons, List.zip_nil_right, List.cons_append, List.nil_append, List.mem_cons, Nat.zero_add] at hq
        rcases hq with rfl | rfl | hq
        · exact .int _ _
        · exact hr.mono (hsub.trans G'.g0)
        · exact G'.tmps q hq
      · intro s P E st h
        refine W.done s P E ?_ h
        have : vs.toArray.size = (enumFrom 0 xs).length := by rw [enumFrom_len]; simp [hlen]
        rw [this]; exact st
      · simp at hb
        rcases hb with rfl | rfl
        · exact G.off (by lia)
        · exact G.off (Nat.le_refl _)
  · exact hf₁.elim
end
end Mine
end

section
set_option maxRecDepth 100000
set_option Elab.async false
set_option autoImplicit false
set_option linter.unusedVariables false
namespace Mine
open PySem PySem.Calls

/-- there is a def at this address -/
noncomputable def FnIs (B : Heap) (a : Addr) : Prop := ∃ o fd, B.get? a = some o ∧ o.data = .func fd

inductive PurePost (s : Shared) (g : PH) (d : D) (r : Result) (s' : Shared) : Prop
  | mk (q : Same s s') (v : Value) (g' : PH) (hr : r = .ok (.ret v)) (hk : ∀ b o, s.heap.get? b = some o → s'.heap.get? b = some o) (hsub : Sub g g') (hgh : ∀ b o, g' b = some o → s'.heap.get? b = some o) (hfr : ∀ b o, g' b = some o → g b = some o ∨ s.heap.objs.size ≤ b) (hv : Rep g' v d)
inductive MutPost (s : Shared) (g : PH) (l : Addr) (xs' : List D) (d : D) (r : Result) (s' : Shared) : Prop
  | mk (q : Same s s') (v : Value) (g' : PH) (us' : List Value) (n' : Nat) (hr : r = .ok (.ret v)) (hk : ∀ b o, b ≠ l → s.heap.get? b = some o → s'.heap.get? b = some o) (hsub : Sub g g') (hgh : ∀ b o, g' b = some o → s'.heap.get? b = some o) (hfr : ∀ b o, g' b = some o → g b = some o ∨ s.heap.objs.size ≤ b) (hv : Rep g' v d)
    (hl : s'.heap.get? l = some (lstO us' n')) (hx : RepL g' us' xs') (hlen : xs'.length ≤ LIM)
/-- the def at a, a pure one, meets its contract -/
noncomputable def PureOk (prog : Program) (w : World) (B : Heap) (k : Nat) (a : Addr) (K : List D → D → Prop) : Prop :=
  ∀ A (s : Shared) (g : PH) vs ds d, AOk A k → (∀ b o, B.get? b = some o → s.heap.get? b = some o) → Sub B.get? g → (∀ b o, g b = some o → s.heap.get? b = some o) → RepL g vs ds → K ds d →
    codeAny (model prog w) A (.call (.ref a) ⟨vs, []⟩) (PurePost s g d) s
/-- the def at a, which writes its first argument, meets its contract -/
noncomputable def MutOk (prog : Program) (w : World) (B : Heap) (k : Nat) (a : Addr) (K : List D → List D → List D → D → Prop) : Prop :=
  ∀ A (s : Shared) (g : PH) l us n xs vs ds xs' d, AOk A k → (∀ b o, B.get? b = some o → s.heap.get? b = some o) → Sub B.get? g → (∀ b o, g b = some o → s.heap.get? b = some o) → B.get? l = none → g l = none →
    s.heap.get? l = some (lstO us n) → RepL g us xs → xs.length ≤ LIM → RepL g vs ds → K xs ds xs' d →
    codeAny (model prog w) A (.call (.ref a) ⟨.ref l :: vs, []⟩) (MutPost s g l xs' d) s

section
variable {prog : Program} {w : World} {B : Heap} {mg mb : Str → Option Value} {x x' : Sx}

theorem AOk.le {A : Around} {k k' : Nat} (h : AOk A k) (hk : k' ≤ k) : AOk A k' := ⟨h.handled, by have := h.depth; lia, by have := h.units; lia⟩
theorem AOk.deeper {A : Around} {k : Nat} (h : AOk A (k + 1)) (env : Env) : AOk (A.deeper env) k := ⟨h.handled, by
  show A.depth + 1 + k + 100 < _
  have := h.depth; lia, by
  show A.units + 3 + 3 * k + 100 < _
  have := h.units; lia⟩

theorem get_none {h : Heap} {a : Addr} (ha : h.objs.size ≤ a) : h.get? a = none := by
  cases e : h.get? a with
  | none => rfl
  | some o => exact absurd (Heap.lt_size e) (Nat.not_lt.mpr ha)

/-- what is said of a def's text, once -/
structure DefOk (B : Heap) (a : Addr) (fd : FuncData) (body : List Stmt) (pn nm : List Str) : Prop where
  at_ : ∃ o, B.get? a = some o ∧ o.data = .func fd
  code : B.CodeRec fd.code fd.qualname
  body : fd.body = .stmts body
  bind : ∀ vs : List Value, vs.length = pn.length → bindArgs fd ⟨vs, []⟩ = pure (pn.zip vs)
  cell : ∀ y ∈ fd.scope.names, y.2 ≠ .cell
  loc : ∀ n ∈ nm, fd.scope.names.lookup n = some .local
  pre : ∃ more, nm = pn ++ more
  nodup : nm.Nodup
  co : fd.scope.isCoroutine = false
  gen : fd.scope.isGenerator = false
  kind : fd.scope.kind = .function
  glob : fd.globals = mainGlobals
  blt : fd.builtins = builtinsNs
  clos : fd.closure = []

theorem DefOk.fnIs {a : Addr} {fd : FuncData} {body : List Stmt} {pn nm : List Str} (H : DefOk B a fd body pn nm) : FnIs B a := let ⟨o, e, d⟩ := H.at_; ⟨o, fd, e, d⟩

theorem mem_zip_fst {α β : Type} : ∀ {xs : List α} {ys : List β} {p : α × β}, p ∈ xs.zip ys → p.1 ∈ xs
  | x :: xs, y :: ys, p, h => by
    simp only [List.zip_cons_cons, List.mem_cons] at h ⊢
    rcases h with rfl | h
    · exact .inl rfl
    · exact .inr (mem_zip_fst h)
  | [], _, _, h => by simp at h
  | _ :: _, [], _, h => by simp at h

theorem lookup_nodup {l : List (Str × Value)} (hn : (l.map (·.1)).Nodup) {n : Str} {v : Value} (h : (n, v) ∈ l) : l.lookup n = some v := by
  induction l with
  | nil => cases h
  | cons p l ih =>
    simp only [List.map_cons, List.nodup_cons] at hn
    rw [List.lookup_cons]
    rcases List.mem_cons.mp h with rfl | h
    · simp
    · have : (n == p.1) = false := beq_eq_false_iff_ne.mpr fun e => hn.1 (e ▸ List.mem_map_of_mem h)
      rw [this]; exact ih hn.2 h
theorem zip_map_fst {α β : Type} : ∀ (xs : List α) (ys : List β), xs.length = ys.length → (xs.zip ys).map (·.1) = xs
  | [], [], _ => rfl
  | x :: xs, y :: ys, h => by simp [zip_map_fst xs ys (by simpa using h)]
  | [], _ :: _, h => by simp at h
  | _ :: _, [], h => by simp at h
theorem zip_get {α β : Type} : ∀ {xs : List α} {ys : List β} {i : Nat} {x : α} {y : β}, xs[i]? = some x → ys[i]? = some y → (x, y) ∈ xs.zip ys
  | a :: xs, b :: ys, 0, x, y, h, h' => by simp at h h'; subst h h'; simp
  | a :: xs, b :: ys, i + 1, x, y, h, h' => by
    simp only [List.zip_cons_cons, List.mem_cons]
    exact .inr (zip_get (i := i) (by simpa using h) (by simpa using h'))
  | [], _, _, _, _, h, _ => by simp at h
  | _ :: _, [], _, _, _, _, h => by simp at h

theorem pure_of {a : Addr} {fd : FuncData} {body : List Stmt} {pn nm : List Str} {k : Nat} {F : T Fl} {K : List D → D → Prop} {more : Nat} (H : DefOk B a fd body pn nm) (hN : B.NoLimit) (hF : SemSs prog w B ⟨k, fd.scope, nm, 0, [], true⟩ body F)
    (hK : ∀ ds d, K ds d → ds.length = pn.length ∧ Runs F more ds d) : PureOk prog w B (k + 1) a K := by
  intro A s g vs ds d hA hB hBg hg hr hk
  obtain ⟨hlen, hrun⟩ := hK ds d hk
  obtain ⟨o, ho, hd⟩ := H.at_
  have hvl : vs.length = pn.length := hr.length.trans hlen
  obtain ⟨rest, hpre⟩ := H.pre
  have hpnd : pn.Nodup := by have := H.nodup; rw [hpre] at this; exact (List.nodup_append.mp this).1
  refine codeAny_call_def (fd := fd) (body := body) (binds := pn.zip vs) (by have := hA.depth; lia) (hB _ _ ho) hd (hN.keeps hB) (H.code.keeps hB) H.body (BindsTo.of_eq (H.bind vs hvl)) H.cell
    (fun y hy => H.loc _ (hpre ▸ List.mem_append.mpr (.inl (mem_zip_fst hy)))) (fun h₀ hns hk₀ => ?_) H.co H.gen H.kind
  let c : Cx := { H := s.heap.get?, g0 := g, n0 := s.heap.objs.size, priv := fun _ => False, np := 0, env := callEnv fd s.heap.objs.size a, names := nm, vc := [], par := [] }
  have hcell : c.env.cells = [] := H.clos
  have hlk : ∀ y, c.env.cells.lookup y = none := fun y => by rw [hcell]; rfl
  have ok : c.Ok B :=
    { base := hB, baseg := hBg, kind := H.kind, glob := H.glob, blt := H.blt, HL := get_none (Nat.le_refl _), cellH := (fun y ca e => by rw [hlk] at e; cases e), vcH := (fun a ha => by cases ha), inj := (fun y z ca e => by rw [hlk] at e; cases e), privO := (fun a ha => ha.elim), names := H.nodup,
      kinds := (fun i y hy => by rw [hlk]; exact H.loc y (List.mem_of_getElem? hy)) }
  have hi : c.Is ⟨k, fd.scope, nm, 0, [], true⟩ := { sc := rfl, nm := rfl, np := rfl, cn := (by rw [hcell]; rfl), own := (fun _ n ca e => by rw [hlk] at e; cases e) }
  have gL : g s.heap.objs.size = none := by
    cases e : g s.heap.objs.size with
    | none => rfl
    | some o => exact absurd (Heap.lt_size (hg _ _ e)) (Nat.lt_irrefl _)
  have S : St c ⟨ds.map (fun d => some (.val d)) ++ List.replicate more Option.none, []⟩ [] h₀ := by
    refine ⟨g, [], _, { keepH := hk₀, gh := fun b o e => hk₀ b o (hg b o e), g0 := Sub.refl _, fresh := fun b o e => .inl e, ns := hns, gL := gL, Lρ := (fun q => by cases q), vcg := (fun b hb => by cases hb), privg := (fun b hb => hb.elim), len := rfl, nodup := List.nodup_nil, ex := (fun b hb => by cases hb), cells := (fun i cl b e => by simp at e), own := (fun i b _ e => by simp at e), slots := ?_, tmps := (fun p hp => by cases hp), nL := Nat.le_refl _, par := List.prefix_refl _ }⟩
    intro i n r hn hrr
    have hil : i < ds.length := by
      rcases Nat.lt_or_ge i ds.length with q | q
      · exact q
      · exfalso
        have hrr : (ds.map (fun d => some (RV.val d)) ++ List.replicate more Option.none)[i]? = some (some r) := hrr
        rw [List.getElem?_append_right (by simpa using q), List.getElem?_replicate] at hrr
        split at hrr <;> cases hrr
    have hrr : (ds.map (fun d => some (RV.val d)) ++ List.replicate more Option.none)[i]? = some (some r) := hrr
    rw [List.getElem?_append_left (by simpa using hil), List.getElem?_map, List.getElem?_eq_getElem hil] at hrr
    simp at hrr
    subst hrr
    obtain ⟨v, hv, hrep⟩ := hr.get (List.getElem?_eq_getElem hil)
    refine ⟨v, ?_, hrep⟩
    unfold LocIs
    rw [hlk]
    have hn : nm[i]? = some n := hn
    rw [hpre, List.getElem?_append_left (by lia)] at hn
    refine lookup_nodup ?_ (List.mem_reverse.mpr (zip_get hn hv))
    rw [List.map_reverse, zip_map_fst _ _ hvl.symm]
    exact List.pairwise_reverse.mpr (hpnd.imp fun h => h.symm)
  refine up' (hF (A.deeper (callEnv fd s.heap.objs.size a)) c _ [] { s with heap := h₀, toks := s.toks + (pn.zip vs).length } _ (hA.deeper _) ok hi S hrun) fun fl s' h => ?_
  obtain ⟨q, h⟩ := h
  have fin : ∀ (g' : PH) ρ m ms tmp v, SG c ms tmp s'.heap g' ρ m → Rep g' v d → PurePost s g d (.ok (.ret v)) s' :=
    fun g' ρ m ms tmp v G hv => ⟨q, v, g', rfl, G.keepH, G.g0, G.gh, G.fresh, hv⟩
  cases fl with
  | next =>
    obtain ⟨ms', ⟨g', ρ, m, G⟩, h⟩ := h
    rcases h with h | ⟨_, h⟩
    · cases h
    · subst h; exact fin g' ρ m _ _ .none G .none
  | ret v =>
    obtain ⟨d', ms', ⟨g', ρ, m, G⟩, h⟩ := h
    rcases h with h | ⟨h, _⟩
    · cases h; exact fin g' ρ m _ _ v G (G.tmps _ (.head _))
    · cases h
  | brk => exact h.elim
  | cont => exact h.elim

theorem mut_of {a : Addr} {fd : FuncData} {body : List Stmt} {p0 : Str} {pn nm : List Str} {k : Nat} {F : T Fl} {K : List D → List D → List D → D → Prop} {more : Nat} (H : DefOk B a fd body (p0 :: pn) nm) (hN : B.NoLimit) (hF : SemSs prog w B ⟨k, fd.scope, nm, 1, [], true⟩ body F)
    (hK : ∀ xs ds xs' d, K xs ds xs' d → ds.length = pn.length ∧ xs'.length ≤ LIM ∧ RunsM F more xs ds xs' d) : MutOk prog w B (k + 1) a K := by
  intro A s g l us n xs vs ds xs' d hA hB hBg hg hBl hgl hl hus hxl hr hk
  obtain ⟨hlen, hxl', hrun⟩ := hK xs ds xs' d hk
  obtain ⟨o, ho, hd⟩ := H.at_
  have hvl : vs.length = pn.length := hr.length.trans hlen
  obtain ⟨rest, hpre⟩ := H.pre
  have hpnd : (p0 :: pn).Nodup := by have := H.nodup; rw [hpre] at this; exact (List.nodup_append.mp this).1
  refine codeAny_call_def (fd := fd) (body := body) (binds := (p0 :: pn).zip (.ref l :: vs)) (by have := hA.depth; lia) (hB _ _ ho) hd (hN.keeps hB) (H.code.keeps hB) H.body (BindsTo.of_eq (H.bind (.ref l :: vs) (by simp [hvl]))) H.cell
    (fun y hy => H.loc _ (hpre ▸ List.mem_append.mpr (.inl (mem_zip_fst hy)))) (fun h₀ hns hk₀ => ?_) H.co H.gen H.kind
  let c : Cx := { H := fun b => if b = l then none else s.heap.get? b, g0 := g, n0 := s.heap.objs.size, priv := fun _ => False, np := 1, env := callEnv fd s.heap.objs.size a, names := nm, vc := [], par := [l] }
  have hcell : c.env.cells = [] := H.clos
  have hlk : ∀ y, c.env.cells.lookup y = none := fun y => by rw [hcell]; rfl
  have hll : l < s.heap.objs.size := Heap.lt_size hl
  have ok : c.Ok B :=
    { base := (fun b o e => by
        show (if b = l then _ else _) = _
        rw [if_neg (fun q => by rw [q, hBl] at e; cases e)]; exact hB b o e),
      baseg := hBg, kind := H.kind, glob := H.glob, blt := H.blt,
      HL := (by
        show (if s.heap.objs.size = l then _ else _) = _
        rw [if_neg (Nat.ne_of_gt hll)]; exact get_none (Nat.le_refl _)),
      cellH := (fun y ca e => by rw [hlk] at e; cases e), vcH := (fun a ha => by cases ha), inj := (fun y z ca e => by rw [hlk] at e; cases e), privO := (fun a ha => ha.elim), names := H.nodup,
      kinds := (fun i y hy => by rw [hlk]; exact H.loc y (List.mem_of_getElem? hy)) }
  have hi : c.Is ⟨k, fd.scope, nm, 1, [], true⟩ := { sc := rfl, nm := rfl, np := rfl, cn := (by rw [hcell]; rfl), own := (fun _ n ca e => by rw [hlk] at e; cases e) }
  have gL : g s.heap.objs.size = none := by
    cases e : g s.heap.objs.size with
    | none => rfl
    | some o => exact absurd (Heap.lt_size (hg _ _ e)) (Nat.lt_irrefl _)
  have S : St c ⟨some (.ptr 0) :: (ds.map (fun d => some (.val d)) ++ List.replicate more Option.none), [.lst xs]⟩ [] h₀ := by
    refine ⟨g, [l], _, { keepH := (fun b o e => by
        have e : (if b = l then none else s.heap.get? b) = some o := e
        split at e
        · cases e
        · exact hk₀ b o e), gh := fun b o e => hk₀ b o (hg b o e), g0 := Sub.refl _, fresh := fun b o e => .inl e, ns := hns, gL := gL, Lρ := (fun q => by
        have : s.heap.objs.size = l := List.mem_singleton.mp q
        exact absurd hll (Nat.not_lt.mpr (Nat.le_of_eq this))), vcg := (fun b hb => by cases hb), privg := (fun b hb => hb.elim), len := rfl, nodup := (by simp), ex := (fun b hb => by
        have : b = l := by simpa using hb
        subst this; exact ⟨_, hk₀ _ _ hl⟩), cells := ?_, own := ?_, slots := ?_, tmps := (fun p hp => by cases hp), nL := Nat.le_refl _, par := List.prefix_refl _ }⟩
    · intro i cl b e1 e2
      cases i with
      | zero =>
        simp at e1 e2; subst e1 e2
        exact ⟨hgl, if_pos rfl, hxl, us, n, hk₀ _ _ hl, hus⟩
      | succ i => simp at e2
    · intro i b hb e
      cases i with
      | zero => exact absurd hb (Nat.not_succ_le_zero 0)
      | succ i => simp at e
    intro i nn r hn hrr
    cases i with
    | zero =>
      have hrr : some (some (RV.ptr 0)) = some (some r) := hrr
      cases hrr
      refine ⟨.ref l, ?_, l, rfl, rfl⟩
      unfold LocIs
      rw [hlk]
      have hn : nm[0]? = some nn := hn
      rw [hpre] at hn
      simp at hn; subst hn
      refine lookup_nodup ?_ (List.mem_reverse.mpr (by simp))
      rw [List.map_reverse, zip_map_fst _ _ (by simp [hvl])]
      exact List.pairwise_reverse.mpr (hpnd.imp fun h => h.symm)
    | succ i =>
      have hrr : (ds.map (fun d => some (RV.val d)) ++ List.replicate more Option.none)[i]? = some (some r) := hrr
      have hil : i < ds.length := by
        rcases Nat.lt_or_ge i ds.length with q | q
        · exact q
        · exfalso
          rw [List.getElem?_append_right (by simpa using q), List.getElem?_replicate] at hrr
          split at hrr <;> cases hrr
      rw [List.getElem?_append_left (by simpa using hil), List.getElem?_map, List.getElem?_eq_getElem hil] at hrr
      simp at hrr
      subst hrr
      obtain ⟨v, hv, hrep⟩ := hr.get (List.getElem?_eq_getElem hil)
      refine ⟨v, ?_, hrep⟩
      unfold LocIs
      rw [hlk]
      have hn : nm[i + 1]? = some nn := hn
      rw [hpre, List.getElem?_append_left (by simp; lia)] at hn
      refine lookup_nodup ?_ (List.mem_reverse.mpr (zip_get hn (by simpa using hv)))
      rw [List.map_reverse, zip_map_fst _ _ (by simp [hvl])]
      exact List.pairwise_reverse.mpr (hpnd.imp fun h => h.symm)
  refine up' (hF (A.deeper (callEnv fd s.heap.objs.size a)) c _ [] { s with heap := h₀, toks := s.toks + ((p0 :: pn).zip (.ref l :: vs)).length } _ (hA.deeper _) ok hi S hrun) fun fl s' h => ?_
  obtain ⟨q, h⟩ := h
  have fin : ∀ (g' : PH) ρ m ms tmp v, SG c ms tmp s'.heap g' ρ m → Rep g' v d → ms.cs[0]? = some (.lst xs') → (∃ l', ρ[0]? = some l' ∧ l' = l) → MutPost s g l xs' d (.ok (.ret v)) s' :=
    fun g' ρ m ms tmp v G hv hc hl' => by
      obtain ⟨l', e1, e2⟩ := hl'
      subst e2
      obtain ⟨_, _, hz, us', n', ho', hr'⟩ := G.cells 0 _ _ hc e1
      exact ⟨q, v, g', us', n', rfl, fun b o hb e => G.keepH b o (by show (if b = _ then _ else _) = _; rw [if_neg hb]; exact e), G.g0, G.gh, G.fresh, hv, ho', hr', hz⟩
  have top : ∀ (g' : PH) ρ m ms tmp, SG c ms tmp s'.heap g' ρ m → ∃ l', ρ[0]? = some l' ∧ l' = l := fun g' ρ m ms tmp G => by
    obtain ⟨t, ht⟩ := G.par
    rw [← ht]
    exact ⟨l, rfl, rfl⟩
  cases fl with
  | next =>
    obtain ⟨ms', ⟨g', ρ, m, G⟩, h, hc⟩ := h
    rcases h with h | ⟨_, h⟩
    · cases h
    · subst h; exact fin g' ρ m _ _ .none G .none hc (top _ _ _ _ _ G)
  | ret v =>
    obtain ⟨d', ms', ⟨g', ρ, m, G⟩, h, hc⟩ := h
    rcases h with h | ⟨h, _⟩
    · cases h; exact fin g' ρ m _ _ v G (G.tmps _ (.head _)) hc (top _ _ _ _ _ G)
    · cases h
  | brk => exact h.elim
  | cont => exact h.elim
end
end Mine
end

section
set_option maxRecDepth 100000
set_option Elab.async false
set_option autoImplicit false
set_option linter.unusedVariables false
namespace Mine
open PySem PySem.Calls

section
variable {prog : Program} {w : World} {B : Heap} {mg mb : Str → Option Value} {x x' : Sx}

theorem SG.base {c : Cx} {ms : MS} {tmp : List (Value × RV)} {h : Heap} {g : PH} {ρ : List Addr} {m : Str → Option Value} (ok : c.Ok B) (G : SG c ms tmp h g ρ m) : ∀ b o, B.get? b = some o → h.get? b = some o := fun b o e => G.keepH b o (ok.base b o e)

/-- the arguments of a call, at least one -/
theorem call_args {e : Expr} {es : List Expr} {fs : List (T D)} {f : Value} (H : SemArgs prog w B x (e :: es) fs) (hst : NoStar e) (pos : Pos) {A : Around} {c : Cx} {ms : MS} {tmp : List (Value × RV)} {s : Shared} {Q : List D → MS → Prop} {P : Args → Shared → Prop}
    (a : AOk A x.k) (ok : c.Ok B) (hi : c.Is x) (S : St c ms tmp s.heap) (hf : tArgs fs ms Q)
    (h : ∀ vs s₁ ds ms₁, Same s s₁ → vs.length = ds.length → St c ms₁ (vs.zip (ds.map .val) ++ tmp) s₁.heap → Q ds ms₁ → P ⟨vs, []⟩ s₁) :
    wpAny (model prog w) A (evalArgs f true (backTo pos (starEach (e :: es) c.env)) []) P NoE s := by
  have hx := args_run H pos A c ms tmp s Q a ok hi S hf
  rw [hst] at hx ⊢
  refine evalArgs_plain (wpAny_mono hx (fun vs s₁ h₁ => ?_) fun _ _ e => e)
  obtain ⟨q, ds, ms₁, l1, l2, S₁, hq⟩ := h₁
  exact h vs s₁ ds ms₁ q (l1.trans l2.symm) S₁ hq

/-- behind the arguments -/
theorem pure_run {a : Addr} {K : List D → D → Prop} (hP : PureOk prog w B x.k a K) {A : Around} {c : Cx} {ms : MS} {tmp : List (Value × RV)} {s s₀ : Shared} {Q : RV → MS → Prop} {vs : List Value} {ds : List D} {d : D} (hA : AOk A x.k) (ok : c.Ok B) (q : Same s₀ s) (hl : vs.length = ds.length)
    (S : St c ms (vs.zip (ds.map .val) ++ tmp) s.heap) (hK : K ds d) (hq : Q (.val d) ms) : wpAny (model prog w) A (call (.ref a) vs) (PostV c tmp s₀ Q) NoE s := by
  obtain ⟨g, ρ, m, G⟩ := S
  refine wpAny_call (codeAny_mono (hP A s g vs ds d hA (G.base ok) (ok.baseg.trans G.g0) G.gh (G.repL hl) hK) fun r s' h => ?_)
  obtain ⟨q', v, g', rfl, hk, hs, gh', fr', hr⟩ := h
  refine ⟨q.trans q', .val d, ms, ⟨g', ρ, m, (G.grow hk hs gh' fr').withTmp fun p hp => ?_⟩, hq⟩
  rcases List.mem_cons.mp hp with rfl | hp
  · exact hr
  · exact (G.tmps p (List.mem_append.mpr (.inr hp))).mono hs

theorem e_call (hB : BaseOk B mg mb) {n : Str} {p pos : Pos} {e : Expr} {es : List Expr} {fs : List (T D)} {a : Addr} {K : List D → D → Prop} (H : SemArgs prog w B x (e :: es) fs) (hst : NoStar e) (hk : x.sc.names.lookup n = some .globalImplicit) (hv : mg n = some (.ref a)) (hd : (n == ("__debug__" : Str)) = false)
    (hfn : FnIs B a) (hP : PureOk prog w B x.k a K) : SemE prog w B x (.Call (.Name n p) (e :: es) [] pos) (tCall K fs) := fun A c ms tmp s Q hA ok hi S hf => by
  obtain ⟨o, fd, ho, hdt⟩ := hfn
  refine PyProof.Rows.Call_ (load_glob hB ok S (by rw [hi.kindOf]; exact hk) hv ?_ hd)
  refine callWith_function (o := o) (fd := fd) (call_args H hst pos hA ok hi S hf fun vs s₁ ds ms₁ q hl S₁ hq => ?_)
  obtain ⟨d, hK, hq⟩ := hq
  refine ⟨⟨?_, hdt⟩, pure_run hP hA ok q hl S₁ hK hq⟩
  obtain ⟨g, ρ, m, G⟩ := S₁
  exact G.base ok _ _ ho

theorem e_callV {i : Nat} {n : Str} {p pos : Pos} {e : Expr} {es : List Expr} {fs : List (T D)} {as : List Nat} {K : Nat → List D → D → Prop} (H : SemArgs prog w B x (e :: es) fs) (hst : NoStar e) (hn : x.nm[i]? = some n) (hd : (n == ("__debug__" : Str)) = false)
    (hfn : ∀ a ∈ as, FnIs B a ∧ PureOk prog w B x.k a (K a)) : SemE prog w B x (.Call (.Name n p) (e :: es) [] pos) (tCallV as K i fs) := fun A c ms tmp s Q hA ok hi S hf => by
  unfold tCallV at hf
  split at hf
  · rename_i a hr
    obtain ⟨ha, hf⟩ := hf
    obtain ⟨⟨o, fd, ho, hdt⟩, hP⟩ := hfn a ha
    refine PyProof.Rows.Call_ (wpAny_Name (load_var ok S (hi.nm ▸ hn) hr fun v S' => ?_) hd)
    have hv : v = .ref a := by
      obtain ⟨g, ρ, m, G⟩ := S'
      cases G.tmps _ (.head _); rfl
    subst hv
    refine callWith_function (o := o) (fd := fd) (call_args H hst pos hA ok hi S hf fun vs s₁ ds ms₁ q hl S₁ hq => ?_)
    obtain ⟨d, hK, hq⟩ := hq
    refine ⟨⟨?_, hdt⟩, pure_run hP hA ok q hl S₁ hK hq⟩
    obtain ⟨g, ρ, m, G⟩ := S₁
    exact G.base ok _ _ ho
  · exact hf.elim

theorem flat_rep {g : PH} {v : Value} {d : D} (hd : d.flat) (h : Rep g v d) (g' : PH) : Rep g' v d := by
  cases h with
  | none => exact .none
  | bool b => exact .bool b
  | int i t => exact .int i t
  | fn a => exact hd.elim
  | tup _ _ _ => exact hd.elim
  | lst _ _ _ => exact hd.elim

/-- the first argument is a name; the others as they come -/
theorem call_args1 {i : Nat} {n : Str} {np : Pos} {es : List Expr} {fs : List (T D)} {f : Value} (H : SemArgs prog w B x es fs) (pos : Pos) {A : Around} {c : Cx} {ms : MS} {tmp : List (Value × RV)} {s : Shared} {Q : List D → MS → Prop} {P : Args → Shared → Prop} {r : RV}
    (a : AOk A x.k) (ok : c.Ok B) (hi : c.Is x) (S : St c ms tmp s.heap) (hn : x.nm[i]? = some n) (hr : ms.fr[i]? = some (some r)) (hd : (n == ("__debug__" : Str)) = false) (hf : tArgs fs ms Q)
    (h : ∀ v vs s₁ ds ms₁, Same s s₁ → vs.length = ds.length → St c ms₁ (vs.zip (ds.map .val) ++ (v, r) :: tmp) s₁.heap → Q ds ms₁ → P ⟨v :: vs, []⟩ s₁) :
    wpAny (model prog w) A (evalArgs f true (backTo pos (starEach (.Name n np :: es) c.env)) []) P NoE s := by
  refine evalArgs_plain (spliced_cons (wpAny_Name (load_var ok S (hi.nm ▸ hn) hr fun v S' => ?_) hd))
  refine wpAny_mono (args_run H pos A c ms _ s Q a ok hi S' hf) (fun vs s₁ h₁ => ?_) fun _ _ e => e
  obtain ⟨q, ds, ms₁, l1, l2, S₁, hq⟩ := h₁
  exact h v vs s₁ ds ms₁ q (l1.trans l2.symm) S₁ hq

theorem e_callL (hB : BaseOk B mg mb) {i : Nat} {n m0 : Str} {np p pos : Pos} {es : List Expr} {fs : List (T D)} {a : Addr} {K : List D → D → Prop} (H : SemArgs prog w B x es fs) (hn : x.nm[i]? = some m0) (hd0 : (m0 == ("__debug__" : Str)) = false) (hk : x.sc.names.lookup n = some .globalImplicit) (hv : mg n = some (.ref a)) (hd : (n == ("__debug__" : Str)) = false)
    (hfn : FnIs B a) (hP : PureOk prog w B x.k a K) : SemE prog w B x (.Call (.Name n p) (.Name m0 np :: es) [] pos) (tCallL K i fs) := fun A c ms tmp s Q hA ok hi S hf => by
  obtain ⟨o, fd, ho, hdt⟩ := hfn
  unfold tCallL at hf
  split at hf
  · rename_i r hr
    refine PyProof.Rows.Call_ (load_glob hB ok S (by rw [hi.kindOf]; exact hk) hv ?_ hd)
    refine callWith_function (o := o) (fd := fd) (call_args1 H pos hA ok hi S hn hr hd0 hf fun v vs s₁ ds ms₁ q hl S₁ hq => ?_)
    obtain ⟨g, ρ, m, G⟩ := S₁
    refine ⟨⟨G.base ok _ _ ho, hdt⟩, ?_⟩
    split at hq
    · rename_i xs hx
      obtain ⟨d, hK, hfl, hq⟩ := hq
      obtain ⟨l, us, k, rfl, hl', hus, hz⟩ := G.look (G.tmps _ (List.mem_append.mpr (.inr (.head _)))) hx
      have hsub : Sub g fun b => if b = l then s₁.heap.get? l else g b := fun b o e => by
        show (if b = l then _ else _) = _
        by_cases hb : b = l
        · rw [if_pos hb, ← hb]; exact G.gh b o e
        · rw [if_neg hb]; exact e
      refine wpAny_call (codeAny_mono (hP A s₁ (fun b => if b = l then s₁.heap.get? l else g b) (.ref l :: vs) (.lst xs :: ds) d hA (G.base ok) ((ok.baseg.trans G.g0).trans hsub) (fun b o e => ?_) (.cons (.lst ((if_pos rfl).trans hl') hz (hus.mono hsub)) ((G.repL hl).mono hsub)) hK) fun r s' h => ?_)
      · have e : (if b = l then s₁.heap.get? l else g b) = some o := e
        by_cases hb : b = l
        · rw [if_pos hb] at e; rw [hb]; exact e
        · rw [if_neg hb] at e; exact G.gh b o e
      · obtain ⟨q', v, g', rfl, hk, hs, gh', fr', hr'⟩ := h
        refine ⟨q.trans q', .val d, ms₁, ⟨g, ρ, m, (G.ext hk).withTmp fun p hp => ?_⟩, hq⟩
        rcases List.mem_cons.mp hp with rfl | hp
        · exact flat_rep hfl hr' g
        · exact G.tmps p (List.mem_append.mpr (.inr (.tail _ hp)))
    · exact hq.elim
  · exact hf.elim

theorem e_callM (hB : BaseOk B mg mb) {i : Nat} {n m0 : Str} {np p pos : Pos} {es : List Expr} {fs : List (T D)} {a : Addr} {K : List D → List D → List D → D → Prop} (H : SemArgs prog w B x es fs) (hn : x.nm[i]? = some m0) (hd0 : (m0 == ("__debug__" : Str)) = false) (hk : x.sc.names.lookup n = some .globalImplicit) (hv : mg n = some (.ref a)) (hd : (n == ("__debug__" : Str)) = false)
    (hfn : FnIs B a) (hP : MutOk prog w B x.k a K) : SemE prog w B x (.Call (.Name n p) (.Name m0 np :: es) [] pos) (tCallM K i fs) := fun A c ms tmp s Q hA ok hi S hf => by
  obtain ⟨o, fd, ho, hdt⟩ := hfn
  unfold tCallM at hf
  split at hf
  · rename_i j hr
    refine PyProof.Rows.Call_ (load_glob hB ok S (by rw [hi.kindOf]; exact hk) hv ?_ hd)
    refine callWith_function (o := o) (fd := fd) (call_args1 H pos hA ok hi S hn hr hd0 hf fun v vs s₁ ds ms₁ q hl S₁ hq => ?_)
    obtain ⟨g, ρ, m, G⟩ := S₁
    refine ⟨⟨G.base ok _ _ ho, hdt⟩, ?_⟩
    split at hq
    · rename_i xs hx
      obtain ⟨xs', d, hK, hq⟩ := hq
      obtain ⟨l, ha, e⟩ := G.tmps _ (List.mem_append.mpr (.inr (.head _)))
      have e : v = .ref l := e
      subst e
      obtain ⟨hgl, hHl, hz, us, k, hl', hus⟩ := G.cells j _ l hx ha
      have hBl : B.get? l = none := by
        cases e : B.get? l with
        | none => rfl
        | some o => have := ok.base _ _ e; rw [hHl] at this; cases this
      refine wpAny_call (codeAny_mono (hP A s₁ g l us k xs vs ds xs' d hA (G.base ok) (ok.baseg.trans G.g0) G.gh hBl hgl hl' hus hz (G.repL hl) hK) fun r s' h => ?_)
      obtain ⟨q', v, g', us', k', rfl, hk', hs, gh', fr', hr', hl'', hus', hz'⟩ := h
      have G1 := G.upd (h' := s'.heap) (cl' := .dead) ok hx ha (by intro z; cases z) hk' ⟨_, hl''⟩ fun _ _ => trivial
      have hll : l < s₁.heap.objs.size := Heap.lt_size hl'
      have no : ∀ b, b < s₁.heap.objs.size → g b = none → g' b = none := fun b hlt hg => by
        cases e : g' b with
        | none => rfl
        | some o =>
          rcases fr' b o e with e1 | e1
          · rw [hg] at e1; cases e1
          · exact absurd hlt (Nat.not_lt.mpr e1)
      have G2 : SG c (ms₁.setC j .dead) (vs.zip (ds.map .val) ++ (.ref l, .ptr j) :: tmp) s'.heap g' ρ m := G1.regrow hs gh' (fun a o e => (fr' a o e).imp id fun z => Nat.le_trans G.size z) (no _ G.L_lt G.gL) (fun b hb => no b (let ⟨_, e⟩ := (G.vcg b hb).2.2; e.lt) (G.vcg b hb).1)
        (fun b hb => no b (let ⟨_, e⟩ := (G.privg b hb).2.2; Heap.lt_size e) (G.privg b hb).1) (fun t cl b e1 e2 hdd => no b (G.lt b (List.mem_of_getElem? e2)) (by
          have e1 : (ms₁.cs.set j .dead)[t]? = some cl := e1
          rw [List.getElem?_set] at e1
          split at e1
          · split at e1
            · cases e1; exact absurd rfl hdd
            · cases e1
          · have := G.cells t cl b e1 e2
            cases cl with
            | lst _ => exact this.1
            | dict _ => exact this.1
            | dead => exact absurd rfl hdd))
      refine ⟨q.trans q', .val d, ms₁.setC j (.lst xs'), ⟨g', ρ, m, ?_⟩, hq⟩
      have hjl : j < ms₁.cs.length := (List.getElem?_eq_some_iff.mp hx).1
      refine { G2 with len := (by simp [MS.setC, G.len]), cells := ?_, tmps := ?_ }
      · intro t cl b e1 e2
        have e3 : (ms₁.cs.set j (.lst xs'))[t]? = some cl := e1
        by_cases q : t = j
        · subst q
          rw [List.getElem?_set_self hjl] at e3
          cases e3
          rw [ha] at e2; cases e2
          exact ⟨no l hll hgl, hHl, hz', us', k', hl'', hus'⟩
        · rw [List.getElem?_set_ne (Ne.symm q)] at e3
          refine G2.cells t cl b ?_ e2
          show (ms₁.cs.set j .dead)[t]? = some cl
          rw [List.getElem?_set_ne (Ne.symm q)]; exact e3
      · intro p hp
        rcases List.mem_cons.mp hp with rfl | hp
        · exact hr'
        · exact G2.tmps p (List.mem_append.mpr (.inr (.tail _ hp)))
    · exact hq.elim
  · exact hf.elim

-- a call for its deed
theorem s_do {e : Expr} {pos : Pos} {f : T RV} (he : SemE prog w B x e f) (hint : ∀ env : Env, env.scope = x.sc → interactive env = false) (hs : ∀ env, swapsWith e none pos.line env = pure false) :
    SemS prog w B x (.Expr e pos) (tDo f) := fun A c ms tmp s Q a ok hi S hf => by
  refine wpAny_Expr (wpAny_mono (he A c ms tmp s _ a ok hi S hf) (fun v s₁ h₁ => ?_) fun _ _ e => e) (hint _ hi.sc) (hs _)
  obtain ⟨q, r, ms₁, S₁, rfl, hq⟩ := h₁
  have S₂ := S₁.pop
  obtain ⟨g, ρ, m, G⟩ := S₁
  cases G.tmps _ (.head _)
  exact ⟨q, ms₁, S₂, hq⟩
end
end Mine
end

section
set_option maxRecDepth 100000
set_option Elab.async false
set_option autoImplicit false
set_option linter.unusedVariables false
namespace Mine
open PySem PySem.Calls

/-- a list at an address of its own joins the cells -/
theorem SG.addAt {c : Cx} {ms : MS} {tmp : List (Value × RV)} {h : Heap} {g : PH} {ρ : List Addr} {m : Str → Option Value} (S : SG c ms tmp h g ρ m) {a : Addr} {us : List Value} {n : Nat} {xs : List D} (off : Off c g ρ a) (hn : c.n0 ≤ a) (ho : h.get? a = some (lstO us n)) (hr : RepL g us xs) (hl : xs.length ≤ LIM) :
    St c (ms.addC (.lst xs)) ((.ref a, .ptr ms.cs.length) :: tmp) h := by
  have ge : ∀ {i : Nat} {b : Addr}, ρ[i]? = some b → (ρ ++ [a])[i]? = some b := fun {i b} e => by
    rw [List.getElem?_append_left (List.getElem?_eq_some_iff.mp e).1]; exact e
  have rv : ∀ {v : Value} {r : RV}, RVRep g ρ v r → RVRep g (ρ ++ [a]) v r := fun {v r} q => by
    cases r with
    | val d => exact q
    | ptr i => obtain ⟨b, e, q⟩ := q; exact ⟨b, ge e, q⟩
  have last : ∀ {i : Nat} {b : Addr}, (ρ ++ [a])[i]? = some b → ρ[i]? = some b ∨ (i = ρ.length ∧ b = a) := fun {i b} e => by
    by_cases hi : i < ρ.length
    · rw [List.getElem?_append_left hi] at e; exact .inl e
    · have hlen : i < (ρ ++ [a]).length := (List.getElem?_eq_some_iff.mp e).1
      have hi' : i = ρ.length := by simp at hlen; omega
      subst hi'
      simp at e; exact .inr ⟨rfl, e.symm⟩
  have memρ : ∀ {b : Addr}, b ∈ ρ ++ [a] → b ∈ ρ ∨ b = a := fun {b} q => (List.mem_append.mp q).imp id List.mem_singleton.mp
  refine ⟨g, ρ ++ [a], m, { S with Lρ := ?_, vcg := ?_, privg := ?_, len := ?_, nodup := ?_, ex := ?_, cells := ?_, own := ?_, slots := ?_, tmps := ?_, par := S.par.trans (List.prefix_append _ _) }⟩
  · intro q
    rcases memρ q with q | q
    · exact S.Lρ q
    · exact off.L q.symm
  · intro b hb
    refine ⟨(S.vcg b hb).1, fun q => ?_, (S.vcg b hb).2.2⟩
    rcases memρ q with q | q
    · exact (S.vcg b hb).2.1 q
    · exact off.vc (q ▸ hb)
  · intro b hb
    refine ⟨(S.privg b hb).1, fun q => ?_, (S.privg b hb).2.2⟩
    rcases memρ q with q | q
    · exact (S.privg b hb).2.1 q
    · exact off.priv (q ▸ hb)
  · simp [MS.addC, S.len]
  · rw [List.nodup_append]
    refine ⟨S.nodup, by simp, fun b hb d hd => ?_⟩
    rw [List.mem_singleton.mp hd]; exact fun q => off.ρ (q ▸ hb)
  · intro b hb
    rcases memρ hb with q | q
    · exact S.ex b q
    · rw [q]; exact ⟨_, ho⟩
  · intro i cl b e1 e2
    have e1 : (ms.cs ++ [Cell.lst xs])[i]? = some cl := e1
    rcases last e2 with e2 | ⟨rfl, rfl⟩
    · have hi := (List.getElem?_eq_some_iff.mp e2).1
      rw [List.getElem?_append_left (S.len ▸ hi)] at e1
      exact S.cells i cl b e1 e2
    · rw [S.len] at e1; simp at e1; subst e1
      exact ⟨off.g, off.H, hl, us, n, ho, hr⟩
  · intro i b hi e2
    rcases last e2 with e2 | ⟨rfl, rfl⟩
    · exact S.own i b hi e2
    · exact hn
  · intro i y r e1 e2
    obtain ⟨v, l, q⟩ := S.slots i y r e1 e2
    exact ⟨v, l, rv q⟩
  · intro p hp
    rcases List.mem_cons.mp hp with rfl | hp
    · exact ⟨a, by rw [← S.len]; simp, rfl⟩
    · exact rv (S.tmps p hp)

/-- a list at an address of its own is frozen -/
theorem SG.frzAt {c : Cx} {ms : MS} {tmp : List (Value × RV)} {h : Heap} {g : PH} {ρ : List Addr} {m : Str → Option Value} (S : SG c ms tmp h g ρ m) {a : Addr} {us : List Value} {n : Nat} {xs : List D} (off : Off c g ρ a) (hn : c.n0 ≤ a) (ho : h.get? a = some (lstO us n)) (hr : RepL g us xs) (hl : xs.length ≤ LIM) :
    St c ms ((.ref a, .val (.lst xs)) :: tmp) h := by
  have hsub : Sub g fun b => if b = a then some (lstO us n) else g b := fun b o e => (if_neg (fun q => by rw [q, off.g] at e; cases e)).trans e
  have no : ∀ b, b ≠ a → g b = none → (if b = a then some (lstO us n) else g b) = none := fun b h1 h2 => (if_neg h1).trans h2
  refine ⟨fun b => if b = a then some (lstO us n) else g b, ρ, m, (S.regrow hsub (fun b o e => ?_) (fun b o e => ?_) (no _ off.L.symm S.gL) (fun b hb => no b (fun q => off.vc (q ▸ hb)) (S.vcg b hb).1) (fun b hb => no b (fun q => off.priv (q ▸ hb)) (S.privg b hb).1)
    (fun i cl b e1 e2 hd => no b (fun q => off.ρ (q ▸ List.mem_of_getElem? e2)) ?_)).withTmp fun p hp => ?_⟩
  · have e : (if b = a then some (lstO us n) else g b) = some o := e
    by_cases q : b = a
    · rw [if_pos q] at e; cases e; rw [q]; exact ho
    · rw [if_neg q] at e; exact S.gh b o e
  · have e : (if b = a then some (lstO us n) else g b) = some o := e
    by_cases q : b = a
    · exact .inr (q ▸ hn)
    · rw [if_neg q] at e; exact .inl e
  · have := S.cells i cl b e1 e2
    cases cl with
    | lst _ => exact this.1
    | dict _ => exact this.1
    | dead => exact absurd rfl hd
  · rcases List.mem_cons.mp hp with rfl | hp
    · exact .lst (if_pos rfl) hl (hr.mono hsub)
    · exact (S.tmps p hp).mono hsub

section
variable {prog : Program} {w : World} {B : Heap} {mg mb : Str → Option Value} {x x' : Sx}

/-- a comprehension's tests -/
inductive SemTests (prog : Program) (w : World) (B : Heap) (x : Sx) : List Expr → T Bool → Prop
  | none : SemTests prog w B x [] tTrue
  | one {e : Expr} {f : T Bool} : SemB prog w B x e f → SemTests prog w B x [e] f

theorem tests_run {ifs : List Expr} {f : T Bool} (H : SemTests prog w B x ifs f) {A : Around} {c : Cx} {ms : MS} {tmp : List (Value × RV)} {s : Shared} {Q : Bool → MS → Prop} (a : AOk A x.k) (ok : c.Ok B) (hi : c.Is x) (S : St c ms tmp s.heap) (hf : f ms Q) :
    wpAny (model prog w) A (forIn ifs true fun t r => if r = true then do let ok ← isTrue t c.env (eval t c.env); pure (ForInStep.yield ok) else pure (ForInStep.yield r)) (PostB c tmp s Q) NoE s := by
  cases H with
  | none => exact wpAny_tests_nil ⟨Same.refl _, ms, S, hf⟩
  | one h => exact wpAny_tests_one (h A c ms tmp s Q a ok hi S hf)

theorem comp_loop {elt target iter : Expr} {ifs : List Expr} {scope : Scope} {pos : Pos} {it acc : Value} {env : Env} {A : Around} {R : Result → Shared → Prop} (I : Nat → Shared → Prop)
    (turn : ∀ n s, I n s → wpAny (model prog w) A (pyNext it) (fun r s₁ => match r with
      | none => R (.ok .next) s₁
      | some v => wpAny (model prog w) A (letOwnedTupleGo target it v) (fun _ s₀ => wpAny (model prog w) A (assign target env v) (fun _ s₂ =>
          wpAny (model prog w) A (forIn ifs true fun c r => if r = true then do let ok ← isTrue c env (eval c env); pure (ForInStep.yield ok) else pure (ForInStep.yield r)) (fun ok s₃ => if ok = true then wpAny (model prog w) A (eval elt env) (fun x s₄ =>
            wpAny (model prog w) A (call (.builtin "list.append") [acc, x]) (fun _ s₅ => ∃ m, m < n ∧ I m s₅) NoE s₄) NoE s₃
            else ∃ m, m < n ∧ I m s₃) NoE s₂) NoE s₀) NoE s₁) NoE s)
    (n : Nat) {s : Shared} (h : I n s) : codeAny (model prog w) A (.compLoop (.ListComp elt [⟨target, iter, ifs, 0⟩] scope pos) 0 it acc env) R s := by
  refine codeAny_loop rfl I (fun n s hI => ?_) n h
  show wpAny _ A ((compTurn (.ListComp elt [⟨target, iter, ifs, 0⟩] scope pos) 0 it acc env).onRaise (fun x => do noteFrame x env; theTreesLotGoes x)) _ _ s
  refine wpAny_noted ?_
  rw [compTurn_list]
  refine wpAny_bind (wpAny_standAt (wpAny_bind (up' (turn n s hI) fun r s₁ h₁ => ?_)))
  cases r with
  | none => exact wpAny_pure h₁
  | some v =>
    refine wpAny_bind (up' h₁ fun _ s₀ h₀' => ?_)
    refine wpAny_bind (up' h₀' fun _ s₂ h₂ => ?_)
    refine wpAny_bind (up' h₂ fun okb s₃ h₃ => ?_)
    cases okb with
    | false => exact wpAny_pure ⟨rfl, h₃⟩
    | true => exact wpAny_bind (wpAny_bind (up' h₃ fun x s₄ h₄ => wpAny_bind (up' h₄ fun _ s₅ h₅ => wpAny_pure (wpAny_pure ⟨rfl, h₅⟩))))

-- the names of a comprehension
noncomputable def frees (names : List (Str × NameKind)) : List Str := ((names.filter fun y => y.2 == .free).map (·.1)).reverse

theorem closure_go {env : Env} : ∀ (names : List (Str × NameKind)) (cs : List (Str × Addr)), (∀ y ∈ names, y.2 = .free → ∃ ca, env.cells.lookup y.1 = some ca) →
    ∃ cl : List (Str × Addr), cl.map (·.1) = frees names ∧ (∀ n ca, (n, ca) ∈ cl → env.cells.lookup n = some ca) ∧
      (forIn names cs fun (y : Str × NameKind) r => if (y.2 == .free) = true then do let a ← cellOf env y.1; pure (ForInStep.yield ((y.1, a) :: r)) else pure (ForInStep.yield r)) = (pure (cl ++ cs) : Sem _)
  | [], cs, _ => ⟨[], rfl, (fun _ _ h => absurd h (List.not_mem_nil)), rfl⟩
  | y :: r, cs, h => by
    have hr := fun z hz => h z (List.mem_cons_of_mem _ hz)
    by_cases hy : y.2 = .free
    · obtain ⟨ca, e⟩ := h y List.mem_cons_self hy
      obtain ⟨cl, h1, h2, h3⟩ := closure_go r ((y.1, ca) :: cs) hr
      refine ⟨cl ++ [(y.1, ca)], ?_, ?_, ?_⟩
      · simp [frees, hy] at h1 ⊢; rw [h1]
      · intro n a hm
        rcases List.mem_append.mp hm with q | q
        · exact h2 n a q
        · cases List.mem_singleton.mp q; exact e
      · rw [List.forIn_cons]
        have : (y.2 == NameKind.free) = true := by simp [hy]
        simp only [this, if_true]
        have hc : cellOf env y.1 = pure ca := by unfold cellOf; rw [e]
        rw [hc]
        show (forIn r ((y.1, ca) :: cs) _ : Sem _) = _
        rw [h3]; simp
    · obtain ⟨cl, h1, h2, h3⟩ := closure_go r cs hr
      refine ⟨cl, ?_, h2, ?_⟩
      · simp [frees, hy] at h1 ⊢; exact h1
      · rw [List.forIn_cons]
        have : (y.2 == NameKind.free) = false := by simp [hy]
        simp only [this, Bool.false_eq_true, if_false]
        show (forIn r cs _ : Sem _) = _
        exact h3

theorem closure_is {scope : Scope} {env : Env} (h : ∀ y ∈ scope.names, y.2 = .free → ∃ ca, env.cells.lookup y.1 = some ca) :
    ∃ cl : List (Str × Addr), cl.map (·.1) = frees scope.names ∧ (∀ n ca, (n, ca) ∈ cl → env.cells.lookup n = some ca) ∧ closureFor scope env = pure cl := by
  obtain ⟨cl, h1, h2, h3⟩ := closure_go (env := env) scope.names [] h
  refine ⟨cl, h1, h2, ?_⟩
  rw [List.append_nil] at h3
  simp only [closureFor]
  show (forIn scope.names [] _ : Sem _) >>= _ = _
  rw [h3]; rfl
end
end Mine
end

section
set_option maxRecDepth 100000
set_option Elab.async false
set_option autoImplicit false
set_option linter.unusedVariables false
namespace Mine
open PySem PySem.Calls

noncomputable def relab (scope : Scope) (x : Sx) : Scope :=
  { scope with names := scope.names.map fun (n, k) => if (k == .free && x.sc.names.lookup n == some .cell) then (n, .cell) else (n, k) }
/-- what is fixed of a comprehension while it runs -/
noncomputable def Sx.comp (x : Sx) (scope : Scope) (tgn capn : List Str) : Sx := ⟨x.k, relab scope x, tgn ++ capn, x.np, frees scope.names, false⟩

structure CompOk (x : Sx) (scope : Scope) (tgn capn : List Str) (cap : List Nat) : Prop where
  free : ∀ n ∈ frees scope.names, n ∈ x.cn
  hcell : ∀ y ∈ scope.names, y.2 ≠ .cell
  kind : scope.kind = .function
  names : ∀ y ∈ scope.names, y.2 = .local → scope.names.lookup y.1 = some .local
  nodup : (tgn ++ capn).Nodup
  kinds : ∀ n ∈ tgn ++ capn, (relab scope x).names.lookup n = some (if n ∈ frees scope.names then .cell else .local)
  cap : capn.map some = cap.map (x.nm[·]?)
  capf : ∀ n ∈ capn, n ∈ frees scope.names

noncomputable def Cx.comp (c : Cx) (cl : List (Str × Addr)) (C : Addr) (scope : Scope) (names : List Str) (g : PH) (h : Heap) (ρ wr : List Addr) : Cx where
  H := fun b => if b ∈ wr then none else if b ∈ ρ then c.H b else h.get? b
  g0 := g
  n0 := c.n0
  priv := fun b => c.priv b ∨ b = c.env.locals ∨ b ∈ c.vc
  np := c.np
  env := compEnvC scope cl C c.env
  names := names
  vc := []
  par := ρ

theorem lookup_some {cl : List (Str × Addr)} {n : Str} {ca : Addr} (h : cl.lookup n = some ca) : (n, ca) ∈ cl := by
  induction cl with
  | nil => cases h
  | cons p r ih =>
    rw [List.lookup_cons] at h
    cases e : n == p.1 with
    | true =>
      rw [e] at h
      have : n = p.1 := eq_of_beq e
      cases h; rw [this]; exact List.mem_cons_self
    | false => rw [e] at h; exact List.mem_cons_of_mem _ (ih h)
theorem lookup_mem {cl : List (Str × Addr)} {n : Str} (h : n ∈ cl.map (·.1)) : ∃ ca, cl.lookup n = some ca := by
  cases e : cl.lookup n with
  | some ca => exact ⟨ca, rfl⟩
  | none =>
    exfalso
    induction cl with
    | nil => cases h
    | cons p r ih =>
      rw [List.lookup_cons] at e
      cases e' : n == p.1 with
      | true => rw [e'] at e; cases e
      | false =>
        rw [e'] at e
        rcases List.mem_cons.mp h with q | q
        · rw [q] at e'; simp at e'
        · exact ih q e

section
variable {prog : Program} {w : World} {B : Heap} {mg mb : Str → Option Value} {x x' : Sx}
variable {c : Cx} {ms ms' : MS} {tmp : List (Value × RV)} {h h₁ h' : Heap} {g g' : PH} {ρ ρ' wr : List Addr} {m m₁ m' : Str → Option Value} {cl : List (Str × Addr)} {C : Addr} {scope : Scope} {tgn capn : List Str} {cap : List Nat}

theorem relabel_is (ok : c.Ok B) (hi : c.Is x) : relabel scope c.env = relab scope x := by
  unfold relabel relab
  have : ∀ n, c.env.kindOf n = x.sc.names.lookup n := fun n => hi.kindOf n
  congr 1
  refine List.map_congr_left fun y _ => ?_
  obtain ⟨n, k⟩ := y
  simp only [ok.kind, this, beq_self_eq_true, Bool.and_true]

theorem comp_is (ok : c.Ok B) (hi : c.Is x) (hcl : cl.map (·.1) = frees scope.names) : (c.comp cl C scope (tgn ++ capn) g h ρ wr).Is (x.comp scope tgn capn) :=
  { sc := relabel_is ok hi, nm := rfl, np := hi.np, cn := hcl, own := (fun e => by cases e) }

theorem comp_ok (ok : c.Ok B) (hi : c.Is x) (K : CompOk x scope tgn capn cap) (G : SG c ms tmp h g ρ m) (hoff : ∀ b ∈ wr, Off c g ρ b) (hC : h.objs.size ≤ C)
    (hcl : cl.map (·.1) = frees scope.names) (hcl2 : ∀ n ca, (n, ca) ∈ cl → c.env.cells.lookup n = some ca) : (c.comp cl C scope (tgn ++ capn) g h ρ wr).Ok B := by
  have hH : ∀ b o, c.H b = some o → (c.comp cl C scope (tgn ++ capn) g h ρ wr).H b = some o := fun b o e => by
    show (if b ∈ wr then none else if b ∈ ρ then c.H b else h.get? b) = _
    rw [if_neg (fun q => by rw [(hoff b q).H] at e; cases e)]
    split
    · exact e
    · exact G.keepH b o e
  have hold : ∀ b o, b ∉ wr → b ∉ ρ → h.get? b = some o → (c.comp cl C scope (tgn ++ capn) g h ρ wr).H b = some o := fun b o h1 h2 e => by
    show (if b ∈ wr then none else if b ∈ ρ then c.H b else h.get? b) = _
    rw [if_neg h1, if_neg h2]; exact e
  refine { base := fun a o e => hH a o (ok.base a o e), baseg := ok.baseg.trans G.g0, kind := K.kind, glob := ok.glob, blt := ok.blt, HL := ?_, cellH := ?_, vcH := (fun a ha => by cases ha), inj := (fun _ _ _ _ _ ha => by cases ha), privO := ?_, names := K.nodup, kinds := ?_ }
  · show (if C ∈ wr then none else if C ∈ ρ then c.H C else h.get? C) = none
    split
    · rfl
    · split
      · exact (G.off hC).H
      · exact get_none hC
  · intro y ca e
    refine .inr ?_
    rcases ok.cellH y ca (hcl2 y ca (lookup_some e)) with q | ⟨o, q⟩
    · obtain ⟨_, h2, v₀, o, h3, _⟩ := G.vcg ca q
      exact ⟨o, hold ca o (fun z => (hoff ca z).vc q) h2 h3⟩
    · exact ⟨o, hH ca o q⟩
  · rintro a (q | q | q)
    · obtain ⟨o, e⟩ := ok.privO a q; exact ⟨o, hH a o e⟩
    · rw [q]
      obtain ⟨o, _, _, e, _⟩ := G.ns
      exact ⟨o, hold _ o (fun z => (hoff _ z).L rfl) G.Lρ e⟩
    · obtain ⟨_, h2, v₀, o, h3, _⟩ := G.vcg a q
      exact ⟨o, hold a o (fun z => (hoff a z).vc q) h2 h3⟩
  · intro i y hy
    have hk := K.kinds y (List.mem_of_getElem? hy)
    show (relabel scope c.env).names.lookup y = some (if (cl.lookup y).isSome then .cell else .local)
    rw [relabel_is ok hi, hk]
    congr 1
    by_cases q : y ∈ frees scope.names
    · obtain ⟨ca, e⟩ := lookup_mem (cl := cl) (hcl ▸ q)
      rw [if_pos q, e]; rfl
    · rw [if_neg q, lookup_none (by rw [hcl]; exact q)]; rfl

theorem comp_in (hi : c.Is x) (K : CompOk x scope tgn capn cap) (G : SG c ms tmp h g ρ m) (hoff : ∀ b ∈ wr, Off c g ρ b) (hC : h.objs.size ≤ C) (hk : ∀ b o, h.get? b = some o → h₁.get? b = some o) (hns : h₁.Ns C m₁)
    (hcl : cl.map (·.1) = frees scope.names) (hcl2 : ∀ n ca, (n, ca) ∈ cl → c.env.cells.lookup n = some ca) : SG (c.comp cl C scope (tgn ++ capn) g h ρ wr) ⟨mkFr tgn.length cap ms.fr, ms.cs⟩ tmp h₁ g ρ m₁ := by
  have hCo := G.off hC
  refine { keepH := ?_, gh := fun a o e => hk _ _ (G.gh a o e), g0 := Sub.refl _, fresh := fun a o e => .inl e, ns := hns, gL := hCo.g, Lρ := hCo.ρ, vcg := (fun a ha => by cases ha), privg := ?_, len := G.len, nodup := G.nodup,
           ex := fun a ha => let ⟨o, e⟩ := G.ex a ha; ⟨o, hk _ _ e⟩, cells := ?_, own := G.own, slots := ?_, tmps := G.tmps, nL := Nat.le_trans G.size hC, par := List.prefix_refl _ }
  · intro a o e
    have e : (if a ∈ wr then none else if a ∈ ρ then c.H a else h.get? a) = some o := e
    split at e
    · cases e
    · split at e
      · exact hk _ _ (G.keepH a o e)
      · exact hk _ _ e
  · rintro a (q | q | q)
    · obtain ⟨h1, h2, o, e⟩ := G.privg a q; exact ⟨h1, h2, o, hk _ _ e⟩
    · rw [q]
      obtain ⟨o, _, _, e, _⟩ := G.ns
      exact ⟨G.gL, G.Lρ, o, hk _ _ e⟩
    · obtain ⟨h1, h2, v₀, o, e, _⟩ := G.vcg a q; exact ⟨h1, h2, o, hk _ _ e⟩
  · intro i cl' a e1 e2
    have := (G.cells i cl' a e1 e2).keeps (h' := h₁) fun o e => hk _ _ e
    have ha : a ∈ ρ := List.mem_of_getElem? e2
    have hH : ∀ (z : c.H a = none), (if a ∈ wr then none else if a ∈ ρ then c.H a else h.get? a) = none := fun z => by rw [if_pos ha, z]; split <;> rfl
    cases cl' with
    | lst xs => exact ⟨this.1, hH this.2.1, this.2.2⟩
    | dict kv => exact ⟨this.1, hH this.2.1, this.2.2⟩
    | dead => trivial
  · intro i n r hn hr
    have hn : (tgn ++ capn)[i]? = some n := hn
    have hr : (List.replicate tgn.length Option.none ++ cap.map (pick ms.fr))[i]? = some (some r) := hr
    have hit : tgn.length ≤ i := by
      rcases Nat.lt_or_ge i tgn.length with q | q
      · rw [List.getElem?_append_left (by simpa using q), List.getElem?_replicate, if_pos q] at hr; cases hr
      · exact q
    rw [List.getElem?_append_right hit] at hn
    rw [List.getElem?_append_right (by simpa using hit), List.length_replicate, List.getElem?_map] at hr
    have hcm : (capn.map some)[i - tgn.length]? = (cap.map (x.nm[·]?))[i - tgn.length]? := by rw [K.cap]
    rw [List.getElem?_map, List.getElem?_map, hn] at hcm
    cases hj : cap[i - tgn.length]? with
    | none => rw [hj] at hr; cases hr
    | some j =>
      rw [hj] at hr hcm
      have hnj : x.nm[j]? = some n := by simpa using hcm.symm
      have hrj : ms.fr[j]? = some (some r) := by
        have hr : pick ms.fr j = some r := by simpa using hr
        unfold pick at hr
        split at hr
        · rename_i r' e; rw [e, hr]
        · cases hr
      obtain ⟨v, l, q⟩ := G.slots j n r (by rw [hi.nm]; exact hnj) hrj
      refine ⟨v, ?_, q⟩
      obtain ⟨ca, e⟩ := lookup_mem (cl := cl) (hcl ▸ K.capf n (List.mem_of_getElem? hn))
      have e' := hcl2 n ca (lookup_some e)
      unfold LocIs at l ⊢
      rw [e'] at l
      show (match cl.lookup n with | none => _ | some ca => _)
      rw [e]
      exact Heap.IsCell.keeps l hk

theorem comp_out (ok : c.Ok B) (G : SG c ms tmp h g ρ m) (hoff : ∀ b ∈ wr, Off c g ρ b) (G' : SG (c.comp cl C scope (tgn ++ capn) g h ρ wr) ms' tmp h' g' ρ' m') :
    SG c ⟨ms.fr, ms'.cs.take ms.cs.length⟩ tmp h' g' ρ m := by
  have hold : ∀ b o, b ∉ wr → b ∉ ρ → h.get? b = some o → h'.get? b = some o := fun b o h1 h2 e => G'.keepH b o (by
    show (if b ∈ wr then none else if b ∈ ρ then c.H b else h.get? b) = _
    rw [if_neg h1, if_neg h2]; exact e)
  have hH : ∀ b o, c.H b = some o → h'.get? b = some o := fun b o e => G'.keepH b o (by
    show (if b ∈ wr then none else if b ∈ ρ then c.H b else h.get? b) = _
    rw [if_neg (fun q => by rw [(hoff b q).H] at e; cases e)]
    split
    · exact e
    · exact G.keepH b o e)
  obtain ⟨t, ht⟩ := G'.par
  have ht : ρ ++ t = ρ' := ht
  have hLw : c.env.locals ∉ wr := fun z => (hoff _ z).L rfl
  have pL := G'.privg c.env.locals (.inr (.inl rfl))
  have sub : Sub g g' := G'.g0
  have len' : ρ.length ≤ ms'.cs.length := by rw [← G'.len, ← ht]; simp
  refine { keepH := hH, gh := G'.gh, g0 := G.g0.trans sub, fresh := fun a o e => (G'.fresh a o e).elim (G.fresh a o) .inr, ns := G.ns.at' fun o e => hold _ o hLw G.Lρ e, gL := pL.1, Lρ := G.Lρ, vcg := ?_, privg := ?_, len := ?_, nodup := G.nodup,
           ex := fun a ha => G'.ex a (by rw [← ht]; exact List.mem_append.mpr (.inl ha)), cells := ?_, own := G.own, slots := ?_, tmps := fun p hp => (G.tmps p hp).mono sub, nL := G.nL, par := G.par }
  · intro a ha
    obtain ⟨h1, h2, v₀, o, e, e'⟩ := G.vcg a ha
    exact ⟨(G'.privg a (.inr (.inr ha))).1, h2, v₀, o, hold a o (fun z => (hoff a z).vc ha) h2 e, e'⟩
  · intro a ha
    obtain ⟨h1, h2, o, e⟩ := G.privg a ha
    exact ⟨(G'.privg a (.inl ha)).1, h2, o, hold a o (fun z => (hoff a z).priv ha) h2 e⟩
  · rw [List.length_take, ← G.len]; lia
  · intro i cl' a e1 e2
    have e1 : (ms'.cs.take ms.cs.length)[i]? = some cl' := e1
    rw [List.getElem?_take] at e1
    split at e1
    · have e3 : ρ'[i]? = some a := by rw [← ht, List.getElem?_append_left (List.getElem?_eq_some_iff.mp e2).1]; exact e2
      have := G'.cells i cl' a e1 e3
      have ha : a ∈ ρ := List.mem_of_getElem? e2
      have haw : a ∉ wr := fun z => (hoff a z).ρ ha
      have hH' : ∀ (z : (if a ∈ wr then none else if a ∈ ρ then c.H a else h.get? a) = none), c.H a = none := fun z => by rw [if_neg haw, if_pos ha] at z; exact z
      cases cl' with
      | lst xs => exact ⟨this.1, hH' this.2.1, this.2.2⟩
      | dict kv => exact ⟨this.1, hH' this.2.1, this.2.2⟩
      | dead => trivial
    · cases e1
  · intro i n r hn hr
    obtain ⟨v, l, q⟩ := G.slots i n r hn hr
    refine ⟨v, ?_, q.mono sub⟩
    unfold LocIs at l ⊢
    cases e : c.env.cells.lookup n with
    | none => rw [e] at l; exact l
    | some ca =>
      rw [e] at l
      obtain ⟨o, e1, e2⟩ := l
      refine ⟨o, ?_, e2⟩
      rcases ok.cellH n ca e with w | ⟨o', w⟩
      · exact hold ca o (fun z => (hoff ca z).vc w) (G.vcg ca w).2.1 e1
      · have := G.keepH ca o' w
        rw [e1] at this; cases this
        exact hH ca o w
end
end Mine
end

section
set_option maxRecDepth 100000
set_option Elab.async false
set_option autoImplicit false
set_option linter.unusedVariables false
namespace Mine
open PySem PySem.Calls

section
variable {prog : Program} {w : World} {B : Heap} {mg mb : Str → Option Value} {x : Sx}

inductive CompInv (c₁ : Cx) (tmp : List (Value × RV)) (s : Shared) (D0 : Addr) (wr : List Addr) (ds : List D) (g₂ : PH) (Stt : Nat → Heap → Prop) (bind : D → MS → Option MS) (cond : T Bool) (el : T D) (Q : List D → MS → Prop) (k : Nat) (s' : Shared) : Prop
  | mk (q : Same s s') (i : Nat) (msi : MS) (g : PH) (ρ' : List Addr) (m' : Str → Option Value) (ys : List Value) (acc : List D) (hk : k = ds.length + 1 - i) (hi : i ≤ ds.length) (G : SG c₁ msi tmp s'.heap g ρ' m') (hsub : Sub g₂ g) (hoff : ∀ b ∈ D0 :: wr, Off c₁ g ρ' b) (hst : Stt i s'.heap)
    (hD : s'.heap.PlainList D0 (List.toArray ys)) (hys : RepL g ys acc) (hal : acc.length ≤ i) (hf : compGo bind cond el (ds.drop i) acc msi Q)
theorem comp_core {elt target iter : Expr} {ifs : List Expr} {scope : Scope} {pos : Pos} {bind : D → MS → Option MS} {f : T (List D)} {cond : T Bool} {el : T D} {tgn capn : List Str} {cap : List Nat}
    (he : SemIt prog w B x (x.comp scope tgn capn) target bind iter f) (ht : SemTests prog w B (x.comp scope tgn capn) ifs cond) (hl : SemD prog w B (x.comp scope tgn capn) elt el) (K : CompOk x scope tgn capn cap)
    {A : Around} {c : Cx} {ms : MS} {tmp : List (Value × RV)} {s : Shared} {Q : List D → MS → Prop} (a : AOk A x.k) (ok : c.Ok B) (hi : c.Is x) (S : St c ms tmp s.heap) (hf : tComp f tgn.length cap bind cond el ms Q)
    {RR : Value → Addr → Result → Shared → Prop} {cl : List (Str × Addr)} (hcl : cl.map (·.1) = frees scope.names) (hcl2 : ∀ n ca, (n, ca) ∈ cl → c.env.cells.lookup n = some ca)
    (hRR : ∀ Da C s' ms' g ρ m mC us n out, Same s s' → SG c ms' tmp s'.heap g ρ m → Off c g ρ Da → c.n0 ≤ Da → s'.heap.get? Da = some (lstO us n) → RepL g us out → out.length ≤ LIM → Off c g ρ C → Da ≠ C → s'.heap.Ns C mC → Q out ms' → RR (.ref Da) C (.ok .next) s') :
    wpAny (model prog w) A (eval iter c.env) (fun xv s₁ => wpAny (model prog w) A (pyIter xv) (fun it s₂ => wpAny (model prog w) A (newList []) (fun acc s₃ =>
      wpAny (model prog w) A (newFunctionEnv scope c.env.globals cl [] c.env.qual none .none (some c.env)) (fun cenv s₄ =>
        codeAny (model prog w) A (.compStart (.ListComp elt [⟨target, iter, ifs, 0⟩] scope pos) 0 it acc { cenv with scope := relabel scope c.env }) (RR acc cenv.locals) s₄) NoE s₃) NoE s₂) NoE s₁) NoE s := by
  refine up' (he A c ms tmp s _ a ok hi S hf) fun xv s₁ h₁ => up' h₁ fun it s₂ h₂ => ?_
  obtain ⟨q₂, ds, ms₂, g₂, ρ₂, m₂, I, fp, wr, Stt, Get, Got, rfl, G₂, W, hst, hoff, hlim, hf₂⟩ := h₂
  have hex₂ := W.ex 0 _ hst
  refine wpAny_newObj_type (wpAny_newFunctionEnv K.hcell (by intro y hy; simp at hy) (fun h₁ hns₁ hsb₁ => ?_) K.kind)
  dsimp only at hns₁ hsb₁ ⊢
  generalize hH2 : s₂.heap.push { cls := .type "list", dict := none, data := .seq ([] : List Value).toArray } = H2 at hns₁ hsb₁ ⊢
  have hC : H2.objs.size = s₂.heap.objs.size + 1 := by rw [← hH2, Heap.size_push]
  have hDC : s₂.heap.objs.size ≠ H2.objs.size := by rw [hC]; exact Nat.ne_of_lt (Nat.lt_succ_self _)
  have hCle : s₂.heap.objs.size ≤ H2.objs.size := by rw [hC]; exact Nat.le_succ _
  have old : ∀ b o, s₂.heap.get? b = some o → h₁.get? b = some o := fun b o e => hsb₁.extBut b o (fun q => by have := Heap.lt_size e; rw [q, hC] at this; exact Nat.lt_irrefl _ (Nat.lt_of_succ_lt this)) (Heap.get?_push_of_some _ (hH2 ▸ Heap.get?_push_of_some _ e))
  have hacc : h₁.PlainList s₂.heap.objs.size #[] := ⟨_, hsb₁.extBut _ _ hDC (Heap.get?_push_of_some _ (hH2 ▸ Heap.get?_push_size _ rfl))⟩
  generalize hc₁ : c.comp cl H2.objs.size scope (tgn ++ capn) g₂ s₂.heap ρ₂ wr = c₁
  have ok₁ : c₁.Ok B := hc₁ ▸ comp_ok ok hi K G₂ hoff hCle hcl hcl2
  have is₁ : c₁.Is (x.comp scope tgn capn) := hc₁ ▸ comp_is ok hi hcl
  have G₁ : SG c₁ ⟨mkFr tgn.length cap ms₂.fr, ms₂.cs⟩ tmp h₁ g₂ ρ₂ _ := hc₁ ▸ comp_in hi K G₂ hoff hCle old hns₁ hcl hcl2
  have henv : c₁.env = compEnvC scope cl H2.objs.size c.env := hc₁ ▸ rfl
  have hloc : c₁.env.locals = H2.objs.size := by rw [henv]; rfl
  have hDw : s₂.heap.objs.size ∉ wr := fun q => by obtain ⟨o, e⟩ := hex₂ _ q; exact absurd (Heap.lt_size e) (Nat.lt_irrefl _)
  have hoff₁ : ∀ b ∈ s₂.heap.objs.size :: wr, Off c₁ g₂ ρ₂ b := by
    intro b hb
    have gen : ∀ b, Off c g₂ ρ₂ b → b ≠ H2.objs.size → (if b ∈ wr then none else if b ∈ ρ₂ then c.H b else s₂.heap.get? b) = none → Off c₁ g₂ ρ₂ b := fun b o hne hh => by
      refine ⟨o.g, o.ρ, by rw [hloc]; exact hne, ?_, ?_, ?_⟩
      · rw [← hc₁]; intro q; cases q
      · rw [← hc₁]; rintro (q | q | q)
        · exact o.priv q
        · exact o.L q
        · exact o.vc q
      · rw [← hc₁]; exact hh
    rcases List.mem_cons.mp hb with rfl | hb
    · have o := G₂.off (Nat.le_refl s₂.heap.objs.size)
      exact gen _ o hDC (by rw [if_neg hDw, if_neg o.ρ]; exact get_none (Nat.le_refl _))
    · obtain ⟨o, e⟩ := hex₂ _ hb
      exact gen _ (hoff b hb) (fun q => by have := Heap.lt_size e; rw [q, hC] at this; exact Nat.lt_irrefl _ (Nat.lt_of_succ_lt this)) (if_pos hb)
  have loop : ∀ s₃ : Shared, s₃ = { s₂ with heap := h₁, toks := s₂.toks + ([] : List (Str × Value)).length } →
      codeAny (model prog w) A (.compLoop (.ListComp elt [⟨target, iter, ifs, 0⟩] scope pos) 0 (.ref I) (.ref s₂.heap.objs.size) c₁.env) (RR (.ref s₂.heap.objs.size) H2.objs.size) s₃ := by
    rintro s₃ rfl
    refine comp_loop (CompInv c₁ tmp s s₂.heap.objs.size wr ds g₂ Stt bind cond el fun out ms2 => Q out ⟨ms₂.fr, ms2.cs.take ms₂.cs.length⟩) ?_ (ds.length + 1)
      ⟨q₂, 0, _, g₂, ρ₂, _, [], [], rfl, Nat.zero_le _, G₁, Sub.refl _, hoff₁, W.frame _ _ _ hst fun b _ o e => old b o e, hacc, .nil, Nat.le_refl _, hf₂⟩
    rintro k s' ⟨q', i, msi, g, ρ', m', ys, acc, rfl, hle, G', hsub, hoff', hst', hD', hys, hal, hf'⟩
    by_cases hlt : i < ds.length
    · refine W.next i s' _ _ hlt hst' fun v h₃ tk₃ hget hk₃ => ?_
      refine W.go i v _ _ _ hget fun h₄ hst₄ hgot hk₄ => ?_
      have up₄ : ∀ b o, b ∉ wr → s'.heap.get? b = some o → h₄.get? b = some o := fun b o hb e => hk₄ b o hb (hk₃ b o hb e)
      have G₄ : SG c₁ msi tmp h₄ g ρ' m' := G'.offs ok₁ (fun b hb => hoff' b (.tail _ hb)) up₄
      have hD₄ : h₄.PlainList s₂.heap.objs.size (List.toArray ys) := let ⟨n, e⟩ := hD'; ⟨n, up₄ _ _ hDw e⟩
      have he₄ : ∀ b ∈ s₂.heap.objs.size :: wr, ∃ o, h₄.get? b = some o := fun b hb => by
        rcases List.mem_cons.mp hb with rfl | hb
        · obtain ⟨n, e⟩ := hD₄; exact ⟨_, e⟩
        · exact W.ex _ _ hst₄ b hb
      have ok₄ := Cx.inLoop_ok ok₁ G₄ hoff' he₄
      have is₄ : (c₁.inLoop g h₄ (s₂.heap.objs.size :: wr)).Is (x.comp scope tgn capn) := Cx.inLoop_is is₁
      have S₄ : St (c₁.inLoop g h₄ (s₂.heap.objs.size :: wr)) msi tmp h₄ := ⟨g, ρ', m', G₄.toLoop hoff' he₄⟩
      obtain ⟨d, hd⟩ : ∃ d, ds[i]? = some d := ⟨ds[i], List.getElem?_eq_getElem hlt⟩
      have hdrop : ds.drop i = d :: ds.drop (i + 1) := by
        have : ds[i] = d := by rw [List.getElem?_eq_getElem hlt] at hd; exact Option.some.inj hd
        rw [← this]; exact List.drop_eq_getElem_cons hlt
      rw [hdrop] at hf'
      obtain ⟨ms₅, hbd, hf₅⟩ := hf'
      refine up' (W.asg i v (c₁.inLoop g h₄ (s₂.heap.objs.size :: wr)) msi ms₅ tmp { s' with heap := h₄, toks := tk₃ } d hlt hd hgot ok₄ is₄ hsub S₄ hbd) fun _ s₅ h₅ => ?_
      refine up' (tests_run ht (c := c₁.inLoop g h₄ (s₂.heap.objs.size :: wr)) a ok₄ is₄ h₅.2 hf₅) fun okb s₆ h₆ => ?_
      obtain ⟨q₆, ms₆, S₆, hf₆⟩ := h₆
      have qq : Same s s₆ := Same.trans (s' := s') q' (Same.trans (s' := s₅) h₅.1 q₆)
      cases okb with
      | false =>
        simp only [Bool.false_eq_true, if_false] at hf₆ ⊢
        obtain ⟨g₆, ρ₆, m₆, G₆⟩ := S₆
        obtain ⟨G₇, hoff₇, hk₇, hsub₇⟩ := SG.ofLoop ok₁ G₄ hoff' he₄ G₆
        refine ⟨ds.length + 1 - (i + 1), by lia, qq, i + 1, ms₆, g₆, ρ₆, m₆, ys, acc, rfl, hlt, G₇, hsub.trans hsub₇, hoff₇, W.stay hst₄ (fun b hb => hk₇ b (.tail _ hb)) hsub G₄.gh (fun a o e => G₇.gh a o (hsub₇ a o e)), ?_, hys.mono hsub₇, Nat.le_succ_of_le hal, hf₆⟩
        obtain ⟨n, e⟩ := hD₄
        exact ⟨n, hk₇ _ (.head _) _ e⟩
      | true =>
        simp only [if_true] at hf₆ ⊢
        refine up' (hl A (c₁.inLoop g h₄ (s₂.heap.objs.size :: wr)) ms₆ tmp s₆ _ a ok₄ is₄ S₆ hf₆) fun u s₇ h₇ => ?_
        obtain ⟨q₇, d₇, ms₇, ⟨g₇, ρ₇, m₇, G₆⟩, hf₇⟩ := h₇
        obtain ⟨G₇, hoff₇, hk₇, hsub₇⟩ := SG.ofLoop ok₁ G₄ hoff' he₄ G₆
        have hD₇ : s₇.heap.PlainList s₂.heap.objs.size (List.toArray ys) := let ⟨n, e⟩ := hD₄; ⟨n, hk₇ _ (.head _) _ e⟩
        have hyl : (List.toArray ys).size ≤ sizeLine := by
          have := hys.length
          have h2 : LIM ≤ sizeLine := by unfold LIM; exact Nat.le_of_ble_eq_true rfl
          simp; lia
        refine wpAny_list_append_plain hD₇ (fun h₈ hD₈ hs₈ => ?_) hyl
        have G₈ : SG c₁ ms₇ ((u, .val d₇) :: tmp) h₈ g₇ ρ₇ m₇ := G₇.offs ok₁ (wr := [s₂.heap.objs.size]) (fun b hb => by rw [List.mem_singleton.mp hb]; exact hoff₇ _ (.head _)) fun b o hb e => hs₈.extBut b o (fun q => hb (by rw [q]; exact List.mem_singleton.mpr rfl)) e
        refine ⟨ds.length + 1 - (i + 1), by lia, qq.trans q₇, i + 1, ms₇, g₇, ρ₇, m₇, ys ++ [u], acc ++ [d₇], rfl, hlt, G₈.withTmp fun p hp => G₈.tmps p (.tail _ hp), hsub.trans hsub₇, hoff₇, ?_, ?_, (hys.mono hsub₇).append (.cons (G₈.tmps _ (.head _)) .nil), by simp; lia, hf₇⟩
        · exact W.stay hst₄ (fun b hb o e => hs₈.extBut b o (fun q => hDw (q ▸ hb)) (hk₇ b (.tail _ hb) o e)) hsub G₄.gh (fun a o e => G₈.gh a o (hsub₇ a o e))
        · have : (List.toArray (ys ++ [u])) = (List.toArray ys).push u := by simp
          rw [this]; exact hD₈
    · have hi' : i = ds.length := by lia
      subst hi'
      refine W.done s' _ _ hst' fun h₃ tk₃ hk₃ => ?_
      rw [List.drop_length] at hf'
      have G₃ : SG c₁ msi tmp h₃ g ρ' m' := G'.offs ok₁ (fun b hb => hoff' b (.tail _ hb)) hk₃
      obtain ⟨n, eD⟩ := hD'
      have eD₃ := hk₃ _ _ hDw eD
      have G₃' := G₃
      rw [← hc₁] at G₃'
      have G₄ := comp_out ok G₂ hoff G₃'
      obtain ⟨t, ht⟩ : ρ₂ <+: ρ' := by have := G₃'.par; exact this
      have oD := hoff' _ (.head _)
      have hsz₂ : c.n0 ≤ s₂.heap.objs.size := G₂.size
      refine hRR _ _ _ _ g ρ₂ m₂ _ ys n acc q' G₄ ?_ hsz₂ eD₃ hys (by lia) ?_ hDC (hloc ▸ G₃.ns) hf'
      · have o := G₂.off (Nat.le_refl s₂.heap.objs.size)
        exact ⟨oD.g, o.ρ, o.L, o.vc, o.priv, o.H⟩
      · have o := G₂.off hCle
        exact ⟨hloc ▸ G₃.gL, o.ρ, o.L, o.vc, o.priv, o.H⟩
  have loop' : ∀ s₃ : Shared, s₃ = { s₂ with heap := h₁, toks := s₂.toks + ([] : List (Str × Value)).length } →
      codeAny (model prog w) A (.compLoop (.ListComp elt [⟨target, iter, ifs, 0⟩] scope pos) 0 (.ref I) (.ref s₂.heap.objs.size) (compEnvC scope cl H2.objs.size c.env)) (RR (.ref s₂.heap.objs.size) H2.objs.size) s₃ := henv ▸ loop
  exact codeAny_compStart_list (loop' _ rfl) (W.self 0 _ _ _ (W.frame _ _ _ hst fun b _ o e => old b o e) (loop' _ rfl))
end
end Mine
end

section
set_option maxRecDepth 100000
set_option Elab.async false
set_option autoImplicit false
set_option linter.unusedVariables false
namespace Mine
open PySem PySem.Calls

theorem Off.loop {c : Cx} {g g' : PH} {ρ : List Addr} {b C : Addr} {h : Heap} (o : Off c g ρ b) (hb : b ≠ C) : Off (c.inLoop g' h [C]) g ρ b where
  g := o.g
  ρ := o.ρ
  L := o.L
  vc := o.vc
  priv := by
    rintro (q | q)
    · exact o.priv q
    · exact hb (List.mem_singleton.mp q)
  H := by
    show (if b ∈ [C] then _ else _) = _
    rw [if_neg (fun q => hb (List.mem_singleton.mp q))]; exact o.H

section
variable {prog : Program} {w : World} {B : Heap} {mg mb : Str → Option Value} {x : Sx}

theorem comp_closure {c : Cx} {scope : Scope} {tgn capn : List Str} {cap : List Nat} (hi : c.Is x) (K : CompOk x scope tgn capn cap) :
    ∃ cl : List (Str × Addr), cl.map (·.1) = frees scope.names ∧ (∀ n ca, (n, ca) ∈ cl → c.env.cells.lookup n = some ca) ∧ closureFor scope c.env = pure cl :=
  closure_is fun y hy hf => lookup_mem (by
    rw [hi.cn]
    refine K.free _ (List.mem_reverse.mpr (List.mem_map.mpr ⟨y, List.mem_filter.mpr ⟨hy, by simp [hf]⟩, rfl⟩)))

theorem e_compP {elt target iter : Expr} {ifs : List Expr} {scope : Scope} {pos : Pos} {bind : D → MS → Option MS} {f : T (List D)} {cond : T Bool} {el : T D} {tgn capn : List Str} {cap : List Nat}
    (he : SemIt prog w B x (x.comp scope tgn capn) target bind iter f) (ht : SemTests prog w B (x.comp scope tgn capn) ifs cond) (hl : SemD prog w B (x.comp scope tgn capn) elt el) (K : CompOk x scope tgn capn cap)
    (hs : ∀ env (v : Value), foldedSetIterable iter env v = pure v) : SemE prog w B x (.ListComp elt [⟨target, iter, ifs, 0⟩] scope pos) (tCompP f tgn.length cap bind cond el) := fun A c ms tmp s Q a ok hi S hf => by
  obtain ⟨cl, hcl, hcl2, hclos⟩ := comp_closure hi K
  rw [eval_ListComp]
  refine wpAny_comprehension_free (use := none) rfl (hs c.env) hclos K.kind K.names (comp_core he ht hl K a ok hi S hf hcl hcl2 ?_)
  intro Da C s' ms' g ρ m mC us n out q G oD hD eD hr hlo oC hDC hns hq
  refine ⟨mC, hns, fun h' hs' => ⟨q, .ptr ms'.cs.length, ms'.addC (.lst out), ?_, hq⟩⟩
  exact (G.offs ok (wr := [C]) (fun b hb => by rw [List.mem_singleton.mp hb]; exact oC) fun b o hb e => hs'.extBut b o (fun z => hb (by rw [z]; exact List.mem_singleton.mpr rfl)) e).addAt oD hD (hs'.extBut _ _ hDC eD) hr hlo

theorem e_compV {elt target iter : Expr} {ifs : List Expr} {scope : Scope} {pos : Pos} {bind : D → MS → Option MS} {f : T (List D)} {cond : T Bool} {el : T D} {tgn capn : List Str} {cap : List Nat}
    (he : SemIt prog w B x (x.comp scope tgn capn) target bind iter f) (ht : SemTests prog w B (x.comp scope tgn capn) ifs cond) (hl : SemD prog w B (x.comp scope tgn capn) elt el) (K : CompOk x scope tgn capn cap)
    (hs : ∀ env (v : Value), foldedSetIterable iter env v = pure v) : SemE prog w B x (.ListComp elt [⟨target, iter, ifs, 0⟩] scope pos) (tCompV f tgn.length cap bind cond el) := fun A c ms tmp s Q a ok hi S hf => by
  obtain ⟨cl, hcl, hcl2, hclos⟩ := comp_closure hi K
  rw [eval_ListComp]
  refine wpAny_comprehension_free (use := none) rfl (hs c.env) hclos K.kind K.names (comp_core he ht hl K a ok hi S hf hcl hcl2 ?_)
  intro Da C s' ms' g ρ m mC us n out q G oD hD eD hr hlo oC hDC hns hq
  refine ⟨mC, hns, fun h' hs' => ⟨q, .val (.lst out), ms', ?_, hq⟩⟩
  exact (G.offs ok (wr := [C]) (fun b hb => by rw [List.mem_singleton.mp hb]; exact oC) fun b o hb e => hs'.extBut b o (fun z => hb (by rw [z]; exact List.mem_singleton.mpr rfl)) e).frzAt oD hD (hs'.extBut _ _ hDC eD) hr hlo

/-- x = [comprehension] -/
theorem s_compV {elt target iter : Expr} {ifs : List Expr} {scope : Scope} {pos spos py : Pos} {bind : D → MS → Option MS} {f : T (List D)} {cond : T Bool} {el : T D} {tgn capn : List Str} {cap : List Nat} {i : Nat} {y : Str}
    (he : SemIt prog w B x (x.comp scope tgn capn) target bind iter f) (ht : SemTests prog w B (x.comp scope tgn capn) ifs cond) (hl : SemD prog w B (x.comp scope tgn capn) elt el) (K : CompOk x scope tgn capn cap)
    (hs : ∀ env (v : Value), foldedSetIterable iter env v = pure v) (hn : x.nm[i]? = some y) (hst : y ∉ x.cn ∨ x.own = true)
    (hsw : ∀ env : Env, env.scope = x.sc → swapsWith (.ListComp elt [⟨target, iter, ifs, 0⟩] scope pos) (some (.Name y py)) spos.line env = pure true) :
    SemS prog w B x (.Assign [.Name y py] (.ListComp elt [⟨target, iter, ifs, 0⟩] scope pos) spos) (tAsg i (tCompV f tgn.length cap bind cond el)) := fun A c ms tmp s Q a ok hi S hf => by
  obtain ⟨cl, hcl, hcl2, hclos⟩ := comp_closure hi K
  rw [exec_Assign_Name_used _ _ _ _ (hsw _ hi.sc)]
  refine wpAny_bind (wpAny_standAt (wpAny_bind ?_))
  show wpAny _ A (do let _ ← comprehension (.ListComp elt [⟨target, iter, ifs, 0⟩] scope pos) scope c.env _ (newList []) false (eval iter c.env) (some (assign (.Name y py) c.env))) _ _ s
  refine wpAny_bind (up' (wpAny_comprehension_free (use := some (assign (.Name y py) c.env)) (Q := fun _ s' => PostF c tmp s Q .next s') rfl (hs c.env) hclos K.kind K.names (comp_core he ht hl K a ok hi S hf hcl hcl2 ?_)) fun _ s' hq => wpAny_pure (wpAny_pure hq))
  intro Da C s' ms' g ρ m mC us n out q G oD hD eD hr hlo oC hDC hns hq
  show wpAny _ A (assign (.Name y py) c.env (.ref Da)) _ _ _
  have hw : ∀ b ∈ [C], Off c g ρ b := fun b hb => by rw [List.mem_singleton.mp hb]; exact oC
  obtain ⟨oc, es, ep, eC, rC⟩ := id hns
  have hex : ∀ b ∈ [C], ∃ o, s'.heap.get? b = some o := fun b hb => by rw [List.mem_singleton.mp hb]; exact ⟨oc, eC⟩
  have ok' := Cx.inLoop_ok ok G hw hex
  have S' := (G.toLoop hw hex).frzAt (oD.loop hDC) hD eD hr hlo
  refine wpAny_assign_Name (up' (store_var (A := A) (c := c.inLoop g s'.heap [C]) ok' (Cx.inLoop_is hi) hn hst S') fun _ s'' h'' => ?_)
  obtain ⟨q'', g'', ρ'', m'', G''⟩ := h''
  obtain ⟨G₃, oC₃, hk₃, _⟩ := SG.ofLoop ok G hw hex G''
  refine ⟨mC, hns.at' fun o e => hk₃ C (by simp) o e, fun h' hs' => ⟨q.trans q'', _, ⟨g'', ρ'', m'', G₃.offs ok oC₃ fun b o hb e => hs'.extBut b o (fun z => hb (by rw [z]; exact List.mem_singleton.mpr rfl)) e⟩, hq⟩⟩
end
end Mine
end

section
set_option maxRecDepth 100000
set_option Elab.async false
set_option autoImplicit false
set_option linter.unusedVariables false
namespace Mine
open PySem PySem.Calls

theorem keyOf_eq {d : D} {ks : List Int} (h : keyOf d = some ks) : d = .tup (ks.map .int) := by
  cases d with
  | tup ds =>
    have h : (ds.mapM fun d => match d with | .int i => some i | _ => Option.none) = some ks := h
    congr 1
    induction ds generalizing ks with
    | nil => cases h; rfl
    | cons d ds ih =>
      rw [List.mapM_cons] at h
      cases d with
      | int i =>
        simp only [Option.bind_eq_bind, Option.bind_some] at h
        cases e : (ds.mapM fun d => match d with | .int i => some i | _ => Option.none) with
        | none => rw [e] at h; cases h
        | some r =>
          rw [e] at h
          cases h
          rw [ih (show keyOf (.tup ds) = some r from e) e]; rfl
      | _ => cases h
  | _ => cases h

section
variable {prog : Program} {w : World} {B : Heap} {mg mb : Str → Option Value} {x : Sx}

theorem items_are {g : PH} : ∀ {vs : List Value} {ks : List Int}, RepL g vs (ks.map .int) → ItemsAre (intKind prog w) ks vs
  | _, [], h => by cases h; exact .nil
  | _, k :: ks, h => by
    cases h with
    | cons h1 h2 =>
      cases h1
      exact .cons (by simp [intKind, Value.isInt]) (items_are h2)

theorem tup_key {g : PH} {h : Heap} {b : Addr} {vs : List Value} {n : Nat} {ks : List Int} (hg : g b = some (tupO vs n)) (gh : ∀ a o, g a = some o → h.get? a = some o) (hr : RepL g vs (ks.map .int)) : IsTupleKey (intKind prog w) h ks b :=
  ⟨_, _, n, gh _ _ hg, rfl, rfl, by simpa using items_are hr⟩

theorem DictAt.of {g : PH} {h : Heap} {a : Addr} {xs : List (List Int × Addr × Value)} {kv : List (List Int × D)} (H : DictAt h a xs) (P : PairsAre g xs kv) (gh : ∀ a o, g a = some o → h.get? a = some o) : h.DictOfH (tupleKind (intKind prog w)) a xs := by
  obtain ⟨o, es, ep, h1, h2, h3, h4, h5⟩ := H
  refine ⟨o, es, ep, h1, h2, h3, h4, ?_, h5⟩
  clear h1 h2 h3 h4 h5
  intro y hy
  induction P with
  | nil => cases hy
  | cons e1 e2 e3 _ ih =>
    rcases List.mem_cons.mp hy with rfl | hy
    · exact tup_key e1 gh e2
    · exact ih hy
theorem DictAt.to {h : Heap} {a : Addr} {xs : List (List Int × Addr × Value)} (H : h.DictOfH (tupleKind (intKind prog w)) a xs) : DictAt h a xs := by
  obtain ⟨o, es, ep, h1, h2, h3, h4, h5, h6⟩ := H
  exact ⟨o, es, ep, h1, h2, h3, h4, h6⟩

theorem PairsAre.get {g : PH} {xs : List (List Int × Addr × Value)} {kv : List (List Int × D)} (P : PairsAre g xs kv) {ks : List Int} {d : D} (h : kv.lookup ks = some d) : ∃ p, atKey xs ks = some p ∧ Rep g p.2 d := by
  induction P with
  | nil => cases h
  | @cons ks' b v d' vs n xs kv e1 e2 e3 _ ih =>
    rw [List.lookup_cons] at h
    by_cases q : ks = ks'
    · subst q
      simp at h; subst h
      exact ⟨(b, v), by simp [atKey], e3⟩
    · have : (ks == ks') = false := beq_eq_false_iff_ne.mpr q
      rw [this] at h
      obtain ⟨p, h1, h2⟩ := ih h
      refine ⟨p, ?_, h2⟩
      have q' : ¬ ks' = ks := fun e => q e.symm
      simpa [atKey, List.find?_cons, q'] using h1

theorem PairsAre.put {g : PH} {xs : List (List Int × Addr × Value)} {kv : List (List Int × D)} (P : PairsAre g xs kv) (hn : (xs.map (·.1)).Nodup) {ks : List Int} {d : D} {b : Addr} {v : Value} {vs : List Value} {n : Nat} (hb : g b = some (tupO vs n)) (hr : RepL g vs (ks.map .int)) (hv : Rep g v d) :
    PairsAre g (storedH xs ks b v) (dictPut kv ks d) := by
  induction P with
  | nil => exact .cons hb hr hv .nil
  | @cons ks' b' v' d' vs' n' xs kv e1 e2 e3 e4 ih =>
    simp only [List.map_cons, List.nodup_cons] at hn
    have ih := ih hn.2
    by_cases q : ks = ks'
    · subst q
      have h1 : (atKey ((ks, b', v') :: xs) ks) = some (b', v') := by simp [atKey]
      rw [storedH_old h1, List.map_cons, map_putAt_of_not_mem xs ks v hn.1]
      have : putAt ks v (ks, b', v') = (ks, b', v) := by simp [putAt]
      rw [this]
      have : dictPut ((ks, d') :: kv) ks d = (ks, d) :: kv := by simp [dictPut]
      rw [this]
      exact .cons e1 e2 hv e4
    · have q' : ¬ ks' = ks := fun e => q e.symm
      have h1 : atKey ((ks', b', v') :: xs) ks = atKey xs ks := by simp [atKey, List.find?_cons, q']
      have h2 : dictPut ((ks', d') :: kv) ks d = (ks', d') :: dictPut kv ks d := by simp [dictPut, q]
      have h3 : storedH ((ks', b', v') :: xs) ks b v = (ks', b', v') :: storedH xs ks b v := by
        unfold storedH
        rw [h1]
        split
        · simp [putAt, q']
        · rfl
      rw [h2, h3]
      exact .cons e1 e2 e3 ih

theorem PairsAre.length {g : PH} {xs : List (List Int × Addr × Value)} {kv : List (List Int × D)} (P : PairsAre g xs kv) : xs.length = kv.length := by
  induction P with
  | nil => rfl
  | cons _ _ _ _ ih => simp [ih]

theorem AOk.room {A : Around} {k : Nat} (a : AOk A k) : A.units + 1 < cLine := by have := a.units; omega

theorem e_get {v i : Expr} {pos : Pos} {f g : T RV} (hv : SemE prog w B x v f) (hx : SemE prog w B x i g) (hs : NoSlice i) : SemE prog w B x (.Subscript v i pos) (tGet f g) := fun A c ms tmp s Q a ok hi S hf => by
  refine PyProof.Rows.Subscript_ (wpAny_mono (hv A c ms tmp s _ a ok hi S hf) (fun vo s₁ h₁ => ?_) fun _ _ e => e)
  obtain ⟨q₁, ro, ms₁, S₁, hf₁⟩ := h₁
  refine wpAny_mono (hx A c ms₁ _ s₁ _ a ok hi S₁ hf₁) (fun vi s₂ h₂ => ?_) fun _ _ e => e
  obtain ⟨q₂, ri, ms₂, S₂, hf₂⟩ := h₂
  obtain ⟨g', ρ, m, G⟩ := S₂
  have ti := G.tmps _ (.head _)
  have to := G.tmps _ (.tail _ (.head _))
  split at hf₂
  · rename_i n k
    split at hf₂
    · rename_i kv ks hc hk
      obtain ⟨d, hl, hq⟩ := hf₂
      have hk := keyOf_eq hk
      subst hk
      obtain ⟨ad, ha, e⟩ := to
      have e : vo = .ref ad := e
      subst e
      obtain ⟨_, _, xs, hd, hp⟩ := G.cells n _ ad hc ha
      have ti : Rep g' vi (.tup (ks.map .int)) := ti
      cases ti with
      | tup e1 l1 r1 =>
        rename_i ka vs nn
        have hm := DictAt.of (prog := prog) (w := w) hd hp G.gh
        obtain ⟨p, hat, hrep⟩ := hp.get hl
        refine sub_tail hm.typeIs slot_dict_getitem.lookup (hs _ _) ?_
        refine wpAny_getItem_heap (knd := tupleKind (intKind prog w)) (tupleKind_room_in1 a.room) (tup_key e1 G.gh r1) hm hat ?_
        exact ⟨q₁.trans q₂, .val d, ms₂, ⟨g', ρ, m, G.withTmp fun p' hp' => by
          rcases List.mem_cons.mp hp' with rfl | hp'
          · exact hrep
          · exact G.tmps p' (.tail _ (.tail _ hp'))⟩, hq⟩
    · exact hf₂.elim
  · exact hf₂.elim

theorem e_dict {pos : Pos} : SemE prog w B x (.Dict [] [] pos) tDict := fun A c ms tmp s Q a ok hi S hf => by
  rw [eval_Dict_empty]
  refine wpAny_bind (wpAny_standAt ?_)
  refine wpAny_newObj_type ?_
  obtain ⟨g, ρ, m, G⟩ := id S
  refine ⟨Same.refl _, .ptr ms.cs.length, ms.addC (.dict []), ?_, hf⟩
  refine S.newCell (cl := .dict []) rfl G.keepH (fun g' ρ' m' G' h1 h2 => ⟨h1, h2, [], ⟨_, _, _, Heap.get?_push_size _ rfl, ⟨rfl, rfl, rfl⟩, rfl, rfl, List.nodup_nil⟩, .nil⟩) tmp fun p hp => hp

theorem s_putD {i : Nat} {n : Str} {np ip pos : Pos} {ie e : Expr} {fi : T RV} {f : T D} (he : SemD prog w B x e f) (hi' : SemE prog w B x ie fi) (hn : x.nm[i]? = some n) (hd : (n == ("__debug__" : Str)) = false) (hsw : ∀ env line, swapsWith e (some (.Subscript (.Name n np) ie ip)) line env = pure false) :
    SemS prog w B x (.Assign [.Subscript (.Name n np) ie ip] e pos) (tPutD i fi f) := fun A c ms tmp s Q a ok hi S hf => by
  refine wpAny_Assign_Subscript (wpAny_mono (he A c ms tmp s _ a ok hi S hf) (fun v s₁ h₁ => ?_) fun _ _ e => e) (hsw _ _)
  obtain ⟨q₁, d, ms₁, S₁, hf₁⟩ := h₁
  split at hf₁
  · rename_i k hr
    refine wpAny_Name (load_var ok S₁ (hi.nm ▸ hn) hr fun u S₂ => ?_) hd
    refine wpAny_mono (hi' A c ms₁ _ s₁ _ a ok hi S₂ hf₁) (fun vi s₃ h₃ => ?_) fun _ _ e => e
    obtain ⟨q₃, ri, ms₃, S₃, hf₃⟩ := h₃
    split at hf₃
    · rename_i j kv hc
      obtain ⟨ks, hk, hlen, hq⟩ := hf₃
      have hk := keyOf_eq hk
      subst hk
      obtain ⟨g, ρ, m, G⟩ := S₃
      have ti : Rep g vi (.tup (ks.map .int)) := G.tmps _ (.head _)
      obtain ⟨ad, ha, e⟩ := G.tmps _ (.tail _ (.head _))
      have e : u = .ref ad := e
      subst e
      have hv : Rep g v d := G.tmps _ (.tail _ (.tail _ (.head _)))
      obtain ⟨_, _, xs, hdt, hp⟩ := G.cells k _ ad hc ha
      cases ti with
      | tup e1 l1 r1 =>
        have hm := DictAt.of (prog := prog) (w := w) hdt hp G.gh
        have hsz : xs.length ≤ sizeLine := by
          have := hp.length
          have h2 : 1000 ≤ sizeLine := Nat.le_of_ble_eq_true rfl
          omega
        refine wpAny_setItem_heap (knd := tupleKind (intKind prog w)) (tupleKind_room_in1 a.room) (tup_key e1 G.gh r1) hm (fun h' hm' hs => ?_) hsz
        obtain ⟨o', _, _, ho', _⟩ := id hm'
        obtain ⟨_, _, _, _, _, _, _, hnd⟩ := hdt
        refine ⟨q₁.trans q₃, _, ⟨g, ρ, m, (G.upd (cl' := .dict (dictPut kv ks d)) ok hc ha (by intro z; cases z) hs.extBut ⟨o', ho'⟩ fun hg hH => ⟨hg, hH, _, DictAt.to hm', hp.put hnd e1 r1 hv⟩).withTmp fun p' hp' => G.tmps p' (.tail _ (.tail _ (.tail _ hp')))⟩, hq⟩
    · exact hf₃.elim
  · exact hf₁.elim
end
end Mine
end

section
set_option maxRecDepth 100000
set_option Elab.async false
set_option autoImplicit false
set_option linter.unusedVariables false
namespace Mine
open PySem PySem.Calls PyProof.Rows

noncomputable def noDef : DefRec := { name := Str.ofString "", params := { posonlyargs := [], args := [], vararg := none, kwonlyargs := [], kw_defaults := [], kwarg := none, defaults := [] }, body := [], scope := { kind := .function, names := [], isGenerator := false, isCoroutine := false }, pos := ⟨0, 0, 0, 0⟩ }
/-- the def that a statement makes -/
noncomputable def recOf : Stmt → DefRec
  | .FunctionDef name a b _ _ _ sc _ _ pos => ⟨name, a, b, sc, pos⟩
  | _ => noDef
noncomputable def recAt (i : Nat) : DefRec := match PySem.Challenge.pw_xm0429_01.main.body[i]? with
  | some st => recOf st
  | none => noDef

/-- what is known of the names at the top -/
structure Ev (B : Heap) (mg mb : Str → Option Value) : Prop where
  base : BaseOk B mg mb
  g : ∀ n ∈ ["len", "range", "enumerate", "min", "sum", "abs", "int"].map Str.ofString, mg n = none
  len : mb (Str.ofString "len") = some (.builtin "len")
  range : mb (Str.ofString "range") = some (.type "range")
  enumerate : mb (Str.ofString "enumerate") = some (.type "enumerate")
  min : mb (Str.ofString "min") = some (.builtin "min")
  sum : mb (Str.ofString "sum") = some (.builtin "sum")
  abs : mb (Str.ofString "abs") = some (.builtin "abs")
  int : mb (Str.ofString "int") = some (.type "int")

section
variable {prog : Program} {w : World} {B : Heap} {mg mb : Str → Option Value} {x : Sx}

noncomputable def FnOk (prog : Program) (w : World) (B : Heap) (mg : Str → Option Value) (k : Nat) (n : Str) (K : List D → D → Prop) : Prop := ∃ a, mg n = some (.ref a) ∧ FnIs B a ∧ PureOk prog w B k a K
noncomputable def FnMOk (prog : Program) (w : World) (B : Heap) (mg : Str → Option Value) (k : Nat) (n : Str) (K : List D → List D → List D → D → Prop) : Prop := ∃ a, mg n = some (.ref a) ∧ FnIs B a ∧ MutOk prog w B k a K

theorem PureOk.up {k k' : Nat} {a : Addr} {K : List D → D → Prop} (h : PureOk prog w B k a K) (hk : k ≤ k') : PureOk prog w B k' a K := fun A s g vs ds d hA => h A s g vs ds d (hA.le hk)
theorem MutOk.up {k k' : Nat} {a : Addr} {K : List D → List D → List D → D → Prop} (h : MutOk prog w B k a K) (hk : k ≤ k') : MutOk prog w B k' a K := fun A s g l us n xs vs ds xs' d hA => h A s g l us n xs vs ds xs' d (hA.le hk)

theorem c_fn (hB : BaseOk B mg mb) {n : Str} {p pos : Pos} {e : Expr} {es : List Expr} {fs : List (T D)} {k : Nat} {K : List D → D → Prop} (F : FnOk prog w B mg k n K) (hk : k ≤ x.k) (H : SemArgs prog w B x (e :: es) fs) (hst : NoStar e) (hl : x.sc.names.lookup n = some .globalImplicit) (hd : (n == ("__debug__" : Str)) = false) :
    SemE prog w B x (.Call (.Name n p) (e :: es) [] pos) (tCall K fs) := let ⟨_, h1, h2, h3⟩ := F; e_call hB H hst hl h1 hd h2 (h3.up hk)
theorem c_fnL (hB : BaseOk B mg mb) {i : Nat} {n m0 : Str} {np p pos : Pos} {es : List Expr} {fs : List (T D)} {k : Nat} {K : List D → D → Prop} (F : FnOk prog w B mg k n K) (hk : k ≤ x.k) (H : SemArgs prog w B x es fs) (hn : x.nm[i]? = some m0) (hd0 : (m0 == ("__debug__" : Str)) = false) (hl : x.sc.names.lookup n = some .globalImplicit) (hd : (n == ("__debug__" : Str)) = false) :
    SemE prog w B x (.Call (.Name n p) (.Name m0 np :: es) [] pos) (tCallL K i fs) := let ⟨_, h1, h2, h3⟩ := F; e_callL hB H hn hd0 hl h1 hd h2 (h3.up hk)
theorem c_fnM (hB : BaseOk B mg mb) {i : Nat} {n m0 : Str} {np p pos : Pos} {es : List Expr} {fs : List (T D)} {k : Nat} {K : List D → List D → List D → D → Prop} (F : FnMOk prog w B mg k n K) (hk : k ≤ x.k) (H : SemArgs prog w B x es fs) (hn : x.nm[i]? = some m0) (hd0 : (m0 == ("__debug__" : Str)) = false) (hl : x.sc.names.lookup n = some .globalImplicit) (hd : (n == ("__debug__" : Str)) = false) :
    SemE prog w B x (.Call (.Name n p) (.Name m0 np :: es) [] pos) (tCallM K i fs) := let ⟨_, h1, h2, h3⟩ := F; e_callM hB H hn hd0 hl h1 hd h2 (h3.up hk)

-- tests, each with its word
theorem b_cmpi (op : Cmp) {l r : Expr} {pos : Pos} {f g : T RV} (hl : SemE prog w B x l f) (hr : SemE prog w B x r g) (hm : behindInMarks (cmpOf op) r = false) : SemB prog w B x (.Compare l [cmpOf op] [r] pos) (tCmp op f g) := b_cmp hl hr hm (cmp_int op)
theorem bv_cmpi (op : Cmp) {l r : Expr} {pos : Pos} {f g : T RV} (hl : SemE prog w B x l f) (hr : SemE prog w B x r g) (hm : behindInMarks (cmpOf op) r = false) : SemB' prog w B x (.Compare l [cmpOf op] [r] pos) (tCmp op f g) := bv_cmp hl hr hm (cmp_int op)
theorem b_eqB {l r : Expr} {pos : Pos} {f g : T RV} (hl : SemE prog w B x l f) (hr : SemE prog w B x r g) (hm : behindInMarks .Eq r = false) : SemB prog w B x (.Compare l [.Eq] [r] pos) (tEqB false f g) := b_cmp hl hr hm cmp_eqb
theorem bv_neB {l r : Expr} {pos : Pos} {f g : T RV} (hl : SemE prog w B x l f) (hr : SemE prog w B x r g) (hm : behindInMarks .NotEq r = false) : SemB' prog w B x (.Compare l [.NotEq] [r] pos) (tEqB true f g) := bv_cmp hl hr hm cmp_neb
theorem b_neD {l r : Expr} {pos : Pos} {f g : T RV} (hl : SemE prog w B x l f) (hr : SemE prog w B x r g) (hm : behindInMarks .NotEq r = false) : SemB prog w B x (.Compare l [.NotEq] [r] pos) (tNe f g) := b_cmp hl hr hm cmp_ne
theorem b_notin {l r : Expr} {pos : Pos} {f g : T RV} (hl : SemE prog w B x l f) (hr : SemE prog w B x r g) (hm : behindInMarks .NotIn r = false) : SemB prog w B x (.Compare l [.NotIn] [r] pos) (tNotIn f g) := b_cmp hl hr hm cmp_notin

theorem v1 {P : List Value → Prop} (h : ∀ a, P [a]) : ∀ vs : List Value, vs.length = 1 → P vs
  | [a], _ => h a
theorem vs_ {n : Nat} {P : List Value → Prop} (h : ∀ a vs, vs.length = n → P (a :: vs)) : ∀ vs : List Value, vs.length = n + 1 → P vs
  | a :: vs, e => h a vs (Nat.succ.inj e)
theorem v2 {P : List Value → Prop} (h : ∀ a b, P [a, b]) : ∀ vs : List Value, vs.length = 2 → P vs := vs_ fun a => v1 fun b => h a b
theorem v3 {P : List Value → Prop} (h : ∀ a b c, P [a, b, c]) : ∀ vs : List Value, vs.length = 3 → P vs := vs_ fun a => v2 fun b c => h a b c
theorem v4 {P : List Value → Prop} (h : ∀ a b c d, P [a, b, c, d]) : ∀ vs : List Value, vs.length = 4 → P vs := vs_ fun a => v3 fun b c d => h a b c d
theorem v5 {P : List Value → Prop} (h : ∀ a b c d e, P [a, b, c, d, e]) : ∀ vs : List Value, vs.length = 5 → P vs := vs_ fun a => v4 fun b c d e => h a b c d e
theorem v6 {P : List Value → Prop} (h : ∀ a b c d e f, P [a, b, c, d, e, f]) : ∀ vs : List Value, vs.length = 6 → P vs := vs_ fun a => v5 fun b c d e f => h a b c d e f
theorem v7 {P : List Value → Prop} (h : ∀ a b c d e f g, P [a, b, c, d, e, f, g]) : ∀ vs : List Value, vs.length = 7 → P vs := vs_ fun a => v6 fun b c d e f g => h a b c d e f g

/-- what is said of a def's text -/
structure TextOk (d : DefRec) (pn nm : List Str) : Prop where
  bind : ∀ pm code doc (vs : List Value), vs.length = pn.length → bindArgs (docDef d.name d.params d.body d.scope pm code doc) ⟨vs, []⟩ = pure (pn.zip vs)
  cell : ∀ y ∈ d.scope.names, y.2 ≠ .cell
  loc : ∀ n ∈ nm, d.scope.names.lookup n = some .local
  pre : ∃ more, nm = pn ++ more
  nodup : nm.Nodup
  co : d.scope.isCoroutine = false
  gen : d.scope.isGenerator = false
  kind : d.scope.kind = .function

theorem TextOk.def {d : DefRec} {pn nm : List Str} (H : TextOk d pn nm) {a : Addr} {o : Obj} {pm code doc : Value} (ho : B.get? a = some o) (hd : o.data = .func (docDef d.name d.params d.body d.scope pm code doc)) (hc : B.CodeRec code d.name) :
    DefOk B a (docDef d.name d.params d.body d.scope pm code doc) d.body pn nm where
  at_ := ⟨o, ho, hd⟩
  code := hc
  body := rfl
  bind := H.bind pm code doc
  cell := H.cell
  loc := H.loc
  pre := H.pre
  nodup := H.nodup
  co := H.co
  gen := H.gen
  kind := H.kind
  glob := rfl
  blt := rfl
  clos := rfl

/-- a def at the top, as the head tells of it -/
noncomputable def Def (B : Heap) (mg : Str → Option Value) (d : DefRec) : Prop := ∃ a o pm code doc, mg d.name = some (.ref a) ∧ B.get? a = some o ∧ o.data = .func (docDef d.name d.params d.body d.scope pm code doc) ∧ B.CodeRec code d.name

theorem fn_of {d : DefRec} {pn nm : List Str} {k : Nat} {F : T Fl} {more : Nat} (hN : B.NoLimit) (D0 : Def B mg d) (H : TextOk d pn nm) (hF : SemSs prog w B ⟨k, d.scope, nm, 0, [], true⟩ d.body F) :
    FnOk prog w B mg (k + 1) d.name (fun ds r => ds.length = pn.length ∧ Runs F more ds r) := by
  obtain ⟨a, o, pm, code, doc, h1, h2, h3, h4⟩ := D0
  have H' := H.def h2 h3 h4
  exact ⟨a, h1, H'.fnIs, pure_of H' hN hF fun ds r h => h⟩
theorem fnM_of {d : DefRec} {p0 : Str} {pn nm : List Str} {k : Nat} {F : T Fl} {more : Nat} (hN : B.NoLimit) (D0 : Def B mg d) (H : TextOk d (p0 :: pn) nm) (hF : SemSs prog w B ⟨k, d.scope, nm, 1, [], true⟩ d.body F) :
    FnMOk prog w B mg (k + 1) d.name (fun xs ds xs' r => ds.length = pn.length ∧ xs'.length ≤ LIM ∧ RunsM F more xs ds xs' r) := by
  obtain ⟨a, o, pm, code, doc, h1, h2, h3, h4⟩ := D0
  have H' := H.def h2 h3 h4
  exact ⟨a, h1, H'.fnIs, mut_of H' hN hF fun xs ds xs' r h => h⟩
end
end Mine
end

section
set_option maxRecDepth 100000
set_option Elab.async false
set_option autoImplicit false
set_option linter.unusedVariables false
namespace Mine
open PySem PySem.Calls PyProof.Rows

theorem bindL_not {kindOf : Str → Option NameKind} {x : Str} : ∀ (bs : List (Str × Value)) (m : Str → Option Value), x ∉ bs.map (·.1) → bindL kindOf bs m x = m x
  | [], _, _ => rfl
  | (n, v) :: r, m, h => by
    have h1 : x ≠ n := fun e => h (e ▸ List.mem_cons_self)
    have h2 : x ∉ r.map (·.1) := fun e => h (List.mem_cons_of_mem _ e)
    unfold bindL
    rw [bindL_not r _ h2]
    split
    · exact if_neg h1
    · rfl
theorem bindL_get {kindOf : Str → Option NameKind} {x : Str} {v : Value} : ∀ (bs : List (Str × Value)) (m : Str → Option Value), (∀ p ∈ bs, kindOf p.1 = some .local) → (bs.map (·.1)).Nodup → (x, v) ∈ bs → bindL kindOf bs m x = some v
  | [], _, _, _, h => absurd h List.not_mem_nil
  | (n, u) :: r, m, hl, hn, h => by
    simp only [List.map_cons, List.nodup_cons] at hn
    unfold bindL
    rw [if_pos (hl _ List.mem_cons_self)]
    rcases List.mem_cons.mp h with e | h
    · cases e
      rw [bindL_not r _ hn.1]; exact if_pos rfl
    · exact bindL_get r _ (fun p hp => hl p (List.mem_cons_of_mem _ hp)) hn.2 h

/-- what is said of the text of a def with cells of its own -/
structure TextC (d : DefRec) (pn nm cn : List Str) : Prop where
  bind : ∀ pm code doc (vs : List Value), vs.length = pn.length → bindArgs (docDef d.name d.params d.body d.scope pm code doc) ⟨vs, []⟩ = pure (pn.zip vs)
  loc : ∀ n ∈ nm, d.scope.names.lookup n = some (if n ∈ cn then .cell else .local)
  par : ∀ n ∈ pn, n ∉ cn
  cells : ∀ L, (cellsFrom L d.scope.names []).map (·.1) = cn
  cnd : cn.Nodup
  pre : ∃ more, nm = pn ++ more
  nodup : nm.Nodup
  co : d.scope.isCoroutine = false
  gen : d.scope.isGenerator = false
  kind : d.scope.kind = .function

section
variable {prog : Program} {w : World} {B : Heap} {mg mb : Str → Option Value}

theorem lookup_of_mem {l : List (Str × Addr)} (hn : (l.map (·.1)).Nodup) {n : Str} {a : Addr} (h : (n, a) ∈ l) : l.lookup n = some a := by
  induction l with
  | nil => cases h
  | cons p l ih =>
    simp only [List.map_cons, List.nodup_cons] at hn
    rw [List.lookup_cons]
    rcases List.mem_cons.mp h with rfl | h
    · simp
    · have : (n == p.1) = false := beq_eq_false_iff_ne.mpr fun e => hn.1 (e ▸ List.mem_map_of_mem h)
      rw [this]; exact ih hn.2 h

/-- a call of such a def, its body about to run -/
theorem start_cells {d : DefRec} {pn nm cn : List Str} (T : TextC d pn nm cn) {pm code doc : Value} {a : Addr} {s s₁ : Shared} {g : PH} {vs : List Value} {ds : List D} {k more : Nat} {env : Env} (he : env = callEnvC (docDef d.name d.params d.body d.scope pm code doc) s.heap.objs.size a)
    (hB : ∀ b o, B.get? b = some o → s.heap.get? b = some o) (hBg : Sub B.get? g) (hg : ∀ b o, g b = some o → s.heap.get? b = some o) (hr : RepL g vs ds) (hvl : vs.length = pn.length)
    (X : InCallC s env.locals (bindL env.kindOf (pn.zip vs) fun _ => none) env.cells (bindC env.kindOf (pn.zip vs) fun _ => none) s₁) :
    ∃ c : Cx, c.env = env ∧ c.H = s.heap.get? ∧ c.g0 = g ∧ c.n0 = s.heap.objs.size ∧ c.Ok B ∧ c.Is ⟨k, d.scope, nm, 0, cn, true⟩ ∧ St c ⟨ds.map (fun d => some (.val d)) ++ List.replicate more Option.none, []⟩ [] s₁.heap := by
  subst he
  obtain ⟨rest, hpre⟩ := T.pre
  have hpnd : pn.Nodup := by have := T.nodup; rw [hpre] at this; exact (List.nodup_append.mp this).1
  generalize hfd : docDef d.name d.params d.body d.scope pm code doc = fd at X
  have hcn : (callEnvC fd s.heap.objs.size a).cells.map (·.1) = cn := by subst hfd; exact T.cells _
  have hcnd : ((callEnvC fd s.heap.objs.size a).cells.map (·.1)).Nodup := hcn ▸ T.cnd
  have hL : (callEnvC fd s.heap.objs.size a).locals = s.heap.objs.size := rfl
  have hkind : ∀ n, (callEnvC fd s.heap.objs.size a).kindOf n = d.scope.names.lookup n := fun n => by subst hfd; rfl
  have hsome : ∀ n, ((callEnvC fd s.heap.objs.size a).cells.lookup n).isSome = decide (n ∈ cn) := fun n => by
    by_cases q : n ∈ cn
    · obtain ⟨ca, e⟩ := lookup_mem (cl := (callEnvC fd s.heap.objs.size a).cells) (hcn ▸ q)
      rw [e]; simp [q]
    · rw [lookup_none (by rw [hcn]; exact q)]; simp [q]
  have above : ∀ n ca, (callEnvC fd s.heap.objs.size a).cells.lookup n = some ca → s.heap.objs.size < ca := fun n ca e => X.above n ca (lookup_some e)
  have vcmem : ∀ b ∈ (callEnvC fd s.heap.objs.size a).cells.map (·.2), ∃ n, (callEnvC fd s.heap.objs.size a).cells.lookup n = some b := fun b hb => by
    obtain ⟨⟨n, b'⟩, hm, rfl⟩ := List.mem_map.mp hb
    exact ⟨n, lookup_of_mem hcnd hm⟩
  have gN : ∀ b, s.heap.objs.size ≤ b → g b = none := fun b hb => by
    cases e : g b with
    | none => rfl
    | some o => exact absurd (Heap.lt_size (hg _ _ e)) (Nat.not_lt.mpr hb)
  have hpl : ∀ p ∈ pn.zip vs, (callEnvC fd s.heap.objs.size a).kindOf p.1 = some .local := fun p hp => by
    have hm := mem_zip_fst hp
    rw [hkind, T.loc _ (hpre ▸ List.mem_append.mpr (.inl hm)), if_neg (T.par _ hm)]
  refine ⟨{ H := s.heap.get?, g0 := g, n0 := s.heap.objs.size, priv := fun _ => False, np := 0, env := callEnvC fd s.heap.objs.size a, names := nm, vc := (callEnvC fd s.heap.objs.size a).cells.map (·.2), par := [] }, rfl, rfl, rfl, rfl, ?_, ?_, ?_⟩
  · refine { base := hB, baseg := hBg, kind := (by subst hfd; exact T.kind), glob := (by subst hfd; rfl), blt := (by subst hfd; rfl), HL := get_none (Nat.le_refl _), cellH := (fun y ca e => .inl (List.mem_map.mpr ⟨_, lookup_some e, rfl⟩)), vcH := (fun b hb => ?_), inj := (fun y z ca e1 e2 _ => name_of_addr X.apart (lookup_some e1) (lookup_some e2)), privO := (fun a ha => ha.elim), names := T.nodup, kinds := (fun i y hy => ?_) }
    · obtain ⟨n, e⟩ := vcmem b hb
      exact ⟨get_none (Nat.le_of_lt (above n b e)), Nat.ne_of_gt (above n b e)⟩
    · show (callEnvC fd s.heap.objs.size a).kindOf y = _
      rw [hkind, T.loc y (List.mem_of_getElem? hy)]
      show _ = some (if ((callEnvC fd s.heap.objs.size a).cells.lookup y).isSome = true then NameKind.cell else .local)
      rw [hsome y]
      by_cases q : y ∈ cn <;> simp [q]
  · exact { sc := (by subst hfd; rfl), nm := rfl, np := rfl, cn := hcn, own := (fun _ n ca e => List.mem_map.mpr ⟨_, lookup_some e, rfl⟩) }
  · refine ⟨g, [], _, { keepH := X.toInCall.keep, gh := fun b o e => X.toInCall.keep b o (hg b o e), g0 := Sub.refl _, fresh := fun b o e => .inl e, ns := X.toInCall.ns, gL := gN _ (Nat.le_refl _), Lρ := (fun q => by cases q), vcg := (fun b hb => ?_), privg := (fun b hb => hb.elim), len := rfl, nodup := List.nodup_nil, ex := (fun b hb => by cases hb), cells := (fun i cl b e => by simp at e), own := (fun i b _ e => by simp at e), slots := ?_, tmps := (fun p hp => by cases hp), nL := Nat.le_refl _, par := List.prefix_refl _ }⟩
    · obtain ⟨n, e⟩ := vcmem b hb
      exact ⟨gN _ (Nat.le_of_lt (above n b e)), List.not_mem_nil, _, X.cell n b e⟩
    · intro i n r hn hrr
      have hrr : (ds.map (fun d => some (RV.val d)) ++ List.replicate more Option.none)[i]? = some (some r) := hrr
      have hlen := hr.length
      have hil : i < ds.length := by
        rcases Nat.lt_or_ge i ds.length with q | q
        · exact q
        · exfalso
          rw [List.getElem?_append_right (by simpa using q), List.getElem?_replicate] at hrr
          split at hrr <;> cases hrr
      rw [List.getElem?_append_left (by simpa using hil), List.getElem?_map, List.getElem?_eq_getElem hil] at hrr
      simp at hrr
      subst hrr
      obtain ⟨v, hv, hrep⟩ := hr.get (List.getElem?_eq_getElem hil)
      refine ⟨v, ?_, hrep⟩
      have hn : nm[i]? = some n := hn
      rw [hpre, List.getElem?_append_left (by omega)] at hn
      have hnp : n ∈ pn := List.mem_of_getElem? hn
      unfold LocIs
      have e : (callEnvC fd s.heap.objs.size a).cells.lookup n = none := lookup_none (by rw [hcn]; exact T.par n hnp)
      show (match (callEnvC fd s.heap.objs.size a).cells.lookup n with | none => _ | some ca => _)
      rw [e]
      exact bindL_get _ _ hpl (by rw [zip_map_fst _ _ hvl.symm]; exact hpnd) (zip_get hn hv)

theorem fn_ofC {d : DefRec} {pn nm cn : List Str} {k : Nat} {F : T Fl} {more : Nat} (hN : B.NoLimit) (D0 : Def B mg d) (T : TextC d pn nm cn) (hF : SemSs prog w B ⟨k, d.scope, nm, 0, cn, true⟩ d.body F) :
    FnOk prog w B mg (k + 1) d.name (fun ds r => ds.length = pn.length ∧ Runs F more ds r) := by
  obtain ⟨a, o, pm, code, doc, h1, h2, h3, h4⟩ := D0
  refine ⟨a, h1, ⟨o, _, h2, h3⟩, ?_⟩
  intro A s g vs ds r hA hB hBg hg hr ⟨hlen, hrun⟩
  have hvl : vs.length = pn.length := hr.length.trans hlen
  refine codeAny_call_cells (binds := pn.zip vs) (by have := hA.depth; omega) (hB _ _ h2) h3 (hN.keeps hB) (h4.keeps hB) rfl (T.bind pm code doc vs hvl) rfl (fun y hy => .inl ?_) (fun s₁ X => ?_) T.co T.gen T.kind
  · have hm := mem_zip_fst hy
    obtain ⟨rest, hpre⟩ := T.pre
    exact (T.loc _ (hpre ▸ List.mem_append.mpr (.inl hm))).trans (by rw [if_neg (T.par _ hm)])
  obtain ⟨c, e1, e2, e3, e4, ok, hi, S⟩ := start_cells (k := k) (more := more) T rfl hB hBg hg hr hvl X
  have hk₁ := X.toInCall.same
  obtain ⟨h₁, tk₁, rfl⟩ := hk₁
  rw [← e1]
  refine up' (hF (A.deeper c.env) c _ [] _ _ (hA.deeper _) ok hi S hrun) fun fl s' h => ?_
  obtain ⟨q, h⟩ := h
  have fin : ∀ (g' : PH) ρ m ms tmp v, SG c ms tmp s'.heap g' ρ m → Rep g' v r → PurePost s g r (.ok (.ret v)) s' :=
    fun g' ρ m ms tmp v G hv => ⟨q, v, g', rfl, (fun b o e => G.keepH b o (by rw [e2]; exact e)), e3 ▸ G.g0, G.gh, (fun b o e => by have := G.fresh b o e; rw [e3, e4] at this; exact this), hv⟩
  cases fl with
  | next =>
    obtain ⟨ms', ⟨g', ρ, m, G⟩, h⟩ := h
    rcases h with h | ⟨_, h⟩
    · cases h
    · subst h; exact fin g' ρ m _ _ .none G .none
  | ret v =>
    obtain ⟨d', ms', ⟨g', ρ, m, G⟩, h⟩ := h
    rcases h with h | ⟨h, _⟩
    · cases h; exact fin g' ρ m _ _ v G (G.tmps _ (.head _))
    · cases h
  | brk => exact h.elim
  | cont => exact h.elim
end
end Mine
end

section
set_option linter.unusedVariables false
namespace Mine
noncomputable def dUNIT : D := .tup [.bool false, .lst [.int 1]]
noncomputable def dNOUGHT : D := .tup [.bool false, .lst []]

/-- normal(a): 0 a 1 end -/
noncomputable def b_normal : T Fl :=
  (tSeqs [(tAsg 1 (tLen (tVar 0))),
  (tWhile (tAnd (tCmp .gt (tVar 1) (tC (.int 0))) (tCmp .eq (tItem (tVar 0) (tBin .sub (tVar 1) (tC (.int 1)))) (tC (.int 0))))
  (tSeqs [(tAug 1 .sub (tC (.int 1)))])),
  (tRet (tFrz 0 (tCut (tVar 0) Option.none (some (tVar 1)))))])
noncomputable def K_normal (ds : List D) (r : D) : Prop := ds.length = 1 ∧ Runs (b_normal) 1 ds r

/-- compare(a, b): 0 a 1 b 2 at -/
noncomputable def b_compare : T Fl :=
  (tSeqs [(tIf (tCmp .ne (tLen (tVar 0)) (tLen (tVar 1)))
  (tSeqs [(tRet (tFrz 0 (tIfE (tCmp .lt (tLen (tVar 0)) (tLen (tVar 1))) (tNeg (tC (.int 1))) (tC (.int 1)))))])
  (tSeqs [])),
  (tFor (tRangeD (tBin .sub (tLen (tVar 0)) (tC (.int 1))) (tNeg (tC (.int 1)))) (bind1 2)
  (tSeqs [(tIf (tCmp .ne (tItem (tVar 0) (tVar 2)) (tItem (tVar 1) (tVar 2)))
  (tSeqs [(tRet (tFrz 0 (tIfE (tCmp .lt (tItem (tVar 0) (tVar 2)) (tItem (tVar 1) (tVar 2))) (tNeg (tC (.int 1))) (tC (.int 1)))))])
  (tSeqs []))])),
  (tRet (tFrz 0 (tC (.int 0))))])
noncomputable def K_compare (ds : List D) (r : D) : Prop := ds.length = 2 ∧ Runs (b_compare) 1 ds r

/-- add(a, b, w): 0 a 1 b 2 w 3 found 4 carry 5 mask 6 at -/
noncomputable def b_add : T Fl :=
  (tSeqs [(tIf (tCmp .lt (tLen (tVar 0)) (tLen (tVar 1)))
  (tSeqs [(tMulti [0, 1] [(tVar 1), (tVar 0)])])
  (tSeqs [])),
  (tMulti [3, 4, 5] [(tLst []), (tC (.int 0)), (tBin .sub (tBin .shl (tC (.int 1)) (tVar 2)) (tC (.int 1)))]),
  (tFor (tRange1 (tLen (tVar 1))) (bind1 6)
  (tSeqs [(tAug 4 .add (tBin .add (tItem (tVar 0) (tVar 6)) (tItem (tVar 1) (tVar 6)))),
  (tApp 3 (tFrz 0 (tBin .band (tVar 4) (tVar 5)))),
  (tAug 4 .shr (tVar 2))])),
  (tFor (tRange2 (tLen (tVar 1)) (tLen (tVar 0))) (bind1 6)
  (tSeqs [(tAug 4 .add (tItem (tVar 0) (tVar 6))),
  (tApp 3 (tFrz 0 (tBin .band (tVar 4) (tVar 5)))),
  (tAug 4 .shr (tVar 2))])),
  (tIf (tCmp .gt (tVar 4) (tC (.int 0)))
  (tSeqs [(tApp 3 (tFrz 0 (tVar 4)))])
  (tSeqs [])),
  (tRet (tFrz 0 (tVar 3)))])
noncomputable def K_add (ds : List D) (r : D) : Prop := ds.length = 3 ∧ Runs (b_add) 4 ds r

/-- sub(a, b, w): 0 a 1 b 2 w 3 found 4 borrow 5 base 6 at 7 limb -/
noncomputable def b_sub : T Fl :=
  (tSeqs [(tIf (tCmp .lt (tCall K_compare [(tFrz 0 (tVar 0)), (tFrz 0 (tVar 1))]) (tC (.int 0)))
  (tSeqs [tNever])
  (tSeqs [])),
  (tMulti [3, 4, 5] [(tLst []), (tC (.int 0)), (tBin .shl (tC (.int 1)) (tVar 2))]),
  (tFor (tRange1 (tLen (tVar 0))) (bind1 6)
  (tSeqs [(tAsg 7 (tBin .sub (tBin .sub (tItem (tVar 0) (tVar 6)) (tVar 4)) (tIfE (tCmp .lt (tVar 6) (tLen (tVar 1))) (tItem (tVar 1) (tVar 6)) (tC (.int 0))))),
  (tAsg 4 (tIfE (tCmp .lt (tVar 7) (tC (.int 0))) (tC (.int 1)) (tC (.int 0)))),
  (tApp 3 (tFrz 0 (tIfE (tCmp .lt (tVar 7) (tC (.int 0))) (tBin .add (tVar 7) (tVar 5)) (tVar 7))))])),
  (tRet (tFrz 0 (tCall K_normal [(tFrz 0 (tVar 3))])))])
noncomputable def K_sub (ds : List D) (r : D) : Prop := ds.length = 3 ∧ Runs (b_sub) 5 ds r

/-- divrem_limb(a, limb, w): 0 a 1 limb 2 w 3 found 4 rest 5 at -/
noncomputable def b_divrem_limb : T Fl :=
  (tSeqs [(tIf (tCmp .eq (tVar 1) (tC (.int 0)))
  (tSeqs [tNever])
  (tSeqs [])),
  (tMulti [3, 4] [(tRep (tLstV [(tFrz 0 (tC (.int 0)))]) (tLen (tVar 0))), (tC (.int 0))]),
  (tFor (tRangeD (tBin .sub (tLen (tVar 0)) (tC (.int 1))) (tNeg (tC (.int 1)))) (bind1 5)
  (tSeqs [(tAsg 4 (tBin .bor (tBin .shl (tVar 4) (tVar 2)) (tItem (tVar 0) (tVar 5)))),
  (tPut 3 (tVar 5) (tFrz 0 (tBin .div (tVar 4) (tVar 1)))),
  (tAug 4 .mod (tVar 1))])),
  (tRet (tFrz 0 (tTup [(tFrz 0 (tCall K_normal [(tFrz 0 (tVar 3))])), (tFrz 0 (tVar 4))])))])
noncomputable def K_divrem_limb (ds : List D) (r : D) : Prop := ds.length = 3 ∧ Runs (b_divrem_limb) 3 ds r

/-- shift_left(a, n, w): 0 a 1 n 2 w 3 spots 4 few 5 found 6 carry 7 mask 8 one -/
noncomputable def b_shift_left : T Fl :=
  (tSeqs [(tIf (tCmp .eq (tLen (tVar 0)) (tC (.int 0)))
  (tSeqs [(tRet (tFrz 0 (tLstV [])))])
  (tSeqs [])),
  (tMulti [3, 4] [(tBin .div (tVar 1) (tVar 2)), (tBin .mod (tVar 1) (tVar 2))]),
  (tMulti [5, 6, 7] [(tRep (tLstV [(tFrz 0 (tC (.int 0)))]) (tVar 3)), (tC (.int 0)), (tBin .sub (tBin .shl (tC (.int 1)) (tVar 2)) (tC (.int 1)))]),
  (tFor (tItems (tFrz 0 (tVar 0))) (bind1 8)
  (tSeqs [(tAug 6 .bor (tBin .shl (tVar 8) (tVar 4))),
  (tApp 5 (tFrz 0 (tBin .band (tVar 6) (tVar 7)))),
  (tAug 6 .shr (tVar 2))])),
  (tIf (tCmp .gt (tVar 6) (tC (.int 0)))
  (tSeqs [(tApp 5 (tFrz 0 (tVar 6)))])
  (tSeqs [])),
  (tRet (tFrz 0 (tVar 5)))])
noncomputable def K_shift_left (ds : List D) (r : D) : Prop := ds.length = 3 ∧ Runs (b_shift_left) 6 ds r

/-- shift_right(a, n, w): 0 a 1 n 2 w 3 spots 4 few 5 found 6 mask 7 at 8 above -/
noncomputable def b_shift_right : T Fl :=
  (tSeqs [(tMulti [3, 4] [(tBin .div (tVar 1) (tVar 2)), (tBin .mod (tVar 1) (tVar 2))]),
  (tMulti [5, 6] [(tLst []), (tBin .sub (tBin .shl (tC (.int 1)) (tVar 2)) (tC (.int 1)))]),
  (tFor (tRange2 (tVar 3) (tLen (tVar 0))) (bind1 7)
  (tSeqs [(tAsg 8 (tIfE (tCmp .lt (tBin .add (tVar 7) (tC (.int 1))) (tLen (tVar 0))) (tItem (tVar 0) (tBin .add (tVar 7) (tC (.int 1)))) (tC (.int 0)))),
  (tApp 5 (tFrz 0 (tBin .band (tBin .bor (tBin .shr (tItem (tVar 0) (tVar 7)) (tVar 4)) (tBin .shl (tVar 8) (tBin .sub (tVar 2) (tVar 4)))) (tVar 6))))])),
  (tRet (tFrz 0 (tCall K_normal [(tFrz 0 (tVar 5))])))])
noncomputable def K_shift_right (ds : List D) (r : D) : Prop := ds.length = 3 ∧ Runs (b_shift_right) 6 ds r

/-- bits(a, w): 0 a 1 w -/
noncomputable def b_bits : T Fl :=
  (tSeqs [(tRet (tFrz 0 (tIfE (tCmp .gt (tLen (tVar 0)) (tC (.int 0))) (tBin .add (tBin .mul (tBin .sub (tLen (tVar 0)) (tC (.int 1))) (tVar 1)) (tBitLen (tItem (tVar 0) (tNeg (tC (.int 1)))))) (tC (.int 0)))))])
noncomputable def K_bits (ds : List D) (r : D) : Prop := ds.length = 2 ∧ Runs (b_bits) 0 ds r

/-- signed(is_below, nat): 0 is_below 1 nat -/
noncomputable def b_signed : T Fl :=
  (tSeqs [(tRet (tFrz 0 (tTup [(tFrz 0 (tBoolV (tAnd (tTruth (tVar 0)) (tCmp .gt (tLen (tVar 1)) (tC (.int 0)))))), (tFrz 0 (tVar 1))])))])
noncomputable def K_signed (ds : List D) (r : D) : Prop := ds.length = 2 ∧ Runs (b_signed) 0 ds r

/-- s_neg(x): 0 x -/
noncomputable def b_s_neg : T Fl :=
  (tSeqs [(tRet (tFrz 0 (tCall K_signed [(tFrz 0 (tBoolV (tNot (tTruth (tItem (tVar 0) (tC (.int 0))))))), (tFrz 0 (tItem (tVar 0) (tC (.int 1))))])))])
noncomputable def K_s_neg (ds : List D) (r : D) : Prop := ds.length = 1 ∧ Runs (b_s_neg) 0 ds r

/-- s_sign(x): 0 x -/
noncomputable def b_s_sign : T Fl :=
  (tSeqs [(tIf (tCmp .eq (tLen (tItem (tVar 0) (tC (.int 1)))) (tC (.int 0)))
  (tSeqs [(tRet (tFrz 0 (tC (.int 0))))])
  (tSeqs [])),
  (tRet (tFrz 0 (tIfE (tTruth (tItem (tVar 0) (tC (.int 0)))) (tNeg (tC (.int 1))) (tC (.int 1)))))])
noncomputable def K_s_sign (ds : List D) (r : D) : Prop := ds.length = 1 ∧ Runs (b_s_sign) 0 ds r

/-- s_add(x, y, w): 0 x 1 y 2 w -/
noncomputable def b_s_add : T Fl :=
  (tSeqs [(tIf (tEqB false (tItem (tVar 0) (tC (.int 0))) (tItem (tVar 1) (tC (.int 0))))
  (tSeqs [(tRet (tFrz 0 (tCall K_signed [(tFrz 0 (tItem (tVar 0) (tC (.int 0)))), (tFrz 0 (tCall K_add [(tFrz 0 (tItem (tVar 0) (tC (.int 1)))), (tFrz 0 (tItem (tVar 1) (tC (.int 1)))), (tFrz 0 (tVar 2))]))])))])
  (tSeqs [])),
  (tIf (tCmp .lt (tCall K_compare [(tFrz 0 (tItem (tVar 0) (tC (.int 1)))), (tFrz 0 (tItem (tVar 1) (tC (.int 1))))]) (tC (.int 0)))
  (tSeqs [(tRet (tFrz 0 (tCall K_signed [(tFrz 0 (tItem (tVar 1) (tC (.int 0)))), (tFrz 0 (tCall K_sub [(tFrz 0 (tItem (tVar 1) (tC (.int 1)))), (tFrz 0 (tItem (tVar 0) (tC (.int 1)))), (tFrz 0 (tVar 2))]))])))])
  (tSeqs [])),
  (tRet (tFrz 0 (tCall K_signed [(tFrz 0 (tItem (tVar 0) (tC (.int 0)))), (tFrz 0 (tCall K_sub [(tFrz 0 (tItem (tVar 0) (tC (.int 1)))), (tFrz 0 (tItem (tVar 1) (tC (.int 1)))), (tFrz 0 (tVar 2))]))])))])
noncomputable def K_s_add (ds : List D) (r : D) : Prop := ds.length = 3 ∧ Runs (b_s_add) 0 ds r

/-- s_sub(x, y, w): 0 x 1 y 2 w -/
noncomputable def b_s_sub : T Fl :=
  (tSeqs [(tRet (tFrz 0 (tCall K_s_add [(tFrz 0 (tVar 0)), (tFrz 0 (tCall K_s_neg [(tFrz 0 (tVar 1))])), (tFrz 0 (tVar 2))])))])
noncomputable def K_s_sub (ds : List D) (r : D) : Prop := ds.length = 3 ∧ Runs (b_s_sub) 0 ds r

/-- mul_school(a, b, w): 0 a 1 b 2 w 3 found 4 mask 5 at 6 limb 7 carry 8 spot 9 other -/
noncomputable def b_mul_school : T Fl :=
  (tSeqs [(tMulti [3, 4] [(tRep (tLstV [(tFrz 0 (tC (.int 0)))]) (tBin .add (tLen (tVar 0)) (tLen (tVar 1)))), (tBin .sub (tBin .shl (tC (.int 1)) (tVar 2)) (tC (.int 1)))]),
  (tFor (tEnum (tFrz 0 (tVar 0))) (bindT [5, 6])
  (tSeqs [(tAsg 7 (tC (.int 0))),
  (tFor (tEnum (tFrz 0 (tVar 1))) (bindT [8, 9])
  (tSeqs [(tAug 7 .add (tBin .add (tItem (tVar 3) (tBin .add (tVar 5) (tVar 8))) (tBin .mul (tVar 6) (tVar 9)))),
  (tPut 3 (tBin .add (tVar 5) (tVar 8)) (tFrz 0 (tBin .band (tVar 7) (tVar 4)))),
  (tAug 7 .shr (tVar 2))])),
  (tPut 3 (tBin .add (tVar 5) (tLen (tVar 1))) (tFrz 0 (tVar 7)))])),
  (tRet (tFrz 0 (tCall K_normal [(tFrz 0 (tVar 3))])))])
noncomputable def K_mul_school (ds : List D) (r : D) : Prop := ds.length = 3 ∧ Runs (b_mul_school) 7 ds r

/-- divrem_small(a, b, w): 0 a 1 b 2 w 3 quotient 4 rest -/
noncomputable def b_divrem_small : T Fl :=
  (tSeqs [(tUnp [3, 4] (tFrz 0 (tCall K_divrem_limb [(tFrz 0 (tVar 0)), (tFrz 0 (tItem (tVar 1) (tC (.int 0)))), (tFrz 0 (tVar 2))]))),
  (tRet (tFrz 0 (tTup [(tFrz 0 (tVar 3)), (tFrz 0 (tIfE (tCmp .gt (tVar 4) (tC (.int 0))) (tLst [(tFrz 0 (tVar 4))]) (tLst [])))])))])
noncomputable def K_divrem_small (ds : List D) (r : D) : Prop := ds.length = 3 ∧ Runs (b_divrem_small) 2 ds r

/-- guessed_limb(top, first, second, w): 0 top 1 first 2 second 3 w 4 high 5 base 6 limb 7 rest -/
noncomputable def b_guessed_limb : T Fl :=
  (tSeqs [(tMulti [4, 5] [(tBin .bor (tBin .shl (tItem (tVar 0) (tC (.int 2))) (tVar 3)) (tItem (tVar 0) (tC (.int 1)))), (tBin .shl (tC (.int 1)) (tVar 3))]),
  (tAsg 6 (tMin (tBin .div (tVar 4) (tVar 1)) (tBin .sub (tVar 5) (tC (.int 1))))),
  (tAsg 7 (tBin .sub (tVar 4) (tBin .mul (tVar 6) (tVar 1)))),
  (tWhile (tAnd (tCmp .lt (tVar 7) (tVar 5)) (tCmp .gt (tBin .mul (tVar 6) (tVar 2)) (tBin .bor (tBin .shl (tVar 7) (tVar 3)) (tItem (tVar 0) (tC (.int 0))))))
  (tSeqs [(tAug 6 .sub (tC (.int 1))),
  (tAug 7 .add (tVar 1))])),
  (tRet (tFrz 0 (tVar 6)))])
noncomputable def K_guessed_limb (ds : List D) (r : D) : Prop := ds.length = 4 ∧ Runs (b_guessed_limb) 4 ds r

/-- take_away(rest, b, limb, at, w): 0 rest 1 b 2 limb 3 at 4 w 5 carry 6 base 7 spot 8 other 9 here -/
noncomputable def b_take_away : T Fl :=
  (tSeqs [(tMulti [5, 6] [(tC (.int 0)), (tBin .shl (tC (.int 1)) (tVar 4))]),
  (tFor (tEnum (tFrz 1 (tVar 1))) (bindT [7, 8])
  (tSeqs [(tAsg 9 (tBin .sub (tItem (tVar 0) (tBin .add (tVar 3) (tVar 7))) (tBin .mod (tBin .add (tBin .mul (tVar 2) (tVar 8)) (tVar 5)) (tVar 6)))),
  (tAsg 5 (tBin .add (tBin .div (tBin .add (tBin .mul (tVar 2) (tVar 8)) (tVar 5)) (tVar 6)) (tIfE (tCmp .lt (tVar 9) (tC (.int 0))) (tC (.int 1)) (tC (.int 0))))),
  (tPut 0 (tBin .add (tVar 3) (tVar 7)) (tFrz 1 (tIfE (tCmp .lt (tVar 9) (tC (.int 0))) (tBin .add (tVar 9) (tVar 6)) (tVar 9))))])),
  (tAsg 9 (tBin .sub (tItem (tVar 0) (tBin .add (tVar 3) (tLen (tVar 1)))) (tVar 5))),
  (tPut 0 (tBin .add (tVar 3) (tLen (tVar 1))) (tFrz 1 (tIfE (tCmp .lt (tVar 9) (tC (.int 0))) (tBin .add (tVar 9) (tVar 6)) (tVar 9)))),
  (tRet (tFrz 1 (tIfE (tCmp .lt (tVar 9) (tC (.int 0))) (tC (.int 1)) (tC (.int 0)))))])
noncomputable def K_take_away (xs ds xs' : List D) (r : D) : Prop := ds.length = 4 ∧ xs'.length ≤ LIM ∧ RunsM (b_take_away) 5 xs ds xs' r

/-- put_back(rest, b, at, w): 0 rest 1 b 2 at 3 w 4 carry 5 mask 6 spot 7 other -/
noncomputable def b_put_back : T Fl :=
  (tSeqs [(tMulti [4, 5] [(tC (.int 0)), (tBin .sub (tBin .shl (tC (.int 1)) (tVar 3)) (tC (.int 1)))]),
  (tFor (tEnum (tFrz 1 (tVar 1))) (bindT [6, 7])
  (tSeqs [(tAug 4 .add (tBin .add (tItem (tVar 0) (tBin .add (tVar 2) (tVar 6))) (tVar 7))),
  (tPut 0 (tBin .add (tVar 2) (tVar 6)) (tFrz 1 (tBin .band (tVar 4) (tVar 5)))),
  (tAug 4 .shr (tVar 3))])),
  (tPut 0 (tBin .add (tVar 2) (tLen (tVar 1))) (tFrz 1 (tBin .band (tBin .add (tItem (tVar 0) (tBin .add (tVar 2) (tLen (tVar 1)))) (tVar 4)) (tVar 5))))])
noncomputable def K_put_back (xs ds xs' : List D) (r : D) : Prop := ds.length = 3 ∧ xs'.length ≤ LIM ∧ RunsM (b_put_back) 4 xs ds xs' r

/-- divide_rows(rest, b, w): 0 rest 1 b 2 w 3 size 4 quotient 5 at 6 limb -/
noncomputable def b_divide_rows : T Fl :=
  (tSeqs [(tAsg 3 (tLen (tVar 1))),
  (tAsg 4 (tRep (tLstV [(tFrz 1 (tC (.int 0)))]) (tBin .sub (tLen (tVar 0)) (tVar 3)))),
  (tFor (tRangeD (tBin .sub (tBin .sub (tLen (tVar 0)) (tVar 3)) (tC (.int 1))) (tNeg (tC (.int 1)))) (bind1 5)
  (tSeqs [(tAsg 6 (tCall K_guessed_limb [(tFrz 1 (tCut (tVar 0) (some (tBin .sub (tBin .add (tVar 5) (tVar 3)) (tC (.int 2)))) (some (tBin .add (tBin .add (tVar 5) (tVar 3)) (tC (.int 1)))))), (tFrz 1 (tItem (tVar 1) (tBin .sub (tVar 3) (tC (.int 1))))), (tFrz 1 (tItem (tVar 1) (tBin .sub (tVar 3) (tC (.int 2))))), (tFrz 1 (tVar 2))])),
  (tIf (tCmp .eq (tCallM K_take_away 0 [(tFrz 1 (tVar 1)), (tFrz 1 (tVar 6)), (tFrz 1 (tVar 5)), (tFrz 1 (tVar 2))]) (tC (.int 1)))
  (tSeqs [(tAug 6 .sub (tC (.int 1))),
  (tDo (tCallM K_put_back 0 [(tFrz 1 (tVar 1)), (tFrz 1 (tVar 5)), (tFrz 1 (tVar 2))]))])
  (tSeqs [])),
  (tPut 4 (tVar 5) (tFrz 1 (tVar 6)))])),
  (tRet (tFrz 1 (tVar 4)))])
noncomputable def K_divide_rows (xs ds xs' : List D) (r : D) : Prop := ds.length = 2 ∧ xs'.length ≤ LIM ∧ RunsM (b_divide_rows) 4 xs ds xs' r

/-- divrem_school(a, b, w): 0 a 1 b 2 w 3 shift 4 divisor 5 rest 6 quotient -/
noncomputable def b_divrem_school : T Fl :=
  (tSeqs [(tIf (tCmp .eq (tLen (tVar 1)) (tC (.int 0)))
  (tSeqs [tNever])
  (tSeqs [])),
  (tIf (tCmp .lt (tCall K_compare [(tFrz 0 (tVar 0)), (tFrz 0 (tVar 1))]) (tC (.int 0)))
  (tSeqs [(tRet (tFrz 0 (tTup [(tFrz 0 (tLstV [])), (tFrz 0 (tCut (tVar 0) Option.none Option.none))])))])
  (tSeqs [])),
  (tIf (tCmp .eq (tLen (tVar 1)) (tC (.int 1)))
  (tSeqs [(tRet (tFrz 0 (tCall K_divrem_small [(tFrz 0 (tVar 0)), (tFrz 0 (tVar 1)), (tFrz 0 (tVar 2))])))])
  (tSeqs [])),
  (tAsg 3 (tBin .sub (tVar 2) (tCall K_bits [(tFrz 0 (tLstV [(tFrz 0 (tItem (tVar 1) (tNeg (tC (.int 1)))))])), (tFrz 0 (tVar 2))]))),
  (tAsg 4 (tCall K_shift_left [(tFrz 0 (tVar 1)), (tFrz 0 (tVar 3)), (tFrz 0 (tVar 2))])),
  (tAsg 5 (tCall K_shift_left [(tFrz 0 (tVar 0)), (tFrz 0 (tVar 3)), (tFrz 0 (tVar 2))])),
  (tAsg 5 (tCat (tVar 5) (tRep (tLstV [(tFrz 0 (tC (.int 0)))]) (tBin .sub (tBin .add (tLen (tVar 0)) (tC (.int 1))) (tLen (tVar 5)))))),
  (tAsg 6 (tCallM K_divide_rows 5 [(tFrz 0 (tVar 4)), (tFrz 0 (tVar 2))])),
  (tRet (tFrz 0 (tTup [(tFrz 0 (tCall K_normal [(tFrz 0 (tVar 6))])), (tFrz 0 (tCall K_shift_right [(tFrz 0 (tCall K_normal [(tFrz 0 (tVar 5))])), (tFrz 0 (tVar 3)), (tFrz 0 (tVar 2))]))])))])
noncomputable def K_divrem_school (ds : List D) (r : D) : Prop := ds.length = 3 ∧ Runs (b_divrem_school) 4 ds r

noncomputable def KV (am ad a : Nat) (ds : List D) (r : D) : Prop := (a = am ∧ K_mul_school ds r) ∨ (a = ad ∧ K_divrem_school ds r)

/-- s_mul(x, y, w, mul): 0 x 1 y 2 w 3 mul -/
noncomputable def b_s_mul (am ad : Nat) : T Fl :=
  (tSeqs [(tRet (tFrz 0 (tCall K_signed [(tFrz 0 (tBoolV (tEqB true (tItem (tVar 0) (tC (.int 0))) (tItem (tVar 1) (tC (.int 0)))))), (tFrz 0 (tCallV [am, ad] (KV am ad) 3 [(tFrz 0 (tItem (tVar 0) (tC (.int 1)))), (tFrz 0 (tItem (tVar 1) (tC (.int 1)))), (tFrz 0 (tVar 2))]))])))])
noncomputable def K_s_mul (am ad : Nat) (ds : List D) (r : D) : Prop := ds.length = 4 ∧ Runs (b_s_mul am ad) 0 ds r

/-- tdiv(x, y, w, divrem): 0 x 1 y 2 w 3 divrem 4 quotient 5 rest -/
noncomputable def b_tdiv (am ad : Nat) : T Fl :=
  (tSeqs [(tIf (tCmp .eq (tLen (tItem (tVar 1) (tC (.int 1)))) (tC (.int 0)))
  (tSeqs [tNever])
  (tSeqs [])),
  (tUnp [4, 5] (tFrz 0 (tCallV [am, ad] (KV am ad) 3 [(tFrz 0 (tItem (tVar 0) (tC (.int 1)))), (tFrz 0 (tItem (tVar 1) (tC (.int 1)))), (tFrz 0 (tVar 2))]))),
  (tRet (tFrz 0 (tTup [(tFrz 0 (tCall K_signed [(tFrz 0 (tBoolV (tEqB true (tItem (tVar 0) (tC (.int 0))) (tItem (tVar 1) (tC (.int 0)))))), (tFrz 0 (tVar 4))])), (tFrz 0 (tCall K_signed [(tFrz 0 (tItem (tVar 0) (tC (.int 0)))), (tFrz 0 (tVar 5))]))])))])
noncomputable def K_tdiv (am ad : Nat) (ds : List D) (r : D) : Prop := ds.length = 4 ∧ Runs (b_tdiv am ad) 2 ds r

/-- exact(x, y, w, divrem): 0 x 1 y 2 w 3 divrem 4 found 5 rest -/
noncomputable def b_exact (am ad : Nat) : T Fl :=
  (tSeqs [(tUnp [4, 5] (tFrz 0 (tCall (K_tdiv am ad) [(tFrz 0 (tVar 0)), (tFrz 0 (tVar 1)), (tFrz 0 (tVar 2)), (tFrz 0 (tVar 3))]))),
  (tRet (tFrz 0 (tVar 4)))])
noncomputable def K_exact (am ad : Nat) (ds : List D) (r : D) : Prop := ds.length = 4 ∧ Runs (b_exact am ad) 2 ds r

/-- pivot_row(rows, top, column): 0 rows 1 top 2 column 3 at -/
noncomputable def b_pivot_row : T Fl :=
  (tSeqs [(tFor (tRange2 (tVar 1) (tLen (tVar 0))) (bind1 3)
  (tSeqs [(tIf (tCmp .ne (tCall K_s_sign [(tFrz 0 (tItem (tItem (tVar 0) (tVar 3)) (tVar 2)))]) (tC (.int 0)))
  (tSeqs [(tRet (tFrz 0 (tVar 3)))])
  (tSeqs []))])),
  (tRet (tFrz 0 (tNeg (tC (.int 1)))))])
noncomputable def K_pivot_row (ds : List D) (r : D) : Prop := ds.length = 3 ∧ Runs (b_pivot_row) 1 ds r

/-- cleared(row, head, column, before, w, mul, divrem): 0 row 1 head 2 column 3 before 4 w 5 mul 6 divrem 7 pivot 8 own 9 found 10 at 11 value 12 here -/
noncomputable def b_cleared (am ad : Nat) : T Fl :=
  (tSeqs [(tMulti [7, 8] [(tItem (tVar 1) (tVar 2)), (tItem (tVar 0) (tVar 2))]),
  (tAsg 9 (tLst [])),
  (tFor (tEnum (tFrz 0 (tVar 0))) (bindT [10, 11])
  (tSeqs [(tAsg 12 (tCall K_s_sub [(tFrz 0 (tCall (K_s_mul am ad) [(tFrz 0 (tVar 11)), (tFrz 0 (tVar 7)), (tFrz 0 (tVar 4)), (tFrz 0 (tVar 5))])), (tFrz 0 (tCall (K_s_mul am ad) [(tFrz 0 (tVar 8)), (tFrz 0 (tItem (tVar 1) (tVar 10))), (tFrz 0 (tVar 4)), (tFrz 0 (tVar 5))])), (tFrz 0 (tVar 4))])),
  (tApp 9 (tFrz 0 (tCall (K_exact am ad) [(tFrz 0 (tVar 12)), (tFrz 0 (tVar 3)), (tFrz 0 (tVar 4)), (tFrz 0 (tVar 6))])))])),
  (tRet (tFrz 0 (tVar 9)))])
noncomputable def K_cleared (am ad : Nat) (ds : List D) (r : D) : Prop := ds.length = 7 ∧ Runs (b_cleared am ad) 6 ds r

/-- steps_down(a, columns, w, mul, divrem): 0 a 1 columns 2 w 3 mul 4 divrem 5 rows 6 places 7 is_odd 8 before 9 column 10 top 11 spot 12 at -/
noncomputable def b_steps_down (am ad : Nat) : T Fl :=
  (tSeqs [(tMulti [5, 6, 7, 8] [(tCompP (tItems (tFrz 0 (tVar 0))) 1 [] (bind1 0) tTrue (tFrz 0 (tCut (tVar 0) Option.none Option.none))), (tLst []), (tC (.bool false)), (tC dUNIT)]),
  (tFor (tRange1 (tVar 1)) (bind1 9)
  (tSeqs [(tAsg 10 (tLen (tVar 6))),
  (tAsg 11 (tCallL K_pivot_row 5 [(tFrz 0 (tVar 10)), (tFrz 0 (tVar 9))])),
  (tIf (tCmp .ge (tVar 11) (tC (.int 0)))
  (tSeqs [(tIf (tCmp .ne (tVar 11) (tVar 10))
  (tSeqs [(tSwap 5 (tVar 10) (tVar 11) (tFrz 0 (tItem (tVar 5) (tVar 11))) (tFrz 0 (tItem (tVar 5) (tVar 10)))),
  (tAsg 7 (tBoolV (tNot (tTruth (tVar 7)))))])
  (tSeqs [])),
  (tFor (tRange2 (tBin .add (tVar 10) (tC (.int 1))) (tLen (tVar 5))) (bind1 12)
  (tSeqs [(tPut 5 (tVar 12) (tFrz 0 (tCall (K_cleared am ad) [(tFrz 0 (tItem (tVar 5) (tVar 12))), (tFrz 0 (tItem (tVar 5) (tVar 10))), (tFrz 0 (tVar 9)), (tFrz 0 (tVar 8)), (tFrz 0 (tVar 2)), (tFrz 0 (tVar 3)), (tFrz 0 (tVar 4))])))])),
  (tAsg 8 (tItem (tItem (tVar 5) (tVar 10)) (tVar 9))),
  (tApp 6 (tFrz 0 (tVar 9)))])
  (tSeqs []))])),
  (tRet (tFrz 0 (tTup [(tFrz 0 (tVar 5)), (tFrz 0 (tVar 6)), (tFrz 0 (tVar 7))])))])
noncomputable def K_steps_down (am ad : Nat) (ds : List D) (r : D) : Prop := ds.length = 5 ∧ Runs (b_steps_down am ad) 8 ds r

/-- det_bareiss(a, w, mul, divrem): 0 a 1 w 2 mul 3 divrem 4 rows 5 places 6 is_odd 7 last -/
noncomputable def b_det_bareiss (am ad : Nat) : T Fl :=
  (tSeqs [(tIf (tCmp .eq (tLen (tVar 0)) (tC (.int 0)))
  (tSeqs [(tRet (tFrz 0 (tC dUNIT)))])
  (tSeqs [])),
  (tUnp [4, 5, 6] (tFrz 0 (tCall (K_steps_down am ad) [(tFrz 0 (tVar 0)), (tFrz 0 (tLen (tVar 0))), (tFrz 0 (tVar 1)), (tFrz 0 (tVar 2)), (tFrz 0 (tVar 3))]))),
  (tIf (tCmp .lt (tLen (tVar 5)) (tLen (tVar 0)))
  (tSeqs [(tRet (tFrz 0 (tC dNOUGHT)))])
  (tSeqs [])),
  (tAsg 7 (tItem (tItem (tVar 4) (tNeg (tC (.int 1)))) (tBin .sub (tLen (tVar 0)) (tC (.int 1))))),
  (tRet (tFrz 0 (tIfE (tTruth (tVar 6)) (tCall K_s_neg [(tFrz 0 (tVar 7))]) (tVar 7))))])
noncomputable def K_det_bareiss (am ad : Nat) (ds : List D) (r : D) : Prop := ds.length = 4 ∧ Runs (b_det_bareiss am ad) 4 ds r

/-- law_condensed(drop, many): 0 drop 1 many -/
noncomputable def b_law_condensed : T Fl :=
  (tSeqs [(tPut 0 (tC (.int 0)) (tFrz 1 (tBin .add (tItem (tVar 0) (tC (.int 0))) (tC (.int 1))))),
  (tIf (tCmp .le (tItem (tVar 0) (tC (.int 0))) (tLen (tItem (tVar 0) (tC (.int 1)))))
  (tSeqs [(tRet (tFrz 1 (tBin .mod (tItem (tItem (tVar 0) (tC (.int 1))) (tBin .sub (tItem (tVar 0) (tC (.int 0))) (tC (.int 1)))) (tVar 1))))])
  (tSeqs [])),
  (tRet (tFrz 1 (tBin .mod (tBin .add (tBin .add (tBin .mul (tC (.int 8)) (tItem (tVar 0) (tC (.int 0)))) (tBin .div (tItem (tVar 0) (tC (.int 0))) (tC (.int 3)))) (tC (.int 5))) (tVar 1))))])
noncomputable def K_law_condensed (xs ds xs' : List D) (r : D) : Prop := ds.length = 1 ∧ xs'.length ≤ LIM ∧ RunsM (b_law_condensed) 0 xs ds xs' r

/-- law_limbs(number, w): 0 number 1 w 2 found -/
noncomputable def b_law_limbs : T Fl :=
  (tSeqs [(tAsg 2 (tLst [])),
  (tWhile (tCmp .gt (tVar 0) (tC (.int 0)))
  (tSeqs [(tApp 2 (tFrz 0 (tBin .mod (tVar 0) (tBin .pow (tC (.int 2)) (tVar 1))))),
  (tAsg 0 (tBin .div (tVar 0) (tBin .pow (tC (.int 2)) (tVar 1))))])),
  (tRet (tFrz 0 (tVar 2)))])
noncomputable def K_law_limbs (ds : List D) (r : D) : Prop := ds.length = 2 ∧ Runs (b_law_limbs) 1 ds r

/-- law_signed(number, w): 0 number 1 w -/
noncomputable def b_law_signed : T Fl :=
  (tSeqs [(tRet (tFrz 0 (tTup [(tFrz 0 (tBoolV (tCmp .lt (tVar 0) (tC (.int 0))))), (tFrz 0 (tCall K_law_limbs [(tFrz 0 (tAbs (tVar 0))), (tFrz 0 (tVar 1))]))])))])
noncomputable def K_law_signed (ds : List D) (r : D) : Prop := ds.length = 2 ∧ Runs (b_law_signed) 0 ds r

/-- law_all_orders(rows): 0 rows 1 state 2 row 3 longer 4 order 5 worth 6 at 7 ahead -/
noncomputable def b_law_all_orders : T Fl :=
  (tSeqs [(tAsg 1 (tLstV [(tFrz 0 (tTup [(tFrz 0 (tTup [])), (tFrz 0 (tC (.int 1)))]))])),
  (tFor (tItems (tFrz 0 (tVar 0))) (bind1 2)
  (tSeqs [(tAsg 3 (tLst [])),
  (tFor (tItems (tFrz 0 (tVar 1))) (bindT [4, 5])
  (tSeqs [(tFor (tRange1 (tLen (tVar 0))) (bind1 6)
  (tSeqs [(tIf (tAnd (tNotIn (tVar 6) (tVar 4)) (tCmp .ne (tItem (tVar 2) (tVar 6)) (tC (.int 0))))
  (tSeqs [(tAsg 7 (tLen (tCompV (tItemsT (tFrz 0 (tVar 4))) 1 [6] (bind1 0) (tCmp .gt (tVar 0) (tVar 1)) (tFrz 0 (tVar 0))))),
  (tApp 3 (tFrz 0 (tTup [(tFrz 0 (tTCat (tVar 4) (tTup [(tFrz 0 (tVar 6))]))), (tFrz 0 (tBin .mul (tBin .mul (tVar 5) (tItem (tVar 2) (tVar 6))) (tBin .sub (tC (.int 1)) (tBin .mul (tC (.int 2)) (tBin .mod (tVar 7) (tC (.int 2)))))))])))])
  (tSeqs []))]))])),
  (tAsg 1 (tUp (tFrz 0 (tVar 3))))])),
  (tRet (tFrz 0 (tSum (tCompV (tItems (tFrz 0 (tVar 1))) 2 [] (bindT [0, 1]) tTrue (tFrz 0 (tVar 1))))))])
noncomputable def K_law_all_orders (ds : List D) (r : D) : Prop := ds.length = 1 ∧ Runs (b_law_all_orders) 7 ds r

/-- law_times(x, y, w): 0 x 1 y 2 w -/
noncomputable def b_law_times (am ad : Nat) : T Fl :=
  (tSeqs [(tRet (tFrz 0 (tCall (K_s_mul am ad) [(tFrz 0 (tVar 0)), (tFrz 0 (tVar 1)), (tFrz 0 (tVar 2)), (tFrz 0 (tC (.fn am)))])))])
noncomputable def K_law_times (am ad : Nat) (ds : List D) (r : D) : Prop := ds.length = 3 ∧ Runs (b_law_times am ad) 0 ds r

/-- law(script): 0 script 1 drop 2 w 3 size 4 plain 5 rows 6 told 7 many 8 top 9 left 10 block 11 due 12 less 13 middle 14 straight 15 across 16 gone -/
noncomputable def b_law (am ad : Nat) : T Fl :=
  (tSeqs [(tAsg 1 (tLst [(tFrz 0 (tC (.int 0))), (tFrz 0 (tCompV (tItems (tFrz 0 (tCut (tVar 0) Option.none (some (tC (.int 30)))))) 1 [] (bind1 0) tTrue (tFrz 0 (tAbs (tIntOf (tVar 0))))))])),
  (tMulti [2, 3] [(tBin .add (tC (.int 3)) (tCallM K_law_condensed 1 [(tFrz 0 (tC (.int 6)))])), (tBin .add (tC (.int 3)) (tBin .div (tCallM K_law_condensed 1 [(tFrz 0 (tC (.int 4)))]) (tC (.int 3))))]),
  (tAsg 4 (tCompV (tRange1 (tVar 3)) 1 [1, 3] (bind1 0) tTrue (tFrz 0 (tCompV (tRange1 (tVar 2)) 1 [1] (bind1 0) tTrue (tFrz 0 (tBin .sub (tCallM K_law_condensed 1 [(tFrz 0 (tC (.int 7)))]) (tC (.int 3)))))))),
  (tAsg 5 (tCompV (tItems (tFrz 0 (tVar 4))) 1 [2] (bind1 0) tTrue (tFrz 0 (tCompV (tItems (tFrz 0 (tVar 0))) 1 [1] (bind1 0) tTrue (tFrz 0 (tCall K_law_signed [(tFrz 0 (tVar 0)), (tFrz 0 (tVar 1))])))))),
  (tAsg 6 tDict),
  (tFor (tRange1 (tBin .add (tVar 3) (tC (.int 1)))) (bind1 7)
  (tSeqs [(tFor (tRange1 (tBin .add (tBin .sub (tVar 3) (tVar 7)) (tC (.int 1)))) (bind1 8)
  (tSeqs [(tFor (tRange1 (tBin .add (tBin .sub (tVar 3) (tVar 7)) (tC (.int 1)))) (bind1 9)
  (tSeqs [(tAsg 10 (tCompV (tItems (tFrz 0 (tCut (tVar 5) (some (tVar 8)) (some (tBin .add (tVar 8) (tVar 7)))))) 1 [9, 7] (bind1 0) tTrue (tFrz 0 (tCut (tVar 0) (some (tVar 1)) (some (tBin .add (tVar 1) (tVar 2))))))),
  (tPutD 6 (tTup [(tFrz 0 (tVar 7)), (tFrz 0 (tVar 8)), (tFrz 0 (tVar 9))]) (tFrz 0 (tCall (K_det_bareiss am ad) [(tFrz 0 (tVar 10)), (tFrz 0 (tVar 2)), (tFrz 0 (tC (.fn am))), (tFrz 0 (tC (.fn ad)))]))),
  (tAsg 11 (tCall K_law_all_orders [(tFrz 0 (tCompV (tItems (tFrz 0 (tCut (tVar 4) (some (tVar 8)) (some (tBin .add (tVar 8) (tVar 7)))))) 1 [9, 7] (bind1 0) tTrue (tFrz 0 (tCut (tVar 0) (some (tVar 1)) (some (tBin .add (tVar 1) (tVar 2)))))))])),
  (tIf (tNe (tGet (tVar 6) (tTup [(tFrz 0 (tVar 7)), (tFrz 0 (tVar 8)), (tFrz 0 (tVar 9))])) (tCall K_law_signed [(tFrz 0 (tVar 11)), (tFrz 0 (tVar 2))]))
  (tSeqs [(tRet (tFrz 0 (tC (.bool false))))])
  (tSeqs [])),
  (tIf (tCmp .gt (tVar 7) (tC (.int 1)))
  (tSeqs [(tMulti [12, 13] [(tBin .sub (tVar 7) (tC (.int 1))), (tGet (tVar 6) (tTup [(tFrz 0 (tBin .sub (tVar 7) (tC (.int 2)))), (tFrz 0 (tBin .add (tVar 8) (tC (.int 1)))), (tFrz 0 (tBin .add (tVar 9) (tC (.int 1))))]))]),
  (tAsg 14 (tCall (K_law_times am ad) [(tFrz 0 (tGet (tVar 6) (tTup [(tFrz 0 (tVar 12)), (tFrz 0 (tVar 8)), (tFrz 0 (tVar 9))]))), (tFrz 0 (tGet (tVar 6) (tTup [(tFrz 0 (tVar 12)), (tFrz 0 (tBin .add (tVar 8) (tC (.int 1)))), (tFrz 0 (tBin .add (tVar 9) (tC (.int 1))))]))), (tFrz 0 (tVar 2))])),
  (tAsg 15 (tCall (K_law_times am ad) [(tFrz 0 (tGet (tVar 6) (tTup [(tFrz 0 (tVar 12)), (tFrz 0 (tVar 8)), (tFrz 0 (tBin .add (tVar 9) (tC (.int 1))))]))), (tFrz 0 (tGet (tVar 6) (tTup [(tFrz 0 (tVar 12)), (tFrz 0 (tBin .add (tVar 8) (tC (.int 1)))), (tFrz 0 (tVar 9))]))), (tFrz 0 (tVar 2))])),
  (tAsg 16 (tCall K_s_sub [(tFrz 0 (tVar 14)), (tFrz 0 (tVar 15)), (tFrz 0 (tVar 2))])),
  (tIf (tNe (tCall (K_law_times am ad) [(tFrz 0 (tGet (tVar 6) (tTup [(tFrz 0 (tVar 7)), (tFrz 0 (tVar 8)), (tFrz 0 (tVar 9))]))), (tFrz 0 (tVar 13)), (tFrz 0 (tVar 2))]) (tVar 16))
  (tSeqs [(tRet (tFrz 0 (tC (.bool false))))])
  (tSeqs [])),
  (tIf (tAnd (tCmp .gt (tLen (tItem (tVar 13) (tC (.int 1)))) (tC (.int 0))) (tNe (tCall (K_tdiv am ad) [(tFrz 0 (tVar 16)), (tFrz 0 (tVar 13)), (tFrz 0 (tVar 2)), (tFrz 0 (tC (.fn ad)))]) (tTup [(tFrz 0 (tGet (tVar 6) (tTup [(tFrz 0 (tVar 7)), (tFrz 0 (tVar 8)), (tFrz 0 (tVar 9))]))), (tFrz 0 (tTup [(tFrz 0 (tC (.bool false))), (tFrz 0 (tLstV []))]))])))
  (tSeqs [(tRet (tFrz 0 (tC (.bool false))))])
  (tSeqs []))])
  (tSeqs []))]))]))])),
  (tRet (tFrz 0 (tC (.bool true))))])
noncomputable def K_law (am ad : Nat) (ds : List D) (r : D) : Prop := ds.length = 1 ∧ Runs (b_law am ad) 16 ds r

end Mine
end

section
set_option maxRecDepth 100000
set_option Elab.async false
set_option autoImplicit false
set_option linter.unusedVariables false
namespace Mine
open PySem PySem.Calls PyProof.Rows
/-- the text of normal -/
noncomputable def d_normal : DefRec := recAt 4
theorem x_normal : TextOk d_normal [(Str.ofString "a")] [(Str.ofString "a"), (Str.ofString "end")] where
  bind := fun _ _ _ => v1 fun _ => rfl
  cell := by decide +kernel
  loc := by decide +kernel
  pre := ⟨_, rfl⟩
  nodup := by decide +kernel
  co := rfl
  gen := rfl
  kind := rfl
theorem t_normal {prog : Program} {w : World} {B : Heap} {mg mb : Str → Option Value} (Hv : Ev B mg mb)  :
    SemSs prog w B ⟨0, d_normal.scope, [(Str.ofString "a"), (Str.ofString "end")], 0, [], true⟩ d_normal.body (b_normal) :=
  (ss_seqs (s_asg (e_len Hv.base (e_var 0 _ _ rfl (by decide +kernel)) (fun _ _ => rfl) (hk := by decide +kernel) (hm := Hv.g _ (by decide +kernel)) (hv := Hv.len)) rfl (.inr rfl) (fun _ _ => rfl))
  (ss_seqs (s_while (b_and (b_cmpi .gt (e_var 1 _ _ rfl (by decide +kernel)) (e_int _ _ _) rfl) (b_cmpi .eq (e_item (e_var 0 _ _ rfl (by decide +kernel)) (e_bin Hv.base .sub (e_var 1 _ _ rfl (by decide +kernel)) (e_int _ _ _)) (fun _ _ => rfl)) (e_int _ _ _) rfl))
  (ss_seqs (s_aug (op := .sub) (e_int _ _ _) rfl (.inr rfl) (by simp))
  ss_seqs_nil))
  (ss_seqs (s_ret (d_frz (e_cut (e_var 0 _ _ rfl (by decide +kernel)) .none (.some (e_var 1 _ _ rfl (by decide +kernel))))))
  ss_seqs_nil)))

/-- the text of compare -/
noncomputable def d_compare : DefRec := recAt 5
theorem x_compare : TextOk d_compare [(Str.ofString "a"), (Str.ofString "b")] [(Str.ofString "a"), (Str.ofString "b"), (Str.ofString "at")] where
  bind := fun _ _ _ => v2 fun _ _ => rfl
  cell := by decide +kernel
  loc := by decide +kernel
  pre := ⟨_, rfl⟩
  nodup := by decide +kernel
  co := rfl
  gen := rfl
  kind := rfl
theorem t_compare {prog : Program} {w : World} {B : Heap} {mg mb : Str → Option Value} (Hv : Ev B mg mb)  :
    SemSs prog w B ⟨0, d_compare.scope, [(Str.ofString "a"), (Str.ofString "b"), (Str.ofString "at")], 0, [], true⟩ d_compare.body (b_compare) :=
  (ss_seqs (s_if (b_cmpi .ne (e_len Hv.base (e_var 0 _ _ rfl (by decide +kernel)) (fun _ _ => rfl) (hk := by decide +kernel) (hm := Hv.g _ (by decide +kernel)) (hv := Hv.len)) (e_len Hv.base (e_var 1 _ _ rfl (by decide +kernel)) (fun _ _ => rfl) (hk := by decide +kernel) (hm := Hv.g _ (by decide +kernel)) (hv := Hv.len)) rfl)
  (ss_seqs (s_ret (d_frz (e_ife (b_cmpi .lt (e_len Hv.base (e_var 0 _ _ rfl (by decide +kernel)) (fun _ _ => rfl) (hk := by decide +kernel) (hm := Hv.g _ (by decide +kernel)) (hv := Hv.len)) (e_len Hv.base (e_var 1 _ _ rfl (by decide +kernel)) (fun _ _ => rfl) (hk := by decide +kernel) (hm := Hv.g _ (by decide +kernel)) (hv := Hv.len)) rfl) (e_neg (e_int _ _ _)) (e_int _ _ _))))
  ss_seqs_nil)
  ss_seqs_nil)
  (ss_seqs (s_for (it_rangeD Hv.base (e_bin Hv.base .sub (e_len Hv.base (e_var 0 _ _ rfl (by decide +kernel)) (fun _ _ => rfl) (hk := by decide +kernel) (hm := Hv.g _ (by decide +kernel)) (hv := Hv.len)) (e_int _ _ _)) (e_neg (e_int _ _ _)) (fun _ _ => rfl) (fun _ _ => rfl) (hk := by decide +kernel) (hm := Hv.g _ (by decide +kernel)) (hv := Hv.range) (hn := rfl) (hs := (.inr rfl)))
  (ss_seqs (s_if (b_cmpi .ne (e_item (e_var 0 _ _ rfl (by decide +kernel)) (e_var 2 _ _ rfl (by decide +kernel)) (fun _ _ => rfl)) (e_item (e_var 1 _ _ rfl (by decide +kernel)) (e_var 2 _ _ rfl (by decide +kernel)) (fun _ _ => rfl)) rfl)
  (ss_seqs (s_ret (d_frz (e_ife (b_cmpi .lt (e_item (e_var 0 _ _ rfl (by decide +kernel)) (e_var 2 _ _ rfl (by decide +kernel)) (fun _ _ => rfl)) (e_item (e_var 1 _ _ rfl (by decide +kernel)) (e_var 2 _ _ rfl (by decide +kernel)) (fun _ _ => rfl)) rfl) (e_neg (e_int _ _ _)) (e_int _ _ _))))
  ss_seqs_nil)
  ss_seqs_nil)
  ss_seqs_nil) (fun _ _ => rfl))
  (ss_seqs (s_ret (d_frz (e_int _ _ _)))
  ss_seqs_nil)))

/-- the text of add -/
noncomputable def d_add : DefRec := recAt 6
theorem x_add : TextOk d_add [(Str.ofString "a"), (Str.ofString "b"), (Str.ofString "w")] [(Str.ofString "a"), (Str.ofString "b"), (Str.ofString "w"), (Str.ofString "found"), (Str.ofString "carry"), (Str.ofString "mask"), (Str.ofString "at")] where
  bind := fun _ _ _ => v3 fun _ _ _ => rfl
  cell := by decide +kernel
  loc := by decide +kernel
  pre := ⟨_, rfl⟩
  nodup := by decide +kernel
  co := rfl
  gen := rfl
  kind := rfl
theorem t_add {prog : Program} {w : World} {B : Heap} {mg mb : Str → Option Value} (Hv : Ev B mg mb)  :
    SemSs prog w B ⟨0, d_add.scope, [(Str.ofString "a"), (Str.ofString "b"), (Str.ofString "w"), (Str.ofString "found"), (Str.ofString "carry"), (Str.ofString "mask"), (Str.ofString "at")], 0, [], true⟩ d_add.body (b_add) :=
  (ss_seqs (s_if (b_cmpi .lt (e_len Hv.base (e_var 0 _ _ rfl (by decide +kernel)) (fun _ _ => rfl) (hk := by decide +kernel) (hm := Hv.g _ (by decide +kernel)) (hv := Hv.len)) (e_len Hv.base (e_var 1 _ _ rfl (by decide +kernel)) (fun _ _ => rfl) (hk := by decide +kernel) (hm := Hv.g _ (by decide +kernel)) (hv := Hv.len)) rfl)
  (ss_seqs (s_multiR (.cons rfl (.inr rfl) (.cons rfl (.inr rfl) .nil)) (.cons (e_var 1 _ _ rfl (by decide +kernel)) (fun _ _ => rfl) (.cons (e_var 0 _ _ rfl (by decide +kernel)) (fun _ _ => rfl) .nil)) rfl (by decide) (by decide) (by decide) (fun _ _ => rfl) (fun env h => by cases env; cases h; kernel_rfl))
  ss_seqs_nil)
  ss_seqs_nil)
  (ss_seqs (s_multiR (.cons rfl (.inr rfl) (.cons rfl (.inr rfl) (.cons rfl (.inr rfl) .nil))) (.cons (e_lst .nil (by decide)) (fun _ _ => rfl) (.cons (e_int _ _ _) (fun _ _ => rfl) (.cons (e_bin Hv.base .sub (e_bin Hv.base .shl (e_int _ _ _) (e_var 2 _ _ rfl (by decide +kernel))) (e_int _ _ _)) (fun _ _ => rfl) .nil))) rfl (by decide) (by decide) (by decide) (fun _ _ => rfl) (fun env h => by cases env; cases h; kernel_rfl))
  (ss_seqs (s_for (it_range1 Hv.base (e_len Hv.base (e_var 1 _ _ rfl (by decide +kernel)) (fun _ _ => rfl) (hk := by decide +kernel) (hm := Hv.g _ (by decide +kernel)) (hv := Hv.len)) (fun _ _ => rfl) (hk := by decide +kernel) (hm := Hv.g _ (by decide +kernel)) (hv := Hv.range) (hn := rfl) (hs := (.inr rfl)))
  (ss_seqs (s_aug (op := .add) (e_bin Hv.base .add (e_item (e_var 0 _ _ rfl (by decide +kernel)) (e_var 6 _ _ rfl (by decide +kernel)) (fun _ _ => rfl)) (e_item (e_var 1 _ _ rfl (by decide +kernel)) (e_var 6 _ _ rfl (by decide +kernel)) (fun _ _ => rfl))) rfl (.inr rfl) (by simp))
  (ss_seqs (s_app (d_frz (e_bin Hv.base .band (e_var 4 _ _ rfl (by decide +kernel)) (e_var 5 _ _ rfl (by decide +kernel)))) (fun _ _ => rfl) rfl (by decide +kernel) (by decide) (fun env h => by cases env; cases h; rfl))
  (ss_seqs (s_aug (op := .shr) (e_var 2 _ _ rfl (by decide +kernel)) rfl (.inr rfl) (by simp))
  ss_seqs_nil))) (fun _ _ => rfl))
  (ss_seqs (s_for (it_range2 Hv.base (e_len Hv.base (e_var 1 _ _ rfl (by decide +kernel)) (fun _ _ => rfl) (hk := by decide +kernel) (hm := Hv.g _ (by decide +kernel)) (hv := Hv.len)) (e_len Hv.base (e_var 0 _ _ rfl (by decide +kernel)) (fun _ _ => rfl) (hk := by decide +kernel) (hm := Hv.g _ (by decide +kernel)) (hv := Hv.len)) (fun _ _ => rfl) (fun _ _ => rfl) (hk := by decide +kernel) (hm := Hv.g _ (by decide +kernel)) (hv := Hv.range) (hn := rfl) (hs := (.inr rfl)))
  (ss_seqs (s_aug (op := .add) (e_item (e_var 0 _ _ rfl (by decide +kernel)) (e_var 6 _ _ rfl (by decide +kernel)) (fun _ _ => rfl)) rfl (.inr rfl) (by simp))
  (ss_seqs (s_app (d_frz (e_bin Hv.base .band (e_var 4 _ _ rfl (by decide +kernel)) (e_var 5 _ _ rfl (by decide +kernel)))) (fun _ _ => rfl) rfl (by decide +kernel) (by decide) (fun env h => by cases env; cases h; rfl))
  (ss_seqs (s_aug (op := .shr) (e_var 2 _ _ rfl (by decide +kernel)) rfl (.inr rfl) (by simp))
  ss_seqs_nil))) (fun _ _ => rfl))
  (ss_seqs (s_if (b_cmpi .gt (e_var 4 _ _ rfl (by decide +kernel)) (e_int _ _ _) rfl)
  (ss_seqs (s_app (d_frz (e_var 4 _ _ rfl (by decide +kernel))) (fun _ _ => rfl) rfl (by decide +kernel) (by decide) (fun env h => by cases env; cases h; rfl))
  ss_seqs_nil)
  ss_seqs_nil)
  (ss_seqs (s_ret (d_frz (e_var 3 _ _ rfl (by decide +kernel))))
  ss_seqs_nil))))))

/-- the text of sub -/
noncomputable def d_sub : DefRec := recAt 7
theorem x_sub : TextOk d_sub [(Str.ofString "a"), (Str.ofString "b"), (Str.ofString "w")] [(Str.ofString "a"), (Str.ofString "b"), (Str.ofString "w"), (Str.ofString "found"), (Str.ofString "borrow"), (Str.ofString "base"), (Str.ofString "at"), (Str.ofString "limb")] where
  bind := fun _ _ _ => v3 fun _ _ _ => rfl
  cell := by decide +kernel
  loc := by decide +kernel
  pre := ⟨_, rfl⟩
  nodup := by decide +kernel
  co := rfl
  gen := rfl
  kind := rfl
theorem t_sub {prog : Program} {w : World} {B : Heap} {mg mb : Str → Option Value} (Hv : Ev B mg mb) (F_normal : FnOk prog w B mg 1 (Str.ofString "normal") K_normal) (F_compare : FnOk prog w B mg 1 (Str.ofString "compare") K_compare) :
    SemSs prog w B ⟨1, d_sub.scope, [(Str.ofString "a"), (Str.ofString "b"), (Str.ofString "w"), (Str.ofString "found"), (Str.ofString "borrow"), (Str.ofString "base"), (Str.ofString "at"), (Str.ofString "limb")], 0, [], true⟩ d_sub.body (b_sub) :=
  (ss_seqs (s_if (b_cmpi .lt (c_fn Hv.base F_compare (by decide) (.cons (d_frz (e_var 0 _ _ rfl (by decide +kernel))) (fun _ _ => rfl) (.cons (d_frz (e_var 1 _ _ rfl (by decide +kernel))) (fun _ _ => rfl) .nil)) (fun _ _ => rfl) (by decide +kernel) (by decide +kernel)) (e_int _ _ _) rfl)
  (ss_seqs s_never
  ss_seqs_nil)
  ss_seqs_nil)
  (ss_seqs (s_multiR (.cons rfl (.inr rfl) (.cons rfl (.inr rfl) (.cons rfl (.inr rfl) .nil))) (.cons (e_lst .nil (by decide)) (fun _ _ => rfl) (.cons (e_int _ _ _) (fun _ _ => rfl) (.cons (e_bin Hv.base .shl (e_int _ _ _) (e_var 2 _ _ rfl (by decide +kernel))) (fun _ _ => rfl) .nil))) rfl (by decide) (by decide) (by decide) (fun _ _ => rfl) (fun env h => by cases env; cases h; kernel_rfl))
  (ss_seqs (s_for (it_range1 Hv.base (e_len Hv.base (e_var 0 _ _ rfl (by decide +kernel)) (fun _ _ => rfl) (hk := by decide +kernel) (hm := Hv.g _ (by decide +kernel)) (hv := Hv.len)) (fun _ _ => rfl) (hk := by decide +kernel) (hm := Hv.g _ (by decide +kernel)) (hv := Hv.range) (hn := rfl) (hs := (.inr rfl)))
  (ss_seqs (s_asg (e_bin Hv.base .sub (e_bin Hv.base .sub (e_item (e_var 0 _ _ rfl (by decide +kernel)) (e_var 6 _ _ rfl (by decide +kernel)) (fun _ _ => rfl)) (e_var 4 _ _ rfl (by decide +kernel))) (e_ife (b_cmpi .lt (e_var 6 _ _ rfl (by decide +kernel)) (e_len Hv.base (e_var 1 _ _ rfl (by decide +kernel)) (fun _ _ => rfl) (hk := by decide +kernel) (hm := Hv.g _ (by decide +kernel)) (hv := Hv.len)) rfl) (e_item (e_var 1 _ _ rfl (by decide +kernel)) (e_var 6 _ _ rfl (by decide +kernel)) (fun _ _ => rfl)) (e_int _ _ _))) rfl (.inr rfl) (fun _ _ => rfl))
  (ss_seqs (s_asg (e_ife (b_cmpi .lt (e_var 7 _ _ rfl (by decide +kernel)) (e_int _ _ _) rfl) (e_int _ _ _) (e_int _ _ _)) rfl (.inr rfl) (fun _ _ => rfl))
  (ss_seqs (s_app (d_frz (e_ife (b_cmpi .lt (e_var 7 _ _ rfl (by decide +kernel)) (e_int _ _ _) rfl) (e_bin Hv.base .add (e_var 7 _ _ rfl (by decide +kernel)) (e_var 5 _ _ rfl (by decide +kernel))) (e_var 7 _ _ rfl (by decide +kernel)))) (fun _ _ => rfl) rfl (by decide +kernel) (by decide) (fun env h => by cases env; cases h; rfl))
  ss_seqs_nil))) (fun _ _ => rfl))
  (ss_seqs (s_ret (d_frz (c_fn Hv.base F_normal (by decide) (.cons (d_frz (e_var 3 _ _ rfl (by decide +kernel))) (fun _ _ => rfl) .nil) (fun _ _ => rfl) (by decide +kernel) (by decide +kernel))))
  ss_seqs_nil))))

/-- the text of divrem_limb -/
noncomputable def d_divrem_limb : DefRec := recAt 8
theorem x_divrem_limb : TextOk d_divrem_limb [(Str.ofString "a"), (Str.ofString "limb"), (Str.ofString "w")] [(Str.ofString "a"), (Str.ofString "limb"), (Str.ofString "w"), (Str.ofString "found"), (Str.ofString "rest"), (Str.ofString "at")] where
  bind := fun _ _ _ => v3 fun _ _ _ => rfl
  cell := by decide +kernel
  loc := by decide +kernel
  pre := ⟨_, rfl⟩
  nodup := by decide +kernel
  co := rfl
  gen := rfl
  kind := rfl
theorem t_divrem_limb {prog : Program} {w : World} {B : Heap} {mg mb : Str → Option Value} (Hv : Ev B mg mb) (F_normal : FnOk prog w B mg 1 (Str.ofString "normal") K_normal) :
    SemSs prog w B ⟨1, d_divrem_limb.scope, [(Str.ofString "a"), (Str.ofString "limb"), (Str.ofString "w"), (Str.ofString "found"), (Str.ofString "rest"), (Str.ofString "at")], 0, [], true⟩ d_divrem_limb.body (b_divrem_limb) :=
  (ss_seqs (s_if (b_cmpi .eq (e_var 1 _ _ rfl (by decide +kernel)) (e_int _ _ _) rfl)
  (ss_seqs s_never
  ss_seqs_nil)
  ss_seqs_nil)
  (ss_seqs (s_multiR (.cons rfl (.inr rfl) (.cons rfl (.inr rfl) .nil)) (.cons (e_rep (e_lstV (.cons (d_frz (e_int _ _ _)) (fun _ _ => rfl) .nil) (by decide)) (e_len Hv.base (e_var 0 _ _ rfl (by decide +kernel)) (fun _ _ => rfl) (hk := by decide +kernel) (hm := Hv.g _ (by decide +kernel)) (hv := Hv.len))) (fun _ _ => rfl) (.cons (e_int _ _ _) (fun _ _ => rfl) .nil)) rfl (by decide) (by decide) (by decide) (fun _ _ => rfl) (fun env h => by cases env; cases h; kernel_rfl))
  (ss_seqs (s_for (it_rangeD Hv.base (e_bin Hv.base .sub (e_len Hv.base (e_var 0 _ _ rfl (by decide +kernel)) (fun _ _ => rfl) (hk := by decide +kernel) (hm := Hv.g _ (by decide +kernel)) (hv := Hv.len)) (e_int _ _ _)) (e_neg (e_int _ _ _)) (fun _ _ => rfl) (fun _ _ => rfl) (hk := by decide +kernel) (hm := Hv.g _ (by decide +kernel)) (hv := Hv.range) (hn := rfl) (hs := (.inr rfl)))
  (ss_seqs (s_asg (e_bin Hv.base .bor (e_bin Hv.base .shl (e_var 4 _ _ rfl (by decide +kernel)) (e_var 2 _ _ rfl (by decide +kernel))) (e_item (e_var 0 _ _ rfl (by decide +kernel)) (e_var 5 _ _ rfl (by decide +kernel)) (fun _ _ => rfl))) rfl (.inr rfl) (fun _ _ => rfl))
  (ss_seqs (s_put (d_frz (e_bin Hv.base .div (e_var 4 _ _ rfl (by decide +kernel)) (e_var 1 _ _ rfl (by decide +kernel)))) (e_var 5 _ _ rfl (by decide +kernel)) rfl (by decide +kernel) (fun _ _ => rfl))
  (ss_seqs (s_aug (op := .mod) (e_var 1 _ _ rfl (by decide +kernel)) rfl (.inr rfl) (by simp))
  ss_seqs_nil))) (fun _ _ => rfl))
  (ss_seqs (s_ret (d_frz (e_tup (.cons (d_frz (c_fn Hv.base F_normal (by decide) (.cons (d_frz (e_var 3 _ _ rfl (by decide +kernel))) (fun _ _ => rfl) .nil) (fun _ _ => rfl) (by decide +kernel) (by decide +kernel))) (fun _ _ => rfl) (.cons (d_frz (e_var 4 _ _ rfl (by decide +kernel))) (fun _ _ => rfl) .nil)) (by decide))))
  ss_seqs_nil))))

/-- the text of shift_left -/
noncomputable def d_shift_left : DefRec := recAt 9
theorem x_shift_left : TextOk d_shift_left [(Str.ofString "a"), (Str.ofString "n"), (Str.ofString "w")] [(Str.ofString "a"), (Str.ofString "n"), (Str.ofString "w"), (Str.ofString "spots"), (Str.ofString "few"), (Str.ofString "found"), (Str.ofString "carry"), (Str.ofString "mask"), (Str.ofString "one")] where
  bind := fun _ _ _ => v3 fun _ _ _ => rfl
  cell := by decide +kernel
  loc := by decide +kernel
  pre := ⟨_, rfl⟩
  nodup := by decide +kernel
  co := rfl
  gen := rfl
  kind := rfl
theorem t_shift_left {prog : Program} {w : World} {B : Heap} {mg mb : Str → Option Value} (Hv : Ev B mg mb)  :
    SemSs prog w B ⟨0, d_shift_left.scope, [(Str.ofString "a"), (Str.ofString "n"), (Str.ofString "w"), (Str.ofString "spots"), (Str.ofString "few"), (Str.ofString "found"), (Str.ofString "carry"), (Str.ofString "mask"), (Str.ofString "one")], 0, [], true⟩ d_shift_left.body (b_shift_left) :=
  (ss_seqs (s_if (b_cmpi .eq (e_len Hv.base (e_var 0 _ _ rfl (by decide +kernel)) (fun _ _ => rfl) (hk := by decide +kernel) (hm := Hv.g _ (by decide +kernel)) (hv := Hv.len)) (e_int _ _ _) rfl)
  (ss_seqs (s_ret (d_frz (e_lstV .nil (by decide))))
  ss_seqs_nil)
  ss_seqs_nil)
  (ss_seqs (s_multiR (.cons rfl (.inr rfl) (.cons rfl (.inr rfl) .nil)) (.cons (e_bin Hv.base .div (e_var 1 _ _ rfl (by decide +kernel)) (e_var 2 _ _ rfl (by decide +kernel))) (fun _ _ => rfl) (.cons (e_bin Hv.base .mod (e_var 1 _ _ rfl (by decide +kernel)) (e_var 2 _ _ rfl (by decide +kernel))) (fun _ _ => rfl) .nil)) rfl (by decide) (by decide) (by decide) (fun _ _ => rfl) (fun env h => by cases env; cases h; kernel_rfl))
  (ss_seqs (s_multiR (.cons rfl (.inr rfl) (.cons rfl (.inr rfl) (.cons rfl (.inr rfl) .nil))) (.cons (e_rep (e_lstV (.cons (d_frz (e_int _ _ _)) (fun _ _ => rfl) .nil) (by decide)) (e_var 3 _ _ rfl (by decide +kernel))) (fun _ _ => rfl) (.cons (e_int _ _ _) (fun _ _ => rfl) (.cons (e_bin Hv.base .sub (e_bin Hv.base .shl (e_int _ _ _) (e_var 2 _ _ rfl (by decide +kernel))) (e_int _ _ _)) (fun _ _ => rfl) .nil))) rfl (by decide) (by decide) (by decide) (fun _ _ => rfl) (fun env h => by cases env; cases h; kernel_rfl))
  (ss_seqs (s_for (it_items (d_frz (e_var 0 _ _ rfl (by decide +kernel))) rfl (.inr rfl))
  (ss_seqs (s_aug (op := .bor) (e_bin Hv.base .shl (e_var 8 _ _ rfl (by decide +kernel)) (e_var 4 _ _ rfl (by decide +kernel))) rfl (.inr rfl) (by simp))
  (ss_seqs (s_app (d_frz (e_bin Hv.base .band (e_var 6 _ _ rfl (by decide +kernel)) (e_var 7 _ _ rfl (by decide +kernel)))) (fun _ _ => rfl) rfl (by decide +kernel) (by decide) (fun env h => by cases env; cases h; rfl))
  (ss_seqs (s_aug (op := .shr) (e_var 2 _ _ rfl (by decide +kernel)) rfl (.inr rfl) (by simp))
  ss_seqs_nil))) (fun _ _ => rfl))
  (ss_seqs (s_if (b_cmpi .gt (e_var 6 _ _ rfl (by decide +kernel)) (e_int _ _ _) rfl)
  (ss_seqs (s_app (d_frz (e_var 6 _ _ rfl (by decide +kernel))) (fun _ _ => rfl) rfl (by decide +kernel) (by decide) (fun env h => by cases env; cases h; rfl))
  ss_seqs_nil)
  ss_seqs_nil)
  (ss_seqs (s_ret (d_frz (e_var 5 _ _ rfl (by decide +kernel))))
  ss_seqs_nil))))))

/-- the text of shift_right -/
noncomputable def d_shift_right : DefRec := recAt 10
theorem x_shift_right : TextOk d_shift_right [(Str.ofString "a"), (Str.ofString "n"), (Str.ofString "w")] [(Str.ofString "a"), (Str.ofString "n"), (Str.ofString "w"), (Str.ofString "spots"), (Str.ofString "few"), (Str.ofString "found"), (Str.ofString "mask"), (Str.ofString "at"), (Str.ofString "above")] where
  bind := fun _ _ _ => v3 fun _ _ _ => rfl
  cell := by decide +kernel
  loc := by decide +kernel
  pre := ⟨_, rfl⟩
  nodup := by decide +kernel
  co := rfl
  gen := rfl
  kind := rfl
theorem t_shift_right {prog : Program} {w : World} {B : Heap} {mg mb : Str → Option Value} (Hv : Ev B mg mb) (F_normal : FnOk prog w B mg 1 (Str.ofString "normal") K_normal) :
    SemSs prog w B ⟨1, d_shift_right.scope, [(Str.ofString "a"), (Str.ofString "n"), (Str.ofString "w"), (Str.ofString "spots"), (Str.ofString "few"), (Str.ofString "found"), (Str.ofString "mask"), (Str.ofString "at"), (Str.ofString "above")], 0, [], true⟩ d_shift_right.body (b_shift_right) :=
  (ss_seqs (s_multiR (.cons rfl (.inr rfl) (.cons rfl (.inr rfl) .nil)) (.cons (e_bin Hv.base .div (e_var 1 _ _ rfl (by decide +kernel)) (e_var 2 _ _ rfl (by decide +kernel))) (fun _ _ => rfl) (.cons (e_bin Hv.base .mod (e_var 1 _ _ rfl (by decide +kernel)) (e_var 2 _ _ rfl (by decide +kernel))) (fun _ _ => rfl) .nil)) rfl (by decide) (by decide) (by decide) (fun _ _ => rfl) (fun env h => by cases env; cases h; kernel_rfl))
  (ss_seqs (s_multiR (.cons rfl (.inr rfl) (.cons rfl (.inr rfl) .nil)) (.cons (e_lst .nil (by decide)) (fun _ _ => rfl) (.cons (e_bin Hv.base .sub (e_bin Hv.base .shl (e_int _ _ _) (e_var 2 _ _ rfl (by decide +kernel))) (e_int _ _ _)) (fun _ _ => rfl) .nil)) rfl (by decide) (by decide) (by decide) (fun _ _ => rfl) (fun env h => by cases env; cases h; kernel_rfl))
  (ss_seqs (s_for (it_range2 Hv.base (e_var 3 _ _ rfl (by decide +kernel)) (e_len Hv.base (e_var 0 _ _ rfl (by decide +kernel)) (fun _ _ => rfl) (hk := by decide +kernel) (hm := Hv.g _ (by decide +kernel)) (hv := Hv.len)) (fun _ _ => rfl) (fun _ _ => rfl) (hk := by decide +kernel) (hm := Hv.g _ (by decide +kernel)) (hv := Hv.range) (hn := rfl) (hs := (.inr rfl)))
  (ss_seqs (s_asg (e_ife (b_cmpi .lt (e_bin Hv.base .add (e_var 7 _ _ rfl (by decide +kernel)) (e_int _ _ _)) (e_len Hv.base (e_var 0 _ _ rfl (by decide +kernel)) (fun _ _ => rfl) (hk := by decide +kernel) (hm := Hv.g _ (by decide +kernel)) (hv := Hv.len)) rfl) (e_item (e_var 0 _ _ rfl (by decide +kernel)) (e_bin Hv.base .add (e_var 7 _ _ rfl (by decide +kernel)) (e_int _ _ _)) (fun _ _ => rfl)) (e_int _ _ _)) rfl (.inr rfl) (fun _ _ => rfl))
  (ss_seqs (s_app (d_frz (e_bin Hv.base .band (e_bin Hv.base .bor (e_bin Hv.base .shr (e_item (e_var 0 _ _ rfl (by decide +kernel)) (e_var 7 _ _ rfl (by decide +kernel)) (fun _ _ => rfl)) (e_var 4 _ _ rfl (by decide +kernel))) (e_bin Hv.base .shl (e_var 8 _ _ rfl (by decide +kernel)) (e_bin Hv.base .sub (e_var 2 _ _ rfl (by decide +kernel)) (e_var 4 _ _ rfl (by decide +kernel))))) (e_var 6 _ _ rfl (by decide +kernel)))) (fun _ _ => rfl) rfl (by decide +kernel) (by decide) (fun env h => by cases env; cases h; rfl))
  ss_seqs_nil)) (fun _ _ => rfl))
  (ss_seqs (s_ret (d_frz (c_fn Hv.base F_normal (by decide) (.cons (d_frz (e_var 5 _ _ rfl (by decide +kernel))) (fun _ _ => rfl) .nil) (fun _ _ => rfl) (by decide +kernel) (by decide +kernel))))
  ss_seqs_nil))))

/-- the text of bits -/
noncomputable def d_bits : DefRec := recAt 11
theorem x_bits : TextOk d_bits [(Str.ofString "a"), (Str.ofString "w")] [(Str.ofString "a"), (Str.ofString "w")] where
  bind := fun _ _ _ => v2 fun _ _ => rfl
  cell := by decide +kernel
  loc := by decide +kernel
  pre := ⟨_, rfl⟩
  nodup := by decide +kernel
  co := rfl
  gen := rfl
  kind := rfl
theorem t_bits {prog : Program} {w : World} {B : Heap} {mg mb : Str → Option Value} (Hv : Ev B mg mb)  :
    SemSs prog w B ⟨0, d_bits.scope, [(Str.ofString "a"), (Str.ofString "w")], 0, [], true⟩ d_bits.body (b_bits) :=
  (ss_seqs (s_ret (d_frz (e_ife (b_cmpi .gt (e_len Hv.base (e_var 0 _ _ rfl (by decide +kernel)) (fun _ _ => rfl) (hk := by decide +kernel) (hm := Hv.g _ (by decide +kernel)) (hv := Hv.len)) (e_int _ _ _) rfl) (e_bin Hv.base .add (e_bin Hv.base .mul (e_bin Hv.base .sub (e_len Hv.base (e_var 0 _ _ rfl (by decide +kernel)) (fun _ _ => rfl) (hk := by decide +kernel) (hm := Hv.g _ (by decide +kernel)) (hv := Hv.len)) (e_int _ _ _)) (e_var 1 _ _ rfl (by decide +kernel))) (e_bitlen (e_item (e_var 0 _ _ rfl (by decide +kernel)) (e_neg (e_int _ _ _)) (fun _ _ => rfl)) (fun _ => rfl) (by decide))) (e_int _ _ _))))
  ss_seqs_nil)

/-- the text of signed -/
noncomputable def d_signed : DefRec := recAt 13
theorem x_signed : TextOk d_signed [(Str.ofString "is_below"), (Str.ofString "nat")] [(Str.ofString "is_below"), (Str.ofString "nat")] where
  bind := fun _ _ _ => v2 fun _ _ => rfl
  cell := by decide +kernel
  loc := by decide +kernel
  pre := ⟨_, rfl⟩
  nodup := by decide +kernel
  co := rfl
  gen := rfl
  kind := rfl
theorem t_signed {prog : Program} {w : World} {B : Heap} {mg mb : Str → Option Value} (Hv : Ev B mg mb)  :
    SemSs prog w B ⟨0, d_signed.scope, [(Str.ofString "is_below"), (Str.ofString "nat")], 0, [], true⟩ d_signed.body (b_signed) :=
  (ss_seqs (s_ret (d_frz (e_tup (.cons (d_frz (e_boolv (bv_and (e_var 0 _ _ rfl (by decide +kernel)) (bv_cmpi .gt (e_len Hv.base (e_var 1 _ _ rfl (by decide +kernel)) (fun _ _ => rfl) (hk := by decide +kernel) (hm := Hv.g _ (by decide +kernel)) (hv := Hv.len)) (e_int _ _ _) rfl)))) (fun _ _ => rfl) (.cons (d_frz (e_var 1 _ _ rfl (by decide +kernel))) (fun _ _ => rfl) .nil)) (by decide))))
  ss_seqs_nil)

/-- the text of s_neg -/
noncomputable def d_s_neg : DefRec := recAt 14
theorem x_s_neg : TextOk d_s_neg [(Str.ofString "x")] [(Str.ofString "x")] where
  bind := fun _ _ _ => v1 fun _ => rfl
  cell := by decide +kernel
  loc := by decide +kernel
  pre := ⟨_, rfl⟩
  nodup := by decide +kernel
  co := rfl
  gen := rfl
  kind := rfl
theorem t_s_neg {prog : Program} {w : World} {B : Heap} {mg mb : Str → Option Value} (Hv : Ev B mg mb) (F_signed : FnOk prog w B mg 1 (Str.ofString "signed") K_signed) :
    SemSs prog w B ⟨1, d_s_neg.scope, [(Str.ofString "x")], 0, [], true⟩ d_s_neg.body (b_s_neg) :=
  (ss_seqs (s_ret (d_frz (c_fn Hv.base F_signed (by decide) (.cons (d_frz (e_boolv (bv_not (e_item (e_var 0 _ _ rfl (by decide +kernel)) (e_int _ _ _) (fun _ _ => rfl))))) (fun _ _ => rfl) (.cons (d_frz (e_item (e_var 0 _ _ rfl (by decide +kernel)) (e_int _ _ _) (fun _ _ => rfl))) (fun _ _ => rfl) .nil)) (fun _ _ => rfl) (by decide +kernel) (by decide +kernel))))
  ss_seqs_nil)

/-- the text of s_sign -/
noncomputable def d_s_sign : DefRec := recAt 15
theorem x_s_sign : TextOk d_s_sign [(Str.ofString "x")] [(Str.ofString "x")] where
  bind := fun _ _ _ => v1 fun _ => rfl
  cell := by decide +kernel
  loc := by decide +kernel
  pre := ⟨_, rfl⟩
  nodup := by decide +kernel
  co := rfl
  gen := rfl
  kind := rfl
theorem t_s_sign {prog : Program} {w : World} {B : Heap} {mg mb : Str → Option Value} (Hv : Ev B mg mb)  :
    SemSs prog w B ⟨0, d_s_sign.scope, [(Str.ofString "x")], 0, [], true⟩ d_s_sign.body (b_s_sign) :=
  (ss_seqs (s_if (b_cmpi .eq (e_len Hv.base (e_item (e_var 0 _ _ rfl (by decide +kernel)) (e_int _ _ _) (fun _ _ => rfl)) (fun _ _ => rfl) (hk := by decide +kernel) (hm := Hv.g _ (by decide +kernel)) (hv := Hv.len)) (e_int _ _ _) rfl)
  (ss_seqs (s_ret (d_frz (e_int _ _ _)))
  ss_seqs_nil)
  ss_seqs_nil)
  (ss_seqs (s_ret (d_frz (e_ife (b_truth (e_item (e_var 0 _ _ rfl (by decide +kernel)) (e_int _ _ _) (fun _ _ => rfl)) (fun _ _ => rfl)) (e_neg (e_int _ _ _)) (e_int _ _ _))))
  ss_seqs_nil))

/-- the text of s_add -/
noncomputable def d_s_add : DefRec := recAt 16
theorem x_s_add : TextOk d_s_add [(Str.ofString "x"), (Str.ofString "y"), (Str.ofString "w")] [(Str.ofString "x"), (Str.ofString "y"), (Str.ofString "w")] where
  bind := fun _ _ _ => v3 fun _ _ _ => rfl
  cell := by decide +kernel
  loc := by decide +kernel
  pre := ⟨_, rfl⟩
  nodup := by decide +kernel
  co := rfl
  gen := rfl
  kind := rfl
theorem t_s_add {prog : Program} {w : World} {B : Heap} {mg mb : Str → Option Value} (Hv : Ev B mg mb) (F_compare : FnOk prog w B mg 1 (Str.ofString "compare") K_compare) (F_add : FnOk prog w B mg 1 (Str.ofString "add") K_add) (F_sub : FnOk prog w B mg 2 (Str.ofString "sub") K_sub) (F_signed : FnOk prog w B mg 1 (Str.ofString "signed") K_signed) :
    SemSs prog w B ⟨2, d_s_add.scope, [(Str.ofString "x"), (Str.ofString "y"), (Str.ofString "w")], 0, [], true⟩ d_s_add.body (b_s_add) :=
  (ss_seqs (s_if (b_eqB (e_item (e_var 0 _ _ rfl (by decide +kernel)) (e_int _ _ _) (fun _ _ => rfl)) (e_item (e_var 1 _ _ rfl (by decide +kernel)) (e_int _ _ _) (fun _ _ => rfl)) rfl)
  (ss_seqs (s_ret (d_frz (c_fn Hv.base F_signed (by decide) (.cons (d_frz (e_item (e_var 0 _ _ rfl (by decide +kernel)) (e_int _ _ _) (fun _ _ => rfl))) (fun _ _ => rfl) (.cons (d_frz (c_fn Hv.base F_add (by decide) (.cons (d_frz (e_item (e_var 0 _ _ rfl (by decide +kernel)) (e_int _ _ _) (fun _ _ => rfl))) (fun _ _ => rfl) (.cons (d_frz (e_item (e_var 1 _ _ rfl (by decide +kernel)) (e_int _ _ _) (fun _ _ => rfl))) (fun _ _ => rfl) (.cons (d_frz (e_var 2 _ _ rfl (by decide +kernel))) (fun _ _ => rfl) .nil))) (fun _ _ => rfl) (by decide +kernel) (by decide +kernel))) (fun _ _ => rfl) .nil)) (fun _ _ => rfl) (by decide +kernel) (by decide +kernel))))
  ss_seqs_nil)
  ss_seqs_nil)
  (ss_seqs (s_if (b_cmpi .lt (c_fn Hv.base F_compare (by decide) (.cons (d_frz (e_item (e_var 0 _ _ rfl (by decide +kernel)) (e_int _ _ _) (fun _ _ => rfl))) (fun _ _ => rfl) (.cons (d_frz (e_item (e_var 1 _ _ rfl (by decide +kernel)) (e_int _ _ _) (fun _ _ => rfl))) (fun _ _ => rfl) .nil)) (fun _ _ => rfl) (by decide +kernel) (by decide +kernel)) (e_int _ _ _) rfl)
  (ss_seqs (s_ret (d_frz (c_fn Hv.base F_signed (by decide) (.cons (d_frz (e_item (e_var 1 _ _ rfl (by decide +kernel)) (e_int _ _ _) (fun _ _ => rfl))) (fun _ _ => rfl) (.cons (d_frz (c_fn Hv.base F_sub (by decide) (.cons (d_frz (e_item (e_var 1 _ _ rfl (by decide +kernel)) (e_int _ _ _) (fun _ _ => rfl))) (fun _ _ => rfl) (.cons (d_frz (e_item (e_var 0 _ _ rfl (by decide +kernel)) (e_int _ _ _) (fun _ _ => rfl))) (fun _ _ => rfl) (.cons (d_frz (e_var 2 _ _ rfl (by decide +kernel))) (fun _ _ => rfl) .nil))) (fun _ _ => rfl) (by decide +kernel) (by decide +kernel))) (fun _ _ => rfl) .nil)) (fun _ _ => rfl) (by decide +kernel) (by decide +kernel))))
  ss_seqs_nil)
  ss_seqs_nil)
  (ss_seqs (s_ret (d_frz (c_fn Hv.base F_signed (by decide) (.cons (d_frz (e_item (e_var 0 _ _ rfl (by decide +kernel)) (e_int _ _ _) (fun _ _ => rfl))) (fun _ _ => rfl) (.cons (d_frz (c_fn Hv.base F_sub (by decide) (.cons (d_frz (e_item (e_var 0 _ _ rfl (by decide +kernel)) (e_int _ _ _) (fun _ _ => rfl))) (fun _ _ => rfl) (.cons (d_frz (e_item (e_var 1 _ _ rfl (by decide +kernel)) (e_int _ _ _) (fun _ _ => rfl))) (fun _ _ => rfl) (.cons (d_frz (e_var 2 _ _ rfl (by decide +kernel))) (fun _ _ => rfl) .nil))) (fun _ _ => rfl) (by decide +kernel) (by decide +kernel))) (fun _ _ => rfl) .nil)) (fun _ _ => rfl) (by decide +kernel) (by decide +kernel))))
  ss_seqs_nil)))

/-- the text of s_sub -/
noncomputable def d_s_sub : DefRec := recAt 17
theorem x_s_sub : TextOk d_s_sub [(Str.ofString "x"), (Str.ofString "y"), (Str.ofString "w")] [(Str.ofString "x"), (Str.ofString "y"), (Str.ofString "w")] where
  bind := fun _ _ _ => v3 fun _ _ _ => rfl
  cell := by decide +kernel
  loc := by decide +kernel
  pre := ⟨_, rfl⟩
  nodup := by decide +kernel
  co := rfl
  gen := rfl
  kind := rfl
theorem t_s_sub {prog : Program} {w : World} {B : Heap} {mg mb : Str → Option Value} (Hv : Ev B mg mb) (F_s_neg : FnOk prog w B mg 2 (Str.ofString "s_neg") K_s_neg) (F_s_add : FnOk prog w B mg 3 (Str.ofString "s_add") K_s_add) :
    SemSs prog w B ⟨3, d_s_sub.scope, [(Str.ofString "x"), (Str.ofString "y"), (Str.ofString "w")], 0, [], true⟩ d_s_sub.body (b_s_sub) :=
  (ss_seqs (s_ret (d_frz (c_fn Hv.base F_s_add (by decide) (.cons (d_frz (e_var 0 _ _ rfl (by decide +kernel))) (fun _ _ => rfl) (.cons (d_frz (c_fn Hv.base F_s_neg (by decide) (.cons (d_frz (e_var 1 _ _ rfl (by decide +kernel))) (fun _ _ => rfl) .nil) (fun _ _ => rfl) (by decide +kernel) (by decide +kernel))) (fun _ _ => rfl) (.cons (d_frz (e_var 2 _ _ rfl (by decide +kernel))) (fun _ _ => rfl) .nil))) (fun _ _ => rfl) (by decide +kernel) (by decide +kernel))))
  ss_seqs_nil)

/-- the text of mul_school -/
noncomputable def d_mul_school : DefRec := recAt 29
theorem x_mul_school : TextOk d_mul_school [(Str.ofString "a"), (Str.ofString "b"), (Str.ofString "w")] [(Str.ofString "a"), (Str.ofString "b"), (Str.ofString "w"), (Str.ofString "found"), (Str.ofString "mask"), (Str.ofString "at"), (Str.ofString "limb"), (Str.ofString "carry"), (Str.ofString "spot"), (Str.ofString "other")] where
  bind := fun _ _ _ => v3 fun _ _ _ => rfl
  cell := by decide +kernel
  loc := by decide +kernel
  pre := ⟨_, rfl⟩
  nodup := by decide +kernel
  co := rfl
  gen := rfl
  kind := rfl
theorem t_mul_school {prog : Program} {w : World} {B : Heap} {mg mb : Str → Option Value} (Hv : Ev B mg mb) (F_normal : FnOk prog w B mg 1 (Str.ofString "normal") K_normal) :
    SemSs prog w B ⟨1, d_mul_school.scope, [(Str.ofString "a"), (Str.ofString "b"), (Str.ofString "w"), (Str.ofString "found"), (Str.ofString "mask"), (Str.ofString "at"), (Str.ofString "limb"), (Str.ofString "carry"), (Str.ofString "spot"), (Str.ofString "other")], 0, [], true⟩ d_mul_school.body (b_mul_school) :=
  (ss_seqs (s_multiR (.cons rfl (.inr rfl) (.cons rfl (.inr rfl) .nil)) (.cons (e_rep (e_lstV (.cons (d_frz (e_int _ _ _)) (fun _ _ => rfl) .nil) (by decide)) (e_bin Hv.base .add (e_len Hv.base (e_var 0 _ _ rfl (by decide +kernel)) (fun _ _ => rfl) (hk := by decide +kernel) (hm := Hv.g _ (by decide +kernel)) (hv := Hv.len)) (e_len Hv.base (e_var 1 _ _ rfl (by decide +kernel)) (fun _ _ => rfl) (hk := by decide +kernel) (hm := Hv.g _ (by decide +kernel)) (hv := Hv.len)))) (fun _ _ => rfl) (.cons (e_bin Hv.base .sub (e_bin Hv.base .shl (e_int _ _ _) (e_var 2 _ _ rfl (by decide +kernel))) (e_int _ _ _)) (fun _ _ => rfl) .nil)) rfl (by decide) (by decide) (by decide) (fun _ _ => rfl) (fun env h => by cases env; cases h; kernel_rfl))
  (ss_seqs (s_for (it_enum Hv.base (d_frz (e_var 0 _ _ rfl (by decide +kernel))) (fun _ _ => rfl) (hk := by decide +kernel) (hm := Hv.g _ (by decide +kernel)) (hv := Hv.enumerate) (.cons rfl (.inr rfl) (.cons rfl (.inr rfl) .nil)) rfl)
  (ss_seqs (s_asg (e_int _ _ _) rfl (.inr rfl) (fun _ _ => rfl))
  (ss_seqs (s_for (it_enum Hv.base (d_frz (e_var 1 _ _ rfl (by decide +kernel))) (fun _ _ => rfl) (hk := by decide +kernel) (hm := Hv.g _ (by decide +kernel)) (hv := Hv.enumerate) (.cons rfl (.inr rfl) (.cons rfl (.inr rfl) .nil)) rfl)
  (ss_seqs (s_aug (op := .add) (e_bin Hv.base .add (e_item (e_var 3 _ _ rfl (by decide +kernel)) (e_bin Hv.base .add (e_var 5 _ _ rfl (by decide +kernel)) (e_var 8 _ _ rfl (by decide +kernel))) (fun _ _ => rfl)) (e_bin Hv.base .mul (e_var 6 _ _ rfl (by decide +kernel)) (e_var 9 _ _ rfl (by decide +kernel)))) rfl (.inr rfl) (by simp))
  (ss_seqs (s_put (d_frz (e_bin Hv.base .band (e_var 7 _ _ rfl (by decide +kernel)) (e_var 4 _ _ rfl (by decide +kernel)))) (e_bin Hv.base .add (e_var 5 _ _ rfl (by decide +kernel)) (e_var 8 _ _ rfl (by decide +kernel))) rfl (by decide +kernel) (fun _ _ => rfl))
  (ss_seqs (s_aug (op := .shr) (e_var 2 _ _ rfl (by decide +kernel)) rfl (.inr rfl) (by simp))
  ss_seqs_nil))) (fun _ _ => rfl))
  (ss_seqs (s_put (d_frz (e_var 7 _ _ rfl (by decide +kernel))) (e_bin Hv.base .add (e_var 5 _ _ rfl (by decide +kernel)) (e_len Hv.base (e_var 1 _ _ rfl (by decide +kernel)) (fun _ _ => rfl) (hk := by decide +kernel) (hm := Hv.g _ (by decide +kernel)) (hv := Hv.len))) rfl (by decide +kernel) (fun _ _ => rfl))
  ss_seqs_nil))) (fun _ _ => rfl))
  (ss_seqs (s_ret (d_frz (c_fn Hv.base F_normal (by decide) (.cons (d_frz (e_var 3 _ _ rfl (by decide +kernel))) (fun _ _ => rfl) .nil) (fun _ _ => rfl) (by decide +kernel) (by decide +kernel))))
  ss_seqs_nil)))

/-- the text of divrem_small -/
noncomputable def d_divrem_small : DefRec := recAt 30
theorem x_divrem_small : TextOk d_divrem_small [(Str.ofString "a"), (Str.ofString "b"), (Str.ofString "w")] [(Str.ofString "a"), (Str.ofString "b"), (Str.ofString "w"), (Str.ofString "quotient"), (Str.ofString "rest")] where
  bind := fun _ _ _ => v3 fun _ _ _ => rfl
  cell := by decide +kernel
  loc := by decide +kernel
  pre := ⟨_, rfl⟩
  nodup := by decide +kernel
  co := rfl
  gen := rfl
  kind := rfl
theorem t_divrem_small {prog : Program} {w : World} {B : Heap} {mg mb : Str → Option Value} (Hv : Ev B mg mb) (F_divrem_limb : FnOk prog w B mg 2 (Str.ofString "divrem_limb") K_divrem_limb) :
    SemSs prog w B ⟨2, d_divrem_small.scope, [(Str.ofString "a"), (Str.ofString "b"), (Str.ofString "w"), (Str.ofString "quotient"), (Str.ofString "rest")], 0, [], true⟩ d_divrem_small.body (b_divrem_small) :=
  (ss_seqs (s_unp (.cons rfl (.inr rfl) (.cons rfl (.inr rfl) .nil)) (d_frz (c_fn Hv.base F_divrem_limb (by decide) (.cons (d_frz (e_var 0 _ _ rfl (by decide +kernel))) (fun _ _ => rfl) (.cons (d_frz (e_item (e_var 1 _ _ rfl (by decide +kernel)) (e_int _ _ _) (fun _ _ => rfl))) (fun _ _ => rfl) (.cons (d_frz (e_var 2 _ _ rfl (by decide +kernel))) (fun _ _ => rfl) .nil))) (fun _ _ => rfl) (by decide +kernel) (by decide +kernel))) (fun _ _ => rfl) (fun _ => rfl))
  (ss_seqs (s_ret (d_frz (e_tup (.cons (d_frz (e_var 3 _ _ rfl (by decide +kernel))) (fun _ _ => rfl) (.cons (d_frz (e_ife (b_cmpi .gt (e_var 4 _ _ rfl (by decide +kernel)) (e_int _ _ _) rfl) (e_lst (.cons (d_frz (e_var 4 _ _ rfl (by decide +kernel))) (fun _ _ => rfl) .nil) (by decide)) (e_lst .nil (by decide)))) (fun _ _ => rfl) .nil)) (by decide))))
  ss_seqs_nil))

/-- the text of guessed_limb -/
noncomputable def d_guessed_limb : DefRec := recAt 31
theorem x_guessed_limb : TextOk d_guessed_limb [(Str.ofString "top"), (Str.ofString "first"), (Str.ofString "second"), (Str.ofString "w")] [(Str.ofString "top"), (Str.ofString "first"), (Str.ofString "second"), (Str.ofString "w"), (Str.ofString "high"), (Str.ofString "base"), (Str.ofString "limb"), (Str.ofString "rest")] where
  bind := fun _ _ _ => v4 fun _ _ _ _ => rfl
  cell := by decide +kernel
  loc := by decide +kernel
  pre := ⟨_, rfl⟩
  nodup := by decide +kernel
  co := rfl
  gen := rfl
  kind := rfl
theorem t_guessed_limb {prog : Program} {w : World} {B : Heap} {mg mb : Str → Option Value} (Hv : Ev B mg mb)  :
    SemSs prog w B ⟨0, d_guessed_limb.scope, [(Str.ofString "top"), (Str.ofString "first"), (Str.ofString "second"), (Str.ofString "w"), (Str.ofString "high"), (Str.ofString "base"), (Str.ofString "limb"), (Str.ofString "rest")], 0, [], true⟩ d_guessed_limb.body (b_guessed_limb) :=
  (ss_seqs (s_multiR (.cons rfl (.inr rfl) (.cons rfl (.inr rfl) .nil)) (.cons (e_bin Hv.base .bor (e_bin Hv.base .shl (e_item (e_var 0 _ _ rfl (by decide +kernel)) (e_int _ _ _) (fun _ _ => rfl)) (e_var 3 _ _ rfl (by decide +kernel))) (e_item (e_var 0 _ _ rfl (by decide +kernel)) (e_int _ _ _) (fun _ _ => rfl))) (fun _ _ => rfl) (.cons (e_bin Hv.base .shl (e_int _ _ _) (e_var 3 _ _ rfl (by decide +kernel))) (fun _ _ => rfl) .nil)) rfl (by decide) (by decide) (by decide) (fun _ _ => rfl) (fun env h => by cases env; cases h; kernel_rfl))
  (ss_seqs (s_asg (e_min Hv.base (e_bin Hv.base .div (e_var 4 _ _ rfl (by decide +kernel)) (e_var 1 _ _ rfl (by decide +kernel))) (fun _ _ => rfl) (e_bin Hv.base .sub (e_var 5 _ _ rfl (by decide +kernel)) (e_int _ _ _)) (fun _ _ => rfl) (hk := by decide +kernel) (hm := Hv.g _ (by decide +kernel)) (hv := Hv.min)) rfl (.inr rfl) (fun _ _ => rfl))
  (ss_seqs (s_asg (e_bin Hv.base .sub (e_var 4 _ _ rfl (by decide +kernel)) (e_bin Hv.base .mul (e_var 6 _ _ rfl (by decide +kernel)) (e_var 1 _ _ rfl (by decide +kernel)))) rfl (.inr rfl) (fun _ _ => rfl))
  (ss_seqs (s_while (b_and (b_cmpi .lt (e_var 7 _ _ rfl (by decide +kernel)) (e_var 5 _ _ rfl (by decide +kernel)) rfl) (b_cmpi .gt (e_bin Hv.base .mul (e_var 6 _ _ rfl (by decide +kernel)) (e_var 2 _ _ rfl (by decide +kernel))) (e_bin Hv.base .bor (e_bin Hv.base .shl (e_var 7 _ _ rfl (by decide +kernel)) (e_var 3 _ _ rfl (by decide +kernel))) (e_item (e_var 0 _ _ rfl (by decide +kernel)) (e_int _ _ _) (fun _ _ => rfl))) rfl))
  (ss_seqs (s_aug (op := .sub) (e_int _ _ _) rfl (.inr rfl) (by simp))
  (ss_seqs (s_aug (op := .add) (e_var 1 _ _ rfl (by decide +kernel)) rfl (.inr rfl) (by simp))
  ss_seqs_nil)))
  (ss_seqs (s_ret (d_frz (e_var 6 _ _ rfl (by decide +kernel))))
  ss_seqs_nil)))))

/-- the text of take_away -/
noncomputable def d_take_away : DefRec := recAt 32
theorem x_take_away : TextOk d_take_away [(Str.ofString "rest"), (Str.ofString "b"), (Str.ofString "limb"), (Str.ofString "at"), (Str.ofString "w")] [(Str.ofString "rest"), (Str.ofString "b"), (Str.ofString "limb"), (Str.ofString "at"), (Str.ofString "w"), (Str.ofString "carry"), (Str.ofString "base"), (Str.ofString "spot"), (Str.ofString "other"), (Str.ofString "here")] where
  bind := fun _ _ _ => v5 fun _ _ _ _ _ => rfl
  cell := by decide +kernel
  loc := by decide +kernel
  pre := ⟨_, rfl⟩
  nodup := by decide +kernel
  co := rfl
  gen := rfl
  kind := rfl
theorem t_take_away {prog : Program} {w : World} {B : Heap} {mg mb : Str → Option Value} (Hv : Ev B mg mb)  :
    SemSs prog w B ⟨0, d_take_away.scope, [(Str.ofString "rest"), (Str.ofString "b"), (Str.ofString "limb"), (Str.ofString "at"), (Str.ofString "w"), (Str.ofString "carry"), (Str.ofString "base"), (Str.ofString "spot"), (Str.ofString "other"), (Str.ofString "here")], 1, [], true⟩ d_take_away.body (b_take_away) :=
  (ss_seqs (s_multiR (.cons rfl (.inr rfl) (.cons rfl (.inr rfl) .nil)) (.cons (e_int _ _ _) (fun _ _ => rfl) (.cons (e_bin Hv.base .shl (e_int _ _ _) (e_var 4 _ _ rfl (by decide +kernel))) (fun _ _ => rfl) .nil)) rfl (by decide) (by decide) (by decide) (fun _ _ => rfl) (fun env h => by cases env; cases h; kernel_rfl))
  (ss_seqs (s_for (it_enum Hv.base (d_frz (e_var 1 _ _ rfl (by decide +kernel))) (fun _ _ => rfl) (hk := by decide +kernel) (hm := Hv.g _ (by decide +kernel)) (hv := Hv.enumerate) (.cons rfl (.inr rfl) (.cons rfl (.inr rfl) .nil)) rfl)
  (ss_seqs (s_asg (e_bin Hv.base .sub (e_item (e_var 0 _ _ rfl (by decide +kernel)) (e_bin Hv.base .add (e_var 3 _ _ rfl (by decide +kernel)) (e_var 7 _ _ rfl (by decide +kernel))) (fun _ _ => rfl)) (e_bin Hv.base .mod (e_bin Hv.base .add (e_bin Hv.base .mul (e_var 2 _ _ rfl (by decide +kernel)) (e_var 8 _ _ rfl (by decide +kernel))) (e_var 5 _ _ rfl (by decide +kernel))) (e_var 6 _ _ rfl (by decide +kernel)))) rfl (.inr rfl) (fun _ _ => rfl))
  (ss_seqs (s_asg (e_bin Hv.base .add (e_bin Hv.base .div (e_bin Hv.base .add (e_bin Hv.base .mul (e_var 2 _ _ rfl (by decide +kernel)) (e_var 8 _ _ rfl (by decide +kernel))) (e_var 5 _ _ rfl (by decide +kernel))) (e_var 6 _ _ rfl (by decide +kernel))) (e_ife (b_cmpi .lt (e_var 9 _ _ rfl (by decide +kernel)) (e_int _ _ _) rfl) (e_int _ _ _) (e_int _ _ _))) rfl (.inr rfl) (fun _ _ => rfl))
  (ss_seqs (s_put (d_frz (e_ife (b_cmpi .lt (e_var 9 _ _ rfl (by decide +kernel)) (e_int _ _ _) rfl) (e_bin Hv.base .add (e_var 9 _ _ rfl (by decide +kernel)) (e_var 6 _ _ rfl (by decide +kernel))) (e_var 9 _ _ rfl (by decide +kernel)))) (e_bin Hv.base .add (e_var 3 _ _ rfl (by decide +kernel)) (e_var 7 _ _ rfl (by decide +kernel))) rfl (by decide +kernel) (fun _ _ => rfl))
  ss_seqs_nil))) (fun _ _ => rfl))
  (ss_seqs (s_asg (e_bin Hv.base .sub (e_item (e_var 0 _ _ rfl (by decide +kernel)) (e_bin Hv.base .add (e_var 3 _ _ rfl (by decide +kernel)) (e_len Hv.base (e_var 1 _ _ rfl (by decide +kernel)) (fun _ _ => rfl) (hk := by decide +kernel) (hm := Hv.g _ (by decide +kernel)) (hv := Hv.len))) (fun _ _ => rfl)) (e_var 5 _ _ rfl (by decide +kernel))) rfl (.inr rfl) (fun _ _ => rfl))
  (ss_seqs (s_put (d_frz (e_ife (b_cmpi .lt (e_var 9 _ _ rfl (by decide +kernel)) (e_int _ _ _) rfl) (e_bin Hv.base .add (e_var 9 _ _ rfl (by decide +kernel)) (e_var 6 _ _ rfl (by decide +kernel))) (e_var 9 _ _ rfl (by decide +kernel)))) (e_bin Hv.base .add (e_var 3 _ _ rfl (by decide +kernel)) (e_len Hv.base (e_var 1 _ _ rfl (by decide +kernel)) (fun _ _ => rfl) (hk := by decide +kernel) (hm := Hv.g _ (by decide +kernel)) (hv := Hv.len))) rfl (by decide +kernel) (fun _ _ => rfl))
  (ss_seqs (s_ret (d_frz (e_ife (b_cmpi .lt (e_var 9 _ _ rfl (by decide +kernel)) (e_int _ _ _) rfl) (e_int _ _ _) (e_int _ _ _))))
  ss_seqs_nil)))))

/-- the text of put_back -/
noncomputable def d_put_back : DefRec := recAt 33
theorem x_put_back : TextOk d_put_back [(Str.ofString "rest"), (Str.ofString "b"), (Str.ofString "at"), (Str.ofString "w")] [(Str.ofString "rest"), (Str.ofString "b"), (Str.ofString "at"), (Str.ofString "w"), (Str.ofString "carry"), (Str.ofString "mask"), (Str.ofString "spot"), (Str.ofString "other")] where
  bind := fun _ _ _ => v4 fun _ _ _ _ => rfl
  cell := by decide +kernel
  loc := by decide +kernel
  pre := ⟨_, rfl⟩
  nodup := by decide +kernel
  co := rfl
  gen := rfl
  kind := rfl
theorem t_put_back {prog : Program} {w : World} {B : Heap} {mg mb : Str → Option Value} (Hv : Ev B mg mb)  :
    SemSs prog w B ⟨0, d_put_back.scope, [(Str.ofString "rest"), (Str.ofString "b"), (Str.ofString "at"), (Str.ofString "w"), (Str.ofString "carry"), (Str.ofString "mask"), (Str.ofString "spot"), (Str.ofString "other")], 1, [], true⟩ d_put_back.body (b_put_back) :=
  (ss_seqs (s_multiR (.cons rfl (.inr rfl) (.cons rfl (.inr rfl) .nil)) (.cons (e_int _ _ _) (fun _ _ => rfl) (.cons (e_bin Hv.base .sub (e_bin Hv.base .shl (e_int _ _ _) (e_var 3 _ _ rfl (by decide +kernel))) (e_int _ _ _)) (fun _ _ => rfl) .nil)) rfl (by decide) (by decide) (by decide) (fun _ _ => rfl) (fun env h => by cases env; cases h; kernel_rfl))
  (ss_seqs (s_for (it_enum Hv.base (d_frz (e_var 1 _ _ rfl (by decide +kernel))) (fun _ _ => rfl) (hk := by decide +kernel) (hm := Hv.g _ (by decide +kernel)) (hv := Hv.enumerate) (.cons rfl (.inr rfl) (.cons rfl (.inr rfl) .nil)) rfl)
  (ss_seqs (s_aug (op := .add) (e_bin Hv.base .add (e_item (e_var 0 _ _ rfl (by decide +kernel)) (e_bin Hv.base .add (e_var 2 _ _ rfl (by decide +kernel)) (e_var 6 _ _ rfl (by decide +kernel))) (fun _ _ => rfl)) (e_var 7 _ _ rfl (by decide +kernel))) rfl (.inr rfl) (by simp))
  (ss_seqs (s_put (d_frz (e_bin Hv.base .band (e_var 4 _ _ rfl (by decide +kernel)) (e_var 5 _ _ rfl (by decide +kernel)))) (e_bin Hv.base .add (e_var 2 _ _ rfl (by decide +kernel)) (e_var 6 _ _ rfl (by decide +kernel))) rfl (by decide +kernel) (fun _ _ => rfl))
  (ss_seqs (s_aug (op := .shr) (e_var 3 _ _ rfl (by decide +kernel)) rfl (.inr rfl) (by simp))
  ss_seqs_nil))) (fun _ _ => rfl))
  (ss_seqs (s_put (d_frz (e_bin Hv.base .band (e_bin Hv.base .add (e_item (e_var 0 _ _ rfl (by decide +kernel)) (e_bin Hv.base .add (e_var 2 _ _ rfl (by decide +kernel)) (e_len Hv.base (e_var 1 _ _ rfl (by decide +kernel)) (fun _ _ => rfl) (hk := by decide +kernel) (hm := Hv.g _ (by decide +kernel)) (hv := Hv.len))) (fun _ _ => rfl)) (e_var 4 _ _ rfl (by decide +kernel))) (e_var 5 _ _ rfl (by decide +kernel)))) (e_bin Hv.base .add (e_var 2 _ _ rfl (by decide +kernel)) (e_len Hv.base (e_var 1 _ _ rfl (by decide +kernel)) (fun _ _ => rfl) (hk := by decide +kernel) (hm := Hv.g _ (by decide +kernel)) (hv := Hv.len))) rfl (by decide +kernel) (fun _ _ => rfl))
  ss_seqs_nil)))

/-- the text of divide_rows -/
noncomputable def d_divide_rows : DefRec := recAt 34
theorem x_divide_rows : TextOk d_divide_rows [(Str.ofString "rest"), (Str.ofString "b"), (Str.ofString "w")] [(Str.ofString "rest"), (Str.ofString "b"), (Str.ofString "w"), (Str.ofString "size"), (Str.ofString "quotient"), (Str.ofString "at"), (Str.ofString "limb")] where
  bind := fun _ _ _ => v3 fun _ _ _ => rfl
  cell := by decide +kernel
  loc := by decide +kernel
  pre := ⟨_, rfl⟩
  nodup := by decide +kernel
  co := rfl
  gen := rfl
  kind := rfl
theorem t_divide_rows {prog : Program} {w : World} {B : Heap} {mg mb : Str → Option Value} (Hv : Ev B mg mb) (F_guessed_limb : FnOk prog w B mg 1 (Str.ofString "guessed_limb") K_guessed_limb) (F_take_away : FnMOk prog w B mg 1 (Str.ofString "take_away") K_take_away) (F_put_back : FnMOk prog w B mg 1 (Str.ofString "put_back") K_put_back) :
    SemSs prog w B ⟨1, d_divide_rows.scope, [(Str.ofString "rest"), (Str.ofString "b"), (Str.ofString "w"), (Str.ofString "size"), (Str.ofString "quotient"), (Str.ofString "at"), (Str.ofString "limb")], 1, [], true⟩ d_divide_rows.body (b_divide_rows) :=
  (ss_seqs (s_asg (e_len Hv.base (e_var 1 _ _ rfl (by decide +kernel)) (fun _ _ => rfl) (hk := by decide +kernel) (hm := Hv.g _ (by decide +kernel)) (hv := Hv.len)) rfl (.inr rfl) (fun _ _ => rfl))
  (ss_seqs (s_asg (e_rep (e_lstV (.cons (d_frz (e_int _ _ _)) (fun _ _ => rfl) .nil) (by decide)) (e_bin Hv.base .sub (e_len Hv.base (e_var 0 _ _ rfl (by decide +kernel)) (fun _ _ => rfl) (hk := by decide +kernel) (hm := Hv.g _ (by decide +kernel)) (hv := Hv.len)) (e_var 3 _ _ rfl (by decide +kernel)))) rfl (.inr rfl) (fun _ _ => rfl))
  (ss_seqs (s_for (it_rangeD Hv.base (e_bin Hv.base .sub (e_bin Hv.base .sub (e_len Hv.base (e_var 0 _ _ rfl (by decide +kernel)) (fun _ _ => rfl) (hk := by decide +kernel) (hm := Hv.g _ (by decide +kernel)) (hv := Hv.len)) (e_var 3 _ _ rfl (by decide +kernel))) (e_int _ _ _)) (e_neg (e_int _ _ _)) (fun _ _ => rfl) (fun _ _ => rfl) (hk := by decide +kernel) (hm := Hv.g _ (by decide +kernel)) (hv := Hv.range) (hn := rfl) (hs := (.inr rfl)))
  (ss_seqs (s_asg (c_fn Hv.base F_guessed_limb (by decide) (.cons (d_frz (e_cut (e_var 0 _ _ rfl (by decide +kernel)) (.some (e_bin Hv.base .sub (e_bin Hv.base .add (e_var 5 _ _ rfl (by decide +kernel)) (e_var 3 _ _ rfl (by decide +kernel))) (e_int _ _ _))) (.some (e_bin Hv.base .add (e_bin Hv.base .add (e_var 5 _ _ rfl (by decide +kernel)) (e_var 3 _ _ rfl (by decide +kernel))) (e_int _ _ _))))) (fun _ _ => rfl) (.cons (d_frz (e_item (e_var 1 _ _ rfl (by decide +kernel)) (e_bin Hv.base .sub (e_var 3 _ _ rfl (by decide +kernel)) (e_int _ _ _)) (fun _ _ => rfl))) (fun _ _ => rfl) (.cons (d_frz (e_item (e_var 1 _ _ rfl (by decide +kernel)) (e_bin Hv.base .sub (e_var 3 _ _ rfl (by decide +kernel)) (e_int _ _ _)) (fun _ _ => rfl))) (fun _ _ => rfl) (.cons (d_frz (e_var 2 _ _ rfl (by decide +kernel))) (fun _ _ => rfl) .nil)))) (fun _ _ => rfl) (by decide +kernel) (by decide +kernel)) rfl (.inr rfl) (fun _ _ => rfl))
  (ss_seqs (s_if (b_cmpi .eq (c_fnM Hv.base F_take_away (by decide) (.cons (d_frz (e_var 1 _ _ rfl (by decide +kernel))) (fun _ _ => rfl) (.cons (d_frz (e_var 6 _ _ rfl (by decide +kernel))) (fun _ _ => rfl) (.cons (d_frz (e_var 5 _ _ rfl (by decide +kernel))) (fun _ _ => rfl) (.cons (d_frz (e_var 2 _ _ rfl (by decide +kernel))) (fun _ _ => rfl) .nil)))) rfl (by decide +kernel) (by decide +kernel) (by decide +kernel)) (e_int _ _ _) rfl)
  (ss_seqs (s_aug (op := .sub) (e_int _ _ _) rfl (.inr rfl) (by simp))
  (ss_seqs (s_do (c_fnM Hv.base F_put_back (by decide) (.cons (d_frz (e_var 1 _ _ rfl (by decide +kernel))) (fun _ _ => rfl) (.cons (d_frz (e_var 5 _ _ rfl (by decide +kernel))) (fun _ _ => rfl) (.cons (d_frz (e_var 2 _ _ rfl (by decide +kernel))) (fun _ _ => rfl) .nil))) rfl (by decide +kernel) (by decide +kernel) (by decide +kernel)) (fun env h => by cases env; cases h; rfl) (fun _ => rfl))
  ss_seqs_nil))
  ss_seqs_nil)
  (ss_seqs (s_put (d_frz (e_var 6 _ _ rfl (by decide +kernel))) (e_var 5 _ _ rfl (by decide +kernel)) rfl (by decide +kernel) (fun _ _ => rfl))
  ss_seqs_nil))) (fun _ _ => rfl))
  (ss_seqs (s_ret (d_frz (e_var 4 _ _ rfl (by decide +kernel))))
  ss_seqs_nil))))

/-- the text of divrem_school -/
noncomputable def d_divrem_school : DefRec := recAt 35
theorem x_divrem_school : TextOk d_divrem_school [(Str.ofString "a"), (Str.ofString "b"), (Str.ofString "w")] [(Str.ofString "a"), (Str.ofString "b"), (Str.ofString "w"), (Str.ofString "shift"), (Str.ofString "divisor"), (Str.ofString "rest"), (Str.ofString "quotient")] where
  bind := fun _ _ _ => v3 fun _ _ _ => rfl
  cell := by decide +kernel
  loc := by decide +kernel
  pre := ⟨_, rfl⟩
  nodup := by decide +kernel
  co := rfl
  gen := rfl
  kind := rfl
theorem t_divrem_school {prog : Program} {w : World} {B : Heap} {mg mb : Str → Option Value} (Hv : Ev B mg mb) (F_normal : FnOk prog w B mg 1 (Str.ofString "normal") K_normal) (F_compare : FnOk prog w B mg 1 (Str.ofString "compare") K_compare) (F_shift_left : FnOk prog w B mg 1 (Str.ofString "shift_left") K_shift_left) (F_shift_right : FnOk prog w B mg 2 (Str.ofString "shift_right") K_shift_right) (F_bits : FnOk prog w B mg 1 (Str.ofString "bits") K_bits) (F_divrem_small : FnOk prog w B mg 3 (Str.ofString "divrem_small") K_divrem_small) (F_divide_rows : FnMOk prog w B mg 2 (Str.ofString "divide_rows") K_divide_rows) :
    SemSs prog w B ⟨3, d_divrem_school.scope, [(Str.ofString "a"), (Str.ofString "b"), (Str.ofString "w"), (Str.ofString "shift"), (Str.ofString "divisor"), (Str.ofString "rest"), (Str.ofString "quotient")], 0, [], true⟩ d_divrem_school.body (b_divrem_school) :=
  (ss_seqs (s_if (b_cmpi .eq (e_len Hv.base (e_var 1 _ _ rfl (by decide +kernel)) (fun _ _ => rfl) (hk := by decide +kernel) (hm := Hv.g _ (by decide +kernel)) (hv := Hv.len)) (e_int _ _ _) rfl)
  (ss_seqs s_never
  ss_seqs_nil)
  ss_seqs_nil)
  (ss_seqs (s_if (b_cmpi .lt (c_fn Hv.base F_compare (by decide) (.cons (d_frz (e_var 0 _ _ rfl (by decide +kernel))) (fun _ _ => rfl) (.cons (d_frz (e_var 1 _ _ rfl (by decide +kernel))) (fun _ _ => rfl) .nil)) (fun _ _ => rfl) (by decide +kernel) (by decide +kernel)) (e_int _ _ _) rfl)
  (ss_seqs (s_ret (d_frz (e_tup (.cons (d_frz (e_lstV .nil (by decide))) (fun _ _ => rfl) (.cons (d_frz (e_cut (e_var 0 _ _ rfl (by decide +kernel)) .none .none)) (fun _ _ => rfl) .nil)) (by decide))))
  ss_seqs_nil)
  ss_seqs_nil)
  (ss_seqs (s_if (b_cmpi .eq (e_len Hv.base (e_var 1 _ _ rfl (by decide +kernel)) (fun _ _ => rfl) (hk := by decide +kernel) (hm := Hv.g _ (by decide +kernel)) (hv := Hv.len)) (e_int _ _ _) rfl)
  (ss_seqs (s_ret (d_frz (c_fn Hv.base F_divrem_small (by decide) (.cons (d_frz (e_var 0 _ _ rfl (by decide +kernel))) (fun _ _ => rfl) (.cons (d_frz (e_var 1 _ _ rfl (by decide +kernel))) (fun _ _ => rfl) (.cons (d_frz (e_var 2 _ _ rfl (by decide +kernel))) (fun _ _ => rfl) .nil))) (fun _ _ => rfl) (by decide +kernel) (by decide +kernel))))
  ss_seqs_nil)
  ss_seqs_nil)
  (ss_seqs (s_asg (e_bin Hv.base .sub (e_var 2 _ _ rfl (by decide +kernel)) (c_fn Hv.base F_bits (by decide) (.cons (d_frz (e_lstV (.cons (d_frz (e_item (e_var 1 _ _ rfl (by decide +kernel)) (e_neg (e_int _ _ _)) (fun _ _ => rfl))) (fun _ _ => rfl) .nil) (by decide))) (fun _ _ => rfl) (.cons (d_frz (e_var 2 _ _ rfl (by decide +kernel))) (fun _ _ => rfl) .nil)) (fun _ _ => rfl) (by decide +kernel) (by decide +kernel))) rfl (.inr rfl) (fun _ _ => rfl))
  (ss_seqs (s_asg (c_fn Hv.base F_shift_left (by decide) (.cons (d_frz (e_var 1 _ _ rfl (by decide +kernel))) (fun _ _ => rfl) (.cons (d_frz (e_var 3 _ _ rfl (by decide +kernel))) (fun _ _ => rfl) (.cons (d_frz (e_var 2 _ _ rfl (by decide +kernel))) (fun _ _ => rfl) .nil))) (fun _ _ => rfl) (by decide +kernel) (by decide +kernel)) rfl (.inr rfl) (fun _ _ => rfl))
  (ss_seqs (s_asg (c_fn Hv.base F_shift_left (by decide) (.cons (d_frz (e_var 0 _ _ rfl (by decide +kernel))) (fun _ _ => rfl) (.cons (d_frz (e_var 3 _ _ rfl (by decide +kernel))) (fun _ _ => rfl) (.cons (d_frz (e_var 2 _ _ rfl (by decide +kernel))) (fun _ _ => rfl) .nil))) (fun _ _ => rfl) (by decide +kernel) (by decide +kernel)) rfl (.inr rfl) (fun _ _ => rfl))
  (ss_seqs (s_asg (e_cat (e_var 5 _ _ rfl (by decide +kernel)) (e_rep (e_lstV (.cons (d_frz (e_int _ _ _)) (fun _ _ => rfl) .nil) (by decide)) (e_bin Hv.base .sub (e_bin Hv.base .add (e_len Hv.base (e_var 0 _ _ rfl (by decide +kernel)) (fun _ _ => rfl) (hk := by decide +kernel) (hm := Hv.g _ (by decide +kernel)) (hv := Hv.len)) (e_int _ _ _)) (e_len Hv.base (e_var 5 _ _ rfl (by decide +kernel)) (fun _ _ => rfl) (hk := by decide +kernel) (hm := Hv.g _ (by decide +kernel)) (hv := Hv.len))))) rfl (.inr rfl) (fun _ _ => rfl))
  (ss_seqs (s_asg (c_fnM Hv.base F_divide_rows (by decide) (.cons (d_frz (e_var 4 _ _ rfl (by decide +kernel))) (fun _ _ => rfl) (.cons (d_frz (e_var 2 _ _ rfl (by decide +kernel))) (fun _ _ => rfl) .nil)) rfl (by decide +kernel) (by decide +kernel) (by decide +kernel)) rfl (.inr rfl) (fun _ _ => rfl))
  (ss_seqs (s_ret (d_frz (e_tup (.cons (d_frz (c_fn Hv.base F_normal (by decide) (.cons (d_frz (e_var 6 _ _ rfl (by decide +kernel))) (fun _ _ => rfl) .nil) (fun _ _ => rfl) (by decide +kernel) (by decide +kernel))) (fun _ _ => rfl) (.cons (d_frz (c_fn Hv.base F_shift_right (by decide) (.cons (d_frz (c_fn Hv.base F_normal (by decide) (.cons (d_frz (e_var 5 _ _ rfl (by decide +kernel))) (fun _ _ => rfl) .nil) (fun _ _ => rfl) (by decide +kernel) (by decide +kernel))) (fun _ _ => rfl) (.cons (d_frz (e_var 3 _ _ rfl (by decide +kernel))) (fun _ _ => rfl) (.cons (d_frz (e_var 2 _ _ rfl (by decide +kernel))) (fun _ _ => rfl) .nil))) (fun _ _ => rfl) (by decide +kernel) (by decide +kernel))) (fun _ _ => rfl) .nil)) (by decide))))
  ss_seqs_nil)))))))))

end Mine
end

section
set_option maxRecDepth 100000
set_option Elab.async false
set_option autoImplicit false
set_option linter.unusedVariables false
namespace Mine
open PySem PySem.Calls PyProof.Rows
/-- the text of s_mul -/
noncomputable def d_s_mul : DefRec := recAt 18
theorem x_s_mul : TextOk d_s_mul [(Str.ofString "x"), (Str.ofString "y"), (Str.ofString "w"), (Str.ofString "mul")] [(Str.ofString "x"), (Str.ofString "y"), (Str.ofString "w"), (Str.ofString "mul")] where
  bind := fun _ _ _ => v4 fun _ _ _ _ => rfl
  cell := by decide +kernel
  loc := by decide +kernel
  pre := ⟨_, rfl⟩
  nodup := by decide +kernel
  co := rfl
  gen := rfl
  kind := rfl
theorem t_s_mul {prog : Program} {w : World} {B : Heap} {mg mb : Str → Option Value} (Hv : Ev B mg mb) {am ad : Nat} (F_signed : FnOk prog w B mg 1 (Str.ofString "signed") K_signed) (hKV : ∀ a ∈ [am, ad], FnIs B a ∧ PureOk prog w B 4 a (KV am ad a)) :
    SemSs prog w B ⟨4, d_s_mul.scope, [(Str.ofString "x"), (Str.ofString "y"), (Str.ofString "w"), (Str.ofString "mul")], 0, [], true⟩ d_s_mul.body (b_s_mul am ad) :=
  (ss_seqs (s_ret (d_frz (c_fn Hv.base F_signed (by decide) (.cons (d_frz (e_boolv (bv_neB (e_item (e_var 0 _ _ rfl (by decide +kernel)) (e_int _ _ _) (fun _ _ => rfl)) (e_item (e_var 1 _ _ rfl (by decide +kernel)) (e_int _ _ _) (fun _ _ => rfl)) rfl))) (fun _ _ => rfl) (.cons (d_frz (e_callV (.cons (d_frz (e_item (e_var 0 _ _ rfl (by decide +kernel)) (e_int _ _ _) (fun _ _ => rfl))) (fun _ _ => rfl) (.cons (d_frz (e_item (e_var 1 _ _ rfl (by decide +kernel)) (e_int _ _ _) (fun _ _ => rfl))) (fun _ _ => rfl) (.cons (d_frz (e_var 2 _ _ rfl (by decide +kernel))) (fun _ _ => rfl) .nil))) (fun _ _ => rfl) rfl (by decide +kernel) hKV)) (fun _ _ => rfl) .nil)) (fun _ _ => rfl) (by decide +kernel) (by decide +kernel))))
  ss_seqs_nil)

/-- the text of tdiv -/
noncomputable def d_tdiv : DefRec := recAt 19
theorem x_tdiv : TextOk d_tdiv [(Str.ofString "x"), (Str.ofString "y"), (Str.ofString "w"), (Str.ofString "divrem")] [(Str.ofString "x"), (Str.ofString "y"), (Str.ofString "w"), (Str.ofString "divrem"), (Str.ofString "quotient"), (Str.ofString "rest")] where
  bind := fun _ _ _ => v4 fun _ _ _ _ => rfl
  cell := by decide +kernel
  loc := by decide +kernel
  pre := ⟨_, rfl⟩
  nodup := by decide +kernel
  co := rfl
  gen := rfl
  kind := rfl
theorem t_tdiv {prog : Program} {w : World} {B : Heap} {mg mb : Str → Option Value} (Hv : Ev B mg mb) {am ad : Nat} (F_signed : FnOk prog w B mg 1 (Str.ofString "signed") K_signed) (hKV : ∀ a ∈ [am, ad], FnIs B a ∧ PureOk prog w B 4 a (KV am ad a)) :
    SemSs prog w B ⟨4, d_tdiv.scope, [(Str.ofString "x"), (Str.ofString "y"), (Str.ofString "w"), (Str.ofString "divrem"), (Str.ofString "quotient"), (Str.ofString "rest")], 0, [], true⟩ d_tdiv.body (b_tdiv am ad) :=
  (ss_seqs (s_if (b_cmpi .eq (e_len Hv.base (e_item (e_var 1 _ _ rfl (by decide +kernel)) (e_int _ _ _) (fun _ _ => rfl)) (fun _ _ => rfl) (hk := by decide +kernel) (hm := Hv.g _ (by decide +kernel)) (hv := Hv.len)) (e_int _ _ _) rfl)
  (ss_seqs s_never
  ss_seqs_nil)
  ss_seqs_nil)
  (ss_seqs (s_unp (.cons rfl (.inr rfl) (.cons rfl (.inr rfl) .nil)) (d_frz (e_callV (.cons (d_frz (e_item (e_var 0 _ _ rfl (by decide +kernel)) (e_int _ _ _) (fun _ _ => rfl))) (fun _ _ => rfl) (.cons (d_frz (e_item (e_var 1 _ _ rfl (by decide +kernel)) (e_int _ _ _) (fun _ _ => rfl))) (fun _ _ => rfl) (.cons (d_frz (e_var 2 _ _ rfl (by decide +kernel))) (fun _ _ => rfl) .nil))) (fun _ _ => rfl) rfl (by decide +kernel) hKV)) (fun _ _ => rfl) (fun _ => rfl))
  (ss_seqs (s_ret (d_frz (e_tup (.cons (d_frz (c_fn Hv.base F_signed (by decide) (.cons (d_frz (e_boolv (bv_neB (e_item (e_var 0 _ _ rfl (by decide +kernel)) (e_int _ _ _) (fun _ _ => rfl)) (e_item (e_var 1 _ _ rfl (by decide +kernel)) (e_int _ _ _) (fun _ _ => rfl)) rfl))) (fun _ _ => rfl) (.cons (d_frz (e_var 4 _ _ rfl (by decide +kernel))) (fun _ _ => rfl) .nil)) (fun _ _ => rfl) (by decide +kernel) (by decide +kernel))) (fun _ _ => rfl) (.cons (d_frz (c_fn Hv.base F_signed (by decide) (.cons (d_frz (e_item (e_var 0 _ _ rfl (by decide +kernel)) (e_int _ _ _) (fun _ _ => rfl))) (fun _ _ => rfl) (.cons (d_frz (e_var 5 _ _ rfl (by decide +kernel))) (fun _ _ => rfl) .nil)) (fun _ _ => rfl) (by decide +kernel) (by decide +kernel))) (fun _ _ => rfl) .nil)) (by decide))))
  ss_seqs_nil)))

/-- the text of exact -/
noncomputable def d_exact : DefRec := recAt 23
theorem x_exact : TextOk d_exact [(Str.ofString "x"), (Str.ofString "y"), (Str.ofString "w"), (Str.ofString "divrem")] [(Str.ofString "x"), (Str.ofString "y"), (Str.ofString "w"), (Str.ofString "divrem"), (Str.ofString "found"), (Str.ofString "rest")] where
  bind := fun _ _ _ => v4 fun _ _ _ _ => rfl
  cell := by decide +kernel
  loc := by decide +kernel
  pre := ⟨_, rfl⟩
  nodup := by decide +kernel
  co := rfl
  gen := rfl
  kind := rfl
theorem t_exact {prog : Program} {w : World} {B : Heap} {mg mb : Str → Option Value} (Hv : Ev B mg mb) {am ad : Nat} (F_tdiv : FnOk prog w B mg 5 (Str.ofString "tdiv") (K_tdiv am ad)) :
    SemSs prog w B ⟨5, d_exact.scope, [(Str.ofString "x"), (Str.ofString "y"), (Str.ofString "w"), (Str.ofString "divrem"), (Str.ofString "found"), (Str.ofString "rest")], 0, [], true⟩ d_exact.body (b_exact am ad) :=
  (ss_seqs (s_unp (.cons rfl (.inr rfl) (.cons rfl (.inr rfl) .nil)) (d_frz (c_fn Hv.base F_tdiv (by decide) (.cons (d_frz (e_var 0 _ _ rfl (by decide +kernel))) (fun _ _ => rfl) (.cons (d_frz (e_var 1 _ _ rfl (by decide +kernel))) (fun _ _ => rfl) (.cons (d_frz (e_var 2 _ _ rfl (by decide +kernel))) (fun _ _ => rfl) (.cons (d_frz (e_var 3 _ _ rfl (by decide +kernel))) (fun _ _ => rfl) .nil)))) (fun _ _ => rfl) (by decide +kernel) (by decide +kernel))) (fun _ _ => rfl) (fun _ => rfl))
  (ss_seqs (s_ret (d_frz (e_var 4 _ _ rfl (by decide +kernel))))
  ss_seqs_nil))

/-- the text of pivot_row -/
noncomputable def d_pivot_row : DefRec := recAt 24
theorem x_pivot_row : TextOk d_pivot_row [(Str.ofString "rows"), (Str.ofString "top"), (Str.ofString "column")] [(Str.ofString "rows"), (Str.ofString "top"), (Str.ofString "column"), (Str.ofString "at")] where
  bind := fun _ _ _ => v3 fun _ _ _ => rfl
  cell := by decide +kernel
  loc := by decide +kernel
  pre := ⟨_, rfl⟩
  nodup := by decide +kernel
  co := rfl
  gen := rfl
  kind := rfl
theorem t_pivot_row {prog : Program} {w : World} {B : Heap} {mg mb : Str → Option Value} (Hv : Ev B mg mb) (F_s_sign : FnOk prog w B mg 1 (Str.ofString "s_sign") K_s_sign) :
    SemSs prog w B ⟨1, d_pivot_row.scope, [(Str.ofString "rows"), (Str.ofString "top"), (Str.ofString "column"), (Str.ofString "at")], 0, [], true⟩ d_pivot_row.body (b_pivot_row) :=
  (ss_seqs (s_for (it_range2 Hv.base (e_var 1 _ _ rfl (by decide +kernel)) (e_len Hv.base (e_var 0 _ _ rfl (by decide +kernel)) (fun _ _ => rfl) (hk := by decide +kernel) (hm := Hv.g _ (by decide +kernel)) (hv := Hv.len)) (fun _ _ => rfl) (fun _ _ => rfl) (hk := by decide +kernel) (hm := Hv.g _ (by decide +kernel)) (hv := Hv.range) (hn := rfl) (hs := (.inr rfl)))
  (ss_seqs (s_if (b_cmpi .ne (c_fn Hv.base F_s_sign (by decide) (.cons (d_frz (e_item (e_item (e_var 0 _ _ rfl (by decide +kernel)) (e_var 3 _ _ rfl (by decide +kernel)) (fun _ _ => rfl)) (e_var 2 _ _ rfl (by decide +kernel)) (fun _ _ => rfl))) (fun _ _ => rfl) .nil) (fun _ _ => rfl) (by decide +kernel) (by decide +kernel)) (e_int _ _ _) rfl)
  (ss_seqs (s_ret (d_frz (e_var 3 _ _ rfl (by decide +kernel))))
  ss_seqs_nil)
  ss_seqs_nil)
  ss_seqs_nil) (fun _ _ => rfl))
  (ss_seqs (s_ret (d_frz (e_neg (e_int _ _ _))))
  ss_seqs_nil))

/-- the text of cleared -/
noncomputable def d_cleared : DefRec := recAt 25
theorem x_cleared : TextOk d_cleared [(Str.ofString "row"), (Str.ofString "head"), (Str.ofString "column"), (Str.ofString "before"), (Str.ofString "w"), (Str.ofString "mul"), (Str.ofString "divrem")] [(Str.ofString "row"), (Str.ofString "head"), (Str.ofString "column"), (Str.ofString "before"), (Str.ofString "w"), (Str.ofString "mul"), (Str.ofString "divrem"), (Str.ofString "pivot"), (Str.ofString "own"), (Str.ofString "found"), (Str.ofString "at"), (Str.ofString "value"), (Str.ofString "here")] where
  bind := fun _ _ _ => v7 fun _ _ _ _ _ _ _ => rfl
  cell := by decide +kernel
  loc := by decide +kernel
  pre := ⟨_, rfl⟩
  nodup := by decide +kernel
  co := rfl
  gen := rfl
  kind := rfl
theorem t_cleared {prog : Program} {w : World} {B : Heap} {mg mb : Str → Option Value} (Hv : Ev B mg mb) {am ad : Nat} (F_s_sub : FnOk prog w B mg 4 (Str.ofString "s_sub") K_s_sub) (F_s_mul : FnOk prog w B mg 5 (Str.ofString "s_mul") (K_s_mul am ad)) (F_exact : FnOk prog w B mg 6 (Str.ofString "exact") (K_exact am ad)) :
    SemSs prog w B ⟨6, d_cleared.scope, [(Str.ofString "row"), (Str.ofString "head"), (Str.ofString "column"), (Str.ofString "before"), (Str.ofString "w"), (Str.ofString "mul"), (Str.ofString "divrem"), (Str.ofString "pivot"), (Str.ofString "own"), (Str.ofString "found"), (Str.ofString "at"), (Str.ofString "value"), (Str.ofString "here")], 0, [], true⟩ d_cleared.body (b_cleared am ad) :=
  (ss_seqs (s_multiR (.cons rfl (.inr rfl) (.cons rfl (.inr rfl) .nil)) (.cons (e_item (e_var 1 _ _ rfl (by decide +kernel)) (e_var 2 _ _ rfl (by decide +kernel)) (fun _ _ => rfl)) (fun _ _ => rfl) (.cons (e_item (e_var 0 _ _ rfl (by decide +kernel)) (e_var 2 _ _ rfl (by decide +kernel)) (fun _ _ => rfl)) (fun _ _ => rfl) .nil)) rfl (by decide) (by decide) (by decide) (fun _ _ => rfl) (fun env h => by cases env; cases h; kernel_rfl))
  (ss_seqs (s_asg (e_lst .nil (by decide)) rfl (.inr rfl) (fun _ _ => rfl))
  (ss_seqs (s_for (it_enum Hv.base (d_frz (e_var 0 _ _ rfl (by decide +kernel))) (fun _ _ => rfl) (hk := by decide +kernel) (hm := Hv.g _ (by decide +kernel)) (hv := Hv.enumerate) (.cons rfl (.inr rfl) (.cons rfl (.inr rfl) .nil)) rfl)
  (ss_seqs (s_asg (c_fn Hv.base F_s_sub (by decide) (.cons (d_frz (c_fn Hv.base F_s_mul (by decide) (.cons (d_frz (e_var 11 _ _ rfl (by decide +kernel))) (fun _ _ => rfl) (.cons (d_frz (e_var 7 _ _ rfl (by decide +kernel))) (fun _ _ => rfl) (.cons (d_frz (e_var 4 _ _ rfl (by decide +kernel))) (fun _ _ => rfl) (.cons (d_frz (e_var 5 _ _ rfl (by decide +kernel))) (fun _ _ => rfl) .nil)))) (fun _ _ => rfl) (by decide +kernel) (by decide +kernel))) (fun _ _ => rfl) (.cons (d_frz (c_fn Hv.base F_s_mul (by decide) (.cons (d_frz (e_var 8 _ _ rfl (by decide +kernel))) (fun _ _ => rfl) (.cons (d_frz (e_item (e_var 1 _ _ rfl (by decide +kernel)) (e_var 10 _ _ rfl (by decide +kernel)) (fun _ _ => rfl))) (fun _ _ => rfl) (.cons (d_frz (e_var 4 _ _ rfl (by decide +kernel))) (fun _ _ => rfl) (.cons (d_frz (e_var 5 _ _ rfl (by decide +kernel))) (fun _ _ => rfl) .nil)))) (fun _ _ => rfl) (by decide +kernel) (by decide +kernel))) (fun _ _ => rfl) (.cons (d_frz (e_var 4 _ _ rfl (by decide +kernel))) (fun _ _ => rfl) .nil))) (fun _ _ => rfl) (by decide +kernel) (by decide +kernel)) rfl (.inr rfl) (fun _ _ => rfl))
  (ss_seqs (s_app (d_frz (c_fn Hv.base F_exact (by decide) (.cons (d_frz (e_var 12 _ _ rfl (by decide +kernel))) (fun _ _ => rfl) (.cons (d_frz (e_var 3 _ _ rfl (by decide +kernel))) (fun _ _ => rfl) (.cons (d_frz (e_var 4 _ _ rfl (by decide +kernel))) (fun _ _ => rfl) (.cons (d_frz (e_var 6 _ _ rfl (by decide +kernel))) (fun _ _ => rfl) .nil)))) (fun _ _ => rfl) (by decide +kernel) (by decide +kernel))) (fun _ _ => rfl) rfl (by decide +kernel) (by decide) (fun env h => by cases env; cases h; rfl))
  ss_seqs_nil)) (fun _ _ => rfl))
  (ss_seqs (s_ret (d_frz (e_var 9 _ _ rfl (by decide +kernel))))
  ss_seqs_nil))))

/-- the text of steps_down -/
noncomputable def d_steps_down : DefRec := recAt 26
theorem x_steps_down : TextOk d_steps_down [(Str.ofString "a"), (Str.ofString "columns"), (Str.ofString "w"), (Str.ofString "mul"), (Str.ofString "divrem")] [(Str.ofString "a"), (Str.ofString "columns"), (Str.ofString "w"), (Str.ofString "mul"), (Str.ofString "divrem"), (Str.ofString "rows"), (Str.ofString "places"), (Str.ofString "is_odd"), (Str.ofString "before"), (Str.ofString "column"), (Str.ofString "top"), (Str.ofString "spot"), (Str.ofString "at")] where
  bind := fun _ _ _ => v5 fun _ _ _ _ _ => rfl
  cell := by decide +kernel
  loc := by decide +kernel
  pre := ⟨_, rfl⟩
  nodup := by decide +kernel
  co := rfl
  gen := rfl
  kind := rfl
theorem t_steps_down {prog : Program} {w : World} {B : Heap} {mg mb : Str → Option Value} (Hv : Ev B mg mb) {am ad : Nat} (F_pivot_row : FnOk prog w B mg 2 (Str.ofString "pivot_row") K_pivot_row) (F_cleared : FnOk prog w B mg 7 (Str.ofString "cleared") (K_cleared am ad)) {vU : Value} (hU : mg (Str.ofString "UNIT") = some vU ∧ Rep B.get? vU dUNIT) :
    SemSs prog w B ⟨7, d_steps_down.scope, [(Str.ofString "a"), (Str.ofString "columns"), (Str.ofString "w"), (Str.ofString "mul"), (Str.ofString "divrem"), (Str.ofString "rows"), (Str.ofString "places"), (Str.ofString "is_odd"), (Str.ofString "before"), (Str.ofString "column"), (Str.ofString "top"), (Str.ofString "spot"), (Str.ofString "at")], 0, [], true⟩ d_steps_down.body (b_steps_down am ad) :=
  (ss_seqs (s_multi (.cons rfl (.inr rfl) (.cons rfl (.inr rfl) (.cons rfl (.inr rfl) (.cons rfl (.inr rfl) .nil)))) (.cons (e_compP (tgn := [(Str.ofString "row")]) (capn := []) (cap := []) (it_items (d_frz (e_var 0 _ _ rfl (by decide +kernel))) rfl (.inl (by decide +kernel))) .none (d_frz (e_cut (e_var 0 _ _ rfl (by decide +kernel)) .none .none)) ⟨(by decide +kernel), (by decide +kernel), rfl, (by decide +kernel), (by decide +kernel), (by decide +kernel), rfl, (by decide +kernel)⟩ (fun _ _ => rfl)) (fun _ _ => rfl) (.cons (e_lst .nil (by decide)) (fun _ _ => rfl) (.cons (e_bool _ _ _) (fun _ _ => rfl) (.cons (e_const Hv.base _ _ _ _ (by decide +kernel) hU.1 (by decide +kernel) hU.2) (fun _ _ => rfl) .nil)))) rfl (by decide) (fun _ _ => rfl) (fun env h => by cases env; cases h; kernel_rfl))
  (ss_seqs (s_for (it_range1 Hv.base (e_var 1 _ _ rfl (by decide +kernel)) (fun _ _ => rfl) (hk := by decide +kernel) (hm := Hv.g _ (by decide +kernel)) (hv := Hv.range) (hn := rfl) (hs := (.inr rfl)))
  (ss_seqs (s_asg (e_len Hv.base (e_var 6 _ _ rfl (by decide +kernel)) (fun _ _ => rfl) (hk := by decide +kernel) (hm := Hv.g _ (by decide +kernel)) (hv := Hv.len)) rfl (.inr rfl) (fun _ _ => rfl))
  (ss_seqs (s_asg (c_fnL Hv.base F_pivot_row (by decide) (.cons (d_frz (e_var 10 _ _ rfl (by decide +kernel))) (fun _ _ => rfl) (.cons (d_frz (e_var 9 _ _ rfl (by decide +kernel))) (fun _ _ => rfl) .nil)) rfl (by decide +kernel) (by decide +kernel) (by decide +kernel)) rfl (.inr rfl) (fun _ _ => rfl))
  (ss_seqs (s_if (b_cmpi .ge (e_var 11 _ _ rfl (by decide +kernel)) (e_int _ _ _) rfl)
  (ss_seqs (s_if (b_cmpi .ne (e_var 11 _ _ rfl (by decide +kernel)) (e_var 10 _ _ rfl (by decide +kernel)) rfl)
  (ss_seqs (s_swap (e_var 10 _ _ rfl (by decide +kernel)) (e_var 11 _ _ rfl (by decide +kernel)) (d_frz (e_item (e_var 5 _ _ rfl (by decide +kernel)) (e_var 11 _ _ rfl (by decide +kernel)) (fun _ _ => rfl))) (d_frz (e_item (e_var 5 _ _ rfl (by decide +kernel)) (e_var 10 _ _ rfl (by decide +kernel)) (fun _ _ => rfl))) (fun _ _ => rfl) (fun _ _ => rfl) rfl (by decide +kernel) (fun _ _ => rfl) (fun env h => by cases env; cases h; kernel_rfl))
  (ss_seqs (s_asg (e_boolv (bv_not (e_var 7 _ _ rfl (by decide +kernel)))) rfl (.inr rfl) (fun _ _ => rfl))
  ss_seqs_nil))
  ss_seqs_nil)
  (ss_seqs (s_for (it_range2 Hv.base (e_bin Hv.base .add (e_var 10 _ _ rfl (by decide +kernel)) (e_int _ _ _)) (e_len Hv.base (e_var 5 _ _ rfl (by decide +kernel)) (fun _ _ => rfl) (hk := by decide +kernel) (hm := Hv.g _ (by decide +kernel)) (hv := Hv.len)) (fun _ _ => rfl) (fun _ _ => rfl) (hk := by decide +kernel) (hm := Hv.g _ (by decide +kernel)) (hv := Hv.range) (hn := rfl) (hs := (.inr rfl)))
  (ss_seqs (s_put (d_frz (c_fn Hv.base F_cleared (by decide) (.cons (d_frz (e_item (e_var 5 _ _ rfl (by decide +kernel)) (e_var 12 _ _ rfl (by decide +kernel)) (fun _ _ => rfl))) (fun _ _ => rfl) (.cons (d_frz (e_item (e_var 5 _ _ rfl (by decide +kernel)) (e_var 10 _ _ rfl (by decide +kernel)) (fun _ _ => rfl))) (fun _ _ => rfl) (.cons (d_frz (e_var 9 _ _ rfl (by decide +kernel))) (fun _ _ => rfl) (.cons (d_frz (e_var 8 _ _ rfl (by decide +kernel))) (fun _ _ => rfl) (.cons (d_frz (e_var 2 _ _ rfl (by decide +kernel))) (fun _ _ => rfl) (.cons (d_frz (e_var 3 _ _ rfl (by decide +kernel))) (fun _ _ => rfl) (.cons (d_frz (e_var 4 _ _ rfl (by decide +kernel))) (fun _ _ => rfl) .nil))))))) (fun _ _ => rfl) (by decide +kernel) (by decide +kernel))) (e_var 12 _ _ rfl (by decide +kernel)) rfl (by decide +kernel) (fun _ _ => rfl))
  ss_seqs_nil) (fun _ _ => rfl))
  (ss_seqs (s_asg (e_item (e_item (e_var 5 _ _ rfl (by decide +kernel)) (e_var 10 _ _ rfl (by decide +kernel)) (fun _ _ => rfl)) (e_var 9 _ _ rfl (by decide +kernel)) (fun _ _ => rfl)) rfl (.inr rfl) (fun _ _ => rfl))
  (ss_seqs (s_app (d_frz (e_var 9 _ _ rfl (by decide +kernel))) (fun _ _ => rfl) rfl (by decide +kernel) (by decide) (fun env h => by cases env; cases h; rfl))
  ss_seqs_nil))))
  ss_seqs_nil)
  ss_seqs_nil))) (fun _ _ => rfl))
  (ss_seqs (s_ret (d_frz (e_tup (.cons (d_frz (e_var 5 _ _ rfl (by decide +kernel))) (fun _ _ => rfl) (.cons (d_frz (e_var 6 _ _ rfl (by decide +kernel))) (fun _ _ => rfl) (.cons (d_frz (e_var 7 _ _ rfl (by decide +kernel))) (fun _ _ => rfl) .nil))) (by decide))))
  ss_seqs_nil)))

/-- the text of det_bareiss -/
noncomputable def d_det_bareiss : DefRec := recAt 27
theorem x_det_bareiss : TextOk d_det_bareiss [(Str.ofString "a"), (Str.ofString "w"), (Str.ofString "mul"), (Str.ofString "divrem")] [(Str.ofString "a"), (Str.ofString "w"), (Str.ofString "mul"), (Str.ofString "divrem"), (Str.ofString "rows"), (Str.ofString "places"), (Str.ofString "is_odd"), (Str.ofString "last")] where
  bind := fun _ _ _ => v4 fun _ _ _ _ => rfl
  cell := by decide +kernel
  loc := by decide +kernel
  pre := ⟨_, rfl⟩
  nodup := by decide +kernel
  co := rfl
  gen := rfl
  kind := rfl
theorem t_det_bareiss {prog : Program} {w : World} {B : Heap} {mg mb : Str → Option Value} (Hv : Ev B mg mb) {am ad : Nat} (F_s_neg : FnOk prog w B mg 2 (Str.ofString "s_neg") K_s_neg) (F_steps_down : FnOk prog w B mg 8 (Str.ofString "steps_down") (K_steps_down am ad)) {vU : Value} (hU : mg (Str.ofString "UNIT") = some vU ∧ Rep B.get? vU dUNIT) {vO : Value} (hO : mg (Str.ofString "NOUGHT") = some vO ∧ Rep B.get? vO dNOUGHT) :
    SemSs prog w B ⟨8, d_det_bareiss.scope, [(Str.ofString "a"), (Str.ofString "w"), (Str.ofString "mul"), (Str.ofString "divrem"), (Str.ofString "rows"), (Str.ofString "places"), (Str.ofString "is_odd"), (Str.ofString "last")], 0, [], true⟩ d_det_bareiss.body (b_det_bareiss am ad) :=
  (ss_seqs (s_if (b_cmpi .eq (e_len Hv.base (e_var 0 _ _ rfl (by decide +kernel)) (fun _ _ => rfl) (hk := by decide +kernel) (hm := Hv.g _ (by decide +kernel)) (hv := Hv.len)) (e_int _ _ _) rfl)
  (ss_seqs (s_ret (d_frz (e_const Hv.base _ _ _ _ (by decide +kernel) hU.1 (by decide +kernel) hU.2)))
  ss_seqs_nil)
  ss_seqs_nil)
  (ss_seqs (s_unp (.cons rfl (.inr rfl) (.cons rfl (.inr rfl) (.cons rfl (.inr rfl) .nil))) (d_frz (c_fn Hv.base F_steps_down (by decide) (.cons (d_frz (e_var 0 _ _ rfl (by decide +kernel))) (fun _ _ => rfl) (.cons (d_frz (e_len Hv.base (e_var 0 _ _ rfl (by decide +kernel)) (fun _ _ => rfl) (hk := by decide +kernel) (hm := Hv.g _ (by decide +kernel)) (hv := Hv.len))) (fun _ _ => rfl) (.cons (d_frz (e_var 1 _ _ rfl (by decide +kernel))) (fun _ _ => rfl) (.cons (d_frz (e_var 2 _ _ rfl (by decide +kernel))) (fun _ _ => rfl) (.cons (d_frz (e_var 3 _ _ rfl (by decide +kernel))) (fun _ _ => rfl) .nil))))) (fun _ _ => rfl) (by decide +kernel) (by decide +kernel))) (fun _ _ => rfl) (fun _ => rfl))
  (ss_seqs (s_if (b_cmpi .lt (e_len Hv.base (e_var 5 _ _ rfl (by decide +kernel)) (fun _ _ => rfl) (hk := by decide +kernel) (hm := Hv.g _ (by decide +kernel)) (hv := Hv.len)) (e_len Hv.base (e_var 0 _ _ rfl (by decide +kernel)) (fun _ _ => rfl) (hk := by decide +kernel) (hm := Hv.g _ (by decide +kernel)) (hv := Hv.len)) rfl)
  (ss_seqs (s_ret (d_frz (e_const Hv.base _ _ _ _ (by decide +kernel) hO.1 (by decide +kernel) hO.2)))
  ss_seqs_nil)
  ss_seqs_nil)
  (ss_seqs (s_asg (e_item (e_item (e_var 4 _ _ rfl (by decide +kernel)) (e_neg (e_int _ _ _)) (fun _ _ => rfl)) (e_bin Hv.base .sub (e_len Hv.base (e_var 0 _ _ rfl (by decide +kernel)) (fun _ _ => rfl) (hk := by decide +kernel) (hm := Hv.g _ (by decide +kernel)) (hv := Hv.len)) (e_int _ _ _)) (fun _ _ => rfl)) rfl (.inr rfl) (fun _ _ => rfl))
  (ss_seqs (s_ret (d_frz (e_ife (b_truth (e_var 6 _ _ rfl (by decide +kernel)) (fun _ _ => rfl)) (c_fn Hv.base F_s_neg (by decide) (.cons (d_frz (e_var 7 _ _ rfl (by decide +kernel))) (fun _ _ => rfl) .nil) (fun _ _ => rfl) (by decide +kernel) (by decide +kernel)) (e_var 7 _ _ rfl (by decide +kernel)))))
  ss_seqs_nil)))))

/-- the text of law_condensed -/
noncomputable def d_law_condensed : DefRec := recAt 37
theorem x_law_condensed : TextOk d_law_condensed [(Str.ofString "drop"), (Str.ofString "many")] [(Str.ofString "drop"), (Str.ofString "many")] where
  bind := fun _ _ _ => v2 fun _ _ => rfl
  cell := by decide +kernel
  loc := by decide +kernel
  pre := ⟨_, rfl⟩
  nodup := by decide +kernel
  co := rfl
  gen := rfl
  kind := rfl
theorem t_law_condensed {prog : Program} {w : World} {B : Heap} {mg mb : Str → Option Value} (Hv : Ev B mg mb)  :
    SemSs prog w B ⟨0, d_law_condensed.scope, [(Str.ofString "drop"), (Str.ofString "many")], 1, [], true⟩ d_law_condensed.body (b_law_condensed) :=
  (ss_seqs (s_put (d_frz (e_bin Hv.base .add (e_item (e_var 0 _ _ rfl (by decide +kernel)) (e_int _ _ _) (fun _ _ => rfl)) (e_int _ _ _))) (e_int _ _ _) rfl (by decide +kernel) (fun _ _ => rfl))
  (ss_seqs (s_if (b_cmpi .le (e_item (e_var 0 _ _ rfl (by decide +kernel)) (e_int _ _ _) (fun _ _ => rfl)) (e_len Hv.base (e_item (e_var 0 _ _ rfl (by decide +kernel)) (e_int _ _ _) (fun _ _ => rfl)) (fun _ _ => rfl) (hk := by decide +kernel) (hm := Hv.g _ (by decide +kernel)) (hv := Hv.len)) rfl)
  (ss_seqs (s_ret (d_frz (e_bin Hv.base .mod (e_item (e_item (e_var 0 _ _ rfl (by decide +kernel)) (e_int _ _ _) (fun _ _ => rfl)) (e_bin Hv.base .sub (e_item (e_var 0 _ _ rfl (by decide +kernel)) (e_int _ _ _) (fun _ _ => rfl)) (e_int _ _ _)) (fun _ _ => rfl)) (e_var 1 _ _ rfl (by decide +kernel)))))
  ss_seqs_nil)
  ss_seqs_nil)
  (ss_seqs (s_ret (d_frz (e_bin Hv.base .mod (e_bin Hv.base .add (e_bin Hv.base .add (e_bin Hv.base .mul (e_int _ _ _) (e_item (e_var 0 _ _ rfl (by decide +kernel)) (e_int _ _ _) (fun _ _ => rfl))) (e_bin Hv.base .div (e_item (e_var 0 _ _ rfl (by decide +kernel)) (e_int _ _ _) (fun _ _ => rfl)) (e_int _ _ _))) (e_int _ _ _)) (e_var 1 _ _ rfl (by decide +kernel)))))
  ss_seqs_nil)))

/-- the text of law_limbs -/
noncomputable def d_law_limbs : DefRec := recAt 38
theorem x_law_limbs : TextOk d_law_limbs [(Str.ofString "number"), (Str.ofString "w")] [(Str.ofString "number"), (Str.ofString "w"), (Str.ofString "found")] where
  bind := fun _ _ _ => v2 fun _ _ => rfl
  cell := by decide +kernel
  loc := by decide +kernel
  pre := ⟨_, rfl⟩
  nodup := by decide +kernel
  co := rfl
  gen := rfl
  kind := rfl
theorem t_law_limbs {prog : Program} {w : World} {B : Heap} {mg mb : Str → Option Value} (Hv : Ev B mg mb)  :
    SemSs prog w B ⟨0, d_law_limbs.scope, [(Str.ofString "number"), (Str.ofString "w"), (Str.ofString "found")], 0, [], true⟩ d_law_limbs.body (b_law_limbs) :=
  (ss_seqs (s_asg (e_lst .nil (by decide)) rfl (.inr rfl) (fun _ _ => rfl))
  (ss_seqs (s_while (b_cmpi .gt (e_var 0 _ _ rfl (by decide +kernel)) (e_int _ _ _) rfl)
  (ss_seqs (s_app (d_frz (e_bin Hv.base .mod (e_var 0 _ _ rfl (by decide +kernel)) (e_bin Hv.base .pow (e_int _ _ _) (e_var 1 _ _ rfl (by decide +kernel))))) (fun _ _ => rfl) rfl (by decide +kernel) (by decide) (fun env h => by cases env; cases h; rfl))
  (ss_seqs (s_asg (e_bin Hv.base .div (e_var 0 _ _ rfl (by decide +kernel)) (e_bin Hv.base .pow (e_int _ _ _) (e_var 1 _ _ rfl (by decide +kernel)))) rfl (.inr rfl) (fun _ _ => rfl))
  ss_seqs_nil)))
  (ss_seqs (s_ret (d_frz (e_var 2 _ _ rfl (by decide +kernel))))
  ss_seqs_nil)))

/-- the text of law_signed -/
noncomputable def d_law_signed : DefRec := recAt 39
theorem x_law_signed : TextOk d_law_signed [(Str.ofString "number"), (Str.ofString "w")] [(Str.ofString "number"), (Str.ofString "w")] where
  bind := fun _ _ _ => v2 fun _ _ => rfl
  cell := by decide +kernel
  loc := by decide +kernel
  pre := ⟨_, rfl⟩
  nodup := by decide +kernel
  co := rfl
  gen := rfl
  kind := rfl
theorem t_law_signed {prog : Program} {w : World} {B : Heap} {mg mb : Str → Option Value} (Hv : Ev B mg mb) (F_law_limbs : FnOk prog w B mg 1 (Str.ofString "_law_limbs") K_law_limbs) :
    SemSs prog w B ⟨1, d_law_signed.scope, [(Str.ofString "number"), (Str.ofString "w")], 0, [], true⟩ d_law_signed.body (b_law_signed) :=
  (ss_seqs (s_ret (d_frz (e_tup (.cons (d_frz (e_boolv (bv_cmpi .lt (e_var 0 _ _ rfl (by decide +kernel)) (e_int _ _ _) rfl))) (fun _ _ => rfl) (.cons (d_frz (c_fn Hv.base F_law_limbs (by decide) (.cons (d_frz (e_abs Hv.base (e_var 0 _ _ rfl (by decide +kernel)) (fun _ _ => rfl) (hk := by decide +kernel) (hm := Hv.g _ (by decide +kernel)) (hv := Hv.abs))) (fun _ _ => rfl) (.cons (d_frz (e_var 1 _ _ rfl (by decide +kernel))) (fun _ _ => rfl) .nil)) (fun _ _ => rfl) (by decide +kernel) (by decide +kernel))) (fun _ _ => rfl) .nil)) (by decide))))
  ss_seqs_nil)

/-- the text of law_times -/
noncomputable def d_law_times : DefRec := recAt 41
theorem x_law_times : TextOk d_law_times [(Str.ofString "x"), (Str.ofString "y"), (Str.ofString "w")] [(Str.ofString "x"), (Str.ofString "y"), (Str.ofString "w")] where
  bind := fun _ _ _ => v3 fun _ _ _ => rfl
  cell := by decide +kernel
  loc := by decide +kernel
  pre := ⟨_, rfl⟩
  nodup := by decide +kernel
  co := rfl
  gen := rfl
  kind := rfl
theorem t_law_times {prog : Program} {w : World} {B : Heap} {mg mb : Str → Option Value} (Hv : Ev B mg mb) {am ad : Nat} (F_s_mul : FnOk prog w B mg 5 (Str.ofString "s_mul") (K_s_mul am ad)) (ham : mg (Str.ofString "mul_school") = some (.ref am) ∧ True) :
    SemSs prog w B ⟨5, d_law_times.scope, [(Str.ofString "x"), (Str.ofString "y"), (Str.ofString "w")], 0, [], true⟩ d_law_times.body (b_law_times am ad) :=
  (ss_seqs (s_ret (d_frz (c_fn Hv.base F_s_mul (by decide) (.cons (d_frz (e_var 0 _ _ rfl (by decide +kernel))) (fun _ _ => rfl) (.cons (d_frz (e_var 1 _ _ rfl (by decide +kernel))) (fun _ _ => rfl) (.cons (d_frz (e_var 2 _ _ rfl (by decide +kernel))) (fun _ _ => rfl) (.cons (d_frz (e_fn Hv.base _ _ _ (by decide +kernel) ham.1 (by decide +kernel))) (fun _ _ => rfl) .nil)))) (fun _ _ => rfl) (by decide +kernel) (by decide +kernel))))
  ss_seqs_nil)

/-- the text of law_all_orders -/
noncomputable def d_law_all_orders : DefRec := recAt 40
theorem x_law_all_orders : TextC d_law_all_orders [(Str.ofString "rows")] [(Str.ofString "rows"), (Str.ofString "state"), (Str.ofString "row"), (Str.ofString "longer"), (Str.ofString "order"), (Str.ofString "worth"), (Str.ofString "at"), (Str.ofString "ahead")] [(Str.ofString "at")] where
  bind := fun _ _ _ => v1 fun _ => rfl
  loc := by decide +kernel
  par := by decide +kernel
  cells := fun _ => rfl
  cnd := by decide +kernel
  pre := ⟨_, rfl⟩
  nodup := by decide +kernel
  co := rfl
  gen := rfl
  kind := rfl
theorem t_law_all_orders {prog : Program} {w : World} {B : Heap} {mg mb : Str → Option Value} (Hv : Ev B mg mb)  :
    SemSs prog w B ⟨0, d_law_all_orders.scope, [(Str.ofString "rows"), (Str.ofString "state"), (Str.ofString "row"), (Str.ofString "longer"), (Str.ofString "order"), (Str.ofString "worth"), (Str.ofString "at"), (Str.ofString "ahead")], 0, [(Str.ofString "at")], true⟩ d_law_all_orders.body (b_law_all_orders) :=
  (ss_seqs (s_asg (e_lstV (.cons (d_frz (e_tup (.cons (d_frz (e_tup .nil (by decide))) (fun _ _ => rfl) (.cons (d_frz (e_int _ _ _)) (fun _ _ => rfl) .nil)) (by decide))) (fun _ _ => rfl) .nil) (by decide)) rfl (.inr rfl) (fun _ _ => rfl))
  (ss_seqs (s_for (it_items (d_frz (e_var 0 _ _ rfl (by decide +kernel))) rfl (.inr rfl))
  (ss_seqs (s_asg (e_lst .nil (by decide)) rfl (.inr rfl) (fun _ _ => rfl))
  (ss_seqs (s_for (it_pairs (d_frz (e_var 1 _ _ rfl (by decide +kernel))) (.cons rfl (.inr rfl) (.cons rfl (.inr rfl) .nil)))
  (ss_seqs (s_for (it_range1 Hv.base (e_len Hv.base (e_var 0 _ _ rfl (by decide +kernel)) (fun _ _ => rfl) (hk := by decide +kernel) (hm := Hv.g _ (by decide +kernel)) (hv := Hv.len)) (fun _ _ => rfl) (hk := by decide +kernel) (hm := Hv.g _ (by decide +kernel)) (hv := Hv.range) (hn := rfl) (hs := (.inr rfl)))
  (ss_seqs (s_if (b_and (b_notin (e_var 6 _ _ rfl (by decide +kernel)) (e_var 4 _ _ rfl (by decide +kernel)) rfl) (b_cmpi .ne (e_item (e_var 2 _ _ rfl (by decide +kernel)) (e_var 6 _ _ rfl (by decide +kernel)) (fun _ _ => rfl)) (e_int _ _ _) rfl))
  (ss_seqs (s_asg (e_len Hv.base (e_compV (tgn := [(Str.ofString "one")]) (capn := [(Str.ofString "at")]) (cap := [6]) (it_itemsT (d_frz (e_var 4 _ _ rfl (by decide +kernel))) rfl (.inl (by decide +kernel))) (.one (b_cmpi .gt (e_var 0 _ _ rfl (by decide +kernel)) (e_var 1 _ _ rfl (by decide +kernel)) rfl)) (d_frz (e_var 0 _ _ rfl (by decide +kernel))) ⟨(by decide +kernel), (by decide +kernel), rfl, (by decide +kernel), (by decide +kernel), (by decide +kernel), rfl, (by decide +kernel)⟩ (fun _ _ => rfl)) (fun _ _ => rfl) (hk := by decide +kernel) (hm := Hv.g _ (by decide +kernel)) (hv := Hv.len)) rfl (.inr rfl) (fun _ _ => rfl))
  (ss_seqs (s_app (d_frz (e_tup (.cons (d_frz (e_tcat (e_var 4 _ _ rfl (by decide +kernel)) (e_tup (.cons (d_frz (e_var 6 _ _ rfl (by decide +kernel))) (fun _ _ => rfl) .nil) (by decide)))) (fun _ _ => rfl) (.cons (d_frz (e_bin Hv.base .mul (e_bin Hv.base .mul (e_var 5 _ _ rfl (by decide +kernel)) (e_item (e_var 2 _ _ rfl (by decide +kernel)) (e_var 6 _ _ rfl (by decide +kernel)) (fun _ _ => rfl))) (e_bin Hv.base .sub (e_int _ _ _) (e_bin Hv.base .mul (e_int _ _ _) (e_bin Hv.base .mod (e_var 7 _ _ rfl (by decide +kernel)) (e_int _ _ _)))))) (fun _ _ => rfl) .nil)) (by decide))) (fun _ _ => rfl) rfl (by decide +kernel) (by decide) (fun env h => by cases env; cases h; rfl))
  ss_seqs_nil))
  ss_seqs_nil)
  ss_seqs_nil) (fun _ _ => rfl))
  ss_seqs_nil) (fun _ _ => rfl))
  (ss_seqs (s_asg (e_up (d_frz (e_var 3 _ _ rfl (by decide +kernel)))) rfl (.inr rfl) (fun _ _ => rfl))
  ss_seqs_nil))) (fun _ _ => rfl))
  (ss_seqs (s_ret (d_frz (e_sum Hv.base (e_compV (tgn := [(Str.ofString "order"), (Str.ofString "worth")]) (capn := []) (cap := []) (it_pairs (d_frz (e_var 1 _ _ rfl (by decide +kernel))) (.cons rfl (.inl (by decide +kernel)) (.cons rfl (.inl (by decide +kernel)) .nil))) .none (d_frz (e_var 1 _ _ rfl (by decide +kernel))) ⟨(by decide +kernel), (by decide +kernel), rfl, (by decide +kernel), (by decide +kernel), (by decide +kernel), rfl, (by decide +kernel)⟩ (fun _ _ => rfl)) (fun _ _ => rfl) (hk := by decide +kernel) (hm := Hv.g _ (by decide +kernel)) (hv := Hv.sum))))
  ss_seqs_nil)))

/-- the text of law -/
noncomputable def d_law : DefRec := recAt 42
theorem x_law : TextC d_law [(Str.ofString "script")] [(Str.ofString "script"), (Str.ofString "drop"), (Str.ofString "w"), (Str.ofString "size"), (Str.ofString "plain"), (Str.ofString "rows"), (Str.ofString "told"), (Str.ofString "many"), (Str.ofString "top"), (Str.ofString "left"), (Str.ofString "block"), (Str.ofString "due"), (Str.ofString "less"), (Str.ofString "middle"), (Str.ofString "straight"), (Str.ofString "across"), (Str.ofString "gone")] [(Str.ofString "left"), (Str.ofString "many"), (Str.ofString "size"), (Str.ofString "w"), (Str.ofString "drop")] where
  bind := fun _ _ _ => v1 fun _ => rfl
  loc := by decide +kernel
  par := by decide +kernel
  cells := fun _ => rfl
  cnd := by decide +kernel
  pre := ⟨_, rfl⟩
  nodup := by decide +kernel
  co := rfl
  gen := rfl
  kind := rfl
theorem t_law {prog : Program} {w : World} {B : Heap} {mg mb : Str → Option Value} (Hv : Ev B mg mb) {am ad : Nat} (F_s_sub : FnOk prog w B mg 4 (Str.ofString "s_sub") K_s_sub) (F_tdiv : FnOk prog w B mg 5 (Str.ofString "tdiv") (K_tdiv am ad)) (F_det_bareiss : FnOk prog w B mg 9 (Str.ofString "det_bareiss") (K_det_bareiss am ad)) (F_law_condensed : FnMOk prog w B mg 1 (Str.ofString "_law_condensed") K_law_condensed) (F_law_signed : FnOk prog w B mg 2 (Str.ofString "_law_signed") K_law_signed) (F_law_all_orders : FnOk prog w B mg 1 (Str.ofString "_law_all_orders") K_law_all_orders) (F_law_times : FnOk prog w B mg 6 (Str.ofString "_law_times") (K_law_times am ad)) (ham : mg (Str.ofString "mul_school") = some (.ref am) ∧ True) (had : mg (Str.ofString "divrem_school") = some (.ref ad) ∧ True) :
    SemSs prog w B ⟨9, d_law.scope, [(Str.ofString "script"), (Str.ofString "drop"), (Str.ofString "w"), (Str.ofString "size"), (Str.ofString "plain"), (Str.ofString "rows"), (Str.ofString "told"), (Str.ofString "many"), (Str.ofString "top"), (Str.ofString "left"), (Str.ofString "block"), (Str.ofString "due"), (Str.ofString "less"), (Str.ofString "middle"), (Str.ofString "straight"), (Str.ofString "across"), (Str.ofString "gone")], 0, [(Str.ofString "left"), (Str.ofString "many"), (Str.ofString "size"), (Str.ofString "w"), (Str.ofString "drop")], true⟩ d_law.body (b_law am ad) :=
  (ss_seqs (s_asg (e_lst (.cons (d_frz (e_int _ _ _)) (fun _ _ => rfl) (.cons (d_frz (e_compV (tgn := [(Str.ofString "ring")]) (capn := []) (cap := []) (it_items (d_frz (e_cut (e_var 0 _ _ rfl (by decide +kernel)) .none (.some (e_int _ _ _)))) rfl (.inl (by decide +kernel))) .none (d_frz (e_abs Hv.base (e_intof Hv.base (e_var 0 _ _ rfl (by decide +kernel)) (fun _ _ => rfl) (hk := by decide +kernel) (hm := Hv.g _ (by decide +kernel)) (hv := Hv.int)) (fun _ _ => rfl) (hk := by decide +kernel) (hm := Hv.g _ (by decide +kernel)) (hv := Hv.abs))) ⟨(by decide +kernel), (by decide +kernel), rfl, (by decide +kernel), (by decide +kernel), (by decide +kernel), rfl, (by decide +kernel)⟩ (fun _ _ => rfl))) (fun _ _ => rfl) .nil)) (by decide)) rfl (.inr rfl) (fun _ _ => rfl))
  (ss_seqs (s_multi (.cons rfl (.inr rfl) (.cons rfl (.inr rfl) .nil)) (.cons (e_bin Hv.base .add (e_int _ _ _) (c_fnM Hv.base F_law_condensed (by decide) (.cons (d_frz (e_int _ _ _)) (fun _ _ => rfl) .nil) rfl (by decide +kernel) (by decide +kernel) (by decide +kernel))) (fun _ _ => rfl) (.cons (e_bin Hv.base .add (e_int _ _ _) (e_bin Hv.base .div (c_fnM Hv.base F_law_condensed (by decide) (.cons (d_frz (e_int _ _ _)) (fun _ _ => rfl) .nil) rfl (by decide +kernel) (by decide +kernel) (by decide +kernel)) (e_int _ _ _))) (fun _ _ => rfl) .nil)) rfl (by decide) (fun _ _ => rfl) (fun env h => by cases env; cases h; kernel_rfl))
  (ss_seqs (s_compV (tgn := [(Str.ofString "turn")]) (capn := [(Str.ofString "drop"), (Str.ofString "size")]) (cap := [1, 3]) (it_range1 Hv.base (e_var 3 _ _ rfl (by decide +kernel)) (fun _ _ => rfl) (hk := by decide +kernel) (hm := Hv.g _ (by decide +kernel)) (hv := Hv.range) (hn := rfl) (hs := (.inl (by decide +kernel)))) .none (d_frz (e_compV (tgn := [(Str.ofString "at")]) (capn := [(Str.ofString "drop")]) (cap := [1]) (it_range1 Hv.base (e_var 2 _ _ rfl (by decide +kernel)) (fun _ _ => rfl) (hk := by decide +kernel) (hm := Hv.g _ (by decide +kernel)) (hv := Hv.range) (hn := rfl) (hs := (.inl (by decide +kernel)))) .none (d_frz (e_bin Hv.base .sub (c_fnM Hv.base F_law_condensed (by decide) (.cons (d_frz (e_int _ _ _)) (fun _ _ => rfl) .nil) rfl (by decide +kernel) (by decide +kernel) (by decide +kernel)) (e_int _ _ _))) ⟨(by decide +kernel), (by decide +kernel), rfl, (by decide +kernel), (by decide +kernel), (by decide +kernel), rfl, (by decide +kernel)⟩ (fun _ _ => rfl))) ⟨(by decide +kernel), (by decide +kernel), rfl, (by decide +kernel), (by decide +kernel), (by decide +kernel), rfl, (by decide +kernel)⟩ (fun _ _ => rfl) rfl (.inr rfl) (fun env h => by cases env; cases h; kernel_rfl))
  (ss_seqs (s_compV (tgn := [(Str.ofString "row")]) (capn := [(Str.ofString "w")]) (cap := [2]) (it_items (d_frz (e_var 4 _ _ rfl (by decide +kernel))) rfl (.inl (by decide +kernel))) .none (d_frz (e_compV (tgn := [(Str.ofString "one")]) (capn := [(Str.ofString "w")]) (cap := [1]) (it_items (d_frz (e_var 0 _ _ rfl (by decide +kernel))) rfl (.inl (by decide +kernel))) .none (d_frz (c_fn Hv.base F_law_signed (by decide) (.cons (d_frz (e_var 0 _ _ rfl (by decide +kernel))) (fun _ _ => rfl) (.cons (d_frz (e_var 1 _ _ rfl (by decide +kernel))) (fun _ _ => rfl) .nil)) (fun _ _ => rfl) (by decide +kernel) (by decide +kernel))) ⟨(by decide +kernel), (by decide +kernel), rfl, (by decide +kernel), (by decide +kernel), (by decide +kernel), rfl, (by decide +kernel)⟩ (fun _ _ => rfl))) ⟨(by decide +kernel), (by decide +kernel), rfl, (by decide +kernel), (by decide +kernel), (by decide +kernel), rfl, (by decide +kernel)⟩ (fun _ _ => rfl) rfl (.inr rfl) (fun env h => by cases env; cases h; kernel_rfl))
  (ss_seqs (s_asg e_dict rfl (.inr rfl) (fun _ _ => rfl))
  (ss_seqs (s_for (it_range1 Hv.base (e_bin Hv.base .add (e_var 3 _ _ rfl (by decide +kernel)) (e_int _ _ _)) (fun _ _ => rfl) (hk := by decide +kernel) (hm := Hv.g _ (by decide +kernel)) (hv := Hv.range) (hn := rfl) (hs := (.inr rfl)))
  (ss_seqs (s_for (it_range1 Hv.base (e_bin Hv.base .add (e_bin Hv.base .sub (e_var 3 _ _ rfl (by decide +kernel)) (e_var 7 _ _ rfl (by decide +kernel))) (e_int _ _ _)) (fun _ _ => rfl) (hk := by decide +kernel) (hm := Hv.g _ (by decide +kernel)) (hv := Hv.range) (hn := rfl) (hs := (.inr rfl)))
  (ss_seqs (s_for (it_range1 Hv.base (e_bin Hv.base .add (e_bin Hv.base .sub (e_var 3 _ _ rfl (by decide +kernel)) (e_var 7 _ _ rfl (by decide +kernel))) (e_int _ _ _)) (fun _ _ => rfl) (hk := by decide +kernel) (hm := Hv.g _ (by decide +kernel)) (hv := Hv.range) (hn := rfl) (hs := (.inr rfl)))
  (ss_seqs (s_compV (tgn := [(Str.ofString "row")]) (capn := [(Str.ofString "left"), (Str.ofString "many")]) (cap := [9, 7]) (it_items (d_frz (e_cut (e_var 5 _ _ rfl (by decide +kernel)) (.some (e_var 8 _ _ rfl (by decide +kernel))) (.some (e_bin Hv.base .add (e_var 8 _ _ rfl (by decide +kernel)) (e_var 7 _ _ rfl (by decide +kernel)))))) rfl (.inl (by decide +kernel))) .none (d_frz (e_cut (e_var 0 _ _ rfl (by decide +kernel)) (.some (e_var 1 _ _ rfl (by decide +kernel))) (.some (e_bin Hv.base .add (e_var 1 _ _ rfl (by decide +kernel)) (e_var 2 _ _ rfl (by decide +kernel)))))) ⟨(by decide +kernel), (by decide +kernel), rfl, (by decide +kernel), (by decide +kernel), (by decide +kernel), rfl, (by decide +kernel)⟩ (fun _ _ => rfl) rfl (.inr rfl) (fun env h => by cases env; cases h; kernel_rfl))
  (ss_seqs (s_putD (d_frz (c_fn Hv.base F_det_bareiss (by decide) (.cons (d_frz (e_var 10 _ _ rfl (by decide +kernel))) (fun _ _ => rfl) (.cons (d_frz (e_var 2 _ _ rfl (by decide +kernel))) (fun _ _ => rfl) (.cons (d_frz (e_fn Hv.base _ _ _ (by decide +kernel) ham.1 (by decide +kernel))) (fun _ _ => rfl) (.cons (d_frz (e_fn Hv.base _ _ _ (by decide +kernel) had.1 (by decide +kernel))) (fun _ _ => rfl) .nil)))) (fun _ _ => rfl) (by decide +kernel) (by decide +kernel))) (e_tup (.cons (d_frz (e_var 7 _ _ rfl (by decide +kernel))) (fun _ _ => rfl) (.cons (d_frz (e_var 8 _ _ rfl (by decide +kernel))) (fun _ _ => rfl) (.cons (d_frz (e_var 9 _ _ rfl (by decide +kernel))) (fun _ _ => rfl) .nil))) (by decide)) rfl (by decide +kernel) (fun _ _ => rfl))
  (ss_seqs (s_asg (c_fn Hv.base F_law_all_orders (by decide) (.cons (d_frz (e_compV (tgn := [(Str.ofString "row")]) (capn := [(Str.ofString "left"), (Str.ofString "many")]) (cap := [9, 7]) (it_items (d_frz (e_cut (e_var 4 _ _ rfl (by decide +kernel)) (.some (e_var 8 _ _ rfl (by decide +kernel))) (.some (e_bin Hv.base .add (e_var 8 _ _ rfl (by decide +kernel)) (e_var 7 _ _ rfl (by decide +kernel)))))) rfl (.inl (by decide +kernel))) .none (d_frz (e_cut (e_var 0 _ _ rfl (by decide +kernel)) (.some (e_var 1 _ _ rfl (by decide +kernel))) (.some (e_bin Hv.base .add (e_var 1 _ _ rfl (by decide +kernel)) (e_var 2 _ _ rfl (by decide +kernel)))))) ⟨(by decide +kernel), (by decide +kernel), rfl, (by decide +kernel), (by decide +kernel), (by decide +kernel), rfl, (by decide +kernel)⟩ (fun _ _ => rfl))) (fun _ _ => rfl) .nil) (fun _ _ => rfl) (by decide +kernel) (by decide +kernel)) rfl (.inr rfl) (fun _ _ => rfl))
  (ss_seqs (s_if (b_neD (e_get (e_var 6 _ _ rfl (by decide +kernel)) (e_tup (.cons (d_frz (e_var 7 _ _ rfl (by decide +kernel))) (fun _ _ => rfl) (.cons (d_frz (e_var 8 _ _ rfl (by decide +kernel))) (fun _ _ => rfl) (.cons (d_frz (e_var 9 _ _ rfl (by decide +kernel))) (fun _ _ => rfl) .nil))) (by decide)) (fun _ _ => rfl)) (c_fn Hv.base F_law_signed (by decide) (.cons (d_frz (e_var 11 _ _ rfl (by decide +kernel))) (fun _ _ => rfl) (.cons (d_frz (e_var 2 _ _ rfl (by decide +kernel))) (fun _ _ => rfl) .nil)) (fun _ _ => rfl) (by decide +kernel) (by decide +kernel)) rfl)
  (ss_seqs (s_ret (d_frz (e_bool _ _ _)))
  ss_seqs_nil)
  ss_seqs_nil)
  (ss_seqs (s_if (b_cmpi .gt (e_var 7 _ _ rfl (by decide +kernel)) (e_int _ _ _) rfl)
  (ss_seqs (s_multiR (.cons rfl (.inr rfl) (.cons rfl (.inr rfl) .nil)) (.cons (e_bin Hv.base .sub (e_var 7 _ _ rfl (by decide +kernel)) (e_int _ _ _)) (fun _ _ => rfl) (.cons (e_get (e_var 6 _ _ rfl (by decide +kernel)) (e_tup (.cons (d_frz (e_bin Hv.base .sub (e_var 7 _ _ rfl (by decide +kernel)) (e_int _ _ _))) (fun _ _ => rfl) (.cons (d_frz (e_bin Hv.base .add (e_var 8 _ _ rfl (by decide +kernel)) (e_int _ _ _))) (fun _ _ => rfl) (.cons (d_frz (e_bin Hv.base .add (e_var 9 _ _ rfl (by decide +kernel)) (e_int _ _ _))) (fun _ _ => rfl) .nil))) (by decide)) (fun _ _ => rfl)) (fun _ _ => rfl) .nil)) rfl (by decide) (by decide) (by decide) (fun _ _ => rfl) (fun env h => by cases env; cases h; kernel_rfl))
  (ss_seqs (s_asg (c_fn Hv.base F_law_times (by decide) (.cons (d_frz (e_get (e_var 6 _ _ rfl (by decide +kernel)) (e_tup (.cons (d_frz (e_var 12 _ _ rfl (by decide +kernel))) (fun _ _ => rfl) (.cons (d_frz (e_var 8 _ _ rfl (by decide +kernel))) (fun _ _ => rfl) (.cons (d_frz (e_var 9 _ _ rfl (by decide +kernel))) (fun _ _ => rfl) .nil))) (by decide)) (fun _ _ => rfl))) (fun _ _ => rfl) (.cons (d_frz (e_get (e_var 6 _ _ rfl (by decide +kernel)) (e_tup (.cons (d_frz (e_var 12 _ _ rfl (by decide +kernel))) (fun _ _ => rfl) (.cons (d_frz (e_bin Hv.base .add (e_var 8 _ _ rfl (by decide +kernel)) (e_int _ _ _))) (fun _ _ => rfl) (.cons (d_frz (e_bin Hv.base .add (e_var 9 _ _ rfl (by decide +kernel)) (e_int _ _ _))) (fun _ _ => rfl) .nil))) (by decide)) (fun _ _ => rfl))) (fun _ _ => rfl) (.cons (d_frz (e_var 2 _ _ rfl (by decide +kernel))) (fun _ _ => rfl) .nil))) (fun _ _ => rfl) (by decide +kernel) (by decide +kernel)) rfl (.inr rfl) (fun _ _ => rfl))
  (ss_seqs (s_asg (c_fn Hv.base F_law_times (by decide) (.cons (d_frz (e_get (e_var 6 _ _ rfl (by decide +kernel)) (e_tup (.cons (d_frz (e_var 12 _ _ rfl (by decide +kernel))) (fun _ _ => rfl) (.cons (d_frz (e_var 8 _ _ rfl (by decide +kernel))) (fun _ _ => rfl) (.cons (d_frz (e_bin Hv.base .add (e_var 9 _ _ rfl (by decide +kernel)) (e_int _ _ _))) (fun _ _ => rfl) .nil))) (by decide)) (fun _ _ => rfl))) (fun _ _ => rfl) (.cons (d_frz (e_get (e_var 6 _ _ rfl (by decide +kernel)) (e_tup (.cons (d_frz (e_var 12 _ _ rfl (by decide +kernel))) (fun _ _ => rfl) (.cons (d_frz (e_bin Hv.base .add (e_var 8 _ _ rfl (by decide +kernel)) (e_int _ _ _))) (fun _ _ => rfl) (.cons (d_frz (e_var 9 _ _ rfl (by decide +kernel))) (fun _ _ => rfl) .nil))) (by decide)) (fun _ _ => rfl))) (fun _ _ => rfl) (.cons (d_frz (e_var 2 _ _ rfl (by decide +kernel))) (fun _ _ => rfl) .nil))) (fun _ _ => rfl) (by decide +kernel) (by decide +kernel)) rfl (.inr rfl) (fun _ _ => rfl))
  (ss_seqs (s_asg (c_fn Hv.base F_s_sub (by decide) (.cons (d_frz (e_var 14 _ _ rfl (by decide +kernel))) (fun _ _ => rfl) (.cons (d_frz (e_var 15 _ _ rfl (by decide +kernel))) (fun _ _ => rfl) (.cons (d_frz (e_var 2 _ _ rfl (by decide +kernel))) (fun _ _ => rfl) .nil))) (fun _ _ => rfl) (by decide +kernel) (by decide +kernel)) rfl (.inr rfl) (fun _ _ => rfl))
  (ss_seqs (s_if (b_neD (c_fn Hv.base F_law_times (by decide) (.cons (d_frz (e_get (e_var 6 _ _ rfl (by decide +kernel)) (e_tup (.cons (d_frz (e_var 7 _ _ rfl (by decide +kernel))) (fun _ _ => rfl) (.cons (d_frz (e_var 8 _ _ rfl (by decide +kernel))) (fun _ _ => rfl) (.cons (d_frz (e_var 9 _ _ rfl (by decide +kernel))) (fun _ _ => rfl) .nil))) (by decide)) (fun _ _ => rfl))) (fun _ _ => rfl) (.cons (d_frz (e_var 13 _ _ rfl (by decide +kernel))) (fun _ _ => rfl) (.cons (d_frz (e_var 2 _ _ rfl (by decide +kernel))) (fun _ _ => rfl) .nil))) (fun _ _ => rfl) (by decide +kernel) (by decide +kernel)) (e_var 16 _ _ rfl (by decide +kernel)) rfl)
  (ss_seqs (s_ret (d_frz (e_bool _ _ _)))
  ss_seqs_nil)
  ss_seqs_nil)
  (ss_seqs (s_if (b_and (b_cmpi .gt (e_len Hv.base (e_item (e_var 13 _ _ rfl (by decide +kernel)) (e_int _ _ _) (fun _ _ => rfl)) (fun _ _ => rfl) (hk := by decide +kernel) (hm := Hv.g _ (by decide +kernel)) (hv := Hv.len)) (e_int _ _ _) rfl) (b_neD (c_fn Hv.base F_tdiv (by decide) (.cons (d_frz (e_var 16 _ _ rfl (by decide +kernel))) (fun _ _ => rfl) (.cons (d_frz (e_var 13 _ _ rfl (by decide +kernel))) (fun _ _ => rfl) (.cons (d_frz (e_var 2 _ _ rfl (by decide +kernel))) (fun _ _ => rfl) (.cons (d_frz (e_fn Hv.base _ _ _ (by decide +kernel) had.1 (by decide +kernel))) (fun _ _ => rfl) .nil)))) (fun _ _ => rfl) (by decide +kernel) (by decide +kernel)) (e_tup (.cons (d_frz (e_get (e_var 6 _ _ rfl (by decide +kernel)) (e_tup (.cons (d_frz (e_var 7 _ _ rfl (by decide +kernel))) (fun _ _ => rfl) (.cons (d_frz (e_var 8 _ _ rfl (by decide +kernel))) (fun _ _ => rfl) (.cons (d_frz (e_var 9 _ _ rfl (by decide +kernel))) (fun _ _ => rfl) .nil))) (by decide)) (fun _ _ => rfl))) (fun _ _ => rfl) (.cons (d_frz (e_tup (.cons (d_frz (e_bool _ _ _)) (fun _ _ => rfl) (.cons (d_frz (e_lstV .nil (by decide))) (fun _ _ => rfl) .nil)) (by decide))) (fun _ _ => rfl) .nil)) (by decide)) rfl))
  (ss_seqs (s_ret (d_frz (e_bool _ _ _)))
  ss_seqs_nil)
  ss_seqs_nil)
  ss_seqs_nil))))))
  ss_seqs_nil)
  ss_seqs_nil))))) (fun _ _ => rfl))
  ss_seqs_nil) (fun _ _ => rfl))
  ss_seqs_nil) (fun _ _ => rfl))
  (ss_seqs (s_ret (d_frz (e_bool _ _ _)))
  ss_seqs_nil)))))))

end Mine
end

section
set_option maxRecDepth 100000
set_option Elab.async false
set_option autoImplicit false
set_option linter.unusedVariables false
namespace Mine
open PySem PySem.Calls PyProof.Rows
theorem kv_ok {prog : Program} {w : World} {B : Heap} {k am ad : Nat} (h1 : FnIs B am) (p1 : PureOk prog w B k am K_mul_school) (h2 : FnIs B ad) (p2 : PureOk prog w B k ad K_divrem_school) : ∀ a ∈ [am, ad], FnIs B a ∧ PureOk prog w B k a (KV am ad a) := by
  intro a ha
  refine ⟨?_, fun A s g vs ds d hA hB hBg hg hr hk => ?_⟩
  · simp at ha
    rcases ha with rfl | rfl
    · exact h1
    · exact h2
  · rcases hk with ⟨rfl, h⟩ | ⟨rfl, h⟩
    · exact p1 A s g vs ds d hA hB hBg hg hr h
    · exact p2 A s g vs ds d hA hB hBg hg hr h

theorem law_ok {prog : Program} {w : World} {B : Heap} {mg mb : Str → Option Value} (Hv : Ev B mg mb) (HD : ∀ i ∈ [4, 5, 6, 7, 8, 9, 10, 11, 13, 14, 15, 16, 17, 29, 30, 31, 32, 33, 34, 35, 18, 19, 23, 24, 25, 26, 27, 37, 38, 39, 40, 41, 42], Def B mg (recAt i)) {vU vO : Value} (hU : mg (Str.ofString "UNIT") = some vU ∧ Rep B.get? vU dUNIT) (hO : mg (Str.ofString "NOUGHT") = some vO ∧ Rep B.get? vO dNOUGHT) :
    ∃ am ad, FnOk prog w B mg 10 (Str.ofString "law") (K_law am ad) := by
  have hN := Hv.base.nolimit
  have F_normal : FnOk prog w B mg 1 (Str.ofString "normal") K_normal := fn_of hN (HD 4 (by decide)) x_normal (t_normal Hv)
  have F_compare : FnOk prog w B mg 1 (Str.ofString "compare") K_compare := fn_of hN (HD 5 (by decide)) x_compare (t_compare Hv)
  have F_add : FnOk prog w B mg 1 (Str.ofString "add") K_add := fn_of hN (HD 6 (by decide)) x_add (t_add Hv)
  have F_sub : FnOk prog w B mg 2 (Str.ofString "sub") K_sub := fn_of hN (HD 7 (by decide)) x_sub (t_sub Hv F_normal F_compare)
  have F_divrem_limb : FnOk prog w B mg 2 (Str.ofString "divrem_limb") K_divrem_limb := fn_of hN (HD 8 (by decide)) x_divrem_limb (t_divrem_limb Hv F_normal)
  have F_shift_left : FnOk prog w B mg 1 (Str.ofString "shift_left") K_shift_left := fn_of hN (HD 9 (by decide)) x_shift_left (t_shift_left Hv)
  have F_shift_right : FnOk prog w B mg 2 (Str.ofString "shift_right") K_shift_right := fn_of hN (HD 10 (by decide)) x_shift_right (t_shift_right Hv F_normal)
  have F_bits : FnOk prog w B mg 1 (Str.ofString "bits") K_bits := fn_of hN (HD 11 (by decide)) x_bits (t_bits Hv)
  have F_signed : FnOk prog w B mg 1 (Str.ofString "signed") K_signed := fn_of hN (HD 13 (by decide)) x_signed (t_signed Hv)
  have F_s_neg : FnOk prog w B mg 2 (Str.ofString "s_neg") K_s_neg := fn_of hN (HD 14 (by decide)) x_s_neg (t_s_neg Hv F_signed)
  have F_s_sign : FnOk prog w B mg 1 (Str.ofString "s_sign") K_s_sign := fn_of hN (HD 15 (by decide)) x_s_sign (t_s_sign Hv)
  have F_s_add : FnOk prog w B mg 3 (Str.ofString "s_add") K_s_add := fn_of hN (HD 16 (by decide)) x_s_add (t_s_add Hv F_compare F_add F_sub F_signed)
  have F_s_sub : FnOk prog w B mg 4 (Str.ofString "s_sub") K_s_sub := fn_of hN (HD 17 (by decide)) x_s_sub (t_s_sub Hv F_s_neg F_s_add)
  have F_mul_school : FnOk prog w B mg 2 (Str.ofString "mul_school") K_mul_school := fn_of hN (HD 29 (by decide)) x_mul_school (t_mul_school Hv F_normal)
  have F_divrem_small : FnOk prog w B mg 3 (Str.ofString "divrem_small") K_divrem_small := fn_of hN (HD 30 (by decide)) x_divrem_small (t_divrem_small Hv F_divrem_limb)
  have F_guessed_limb : FnOk prog w B mg 1 (Str.ofString "guessed_limb") K_guessed_limb := fn_of hN (HD 31 (by decide)) x_guessed_limb (t_guessed_limb Hv)
  have F_take_away : FnMOk prog w B mg 1 (Str.ofString "take_away") K_take_away := fnM_of hN (HD 32 (by decide)) x_take_away (t_take_away Hv)
  have F_put_back : FnMOk prog w B mg 1 (Str.ofString "put_back") K_put_back := fnM_of hN (HD 33 (by decide)) x_put_back (t_put_back Hv)
  have F_divide_rows : FnMOk prog w B mg 2 (Str.ofString "divide_rows") K_divide_rows := fnM_of hN (HD 34 (by decide)) x_divide_rows (t_divide_rows Hv F_guessed_limb F_take_away F_put_back)
  have F_divrem_school : FnOk prog w B mg 4 (Str.ofString "divrem_school") K_divrem_school := fn_of hN (HD 35 (by decide)) x_divrem_school (t_divrem_school Hv F_normal F_compare F_shift_left F_shift_right F_bits F_divrem_small F_divide_rows)
  obtain ⟨am, ham, am1, am2⟩ := id F_mul_school
  obtain ⟨ad, had, ad1, ad2⟩ := id F_divrem_school
  refine ⟨am, ad, ?_⟩
  have F_s_mul : FnOk prog w B mg 5 (Str.ofString "s_mul") (K_s_mul am ad) := fn_of hN (HD 18 (by decide)) x_s_mul (t_s_mul Hv (am := am) (ad := ad) F_signed (kv_ok am1 (am2.up (by decide)) ad1 (ad2.up (by decide))))
  have F_tdiv : FnOk prog w B mg 5 (Str.ofString "tdiv") (K_tdiv am ad) := fn_of hN (HD 19 (by decide)) x_tdiv (t_tdiv Hv (am := am) (ad := ad) F_signed (kv_ok am1 (am2.up (by decide)) ad1 (ad2.up (by decide))))
  have F_exact : FnOk prog w B mg 6 (Str.ofString "exact") (K_exact am ad) := fn_of hN (HD 23 (by decide)) x_exact (t_exact Hv (am := am) (ad := ad) F_tdiv)
  have F_pivot_row : FnOk prog w B mg 2 (Str.ofString "pivot_row") K_pivot_row := fn_of hN (HD 24 (by decide)) x_pivot_row (t_pivot_row Hv F_s_sign)
  have F_cleared : FnOk prog w B mg 7 (Str.ofString "cleared") (K_cleared am ad) := fn_of hN (HD 25 (by decide)) x_cleared (t_cleared Hv (am := am) (ad := ad) F_s_sub F_s_mul F_exact)
  have F_steps_down : FnOk prog w B mg 8 (Str.ofString "steps_down") (K_steps_down am ad) := fn_of hN (HD 26 (by decide)) x_steps_down (t_steps_down Hv (am := am) (ad := ad) F_pivot_row F_cleared hU)
  have F_det_bareiss : FnOk prog w B mg 9 (Str.ofString "det_bareiss") (K_det_bareiss am ad) := fn_of hN (HD 27 (by decide)) x_det_bareiss (t_det_bareiss Hv (am := am) (ad := ad) F_s_neg F_steps_down hU hO)
  have F_law_condensed : FnMOk prog w B mg 1 (Str.ofString "_law_condensed") K_law_condensed := fnM_of hN (HD 37 (by decide)) x_law_condensed (t_law_condensed Hv)
  have F_law_limbs : FnOk prog w B mg 1 (Str.ofString "_law_limbs") K_law_limbs := fn_of hN (HD 38 (by decide)) x_law_limbs (t_law_limbs Hv)
  have F_law_signed : FnOk prog w B mg 2 (Str.ofString "_law_signed") K_law_signed := fn_of hN (HD 39 (by decide)) x_law_signed (t_law_signed Hv F_law_limbs)
  have F_law_all_orders : FnOk prog w B mg 1 (Str.ofString "_law_all_orders") K_law_all_orders := fn_ofC hN (HD 40 (by decide)) x_law_all_orders (t_law_all_orders Hv)
  have F_law_times : FnOk prog w B mg 6 (Str.ofString "_law_times") (K_law_times am ad) := fn_of hN (HD 41 (by decide)) x_law_times (t_law_times Hv (am := am) (ad := ad) F_s_mul ⟨ham, trivial⟩)
  have F_law : FnOk prog w B mg 10 (Str.ofString "law") (K_law am ad) := fn_ofC hN (HD 42 (by decide)) x_law (t_law Hv (am := am) (ad := ad) F_s_sub F_tdiv F_det_bareiss F_law_condensed F_law_signed F_law_all_orders F_law_times ⟨ham, trivial⟩ ⟨had, trivial⟩)
  exact F_law
end Mine
end

section
set_option maxRecDepth 100000
set_option Elab.async false
set_option autoImplicit false
set_option linter.unusedVariables false
namespace Mine
open PySem PySem.Calls PyProof.Rows PySem.W

-- the two tables that the top leaves: UNIT and NOUGHT
noncomputable def seqIs (h : Heap) (T : String) (v : Value) : Option (List Value) := match v with
  | .ref a => (match h.get? a with
    | some o => if (o.cls == .type T && o.dict.isNone && o.slots.isEmpty) = true then (match o.data with | .seq vs _ => some vs.toList | _ => none) else none
    | none => none)
  | _ => none
noncomputable def unitIs (h : Heap) (n : Str) (p : List Value → Bool) : Bool := match h.nsMap mainGlobals n with
  | some v => (match seqIs h "tuple" v with
    | some [.bool false, l] => (match seqIs h "list" l with | some vs => p vs | none => false)
    | _ => false)
  | none => false
noncomputable def isOne : List Value → Bool
  | [.int i _] => i == 1
  | _ => false
noncomputable def uChk (h : Heap) : Bool := unitIs h (Str.ofString "UNIT") isOne && unitIs h (Str.ofString "NOUGHT") List.isEmpty

noncomputable def SaysU (h : Heap) : Prop := ∃ m vU vO, h.Ns mainGlobals m ∧ m (Str.ofString "UNIT") = some vU ∧ Rep h.get? vU dUNIT ∧ m (Str.ofString "NOUGHT") = some vO ∧ Rep h.get? vO dNOUGHT

theorem seqIs_spec {h : Heap} {T : String} {v : Value} {vs : List Value} (e : seqIs h T v = some vs) : ∃ a n, v = .ref a ∧ h.get? a = some { cls := .type T, dict := none, data := .seq vs.toArray n, slots := #[] } := by
  unfold seqIs at e
  split at e
  · rename_i a
    split at e
    · rename_i o ho
      split at e
      · rename_i hc
        split at e
        · rename_i us n hd
          cases e
          simp only [Bool.and_eq_true] at hc
          obtain ⟨⟨h1, h2⟩, h3⟩ := hc
          refine ⟨a, n, rfl, ?_⟩
          rw [ho]
          obtain ⟨c, d, dt, sl⟩ := o
          have q1 : c = .type T := eq_of_beq h1
          have q2 : d = none := Option.isNone_iff_eq_none.mp h2
          have q3 : sl = #[] := Array.isEmpty_iff.mp h3
          have q4 : dt = .seq us n := hd
          rw [q1, q2, q3, q4]
        · cases e
      · cases e
    · cases e
  · cases e

theorem unitIs_spec {h : Heap} {n : Str} {p : List Value → Bool} {ds : List D} (hp : ∀ vs, p vs = true → ds.length ≤ LIM ∧ RepL h.get? vs ds) (e : unitIs h n p = true) : ∃ v, h.nsMap mainGlobals n = some v ∧ Rep h.get? v (.tup [.bool false, .lst ds]) := by
  unfold unitIs at e
  split at e
  · rename_i v hv
    split at e
    · rename_i l hs
      split at e
      · rename_i vs hl
        obtain ⟨a, k, rfl, ha⟩ := seqIs_spec hs
        obtain ⟨b, k', rfl, hb⟩ := seqIs_spec hl
        obtain ⟨h1, h2⟩ := hp vs e
        exact ⟨_, hv, .tup ha (Nat.le_of_ble_eq_true rfl) (.cons (.bool false) (.cons (.lst hb h1 h2) .nil))⟩
      · cases e
    · cases e
  · cases e

theorem uChk_spec {s : Shared} (hn : s.heap.isNs mainGlobals = true) (e : uChk s.heap = true) : SaysU s.heap := by
  unfold uChk at e
  rw [Bool.and_eq_true] at e
  obtain ⟨v, h1, h2⟩ := unitIs_spec (ds := [.int 1]) (fun vs hv => ⟨by decide, by
    unfold isOne at hv
    split at hv
    · rename_i i t
      have : i = 1 := eq_of_beq hv
      subst this
      exact .cons (.int _ _) .nil
    · cases hv⟩) e.1
  obtain ⟨u, h3, h4⟩ := unitIs_spec (ds := []) (fun vs hv => ⟨by decide, by rw [List.isEmpty_iff.mp hv]; exact .nil⟩) e.2
  exact ⟨_, v, u, .of_isNs hn, h1, h2, h3, h4⟩

noncomputable def uHook : Hook where
  α := Bool
  obs := fun s => s.heap.isNs mainGlobals && uChk s.heap
  val := fun _ => true
  says := fun _ h => SaysU h
  of := fun w s e => by
    have e : (s.heap.isNs mainGlobals && uChk s.heap) = true := e
    rw [Bool.and_eq_true] at e
    exact uChk_spec e.1 e.2
  keeps := fun w h h' ⟨m, v, u, h1, h2, h3, h4, h5⟩ hk => ⟨m, v, u, h1.keeps hk, h2, h3.mono hk, h4, h5.mono hk⟩

noncomputable def idxs : List Nat := [4, 5, 6, 7, 8, 9, 10, 11, 13, 14, 15, 16, 17, 18, 19, 23, 24, 25, 26, 27, 29, 30, 31, 32, 33, 34, 35, 37, 38, 39, 40, 41, 42]
noncomputable def blts : List Str := ["len", "range", "enumerate", "min", "sum", "abs", "int"].map Str.ofString

theorem ints_rep {g : PH} : ∀ {vs : List Value} {ns : List Int}, IntsAre vs ns → RepL g vs (ns.map .int)
  | _, _, h => by
    induction h with
    | nil => exact .nil
    | cons n t _ ih => exact .cons (.int _ _) ih

theorem fin (HL : ∀ am ad (ns : List Int), ns.length ≤ 63 → K_law am ad [.lst (ns.map .int)] (.bool true)) (view : Program) (hrecs : recsOf view = idxs.map recAt)
    (hfree : ∀ x ∈ blts, x ∉ startupNames ∧ x ∉ looseW view [Str.ofString "NOUGHT", Str.ofString "UNIT"] ∧ x ∉ (recsOf view).map (·.name) ∧ x ∉ (litsOf view).map (·.1) ∧ x ∉ (clssOf view (looseW view [Str.ofString "NOUGHT", Str.ofString "UNIT"])).map (·.name)) :
    WalkO view [Str.ofString "NOUGHT", Str.ofString "UNIT"] (XL view []) uHook.says PySem.Challenge.rw_xm0429_01.row.toRowW (recAt 42) [] (fun f vs => PySem.call f vs) := by
  intro w s₀ s₁ mg mb G Y a o pm cd doc dV kV ho hd hcd hD hmg hg args vals as hpre hlay hrd hwl hlo
  refine Ground.open G ?_
  intro T B D TE TW
  clear hd hD hcd ho B D TE TW
  wrow_args hpre hlay hrd hwl hlo
  rename_i ns _ _ _ _ _ _ _ l vs _ hL _ W1 _ hI _ hlen _
  have hlen : ns.length ≤ 63 := by omega
  have Hv : Ev s₁.heap mg mb := {
    base := ⟨T.nolimit, T.g, T.b⟩
    g := fun n hn => let ⟨h1, h2, h3, h4, h5⟩ := hfree n hn; T.free n h1 h2 h3 h4 h5
    len := (T.builtins _ (by decide +kernel)).trans (by kernel_rfl)
    range := (T.builtins _ (by decide +kernel)).trans (by kernel_rfl)
    enumerate := (T.builtins _ (by decide +kernel)).trans (by kernel_rfl)
    min := (T.builtins _ (by decide +kernel)).trans (by kernel_rfl)
    sum := (T.builtins _ (by decide +kernel)).trans (by kernel_rfl)
    abs := (T.builtins _ (by decide +kernel)).trans (by kernel_rfl)
    int := (T.builtins _ (by decide +kernel)).trans (by kernel_rfl) }
  obtain ⟨m, vU, vO, hm, hU, rU, hO, rO⟩ := (Y : SaysU s₁.heap)
  have hmm : mg = m := T.g.eq_nsMap.trans hm.eq_nsMap.symm
  subst hmm
  obtain ⟨am, ad, aL, e1, _, hP⟩ := law_ok (prog := PySem.Challenge.pw_xm0429_01) (w := w) Hv (fun i hi => T.fn (recAt i) (by rw [hrecs]; exact List.mem_map_of_mem (by revert i; decide))) ⟨hU, rU⟩ ⟨hO, rO⟩
  have ea : aL = a := by
    have e2 : mg (Str.ofString "law") = some (.ref a) := hmg
    rw [e1] at e2; cases e2; rfl
  subst ea
  -- the argument
  have hrep : RepL s₁.heap.get? [.ref l] [.lst (ns.map .int)] := by
    have W2 : Well w.params s₁.heap (.ref l) (.list (ofPys (ns.map PyData.int))) := W1
    obtain ⟨ol, hol, _, nl, hdl⟩ := hL
    cases W2 with
    | list e _ =>
      rename_i us _
      rw [hol] at e
      have e' := Option.some.inj e
      have hus : us = vs := by
        rw [e'] at hdl
        simp only [Data.seq.injEq] at hdl
        simpa using congrArg Array.toList hdl.1
      subst hus
      rw [e'] at hol
      refine .cons (.lst hol (by simp; unfold LIM; omega) ?_) .nil
      exact ints_rep hI
  refine wpAny_call (codeAny_mono (hP callerA s₁ s₁.heap.get? [.ref l] [.lst (ns.map .int)] (.bool true) ⟨rfl, by decide, by decide⟩ (fun _ _ e => e) (Sub.refl _) (fun _ _ e => e) hrep (HL am ad ns hlen)) fun r s' h => ?_)
  obtain ⟨q, v, g', rfl, hk, _, _, _, hr⟩ := h
  cases hr
  refine GoodW.toG ⟨.inl ⟨.bool true, .bool true, [], rfl, fun _ => rfl, .bool true, by kernel_rfl, fun _ => ⟨List.nodup_nil, fun a ha => by cases ha⟩⟩, hk, q.2.2, q.1.trans hg⟩
end Mine
end

section
set_option linter.unusedVariables false
set_option linter.unusedSimpArgs false
namespace Mine

/-- little-endian limbs of a number -/
noncomputable def limbsF (w : Nat) : Nat → Nat → List Nat
  | 0, _ => []
  | f + 1, n => if n = 0 then [] else (n % 2 ^ w) :: limbsF w f (n / 2 ^ w)
noncomputable def limbs (w n : Nat) : List Nat := limbsF w n n
noncomputable def vl (w : Nat) : List Nat → Nat
  | [] => 0
  | a :: l => a + 2 ^ w * vl w l
noncomputable def Dig (w : Nat) (l : List Nat) : Prop := ∀ a ∈ l, a < 2 ^ w
noncomputable def strip : List Nat → List Nat
  | [] => []
  | a :: l => match strip l with
    | [] => if a = 0 then [] else [a]
    | b :: r => a :: b :: r

theorem two_le {w : Nat} (hw : 1 ≤ w) : 2 ≤ 2 ^ w := by
  have := Nat.pow_le_pow_right (show 1 ≤ 2 by decide) hw
  simpa using this
theorem div_lt {w n : Nat} (hw : 1 ≤ w) (hn : n ≠ 0) : n / 2 ^ w < n := Nat.div_lt_self (Nat.pos_of_ne_zero hn) (two_le hw)
theorem limbsF_fuel {w : Nat} (hw : 1 ≤ w) : ∀ (f g n : Nat), n ≤ f → n ≤ g → limbsF w f n = limbsF w g n
  | 0, g, n, h1, h2 => by
    have : n = 0 := by lia
    subst this
    cases g <;> simp [limbsF]
  | f + 1, 0, n, h1, h2 => by
    have : n = 0 := by lia
    subst this; simp [limbsF]
  | f + 1, g + 1, n, h1, h2 => by
    unfold limbsF
    by_cases h : n = 0
    · simp [h]
    · rw [if_neg h, if_neg h]
      have := div_lt hw h
      rw [limbsF_fuel hw f g (n / 2 ^ w) (by lia) (by lia)]
theorem limbs_zero (w : Nat) : limbs w 0 = [] := rfl
theorem limbs_pos {w n : Nat} (hw : 1 ≤ w) (hn : n ≠ 0) : limbs w n = (n % 2 ^ w) :: limbs w (n / 2 ^ w) := by
  unfold limbs
  cases n with
  | zero => exact absurd rfl hn
  | succ n =>
    have := div_lt hw hn
    rw [show limbsF w (n + 1) (n + 1) = ((n + 1) % 2 ^ w) :: limbsF w n ((n + 1) / 2 ^ w) from by
      show (if n + 1 = 0 then _ else _) = _
      rw [if_neg hn]]
    rw [limbsF_fuel hw n ((n + 1) / 2 ^ w) _ (by lia) (Nat.le_refl _)]
theorem limbs_eq_nil {w n : Nat} (hw : 1 ≤ w) : limbs w n = [] ↔ n = 0 := by
  constructor
  · intro h
    by_cases hn : n = 0
    · exact hn
    · rw [limbs_pos hw hn] at h; cases h
  · intro h; subst h; rfl
theorem limbs_len_pos {w n : Nat} (hw : 1 ≤ w) : 0 < (limbs w n).length ↔ 0 < n := by
  rw [List.length_pos_iff]
  constructor
  · intro h; exact Nat.pos_of_ne_zero fun e => h ((limbs_eq_nil hw).mpr e)
  · intro h e; exact absurd ((limbs_eq_nil hw).mp e) (Nat.ne_of_gt h)

theorem limbs_ind {w : Nat} (hw : 1 ≤ w) {P : Nat → Prop} (h0 : P 0) (hs : ∀ n, n ≠ 0 → P (n / 2 ^ w) → P n) : ∀ n, P n := by
  intro n
  induction n using Nat.strongRecOn with
  | _ n ih =>
    by_cases hn : n = 0
    · subst hn; exact h0
    · exact hs n hn (ih _ (div_lt hw hn))

theorem vl_limbs {w : Nat} (hw : 1 ≤ w) (n : Nat) : vl w (limbs w n) = n := by
  induction n using limbs_ind hw with
  | h0 => rfl
  | hs n hn ih =>
    rw [limbs_pos hw hn]
    show n % 2 ^ w + 2 ^ w * vl w (limbs w (n / 2 ^ w)) = n
    rw [ih]; exact Nat.mod_add_div n (2 ^ w)
theorem dig_limbs {w : Nat} (hw : 1 ≤ w) (n : Nat) : Dig w (limbs w n) := by
  induction n using limbs_ind hw with
  | h0 => intro a ha; cases ha
  | hs n hn ih =>
    rw [limbs_pos hw hn]
    intro a ha
    rcases List.mem_cons.mp ha with rfl | ha
    · exact Nat.mod_lt _ (by have := two_le hw; lia)
    · exact ih a ha
theorem limbs_cons {w a v : Nat} (hw : 1 ≤ w) (ha : a < 2 ^ w) (h : a + 2 ^ w * v ≠ 0) : limbs w (a + 2 ^ w * v) = a :: limbs w v := by
  rw [limbs_pos hw h, Nat.add_mul_mod_self_left, Nat.mod_eq_of_lt ha, Nat.add_mul_div_left _ _ (by have := two_le hw; lia), Nat.div_eq_of_lt ha, Nat.zero_add]
theorem Dig.tail {w a : Nat} {l : List Nat} (h : Dig w (a :: l)) : Dig w l := fun b hb => h b (List.mem_cons_of_mem _ hb)
theorem Dig.head {w a : Nat} {l : List Nat} (h : Dig w (a :: l)) : a < 2 ^ w := h a List.mem_cons_self
theorem strip_limbs {w : Nat} (hw : 1 ≤ w) : ∀ l, Dig w l → strip l = limbs w (vl w l)
  | [], _ => rfl
  | a :: l, h => by
    have ih := strip_limbs hw l h.tail
    unfold strip vl
    rw [ih]
    by_cases hv : vl w l = 0
    · rw [hv, limbs_zero, Nat.mul_zero, Nat.add_zero]
      by_cases ha : a = 0
      · simp [ha, limbs_zero]
      · simp only [ha, if_false]
        have := limbs_cons (v := 0) hw h.head (by simpa using ha)
        rw [Nat.mul_zero, Nat.add_zero] at this
        rw [this, limbs_zero]
    · have hne : a + 2 ^ w * vl w l ≠ 0 := by
        have := two_le hw
        have := Nat.mul_pos (show 0 < 2 ^ w by lia) (Nat.pos_of_ne_zero hv)
        lia
      rw [limbs_cons hw h.head hne]
      rw [limbs_pos hw hv]
theorem vl_append (w : Nat) : ∀ (l m : List Nat), vl w (l ++ m) = vl w l + 2 ^ (w * l.length) * vl w m
  | [], m => by simp [vl]
  | a :: l, m => by
    show a + 2 ^ w * vl w (l ++ m) = a + 2 ^ w * vl w l + _
    rw [vl_append w l m, Nat.mul_add, ← Nat.mul_assoc, ← Nat.pow_add, List.length_cons, Nat.mul_add, Nat.mul_one, Nat.add_comm w, Nat.add_assoc]
theorem vl_lt {w : Nat} : ∀ l, Dig w l → vl w l < 2 ^ (w * l.length)
  | [], _ => by simp [vl]
  | a :: l, h => by
    have ih := vl_lt l h.tail
    have ha := h.head
    show a + 2 ^ w * vl w l < 2 ^ (w * (l.length + 1))
    rw [Nat.mul_add, Nat.mul_one, Nat.add_comm (w * l.length), Nat.pow_add]
    have : 2 ^ w * vl w l + 2 ^ w ≤ 2 ^ w * 2 ^ (w * l.length) := by
      rw [← Nat.mul_succ]; exact Nat.mul_le_mul_left _ ih
    lia
theorem limbs_len {w : Nat} (hw : 1 ≤ w) : ∀ (k n : Nat), n < 2 ^ k → (limbs w n).length ≤ k := by
  intro k
  induction k with
  | zero => intro n h; have : n = 0 := by simpa using h
            subst this; exact Nat.le_refl _
  | succ k ih =>
    intro n h
    by_cases hn : n = 0
    · subst hn; simp [limbs_zero]
    · rw [limbs_pos hw hn, List.length_cons]
      have h1 : n / 2 ^ w ≤ n / 2 := Nat.div_le_div_left (two_le hw) (by decide)
      have h2 : n < 2 ^ k * 2 := by rw [← Nat.pow_succ]; exact h
      have := ih (n / 2 ^ w) (by lia)
      lia
theorem strip_snoc0 : ∀ l, strip (l ++ [0]) = strip l
  | [] => rfl
  | a :: l => by
    show (match strip (l ++ [0]) with | [] => if a = 0 then [] else [a] | b :: r => a :: b :: r) = _
    rw [strip_snoc0 l]; rfl
theorem strip_snoc {x : Nat} (hx : x ≠ 0) : ∀ l, strip (l ++ [x]) = l ++ [x]
  | [] => by simp [strip, hx]
  | a :: l => by
    show (match strip (l ++ [x]) with | [] => if a = 0 then [] else [a] | b :: r => a :: b :: r) = _
    rw [strip_snoc hx l]
    cases l <;> rfl
/-- limbs that end in no nought are the number's own -/
theorem limbs_of {w : Nat} (hw : 1 ≤ w) {l : List Nat} {x : Nat} (hx : x ≠ 0) (h : Dig w (l ++ [x])) : l ++ [x] = limbs w (vl w (l ++ [x])) := by
  rw [← strip_limbs hw _ h, strip_snoc hx]

theorem band_mask (a w : Nat) : a &&& (2 ^ w - 1) = a % 2 ^ w := Nat.and_two_pow_sub_one_eq_mod a w
theorem bor_add {a b w : Nat} (h : b < 2 ^ w) : (a * 2 ^ w) ||| b = a * 2 ^ w + b := by
  have := Nat.two_pow_add_eq_or_of_lt h a
  rw [Nat.mul_comm] at this
  lia
end Mine
end

section
set_option linter.unusedVariables false
set_option linter.unusedSimpArgs false
namespace Mine
noncomputable abbrev iz (l : List Nat) : List D := l.map fun n : Nat => D.int n
noncomputable abbrev L (l : List Nat) : D := .lst (iz l)

section
variable (fr : List (Option RV)) (cs : List Cell)
@[simp] theorem x_var (i : Nat) (Q : RV → MS → Prop) : tVar i ⟨fr, cs⟩ Q = (match fr[i]? with | some (some r) => Q r ⟨fr, cs⟩ | _ => False) := rfl
@[simp] theorem x_c (d : D) (Q : RV → MS → Prop) (ms : MS) : tC d ms Q = Q (.val d) ms := rfl
noncomputable def frzQ (np : Nat) (Q : D → MS → Prop) : RV → MS → Prop := fun r ms1 => match r with
  | .val d => Q d ms1
  | .ptr i => match ms1.cs[i]? with
    | some (.lst xs) => np ≤ i ∧ Q (.lst xs) (ms1.setC i .dead)
    | _ => False
@[simp] theorem x_frz (np : Nat) (e : T RV) (ms : MS) (Q : D → MS → Prop) : tFrz np e ms Q = e ms (frzQ np Q) := rfl
@[simp] theorem x_frzV (np : Nat) (d : D) (ms : MS) (Q : D → MS → Prop) : frzQ np Q (.val d) ms = Q d ms := rfl
@[simp] theorem x_frzP (np : Nat) (i : Nat) (ms : MS) (Q : D → MS → Prop) : frzQ np Q (.ptr i) ms = (match ms.cs[i]? with
    | some (.lst xs) => np ≤ i ∧ Q (.lst xs) (ms.setC i .dead)
    | _ => False) := rfl
@[simp] theorem x_up (e : T D) (ms : MS) (Q : RV → MS → Prop) : tUp e ms Q = e ms fun d ms1 => Q (.val d) ms1 := rfl
@[simp] theorem x_bin (op : Op) (l r : T RV) (ms : MS) (Q : RV → MS → Prop) : tBin op l r ms Q = l ms fun a ms1 => r ms1 fun b ms2 => evBin op a b fun v => Q v ms2 := rfl
@[simp] theorem x_evBin (op : Op) (x y : Int) (Q : RV → Prop) : evBin op (.val (.int x)) (.val (.int y)) Q = (op.ok x y ∧ Q (.val (.int (op.ev x y)))) := rfl
@[simp] theorem x_neg (e : T RV) (ms : MS) (Q : RV → MS → Prop) : tNeg e ms Q = e ms fun a ms1 => match a with
  | .val (.int x) => Q (.val (.int (-x))) ms1
  | _ => False := rfl
@[simp] theorem x_args0 (ms : MS) (Q : List D → MS → Prop) : tArgs [] ms Q = Q [] ms := rfl
@[simp] theorem x_args1 (e : T D) (es : List (T D)) (ms : MS) (Q : List D → MS → Prop) : tArgs (e :: es) ms Q = e ms fun d ms1 => tArgs es ms1 fun ds ms2 => Q (d :: ds) ms2 := rfl
@[simp] theorem x_tup (es : List (T D)) (ms : MS) (Q : RV → MS → Prop) : tTup es ms Q = tArgs es ms fun ds ms1 => Q (.val (.tup ds)) ms1 := rfl
@[simp] theorem x_lst (es : List (T D)) (ms : MS) (Q : RV → MS → Prop) : tLst es ms Q = tArgs es ms fun ds ms1 => Q (.ptr ms1.cs.length) (ms1.addC (.lst ds)) := rfl
@[simp] theorem x_lstV (es : List (T D)) (ms : MS) (Q : RV → MS → Prop) : tLstV es ms Q = tArgs es ms fun ds ms1 => Q (.val (.lst ds)) ms1 := rfl
@[simp] theorem x_rep (l n : T RV) (ms : MS) (Q : RV → MS → Prop) : tRep l n ms Q = l ms fun a ms1 => n ms1 fun b ms2 => match ms2.look a, b with
  | some xs, .val (.int k) => xs ≠ [] ∧ xs.length * k.toNat ≤ LIM ∧ k ≤ 1000000 ∧ 0 ≤ k ∧ Q (.ptr ms2.cs.length) (ms2.addC (.lst (List.replicate k.toNat xs).flatten))
  | _, _ => False := rfl
@[simp] theorem x_cat (l r : T RV) (ms : MS) (Q : RV → MS → Prop) : tCat l r ms Q = l ms fun a ms1 => r ms1 fun b ms2 => match ms2.look a, ms2.look b with
  | some xs, some ys => xs.length + ys.length ≤ LIM ∧ Q (.ptr ms2.cs.length) (ms2.addC (.lst (xs ++ ys)))
  | _, _ => False := rfl
@[simp] theorem x_tcat (l r : T RV) (ms : MS) (Q : RV → MS → Prop) : tTCat l r ms Q = l ms fun a ms1 => r ms1 fun b ms2 => match a, b with
  | .val (.tup xs), .val (.tup ys) => xs.length + ys.length ≤ LIM ∧ Q (.val (.tup (xs ++ ys))) ms2
  | _, _ => False := rfl
@[simp] theorem x_len (e : T RV) (ms : MS) (Q : RV → MS → Prop) : tLen e ms Q = e ms fun a ms1 => match ms1.look a with
  | some xs => Q (.val (.int xs.length)) ms1
  | Option.none => False := rfl
@[simp] theorem x_opt0 (ms : MS) (Q : Option Int → MS → Prop) : tOpt Option.none ms Q = Q Option.none ms := rfl
@[simp] theorem x_opt1 (e : T RV) (ms : MS) (Q : Option Int → MS → Prop) : tOpt (some e) ms Q = e ms fun a ms1 => match a with
    | .val (.int k) => Q (some k) ms1
    | _ => False := rfl
@[simp] theorem x_cut (e : T RV) (lo hi : Option (T RV)) (ms : MS) (Q : RV → MS → Prop) : tCut e lo hi ms Q = e ms fun a ms1 => tOpt lo ms1 fun l ms2 => tOpt hi ms2 fun h ms3 => match ms3.look a with
  | some xs => Q (.val (.lst (cut xs l h))) ms3
  | Option.none => False := rfl
@[simp] theorem x_item (e i : T RV) (ms : MS) (Q : RV → MS → Prop) : tItem e i ms Q = e ms fun a ms1 => i ms1 fun b ms2 => evItem ms2 a b fun v => Q v ms2 := rfl
@[simp] theorem x_evItemL (ms : MS) (xs : List D) (k : Int) (Q : RV → Prop) : evItem ms (.val (.lst xs)) (.val (.int k)) Q = (0 ≤ (if k < 0 then k + xs.length else k) ∧ ∃ d, xs[(if k < 0 then k + xs.length else k).toNat]? = some d ∧ Q (.val d)) := rfl
@[simp] theorem x_evItemT (ms : MS) (xs : List D) (k : Int) (Q : RV → Prop) : evItem ms (.val (.tup xs)) (.val (.int k)) Q = (0 ≤ k ∧ ∃ d, xs[k.toNat]? = some d ∧ Q (.val d)) := rfl
theorem x_evItemP (i : Nat) (xs : List D) (k : Int) (Q : RV → Prop) (h : cs[i]? = some (.lst xs)) : evItem ⟨fr, cs⟩ (.ptr i) (.val (.int k)) Q = (0 ≤ (if k < 0 then k + xs.length else k) ∧ ∃ d, xs[(if k < 0 then k + xs.length else k).toNat]? = some d ∧ Q (.val d)) := by
  unfold evItem MS.dat; simp [h]
@[simp] theorem x_abs (e : T RV) (ms : MS) (Q : RV → MS → Prop) : tAbs e ms Q = e ms fun a ms1 => match a with
  | .val (.int x) => Q (.val (.int x.natAbs)) ms1
  | _ => False := rfl
@[simp] theorem x_intof (e : T RV) (ms : MS) (Q : RV → MS → Prop) : tIntOf e ms Q = e ms fun a ms1 => match a with
  | .val (.int x) => Q (.val (.int x)) ms1
  | _ => False := rfl
@[simp] theorem x_bitlen (e : T RV) (ms : MS) (Q : RV → MS → Prop) : tBitLen e ms Q = e ms fun a ms1 => match a with
  | .val (.int x) => 0 < x ∧ Q (.val (.int (x.toNat.log2 + 1))) ms1
  | _ => False := rfl
@[simp] theorem x_min (l r : T RV) (ms : MS) (Q : RV → MS → Prop) : tMin l r ms Q = l ms fun a ms1 => r ms1 fun b ms2 => match a, b with
  | .val (.int x), .val (.int y) => Q (.val (.int (if y < x then y else x))) ms2
  | _, _ => False := rfl
@[simp] theorem x_cmp (op : Cmp) (l r : T RV) (ms : MS) (Q : Bool → MS → Prop) : tCmp op l r ms Q = l ms fun a ms1 => r ms1 fun b ms2 => evCmp op a b fun v => Q v ms2 := rfl
@[simp] theorem x_evCmp (op : Cmp) (x y : Int) (Q : Bool → Prop) : evCmp op (.val (.int x)) (.val (.int y)) Q = Q (op.ev x y) := rfl
@[simp] theorem x_eqB (neg : Bool) (l r : T RV) (ms : MS) (Q : Bool → MS → Prop) : tEqB neg l r ms Q = l ms fun a ms1 => r ms1 fun b ms2 => evEqB neg a b fun v => Q v ms2 := rfl
@[simp] theorem x_evEqB (neg x y : Bool) (Q : Bool → Prop) : evEqB neg (.val (.bool x)) (.val (.bool y)) Q = Q (if neg then x != y else x == y) := rfl
@[simp] theorem x_notin (l r : T RV) (ms : MS) (Q : Bool → MS → Prop) : tNotIn l r ms Q = l ms fun a ms1 => r ms1 fun b ms2 => evNotIn a b fun v => Q v ms2 := rfl
@[simp] theorem x_and (l r : T Bool) (ms : MS) (Q : Bool → MS → Prop) : tAnd l r ms Q = l ms fun a ms1 => if a then r ms1 Q else Q false ms1 := rfl
@[simp] theorem x_not (e : T Bool) (ms : MS) (Q : Bool → MS → Prop) : tNot e ms Q = e ms fun a ms1 => Q (!a) ms1 := rfl
@[simp] theorem x_truth (e : T RV) (ms : MS) (Q : Bool → MS → Prop) : tTruth e ms Q = e ms fun a ms1 => match a with
  | .val (.bool b) => Q b ms1
  | _ => False := rfl
@[simp] theorem x_boolV (e : T Bool) (ms : MS) (Q : RV → MS → Prop) : tBoolV e ms Q = e ms fun b ms1 => Q (.val (.bool b)) ms1 := rfl
@[simp] theorem x_ife (c : T Bool) (a b : T RV) (ms : MS) (Q : RV → MS → Prop) : tIfE c a b ms Q = c ms fun v ms1 => if v then a ms1 Q else b ms1 Q := rfl
@[simp] theorem x_call (K : List D → D → Prop) (es : List (T D)) (ms : MS) (Q : RV → MS → Prop) : tCall K es ms Q = tArgs es ms fun ds ms1 => ∃ d, K ds d ∧ Q (.val d) ms1 := rfl
@[simp] theorem x_callV (as : List Nat) (K : Nat → List D → D → Prop) (f : Nat) (es : List (T D)) (Q : RV → MS → Prop) : tCallV as K f es ⟨fr, cs⟩ Q = (match fr[f]? with
  | some (some (.val (.fn a))) => a ∈ as ∧ tArgs es ⟨fr, cs⟩ fun ds ms1 => ∃ d, K a ds d ∧ Q (.val d) ms1
  | _ => False) := rfl
@[simp] theorem x_callL (K : List D → D → Prop) (i : Nat) (es : List (T D)) (Q : RV → MS → Prop) : tCallL K i es ⟨fr, cs⟩ Q = (match fr[i]? with
  | some (some r) => tArgs es ⟨fr, cs⟩ fun ds ms1 => match ms1.look r with
    | some xs => ∃ d, K (.lst xs :: ds) d ∧ d.flat ∧ Q (.val d) ms1
    | Option.none => False
  | _ => False) := rfl
@[simp] theorem x_callM (K : List D → List D → List D → D → Prop) (i : Nat) (es : List (T D)) (Q : RV → MS → Prop) : tCallM K i es ⟨fr, cs⟩ Q = (match fr[i]? with
  | some (some (.ptr n)) => tArgs es ⟨fr, cs⟩ fun ds ms1 => match ms1.cs[n]? with
    | some (.lst xs) => ∃ xs' d, K xs ds xs' d ∧ Q (.val d) (ms1.setC n (.lst xs'))
    | _ => False
  | _ => False) := rfl
@[simp] theorem x_range1 (e : T RV) (ms : MS) (Q : List D → MS → Prop) : tRange1 e ms Q = e ms fun a ms1 => match a with
  | .val (.int n) => Small n ∧ n ≤ LIM ∧ Q (dInts 0 1 n.toNat) ms1
  | _ => False := rfl
@[simp] theorem x_range2 (e1 e2 : T RV) (ms : MS) (Q : List D → MS → Prop) : tRange2 e1 e2 ms Q = e1 ms fun a ms1 => e2 ms1 fun b ms2 => match a, b with
  | .val (.int x), .val (.int y) => Small x ∧ Small y ∧ y - x ≤ LIM ∧ Q (dInts x 1 (y - x).toNat) ms2
  | _, _ => False := rfl
@[simp] theorem x_rangeD (e1 e2 : T RV) (ms : MS) (Q : List D → MS → Prop) : tRangeD e1 e2 ms Q = e1 ms fun a ms1 => e2 ms1 fun b ms2 => match a, b with
  | .val (.int x), .val (.int y) => Small x ∧ Small y ∧ x - y ≤ LIM ∧ Q (dInts x (-1) (x - y).toNat) ms2
  | _, _ => False := rfl
@[simp] theorem x_items (e : T D) (ms : MS) (Q : List D → MS → Prop) : tItems e ms Q = e ms fun d ms1 => match d with
  | .lst xs => Q xs ms1
  | _ => False := rfl
@[simp] theorem x_itemsT (e : T D) (ms : MS) (Q : List D → MS → Prop) : tItemsT e ms Q = e ms fun d ms1 => match d with
  | .tup xs => Q xs ms1
  | _ => False := rfl
@[simp] theorem x_enum (e : T D) (ms : MS) (Q : List D → MS → Prop) : tEnum e ms Q = e ms fun d ms1 => match d with
  | .lst xs => Q (enumFrom 0 xs) ms1
  | _ => False := rfl
@[simp] theorem x_seqs0 (ms : MS) (Q : Fl → MS → Prop) : tSeqs [] ms Q = Q .next ms := rfl
@[simp] theorem x_seqs1 (a : T Fl) (r : List (T Fl)) (ms : MS) (Q : Fl → MS → Prop) : tSeqs (a :: r) ms Q = a ms fun f ms1 => match f with
  | .next => tSeqs r ms1 Q
  | .ret d => Q (.ret d) ms1 := rfl
@[simp] theorem x_asg (i : Nat) (e : T RV) (ms : MS) (Q : Fl → MS → Prop) : tAsg i e ms Q = e ms fun r ms1 => Q .next (ms1.set i r) := rfl
@[simp] theorem x_rvs0 (ms : MS) (Q : List RV → MS → Prop) : tRVs [] ms Q = Q [] ms := rfl
@[simp] theorem x_rvs1 (e : T RV) (es : List (T RV)) (ms : MS) (Q : List RV → MS → Prop) : tRVs (e :: es) ms Q = e ms fun r ms1 => tRVs es ms1 fun rs ms2 => Q (r :: rs) ms2 := rfl
@[simp] theorem x_multi (is : List Nat) (es : List (T RV)) (ms : MS) (Q : Fl → MS → Prop) : tMulti is es ms Q = tRVs es ms fun rs ms1 => Q .next (setAll is rs ms1) := rfl
@[simp] theorem x_setAll0 (rs : List RV) (ms : MS) : setAll [] rs ms = ms := by cases rs <;> rfl
@[simp] theorem x_setAll1 (i : Nat) (is : List Nat) (r : RV) (rs : List RV) (ms : MS) : setAll (i :: is) (r :: rs) ms = setAll is rs (ms.set i r) := rfl
@[simp] theorem x_unp (is : List Nat) (e : T D) (ms : MS) (Q : Fl → MS → Prop) : tUnp is e ms Q = e ms fun d ms1 => ∃ ms2, bindT is d ms1 = some ms2 ∧ Q .next ms2 := rfl
@[simp] theorem x_bindT (is : List Nat) (ds : List D) (ms : MS) : bindT is (.tup ds) ms = bindAll is ds ms := rfl
@[simp] theorem x_bindAll0 (ms : MS) : bindAll [] [] ms = some ms := rfl
@[simp] theorem x_bindAll1 (i : Nat) (is : List Nat) (d : D) (ds : List D) (ms : MS) : bindAll (i :: is) (d :: ds) ms = bindAll is ds (ms.set i (.val d)) := rfl
@[simp] theorem x_bind1 (i : Nat) (d : D) (ms : MS) : bind1 i d ms = some (ms.set i (.val d)) := rfl
@[simp] theorem x_put (x : Nat) (i : T RV) (e : T D) (ms : MS) (Q : Fl → MS → Prop) : tPut x i e ms Q = e ms fun d ms1 => match ms1.fr[x]? with
  | some (some (.ptr n)) => i ms1 fun b ms2 => match b, ms2.cs[n]? with
    | .val (.int k), some (.lst xs) => 0 ≤ k ∧ k < xs.length ∧ Q .next (ms2.setC n (.lst (xs.set k.toNat d)))
    | _, _ => False
  | _ => False := rfl
@[simp] theorem x_aug (i : Nat) (op : Op) (e : T RV) (Q : Fl → MS → Prop) : tAug i op e ⟨fr, cs⟩ Q = (match fr[i]? with
  | some (some a) => e ⟨fr, cs⟩ fun b ms1 => evBin op a b fun v => Q .next (ms1.set i v)
  | _ => False) := rfl
@[simp] theorem x_app (x : Nat) (e : T D) (Q : Fl → MS → Prop) : tApp x e ⟨fr, cs⟩ Q = (match fr[x]? with
  | some (some (.ptr n)) => (∃ ys, cs[n]? = some (.lst ys)) ∧ e ⟨fr, cs⟩ fun d ms1 => match ms1.cs[n]? with
    | some (.lst xs) => xs.length < LIM ∧ Q .next (ms1.setC n (.lst (xs ++ [d])))
    | _ => False
  | _ => False) := rfl
@[simp] theorem x_do (e : T RV) (ms : MS) (Q : Fl → MS → Prop) : tDo e ms Q = e ms fun r ms1 => r = .val .none ∧ Q .next ms1 := rfl
@[simp] theorem x_if (c : T Bool) (a b : T Fl) (ms : MS) (Q : Fl → MS → Prop) : tIf c a b ms Q = c ms fun v ms1 => if v then a ms1 Q else b ms1 Q := rfl
@[simp] theorem x_ret (e : T D) (ms : MS) (Q : Fl → MS → Prop) : tRet e ms Q = e ms fun d ms1 => Q (.ret d) ms1 := rfl
@[simp] theorem x_for (it : T (List D)) (bind : D → MS → Option MS) (body : T Fl) (ms : MS) (Q : Fl → MS → Prop) : tFor it bind body ms Q = it ms fun ds ms1 => forGo bind body ds ms1 Q := rfl
@[simp] theorem x_for0 (bind : D → MS → Option MS) (body : T Fl) (ms : MS) (Q : Fl → MS → Prop) : forGo bind body [] ms Q = Q .next ms := rfl
theorem x_for1 (bind : D → MS → Option MS) (body : T Fl) (d : D) (ds : List D) (ms : MS) (Q : Fl → MS → Prop) : forGo bind body (d :: ds) ms Q = ∃ ms1, bind d ms = some ms1 ∧ body ms1 fun f ms2 => match f with
    | .next => forGo bind body ds ms2 Q
    | .ret r => Q (.ret r) ms2 := rfl
theorem x_forB (i : Nat) (body : T Fl) (d : D) (ds : List D) (ms : MS) (Q : Fl → MS → Prop) : forGo (bind1 i) body (d :: ds) ms Q = body (ms.set i (.val d)) fun f ms2 => match f with
    | .next => forGo (bind1 i) body ds ms2 Q
    | .ret r => Q (.ret r) ms2 := propext ⟨fun ⟨_, h, hq⟩ => by cases h; exact hq, fun h => ⟨_, rfl, h⟩⟩
theorem x_while1 (c : T Bool) (body : T Fl) (n : Nat) (ms : MS) (Q : Fl → MS → Prop) : whileGo c body (n + 1) ms Q = c ms fun v ms1 => if v then body ms1 fun f ms2 => match f with
      | .next => whileGo c body n ms2 Q
      | .ret r => Q (.ret r) ms2
    else Q .next ms1 := rfl
@[simp] theorem x_while (c : T Bool) (body : T Fl) (ms : MS) (Q : Fl → MS → Prop) : tWhile c body ms Q = ∃ n, whileGo c body n ms Q := rfl
@[simp] theorem x_set (i : Nat) (r : RV) : MS.set ⟨fr, cs⟩ i r = ⟨fr.set i (some r), cs⟩ := rfl
@[simp] theorem x_setC (i : Nat) (c : Cell) : MS.setC ⟨fr, cs⟩ i c = ⟨fr, cs.set i c⟩ := rfl
@[simp] theorem x_addC (c : Cell) : MS.addC ⟨fr, cs⟩ c = ⟨fr, cs ++ [c]⟩ := rfl
@[simp] theorem x_lookV (ms : MS) (xs : List D) : ms.look (.val (.lst xs)) = some xs := rfl
theorem x_lookP (i : Nat) (xs : List D) (h : cs[i]? = some (.lst xs)) : MS.look ⟨fr, cs⟩ (.ptr i) = some xs := by
  unfold MS.look MS.dat; simp [h]
@[simp] theorem x_lookP0 (xs : List D) (cs : List Cell) : MS.look ⟨fr, .lst xs :: cs⟩ (.ptr 0) = some xs := rfl
@[simp] theorem x_evItemP0 (xs : List D) (cs : List Cell) (k : Int) (Q : RV → Prop) : evItem ⟨fr, .lst xs :: cs⟩ (.ptr 0) (.val (.int k)) Q = (0 ≤ (if k < 0 then k + xs.length else k) ∧ ∃ d, xs[(if k < 0 then k + xs.length else k).toNat]? = some d ∧ Q (.val d)) := rfl
end

theorem x_itemL {l : List Nat} {i n : Nat} (h : l[i]? = some n) (ms : MS) (Q : RV → Prop) : evItem ms (.val (L l)) (.val (.int (i : Nat))) Q = Q (.val (.int (n : Nat))) := by
  have e : (iz l)[i]? = some (.int (n : Nat)) := by rw [List.getElem?_map, h]; rfl
  have z : ¬ ((i : Int) < 0) := Int.not_lt.mpr (Int.natCast_nonneg i)
  refine propext ⟨fun q => ?_, fun q => ?_⟩
  · obtain ⟨_, d, h1, h2⟩ := q
    rw [if_neg z, Int.toNat_natCast, e] at h1
    cases h1; exact h2
  · refine ⟨?_, .int (n : Nat), ?_, q⟩
    · rw [if_neg z]; exact Int.natCast_nonneg i
    · rw [if_neg z]; exact e
theorem x_itemP {l : List Nat} {i n : Nat} (h : l[i]? = some n) (fr : List (Option RV)) (cs : List Cell) (Q : RV → Prop) : evItem ⟨fr, .lst (iz l) :: cs⟩ (.ptr 0) (.val (.int (i : Nat))) Q = Q (.val (.int (n : Nat))) := x_itemL h ⟨fr, .lst (iz l) :: cs⟩ Q
theorem x_item0 (a : Nat) (l : List Nat) (ms : MS) (Q : RV → Prop) : evItem ms (.val (L (a :: l))) (.val (.int 0)) Q = Q (.val (.int (a : Nat))) := x_itemL (i := 0) (l := a :: l) rfl ms Q
theorem x_item1 (a b : Nat) (l : List Nat) (ms : MS) (Q : RV → Prop) : evItem ms (.val (L (a :: b :: l))) (.val (.int 1)) Q = Q (.val (.int (b : Nat))) := x_itemL (i := 1) (l := a :: b :: l) rfl ms Q
theorem x_item2 (a b c : Nat) (l : List Nat) (ms : MS) (Q : RV → Prop) : evItem ms (.val (L (a :: b :: c :: l))) (.val (.int 2)) Q = Q (.val (.int (c : Nat))) := x_itemL (i := 2) (l := a :: b :: c :: l) rfl ms Q
theorem bin_E {op : Op} {x y z : Int} (h : op.ok x y) (e : op.ev x y = z) (Q : RV → Prop) : evBin op (.val (.int x)) (.val (.int y)) Q = Q (.val (.int z)) := by
  subst e; exact propext ⟨fun q => q.2, fun q => ⟨h, q⟩⟩
-- small defs
theorem clip_nat {n i : Nat} (h : i ≤ n) : clip n (i : Int) = i := by
  unfold clip
  rw [if_neg (by omega)]
  omega
theorem cut_to (xs : List D) (e : Nat) (h : e ≤ xs.length) : cut xs Option.none (some (e : Int)) = xs.take e := by
  unfold cut
  simp [clip_nat h]

theorem normal_loop (l : List Nat) (Q : Fl → MS → Prop) : ∀ e, e ≤ l.length → strip l = strip (l.take e) → (∀ e', e' ≤ l.length → strip l = l.take e' → Q .next ⟨[some (.val (L l)), some (.val (.int (e' : Nat)))], []⟩) →
    ∃ n, whileGo (tAnd (tCmp .gt (tVar 1) (tC (.int 0))) (tCmp .eq (tItem (tVar 0) (tBin .sub (tVar 1) (tC (.int 1)))) (tC (.int 0)))) (tSeqs [(tAug 1 .sub (tC (.int 1)))]) n ⟨[some (.val (L l)), some (.val (.int (e : Nat)))], []⟩ Q
  | 0, _, hs, hQ => ⟨1, by
    rw [x_while1]
    simp [Cmp.ev]
    exact hQ 0 (Nat.zero_le _) (by rw [hs]; rfl)⟩
  | e + 1, hle, hs, hQ => by
    have hget : l[e]? = some l[e] := List.getElem?_eq_getElem (by omega)
    have htk : l.take (e + 1) = l.take e ++ [l[e]] := by rw [List.take_add_one, hget]; rfl
    by_cases h0 : l[e] = 0
    · obtain ⟨n, h⟩ := normal_loop l Q e (by omega) (by rw [hs, htk, h0, strip_snoc0]) hQ
      refine ⟨n + 1, ?_⟩
      rw [x_while1]
      have e1 : ((e : Int) + 1 - 1) = e := by lia
      have e2 : ¬ ((e : Int) < 0) := by omega
      have e3 : (0 : Int) ≤ e := by omega
      have e4 : (0 : Int) < (e : Int) + 1 := by omega
      simp [Cmp.ev, Op.ev, Op.ok, e1, e2, e3, e4, hget, h0]
      exact h
    · refine ⟨1, ?_⟩
      rw [x_while1]
      have e1 : ((e : Int) + 1 - 1) = e := by lia
      have e2 : ¬ ((e : Int) < 0) := by omega
      have e3 : (0 : Int) ≤ e := by omega
      have e4 : (0 : Int) < (e : Int) + 1 := by omega
      simp [Cmp.ev, Op.ev, Op.ok, e1, e2, e3, e4, hget, h0]
      exact hQ (e + 1) hle (by rw [hs, htk, strip_snoc h0])

theorem run_normal (l : List Nat) : K_normal [L l] (L (strip l)) := by
  refine ⟨rfl, ?_⟩
  unfold Runs b_normal
  simp
  refine normal_loop l _ l.length (Nat.le_refl _) (by simp) fun e he hs => ?_
  simp
  rw [cut_to _ _ (by simpa using he), hs, ← List.map_take]
end Mine
end

section
set_option linter.unusedVariables false
set_option linter.unusedSimpArgs false
namespace Mine

theorem dInts_zero (a c : Int) : dInts a c 0 = [] := rfl
theorem dInts_succ (a c : Int) (n : Nat) : dInts a c (n + 1) = .int a :: dInts (a + c) c n := by
  unfold dInts
  rw [List.range_succ_eq_map, List.map_cons, List.map_map]
  congr 1
  · simp
  · refine List.map_congr_left fun i _ => ?_
    show D.int (a + ((i + 1 : Nat) : Int) * c) = D.int (a + c + (i : Int) * c)
    congr 1
    rw [Int.natCast_add, Int.add_mul]; simp; lia

theorem limbs_len_mono {w : Nat} (hw : 1 ≤ w) : ∀ (a b : Nat), b ≤ a → (limbs w b).length ≤ (limbs w a).length := by
  intro a
  induction a using limbs_ind hw with
  | h0 => intro b h; have : b = 0 := by lia
          subst this; exact Nat.le_refl _
  | hs n hn ih =>
    intro b h
    by_cases hb : b = 0
    · subst hb; simp [limbs_zero]
    · rw [limbs_pos hw hn, limbs_pos hw hb, List.length_cons, List.length_cons]
      exact Nat.succ_le_succ (ih _ (Nat.div_le_div_right h))
theorem limbs_inj {w a b : Nat} (hw : 1 ≤ w) (h : limbs w a = limbs w b) : a = b := by rw [← vl_limbs hw a, h, vl_limbs hw]

noncomputable def cmpN (a b : Nat) : Int := if a < b then -1 else if a = b then 0 else 1

theorem vl_take_succ {w : Nat} {l : List Nat} {k : Nat} (h : k < l.length) : vl w (l.take (k + 1)) = vl w (l.take k) + 2 ^ (w * k) * l[k] := by
  have : l.take (k + 1) = l.take k ++ [l[k]] := by rw [List.take_add_one, List.getElem?_eq_getElem h]; rfl
  rw [this, vl_append, List.length_take, Nat.min_eq_left (by lia)]
  simp [vl]
theorem Dig.take {w : Nat} {l : List Nat} (h : Dig w l) (k : Nat) : Dig w (l.take k) := fun a ha => h a (List.mem_of_mem_take ha)
theorem vl_take_lt {w : Nat} {l : List Nat} (h : Dig w l) {k : Nat} (hk : k ≤ l.length) : vl w (l.take k) < 2 ^ (w * k) := by
  have := vl_lt _ (h.take k)
  rwa [List.length_take, Nat.min_eq_left hk] at this

theorem cmp_step {w x y X Y a b : Nat} (hX : X < 2 ^ w) (hY : Y < 2 ^ w) (h : a < b) : X + 2 ^ w * a < Y + 2 ^ w * b := by
  have : 2 ^ w * (a + 1) ≤ 2 ^ w * b := Nat.mul_le_mul_left _ h
  rw [Nat.mul_add] at this; lia

theorem compare_loop {w : Nat} {l m : List Nat} (hl : Dig w l) (hm : Dig w m) (hlen : l.length = m.length) (Q : Fl → MS → Prop) :
    ∀ (k : Nat) (o : Option RV), k ≤ l.length → (∀ ms, cmpN (vl w (l.take k)) (vl w (m.take k)) = 0 → Q .next ms) → (∀ ms, Q (.ret (.int (cmpN (vl w (l.take k)) (vl w (m.take k))))) ms) →
    forGo (bind1 2) (tSeqs [(tIf (tCmp .ne (tItem (tVar 0) (tVar 2)) (tItem (tVar 1) (tVar 2)))
      (tSeqs [(tRet (tFrz 0 (tIfE (tCmp .lt (tItem (tVar 0) (tVar 2)) (tItem (tVar 1) (tVar 2))) (tNeg (tC (.int 1))) (tC (.int 1)))))])
      (tSeqs []))]) (dInts ((k : Int) - 1) (-1) k) ⟨[some (.val (L l)), some (.val (L m)), o], []⟩ Q
  | 0, o, _, h0, _ => h0 _ (by simp [cmpN, vl])
  | k + 1, o, hk, h0, hr => by
    have e1 : ((k + 1 : Nat) : Int) - 1 = k := by lia
    have e2 : ¬ ((k : Int) < 0) := by lia
    have e3 : (0 : Int) ≤ k := by lia
    have g1 : l[k]? = some l[k] := List.getElem?_eq_getElem (by lia)
    have g2 : m[k]? = some m[k] := List.getElem?_eq_getElem (by omega)
    rw [e1, dInts_succ, x_forB]
    have t1 := vl_take_succ (w := w) (l := l) (k := k) (by lia)
    have t2 := vl_take_succ (w := w) (l := m) (k := k) (by lia)
    have b1 := vl_take_lt hl (k := k) (by lia)
    have b2 := vl_take_lt hm (k := k) (by lia)
    rw [t1, t2] at h0 hr
    have e4 : (k : Int) + -1 = (k : Int) - 1 := rfl
    by_cases hc : l[k] = m[k]
    · rw [hc] at h0 hr
      have hcm : cmpN (vl w (l.take k) + 2 ^ (w * k) * m[k]) (vl w (m.take k) + 2 ^ (w * k) * m[k]) = cmpN (vl w (l.take k)) (vl w (m.take k)) := by
        unfold cmpN; simp
      rw [hcm] at h0 hr
      have cc : Cmp.ev .ne (l[k] : Int) (m[k] : Int) = false := decide_eq_false (by omega)
      simp only [x_set, List.set_cons_zero, List.set_cons_succ, x_seqs1, x_seqs0, x_if, x_cmp, x_item, x_var, x_c, List.getElem?_cons_zero, List.getElem?_cons_succ, x_itemL g1, x_itemL g2, x_evCmp, x_ret, x_frz, x_frzV, x_ife, x_neg, cc, Bool.false_eq_true, if_false, e4]
      exact compare_loop hl hm hlen Q k _ (by lia) h0 hr
    · have cc : Cmp.ev .ne (l[k] : Int) (m[k] : Int) = true := decide_eq_true (by omega)
      by_cases hlt : l[k] < m[k]
      · have hcm : cmpN (vl w (l.take k) + 2 ^ (w * k) * l[k]) (vl w (m.take k) + 2 ^ (w * k) * m[k]) = -1 := by
          unfold cmpN
          rw [if_pos (cmp_step (x := 0) (y := 0) b1 b2 hlt)]
        rw [hcm] at hr
        have c2 : Cmp.ev .lt (l[k] : Int) (m[k] : Int) = true := decide_eq_true (by omega)
        simp only [x_set, List.set_cons_zero, List.set_cons_succ, x_seqs1, x_seqs0, x_if, x_cmp, x_item, x_var, x_c, List.getElem?_cons_zero, List.getElem?_cons_succ, x_itemL g1, x_itemL g2, x_evCmp, x_ret, x_frz, x_frzV, x_ife, x_neg, cc, c2, if_true]
        exact hr _
      · have hgt : m[k] < l[k] := by lia
        have hcm : cmpN (vl w (l.take k) + 2 ^ (w * k) * l[k]) (vl w (m.take k) + 2 ^ (w * k) * m[k]) = 1 := by
          have := cmp_step (x := 0) (y := 0) b2 b1 hgt
          unfold cmpN
          rw [if_neg (by omega), if_neg (by omega)]
        rw [hcm] at hr
        have c2 : Cmp.ev .lt (l[k] : Int) (m[k] : Int) = false := decide_eq_false (by omega)
        simp only [x_set, List.set_cons_zero, List.set_cons_succ, x_seqs1, x_seqs0, x_if, x_cmp, x_item, x_var, x_c, List.getElem?_cons_zero, List.getElem?_cons_succ, x_itemL g1, x_itemL g2, x_evCmp, x_ret, x_frz, x_frzV, x_ife, x_neg, cc, c2, if_true, Bool.false_eq_true, if_false]
        exact hr _

theorem len60 {w n : Nat} (hw : 1 ≤ w) (hn : n < 2 ^ 60) : (limbs w n).length ≤ 60 := limbs_len hw 60 n hn

theorem run_compare {w a b : Nat} (hw : 1 ≤ w) (ha : a < 2 ^ 60) (hb : b < 2 ^ 60) : K_compare [L (limbs w a), L (limbs w b)] (.int (cmpN a b)) := by
  refine ⟨rfl, ?_⟩
  unfold Runs b_compare
  have l1 := len60 hw ha
  have l2 := len60 hw hb
  have L0 : LIM = 1048576 := rfl
  have lk : ∀ (ms : MS) (l : List Nat), ms.look (.val (L l)) = some (iz l) := fun _ _ => rfl
  by_cases hlb : (limbs w a).length = (limbs w b).length
  · have e1 : (((limbs w a).length : Int) - 1 - -1).toNat = (limbs w a).length := by omega
    have s1 : Small (((limbs w a).length : Int) - 1) := by unfold Small; omega
    have s2 : Small (-1) := by unfold Small; decide
    have e2 : ((limbs w a).length : Int) - 1 - -1 ≤ (LIM : Nat) := by omega
    have cc : Cmp.ev .ne ((limbs w a).length : Int) ((limbs w b).length : Int) = false := decide_eq_false (by omega)
    have oks : Op.ok .sub ((limbs w a).length : Int) 1 := trivial
    have es : Op.ev .sub ((limbs w a).length : Int) 1 = ((limbs w a).length : Int) - 1 := rfl
    simp only [List.map_cons, List.map_nil, List.cons_append, List.nil_append, List.replicate_succ, List.replicate_zero, x_seqs1, x_seqs0, x_if, x_cmp, x_len, x_var, x_c, List.getElem?_cons_zero, List.getElem?_cons_succ, lk, List.length_map, x_evCmp, cc, Bool.false_eq_true, if_false, x_for, x_rangeD, x_bin, x_neg, x_evBin, oks, es, true_and, s1, s2, e2, e1]
    refine compare_loop (dig_limbs hw a) (dig_limbs hw b) hlb _ (limbs w a).length none (Nat.le_refl _) (fun ms h => ?_) (fun ms => ?_)
    · rw [List.take_length, hlb, List.take_length, vl_limbs hw, vl_limbs hw] at h
      rw [h]
      exact Or.inl rfl
    · rw [List.take_length, hlb, List.take_length, vl_limbs hw, vl_limbs hw]
      exact Or.inl rfl
  · have cc : Cmp.ev .ne ((limbs w a).length : Int) ((limbs w b).length : Int) = true := decide_eq_true (by omega)
    by_cases hlt : (limbs w a).length < (limbs w b).length
    · have : a < b := by
        rcases Nat.lt_or_ge a b with q | q
        · exact q
        · have := limbs_len_mono hw a b q; omega
      have c2 : Cmp.ev .lt ((limbs w a).length : Int) ((limbs w b).length : Int) = true := decide_eq_true (by omega)
      have e : cmpN a b = -1 := if_pos this
      simp only [List.map_cons, List.map_nil, List.cons_append, List.nil_append, List.replicate_succ, List.replicate_zero, x_seqs1, x_seqs0, x_if, x_cmp, x_len, x_var, x_c, List.getElem?_cons_zero, List.getElem?_cons_succ, lk, List.length_map, x_evCmp, cc, c2, if_true, x_ret, x_frz, x_frzV, x_ife, x_neg]
      rw [e]; exact Or.inl rfl
    · have : b < a := by
        rcases Nat.lt_or_ge b a with q | q
        · exact q
        · have := limbs_len_mono hw b a q; omega
      have c2 : Cmp.ev .lt ((limbs w a).length : Int) ((limbs w b).length : Int) = false := decide_eq_false (by omega)
      have e : cmpN a b = 1 := by unfold cmpN; rw [if_neg (by omega), if_neg (by omega)]
      simp only [List.map_cons, List.map_nil, List.cons_append, List.nil_append, List.replicate_succ, List.replicate_zero, x_seqs1, x_seqs0, x_if, x_cmp, x_len, x_var, x_c, List.getElem?_cons_zero, List.getElem?_cons_succ, lk, List.length_map, x_evCmp, cc, c2, if_true, Bool.false_eq_true, if_false, x_ret, x_frz, x_frzV, x_ife, x_neg]
      rw [e]; exact Or.inl rfl
end Mine
end

section
set_option linter.unusedVariables false
set_option linter.unusedSimpArgs false
namespace Mine

theorem ints_snoc (F : List Nat) (x : Nat) : iz (F ++ [x]) = iz F ++ [D.int x] := by simp
theorem ev_add (x y : Nat) : Op.ev .add (x : Int) (y : Int) = ((x + y : Nat) : Int) := by simp [Op.ev]
theorem ev_mul (x y : Nat) : Op.ev .mul (x : Int) (y : Int) = ((x * y : Nat) : Int) := by simp [Op.ev]
theorem ev_band {w M : Nat} (hM : M = 2 ^ w - 1) (x : Nat) : Op.ev .band (x : Int) (M : Int) = ((x % 2 ^ w : Nat) : Int) := by
  subst hM
  show (((x : Int).toNat &&& ((2 ^ w - 1 : Nat) : Int).toNat : Nat) : Int) = _
  rw [Int.toNat_natCast, Int.toNat_natCast, band_mask]
theorem ev_shr (x w : Nat) : Op.ev .shr (x : Int) (w : Int) = ((x / 2 ^ w : Nat) : Int) := by
  show (x : Int) / 2 ^ (w : Int).toNat = _
  rw [Int.toNat_natCast]; simp
theorem ev_shl (x w : Nat) : Op.ev .shl (x : Int) (w : Int) = ((x * 2 ^ w : Nat) : Int) := by
  show (x : Int) * 2 ^ (w : Int).toNat = _
  rw [Int.toNat_natCast]; simp
theorem ev_mask {w : Nat} : Op.ev .sub (Op.ev .shl 1 (w : Int)) 1 = ((2 ^ w - 1 : Nat) : Int) := by
  have := ev_shl 1 w
  rw [show ((1 : Nat) : Int) = 1 from rfl] at this
  rw [this, Nat.one_mul]
  show ((2 ^ w : Nat) : Int) - 1 = _
  have : 1 ≤ 2 ^ w := Nat.one_le_two_pow
  omega
theorem ev_base {w : Nat} : Op.ev .shl 1 (w : Int) = ((2 ^ w : Nat) : Int) := by
  have := ev_shl 1 w
  rw [show ((1 : Nat) : Int) = 1 from rfl, Nat.one_mul] at this
  exact this

/-- one limb of a sum goes out -/
theorem carry_step {w c s V i F : Nat} (h : F + 2 ^ (w * i) * c = V) (x : Nat) : F + 2 ^ (w * i) * ((c + x) % 2 ^ w) + 2 ^ (w * (i + 1)) * ((c + x) / 2 ^ w) = V + 2 ^ (w * i) * x := by
  rw [Nat.mul_add w, Nat.mul_one, Nat.pow_add, Nat.mul_assoc, Nat.add_assoc, ← Nat.mul_add, Nat.mod_add_div, Nat.mul_add, ← Nat.add_assoc, h]

theorem add_loop1 {w M : Nat} (hw : 1 ≤ w) (hw2 : w ≤ 60) (hM : M = 2 ^ w - 1) {a b : List Nat} (ha : Dig w a) (hb : Dig w b) (hab : b.length ≤ a.length) (hal : a.length ≤ 100) (Q : Fl → MS → Prop) :
    ∀ (j i : Nat) (F : List Nat) (c : Nat) (o : Option RV), i + j = b.length → F.length = i → Dig w F → c ≤ 1 → vl w F + 2 ^ (w * i) * c = vl w (a.take i) + vl w (b.take i) →
    (∀ (F : List Nat) (c : Nat) (o : Option RV), F.length = b.length → Dig w F → c ≤ 1 → vl w F + 2 ^ (w * b.length) * c = vl w (a.take b.length) + vl w b →
      Q .next ⟨[some (.val (L a)), some (.val (L b)), some (.val (.int (w : Nat))), some (.ptr 0), some (.val (.int (c : Nat))), some (.val (.int (M : Nat))), o], [.lst (iz F)]⟩) →
    forGo (bind1 6) (tSeqs [(tAug 4 .add (tBin .add (tItem (tVar 0) (tVar 6)) (tItem (tVar 1) (tVar 6)))), (tApp 3 (tFrz 0 (tBin .band (tVar 4) (tVar 5)))), (tAug 4 .shr (tVar 2))])
      (dInts (i : Int) 1 j) ⟨[some (.val (L a)), some (.val (L b)), some (.val (.int (w : Nat))), some (.ptr 0), some (.val (.int (c : Nat))), some (.val (.int (M : Nat))), o], [.lst (iz F)]⟩ Q
  | 0, i, F, c, o, hi, hF, hd, hc, hv, hQ => by
    have : i = b.length := by omega
    subst this
    rw [List.take_length] at hv
    exact hQ F c o hF hd hc hv
  | j + 1, i, F, c, o, hi, hF, hd, hc, hv, hQ => by
    have e2 : ¬ ((i : Int) < 0) := by lia
    have e3 : (0 : Int) ≤ i := by lia
    have g1 : a[i]? = some a[i] := List.getElem?_eq_getElem (by lia)
    have g2 : b[i]? = some b[i] := List.getElem?_eq_getElem (by lia)
    have x1 := ha a[i] (List.getElem_mem ..)
    have x2 := hb b[i] (List.getElem_mem ..)
    have t1 := vl_take_succ (w := w) (l := a) (k := i) (by lia)
    have t2 := vl_take_succ (w := w) (l := b) (k := i) (by lia)
    have L0 : LIM = 1048576 := rfl
    rw [dInts_succ, x_forB]
    have e5 : F.length < LIM := by lia
    have okb : ∀ x y : Nat, Op.ok .band (x : Int) (y : Int) := fun x y => ⟨Int.natCast_nonneg x, Int.natCast_nonneg y⟩
    have oks : ∀ x : Nat, Op.ok .shr (x : Int) (w : Int) := fun x => ⟨by lia, by lia⟩
    have oka : ∀ x y : Int, Op.ok .add x y := fun _ _ => trivial
    simp only [x_bind1, x_set, x_seqs1, x_seqs0, x_aug, x_bin, x_item, x_var, List.set_cons_succ, List.set_cons_zero, List.getElem?_cons_succ, List.getElem?_cons_zero, x_itemL g1, x_itemL g2, e2, if_false, e3, true_and, List.getElem?_map, Int.toNat_natCast, g1, g2, Option.map_some, Option.some.injEq, exists_eq_left', bin_E (oka _ _) (ev_add _ _), x_app, x_frz, x_frzV, x_frzP, bin_E (okb _ _) (ev_band hM _), x_setC, List.length_map, e5, bin_E (oks _) (ev_shr _ _)]
    refine ⟨⟨_, rfl⟩, ?_⟩
    have hadd := carry_step (s := 0) hv (a[i] + b[i])
    have hlt : c + (a[i] + b[i]) < 2 * 2 ^ w := by lia
    have hm : (c + (a[i] + b[i])) % 2 ^ w < 2 ^ w := Nat.mod_lt _ (by have := two_le hw; lia)
    have e6 : (i : Int) + 1 = ((i + 1 : Nat) : Int) := by lia
    rw [e6]
    have key := add_loop1 hw hw2 hM ha hb hab hal Q j (i + 1) (F ++ [(c + (a[i] + b[i])) % 2 ^ w]) ((c + (a[i] + b[i])) / 2 ^ w) (some (.val (.int (i : Nat)))) (by lia) (by simp [hF]) (fun x hx => by
      rcases List.mem_append.mp hx with hx | hx
      · exact hd x hx
      · rw [List.mem_singleton.mp hx]; exact hm) (by
        have := Nat.div_lt_iff_lt_mul (k := 2 ^ w) (x := c + (a[i] + b[i])) (y := 2) (by have := two_le hw; lia)
        lia) (by
        rw [vl_append, hF, t1, t2]
        simp only [vl, Nat.mul_zero, Nat.add_zero]
        rw [hadd, Nat.mul_add]
        lia) hQ
    rw [ints_snoc] at key
    exact key

theorem add_loop2 {w M : Nat} (hw : 1 ≤ w) (hw2 : w ≤ 60) (hM : M = 2 ^ w - 1) {a : List Nat} (ha : Dig w a) {V : Nat} (vb : RV) (hal : a.length ≤ 100) (Q : Fl → MS → Prop) :
    ∀ (j i : Nat) (F : List Nat) (c : Nat) (o : Option RV), i + j = a.length → F.length = i → Dig w F → c ≤ 1 → vl w F + 2 ^ (w * i) * c = vl w (a.take i) + V →
    (∀ (F : List Nat) (c : Nat) (o : Option RV), F.length = a.length → Dig w F → c ≤ 1 → vl w F + 2 ^ (w * a.length) * c = vl w a + V →
      Q .next ⟨[some (.val (L a)), some vb, some (.val (.int (w : Nat))), some (.ptr 0), some (.val (.int (c : Nat))), some (.val (.int (M : Nat))), o], [.lst (iz F)]⟩) →
    forGo (bind1 6) (tSeqs [(tAug 4 .add (tItem (tVar 0) (tVar 6))), (tApp 3 (tFrz 0 (tBin .band (tVar 4) (tVar 5)))), (tAug 4 .shr (tVar 2))])
      (dInts (i : Int) 1 j) ⟨[some (.val (L a)), some vb, some (.val (.int (w : Nat))), some (.ptr 0), some (.val (.int (c : Nat))), some (.val (.int (M : Nat))), o], [.lst (iz F)]⟩ Q
  | 0, i, F, c, o, hi, hF, hd, hc, hv, hQ => by
    have : i = a.length := by omega
    subst this
    rw [List.take_length] at hv
    exact hQ F c o hF hd hc hv
  | j + 1, i, F, c, o, hi, hF, hd, hc, hv, hQ => by
    have e2 : ¬ ((i : Int) < 0) := by lia
    have e3 : (0 : Int) ≤ i := by lia
    have g1 : a[i]? = some a[i] := List.getElem?_eq_getElem (by lia)
    have x1 := ha a[i] (List.getElem_mem ..)
    have t1 := vl_take_succ (w := w) (l := a) (k := i) (by lia)
    have L0 : LIM = 1048576 := rfl
    rw [dInts_succ, x_forB]
    have e5 : F.length < LIM := by lia
    have okb : ∀ x y : Nat, Op.ok .band (x : Int) (y : Int) := fun x y => ⟨Int.natCast_nonneg x, Int.natCast_nonneg y⟩
    have oks : ∀ x : Nat, Op.ok .shr (x : Int) (w : Int) := fun x => ⟨by lia, by lia⟩
    have oka : ∀ x y : Int, Op.ok .add x y := fun _ _ => trivial
    simp only [x_bind1, x_set, x_seqs1, x_seqs0, x_aug, x_bin, x_item, x_var, List.set_cons_succ, List.set_cons_zero, List.getElem?_cons_succ, List.getElem?_cons_zero, x_itemL g1, e2, if_false, e3, true_and, List.getElem?_map, Int.toNat_natCast, g1, Option.map_some, Option.some.injEq, exists_eq_left', bin_E (oka _ _) (ev_add _ _), x_app, x_frz, x_frzV, x_frzP, bin_E (okb _ _) (ev_band hM _), x_setC, List.length_map, e5, bin_E (oks _) (ev_shr _ _)]
    refine ⟨⟨_, rfl⟩, ?_⟩
    have hadd := carry_step (s := 0) hv a[i]
    have hlt : c + a[i] < 2 * 2 ^ w := by have := two_le hw; lia
    have hm : (c + a[i]) % 2 ^ w < 2 ^ w := Nat.mod_lt _ (by have := two_le hw; lia)
    have e6 : (i : Int) + 1 = ((i + 1 : Nat) : Int) := by lia
    rw [e6]
    have key := add_loop2 hw hw2 hM ha vb hal Q j (i + 1) (F ++ [(c + a[i]) % 2 ^ w]) ((c + a[i]) / 2 ^ w) (some (.val (.int (i : Nat)))) (by lia) (by simp [hF]) (fun x hx => by
      rcases List.mem_append.mp hx with hx | hx
      · exact hd x hx
      · rw [List.mem_singleton.mp hx]; exact hm) (by
        have := Nat.div_lt_iff_lt_mul (k := 2 ^ w) (x := c + a[i]) (y := 2) (by have := two_le hw; lia)
        lia) (by
        rw [vl_append, hF, t1]
        simp only [vl, Nat.mul_zero, Nat.add_zero]
        rw [hadd]
        lia) hQ
    rw [ints_snoc] at key
    exact key

/-- digits with a number big enough are the number's own -/
theorem limbs_big {w : Nat} (hw : 1 ≤ w) {F : List Nat} (hd : Dig w F) (h : F = [] ∨ 2 ^ (w * (F.length - 1)) ≤ vl w F) : F = limbs w (vl w F) := by
  rcases List.eq_nil_or_concat F with rfl | ⟨G, x, rfl⟩
  · rfl
  · rw [List.concat_eq_append] at *
    rcases h with h | h
    · simp at h
    · refine limbs_of hw (fun e => ?_) hd
      subst e
      rw [vl_append] at h
      simp [vl] at h
      have := vl_lt G (fun a ha => hd a (List.mem_append.mpr (.inl ha)))
      lia
theorem limbs_low {w n : Nat} (hw : 1 ≤ w) (hn : n ≠ 0) : 2 ^ (w * ((limbs w n).length - 1)) ≤ n := by
  induction n using limbs_ind hw with
  | h0 => exact absurd rfl hn
  | hs n _ ih =>
    rw [limbs_pos hw hn, List.length_cons, Nat.add_sub_cancel]
    by_cases h : n / 2 ^ w = 0
    · rw [h, limbs_zero]; simp; lia
    · have := ih h
      have hl : 0 < (limbs w (n / 2 ^ w)).length := (limbs_len_pos hw).mpr (Nat.pos_of_ne_zero h)
      obtain ⟨k, hk⟩ : ∃ k, (limbs w (n / 2 ^ w)).length = k + 1 := ⟨_, (Nat.succ_pred_eq_of_pos hl).symm⟩
      rw [hk] at this ⊢
      rw [Nat.add_sub_cancel] at this
      rw [Nat.mul_add, Nat.mul_one, Nat.pow_add]
      calc 2 ^ (w * k) * 2 ^ w ≤ (n / 2 ^ w) * 2 ^ w := Nat.mul_le_mul_right _ this
        _ ≤ n := Nat.div_mul_le_self _ _

theorem add_core {w M : Nat} (hw : 1 ≤ w) (hw2 : w ≤ 60) (hM : M = 2 ^ w - 1) {a b : Nat} (hba : (limbs w b).length ≤ (limbs w a).length) (ha : a < 2 ^ 60) (Q : Fl → MS → Prop) (hQ : ∀ ms, Q (.ret (L (limbs w (a + b)))) ms) :
    tSeqs [(tMulti [3, 4, 5] [(tLst []), (tC (.int 0)), (tBin .sub (tBin .shl (tC (.int 1)) (tVar 2)) (tC (.int 1)))]),
  (tFor (tRange1 (tLen (tVar 1))) (bind1 6)
  (tSeqs [(tAug 4 .add (tBin .add (tItem (tVar 0) (tVar 6)) (tItem (tVar 1) (tVar 6)))),
  (tApp 3 (tFrz 0 (tBin .band (tVar 4) (tVar 5)))),
  (tAug 4 .shr (tVar 2))])),
  (tFor (tRange2 (tLen (tVar 1)) (tLen (tVar 0))) (bind1 6)
  (tSeqs [(tAug 4 .add (tItem (tVar 0) (tVar 6))),
  (tApp 3 (tFrz 0 (tBin .band (tVar 4) (tVar 5)))),
  (tAug 4 .shr (tVar 2))])),
  (tIf (tCmp .gt (tVar 4) (tC (.int 0)))
  (tSeqs [(tApp 3 (tFrz 0 (tVar 4)))])
  (tSeqs [])),
  (tRet (tFrz 0 (tVar 3)))] ⟨[some (.val (L (limbs w a))), some (.val (L (limbs w b))), some (.val (.int (w : Nat))), none, none, none, none], []⟩ Q := by
  have L0 : LIM = 1048576 := rfl
  have l1 := len60 hw ha
  have oks : Op.ok .shl 1 (w : Int) := ⟨by lia, by lia, by decide⟩
  have oku : ∀ x y : Int, Op.ok .sub x y := fun _ _ => trivial
  have s1 : Small ((limbs w b).length : Int) := by unfold Small; lia
  have s2 : Small ((limbs w a).length : Int) := by unfold Small; lia
  have s3 : ((limbs w b).length : Int) ≤ (LIM : Nat) := by lia
  have s4 : ((limbs w a).length : Int) - ((limbs w b).length : Int) ≤ (LIM : Nat) := by lia
  have m0 : Op.ev .sub (Op.ev .shl 1 (w : Int)) 1 = (M : Nat) := by rw [ev_mask, hM]
  have e0 : (((limbs w a).length : Int) - (limbs w b).length).toNat = (limbs w a).length - (limbs w b).length := by lia
  simp only [x_frzV, x_frzP, x_seqs1, x_multi, x_rvs1, x_rvs0, x_lst, x_args0, x_addC, x_c, x_bin, x_var, x_evBin, oks, oku, true_and, m0, x_setAll1, x_setAll0, x_set, List.set_cons_succ, List.set_cons_zero, List.getElem?_cons_succ, List.getElem?_cons_zero, List.length_nil, List.nil_append,
    x_for, x_range1, x_len, x_lookV, List.length_map, s1, s3, Int.toNat_natCast]
  refine add_loop1 hw hw2 hM (dig_limbs hw a) (dig_limbs hw b) hba (by lia) _ (limbs w b).length 0 [] 0 none (by lia) rfl (fun x hx => by cases hx) (by lia) (by simp [vl]) ?_
  intro F c o hF hd hc hv
  simp only [x_frzV, x_frzP, x_range2, x_len, x_var, List.getElem?_cons_succ, List.getElem?_cons_zero, x_lookV, List.length_map, s1, s2, s4, true_and, e0]
  rw [vl_limbs hw] at hv
  refine add_loop2 hw hw2 hM (dig_limbs hw a) (V := b) _ (by lia) _ ((limbs w a).length - (limbs w b).length) (limbs w b).length F c o (by lia) hF hd hc hv ?_
  intro F c o hF hd hc hv
  rw [vl_limbs hw] at hv
  by_cases h0 : c = 0
  · subst h0
    have hfin : F = limbs w (a + b) := by
      rw [Nat.mul_zero, Nat.add_zero] at hv
      rw [← hv]
      refine limbs_big hw hd ?_
      by_cases hz : a = 0
      · left
        subst hz
        rw [limbs_zero] at hF
        exact List.length_eq_zero_iff.mp hF
      · right
        have := limbs_low hw hz
        rw [hF, hv]; lia
    have c1 : ¬ ((0 : Int) < ((0 : Nat) : Int)) := by lia
    simp [Cmp.ev]
    rw [hfin]; exact hQ _
  · have hc1 : c = 1 := by lia
    subst hc1
    have hfin : F ++ [1] = limbs w (a + b) := by
      have hv' : vl w (F ++ [1]) = a + b := by rw [vl_append, hF]; simpa [vl] using hv
      rw [← hv']
      exact limbs_of hw (by decide) (fun x hx => by
        rcases List.mem_append.mp hx with hx | hx
        · exact hd x hx
        · rw [List.mem_singleton.mp hx]; exact Nat.lt_of_lt_of_le (by decide) (two_le hw))
    have e5 : F.length < LIM := by lia
    simp [Cmp.ev, e5]
    have := hQ ⟨[some (.val (L (limbs w a))), some (.val (L (limbs w b))), some (.val (.int (w : Nat))), some (.ptr 0), some (.val (.int 1)), some (.val (.int (M : Nat))), o], [.dead]⟩
    rw [← hfin] at this
    have e : L (F ++ [1]) = D.lst (iz F ++ [D.int 1]) := by show D.lst (iz (F ++ [1])) = _; rw [ints_snoc]; rfl
    rw [e] at this
    exact this

theorem run_add {w a b : Nat} (hw : 1 ≤ w) (hw2 : w ≤ 60) (ha : a < 2 ^ 60) (hb : b < 2 ^ 60) : K_add [L (limbs w a), L (limbs w b), .int (w : Nat)] (L (limbs w (a + b))) := by
  refine ⟨rfl, ?_⟩
  unfold Runs b_add
  rw [x_seqs1]
  simp only [x_frzV, x_frzP, x_if, x_cmp, x_len, x_var, List.map_cons, List.map_nil, List.cons_append, List.nil_append, List.getElem?_cons_succ, List.getElem?_cons_zero, x_lookV, x_evCmp, List.replicate_succ, List.replicate_zero, List.length_map]
  by_cases h : (limbs w a).length < (limbs w b).length
  · have h' : Cmp.ev .lt ((limbs w a).length : Int) ((limbs w b).length : Int) = true := by simp [Cmp.ev]; exact h
    rw [if_pos h']
    simp only [x_frzV, x_frzP, x_seqs1, x_multi, x_rvs1, x_rvs0, x_var, List.getElem?_cons_succ, List.getElem?_cons_zero, x_setAll1, x_setAll0, x_set, List.set_cons_succ, List.set_cons_zero]
    have := add_core hw hw2 (M := 2 ^ w - 1) rfl (a := b) (b := a) (by lia) hb (fun f _ => f = .ret (L (limbs w (a + b))) ∨ f = .next ∧ L (limbs w (a + b)) = .none) (fun ms => by rw [Nat.add_comm b a]; exact Or.inl rfl)
    exact this
  · have h' : ¬ (Cmp.ev .lt ((limbs w a).length : Int) ((limbs w b).length : Int) = true) := by simp [Cmp.ev]; lia
    rw [if_neg h']
    exact add_core hw hw2 (M := 2 ^ w - 1) rfl (by lia) ha _ (fun ms => .inl rfl)
end Mine
end

section
set_option linter.unusedVariables false
set_option linter.unusedSimpArgs false
namespace Mine

theorem vl_take_getD {w : Nat} (l : List Nat) (k : Nat) : vl w (l.take (k + 1)) = vl w (l.take k) + 2 ^ (w * k) * l.getD k 0 := by
  by_cases h : k < l.length
  · rw [vl_take_succ h, List.getD_eq_getElem?_getD, List.getElem?_eq_getElem h]; rfl
  · rw [List.take_of_length_le (by lia), List.take_of_length_le (by lia), List.getD_eq_getElem?_getD, List.getElem?_eq_none (by lia)]; simp

theorem sub_loop {w : Nat} (hw : 1 ≤ w) (hw2 : w ≤ 60) {a b : List Nat} (ha : Dig w a) (hb : Dig w b) (hal : a.length ≤ 100) (Q : Fl → MS → Prop) :
    ∀ (j i : Nat) (F : List Nat) (r : Nat) (o p : Option RV), i + j = a.length → F.length = i → Dig w F → r ≤ 1 → vl w F + vl w (b.take i) = vl w (a.take i) + 2 ^ (w * i) * r - 2 ^ (w * i) * r * 0 + 0 →
    vl w F + vl w (b.take i) = vl w (a.take i) + 2 ^ (w * i) * r →
    (∀ (F : List Nat) (r : Nat) (o p : Option RV), F.length = a.length → Dig w F → r ≤ 1 → vl w F + vl w (b.take a.length) = vl w a + 2 ^ (w * a.length) * r →
      Q .next ⟨[some (.val (L a)), some (.val (L b)), some (.val (.int (w : Nat))), some (.ptr 0), some (.val (.int (r : Nat))), some (.val (.int ((2 ^ w : Nat) : Int))), o, p], [.lst (iz F)]⟩) →
    forGo (bind1 6) (tSeqs [(tAsg 7 (tBin .sub (tBin .sub (tItem (tVar 0) (tVar 6)) (tVar 4)) (tIfE (tCmp .lt (tVar 6) (tLen (tVar 1))) (tItem (tVar 1) (tVar 6)) (tC (.int 0))))),
      (tAsg 4 (tIfE (tCmp .lt (tVar 7) (tC (.int 0))) (tC (.int 1)) (tC (.int 0)))),
      (tApp 3 (tFrz 0 (tIfE (tCmp .lt (tVar 7) (tC (.int 0))) (tBin .add (tVar 7) (tVar 5)) (tVar 7))))])
      (dInts (i : Int) 1 j) ⟨[some (.val (L a)), some (.val (L b)), some (.val (.int (w : Nat))), some (.ptr 0), some (.val (.int (r : Nat))), some (.val (.int ((2 ^ w : Nat) : Int))), o, p], [.lst (iz F)]⟩ Q
  | 0, i, F, r, o, p, hi, hF, hd, hr, _, hv, hQ => by
    have : i = a.length := by omega
    subst this
    rw [List.take_length] at hv
    exact hQ F r o p hF hd hr hv
  | j + 1, i, F, r, o, p, hi, hF, hd, hr, _, hv, hQ => by
    have e2 : ¬ ((i : Int) < 0) := by lia
    have e3 : (0 : Int) ≤ i := by lia
    have g1 : a[i]? = some a[i] := List.getElem?_eq_getElem (by lia)
    have x1 := ha a[i] (List.getElem_mem ..)
    have t1 := vl_take_succ (w := w) (l := a) (k := i) (by omega)
    have t2 := vl_take_getD (w := w) b i
    have L0 : LIM = 1048576 := rfl
    have e5 : F.length < LIM := by lia
    have oka : ∀ x y : Int, Op.ok .add x y := fun _ _ => trivial
    have oku : ∀ x y : Int, Op.ok .sub x y := fun _ _ => trivial
    have e6 : (i : Int) + 1 = ((i + 1 : Nat) : Int) := by lia
    have hy : b.getD i 0 < 2 ^ w := by
      by_cases h : i < b.length
      · rw [List.getD_eq_getElem?_getD, List.getElem?_eq_getElem h]; exact hb _ (List.getElem_mem ..)
      · rw [List.getD_eq_getElem?_getD, List.getElem?_eq_none (by lia)]; have := two_le hw; simp; lia
    -- what b gives
    have hB : ∀ (fr : List (Option RV)) (cs : List Cell) (P : RV → MS → Prop), fr[1]? = some (some (.val (L b))) → fr[6]? = some (some (.val (.int (i : Nat)))) → P (.val (.int (b.getD i 0 : Nat))) ⟨fr, cs⟩ →
        tIfE (tCmp .lt (tVar 6) (tLen (tVar 1))) (tItem (tVar 1) (tVar 6)) (tC (.int 0)) ⟨fr, cs⟩ P := by
      intro fr cs P h1 h6 hP
      simp only [x_frzV, x_frzP, x_ife, x_cmp, x_var, x_len, h1, h6, x_lookV, x_evCmp, List.length_map]
      by_cases h : i < b.length
      · have : Cmp.ev .lt (i : Int) (b.length : Int) = true := by simp [Cmp.ev]; exact h
        rw [if_pos this]
        have g2 : b[i]? = some b[i] := List.getElem?_eq_getElem h
        simp only [x_frzV, x_frzP, x_item, x_var, h1, h6, x_evItemL, e2, if_false, e3, true_and, List.getElem?_map, Int.toNat_natCast, g2, Option.map_some, Option.some.injEq, exists_eq_left']
        rw [List.getD_eq_getElem?_getD, g2] at hP; exact hP
      · have : ¬ (Cmp.ev .lt (i : Int) (b.length : Int) = true) := by simp [Cmp.ev]; lia
        rw [if_neg this]
        rw [List.getD_eq_getElem?_getD, List.getElem?_eq_none (by lia)] at hP; exact hP
    generalize hyy : b.getD i 0 = y at *
    rw [dInts_succ, x_forB]
    simp only [x_frzV, x_frzP, x_bind1, x_set, x_seqs1, x_seqs0, x_asg, x_bin, x_item, x_var, List.set_cons_succ, List.set_cons_zero, List.getElem?_cons_succ, List.getElem?_cons_zero, x_itemL g1, e2, if_false, e3, true_and, List.getElem?_map, Int.toNat_natCast, g1, Option.map_some, Option.some.injEq, exists_eq_left', bin_E (oku _ _) rfl]
    refine hB _ _ _ rfl rfl ?_
    simp only [x_frzV, x_frzP, bin_E (oku _ _) rfl, true_and, x_set, List.set_cons_succ, List.set_cons_zero, x_ife, x_cmp, x_var, x_c, x_evCmp, List.getElem?_cons_succ, List.getElem?_cons_zero]
    by_cases hneg : (a[i] : Int) - (r : Int) - (y : Int) < 0
    · have hc : Cmp.ev .lt (Op.ev .sub (Op.ev .sub (a[i] : Int) (r : Int)) (y : Int)) 0 = true := decide_eq_true (by simp only [Op.ev]; omega)
      have hv' : Op.ev .add (Op.ev .sub (Op.ev .sub (a[i] : Int) (r : Int)) (y : Int)) ((2 ^ w : Nat) : Int) = ((2 ^ w + a[i] - r - y : Nat) : Int) := by simp only [Op.ev]; lia
      simp only [hc, if_true, x_app, x_frz, x_frzV, x_frzP, x_ife, x_cmp, x_var, x_c, x_evCmp, x_bin, bin_E (oka _ _) rfl, true_and, hv', x_setC, List.set_cons_succ, List.set_cons_zero, List.getElem?_cons_succ, List.getElem?_cons_zero, List.length_map, e5]
      refine ⟨⟨_, rfl⟩, ?_⟩
      rw [e6]
      have hdg : 2 ^ w + a[i] - r - y < 2 ^ w := by lia
      have hnew : vl w (F ++ [2 ^ w + a[i] - r - y]) + vl w (b.take (i + 1)) = vl w (a.take (i + 1)) + 2 ^ (w * (i + 1)) * 1 := by
        rw [vl_append, hF, t1, t2]
        simp only [vl, Nat.mul_zero, Nat.add_zero, Nat.mul_one]
        rw [Nat.mul_add w, Nat.mul_one, Nat.pow_add]
        have hh : 2 ^ (w * i) * (2 ^ w + a[i] - r - y) + 2 ^ (w * i) * y + 2 ^ (w * i) * r = 2 ^ (w * i) * a[i] + 2 ^ (w * i) * 2 ^ w := by
          rw [← Nat.mul_add, ← Nat.mul_add, ← Nat.mul_add]; congr 1; lia
        lia
      have key := sub_loop hw hw2 ha hb hal Q j (i + 1) (F ++ [2 ^ w + a[i] - r - y]) 1 (some (.val (.int (i : Nat)))) (some (.val (.int (Op.ev .sub (Op.ev .sub (a[i] : Int) (r : Int)) (y : Int))))) (by lia) (by simp [hF]) (fun x hx => by
        rcases List.mem_append.mp hx with hx | hx
        · exact hd x hx
        · rw [List.mem_singleton.mp hx]; exact hdg) (by lia) (by rw [hnew]; simp) hnew hQ
      rw [ints_snoc] at key
      exact key
    · have hc : Cmp.ev .lt (Op.ev .sub (Op.ev .sub (a[i] : Int) (r : Int)) (y : Int)) 0 = false := decide_eq_false (by simp only [Op.ev]; omega)
      have hv' : Op.ev .sub (Op.ev .sub (a[i] : Int) (r : Int)) (y : Int) = ((a[i] - r - y : Nat) : Int) := by simp only [Op.ev]; lia
      rw [hv'] at hc ⊢
      simp only [hc, Bool.false_eq_true, if_false, x_app, x_frz, x_frzV, x_frzP, x_ife, x_cmp, x_var, x_c, x_evCmp, x_bin, bin_E (oka _ _) rfl, true_and, x_setC, List.set_cons_succ, List.set_cons_zero, List.getElem?_cons_succ, List.getElem?_cons_zero, List.length_map, e5]
      refine ⟨⟨_, rfl⟩, ?_⟩
      rw [e6]
      have hdg : a[i] - r - y < 2 ^ w := by lia
      have hnew : vl w (F ++ [a[i] - r - y]) + vl w (b.take (i + 1)) = vl w (a.take (i + 1)) + 2 ^ (w * (i + 1)) * 0 := by
        rw [vl_append, hF, t1, t2]
        simp only [vl, Nat.mul_zero, Nat.add_zero, Nat.mul_one]
        have hh : 2 ^ (w * i) * (a[i] - r - y) + 2 ^ (w * i) * y + 2 ^ (w * i) * r = 2 ^ (w * i) * a[i] := by
          rw [← Nat.mul_add, ← Nat.mul_add]; congr 1; lia
        lia
      have key := sub_loop hw hw2 ha hb hal Q j (i + 1) (F ++ [a[i] - r - y]) 0 (some (.val (.int (i : Nat)))) (some (.val (.int ((a[i] - r - y : Nat) : Int)))) (by lia) (by simp [hF]) (fun x hx => by
        rcases List.mem_append.mp hx with hx | hx
        · exact hd x hx
        · rw [List.mem_singleton.mp hx]; exact hdg) (by lia) (by rw [hnew]; simp) hnew hQ
      rw [ints_snoc] at key
      exact key

theorem run_sub {w a b : Nat} (hw : 1 ≤ w) (hw2 : w ≤ 60) (ha : a < 2 ^ 60) (hb : b ≤ a) : K_sub [L (limbs w a), L (limbs w b), .int (w : Nat)] (L (limbs w (a - b))) := by
  refine ⟨rfl, ?_⟩
  unfold Runs b_sub
  have L0 : LIM = 1048576 := rfl
  have l1 := len60 hw ha
  have hlen := limbs_len_mono hw a b hb
  have oks : Op.ok .shl 1 (w : Int) := ⟨by lia, by lia, by decide⟩
  have s2 : Small ((limbs w a).length : Int) := by unfold Small; lia
  have s3 : ((limbs w a).length : Int) ≤ (LIM : Nat) := by lia
  have hc : Cmp.ev .lt (cmpN a b) 0 = false := by
    unfold cmpN
    rw [if_neg (by lia)]
    split <;> simp [Cmp.ev]
  simp only [List.map_cons, List.map_nil, List.cons_append, List.nil_append, List.replicate_succ, List.replicate_zero, x_seqs1, x_if, x_cmp, x_call, x_args1, x_args0, x_frz, x_frzV, x_frzP, x_var, List.getElem?_cons_succ, List.getElem?_cons_zero]
  refine ⟨_, run_compare hw ha (by lia), ?_⟩
  simp only [x_frzV, x_frzP, x_c, x_evCmp, hc, Bool.false_eq_true, if_false, x_seqs1, x_seqs0, x_multi, x_rvs1, x_rvs0, x_lst, x_args0, x_addC, x_bin, x_var, bin_E oks ev_base, true_and, x_setAll1, x_setAll0, x_set, List.set_cons_succ, List.set_cons_zero, List.getElem?_cons_succ, List.getElem?_cons_zero, List.length_nil, List.nil_append,
    x_for, x_range1, x_len, x_lookV, List.length_map, s2, s3, Int.toNat_natCast]
  refine sub_loop hw hw2 (dig_limbs hw a) (dig_limbs hw b) (by lia) _ (limbs w a).length 0 [] 0 none none (by lia) rfl (fun x hx => by cases hx) (by lia) (by simp [vl]) (by simp [vl]) ?_
  intro F r o p hF hd hr hv
  rw [vl_limbs hw, List.take_of_length_le hlen, vl_limbs hw] at hv
  have hlt := vl_lt F hd
  rw [hF] at hlt
  have hr0 : r = 0 := by
    rcases Nat.lt_or_ge r 1 with q | q
    · lia
    · have : r = 1 := by lia
      subst this; lia
  subst hr0
  have hval : vl w F = a - b := by lia
  simp only [x_ret, x_frz, x_frzV, x_frzP, x_call, x_args1, x_args0, x_var, List.getElem?_cons_succ, List.getElem?_cons_zero, x_setC, Nat.le_refl, true_and]
  refine ⟨_, run_normal F, ?_⟩
  rw [strip_limbs hw F hd, hval]
  exact Or.inl rfl
end Mine
end

section
set_option linter.unusedVariables false
set_option linter.unusedSimpArgs false
namespace Mine
/-- a whole number with its sign -/
noncomputable def sgn (w : Nat) (z : Int) : D := .tup [.bool (decide (z < 0)), L (limbs w z.natAbs)]

theorem run_signed (b : Bool) (l : List Nat) : K_signed [.bool b, L l] (.tup [.bool (b && decide (0 < l.length)), L l]) := by
  refine ⟨rfl, ?_⟩
  unfold Runs b_signed
  cases b <;> simp [Cmp.ev]

theorem signed_is {w : Nat} (hw : 1 ≤ w) {b : Bool} {n : Nat} {z : Int} (hz : z.natAbs = n) (hb : (b && decide (0 < n)) = decide (z < 0)) : K_signed [.bool b, L (limbs w n)] (sgn w z) := by
  have := run_signed b (limbs w n)
  have e : decide (0 < (limbs w n).length) = decide (0 < n) := decide_eq_decide.mpr (limbs_len_pos hw)
  rw [e, hb] at this
  unfold sgn
  rw [hz]; exact this

theorem run_s_neg {w : Nat} (hw : 1 ≤ w) (z : Int) : K_s_neg [sgn w z] (sgn w (-z)) := by
  refine ⟨rfl, ?_⟩
  unfold Runs b_s_neg
  simp only [List.map_cons, List.map_nil, List.cons_append, List.nil_append, List.replicate_zero, x_seqs1, x_ret, x_frz, x_frzV, x_frzP, x_call, x_args1, x_args0, x_boolV, x_not, x_truth, x_item, x_var, x_c, List.getElem?_cons_zero, sgn, x_evItemT]
  refine ⟨by decide, _, rfl, ?_⟩
  refine ⟨by decide, _, rfl, ?_⟩
  refine ⟨_, signed_is hw (z := -z) (by omega) ?_, Or.inl rfl⟩
  rcases Int.lt_trichotomy z 0 with h | h | h
  · have h1 : ¬ (-z < 0) := by omega
    simp [h, h1]; omega
  · subst h; rfl
  · have h1 : -z < 0 := by omega
    have h2 : ¬ z < 0 := by omega
    have h3 : 0 < z.natAbs := by omega
    simp [h1, h2, h3]; omega

noncomputable def sign (z : Int) : Int := if z = 0 then 0 else if z < 0 then -1 else 1
theorem run_s_sign {w : Nat} (hw : 1 ≤ w) (z : Int) : K_s_sign [sgn w z] (.int (sign z)) := by
  refine ⟨rfl, ?_⟩
  unfold Runs b_s_sign
  simp only [x_frzV, x_frzP, List.map_cons, List.map_nil, List.cons_append, List.nil_append, List.replicate_zero, x_seqs1, x_if, x_cmp, x_len, x_item, x_var, x_c, List.getElem?_cons_zero, sgn, x_evItemT]
  refine ⟨by decide, _, rfl, ?_⟩
  simp only [x_frzV, x_frzP, x_lookV, x_evCmp, List.length_map]
  by_cases h : z = 0
  · subst h
    simp [Cmp.ev, limbs_zero, sign]
  · have hp : 0 < (limbs w z.natAbs).length := (limbs_len_pos hw).mpr (by omega)
    have hc : Cmp.ev .eq ((limbs w z.natAbs).length : Int) 0 = false := decide_eq_false (by omega)
    simp only [hc, Bool.false_eq_true, if_false, x_seqs0, x_seqs1, x_ret, x_frz, x_frzV, x_frzP, x_ife, x_truth, x_item, x_var, x_c, List.getElem?_cons_zero, x_evItemT, x_neg]
    refine ⟨by decide, _, rfl, ?_⟩
    by_cases h2 : z < 0 <;> simp [h, h2, sign]

theorem run_s_add {w : Nat} (hw : 1 ≤ w) (hw2 : w ≤ 60) {x y : Int} (hx : x.natAbs < 2 ^ 59) (hy : y.natAbs < 2 ^ 59) : K_s_add [sgn w x, sgn w y, .int (w : Nat)] (sgn w (x + y)) := by
  refine ⟨rfl, ?_⟩
  unfold Runs b_s_add
  simp only [x_frzV, x_frzP, List.map_cons, List.map_nil, List.cons_append, List.nil_append, List.replicate_zero, x_seqs1, x_if, x_eqB, x_item, x_var, x_c, List.getElem?_cons_zero, List.getElem?_cons_succ, sgn, x_evItemT]
  refine ⟨by decide, _, rfl, by decide, _, rfl, ?_⟩
  simp only [x_frzV, x_frzP, x_evEqB, Bool.false_eq_true, if_false]
  by_cases hs : (decide (x < 0) == decide (y < 0)) = true
  · have hs' : (x < 0) ↔ (y < 0) := decide_eq_decide.mp (eq_of_beq hs)
    simp only [hs, if_true, x_seqs1, x_seqs0, x_ret, x_frz, x_frzV, x_frzP, x_call, x_args1, x_args0, x_item, x_var, x_c, List.getElem?_cons_zero, List.getElem?_cons_succ, x_evItemT]
    refine ⟨by decide, _, rfl, by decide, _, rfl, by decide, _, rfl, _, run_add hw hw2 (by omega) (by omega), ?_⟩
    refine ⟨_, signed_is hw (z := x + y) (by omega) ?_, Or.inl rfl⟩
    by_cases h : x < 0
    · have h2 := hs'.mp h
      have h3 : x + y < 0 := by omega
      have h4 : 0 < x.natAbs + y.natAbs := by omega
      simp [h, h3, h4]
    · have h2 : ¬ y < 0 := fun q => h (hs'.mpr q)
      have h3 : ¬ x + y < 0 := by omega
      simp [h, h3]
  · have hs' : ¬ ((x < 0) ↔ (y < 0)) := fun q => hs (by rw [decide_eq_decide.mpr q]; exact beq_self_eq_true _)
    have hsf : (decide (x < 0) == decide (y < 0)) = false := by simpa using hs
    simp only [hsf, Bool.false_eq_true, if_false, x_seqs0, x_seqs1, x_if, x_cmp, x_call, x_args1, x_args0, x_frz, x_frzV, x_frzP, x_item, x_var, x_c, List.getElem?_cons_zero, List.getElem?_cons_succ, x_evItemT]
    refine ⟨by decide, _, rfl, by decide, _, rfl, _, run_compare hw (by omega) (by omega), ?_⟩
    simp only [x_frzV, x_frzP, x_evCmp]
    by_cases hlt : x.natAbs < y.natAbs
    · have hc : Cmp.ev .lt (cmpN x.natAbs y.natAbs) 0 = true := by unfold cmpN; rw [if_pos hlt]; rfl
      simp only [hc, if_true, x_seqs1, x_seqs0, x_ret, x_frz, x_frzV, x_frzP, x_call, x_args1, x_args0, x_item, x_var, x_c, List.getElem?_cons_zero, List.getElem?_cons_succ, x_evItemT]
      refine ⟨by decide, _, rfl, by decide, _, rfl, by decide, _, rfl, _, run_sub hw hw2 (by omega) (by omega), ?_⟩
      refine ⟨_, signed_is hw (z := x + y) (by omega) ?_, Or.inl rfl⟩
      by_cases h : y < 0
      · have h3 : x + y < 0 := by omega
        have h4 : 0 < y.natAbs - x.natAbs := by omega
        simp [h, h3, h4]
      · have h3 : ¬ x + y < 0 := by omega
        simp [h, h3]
    · have hc : Cmp.ev .lt (cmpN x.natAbs y.natAbs) 0 = false := by
        unfold cmpN
        rw [if_neg hlt]
        split <;> rfl
      simp only [hc, Bool.false_eq_true, if_false, x_seqs1, x_seqs0, x_ret, x_frz, x_frzV, x_frzP, x_call, x_args1, x_args0, x_item, x_var, x_c, List.getElem?_cons_zero, List.getElem?_cons_succ, x_evItemT]
      refine ⟨by decide, _, rfl, by decide, _, rfl, by decide, _, rfl, _, run_sub hw hw2 (by omega) (by omega), ?_⟩
      refine ⟨_, signed_is hw (z := x + y) (by omega) ?_, Or.inl rfl⟩
      by_cases h : x < 0
      · by_cases he : x.natAbs = y.natAbs
        · have h3 : ¬ x + y < 0 := by omega
          have h4 : ¬ 0 < x.natAbs - y.natAbs := by omega
          simp [h3, h4]
        · have h3 : x + y < 0 := by omega
          have h4 : 0 < x.natAbs - y.natAbs := by omega
          simp [h, h3, h4]
      · have h3 : ¬ x + y < 0 := by omega
        simp [h, h3]

theorem run_s_sub {w : Nat} (hw : 1 ≤ w) (hw2 : w ≤ 60) {x y : Int} (hx : x.natAbs < 2 ^ 59) (hy : y.natAbs < 2 ^ 59) : K_s_sub [sgn w x, sgn w y, .int (w : Nat)] (sgn w (x - y)) := by
  refine ⟨rfl, ?_⟩
  unfold Runs b_s_sub
  simp only [List.map_cons, List.map_nil, List.cons_append, List.nil_append, List.replicate_zero, x_seqs1, x_ret, x_frz, x_frzV, x_frzP, x_call, x_args1, x_args0, x_var, List.getElem?_cons_zero, List.getElem?_cons_succ]
  refine ⟨_, run_s_neg hw y, _, run_s_add hw hw2 hx (by omega), ?_⟩
  rw [← Int.sub_eq_add_neg]
  exact Or.inl rfl
end Mine
end

section
set_option linter.unusedVariables false
set_option linter.unusedSimpArgs false
namespace Mine

theorem vl_set {w : Nat} : ∀ (l : List Nat) (k x : Nat) (h : k < l.length), vl w (l.set k x) + 2 ^ (w * k) * l[k] = vl w l + 2 ^ (w * k) * x
  | [], k, x, h => by simp at h
  | a :: l, 0, x, h => by simp [vl]; lia
  | a :: l, k + 1, x, h => by
    have ih := vl_set (w := w) l k x (by simpa using h)
    simp only [List.set_cons_succ, vl, List.getElem_cons_succ]
    rw [Nat.mul_add w, Nat.mul_one, Nat.add_comm (w * k), Nat.pow_add, Nat.mul_assoc, Nat.mul_assoc, Nat.add_assoc, ← Nat.mul_add, ih, Nat.mul_add]
    lia
theorem Dig.set {w : Nat} {l : List Nat} (h : Dig w l) (k : Nat) {x : Nat} (hx : x < 2 ^ w) : Dig w (l.set k x) := fun a ha => by
  rcases List.mem_or_eq_of_mem_set ha with q | q
  · exact h a q
  · rw [q]; exact hx
theorem ints_set (l : List Nat) (k x : Nat) : (iz l).set k (D.int x) = iz (l.set k x) := by simp [List.map_set]

theorem mul_inner {w M : Nat} (hw : 1 ≤ w) (hw2 : w ≤ 29) (hM : M = 2 ^ w - 1) (va vb : RV) {i x n V0 T lb : Nat} (hx : x < 2 ^ w) (hn : n ≤ 200) (Q : Fl → MS → Prop) :
    ∀ (bs : List Nat) (j : Nat) (F : List Nat) (c P : Nat) (o p : Option RV), Dig w bs → j + bs.length = lb → i + lb ≤ n → F.length = n → Dig w F → c < 2 ^ w → P + 2 ^ (w * j) * vl w bs = T →
    vl w F + 2 ^ (w * (i + j)) * c = V0 + 2 ^ (w * i) * (x * P) → (∀ k, i + lb ≤ k → F.getD k 0 = 0) →
    (∀ (F : List Nat) (c : Nat) (o p : Option RV), F.length = n → Dig w F → c < 2 ^ w → vl w F + 2 ^ (w * (i + lb)) * c = V0 + 2 ^ (w * i) * (x * T) → (∀ k, i + lb ≤ k → F.getD k 0 = 0) →
      Q .next ⟨[some va, some vb, some (.val (.int (w : Nat))), some (.ptr 0), some (.val (.int (M : Nat))), some (.val (.int (i : Nat))), some (.val (.int (x : Nat))), some (.val (.int (c : Nat))), o, p], [.lst (iz F)]⟩) →
    forGo (bindT [8, 9]) (tSeqs [(tAug 7 .add (tBin .add (tItem (tVar 3) (tBin .add (tVar 5) (tVar 8))) (tBin .mul (tVar 6) (tVar 9)))),
      (tPut 3 (tBin .add (tVar 5) (tVar 8)) (tFrz 0 (tBin .band (tVar 7) (tVar 4)))),
      (tAug 7 .shr (tVar 2))]) (enumFrom j (iz bs))
      ⟨[some va, some vb, some (.val (.int (w : Nat))), some (.ptr 0), some (.val (.int (M : Nat))), some (.val (.int (i : Nat))), some (.val (.int (x : Nat))), some (.val (.int (c : Nat))), o, p], [.lst (iz F)]⟩ Q
  | [], j, F, c, P, o, p, hb, hj, hin, hF, hd, hc, hT, hv, hz, hQ => by
    have : j = lb := by simpa using hj
    subst this
    have : P = T := by simpa [vl] using hT
    subst this
    exact hQ F c o p hF hd hc hv hz
  | y :: bs, j, F, c, P, o, p, hb, hj, hin, hF, hd, hc, hT, hv, hz, hQ => by
    have hjl : j + 1 + bs.length = lb := by simp at hj; lia
    have hk : i + j < F.length := by lia
    have g1 : F[i + j]? = some F[i + j] := List.getElem?_eq_getElem hk
    have hy := hb.head
    have hdg := hd F[i + j] (List.getElem_mem ..)
    have e2 : ¬ (((i + j : Nat) : Int) < 0) := by lia
    have e3 : (0 : Int) ≤ ((i + j : Nat) : Int) := by lia
    have e4 : ((i + j : Nat) : Int) < (F.length : Int) := by lia
    have oka : ∀ x y : Int, Op.ok .add x y := fun _ _ => trivial
    have hp : 2 ^ w ≤ 2 ^ 29 := Nat.pow_le_pow_right (by decide) hw2
    have okm : Op.ok .mul (x : Int) (y : Int) := .inl (by lia)
    have okb : ∀ x y : Nat, Op.ok .band (x : Int) (y : Int) := fun x y => ⟨Int.natCast_nonneg x, Int.natCast_nonneg y⟩
    have oks : ∀ x : Nat, Op.ok .shr (x : Int) (w : Int) := fun x => ⟨by lia, by lia⟩
    show forGo _ _ (.tup [.int (j : Nat), .int (y : Nat)] :: enumFrom (j + 1) (iz bs)) _ _
    rw [x_for1]
    simp only [x_bindT, x_bindAll1, x_bindAll0, x_set, Option.some.injEq, exists_eq_left', x_seqs1, x_seqs0, x_aug, x_bin, x_item, x_var, List.set_cons_succ, List.set_cons_zero, List.getElem?_cons_succ, List.getElem?_cons_zero, bin_E (oka _ _) (ev_add _ _), true_and, x_itemP g1, e2, if_false, e3, List.getElem?_map, Int.toNat_natCast, g1, Option.map_some, bin_E okm (ev_mul _ _), x_put, x_frz, x_frzV, x_frzP, bin_E (okb _ _) (ev_band hM _), List.length_map, e4, x_setC, bin_E (oks _) (ev_shr _ _)]
    rw [ints_set]
    generalize ht : c + (F[i + j] + x * y) = t
    have hxy : x * y ≤ (2 ^ w - 1) * (2 ^ w - 1) := Nat.mul_le_mul (by lia) (by lia)
    have hB := two_le hw
    have hsq : (2 ^ w - 1) * (2 ^ w - 1) + 2 * (2 ^ w - 1) + 1 = 2 ^ w * 2 ^ w := by
      obtain ⟨b, hb'⟩ : ∃ b, 2 ^ w = b + 1 := ⟨2 ^ w - 1, by lia⟩
      rw [hb', Nat.add_sub_cancel, Nat.mul_add, Nat.add_mul]; lia
    have htl : t < 2 ^ w * 2 ^ w := by lia
    have hm : t % 2 ^ w < 2 ^ w := Nat.mod_lt _ (by lia)
    have hq : t / 2 ^ w < 2 ^ w := Nat.div_lt_of_lt_mul htl
    have hs := vl_set (w := w) F (i + j) (t % 2 ^ w) hk
    refine mul_inner hw hw2 hM va vb hx hn Q bs (j + 1) (F.set (i + j) (t % 2 ^ w)) (t / 2 ^ w) (P + 2 ^ (w * j) * y) _ _ hb.tail hjl hin (by rw [List.length_set]; exact hF) (hd.set _ hm) hq ?_ ?_ ?_ hQ
    · rw [← hT, Nat.mul_add w, Nat.mul_one, Nat.pow_add]
      simp only [vl]
      rw [Nat.mul_add, Nat.mul_assoc]; lia
    · have h1 : 2 ^ (w * (i + (j + 1))) * (t / 2 ^ w) = 2 ^ (w * (i + j)) * (2 ^ w * (t / 2 ^ w)) := by
        rw [show w * (i + (j + 1)) = w * (i + j) + w by rw [← Nat.add_assoc, Nat.mul_add, Nat.mul_one], Nat.pow_add, Nat.mul_assoc]
      have h2 : 2 ^ (w * (i + j)) * t = 2 ^ (w * (i + j)) * (t % 2 ^ w) + 2 ^ (w * (i + j)) * (2 ^ w * (t / 2 ^ w)) := by
        rw [← Nat.mul_add, Nat.mod_add_div]
      have h3 : 2 ^ (w * (i + j)) * t = 2 ^ (w * (i + j)) * c + 2 ^ (w * (i + j)) * F[i + j] + 2 ^ (w * (i + j)) * (x * y) := by
        rw [← ht]
        generalize 2 ^ (w * (i + j)) = Z
        rw [Nat.mul_add, Nat.mul_add]; lia
      have h4 : 2 ^ (w * i) * (x * (P + 2 ^ (w * j) * y)) = 2 ^ (w * i) * (x * P) + 2 ^ (w * (i + j)) * (x * y) := by
        rw [Nat.mul_add, Nat.mul_add, Nat.mul_add w, Nat.pow_add, Nat.mul_left_comm x, Nat.mul_assoc]
      rw [h1, h4]
      lia
    · intro k hkk
      rw [List.getD_eq_getElem?_getD, List.getElem?_set_ne (by lia), ← List.getD_eq_getElem?_getD]
      exact hz k hkk

theorem mul_outer {w M : Nat} (hw : 1 ≤ w) (hw2 : w ≤ 29) (hM : M = 2 ^ w - 1) (va : RV) {b : List Nat} (hb : Dig w b) {n Tot : Nat} (hn : n ≤ 200) (Q : Fl → MS → Prop) :
    ∀ (as : List Nat) (i : Nat) (F : List Nat) (P : Nat) (o1 o2 o3 o4 o5 : Option RV), Dig w as → i + as.length + b.length = n → F.length = n → Dig w F → P + 2 ^ (w * i) * vl w as = Tot → vl w F = P * vl w b → (∀ k, i + b.length ≤ k → F.getD k 0 = 0) →
    (∀ (F : List Nat) (o1 o2 o3 o4 o5 : Option RV), Dig w F → vl w F = Tot * vl w b →
      Q .next ⟨[some va, some (.val (L b)), some (.val (.int (w : Nat))), some (.ptr 0), some (.val (.int (M : Nat))), o1, o2, o3, o4, o5], [.lst (iz F)]⟩) →
    forGo (bindT [5, 6]) (tSeqs [(tAsg 7 (tC (.int 0))),
      (tFor (tEnum (tFrz 0 (tVar 1))) (bindT [8, 9])
      (tSeqs [(tAug 7 .add (tBin .add (tItem (tVar 3) (tBin .add (tVar 5) (tVar 8))) (tBin .mul (tVar 6) (tVar 9)))),
      (tPut 3 (tBin .add (tVar 5) (tVar 8)) (tFrz 0 (tBin .band (tVar 7) (tVar 4)))),
      (tAug 7 .shr (tVar 2))])),
      (tPut 3 (tBin .add (tVar 5) (tLen (tVar 1))) (tFrz 0 (tVar 7)))]) (enumFrom i (iz as))
      ⟨[some va, some (.val (L b)), some (.val (.int (w : Nat))), some (.ptr 0), some (.val (.int (M : Nat))), o1, o2, o3, o4, o5], [.lst (iz F)]⟩ Q
  | [], i, F, P, o1, o2, o3, o4, o5, ha, hi, hF, hd, hT, hv, hz, hQ => by
    have : P = Tot := by simpa [vl] using hT
    subst this
    exact hQ F o1 o2 o3 o4 o5 hd hv
  | x :: as, i, F, P, o1, o2, o3, o4, o5, ha, hi, hF, hd, hT, hv, hz, hQ => by
    have hi' : i + as.length + 1 + b.length = n := by simp at hi; omega
    have oka : ∀ x y : Int, Op.ok .add x y := fun _ _ => trivial
    show forGo _ _ (.tup [.int (i : Nat), .int (x : Nat)] :: enumFrom (i + 1) (iz as)) _ _
    rw [x_for1]
    simp only [x_bindT, x_bindAll1, x_bindAll0, x_set, Option.some.injEq, exists_eq_left', x_seqs1, x_seqs0, x_asg, x_c, x_for, x_enum, x_frz, x_frzV, x_frzP, x_var, List.set_cons_succ, List.set_cons_zero, List.getElem?_cons_succ, List.getElem?_cons_zero]
    refine mul_inner hw hw2 hM va (.val (L b)) (i := i) (x := x) (n := n) (V0 := vl w F) (T := vl w b) (lb := b.length) ha.head hn _ b 0 F 0 0 o4 o5 hb (by lia) (by lia) hF hd (by have := two_le hw; lia) (by simp) (by simp) hz ?_
    intro F' c p q hF' hd' hc hv' hz'
    have e3 : (0 : Int) ≤ ((i + b.length : Nat) : Int) := by lia
    have e4 : ((i + b.length : Nat) : Int) < (F'.length : Int) := by lia
    have hk : i + b.length < F'.length := by lia
    simp only [x_put, x_frz, x_frzV, x_frzP, x_bin, x_len, x_lookV, x_var, List.set_cons_succ, List.set_cons_zero, List.getElem?_cons_succ, List.getElem?_cons_zero, x_evBin, oka, true_and, List.length_map, ev_add, e3, e4, Int.toNat_natCast, x_setC]
    rw [ints_set]
    have hs := vl_set (w := w) F' (i + b.length) c hk
    have h0 : F'[i + b.length] = 0 := by
      have := hz' (i + b.length) (Nat.le_refl _)
      rw [List.getD_eq_getElem?_getD, List.getElem?_eq_getElem hk] at this; exact this
    rw [h0, Nat.mul_zero, Nat.add_zero] at hs
    refine mul_outer hw hw2 hM va hb hn Q as (i + 1) (F'.set (i + b.length) c) (P + 2 ^ (w * i) * x) _ _ _ _ _ ha.tail (by lia) (by rw [List.length_set]; exact hF') (hd'.set _ hc) ?_ ?_ ?_ hQ
    · rw [← hT, Nat.mul_add w, Nat.mul_one, Nat.pow_add]
      simp only [vl]
      rw [Nat.mul_add, Nat.mul_assoc]; lia
    · rw [hs, hv', hv, Nat.add_mul, Nat.mul_assoc]
    · intro k hkk
      rw [List.getD_eq_getElem?_getD, List.getElem?_set_ne (by lia), ← List.getD_eq_getElem?_getD]
      exact hz' k (by lia)

theorem vl_zeros (w n : Nat) : vl w (List.replicate n 0) = 0 := by
  induction n with
  | zero => rfl
  | succ n ih => simp [List.replicate_succ, vl, ih]
theorem flat_one (n : Nat) (d : D) : (List.replicate n [d]).flatten = List.replicate n d := by
  induction n with
  | zero => rfl
  | succ n ih => simp [List.replicate_succ, ih]

theorem run_mul_school {w a b : Nat} (hw : 1 ≤ w) (hw2 : w ≤ 29) (ha : a < 2 ^ 60) (hb : b < 2 ^ 60) : K_mul_school [L (limbs w a), L (limbs w b), .int (w : Nat)] (L (limbs w (a * b))) := by
  refine ⟨rfl, ?_⟩
  unfold Runs b_mul_school
  have L0 : LIM = 1048576 := rfl
  have l1 := len60 hw ha
  have l2 := len60 hw hb
  have oks : Op.ok .shl 1 (w : Int) := ⟨by lia, by lia, by decide⟩
  have oku : ∀ x y : Int, Op.ok .sub x y := fun _ _ => trivial
  have oka : ∀ x y : Int, Op.ok .add x y := fun _ _ => trivial
  have c1 : 1 * ((limbs w a).length + (limbs w b).length) ≤ LIM := by lia
  have c2 : (((limbs w a).length + (limbs w b).length : Nat) : Int) ≤ 1000000 := by lia
  have c3 : (0 : Int) ≤ (((limbs w a).length + (limbs w b).length : Nat) : Int) := by lia
  have hne : ¬ ([D.int 0] = ([] : List D)) := by intro h; cases h
  have hz : List.replicate ((limbs w a).length + (limbs w b).length) (D.int 0) = iz (List.replicate ((limbs w a).length + (limbs w b).length) 0) := by simp
  simp only [List.map_cons, List.map_nil, List.cons_append, List.nil_append, List.replicate_succ, List.replicate_zero, x_seqs1, x_multi, x_rvs1, x_rvs0, x_rep, x_lstV, x_args1, x_args0, x_frz, x_frzV, x_frzP, x_c, x_bin, x_len, x_var, x_lookV, bin_E (oka _ _) (ev_add _ _), bin_E oks rfl, bin_E (oku _ _) ev_mask, true_and, List.getElem?_cons_zero, List.getElem?_cons_succ, List.length_map, List.length_cons, List.length_nil, ne_eq, hne, not_false_eq_true, Nat.zero_add, Int.toNat_natCast, c1, c2, c3, flat_one, x_addC, x_setAll1, x_setAll0, x_set, List.set_cons_succ, List.set_cons_zero, hz, x_for, x_enum]
  refine mul_outer hw hw2 (M := 2 ^ w - 1) rfl _ (dig_limbs hw b) (n := (limbs w a).length + (limbs w b).length) (Tot := a) (by lia) _ (limbs w a) 0 _ 0 none none none none none (dig_limbs hw a) (by lia) (by simp) (fun x hx => by
    rw [(List.mem_replicate.mp hx).2]; have := two_le hw; lia) (by simp [vl_limbs hw]) (by rw [vl_zeros]; simp) (fun k hk => by
    rw [List.getD_eq_getElem?_getD, List.getElem?_replicate]; split <;> rfl) ?_
  intro F o1 o2 o3 o4 o5 hd hv
  rw [vl_limbs hw] at hv
  simp only [x_ret, x_frz, x_frzV, x_frzP, x_call, x_args1, x_args0, x_var, List.getElem?_cons_zero, List.getElem?_cons_succ, Nat.le_refl, true_and, x_setC]
  refine ⟨_, run_normal F, ?_⟩
  rw [strip_limbs hw F hd, hv]
  exact Or.inl rfl
end Mine
end

section
set_option linter.unusedVariables false
set_option linter.unusedSimpArgs false
namespace Mine

theorem ev_bor {w x y : Nat} (h : y < 2 ^ w) : Op.ev .bor ((x * 2 ^ w : Nat) : Int) (y : Int) = ((x * 2 ^ w + y : Nat) : Int) := by
  show ((((x * 2 ^ w : Nat) : Int).toNat ||| (y : Int).toNat : Nat) : Int) = _
  rw [Int.toNat_natCast, Int.toNat_natCast, bor_add h]
theorem ev_div (x y : Nat) : Op.ev .div (x : Int) (y : Int) = ((x / y : Nat) : Int) := by simp [Op.ev]
theorem ev_mod (x y : Nat) : Op.ev .mod (x : Int) (y : Int) = ((x % y : Nat) : Int) := by simp [Op.ev]
theorem drop_set_ge {l : List Nat} {k j x : Nat} (h : k < j) : (l.set k x).drop j = l.drop j := by
  rw [List.drop_set_of_lt h]

theorem vl_drop {w : Nat} {l : List Nat} {k : Nat} (h : k < l.length) : vl w (l.drop k) = l[k] + 2 ^ w * vl w (l.drop (k + 1)) := by
  rw [List.drop_eq_getElem_cons h]; rfl

theorem drl_loop {w m : Nat} (hw : 1 ≤ w) (hw2 : w ≤ 29) (hm : 0 < m) (hm2 : m < 2 ^ w) {a : List Nat} (ha : Dig w a) (hal : a.length ≤ 100) (Q : Fl → MS → Prop) :
    ∀ (k : Nat) (F : List Nat) (r : Nat) (o : Option RV), k ≤ a.length → F.length = a.length → Dig w F → r < m → vl w (F.drop k) * m + r = vl w (a.drop k) →
    (∀ (F : List Nat) (r : Nat) (o : Option RV), Dig w F → r < m → vl w F * m + r = vl w a →
      Q .next ⟨[some (.val (L a)), some (.val (.int (m : Nat))), some (.val (.int (w : Nat))), some (.ptr 0), some (.val (.int (r : Nat))), o], [.lst (iz F)]⟩) →
    forGo (bind1 5) (tSeqs [(tAsg 4 (tBin .bor (tBin .shl (tVar 4) (tVar 2)) (tItem (tVar 0) (tVar 5)))),
      (tPut 3 (tVar 5) (tFrz 0 (tBin .div (tVar 4) (tVar 1)))),
      (tAug 4 .mod (tVar 1))]) (dInts ((k : Int) - 1) (-1) k)
      ⟨[some (.val (L a)), some (.val (.int (m : Nat))), some (.val (.int (w : Nat))), some (.ptr 0), some (.val (.int (r : Nat))), o], [.lst (iz F)]⟩ Q
  | 0, F, r, o, hk, hF, hd, hr, hv, hQ => hQ F r o hd hr (by simpa using hv)
  | k + 1, F, r, o, hk, hF, hd, hr, hv, hQ => by
    have e1 : ((k + 1 : Nat) : Int) - 1 = k := by lia
    have e2 : ¬ ((k : Int) < 0) := by lia
    have e3 : (0 : Int) ≤ k := by lia
    have e4 : (k : Int) < (F.length : Int) := by lia
    have e6 : (k : Int) + -1 = (k : Int) - 1 := by lia
    have g1 : a[k]? = some a[k] := List.getElem?_eq_getElem (by lia)
    have x1 := ha a[k] (List.getElem_mem ..)
    have hp : 2 ^ w ≤ 2 ^ 29 := Nat.pow_le_pow_right (by decide) hw2
    have oks : Op.ok .shl (r : Int) (w : Int) := ⟨by lia, by lia, by lia⟩
    have oko : ∀ x y : Nat, Op.ok .bor (x : Int) (y : Int) := fun x y => ⟨Int.natCast_nonneg x, Int.natCast_nonneg y⟩
    have okd : ∀ x : Nat, Op.ok .div (x : Int) (m : Int) := fun x => ⟨by lia, by lia⟩
    have okm : ∀ x : Nat, Op.ok .mod (x : Int) (m : Int) := fun x => (by show (0 : Int) < m; lia)
    rw [e1, dInts_succ, x_forB]
    simp only [x_bind1, x_set, Option.some.injEq, exists_eq_left', x_seqs1, x_seqs0, x_asg, x_aug, x_bin, x_item, x_var, List.set_cons_succ, List.set_cons_zero, List.getElem?_cons_succ, List.getElem?_cons_zero, bin_E oks (ev_shl _ _), true_and, x_itemL g1, e2, if_false, e3, List.getElem?_map, Int.toNat_natCast, g1, Option.map_some, bin_E (oko _ _) (ev_bor x1), x_put, x_frz, x_frzV, x_frzP, bin_E (okd _) (ev_div _ _), List.length_map, e4, x_setC, bin_E (okm _) (ev_mod _ _)]
    rw [ints_set, e6]
    have hkF : k < F.length := by lia
    have hB := two_le hw
    have ht : r * 2 ^ w + a[k] < m * 2 ^ w := by
      have : (r + 1) * 2 ^ w ≤ m * 2 ^ w := Nat.mul_le_mul_right _ hr
      rw [Nat.add_mul] at this; lia
    have hq : (r * 2 ^ w + a[k]) / m < 2 ^ w := Nat.div_lt_of_lt_mul ht
    refine drl_loop hw hw2 hm hm2 ha hal Q k (F.set k ((r * 2 ^ w + a[k]) / m)) _ _ (by lia) (by rw [List.length_set]; exact hF) (hd.set _ hq) (Nat.mod_lt _ hm) ?_ hQ
    have hks : k < (F.set k ((r * 2 ^ w + a[k]) / m)).length := by rw [List.length_set]; exact hkF
    rw [vl_drop hks, vl_drop (l := a) (by lia), List.getElem_set_self, drop_set_ge (Nat.lt_succ_self k), ← hv]
    have hdm := Nat.div_add_mod (r * 2 ^ w + a[k]) m
    rw [Nat.add_mul, Nat.mul_add, Nat.mul_assoc, Nat.mul_comm (2 ^ w) r, Nat.mul_comm _ m]
    simp only [Nat.succ_eq_add_one] at *
    lia

theorem run_divrem_limb {w a m : Nat} (hw : 1 ≤ w) (hw2 : w ≤ 29) (ha : a < 2 ^ 60) (hm : 0 < m) (hm2 : m < 2 ^ w) : K_divrem_limb [L (limbs w a), .int (m : Nat), .int (w : Nat)] (.tup [L (limbs w (a / m)), .int ((a % m : Nat) : Int)]) := by
  refine ⟨rfl, ?_⟩
  unfold Runs b_divrem_limb
  have L0 : LIM = 1048576 := rfl
  have l1 := len60 hw ha
  have oku : ∀ x y : Int, Op.ok .sub x y := fun _ _ => trivial
  have c0 : Cmp.ev .eq (m : Int) 0 = false := decide_eq_false (by lia)
  have c1 : 1 * (limbs w a).length ≤ LIM := by lia
  have c2 : ((limbs w a).length : Int) ≤ 1000000 := by lia
  have c3 : (0 : Int) ≤ ((limbs w a).length : Int) := by lia
  have hne : ¬ ([D.int 0] = ([] : List D)) := by intro h; cases h
  have hz : List.replicate (limbs w a).length (D.int 0) = iz (List.replicate (limbs w a).length 0) := by simp
  have s1 : Small (Op.ev .sub ((limbs w a).length : Int) 1) := by simp only [Op.ev]; unfold Small; lia
  have s2 : Small (-1) := by unfold Small; lia
  have s3 : Op.ev .sub ((limbs w a).length : Int) 1 - -1 ≤ (LIM : Nat) := by simp only [Op.ev]; lia
  have e0 : (Op.ev .sub ((limbs w a).length : Int) 1 - -1).toNat = (limbs w a).length := by simp only [Op.ev]; lia
  simp only [List.map_cons, List.map_nil, List.cons_append, List.nil_append, List.replicate_succ, List.replicate_zero, x_seqs1, x_if, x_cmp, x_var, x_c, x_evCmp, c0, Bool.false_eq_true, if_false, x_seqs0, x_multi, x_rvs1, x_rvs0, x_rep, x_lstV, x_args1, x_args0, x_frz, x_frzV, x_frzP, x_bin, x_len, x_lookV, bin_E (oku _ _) rfl, true_and, List.getElem?_cons_zero, List.getElem?_cons_succ, List.length_map, List.length_cons, List.length_nil, ne_eq, hne, not_false_eq_true, Nat.zero_add, Int.toNat_natCast, c1, c2, c3, flat_one, x_addC, x_setAll1, x_setAll0, x_set, List.set_cons_succ, List.set_cons_zero, hz, x_for, x_rangeD, x_neg, s1, s2, s3, e0]
  refine drl_loop hw hw2 hm hm2 (dig_limbs hw a) (by lia) _ (limbs w a).length _ 0 none (Nat.le_refl _) (by simp) (fun x hx => by
    rw [(List.mem_replicate.mp hx).2]; have := two_le hw; lia) hm (by simp [vl]) ?_
  intro F r o hd hr hv
  rw [vl_limbs hw] at hv
  have hq : vl w F = a / m := by
    rw [← hv, Nat.mul_comm, Nat.mul_add_div hm, Nat.div_eq_of_lt hr, Nat.add_zero]
  have hrr : r = a % m := by rw [← hv, Nat.mul_comm, Nat.mul_add_mod, Nat.mod_eq_of_lt hr]
  simp only [x_ret, x_frz, x_frzV, x_frzP, x_tup, x_call, x_args1, x_args0, x_var, List.getElem?_cons_zero, List.getElem?_cons_succ, Nat.le_refl, true_and, x_setC]
  refine ⟨_, run_normal F, ?_⟩
  rw [strip_limbs hw F hd, hq, hrr]
  exact Or.inl rfl

theorem limbs_one {w m : Nat} (hw : 1 ≤ w) (hm : 0 < m) (hm2 : m < 2 ^ w) : limbs w m = [m] := by
  rw [limbs_pos hw (by lia), Nat.mod_eq_of_lt hm2, Nat.div_eq_of_lt hm2, limbs_zero]
theorem run_divrem_small {w a m : Nat} (hw : 1 ≤ w) (hw2 : w ≤ 29) (ha : a < 2 ^ 60) (hm : 0 < m) (hm2 : m < 2 ^ w) : K_divrem_small [L (limbs w a), L (limbs w m), .int (w : Nat)] (.tup [L (limbs w (a / m)), L (limbs w (a % m))]) := by
  refine ⟨rfl, ?_⟩
  unfold Runs b_divrem_small
  rw [limbs_one hw hm hm2]
  simp only [List.map_cons, List.map_nil, List.cons_append, List.nil_append, List.replicate_succ, List.replicate_zero, x_seqs1, x_unp, x_frz, x_frzV, x_frzP, x_call, x_args1, x_args0, x_var, x_item, x_c, List.getElem?_cons_zero, List.getElem?_cons_succ, x_evItemL, List.length_cons, List.length_nil]
  refine ⟨by decide, _, rfl, _, run_divrem_limb hw hw2 ha hm hm2, _, rfl, ?_⟩
  simp only [x_seqs1, x_ret, x_frz, x_frzV, x_frzP, x_tup, x_args1, x_args0, x_ife, x_cmp, x_var, x_c, x_set, List.set_cons_succ, List.set_cons_zero, List.getElem?_cons_zero, List.getElem?_cons_succ, x_evCmp]
  by_cases h : a % m = 0
  · have c0 : Cmp.ev .gt ((a % m : Nat) : Int) 0 = false := decide_eq_false (by lia)
    simp only [x_frzV, x_frzP, c0, Bool.false_eq_true, if_false, x_lst, x_args0, x_addC, List.length_nil, List.nil_append, List.getElem?_cons_zero, Nat.le_refl, true_and]
    rw [h, limbs_zero]
    exact Or.inl rfl
  · have c0 : Cmp.ev .gt ((a % m : Nat) : Int) 0 = true := decide_eq_true (by lia)
    simp only [c0, if_true, x_lst, x_args1, x_args0, x_frz, x_frzV, x_frzP, x_var, x_addC, List.length_nil, List.nil_append, List.getElem?_cons_zero, List.getElem?_cons_succ, Nat.le_refl, true_and]
    rw [limbs_one (m := a % m) hw (by lia) (by have := Nat.mod_lt a hm; lia)]
    exact Or.inl rfl
end Mine
end

section
set_option linter.unusedVariables false
set_option linter.unusedSimpArgs false
namespace Mine

theorem ev_bor' {n x y : Nat} (h : y < 2 ^ n) : Op.ev .bor (y : Int) ((x * 2 ^ n : Nat) : Int) = ((x * 2 ^ n + y : Nat) : Int) := by
  show (((y : Int).toNat ||| ((x * 2 ^ n : Nat) : Int).toNat : Nat) : Int) = _
  rw [Int.toNat_natCast, Int.toNat_natCast, Nat.or_comm, bor_add h]

theorem shl_loop {w n M : Nat} (hw : 1 ≤ w) (hw2 : w ≤ 29) (hn : n < w) (hM : M = 2 ^ w - 1) (va vn v3 : RV) {Tot : Nat} (Q : Fl → MS → Prop) :
    ∀ (as : List Nat) (i : Nat) (F : List Nat) (c P : Nat) (o : Option RV), Dig w as → F.length = i → i + as.length ≤ 100 → Dig w F → c < 2 ^ n → P + 2 ^ (w * i) * vl w as = Tot → vl w F + 2 ^ (w * i) * c = P * 2 ^ n →
    (∀ (F : List Nat) (c : Nat) (o : Option RV), F.length = i + as.length → Dig w F → c < 2 ^ n → vl w F + 2 ^ (w * (i + as.length)) * c = Tot * 2 ^ n →
      Q .next ⟨[some va, some vn, some (.val (.int (w : Nat))), some v3, some (.val (.int (n : Nat))), some (.ptr 0), some (.val (.int (c : Nat))), some (.val (.int (M : Nat))), o], [.lst (iz F)]⟩) →
    forGo (bind1 8) (tSeqs [(tAug 6 .bor (tBin .shl (tVar 8) (tVar 4))), (tApp 5 (tFrz 0 (tBin .band (tVar 6) (tVar 7)))), (tAug 6 .shr (tVar 2))]) (iz as)
      ⟨[some va, some vn, some (.val (.int (w : Nat))), some v3, some (.val (.int (n : Nat))), some (.ptr 0), some (.val (.int (c : Nat))), some (.val (.int (M : Nat))), o], [.lst (iz F)]⟩ Q
  | [], i, F, c, P, o, ha, hF, hi, hd, hc, hT, hv, hQ => by
    have : P = Tot := by simpa [vl] using hT
    subst this
    exact hQ F c o hF hd hc hv
  | x :: as, i, F, c, P, o, ha, hF, hi, hd, hc, hT, hv, hQ => by
    have hx := ha.head
    have L0 : LIM = 1048576 := rfl
    simp only [List.length_cons] at hi
    have e5 : F.length < LIM := by lia
    have hp : 2 ^ w ≤ 2 ^ 29 := Nat.pow_le_pow_right (by decide) hw2
    have oks : Op.ok .shl (x : Int) (n : Int) := ⟨by lia, by lia, by lia⟩
    have oko : ∀ x y : Nat, Op.ok .bor (x : Int) (y : Int) := fun x y => ⟨by lia, by lia⟩
    have okb : ∀ x y : Nat, Op.ok .band (x : Int) (y : Int) := fun x y => ⟨by lia, by lia⟩
    have okr : ∀ x : Nat, Op.ok .shr (x : Int) (w : Int) := fun x => ⟨by lia, by lia⟩
    show forGo _ _ (.int (x : Nat) :: iz as) _ _
    rw [x_for1]
    simp only [x_bind1, x_set, Option.some.injEq, exists_eq_left', x_seqs1, x_seqs0, x_aug, x_bin, x_var, List.set_cons_succ, List.set_cons_zero, List.getElem?_cons_succ, List.getElem?_cons_zero, x_evBin, oks, true_and, ev_shl, oko, ev_bor' hc, x_app, x_frz, x_frzV, x_frzP, okb, ev_band hM, x_setC, List.length_map, e5, okr, ev_shr]
    refine ⟨⟨_, rfl⟩, ?_⟩
    have hm : (x * 2 ^ n + c) % 2 ^ w < 2 ^ w := Nat.mod_lt _ (by have := two_le hw; lia)
    have hq : (x * 2 ^ n + c) / 2 ^ w < 2 ^ n := by
      refine Nat.div_lt_of_lt_mul ?_
      have : (x + 1) * 2 ^ n ≤ 2 ^ w * 2 ^ n := Nat.mul_le_mul_right _ hx
      rw [Nat.add_mul] at this; lia
    have hl : i + 1 + as.length = i + (x :: as).length := by simp; lia
    have key := shl_loop hw hw2 hn hM va vn v3 (Tot := Tot) Q as (i + 1) (F ++ [(x * 2 ^ n + c) % 2 ^ w]) ((x * 2 ^ n + c) / 2 ^ w) (P + 2 ^ (w * i) * x) (some (.val (.int (x : Nat)))) ha.tail (by simp [hF]) (by lia) (fun y hy => by
      rcases List.mem_append.mp hy with hy | hy
      · exact hd y hy
      · rw [List.mem_singleton.mp hy]; exact hm) hq (by
        rw [← hT, Nat.mul_add w, Nat.mul_one, Nat.pow_add]
        simp only [vl]
        rw [Nat.mul_add, Nat.mul_assoc]; lia) (by
        rw [vl_append, hF]
        simp only [vl, Nat.mul_zero, Nat.add_zero]
        have h1 : 2 ^ (w * (i + 1)) * ((x * 2 ^ n + c) / 2 ^ w) = 2 ^ (w * i) * (2 ^ w * ((x * 2 ^ n + c) / 2 ^ w)) := by
          rw [Nat.mul_add, Nat.mul_one, Nat.pow_add, Nat.mul_assoc]
        have h2 : 2 ^ (w * i) * (x * 2 ^ n + c) = 2 ^ (w * i) * ((x * 2 ^ n + c) % 2 ^ w) + 2 ^ (w * i) * (2 ^ w * ((x * 2 ^ n + c) / 2 ^ w)) := by
          rw [← Nat.mul_add, Nat.mod_add_div]
        have h3 : 2 ^ (w * i) * (x * 2 ^ n + c) = 2 ^ (w * i) * x * 2 ^ n + 2 ^ (w * i) * c := by rw [Nat.mul_add, Nat.mul_assoc]
        rw [h1, Nat.add_mul]
        lia) (fun F c o h1 h2 h3 h4 => hQ F c o (by lia) h2 h3 (by rw [← hl]; exact h4))
    rw [ints_snoc] at key
    exact key

theorem run_shift_left {w a n : Nat} (hw : 1 ≤ w) (hw2 : w ≤ 29) (ha : a < 2 ^ 60) (hn : n < w) : K_shift_left [L (limbs w a), .int (n : Nat), .int (w : Nat)] (L (limbs w (a * 2 ^ n))) := by
  refine ⟨rfl, ?_⟩
  unfold Runs b_shift_left
  by_cases h0 : a = 0
  · subst h0
    rw [Nat.zero_mul, limbs_zero]
    exact Or.inl rfl
  · have L0 : LIM = 1048576 := rfl
    have l1 := len60 hw ha
    have hlp : 0 < (limbs w a).length := (limbs_len_pos hw).mpr (by lia)
    have c0 : Cmp.ev .eq ((limbs w a).length : Int) 0 = false := decide_eq_false (by lia)
    have oks : Op.ok .shl 1 (w : Int) := ⟨by lia, by lia, by decide⟩
    have oku : ∀ x y : Int, Op.ok .sub x y := fun _ _ => trivial
    have okd : Op.ok .div (n : Int) (w : Int) := ⟨by lia, by lia⟩
    have okm : Op.ok .mod (n : Int) (w : Int) := (by show (0 : Int) < w; lia)
    have hne : ¬ ([D.int 0] = ([] : List D)) := by intro h; cases h
    have d0 : n / w = 0 := Nat.div_eq_of_lt hn
    have m0 : n % w = n := Nat.mod_eq_of_lt hn
    have ed : Op.ev .div (n : Int) (w : Int) = ((0 : Nat) : Int) := by rw [ev_div, d0]
    have em : Op.ev .mod (n : Int) (w : Int) = (n : Int) := by rw [ev_mod, m0]
    have ek : Op.ev .sub (Op.ev .shl 1 (w : Int)) 1 = ((2 ^ w - 1 : Nat) : Int) := ev_mask
    have z1 : 1 * 0 ≤ LIM := by lia
    have z2 : ((0 : Nat) : Int) ≤ 1000000 := by lia
    have z3 : (0 : Int) ≤ ((0 : Nat) : Int) := by lia
    simp only [List.map_cons, List.map_nil, List.cons_append, List.nil_append, List.replicate_succ, List.replicate_zero, x_seqs1, x_if, x_cmp, x_len, x_var, x_c, x_lookV, List.length_map, x_evCmp, c0, Bool.false_eq_true, if_false, x_seqs0, x_multi, x_rvs1, x_rvs0, x_bin, bin_E okd ed, bin_E okm em, bin_E oks rfl, bin_E (oku _ _) ek, true_and, x_setAll1, x_setAll0, x_set, List.set_cons_succ, List.set_cons_zero, List.getElem?_cons_zero, List.getElem?_cons_succ, x_rep, x_lstV, x_args1, x_args0, x_frz, x_frzV, x_frzP, List.length_cons, List.length_nil, ne_eq, hne, not_false_eq_true, Nat.zero_add, Int.toNat_natCast, z1, z2, z3, List.flatten_nil, x_addC, x_for, x_items]
    refine shl_loop hw hw2 hn (M := 2 ^ w - 1) rfl _ _ _ (Tot := a) _ (limbs w a) 0 [] 0 0 none (dig_limbs hw a) rfl (by lia) (fun x hx => by cases hx) (Nat.two_pow_pos n) (by simp [vl_limbs hw]) (by simp [vl]) ?_
    intro F c o hF hd hc hv
    rw [Nat.zero_add] at hF hv
    have hge : a ≤ a * 2 ^ n := Nat.le_mul_of_pos_right _ (Nat.two_pow_pos n)
    by_cases hc0 : c = 0
    · subst hc0
      have hfin : F = limbs w (a * 2 ^ n) := by
        rw [Nat.mul_zero, Nat.add_zero] at hv
        rw [← hv]
        refine limbs_big hw hd (.inr ?_)
        have := limbs_low hw h0
        rw [hF, hv]; lia
      simp [Cmp.ev]
      rw [hfin]
    · have hfin : F ++ [c] = limbs w (a * 2 ^ n) := by
        have hv' : vl w (F ++ [c]) = a * 2 ^ n := by rw [vl_append, hF]; simpa [vl] using hv
        rw [← hv']
        refine limbs_of hw hc0 (fun x hx => ?_)
        rcases List.mem_append.mp hx with hx | hx
        · exact hd x hx
        · rw [List.mem_singleton.mp hx]
          exact Nat.lt_trans hc (Nat.pow_lt_pow_right (by decide) hn)
      have e5 : F.length < LIM := by lia
      have c1 : Cmp.ev .gt (c : Int) 0 = true := decide_eq_true (by lia)
      simp only [x_if, x_seqs1, x_seqs0, x_cmp, x_var, x_c, List.getElem?_cons_succ, List.getElem?_cons_zero, x_evCmp, c1, if_true, x_app, x_frz, x_frzV, x_frzP, x_setC, List.set_cons_zero, List.length_map, e5, true_and, x_ret, Nat.le_refl]
      refine ⟨⟨_, rfl⟩, .inl ?_⟩
      rw [← hfin]
      show _ = Fl.ret (D.lst (iz (F ++ [c])))
      rw [ints_snoc]

theorem run_bits {w x : Nat} (hx : 0 < x) : K_bits [L [x], .int (w : Nat)] (.int ((x.log2 + 1 : Nat) : Int)) := by
  refine ⟨rfl, ?_⟩
  unfold Runs b_bits
  have h0 : (0 : Int) < (x : Int) := by lia
  have okm : Op.ok .mul 0 (w : Int) := .inl (by decide)
  simp [Cmp.ev, Op.ok, Op.ev]
  omega
end Mine
end

section
set_option linter.unusedVariables false
set_option linter.unusedSimpArgs false
namespace Mine

/-- one limb of a number that goes down by n bits -/
theorem shr_digit {w n x y s : Nat} (hn : n < w) (hx : x < 2 ^ w) : (x + 2 ^ w * (y + 2 ^ w * s)) / 2 ^ n % 2 ^ w = (y * 2 ^ (w - n) + x / 2 ^ n) % 2 ^ w := by
  have e : 2 ^ w = 2 ^ n * 2 ^ (w - n) := by rw [← Nat.pow_add]; congr 1; lia
  have h1 : x + 2 ^ w * (y + 2 ^ w * s) = x + 2 ^ n * (2 ^ (w - n) * (y + 2 ^ w * s)) := by rw [← Nat.mul_assoc, ← e]
  rw [h1, Nat.add_mul_div_left _ _ (Nat.two_pow_pos n), Nat.mul_add, ← Nat.mul_assoc, Nat.mul_comm (2 ^ (w - n)) (2 ^ w), Nat.mul_assoc, ← Nat.add_assoc, Nat.add_mul_mod_self_left, Nat.mul_comm y, Nat.add_comm]

theorem vl_drop_getD {w : Nat} (l : List Nat) (k : Nat) : vl w (l.drop k) = l.getD k 0 + 2 ^ w * vl w (l.drop (k + 1)) := by
  by_cases h : k < l.length
  · rw [vl_drop h, List.getD_eq_getElem?_getD, List.getElem?_eq_getElem h]; rfl
  · rw [List.drop_of_length_le (by lia), List.drop_of_length_le (by lia), List.getD_eq_getElem?_getD, List.getElem?_eq_none (by lia)]; simp [vl]

theorem shr_loop {w n M : Nat} (hw : 1 ≤ w) (hw2 : w ≤ 29) (hn : n < w) (hM : M = 2 ^ w - 1) {a : List Nat} (ha : Dig w a) (hal : a.length ≤ 100) (vn v3 : RV) (Q : Fl → MS → Prop) :
    ∀ (j i : Nat) (F : List Nat) (o p : Option RV), i + j = a.length → F.length = i → Dig w F → vl w F + 2 ^ (w * i) * (vl w (a.drop i) / 2 ^ n) = vl w a / 2 ^ n →
    (∀ (F : List Nat) (o p : Option RV), Dig w F → vl w F = vl w a / 2 ^ n →
      Q .next ⟨[some (.val (L a)), some vn, some (.val (.int (w : Nat))), some v3, some (.val (.int (n : Nat))), some (.ptr 0), some (.val (.int (M : Nat))), o, p], [.lst (iz F)]⟩) →
    forGo (bind1 7) (tSeqs [(tAsg 8 (tIfE (tCmp .lt (tBin .add (tVar 7) (tC (.int 1))) (tLen (tVar 0))) (tItem (tVar 0) (tBin .add (tVar 7) (tC (.int 1)))) (tC (.int 0)))),
      (tApp 5 (tFrz 0 (tBin .band (tBin .bor (tBin .shr (tItem (tVar 0) (tVar 7)) (tVar 4)) (tBin .shl (tVar 8) (tBin .sub (tVar 2) (tVar 4)))) (tVar 6))))]) (dInts (i : Int) 1 j)
      ⟨[some (.val (L a)), some vn, some (.val (.int (w : Nat))), some v3, some (.val (.int (n : Nat))), some (.ptr 0), some (.val (.int (M : Nat))), o, p], [.lst (iz F)]⟩ Q
  | 0, i, F, o, p, hi, hF, hd, hv, hQ => by
    have : i = a.length := by omega
    subst this
    rw [List.drop_length] at hv
    exact hQ F o p hd (by simpa [vl] using hv)
  | j + 1, i, F, o, p, hi, hF, hd, hv, hQ => by
    have L0 : LIM = 1048576 := rfl
    have e2 : ¬ ((i : Int) < 0) := by lia
    have e3 : (0 : Int) ≤ i := by lia
    have e6 : (i : Int) + 1 = ((i + 1 : Nat) : Int) := by lia
    have e5 : F.length < LIM := by lia
    have g1 : a[i]? = some a[i] := List.getElem?_eq_getElem (by lia)
    have hx := ha a[i] (List.getElem_mem ..)
    have hp : 2 ^ w ≤ 2 ^ 29 := Nat.pow_le_pow_right (by decide) hw2
    have oka : ∀ x y : Int, Op.ok .add x y := fun _ _ => trivial
    have oku : ∀ x y : Int, Op.ok .sub x y := fun _ _ => trivial
    generalize hy : a.getD (i + 1) 0 = y
    have hyl : y < 2 ^ w := by
      rw [← hy]
      by_cases h : i + 1 < a.length
      · rw [List.getD_eq_getElem?_getD, List.getElem?_eq_getElem h]; exact ha _ (List.getElem_mem ..)
      · rw [List.getD_eq_getElem?_getD, List.getElem?_eq_none (by lia)]; have := two_le hw; simp; lia
    have hA : ∀ (fr : List (Option RV)) (cs : List Cell) (P : RV → MS → Prop), fr[0]? = some (some (.val (L a))) → fr[7]? = some (some (.val (.int (i : Nat)))) → P (.val (.int (y : Nat))) ⟨fr, cs⟩ →
        tIfE (tCmp .lt (tBin .add (tVar 7) (tC (.int 1))) (tLen (tVar 0))) (tItem (tVar 0) (tBin .add (tVar 7) (tC (.int 1)))) (tC (.int 0)) ⟨fr, cs⟩ P := by
      intro fr cs P h1 h7 hP
      have ea : Op.ev .add (i : Int) 1 = ((i + 1 : Nat) : Int) := by simp only [Op.ev]; lia
      simp only [x_frzV, x_frzP, x_ife, x_cmp, x_var, x_len, x_bin, x_c, h1, h7, bin_E (oka _ _) ea, true_and, x_lookV, x_evCmp, List.length_map]
      have e2' : ¬ (((i + 1 : Nat) : Int) < 0) := by lia
      have e3' : (0 : Int) ≤ ((i + 1 : Nat) : Int) := by lia
      by_cases h : i + 1 < a.length
      · have : Cmp.ev .lt ((i + 1 : Nat) : Int) (a.length : Int) = true := decide_eq_true (by lia)
        rw [if_pos this]
        have g2 : a[i + 1]? = some a[i + 1] := List.getElem?_eq_getElem h
        simp only [x_frzV, x_frzP, x_item, x_var, x_bin, x_c, h1, h7, bin_E (oka _ _) ea, true_and, x_evItemL, e2', if_false, e3', List.getElem?_map, Int.toNat_natCast, g2, Option.map_some, Option.some.injEq, exists_eq_left']
        rw [List.getD_eq_getElem?_getD, g2] at hy
        have : a[i + 1] = y := hy
        rw [this]; exact hP
      · have : ¬ (Cmp.ev .lt ((i + 1 : Nat) : Int) (a.length : Int) = true) := by
          intro q; have := of_decide_eq_true q; lia
        rw [if_neg this]
        rw [List.getD_eq_getElem?_getD, List.getElem?_eq_none (by lia)] at hy
        have : y = 0 := hy.symm
        subst this; exact hP
    rw [dInts_succ, x_forB]
    simp only [x_frzV, x_frzP, x_bind1, x_set, Option.some.injEq, exists_eq_left', x_seqs1, x_seqs0, x_asg, List.set_cons_succ, List.set_cons_zero]
    refine hA _ _ _ rfl rfl ?_
    have okr : Op.ok .shr (a[i] : Int) (n : Int) := ⟨by lia, by lia⟩
    have ewn : Op.ev .sub (w : Int) (n : Int) = ((w - n : Nat) : Int) := by simp only [Op.ev]; lia
    have oks : Op.ok .shl (y : Int) ((w - n : Nat) : Int) := ⟨by lia, by lia, by lia⟩
    have oko : ∀ x y : Nat, Op.ok .bor (x : Int) (y : Int) := fun x y => ⟨Int.natCast_nonneg x, Int.natCast_nonneg y⟩
    have okb : ∀ x y : Nat, Op.ok .band (x : Int) (y : Int) := fun x y => ⟨Int.natCast_nonneg x, Int.natCast_nonneg y⟩
    have hxn : a[i] / 2 ^ n < 2 ^ (w - n) := by
      refine Nat.div_lt_of_lt_mul ?_
      rw [← Nat.pow_add, show n + (w - n) = w by lia]; exact hx
    simp only [x_set, x_seqs1, x_seqs0, x_app, x_frz, x_frzV, x_frzP, x_bin, x_item, x_var, List.set_cons_succ, List.set_cons_zero, List.getElem?_cons_succ, List.getElem?_cons_zero, x_itemL g1, e2, if_false, e3, true_and, List.getElem?_map, Int.toNat_natCast, g1, Option.map_some, Option.some.injEq, exists_eq_left', bin_E okr (ev_shr _ _), bin_E (oku _ _) ewn, bin_E oks (ev_shl _ _), bin_E (oko _ _) (ev_bor' hxn), bin_E (okb _ _) (ev_band hM _), x_setC, List.length_map, e5]
    refine ⟨⟨_, rfl⟩, ?_⟩
    rw [e6]
    have hm : (y * 2 ^ (w - n) + a[i] / 2 ^ n) % 2 ^ w < 2 ^ w := Nat.mod_lt _ (Nat.two_pow_pos w)
    have hdig : vl w (a.drop i) / 2 ^ n % 2 ^ w = (y * 2 ^ (w - n) + a[i] / 2 ^ n) % 2 ^ w := by
      rw [vl_drop (by lia), vl_drop_getD a (i + 1), hy, shr_digit hn hx]
    have hnext : vl w (a.drop i) / 2 ^ n / 2 ^ w = vl w (a.drop (i + 1)) / 2 ^ n := by
      rw [Nat.div_div_eq_div_mul, Nat.mul_comm, ← Nat.div_div_eq_div_mul]
      congr 1
      rw [vl_drop (by lia), Nat.add_mul_div_left _ _ (Nat.two_pow_pos w), Nat.div_eq_of_lt hx, Nat.zero_add]
    have key := shr_loop hw hw2 hn hM ha hal vn v3 Q j (i + 1) (F ++ [(y * 2 ^ (w - n) + a[i] / 2 ^ n) % 2 ^ w]) (some (.val (.int (i : Nat)))) (some (.val (.int (y : Nat)))) (by lia) (by simp [hF]) (fun z hz => by
      rcases List.mem_append.mp hz with hz | hz
      · exact hd z hz
      · rw [List.mem_singleton.mp hz]; exact hm) (by
      rw [vl_append, hF, ← hdig, ← hnext]
      simp only [vl, Nat.mul_zero, Nat.add_zero]
      rw [Nat.mul_add w, Nat.mul_one, Nat.pow_add, Nat.mul_assoc, Nat.add_assoc, ← Nat.mul_add, Nat.mod_add_div]
      exact hv) hQ
    rw [ints_snoc] at key
    exact key

theorem run_shift_right {w a n : Nat} (hw : 1 ≤ w) (hw2 : w ≤ 29) (ha : a < 2 ^ 60) (hn : n < w) : K_shift_right [L (limbs w a), .int (n : Nat), .int (w : Nat)] (L (limbs w (a / 2 ^ n))) := by
  refine ⟨rfl, ?_⟩
  unfold Runs b_shift_right
  have L0 : LIM = 1048576 := rfl
  have l1 := len60 hw ha
  have oks : Op.ok .shl 1 (w : Int) := ⟨by lia, by lia, by decide⟩
  have oku : ∀ x y : Int, Op.ok .sub x y := fun _ _ => trivial
  have okd : Op.ok .div (n : Int) (w : Int) := ⟨by lia, by lia⟩
  have okm : Op.ok .mod (n : Int) (w : Int) := (by show (0 : Int) < w; lia)
  have d0 : n / w = 0 := Nat.div_eq_of_lt hn
  have m0 : n % w = n := Nat.mod_eq_of_lt hn
  have s1 : Small ((0 : Nat) : Int) := by unfold Small; lia
  have s2 : Small ((limbs w a).length : Int) := by unfold Small; lia
  have s3 : ((limbs w a).length : Int) - ((0 : Nat) : Int) ≤ (LIM : Nat) := by lia
  have e0 : (((limbs w a).length : Int) - ((0 : Nat) : Int)).toNat = (limbs w a).length := by lia
  simp only [x_frzV, x_frzP, List.map_cons, List.map_nil, List.cons_append, List.nil_append, List.replicate_succ, List.replicate_zero, x_seqs1, x_multi, x_rvs1, x_rvs0, x_bin, x_var, x_c, x_evBin, okd, okm, true_and, ev_div, ev_mod, d0, m0, x_setAll1, x_setAll0, x_set, List.set_cons_succ, List.set_cons_zero, List.getElem?_cons_zero, List.getElem?_cons_succ, x_lst, x_args0, x_addC, List.length_nil, oks, oku, ev_mask, x_for, x_range2, x_len, x_lookV, List.length_map, s1, s2, s3, e0]
  refine shr_loop hw hw2 hn (M := 2 ^ w - 1) rfl (dig_limbs hw a) (by lia) _ _ _ (limbs w a).length 0 [] none none (by lia) rfl (fun x hx => by cases hx) (by simp [vl]) ?_
  intro F o p hd hv
  rw [vl_limbs hw] at hv
  simp only [x_ret, x_seqs1, x_frz, x_frzV, x_frzP, x_call, x_args1, x_args0, x_var, List.getElem?_cons_zero, List.getElem?_cons_succ, Nat.le_refl, true_and, x_setC]
  refine ⟨_, run_normal F, ?_⟩
  rw [strip_limbs hw F hd, hv]
  exact Or.inl rfl
end Mine
end

section
set_option linter.unusedVariables false
set_option linter.unusedSimpArgs false
namespace Mine

theorem guess_loop {w t0 t1 t2 f s H : Nat} (hw2 : w ≤ 29) (ht0 : t0 < 2 ^ w) (hs : s < 2 ^ w) (hf : 0 < f) (hf2 : f < 2 ^ w) (Q : Fl → MS → Prop) :
    ∀ (l r : Nat), l * f + r = H → (H * 2 ^ w + t0) / (f * 2 ^ w + s) ≤ l → l < 2 ^ w →
    (∀ r : Nat, Q .next ⟨[some (.val (L [t0, t1, t2])), some (.val (.int (f : Nat))), some (.val (.int (s : Nat))), some (.val (.int (w : Nat))), some (.val (.int (H : Nat))), some (.val (.int ((2 ^ w : Nat) : Int))), some (.val (.int (((H * 2 ^ w + t0) / (f * 2 ^ w + s) : Nat) : Int))), some (.val (.int (r : Nat)))], []⟩) →
    ∃ n, whileGo (tAnd (tCmp .lt (tVar 7) (tVar 5)) (tCmp .gt (tBin .mul (tVar 6) (tVar 2)) (tBin .bor (tBin .shl (tVar 7) (tVar 3)) (tItem (tVar 0) (tC (.int 0))))))
      (tSeqs [(tAug 6 .sub (tC (.int 1))), (tAug 7 .add (tVar 1))]) n
      ⟨[some (.val (L [t0, t1, t2])), some (.val (.int (f : Nat))), some (.val (.int (s : Nat))), some (.val (.int (w : Nat))), some (.val (.int (H : Nat))), some (.val (.int ((2 ^ w : Nat) : Int))), some (.val (.int (l : Nat))), some (.val (.int (r : Nat)))], []⟩ Q := by
  intro l
  induction l with
  | zero =>
    intro r hr hq hl hQ
    have hq0 : (H * 2 ^ w + t0) / (f * 2 ^ w + s) = 0 := Nat.le_zero.mp hq
    rw [hq0] at hQ
    refine ⟨1, ?_⟩
    rw [x_while1]
    have okm : Op.ok .mul ((0 : Nat) : Int) (s : Int) := .inl (by lia)
    have em : ((0 : Nat) : Int) = 0 := rfl
    simp only [x_frzV, x_frzP, x_and, x_cmp, x_var, List.getElem?_cons_succ, List.getElem?_cons_zero, x_evCmp]
    by_cases h : r < 2 ^ w
    · have c1 : Cmp.ev .lt (r : Int) ((2 ^ w : Nat) : Int) = true := decide_eq_true (by omega)
      have hp : 2 ^ w ≤ 2 ^ 29 := Nat.pow_le_pow_right (by decide) hw2
      have oks : Op.ok .shl (r : Int) (w : Int) := ⟨Int.natCast_nonneg w, by omega, by omega⟩
      have oko : ∀ x y : Nat, Op.ok .bor (x : Int) (y : Int) := fun x y => ⟨Int.natCast_nonneg x, Int.natCast_nonneg y⟩
      have c2 : Cmp.ev .gt ((0 * s : Nat) : Int) ((r * 2 ^ w + t0 : Nat) : Int) = false := decide_eq_false (by omega)
      have z0 : ¬ ((0 : Int) < 0) := by omega
      simp only [x_frzV, x_frzP, c1, if_true, x_cmp, x_bin, x_var, List.getElem?_cons_succ, List.getElem?_cons_zero, bin_E okm (ev_mul _ _), bin_E oks (ev_shl _ _), x_item, x_c, x_item0, bin_E (oko _ _) (ev_bor ht0), x_evCmp, c2, Bool.false_eq_true]
      exact hQ r
    · have c1 : Cmp.ev .lt (r : Int) ((2 ^ w : Nat) : Int) = false := decide_eq_false (by omega)
      simp only [c1, Bool.false_eq_true, if_false]
      exact hQ r
  | succ l ih =>
    intro r hr hq hl hQ
    have hD : 0 < f * 2 ^ w + s := by
      have := Nat.mul_pos hf (Nat.two_pow_pos w); omega
    have hT : (l + 1) * (f * 2 ^ w + s) + r * 2 ^ w = H * 2 ^ w + (l + 1) * s := by
      rw [← hr, Nat.mul_add, Nat.add_mul (((l + 1) * f)), Nat.mul_assoc]; lia
    -- the loop's end
    have stop : (l + 1) * s ≤ r * 2 ^ w + t0 → (H * 2 ^ w + t0) / (f * 2 ^ w + s) = l + 1 := fun h => by
      refine Nat.le_antisymm hq ?_
      rw [Nat.le_div_iff_mul_le hD]; omega
    have okm : Op.ok .mul ((l + 1 : Nat) : Int) (s : Int) := by
      have hp : 2 ^ w ≤ 2 ^ 29 := Nat.pow_le_pow_right (by decide) hw2
      exact Or.inl (by omega)
    have hp : 2 ^ w ≤ 2 ^ 29 := Nat.pow_le_pow_right (by decide) hw2
    have z0 : ¬ ((0 : Int) < 0) := by omega
    have oko : ∀ x y : Nat, Op.ok .bor (x : Int) (y : Int) := fun x y => ⟨Int.natCast_nonneg x, Int.natCast_nonneg y⟩
    by_cases h : r < 2 ^ w
    · have c1 : Cmp.ev .lt (r : Int) ((2 ^ w : Nat) : Int) = true := decide_eq_true (by omega)
      have oks : Op.ok .shl (r : Int) (w : Int) := ⟨Int.natCast_nonneg w, by omega, by omega⟩
      by_cases h2 : r * 2 ^ w + t0 < (l + 1) * s
      · have c2 : Cmp.ev .gt (((l + 1) * s : Nat) : Int) ((r * 2 ^ w + t0 : Nat) : Int) = true := decide_eq_true (by omega)
        have hlt : (H * 2 ^ w + t0) / (f * 2 ^ w + s) < l + 1 := by
          rw [Nat.div_lt_iff_lt_mul hD]; omega
        obtain ⟨n, hn⟩ := ih (r + f) (by rw [Nat.add_mul] at hr; lia) (by omega) (by omega) hQ
        refine ⟨n + 1, ?_⟩
        rw [x_while1]
        have oku : ∀ x y : Int, Op.ok .sub x y := fun _ _ => trivial
        have oka : ∀ x y : Int, Op.ok .add x y := fun _ _ => trivial
        have es : Op.ev .sub ((l + 1 : Nat) : Int) 1 = (l : Nat) := by simp only [Op.ev]; omega
        simp only [x_frzV, x_frzP, x_and, x_cmp, x_var, List.getElem?_cons_succ, List.getElem?_cons_zero, x_evCmp, c1, if_true, x_bin, bin_E okm (ev_mul _ _), bin_E oks (ev_shl _ _), x_item, x_c, x_item0, bin_E (oko _ _) (ev_bor ht0), c2, x_seqs1, x_seqs0, x_aug, bin_E (oku _ _) es, x_set, List.set_cons_succ, List.set_cons_zero, bin_E (oka _ _) (ev_add _ _)]
        exact hn
      · have c2 : Cmp.ev .gt (((l + 1) * s : Nat) : Int) ((r * 2 ^ w + t0 : Nat) : Int) = false := decide_eq_false (by omega)
        have hst := stop (by omega)
        rw [hst] at hQ
        refine ⟨1, ?_⟩
        rw [x_while1]
        simp only [x_frzV, x_frzP, x_and, x_cmp, x_var, List.getElem?_cons_succ, List.getElem?_cons_zero, x_evCmp, c1, if_true, x_bin, bin_E okm (ev_mul _ _), bin_E oks (ev_shl _ _), x_item, x_c, x_item0, bin_E (oko _ _) (ev_bor ht0), c2, Bool.false_eq_true]
        exact hQ r
    · have c1 : Cmp.ev .lt (r : Int) ((2 ^ w : Nat) : Int) = false := decide_eq_false (by omega)
      have hls : (l + 1) * s ≤ 2 ^ w * 2 ^ w := Nat.mul_le_mul (by omega) (by omega)
      have hrr : 2 ^ w * 2 ^ w ≤ r * 2 ^ w := Nat.mul_le_mul_right _ (by omega)
      have hst := stop (by omega)
      rw [hst] at hQ
      refine ⟨1, ?_⟩
      rw [x_while1]
      simp only [x_frzV, x_frzP, x_and, x_cmp, x_var, List.getElem?_cons_succ, List.getElem?_cons_zero, x_evCmp, c1, Bool.false_eq_true, if_false]
      exact hQ r

theorem run_guessed_limb {w t0 t1 t2 f s : Nat} (hw : 1 ≤ w) (hw2 : w ≤ 29) (ht0 : t0 < 2 ^ w) (ht1 : t1 < 2 ^ w) (ht2 : t2 < 2 ^ w) (hs : s < 2 ^ w) (hf : 0 < f) (hf2 : f < 2 ^ w) (hT : t2 * 2 ^ w + t1 < f * 2 ^ w + s) :
    K_guessed_limb [L [t0, t1, t2], .int (f : Nat), .int (s : Nat), .int (w : Nat)] (.int ((((t2 * 2 ^ w + t1) * 2 ^ w + t0) / (f * 2 ^ w + s) : Nat) : Int)) := by
  refine ⟨rfl, ?_⟩
  unfold Runs b_guessed_limb
  have hp : 2 ^ w ≤ 2 ^ 29 := Nat.pow_le_pow_right (by decide) hw2
  have hB := two_le hw
  have z0 : ¬ ((2 : Int) < 0) := by omega
  have z1 : ¬ ((1 : Int) < 0) := by omega
  have oks1 : Op.ok .shl 1 (w : Int) := ⟨by omega, by omega, by decide⟩
  have oks : Op.ok .shl (t2 : Int) (w : Int) := ⟨by omega, by omega, by omega⟩
  have oko : ∀ x y : Nat, Op.ok .bor (x : Int) (y : Int) := fun x y => ⟨Int.natCast_nonneg x, Int.natCast_nonneg y⟩
  have oku : ∀ x y : Int, Op.ok .sub x y := fun _ _ => trivial
  have okd : ∀ x : Nat, Op.ok .div (x : Int) (f : Int) := fun x => ⟨by omega, by omega⟩
  have eb : Op.ev .sub ((2 ^ w : Nat) : Int) 1 = ((2 ^ w - 1 : Nat) : Int) := by simp only [Op.ev]; omega
  have hD : 0 < f * 2 ^ w + s := by
    have := Nat.mul_pos hf (Nat.two_pow_pos w); omega
  simp only [x_frzV, x_frzP, List.map_cons, List.map_nil, List.cons_append, List.nil_append, List.replicate_succ, List.replicate_zero, x_seqs1, x_multi, x_rvs1, x_rvs0, x_bin, x_item, x_var, x_c, List.getElem?_cons_zero, List.getElem?_cons_succ, x_item2, x_item1, bin_E oks (ev_shl _ _), bin_E (oko _ _) (ev_bor ht1), bin_E oks1 ev_base, x_setAll1, x_setAll0, x_set, List.set_cons_succ, List.set_cons_zero, x_asg, x_min, bin_E (okd _) (ev_div _ _), bin_E (oku _ _) eb]
  generalize hH : t2 * 2 ^ w + t1 = H at *
  -- the first guess
  obtain ⟨l, hl, hlf, hlq, hlB⟩ : ∃ l : Nat, (if (((2 ^ w - 1 : Nat) : Int) < ((H / f : Nat) : Int)) then ((2 ^ w - 1 : Nat) : Int) else ((H / f : Nat) : Int)) = (l : Int) ∧ l * f ≤ H ∧ (H * 2 ^ w + t0) / (f * 2 ^ w + s) ≤ l ∧ l < 2 ^ w := by
    have hqf : (H * 2 ^ w + t0) / (f * 2 ^ w + s) ≤ H / f := by
      rw [Nat.le_div_iff_mul_le hf]
      have h1 := Nat.div_mul_le_self (H * 2 ^ w + t0) (f * 2 ^ w + s)
      generalize (H * 2 ^ w + t0) / (f * 2 ^ w + s) = q at h1 ⊢
      rw [Nat.mul_add, ← Nat.mul_assoc] at h1
      have h2 : q * f * 2 ^ w < (H + 1) * 2 ^ w := by rw [Nat.add_mul H]; omega
      have := Nat.lt_of_mul_lt_mul_right h2
      omega
    have hqB : (H * 2 ^ w + t0) / (f * 2 ^ w + s) < 2 ^ w := by
      rw [Nat.div_lt_iff_lt_mul hD]
      have : (H + 1) * 2 ^ w ≤ (f * 2 ^ w + s) * 2 ^ w := Nat.mul_le_mul_right _ hT
      rw [Nat.add_mul H, Nat.mul_comm (f * 2 ^ w + s)] at this
      omega
    by_cases h : 2 ^ w - 1 < H / f
    · refine ⟨2 ^ w - 1, if_pos (by omega), ?_, by omega, by omega⟩
      exact Nat.le_trans (Nat.mul_le_mul_right _ (Nat.le_of_lt h)) (Nat.div_mul_le_self _ _)
    · exact ⟨H / f, if_neg (by omega), Nat.div_mul_le_self _ _, hqf, by omega⟩
  rw [hl]
  have okm : Op.ok .mul (l : Int) (f : Int) := .inl (by omega)
  have er : Op.ev .sub (H : Int) ((l * f : Nat) : Int) = ((H - l * f : Nat) : Int) := by simp only [Op.ev]; omega
  simp only [x_frzV, x_frzP, x_seqs1, x_asg, x_bin, x_var, x_set, List.set_cons_succ, List.set_cons_zero, List.getElem?_cons_zero, List.getElem?_cons_succ, bin_E okm (ev_mul _ _), bin_E (oku _ _) er, x_while]
  refine guess_loop hw2 ht0 hs hf hf2 _ l (H - l * f) (by omega) hlq hlB fun r => ?_
  simp only [x_ret, x_frz, x_frzV, x_frzP, x_var, List.getElem?_cons_zero, List.getElem?_cons_succ, x_seqs1]
  exact Or.inl trivial
end Mine
end

section
set_option linter.unusedVariables false
set_option linter.unusedSimpArgs false
namespace Mine

/-- one limb of a difference with borrow -/
noncomputable def dg (B d p : Nat) : Nat := if d < p % B then d + B - p % B else d - p % B
noncomputable def br (B d p : Nat) : Nat := p / B + if d < p % B then 1 else 0
theorem dg_lt {B d p : Nat} (hB : 0 < B) (hd : d < B) : dg B d p < B := by
  unfold dg
  have := Nat.mod_lt p hB
  split <;> omega
theorem dg_eq (B d p : Nat) (hB : 0 < B) : dg B d p + p = d + B * br B d p := by
  unfold dg br
  have h1 := Nat.mod_lt p hB
  have h2 := Nat.mod_add_div p B
  rw [Nat.mul_add]
  split <;> simp <;> lia

theorem ta_step {w : Nat} (hw : 1 ≤ w) (hw2 : w ≤ 29) {R : List Nat} {k j y c q x : Nat} (hy : y < 2 ^ w) (hq : q < 2 ^ w) (g1 : R[k + j]? = some x) (vb : RV) (o : Option RV) (Q : Fl → MS → Prop)
    (h : ∀ o : Option RV, Q .next ⟨[some (.ptr 0), some vb, some (.val (.int (q : Nat))), some (.val (.int (k : Nat))), some (.val (.int (w : Nat))), some (.val (.int (br (2 ^ w) x (q * y + c) : Nat))), some (.val (.int ((2 ^ w : Nat) : Int))), some (.val (.int (j : Nat))), some (.val (.int (y : Nat))), o], [.lst (iz (R.set (k + j) (dg (2 ^ w) x (q * y + c))))]⟩) :
    tSeqs [(tAsg 9 (tBin .sub (tItem (tVar 0) (tBin .add (tVar 3) (tVar 7))) (tBin .mod (tBin .add (tBin .mul (tVar 2) (tVar 8)) (tVar 5)) (tVar 6)))),
      (tAsg 5 (tBin .add (tBin .div (tBin .add (tBin .mul (tVar 2) (tVar 8)) (tVar 5)) (tVar 6)) (tIfE (tCmp .lt (tVar 9) (tC (.int 0))) (tC (.int 1)) (tC (.int 0))))),
      (tPut 0 (tBin .add (tVar 3) (tVar 7)) (tFrz 1 (tIfE (tCmp .lt (tVar 9) (tC (.int 0))) (tBin .add (tVar 9) (tVar 6)) (tVar 9))))]
      ⟨[some (.ptr 0), some vb, some (.val (.int (q : Nat))), some (.val (.int (k : Nat))), some (.val (.int (w : Nat))), some (.val (.int (c : Nat))), some (.val (.int ((2 ^ w : Nat) : Int))), some (.val (.int (j : Nat))), some (.val (.int (y : Nat))), o], [.lst (iz R)]⟩ Q := by
  have hp : 2 ^ w ≤ 2 ^ 29 := Nat.pow_le_pow_right (by decide) hw2
  have hB : 0 < 2 ^ w := Nat.two_pow_pos w
  have hkl : k + j < R.length := (List.getElem?_eq_some_iff.mp g1).1
  have e3 : (0 : Int) ≤ ((k + j : Nat) : Int) := Int.natCast_nonneg _
  have e4 : ((k + j : Nat) : Int) < (R.length : Int) := Int.ofNat_lt.mpr hkl
  have oka : ∀ x y : Int, Op.ok .add x y := fun _ _ => trivial
  have oku : ∀ x y : Int, Op.ok .sub x y := fun _ _ => trivial
  have okm : Op.ok .mul (q : Int) (y : Int) := .inl (by omega)
  have okd : ∀ x : Nat, Op.ok .div (x : Int) ((2 ^ w : Nat) : Int) := fun x => ⟨Int.ofNat_lt.mpr hB, by omega⟩
  have oko : ∀ x : Nat, Op.ok .mod (x : Int) ((2 ^ w : Nat) : Int) := fun x => Int.ofNat_lt.mpr hB
  have a1 := ev_add k j
  have a2 := ev_mul q y
  have a3 := ev_add (q * y) c
  have a4 := ev_mod (q * y + c) (2 ^ w)
  have a5 := ev_div (q * y + c) (2 ^ w)
  simp only [x_seqs1, x_seqs0, x_asg, x_bin, x_item, x_var, List.getElem?_cons_zero, List.getElem?_cons_succ, bin_E (oka _ _) a1, x_itemP g1, bin_E okm a2, bin_E (oka _ _) a3, bin_E (oko _) a4, bin_E (oku _ _) rfl, x_set, List.set_cons_succ, List.set_cons_zero, bin_E (okd _) a5, x_ife, x_cmp, x_c, x_evCmp]
  generalize q * y + c = p at h ⊢
  by_cases hn : x < p % 2 ^ w
  · have c1 : Cmp.ev .lt (Op.ev .sub (x : Int) ((p % 2 ^ w : Nat) : Int)) 0 = true := decide_eq_true (by simp only [Op.ev]; omega)
    have ev1 : Op.ev .add ((p / 2 ^ w : Nat) : Int) 1 = ((br (2 ^ w) x p : Nat) : Int) := by unfold br; rw [if_pos hn]; rfl
    have ev2 : Op.ev .add (Op.ev .sub (x : Int) ((p % 2 ^ w : Nat) : Int)) ((2 ^ w : Nat) : Int) = ((dg (2 ^ w) x p : Nat) : Int) := by
      unfold dg; rw [if_pos hn]; simp only [Op.ev]; have := Nat.mod_lt p hB; omega
    simp only [c1, if_true, x_c, bin_E (oka _ _) ev1, x_put, x_frz, x_frzV, x_ife, x_cmp, x_bin, x_var, x_evCmp, x_set, List.set_cons_succ, List.set_cons_zero, List.getElem?_cons_zero, List.getElem?_cons_succ, bin_E (oka _ _) ev2, bin_E (oka _ _) a1, List.length_map, Int.toNat_natCast, x_setC]
    refine ⟨e3, e4, ?_⟩
    rw [ints_set]
    exact h _
  · have c1 : Cmp.ev .lt (Op.ev .sub (x : Int) ((p % 2 ^ w : Nat) : Int)) 0 = false := decide_eq_false (by simp only [Op.ev]; omega)
    have ev1 : Op.ev .add ((p / 2 ^ w : Nat) : Int) 0 = ((br (2 ^ w) x p : Nat) : Int) := by unfold br; rw [if_neg hn]; rfl
    have ev2 : Op.ev .sub (x : Int) ((p % 2 ^ w : Nat) : Int) = ((dg (2 ^ w) x p : Nat) : Int) := by
      unfold dg; rw [if_neg hn]; simp only [Op.ev]; omega
    rw [ev2] at c1
    simp only [ev2, c1, Bool.false_eq_true, if_false, x_c, bin_E (oka _ _) ev1, x_put, x_frz, x_frzV, x_ife, x_cmp, x_bin, x_var, x_evCmp, x_set, List.set_cons_succ, List.set_cons_zero, List.getElem?_cons_zero, List.getElem?_cons_succ, bin_E (oka _ _) a1, List.length_map, Int.toNat_natCast, x_setC]
    refine ⟨e3, e4, ?_⟩
    rw [ints_set]
    exact h _

theorem take_arith {B x0 x1 x2 q b0 b1 V r0 c0 r1 c1 : Nat} (hB : 0 < B) (d0 : x0 < B) (d1 : x1 < B) (hV : V < B * B) (hT : x0 + B * (x1 + B * x2) = V + q * (b0 + B * b1))
    (hr0 : dg B x0 (q * b0 + 0) = r0) (hc0 : br B x0 (q * b0 + 0) = c0) (hr1 : dg B x1 (q * b1 + c0) = r1) (hc1 : br B x1 (q * b1 + c0) = c1) : r0 < B ∧ r1 < B ∧ r0 + B * r1 = V ∧ c1 = x2 := by
  have E0 := dg_eq B x0 (q * b0 + 0) hB
  have E1 := dg_eq B x1 (q * b1 + c0) hB
  have lt0 : r0 < B := hr0 ▸ dg_lt hB d0
  have lt1 : r1 < B := hr1 ▸ dg_lt hB d1
  rw [hr0, hc0] at E0
  rw [hr1, hc1] at E1
  clear hr0 hc0 hr1 hc1 d0 d1
  have key : r0 + B * r1 + B * (B * x2) = V + B * (B * c1) := by
    have m1 : B * (r1 + (q * b1 + c0)) = B * (x1 + B * c1) := by rw [E1]
    have m2 : q * (b0 + B * b1) = q * b0 + B * (q * b1) := by rw [Nat.mul_add, Nat.mul_left_comm]
    rw [m2] at hT
    simp only [Nat.mul_add] at m1 hT
    lia
  have h01 : r0 + B * r1 < B * B := by
    have : B * (r1 + 1) ≤ B * B := Nat.mul_le_mul_left _ lt1
    rw [Nat.mul_add] at this; lia
  have hc : c1 = x2 := by
    rcases Nat.lt_trichotomy c1 x2 with h | h | h
    · have : B * (B * (c1 + 1)) ≤ B * (B * x2) := Nat.mul_le_mul_left _ (Nat.mul_le_mul_left _ h)
      simp only [Nat.mul_add, Nat.mul_one] at this; lia
    · exact h
    · have : B * (B * (x2 + 1)) ≤ B * (B * c1) := Nat.mul_le_mul_left _ (Nat.mul_le_mul_left _ h)
      simp only [Nat.mul_add, Nat.mul_one] at this; lia
  exact ⟨lt0, lt1, by rw [hc] at key; lia, hc⟩

/-- q times (b0, b1) goes off the three limbs at k -/
theorem run_take_away {w : Nat} (hw : 1 ≤ w) (hw2 : w ≤ 29) {R : List Nat} (hd : Dig w R) (hl : R.length ≤ 100) {k q b0 b1 x0 x1 x2 : Nat} (g0 : R[k]? = some x0) (g1 : R[k + 1]? = some x1) (g2 : R[k + 2]? = some x2) (hq : q < 2 ^ w) (hb0 : b0 < 2 ^ w) (hb1 : b1 < 2 ^ w)
    {V : Nat} (hV : V < 2 ^ w * 2 ^ w) (hT : x0 + 2 ^ w * (x1 + 2 ^ w * x2) = V + q * (b0 + 2 ^ w * b1)) :
    ∃ r0 r1, r0 < 2 ^ w ∧ r1 < 2 ^ w ∧ r0 + 2 ^ w * r1 = V ∧ K_take_away (iz R) [L [b0, b1], .int (q : Nat), .int (k : Nat), .int (w : Nat)] (iz (((R.set k r0).set (k + 1) r1).set (k + 2) 0)) (.int 0) := by
  have hd0 := hd x0 (List.mem_of_getElem? g0)
  have hd1 := hd x1 (List.mem_of_getElem? g1)
  have L0 : LIM = 1048576 := rfl
  obtain ⟨r0, hr0⟩ : ∃ r, dg (2 ^ w) x0 (q * b0 + 0) = r := ⟨_, rfl⟩
  obtain ⟨c0, hc0⟩ : ∃ r, br (2 ^ w) x0 (q * b0 + 0) = r := ⟨_, rfl⟩
  obtain ⟨r1, hr1⟩ : ∃ r, dg (2 ^ w) x1 (q * b1 + c0) = r := ⟨_, rfl⟩
  obtain ⟨c1, hc1⟩ : ∃ r, br (2 ^ w) x1 (q * b1 + c0) = r := ⟨_, rfl⟩
  obtain ⟨lt0, lt1, hsum, hc⟩ := take_arith (Nat.two_pow_pos w) hd0 hd1 hV hT hr0 hc0 hr1 hc1
  have hkl : k + 2 < R.length := (List.getElem?_eq_some_iff.mp g2).1
  refine ⟨r0, r1, lt0, lt1, hsum, rfl, by simp only [List.length_map, List.length_set]; omega, ?_⟩
  unfold RunsM b_take_away
  have oks : Op.ok .shl 1 (w : Int) := ⟨Int.natCast_nonneg _, by omega, by decide⟩
  simp only [List.map_cons, List.map_nil, List.cons_append, List.nil_append, List.replicate_succ, List.replicate_zero, x_seqs1, x_multi, x_rvs1, x_rvs0, x_c, x_bin, x_var, bin_E oks ev_base, x_setAll1, x_setAll0, x_set, List.set_cons_succ, List.set_cons_zero, List.getElem?_cons_zero, List.getElem?_cons_succ, x_for, x_enum, x_frz, x_frzV, enumFrom]
  rw [x_for1]
  refine ⟨_, rfl, ?_⟩
  simp only [x_set, List.set_cons_succ, List.set_cons_zero]
  refine ta_step hw hw2 (R := R) (k := k) (j := 0) (y := b0) (c := 0) (q := q) hb0 hq g0 _ _ _ fun o => ?_
  rw [hr0, hc0]
  simp only [x_for1]
  refine ⟨_, rfl, ?_⟩
  simp only [x_set, List.set_cons_succ, List.set_cons_zero]
  have g1' : (R.set (k + 0) r0)[k + 1]? = some x1 := (List.getElem?_set_ne (by omega)).trans g1
  refine ta_step hw hw2 (R := R.set (k + 0) r0) (k := k) (j := 1) (y := b1) (c := c0) (q := q) hb1 hq g1' _ _ _ fun o => ?_
  rw [hr1, hc1, hc]
  have g2' : ((R.set (k + 0) r0).set (k + 1) r1)[k + 2]? = some x2 := (List.getElem?_set_ne (by omega)).trans ((List.getElem?_set_ne (by omega)).trans g2)
  have e3 : (0 : Int) ≤ ((k + 2 : Nat) : Int) := Int.natCast_nonneg _
  have e4 : ((k + 2 : Nat) : Int) < (((R.set (k + 0) r0).set (k + 1) r1).length : Int) := by rw [List.length_set, List.length_set]; exact Int.ofNat_lt.mpr hkl
  have ea : Op.ev .add (k : Int) ((0 + 1 + 1 : Nat) : Int) = ((k + 2 : Nat) : Int) := rfl
  have oka : ∀ x y : Int, Op.ok .add x y := fun _ _ => trivial
  have oku : ∀ x y : Int, Op.ok .sub x y := fun _ _ => trivial
  have es : Op.ev .sub (x2 : Int) (x2 : Int) = 0 := Int.sub_self _
  have cc : Cmp.ev .lt 0 0 = false := rfl
  simp only [x_for0, x_seqs1, x_seqs0, x_asg, x_bin, x_item, x_var, x_len, x_lookV, List.length_cons, List.length_nil, List.length_map, List.getElem?_cons_zero, List.getElem?_cons_succ, bin_E (oka _ _) ea, x_itemP g2', bin_E (oku _ _) es, x_set, List.set_cons_succ, List.set_cons_zero, x_put, x_frz, x_frzV, x_ife, x_cmp, x_c, x_evCmp, cc, Bool.false_eq_true, if_false, Int.toNat_natCast, x_setC, x_ret]
  exact ⟨e3, e4, Or.inl trivial, congrArg (fun l => some (Cell.lst l)) (ints_set ((R.set (k + 0) r0).set (k + 1) r1) (k + 2) 0)⟩
end Mine
end

section
set_option linter.unusedVariables false
set_option linter.unusedSimpArgs false
namespace Mine

theorem vl_drop_ {w : Nat} {l : List Nat} {k x : Nat} (g : l[k]? = some x) : vl w (l.drop k) = x + 2 ^ w * vl w (l.drop (k + 1)) := by
  obtain ⟨h, e⟩ := List.getElem?_eq_some_iff.mp g
  rw [vl_drop h, e]
theorem vl_set_ {w : Nat} {l : List Nat} {k y : Nat} (x : Nat) (g : l[k]? = some y) : vl w (l.set k x) + 2 ^ (w * k) * y = vl w l + 2 ^ (w * k) * x := by
  obtain ⟨h, e⟩ := List.getElem?_eq_some_iff.mp g
  rw [← e]; exact vl_set l k x h
theorem cut3 {R : List Nat} {k x0 x1 x2 : Nat} (g0 : R[k]? = some x0) (g1 : R[k + 1]? = some x1) (g2 : R[k + 2]? = some x2) : cut (iz R) (some (k : Int)) (some ((k + 3 : Nat) : Int)) = iz [x0, x1, x2] := by
  obtain ⟨h0, e0⟩ := List.getElem?_eq_some_iff.mp g0
  obtain ⟨h1, e1⟩ := List.getElem?_eq_some_iff.mp g1
  obtain ⟨h2, e2⟩ := List.getElem?_eq_some_iff.mp g2
  unfold cut
  simp only [Option.elim, List.length_map]
  rw [clip_nat (by omega), clip_nat (by omega), show k + 3 - k = 3 by omega, ← List.map_drop, ← List.map_take, List.drop_eq_getElem_cons h0, List.drop_eq_getElem_cons h1, List.drop_eq_getElem_cons h2, e0, e1, e2]
  rfl

/-- what stands above is nought, and the two limbs are below the divisor -/
theorem div_top {B x1 x2 v b0 b1 : Nat} (hb0 : b0 < B) (hb1 : b1 < B) (hlt : x1 + B * (x2 + B * v) < b0 + B * b1) : v = 0 ∧ x2 * B + x1 < b1 * B + b0 := by
  have h1 : B * (b1 + 1) ≤ B * B := Nat.mul_le_mul_left _ hb1
  rw [Nat.mul_add, Nat.mul_one] at h1
  have hv : v = 0 := by
    rcases Nat.eq_zero_or_pos v with h | h
    · exact h
    · have h2 : B * (B * 1) ≤ B * (B * v) := Nat.mul_le_mul_left _ (Nat.mul_le_mul_left _ h)
      rw [Nat.mul_one] at h2
      rw [Nat.mul_add] at hlt
      omega
  refine ⟨hv, ?_⟩
  rw [hv, Nat.mul_zero, Nat.add_zero] at hlt
  rw [Nat.mul_comm x2, Nat.mul_comm b1]; omega
theorem div_q {B x0 x1 x2 b0 b1 : Nat} (h0 : x0 < B) (hb : 0 < b1) (hB : 0 < B) (hT : x2 * B + x1 < b1 * B + b0) : ∃ q V, ((x2 * B + x1) * B + x0) / (b1 * B + b0) = q ∧ q < B ∧ V < b0 + B * b1 ∧ x0 + B * (x1 + B * x2) = V + q * (b0 + B * b1) := by
  have hD0 : 0 < b1 * B + b0 := Nat.lt_of_le_of_lt (Nat.zero_le _) hT
  have hDe : b1 * B + b0 = b0 + B * b1 := by rw [Nat.mul_comm b1, Nat.add_comm]
  refine ⟨_, ((x2 * B + x1) * B + x0) % (b1 * B + b0), rfl, ?_, ?_, ?_⟩
  · rw [Nat.div_lt_iff_lt_mul hD0]
    have : (x2 * B + x1 + 1) * B ≤ (b1 * B + b0) * B := Nat.mul_le_mul_right _ hT
    rw [Nat.add_mul _ 1, Nat.mul_comm (b1 * B + b0)] at this
    omega
  · rw [← hDe]; exact Nat.mod_lt _ hD0
  · have h1 : (x2 * B + x1) * B + x0 = x0 + B * (x1 + B * x2) := by
      rw [Nat.mul_comm (x2 * B + x1), Nat.mul_comm x2, Nat.add_comm (B * x2), Nat.add_comm]
    rw [← hDe, ← h1, Nat.mul_comm (_ / _)]
    exact (Nat.mod_add_div _ _).symm
theorem div_sum {P B r0 r1 x0 x1 x2 V q D v v0 v1 v2 vq : Nat} (s0 : v0 + P * x0 = v + P * r0) (s1 : v1 + P * B * x1 = v0 + P * B * r1) (s2 : v2 + P * (B * B) * x2 = v1) (hr : r0 + B * r1 = V) (hT : x0 + B * (x1 + B * x2) = V + q * D) : v2 + D * (vq + P * q) = v + D * vq := by
  have m1 : P * (x0 + B * (x1 + B * x2)) = P * (r0 + B * r1 + q * D) := by rw [hT, ← hr]
  have m2 : D * (P * q) = P * (q * D) := by rw [Nat.mul_left_comm, Nat.mul_comm D q]
  rw [Nat.mul_add D, m2]
  simp only [Nat.mul_add, Nat.mul_assoc] at s1 s2 m1
  omega

theorem divide_loop {w : Nat} (hw : 1 ≤ w) (hw2 : w ≤ 29) {b0 b1 n A : Nat} (hb0 : b0 < 2 ^ w) (hb1 : b1 < 2 ^ w) (hbp : 0 < b1) (hn : n ≤ 100) (Q : Fl → MS → Prop) :
    ∀ (k : Nat) (R Qt : List Nat) (o p : Option RV), k + 2 ≤ n → R.length = n → Qt.length = n - 2 → Dig w R → Dig w Qt → vl w (R.drop k) < b0 + 2 ^ w * b1 → vl w R + (b0 + 2 ^ w * b1) * vl w Qt = A → (∀ j, j < k → Qt.getD j 0 = 0) →
    (∀ (R Qt : List Nat) (o p : Option RV), R.length = n → Qt.length = n - 2 → Dig w R → Dig w Qt → vl w R < b0 + 2 ^ w * b1 → vl w R + (b0 + 2 ^ w * b1) * vl w Qt = A →
      Q .next ⟨[some (.ptr 0), some (.val (L [b0, b1])), some (.val (.int (w : Nat))), some (.val (.int ((2 : Nat) : Int))), some (.ptr 1), o, p], [.lst (iz R), .lst (iz Qt)]⟩) →
    forGo (bind1 5) (tSeqs [(tAsg 6 (tCall K_guessed_limb [(tFrz 1 (tCut (tVar 0) (some (tBin .sub (tBin .add (tVar 5) (tVar 3)) (tC (.int 2)))) (some (tBin .add (tBin .add (tVar 5) (tVar 3)) (tC (.int 1)))))), (tFrz 1 (tItem (tVar 1) (tBin .sub (tVar 3) (tC (.int 1))))), (tFrz 1 (tItem (tVar 1) (tBin .sub (tVar 3) (tC (.int 2))))), (tFrz 1 (tVar 2))])),
      (tIf (tCmp .eq (tCallM K_take_away 0 [(tFrz 1 (tVar 1)), (tFrz 1 (tVar 6)), (tFrz 1 (tVar 5)), (tFrz 1 (tVar 2))]) (tC (.int 1)))
      (tSeqs [(tAug 6 .sub (tC (.int 1))),
      (tDo (tCallM K_put_back 0 [(tFrz 1 (tVar 1)), (tFrz 1 (tVar 5)), (tFrz 1 (tVar 2))]))])
      (tSeqs [])),
      (tPut 4 (tVar 5) (tFrz 1 (tVar 6)))]) (dInts ((k : Int) - 1) (-1) k)
      ⟨[some (.ptr 0), some (.val (L [b0, b1])), some (.val (.int (w : Nat))), some (.val (.int ((2 : Nat) : Int))), some (.ptr 1), o, p], [.lst (iz R), .lst (iz Qt)]⟩ Q
  | 0, R, Qt, o, p, hk, hR, hQt, hd, hdq, hlt, hA, hz, hQ => hQ R Qt o p hR hQt hd hdq (by simpa using hlt) hA
  | k + 1, R, Qt, o, p, hk, hR, hQt, hd, hdq, hlt, hA, hz, hQ => by
    have hB : 0 < 2 ^ w := Nat.two_pow_pos w
    obtain ⟨x0, g0⟩ : ∃ x, R[k]? = some x := ⟨_, List.getElem?_eq_getElem (by omega)⟩
    obtain ⟨x1, g1⟩ : ∃ x, R[k + 1]? = some x := ⟨_, List.getElem?_eq_getElem (by omega)⟩
    obtain ⟨x2, g2⟩ : ∃ x, R[k + 2]? = some x := ⟨_, List.getElem?_eq_getElem (by omega)⟩
    have d0 := hd x0 (List.mem_of_getElem? g0)
    have d1 := hd x1 (List.mem_of_getElem? g1)
    have d2 := hd x2 (List.mem_of_getElem? g2)
    rw [vl_drop_ g1, vl_drop_ g2] at hlt
    obtain ⟨v3, hT⟩ := div_top hb0 hb1 hlt
    obtain ⟨q, V, hq, hqB, hVD, hTT⟩ := div_q d0 hbp hB hT
    have hDB : b0 + 2 ^ w * b1 < 2 ^ w * 2 ^ w := by
      have : 2 ^ w * (b1 + 1) ≤ 2 ^ w * 2 ^ w := Nat.mul_le_mul_left _ hb1
      rw [Nat.mul_add] at this; omega
    obtain ⟨r0, r1, lr0, lr1, hrs, hK⟩ := run_take_away hw hw2 hd (by omega) g0 g1 g2 hqB hb0 hb1 (Nat.lt_trans hVD hDB) hTT
    have hG := run_guessed_limb hw hw2 d0 d1 d2 hb0 hbp hb1 hT
    rw [hq] at hG
    have oka : ∀ x y : Int, Op.ok .add x y := fun _ _ => trivial
    have oku : ∀ x y : Int, Op.ok .sub x y := fun _ _ => trivial
    have e0 : Op.ev .add (k : Int) ((2 : Nat) : Int) = ((k + 2 : Nat) : Int) := rfl
    have ea : Op.ev .sub ((k + 2 : Nat) : Int) 2 = (k : Int) := by simp only [Op.ev]; omega
    have eb : Op.ev .add ((k + 2 : Nat) : Int) 1 = ((k + 3 : Nat) : Int) := rfl
    have ec : Op.ev .sub ((2 : Nat) : Int) 1 = ((1 : Nat) : Int) := rfl
    have ed : Op.ev .sub ((2 : Nat) : Int) 2 = ((0 : Nat) : Int) := rfl
    have f0 : ([b0, b1] : List Nat)[0]? = some b0 := rfl
    have f1 : ([b0, b1] : List Nat)[1]? = some b1 := rfl
    have e1 : ((k + 1 : Nat) : Int) - 1 = k := by omega
    have e6 : (k : Int) + -1 = (k : Int) - 1 := rfl
    have cc : Cmp.ev .eq 0 1 = false := rfl
    have e5 : (k : Int) < (Qt.length : Int) := by omega
    rw [e1, dInts_succ, x_forB]
    simp only [x_set, List.set_cons_succ, List.set_cons_zero, x_seqs1, x_seqs0, x_asg, x_call, x_args1, x_args0, x_frz, x_frzV, x_cut, x_opt1, x_var, x_bin, x_c, List.getElem?_cons_zero, List.getElem?_cons_succ, bin_E (oka _ _) e0, bin_E (oku _ _) ea, bin_E (oka _ _) eb, bin_E (oku _ _) ec, bin_E (oku _ _) ed, x_lookP0, cut3 g0 g1 g2, x_item, x_itemL f0, x_itemL f1]
    refine ⟨_, hG, ?_⟩
    simp only [x_if, x_cmp, x_callM, x_args1, x_args0, x_frz, x_frzV, x_var, List.getElem?_cons_zero, List.getElem?_cons_succ, x_set, List.set_cons_succ, List.set_cons_zero]
    refine ⟨_, _, hK, ?_⟩
    simp only [x_c, x_setC, x_evCmp, cc, Bool.false_eq_true, if_false, x_seqs1, x_seqs0, x_put, x_frz, x_frzV, x_var, List.getElem?_cons_zero, List.getElem?_cons_succ, List.set_cons_succ, List.set_cons_zero, List.length_map, Int.toNat_natCast]
    refine ⟨Int.natCast_nonneg _, e5, ?_⟩
    rw [ints_set, e6]
    have gq : Qt[k]? = some 0 := by
      have h0 := hz k (Nat.lt_succ_self k)
      have hkQ : k < Qt.length := by omega
      rw [List.getD_eq_getElem?_getD, List.getElem?_eq_getElem hkQ] at h0
      rw [List.getElem?_eq_getElem hkQ]; exact congrArg some h0
    have g1' : (R.set k r0)[k + 1]? = some x1 := (List.getElem?_set_ne (by omega)).trans g1
    have g2' : ((R.set k r0).set (k + 1) r1)[k + 2]? = some x2 := (List.getElem?_set_ne (by omega)).trans ((List.getElem?_set_ne (by omega)).trans g2)
    have s0 := vl_set_ (w := w) r0 g0
    have s1 := vl_set_ (w := w) r1 g1'
    have s2 := vl_set_ (w := w) 0 g2'
    have sq := vl_set_ (w := w) q gq
    have l3 : (((R.set k r0).set (k + 1) r1).set (k + 2) 0).length = n := by rw [List.length_set, List.length_set, List.length_set]; exact hR
    refine divide_loop hw hw2 hb0 hb1 hbp hn Q k (((R.set k r0).set (k + 1) r1).set (k + 2) 0) (Qt.set k q) _ _ (by omega) l3 (by rw [List.length_set]; exact hQt) (((hd.set k lr0).set (k + 1) lr1).set (k + 2) hB) (hdq.set k hqB) ?_ ?_ ?_ hQ
    · have z0 : (((R.set k r0).set (k + 1) r1).set (k + 2) 0)[k]? = some r0 := by
        rw [List.getElem?_set_ne (by omega), List.getElem?_set_ne (by omega), List.getElem?_set_self (by omega)]
      have z1 : (((R.set k r0).set (k + 1) r1).set (k + 2) 0)[k + 1]? = some r1 := by
        rw [List.getElem?_set_ne (by omega), List.getElem?_set_self (by rw [List.length_set]; omega)]
      have z2 : (((R.set k r0).set (k + 1) r1).set (k + 2) 0)[k + 2]? = some 0 := by
        rw [List.getElem?_set_self (by rw [List.length_set, List.length_set]; omega)]
      have z3 : (((R.set k r0).set (k + 1) r1).set (k + 2) 0).drop (k + 3) = R.drop (k + 3) := by
        rw [drop_set_ge (by omega), drop_set_ge (by omega), drop_set_ge (by omega)]
      rw [vl_drop_ z0, vl_drop_ z1, vl_drop_ z2, z3, v3, Nat.mul_zero, Nat.add_zero, Nat.mul_zero, Nat.add_zero, hrs]
      exact hVD
    · rw [Nat.mul_zero, Nat.add_zero] at sq s2
      rw [sq, ← hA]
      have p1 : 2 ^ (w * (k + 1)) = 2 ^ (w * k) * 2 ^ w := by rw [Nat.mul_add, Nat.mul_one, Nat.pow_add]
      have p2 : 2 ^ (w * (k + 2)) = 2 ^ (w * k) * (2 ^ w * 2 ^ w) := by
        rw [Nat.mul_add, Nat.pow_add, Nat.mul_comm w 2, Nat.two_mul, Nat.pow_add]
      rw [p1] at s1
      rw [p2] at s2
      exact div_sum s0 s1 s2 hrs hTT
    · intro j hj
      rw [List.getD_eq_getElem?_getD, List.getElem?_set_ne (by omega), ← List.getD_eq_getElem?_getD]
      exact hz j (by omega)
end Mine
end

section
set_option linter.unusedVariables false
set_option linter.unusedSimpArgs false
namespace Mine

/-- n limbs of a number -/
noncomputable def pad (w : Nat) : Nat → Nat → List Nat
  | 0, _ => []
  | n + 1, v => (v % 2 ^ w) :: pad w n (v / 2 ^ w)
theorem pad_of {w : Nat} : ∀ (l : List Nat), Dig w l → l = pad w l.length (vl w l)
  | [], _ => rfl
  | a :: l, h => by
    have ih := pad_of l h.tail
    have ha := h.head
    show a :: l = ((a + 2 ^ w * vl w l) % 2 ^ w) :: pad w l.length ((a + 2 ^ w * vl w l) / 2 ^ w)
    rw [Nat.add_mul_mod_self_left, Nat.mod_eq_of_lt ha, Nat.add_mul_div_left _ _ (Nat.two_pow_pos w), Nat.div_eq_of_lt ha, Nat.zero_add, ← ih]
theorem pad_len (w : Nat) : ∀ (n v : Nat), (pad w n v).length = n
  | 0, _ => rfl
  | n + 1, v => by simp [pad, pad_len w n]

theorem vl_pad (w : Nat) : ∀ (n v : Nat), vl w (pad w n v) = v % 2 ^ (w * n)
  | 0, v => by simp [pad, vl, Nat.mod_one]
  | n + 1, v => by
    show v % 2 ^ w + 2 ^ w * vl w (pad w n (v / 2 ^ w)) = _
    rw [vl_pad w n, Nat.mul_add, Nat.mul_one, Nat.add_comm (w * n), Nat.pow_add, Nat.mod_mul]
theorem pad_dig (w : Nat) : ∀ (n v : Nat), Dig w (pad w n v)
  | 0, v => fun x hx => by cases hx
  | n + 1, v => fun x hx => by
    rcases List.mem_cons.mp hx with h | h
    · rw [h]; exact Nat.mod_lt _ (Nat.two_pow_pos w)
    · exact pad_dig w n _ x h
theorem run_normal_pad {w n v : Nat} (hw : 1 ≤ w) (h : v < 2 ^ (w * n)) : K_normal [L (pad w n v)] (L (limbs w v)) := by
  have := run_normal (pad w n v)
  rw [strip_limbs hw _ (pad_dig w n v), vl_pad, Nat.mod_eq_of_lt h] at this
  exact this
theorem limbs_len_le {w : Nat} (hw : 1 ≤ w) : ∀ (n v : Nat), v < 2 ^ (w * n) → (limbs w v).length ≤ n
  | 0, v, h => by
    have : v = 0 := by simpa using h
    subst this; exact Nat.le_refl _
  | n + 1, v, h => by
    by_cases hv : v = 0
    · subst hv; simp [limbs_zero]
    · rw [limbs_pos hw hv, List.length_cons]
      refine Nat.succ_le_succ (limbs_len_le hw n _ (Nat.div_lt_of_lt_mul ?_))
      rw [← Nat.pow_add, Nat.add_comm w, ← Nat.mul_succ]; exact h

theorem run_divide_rows {w : Nat} (hw : 1 ≤ w) (hw2 : w ≤ 29) {b0 b1 n : Nat} (hb0 : b0 < 2 ^ w) (hb1 : b1 < 2 ^ w) (hbp : 0 < b1) (hn : n ≤ 100) {R : List Nat} (hR : R.length = n) (hn2 : 2 ≤ n) (hd : Dig w R) (hlt : vl w (R.drop (n - 2)) < b0 + 2 ^ w * b1) :
    K_divide_rows (iz R) [L [b0, b1], .int (w : Nat)] (iz (pad w n (vl w R % (b0 + 2 ^ w * b1)))) (L (pad w (n - 2) (vl w R / (b0 + 2 ^ w * b1)))) := by
  have L0 : LIM = 1048576 := rfl
  refine ⟨rfl, by simp [pad_len]; lia, ?_⟩
  unfold RunsM b_divide_rows
  have hD : 0 < b0 + 2 ^ w * b1 := by
    have := Nat.mul_pos (Nat.two_pow_pos w) hbp; lia
  have oku : ∀ x y : Int, Op.ok .sub x y := fun _ _ => trivial
  have hne : ¬ ([D.int 0] = ([] : List D)) := by intro h; cases h
  have e1 : Op.ev .sub (R.length : Int) ((0 + 1 + 1 : Nat) : Int) = ((n - 2 : Nat) : Int) := by simp only [Op.ev]; lia
  have e2 : Op.ev .sub ((n - 2 : Nat) : Int) 1 = ((n - 2 : Nat) : Int) - 1 := rfl
  have z1 : 1 * (n - 2) ≤ LIM := by lia
  have z2 : ((n - 2 : Nat) : Int) ≤ 1000000 := by lia
  have z3 : (0 : Int) ≤ ((n - 2 : Nat) : Int) := by lia
  have s1 : Small (((n - 2 : Nat) : Int) - 1) := by unfold Small; lia
  have s2 : Small (-1) := by unfold Small; lia
  have s3 : ((n - 2 : Nat) : Int) - 1 - -1 ≤ (LIM : Nat) := by lia
  have e3 : (((n - 2 : Nat) : Int) - 1 - -1).toNat = n - 2 := by lia
  have hz : List.replicate (n - 2) (D.int 0) = iz (List.replicate (n - 2) 0) := by simp
  simp only [List.map_cons, List.map_nil, List.cons_append, List.nil_append, List.replicate_succ, List.replicate_zero, x_seqs1, x_asg, x_len, x_var, List.getElem?_cons_zero, List.getElem?_cons_succ, x_lookV, x_lookP0, List.length_cons, List.length_nil, List.length_map, x_set, List.set_cons_succ, List.set_cons_zero, x_rep, x_lstV, x_args1, x_args0, x_frz, x_frzV, x_frzP, x_c, x_bin, x_evBin, oku, true_and, e1, ne_eq, hne, not_false_eq_true, Nat.zero_add, Int.toNat_natCast, z1, z2, z3, flat_one, hz, x_addC, x_for, x_rangeD, x_neg, e2, s1, s2, s3, e3]
  refine divide_loop hw hw2 hb0 hb1 hbp hn _ (n - 2) R (List.replicate (n - 2) 0) none none (by lia) hR (by simp) hd (fun x hx => by
    rw [(List.mem_replicate.mp hx).2]; exact Nat.two_pow_pos w) hlt (A := vl w R) (by rw [vl_zeros]; simp) (fun j hj => by
    rw [List.getD_eq_getElem?_getD, List.getElem?_replicate]; split <;> rfl) ?_
  intro R' Qt o p hR' hQl hd' hdq hlt' hA
  have hr : vl w R' = vl w R % (b0 + 2 ^ w * b1) := by rw [← hA, Nat.add_mul_mod_self_left, Nat.mod_eq_of_lt hlt']
  have hq : vl w Qt = vl w R / (b0 + 2 ^ w * b1) := by rw [← hA, Nat.add_mul_div_left _ _ hD, Nat.div_eq_of_lt hlt', Nat.zero_add]
  have h1 := pad_of R' hd'
  have h2 := pad_of Qt hdq
  rw [hR', hr] at h1
  rw [hQl, hq] at h2
  simp only [x_ret, x_frz, x_frzV, x_frzP, x_var, x_seqs1, List.getElem?_cons_zero, List.getElem?_cons_succ, Nat.le_refl, true_and, x_setC, List.set_cons_succ, List.set_cons_zero]
  rw [← h1, ← h2]
  exact ⟨.inl rfl, rfl⟩

/-- what the walk wants of a divisor of two limbs -/
inductive TwoL (w a b : Nat) : Prop
  | mk (x sh la lr m : Nat) (R : List Nat) (y0 y1 : Nat) (hx0 : 0 < x) (hlim : limbs w b = [b % 2 ^ w, x]) (hxl : x.log2 + 1 ≤ w) (hsh : sh + (x.log2 + 1) = w) (hshw : sh < w) (hla : (limbs w a).length = la) (hlr : (limbs w (a * 2 ^ sh)).length = lr) (hm : lr + m = la + 1) (h60 : la ≤ 60)
    (hD : limbs w (b * 2 ^ sh) = [y0, y1]) (hR : limbs w (a * 2 ^ sh) ++ List.replicate m 0 = R)
    (hK : K_divide_rows (iz R) [L (limbs w (b * 2 ^ sh)), .int (w : Nat)] (iz (pad w (la + 1) (a % b * 2 ^ sh))) (L (pad w (la + 1 - 2) (a / b))))
    (hq : a / b < 2 ^ (w * (la + 1 - 2))) (hr : a % b * 2 ^ sh < 2 ^ (w * (la + 1))) (hr60 : a % b * 2 ^ sh < 2 ^ 60)
theorem two_limbs {w a b : Nat} (hw : 1 ≤ w) (hw2 : w ≤ 8) (ha : a < 2 ^ 50) (hb : 0 < b) (hb2 : b < 2 ^ w * 2 ^ w) (hab : ¬ a < b) (h1 : ¬ b < 2 ^ w) : TwoL w a b := by
  have hp : 2 ^ w ≤ 2 ^ 8 := Nat.pow_le_pow_right (by decide) hw2
  have hBB : 2 ^ w * 2 ^ w ≤ 2 ^ 8 * 2 ^ 8 := Nat.mul_le_mul hp hp
  have hB := two_le hw
  have hbl : b < 2 ^ 60 := by omega
  have hal : a < 2 ^ 60 := by omega
  have l1 := len60 hw hal
  have hx0 : b / 2 ^ w ≠ 0 := by
    have := (Nat.div_lt_iff_lt_mul (x := b) (y := 1) (Nat.two_pow_pos w)); lia
  have hxB : b / 2 ^ w < 2 ^ w := Nat.div_lt_of_lt_mul hb2
  have hlim : limbs w b = [b % 2 ^ w, b / 2 ^ w] := by
    rw [limbs_pos hw (by lia), limbs_one hw (Nat.pos_of_ne_zero hx0) hxB]
  obtain ⟨x, hx⟩ : ∃ x, b / 2 ^ w = x := ⟨_, rfl⟩
  rw [hx] at hx0 hxB hlim
  have lg1 : 2 ^ x.log2 ≤ x := Nat.log2_self_le hx0
  have lg2 : x < 2 ^ (x.log2 + 1) := Nat.lt_log2_self
  have hlw : x.log2 + 1 ≤ w := by
    have : 2 ^ x.log2 < 2 ^ w := by lia
    have := (Nat.pow_lt_pow_iff_right (show 1 < 2 by decide)).mp this
    lia
  obtain ⟨sh, hsh⟩ : ∃ sh, sh + (x.log2 + 1) = w := ⟨w - (x.log2 + 1), Nat.sub_add_cancel hlw⟩
  have hshw : sh < w := by lia
  have hxs : x * 2 ^ sh < 2 ^ w := by
    have : x * 2 ^ sh < 2 ^ (x.log2 + 1) * 2 ^ sh := Nat.mul_lt_mul_of_pos_right lg2 (Nat.two_pow_pos sh)
    rw [← Nat.pow_add] at this
    rw [show w = x.log2 + 1 + sh by lia]; exact this
  have hbx : b = b % 2 ^ w + 2 ^ w * x := by rw [← hx]; exact (Nat.mod_add_div b (2 ^ w)).symm
  have hbm := Nat.mod_lt b (Nat.two_pow_pos w)
  have hDB : b * 2 ^ sh < 2 ^ w * 2 ^ w := by
    have h1 : b * 2 ^ sh < 2 ^ w * (x + 1) * 2 ^ sh := Nat.mul_lt_mul_of_pos_right (by rw [Nat.mul_add]; lia) (Nat.two_pow_pos sh)
    have h2 : (x + 1) * 2 ^ sh ≤ 2 ^ w := by
      have : (x + 1) * 2 ^ sh ≤ 2 ^ (x.log2 + 1) * 2 ^ sh := Nat.mul_le_mul_right _ lg2
      rw [← Nat.pow_add, show x.log2 + 1 + sh = w by lia] at this
      exact this
    rw [Nat.mul_assoc] at h1
    exact Nat.lt_of_lt_of_le h1 (Nat.mul_le_mul_left _ h2)
  have hge : b ≤ b * 2 ^ sh := Nat.le_mul_of_pos_right _ (Nat.two_pow_pos sh)
  have hDx0 : b * 2 ^ sh / 2 ^ w ≠ 0 := by
    have := (Nat.div_lt_iff_lt_mul (x := b * 2 ^ sh) (y := 1) (Nat.two_pow_pos w)); lia
  have hDxB : b * 2 ^ sh / 2 ^ w < 2 ^ w := Nat.div_lt_of_lt_mul hDB
  have hDl : limbs w (b * 2 ^ sh) = [b * 2 ^ sh % 2 ^ w, b * 2 ^ sh / 2 ^ w] := by
    rw [limbs_pos hw (by lia), limbs_one hw (Nat.pos_of_ne_zero hDx0) hDxB]
  have hDe : b * 2 ^ sh % 2 ^ w + 2 ^ w * (b * 2 ^ sh / 2 ^ w) = b * 2 ^ sh := Nat.mod_add_div _ _
  -- the dividend
  have haB := vl_lt _ (dig_limbs hw a)
  rw [vl_limbs hw] at haB
  obtain ⟨la, hla⟩ : ∃ la, (limbs w a).length = la := ⟨_, rfl⟩
  rw [hla] at haB l1
  have hla2 : 2 ≤ la := by
    have := limbs_len_mono hw a b (by lia)
    rw [hlim, hla] at this; simpa using this
  have hA1 : a * 2 ^ sh < 2 ^ (w * la) * 2 ^ sh := Nat.mul_lt_mul_of_pos_right haB (Nat.two_pow_pos sh)
  have hshB : 2 ^ sh ≤ 2 ^ w := Nat.pow_le_pow_right (by decide) (by lia)
  have hlr : (limbs w (a * 2 ^ sh)).length ≤ la + 1 := by
    refine limbs_len_le hw _ _ (Nat.lt_of_lt_of_le hA1 ?_)
    rw [Nat.mul_add, Nat.mul_one, Nat.pow_add]; exact Nat.mul_le_mul_left _ hshB
  have hAD : a * 2 ^ sh < 2 ^ (w * (la - 1)) * (b * 2 ^ sh) := by
    refine Nat.lt_of_lt_of_le hA1 ?_
    rw [show w * la = w * (la - 1) + w by rw [← Nat.mul_succ]; congr 1; lia, Nat.pow_add, Nat.mul_assoc]
    exact Nat.mul_le_mul_left _ (Nat.mul_le_mul_right _ (by lia))
  obtain ⟨lr, hlrr⟩ : ∃ lr, (limbs w (a * 2 ^ sh)).length = lr := ⟨_, rfl⟩
  rw [hlrr] at hlr
  obtain ⟨m, hm⟩ : ∃ m, lr + m = la + 1 := ⟨la + 1 - lr, Nat.add_sub_cancel' hlr⟩
  have hRd : Dig w (limbs w (a * 2 ^ sh) ++ List.replicate (m) 0) := fun z hz => by
    rcases List.mem_append.mp hz with h | h
    · exact dig_limbs hw _ z h
    · rw [(List.mem_replicate.mp h).2]; exact Nat.two_pow_pos w
  have hRv : vl w (limbs w (a * 2 ^ sh) ++ List.replicate (m) 0) = a * 2 ^ sh := by rw [vl_append, vl_limbs hw, vl_zeros]; simp
  have hRl : (limbs w (a * 2 ^ sh) ++ List.replicate (m) 0).length = la + 1 := by rw [List.length_append, List.length_replicate, hlrr]; lia
  obtain ⟨R, hRR⟩ : ∃ R, limbs w (a * 2 ^ sh) ++ List.replicate (m) 0 = R := ⟨_, rfl⟩
  rw [hRR] at hRd hRv hRl
  have hdrop : vl w (R.drop (la + 1 - 2)) < b * 2 ^ sh % 2 ^ w + 2 ^ w * (b * 2 ^ sh / 2 ^ w) := by
    rw [hDe]
    have hsplit := vl_append w (R.take (la + 1 - 2)) (R.drop (la + 1 - 2))
    rw [List.take_append_drop, hRv, List.length_take, Nat.min_eq_left (by lia), show la + 1 - 2 = la - 1 by lia] at hsplit
    rw [show la + 1 - 2 = la - 1 by lia]
    refine Nat.lt_of_mul_lt_mul_left (a := 2 ^ (w * (la - 1))) (Nat.lt_of_le_of_lt ?_ hAD)
    lia
  have hK := run_divide_rows hw (by lia) (b0 := b * 2 ^ sh % 2 ^ w) (b1 := b * 2 ^ sh / 2 ^ w) (Nat.mod_lt _ (Nat.two_pow_pos w)) hDxB (Nat.pos_of_ne_zero hDx0) (n := la + 1) (by lia) hRl (by lia) hRd hdrop
  rw [hDe, hRv, ← hDl] at hK
  have hq : a * 2 ^ sh / (b * 2 ^ sh) = a / b := Nat.mul_div_mul_right _ _ (Nat.two_pow_pos sh)
  have hr : a * 2 ^ sh % (b * 2 ^ sh) = a % b * 2 ^ sh := Nat.mul_mod_mul_right _ _ _
  rw [hq, hr] at hK
  have hqlt : a / b < 2 ^ (w * (la + 1 - 2)) := by
    rw [← hq, Nat.div_lt_iff_lt_mul (by lia), show la + 1 - 2 = la - 1 by lia]; exact hAD
  have hrlt : a % b * 2 ^ sh < 2 ^ (w * (la + 1)) := by
    rw [← hr]
    refine Nat.lt_of_lt_of_le (Nat.mod_lt _ (by lia)) (Nat.le_trans (Nat.le_of_lt hDB) ?_)
    rw [← Nat.pow_add]; exact Nat.pow_le_pow_right (by decide) (by rw [← Nat.mul_two]; exact Nat.mul_le_mul_left _ (by lia))
  have hr60 : a % b * 2 ^ sh < 2 ^ 60 := by
    have := Nat.mod_lt (a * 2 ^ sh) (show 0 < b * 2 ^ sh by lia)
    rw [hr] at this; lia
  exact ⟨x, sh, la, lr, m, R, _, _, Nat.pos_of_ne_zero hx0, hlim, hlw, hsh, hshw, hla, hlrr, hm, l1, hDl, hRR, hK, hqlt, hrlt, hr60⟩

theorem ev_subN {a b c : Nat} (h : b + c = a) : Op.ev .sub (a : Int) (b : Int) = (c : Int) := by
  subst h; simp only [Op.ev]; omega
theorem run_divrem_school {w a b : Nat} (hw : 1 ≤ w) (hw2 : w ≤ 8) (ha : a < 2 ^ 50) (hb : 0 < b) (hb2 : b < 2 ^ w * 2 ^ w) : K_divrem_school [L (limbs w a), L (limbs w b), .int (w : Nat)] (.tup [L (limbs w (a / b)), L (limbs w (a % b))]) := by
  refine ⟨rfl, ?_⟩
  unfold Runs b_divrem_school
  have L0 : LIM = 1048576 := rfl
  have hp : 2 ^ w ≤ 2 ^ 8 := Nat.pow_le_pow_right (by decide) hw2
  have hBB : 2 ^ w * 2 ^ w ≤ 2 ^ 8 * 2 ^ 8 := Nat.mul_le_mul hp hp
  have hB := two_le hw
  have hbl : b < 2 ^ 60 := by lia
  have hal : a < 2 ^ 60 := by lia
  have l1 := len60 hw hal
  have hlb : 0 < (limbs w b).length := (limbs_len_pos hw).mpr hb
  have c0 : Cmp.ev .eq ((limbs w b).length : Int) 0 = false := decide_eq_false (by lia)
  simp only [List.map_cons, List.map_nil, List.cons_append, List.nil_append, List.replicate_succ, List.replicate_zero, x_seqs1, x_if, x_cmp, x_len, x_var, x_c, x_lookV, List.length_map, x_evCmp, c0, Bool.false_eq_true, if_false, x_seqs0, List.getElem?_cons_zero, List.getElem?_cons_succ, x_call, x_args1, x_args0, x_frz, x_frzV, x_frzP]
  refine ⟨_, run_compare hw hal hbl, ?_⟩
  simp only [x_frzV, x_frzP, x_evCmp]
  by_cases hab : a < b
  · have c1 : Cmp.ev .lt (cmpN a b) 0 = true := by unfold cmpN; rw [if_pos hab]; rfl
    have hcut : cut (iz (limbs w a)) Option.none Option.none = iz (limbs w a) := by unfold cut; simp only [Option.elim, List.drop_zero]; exact List.take_of_length_le (by simp)
    simp only [c1, if_true, x_seqs1, x_ret, x_frz, x_frzV, x_frzP, x_tup, x_args1, x_args0, x_lstV, x_cut, x_opt0, x_var, List.getElem?_cons_zero, x_lookV, hcut]
    rw [Nat.div_eq_of_lt hab, Nat.mod_eq_of_lt hab]
    exact Or.inl rfl
  · have c1 : Cmp.ev .lt (cmpN a b) 0 = false := by
      unfold cmpN
      rw [if_neg hab]; split <;> rfl
    simp only [x_frzV, x_frzP, c1, Bool.false_eq_true, if_false, x_seqs1, x_seqs0, x_if, x_cmp, x_len, x_var, x_c, x_lookV, List.length_map, x_evCmp, List.getElem?_cons_zero, List.getElem?_cons_succ]
    by_cases h1 : b < 2 ^ w
    · have hl : (limbs w b).length = 1 := by rw [limbs_one hw hb h1]; rfl
      have c2 : Cmp.ev .eq ((limbs w b).length : Int) 1 = true := decide_eq_true (by lia)
      simp only [c2, if_true, x_seqs1, x_ret, x_frz, x_frzV, x_frzP, x_call, x_args1, x_args0, x_var, List.getElem?_cons_zero, List.getElem?_cons_succ]
      exact ⟨_, run_divrem_small hw (by lia) hal hb h1, Or.inl rfl⟩
    · -- two limbs
      obtain ⟨x, sh, la, lr, m, R, y0, y1, hx0, hlim, hxl, hsh, hshw, hla, hlr, hm, h60, hD, hRR, hK, hq, hr, hr60⟩ := two_limbs hw hw2 ha hb hb2 hab h1
      have N1 := run_normal_pad hw hq
      have N2 := run_normal_pad hw hr
      have SR := run_shift_right hw (by omega) hr60 hshw
      rw [Nat.mul_div_cancel _ (Nat.two_pow_pos sh)] at SR
      have SL := run_shift_left hw (by omega) hbl hshw
      have SA := run_shift_left hw (by omega) hal hshw
      have c2 : Cmp.ev .eq ((limbs w b).length : Int) 1 = false := by rw [hlim]; rfl
      have es : Op.ev .sub (w : Int) ((x.log2 + 1 : Nat) : Int) = (sh : Int) := ev_subN ((Nat.add_comm _ _).trans hsh)
      have oku : ∀ x y : Int, Op.ok .sub x y := fun _ _ => trivial
      have oka : ∀ x y : Int, Op.ok .add x y := fun _ _ => trivial
      have e0 : Op.ev .add (la : Int) 1 = ((la + 1 : Nat) : Int) := rfl
      have el : Op.ev .sub ((la + 1 : Nat) : Int) (lr : Int) = ((m : Nat) : Int) := ev_subN hm
      have hne : ¬ ([D.int 0] = ([] : List D)) := by intro h; cases h
      have z0 : m ≤ 61 := by omega
      have z1 : 1 * (m) ≤ LIM := by rw [Nat.one_mul]; exact Nat.le_trans z0 (by decide)
      have z2 : ((m : Nat) : Int) ≤ 1000000 := Int.ofNat_le.mpr (Nat.le_trans z0 (by decide))
      have z3 : (0 : Int) ≤ ((m : Nat) : Int) := Int.natCast_nonneg _
      have z4 : lr + (m) ≤ LIM := by rw [hm]; exact Nat.le_trans (Nat.succ_le_succ h60) (by decide)
      have hcat : iz (limbs w (a * 2 ^ sh)) ++ List.replicate (m) (D.int 0) = iz R := by rw [← hRR]; simp
      have ht : ∀ (ms : MS) (Q : RV → Prop), Q (.val (.int x)) → evItem ms (.val (L (limbs w b))) (.val (.int (-1))) Q := fun ms Q h => by
        rw [hlim]; exact ⟨(by decide : (0 : Int) ≤ if (-1 : Int) < 0 then -1 + ((2 : Nat) : Int) else -1), _, rfl, h⟩
      clear hb2 hab h1 c0 c1 hq hr hr60 ha
      simp only [c2, Bool.false_eq_true, if_false, x_seqs0, x_seqs1, x_asg, x_bin, x_var, List.getElem?_cons_zero, List.getElem?_cons_succ, x_call, x_args1, x_args0, x_frz, x_frzV, x_frzP, x_lstV, x_item, x_neg, x_c]
      refine ht _ _ ?_
      simp only [x_frzV]
      refine ⟨_, run_bits (w := w) hx0, ?_⟩
      simp only [x_frzV, x_frzP, bin_E (oku _ _) es, x_set, List.set_cons_succ, List.set_cons_zero, x_var, List.getElem?_cons_zero, List.getElem?_cons_succ]
      refine ⟨_, SL, ?_⟩
      refine ⟨_, SA, ?_⟩
      simp only [x_set, List.set_cons_succ, List.set_cons_zero, x_var, List.getElem?_cons_zero, List.getElem?_cons_succ, x_cat, x_rep, x_lstV, x_args1, x_args0, x_frz, x_frzV, x_frzP, x_c, x_bin, x_len, x_lookV, List.length_map, hla, hlr, bin_E (oka _ _) e0, bin_E (oku _ _) el, true_and, List.length_cons, List.length_nil, ne_eq, hne, not_false_eq_true, Nat.zero_add, Int.toNat_natCast, z1, z2, z3, flat_one, x_addC, List.nil_append, x_lookP0, List.length_replicate, z4, List.cons_append, hcat, x_callM]
      refine ⟨_, _, hK, ?_⟩
      simp only [x_set, x_setC, List.set_cons_succ, List.set_cons_zero, x_ret, x_frz, x_frzV, x_frzP, x_tup, x_args1, x_args0, x_call, x_var, List.getElem?_cons_zero, List.getElem?_cons_succ]
      refine ⟨_, N1, ?_⟩
      refine ⟨Nat.zero_le _, _, N2, ?_⟩
      exact ⟨_, SR, Or.inl rfl⟩
end Mine
end

section
set_option linter.unusedVariables false
set_option linter.unusedSimpArgs false
namespace Mine

theorem mul_sign {x y : Int} : ((decide (x < 0) != decide (y < 0)) && decide (0 < x.natAbs * y.natAbs)) = decide (x * y < 0) := by
  rcases Int.lt_trichotomy x 0 with h | h | h <;> rcases Int.lt_trichotomy y 0 with k | k | k
  · have h1 : 0 < x * y := Int.mul_pos_of_neg_of_neg h k
    have h2 : ¬ x * y < 0 := by omega
    simp [h, k, h2]
  · subst k; simp
  · have h1 : x * y < 0 := Int.mul_neg_of_neg_of_pos h k
    have h2 : ¬ y < 0 := by omega
    have h3 : 0 < x.natAbs * y.natAbs := Nat.mul_pos (by omega) (by omega)
    simp [h, h2, h1, h3]
  · subst h; simp
  · subst h; simp
  · subst h; simp
  · have h1 : x * y < 0 := Int.mul_neg_of_pos_of_neg h k
    have h2 : ¬ x < 0 := by omega
    have h3 : 0 < x.natAbs * y.natAbs := Nat.mul_pos (by omega) (by omega)
    simp [k, h2, h1, h3]
  · subst k; simp
  · have h1 : 0 < x * y := Int.mul_pos h k
    have h2 : ¬ x * y < 0 := by omega
    have h3 : ¬ x < 0 := by omega
    have h4 : ¬ y < 0 := by omega
    simp [h3, h4, h2]

theorem run_s_mul {am ad w : Nat} (hw : 1 ≤ w) (hw2 : w ≤ 29) {x y : Int} (hx : x.natAbs < 2 ^ 60) (hy : y.natAbs < 2 ^ 60) : K_s_mul am ad [sgn w x, sgn w y, .int (w : Nat), .fn am] (sgn w (x * y)) := by
  refine ⟨rfl, ?_⟩
  unfold Runs b_s_mul
  simp only [List.map_cons, List.map_nil, List.cons_append, List.nil_append, List.replicate_zero, x_seqs1, x_ret, x_frz, x_frzV, x_frzP, x_call, x_args1, x_args0, x_boolV, x_eqB, x_item, x_var, x_c, List.getElem?_cons_zero, List.getElem?_cons_succ, sgn, x_evItemT]
  refine ⟨by decide, _, rfl, by decide, _, rfl, ?_⟩
  simp only [x_evEqB, if_true, x_callV, List.getElem?_cons_zero, List.getElem?_cons_succ, x_args1, x_args0, x_frz, x_frzV, x_frzP, x_item, x_var, x_c, x_evItemT]
  refine ⟨List.mem_cons_self, by decide, _, rfl, by decide, _, rfl, _, .inl ⟨rfl, run_mul_school hw hw2 hx hy⟩, ?_⟩
  exact ⟨_, signed_is hw (z := x * y) (Int.natAbs_mul x y) mul_sign, Or.inl rfl⟩

theorem div_sign {x y : Int} : ((decide (x < 0) != decide (y < 0)) && decide (0 < x.natAbs / y.natAbs)) = decide (x.tdiv y < 0) := by
  have key : (x.tdiv y).natAbs = x.natAbs / y.natAbs := Int.natAbs_tdiv x y
  rcases Int.le_total 0 x with h | h <;> rcases Int.le_total 0 y with k | k
  · have h1 : 0 ≤ x.tdiv y := Int.tdiv_nonneg h k
    have h2 : ¬ x.tdiv y < 0 := by omega
    have h3 : ¬ x < 0 := by omega
    have h4 : ¬ y < 0 := by omega
    simp [h2, h3, h4]
  · have h1 : x.tdiv y ≤ 0 := Int.tdiv_nonpos_of_nonneg_of_nonpos h k
    have h3 : ¬ x < 0 := by omega
    by_cases z : y = 0
    · subst z; simp
    · have h4 : y < 0 := by omega
      by_cases q : 0 < x.natAbs / y.natAbs
      · have : x.tdiv y < 0 := by omega
        simp [h3, h4, q, this]
      · have : ¬ x.tdiv y < 0 := by omega
        simp only [q, this]; simp
  · have h1 : x.tdiv y ≤ 0 := by
      have := Int.tdiv_nonneg (show 0 ≤ -x by omega) k
      rw [Int.neg_tdiv] at this; omega
    have h4 : ¬ y < 0 := by omega
    by_cases z : x = 0
    · subst z; simp
    · have h3 : x < 0 := by omega
      by_cases q : 0 < x.natAbs / y.natAbs
      · have : x.tdiv y < 0 := by omega
        simp [h3, h4, q, this]
      · have : ¬ x.tdiv y < 0 := by omega
        simp only [q, this]; simp
  · have h1 : 0 ≤ x.tdiv y := Int.tdiv_nonneg_of_nonpos_of_nonpos h k
    have h2 : ¬ x.tdiv y < 0 := by omega
    by_cases z : y = 0
    · subst z; simp
    · by_cases z2 : x = 0
      · subst z2; simp
      · have h3 : x < 0 := by omega
        have h4 : y < 0 := by omega
        simp [h2, h3, h4]

theorem mod_sign {x y : Int} : (decide (x < 0) && decide (0 < x.natAbs % y.natAbs)) = decide (x.tmod y < 0) := by
  have key : (x.tmod y).natAbs = x.natAbs % y.natAbs := Int.natAbs_tmod x y
  by_cases h : x < 0
  · have h1 : x.tmod y ≤ 0 := by
      have := Int.tmod_nonneg y (show 0 ≤ -x by omega)
      rw [Int.neg_tmod] at this; omega
    by_cases q : 0 < x.natAbs % y.natAbs
    · have : x.tmod y < 0 := by omega
      simp [h, q, this]
    · have : ¬ x.tmod y < 0 := by omega
      simp only [q, this]; simp
  · have h1 := Int.tmod_nonneg y (show 0 ≤ x by omega)
    have : ¬ x.tmod y < 0 := by omega
    simp [h, this]

theorem run_tdiv {am ad w : Nat} (hw : 1 ≤ w) (hw2 : w ≤ 8) {x y : Int} (hx : x.natAbs < 2 ^ 50) (hy : y ≠ 0) (hy2 : y.natAbs < 2 ^ w * 2 ^ w) : K_tdiv am ad [sgn w x, sgn w y, .int (w : Nat), .fn ad] (.tup [sgn w (x.tdiv y), sgn w (x.tmod y)]) := by
  refine ⟨rfl, ?_⟩
  unfold Runs b_tdiv
  have hlp : 0 < (limbs w y.natAbs).length := (limbs_len_pos hw).mpr (by omega)
  have c0 : Cmp.ev .eq ((limbs w y.natAbs).length : Int) 0 = false := decide_eq_false (by omega)
  simp only [x_frzV, x_frzP, List.map_cons, List.map_nil, List.cons_append, List.nil_append, List.replicate_succ, List.replicate_zero, x_seqs1, x_if, x_cmp, x_len, x_item, x_var, x_c, List.getElem?_cons_zero, List.getElem?_cons_succ, sgn, x_evItemT]
  refine ⟨by decide, _, rfl, ?_⟩
  simp only [x_lookV, List.length_map, x_evCmp, c0, Bool.false_eq_true, if_false, x_seqs0, x_seqs1, x_unp, x_frz, x_frzV, x_frzP, x_callV, List.getElem?_cons_zero, List.getElem?_cons_succ, x_args1, x_args0, x_item, x_var, x_c, x_evItemT]
  refine ⟨List.mem_cons_of_mem _ List.mem_cons_self, by decide, _, rfl, by decide, _, rfl, _, .inr ⟨rfl, run_divrem_school hw hw2 hx (by omega) hy2⟩, _, rfl, ?_⟩
  simp only [x_set, List.set_cons_succ, List.set_cons_zero, x_ret, x_seqs1, x_frz, x_frzV, x_frzP, x_tup, x_args1, x_args0, x_call, x_boolV, x_eqB, x_item, x_var, x_c, List.getElem?_cons_zero, List.getElem?_cons_succ, x_evItemT]
  refine ⟨by decide, _, rfl, by decide, _, rfl, ?_⟩
  simp only [x_frzV, x_frzP, x_evEqB, if_true, List.getElem?_cons_zero, List.getElem?_cons_succ]
  refine ⟨_, signed_is hw (z := x.tdiv y) (Int.natAbs_tdiv x y) div_sign, by decide, _, rfl, ?_⟩
  exact ⟨_, signed_is hw (z := x.tmod y) (Int.natAbs_tmod x y) mod_sign, Or.inl rfl⟩

theorem run_exact {am ad w : Nat} (hw : 1 ≤ w) (hw2 : w ≤ 8) {x y : Int} (hx : x.natAbs < 2 ^ 50) (hy : y ≠ 0) (hy2 : y.natAbs < 2 ^ w * 2 ^ w) : K_exact am ad [sgn w x, sgn w y, .int (w : Nat), .fn ad] (sgn w (x.tdiv y)) := by
  refine ⟨rfl, ?_⟩
  unfold Runs b_exact
  simp only [List.map_cons, List.map_nil, List.cons_append, List.nil_append, List.replicate_succ, List.replicate_zero, x_seqs1, x_unp, x_frz, x_frzV, x_frzP, x_call, x_args1, x_args0, x_var, List.getElem?_cons_zero, List.getElem?_cons_succ]
  refine ⟨_, run_tdiv hw hw2 hx hy hy2, _, rfl, ?_⟩
  simp only [x_set, List.set_cons_succ, List.set_cons_zero, x_ret, x_seqs1, x_frz, x_frzV, x_frzP, x_var, List.getElem?_cons_zero, List.getElem?_cons_succ]
  exact Or.inl trivial
end Mine
end

section
set_option linter.unusedVariables false
set_option linter.unusedSimpArgs false
namespace Mine
/-- a row, a matrix of whole numbers as data -/
noncomputable def rw (w : Nat) (r : List Int) : D := .lst (r.map (sgn w))
noncomputable def mt (w : Nat) (m : List (List Int)) : D := .lst (m.map (rw w))
noncomputable def at2 (m : List (List Int)) (i j : Nat) : Int := (m.getD i []).getD j 0
noncomputable def pivotF (m : List (List Int)) (c : Nat) : Nat → Nat → Int
  | 0, _ => -1
  | j + 1, i => if at2 m i c ≠ 0 then (i : Int) else pivotF m c j (i + 1)

theorem sign_ne (z : Int) : (sign z ≠ 0) ↔ z ≠ 0 := by
  unfold sign
  split
  · simp_all
  · split <;> simp_all

theorem pivot_loop {w : Nat} (hw : 1 ≤ w) {m : List (List Int)} {c : Nat} (hm : ∀ r ∈ m, c < r.length) (vt : RV) (Q : Fl → MS → Prop) :
    ∀ (j i : Nat) (o : Option RV), i + j = m.length → (∀ i : Nat, pivotF m c j i = pivotF m c j i) → (∀ ms, pivotF m c j i = -1 → Q .next ms) → (∀ ms, pivotF m c j i ≠ -1 → Q (.ret (.int (pivotF m c j i))) ms) →
    forGo (bind1 3) (tSeqs [(tIf (tCmp .ne (tCall K_s_sign [(tFrz 0 (tItem (tItem (tVar 0) (tVar 3)) (tVar 2)))]) (tC (.int 0)))
      (tSeqs [(tRet (tFrz 0 (tVar 3)))])
      (tSeqs []))]) (dInts (i : Int) 1 j)
      ⟨[some (.val (mt w m)), some vt, some (.val (.int (c : Nat))), o], []⟩ Q
  | 0, i, o, hi, _, h1, h2 => h1 _ rfl
  | j + 1, i, o, hi, _, h1, h2 => by
    have hil : i < m.length := by lia
    have hcl := hm m[i] (List.getElem_mem ..)
    have e2 : ¬ ((i : Int) < 0) := by lia
    have e3 : (0 : Int) ≤ i := by lia
    have f2 : ¬ ((c : Int) < 0) := by lia
    have f3 : (0 : Int) ≤ c := by lia
    have g1 : m[i]? = some m[i] := List.getElem?_eq_getElem hil
    have g2 : m[i][c]? = some m[i][c] := List.getElem?_eq_getElem hcl
    have ha : at2 m i c = m[i][c] := by
      unfold at2
      rw [List.getD_eq_getElem?_getD, List.getD_eq_getElem?_getD, g1]
      show (m[i][c]?).getD 0 = _
      rw [g2]; rfl
    rw [dInts_succ, x_forB]
    simp only [x_bind1, x_set, Option.some.injEq, exists_eq_left', List.set_cons_succ, List.set_cons_zero, x_seqs1, x_seqs0, x_if, x_cmp, x_call, x_args1, x_args0, x_frz, x_frzV, x_frzP, x_item, x_var, List.getElem?_cons_zero, List.getElem?_cons_succ, mt, x_evItemL, e2, if_false, e3, true_and, List.getElem?_map, Int.toNat_natCast, g1, Option.map_some, rw, f2, f3, g2]
    refine ⟨_, run_s_sign hw m[i][c], ?_⟩
    simp only [x_frzV, x_frzP, x_c, x_evCmp]
    have e6 : (i : Int) + 1 = ((i + 1 : Nat) : Int) := by lia
    by_cases hz : m[i][c] = 0
    · have cc : Cmp.ev .ne (sign m[i][c]) 0 = false := decide_eq_false (by rw [hz]; simp [sign])
      have hp : pivotF m c (j + 1) i = pivotF m c j (i + 1) := by
        show (if at2 m i c ≠ 0 then _ else _) = _
        rw [if_neg (by rw [ha]; simpa using hz)]
      simp only [cc, Bool.false_eq_true, if_false, e6]
      rw [hp] at h1 h2
      exact pivot_loop hw hm vt Q j (i + 1) _ (by lia) (fun _ => rfl) h1 h2
    · have cc : Cmp.ev .ne (sign m[i][c]) 0 = true := decide_eq_true ((sign_ne _).mpr hz)
      have hp : pivotF m c (j + 1) i = (i : Int) := by
        show (if at2 m i c ≠ 0 then _ else _) = _
        rw [if_pos (by rw [ha]; exact hz)]
      simp only [cc, if_true, x_seqs1, x_ret, x_frz, x_frzV, x_frzP, x_var, List.getElem?_cons_zero, List.getElem?_cons_succ]
      rw [hp] at h2
      exact h2 _ (by lia)

theorem run_pivot_row {w : Nat} (hw : 1 ≤ w) {m : List (List Int)} {c t : Nat} (hm : ∀ r ∈ m, c < r.length) (ht : t ≤ m.length) (hl : m.length ≤ 100) : K_pivot_row [mt w m, .int (t : Nat), .int (c : Nat)] (.int (pivotF m c (m.length - t) t)) := by
  refine ⟨rfl, ?_⟩
  unfold Runs b_pivot_row
  have L0 : LIM = 1048576 := rfl
  have s1 : Small (t : Int) := by unfold Small; lia
  have s2 : Small (m.length : Int) := by unfold Small; lia
  have s3 : (m.length : Int) - (t : Int) ≤ (LIM : Nat) := by lia
  have e1 : ((m.length : Int) - (t : Int)).toNat = m.length - t := by lia
  have hlk : ∀ ms : MS, ms.look (.val (mt w m)) = some (m.map (rw w)) := fun _ => rfl
  simp only [x_frzV, x_frzP, List.map_cons, List.map_nil, List.cons_append, List.nil_append, List.replicate_succ, List.replicate_zero, x_seqs1, x_for, x_range2, x_var, x_len, List.getElem?_cons_zero, List.getElem?_cons_succ, hlk, List.length_map, s1, s2, s3, e1, true_and]
  refine pivot_loop hw hm _ _ (m.length - t) t none (by lia) (fun _ => rfl) (fun ms h => ?_) (fun ms h => .inl rfl)
  simp only [x_ret, x_frz, x_frzV, x_frzP, x_neg, x_c, x_seqs1]
  rw [h]; exact Or.inl rfl
end Mine
end

section
set_option linter.unusedVariables false
set_option linter.unusedSimpArgs false
namespace Mine
noncomputable def clF (pivot own before : Int) (v h : Int) : Int := (v * pivot - own * h).tdiv before
noncomputable def Bd (k : Nat) (r : List Int) : Prop := ∀ z ∈ r, z.natAbs < 2 ^ k

theorem mul_bd {x y : Int} {k : Nat} (hx : x.natAbs < 2 ^ k) (hy : y.natAbs < 2 ^ k) : (x * y).natAbs < 2 ^ k * 2 ^ k := by
  rw [Int.natAbs_mul]
  exact Nat.mul_lt_mul_of_lt_of_lt hx hy

theorem cleared_loop {am ad w c : Nat} (hw : 1 ≤ w) (hw2 : w ≤ 8) {head : List Int} {pivot own before : Int} (hh : Bd 24 head) (hp : pivot.natAbs < 2 ^ 24) (ho : own.natAbs < 2 ^ 24) (hb : before ≠ 0) (hb2 : before.natAbs < 2 ^ w * 2 ^ w) (vr : RV) (Q : Fl → MS → Prop) :
    ∀ (rs : List Int) (i : Nat) (F : List Int) (o p q : Option RV), Bd 24 rs → i + rs.length = head.length → head.length ≤ 100 → F.length = i →
    (∀ (o p q : Option RV), Q .next ⟨[some vr, some (.val (rw w head)), some (.val (.int (c : Nat))), some (.val (sgn w before)), some (.val (.int (w : Nat))), some (.val (.fn am)), some (.val (.fn ad)), some (.val (sgn w pivot)), some (.val (sgn w own)), some (.ptr 0), o, p, q], [.lst ((F ++ List.zipWith (clF pivot own before) rs (head.drop i)).map (sgn w))]⟩) →
    forGo (bindT [10, 11]) (tSeqs [(tAsg 12 (tCall K_s_sub [(tFrz 0 (tCall (K_s_mul am ad) [(tFrz 0 (tVar 11)), (tFrz 0 (tVar 7)), (tFrz 0 (tVar 4)), (tFrz 0 (tVar 5))])), (tFrz 0 (tCall (K_s_mul am ad) [(tFrz 0 (tVar 8)), (tFrz 0 (tItem (tVar 1) (tVar 10))), (tFrz 0 (tVar 4)), (tFrz 0 (tVar 5))])), (tFrz 0 (tVar 4))])),
      (tApp 9 (tFrz 0 (tCall (K_exact am ad) [(tFrz 0 (tVar 12)), (tFrz 0 (tVar 3)), (tFrz 0 (tVar 4)), (tFrz 0 (tVar 6))])))]) (enumFrom i (rs.map (sgn w)))
      ⟨[some vr, some (.val (rw w head)), some (.val (.int (c : Nat))), some (.val (sgn w before)), some (.val (.int (w : Nat))), some (.val (.fn am)), some (.val (.fn ad)), some (.val (sgn w pivot)), some (.val (sgn w own)), some (.ptr 0), o, p, q], [.lst (F.map (sgn w))]⟩ Q
  | [], i, F, o, p, q, hr, hi, hl, hF, hQ => by
    have := hQ o p q
    simpa [enumFrom] using this
  | v :: rs, i, F, o, p, q, hr, hi, hl, hF, hQ => by
    have L0 : LIM = 1048576 := rfl
    simp only [List.length_cons] at hi
    have hil : i < head.length := by lia
    have hv := hr v List.mem_cons_self
    have hhi := hh head[i] (List.getElem_mem ..)
    have e2 : ¬ ((i : Int) < 0) := by lia
    have e3 : (0 : Int) ≤ i := by lia
    have e5 : F.length < LIM := by lia
    have g1 : head[i]? = some head[i] := List.getElem?_eq_getElem hil
    have b1 := mul_bd hv hp
    have b2 := mul_bd ho hhi
    have hItem : ∀ (fr : List (Option RV)) (cs : List Cell) (P : RV → MS → Prop), fr[1]? = some (some (.val (rw w head))) → fr[10]? = some (some (.val (.int (i : Nat)))) → P (.val (sgn w head[i])) ⟨fr, cs⟩ → tItem (tVar 1) (tVar 10) ⟨fr, cs⟩ P := by
      intro fr cs P h1 h10 hP
      simp only [x_frzV, x_frzP, x_item, x_var, h1, h10, rw, x_evItemL, e2, if_false, e3, true_and, List.getElem?_map, Int.toNat_natCast, g1, Option.map_some, Option.some.injEq, exists_eq_left']
      exact hP
    show forGo _ _ (.tup [.int (i : Nat), sgn w v] :: enumFrom (i + 1) (rs.map (sgn w))) _ _
    rw [x_for1]
    simp (maxSteps := 4000000) only [x_bindT, x_bindAll1, x_bindAll0, x_set, Option.some.injEq, exists_eq_left', List.set_cons_succ, List.set_cons_zero, x_seqs1, x_seqs0, x_asg, x_call, x_args1, x_args0, x_frz, x_frzV, x_frzP, x_var, List.getElem?_cons_zero, List.getElem?_cons_succ]
    refine ⟨_, run_s_mul hw (by lia) (by lia) (by lia), ?_⟩
    refine hItem _ _ _ rfl rfl ?_
    simp (maxSteps := 4000000) only [x_frzV, x_frzP, x_var, List.getElem?_cons_zero, List.getElem?_cons_succ]
    refine ⟨_, run_s_mul hw (by lia) (by lia) (by lia), _, run_s_sub hw (by lia) (by lia) (by lia), ?_⟩
    simp (maxSteps := 4000000) only [x_set, List.set_cons_succ, List.set_cons_zero, x_app, x_call, x_args1, x_args0, x_frz, x_frzV, x_frzP, x_var, List.getElem?_cons_zero, List.getElem?_cons_succ]
    refine ⟨⟨_, rfl⟩, _, run_exact hw hw2 (by omega) hb hb2, ?_⟩
    simp (maxSteps := 4000000) only [x_frzV, x_frzP, x_setC, List.set_cons_zero, List.length_map, e5, true_and]
    have hd : head.drop i = head[i] :: head.drop (i + 1) := List.drop_eq_getElem_cons hil
    have key := cleared_loop (am := am) (ad := ad) (c := c) hw hw2 hh hp ho hb hb2 vr Q rs (i + 1) (F ++ [clF pivot own before v head[i]]) (some (.val (.int (i : Nat)))) (some (.val (sgn w v))) (some (.val (sgn w (v * pivot - own * head[i])))) (fun z hz => hr z (List.mem_cons_of_mem _ hz)) (by lia) hl (by simp [hF]) (fun o p q => by
      have := hQ o p q
      rw [hd, List.zipWith_cons_cons, List.append_cons] at this
      exact this)
    rw [List.map_append, List.map_cons, List.map_nil] at key
    exact key
end Mine
end

section
set_option linter.unusedVariables false
set_option linter.unusedSimpArgs false
namespace Mine

theorem run_cleared {am ad w c : Nat} (hw : 1 ≤ w) (hw2 : w ≤ 8) {row head : List Int} {before : Int} (hr : Bd 24 row) (hh : Bd 24 head) (hlen : row.length = head.length) (hl : head.length ≤ 100) (hc : c < head.length) (hb : before ≠ 0) (hb2 : before.natAbs < 2 ^ w * 2 ^ w) :
    K_cleared am ad [rw w row, rw w head, .int (c : Nat), sgn w before, .int (w : Nat), .fn am, .fn ad] (rw w (List.zipWith (clF (head.getD c 0) (row.getD c 0) before) row head)) := by
  refine ⟨rfl, ?_⟩
  unfold Runs b_cleared
  have e2 : ¬ ((c : Int) < 0) := by lia
  have e3 : (0 : Int) ≤ c := by lia
  have g1 : head[c]? = some head[c] := List.getElem?_eq_getElem hc
  have g2 : row[c]? = some row[c] := List.getElem?_eq_getElem (by omega)
  have d1 : head.getD c 0 = head[c] := by rw [List.getD_eq_getElem?_getD, g1]; rfl
  have d2 : row.getD c 0 = row[c] := by rw [List.getD_eq_getElem?_getD, g2]; rfl
  rw [d1, d2]
  have hrow : ∀ (r : List Int) (ms : MS) (Q : RV → Prop), evItem ms (.val (Mine.rw w r)) (.val (.int (c : Nat))) Q = (0 ≤ (if (c : Int) < 0 then (c : Int) + (r.map (sgn w)).length else (c : Int)) ∧ ∃ d, (r.map (sgn w))[(if (c : Int) < 0 then (c : Int) + (r.map (sgn w)).length else (c : Int)).toNat]? = some d ∧ Q (.val d)) := fun _ _ _ => rfl
  have hit : ∀ (Q : List D → MS → Prop) (ms : MS), tEnum (fun ms Q => Q (Mine.rw w row) ms) ms Q = Q (enumFrom 0 (row.map (sgn w))) ms := fun _ _ => rfl
  simp (maxSteps := 4000000) only [List.map_cons, List.map_nil, List.cons_append, List.nil_append, List.replicate_succ, List.replicate_zero, x_seqs1, x_multi, x_rvs1, x_rvs0, x_item, x_var, List.getElem?_cons_zero, List.getElem?_cons_succ, hrow, e2, if_false, e3, true_and, List.getElem?_map, Int.toNat_natCast, g1, g2, Option.map_some, Option.some.injEq, exists_eq_left', x_setAll1, x_setAll0, x_set, List.set_cons_succ, List.set_cons_zero, x_asg, x_lst, x_args0, x_addC, List.length_nil, x_for, x_enum, x_frz, x_frzV, x_frzP]
  refine cleared_loop (am := am) (ad := ad) (c := c) hw hw2 hh (hh _ (List.getElem_mem ..)) (hr _ (List.getElem_mem ..)) hb hb2 _ _ row 0 [] none none none hr (by lia) hl rfl fun o p q => ?_
  simp (maxSteps := 4000000) only [x_ret, x_frz, x_frzV, x_frzP, x_var, x_seqs1, List.getElem?_cons_zero, List.getElem?_cons_succ, Nat.le_refl, true_and, List.nil_append, List.drop_zero]
  exact Or.inl rfl

theorem limbs_loop {w : Nat} (hw : 1 ≤ w) (hw2 : w ≤ 8) (Q : Fl → MS → Prop) : ∀ (f n : Nat) (F : List Nat), n ≤ f → F.length + (limbs w n).length ≤ 100 →
    Q .next ⟨[some (.val (.int ((0 : Nat) : Int))), some (.val (.int (w : Nat))), some (.ptr 0)], [.lst (iz (F ++ limbs w n))]⟩ →
    ∃ k, whileGo (tCmp .gt (tVar 0) (tC (.int 0))) (tSeqs [(tApp 2 (tFrz 0 (tBin .mod (tVar 0) (tBin .pow (tC (.int 2)) (tVar 1))))),
      (tAsg 0 (tBin .div (tVar 0) (tBin .pow (tC (.int 2)) (tVar 1))))]) k ⟨[some (.val (.int (n : Nat))), some (.val (.int (w : Nat))), some (.ptr 0)], [.lst (iz F)]⟩ Q := by
  intro f
  have L0 : LIM = 1048576 := rfl
  have hp : 2 ^ w ≤ 2 ^ 8 := Nat.pow_le_pow_right (by decide) hw2
  have ep : Op.ev .pow 2 (w : Int) = ((2 ^ w : Nat) : Int) := by simp [Op.ev]
  have okp : Op.ok .pow 2 (w : Int) := ⟨by decide, by lia, by lia⟩
  have okd : ∀ x : Nat, Op.ok .div (x : Int) ((2 ^ w : Nat) : Int) := fun x => ⟨by have := two_le hw; lia, by lia⟩
  have okm : ∀ x : Nat, Op.ok .mod (x : Int) ((2 ^ w : Nat) : Int) := fun x => (by show (0 : Int) < _; have := two_le hw; lia)
  have stop : ∀ F, F.length + (limbs w 0).length ≤ 100 → Q .next ⟨[some (.val (.int ((0 : Nat) : Int))), some (.val (.int (w : Nat))), some (.ptr 0)], [.lst (iz (F ++ limbs w 0))]⟩ →
      ∃ k, whileGo (tCmp .gt (tVar 0) (tC (.int 0))) (tSeqs [(tApp 2 (tFrz 0 (tBin .mod (tVar 0) (tBin .pow (tC (.int 2)) (tVar 1))))),
        (tAsg 0 (tBin .div (tVar 0) (tBin .pow (tC (.int 2)) (tVar 1))))]) k ⟨[some (.val (.int ((0 : Nat) : Int))), some (.val (.int (w : Nat))), some (.ptr 0)], [.lst (iz F)]⟩ Q := by
    intro F _ hQ
    refine ⟨1, ?_⟩
    have cc : Cmp.ev .gt ((0 : Nat) : Int) 0 = false := rfl
    rw [x_while1]
    simp only [x_frzV, x_frzP, x_cmp, x_var, x_c, List.getElem?_cons_zero, x_evCmp, cc, Bool.false_eq_true, if_false]
    rw [limbs_zero, List.append_nil] at hQ
    exact hQ
  induction f with
  | zero => intro n F hn hl hQ; have : n = 0 := by lia
            subst this; exact stop F hl hQ
  | succ f ih =>
    intro n F hn hl hQ
    by_cases h0 : n = 0
    · subst h0; exact stop F hl hQ
    · rw [limbs_pos hw h0] at hl hQ
      simp only [List.length_cons] at hl
      have hd := div_lt hw h0
      rw [List.append_cons] at hQ
      obtain ⟨k, hk⟩ := ih (n / 2 ^ w) (F ++ [n % 2 ^ w]) (by lia) (by simp; lia) hQ
      refine ⟨k + 1, ?_⟩
      have cc : Cmp.ev .gt (n : Int) 0 = true := decide_eq_true (by lia)
      have e5 : F.length < LIM := by lia
      rw [x_while1]
      simp only [x_cmp, x_var, x_c, List.getElem?_cons_zero, List.getElem?_cons_succ, x_evCmp, cc, if_true, x_seqs1, x_seqs0, x_app, x_frz, x_frzV, x_frzP, x_bin, bin_E okp ep, bin_E (okm _) (ev_mod _ _), bin_E (okd _) (ev_div _ _), true_and, x_setC, List.set_cons_zero, List.set_cons_succ, List.length_map, e5, x_asg, x_set]
      refine ⟨⟨_, rfl⟩, ?_⟩
      rw [ints_snoc] at hk
      exact hk

theorem run_law_limbs {w n : Nat} (hw : 1 ≤ w) (hw2 : w ≤ 8) (hn : n < 2 ^ 60) : K_law_limbs [.int (n : Nat), .int (w : Nat)] (L (limbs w n)) := by
  refine ⟨rfl, ?_⟩
  unfold Runs b_law_limbs
  have l1 := len60 hw hn
  simp only [x_frzV, x_frzP, List.map_cons, List.map_nil, List.cons_append, List.nil_append, List.replicate_succ, List.replicate_zero, x_seqs1, x_asg, x_lst, x_args0, x_addC, List.length_nil, x_set, List.set_cons_succ, List.set_cons_zero, x_while]
  refine limbs_loop hw hw2 _ n n [] (Nat.le_refl _) (by simpa using Nat.le_trans l1 (by decide)) ?_
  simp only [x_ret, x_frz, x_frzV, x_frzP, x_var, x_seqs1, List.getElem?_cons_zero, List.getElem?_cons_succ, Nat.le_refl, true_and, List.nil_append]
  exact Or.inl trivial

theorem run_law_signed {w : Nat} {z : Int} (hw : 1 ≤ w) (hw2 : w ≤ 8) (hz : z.natAbs < 2 ^ 60) : K_law_signed [.int z, .int (w : Nat)] (sgn w z) := by
  refine ⟨rfl, ?_⟩
  unfold Runs b_law_signed
  simp only [List.map_cons, List.map_nil, List.cons_append, List.nil_append, List.replicate_zero, x_seqs1, x_ret, x_frz, x_frzV, x_frzP, x_tup, x_args1, x_args0, x_boolV, x_cmp, x_var, x_c, List.getElem?_cons_zero, List.getElem?_cons_succ, x_evCmp, x_call, x_abs]
  exact ⟨_, run_law_limbs hw hw2 hz, Or.inl rfl⟩
end Mine
end

section
set_option linter.unusedVariables false
set_option linter.unusedSimpArgs false
namespace Mine
/-- the law's next draw: the k-th -/
noncomputable def draw (ring : List Nat) (many k : Nat) : Nat := if k < ring.length then ring.getD k 0 % many else (8 * (k + 1) + (k + 1) / 3 + 5) % many
theorem draw_lt {ring : List Nat} {many k : Nat} (h : 0 < many) : draw ring many k < many := by
  unfold draw; split <;> exact Nat.mod_lt _ h

theorem run_law_condensed {ring : List Nat} {many k : Nat} (hm : 0 < many) (hl : ring.length ≤ 100) : K_law_condensed [.int (k : Nat), L ring] [.int (many : Nat)] [.int ((k + 1 : Nat) : Int), L ring] (.int ((draw ring many k : Nat) : Int)) := by
  have L0 : LIM = 1048576 := rfl
  refine ⟨rfl, by simp; lia, ?_⟩
  unfold RunsM b_law_condensed
  have oka : ∀ x y : Int, Op.ok .add x y := fun _ _ => trivial
  have oku : ∀ x y : Int, Op.ok .sub x y := fun _ _ => trivial
  have okm : ∀ x : Nat, Op.ok .mod (x : Int) (many : Int) := fun x => (by show (0 : Int) < _; lia)
  have z0 : ¬ ((0 : Int) < 0) := by lia
  have z1 : ¬ ((1 : Int) < 0) := by lia
  have ea : Op.ev .add (k : Int) 1 = ((k + 1 : Nat) : Int) := by simp only [Op.ev]; lia
  have es : Op.ev .sub ((k + 1 : Nat) : Int) 1 = (k : Int) := by simp only [Op.ev]; lia
  simp (maxSteps := 4000000) only [List.map_cons, List.map_nil, List.cons_append, List.nil_append, List.replicate_zero, x_seqs1, x_put, x_frz, x_frzV, x_frzP, x_bin, x_item, x_var, x_c, List.getElem?_cons_zero, List.getElem?_cons_succ, x_evItemP0, z0, if_false, Int.le_refl, Int.toNat_zero, true_and, Option.some.injEq, exists_eq_left', x_evBin, oka, ea, List.length_cons, List.length_nil, show (0 : Int) < ((0 + 1 + 1 : Nat) : Int) by decide, x_setC, List.set_cons_zero, x_if, x_cmp, x_len, z1, show (0 : Int) ≤ 1 by decide, show (1 : Int).toNat = 1 from rfl, x_lookV, List.length_map, x_evCmp]
  by_cases h : k < ring.length
  · have cc : Cmp.ev .le ((k + 1 : Nat) : Int) (ring.length : Int) = true := decide_eq_true (by lia)
    have g1 : ring[k]? = some ring[k] := List.getElem?_eq_getElem h
    have e2 : ¬ ((k : Int) < 0) := by lia
    have e3 : (0 : Int) ≤ k := by lia
    have hd : draw ring many k = ring[k] % many := by
      unfold draw; rw [if_pos h, List.getD_eq_getElem?_getD, g1]; rfl
    simp (maxSteps := 4000000) only [cc, if_true, x_seqs1, x_ret, x_frz, x_frzV, x_frzP, x_bin, x_item, x_var, x_c, List.getElem?_cons_zero, List.getElem?_cons_succ, x_evItemP0, z0, z1, if_false, Int.le_refl, Int.toNat_zero, true_and, Option.some.injEq, exists_eq_left', x_evBin, oku, es, show (0 : Int) ≤ 1 by decide, show (1 : Int).toNat = 1 from rfl, x_evItemL, e2, e3, List.getElem?_map, Int.toNat_natCast, g1, Option.map_some, okm, ev_mod, hd]
    exact ⟨.inl trivial, trivial⟩
  · have cc : Cmp.ev .le ((k + 1 : Nat) : Int) (ring.length : Int) = false := decide_eq_false (by lia)
    have ok8 : Op.ok .mul 8 ((k + 1 : Nat) : Int) := .inl (by decide)
    have okd : Op.ok .div ((k + 1 : Nat) : Int) 3 := ⟨by decide, by decide⟩
    have e8 : Op.ev .add (Op.ev .add (Op.ev .mul 8 ((k + 1 : Nat) : Int)) (Op.ev .div ((k + 1 : Nat) : Int) 3)) 5 = ((8 * (k + 1) + (k + 1) / 3 + 5 : Nat) : Int) := by simp only [Op.ev]; lia
    have hd : draw ring many k = (8 * (k + 1) + (k + 1) / 3 + 5) % many := by unfold draw; rw [if_neg h]
    simp (maxSteps := 4000000) only [cc, Bool.false_eq_true, if_false, x_seqs0, x_seqs1, x_ret, x_frz, x_frzV, x_frzP, x_bin, x_item, x_var, x_c, List.getElem?_cons_zero, List.getElem?_cons_succ, x_evItemP0, z0, Int.le_refl, Int.toNat_zero, true_and, Option.some.injEq, exists_eq_left', x_evBin, oka, ok8, okd, e8, okm, ev_mod, hd]
    exact ⟨.inl trivial, trivial⟩
end Mine
end

section
set_option linter.unusedVariables false
set_option linter.unusedSimpArgs false
namespace Mine
@[simp] theorem x_compV (it : T (List D)) (tg : Nat) (cap : List Nat) (bind : D → MS → Option MS) (cond : T Bool) (elt : T D) (ms : MS) (Q : RV → MS → Prop) : tCompV it tg cap bind cond elt ms Q =
  it ms fun ds ms1 => compGo bind cond elt ds [] ⟨mkFr tg cap ms1.fr, ms1.cs⟩ fun out ms2 => Q (.val (.lst out)) ⟨ms1.fr, ms2.cs.take ms1.cs.length⟩ := rfl
@[simp] theorem x_compP (it : T (List D)) (tg : Nat) (cap : List Nat) (bind : D → MS → Option MS) (cond : T Bool) (elt : T D) (ms : MS) (Q : RV → MS → Prop) : tCompP it tg cap bind cond elt ms Q =
  it ms fun ds ms1 => compGo bind cond elt ds [] ⟨mkFr tg cap ms1.fr, ms1.cs⟩ fun out ms2 => Q (.ptr (ms2.cs.take ms1.cs.length).length) ⟨ms1.fr, ms2.cs.take ms1.cs.length ++ [.lst out]⟩ := rfl
theorem x_comp0 (bind : D → MS → Option MS) (cond : T Bool) (elt : T D) (acc : List D) (ms : MS) (Q : List D → MS → Prop) : compGo bind cond elt [] acc ms Q = Q acc ms := rfl
theorem x_comp1 (bind : D → MS → Option MS) (cond : T Bool) (elt : T D) (d : D) (ds acc : List D) (ms : MS) (Q : List D → MS → Prop) : compGo bind cond elt (d :: ds) acc ms Q = ∃ ms1, bind d ms = some ms1 ∧ cond ms1 fun b ms2 =>
      if b then elt ms2 fun x ms3 => compGo bind cond elt ds (acc ++ [x]) ms3 Q else compGo bind cond elt ds acc ms2 Q := rfl
theorem x_true (ms : MS) (Q : Bool → MS → Prop) : tTrue ms Q = Q true ms := rfl

noncomputable def stD (p : List Nat × Int) : D := .tup [.tup (iz p.1), .int p.2]
noncomputable def aheadN (o : List Nat) (a : Nat) : Nat := (o.filter fun x => decide (a < x)).length

theorem comp_ahead (a : Nat) (cs : List Cell) (Q : List D → MS → Prop) : ∀ (o : List Nat) (acc : List D) (x : Option RV),
    (∀ x, Q (acc ++ iz (o.filter fun x => decide (a < x))) ⟨[x, some (.val (.int (a : Nat)))], cs⟩) →
    compGo (bind1 0) (tCmp .gt (tVar 0) (tVar 1)) (tFrz 0 (tVar 0)) (iz o) acc ⟨[x, some (.val (.int (a : Nat)))], cs⟩ Q
  | [], acc, x, hQ => by
    have := hQ x
    simpa [x_comp0] using this
  | y :: o, acc, x, hQ => by
    show compGo _ _ _ (.int (y : Nat) :: iz o) _ _ _
    rw [x_comp1]
    simp only [x_frzV, x_frzP, x_bind1, x_set, Option.some.injEq, exists_eq_left', List.set_cons_zero, x_cmp, x_var, List.getElem?_cons_zero, List.getElem?_cons_succ, x_evCmp]
    by_cases h : a < y
    · have cc : Cmp.ev .gt (y : Int) (a : Int) = true := decide_eq_true (by lia)
      simp only [cc, if_true, x_frz, x_frzV, x_frzP, x_var, List.getElem?_cons_zero]
      refine comp_ahead a cs Q o _ _ fun x => ?_
      have := hQ x
      rw [List.filter_cons_of_pos (by simpa using h)] at this
      simpa using this
    · have cc : Cmp.ev .gt (y : Int) (a : Int) = false := decide_eq_false (by lia)
      simp only [cc, Bool.false_eq_true, if_false]
      refine comp_ahead a cs Q o _ _ fun x => ?_
      have := hQ x
      rw [List.filter_cons_of_neg (by simpa using h)] at this
      exact this

theorem intsOf_ints : ∀ l : List Nat, intsOf (iz l) = some (l.map fun n : Nat => (n : Int))
  | [] => rfl
  | a :: l => by
    show (intsOf (iz l)).map _ = _
    rw [intsOf_ints l]; rfl
end Mine
end

section
set_option linter.unusedVariables false
set_option linter.unusedSimpArgs false
namespace Mine
/-- a row of plain iz as data -/
noncomputable def rwI (r : List Int) : D := .lst (r.map D.int)
/-- one more column for an order, or none -/
noncomputable def more1 (row : List Int) (p : List Nat × Int) (a : Nat) : List (List Nat × Int) :=
  if a ∉ p.1 ∧ row.getD a 0 ≠ 0 then [(p.1 ++ [a], p.2 * row.getD a 0 * (1 - 2 * ((aheadN p.1 a % 2 : Nat) : Int)))] else []
noncomputable def moreF (row : List Int) (p : List Nat × Int) : Nat → Nat → List (List Nat × Int)
  | 0, _ => []
  | j + 1, a => more1 row p a ++ moreF row p j (a + 1)
theorem more1_len (row : List Int) (p : List Nat × Int) (a : Nat) : (more1 row p a).length ≤ 1 := by
  unfold more1; split <;> simp

theorem orders_inner {n : Nat} {row : List Int} (hr : row.length = n) (hb : Bd 24 row) {o : List Nat} {wt : Int} (ho : o.length ≤ 10) (v0 v1 : RV) (pre : List Cell) (Q : Fl → MS → Prop) :
    ∀ (j a : Nat) (acc : List D) (x y : Option RV), a + j = n → acc.length + j ≤ 10000 →
    (∀ x y, Q .next ⟨[some v0, some v1, some (.val (rwI row)), some (.ptr pre.length), some (.val (.tup (iz o))), some (.val (.int wt)), x, y], pre ++ [.lst (acc ++ (moreF row (o, wt) j a).map stD)]⟩) →
    forGo (bind1 6) (tSeqs [(tIf (tAnd (tNotIn (tVar 6) (tVar 4)) (tCmp .ne (tItem (tVar 2) (tVar 6)) (tC (.int 0))))
      (tSeqs [(tAsg 7 (tLen (tCompV (tItemsT (tFrz 0 (tVar 4))) 1 [6] (bind1 0) (tCmp .gt (tVar 0) (tVar 1)) (tFrz 0 (tVar 0))))),
      (tApp 3 (tFrz 0 (tTup [(tFrz 0 (tTCat (tVar 4) (tTup [(tFrz 0 (tVar 6))]))), (tFrz 0 (tBin .mul (tBin .mul (tVar 5) (tItem (tVar 2) (tVar 6))) (tBin .sub (tC (.int 1)) (tBin .mul (tC (.int 2)) (tBin .mod (tVar 7) (tC (.int 2)))))))])))])
      (tSeqs []))]) (dInts (a : Int) 1 j)
      ⟨[some v0, some v1, some (.val (rwI row)), some (.ptr pre.length), some (.val (.tup (iz o))), some (.val (.int wt)), x, y], pre ++ [.lst acc]⟩ Q
  | 0, a, acc, x, y, ha, hl, hQ => by
    have := hQ x y
    simpa [moreF, dInts_zero] using this
  | j + 1, a, acc, x, y, ha, hl, hQ => by
    have L0 : LIM = 1048576 := rfl
    have e2 : ¬ ((a : Int) < 0) := by lia
    have e3 : (0 : Int) ≤ a := by lia
    have g1 : row[a]? = some row[a] := List.getElem?_eq_getElem (by omega)
    have gd : row.getD a 0 = row[a] := by rw [List.getD_eq_getElem?_getD, g1]; rfl
    have e6 : (a : Int) + 1 = ((a + 1 : Nat) : Int) := by lia
    have hmem : (decide ((a : Int) ∉ o.map fun n : Nat => (n : Int))) = decide (a ∉ o) := by
      refine decide_eq_decide.mpr (not_congr ?_)
      rw [List.mem_map]
      exact ⟨fun ⟨b, hb, e⟩ => by have : b = a := by lia
                                  exact this ▸ hb, fun h => ⟨a, h, rfl⟩⟩
    have hg : ∀ c : Cell, (pre ++ [c])[pre.length]? = some c := fun c => by simp
    have hst : ∀ c c' : Cell, (pre ++ [c]).set pre.length c' = pre ++ [c'] := fun c c' => by simp
    have htk : ∀ c : Cell, (pre ++ [c]).take (pre ++ [c]).length = pre ++ [c] := fun c => List.take_length
    have hrow : ∀ (ms : MS) (P : RV → Prop), P (.val (.int row[a])) → evItem ms (.val (rwI row)) (.val (.int (a : Nat))) P := fun ms P hP => by
      unfold rwI
      rw [x_evItemL]
      simp only [e2, if_false, e3, true_and, List.getElem?_map, Int.toNat_natCast, g1, Option.map_some, Option.some.injEq, exists_eq_left']
      exact hP
    rw [dInts_succ, x_forB]
    simp (maxSteps := 4000000) only [x_frzV, x_frzP, x_bind1, x_set, Option.some.injEq, exists_eq_left', List.set_cons_succ, List.set_cons_zero, x_seqs1, x_seqs0, x_if, x_and, x_notin, x_var, List.getElem?_cons_zero, List.getElem?_cons_succ, evNotIn, intsOf_ints, hmem]
    by_cases hm : a ∈ o
    · have cc : decide (a ∉ o) = false := by simpa using hm
      have hmo : more1 row (o, wt) a = [] := by unfold more1; rw [if_neg (fun h => h.1 hm)]
      simp only [cc, Bool.false_eq_true, if_false, e6]
      refine orders_inner hr hb ho v0 v1 pre Q j (a + 1) acc _ _ (by lia) (by lia) fun x y => ?_
      have := hQ x y
      simpa [moreF, hmo] using this
    · have cc : decide (a ∉ o) = true := by simpa using hm
      simp (maxSteps := 4000000) only [x_frzV, x_frzP, cc, if_true, x_cmp, x_item, x_var, x_c, List.getElem?_cons_zero, List.getElem?_cons_succ]
      refine hrow _ _ ?_
      simp only [x_frzV, x_frzP, x_evCmp]
      by_cases hz : row[a] = 0
      · have c2 : Cmp.ev .ne row[a] 0 = false := decide_eq_false (by simpa using hz)
        have hmo : more1 row (o, wt) a = [] := by unfold more1; rw [if_neg (fun h => h.2 (by rw [gd]; exact hz))]
        simp only [c2, Bool.false_eq_true, if_false, e6]
        refine orders_inner hr hb ho v0 v1 pre Q j (a + 1) acc _ _ (by lia) (by lia) fun x y => ?_
        have := hQ x y
        simpa [moreF, hmo] using this
      · have c2 : Cmp.ev .ne row[a] 0 = true := decide_eq_true hz
        have hmo : more1 row (o, wt) a = [(o ++ [a], wt * row[a] * (1 - 2 * ((aheadN o a % 2 : Nat) : Int)))] := by unfold more1; rw [if_pos ⟨hm, by rw [gd]; exact hz⟩, gd]
        have hba := hb row[a] (List.getElem_mem ..)
        simp (maxSteps := 4000000) only [c2, if_true, x_seqs1, x_seqs0, x_asg, x_len, x_compV, x_itemsT, x_frz, x_frzV, x_frzP, x_var, List.getElem?_cons_zero, List.getElem?_cons_succ]
        refine comp_ahead a _ _ o [] none fun x => ?_
        have hal : (aheadN o a) ≤ 10 := Nat.le_trans (List.length_filter_le _ _) ho
        have oka : ∀ x y : Int, Op.ok .sub x y := fun _ _ => trivial
        have okd : Op.ok .mod (aheadN o a : Int) 2 := (by show (0 : Int) < 2; decide)
        have em : Op.ev .mod (aheadN o a : Int) 2 = ((aheadN o a % 2 : Nat) : Int) := ev_mod _ 2
        have okt : Op.ok .mul 2 ((aheadN o a % 2 : Nat) : Int) := .inl (by decide)
        have ok1 : Op.ok .mul wt row[a] := .inr (by lia)
        have ok2 : Op.ok .mul (Op.ev .mul wt row[a]) (Op.ev .sub 1 (Op.ev .mul 2 ((aheadN o a % 2 : Nat) : Int))) := .inr (by simp only [Op.ev]; lia)
        have hlt : acc.length < LIM := by lia
        have hle : o.length + (0 + 1) ≤ LIM := by lia
        have hlen : (iz (o.filter fun x => decide (a < x))).length = aheadN o a := by simp [aheadN]
        simp (maxSteps := 4000000) only [List.nil_append, x_lookV, hlen, htk, x_set, List.set_cons_succ, List.set_cons_zero, x_app, hg, List.getElem?_cons_zero, List.getElem?_cons_succ, x_frz, x_frzV, x_frzP, x_tup, x_args1, x_args0, x_tcat, x_var, x_bin, x_item, List.length_map, List.length_cons, List.length_nil, hle, true_and]
        refine ⟨⟨_, rfl⟩, ?_⟩
        refine hrow _ _ ?_
        simp (maxSteps := 4000000) only [x_evBin, ok1, true_and, x_c, x_bin, x_var, List.getElem?_cons_zero, List.getElem?_cons_succ, okd, em, okt, oka, ok2, x_frz, x_frzV, x_frzP, x_args0, hg, hlt, x_setC, hst, e6]
        refine orders_inner hr hb ho v0 v1 pre Q j (a + 1) _ _ _ (by lia) (by simp; lia) fun x y => ?_
        have := hQ x y
        simp only [moreF, hmo, List.map_append, List.map_cons, List.map_nil] at this
        rw [← List.append_assoc] at this
        have e : stD (o ++ [a], wt * row[a] * (1 - 2 * ((aheadN o a % 2 : Nat) : Int))) = .tup [.tup (iz o ++ [.int (a : Nat)]), .int (Op.ev .mul (Op.ev .mul wt row[a]) (Op.ev .sub 1 (Op.ev .mul 2 ((aheadN o a % 2 : Nat) : Int))))] := by
          simp [stD, Op.ev]
        rw [e] at this
        exact this
end Mine
end

section
set_option linter.unusedVariables false
set_option linter.unusedSimpArgs false
namespace Mine
noncomputable def stepR (n : Nat) (row : List Int) (st : List (List Nat × Int)) : List (List Nat × Int) := st.flatMap fun p => moreF row p n 0
noncomputable def mtI (m : List (List Int)) : D := .lst (m.map rwI)

theorem moreF_len (row : List Int) (p : List Nat × Int) : ∀ j a, (moreF row p j a).length ≤ j
  | 0, _ => Nat.le_refl _
  | j + 1, a => by
    have := moreF_len row p j (a + 1)
    have := more1_len row p a
    simp only [moreF, List.length_append]; lia
theorem moreF_ord (row : List Int) (p : List Nat × Int) : ∀ j a, ∀ q ∈ moreF row p j a, q.1.length = p.1.length + 1
  | 0, _, q, h => by cases h
  | j + 1, a, q, h => by
    rcases List.mem_append.mp h with h | h
    · unfold more1 at h
      split at h
      · rw [List.mem_singleton.mp h]; simp
      · cases h
    · exact moreF_ord row p j (a + 1) q h

theorem orders_mid {n : Nat} {m : List (List Int)} {row : List Int} (hm : m.length = n) (hn : n ≤ 10) (hr : row.length = n) (hb : Bd 24 row) (v1 : RV) (pre : List Cell) (Q : Fl → MS → Prop) :
    ∀ (st : List (List Nat × Int)) (acc : List D) (a b x y : Option RV), (∀ p ∈ st, p.1.length ≤ 10) → acc.length + st.length * n ≤ 9000 →
    (∀ a b x y, Q .next ⟨[some (.val (mtI m)), some v1, some (.val (rwI row)), some (.ptr pre.length), a, b, x, y], pre ++ [.lst (acc ++ (stepR n row st).map stD)]⟩) →
    forGo (bindT [4, 5]) (tSeqs [(tFor (tRange1 (tLen (tVar 0))) (bind1 6)
      (tSeqs [(tIf (tAnd (tNotIn (tVar 6) (tVar 4)) (tCmp .ne (tItem (tVar 2) (tVar 6)) (tC (.int 0))))
      (tSeqs [(tAsg 7 (tLen (tCompV (tItemsT (tFrz 0 (tVar 4))) 1 [6] (bind1 0) (tCmp .gt (tVar 0) (tVar 1)) (tFrz 0 (tVar 0))))),
      (tApp 3 (tFrz 0 (tTup [(tFrz 0 (tTCat (tVar 4) (tTup [(tFrz 0 (tVar 6))]))), (tFrz 0 (tBin .mul (tBin .mul (tVar 5) (tItem (tVar 2) (tVar 6))) (tBin .sub (tC (.int 1)) (tBin .mul (tC (.int 2)) (tBin .mod (tVar 7) (tC (.int 2)))))))])))])
      (tSeqs []))]))]) (st.map stD)
      ⟨[some (.val (mtI m)), some v1, some (.val (rwI row)), some (.ptr pre.length), a, b, x, y], pre ++ [.lst acc]⟩ Q
  | [], acc, a, b, x, y, hst, hl, hQ => by
    have := hQ a b x y
    simpa [stepR] using this
  | p :: st, acc, a, b, x, y, hst, hl, hQ => by
    have L0 : LIM = 1048576 := rfl
    have hl' : acc.length + (st.length * n + n) ≤ 9000 := by simpa [Nat.add_mul] using hl
    have s1 : Small (n : Int) := by unfold Small; lia
    have s2 : (n : Int) ≤ (LIM : Nat) := by lia
    have hlk : ∀ ms : MS, ms.look (.val (mtI m)) = some (m.map rwI) := fun _ => rfl
    show forGo _ _ (.tup [.tup (iz p.1), .int p.2] :: st.map stD) _ _
    rw [x_for1]
    simp (maxSteps := 4000000) only [x_frzV, x_frzP, x_bindT, x_bindAll1, x_bindAll0, x_set, Option.some.injEq, exists_eq_left', List.set_cons_succ, List.set_cons_zero, x_seqs1, x_seqs0, x_for, x_range1, x_len, x_var, List.getElem?_cons_zero, hlk, List.length_map, hm, s1, s2, true_and, Int.toNat_natCast]
    have hml := moreF_len row (p.1, p.2) n 0
    refine orders_inner (n := n) hr hb (hst p List.mem_cons_self) _ v1 pre _ n 0 acc x y (by lia) (by lia) fun x y => ?_
    refine orders_mid hm hn hr hb v1 pre Q st _ _ _ _ _ (fun q hq => hst q (List.mem_cons_of_mem _ hq)) (by simp; lia) fun a b x y => ?_
    have := hQ a b x y
    simpa [stepR, List.flatMap_cons, List.append_assoc] using this
end Mine
end

section
set_option linter.unusedVariables false
set_option linter.unusedSimpArgs false
namespace Mine
@[simp] theorem x_sum (e : T RV) (ms : MS) (Q : RV → MS → Prop) : tSum e ms Q = e ms fun a ms1 => match ms1.look a with
  | some xs => ∃ ns, intsOf xs = some ns ∧ Q (.val (.int ns.sum)) ms1
  | Option.none => False := rfl

theorem stepR_len (n : Nat) (row : List Int) : ∀ st : List (List Nat × Int), (stepR n row st).length ≤ st.length * n
  | [] => by simp [stepR]
  | p :: st => by
    have h1 := stepR_len n row st
    have h2 := moreF_len row p n 0
    have e : stepR n row (p :: st) = moreF row p n 0 ++ stepR n row st := by simp [stepR, List.flatMap_cons]
    rw [e, List.length_append, List.length_cons, Nat.add_mul, Nat.one_mul]; lia
theorem stepR_ord (n : Nat) (row : List Int) (st : List (List Nat × Int)) (k : Nat) (h : ∀ p ∈ st, p.1.length ≤ k) : ∀ q ∈ stepR n row st, q.1.length ≤ k + 1 := by
  intro q hq
  obtain ⟨p, hp, hq⟩ := List.mem_flatMap.mp hq
  have := moreF_ord row p n 0 q hq
  have := h p hp
  lia

theorem orders_outer {n : Nat} {m : List (List Int)} (hm : m.length = n) (hn : n ≤ 4) (Q : Fl → MS → Prop) :
    ∀ (rs : List (List Int)) (st : List (List Nat × Int)) (row lon a b x y : Option RV) (pre : List Cell), (∀ r ∈ rs, r.length = n ∧ Bd 24 r) → rs.length ≤ 4 → (∀ p ∈ st, p.1.length + rs.length ≤ 4) → st.length * 4 ^ rs.length ≤ 256 →
    (∀ row lon a b x y pre, Q .next ⟨[some (.val (mtI m)), some (.val (.lst ((rs.foldl (fun st row => stepR n row st) st).map stD))), row, lon, a, b, x, y], pre⟩) →
    forGo (bind1 2) (tSeqs [(tAsg 3 (tLst [])),
  (tFor (tItems (tFrz 0 (tVar 1))) (bindT [4, 5])
  (tSeqs [(tFor (tRange1 (tLen (tVar 0))) (bind1 6)
  (tSeqs [(tIf (tAnd (tNotIn (tVar 6) (tVar 4)) (tCmp .ne (tItem (tVar 2) (tVar 6)) (tC (.int 0))))
  (tSeqs [(tAsg 7 (tLen (tCompV (tItemsT (tFrz 0 (tVar 4))) 1 [6] (bind1 0) (tCmp .gt (tVar 0) (tVar 1)) (tFrz 0 (tVar 0))))),
  (tApp 3 (tFrz 0 (tTup [(tFrz 0 (tTCat (tVar 4) (tTup [(tFrz 0 (tVar 6))]))), (tFrz 0 (tBin .mul (tBin .mul (tVar 5) (tItem (tVar 2) (tVar 6))) (tBin .sub (tC (.int 1)) (tBin .mul (tC (.int 2)) (tBin .mod (tVar 7) (tC (.int 2)))))))])))])
  (tSeqs []))]))])),
  (tAsg 1 (tUp (tFrz 0 (tVar 3))))]) (rs.map rwI)
      ⟨[some (.val (mtI m)), some (.val (.lst (st.map stD))), row, lon, a, b, x, y], pre⟩ Q
  | [], st, row, lon, a, b, x, y, pre, hr, hl, ho, hs, hQ => by
    simp only [x_frzV, x_frzP, List.map_nil, x_for0]
    exact hQ row lon a b x y pre
  | r :: rs, st, row, lon, a, b, x, y, pre, hr, hl, ho, hs, hQ => by
    simp only [List.length_cons] at hl ho hs
    have hp : 1 ≤ 4 ^ rs.length := Nat.pow_pos (by decide)
    have hs' : st.length * 4 * 4 ^ rs.length ≤ 256 := by rw [Nat.mul_assoc, Nat.mul_comm 4, ← Nat.pow_succ]; exact hs
    have hs1 : st.length * 4 ≤ 256 := Nat.le_trans (Nat.le_mul_of_pos_right _ hp) hs'
    have hs2 : st.length * n ≤ st.length * 4 := Nat.mul_le_mul_left _ hn
    have hln := stepR_len n r st
    have hs3 : (stepR n r st).length * 4 ^ rs.length ≤ 256 := Nat.le_trans (Nat.mul_le_mul_right _ (Nat.le_trans hln hs2)) hs'
    obtain ⟨hr1, hr2⟩ := hr r List.mem_cons_self
    have hg : ∀ c : Cell, (pre ++ [c])[pre.length]? = some c := fun c => by simp
    have hst : ∀ c c' : Cell, (pre ++ [c]).set pre.length c' = pre ++ [c'] := fun c c' => by simp
    simp only [List.map_cons]
    rw [x_forB]
    simp (maxSteps := 4000000) only [x_bind1, x_set, Option.some.injEq, exists_eq_left', List.set_cons_succ, List.set_cons_zero, x_seqs1, x_seqs0, x_asg, x_lst, x_args0, x_addC, x_for, x_items, x_frz, x_frzV, x_frzP, x_var, List.getElem?_cons_zero, List.getElem?_cons_succ]
    refine orders_mid (n := n) hm (by lia) hr1 hr2 _ pre _ st [] a b x y (fun p hp => by have := ho p hp; lia) (by simp; lia) fun a b x y => ?_
    simp (maxSteps := 4000000) only [x_asg, x_up, x_frz, x_frzV, x_frzP, x_var, List.getElem?_cons_zero, List.getElem?_cons_succ, hg, hst, Nat.zero_le, true_and, x_setC, x_set, List.set_cons_succ, List.set_cons_zero, x_seqs1, x_seqs0, List.nil_append]
    refine orders_outer hm hn Q rs (stepR n r st) _ _ _ _ _ _ _ (fun q hq => hr q (List.mem_cons_of_mem _ hq)) (by lia) (fun p hp => ?_) hs3 fun row lon a b x y pre => ?_
    · have := stepR_ord n r st (4 - (rs.length + 1)) (fun q hq => by have := ho q hq; lia) p hp
      lia
    · exact hQ row lon a b x y pre

theorem comp_worth (cs : List Cell) (Q : List D → MS → Prop) : ∀ (st : List (List Nat × Int)) (acc : List D) (x y : Option RV),
    (∀ x y, Q (acc ++ (st.map (·.2)).map D.int) ⟨[x, y], cs⟩) →
    compGo (bindT [0, 1]) tTrue (tFrz 0 (tVar 1)) (st.map stD) acc ⟨[x, y], cs⟩ Q
  | [], acc, x, y, hQ => by
    have := hQ x y
    simpa [x_comp0] using this
  | p :: st, acc, x, y, hQ => by
    show compGo _ _ _ (.tup [.tup (iz p.1), .int p.2] :: st.map stD) _ _ _
    rw [x_comp1]
    simp only [x_bindT, x_bindAll1, x_bindAll0, x_set, Option.some.injEq, exists_eq_left', List.set_cons_zero, List.set_cons_succ, x_true, if_true, x_frz, x_frzV, x_frzP, x_var, List.getElem?_cons_zero, List.getElem?_cons_succ]
    refine comp_worth cs Q st _ _ _ fun x y => ?_
    have := hQ x y
    simpa using this
theorem intsOf_int : ∀ l : List Int, intsOf (l.map D.int) = some l
  | [] => rfl
  | a :: l => by
    show (intsOf (l.map D.int)).map _ = _
    rw [intsOf_int l]; rfl

noncomputable def leib (m : List (List Int)) : Int := ((m.foldl (fun st row => stepR m.length row st) [([], 1)]).map (·.2)).sum

theorem run_law_all_orders {m : List (List Int)} (hn : m.length ≤ 4) (hr : ∀ r ∈ m, r.length = m.length ∧ Bd 24 r) : K_law_all_orders [mtI m] (.int (leib m)) := by
  refine ⟨rfl, ?_⟩
  unfold Runs b_law_all_orders
  have hit : ∀ (Q : List D → MS → Prop) (ms : MS), tItems (fun ms Q => Q (mtI m) ms) ms Q = Q (m.map rwI) ms := fun _ _ => rfl
  have hst : (D.lst [.tup [.tup [], .int 1]]) = .lst ((([([], 1)] : List (List Nat × Int))).map stD) := rfl
  simp (maxSteps := 4000000) only [List.map_cons, List.map_nil, List.cons_append, List.nil_append, List.replicate_succ, List.replicate_zero, x_seqs1, x_asg, x_lstV, x_args1, x_args0, x_frz, x_frzV, x_frzP, x_tup, x_c, x_set, List.set_cons_succ, List.set_cons_zero, x_for, x_items, x_var, List.getElem?_cons_zero, List.getElem?_cons_succ]
  have hp : 4 ^ m.length ≤ 4 ^ 4 := Nat.pow_le_pow_right (by decide) hn
  refine orders_outer (n := m.length) rfl hn _ m [([], 1)] none none none none none none [] hr hn (fun p hp => by rw [List.mem_singleton.mp hp]; simpa using hn) (by simpa using hp) fun row lon a b x y pre => ?_
  simp (maxSteps := 4000000) only [x_seqs1, x_ret, x_frz, x_frzV, x_frzP, x_sum, x_compV, x_items, x_var, List.getElem?_cons_zero, List.getElem?_cons_succ]
  refine comp_worth _ _ _ [] none none fun x y => ?_
  simp only [x_frzV, x_frzP, List.nil_append, x_lookV, intsOf_int, Option.some.injEq, exists_eq_left']
  exact Or.inl rfl
end Mine
end

section
set_option linter.unusedVariables false
set_option linter.unusedSimpArgs false
namespace Mine
@[simp] theorem x_swap (x : Nat) (i j : T RV) (a b : T D) (ms : MS) (Q : Fl → MS → Prop) : tSwap x i j a b ms Q = a ms fun d1 ms1 => b ms1 fun d2 ms2 => match ms2.fr[x]? with
  | some (some (.ptr n)) => i ms2 fun r1 ms3 => match r1, ms3.cs[n]? with
    | .val (.int k1), some (.lst xs) => 0 ≤ k1 ∧ k1 < xs.length ∧ ms3.fr[x]? = some (some (.ptr n)) ∧ j (ms3.setC n (.lst (xs.set k1.toNat d1))) fun r2 ms4 => match r2, ms4.cs[n]? with
      | .val (.int k2), some (.lst ys) => 0 ≤ k2 ∧ k2 < ys.length ∧ Q .next (ms4.setC n (.lst (ys.set k2.toNat d2)))
      | _, _ => False
    | _, _ => False
  | _ => False := rfl

theorem run_law_times {am ad w : Nat} (hw : 1 ≤ w) (hw2 : w ≤ 29) {x y : Int} (hx : x.natAbs < 2 ^ 60) (hy : y.natAbs < 2 ^ 60) : K_law_times am ad [sgn w x, sgn w y, .int (w : Nat)] (sgn w (x * y)) := by
  refine ⟨rfl, ?_⟩
  unfold Runs b_law_times
  simp only [List.map_cons, List.map_nil, List.cons_append, List.nil_append, List.replicate_zero, x_seqs1, x_ret, x_frz, x_frzV, x_frzP, x_call, x_args1, x_args0, x_var, x_c, List.getElem?_cons_zero, List.getElem?_cons_succ]
  exact ⟨_, run_s_mul hw hw2 hx hy, Or.inl rfl⟩

noncomputable def clr (c : Nat) (before : Int) (head row : List Int) : List Int := List.zipWith (clF (head.getD c 0) (row.getD c 0) before) row head

theorem clear_loop {am ad w n c t : Nat} (hw : 1 ≤ w) (hw2 : w ≤ 8) {head : List Int} {before : Int} (hh : Bd 24 head) (hhl : head.length = n) (hc : c < n) (hn : n ≤ 100) (hb : before ≠ 0) (hb2 : before.natAbs < 2 ^ w * 2 ^ w) (va vn vo vs : RV) (pl : Cell) (Q : Fl → MS → Prop) :
    ∀ (R P : List (List Int)) (i : Nat) (o : Option RV), P.length = i → P[t]? = some head → (∀ r ∈ R, Bd 24 r ∧ r.length = n) →
    (∀ o, Q .next ⟨[some va, some vn, some (.val (.int (w : Nat))), some (.val (.fn am)), some (.val (.fn ad)), some (.ptr 0), some (.ptr 1), some vo, some (.val (sgn w before)), some (.val (.int (c : Nat))), some (.val (.int (t : Nat))), some vs, o], [.lst ((P ++ R.map (clr c before head)).map (rw w)), pl]⟩) →
    forGo (bind1 12)
  (tSeqs [(tPut 5 (tVar 12) (tFrz 0 (tCall (K_cleared am ad) [(tFrz 0 (tItem (tVar 5) (tVar 12))), (tFrz 0 (tItem (tVar 5) (tVar 10))), (tFrz 0 (tVar 9)), (tFrz 0 (tVar 8)), (tFrz 0 (tVar 2)), (tFrz 0 (tVar 3)), (tFrz 0 (tVar 4))])))]) (dInts (i : Int) 1 R.length)
      ⟨[some va, some vn, some (.val (.int (w : Nat))), some (.val (.fn am)), some (.val (.fn ad)), some (.ptr 0), some (.ptr 1), some vo, some (.val (sgn w before)), some (.val (.int (c : Nat))), some (.val (.int (t : Nat))), some vs, o], [.lst ((P ++ R).map (rw w)), pl]⟩ Q
  | [], P, i, o, hP, ht, hR, hQ => by
    have := hQ o
    simpa [dInts_zero] using this
  | r :: R, P, i, o, hP, ht, hR, hQ => by
    have e2 : ¬ ((i : Int) < 0) := by lia
    have e3 : (0 : Int) ≤ i := by lia
    have e6 : (i : Int) + 1 = ((i + 1 : Nat) : Int) := by lia
    have f2 : ¬ ((t : Int) < 0) := by lia
    have f3 : (0 : Int) ≤ t := by lia
    have htl : t < P.length := by
      rcases Nat.lt_or_ge t P.length with h | h
      · exact h
      · rw [List.getElem?_eq_none h] at ht; cases ht
    have g1 : (P ++ r :: R)[i]? = some r := by rw [List.getElem?_append_right (by lia)]; simp [hP]
    have g2 : (P ++ r :: R)[t]? = some head := by rw [List.getElem?_append_left htl]; exact ht
    have hl : (i : Int) < ((P ++ r :: R).length : Int) := by simp; lia
    have hset : ((P ++ r :: R).map (rw w)).set i (rw w (clr c before head r)) = ((P ++ [clr c before head r]) ++ R).map (rw w) := by
      rw [List.map_append, List.set_append_right _ _ (by simp; lia)]
      simp [hP]
    obtain ⟨hr1, hr2⟩ := hR r List.mem_cons_self
    rw [List.length_cons, dInts_succ, x_forB]
    simp (maxSteps := 4000000) only [x_bind1, x_set, Option.some.injEq, exists_eq_left', List.set_cons_succ, List.set_cons_zero, x_seqs1, x_seqs0, x_put, x_call, x_args1, x_args0, x_frz, x_frzV, x_frzP, x_item, x_var, List.getElem?_cons_zero, List.getElem?_cons_succ, x_evItemP0, e2, if_false, e3, true_and, List.getElem?_map, Int.toNat_natCast, g1, g2, Option.map_some, f2, f3]
    refine ⟨_, run_cleared (w := w) hw hw2 hr1 hh (by lia) (by lia) (by lia) hb hb2, ?_⟩
    simp (maxSteps := 4000000) only [x_frzV, x_frzP, List.length_map, hl, true_and, x_setC, List.set_cons_zero, e6]
    have := clear_loop (am := am) (ad := ad) hw hw2 hh hhl hc hn hb hb2 va vn vo vs pl Q R (P ++ [clr c before head r]) (i + 1) (some (.val (.int (i : Nat)))) (by simp [hP]) (by rw [List.getElem?_append_left htl]; exact ht) (fun q hq => hR q (List.mem_cons_of_mem _ hq)) (fun o => by
      have := hQ o
      rw [List.map_cons, List.append_cons] at this
      exact this)
    rw [← hset] at this
    exact this
end Mine
end

section
set_option linter.unusedVariables false
set_option linter.unusedSimpArgs false
namespace Mine
structure BS where
  rows : List (List Int)
  places : List Nat
  odd : Bool
  before : Int

noncomputable def swp (rows : List (List Int)) (i j : Nat) : List (List Int) := (rows.set i (rows.getD j [])).set j (rows.getD i [])
noncomputable def fin1 (s : BS) (c : Nat) (rows1 : List (List Int)) (odd : Bool) : BS :=
  ⟨rows1.take (s.places.length + 1) ++ (rows1.drop (s.places.length + 1)).map (clr c s.before (rows1.getD s.places.length [])), s.places ++ [c], odd, (rows1.getD s.places.length []).getD c 0⟩
noncomputable def bstep (s : BS) (c : Nat) : BS :=
  if pivotF s.rows c (s.rows.length - s.places.length) s.places.length < 0 then s
  else if (pivotF s.rows c (s.rows.length - s.places.length) s.places.length).toNat = s.places.length then fin1 s c s.rows s.odd
  else fin1 s c (swp s.rows s.places.length (pivotF s.rows c (s.rows.length - s.places.length) s.places.length).toNat) (!s.odd)

noncomputable def lim : Nat → Nat
  | 0 => 3
  | 1 => 18
  | 2 => 648
  | _ => 839808
noncomputable def dlim : Nat → Nat
  | 0 => 1
  | 1 => 3
  | _ => 18

structure Inv (n : Nat) (s : BS) : Prop where
  len : s.rows.length = n
  row : ∀ r ∈ s.rows, r.length = n
  bd : ∀ r ∈ s.rows, ∀ z ∈ r, z.natAbs ≤ lim s.places.length
  nz : s.before ≠ 0
  bl : s.places.length ≤ 2 → s.before.natAbs ≤ dlim s.places.length
  pl : s.places.length ≤ n

theorem pivotF_spec (m : List (List Int)) (c : Nat) : ∀ j i, (pivotF m c j i = -1 ∧ ∀ k, i ≤ k → k < i + j → at2 m k c = 0) ∨ ∃ p : Nat, i ≤ p ∧ p < i + j ∧ pivotF m c j i = (p : Int) ∧ at2 m p c ≠ 0
  | 0, i => .inl ⟨rfl, fun k h1 h2 => by lia⟩
  | j + 1, i => by
    unfold pivotF
    by_cases h : at2 m i c ≠ 0
    · rw [if_pos h]
      exact .inr ⟨i, by lia, by lia, rfl, h⟩
    · rw [if_neg h]
      rcases pivotF_spec m c j (i + 1) with ⟨h1, h2⟩ | ⟨p, h1, h2, h3, h4⟩
      · refine .inl ⟨h1, fun k a b => ?_⟩
        by_cases e : k = i
        · subst e; exact Decidable.byContradiction h
        · exact h2 k (by lia) (by lia)
      · exact .inr ⟨p, by lia, by lia, h3, h4⟩

theorem lim_mono : ∀ {a b : Nat}, a ≤ b → lim a ≤ lim b
  | 0, 0, _ => Nat.le_refl _
  | 0, 1, _ => by decide
  | 0, 2, _ => by decide
  | 0, _ + 3, _ => by show 3 ≤ 839808; decide
  | 1, 0, h => by lia
  | 1, 1, _ => by decide
  | 1, 2, _ => by decide
  | 1, _ + 3, _ => by show 18 ≤ 839808; decide
  | 2, 0, h => by lia
  | 2, 1, h => by lia
  | 2, 2, _ => by decide
  | 2, _ + 3, _ => by show 648 ≤ 839808; decide
  | _ + 3, 0, h => by lia
  | _ + 3, 1, h => by lia
  | _ + 3, 2, h => by lia
  | _ + 3, _ + 3, _ => Nat.le_refl _
theorem lim_24 (a : Nat) : lim a < 2 ^ 24 := by
  unfold lim; split <;> decide

theorem clr_len {c : Nat} {b : Int} {head row : List Int} {n : Nat} (h1 : head.length = n) (h2 : row.length = n) : (clr c b head row).length = n := by
  unfold clr; rw [List.length_zipWith]; lia

theorem zipWith_mem {f : Int → Int → Int} : ∀ {a b : List Int} {z : Int}, z ∈ List.zipWith f a b → ∃ x ∈ a, ∃ y ∈ b, z = f x y
  | [], _, z, h => by simp at h
  | _ :: _, [], z, h => by simp at h
  | x :: a, y :: b, z, h => by
    rw [List.zipWith_cons_cons] at h
    rcases List.mem_cons.mp h with h | h
    · exact ⟨x, List.mem_cons_self, y, List.mem_cons_self, h⟩
    · obtain ⟨x, hx, y, hy, e⟩ := zipWith_mem h
      exact ⟨x, List.mem_cons_of_mem _ hx, y, List.mem_cons_of_mem _ hy, e⟩

theorem getD_bd {r : List Int} {k : Nat} (h : ∀ z ∈ r, z.natAbs ≤ k) (c : Nat) : (r.getD c 0).natAbs ≤ k := by
  rw [List.getD_eq_getElem?_getD]
  rcases Nat.lt_or_ge c r.length with g | g
  · rw [List.getElem?_eq_getElem g]; exact h _ (List.getElem_mem ..)
  · rw [List.getElem?_eq_none g]; exact Nat.zero_le _
theorem getD_bd2 {m : List (List Int)} {k : Nat} (h : ∀ r ∈ m, ∀ z ∈ r, z.natAbs ≤ k) (i : Nat) : ∀ z ∈ m.getD i [], z.natAbs ≤ k := by
  rw [List.getD_eq_getElem?_getD]
  rcases Nat.lt_or_ge i m.length with g | g
  · rw [List.getElem?_eq_getElem g]; exact h _ (List.getElem_mem ..)
  · rw [List.getElem?_eq_none g]; intro z hz; cases hz

theorem clr_bd {c k : Nat} {b : Int} {head row : List Int} (hh : ∀ z ∈ head, z.natAbs ≤ k) (hr : ∀ z ∈ row, z.natAbs ≤ k) (hb : b ≠ 0) : ∀ z ∈ clr c b head row, z.natAbs ≤ 2 * (k * k) := by
  intro z hz
  obtain ⟨x, hx, y, hy, rfl⟩ := zipWith_mem hz
  unfold clF
  rw [Int.natAbs_tdiv]
  refine Nat.le_trans (Nat.div_le_self _ _) ?_
  have h1 : (x * head.getD c 0).natAbs ≤ k * k := by rw [Int.natAbs_mul]; exact Nat.mul_le_mul (hr _ hx) (getD_bd hh c)
  have h2 : (row.getD c 0 * y).natAbs ≤ k * k := by rw [Int.natAbs_mul]; exact Nat.mul_le_mul (getD_bd hr c) (hh _ hy)
  omega

theorem swp_len (m : List (List Int)) (i j : Nat) : (swp m i j).length = m.length := by simp [swp]
theorem swp_mem {m : List (List Int)} {i j : Nat} (hi : i < m.length) (hj : j < m.length) : ∀ r ∈ swp m i j, r ∈ m := by
  intro r hr
  have g : ∀ k, k < m.length → m.getD k [] ∈ m := fun k hk => by
    rw [List.getD_eq_getElem?_getD, List.getElem?_eq_getElem hk]; exact List.getElem_mem ..
  unfold swp at hr
  rcases List.mem_or_eq_of_mem_set hr with h | h
  · rcases List.mem_or_eq_of_mem_set h with h | h
    · exact h
    · rw [h]; exact g _ hj
  · rw [h]; exact g _ hi
theorem swp_at {m : List (List Int)} {i j : Nat} (hi : i < m.length) (hj : j < m.length) (hij : j ≠ i) : (swp m i j).getD i [] = m.getD j [] := by
  unfold swp
  rw [List.getD_eq_getElem?_getD, List.getElem?_set_ne hij, List.getElem?_set_self hi]; rfl

theorem fin1_inv {n : Nat} (hn : n ≤ 4) {s : BS} (h : Inv n s) {c : Nat} {rows1 : List (List Int)} (odd : Bool) (h1 : rows1.length = n) (h2 : ∀ r ∈ rows1, r ∈ s.rows) (ht : s.places.length < n) (hz : (rows1.getD s.places.length []).getD c 0 ≠ 0) : Inv n (fin1 s c rows1 odd) := by
  have hr1 : ∀ r ∈ rows1, r.length = n := fun r hr => h.row r (h2 r hr)
  have hb1 : ∀ r ∈ rows1, ∀ z ∈ r, z.natAbs ≤ lim s.places.length := fun r hr => h.bd r (h2 r hr)
  have hhd : rows1.getD s.places.length [] ∈ rows1 := by
    rw [List.getD_eq_getElem?_getD, List.getElem?_eq_getElem (by lia)]; exact List.getElem_mem ..
  have hp : (s.places ++ [c]).length = s.places.length + 1 := by simp
  refine ⟨?_, ?_, ?_, hz, ?_, ?_⟩
  · simp [fin1]; lia
  · intro r hr
    rcases List.mem_append.mp hr with hr | hr
    · exact hr1 r (List.mem_of_mem_take hr)
    · obtain ⟨q, hq, rfl⟩ := List.mem_map.mp hr
      exact clr_len (hr1 _ hhd) (hr1 _ (List.mem_of_mem_drop hq))
  · intro r hr
    show ∀ z ∈ r, z.natAbs ≤ lim (s.places ++ [c]).length
    rw [hp]
    rcases List.mem_append.mp hr with hr | hr
    · exact fun z hz => Nat.le_trans (hb1 r (List.mem_of_mem_take hr) z hz) (lim_mono (Nat.le_succ _))
    · obtain ⟨q, hq, rfl⟩ := List.mem_map.mp hr
      intro z hz
      have hlt : s.places.length + 1 < n := by
        rcases Nat.lt_or_ge (s.places.length + 1) n with g | g
        · exact g
        · rw [List.drop_eq_nil_of_le (by lia)] at hq; cases hq
      have := clr_bd (hb1 _ hhd) (hb1 _ (List.mem_of_mem_drop hq)) h.nz z hz
      refine Nat.le_trans this ?_
      have h3 : s.places.length = 0 ∨ s.places.length = 1 ∨ s.places.length = 2 := by lia
      rcases h3 with h3 | h3 | h3 <;> rw [h3] <;> decide
  · show (s.places ++ [c]).length ≤ 2 → ((rows1.getD s.places.length []).getD c 0).natAbs ≤ dlim (s.places ++ [c]).length
    rw [hp]
    intro h3
    refine Nat.le_trans (getD_bd (hb1 _ hhd) c) ?_
    have h3 : s.places.length = 0 ∨ s.places.length = 1 := by lia
    rcases h3 with h3 | h3 <;> rw [h3] <;> decide
  · show (s.places ++ [c]).length ≤ n
    rw [hp]; lia

theorem bstep_inv {n : Nat} (hn : n ≤ 4) {s : BS} (h : Inv n s) (c : Nat) : Inv n (bstep s c) := by
  unfold bstep
  rcases pivotF_spec s.rows c (s.rows.length - s.places.length) s.places.length with ⟨h1, h2⟩ | ⟨p, h1, h2, h3, h4⟩
  · rw [h1, if_pos (by decide)]; exact h
  · have hl := h.len
    have hp : p < s.rows.length := by lia
    rw [h3, if_neg (by lia), Int.toNat_natCast]
    by_cases e : p = s.places.length
    · rw [if_pos e]
      exact fin1_inv hn h _ hl (fun r hr => hr) (by lia) (by rw [← e]; exact h4)
    · rw [if_neg e]
      refine fin1_inv hn h _ (by rw [swp_len]; exact hl) (swp_mem (by lia) hp) (by lia) ?_
      rw [swp_at (by lia) hp e]
      exact h4
end Mine
end

section
set_option linter.unusedVariables false
set_option linter.unusedSimpArgs false
namespace Mine
noncomputable def steps : Nat → Nat → BS → BS
  | 0, _, s => s
  | j + 1, c, s => steps j (c + 1) (bstep s c)
theorem x_seq (a b : T Fl) (ms : MS) (Q : Fl → MS → Prop) : tSeq a b ms Q = a ms fun f ms1 => match f with
  | .next => b ms1 Q
  | .ret d => Q (.ret d) ms1 := rfl
theorem x_lookP1 (fr : List (Option RV)) (c : Cell) (xs : List D) (cs : List Cell) : MS.look ⟨fr, c :: .lst xs :: cs⟩ (.ptr 1) = some xs := rfl

noncomputable def tailT (am ad : Nat) : T Fl := tSeqs [(tFor (tRange2 (tBin .add (tVar 10) (tC (.int 1))) (tLen (tVar 5))) (bind1 12)
  (tSeqs [(tPut 5 (tVar 12) (tFrz 0 (tCall (K_cleared am ad) [(tFrz 0 (tItem (tVar 5) (tVar 12))), (tFrz 0 (tItem (tVar 5) (tVar 10))), (tFrz 0 (tVar 9)), (tFrz 0 (tVar 8)), (tFrz 0 (tVar 2)), (tFrz 0 (tVar 3)), (tFrz 0 (tVar 4))])))])),
  (tAsg 8 (tItem (tItem (tVar 5) (tVar 10)) (tVar 9))),
  (tApp 6 (tFrz 0 (tVar 9)))]

theorem tail_step {am ad w n c t : Nat} (hw : 3 ≤ w) (hw2 : w ≤ 8) (hn : n ≤ 4) {s : BS} (h : Inv n s) (hc : c < n) (ht : s.places.length < n) (hte : s.places.length = t) {rows1 : List (List Int)} (h1 : rows1.length = n) (h2 : ∀ r ∈ rows1, r ∈ s.rows) (va vs : RV) (odd : Bool) (o : Option RV) (Q : Fl → MS → Prop)
    (hQ : ∀ o, Q .next ⟨[some va, some (.val (.int (n : Nat))), some (.val (.int (w : Nat))), some (.val (.fn am)), some (.val (.fn ad)), some (.ptr 0), some (.ptr 1), some (.val (.bool odd)), some (.val (sgn w (fin1 s c rows1 odd).before)), some (.val (.int (c : Nat))), some (.val (.int (t : Nat))), some vs, o], [.lst ((fin1 s c rows1 odd).rows.map (rw w)), .lst (iz (fin1 s c rows1 odd).places)]⟩) :
    tailT am ad ⟨[some va, some (.val (.int (n : Nat))), some (.val (.int (w : Nat))), some (.val (.fn am)), some (.val (.fn ad)), some (.ptr 0), some (.ptr 1), some (.val (.bool odd)), some (.val (sgn w s.before)), some (.val (.int (c : Nat))), some (.val (.int (t : Nat))), some vs, o], [.lst (rows1.map (rw w)), .lst (iz s.places)]⟩ Q := by
  have L0 : LIM = 1048576 := rfl
  subst hte
  have hr1 : ∀ r ∈ rows1, r.length = n := fun r hr => h.row r (h2 r hr)
  have hb1 : ∀ r ∈ rows1, ∀ z ∈ r, z.natAbs ≤ lim s.places.length := fun r hr => h.bd r (h2 r hr)
  have hbd : ∀ r ∈ rows1, Bd 24 r := fun r hr z hz => Nat.lt_of_le_of_lt (hb1 r hr z hz) (lim_24 _)
  have g1 : rows1[s.places.length]? = some rows1[s.places.length] := List.getElem?_eq_getElem (by omega)
  have gd : rows1.getD s.places.length [] = rows1[s.places.length] := by rw [List.getD_eq_getElem?_getD, g1]; rfl
  have hhd : rows1[s.places.length] ∈ rows1 := List.getElem_mem ..
  have hhl := hr1 _ hhd
  have gc : rows1[s.places.length][c]? = some rows1[s.places.length][c] := List.getElem?_eq_getElem (by omega)
  have gcd : (rows1.getD s.places.length []).getD c 0 = rows1[s.places.length][c] := by rw [gd, List.getD_eq_getElem?_getD, gc]; rfl
  have ea : Op.ev .add (s.places.length : Int) 1 = ((s.places.length + 1 : Nat) : Int) := by simp only [Op.ev]; lia
  have oka : Op.ok .add (s.places.length : Int) 1 := trivial
  have s1 : Small ((s.places.length + 1 : Nat) : Int) := by unfold Small; lia
  have s2 : Small (n : Int) := by unfold Small; lia
  have s3 : (n : Int) - ((s.places.length + 1 : Nat) : Int) ≤ (LIM : Nat) := by lia
  have en : ((n : Int) - ((s.places.length + 1 : Nat) : Int)).toNat = (rows1.drop (s.places.length + 1)).length := by rw [List.length_drop]; lia
  have e2 : ¬ ((s.places.length : Int) < 0) := by lia
  have e3 : (0 : Int) ≤ s.places.length := by lia
  have f2 : ¬ ((c : Int) < 0) := by lia
  have f3 : (0 : Int) ≤ c := by lia
  have hlt : s.places.length < LIM := by lia
  unfold tailT
  simp (maxSteps := 4000000) only [x_frzV, x_frzP, x_seqs1, x_seqs0, x_for, x_range2, x_bin, x_len, x_var, x_c, List.getElem?_cons_zero, List.getElem?_cons_succ, x_evBin, oka, ea, true_and, x_lookP0, List.length_map, h1, s1, s2, s3, en]
  have hsplit : rows1 = rows1.take (s.places.length + 1) ++ rows1.drop (s.places.length + 1) := (List.take_append_drop _ _).symm
  have htk : (rows1.take (s.places.length + 1))[s.places.length]? = some rows1[s.places.length] := by
    rw [List.getElem?_take_of_lt (by lia)]; exact g1
  have hfin : ((rows1.take (s.places.length + 1)) ++ (rows1.drop (s.places.length + 1)).map (clr c s.before rows1[s.places.length])) = (fin1 s c rows1 odd).rows := by
    rw [← gd]; rfl
  have hft : (fin1 s c rows1 odd).rows[s.places.length]? = some rows1[s.places.length] := by
    rw [← hfin, List.getElem?_append_left (by rw [List.length_take]; lia)]; exact htk
  have hbf : (fin1 s c rows1 odd).before = rows1[s.places.length][c] := gcd
  have hd3 : s.places.length + 1 < n → s.before.natAbs < 2 ^ w * 2 ^ w := fun hh => by
    have h3 := h.bl (by lia)
    have h4 : dlim s.places.length ≤ 18 := by
      have h5 : s.places.length = 0 ∨ s.places.length = 1 ∨ s.places.length = 2 := by lia
      rcases h5 with h5 | h5 | h5 <;> rw [h5] <;> decide
    have h6 : 2 ^ 3 ≤ 2 ^ w := Nat.pow_le_pow_right (by decide) hw
    have h7 : 2 ^ 3 * 2 ^ 3 ≤ 2 ^ w * 2 ^ w := Nat.mul_le_mul h6 h6
    lia
  have main : ∀ (P' : Fl → MS → Prop), (∀ o, P' .next ⟨[some va, some (.val (.int (n : Nat))), some (.val (.int (w : Nat))), some (.val (.fn am)), some (.val (.fn ad)), some (.ptr 0), some (.ptr 1), some (.val (.bool odd)), some (.val (sgn w s.before)), some (.val (.int (c : Nat))), some (.val (.int (s.places.length : Nat))), some vs, o], [.lst ((fin1 s c rows1 odd).rows.map (rw w)), .lst (iz s.places)]⟩) →
    forGo (bind1 12)
      (tSeqs [(tPut 5 (tVar 12) (tFrz 0 (tCall (K_cleared am ad) [(tFrz 0 (tItem (tVar 5) (tVar 12))), (tFrz 0 (tItem (tVar 5) (tVar 10))), (tFrz 0 (tVar 9)), (tFrz 0 (tVar 8)), (tFrz 0 (tVar 2)), (tFrz 0 (tVar 3)), (tFrz 0 (tVar 4))])))]) (dInts ((s.places.length + 1 : Nat) : Int) 1 (rows1.drop (s.places.length + 1)).length)
      ⟨[some va, some (.val (.int (n : Nat))), some (.val (.int (w : Nat))), some (.val (.fn am)), some (.val (.fn ad)), some (.ptr 0), some (.ptr 1), some (.val (.bool odd)), some (.val (sgn w s.before)), some (.val (.int (c : Nat))), some (.val (.int (s.places.length : Nat))), some vs, o], [.lst (rows1.map (rw w)), .lst (iz s.places)]⟩ P' := by
    intro P' hP
    rcases Nat.lt_or_ge (s.places.length + 1) n with hh | hh
    · have := clear_loop (am := am) (ad := ad) (w := w) (n := n) (c := c) (t := s.places.length) (by lia) hw2 (hbd _ hhd) hhl hc (by lia) h.nz (hd3 hh) va (.val (.int (n : Nat))) (.val (.bool odd)) vs (.lst (iz s.places)) P' (rows1.drop (s.places.length + 1)) (rows1.take (s.places.length + 1)) (s.places.length + 1) o (by rw [List.length_take]; lia) htk (fun r hr => ⟨hbd r (List.mem_of_mem_drop hr), hr1 r (List.mem_of_mem_drop hr)⟩) (fun o => by rw [hfin]; exact hP o)
      rw [← hsplit] at this
      exact this
    · have hnil : rows1.drop (s.places.length + 1) = [] := List.drop_eq_nil_of_le (by lia)
      have hrr : (fin1 s c rows1 odd).rows = rows1 := by
        rw [← hfin, hnil, List.map_nil, List.append_nil, List.take_of_length_le (by lia)]
      rw [hnil]
      have := hP o
      rw [hrr] at this
      simpa [dInts_zero] using this
  refine main _ fun o => ?_
  simp (maxSteps := 4000000) only [x_frzV, x_frzP, x_seqs1, x_seqs0, x_asg, x_item, x_var, List.getElem?_cons_zero, List.getElem?_cons_succ, x_evItemP0, e2, if_false, e3, true_and, List.getElem?_map, Int.toNat_natCast, hft, Option.map_some, Option.some.injEq, exists_eq_left']
  have hrow : ∀ (ms : MS) (P : RV → Prop), P (.val (sgn w rows1[s.places.length][c])) → evItem ms (.val (Mine.rw w rows1[s.places.length])) (.val (.int (c : Nat))) P := fun ms P hP => by
    unfold Mine.rw
    rw [x_evItemL]
    simp only [f2, if_false, f3, true_and, List.getElem?_map, Int.toNat_natCast, gc, Option.map_some, Option.some.injEq, exists_eq_left']
    exact hP
  refine hrow _ _ ?_
  simp (maxSteps := 4000000) only [x_set, List.set_cons_succ, List.set_cons_zero, x_app, x_frz, x_frzV, x_frzP, x_var, List.getElem?_cons_zero, List.getElem?_cons_succ, List.length_map, hlt, true_and, x_setC]
  refine ⟨⟨_, rfl⟩, ?_⟩
  have := hQ o
  rw [hbf] at this
  have hpl : (fin1 s c rows1 odd).places = s.places ++ [c] := rfl
  rw [hpl, ints_snoc] at this
  exact this
end Mine
end

section
set_option linter.unusedVariables false
set_option linter.unusedSimpArgs false
namespace Mine

theorem x_swap2 {rows : List (List Int)} {w t p : Nat} {r1 r2 : List Int} (g1 : rows[t]? = some r1) (g2 : rows[p]? = some r2) : ((rows.map (rw w)).set t (rw w r2)).set p (rw w r1) = (swp rows t p).map (rw w) := by
  unfold swp
  rw [List.map_set, List.map_set]
  have d1 : rows.getD t [] = r1 := by rw [List.getD_eq_getElem?_getD, g1]; rfl
  have d2 : rows.getD p [] = r2 := by rw [List.getD_eq_getElem?_getD, g2]; rfl
  rw [d1, d2]

theorem steps_loop {am ad w n : Nat} (hw : 3 ≤ w) (hw2 : w ≤ 8) (hn : n ≤ 4) (va : RV) (Q : Fl → MS → Prop) :
    ∀ (j c : Nat) (s : BS) (o9 o10 o11 o12 : Option RV), c + j = n → Inv n s →
    (∀ o9 o10 o11 o12, Q .next ⟨[some va, some (.val (.int (n : Nat))), some (.val (.int (w : Nat))), some (.val (.fn am)), some (.val (.fn ad)), some (.ptr 0), some (.ptr 1), some (.val (.bool (steps j c s).odd)), some (.val (sgn w (steps j c s).before)), o9, o10, o11, o12], [.lst ((steps j c s).rows.map (rw w)), .lst (iz (steps j c s).places)]⟩) →
    forGo (bind1 9)
      (tSeqs [(tAsg 10 (tLen (tVar 6))),
  (tAsg 11 (tCallL K_pivot_row 5 [(tFrz 0 (tVar 10)), (tFrz 0 (tVar 9))])),
  (tIf (tCmp .ge (tVar 11) (tC (.int 0)))
  (tSeq (tIf (tCmp .ne (tVar 11) (tVar 10))
  (tSeqs [(tSwap 5 (tVar 10) (tVar 11) (tFrz 0 (tItem (tVar 5) (tVar 11))) (tFrz 0 (tItem (tVar 5) (tVar 10)))),
  (tAsg 7 (tBoolV (tNot (tTruth (tVar 7)))))])
  (tSeqs [])) (tailT am ad))
  (tSeqs []))]) (dInts (c : Int) 1 j)
      ⟨[some va, some (.val (.int (n : Nat))), some (.val (.int (w : Nat))), some (.val (.fn am)), some (.val (.fn ad)), some (.ptr 0), some (.ptr 1), some (.val (.bool s.odd)), some (.val (sgn w s.before)), o9, o10, o11, o12], [.lst (s.rows.map (rw w)), .lst (iz s.places)]⟩ Q
  | 0, c, s, o9, o10, o11, o12, hc, h, hQ => by
    have := hQ o9 o10 o11 o12
    simpa [dInts_zero, steps] using this
  | j + 1, c, s, o9, o10, o11, o12, hc, h, hQ => by
    have e6 : (c : Int) + 1 = ((c + 1 : Nat) : Int) := by lia
    have hrl : ∀ r ∈ s.rows, c < r.length := fun r hr => by rw [h.row r hr]; lia
    have hsl := h.len
    have hspl := h.pl
    have hpv := run_pivot_row (w := w) (by lia) hrl (t := s.places.length) (by lia) (by lia)
    have hrec := steps_loop (am := am) (ad := ad) hw hw2 hn va Q j (c + 1) (bstep s c)
    rw [dInts_succ, x_forB]
    simp (maxSteps := 4000000) only [x_bind1, x_set, Option.some.injEq, exists_eq_left', List.set_cons_succ, List.set_cons_zero, x_seqs1, x_seqs0, x_asg, x_len, x_var, List.getElem?_cons_zero, List.getElem?_cons_succ, x_lookP1, List.length_map, x_callL, x_args1, x_args0, x_frz, x_frzV, x_frzP, x_lookP0]
    refine ⟨_, hpv, trivial, ?_⟩
    rcases pivotF_spec s.rows c (s.rows.length - s.places.length) s.places.length with ⟨h1, h2⟩ | ⟨p, h1, h2, h3, h4⟩
    · have hb : bstep s c = s := by unfold bstep; rw [h1, if_pos (by decide)]
      have cc : Cmp.ev .ge (-1) 0 = false := rfl
      rw [h1]
      simp (maxSteps := 4000000) only [x_frzV, x_frzP, x_set, List.set_cons_succ, List.set_cons_zero, x_if, x_cmp, x_var, x_c, List.getElem?_cons_zero, List.getElem?_cons_succ, x_evCmp, cc, Bool.false_eq_true, if_false, x_seqs0, e6]
      rw [hb] at hrec
      refine hrec _ _ _ _ (by lia) h fun o9 o10 o11 o12 => ?_
      have := hQ o9 o10 o11 o12
      unfold steps at this
      rw [hb] at this
      exact this
    · have i4 : (0 : Int) ≤ p := by lia
      have hp : p < s.rows.length := by lia
      have hplt : s.places.length < n := by lia
      have cc : Cmp.ev .ge (p : Int) 0 = true := by
        show decide ((0 : Int) ≤ p) = true
        exact decide_eq_true i4
      have hQ' := hQ
      simp only [steps] at hQ'
      have hinv := bstep_inv hn h c
      rw [h3]
      simp (maxSteps := 4000000) only [x_frzV, x_frzP, x_set, List.set_cons_succ, List.set_cons_zero, x_if, x_cmp, x_var, x_c, List.getElem?_cons_zero, List.getElem?_cons_succ, x_evCmp, cc, if_true, x_seq]
      by_cases e : p = s.places.length
      · have hb : bstep s c = fin1 s c s.rows s.odd := by
          unfold bstep
          rw [h3, if_neg (by lia), Int.toNat_natCast, if_pos e]
        have c2 : Cmp.ev .ne (p : Int) (s.places.length : Int) = false := decide_eq_false (by lia)
        simp (maxSteps := 4000000) only [x_frzV, x_frzP, c2, Bool.false_eq_true, if_false, x_seqs0]
        refine tail_step hw hw2 hn h (by lia) hplt rfl hsl (fun r hr => hr) va (.val (.int (p : Nat))) s.odd _ _ fun o => ?_
        simp only [e6]
        rw [hb] at hrec hinv hQ'
        exact hrec _ _ _ _ (by lia) hinv hQ'
      · have hb : bstep s c = fin1 s c (swp s.rows s.places.length p) (!s.odd) := by
          unfold bstep
          rw [h3, if_neg (by lia), Int.toNat_natCast, if_neg e]
        have c2 : Cmp.ev .ne (p : Int) (s.places.length : Int) = true := decide_eq_true (by lia)
        have g1 : s.rows[s.places.length]? = some s.rows[s.places.length] := List.getElem?_eq_getElem (by lia)
        have g2 : s.rows[p]? = some s.rows[p] := List.getElem?_eq_getElem hp
        have i1 : ¬ ((s.places.length : Int) < 0) := by lia
        have i2 : (0 : Int) ≤ s.places.length := by lia
        have i3 : ¬ ((p : Int) < 0) := by lia
        have i5 : (s.places.length : Int) < (s.rows.length : Int) := by omega
        have i6 : (p : Int) < (s.rows.length : Int) := by lia
        simp (maxSteps := 4000000) only [c2, if_true, x_seqs1, x_seqs0, x_swap, x_frz, x_frzV, x_frzP, x_item, x_var, List.getElem?_cons_zero, List.getElem?_cons_succ, x_evItemP0, i1, i2, i3, i4, if_false, true_and, List.getElem?_map, Int.toNat_natCast, g1, g2, Option.map_some, Option.some.injEq, exists_eq_left', List.length_map, List.length_set, i5, i6, x_setC, List.set_cons_zero, x_asg, x_boolV, x_not, x_truth, x_set, List.set_cons_succ, x_swap2 g1 g2]
        refine tail_step hw hw2 hn h (by lia) hplt rfl (by rw [swp_len]; exact hsl) (swp_mem (by lia) hp) va (.val (.int (p : Nat))) (!s.odd) _ _ fun o => ?_
        simp only [e6]
        rw [hb] at hrec hinv hQ'
        exact hrec _ _ _ _ (by lia) hinv hQ'
end Mine
end

section
set_option linter.unusedVariables false
set_option linter.unusedSimpArgs false
namespace Mine
theorem cut_all (xs : List D) : cut xs none none = xs := by
  unfold cut; simp
theorem comp_rows {w : Nat} (cs : List Cell) (Q : List D → MS → Prop) : ∀ (m : List (List Int)) (acc : List D) (x : Option RV),
    (∀ x, Q (acc ++ m.map (rw w)) ⟨[x], cs⟩) →
    compGo (bind1 0) tTrue (tFrz 0 (tCut (tVar 0) Option.none Option.none)) (m.map (rw w)) acc ⟨[x], cs⟩ Q
  | [], acc, x, hQ => by
    have := hQ x
    simpa [x_comp0] using this
  | r :: m, acc, x, hQ => by
    have hlk : ∀ ms : MS, ms.look (.val (rw w r)) = some (r.map (sgn w)) := fun _ => rfl
    rw [List.map_cons, x_comp1]
    simp only [x_bind1, x_set, Option.some.injEq, exists_eq_left', List.set_cons_zero, x_true, if_true, x_frz, x_frzV, x_frzP, x_cut, x_opt0, x_var, List.getElem?_cons_zero, hlk, cut_all]
    refine comp_rows cs Q m _ _ fun x => ?_
    have := hQ x
    rw [List.map_cons, List.append_cons] at this
    exact this

theorem sgn_one {w : Nat} (hw : 1 ≤ w) : sgn w 1 = dUNIT := by
  unfold sgn
  have : limbs w (1 : Int).natAbs = [1] := limbs_one hw (by decide) (Nat.lt_of_lt_of_le (by decide) (Nat.pow_le_pow_right (by decide) hw : 2 ^ 1 ≤ 2 ^ w))
  rw [this]; rfl
theorem sgn_zero (w : Nat) : sgn w 0 = dNOUGHT := rfl

noncomputable def start (m : List (List Int)) : BS := ⟨m, [], false, 1⟩

theorem run_steps_down {am ad w n : Nat} (hw : 3 ≤ w) (hw2 : w ≤ 8) (hn : n ≤ 4) {m : List (List Int)} (h : Inv n (start m)) : K_steps_down am ad [mt w m, .int (n : Nat), .int (w : Nat), .fn am, .fn ad] (.tup [mt w (steps n 0 (start m)).rows, L (steps n 0 (start m)).places, .bool (steps n 0 (start m)).odd]) := by
  refine ⟨rfl, ?_⟩
  unfold Runs b_steps_down
  have L0 : LIM = 1048576 := rfl
  have s1 : Small (n : Int) := by unfold Small; omega
  have s2 : (n : Int) ≤ (LIM : Nat) := by lia
  simp (maxSteps := 4000000) only [List.map_cons, List.map_nil, List.cons_append, List.nil_append, List.replicate_succ, List.replicate_zero, x_seqs1 (tMulti _ _), x_multi, x_rvs1, x_compP, x_items, x_frz, x_frzV, x_frzP, x_var, List.getElem?_cons_zero, List.getElem?_cons_succ]
  refine comp_rows _ _ m [] none fun x => ?_
  simp (maxSteps := 4000000) only [x_frzV, x_frzP, x_rvs1, x_rvs0, x_lst, x_args0, x_addC, x_c, List.take_nil, List.length_nil, List.nil_append, List.cons_append, List.length_cons, x_setAll1, x_setAll0, x_set, List.set_cons_succ, List.set_cons_zero]
  rw [← sgn_one (w := w) (by lia)]
  rw [x_seqs1 (tFor _ _ _), x_for]
  simp (maxSteps := 4000000) only [x_frzV, x_frzP, x_range1, x_var, List.getElem?_cons_zero, List.getElem?_cons_succ, s1, s2, true_and, Int.toNat_natCast]
  refine steps_loop (am := am) (ad := ad) hw hw2 hn (.val (mt w m)) _ n 0 (start m) none none none none (by lia) h fun o9 o10 o11 o12 => ?_
  simp (maxSteps := 4000000) only [x_seqs1, x_seqs0, x_ret, x_frz, x_frzV, x_frzP, x_tup, x_args1, x_args0, x_var, List.getElem?_cons_zero, List.getElem?_cons_succ, Nat.le_refl, Nat.zero_le, true_and, x_setC, List.set_cons_zero, List.set_cons_succ]
  exact Or.inl rfl

noncomputable def detB (m : List (List Int)) : Int :=
  if m.length = 0 then 1
  else if (steps m.length 0 (start m)).places.length < m.length then 0
  else if (steps m.length 0 (start m)).odd then - at2 (steps m.length 0 (start m)).rows (m.length - 1) (m.length - 1) else at2 (steps m.length 0 (start m)).rows (m.length - 1) (m.length - 1)

theorem steps_inv {n : Nat} (hn : n ≤ 4) : ∀ (j c : Nat) {s : BS}, Inv n s → Inv n (steps j c s)
  | 0, _, _, h => h
  | j + 1, c, s, h => steps_inv hn j (c + 1) (bstep_inv hn h c)

theorem run_det_bareiss {am ad w : Nat} (hw : 3 ≤ w) (hw2 : w ≤ 8) {m : List (List Int)} (hn : m.length ≤ 4) (h : Inv m.length (start m)) : K_det_bareiss am ad [mt w m, .int (w : Nat), .fn am, .fn ad] (sgn w (detB m)) := by
  refine ⟨rfl, ?_⟩
  unfold Runs b_det_bareiss
  have hlk : ∀ ms : MS, ms.look (.val (mt w m)) = some (m.map (rw w)) := fun _ => rfl
  simp (maxSteps := 4000000) only [x_frzV, x_frzP, List.map_cons, List.map_nil, List.cons_append, List.nil_append, List.replicate_succ, List.replicate_zero, x_seqs1, x_if, x_cmp, x_len, x_var, x_c, List.getElem?_cons_zero, List.getElem?_cons_succ, hlk, List.length_map, x_evCmp]
  by_cases h0 : m.length = 0
  · have cc : Cmp.ev .eq (m.length : Int) 0 = true := decide_eq_true (by lia)
    have hd : detB m = 1 := by unfold detB; rw [if_pos h0]
    simp (maxSteps := 4000000) only [cc, if_true, x_seqs1, x_ret, x_frz, x_frzV, x_frzP, x_c]
    rw [hd, sgn_one (by lia)]
    exact Or.inl rfl
  · have cc : Cmp.ev .eq (m.length : Int) 0 = false := decide_eq_false (by lia)
    simp (maxSteps := 4000000) only [cc, Bool.false_eq_true, if_false, x_seqs0, x_seqs1, x_unp, x_frz, x_frzV, x_frzP, x_call, x_args1, x_args0, x_var, List.getElem?_cons_zero, List.getElem?_cons_succ, x_len, hlk, List.length_map]
    refine ⟨_, run_steps_down hw hw2 hn h, _, rfl, ?_⟩
    have hinv := steps_inv hn m.length 0 h
    have hd : detB m = if (steps m.length 0 (start m)).places.length < m.length then 0
      else if (steps m.length 0 (start m)).odd then - at2 (steps m.length 0 (start m)).rows (m.length - 1) (m.length - 1) else at2 (steps m.length 0 (start m)).rows (m.length - 1) (m.length - 1) := by
      unfold detB; rw [if_neg h0]
    rw [hd]
    generalize steps m.length 0 (start m) = s at hinv ⊢
    have hlr : s.rows.length = m.length := hinv.len
    have hlk2 : ∀ ms : MS, ms.look (.val (L s.places)) = some (iz s.places) := fun _ => rfl
    simp (maxSteps := 4000000) only [x_frzV, x_frzP, x_set, List.set_cons_succ, List.set_cons_zero, x_if, x_cmp, x_len, x_var, x_c, List.getElem?_cons_zero, List.getElem?_cons_succ, hlk, hlk2, List.length_map, x_evCmp]
    by_cases h1 : s.places.length < m.length
    · have c1 : Cmp.ev .lt (s.places.length : Int) (m.length : Int) = true := decide_eq_true (by lia)
      simp (maxSteps := 4000000) only [c1, if_true, x_seqs1, x_ret, x_frz, x_frzV, x_frzP, x_c, h1]
      exact Or.inl rfl
    · have c1 : Cmp.ev .lt (s.places.length : Int) (m.length : Int) = false := decide_eq_false (by lia)
      obtain ⟨k, hk⟩ : ∃ k, m.length = k + 1 := ⟨m.length - 1, by omega⟩
      have hk1 : m.length - 1 = k := by rw [hk]; rfl
      rw [hk1]
      obtain ⟨rl, g1⟩ : ∃ r, s.rows[k]? = some r := ⟨_, List.getElem?_eq_getElem (by omega)⟩
      have hrl : rl.length = m.length := hinv.row _ (List.mem_of_getElem? g1)
      obtain ⟨z, g2⟩ : ∃ r, rl[k]? = some r := ⟨_, List.getElem?_eq_getElem (by omega)⟩
      have hat : at2 s.rows k k = z := by
        unfold at2
        rw [List.getD_eq_getElem?_getD, List.getD_eq_getElem?_getD, g1]
        show (rl[k]?).getD 0 = _
        rw [g2]; rfl
      have es : Op.ev .sub (m.length : Int) 1 = (k : Int) := by simp only [Op.ev]; omega
      have oks : Op.ok .sub (m.length : Int) 1 := trivial
      have hrow : ∀ (ms : MS) (P : RV → Prop), P (.val (rw w rl)) → evItem ms (.val (mt w s.rows)) (.val (.int (-1))) P := fun ms P hP => by
        have e1 : ((-1 : Int) < 0) := by decide
        have e2 : (0 : Int) ≤ -1 + (m.length : Int) := by omega
        have e3 : (-1 + (m.length : Int)).toNat = k := by omega
        unfold mt
        rw [x_evItemL]
        simp only [List.length_map, hlr, e1, if_true, e2, true_and, e3, List.getElem?_map, g1, Option.map_some, Option.some.injEq, exists_eq_left']
        exact hP
      have hrow2 : ∀ (ms : MS) (P : RV → Prop), P (.val (sgn w z)) → evItem ms (.val (rw w rl)) (.val (.int (k : Nat))) P := fun ms P hP => by
        have f2 : ¬ ((k : Int) < 0) := Int.not_lt.mpr (Int.natCast_nonneg k)
        have f3 : (0 : Int) ≤ (k : Int) := Int.natCast_nonneg k
        unfold Mine.rw
        rw [x_evItemL]
        simp only [f2, if_false, f3, true_and, Int.toNat_natCast, List.getElem?_map, g2, Option.map_some, Option.some.injEq, exists_eq_left']
        exact hP
      rw [hat]
      simp (maxSteps := 4000000) only [x_frzV, x_frzP, c1, Bool.false_eq_true, if_false, x_seqs0, x_seqs1, x_asg, x_item, x_var, x_neg, x_c, List.getElem?_cons_zero, List.getElem?_cons_succ, h1]
      refine hrow _ _ ?_
      simp (maxSteps := 4000000) only [x_frzV, x_frzP, x_bin, x_len, x_var, x_c, List.getElem?_cons_zero, List.getElem?_cons_succ, hlk, List.length_map, bin_E oks es]
      refine hrow2 _ _ ?_
      simp (maxSteps := 4000000) only [x_set, List.set_cons_succ, List.set_cons_zero, x_ret, x_frz, x_frzV, x_frzP, x_ife, x_truth, x_var, List.getElem?_cons_zero, List.getElem?_cons_succ]
      by_cases ho : s.odd = true
      · simp (maxSteps := 4000000) only [ho, if_true, x_call, x_args1, x_args0, x_frz, x_frzV, x_frzP, x_var, List.getElem?_cons_zero, List.getElem?_cons_succ]
        exact ⟨_, run_s_neg (by lia) _, Or.inl rfl⟩
      · simp (maxSteps := 4000000) only [x_frzV, x_frzP, ho, Bool.false_eq_true, if_false, x_var, List.getElem?_cons_zero, List.getElem?_cons_succ]
        exact Or.inl trivial
end Mine
end

section
namespace Mine
/-- the entry (i, j) after t steps: a minor of b -/
noncomputable def Fv : Nat → (Nat → Nat → Int) → Nat → Nat → Int
  | 0, b, i, j => b i j
  | 1, b, i, j => b i j * b 0 0 - b i 0 * b 0 j
  | 2, b, i, j => b 0 0 * (b 1 1 * b i j - b 1 j * b i 1) - b 0 1 * (b 1 0 * b i j - b 1 j * b i 0) + b 0 j * (b 1 0 * b i 1 - b 1 1 * b i 0)
  | _, b, i, j =>
    b 0 0 * (b 1 1 * (b 2 2 * b i j - b 2 j * b i 2) - b 1 2 * (b 2 1 * b i j - b 2 j * b i 1) + b 1 j * (b 2 1 * b i 2 - b 2 2 * b i 1))
    - b 0 1 * (b 1 0 * (b 2 2 * b i j - b 2 j * b i 2) - b 1 2 * (b 2 0 * b i j - b 2 j * b i 0) + b 1 j * (b 2 0 * b i 2 - b 2 2 * b i 0))
    + b 0 2 * (b 1 0 * (b 2 1 * b i j - b 2 j * b i 1) - b 1 1 * (b 2 0 * b i j - b 2 j * b i 0) + b 1 j * (b 2 0 * b i 1 - b 2 1 * b i 0))
    - b 0 j * (b 1 0 * (b 2 1 * b i 2 - b 2 2 * b i 1) - b 1 1 * (b 2 0 * b i 2 - b 2 2 * b i 0) + b 1 2 * (b 2 0 * b i 1 - b 2 1 * b i 0))
noncomputable def Dn : Nat → (Nat → Nat → Int) → Int
  | 0, _ => 1
  | n + 1, b => Fv n b n n

theorem id0 (b : Nat → Nat → Int) (i j : Nat) : Fv 0 b i j * Fv 0 b 0 0 - Fv 0 b i 0 * Fv 0 b 0 j = 1 * Fv 1 b i j := by
  simp only [Fv, Int.one_mul]
theorem id1 (b : Nat → Nat → Int) (i j : Nat) : Fv 1 b i j * Fv 1 b 1 1 - Fv 1 b i 1 * Fv 1 b 1 j = Fv 0 b 0 0 * Fv 2 b i j := by
  simp only [Fv]
  generalize b 0 0 = a00; generalize b 0 1 = a01; generalize b 0 j = a0j; generalize b 1 0 = a10; generalize b 1 1 = a11; generalize b 1 j = a1j; generalize b i 0 = ai0; generalize b i 1 = ai1; generalize b i j = aij
  grind
theorem id2 (b : Nat → Nat → Int) (i j : Nat) : Fv 2 b i j * Fv 2 b 2 2 - Fv 2 b i 2 * Fv 2 b 2 j = Fv 1 b 1 1 * Fv 3 b i j := by
  simp only [Fv]
  generalize b 0 0 = a00; generalize b 0 1 = a01; generalize b 0 2 = a02; generalize b 0 j = a0j; generalize b 1 0 = a10; generalize b 1 1 = a11; generalize b 1 2 = a12; generalize b 1 j = a1j; generalize b 2 0 = a20; generalize b 2 1 = a21; generalize b 2 2 = a22; generalize b 2 j = a2j; generalize b i 0 = ai0; generalize b i 1 = ai1; generalize b i 2 = ai2; generalize b i j = aij
  grind

theorem Dn0 (b : Nat → Nat → Int) : Dn 0 b = 1 := rfl
theorem Dn1 (b : Nat → Nat → Int) : Dn 1 b = b 0 0 := rfl
theorem Dn2 (b : Nat → Nat → Int) : Dn 2 b = Fv 1 b 1 1 := rfl
theorem Dn3 (b : Nat → Nat → Int) : Dn 3 b = Fv 2 b 2 2 := rfl
theorem Dn4 (b : Nat → Nat → Int) : Dn 4 b = Fv 3 b 3 3 := rfl

/-- b with the rows t and p one for the other -/
noncomputable def sw (t p : Nat) (b : Nat → Nat → Int) : Nat → Nat → Int := fun i => b (if i = t then p else if i = p then t else i)

/-- three rows -/
noncomputable def c3 (a b c d e f g h i : Int) : Int := a * (e * i - f * h) - b * (d * i - f * g) + c * (d * h - e * g)
theorem c3_01 (a b c d e f g h i : Int) : c3 d e f a b c g h i = - c3 a b c d e f g h i := by unfold c3; grind
theorem c3_12 (a b c d e f g h i : Int) : c3 a b c g h i d e f = - c3 a b c d e f g h i := by unfold c3; grind
theorem c3_02 (a b c d e f g h i : Int) : c3 g h i d e f a b c = - c3 a b c d e f g h i := by rw [c3_12 g h i, c3_01 a b c, c3_12]; rw [Int.neg_neg]
theorem Dn3_c (b : Nat → Nat → Int) : Dn 3 b = c3 (b 0 0) (b 0 1) (b 0 2) (b 1 0) (b 1 1) (b 1 2) (b 2 0) (b 2 1) (b 2 2) := rfl
theorem Dn4_c (b : Nat → Nat → Int) : Dn 4 b = b 0 0 * c3 (b 1 1) (b 1 2) (b 1 3) (b 2 1) (b 2 2) (b 2 3) (b 3 1) (b 3 2) (b 3 3) - b 0 1 * c3 (b 1 0) (b 1 2) (b 1 3) (b 2 0) (b 2 2) (b 2 3) (b 3 0) (b 3 2) (b 3 3)
    + b 0 2 * c3 (b 1 0) (b 1 1) (b 1 3) (b 2 0) (b 2 1) (b 2 3) (b 3 0) (b 3 1) (b 3 3) - b 0 3 * c3 (b 1 0) (b 1 1) (b 1 2) (b 2 0) (b 2 1) (b 2 2) (b 3 0) (b 3 1) (b 3 2) := rfl
theorem c4_neg (a b c d x y z w : Int) : a * -x - b * -y + c * -z - d * -w = -(a * x - b * y + c * z - d * w) := by
  simp only [Int.mul_neg]; lia
theorem c4_01 (a0 a1 a2 a3 b0 b1 b2 b3 c0 c1 c2 c3' d0 d1 d2 d3 : Int) :
    b0 * c3 a1 a2 a3 c1 c2 c3' d1 d2 d3 - b1 * c3 a0 a2 a3 c0 c2 c3' d0 d2 d3 + b2 * c3 a0 a1 a3 c0 c1 c3' d0 d1 d3 - b3 * c3 a0 a1 a2 c0 c1 c2 d0 d1 d2
    = -(a0 * c3 b1 b2 b3 c1 c2 c3' d1 d2 d3 - a1 * c3 b0 b2 b3 c0 c2 c3' d0 d2 d3 + a2 * c3 b0 b1 b3 c0 c1 c3' d0 d1 d3 - a3 * c3 b0 b1 b2 c0 c1 c2 d0 d1 d2) := by
  unfold c3; grind

theorem sw_t (b : Nat → Nat → Int) (t p : Nat) : sw t p b t = b p := by unfold sw; rw [if_pos rfl]
theorem sw_p (b : Nat → Nat → Int) {t p : Nat} (h : p ≠ t) : sw t p b p = b t := by unfold sw; rw [if_neg h, if_pos rfl]
theorem sw_o (b : Nat → Nat → Int) {t p i : Nat} (h : i ≠ t) (h' : i ≠ p) : sw t p b i = b i := by unfold sw; rw [if_neg h, if_neg h']
theorem sw_3 (b : Nat → Nat → Int) {t u p : Nat} (h1 : t < u) (h2 : u < p) : sw t p b = sw u p (sw t u (sw u p b)) := by
  have e1 : u ≠ t := by lia
  have e2 : p ≠ t := by lia
  have e3 : p ≠ u := by lia
  funext i
  by_cases a : i = t
  · subst a; rw [sw_t, sw_o _ e1.symm e2.symm, sw_t, sw_t]
  · by_cases c : i = p
    · subst c; rw [sw_p _ e2, sw_p _ e3, sw_p _ e1, sw_o _ e1.symm e2.symm]
    · by_cases d : i = u
      · subst d; rw [sw_o _ a c, sw_t, sw_o _ e2 e3, sw_p _ e3]
      · rw [sw_o _ a c, sw_o _ d c, sw_o _ a d, sw_o _ d c]

theorem Dn2_01 (b : Nat → Nat → Int) : Dn 2 (sw 0 1 b) = - Dn 2 b := by
  show b 0 1 * b 1 0 - b 0 0 * b 1 1 = -(b 1 1 * b 0 0 - b 1 0 * b 0 1)
  rw [Int.mul_comm (b 0 1), Int.mul_comm (b 0 0)]; lia
theorem Dn3_01 (b : Nat → Nat → Int) : Dn 3 (sw 0 1 b) = - Dn 3 b := c3_01 ..
theorem Dn3_12 (b : Nat → Nat → Int) : Dn 3 (sw 1 2 b) = - Dn 3 b := c3_12 ..
theorem Dn4_01 (b : Nat → Nat → Int) : Dn 4 (sw 0 1 b) = - Dn 4 b := c4_01 ..
theorem Dn4_12 (b : Nat → Nat → Int) : Dn 4 (sw 1 2 b) = - Dn 4 b := by
  rw [Dn4_c b, ← c4_neg, ← c3_01, ← c3_01, ← c3_01, ← c3_01]; rfl
theorem Dn4_23 (b : Nat → Nat → Int) : Dn 4 (sw 2 3 b) = - Dn 4 b := by
  rw [Dn4_c b, ← c4_neg, ← c3_12, ← c3_12, ← c3_12, ← c3_12]; rfl

theorem swap_cases : ∀ (n : Fin 5) (p t : Fin 4), t.val < p.val → p.val < n.val → (n.val = 2 ∧ t.val = 0 ∧ p.val = 1) ∨ (n.val = 3 ∧ t.val = 0 ∧ p.val = 1) ∨ (n.val = 3 ∧ t.val = 0 ∧ p.val = 2) ∨ (n.val = 3 ∧ t.val = 1 ∧ p.val = 2) ∨ (n.val = 4 ∧ t.val = 0 ∧ p.val = 1) ∨ (n.val = 4 ∧ t.val = 0 ∧ p.val = 2) ∨ (n.val = 4 ∧ t.val = 0 ∧ p.val = 3) ∨ (n.val = 4 ∧ t.val = 1 ∧ p.val = 2) ∨ (n.val = 4 ∧ t.val = 1 ∧ p.val = 3) ∨ (n.val = 4 ∧ t.val = 2 ∧ p.val = 3) := by decide +kernel
theorem none_cases : ∀ (n : Fin 5) (t : Fin 4), t.val < n.val → ¬ t.val + 1 = n.val → (n.val = 2 ∧ t.val = 0) ∨ (n.val = 3 ∧ t.val = 0) ∨ (n.val = 4 ∧ t.val = 0) ∨ (n.val = 3 ∧ t.val = 1) ∨ (n.val = 4 ∧ t.val = 1) ∨ (n.val = 4 ∧ t.val = 2) := by decide +kernel
theorem Dn_swap {n : Nat} (hn : n ≤ 4) (b : Nat → Nat → Int) {t p : Nat} (h1 : t < p) (h2 : p < n) : Dn n (sw t p b) = - Dn n b := by
  have far : ∀ (n t u p : Nat), t < u → u < p → (∀ b, Dn n (sw t u b) = - Dn n b) → (∀ b, Dn n (sw u p b) = - Dn n b) → ∀ b, Dn n (sw t p b) = - Dn n b := fun n t u p a1 a2 e1 e2 b => by
    rw [sw_3 b a1 a2, e2, e1, e2, Int.neg_neg]
  have hc := swap_cases ⟨n, by lia⟩ ⟨p, by lia⟩ ⟨t, by lia⟩ h1 h2
  have f13 := far 4 1 2 3 (by decide) (by decide) Dn4_12 Dn4_23
  rcases hc with ⟨rfl, rfl, rfl⟩ | ⟨rfl, rfl, rfl⟩ | ⟨rfl, rfl, rfl⟩ | ⟨rfl, rfl, rfl⟩ | ⟨rfl, rfl, rfl⟩ | ⟨rfl, rfl, rfl⟩ | ⟨rfl, rfl, rfl⟩ | ⟨rfl, rfl, rfl⟩ | ⟨rfl, rfl, rfl⟩ | ⟨rfl, rfl, rfl⟩
  · exact Dn2_01 b
  · exact Dn3_01 b
  · exact far 3 0 1 2 (by decide) (by decide) Dn3_01 Dn3_12 b
  · exact Dn3_12 b
  · exact Dn4_01 b
  · exact far 4 0 1 2 (by decide) (by decide) Dn4_01 Dn4_12 b
  · exact far 4 0 1 3 (by decide) (by decide) Dn4_01 f13 b
  · exact Dn4_12 b
  · exact f13 b
  · exact Dn4_23 b

/-- rows of b below t do not count for Fv t but through their own entries -/
theorem Fv_swap (b : Nat → Nat → Int) {n t p : Nat} (hn : n ≤ 4) (h1 : t < p) (h2 : p < n) (i j : Nat) : Fv t (sw t p b) i j = Fv t b (if i = t then p else if i = p then t else i) j := by
  have hc : t = 0 ∨ t = 1 ∨ t = 2 := by lia
  have hs : ∀ k, k < t → sw t p b k = b k := fun k hk => by
    unfold sw; rw [if_neg (by lia), if_neg (by lia)]
  have hi : sw t p b i = b (if i = t then p else if i = p then t else i) := rfl
  rcases hc with rfl | rfl | rfl
  · simp only [Fv, hi]
  · simp only [Fv, hs 0 (by lia), hi]
  · simp only [Fv, hs 0 (by lia), hs 1 (by lia), hi]

theorem lap3 (b : Nat → Nat → Int) : (b 0 0 * b 0 0) * Fv 3 b 3 3 = Fv 1 b 1 1 * (Fv 1 b 2 2 * Fv 1 b 3 3 - Fv 1 b 3 2 * Fv 1 b 2 3) - Fv 1 b 2 1 * (Fv 1 b 1 2 * Fv 1 b 3 3 - Fv 1 b 3 2 * Fv 1 b 1 3) + Fv 1 b 3 1 * (Fv 1 b 1 2 * Fv 1 b 2 3 - Fv 1 b 2 2 * Fv 1 b 1 3) := by
  simp only [Fv]
  generalize b 0 0 = a00; generalize b 0 1 = a01; generalize b 0 2 = a02; generalize b 0 3 = a03
  generalize b 1 0 = a10; generalize b 1 1 = a11; generalize b 1 2 = a12; generalize b 1 3 = a13
  generalize b 2 0 = a20; generalize b 2 1 = a21; generalize b 2 2 = a22; generalize b 2 3 = a23
  generalize b 3 0 = a30; generalize b 3 1 = a31; generalize b 3 2 = a32; generalize b 3 3 = a33
  grind

theorem zero_of {x y : Int} (h : x ≠ 0) (e : x * y = 0) : y = 0 := (Int.mul_eq_zero.mp e).resolve_left h

/-- no pivot: the determinant is nought -/
theorem Dn_none {n t : Nat} (hn : n ≤ 4) (ht : t < n) (b : Nat → Nat → Int) (hb : t ≠ 0 → Fv (t - 1) b (t - 1) (t - 1) ≠ 0) (hz : ∀ i, t ≤ i → i < n → Fv t b i t = 0) : Dn n b = 0 := by
  by_cases h : t + 1 = n
  · subst h
    exact hz t (Nat.le_refl _) (by omega)
  · have hc := none_cases ⟨n, by lia⟩ ⟨t, by lia⟩ ht h
    rcases hc with ⟨rfl, rfl⟩ | ⟨rfl, rfl⟩ | ⟨rfl, rfl⟩ | ⟨rfl, rfl⟩ | ⟨rfl, rfl⟩ | ⟨rfl, rfl⟩
    · have z0 : b 0 0 = 0 := hz 0 (by lia) (by omega)
      have z1 : b 1 0 = 0 := hz 1 (by lia) (by lia)
      simp only [Dn2, Fv, z0, z1]; simp
    · have z0 : b 0 0 = 0 := hz 0 (by lia) (by omega)
      have z1 : b 1 0 = 0 := hz 1 (by lia) (by lia)
      have z2 : b 2 0 = 0 := hz 2 (by lia) (by lia)
      simp only [Dn3, Fv, z0, z1, z2]; simp
    · have z0 : b 0 0 = 0 := hz 0 (by lia) (by omega)
      have z1 : b 1 0 = 0 := hz 1 (by lia) (by lia)
      have z2 : b 2 0 = 0 := hz 2 (by lia) (by lia)
      have z3 : b 3 0 = 0 := hz 3 (by lia) (by lia)
      simp only [Dn4, Fv, z0, z1, z2, z3]; simp
    · have z1 := hz 1 (by lia) (by lia)
      have z2 := hz 2 (by lia) (by lia)
      have e := id1 b 2 2
      rw [z1, z2, Int.mul_zero, Int.zero_mul] at e
      exact zero_of (hb (by decide)) e.symm
    · have z1 := hz 1 (by lia) (by lia)
      have z2 := hz 2 (by lia) (by lia)
      have z3 := hz 3 (by lia) (by lia)
      have e := lap3 b
      rw [z1, z2, z3] at e
      simp only [Int.zero_mul] at e
      have h0 : b 0 0 ≠ 0 := hb (by decide)
      exact zero_of (Int.mul_ne_zero h0 h0) e
    · have z2 := hz 2 (by lia) (by lia)
      have z3 := hz 3 (by lia) (by lia)
      have e := id2 b 3 3
      rw [z2, z3, Int.mul_zero, Int.zero_mul] at e
      exact zero_of (hb (by decide)) e.symm

/-- the condensation of Desnanot and Jacobi -/
theorem condense {k : Nat} (h1 : 2 ≤ k) (h2 : k ≤ 4) (a : Nat → Nat → Int) : Dn k a * Dn (k - 2) (fun i j => a (i + 1) (j + 1)) = Dn (k - 1) a * Dn (k - 1) (fun i j => a (i + 1) (j + 1)) - Dn (k - 1) (fun i j => a i (j + 1)) * Dn (k - 1) (fun i j => a (i + 1) j) := by
  have hc : k = 2 ∨ k = 3 ∨ k = 4 := by lia
  rcases hc with rfl | rfl | rfl
  · show Fv 1 a 1 1 * 1 = Fv 0 a 0 0 * Fv 0 _ 0 0 - Fv 0 _ 0 0 * Fv 0 _ 0 0
    simp only [Fv]; grind
  · simp only [Nat.reduceSub, Dn1, Dn2, Dn3, Fv, Nat.zero_add, Nat.reduceAdd]
    generalize a 0 0 = a00; generalize a 0 1 = a01; generalize a 0 2 = a02
    generalize a 1 0 = a10; generalize a 1 1 = a11; generalize a 1 2 = a12
    generalize a 2 0 = a20; generalize a 2 1 = a21; generalize a 2 2 = a22
    grind
  · simp only [Nat.reduceSub, Dn2, Dn3, Dn4, Fv, Nat.zero_add, Nat.reduceAdd]
    generalize a 0 0 = a00; generalize a 0 1 = a01; generalize a 0 2 = a02; generalize a 0 3 = a03
    generalize a 1 0 = a10; generalize a 1 1 = a11; generalize a 1 2 = a12; generalize a 1 3 = a13
    generalize a 2 0 = a20; generalize a 2 1 = a21; generalize a 2 2 = a22; generalize a 2 3 = a23
    generalize a 3 0 = a30; generalize a 3 1 = a31; generalize a 3 2 = a32; generalize a 3 3 = a33
    grind
end Mine
end

section
set_option linter.unusedVariables false
set_option linter.unusedSimpArgs false
namespace Mine
structure BRep (n t : Nat) (m : Nat → Nat → Int) (s : BS) (b : Nat → Nat → Int) : Prop where
  pl : s.places.length = t
  ent : ∀ i j, t ≤ i → i < n → j < n → at2 s.rows i j = Fv t b i j
  bef0 : t = 0 → s.before = 1
  bef : t ≠ 0 → s.before = Fv (t - 1) b (t - 1) (t - 1)
  last : t ≠ 0 → at2 s.rows (t - 1) (t - 1) = s.before
  det : Dn n b = if s.odd then - Dn n m else Dn n m

theorem getD_of {α : Type} {l : List α} {i : Nat} {a d : α} (h : l[i]? = some a) : l.getD i d = a := by
  rw [List.getD_eq_getElem?_getD, h]; rfl
theorem at2_eq {m : List (List Int)} {i j : Nat} (r : List Int) (h : m[i]? = some r) : at2 m i j = r.getD j 0 := by
  unfold at2
  rw [getD_of h]

theorem clr_at {c : Nat} {b : Int} {head row : List Int} {j : Nat} (h1 : j < head.length) (h2 : j < row.length) : (clr c b head row).getD j 0 = (row.getD j 0 * head.getD c 0 - row.getD c 0 * head.getD j 0).tdiv b := by
  have g1 : head.getD j 0 = head[j] := by rw [List.getD_eq_getElem?_getD, List.getElem?_eq_getElem h1]; rfl
  have g2 : row.getD j 0 = row[j] := by rw [List.getD_eq_getElem?_getD, List.getElem?_eq_getElem h2]; rfl
  unfold clr
  have g3 : (List.zipWith (clF (head.getD c 0) (row.getD c 0) b) row head)[j]? = some (clF (head.getD c 0) (row.getD c 0) b row[j] head[j]) := by
    rw [List.getElem?_zipWith, List.getElem?_eq_getElem h1, List.getElem?_eq_getElem h2]
  rw [getD_of g3, g1, g2]; rfl

theorem tdiv_of {b x y : Int} (hb : b ≠ 0) (h : x = b * y) : x.tdiv b = y := by
  rw [h, Int.mul_comm]; exact Int.mul_tdiv_cancel _ hb

/-- one good step -/
theorem fin1_rep {n t : Nat} (hn : n ≤ 4) (ht : t < n) {m : Nat → Nat → Int} {s : BS} {b b' : Nat → Nat → Int} {rows1 : List (List Int)} {odd : Bool} (hr : BRep n t m s b) (hnz : s.before ≠ 0)
    (h1 : rows1.length = n) (h2 : ∀ r ∈ rows1, r.length = n) (hent : ∀ i j, t ≤ i → i < n → j < n → at2 rows1 i j = Fv t b' i j) (hlow : ∀ i, i < t → b' i = b i) (hdet : Dn n b' = if odd then - Dn n m else Dn n m) :
    BRep n (t + 1) m (fin1 s t rows1 odd) b' := by
  have hpl := hr.pl
  have g1 : rows1[t]? = some rows1[t] := List.getElem?_eq_getElem (by omega)
  have gd : rows1.getD t [] = rows1[t] := by rw [List.getD_eq_getElem?_getD, g1]; rfl
  have hhl : rows1[t].length = n := h2 _ (List.getElem_mem ..)
  have hhead : ∀ j, j < n → rows1[t].getD j 0 = Fv t b' t j := fun j hj => by
    rw [← at2_eq _ g1]; exact hent t j (Nat.le_refl _) ht hj
  have hbef : (fin1 s t rows1 odd).before = Fv t b' t t := by
    show (rows1.getD s.places.length []).getD t 0 = _
    rw [hpl, gd]; exact hhead t ht
  have hrows : (fin1 s t rows1 odd).rows = rows1.take (t + 1) ++ (rows1.drop (t + 1)).map (clr t s.before rows1[t]) := by
    rw [← gd]; unfold fin1; rw [hpl]
  refine ⟨?_, ?_, fun h => by lia, fun _ => hbef, fun _ => ?_, hdet⟩
  · show (s.places ++ [t]).length = _
    simp [hpl]
  · intro i j hi hin hj
    have gi : rows1[i]? = some rows1[i] := List.getElem?_eq_getElem (by omega)
    have hil : rows1[i].length = n := h2 _ (List.getElem_mem ..)
    have hrow : ∀ j, j < n → rows1[i].getD j 0 = Fv t b' i j := fun j hj => by
      rw [← at2_eq _ gi]; exact hent i j (by lia) hin hj
    have e : (fin1 s t rows1 odd).rows[i]? = some (clr t s.before rows1[t] rows1[i]) := by
      rw [hrows, List.getElem?_append_right (by rw [List.length_take]; lia), List.length_take, List.getElem?_map, List.getElem?_drop]
      rw [show t + 1 + (i - min (t + 1) rows1.length) = i by lia, gi]; rfl
    rw [at2_eq _ e, clr_at (by lia) (by lia), hrow j hj, hrow t ht, hhead j hj, hhead t ht]
    refine tdiv_of hnz ?_
    have hc : t = 0 ∨ t = 1 ∨ t = 2 := by lia
    rcases hc with rfl | rfl | rfl
    · rw [hr.bef0 rfl]; exact id0 b' i j
    · rw [hr.bef (by decide)]
      show _ = Fv 0 b 0 0 * _
      have : Fv 0 b 0 0 = Fv 0 b' 0 0 := by simp only [Fv, hlow 0 (by decide)]
      rw [this]; exact id1 b' i j
    · rw [hr.bef (by decide)]
      show _ = Fv 1 b 1 1 * _
      have : Fv 1 b 1 1 = Fv 1 b' 1 1 := by simp only [Fv, hlow 0 (by decide), hlow 1 (by decide)]
      rw [this]; exact id2 b' i j
  · have e : (fin1 s t rows1 odd).rows[t]? = some rows1[t] := by
      rw [hrows, List.getElem?_append_left (by rw [List.length_take]; lia), List.getElem?_take_of_lt (by lia)]; exact g1
    show at2 _ t t = _
    rw [at2_eq _ e, hbef]
    exact hhead t ht

theorem swp_at2 {m : List (List Int)} {t p : Nat} (ht : t < m.length) (hp : p < m.length) (hne : p ≠ t) (i j : Nat) : at2 (swp m t p) i j = at2 m (if i = t then p else if i = p then t else i) j := by
  have e1 : m.getD t [] = m[t] := by rw [List.getD_eq_getElem?_getD, List.getElem?_eq_getElem ht]; rfl
  have e2 : m.getD p [] = m[p] := by rw [List.getD_eq_getElem?_getD, List.getElem?_eq_getElem hp]; rfl
  unfold at2 swp
  congr 1
  rw [e1, e2]
  by_cases h1 : i = t
  · subst h1
    rw [if_pos rfl, e2]
    refine getD_of ?_
    rw [List.getElem?_set_ne hne, List.getElem?_set_self ht]
  · rw [if_neg h1]
    by_cases h2 : i = p
    · subst h2
      rw [if_pos rfl, e1]
      refine getD_of ?_
      rw [List.getElem?_set_self (by simpa using hp)]
    · rw [if_neg h2, List.getD_eq_getElem?_getD, List.getD_eq_getElem?_getD, List.getElem?_set_ne (Ne.symm h2), List.getElem?_set_ne (Ne.symm h1)]

theorem bstep_pl (s : BS) (c : Nat) : (bstep s c).places.length ≤ s.places.length + 1 := by
  unfold bstep
  split
  · lia
  · split <;> simp [fin1]
theorem steps_pl : ∀ (j c : Nat) (s : BS), (steps j c s).places.length ≤ s.places.length + j
  | 0, _, _ => Nat.le_refl _
  | j + 1, c, s => by
    have := steps_pl j (c + 1) (bstep s c)
    have := bstep_pl s c
    show (steps j (c + 1) (bstep s c)).places.length ≤ _
    lia

theorem bstep_rep {n t : Nat} (hn : n ≤ 4) (ht : t < n) {m : Nat → Nat → Int} {s : BS} {b : Nat → Nat → Int} (hi : Inv n s) (hr : BRep n t m s b) :
    (Dn n m = 0 ∧ bstep s t = s) ∨ ∃ b', BRep n (t + 1) m (bstep s t) b' := by
  have hl := hi.len
  have hpl := hr.pl
  unfold bstep
  rcases pivotF_spec s.rows t (s.rows.length - s.places.length) s.places.length with ⟨h1, h2⟩ | ⟨p, h1, h2, h3, h4⟩
  · left
    have hz : Dn n b = 0 := Dn_none hn ht b (fun h0 => by rw [← hr.bef h0]; exact hi.nz) (fun i h3 h4 => by
      rw [← hr.ent i t h3 h4 ht]
      exact h2 i (by lia) (by lia))
    refine ⟨?_, by rw [h1, if_pos (by decide)]⟩
    have := hr.det
    rw [hz] at this
    split at this <;> lia
  · right
    rw [h3, if_neg (by lia), Int.toNat_natCast]
    by_cases e : p = s.places.length
    · rw [if_pos e]
      exact ⟨b, fin1_rep hn ht hr hi.nz hl hi.row hr.ent (fun _ _ => rfl) hr.det⟩
    · rw [if_neg e, hpl]
      have hne : p ≠ t := by lia
      refine ⟨sw t p b, fin1_rep hn ht hr hi.nz (by rw [swp_len]; exact hl) (fun r hr' => hi.row r (swp_mem (by lia) (by lia) r hr')) (fun i j a1 a2 a3 => ?_) (fun i hi' => ?_) ?_⟩
      · rw [swp_at2 (by lia) (by lia) hne, Fv_swap (n := n) b hn (by lia) (by lia)]
        refine hr.ent _ j ?_ ?_ a3
        · split
          · lia
          · split <;> lia
        · split
          · lia
          · split <;> omega
      · unfold sw; rw [if_neg (by lia), if_neg (by lia)]
      · rw [Dn_swap hn b (by lia) (by lia), hr.det]
        cases s.odd <;> simp

theorem steps_rep {n : Nat} (hn : n ≤ 4) {m : Nat → Nat → Int} : ∀ (j t : Nat) (s : BS) (b : Nat → Nat → Int), t + j = n → Inv n s → BRep n t m s b →
    (Dn n m = 0 ∧ (steps j t s).places.length < n) ∨ ∃ b', BRep n n m (steps j t s) b'
  | 0, t, s, b, h, hi, hr => by
    have : t = n := by omega
    subst this
    exact .inr ⟨b, hr⟩
  | j + 1, t, s, b, h, hi, hr => by
    rcases bstep_rep hn (by lia) hi hr with ⟨h0, hs⟩ | ⟨b', hr'⟩
    · left
      refine ⟨h0, ?_⟩
      show (steps j (t + 1) (bstep s t)).places.length < n
      rw [hs]
      have := steps_pl j (t + 1) s
      have := hr.pl
      lia
    · exact steps_rep hn j (t + 1) (bstep s t) b' (by lia) (bstep_inv hn hi t) hr'

theorem detB_is {m : List (List Int)} (hn : m.length ≤ 4) (h : Inv m.length (start m)) : detB m = Dn m.length (at2 m) := by
  unfold detB
  by_cases h0 : m.length = 0
  · rw [if_pos h0, h0]; rfl
  · rw [if_neg h0]
    have r0 : BRep m.length 0 (at2 m) (start m) (at2 m) := ⟨rfl, fun i j _ _ _ => rfl, fun _ => rfl, fun h => absurd rfl h, fun h => absurd rfl h, rfl⟩
    rcases steps_rep hn m.length 0 (start m) _ (by lia) h r0 with ⟨e0, hl⟩ | ⟨b', hr⟩
    · rw [if_pos hl, e0]
    · have hpl := hr.pl
      rw [if_neg (by lia), hr.last h0, hr.bef h0]
      have hd := hr.det
      have e : Dn m.length b' = Fv (m.length - 1) b' (m.length - 1) (m.length - 1) := by
        obtain ⟨k, hk⟩ : ∃ k, m.length = k + 1 := ⟨m.length - 1, by lia⟩
        rw [hk]; rfl
      rw [← e, hd]
      cases (steps m.length 0 (start m)).odd <;> simp
end Mine
end

section
set_option linter.unusedVariables false
set_option linter.unusedSimpArgs false
namespace Mine
noncomputable def sumJ (f : Nat → Int) : Nat → Nat → Int
  | 0, _ => 0
  | j + 1, a => f a + sumJ f j (a + 1)
/-- the sum over all orders, from a beginning on -/
noncomputable def evo (n : Nat) : List (List Int) → List Nat → Int
  | [], _ => 1
  | r :: rs, o => sumJ (fun a => if a ∈ o then 0 else r.getD a 0 * (1 - 2 * ((aheadN o a % 2 : Nat) : Int)) * evo n rs (o ++ [a])) n 0

theorem moreF_sum (n : Nat) (r : List Int) (rs : List (List Int)) (p : List Nat × Int) : ∀ j a,
    ((moreF r p j a).map fun q => q.2 * evo n rs q.1).sum = p.2 * sumJ (fun a => if a ∈ p.1 then 0 else r.getD a 0 * (1 - 2 * ((aheadN p.1 a % 2 : Nat) : Int)) * evo n rs (p.1 ++ [a])) j a
  | 0, a => by simp [moreF, sumJ]
  | j + 1, a => by
    have ih := moreF_sum n r rs p j (a + 1)
    simp only [moreF, sumJ, List.map_append, List.sum_append]
    rw [ih, Int.mul_add]
    congr 1
    unfold more1
    by_cases h1 : a ∈ p.1
    · rw [if_neg (fun h => h.1 h1), if_pos h1]; simp
    · by_cases h2 : r.getD a 0 = 0
      · rw [if_neg (fun h => h.2 h2), if_neg h1, h2]; simp
      · rw [if_pos ⟨h1, h2⟩, if_neg h1]
        simp only [List.map_cons, List.map_nil, List.sum_cons, List.sum_nil, Int.add_zero, Int.mul_assoc]

theorem stepR_sum (n : Nat) (r : List Int) (rs : List (List Int)) : ∀ st : List (List Nat × Int),
    ((stepR n r st).map fun q => q.2 * evo n rs q.1).sum = (st.map fun p => p.2 * evo n (r :: rs) p.1).sum
  | [] => rfl
  | p :: st => by
    have ih := stepR_sum n r rs st
    have e : stepR n r (p :: st) = moreF r p n 0 ++ stepR n r st := by simp [stepR, List.flatMap_cons]
    rw [e, List.map_append, List.sum_append, ih, moreF_sum n r rs p n 0, List.map_cons, List.sum_cons]
    rfl

theorem fold_sum (n : Nat) : ∀ (rs : List (List Int)) (st : List (List Nat × Int)), ((rs.foldl (fun st row => stepR n row st) st).map (·.2)).sum = (st.map fun p => p.2 * evo n rs p.1).sum
  | [], st => by simp [evo]
  | r :: rs, st => by
    rw [List.foldl_cons, fold_sum n rs, stepR_sum]

theorem leib_evo (m : List (List Int)) : leib m = evo m.length m [] := by
  unfold leib
  rw [fold_sum]
  simp

theorem evo1 (r0 : List Int) : evo 1 [r0] [] = r0.getD 0 0 * 1 * (1) + (0) := rfl
theorem evo2 (r0 r1 : List Int) : evo 2 [r0, r1] [] = r0.getD 0 0 * 1 * (0 + (r1.getD 1 0 * 1 * (1) + (0))) + (r0.getD 1 0 * 1 * (r1.getD 0 0 * (-1) * (1) + (0 + (0))) + (0)) := rfl
theorem evo3 (r0 r1 r2 : List Int) : evo 3 [r0, r1, r2] [] = r0.getD 0 0 * 1 * (0 + (r1.getD 1 0 * 1 * (0 + (0 + (r2.getD 2 0 * 1 * (1) + (0)))) + (r1.getD 2 0 * 1 * (0 + (r2.getD 1 0 * (-1) * (1) + (0 + (0)))) + (0)))) + (r0.getD 1 0 * 1 * (r1.getD 0 0 * (-1) * (0 + (0 + (r2.getD 2 0 * 1 * (1) + (0)))) + (0 + (r1.getD 2 0 * 1 * (r2.getD 0 0 * 1 * (1) + (0 + (0 + (0)))) + (0)))) + (r0.getD 2 0 * 1 * (r1.getD 0 0 * (-1) * (0 + (r2.getD 1 0 * (-1) * (1) + (0 + (0)))) + (r1.getD 1 0 * (-1) * (r2.getD 0 0 * 1 * (1) + (0 + (0 + (0)))) + (0 + (0)))) + (0))) := rfl
theorem evo4 (r0 r1 r2 r3 : List Int) : evo 4 [r0, r1, r2, r3] [] = r0.getD 0 0 * 1 * (0 + (r1.getD 1 0 * 1 * (0 + (0 + (r2.getD 2 0 * 1 * (0 + (0 + (0 + (r3.getD 3 0 * 1 * (1) + (0))))) + (r2.getD 3 0 * 1 * (0 + (0 + (r3.getD 2 0 * (-1) * (1) + (0 + (0))))) + (0))))) + (r1.getD 2 0 * 1 * (0 + (r2.getD 1 0 * (-1) * (0 + (0 + (0 + (r3.getD 3 0 * 1 * (1) + (0))))) + (0 + (r2.getD 3 0 * 1 * (0 + (r3.getD 1 0 * 1 * (1) + (0 + (0 + (0))))) + (0))))) + (r1.getD 3 0 * 1 * (0 + (r2.getD 1 0 * (-1) * (0 + (0 + (r3.getD 2 0 * (-1) * (1) + (0 + (0))))) + (r2.getD 2 0 * (-1) * (0 + (r3.getD 1 0 * 1 * (1) + (0 + (0 + (0))))) + (0 + (0))))) + (0))))) + (r0.getD 1 0 * 1 * (r1.getD 0 0 * (-1) * (0 + (0 + (r2.getD 2 0 * 1 * (0 + (0 + (0 + (r3.getD 3 0 * 1 * (1) + (0))))) + (r2.getD 3 0 * 1 * (0 + (0 + (r3.getD 2 0 * (-1) * (1) + (0 + (0))))) + (0))))) + (0 + (r1.getD 2 0 * 1 * (r2.getD 0 0 * 1 * (0 + (0 + (0 + (r3.getD 3 0 * 1 * (1) + (0))))) + (0 + (0 + (r2.getD 3 0 * 1 * (r3.getD 0 0 * (-1) * (1) + (0 + (0 + (0 + (0))))) + (0))))) + (r1.getD 3 0 * 1 * (r2.getD 0 0 * 1 * (0 + (0 + (r3.getD 2 0 * (-1) * (1) + (0 + (0))))) + (0 + (r2.getD 2 0 * (-1) * (r3.getD 0 0 * (-1) * (1) + (0 + (0 + (0 + (0))))) + (0 + (0))))) + (0))))) + (r0.getD 2 0 * 1 * (r1.getD 0 0 * (-1) * (0 + (r2.getD 1 0 * (-1) * (0 + (0 + (0 + (r3.getD 3 0 * 1 * (1) + (0))))) + (0 + (r2.getD 3 0 * 1 * (0 + (r3.getD 1 0 * 1 * (1) + (0 + (0 + (0))))) + (0))))) + (r1.getD 1 0 * (-1) * (r2.getD 0 0 * 1 * (0 + (0 + (0 + (r3.getD 3 0 * 1 * (1) + (0))))) + (0 + (0 + (r2.getD 3 0 * 1 * (r3.getD 0 0 * (-1) * (1) + (0 + (0 + (0 + (0))))) + (0))))) + (0 + (r1.getD 3 0 * 1 * (r2.getD 0 0 * 1 * (0 + (r3.getD 1 0 * 1 * (1) + (0 + (0 + (0))))) + (r2.getD 1 0 * 1 * (r3.getD 0 0 * (-1) * (1) + (0 + (0 + (0 + (0))))) + (0 + (0 + (0))))) + (0))))) + (r0.getD 3 0 * 1 * (r1.getD 0 0 * (-1) * (0 + (r2.getD 1 0 * (-1) * (0 + (0 + (r3.getD 2 0 * (-1) * (1) + (0 + (0))))) + (r2.getD 2 0 * (-1) * (0 + (r3.getD 1 0 * 1 * (1) + (0 + (0 + (0))))) + (0 + (0))))) + (r1.getD 1 0 * (-1) * (r2.getD 0 0 * 1 * (0 + (0 + (r3.getD 2 0 * (-1) * (1) + (0 + (0))))) + (0 + (r2.getD 2 0 * (-1) * (r3.getD 0 0 * (-1) * (1) + (0 + (0 + (0 + (0))))) + (0 + (0))))) + (r1.getD 2 0 * (-1) * (r2.getD 0 0 * 1 * (0 + (r3.getD 1 0 * 1 * (1) + (0 + (0 + (0))))) + (r2.getD 1 0 * 1 * (r3.getD 0 0 * (-1) * (1) + (0 + (0 + (0 + (0))))) + (0 + (0 + (0))))) + (0 + (0))))) + (0)))) := rfl
theorem leib_is {m : List (List Int)} (hn : m.length ≤ 4) : leib m = Dn m.length (at2 m) := by
  rw [leib_evo]
  match m, hn with
  | [], _ => rfl
  | [r0], _ =>
    refine (evo1 r0).trans ?_
    show _ = Dn 1 (fun i j => ([r0].getD i []).getD j 0)
    simp only [Dn1, Dn2, Dn3, Dn4, Fv, List.getD_cons_zero, List.getD_cons_succ]
    generalize r0.getD 0 0 = a00
    grind
  | [r0, r1], _ =>
    refine (evo2 r0 r1).trans ?_
    show _ = Dn 2 (fun i j => ([r0, r1].getD i []).getD j 0)
    simp only [Dn1, Dn2, Dn3, Dn4, Fv, List.getD_cons_zero, List.getD_cons_succ]
    generalize r0.getD 0 0 = a00; generalize r0.getD 1 0 = a01
    generalize r1.getD 0 0 = a10; generalize r1.getD 1 0 = a11
    grind
  | [r0, r1, r2], _ =>
    refine (evo3 r0 r1 r2).trans ?_
    show _ = Dn 3 (fun i j => ([r0, r1, r2].getD i []).getD j 0)
    simp only [Dn1, Dn2, Dn3, Dn4, Fv, List.getD_cons_zero, List.getD_cons_succ]
    generalize r0.getD 0 0 = a00; generalize r0.getD 1 0 = a01; generalize r0.getD 2 0 = a02
    generalize r1.getD 0 0 = a10; generalize r1.getD 1 0 = a11; generalize r1.getD 2 0 = a12
    generalize r2.getD 0 0 = a20; generalize r2.getD 1 0 = a21; generalize r2.getD 2 0 = a22
    grind
  | [r0, r1, r2, r3], _ =>
    refine (evo4 r0 r1 r2 r3).trans ?_
    show _ = Dn 4 (fun i j => ([r0, r1, r2, r3].getD i []).getD j 0)
    simp only [Dn1, Dn2, Dn3, Dn4, Fv, List.getD_cons_zero, List.getD_cons_succ]
    generalize r0.getD 0 0 = a00; generalize r0.getD 1 0 = a01; generalize r0.getD 2 0 = a02; generalize r0.getD 3 0 = a03
    generalize r1.getD 0 0 = a10; generalize r1.getD 1 0 = a11; generalize r1.getD 2 0 = a12; generalize r1.getD 3 0 = a13
    generalize r2.getD 0 0 = a20; generalize r2.getD 1 0 = a21; generalize r2.getD 2 0 = a22; generalize r2.getD 3 0 = a23
    generalize r3.getD 0 0 = a30; generalize r3.getD 1 0 = a31; generalize r3.getD 2 0 = a32; generalize r3.getD 3 0 = a33
    grind
  | _ :: _ :: _ :: _ :: _ :: _, h => simp at h
end Mine
end

section
set_option linter.unusedVariables false
set_option linter.unusedSimpArgs false
namespace Mine
-- cuts
theorem clip_min (n i : Nat) : clip n (i : Int) = min i n := by
  unfold clip
  rw [if_neg (by lia)]
  omega
theorem cut_first (xs : List D) (e : Nat) : cut xs none (some (e : Int)) = xs.take e := by
  unfold cut
  simp only [Option.elim_none, Option.elim_some, clip_min, List.drop_zero, Nat.sub_zero]
  rcases Nat.le_total e xs.length with h | h
  · rw [Nat.min_eq_left h]
  · rw [Nat.min_eq_right h, List.take_length, List.take_of_length_le h]
theorem cut_nat (xs : List D) (lo k : Nat) (h : lo + k ≤ xs.length) : cut xs (some (lo : Int)) (some ((lo + k : Nat) : Int)) = (xs.drop lo).take k := by
  unfold cut
  simp only [Option.elim_some, clip_min]
  rw [Nat.min_eq_left (by omega), Nat.min_eq_left (by lia), Nat.add_sub_cancel_left]

/-- a block of neighbouring rows and columns -/
noncomputable def blk (m : List (List Int)) (k t l : Nat) : List (List Int) := ((m.drop t).take k).map fun r => (r.drop l).take k
noncomputable def DD (a : Nat → Nat → Int) (k t l : Nat) : Int := Dn k fun i j => a (t + i) (l + j)

theorem Fv_congr {b b' : Nat → Nat → Int} : ∀ {t : Nat} {i j : Nat}, t ≤ 3 → (∀ x y, (x < t ∨ x = i) → (y < t ∨ y = j) → b x y = b' x y) → Fv t b i j = Fv t b' i j
  | 0, i, j, _, h => h i j (.inr rfl) (.inr rfl)
  | 1, i, j, _, h => by
    simp only [Fv, h i j (.inr rfl) (.inr rfl), h 0 0 (.inl (by decide)) (.inl (by decide)), h i 0 (.inr rfl) (.inl (by decide)), h 0 j (.inl (by decide)) (.inr rfl)]
  | 2, i, j, _, h => by
    simp only [Fv, h i j (.inr rfl) (.inr rfl), h 0 0 (.inl (by decide)) (.inl (by decide)), h 0 1 (.inl (by decide)) (.inl (by decide)), h 1 0 (.inl (by decide)) (.inl (by decide)), h 1 1 (.inl (by decide)) (.inl (by decide)), h i 0 (.inr rfl) (.inl (by decide)), h i 1 (.inr rfl) (.inl (by decide)), h 0 j (.inl (by decide)) (.inr rfl), h 1 j (.inl (by decide)) (.inr rfl)]
  | 3, i, j, _, h => by
    simp only [Fv, h i j (.inr rfl) (.inr rfl), h 0 0 (.inl (by decide)) (.inl (by decide)), h 0 1 (.inl (by decide)) (.inl (by decide)), h 0 2 (.inl (by decide)) (.inl (by decide)), h 1 0 (.inl (by decide)) (.inl (by decide)), h 1 1 (.inl (by decide)) (.inl (by decide)), h 1 2 (.inl (by decide)) (.inl (by decide)), h 2 0 (.inl (by decide)) (.inl (by decide)), h 2 1 (.inl (by decide)) (.inl (by decide)), h 2 2 (.inl (by decide)) (.inl (by decide)), h i 0 (.inr rfl) (.inl (by decide)), h i 1 (.inr rfl) (.inl (by decide)), h i 2 (.inr rfl) (.inl (by decide)), h 0 j (.inl (by decide)) (.inr rfl), h 1 j (.inl (by decide)) (.inr rfl), h 2 j (.inl (by decide)) (.inr rfl)]
  | _ + 4, i, j, h0, h => by lia
theorem Dn_congr {b b' : Nat → Nat → Int} : ∀ {n : Nat}, n ≤ 4 → (∀ x y, x < n → y < n → b x y = b' x y) → Dn n b = Dn n b'
  | 0, _, _ => rfl
  | n + 1, hn, h => Fv_congr (by lia) fun x y hx hy => h x y (by lia) (by lia)

theorem blk_len {m : List (List Int)} {k t l : Nat} (h : k + t ≤ m.length) : (blk m k t l).length = k := by
  unfold blk; simp; lia
theorem blk_row {m : List (List Int)} {n k t l : Nat} (hm : ∀ r ∈ m, r.length = n) (h : k + l ≤ n) : ∀ r ∈ blk m k t l, r.length = k := by
  intro r hr
  obtain ⟨q, hq, rfl⟩ := List.mem_map.mp hr
  have := hm q (List.mem_of_mem_drop (List.mem_of_mem_take hq))
  simp; lia
theorem blk_bd {m : List (List Int)} {B k t l : Nat} (hm : ∀ r ∈ m, ∀ z ∈ r, z.natAbs ≤ B) : ∀ r ∈ blk m k t l, ∀ z ∈ r, z.natAbs ≤ B := by
  intro r hr z hz
  obtain ⟨q, hq, rfl⟩ := List.mem_map.mp hr
  exact hm q (List.mem_of_mem_drop (List.mem_of_mem_take hq)) z (List.mem_of_mem_drop (List.mem_of_mem_take hz))
theorem blk_at {m : List (List Int)} {n k t l : Nat} (hl : m.length = n) (hm : ∀ r ∈ m, r.length = n) (h1 : k + t ≤ n) (h2 : k + l ≤ n) {i j : Nat} (hi : i < k) (hj : j < k) : at2 (blk m k t l) i j = at2 m (t + i) (l + j) := by
  have g : m[t + i]? = some m[t + i] := List.getElem?_eq_getElem (by omega)
  have g2 : (blk m k t l)[i]? = some ((m[t + i].drop l).take k) := by
    unfold blk
    rw [List.getElem?_map, List.getElem?_take_of_lt hi, List.getElem?_drop, g]; rfl
  have hr : m[t + i].length = n := hm _ (List.getElem_mem ..)
  rw [at2_eq _ g2, at2_eq _ g, List.getD_eq_getElem?_getD, List.getD_eq_getElem?_getD, List.getElem?_take_of_lt hj, List.getElem?_drop]
theorem blk_Dn {m : List (List Int)} {n k t l : Nat} (hk : k ≤ 4) (hl : m.length = n) (hm : ∀ r ∈ m, r.length = n) (h1 : k + t ≤ n) (h2 : k + l ≤ n) : Dn k (at2 (blk m k t l)) = DD (at2 m) k t l :=
  Dn_congr hk fun x y hx hy => blk_at hl hm h1 h2 hx hy

theorem blk_inv {m : List (List Int)} {n k t l : Nat} (hl : m.length = n) (hm : ∀ r ∈ m, r.length = n) (hb : ∀ r ∈ m, ∀ z ∈ r, z.natAbs ≤ 3) (h1 : k + t ≤ n) (h2 : k + l ≤ n) : Inv (blk m k t l).length (start (blk m k t l)) := by
  have e := blk_len (l := l) (m := m) (k := k) (t := t) (by lia)
  rw [e]
  exact ⟨e, blk_row hm h2, blk_bd hb, by show (1 : Int) ≠ 0; decide, fun _ => by show (1 : Int).natAbs ≤ 1; decide, Nat.zero_le _⟩

theorem lim_le (t : Nat) : lim t ≤ 839808 := by
  unfold lim; split <;> decide
theorem detB_bd {m : List (List Int)} (hn : m.length ≤ 4) (h : Inv m.length (start m)) : (detB m).natAbs ≤ 839808 := by
  have hi := steps_inv hn m.length 0 h
  have hb := fun i j => Nat.le_trans (getD_bd (getD_bd2 hi.bd i) j) (lim_le _)
  unfold detB
  split
  · decide
  · split
    · decide
    · split
      · rw [Int.natAbs_neg]; exact hb _ _
      · exact hb _ _

theorem DD_bd {m : List (List Int)} {n k t l : Nat} (hn : n ≤ 4) (hl : m.length = n) (hm : ∀ r ∈ m, r.length = n) (hb : ∀ r ∈ m, ∀ z ∈ r, z.natAbs ≤ 3) (h1 : k + t ≤ n) (h2 : k + l ≤ n) : (DD (at2 m) k t l).natAbs ≤ 839808 := by
  have hi := blk_inv hl hm hb h1 h2
  have e := blk_len (l := l) (m := m) (k := k) (t := t) (by lia)
  have h := detB_bd (by lia) hi
  rw [detB_is (by lia) hi, e, blk_Dn (by lia) hl hm h1 h2] at h
  exact h

theorem DD_bd2 {m : List (List Int)} {k t l : Nat} (hk : k ≤ 2) (hb : ∀ r ∈ m, ∀ z ∈ r, z.natAbs ≤ 3) : (DD (at2 m) k t l).natAbs ≤ 18 := by
  have ha : ∀ i j, (at2 m i j).natAbs ≤ 3 := fun i j => getD_bd (getD_bd2 hb i) j
  have hm : ∀ i j i' j', (at2 m i j * at2 m i' j').natAbs ≤ 3 * 3 := fun i j i' j' => by
    rw [Int.natAbs_mul]; exact Nat.mul_le_mul (ha _ _) (ha _ _)
  have hc : k = 0 ∨ k = 1 ∨ k = 2 := by lia
  unfold DD
  rcases hc with rfl | rfl | rfl
  · show (1 : Int).natAbs ≤ 18
    decide
  · rw [Dn1]; exact Nat.le_trans (ha _ _) (by decide)
  · rw [Dn2]
    simp only [Fv]
    have a1 := hm (t + 1) (l + 1) (t + 0) (l + 0)
    have a2 := hm (t + 1) (l + 0) (t + 0) (l + 1)
    omega

theorem DD_cond (a : Nat → Nat → Int) {k : Nat} (t l : Nat) (h1 : 2 ≤ k) (h2 : k ≤ 4) : DD a k t l * DD a (k - 2) (t + 1) (l + 1) = DD a (k - 1) t l * DD a (k - 1) (t + 1) (l + 1) - DD a (k - 1) t (l + 1) * DD a (k - 1) (t + 1) l := by
  have := condense h1 h2 fun i j => a (t + i) (l + j)
  have e : ∀ x i : Nat, x + (i + 1) = x + 1 + i := by lia
  have e1 : (fun i j => a (t + (i + 1)) (l + (j + 1))) = fun i j => a (t + 1 + i) (l + 1 + j) := by
    funext i j; rw [e t, e l]
  have e2 : (fun i j => a (t + i) (l + (j + 1))) = fun i j => a (t + i) (l + 1 + j) := by
    funext i j; rw [e l]
  have e3 : (fun i j => a (t + (i + 1)) (l + j)) = fun i j => a (t + 1 + i) (l + j) := by
    funext i j; rw [e t]
  rw [e1, e2, e3] at this
  exact this

-- the dict
theorem look_put (kv : List (List Int × D)) (ks ks' : List Int) (d : D) : (dictPut kv ks d).lookup ks' = if ks' = ks then some d else kv.lookup ks' := by
  induction kv with
  | nil =>
    simp only [dictPut, List.lookup]
    by_cases h : ks' = ks
    · subst h; simp
    · rw [if_neg h]
      have : (ks' == ks) = false := by simpa using h
      rw [this]
  | cons p kv ih =>
    obtain ⟨k, v⟩ := p
    simp only [dictPut]
    by_cases h0 : ks = k
    · rw [if_pos h0]
      subst h0
      simp only [List.lookup]
      by_cases h : ks' = ks
      · subst h; simp
      · have : (ks' == ks) = false := by simpa using h
        rw [this, if_neg h]
    · rw [if_neg h0]
      simp only [List.lookup]
      rw [ih]
      by_cases h : ks' = k
      · subst h
        simp; exact fun e => absurd e.symm h0
      · have : (ks' == k) = false := by simpa using h
        rw [this]
theorem len_put (kv : List (List Int × D)) (ks : List Int) (d : D) : (dictPut kv ks d).length ≤ kv.length + 1 := by
  induction kv with
  | nil => simp [dictPut]
  | cons p kv ih =>
    obtain ⟨k, v⟩ := p
    simp only [dictPut]
    split
    · simp
    · simp only [List.length_cons]; lia

/-- what is told so far: all before (many, top, left) -/
noncomputable def Good (n : Nat) (a : Nat → Nat → Int) (w : Nat) (kv : List (List Int × D)) (many top left : Nat) : Prop :=
  ∀ k t l : Nat, k + t ≤ n → k + l ≤ n → (k < many ∨ (k = many ∧ (t < top ∨ (t = top ∧ l < left)))) → kv.lookup [(k : Int), (t : Int), (l : Int)] = some (sgn w (DD a k t l))

theorem Good.put {n : Nat} {a : Nat → Nat → Int} {w : Nat} {kv : List (List Int × D)} {many top left : Nat} (h : Good n a w kv many top left) : Good n a w (dictPut kv [(many : Int), (top : Int), (left : Int)] (sgn w (DD a many top left))) many top (left + 1) := by
  intro k t l h1 h2 h3
  rw [look_put]
  by_cases e : k = many ∧ t = top ∧ l = left
  · obtain ⟨rfl, rfl, rfl⟩ := e
    rw [if_pos rfl]
  · rw [if_neg (fun hh => by
      simp only [List.cons.injEq, and_true] at hh
      lia)]
    exact h k t l h1 h2 (by lia)

theorem alike_sgn (k w : Nat) (x y : Int) : Alike (k + 2) (sgn w x) (sgn w y) := by
  have e : ∀ l : List Nat, L l = .lst ((l.map fun n : Nat => (n : Int)).map .int) := fun l => by
    unfold L iz; rw [List.map_map]; rfl
  unfold sgn
  rw [e, e]
  exact .tup2 (.bool _ _ _) (.lst _ _ _)
theorem ne_same {d : D} (ha : Alike 8 d d) {Q : Bool → Prop} (h : Q false) : evNe (.val d) (.val d) Q := by
  refine ⟨ha, fun v hv => ?_⟩
  cases v with
  | false => exact h
  | true => exact absurd rfl (hv.mp rfl)
end Mine
end

section
set_option linter.unusedVariables false
set_option linter.unusedSimpArgs false
namespace Mine
theorem comp_abs (cs : List Cell) (Q : List D → MS → Prop) : ∀ (ns : List Int) (acc : List D) (x : Option RV),
    (∀ x, Q (acc ++ iz (ns.map Int.natAbs)) ⟨[x], cs⟩) →
    compGo (bind1 0) tTrue (tFrz 0 (tAbs (tIntOf (tVar 0)))) (ns.map D.int) acc ⟨[x], cs⟩ Q
  | [], acc, x, hQ => by
    have := hQ x
    simpa [x_comp0] using this
  | z :: ns, acc, x, hQ => by
    rw [List.map_cons, x_comp1]
    simp only [x_bind1, x_set, Option.some.injEq, exists_eq_left', List.set_cons_zero, x_true, if_true, x_frz, x_frzV, x_frzP, x_abs, x_intof, x_var, List.getElem?_cons_zero]
    refine comp_abs cs Q ns _ _ fun x => ?_
    have := hQ x
    have e : acc ++ iz (List.map Int.natAbs (z :: ns)) = acc ++ [D.int z.natAbs] ++ iz (List.map Int.natAbs ns) := by simp
    rw [e] at this
    exact this

theorem comp_draw {ring : List Nat} (hl : ring.length ≤ 100) (Q : List D → MS → Prop) : ∀ (j c k : Nat) (F : List Int) (x : Option RV), (∀ z ∈ F, z.natAbs ≤ 3) →
    (∀ (k : Nat) (G : List Int) (x : Option RV), G.length = F.length + j → (∀ z ∈ G, z.natAbs ≤ 3) → Q (G.map D.int) ⟨[x, some (.ptr 0)], [.lst [.int (k : Nat), L ring]]⟩) →
    compGo (bind1 0) tTrue (tFrz 0 (tBin .sub (tCallM K_law_condensed 1 [(tFrz 0 (tC (.int 7)))]) (tC (.int 3)))) (dInts (c : Int) 1 j) (F.map D.int) ⟨[x, some (.ptr 0)], [.lst [.int (k : Nat), L ring]]⟩ Q
  | 0, c, k, F, x, hF, hQ => by
    have := hQ k F x (by lia) hF
    simpa [x_comp0, dInts_zero] using this
  | j + 1, c, k, F, x, hF, hQ => by
    have e6 : (c : Int) + 1 = ((c + 1 : Nat) : Int) := by lia
    have hd := draw_lt (ring := ring) (many := 7) (k := k) (by decide)
    have hk := run_law_condensed (ring := ring) (many := 7) (k := k) (by decide) hl
    rw [dInts_succ, x_comp1]
    simp only [x_bind1, x_set, Option.some.injEq, exists_eq_left', List.set_cons_zero, x_true, if_true, x_frz, x_frzV, x_frzP, x_bin, x_callM, x_args1, x_args0, x_c, List.getElem?_cons_zero, List.getElem?_cons_succ]
    refine ⟨_, _, hk, ?_⟩
    simp only [x_frzV, x_frzP, x_setC, List.set_cons_zero, x_evBin, e6]
    refine ⟨trivial, ?_⟩
    have := comp_draw hl Q j (c + 1) (k + 1) (F ++ [Op.ev .sub ((draw ring 7 k : Nat) : Int) 3]) (some (.val (.int (c : Nat)))) (fun z hz => by
      rcases List.mem_append.mp hz with hz | hz
      · exact hF z hz
      · rw [List.mem_singleton.mp hz]; simp only [Op.ev]; lia) (fun k G x hG hG2 => hQ k G x (by rw [hG]; simp; lia) hG2)
    rw [List.map_append] at this
    exact this

theorem comp_plain {ring : List Nat} {n : Nat} (hl : ring.length ≤ 100) (hn : n ≤ 100) (Q : List D → MS → Prop) : ∀ (j c k : Nat) (M : List (List Int)) (x : Option RV), (∀ r ∈ M, r.length = n ∧ ∀ z ∈ r, z.natAbs ≤ 3) →
    (∀ (k : Nat) (G : List (List Int)) (x : Option RV), G.length = M.length + j → (∀ r ∈ G, r.length = n ∧ ∀ z ∈ r, z.natAbs ≤ 3) → Q (G.map rwI) ⟨[x, some (.ptr 0), some (.val (.int (n : Nat)))], [.lst [.int (k : Nat), L ring]]⟩) →
    compGo (bind1 0) tTrue (tFrz 0 (tCompV (tRange1 (tVar 2)) 1 [1] (bind1 0) tTrue (tFrz 0 (tBin .sub (tCallM K_law_condensed 1 [(tFrz 0 (tC (.int 7)))]) (tC (.int 3)))))) (dInts (c : Int) 1 j) (M.map rwI) ⟨[x, some (.ptr 0), some (.val (.int (n : Nat)))], [.lst [.int (k : Nat), L ring]]⟩ Q
  | 0, c, k, M, x, hM, hQ => by
    have := hQ k M x (by lia) hM
    simpa [x_comp0, dInts_zero] using this
  | j + 1, c, k, M, x, hM, hQ => by
    have L0 : LIM = 1048576 := rfl
    have e6 : (c : Int) + 1 = ((c + 1 : Nat) : Int) := by lia
    have s1 : Small (n : Int) := by unfold Small; lia
    have s2 : (n : Int) ≤ (LIM : Nat) := by lia
    rw [dInts_succ, x_comp1]
    simp only [x_bind1, x_set, Option.some.injEq, exists_eq_left', List.set_cons_zero, x_true, if_true, x_frz, x_frzV, x_frzP, x_compV, x_range1, x_var, List.getElem?_cons_zero, List.getElem?_cons_succ, s1, s2, true_and, Int.toNat_natCast]
    refine comp_draw hl _ n 0 k [] none (fun z hz => by cases hz) fun k G x hG hG2 => ?_
    simp only [List.length_cons, List.length_nil, List.take_succ_cons, List.take_nil, e6]
    have := comp_plain hl hn Q j (c + 1) k (M ++ [G]) (some (.val (.int (c : Nat)))) (fun r hr => by
      rcases List.mem_append.mp hr with hr | hr
      · exact hM r hr
      · rw [List.mem_singleton.mp hr]; exact ⟨by simpa using hG, hG2⟩) (fun k G x hG hG2 => hQ k G x (by rw [hG]; simp; lia) hG2)
    rw [List.map_append] at this
    exact this

theorem comp_sgn {w : Nat} (hw : 1 ≤ w) (hw2 : w ≤ 8) (cs : List Cell) (Q : List D → MS → Prop) : ∀ (r : List Int) (acc : List D) (x : Option RV), (∀ z ∈ r, z.natAbs ≤ 3) →
    (∀ x, Q (acc ++ r.map (sgn w)) ⟨[x, some (.val (.int (w : Nat)))], cs⟩) →
    compGo (bind1 0) tTrue (tFrz 0 (tCall K_law_signed [(tFrz 0 (tVar 0)), (tFrz 0 (tVar 1))])) (r.map D.int) acc ⟨[x, some (.val (.int (w : Nat)))], cs⟩ Q
  | [], acc, x, hr, hQ => by
    have := hQ x
    simpa [x_comp0] using this
  | z :: r, acc, x, hr, hQ => by
    have hz := hr z List.mem_cons_self
    rw [List.map_cons, x_comp1]
    simp only [x_bind1, x_set, Option.some.injEq, exists_eq_left', List.set_cons_zero, x_true, if_true, x_frz, x_frzV, x_frzP, x_call, x_args1, x_args0, x_var, List.getElem?_cons_zero, List.getElem?_cons_succ]
    refine ⟨_, run_law_signed hw hw2 (by lia), ?_⟩
    refine comp_sgn hw hw2 cs Q r _ _ (fun y hy => hr y (List.mem_cons_of_mem _ hy)) fun x => ?_
    have := hQ x
    rw [List.map_cons, List.append_cons] at this
    exact this

theorem comp_sgns {w : Nat} (hw : 1 ≤ w) (hw2 : w ≤ 8) (cs : List Cell) (Q : List D → MS → Prop) : ∀ (m : List (List Int)) (acc : List D) (x : Option RV), (∀ r ∈ m, ∀ z ∈ r, z.natAbs ≤ 3) →
    (∀ x, Q (acc ++ m.map (rw w)) ⟨[x, some (.val (.int (w : Nat)))], cs⟩) →
    compGo (bind1 0) tTrue (tFrz 0 (tCompV (tItems (tFrz 0 (tVar 0))) 1 [1] (bind1 0) tTrue (tFrz 0 (tCall K_law_signed [(tFrz 0 (tVar 0)), (tFrz 0 (tVar 1))])))) (m.map rwI) acc ⟨[x, some (.val (.int (w : Nat)))], cs⟩ Q
  | [], acc, x, hr, hQ => by
    have := hQ x
    simpa [x_comp0] using this
  | r :: m, acc, x, hr, hQ => by
    rw [List.map_cons, x_comp1]
    simp only [x_bind1, x_set, Option.some.injEq, exists_eq_left', List.set_cons_zero, x_true, if_true, x_frz, x_frzV, x_frzP, x_compV, x_items, x_var, List.getElem?_cons_zero, List.getElem?_cons_succ]
    refine comp_sgn hw hw2 cs _ r [] none (hr r List.mem_cons_self) fun y => ?_
    simp only [List.nil_append, List.take_length]
    refine comp_sgns hw hw2 cs Q m _ _ (fun y hy => hr y (List.mem_cons_of_mem _ hy)) fun x => ?_
    have := hQ x
    rw [List.map_cons, List.append_cons] at this
    exact this

theorem comp_cut (h : Int → D) {left many n : Nat} (hlm : left + many ≤ n) (cs : List Cell) (Q : List D → MS → Prop) : ∀ (m : List (List Int)) (acc : List D) (x : Option RV), (∀ r ∈ m, r.length = n) →
    (∀ x, Q (acc ++ (m.map fun r => (r.drop left).take many).map fun r => D.lst (r.map h)) ⟨[x, some (.val (.int (left : Nat))), some (.val (.int (many : Nat)))], cs⟩) →
    compGo (bind1 0) tTrue (tFrz 0 (tCut (tVar 0) (some (tVar 1)) (some (tBin .add (tVar 1) (tVar 2))))) (m.map fun r => D.lst (r.map h)) acc ⟨[x, some (.val (.int (left : Nat))), some (.val (.int (many : Nat)))], cs⟩ Q
  | [], acc, x, hr, hQ => by
    have := hQ x
    simpa [x_comp0] using this
  | r :: m, acc, x, hr, hQ => by
    have hrl := hr r List.mem_cons_self
    have ok : Op.ok .add (left : Int) (many : Int) := trivial
    have ea : Op.ev .add (left : Int) (many : Int) = ((left + many : Nat) : Int) := by simp only [Op.ev]; lia
    rw [List.map_cons, x_comp1]
    simp only [x_bind1, x_set, Option.some.injEq, exists_eq_left', List.set_cons_zero, x_true, if_true, x_frz, x_frzV, x_frzP, x_cut, x_opt1, x_bin, x_var, List.getElem?_cons_zero, List.getElem?_cons_succ, x_evBin, ok, ea, true_and, x_lookV]
    rw [cut_nat _ _ _ (by rw [List.length_map]; lia), ← List.map_drop, ← List.map_take]
    refine comp_cut h hlm cs Q m _ _ (fun y hy => hr y (List.mem_cons_of_mem _ hy)) fun x => ?_
    have := hQ x
    rw [List.map_cons, List.map_cons, List.append_cons] at this
    exact this
end Mine
end

section
set_option linter.unusedVariables false
set_option linter.unusedSimpArgs false
namespace Mine
theorem get_ok {fr : List (Option RV)} {c0 : Cell} {kv : List (List Int × D)} {Q : RV → MS → Prop} {es : List (T D)} {x y z : Int} {d : D} (h6 : fr[6]? = some (some (.ptr 1)))
    (hes : ∀ P : List D → MS → Prop, P [.int x, .int y, .int z] ⟨fr, [c0, .dict kv]⟩ → tArgs es ⟨fr, [c0, .dict kv]⟩ P) (hl : kv.lookup [x, y, z] = some d) (hQ : Q (.val d) ⟨fr, [c0, .dict kv]⟩) :
    tGet (tVar 6) (tTup es) ⟨fr, [c0, .dict kv]⟩ Q := by
  unfold tGet
  rw [x_var, h6]
  refine hes _ ?_
  exact ⟨d, hl, hQ⟩

noncomputable def body2 (am ad : Nat) : T Fl := tSeqs [(tIf (tCmp .gt (tVar 7) (tC (.int 1)))
  (tSeqs [(tMulti [12, 13] [(tBin .sub (tVar 7) (tC (.int 1))), (tGet (tVar 6) (tTup [(tFrz 0 (tBin .sub (tVar 7) (tC (.int 2)))), (tFrz 0 (tBin .add (tVar 8) (tC (.int 1)))), (tFrz 0 (tBin .add (tVar 9) (tC (.int 1))))]))]),
  (tAsg 14 (tCall (K_law_times am ad) [(tFrz 0 (tGet (tVar 6) (tTup [(tFrz 0 (tVar 12)), (tFrz 0 (tVar 8)), (tFrz 0 (tVar 9))]))), (tFrz 0 (tGet (tVar 6) (tTup [(tFrz 0 (tVar 12)), (tFrz 0 (tBin .add (tVar 8) (tC (.int 1)))), (tFrz 0 (tBin .add (tVar 9) (tC (.int 1))))]))), (tFrz 0 (tVar 2))])),
  (tAsg 15 (tCall (K_law_times am ad) [(tFrz 0 (tGet (tVar 6) (tTup [(tFrz 0 (tVar 12)), (tFrz 0 (tVar 8)), (tFrz 0 (tBin .add (tVar 9) (tC (.int 1))))]))), (tFrz 0 (tGet (tVar 6) (tTup [(tFrz 0 (tVar 12)), (tFrz 0 (tBin .add (tVar 8) (tC (.int 1)))), (tFrz 0 (tVar 9))]))), (tFrz 0 (tVar 2))])),
  (tAsg 16 (tCall K_s_sub [(tFrz 0 (tVar 14)), (tFrz 0 (tVar 15)), (tFrz 0 (tVar 2))])),
  (tIf (tNe (tCall (K_law_times am ad) [(tFrz 0 (tGet (tVar 6) (tTup [(tFrz 0 (tVar 7)), (tFrz 0 (tVar 8)), (tFrz 0 (tVar 9))]))), (tFrz 0 (tVar 13)), (tFrz 0 (tVar 2))]) (tVar 16))
  (tSeqs [(tRet (tFrz 0 (tC (.bool false))))])
  (tSeqs [])),
  (tIf (tAnd (tCmp .gt (tLen (tItem (tVar 13) (tC (.int 1)))) (tC (.int 0))) (tNe (tCall (K_tdiv am ad) [(tFrz 0 (tVar 16)), (tFrz 0 (tVar 13)), (tFrz 0 (tVar 2)), (tFrz 0 (tC (.fn ad)))]) (tTup [(tFrz 0 (tGet (tVar 6) (tTup [(tFrz 0 (tVar 7)), (tFrz 0 (tVar 8)), (tFrz 0 (tVar 9))]))), (tFrz 0 (tTup [(tFrz 0 (tC (.bool false))), (tFrz 0 (tLstV []))]))])))
  (tSeqs [(tRet (tFrz 0 (tC (.bool false))))])
  (tSeqs []))])
  (tSeqs []))]

theorem x_ne (l r : T RV) (ms : MS) (Q : Bool → MS → Prop) : tNe l r ms Q = l ms fun a ms1 => r ms1 fun b ms2 => evNe a b fun v => Q v ms2 := rfl

/-- the deep part: the condensation is asked -/
theorem body2_ok {am ad w k t l : Nat} (hw : 3 ≤ w) (hw2 : w ≤ 8) {kv : List (List Int × D)} {top mid ul lr ur ll : Int} {due blkV scr v3 v4 v5 : RV} {c0 : Cell}
    (hk : 2 ≤ k → kv.lookup [((k - 2 : Nat) : Int), ((t + 1 : Nat) : Int), ((l + 1 : Nat) : Int)] = some (sgn w mid)
      ∧ kv.lookup [((k - 1 : Nat) : Int), (t : Int), (l : Int)] = some (sgn w ul)
      ∧ kv.lookup [((k - 1 : Nat) : Int), ((t + 1 : Nat) : Int), ((l + 1 : Nat) : Int)] = some (sgn w lr)
      ∧ kv.lookup [((k - 1 : Nat) : Int), (t : Int), ((l + 1 : Nat) : Int)] = some (sgn w ur)
      ∧ kv.lookup [((k - 1 : Nat) : Int), ((t + 1 : Nat) : Int), (l : Int)] = some (sgn w ll)
      ∧ kv.lookup [(k : Int), (t : Int), (l : Int)] = some (sgn w top)
      ∧ top * mid = ul * lr - ur * ll ∧ mid.natAbs ≤ 18 ∧ ul.natAbs < 2 ^ 20 ∧ lr.natAbs < 2 ^ 20 ∧ ur.natAbs < 2 ^ 20 ∧ ll.natAbs < 2 ^ 20 ∧ top.natAbs < 2 ^ 20)
    (o12 o13 o14 o15 o16 : Option RV) (Q : Fl → MS → Prop)
    (hQ : ∀ o12 o13 o14 o15 o16 : Option RV, Q .next ⟨[some scr, some (.ptr 0), some (.val (.int (w : Nat))), some v3, some v4, some v5, some (.ptr 1), some (.val (.int (k : Nat))), some (.val (.int (t : Nat))), some (.val (.int (l : Nat))), some blkV, some due, o12, o13, o14, o15, o16], [c0, .dict kv]⟩) :
    body2 am ad ⟨[some scr, some (.ptr 0), some (.val (.int (w : Nat))), some v3, some v4, some v5, some (.ptr 1), some (.val (.int (k : Nat))), some (.val (.int (t : Nat))), some (.val (.int (l : Nat))), some blkV, some due, o12, o13, o14, o15, o16], [c0, .dict kv]⟩ Q := by
  unfold body2
  by_cases h2 : 2 ≤ k
  · obtain ⟨l1, l2, l3, l4, l5, l6, hid, bm, b1, b2, b3, b4, b5⟩ := hk h2
    have oka : ∀ x y : Int, Op.ok .add x y := fun _ _ => trivial
    have oks : ∀ x y : Int, Op.ok .sub x y := fun _ _ => trivial
    have cc : Cmp.ev .gt (k : Int) 1 = true := decide_eq_true (by lia)
    have e1 : Op.ev .sub (k : Int) 1 = ((k - 1 : Nat) : Int) := by simp only [Op.ev]; omega
    have e2 : Op.ev .sub (k : Int) 2 = ((k - 2 : Nat) : Int) := by simp only [Op.ev]; lia
    have et : Op.ev .add (t : Int) 1 = ((t + 1 : Nat) : Int) := rfl
    have el : Op.ev .add (l : Int) 1 = ((l + 1 : Nat) : Int) := rfl
    have bx : ∀ x y : Int, x.natAbs < 2 ^ 20 → y.natAbs < 2 ^ 20 → (x * y).natAbs < 2 ^ 20 * 2 ^ 20 := fun x y hx hy => mul_bd hx hy
    have c1 := bx ul lr b1 b2
    have c2 := bx ur ll b3 b4
    have c3 := bx top mid b5 (by lia)
    have hno : ∀ {Q' : Bool → Prop} (x : Int), Q' false → evNe (.val (sgn w x)) (.val (sgn w x)) Q' := fun x h => ne_same (alike_sgn 6 w x x) h
    rw [x_seqs1]
    simp only [x_frzV, x_frzP, x_if, x_cmp, x_var, x_c, List.getElem?_cons_zero, List.getElem?_cons_succ, x_evCmp, cc, if_true]
    rw [x_seqs1, x_multi, x_rvs1]
    simp only [x_frzV, x_frzP, x_bin, x_var, x_c, List.getElem?_cons_zero, List.getElem?_cons_succ, x_evBin, oks, e1, true_and]
    rw [x_rvs1]
    refine get_ok rfl (fun P hP => ?_) l1 ?_
    · simp only [x_args1, x_args0, x_frz, x_frzV, x_frzP, x_bin, x_var, x_c, List.getElem?_cons_zero, List.getElem?_cons_succ, x_evBin, oks, oka, true_and, e2, et, el]
      exact hP
    simp only [x_frzV, x_frzP, x_rvs0, x_setAll1, x_setAll0, x_set, List.set_cons_zero, List.set_cons_succ]
    rw [x_seqs1, x_asg, x_call, x_args1, x_frz]
    refine get_ok rfl (fun P hP => ?_) l2 ?_
    · simp only [x_args1, x_args0, x_frz, x_frzV, x_frzP, x_bin, x_var, x_c, List.getElem?_cons_zero, List.getElem?_cons_succ, x_evBin, oks, oka, true_and, e2, et, el]
      exact hP
    rw [x_frzV, x_args1, x_frz]
    refine get_ok rfl (fun P hP => ?_) l3 ?_
    · simp only [x_args1, x_args0, x_frz, x_frzV, x_frzP, x_bin, x_var, x_c, List.getElem?_cons_zero, List.getElem?_cons_succ, x_evBin, oks, oka, true_and, e2, et, el]
      exact hP
    rw [x_frzV, x_args1]
    simp only [x_args0, x_frz, x_frzV, x_frzP, x_var, List.getElem?_cons_zero, List.getElem?_cons_succ]
    refine ⟨_, run_law_times (w := w) (by lia) (by lia) (by lia) (by lia), ?_⟩
    simp only [x_frzV, x_frzP, x_set, List.set_cons_zero, List.set_cons_succ]
    rw [x_seqs1, x_asg, x_call, x_args1, x_frz]
    refine get_ok rfl (fun P hP => ?_) l4 ?_
    · simp only [x_args1, x_args0, x_frz, x_frzV, x_frzP, x_bin, x_var, x_c, List.getElem?_cons_zero, List.getElem?_cons_succ, x_evBin, oks, oka, true_and, e2, et, el]
      exact hP
    rw [x_frzV, x_args1, x_frz]
    refine get_ok rfl (fun P hP => ?_) l5 ?_
    · simp only [x_args1, x_args0, x_frz, x_frzV, x_frzP, x_bin, x_var, x_c, List.getElem?_cons_zero, List.getElem?_cons_succ, x_evBin, oks, oka, true_and, e2, et, el]
      exact hP
    rw [x_frzV, x_args1]
    simp only [x_args0, x_frz, x_frzV, x_frzP, x_var, List.getElem?_cons_zero, List.getElem?_cons_succ]
    refine ⟨_, run_law_times (w := w) (by lia) (by lia) (by lia) (by lia), ?_⟩
    simp only [x_frzV, x_frzP, x_set, List.set_cons_zero, List.set_cons_succ]
    rw [x_seqs1]
    simp only [x_asg, x_call, x_args1, x_args0, x_frz, x_frzV, x_frzP, x_var, List.getElem?_cons_zero, List.getElem?_cons_succ]
    refine ⟨_, run_s_sub (w := w) (by lia) (by lia) (by lia) (by lia), ?_⟩
    simp only [x_frzV, x_frzP, x_set, List.set_cons_zero, List.set_cons_succ]
    rw [← hid]
    rw [x_seqs1, x_if, x_ne, x_call, x_args1, x_frz]
    refine get_ok rfl (fun P hP => ?_) l6 ?_
    · simp only [x_args1, x_args0, x_frz, x_frzV, x_frzP, x_bin, x_var, x_c, List.getElem?_cons_zero, List.getElem?_cons_succ, x_evBin, oks, oka, true_and, e2, et, el]
      exact hP
    simp only [x_args1, x_args0, x_frz, x_frzV, x_frzP, x_var, List.getElem?_cons_zero, List.getElem?_cons_succ]
    refine ⟨_, run_law_times (w := w) (by lia) (by lia) (by lia) (by lia), ?_⟩
    refine hno _ ?_
    simp only [x_frzV, x_frzP, Bool.false_eq_true, if_false, x_seqs0]
    rw [x_seqs1]
    simp only [x_frzV, x_frzP, x_if, x_and, x_cmp, x_len, x_item, x_var, x_c, List.getElem?_cons_zero, List.getElem?_cons_succ]
    have hit : ∀ (P : RV → Prop) (ms : MS), P (.val (L (limbs w mid.natAbs))) → evItem ms (.val (sgn w mid)) (.val (.int 1)) P := fun P ms hP => ⟨by decide, _, rfl, hP⟩
    have hlk : ∀ ms : MS, ms.look (.val (L (limbs w mid.natAbs))) = some (iz (limbs w mid.natAbs)) := fun _ => rfl
    refine hit _ _ ?_
    simp only [x_frzV, x_frzP, hlk, List.length_map, x_evCmp]
    by_cases hm : mid = 0
    · have c4 : Cmp.ev .gt ((limbs w mid.natAbs).length : Int) 0 = false := by subst hm; rfl
      simp only [x_frzV, x_frzP, c4, Bool.false_eq_true, if_false, x_seqs0]
      exact hQ _ _ _ _ _
    · have hlp : 0 < (limbs w mid.natAbs).length := (limbs_len_pos (by lia)).mpr (by lia)
      have c4 : Cmp.ev .gt ((limbs w mid.natAbs).length : Int) 0 = true := decide_eq_true (by lia)
      have h8 : 2 ^ 3 ≤ 2 ^ w := Nat.pow_le_pow_right (by decide) hw
      have h9 : 2 ^ 3 * 2 ^ 3 ≤ 2 ^ w * 2 ^ w := Nat.mul_le_mul h8 h8
      have hd := run_tdiv (am := am) (ad := ad) (w := w) (x := top * mid) (y := mid) (by lia) hw2 (by lia) hm (by omega)
      rw [Int.mul_tdiv_cancel _ hm, Int.mul_tmod_left] at hd
      simp only [c4, if_true]
      rw [x_ne]
      simp only [x_call, x_args1, x_args0, x_frz, x_frzV, x_frzP, x_var, x_c, List.getElem?_cons_zero, List.getElem?_cons_succ]
      refine ⟨_, hd, ?_⟩
      rw [x_tup, x_args1, x_frz]
      refine get_ok rfl (fun P hP => ?_) l6 ?_
      · simp only [x_args1, x_args0, x_frz, x_frzV, x_frzP, x_bin, x_var, x_c, List.getElem?_cons_zero, List.getElem?_cons_succ, x_evBin, oks, oka, true_and, e2, et, el]
        exact hP
      simp only [x_args1, x_args0, x_frz, x_frzV, x_frzP, x_tup, x_c, x_lstV]
      refine ne_same (d := .tup [sgn w top, sgn w 0]) (.tup2 (alike_sgn 5 w _ _) (alike_sgn 5 w _ _)) ?_
      simp only [x_frzV, x_frzP, Bool.false_eq_true, if_false, x_seqs0]
      exact hQ _ _ _ _ _
  · have cc : Cmp.ev .gt (k : Int) 1 = false := decide_eq_false (by lia)
    rw [x_seqs1]
    simp only [x_frzV, x_frzP, x_if, x_cmp, x_var, x_c, List.getElem?_cons_zero, List.getElem?_cons_succ, x_evCmp, cc, Bool.false_eq_true, if_false, x_seqs0]
    exact hQ _ _ _ _ _
end Mine
end

section
set_option linter.unusedVariables false
set_option linter.unusedSimpArgs false
namespace Mine
theorem x_putD (x : Nat) (i : T RV) (e : T D) (ms : MS) (Q : Fl → MS → Prop) : tPutD x i e ms Q = e ms fun d ms1 => match ms1.fr[x]? with
  | some (some (.ptr n)) => i ms1 fun b ms2 => match b, ms2.cs[n]? with
    | .val k, some (.dict kv) => ∃ ks, keyOf k = some ks ∧ kv.length < 1000 ∧ Q .next (ms2.setC n (.dict (dictPut kv ks d)))
    | _, _ => False
  | _ => False := rfl

noncomputable def body1 (am ad : Nat) : T Fl := tSeq (tAsg 10 (tCompV (tItems (tFrz 0 (tCut (tVar 5) (some (tVar 8)) (some (tBin .add (tVar 8) (tVar 7)))))) 1 [9, 7] (bind1 0) tTrue (tFrz 0 (tCut (tVar 0) (some (tVar 1)) (some (tBin .add (tVar 1) (tVar 2)))))))
  (tSeq (tPutD 6 (tTup [(tFrz 0 (tVar 7)), (tFrz 0 (tVar 8)), (tFrz 0 (tVar 9))]) (tFrz 0 (tCall (K_det_bareiss am ad) [(tFrz 0 (tVar 10)), (tFrz 0 (tVar 2)), (tFrz 0 (tC (.fn am))), (tFrz 0 (tC (.fn ad)))])))
  (tSeq (tAsg 11 (tCall K_law_all_orders [(tFrz 0 (tCompV (tItems (tFrz 0 (tCut (tVar 4) (some (tVar 8)) (some (tBin .add (tVar 8) (tVar 7)))))) 1 [9, 7] (bind1 0) tTrue (tFrz 0 (tCut (tVar 0) (some (tVar 1)) (some (tBin .add (tVar 1) (tVar 2)))))))]))
  (tSeq (tIf (tNe (tGet (tVar 6) (tTup [(tFrz 0 (tVar 7)), (tFrz 0 (tVar 8)), (tFrz 0 (tVar 9))])) (tCall K_law_signed [(tFrz 0 (tVar 11)), (tFrz 0 (tVar 2))]))
  (tSeqs [(tRet (tFrz 0 (tC (.bool false))))])
  (tSeqs []))
  (body2 am ad))))

theorem blk_comp (h : Int → D) {m : List (List Int)} {n k t l : Nat} (hm : m.length = n) (hr : ∀ r ∈ m, r.length = n) (h1 : k + t ≤ n) (h2 : k + l ≤ n) (i : Nat) {fr : List (Option RV)} {cs : List Cell} (hi : fr[i]? = some (some (.val (.lst (m.map fun r => D.lst (r.map h)))))) (h7 : fr[7]? = some (some (.val (.int (k : Nat))))) (h8 : fr[8]? = some (some (.val (.int (t : Nat))))) (h9 : fr[9]? = some (some (.val (.int (l : Nat))))) (Q : RV → MS → Prop)
    (hQ : Q (.val (.lst ((blk m k t l).map fun r => D.lst (r.map h)))) ⟨fr, cs⟩) :
    tCompV (tItems (tFrz 0 (tCut (tVar i) (some (tVar 8)) (some (tBin .add (tVar 8) (tVar 7)))))) 1 [9, 7] (bind1 0) tTrue (tFrz 0 (tCut (tVar 0) (some (tVar 1)) (some (tBin .add (tVar 1) (tVar 2))))) ⟨fr, cs⟩ Q := by
  have ok : Op.ok .add (t : Int) (k : Int) := trivial
  have ea : Op.ev .add (t : Int) (k : Int) = ((t + k : Nat) : Int) := by simp only [Op.ev]; lia
  have hfr : mkFr 1 [9, 7] fr = [none, some (.val (.int (l : Nat))), some (.val (.int (k : Nat)))] := by
    simp only [mkFr, pick, List.map_cons, List.map_nil, h9, h7]; rfl
  simp only [x_compV, x_items, x_frz, x_frzV, x_frzP, x_cut, x_opt1, x_bin, x_var, hi, h8, h7, x_evBin, ok, ea, true_and, x_lookV, hfr]
  rw [cut_nat _ _ _ (by rw [List.length_map]; lia), ← List.map_drop, ← List.map_take]
  refine comp_cut h (n := n) (by lia) cs _ ((m.drop t).take k) [] none (fun r hr' => hr r (List.mem_of_mem_drop (List.mem_of_mem_take hr'))) fun x => ?_
  rw [List.take_length]
  exact hQ

theorem body1_ok {am ad w n k t l : Nat} (hw : 3 ≤ w) (hw2 : w ≤ 8) (hn : n ≤ 4) {m : List (List Int)} (hm : m.length = n) (hr : ∀ r ∈ m, r.length = n) (hb : ∀ r ∈ m, ∀ z ∈ r, z.natAbs ≤ 3) (h1 : k + t ≤ n) (h2 : k + l ≤ n) {kv : List (List Int × D)} (hg : Good n (at2 m) w kv k t l) (hkv : kv.length < 1000) (scr : RV) (c0 : Cell) (o10 o11 o12 o13 o14 o15 o16 : Option RV) (Q : Fl → MS → Prop)
    (hQ : ∀ (kv' : List (List Int × D)) (o10 o11 o12 o13 o14 o15 o16 : Option RV), Good n (at2 m) w kv' k t (l + 1) → kv'.length ≤ kv.length + 1 → Q .next ⟨[some scr, some (.ptr 0), some (.val (.int (w : Nat))), some (.val (.int (n : Nat))), some (.val (mtI m)), some (.val (mt w m)), some (.ptr 1), some (.val (.int (k : Nat))), some (.val (.int (t : Nat))), some (.val (.int (l : Nat))), o10, o11, o12, o13, o14, o15, o16], [c0, .dict kv']⟩) :
    body1 am ad ⟨[some scr, some (.ptr 0), some (.val (.int (w : Nat))), some (.val (.int (n : Nat))), some (.val (mtI m)), some (.val (mt w m)), some (.ptr 1), some (.val (.int (k : Nat))), some (.val (.int (t : Nat))), some (.val (.int (l : Nat))), o10, o11, o12, o13, o14, o15, o16], [c0, .dict kv]⟩ Q := by
  have hbl := blk_len (l := l) (m := m) (k := k) (t := t) (by lia)
  have hbr := blk_row (t := t) hr h2
  have hbb := blk_bd (k := k) (t := t) (l := l) hb
  have hinv := blk_inv hm hr hb h1 h2
  have hD : Dn (blk m k t l).length (at2 (blk m k t l)) = DD (at2 m) k t l := by rw [hbl]; exact blk_Dn (by lia) hm hr h1 h2
  have hdet := run_det_bareiss (am := am) (ad := ad) hw hw2 (by lia) hinv
  rw [detB_is (by lia) hinv, hD] at hdet
  have hord := run_law_all_orders (m := blk m k t l) (by lia) (fun r hr' => ⟨by rw [hbl]; exact hbr r hr', fun z hz => Nat.lt_of_le_of_lt (hbb r hr' z hz) (by decide)⟩)
  rw [leib_is (by lia), hD] at hord
  have hbd := DD_bd hn hm hr hb h1 h2
  have hsg := run_law_signed (w := w) (z := DD (at2 m) k t l) (by lia) hw2 (Nat.lt_of_le_of_lt hbd (by decide))
  have hp := hg.put
  have hpl := len_put kv [(k : Int), (t : Int), (l : Int)] (sgn w (DD (at2 m) k t l))
  unfold body1
  rw [x_seq, x_asg]
  refine blk_comp (sgn w) hm hr h1 h2 5 rfl rfl rfl rfl _ ?_
  simp only [x_frzV, x_frzP, x_set, List.set_cons_zero, List.set_cons_succ]
  rw [x_seq, x_putD]
  simp only [x_frz, x_frzV, x_frzP, x_call, x_args1, x_args0, x_var, x_c, List.getElem?_cons_zero, List.getElem?_cons_succ]
  refine ⟨_, hdet, ?_⟩
  simp only [x_tup, x_args1, x_args0, x_frz, x_frzV, x_frzP, x_var, List.getElem?_cons_zero, List.getElem?_cons_succ, x_setC, List.set_cons_zero, List.set_cons_succ]
  refine ⟨[(k : Int), (t : Int), (l : Int)], rfl, hkv, ?_⟩
  generalize dictPut kv [(k : Int), (t : Int), (l : Int)] (sgn w (DD (at2 m) k t l)) = kv' at hp hpl ⊢
  rw [x_seq, x_asg, x_call, x_args1, x_frz]
  refine blk_comp D.int hm hr h1 h2 4 rfl rfl rfl rfl _ ?_
  simp only [x_frzV, x_frzP, x_args0]
  refine ⟨_, hord, ?_⟩
  simp only [x_frzV, x_frzP, x_set, List.set_cons_zero, List.set_cons_succ]
  rw [x_seq, x_if, x_ne]
  refine get_ok rfl (fun P hP => ?_) (hp k t l h1 h2 (by lia)) ?_
  · simp only [x_args1, x_args0, x_frz, x_frzV, x_frzP, x_var, List.getElem?_cons_zero, List.getElem?_cons_succ]
    exact hP
  simp only [x_call, x_args1, x_args0, x_frz, x_frzV, x_frzP, x_var, List.getElem?_cons_zero, List.getElem?_cons_succ]
  refine ⟨_, hsg, ?_⟩
  refine ne_same (alike_sgn 6 w _ _) ?_
  simp only [x_frzV, x_frzP, Bool.false_eq_true, if_false, x_seqs0]
  refine body2_ok (am := am) (ad := ad) (top := DD (at2 m) k t l) (mid := DD (at2 m) (k - 2) (t + 1) (l + 1)) (ul := DD (at2 m) (k - 1) t l) (lr := DD (at2 m) (k - 1) (t + 1) (l + 1)) (ur := DD (at2 m) (k - 1) t (l + 1)) (ll := DD (at2 m) (k - 1) (t + 1) l) hw hw2 (fun hk => ?_) _ _ _ _ _ _ fun o12 o13 o14 o15 o16 => hQ kv' _ _ o12 o13 o14 o15 o16 hp hpl
  have bb : ∀ t' l', k - 1 + t' ≤ n → k - 1 + l' ≤ n → (DD (at2 m) (k - 1) t' l').natAbs < 2 ^ 20 := fun t' l' a1 a2 => Nat.lt_of_le_of_lt (DD_bd hn hm hr hb a1 a2) (by decide)
  exact ⟨hp _ _ _ (by lia) (by lia) (by lia), hp _ _ _ (by lia) (by lia) (by lia), hp _ _ _ (by lia) (by lia) (by lia), hp _ _ _ (by lia) (by lia) (by lia), hp _ _ _ (by lia) (by lia) (by lia), hp _ _ _ h1 h2 (by lia), DD_cond _ t l hk (by lia), DD_bd2 (by lia) hb, bb _ _ (by lia) (by lia), bb _ _ (by lia) (by lia), bb _ _ (by lia) (by lia), bb _ _ (by lia) (by lia), Nat.lt_of_le_of_lt hbd (by decide)⟩
end Mine
end

section
set_option linter.unusedVariables false
set_option linter.unusedSimpArgs false
namespace Mine
theorem Good.down {n : Nat} {a : Nat → Nat → Int} {w : Nat} {kv : List (List Int × D)} {k t l : Nat} (h : Good n a w kv k t l) (hl : n < k + l) : Good n a w kv k (t + 1) 0 :=
  fun k' t' l' h1 h2 h3 => h k' t' l' h1 h2 (by lia)
theorem Good.next {n : Nat} {a : Nat → Nat → Int} {w : Nat} {kv : List (List Int × D)} {k t : Nat} (h : Good n a w kv k t 0) (hl : n < k + t) : Good n a w kv (k + 1) 0 0 :=
  fun k' t' l' h1 h2 h3 => h k' t' l' h1 h2 (by lia)

theorem left_loop {am ad w n k t : Nat} (hw : 3 ≤ w) (hw2 : w ≤ 8) (hn : n ≤ 4) {m : List (List Int)} (hm : m.length = n) (hr : ∀ r ∈ m, r.length = n) (hb : ∀ r ∈ m, ∀ z ∈ r, z.natAbs ≤ 3) (h1 : k + t ≤ n) (scr : RV) (c0 : Cell) (Q : Fl → MS → Prop) :
    ∀ (j l : Nat) (kv : List (List Int × D)) (o9 o10 o11 o12 o13 o14 o15 o16 : Option RV), k + (l + j) = n + 1 → Good n (at2 m) w kv k t l → kv.length + j ≤ 900 →
    (∀ (kv' : List (List Int × D)) (o9 o10 o11 o12 o13 o14 o15 o16 : Option RV), Good n (at2 m) w kv' k (t + 1) 0 → kv'.length ≤ kv.length + j → Q .next ⟨[some scr, some (.ptr 0), some (.val (.int (w : Nat))), some (.val (.int (n : Nat))), some (.val (mtI m)), some (.val (mt w m)), some (.ptr 1), some (.val (.int (k : Nat))), some (.val (.int (t : Nat))), o9, o10, o11, o12, o13, o14, o15, o16], [c0, .dict kv']⟩) →
    forGo (bind1 9) (body1 am ad) (dInts (l : Int) 1 j) ⟨[some scr, some (.ptr 0), some (.val (.int (w : Nat))), some (.val (.int (n : Nat))), some (.val (mtI m)), some (.val (mt w m)), some (.ptr 1), some (.val (.int (k : Nat))), some (.val (.int (t : Nat))), o9, o10, o11, o12, o13, o14, o15, o16], [c0, .dict kv]⟩ Q
  | 0, l, kv, o9, o10, o11, o12, o13, o14, o15, o16, hj, hg, hl, hQ => by
    rw [dInts_zero, x_for0]
    exact hQ kv _ _ _ _ _ _ _ _ (hg.down (by lia)) (Nat.le_add_right _ _)
  | j + 1, l, kv, o9, o10, o11, o12, o13, o14, o15, o16, hj, hg, hl, hQ => by
    have e6 : (l : Int) + 1 = ((l + 1 : Nat) : Int) := rfl
    rw [dInts_succ, x_for1]
    refine ⟨_, rfl, ?_⟩
    simp only [x_frzV, x_frzP, x_set, List.set_cons_zero, List.set_cons_succ]
    refine body1_ok hw hw2 hn hm hr hb h1 (by lia) hg (by lia) scr c0 _ _ _ _ _ _ _ _ fun kv' o10 o11 o12 o13 o14 o15 o16 hg' hl' => ?_
    rw [e6]
    exact left_loop hw hw2 hn hm hr hb h1 scr c0 Q j (l + 1) kv' _ _ _ _ _ _ _ _ (by lia) hg' (by lia) fun kv'' o9 o10 o11 o12 o13 o14 o15 o16 hg'' hl'' => hQ kv'' _ _ _ _ _ _ _ _ hg'' (by lia)

noncomputable def sideR : T (List D) := tRange1 (tBin .add (tBin .sub (tVar 3) (tVar 7)) (tC (.int 1)))
theorem side_ok {n k : Nat} (hk : k ≤ n) (hn : n ≤ 4) {fr : List (Option RV)} {cs : List Cell} (h3 : fr[3]? = some (some (.val (.int (n : Nat))))) (h7 : fr[7]? = some (some (.val (.int (k : Nat))))) (Q : List D → MS → Prop) (hQ : Q (dInts ((0 : Nat) : Int) 1 (n - k + 1)) ⟨fr, cs⟩) : sideR ⟨fr, cs⟩ Q := by
  have L0 : LIM = 1048576 := rfl
  have ok1 : Op.ok .sub (n : Int) (k : Int) := trivial
  have ok2 : Op.ok .add (Op.ev .sub (n : Int) (k : Int)) 1 := trivial
  have e1 : Op.ev .add (Op.ev .sub (n : Int) (k : Int)) 1 = ((n - k + 1 : Nat) : Int) := by simp only [Op.ev]; lia
  have s1 : Small ((n - k + 1 : Nat) : Int) := by unfold Small; lia
  have s2 : ((n - k + 1 : Nat) : Int) ≤ (LIM : Nat) := by lia
  unfold sideR
  simp only [x_frzV, x_frzP, x_range1, x_bin, x_var, x_c, h3, h7, x_evBin, ok1, ok2, e1, true_and, s1, s2, Int.toNat_natCast]
  exact hQ

theorem top_loop {am ad w n k : Nat} (hw : 3 ≤ w) (hw2 : w ≤ 8) (hn : n ≤ 4) {m : List (List Int)} (hm : m.length = n) (hr : ∀ r ∈ m, r.length = n) (hb : ∀ r ∈ m, ∀ z ∈ r, z.natAbs ≤ 3) (hk : k ≤ n) (scr : RV) (c0 : Cell) (Q : Fl → MS → Prop) :
    ∀ (j t : Nat) (kv : List (List Int × D)) (o8 o9 o10 o11 o12 o13 o14 o15 o16 : Option RV), k + (t + j) = n + 1 → Good n (at2 m) w kv k t 0 → kv.length + j * 5 ≤ 900 →
    (∀ (kv' : List (List Int × D)) (o8 o9 o10 o11 o12 o13 o14 o15 o16 : Option RV), Good n (at2 m) w kv' (k + 1) 0 0 → kv'.length ≤ kv.length + j * 5 → Q .next ⟨[some scr, some (.ptr 0), some (.val (.int (w : Nat))), some (.val (.int (n : Nat))), some (.val (mtI m)), some (.val (mt w m)), some (.ptr 1), some (.val (.int (k : Nat))), o8, o9, o10, o11, o12, o13, o14, o15, o16], [c0, .dict kv']⟩) →
    forGo (bind1 8) (tSeqs [tFor sideR (bind1 9) (body1 am ad)]) (dInts (t : Int) 1 j) ⟨[some scr, some (.ptr 0), some (.val (.int (w : Nat))), some (.val (.int (n : Nat))), some (.val (mtI m)), some (.val (mt w m)), some (.ptr 1), some (.val (.int (k : Nat))), o8, o9, o10, o11, o12, o13, o14, o15, o16], [c0, .dict kv]⟩ Q
  | 0, t, kv, o8, o9, o10, o11, o12, o13, o14, o15, o16, hj, hg, hl, hQ => by
    rw [dInts_zero, x_for0]
    exact hQ kv _ _ _ _ _ _ _ _ _ (hg.next (by lia)) (Nat.le_add_right _ _)
  | j + 1, t, kv, o8, o9, o10, o11, o12, o13, o14, o15, o16, hj, hg, hl, hQ => by
    have e6 : (t : Int) + 1 = ((t + 1 : Nat) : Int) := rfl
    rw [dInts_succ, x_for1]
    refine ⟨_, rfl, ?_⟩
    simp only [x_frzV, x_frzP, x_set, List.set_cons_zero, List.set_cons_succ]
    rw [x_seqs1, x_for]
    refine side_ok hk hn rfl rfl _ ?_
    refine left_loop hw hw2 hn hm hr hb (by lia) scr c0 _ (n - k + 1) 0 kv _ _ _ _ _ _ _ _ (by lia) hg (by lia) fun kv' o9 o10 o11 o12 o13 o14 o15 o16 hg' hl' => ?_
    simp only [x_frzV, x_frzP, x_seqs0]
    rw [e6]
    exact top_loop hw hw2 hn hm hr hb hk scr c0 Q j (t + 1) kv' _ _ _ _ _ _ _ _ _ (by lia) hg' (by lia) fun kv'' o8 o9 o10 o11 o12 o13 o14 o15 o16 hg'' hl'' => hQ kv'' _ _ _ _ _ _ _ _ _ hg'' (by lia)

theorem many_loop {am ad w n : Nat} (hw : 3 ≤ w) (hw2 : w ≤ 8) (hn : n ≤ 4) {m : List (List Int)} (hm : m.length = n) (hr : ∀ r ∈ m, r.length = n) (hb : ∀ r ∈ m, ∀ z ∈ r, z.natAbs ≤ 3) (scr : RV) (c0 : Cell) (Q : Fl → MS → Prop) (hQ : ∀ ms, Q .next ms) :
    ∀ (j k : Nat) (kv : List (List Int × D)) (o7 o8 o9 o10 o11 o12 o13 o14 o15 o16 : Option RV), k + j = n + 1 → Good n (at2 m) w kv k 0 0 → kv.length + j * 25 ≤ 900 →
    forGo (bind1 7) (tSeqs [tFor sideR (bind1 8) (tSeqs [tFor sideR (bind1 9) (body1 am ad)])]) (dInts (k : Int) 1 j) ⟨[some scr, some (.ptr 0), some (.val (.int (w : Nat))), some (.val (.int (n : Nat))), some (.val (mtI m)), some (.val (mt w m)), some (.ptr 1), o7, o8, o9, o10, o11, o12, o13, o14, o15, o16], [c0, .dict kv]⟩ Q
  | 0, k, kv, o7, o8, o9, o10, o11, o12, o13, o14, o15, o16, hj, hg, hl => by
    rw [dInts_zero, x_for0]
    exact hQ _
  | j + 1, k, kv, o7, o8, o9, o10, o11, o12, o13, o14, o15, o16, hj, hg, hl => by
    have e6 : (k : Int) + 1 = ((k + 1 : Nat) : Int) := rfl
    rw [dInts_succ, x_for1]
    refine ⟨_, rfl, ?_⟩
    simp only [x_frzV, x_frzP, x_set, List.set_cons_zero, List.set_cons_succ]
    rw [x_seqs1, x_for]
    refine side_ok (by lia) hn rfl rfl _ ?_
    refine top_loop hw hw2 hn hm hr hb (by lia) scr c0 _ (n - k + 1) 0 kv _ _ _ _ _ _ _ _ _ (by lia) hg (by lia) fun kv' o8 o9 o10 o11 o12 o13 o14 o15 o16 hg' hl' => ?_
    simp only [x_frzV, x_frzP, x_seqs0]
    rw [e6]
    exact many_loop hw hw2 hn hm hr hb scr c0 Q hQ j (k + 1) kv' _ _ _ _ _ _ _ _ _ _ (by lia) hg' (by lia)

theorem law_true (am ad : Nat) (ns : List Int) (hns : ns.length ≤ 63) : K_law am ad [.lst (ns.map .int)] (.bool true) := by
  refine ⟨rfl, ?_⟩
  unfold Runs b_law
  have L0 : LIM = 1048576 := rfl
  have hring : ((ns.take 30).map Int.natAbs).length ≤ 100 := by rw [List.length_map, List.length_take]; lia
  have hcut : cut (ns.map D.int) none (some 30) = (ns.take 30).map D.int := by
    rw [List.map_take]; exact cut_first _ 30
  simp only [List.map_cons, List.map_nil, List.cons_append, List.nil_append, List.replicate_succ, List.replicate_zero]
  rw [x_seqs1]
  simp only [x_asg, x_lst, x_args1, x_args0, x_frz, x_frzV, x_frzP, x_c, x_compV, x_items, x_cut, x_opt0, x_opt1, x_var, List.getElem?_cons_zero, x_lookV, hcut]
  refine comp_abs _ _ (ns.take 30) [] none fun x => ?_
  generalize (ns.take 30).map Int.natAbs = ring at hring ⊢
  simp only [x_frzV, x_frzP, List.take_nil, List.length_nil, List.nil_append, x_addC, x_set, List.set_cons_zero, List.set_cons_succ]
  rw [x_seqs1]
  simp only [x_multi, x_rvs1, x_rvs0, x_bin, x_c, x_callM, x_args1, x_args0, x_frz, x_frzV, x_frzP, List.getElem?_cons_zero, List.getElem?_cons_succ]
  refine ⟨_, _, run_law_condensed (ring := ring) (many := 6) (k := 0) (by decide) hring, ?_⟩
  simp only [x_frzV, x_frzP, x_setC, List.set_cons_zero, x_evBin]
  refine ⟨trivial, ?_⟩
  refine ⟨_, _, run_law_condensed (ring := ring) (many := 4) (k := 1) (by decide) hring, ?_⟩
  have d6 := draw_lt (ring := ring) (many := 6) (k := 0) (by decide)
  have d4 := draw_lt (ring := ring) (many := 4) (k := 1) (by decide)
  simp only [x_frzV, x_frzP, x_setC, List.set_cons_zero, x_evBin]
  refine ⟨⟨by decide, by decide⟩, trivial, ?_⟩
  have ew : Op.ev .add 3 ((draw ring 6 0 : Nat) : Int) = ((3 + draw ring 6 0 : Nat) : Int) := by simp only [Op.ev]; lia
  have en : Op.ev .add 3 (Op.ev .div ((draw ring 4 1 : Nat) : Int) 3) = ((3 + draw ring 4 1 / 3 : Nat) : Int) := by simp only [Op.ev]; lia
  rw [ew, en]
  have hw : 3 ≤ 3 + draw ring 6 0 := by lia
  have hw2 : 3 + draw ring 6 0 ≤ 8 := by lia
  have hn : 3 + draw ring 4 1 / 3 ≤ 4 := by lia
  generalize 3 + draw ring 6 0 = w at hw hw2 ⊢
  generalize 3 + draw ring 4 1 / 3 = n at hn ⊢
  have s1 : Small (n : Int) := by unfold Small; lia
  have s2 : (n : Int) ≤ (LIM : Nat) := by lia
  simp only [x_frzV, x_frzP, x_setAll1, x_setAll0, x_set, List.set_cons_zero, List.set_cons_succ]
  rw [x_seqs1, x_asg, x_compV]
  simp only [x_frzV, x_frzP, x_range1, x_var, List.getElem?_cons_zero, List.getElem?_cons_succ, s1, s2, true_and, Int.toNat_natCast]
  refine comp_plain hring (by lia) _ n 0 2 [] none (fun r hr => by cases hr) fun k2 m x hm hmb => ?_
  have hml : m.length = n := by simpa using hm
  have hmr : ∀ r ∈ m, r.length = n := fun r hr => (hmb r hr).1
  have hmz : ∀ r ∈ m, ∀ z ∈ r, z.natAbs ≤ 3 := fun r hr => (hmb r hr).2
  simp only [x_frzV, x_frzP, List.length_cons, List.length_nil, List.take_succ_cons, List.take_nil, x_set, List.set_cons_zero, List.set_cons_succ]
  rw [x_seqs1, x_asg, x_compV]
  simp only [x_items, x_frz, x_frzV, x_frzP, x_var, List.getElem?_cons_zero, List.getElem?_cons_succ]
  refine comp_sgns (w := w) (by lia) hw2 _ _ m [] none hmz fun x => ?_
  simp only [x_frzV, x_frzP, List.nil_append, List.length_cons, List.length_nil, List.take_succ_cons, List.take_nil, x_set, List.set_cons_zero, List.set_cons_succ]
  rw [x_seqs1, x_asg]
  unfold tDict
  simp only [x_frzV, x_frzP, x_addC, List.cons_append, List.nil_append, List.length_cons, List.length_nil, x_set, List.set_cons_zero, List.set_cons_succ]
  have okn : Op.ok .add (n : Int) 1 := trivial
  have en1 : Op.ev .add (n : Int) 1 = ((n + 1 : Nat) : Int) := rfl
  have s3 : Small ((n + 1 : Nat) : Int) := by unfold Small; lia
  have s4 : ((n + 1 : Nat) : Int) ≤ (LIM : Nat) := by lia
  rw [x_seqs1, x_for]
  simp only [x_frzV, x_frzP, x_range1, x_bin, x_var, x_c, List.getElem?_cons_zero, List.getElem?_cons_succ, x_evBin, okn, en1, s3, s4, true_and, Int.toNat_natCast]
  refine many_loop (am := am) (ad := ad) hw hw2 hn hml hmr hmz _ _ _ (fun ms => ?_) (n + 1) 0 [] _ _ _ _ _ _ _ _ _ _ (by lia) (fun k t l a b c => by lia) (by simp; lia)
  simp only [x_seqs1, x_ret, x_frz, x_frzV, x_frzP, x_c]
  exact Or.inl trivial
end Mine
end

open PySem PySem.Calls PyProof.Rows PySem.W Mine
set_option maxRecDepth 100000 in
set_option maxHeartbeats 8000000 in
theorem PySem.Challenge.cw_xm0429_01_holds : PySem.Challenge.rw_xm0429_01.Holds := by
  w_on
  o_law
  o_head (uHook)
  case hw => w_witness2
  exact fin law_true _ (by kernel_rfl) (by decide +kernel)
