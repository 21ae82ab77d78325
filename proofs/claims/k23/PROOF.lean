import PyProof.Rows.All
import Wide.All
import OpenK.AllK
import Wide.FinOn
import HandS.ForMost
import HandS.Star
import HandS.TupAny
import HandS.Wide
import HandS.WideBits
import HandS.Dict
import HandS.List
import KE.KDictPairs
import HandS.SortInts
import HandS.RaiseMore
import HandS.WordsDict
import HandS.TupLen
import HandS.IsInst
import HandS.Conv
import HandS.Comp
import HandS.Property
import HandS.OwnEq
import HandS.NamedTupGet
import HandS.Strs
import HandS.NoneIn
import HandS.Style
import HandS.Zip
import HandS.Iter
import KE.GoesMore
import KE.GoesEnum
import HandS.ListItems
import KE.KDictZip
import HandS.HeadEnd
import HandS.HeadHook1
import HandS.HeadHook2
import HandS.HeadHook3
import HandS.EndBits
import KE.IntBitsLaws
import KE.RegMulBits
import PyProof.ReprLen
import HandS.Head0
import HandS.Head1
import HandS.Head2
import PySem.Challenge.RW_contraryrolls_k23_readers_named_anew_and
set_option Elab.async false
set_option linter.all false
set_option maxRecDepth 100000
section
/-! PMA: a small interpreter for the Python of these programs, over plain data: values, a heap by numbers, expressions and statements with slots. -/
namespace PM
open PySem

/-! ### values, objects, the heap -/
inductive AV where
  | non | bl (b : Bool) | int (i : Int) | str (x : List Nat) | tup (xs : List AV) | ref (n : Nat) | ktp (xs : List AV) | glo (x : Nat) | gdc (x : Nat) | ty (T : String)
  deriving Inhabited
inductive AObj where
  | lst (xs : List AV) | dic (kvs : List (AV × AV)) | ins (c : Nat) (fs : List (Nat × AV)) | ro (o : AObj) | tmp | ftup (xs : List AV)
  deriving Inhabited

inductive Tr where
  | nil | node (o : Option AObj) (l r : Tr)
def Tr.get : Tr → Nat → Option AObj
  | .nil, _ => none
  | .node o l r, k => if k = 0 then o else if k % 2 = 1 then l.get (k / 2) else r.get (k / 2 - 1)
def Tr.set : Nat → Tr → Nat → AObj → Tr
  | 0, t, _, _ => t
  | f + 1, .nil, k, x => if k = 0 then .node (some x) .nil .nil else if k % 2 = 1 then .node none (Tr.set f .nil (k / 2) x) .nil else .node none .nil (Tr.set f .nil (k / 2 - 1) x)
  | f + 1, .node o l r, k, x => if k = 0 then .node (some x) l r else if k % 2 = 1 then .node o (Tr.set f l (k / 2) x) r else .node o l (Tr.set f r (k / 2 - 1) x)
theorem Tr.get_set (x : AObj) : ∀ (f : Nat) (t : Tr) (k j : Nat), k < f → (Tr.set f t k x).get j = if j = k then some x else t.get j
  | 0, _, _, _, h => absurd h (Nat.not_lt_zero _)
  | f + 1, .nil, k, j, h => by
    unfold Tr.set
    by_cases k0 : k = 0
    · subst k0
      simp only [if_true]
      by_cases j0 : j = 0
      · simp [Tr.get, j0]
      · simp [Tr.get, j0]
    · rw [if_neg k0]
      by_cases ko : k % 2 = 1
      · rw [if_pos ko]
        by_cases j0 : j = 0
        · subst j0; simp [Tr.get, Ne.symm k0]
        · by_cases jo : j % 2 = 1
          · have := Tr.get_set x f .nil (k / 2) (j / 2) (by omega)
            simp only [Tr.get, if_neg j0, if_pos jo] at this ⊢
            rw [this]
            by_cases e : j = k
            · subst e; simp
            · rw [if_neg e, if_neg (by omega)]
          · simp only [Tr.get, if_neg j0, if_neg jo]
            rw [if_neg (by omega)]
      · rw [if_neg ko]
        by_cases j0 : j = 0
        · subst j0; simp [Tr.get, Ne.symm k0]
        · by_cases jo : j % 2 = 1
          · simp only [Tr.get, if_neg j0, if_pos jo]
            rw [if_neg (by omega)]
          · have := Tr.get_set x f .nil (k / 2 - 1) (j / 2 - 1) (by omega)
            simp only [Tr.get, if_neg j0, if_neg jo] at this ⊢
            rw [this]
            by_cases e : j = k
            · subst e; simp
            · rw [if_neg e, if_neg (by omega)]
  | f + 1, .node o l r, k, j, h => by
    unfold Tr.set
    by_cases k0 : k = 0
    · subst k0
      simp only [if_true]
      by_cases j0 : j = 0
      · simp [Tr.get, j0]
      · simp [Tr.get, j0]
    · rw [if_neg k0]
      by_cases ko : k % 2 = 1
      · rw [if_pos ko]
        by_cases j0 : j = 0
        · subst j0; simp [Tr.get, Ne.symm k0]
        · by_cases jo : j % 2 = 1
          · have := Tr.get_set x f l (k / 2) (j / 2) (by omega)
            simp only [Tr.get, if_neg j0, if_pos jo]
            rw [this]
            by_cases e : j = k
            · subst e; simp
            · rw [if_neg e, if_neg (by omega)]
          · simp only [Tr.get, if_neg j0, if_neg jo]
            rw [if_neg (by omega)]
      · rw [if_neg ko]
        by_cases j0 : j = 0
        · subst j0; simp [Tr.get, Ne.symm k0]
        · by_cases jo : j % 2 = 1
          · simp only [Tr.get, if_neg j0, if_pos jo]
            rw [if_neg (by omega)]
          · have := Tr.get_set x f r (k / 2 - 1) (j / 2 - 1) (by omega)
            simp only [Tr.get, if_neg j0, if_neg jo]
            rw [this]
            by_cases e : j = k
            · subst e; simp
            · rw [if_neg e, if_neg (by omega)]

structure AH where
  n : Nat
  t : Tr
def AH.get (h : AH) (p : Nat) : Option AObj := h.t.get p
def AH.set (h : AH) (p : Nat) (o : AObj) : AH := ⟨h.n, Tr.set (p + 1) h.t p o⟩
def AH.push (h : AH) (o : AObj) : AH := ⟨h.n + 1, Tr.set (h.n + 1) h.t h.n o⟩
def AH.empty : AH := ⟨0, .nil⟩
@[simp] theorem AH.get_empty (q : Nat) : AH.empty.get q = none := rfl
theorem AH.get_set (h : AH) (p : Nat) (o : AObj) (q : Nat) : (h.set p o).get q = if q = p then some o else h.get q := Tr.get_set o (p + 1) h.t p q (Nat.lt_succ_self _)
theorem AH.get_push (h : AH) (o : AObj) (q : Nat) : (h.push o).get q = if q = h.n then some o else h.get q := Tr.get_set o (h.n + 1) h.t h.n q (Nat.lt_succ_self _)
@[simp] theorem AH.n_set (h : AH) (p : Nat) (o : AObj) : (h.set p o).n = h.n := rfl
@[simp] theorem AH.n_push (h : AH) (o : AObj) : (h.push o).n = h.n + 1 := rfl
/-- nothing lies beyond -/
def AH.Wf (h : AH) : Prop := ∀ q o, h.get q = some o → q < h.n
theorem AH.Wf.empty : AH.empty.Wf := fun _ _ e => nomatch e
theorem AH.Wf.push {h : AH} (w : h.Wf) (o : AObj) : (h.push o).Wf := fun q u e => by
  rw [AH.get_push] at e
  split at e
  · subst_vars; exact Nat.lt_succ_self _
  · exact Nat.lt_succ_of_lt (w q u e)
theorem AH.Wf.set {h : AH} (w : h.Wf) {p : Nat} (o : AObj) (hp : p < h.n) : (h.set p o).Wf := fun q u e => by
  rw [AH.get_set] at e
  split at e
  · subst_vars; exact hp
  · exact w q u e

/-! ### what a step gives -/
inductive Res (α : Type) where
  | ok (a : α) (h : AH) | err (c : Nat) (v : AV) (h : AH) | bad
def M (α : Type) := AH → Res α
@[inline] def M.pure {α : Type} (a : α) : M α := fun h => .ok a h
@[inline] def M.bind {α β : Type} (m : M α) (f : α → M β) : M β := fun h => match m h with
  | .ok a h' => f a h'
  | .err c v h' => .err c v h'
  | .bad => .bad
instance : Monad M where
  pure := M.pure
  bind := M.bind
def bad {α : Type} : M α := fun _ => .bad
def ofO {α : Type} : Option α → M α
  | some a => pure a
  | none => bad
def guardM (b : Bool) : M Unit := if b then pure () else bad
def getO (p : Nat) : M AObj := fun h => match h.get p with
  | some o => .ok o h
  | none => .bad
def setO (p : Nat) (o : AObj) : M Unit := fun h => .ok () (h.set p o)
def newO (o : AObj) : M AV := fun h => .ok (.ref h.n) (h.push o)
def heapM : M AH := fun h => .ok h h
@[simp] theorem pure_ap {α : Type} (a : α) (h : AH) : (pure a : M α) h = .ok a h := rfl
@[simp] theorem bad_ap {α : Type} (h : AH) : (bad : M α) h = .bad := rfl
theorem bind_ap {α β : Type} (m : M α) (f : α → M β) (h : AH) : (m >>= f) h = match m h with
  | .ok a h' => f a h'
  | .err c v h' => .err c v h'
  | .bad => .bad := rfl
theorem bind_ok {α β : Type} {m : M α} {f : α → M β} {h h' : AH} {a : α} (e : m h = .ok a h') : (m >>= f) h = f a h' := by rw [bind_ap, e]
theorem bind_inv {α β : Type} {m : M α} {f : α → M β} {h h' : AH} {b : β} (e : (m >>= f) h = .ok b h') : ∃ a h1, m h = .ok a h1 ∧ f a h1 = .ok b h' := by
  rw [bind_ap] at e
  cases q : m h with
  | ok a h1 => rw [q] at e; exact ⟨a, h1, rfl, e⟩
  | err c v h1 => rw [q] at e; cases e
  | bad => rw [q] at e; cases e
theorem ofO_inv {α : Type} {o : Option α} {h h' : AH} {a : α} (e : ofO o h = .ok a h') : o = some a ∧ h' = h := by
  cases o with
  | none => cases e
  | some b => cases e; exact ⟨rfl, rfl⟩
theorem guardM_inv {b : Bool} {h h' : AH} {u : Unit} (e : guardM b h = .ok u h') : b = true ∧ h' = h := by
  cases b with
  | false => cases e
  | true => cases e; exact ⟨rfl, rfl⟩
theorem getO_inv {p : Nat} {h h' : AH} {o : AObj} (e : getO p h = .ok o h') : h.get p = some o ∧ h' = h := by
  unfold getO at e
  split at e
  · cases e; exact ⟨by assumption, rfl⟩
  · cases e
theorem pure_inv {α : Type} {a b : α} {h h' : AH} (e : (pure a : M α) h = .ok b h') : b = a ∧ h' = h := by cases e; exact ⟨rfl, rfl⟩
theorem newO_inv {o : AObj} {h h' : AH} {v : AV} (e : newO o h = .ok v h') : v = .ref h.n ∧ h' = h.push o := by cases e; exact ⟨rfl, rfl⟩
theorem setO_inv {p : Nat} {o : AObj} {h h' : AH} {u : Unit} (e : setO p o h = .ok u h') : h' = h.set p o := by cases e; rfl
theorem bad_inv {α : Type} {h h' : AH} {a : α} {P : Prop} (e : (bad : M α) h = .ok a h') : P := by cases e
theorem ifB_inv {α : Type} {b : Bool} {m m' : M α} {h h' : AH} {a : α} (e : (if b = true then m else m') h = .ok a h') : (b = true ∧ m h = .ok a h') ∨ (b = false ∧ m' h = .ok a h') := by
  cases b with
  | true => exact .inl ⟨rfl, e⟩
  | false => exact .inr ⟨rfl, by simpa using e⟩

/-! ### the text: expressions and statements by slots. One type for expressions, their lists (nil, cons, star) and targets -/
/-- built-in functions, by what they are called with -/
inductive B where
  | len | abs | max | min | sum | all | any | sorted | repr | isinstance | int | str | list | tuple | dict | setlen | bool | listrange | tuplerange | listzip | listitems | dictof | edict | ftuple
  deriving DecidableEq, Inhabited
/-- what a for or a comprehension walks: the value of an expression itself, or a range, enumerate, zip of the values of some -/
inductive IK where
  | self | range | enum | zip | items | values | reversed
  deriving DecidableEq, Inhabited
inductive E where
  | v (i : Nat)
  | k (a : AV)
  | bin (op : Operator) (a b : E)
  | neg (a : E)
  | not (a : E)
  | and (a b : E)
  | or (a b : E)
  | ite (t a b : E)
  | cmp (op : CmpOp) (a b : E)
  | chain (op op' : CmpOp) (a b c : E)
  | call (f : Nat) (args : E)
  | callK (f : Nat) (perm : List Nat) (args kws : E)
  | newK (c f : Nat) (perm : List Nat) (args kws : E)
  | new (c : Nat) (args : E)
  | blt (b : B) (args : E)
  | meth (o : E) (m : Nat) (args : E)
  | attr (o : E) (f : Nat)
  | ix (o i : E)
  | sl (o lo hi : E)
  | rev (o : E)
  | lst (es : E)
  | tup (es : E)
  | dic (kvs : E)
  | lc (elt tg : E) (ik : IK) (it : E) (test : E) (own : List Nat)
  | no
  | nil
  | cons (e es : E)
  | star (e es : E)
  deriving Inhabited
inductive S where
  | asg (t e : E)
  | par (is : List Nat) (es : E)
  | aug (op : Operator) (t e : E)
  | ex (e : E)
  | ret (e : E)
  | ife (t : E) (a b : S)
  | for_ (tg : E) (ik : IK) (it : E) (body : S)
  | while_ (t : E) (body : S)
  | brk | cnt | pass
  | raise (c : Nat) (e : E)
  | done
  | seq (a b : S)
  deriving Inhabited

abbrev Loc := List (Option AV)
/-- how a block ends -/
inductive Fl where
  | nx (σ : Loc) | rt (v : AV) | bk (σ : Loc) | ct (σ : Loc)

/-! ### plain helpers over data -/
def sizeLineB (n : Nat) : Bool := decide (n ≤ 16777216)
def mapO {α β : Type} (f : α → Option β) : List α → Option (List β)
  | [] => some []
  | x :: xs => match f x, mapO f xs with
    | some y, some ys => some (y :: ys)
    | _, _ => none
/-- the data that a value is: numbers, texts, tuples, lists -/
def toD : Nat → AH → AV → Option PyData
  | 0, _, _ => none
  | _ + 1, _, .non => some .none
  | _ + 1, _, .bl b => some (.bool b)
  | _ + 1, _, .int i => some (.int i)
  | _ + 1, _, .str x => some (.str ⟨x.toArray⟩)
  | f + 1, h, .tup xs => (mapO (toD f h) xs).map .tuple
  | f + 1, h, .ktp xs => (mapO (toD f h) xs).map .tuple
  | f + 1, h, .ref p => match h.get p with
    | some (.lst xs) => (mapO (toD f h) xs).map .list
    | some (.ro (.lst xs)) => (mapO (toD f h) xs).map .list
    | _ => none
  | _ + 1, _, _ => none
/-- == of flat values -/
def eqF : AV → AV → Option Bool
  | .str x, .str y => some (decide (x = y))
  | .int i, .int j => some (decide (i = j))
  | .bl a, .bl b => some (decide (a = b))
  | .non, .non => some true
  | .non, .int _ | .int _, .non | .non, .bl _ | .bl _, .non | .non, .str _ | .str _, .non | .int _, .str _ | .str _, .int _ | .bl _, .str _ | .str _, .bl _ => some false
  | _, _ => none
/-- == of two values: flat ones at once, others by their data -/
def eqA (h : AH) (a b : AV) : Option Bool :=
  match eqF a b with
  | some r => some r
  | none => match toD 60 h a, toD 60 h b with
    | some d, some e => if SeqAt.shaped d && SeqAt.shaped e then some (PyData.eqv d e) else none
    | _, _ => none
def truA (h : AH) : AV → Option Bool
  | .non => some false
  | .bl b => some b
  | .int i => some (i != 0)
  | .str x => if sizeLineB x.length then some (x.length != 0) else none
  | .tup xs => some (!xs.isEmpty)
  | .ref p => match h.get p with
    | some (.lst xs) => some (!xs.isEmpty)
    | some (.ro (.lst xs)) => some (!xs.isEmpty)
    | _ => none
  | _ => none
/-- items of a list or a tuple -/
def seqA (h : AH) : AV → Option (List AV)
  | .tup xs => some xs
  | .ref p => match h.get p with
    | some (.lst xs) => some xs
    | some (.ro (.lst xs)) => some xs
    | _ => none
  | _ => none
def ixN (n : Nat) (i : Int) : Option Nat := if 0 ≤ i then (if i < n then some i.toNat else none) else if -(n : Int) ≤ i then some (i + n).toNat else none
def atI {α : Type} (xs : List α) (i : Int) : Option α := (ixN xs.length i).bind fun j => xs[j]?
end PM
end
section
/-! PMB: the interpreter. -/
namespace PM
open PySem

/-! ### numbers, texts -/
def intL (i : Int) : List Nat := if i < 0 then 45 :: TL.numL i.natAbs else TL.numL i.natAbs
def isDig (c : Nat) : Bool := decide (48 ≤ c ∧ c ≤ 57)
abbrev digV (x : List Nat) : Nat := NumText.digitsVal x
def canon (x : List Nat) : Bool := !x.isEmpty && x.all isDig && decide (x.length ≤ 640)
def cutA {α : Type} (xs : List α) (lo hi : Option Int) : List α := (xs.drop (HT.sIx xs.length 0 lo)).take (HT.sIx xs.length xs.length hi - HT.sIx xs.length 0 lo)

def lstO (p : Nat) : M (List AV) := fun h => match h.get p with
  | some (.lst xs) => .ok xs h
  | some (.ro (.lst xs)) => .ok xs h
  | _ => .bad
def seqO (p : Nat) : M (List AV) := fun h => match h.get p with
  | some (.lst xs) => .ok xs h
  | some (.ro (.lst xs)) => .ok xs h
  | some (.ftup xs) => .ok xs h
  | _ => .bad
/-- a list that may be changed -/
def lstW (p : Nat) : M (List AV) := fun h => match h.get p with
  | some (.lst xs) => .ok xs h
  | _ => .bad
def dicO (p : Nat) : M (List (AV × AV)) := fun h => match h.get p with
  | some (.dic xs) => .ok xs h
  | some (.ro (.dic xs)) => .ok xs h
  | _ => .bad
def dicW (p : Nat) : M (List (AV × AV)) := fun h => match h.get p with
  | some (.dic xs) => .ok xs h
  | _ => .bad
def insO (p : Nat) : M (Nat × List (Nat × AV)) := fun h => match h.get p with
  | some (.ins c fs) => .ok (c, fs) h
  | _ => .bad

def tmpO (p : Nat) : M Unit := fun h => match h.get p with
  | some .tmp => .ok () h
  | _ => .bad
/-- the unlike ones of a row, as they are first met -/
def addL (l : List (List Nat)) (x : List Nat) : List (List Nat) := if l.any (· == x) then l else l ++ [x]
/-! ### keys -/
/-- ints and texts; flat tuples of them -/
def keyF : AV → Bool
  | .int _ => true
  | .str _ => true
  | _ => false
def keyT : AV → Bool
  | .tup xs => xs.all keyF
  | _ => false
def keyE : AV → AV → Bool
  | .int i, .int j => decide (i = j)
  | .str x, .str y => decide (x = y)
  | _, _ => false
def keyEs : List AV → List AV → Bool
  | [], [] => true
  | x :: xs, y :: ys => keyE x y && keyEs xs ys
  | _, _ => false
def keyB : AV → AV → Bool
  | .tup xs, .tup ys => keyEs xs ys
  | a, b => keyE a b
def look (kvs : List (AV × AV)) (k : AV) : Option AV := (kvs.find? fun kv => keyB kv.1 k).map (·.2)
def put (kvs : List (AV × AV)) (k v : AV) : List (AV × AV) := if kvs.any (fun kv => keyB kv.1 k) then kvs.map (fun kv => if keyB kv.1 k then (kv.1, v) else kv) else kvs ++ [(k, v)]
/-- a key that may be asked of such a dict: of the kind of its keys -/
def keyOk (kvs : List (AV × AV)) (k : AV) : Bool := (keyF k && kvs.all fun kv => keyF kv.1) || (keyT k && kvs.all fun kv => keyT kv.1)

def keyOkR (kvs : List (AV × AV)) (k : AV) : Bool := !kvs.isEmpty && keyOk kvs k
/-- a dict that is asked for such a key -/
def dicR (p : Nat) (k : AV) : M (List (AV × AV)) := fun h => match h.get p with
  | some (.dic kvs) => if keyOk kvs k then .ok kvs h else .bad
  | some (.ro (.dic kvs)) => if keyOkR kvs k then .ok kvs h else .bad
  | _ => .bad

/-! ### operators -/
def binA (op : Operator) (a b : AV) : M AV :=
  match op, a, b with
  | .Add, .int i, .int j => pure (.int (i + j))
  | .Add, .int i, .bl k => pure (.int (i + PyProof.Rows.b2i k))
  | .Add, .str x, .str y => do guardM (sizeLineB (x.length + y.length)); pure (.str (x ++ y))
  | .Add, .tup x, .tup y => do guardM (sizeLineB (x.length + y.length)); pure (.tup (x ++ y))
  | .Add, .ref p, .ref q => do
    let x ← lstW p
    let y ← lstW q
    guardM (sizeLineB (x.length + y.length))
    newO (.lst (x ++ y))
  | .Sub, .int i, .int j => pure (.int (i - j))
  | .Mult, .int i, .int j => do guardM (decide ((Builtin.Int.intBits i : Int) + (Builtin.Int.intBits j : Int) ≤ 134217728)); pure (.int (i * j))
  | .FloorDiv, .int i, .int j => do guardM (decide (0 < j ∧ j.natAbs.log2 < 9000)); pure (.int (i / j))
  | .Mod, .int i, .int j => do guardM (decide (0 < j)); pure (.int (i % j))
  | .Pow, .int i, .int j => do guardM (decide (0 ≤ j ∧ (Builtin.Int.intBits i : Int) * j ≤ 134217728)); pure (.int (i ^ j.toNat))
  | .LShift, .int i, .int j => do guardM (decide (0 ≤ j ∧ (Builtin.Int.intBits i : Int) + j ≤ 134217728)); pure (.int (i * 2 ^ j.toNat))
  | .RShift, .int i, .int j => do guardM (decide (0 ≤ j)); pure (.int (i / 2 ^ j.toNat))
  | .BitAnd, .int i, .int j => pure (.int (Builtin.bitAnd i j))
  | _, _, _ => bad
/-- x in a row of values: each compared -/
def inS (h : AH) (x : AV) (xs : List AV) : Option Bool := (mapO (fun y => eqA h y x) xs).map (·.any id)
def isNonB : AV → Bool
  | .non => true
  | _ => false
structure Fn where
  np : Nat
  ns : Nat
  body : S
  deriving Inhabited
structure Cl where
  init : Option Nat
  meths : List (Nat × Nat)
  props : List (Nat × Nat)
  eq : Option Nat
  len : Option Nat
  flds : List Nat
  deriving Inhabited
structure Pg where
  fn : Nat → Option Fn
  cl : Nat → Option Cl
  gd : Nat → Option (List (AV × AV))
  gq : Nat → Option (List (AV × AV))
abbrev CF := Nat → List AV → M AV

/-- an own method's number for a special name -/
def ownOf (P : Pg) (sel : Cl → Option Nat) (a : AV) (h : AH) : Option Nat := match a with
  | .ref p => match h.get p with
    | some (.ins c _) => (P.cl c).bind sel
    | _ => none
  | _ => none
/-- an own method of a thing whose fields are its class's -/
def ownM (P : Pg) (m : Nat) (a : AV) (h : AH) : Option Nat := match a with
  | .ref p => match h.get p with
    | some (.ins c fs) => match P.cl c with
      | some cl => if fs.all (fun q => cl.flds.contains q.1) then cl.meths.lookup m else none
      | none => none
    | _ => none
  | _ => none
def eqM (a b : AV) : M Bool := fun h => match eqA h a b with
  | some r => .ok r h
  | none => .bad
def inL (x : AV) (xs : List AV) : M Bool := fun h => match inS h x xs with
  | some r => .ok r h
  | none => .bad
def inM (x y : AV) : M Bool := match y with
  | .str z => match x with
    | .str [c] => pure (decide (c ∈ z))
    | _ => bad
  | .ref p => do
    match ← getO p with
    | .dic _ => do let kvs ← dicR p x; pure (look kvs x).isSome
    | .ro (.dic _) => do let kvs ← dicR p x; pure (look kvs x).isSome
    | .lst xs => inL x xs
    | .ro (.lst xs) => inL x xs
    | _ => bad
  | .tup xs => inL x xs
  | .ktp xs => inL x xs
  | _ => bad
def inG (P : Pg) (x y : AV) : M Bool := match y with
  | .gdc d => do
    let kvs ← ofO (P.gd d)
    guardM (keyF x)
    pure (look kvs x).isSome
  | _ => inM x y
def ltL : List Nat → List Nat → Bool
  | [], [] => false
  | [], _ :: _ => true
  | _ :: _, [] => false
  | x :: xs, y :: ys => if x = y then ltL xs ys else decide (x < y)
/-- the name of a value's built-in type -/
def tyA (h : AH) : AV → Option String
  | .non => some "NoneType"
  | .bl _ => some "bool"
  | .int _ => some "int"
  | .str _ => some "str"
  | .tup _ => some "tuple"
  | .ref p => match h.get p with
    | some (.lst _) => some "list"
    | some (.dic _) => some "dict"
    | some (.ftup _) => some "tuple"
    | _ => none
  | _ => none
/-- a value whose type is known -/
def tyKnown (P : Pg) (h : AH) (b : AV) : Bool := (tyA h b).isSome || match b with
  | .ref p => match h.get p with
    | some (.ins c _) => (P.cl c).isSome
    | _ => false
  | _ => false
def cmpA (P : Pg) (cf : CF) (op : CmpOp) (a b : AV) : M Bool :=
  match op with
  | .Eq => do
    let h ← heapM
    match ownOf P (·.eq) a h with
    | some f => do
      guardM (tyKnown P h b)
      match ← cf f [a, b] with
      | .bl r => pure r
      | _ => bad
    | none => eqM a b
  | .NotEq => do
    let h ← heapM
    match ownOf P (·.eq) a h with
    | some f => do
      guardM (tyKnown P h b)
      match ← cf f [a, b] with
      | .bl r => pure !r
      | _ => bad
    | none => do
      let r ← eqM a b
      pure !r
  | .Lt => match a, b with
    | .int i, .int j => pure (decide (i < j))
    | _, _ => bad
  | .LtE => match a, b with
    | .int i, .int j => pure (decide (i ≤ j))
    | _, _ => bad
  | .Gt => match a, b with
    | .int i, .int j => pure (decide (j < i))
    | _, _ => bad
  | .GtE => match a, b with
    | .int i, .int j => pure (decide (j ≤ i))
    | _, _ => bad
  | .Is => do guardM (isNonB b); pure (isNonB a)
  | .IsNot => do guardM (isNonB b); pure (!isNonB a)
  | .In => inG P a b
  | .NotIn => do
    let r ← inG P a b
    pure !r

/-! ### items, slices -/
def ixA (P : Pg) (o i : AV) : M AV := match o with
  | .str x => match i with
    | .int i => do
      guardM (sizeLineB x.length)
      let c ← ofO (atI x i)
      pure (.str [c])
    | _ => bad
  | .tup xs => match i with
    | .int i => ofO (atI xs i)
    | _ => bad
  | .gdc d => do
    let kvs ← ofO (P.gd d)
    guardM (keyF i)
    ofO (look kvs i)
  | .ref p => do
    match ← getO p with
    | .lst xs => match i with
      | .int i => ofO (atI xs i)
      | _ => bad
    | .ro (.lst xs) => match i with
      | .int i => ofO (atI xs i)
      | _ => bad
    | .dic _ => do let kvs ← dicR p i; ofO (look kvs i)
    | .ro (.dic _) => do let kvs ← dicR p i; ofO (look kvs i)
    | _ => bad
  | _ => bad
def slA (o : AV) (lo hi : Option Int) : M AV := match o with
  | .str x => do guardM (sizeLineB x.length); pure (.str (cutA x lo hi))
  | .tup xs => pure (.tup (cutA xs lo hi))
  | .ref p => do let xs ← lstO p; newO (.lst (cutA xs lo hi))
  | _ => bad
def setIx (o i v : AV) : M Unit := match o with
  | .ref p => do
    match ← getO p with
    | .lst xs => match i with
      | .int i => do
        let j ← ofO (ixN xs.length i)
        setO p (.lst (xs.set j v))
      | _ => bad
    | .dic kvs => do
      guardM (keyOk kvs i && decide (kvs.length < 16777216))
      setO p (.dic (put kvs i v))
    | _ => bad
  | _ => bad
def putF (f : Nat) (v : AV) : List (Nat × AV) → List (Nat × AV)
  | [] => [(f, v)]
  | (g, u) :: r => if g = f then (g, v) :: r else (g, u) :: putF f v r
def setAt (P : Pg) (o : AV) (f : Nat) (v : AV) : M Unit := match o with
  | .ref p => do
    let x ← insO p
    let cl ← ofO (P.cl x.1)
    guardM (cl.flds.contains f && decide (x.2.length < 1000))
    setO p (.ins x.1 (putF f v x.2))
  | _ => bad
def getAt (P : Pg) (cf : CF) (o : AV) (f : Nat) : M AV := match o with
  | .ref p => do
    let x ← insO p
    let cl ← ofO (P.cl x.1)
    match cl.props.lookup f with
    | some g => cf g [o]
    | none => do
      guardM (cl.flds.contains f)
      ofO (x.2.lookup f)
  | _ => bad

/-! ### built-in functions -/
def sumI : List AV → Option Int
  | [] => some 0
  | .int i :: r => (sumI r).map (i + ·)
  | _ :: _ => none
def bls : List AV → Option (List Bool)
  | [] => some []
  | .bl b :: r => (bls r).map (b :: ·)
  | _ :: _ => none
def intsO : List AV → Option (List Int)
  | [] => some []
  | .int i :: r => (intsO r).map (i :: ·)
  | _ :: _ => none
def strsO : List AV → Option (List (List Nat))
  | [] => some []
  | .str x :: r => (strsO r).map (x :: ·)
  | _ :: _ => none
def insI (i : Int) : List Int → List Int
  | [] => [i]
  | j :: r => if i ≤ j then i :: j :: r else j :: insI i r
def sortI : List Int → List Int
  | [] => []
  | i :: r => insI i (sortI r)
def isTy (a b : String) : Bool := a == b || (a == "bool" && b == "int")
def pairsO : List AV → Option (List (AV × AV))
  | [] => some []
  | .tup [k, v] :: r => (pairsO r).map ((k, v) :: ·)
  | _ :: _ => none
def putAll (kvs : List (AV × AV)) : List (AV × AV) → List (AV × AV)
  | [] => kvs
  | (k, v) :: r => putAll (put kvs k v) r
def reprA (h : AH) (a : AV) : Option (List Nat) := match toD 60 h a with
  | some d => if d.showable && !d.hasDict && decide (d.shown.length + 64 ≤ 16777216) then some d.shown.cps.toList else none
  | none => none
def bltA (P : Pg) (b : B) (vs : List AV) : M AV :=
  match b, vs with
  | .len, [.str x] => do guardM (sizeLineB x.length); pure (.int x.length)
  | .len, [.tup xs] => pure (.int xs.length)
  | .len, [.ref p] => do
    match ← getO p with
    | .lst xs => pure (.int xs.length)
    | .ro (.lst xs) => pure (.int xs.length)
    | .dic kvs => pure (.int kvs.length)
    | .ftup xs => pure (.int xs.length)
    | _ => bad
  | .abs, [.int i] => pure (.int (if i < 0 then -i else i))
  | .max, [.int i, .int j] => pure (.int (if j > i then j else i))
  | .min, [.int i, .int j] => pure (.int (if j < i then j else i))
  | .sum, [.ref p] => do
    let xs ← lstO p
    let i ← ofO (sumI xs)
    pure (.int i)
  | .all, [.ref p] => do
    let xs ← lstO p
    let bs ← ofO (bls xs)
    pure (.bl (bs.all id))
  | .any, [.ref p] => do
    let xs ← lstO p
    let bs ← ofO (bls xs)
    pure (.bl (bs.any id))
  | .sorted, [.ref p] => do
    let xs ← lstO p
    let is ← ofO (intsO xs)
    newO (.lst ((sortI is).map .int))
  | .repr, [a] => do
    let h ← heapM
    let x ← ofO (reprA h a)
    pure (.str x)
  | .isinstance, [a, .ty T] => do
    guardM (["int", "str", "bool", "tuple", "list", "dict"].contains T)
    let h ← heapM
    match ownOf P (fun _ => some 0) a h with
    | some _ => pure (.bl false)
    | none => do
      let t ← ofO (tyA h a)
      pure (.bl (isTy t T))
  | .isinstance, [a, .glo c] => do
    let h ← heapM
    match a with
    | .ref p => do
      match ← getO p with
      | .ins c' _ => do
        let _ ← ofO (P.cl c')
        let _ ← ofO (P.cl c)
        pure (.bl (decide (c' = c)))
      | _ => do
        let _ ← ofO (tyA h a)
        let _ ← ofO (P.cl c)
        pure (.bl false)
    | _ => do
      let _ ← ofO (tyA h a)
      let _ ← ofO (P.cl c)
      pure (.bl false)
  | .int, [.int i] => pure (.int i)
  | .int, [.bl k] => pure (.int (if k then 1 else 0))
  | .int, [.str x] => do guardM (canon x); pure (.int (digV x : Nat))
  | .bool, [.int i] => pure (.bl (i != 0))
  | .str, [.int i] => do guardM (decide (i.natAbs.log2 < 1920)); pure (.str (intL i))
  | .str, [.str x] => pure (.str x)
  | .list, [.tup xs] => newO (.lst xs)
  | .list, [.ref p] => do
    let xs ← lstO p
    newO (.lst xs)
  | .tuple, [.tup xs] => pure (.tup xs)
  | .tuple, [.ref p] => do
    let xs ← lstO p
    pure (.tup xs)
  | .ftuple, [.ref p] => do
    let xs ← lstO p
    newO (.ftup xs)
  | .dict, [.ref p] => do
    let xs ← seqO p
    let ps ← ofO (pairsO xs)
    guardM (ps.all fun kv => keyF kv.1)
    newO (.dic (putAll [] ps))
  | .setlen, [.tup xs] => do
    let ys ← ofO (strsO xs)
    guardM (decide (ys.length < 4000))
    pure (.int ((ys.foldl addL []).length : Nat))
  | .setlen, [.ref p] => do
    let xs ← lstO p
    let ys ← ofO (strsO xs)
    guardM (decide (ys.length < 4000))
    pure (.int ((ys.foldl addL []).length : Nat))
  | .listrange, [.int n] => do
    guardM (decide (-(2 ^ 62) ≤ n ∧ n ≤ 16777216))
    newO (.lst ((List.range n.toNat).map fun k => .int (k : Nat)))
  | .listrange, [.int a, .int b] => do
    guardM (decide (-(2 ^ 62) ≤ a ∧ a < 2 ^ 62 ∧ -(2 ^ 62) ≤ b ∧ b < 2 ^ 62 ∧ (b - a).toNat ≤ 16777216))
    newO (.lst ((List.range (b - a).toNat).map fun k => .int (a + (k : Nat))))
  | .tuplerange, [.int n] => do
    guardM (decide (-(2 ^ 62) ≤ n ∧ n ≤ 16777216))
    pure (.tup ((List.range n.toNat).map fun k => .int (k : Nat)))
  | .listzip, [.ref p, .ref q] => do
    let xs ← lstO p
    let ys ← lstO q
    newO (.lst ((xs.zip ys).map fun p => .tup [p.1, p.2]))
  | .listitems, [.ref p] => do
    let kvs ← dicO p
    newO (.lst (kvs.map fun p => .tup [p.1, p.2]))
  | _, _ => bad

/-! ### methods of built-in types: numbers of their names -/
abbrev mAppend : Nat := 0
abbrev mExtend : Nat := 1
abbrev mPop : Nat := 2
abbrev mGet : Nat := 3
abbrev mJoin : Nat := 4
abbrev mSplit : Nat := 5
abbrev mIndex : Nat := 6
abbrev mCount : Nat := 7
abbrev mUpdate : Nat := 8
abbrev mItems : Nat := 9
abbrev mEndswith : Nat := 10
abbrev mSetdefault : Nat := 11
abbrev mFind : Nat := 12
inductive RT where
  | str | lst | dic
  deriving DecidableEq, Inhabited
/-- what kind of thing a built-in method is asked of -/
def recv (h : AH) : AV → Option RT
  | .str _ => some .str
  | .ref p => match h.get p with
    | some (.lst _) => some .lst
    | some (.ro (.lst _)) => some .lst
    | some (.dic _) => some .dic
    | _ => none
  | _ => none
def bMeth (m : Nat) (t : RT) (o : AV) (vs : List AV) : M AV :=
  match m, t, o, vs with
  | 0, .lst, .ref p, [y] => do
    let xs ← lstW p
    guardM (decide (xs.length < 16777216))
    setO p (.lst (xs ++ [y]))
    pure .non
  | 1, .lst, .ref p, [.ref q] => do
    let xs ← lstW p
    let ys ← lstW q
    guardM (sizeLineB (xs.length + ys.length))
    setO p (.lst (xs ++ ys))
    pure .non
  | 2, .lst, .ref p, [] => do
    let xs ← lstW p
    let y ← ofO xs[xs.length - 1]?
    setO p (.lst xs.dropLast)
    pure y
  | 2, .lst, .ref p, [.int i] => do
    let xs ← lstW p
    guardM (decide (-(2 ^ 63) ≤ i ∧ i < 2 ^ 63))
    let j ← ofO (ixN xs.length i)
    let y ← ofO xs[j]?
    setO p (.lst (xs.eraseIdx j))
    pure y
  | 3, .dic, .ref p, [k] => do
    let kvs ← dicR p k
    pure ((look kvs k).getD .non)
  | 3, .dic, .ref p, [k, d] => do
    let kvs ← dicR p k
    pure ((look kvs k).getD d)
  | 4, .str, .str sep, [.ref p] => do
    let xs ← lstO p
    let ys ← ofO (strsO xs)
    guardM (decide ((ys.map (·.length)).sum + ys.length * sep.length ≤ 16777216))
    pure (.str (TL.joinL sep ys))
  | 5, .str, .str x, [.str sep] => do
    guardM (!sep.isEmpty && sep.all (· < 256) && decide (x.length + 2 ≤ 16777216))
    newO (.lst ((TL.spl sep 0 [] x).map .str))
  | 10, .str, .str x, [.str y] => pure (.bl (Txt.endswith ⟨x.toArray⟩ ⟨y.toArray⟩))
  | 12, .str, .str x, [.str y] => pure (.int (Txt.find ⟨x.toArray⟩ ⟨y.toArray⟩))
  | 8, .dic, .ref p, [.ref q] => do
    let kvs ← dicW p
    let more ← dicW q
    guardM (decide (p ≠ q) && (kvs.all (fun kv => keyF kv.1) && (more.all (fun kv => keyF kv.1) && sizeLineB (kvs.length + more.length))))
    setO p (.dic (putAll kvs more))
    pure .non
  | 7, .str, .str x, [.str y] => pure (.int (Txt.count ⟨x.toArray⟩ ⟨y.toArray⟩))
  | _, _, _, _ => bad

/-! ### what is walked -/
inductive Src where
  | lst (p : Nat) | fix (xs : List AV) | enum (s : Src) | zip (a b : Src) | enumT (xs : List AV) | zipG (a b : Src) | ftp (p : Nat)
def Src.at : Src → Nat → M (Option AV)
  | .lst p, i => do let xs ← lstO p; pure xs[i]?
  | .fix xs, i => pure xs[i]?
  | .ftp p, i => fun h => match h.get p with
    | some (.ftup xs) => .ok xs[i]? h
    | _ => .bad
  | .enum s, i => do
    match ← s.at i with
    | some x => pure (some (.tup [.int i, x]))
    | none => pure none
  | .zip a b, i => do
    match ← a.at i with
    | some x => do
      match ← b.at i with
      | some y => pure (some (.tup [x, y]))
      | none => pure none
    | none => do
      let _ ← b.at i
      pure none
  | .enumT xs, i => match xs[i]? with
    | some x => pure (some (.tup [.int i, x]))
    | none => do
      guardM (decide (i = xs.length))
      pure none
  | .zipG a b, i => do
    let o ← a.at i
    let o' ← b.at i
    match o, o' with
    | some x, some y => pure (some (.tup [x, y]))
    | _, _ => do
      let p ← a.at (i - 1)
      let p' ← b.at (i - 1)
      guardM (decide (i = 0) || (p.isSome && p'.isSome))
      pure none
def Src.most : Src → AH → Nat
  | .lst p, h => match h.get p with
    | some (.lst xs) => xs.length
    | some (.ro (.lst xs)) => xs.length
    | _ => 0
  | .fix xs, _ => xs.length
  | .ftp p, h => match h.get p with
    | some (.ftup xs) => xs.length
    | _ => 0
  | .enum s, h => s.most h
  | .zip a b, h => min (a.most h) (b.most h)
  | .enumT xs, _ => xs.length
  | .zipG a b, h => min (a.most h) (b.most h)
def srcOf (a : AV) : M Src := match a with
  | .str x => pure (.fix (x.map fun c => .str [c]))
  | .tup xs => pure (.fix xs)
  | .ktp xs => pure (.fix xs)
  | .ref p => do
    match ← getO p with
    | .lst _ => pure (.lst p)
    | .ro (.lst _) => pure (.lst p)
    | .ftup _ => pure (.ftp p)
    | _ => bad
  | _ => bad
def rangeA (lo hi : Int) : List AV := (List.range (hi - lo).toNat).map fun k => .int (lo + (k : Nat))
def small62 (i : Int) : Bool := decide (-(2 ^ 62) ≤ i ∧ i < 2 ^ 62)
def Src.isFt : Src → Bool
  | .ftp _ => true
  | _ => false
/-- what a zip of two kinds takes -/
def ckA : AV → Bool
  | .str _ | .tup _ | .ref _ => true
  | _ => false
def srcK (ik : IK) (vs : List AV) : M Src := match ik, vs with
  | .self, [a] => srcOf a
  | .range, [.int n] => do guardM (small62 n); pure (.fix (rangeA 0 n))
  | .range, [.int a, .int b] => do guardM (small62 a && small62 b); pure (.fix (rangeA a b))
  | .enum, [a] => do
    let s ← srcOf a
    match s, a with
    | .lst p, _ => pure (.enum (.lst p))
    | .fix xs, .tup _ => pure (.enumT xs)
    | _, _ => bad
  | .zip, [a, b] => do
    let s ← srcOf a
    let t ← srcOf b
    match s, t, a, b with
    | .lst p, .lst q, _, _ => pure (.zip (.lst p) (.lst q))
    | .fix u, .fix w, .tup _, .tup _ => pure (.zip (.fix u) (.fix w))
    | _, _, a, b => do
      guardM (ckA a && ckA b && !s.isFt && !t.isFt)
      pure (.zipG s t)
  | _, _ => bad
/-- a comprehension's turns: the list grows at D -/
def lcLoop (src : Src) (D : Nat) (turn : AV → M (Option AV)) : Nat → Nat → M AV
  | 0, i => do
    match ← src.at i with
    | none => pure (.ref D)
    | some _ => bad
  | f + 1, i => do
    match ← src.at i with
    | none => pure (.ref D)
    | some x => do
      match ← turn x with
      | none => lcLoop src D turn f (i + 1)
      | some y => do
        let acc ← lstW D
        guardM (decide (acc.length < 16777216))
        setO D (.lst (acc ++ [y]))
        lcLoop src D turn f (i + 1)
def forLoop (src : Src) (turn : AV → Loc → M Fl) : Nat → Nat → Loc → M Fl
  | 0, i, σ => do
    match ← src.at i with
    | none => pure (.nx σ)
    | some _ => bad
  | f + 1, i, σ => do
    match ← src.at i with
    | none => pure (.nx σ)
    | some x => do
      match ← turn x σ with
      | .nx σ' => forLoop src turn f (i + 1) σ'
      | .ct σ' => forLoop src turn f (i + 1) σ'
      | .bk σ' => pure (.nx σ')
      | .rt v => pure (.rt v)
def whileLoop (test : Loc → M Bool) (turn : Loc → M Fl) : Nat → Loc → M Fl
  | 0, _ => bad
  | f + 1, σ => do
    let r ← test σ
    if r then do
      match ← turn σ with
      | .nx σ' => whileLoop test turn f σ'
      | .ct σ' => whileLoop test turn f σ'
      | .bk σ' => pure (.nx σ')
      | .rt v => pure (.rt v)
    else pure (.nx σ)

def wipe (σ : Loc) : List Nat → Loc
  | [] => σ
  | v :: vs => (wipe σ vs).set v none
/-- what a test makes of a value -/
def truM (P : Pg) (cf : CF) (a : AV) : M Bool := fun h => match truA h a with
  | some b => .ok b h
  | none => .bad
def optI : AV → M (Option Int)
  | .int i => pure (some i)
  | _ => bad
def unpackA (v : AV) : M (List AV) := match v with
  | .tup xs => pure xs
  | .ktp xs => pure xs
  | .ref p => lstO p
  | _ => bad

def pairUp : List AV → Option (List (AV × AV))
  | [] => some []
  | k :: v :: r => (pairUp r).map ((k, v) :: ·)
  | _ => none
/-- a built-in function; len of an own instance -/
def lenB (cf : CF) (f : Nat) (x : AV) : M AV := do
  match ← cf f [x] with
  | .int n => do
    guardM (decide (0 ≤ n ∧ n < 2 ^ 63))
    pure (.int n)
  | _ => bad
def lenOwn (P : Pg) (b : B) (vs : List AV) (h : AH) : Option (Nat × AV) := match b, vs with
  | .len, [x] => (ownOf P (·.len) x h).map fun f => (f, x)
  | _, _ => none
def bltB (P : Pg) (cf : CF) (b : B) (vs : List AV) : M AV := fun h => match lenOwn P b vs h with
  | some (f, x) => lenB cf f x h
  | none => match b, vs with
    | .dictof, [.gdc d] => (do let kvs ← ofO (P.gq d); newO (.dic kvs) : M AV) h
    | .edict, [] => newO (.dic []) h
    | _, _ => bltA P b vs h
mutual
def evE (P : Pg) (cf : CF) : E → Loc → M AV
  | .v i, σ => ofO (σ.getD i none)
  | .k a, _ => pure a
  | .bin op a b, σ => do
    let x ← evE P cf a σ
    let y ← evE P cf b σ
    binA op x y
  | .neg a, σ => do
    match ← evE P cf a σ with
    | .int i => pure (.int (-i))
    | _ => bad
  | .not a, σ => do
    let x ← evE P cf a σ
    let b ← truM P cf x
    pure (.bl (!b))
  | .and a b, σ => do
    let x ← evE P cf a σ
    let r ← truM P cf x
    if r then evE P cf b σ else pure x
  | .or a b, σ => do
    let x ← evE P cf a σ
    let r ← truM P cf x
    if r then pure x else evE P cf b σ
  | .ite t a b, σ => do
    let r ← evT P cf t σ
    if r then evE P cf a σ else evE P cf b σ
  | .cmp op a b, σ => do
    let x ← evE P cf a σ
    let y ← evE P cf b σ
    let r ← cmpA P cf op x y
    pure (.bl r)
  | .chain op op' a b c, σ => do
    let x ← evE P cf a σ
    let y ← evE P cf b σ
    let r ← cmpA P cf op x y
    if r then do
      let z ← evE P cf c σ
      let r' ← cmpA P cf op' y z
      pure (.bl r')
    else pure (.bl false)
  | .call f args, σ => do
    let vs ← evA P cf args σ
    cf f vs
  | .callK f perm args kws, σ => do
    let us ← evA P cf args σ
    let ws ← evA P cf kws σ
    let zs ← ofO (mapO (fun i => (us ++ ws)[i]?) perm)
    cf f zs
  | .newK c f perm args kws, σ => do
    let us ← evA P cf args σ
    let ws ← evA P cf kws σ
    let cl ← ofO (P.cl c)
    guardM (decide (cl.init = some f))
    let p ← newO (.ins c [])
    let zs ← ofO (mapO (fun i => (p :: us ++ ws)[i]?) perm)
    match ← cf f zs with
    | .non => pure p
    | _ => bad
  | .new c args, σ => do
    let vs ← evA P cf args σ
    let cl ← ofO (P.cl c)
    let f ← ofO cl.init
    let p ← newO (.ins c [])
    match ← cf f (p :: vs) with
    | .non => pure p
    | _ => bad
  | .blt b args, σ => do
    let vs ← evA P cf args σ
    bltB P cf b vs
  | .meth o m args, σ => do
    let x ← evE P cf o σ
    let h ← heapM
    match ownM P m x h with
    | some f => do
      let vs ← evA P cf args σ
      cf f (x :: vs)
    | none => do
      let t ← ofO (recv h x)
      let vs ← evA P cf args σ
      bMeth m t x vs
  | .attr o f, σ => do
    let x ← evE P cf o σ
    getAt P cf x f
  | .ix o i, σ => do
    let x ← evE P cf o σ
    let y ← evE P cf i σ
    ixA P x y
  | .sl o lo hi, σ => do
    let x ← evE P cf o σ
    let a ← evP P cf lo σ
    let b ← evP P cf hi σ
    slA x a b
  | .rev o, σ => do
    match ← evE P cf o σ with
    | .ref p => do let xs ← lstO p; newO (.lst xs.reverse)
    | _ => bad
  | .lst es, σ => do
    let vs ← evA P cf es σ
    guardM (sizeLineB vs.length)
    newO (.lst vs)
  | .tup es, σ => do
    let vs ← evA P cf es σ
    guardM (sizeLineB vs.length)
    pure (.tup vs)
  | .dic kvs, σ => do
    let p ← newO .tmp
    let vs ← evA P cf kvs σ
    let ps ← ofO (pairUp vs)
    guardM (ps.all (fun kv => keyF kv.1) && decide (ps.length ≤ 15))
    match p with
    | .ref n => do
      tmpO n
      setO n (.dic (putAll [] ps))
      pure p
    | _ => bad
  | .lc elt tg ik it test own, σ => do
    let vs ← evA P cf it σ
    let src ← srcK ik vs
    let h ← heapM
    match ← newO (.lst []) with
    | .ref D => lcLoop src D (fun x => do
        let σ' ← asgT P cf tg x (wipe σ own)
        let r ← evT P cf test σ'
        if r then do
          let y ← evE P cf elt σ'
          pure (some y)
        else pure none) (src.most h) 0
    | _ => bad
  | _, _ => bad
/-- a list of expressions -/
def evA (P : Pg) (cf : CF) : E → Loc → M (List AV)
  | .nil, _ => pure []
  | .cons e es, σ => do
    let x ← evE P cf e σ
    let xs ← evA P cf es σ
    pure (x :: xs)
  | .star e es, σ => do
    let x ← evE P cf e σ
    let ys ← unpackA x
    let xs ← evA P cf es σ
    pure (ys ++ xs)
  | _, _ => bad
/-- a test -/
def evT (P : Pg) (cf : CF) : E → Loc → M Bool
  | .not a, σ => do
    let b ← evT P cf a σ
    pure !b
  | .and a b, σ => do
    let r ← evT P cf a σ
    if r then evT P cf b σ else pure false
  | .or a b, σ => do
    let r ← evT P cf a σ
    if r then pure true else evT P cf b σ
  | .ite t a b, σ => do
    let r ← evT P cf t σ
    if r then evT P cf a σ else evT P cf b σ
  | .cmp op a b, σ => do
    let x ← evE P cf a σ
    let y ← evE P cf b σ
    cmpA P cf op x y
  | .chain op op' a b c, σ => do
    let x ← evE P cf a σ
    let y ← evE P cf b σ
    let r ← cmpA P cf op x y
    if r then do
      let z ← evE P cf c σ
      cmpA P cf op' y z
    else pure false
  | .no, _ => pure true
  | .v i, σ => do
    let x ← ofO (σ.getD i none)
    truM P cf x
  | .call f args, σ => do
    let vs ← evA P cf args σ
    let x ← cf f vs
    truM P cf x
  | .blt b args, σ => do
    let vs ← evA P cf args σ
    let x ← bltB P cf b vs
    truM P cf x
  | .meth o m args, σ => do
    let x ← evE P cf o σ
    let h ← heapM
    match ownM P m x h with
    | some f => do
      let vs ← evA P cf args σ
      let y ← cf f (x :: vs)
      truM P cf y
    | none => do
      let t ← ofO (recv h x)
      let vs ← evA P cf args σ
      let y ← bMeth m t x vs
      truM P cf y
  | .attr o f, σ => do
    let x ← evE P cf o σ
    let y ← getAt P cf x f
    truM P cf y
  | .ix o i, σ => do
    let x ← evE P cf o σ
    let y ← evE P cf i σ
    let z ← ixA P x y
    truM P cf z
  | _, _ => bad
/-- a bound of a slice -/
def evP (P : Pg) (cf : CF) : E → Loc → M (Option Int)
  | .no, _ => pure none
  | .k (.int i), _ => pure (some i)
  | .v i, σ => do optI (← ofO (σ.getD i none))
  | .neg a, σ => do
    match ← evE P cf a σ with
    | .int i => pure (some (-i))
    | _ => bad
  | .bin op a b, σ => do
    let x ← evE P cf a σ
    let y ← evE P cf b σ
    optI (← binA op x y)
  | .call f args, σ => do
    let vs ← evA P cf args σ
    optI (← cf f vs)
  | .blt b args, σ => do
    let vs ← evA P cf args σ
    optI (← bltB P cf b vs)
  | .ix o i, σ => do
    let x ← evE P cf o σ
    let y ← evE P cf i σ
    optI (← ixA P x y)
  | .attr o f, σ => do
    let x ← evE P cf o σ
    optI (← getAt P cf x f)
  | _, _ => bad
/-- a target takes a value -/
def asgT (P : Pg) (cf : CF) : E → AV → Loc → M Loc
  | .v i, x, σ => pure (σ.set i (some x))
  | .tup es, x, σ => do
    let xs ← unpackA x
    asgTs P cf es xs σ
  | .attr o f, x, σ => do
    let y ← evE P cf o σ
    setAt P y f x
    pure σ
  | .ix o i, x, σ => do
    let y ← evE P cf o σ
    let z ← evE P cf i σ
    setIx y z x
    pure σ
  | _, _, _ => bad
def asgTs (P : Pg) (cf : CF) : E → List AV → Loc → M Loc
  | .nil, [], σ => pure σ
  | .cons t ts, x :: xs, σ => do
    let σ' ← asgT P cf t x σ
    asgTs P cf ts xs σ'
  | _, _, _ => bad
termination_by structural e => e
end

/-! ### statements, calls -/
def augA (op : Operator) (x y : AV) : M AV := match op, x, y with
  | .Add, .int i, .int j => pure (.int (i + j))
  | .Sub, .int i, .int j => pure (.int (i - j))
  | .Add, .str x, .str y => do guardM (sizeLineB (x.length + y.length)); pure (.str (x ++ y))
  | _, _, _ => bad
def mostTurns : Nat := 1000000
/-- several slots at once -/
def setAll : List Nat → List AV → Loc → Option Loc
  | [], [], σ => some σ
  | i :: is, x :: xs, σ => setAll is xs (σ.set i (some x))
  | _, _, _ => none
def evS (P : Pg) (cf : CF) : S → Loc → M Fl
  | .par is es, σ => do
    let xs ← evA P cf es σ
    let σ' ← ofO (setAll is xs σ)
    pure (.nx σ')
  | .asg t e, σ => do
    let x ← evE P cf e σ
    let σ' ← asgT P cf t x σ
    pure (.nx σ')
  | .aug op (.v i) e, σ => do
    let x ← ofO (σ.getD i none)
    let y ← evE P cf e σ
    let z ← augA op x y
    pure (.nx (σ.set i (some z)))
  | .ex e, σ => do
    let _ ← evE P cf e σ
    pure (.nx σ)
  | .ret .no, _ => pure (.rt .non)
  | .ret e, σ => do
    let x ← evE P cf e σ
    pure (.rt x)
  | .ife t a b, σ => do
    let r ← evT P cf t σ
    if r then evS P cf a σ else evS P cf b σ
  | .for_ tg ik it body, σ => do
    let vs ← evA P cf it σ
    let src ← srcK ik vs
    let h ← heapM
    forLoop src (fun x σ => do
      let σ' ← asgT P cf tg x σ
      evS P cf body σ') (src.most h) 0 σ
  | .while_ t body, σ => whileLoop (fun σ => evT P cf t σ) (fun σ => evS P cf body σ) mostTurns σ
  | .brk, σ => pure (.bk σ)
  | .cnt, σ => pure (.ct σ)
  | .pass, σ => pure (.nx σ)
  | .done, σ => pure (.nx σ)
  | .seq a b, σ => do
    match ← evS P cf a σ with
    | .nx σ' => evS P cf b σ'
    | .rt v => pure (.rt v)
    | .bk σ' => pure (.bk σ')
    | .ct σ' => pure (.ct σ')
  | .raise c e, σ => do
    let x ← evE P cf e σ
    fun h => .err c x h
  | _, _ => bad
def start (ns : Nat) (vs : List AV) : Loc := vs.map some ++ List.replicate (ns - vs.length) none
def callF (P : Pg) : Nat → CF
  | 0 => fun _ _ => bad
  | d + 1 => fun f vs => do
    let fn ← ofO (P.fn f)
    guardM (vs.length == fn.np)
    match ← evS P (callF P d) fn.body (start fn.ns vs) with
    | .rt v => pure v
    | .nx _ => pure .non
    | _ => bad
end PM
end
section
/-! PMR: what plain data are of the model's values: relations, and that they stay. -/
namespace PM
open PySem PySem.Spec L2

/-- a call with keywords: the name, the def, how many positional values (with self), the keywords' names, which value goes where -/
structure KwE where
  x : Str
  f : Nat
  n : Nat
  ks : List Str
  perm : List Nat
/-- where the written things stand -/
structure Gw where
  K : PySem.W.Frag
  gm : Nat → Addr
  dm : Nat → Addr
  nms : List Str
  fa : Nat → Addr
  fd : Nat → FuncData
  ps : Nat → List Str
  kw : List KwE

def cStr (x : List Nat) : Str := ⟨x.toArray⟩
def cK : AV → Option Key
  | .int i => some (.inl i)
  | .str x => some (.inr (cStr x))
  | _ => none
def cKs : List AV → Option (List Key)
  | [] => some []
  | x :: xs => match cK x, cKs xs with
    | some k, some ks => some (k :: ks)
    | _, _ => none
def cT : AV → Option (List Key)
  | .tup xs => cKs xs
  | _ => none

/-- a written tuple -/
def KTup (K : PySem.W.Frag) (a : Addr) (ys : List V) : Prop := ∃ (o : Obj) (its : Array Value) (n : Nat), K.lookup a = some o ∧ o.cls = .type "tuple" ∧ o.data = .seq its n ∧ its.size ≤ sizeLine ∧ Vals ys its.toList
mutual
def RV (G : Gw) (ρ : List Addr) (H : Hp) : AV → V → Prop
  | .non, v => v = .non
  | .bl b, v => v = .bl b
  | .int i, v => v = .int i
  | .str x, v => v = .str (cStr x)
  | .tup xs, v => ∃ a ys, v = .ref a ∧ H a = some (.tup ys) ∧ RVs G ρ H xs ys
  | .ktp xs, v => ∃ a ys, v = .ref a ∧ KTup G.K a ys ∧ RVs G ρ H xs ys
  | .ref n, v => ∃ a, ρ[n]? = some a ∧ v = .ref a
  | .glo c, v => v = .ref (G.gm c)
  | .gdc d, v => v = .ref (G.dm d)
  | .ty T, v => v = .ty T
def RVs (G : Gw) (ρ : List Addr) (H : Hp) : List AV → List V → Prop
  | [], ys => ys = []
  | x :: xs, ys => ∃ y r, ys = y :: r ∧ RV G ρ H x y ∧ RVs G ρ H xs r
end
section
variable {G : Gw} {ρ ρ' : List Addr} {H H' : Hp}
@[simp] theorem RV_non {v : V} : RV G ρ H .non v ↔ v = .non := by simp [RV]
@[simp] theorem RV_bl {b : Bool} {v : V} : RV G ρ H (.bl b) v ↔ v = .bl b := by simp [RV]
@[simp] theorem RV_int {i : Int} {v : V} : RV G ρ H (.int i) v ↔ v = .int i := by simp [RV]
@[simp] theorem RV_str {x : List Nat} {v : V} : RV G ρ H (.str x) v ↔ v = .str (cStr x) := by simp [RV]
@[simp] theorem RV_glo {c : Nat} {v : V} : RV G ρ H (.glo c) v ↔ v = .ref (G.gm c) := by simp [RV]
@[simp] theorem RV_gdc {c : Nat} {v : V} : RV G ρ H (.gdc c) v ↔ v = .ref (G.dm c) := by simp [RV]
@[simp] theorem RV_ty {T : String} {v : V} : RV G ρ H (.ty T) v ↔ v = .ty T := by simp [RV]
theorem RV_ref {n : Nat} {v : V} : RV G ρ H (.ref n) v ↔ ∃ a, ρ[n]? = some a ∧ v = .ref a := by simp [RV]
theorem RV_tup {xs : List AV} {v : V} : RV G ρ H (.tup xs) v ↔ ∃ a ys, v = .ref a ∧ H a = some (.tup ys) ∧ RVs G ρ H xs ys := by simp [RV]
theorem RV_ktp {xs : List AV} {v : V} : RV G ρ H (.ktp xs) v ↔ ∃ a ys, v = .ref a ∧ KTup G.K a ys ∧ RVs G ρ H xs ys := by simp [RV]
@[simp] theorem RVs_nil {ys : List V} : RVs G ρ H [] ys ↔ ys = [] := by simp [RVs]
theorem RVs_cons {x : AV} {xs : List AV} {ys : List V} : RVs G ρ H (x :: xs) ys ↔ ∃ y r, ys = y :: r ∧ RV G ρ H x y ∧ RVs G ρ H xs r := by simp [RVs]
theorem RVs.cons {x : AV} {xs : List AV} {y : V} {ys : List V} (h : RV G ρ H x y) (t : RVs G ρ H xs ys) : RVs G ρ H (x :: xs) (y :: ys) := RVs_cons.mpr ⟨y, ys, rfl, h, t⟩
theorem RVs.nil : RVs G ρ H [] [] := RVs_nil.mpr rfl
theorem RVs.length : ∀ {xs : List AV} {ys : List V}, RVs G ρ H xs ys → xs.length = ys.length
  | [], _, h => by rw [RVs_nil.mp h]; rfl
  | x :: xs, _, h => by
    obtain ⟨y, r, rfl, _, t⟩ := RVs_cons.mp h
    simp [RVs.length t]
theorem RVs.get : ∀ {xs : List AV} {ys : List V} {i : Nat} {x : AV}, RVs G ρ H xs ys → xs[i]? = some x → ∃ y, ys[i]? = some y ∧ RV G ρ H x y
  | [], _, i, x, _, e => by simp at e
  | x0 :: xs, _, 0, x, h, e => by
    obtain ⟨y, r, rfl, h1, t⟩ := RVs_cons.mp h
    simp at e
    subst e
    exact ⟨y, rfl, h1⟩
  | x0 :: xs, _, i + 1, x, h, e => by
    obtain ⟨y, r, rfl, h1, t⟩ := RVs_cons.mp h
    obtain ⟨z, e1, e2⟩ := RVs.get (i := i) t (by simpa using e)
    exact ⟨z, by simpa using e1, e2⟩
theorem RVs.append : ∀ {xs xs' : List AV} {ys ys' : List V}, RVs G ρ H xs ys → RVs G ρ H xs' ys' → RVs G ρ H (xs ++ xs') (ys ++ ys')
  | [], _, _, _, h, h' => by rw [RVs_nil.mp h]; exact h'
  | x :: xs, _, _, _, h, h' => by
    obtain ⟨y, r, rfl, h1, t⟩ := RVs_cons.mp h
    exact RVs.cons h1 (RVs.append t h')
theorem RVs.drop : ∀ {xs : List AV} {ys : List V} (n : Nat), RVs G ρ H xs ys → RVs G ρ H (xs.drop n) (ys.drop n)
  | xs, ys, 0, h => h
  | [], _, n + 1, h => by rw [RVs_nil.mp h]; simp
  | x :: xs, _, n + 1, h => by
    obtain ⟨y, r, rfl, h1, t⟩ := RVs_cons.mp h
    exact RVs.drop n t
theorem RVs.take : ∀ {xs : List AV} {ys : List V} (n : Nat), RVs G ρ H xs ys → RVs G ρ H (xs.take n) (ys.take n)
  | xs, ys, 0, h => by simp
  | [], _, n + 1, h => by rw [RVs_nil.mp h]; simp
  | x :: xs, _, n + 1, h => by
    obtain ⟨y, r, rfl, h1, t⟩ := RVs_cons.mp h
    exact RVs.cons h1 (RVs.take n t)
theorem RVs.set {x : AV} {y : V} (r0 : RV G ρ H x y) : ∀ {xs : List AV} {ys : List V} (n : Nat), RVs G ρ H xs ys → RVs G ρ H (xs.set n x) (ys.set n y)
  | [], _, n, h => by rw [RVs_nil.mp h]; simp
  | x0 :: xs, _, 0, h => by
    obtain ⟨y, r, rfl, h1, t⟩ := RVs_cons.mp h
    exact RVs.cons r0 t
  | x0 :: xs, _, n + 1, h => by
    obtain ⟨y, r, rfl, h1, t⟩ := RVs_cons.mp h
    exact RVs.cons h1 (RVs.set r0 n t)
theorem RVs.eraseIdx : ∀ {xs : List AV} {ys : List V} (n : Nat), RVs G ρ H xs ys → RVs G ρ H (xs.eraseIdx n) (ys.eraseIdx n)
  | [], _, n, h => by rw [RVs_nil.mp h]; simp
  | x0 :: xs, _, 0, h => by
    obtain ⟨y, r, rfl, h1, t⟩ := RVs_cons.mp h
    exact t
  | x0 :: xs, _, n + 1, h => by
    obtain ⟨y, r, rfl, h1, t⟩ := RVs_cons.mp h
    exact RVs.cons h1 (RVs.eraseIdx n t)
theorem RVs.reverse : ∀ {xs : List AV} {ys : List V}, RVs G ρ H xs ys → RVs G ρ H xs.reverse ys.reverse
  | [], _, h => by rw [RVs_nil.mp h]; simp
  | x :: xs, _, h => by
    obtain ⟨y, r, rfl, h1, t⟩ := RVs_cons.mp h
    rw [List.reverse_cons, List.reverse_cons]
    exact RVs.append (RVs.reverse t) (RVs.cons h1 RVs.nil)
theorem RVs.dropLast {xs : List AV} {ys : List V} (h : RVs G ρ H xs ys) : RVs G ρ H xs.dropLast ys.dropLast := by
  rw [List.dropLast_eq_take, List.dropLast_eq_take, h.length]
  exact h.take _
theorem RVs.none_of {xs : List AV} {ys : List V} {i : Nat} (h : RVs G ρ H xs ys) (e : xs[i]? = none) : ys[i]? = none := by
  have := h.length
  rw [List.getElem?_eq_none_iff] at e ⊢
  omega

/-- what grows -/
structure Ext (ρ : List Addr) (H : Hp) (ρ' : List Addr) (H' : Hp) : Prop where
  pre : ∃ r, ρ' = ρ ++ r
  tup : ∀ a ys, H a = some (.tup ys) → H' a = some (.tup ys)
theorem Ext.refl : Ext ρ H ρ H := ⟨⟨[], by simp⟩, fun _ _ h => h⟩
theorem Ext.trans {ρ1 ρ2 ρ3 : List Addr} {H1 H2 H3 : Hp} (a : Ext ρ1 H1 ρ2 H2) (b : Ext ρ2 H2 ρ3 H3) : Ext ρ1 H1 ρ3 H3 := by
  obtain ⟨r, e⟩ := a.pre
  obtain ⟨q, e'⟩ := b.pre
  exact ⟨⟨r ++ q, by rw [e', e, List.append_assoc]⟩, fun x ys h => b.tup x ys (a.tup x ys h)⟩
theorem Ext.get (e : Ext ρ H ρ' H') {n : Nat} {a : Addr} (h : ρ[n]? = some a) : ρ'[n]? = some a := by
  obtain ⟨r, q⟩ := e.pre
  rw [q, List.getElem?_append_left]
  · exact h
  · exact (List.getElem?_eq_some_iff.mp h).1
mutual
theorem RV.mono (e : Ext ρ H ρ' H') : ∀ (x : AV) {v : V}, RV G ρ H x v → RV G ρ' H' x v
  | .non, _, h => by simpa using h
  | .bl _, _, h => by simpa using h
  | .int _, _, h => by simpa using h
  | .str _, _, h => by simpa using h
  | .glo _, _, h => by simpa using h
  | .gdc _, _, h => by simpa using h
  | .ty _, _, h => by simpa using h
  | .ref n, _, h => by
    obtain ⟨a, h1, h2⟩ := RV_ref.mp h
    exact RV_ref.mpr ⟨a, e.get h1, h2⟩
  | .tup xs, _, h => by
    obtain ⟨a, ys, h1, h2, h3⟩ := RV_tup.mp h
    exact RV_tup.mpr ⟨a, ys, h1, e.tup a ys h2, RVs.mono e xs h3⟩
  | .ktp xs, _, h => by
    obtain ⟨a, ys, h1, h2, h3⟩ := RV_ktp.mp h
    exact RV_ktp.mpr ⟨a, ys, h1, h2, RVs.mono e xs h3⟩
theorem RVs.mono (e : Ext ρ H ρ' H') : ∀ (xs : List AV) {ys : List V}, RVs G ρ H xs ys → RVs G ρ' H' xs ys
  | [], _, h => by simpa using h
  | x :: xs, _, h => by
    obtain ⟨y, r, h0, h1, t⟩ := RVs_cons.mp h
    exact RVs_cons.mpr ⟨y, r, h0, RV.mono e x h1, RVs.mono e xs t⟩
end
end

/-! ### objects, the heap -/
def RKs (G : Gw) (ρ : List Addr) (H : Hp) : List (AV × AV) → List (Key × V) → Prop
  | [], l => l = []
  | (k, x) :: r, l => ∃ k' v l', l = (k', v) :: l' ∧ cK k = some k' ∧ RV G ρ H x v ∧ RKs G ρ H r l'
def RTs (G : Gw) (ρ : List Addr) (H : Hp) : List (AV × AV) → List (List Key × V) → Prop
  | [], l => l = []
  | (k, x) :: r, l => ∃ k' v l', l = (k', v) :: l' ∧ cT k = some k' ∧ RV G ρ H x v ∧ RTs G ρ H r l'
def RFs (G : Gw) (ρ : List Addr) (H : Hp) : List (Nat × AV) → List (Str × V) → Prop
  | [], l => l = []
  | (f, x) :: r, l => ∃ s v l', l = (s, v) :: l' ∧ G.nms[f]? = some s ∧ RV G ρ H x v ∧ RFs G ρ H r l'
def RO (G : Gw) (ρ : List Addr) (H : Hp) : AObj → HO → Prop
  | .lst xs, o => ∃ ys, o = .lst ys ∧ RVs G ρ H xs ys
  | .dic kvs, o => (∃ l, o = .dK l ∧ RKs G ρ H kvs l) ∨ ∃ l, o = .dT l ∧ RTs G ρ H kvs l
  | .ins c fs, o => ∃ dx l, o = .ins (G.gm c) dx l ∧ RFs G ρ H fs l
  | .ro u, o => ∃ ob o', o = .frz ob o' ∧ RO G ρ H u o'
  | .tmp, o => o = .dK []
  | .ftup xs, o => ∃ ob ys, o = .frz ob (.tup ys) ∧ ob.dict = none ∧ RVs G ρ H xs ys
section
variable {G : Gw} {ρ ρ' : List Addr} {H H' : Hp}
theorem RKs.mono (e : Ext ρ H ρ' H') : ∀ {kvs : List (AV × AV)} {l : List (Key × V)}, RKs G ρ H kvs l → RKs G ρ' H' kvs l
  | [], _, h => h
  | (k, x) :: r, _, h => by
    obtain ⟨k', v, l', rfl, h1, h2, h3⟩ := h
    exact ⟨k', v, l', rfl, h1, RV.mono e x h2, RKs.mono e h3⟩
theorem RTs.mono (e : Ext ρ H ρ' H') : ∀ {kvs : List (AV × AV)} {l : List (List Key × V)}, RTs G ρ H kvs l → RTs G ρ' H' kvs l
  | [], _, h => h
  | (k, x) :: r, _, h => by
    obtain ⟨k', v, l', rfl, h1, h2, h3⟩ := h
    exact ⟨k', v, l', rfl, h1, RV.mono e x h2, RTs.mono e h3⟩
theorem RFs.mono (e : Ext ρ H ρ' H') : ∀ {fs : List (Nat × AV)} {l : List (Str × V)}, RFs G ρ H fs l → RFs G ρ' H' fs l
  | [], _, h => h
  | (f, x) :: r, _, h => by
    obtain ⟨k', v, l', rfl, h1, h2, h3⟩ := h
    exact ⟨k', v, l', rfl, h1, RV.mono e x h2, RFs.mono e h3⟩
theorem RO.mono (e : Ext ρ H ρ' H') : ∀ {u : AObj} {o : HO}, RO G ρ H u o → RO G ρ' H' u o
  | .lst xs, _, h => by
    obtain ⟨ys, h1, h2⟩ := h
    exact ⟨ys, h1, RVs.mono e xs h2⟩
  | .dic kvs, _, h => by
    rcases h with ⟨l, h1, h2⟩ | ⟨l, h1, h2⟩
    · exact .inl ⟨l, h1, h2.mono e⟩
    · exact .inr ⟨l, h1, h2.mono e⟩
  | .ins c fs, _, h => by
    obtain ⟨dx, l, h1, h2⟩ := h
    exact ⟨dx, l, h1, h2.mono e⟩
  | .ro u, _, h => by
    obtain ⟨ob, o', h1, h2⟩ := h
    exact ⟨ob, o', h1, RO.mono e h2⟩
  | .tmp, _, h => h
  | .ftup xs, _, h => by
    obtain ⟨ob, ys, h1, h2, h3⟩ := h
    exact ⟨ob, ys, h1, h2, RVs.mono e xs h3⟩
structure RH (G : Gw) (ρ : List Addr) (h : AH) (H : Hp) : Prop where
  wf : h.Wf
  full : ∀ n, n < h.n → ∃ o, h.get n = some o
  len : ρ.length = h.n
  nd : ρ.Nodup
  ob : ∀ n a o, ρ[n]? = some a → h.get n = some o → ∃ ho, H a = some ho ∧ RO G ρ H o ho
variable {h : AH}
theorem RH.at (R : RH G ρ h H) {n : Nat} {o : AObj} (e : h.get n = some o) : ∃ a ho, ρ[n]? = some a ∧ H a = some ho ∧ RO G ρ H o ho := by
  have hl := R.wf n o e
  rw [← R.len] at hl
  obtain ⟨ho, h1, h2⟩ := R.ob n ρ[n] o (List.getElem?_eq_getElem hl) e
  exact ⟨ρ[n], ho, List.getElem?_eq_getElem hl, h1, h2⟩
theorem RH.on (R : RH G ρ h H) {n : Nat} {a : Addr} {o : AObj} (ea : ρ[n]? = some a) (e : h.get n = some o) : ∃ ho, H a = some ho ∧ RO G ρ H o ho := R.ob n a o ea e
/-- an address of ours holds something that is no tuple -/
theorem RH.there (R : RH G ρ h H) {n : Nat} {a : Addr} (ea : ρ[n]? = some a) : ∃ o ho, h.get n = some o ∧ H a = some ho ∧ RO G ρ H o ho := by
  have hl : n < h.n := by rw [← R.len]; exact (List.getElem?_eq_some_iff.mp ea).1
  obtain ⟨o, e⟩ := R.full n hl
  obtain ⟨ho, h1, h2⟩ := R.ob n a o ea e
  exact ⟨o, ho, e, h1, h2⟩
theorem RH.fresh (R : RH G ρ h H) {p : Addr} (hp : H p = none) : p ∉ ρ := fun hm => by
  obtain ⟨n, hn, e⟩ := List.getElem_of_mem hm
  obtain ⟨_, ho, _, h1, _⟩ := R.there (n := n) (a := p) (by rw [List.getElem?_eq_getElem hn, e])
  rw [hp] at h1; cases h1
theorem upd_tup {p : Addr} {o : HO} (hp : H p = none) : ∀ a ys, H a = some (.tup ys) → (upd H p o) a = some (.tup ys) := fun a ys t => by
  rw [upd_ne (ne_of_none t hp)]; exact t
/-- a new object -/
theorem RH.push (R : RH G ρ h H) {p : Addr} {o : AObj} {ho : HO} (hp : H p = none) (r : RO G ρ H o ho) : Ext ρ H (ρ ++ [p]) (upd H p ho) ∧ RH G (ρ ++ [p]) (h.push o) (upd H p ho) ∧ RV G (ρ ++ [p]) (upd H p ho) (.ref h.n) (.ref p) := by
  have e : Ext ρ H (ρ ++ [p]) (upd H p ho) := ⟨⟨[p], rfl⟩, upd_tup hp⟩
  refine ⟨e, ⟨R.wf.push o, fun n hn => ?_, by simp [R.len], ?_, fun n a u ea eu => ?_⟩, RV_ref.mpr ⟨p, ?_, rfl⟩⟩
  · rw [AH.get_push]
    by_cases q : n = h.n
    · exact ⟨o, by rw [if_pos q]⟩
    · rw [if_neg q]
      exact R.full n (by simp at hn; omega)
  · rw [List.nodup_append]
    exact ⟨R.nd, by simp, fun a ha b hb z => by
      have : b = p := List.mem_singleton.mp hb
      exact R.fresh hp (this ▸ z ▸ ha)⟩
  · rw [AH.get_push] at eu
    by_cases q : n = h.n
    · rw [if_pos q] at eu
      cases eu
      have : a = p := by
        rw [List.getElem?_append_right (by rw [R.len, q]; exact Nat.le_refl _), R.len, q] at ea
        simpa using ea.symm
      subst this
      exact ⟨ho, upd_same, r.mono e⟩
    · rw [if_neg q] at eu
      have hl : n < ρ.length := by
        have := (List.getElem?_eq_some_iff.mp ea).1
        simp at this
        rw [R.len] at this ⊢
        omega
      rw [List.getElem?_append_left hl] at ea
      obtain ⟨ho', h1, h2⟩ := R.ob n a u ea eu
      exact ⟨ho', by rw [upd_ne (ne_of_none h1 hp)]; exact h1, h2.mono e⟩
  · rw [List.getElem?_append_right (by rw [R.len]; exact Nat.le_refl _), R.len]
    simp
/-- what may be written is no tuple -/
theorem Mut.notup {a : Addr} (mu : Mut (H a)) {o : HO} : ∀ b ys, H b = some (.tup ys) → (upd H a o) b = some (.tup ys) := fun b ys t => by
  rw [upd_ne (fun z => by rw [← z, t] at mu; exact mu)]; exact t
/-- an object is changed -/
theorem RH.set (R : RH G ρ h H) {n : Nat} {a : Addr} {o : AObj} {ho : HO} (ea : ρ[n]? = some a) (mu : Mut (H a)) (r : RO G ρ H o ho) : Ext ρ H ρ (upd H a ho) ∧ RH G ρ (h.set n o) (upd H a ho) := by
  have e : Ext ρ H ρ (upd H a ho) := ⟨⟨[], by simp⟩, Mut.notup mu⟩
  have hn : n < h.n := by rw [← R.len]; exact (List.getElem?_eq_some_iff.mp ea).1
  refine ⟨e, R.wf.set o hn, fun k hk => ?_, R.len, R.nd, fun k b u eb eu => ?_⟩
  · rw [AH.get_set]
    by_cases q : k = n
    · exact ⟨o, by rw [if_pos q]⟩
    · rw [if_neg q]; exact R.full k hk
  · rw [AH.get_set] at eu
    by_cases q : k = n
    · rw [if_pos q] at eu
      cases eu
      subst q
      rw [ea] at eb
      cases eb
      exact ⟨ho, upd_same, r.mono e⟩
    · rw [if_neg q] at eu
      obtain ⟨ho', h1, h2⟩ := R.ob k b u eb eu
      have nb : b ≠ a := fun z => by
        subst z
        exact q (by
          obtain ⟨l1, e1⟩ := List.getElem?_eq_some_iff.mp eb
          obtain ⟨l2, e2⟩ := List.getElem?_eq_some_iff.mp ea
          exact (List.getElem_inj R.nd).mp (e1.trans e2.symm))
      exact ⟨ho', by rw [upd_ne nb]; exact h1, h2.mono e⟩

/-! ### slots -/
structure RS (G : Gw) (ρ : List Addr) (H : Hp) (σ' : Loc) (σ : St) : Prop where
  len : σ'.length = σ.length
  get : ∀ (i : Nat) (x : AV), σ'[i]? = some (some x) → ∃ v, σ[i]? = some (some v) ∧ RV G ρ H x v
variable {σ' : Loc} {σ : St}
theorem RS.mono (e : Ext ρ H ρ' H') (S : RS G ρ H σ' σ) : RS G ρ' H' σ' σ :=
  ⟨S.len, fun i x q => let ⟨v, h1, h2⟩ := S.get i x q; ⟨v, h1, RV.mono e x h2⟩⟩
theorem RS.set (S : RS G ρ H σ' σ) (i : Nat) {x : AV} {v : V} (r : RV G ρ H x v) : RS G ρ H (σ'.set i (some x)) (σ.set i (some v)) :=
  ⟨by simp [S.len], fun j y q => by
    by_cases e : i = j
    · subst e
      by_cases hl : i < σ'.length
      · rw [List.getElem?_set_self hl] at q
        cases q
        exact ⟨v, by rw [List.getElem?_set_self (by rw [← S.len]; exact hl)], r⟩
      · rw [List.getElem?_eq_none (by simpa using hl)] at q; cases q
    · rw [List.getElem?_set_ne e] at q
      rw [List.getElem?_set_ne e]
      exact S.get j y q⟩
theorem wipe_length (σ : Loc) : ∀ vs : List Nat, (wipe σ vs).length = σ.length
  | [] => rfl
  | v :: vs => by unfold wipe; rw [List.length_set, wipe_length σ vs]
theorem RS.wipe (S : RS G ρ H σ' σ) : ∀ vs : List Nat, RS G ρ H (wipe σ' vs) (L2.wipe σ vs)
  | [] => S
  | v :: vs => by
    have S1 := RS.wipe S vs
    refine ⟨by rw [PM.wipe_length, L2.wipe_length, S.len], fun j y q => ?_⟩
    unfold PM.wipe at q
    unfold L2.wipe
    by_cases e : v = j
    · subst e
      by_cases hl : v < (PM.wipe σ' vs).length
      · rw [List.getElem?_set_self hl] at q; cases q
      · rw [List.getElem?_eq_none (by simpa using hl)] at q; cases q
    · rw [List.getElem?_set_ne e] at q
      rw [List.getElem?_set_ne e]
      exact S1.get j y q

/-- what follows a value -/
def Done (G : Gw) (ρ : List Addr) (H : Hp) (x : AV) (h : AH) (Q : VK) : Prop := ∀ ρ' H' v, Ext ρ H ρ' H' → RH G ρ' h H' → RV G ρ' H' x v → Q v H'
def DoneL (G : Gw) (ρ : List Addr) (H : Hp) (xs : List AV) (h : AH) (Q : List V → Hp → Prop) : Prop := ∀ ρ' H' vs, Ext ρ H ρ' H' → RH G ρ' h H' → RVs G ρ' H' xs vs → Q vs H'
def DoneB (G : Gw) (ρ : List Addr) (H : Hp) (b : Bool) (h : AH) (Q : Bool → Hp → Prop) : Prop := ∀ ρ' H', Ext ρ H ρ' H' → RH G ρ' h H' → Q b H'
theorem Done.here {x : AV} {Q : VK} (R : RH G ρ h H) {v : V} (r : RV G ρ H x v) (d : Done G ρ H x h Q) : Q v H := d ρ H v .refl R r
end
end PM
end
section
set_option maxHeartbeats 1000000
/-! PMO: the operations, by values. -/
namespace PM
open PySem PySem.Spec L2

theorem cStr_len (x : List Nat) : (cStr x).length = x.length := by simp [cStr, Str.length]
theorem cStr_app (x y : List Nat) : cStr x ++ cStr y = cStr (x ++ y) := TL.ext_tl (by rw [TL.tl_append]; simp [cStr])
theorem cStr_tl (x : List Nat) : (cStr x).cps.toList = x := by simp [cStr]
theorem cStr_inj {x y : List Nat} (h : cStr x = cStr y) : x = y := by
  have := congrArg (fun z : Str => z.cps.toList) h
  simpa [cStr] using this
theorem sizeLineB_le {n : Nat} (h : sizeLineB n = true) : n ≤ sizeLine := by rw [sizeLine_eq]; exact of_decide_eq_true h
section
variable {X : Cx} {G : Gw} {ρ : List Addr} {H : Hp} {h h' : AH} {a b r : AV} {v w : V} {Q : VK}
theorem RH.lst (R : RH G ρ h H) {p : Nat} {v : V} {xs : List AV} (ra : RV G ρ H (.ref p) v) (e : h.get p = some (.lst xs)) : ∃ q ys, v = .ref q ∧ ρ[p]? = some q ∧ H q = some (.lst ys) ∧ RVs G ρ H xs ys := by
  obtain ⟨q, e1, rfl⟩ := RV_ref.mp ra
  obtain ⟨ho, h1, ys, rfl, h2⟩ := R.ob p q _ e1 e
  exact ⟨q, ys, rfl, e1, h1, h2⟩
/-- a list that is read -/
theorem RH.lstR (R : RH G ρ h H) {p : Nat} {v : V} {xs : List AV} (ra : RV G ρ H (.ref p) v) (e : h.get p = some (.lst xs) ∨ h.get p = some (.ro (.lst xs))) : ∃ q ys, v = .ref q ∧ ρ[p]? = some q ∧ SqL G.K H q ys ∧ RVs G ρ H xs ys := by
  obtain ⟨q, e1, rfl⟩ := RV_ref.mp ra
  rcases e with e | e
  · obtain ⟨ho, h1, ys, rfl, h2⟩ := R.ob p q _ e1 e
    exact ⟨q, ys, rfl, e1, SqL.of h1, h2⟩
  · obtain ⟨ho, h1, ob, o', rfl, ys, rfl, h2⟩ := R.ob p q _ e1 e
    exact ⟨q, ys, rfl, e1, .inl (.inr ⟨ob, h1⟩), h2⟩
theorem RH.ftup (R : RH G ρ h H) {p : Nat} {v : V} {xs : List AV} (ra : RV G ρ H (.ref p) v) (e : h.get p = some (.ftup xs)) : ∃ q ob ys, v = .ref q ∧ ρ[p]? = some q ∧ H q = some (.frz ob (.tup ys)) ∧ ob.dict = none ∧ RVs G ρ H xs ys := by
  obtain ⟨q, e1, rfl⟩ := RV_ref.mp ra
  obtain ⟨ho, h1, ob, ys, rfl, h2, h3⟩ := R.ob p q _ e1 e
  exact ⟨q, ob, ys, rfl, e1, h1, h2, h3⟩
theorem seqO_inv {p : Nat} {xs : List AV} (e : seqO p h = .ok xs h') : ((h.get p = some (.lst xs) ∨ h.get p = some (.ro (.lst xs))) ∨ h.get p = some (.ftup xs)) ∧ h' = h := by
  unfold seqO at e
  split at e
  · cases e; exact ⟨.inl (.inl (by assumption)), rfl⟩
  · cases e; exact ⟨.inl (.inr (by assumption)), rfl⟩
  · cases e; exact ⟨.inr (by assumption), rfl⟩
  · cases e
theorem lstW_inv {p : Nat} {xs : List AV} (e : lstW p h = .ok xs h') : h.get p = some (.lst xs) ∧ h' = h := by
  unfold lstW at e
  split at e
  · cases e; exact ⟨by assumption, rfl⟩
  · cases e
theorem lstO_inv {p : Nat} {xs : List AV} (e : lstO p h = .ok xs h') : (h.get p = some (.lst xs) ∨ h.get p = some (.ro (.lst xs))) ∧ h' = h := by
  unfold lstO at e
  split at e
  · cases e; exact ⟨.inl (by assumption), rfl⟩
  · cases e; exact ⟨.inr (by assumption), rfl⟩
  · cases e
theorem insO_inv {p : Nat} {cf : Nat × List (Nat × AV)} (e : insO p h = .ok cf h') : h.get p = some (.ins cf.1 cf.2) ∧ h' = h := by
  unfold insO at e
  split at e
  · cases e; exact ⟨by assumption, rfl⟩
  · cases e
theorem dicW_inv {p : Nat} {xs : List (AV × AV)} (e : dicW p h = .ok xs h') : h.get p = some (.dic xs) ∧ h' = h := by
  unfold dicW at e
  split at e
  · cases e; exact ⟨by assumption, rfl⟩
  · cases e
theorem dicO_inv {p : Nat} {xs : List (AV × AV)} (e : dicO p h = .ok xs h') : (h.get p = some (.dic xs) ∨ h.get p = some (.ro (.dic xs))) ∧ h' = h := by
  unfold dicO at e
  split at e
  · cases e; exact ⟨.inl (by assumption), rfl⟩
  · cases e; exact ⟨.inr (by assumption), rfl⟩
  · cases e
theorem heapM_inv {x : AH} (e : heapM h = .ok x h') : x = h ∧ h' = h := by cases e; exact ⟨rfl, rfl⟩
theorem op_powW : OpR X (binaryOp .Pow) (rI (fun i j => 0 ≤ j ∧ (Builtin.Int.intBits i : Int) * j ≤ 134217728) fun i j => .int (i ^ j.toNat)) := opI fun _ _ _ _ _ _ _ hc q => PyProof.Rows.pow_int hc.1 hc.2 q

/-- more objects, one of them ours -/
theorem RH.pushG (R : RH G ρ h H) {H' : Hp} {p : Addr} {o : AObj} {ho : HO} (kp : ∀ b u, H b = some u → H' b = some u) (hp : H p = none) (e' : H' p = some ho) (r : RO G ρ H' o ho) : Ext ρ H (ρ ++ [p]) H' ∧ RH G (ρ ++ [p]) (h.push o) H' ∧ RV G (ρ ++ [p]) H' (.ref h.n) (.ref p) := by
  have e : Ext ρ H (ρ ++ [p]) H' := ⟨⟨[p], rfl⟩, fun a ys q => kp a _ q⟩
  have e2 : Ext ρ H' (ρ ++ [p]) H' := ⟨⟨[p], rfl⟩, fun a ys q => q⟩
  refine ⟨e, ⟨R.wf.push o, fun n hn => ?_, by simp [R.len], ?_, fun n a u ea eu => ?_⟩, RV_ref.mpr ⟨p, ?_, rfl⟩⟩
  · rw [AH.get_push]
    by_cases q : n = h.n
    · exact ⟨o, by rw [if_pos q]⟩
    · rw [if_neg q]
      exact R.full n (by simp at hn; omega)
  · rw [List.nodup_append]
    exact ⟨R.nd, by simp, fun a ha b hb z => by
      have : b = p := List.mem_singleton.mp hb
      exact R.fresh hp (this ▸ z ▸ ha)⟩
  · rw [AH.get_push] at eu
    by_cases q : n = h.n
    · rw [if_pos q] at eu
      cases eu
      have : a = p := by
        rw [List.getElem?_append_right (by rw [R.len, q]; exact Nat.le_refl _), R.len, q] at ea
        simpa using ea.symm
      subst this
      exact ⟨ho, e', r.mono e2⟩
    · rw [if_neg q] at eu
      have hl : n < ρ.length := by
        rw [R.len]
        exact R.wf n u eu
      rw [List.getElem?_append_left hl] at ea
      obtain ⟨ho2, h1, h2⟩ := R.ob n a u ea eu
      exact ⟨ho2, kp a _ h1, h2.mono e⟩
  · rw [List.getElem?_append_right (by rw [R.len]; exact Nat.le_refl _), R.len]
    simp
theorem newDone {o : AObj} {ho : HO} (R : RH G ρ h H) (rel : RO G ρ H o ho) (D : Done G ρ H (.ref h.n) (h.push o) Q) : ∀ p, H p = none → Q (.ref p) (upd H p ho) := fun p hp => by
  obtain ⟨e, R', r'⟩ := R.push hp rel
  exact D _ _ _ e R' r'
theorem setDone {o : AObj} {ho : HO} {n : Nat} {q : Addr} {x : AV} {v : V} (R : RH G ρ h H) (eq : ρ[n]? = some q) (mu : Mut (H q)) (rel : RO G ρ H o ho) (rv : RV G ρ H x v) (D : Done G ρ H x (h.set n o) Q) : Q v (upd H q ho) := by
  obtain ⟨e, R'⟩ := R.set eq mu rel
  exact D _ _ _ e R' (RV.mono e x rv)

/-- a new tuple: no object of ours -/
theorem RH.other (R : RH G ρ h H) {p : Addr} {o : HO} (hp : H p = none) : Ext ρ H ρ (upd H p o) ∧ RH G ρ h (upd H p o) := by
  have e : Ext ρ H ρ (upd H p o) := ⟨⟨[], by simp⟩, upd_tup hp⟩
  exact ⟨e, R.wf, R.full, R.len, R.nd, fun n a u ea eu => by
    obtain ⟨ho, h1, h2⟩ := R.ob n a u ea eu
    exact ⟨ho, by rw [upd_ne (ne_of_none h1 hp)]; exact h1, h2.mono e⟩⟩
theorem tupDone {xs : List AV} {ys : List V} (R : RH G ρ h H) (s : RVs G ρ H xs ys) (D : Done G ρ H (.tup xs) h Q) : ∀ p, H p = none → Q (.ref p) (upd H p (.tup ys)) := fun p hp => by
  obtain ⟨e, R'⟩ := R.other (o := .tup ys) hp
  exact D _ _ _ e R' (RV_tup.mpr ⟨p, ys, rfl, upd_same, RVs.mono e xs s⟩)
theorem RVs.nil_iff {xs : List AV} {ys : List V} (s : RVs G ρ H xs ys) : xs = [] ↔ ys = [] := by
  have := s.length
  constructor
  · rintro rfl; exact List.length_eq_zero_iff.mp this.symm
  · rintro rfl; exact List.length_eq_zero_iff.mp this

theorem binA_ok {op : Operator} (hK : X.K = G.K) (R : RH G ρ h H) (ra : RV G ρ H a v) (rb : RV G ρ H b w) (e : binA op a b h = .ok r h') (D : Done G ρ H r h' Q) :
    ∃ r2 : R2, OpR X (binaryOp op) r2 ∧ r2 v w H Q := by
  unfold binA at e
  split at e
  · obtain rfl := RV_int.mp ra
    obtain rfl := RV_int.mp rb
    cases e
    exact ⟨_, op_add, _, _, rfl, rfl, D.here R (by simp)⟩
  · obtain rfl := RV_int.mp ra
    obtain rfl := RV_bl.mp rb
    cases e
    exact ⟨_, op_add_ib, _, _, rfl, rfl, D.here R (by simp)⟩
  · obtain rfl := RV_str.mp ra
    obtain rfl := RV_str.mp rb
    obtain ⟨_, h1, e1, e2⟩ := bind_inv e
    obtain ⟨q1, rfl⟩ := guardM_inv e1
    cases e2
    exact ⟨_, op_add_str, _, _, rfl, rfl, by rw [cStr_len, cStr_len]; exact sizeLineB_le q1, D.here R (by simp [cStr_app])⟩
  · rename_i x y
    obtain ⟨p, xs, rfl, t1, s1⟩ := RV_tup.mp ra
    obtain ⟨q, ys, rfl, t2, s2⟩ := RV_tup.mp rb
    obtain ⟨_, h1, e1, e2⟩ := bind_inv e
    obtain ⟨q1, rfl⟩ := guardM_inv e1
    cases e2
    refine ⟨_, op_catA, p, q, xs, ys, rfl, rfl, SqT.of t1, SqT.of t2, by rw [← s1.length, ← s2.length]; exact sizeLineB_le q1, fun z => ?_, fun _ z => ?_, fun _ _ => tupDone R (s1.append s2) D⟩
    · refine D.here R (RV_tup.mpr ⟨q, ys, rfl, t2, ?_⟩)
      rw [s1.nil_iff.mpr z]
      exact s2
    · refine D.here R (RV_tup.mpr ⟨p, xs, rfl, t1, ?_⟩)
      rw [s2.nil_iff.mpr z, List.append_nil]
      exact s1
  · rename_i p q
    obtain ⟨x, h1, e1, f1⟩ := bind_inv e
    obtain ⟨g1, rfl⟩ := lstW_inv e1
    obtain ⟨y, h2, e2, f2⟩ := bind_inv f1
    obtain ⟨g2, rfl⟩ := lstW_inv e2
    obtain ⟨_, h3, e3, f3⟩ := bind_inv f2
    obtain ⟨q1, rfl⟩ := guardM_inv e3
    obtain ⟨rfl, rfl⟩ := newO_inv f3
    obtain ⟨pa, xs, rfl, _, hp, s1⟩ := R.lst ra g1
    obtain ⟨qa, ys, rfl, _, hq, s2⟩ := R.lst rb g2
    exact ⟨_, op_cat, pa, qa, xs, ys, rfl, rfl, hp, hq, by rw [← s1.length, ← s2.length]; exact sizeLineB_le q1, newDone (o := .lst (x ++ y)) R ⟨_, rfl, s1.append s2⟩ D⟩
  · obtain rfl := RV_int.mp ra
    obtain rfl := RV_int.mp rb
    cases e
    exact ⟨_, op_sub, _, _, rfl, rfl, D.here R (by simp)⟩
  · obtain rfl := RV_int.mp ra
    obtain rfl := RV_int.mp rb
    obtain ⟨_, h1, e1, e2⟩ := bind_inv e
    obtain ⟨q1, rfl⟩ := guardM_inv e1
    cases e2
    exact ⟨_, op_mulX, _, _, rfl, rfl, (of_decide_eq_true q1 : (Builtin.Int.intBits _ : Int) + (Builtin.Int.intBits _ : Int) ≤ 134217728), D.here R (by simp)⟩
  · obtain rfl := RV_int.mp ra
    obtain rfl := RV_int.mp rb
    obtain ⟨_, h1, e1, e2⟩ := bind_inv e
    obtain ⟨q1, rfl⟩ := guardM_inv e1
    cases e2
    exact ⟨_, op_fdivW, _, _, rfl, rfl, (by have z := of_decide_eq_true q1; exact z), D.here R (by simp)⟩
  · obtain rfl := RV_int.mp ra
    obtain rfl := RV_int.mp rb
    obtain ⟨_, h1, e1, e2⟩ := bind_inv e
    obtain ⟨q1, rfl⟩ := guardM_inv e1
    cases e2
    exact ⟨_, op_mod, _, _, rfl, rfl, of_decide_eq_true q1, D.here R (by simp)⟩
  · obtain rfl := RV_int.mp ra
    obtain rfl := RV_int.mp rb
    obtain ⟨_, h1, e1, e2⟩ := bind_inv e
    obtain ⟨q1, rfl⟩ := guardM_inv e1
    cases e2
    exact ⟨_, op_powW, _, _, rfl, rfl, of_decide_eq_true q1, D.here R (by simp)⟩
  · obtain rfl := RV_int.mp ra
    obtain rfl := RV_int.mp rb
    obtain ⟨_, h1, e1, e2⟩ := bind_inv e
    obtain ⟨q1, rfl⟩ := guardM_inv e1
    cases e2
    exact ⟨_, op_shlW, _, _, rfl, rfl, (by have z := of_decide_eq_true q1; exact z), D.here R (by simp)⟩
  · obtain rfl := RV_int.mp ra
    obtain rfl := RV_int.mp rb
    obtain ⟨_, h1, e1, e2⟩ := bind_inv e
    obtain ⟨q1, rfl⟩ := guardM_inv e1
    cases e2
    exact ⟨_, op_shr, _, _, rfl, rfl, of_decide_eq_true q1, D.here R (by simp)⟩
  · obtain rfl := RV_int.mp ra
    obtain rfl := RV_int.mp rb
    cases e
    exact ⟨_, op_and, _, _, rfl, rfl, D.here R (by simp)⟩
  · cases e

/-! ### == -/
theorem eqF_ok (ra : RV G ρ H a v) (rb : RV G ρ H b w) {k : Bool} (e : eqF a b = some k) : flatV v = true ∧ flatV w = true ∧ eqV v w = k ∧ scal v w = true ∧ decide (v = w) = k := by
  unfold eqF at e
  split at e
  · obtain rfl := RV_str.mp ra; obtain rfl := RV_str.mp rb
    cases e
    refine ⟨rfl, rfl, ?_, rfl, ?_⟩
    · show (cStr _ == cStr _) = _
      rw [Bool.beq_eq_decide_eq]
      exact decide_eq_decide.mpr ⟨cStr_inj, fun z => by rw [z]⟩
    · exact decide_eq_decide.mpr ⟨fun z => cStr_inj (V.str.inj z), fun z => by rw [z]⟩
  · obtain rfl := RV_int.mp ra; obtain rfl := RV_int.mp rb
    cases e
    refine ⟨rfl, rfl, ?_, rfl, ?_⟩
    · show (_ == _) = _
      rw [Bool.beq_eq_decide_eq]
    · exact decide_eq_decide.mpr ⟨fun z => V.int.inj z, fun z => by rw [z]⟩
  · obtain rfl := RV_bl.mp ra; obtain rfl := RV_bl.mp rb
    cases e
    refine ⟨rfl, rfl, ?_, rfl, ?_⟩
    · show (_ == _) = _
      rw [Bool.beq_eq_decide_eq]
    · exact decide_eq_decide.mpr ⟨fun z => V.bl.inj z, fun z => by rw [z]⟩
  · obtain rfl := RV_non.mp ra; obtain rfl := RV_non.mp rb
    cases e
    exact ⟨rfl, rfl, rfl, rfl, rfl⟩
  all_goals first
    | (cases e; done)
    | (cases e
       first | obtain rfl := RV_non.mp ra | obtain rfl := RV_int.mp ra | obtain rfl := RV_bl.mp ra | obtain rfl := RV_str.mp ra
       first | obtain rfl := RV_non.mp rb | obtain rfl := RV_int.mp rb | obtain rfl := RV_bl.mp rb | obtain rfl := RV_str.mp rb
       exact ⟨rfl, rfl, rfl, rfl, decide_eq_false (fun z => by cases z)⟩)
theorem mapO_cons {α β : Type} {f : α → Option β} {x : α} {xs : List α} {l : List β} (e : mapO f (x :: xs) = some l) : ∃ y ys, f x = some y ∧ mapO f xs = some ys ∧ l = y :: ys := by
  unfold mapO at e
  split at e
  · cases e; exact ⟨_, _, by assumption, by assumption, rfl⟩
  · cases e
theorem toD_ok (hK : X.K = G.K) (R : RH G ρ h H) : ∀ (f : Nat) (a : AV) (d : PyData) (v : V), toD f h a = some d → RV G ρ H a v → Dp X.K H v d
  | 0, _, _, _, e, _ => by simp [toD] at e
  | f + 1, a, d, v, e, r => by
    have all : ∀ (xs : List AV) (ds : List PyData) (ys : List V), mapO (toD f h) xs = some ds → RVs G ρ H xs ys → DpAll X.K H ys ds := by
      intro xs
      induction xs with
      | nil => intro ds ys e r; cases e; rw [RVs_nil.mp r]; exact .nil
      | cons x xs ih =>
        intro ds ys e r
        obtain ⟨y, ys', rfl, r1, r2⟩ := RVs_cons.mp r
        obtain ⟨d1, d2, e1, e2, rfl⟩ := mapO_cons e
        exact .cons (toD_ok hK R f x d1 y e1 r1) (ih d2 ys' e2 r2)
    unfold toD at e
    split at e
    · contradiction
    · rename_i q; cases q; cases e; rw [RV_non.mp r]; exact .non
    · cases e; rw [RV_bl.mp r]; exact .bl _
    · cases e; rw [RV_int.mp r]; exact .int _
    · cases e; rw [RV_str.mp r]; exact .str _
    · rename_i q
      cases q
      obtain ⟨ds, e1, rfl⟩ := Option.map_eq_some_iff.mp e
      obtain ⟨p, ys, rfl, t, s⟩ := RV_tup.mp r
      exact .tup (SqT.of t) (all _ _ _ e1 s)
    · rename_i q
      cases q
      obtain ⟨ds, e1, rfl⟩ := Option.map_eq_some_iff.mp e
      obtain ⟨p, ys, rfl, t, s⟩ := RV_ktp.mp r
      exact .tup (by rw [hK]; exact .inr t) (all _ _ _ e1 s)
    · rename_i q
      cases q
      split at e
      · rename_i g
        obtain ⟨ds, e1, rfl⟩ := Option.map_eq_some_iff.mp e
        obtain ⟨p, ys, rfl, _, t, s⟩ := R.lstR r (.inl g)
        exact .lst (by rw [hK]; exact t) (all _ _ _ e1 s)
      · rename_i g
        obtain ⟨ds, e1, rfl⟩ := Option.map_eq_some_iff.mp e
        obtain ⟨p, ys, rfl, _, t, s⟩ := R.lstR r (.inr g)
        exact .lst (by rw [hK]; exact t) (all _ _ _ e1 s)
      · cases e
    · cases e
/-- by flat values or by data -/
theorem eqA_cases (hK : X.K = G.K) (R : RH G ρ h H) (ra : RV G ρ H a v) (rb : RV G ρ H b w) {k : Bool} (e : eqA h a b = some k) :
    (flatV v = true ∧ flatV w = true ∧ eqV v w = k ∧ scal v w = true ∧ decide (v = w) = k) ∨ ∃ d e, Dp X.K H v d ∧ Dp X.K H w e ∧ SeqAt.shaped d = true ∧ SeqAt.shaped e = true ∧ PyData.eqv d e = k := by
  unfold eqA at e
  split at e
  · cases e
    exact .inl (eqF_ok ra rb (by assumption))
  · split at e
    · rename_i d d' e1 e2
      split at e
      · rename_i hs
        cases e
        rw [Bool.and_eq_true] at hs
        exact .inr ⟨d, d', toD_ok hK R _ _ _ _ e1 ra, toD_ok hK R _ _ _ _ e2 rb, hs.1, hs.2, rfl⟩
      · cases e
    · cases e
theorem eqA_op (hK : X.K = G.K) (hu : X.A.units + 64 < cLine) (R : RH G ρ h H) (ra : RV G ρ H a v) (rb : RV G ρ H b w) {k : Bool} (e : eqA h a b = some k) (q : Q (.bl k) H) : ∃ r2 : R2, OpR X (compareOp .Eq) r2 ∧ r2 v w H Q := by
  rcases eqA_cases hK R ra rb e with ⟨_, _, _, z1, z2⟩ | ⟨d, e', h1, h2, h3, h4, h5⟩
  · exact ⟨_, op_eq, z1, by rw [z2]; exact q⟩
  · exact ⟨_, op_eqD hu, d, e', h1, h2, h3, h4, by rw [h5]; exact q⟩
theorem eqA_opN (hK : X.K = G.K) (hu : X.A.units + 64 < cLine) (R : RH G ρ h H) (ra : RV G ρ H a v) (rb : RV G ρ H b w) {k : Bool} (e : eqA h a b = some k) (q : Q (.bl (!k)) H) : ∃ r2 : R2, OpR X (compareOp .NotEq) r2 ∧ r2 v w H Q := by
  rcases eqA_cases hK R ra rb e with ⟨_, _, _, z1, z2⟩ | ⟨d, e', h1, h2, h3, h4, h5⟩
  · exact ⟨_, op_ne, z1, by rw [z2]; exact q⟩
  · exact ⟨_, op_neD hu, d, e', h1, h2, h3, h4, by rw [h5]; exact q⟩
theorem eqA_at (hK : X.K = G.K) {A : Around} (hu : A.units + 64 < cLine) {pins : List (Addr × Obj)} {σ : St} {s : Shared} (I : Inv X pins σ H s) (R : RH G ρ h H) (ra : RV G ρ H a v) (rb : RV G ρ H b w) {k : Bool} (e : eqA h a b = some k) {u u' : Value} (r1 : RelV v u) (r2 : RelV w u') : SeqAt.EqAt A s u u' k := by
  rcases eqA_cases hK R ra rb e with ⟨f1, f2, z, _, _⟩ | ⟨d, e', h1, h2, h3, h4, h5⟩
  · rw [← z]; exact eqAt_V r1 r2 f1 f2
  · obtain ⟨as, q1⟩ := Dp.reads I d v u h1 r1
    obtain ⟨bs, q2⟩ := Dp.reads I e' w u' h2 r2
    rw [← h5]
    exact SeqAt.eqAt_reads d e' A s u u' as bs q1 q2 (SeqAt.canLay_of_shaped h3) (SeqAt.canLay_of_shaped h4) (SeqAt.room_of_shaped h3 hu)
open Classical in
/-- each item against x -/
theorem inS_at (hK : X.K = G.K) {A : Around} (hu : A.units + 64 < cLine) {pins : List (Addr × Obj)} {σ : St} {s : Shared} (I : Inv X pins σ H s) (R : RH G ρ h H) {x : AV} (rx : RV G ρ H x v) {ux : Value} (r1 : RelV v ux) :
    ∀ {xs : List AV} {ys : List V} {us : List Value} {bs : List Bool}, RVs G ρ H xs ys → Vals ys us → mapO (fun y => eqA h y x) xs = some bs →
      ∃ e : Value → Bool, (∀ u ∈ us, SeqAt.EqAt A s u ux (e u)) ∧ us.any e = bs.any id := by
  intro xs ys us bs h1 h2 h3
  have key : ∀ (xs : List AV) (ys : List V) (us : List Value) (bs : List Bool), RVs G ρ H xs ys → Vals ys us → mapO (fun y => eqA h y x) xs = some bs →
      bs.length = us.length ∧ ∀ (i : Nat) u k, us[i]? = some u → bs[i]? = some k → SeqAt.EqAt A s u ux k := by
    intro xs
    induction xs with
    | nil => intro ys us bs h1 h2 h3; cases h3; rw [RVs_nil.mp h1] at h2; cases h2; exact ⟨rfl, fun i u k e => by simp at e⟩
    | cons x0 xs ih =>
      intro ys us bs h1 h2 h3
      obtain ⟨y, yr, rfl, r0, rr⟩ := RVs_cons.mp h1
      obtain ⟨k0, ks, e0, e1, rfl⟩ := mapO_cons h3
      cases h2 with
      | cons q0 q1 =>
        obtain ⟨l, hi⟩ := ih yr _ ks rr q1 e1
        refine ⟨by simp [l], fun i u k g1 g2 => ?_⟩
        cases i with
        | zero =>
          simp at g1 g2
          subst g1 g2
          exact eqA_at hK hu I R r0 rx e0 q0 r1
        | succ i => exact hi i u k (by simpa using g1) (by simpa using g2)
  obtain ⟨hl, hi⟩ := key xs ys us bs h1 h2 h3
  refine ⟨fun u => decide (∃ i : Nat, us[i]? = some u ∧ bs[i]? = some true), fun u hu' => ?_, ?_⟩
  · show SeqAt.EqAt A s u ux (decide (∃ i : Nat, us[i]? = some u ∧ bs[i]? = some true))
    obtain ⟨i, hi1, e1⟩ := List.getElem_of_mem hu'
    have g1 : us[i]? = some u := by rw [List.getElem?_eq_getElem hi1, e1]
    by_cases q : ∃ i : Nat, us[i]? = some u ∧ bs[i]? = some true
    · rw [decide_eq_true q]
      obtain ⟨j, j1, j2⟩ := q
      exact hi j u true j1 j2
    · rw [decide_eq_false q]
      have hb : i < bs.length := by rw [hl]; exact hi1
      cases e2 : bs[i] with
      | true => exact absurd ⟨i, g1, by rw [List.getElem?_eq_getElem hb, e2]⟩ q
      | false => exact hi i u false g1 (by rw [List.getElem?_eq_getElem hb, e2])
  · rw [Bool.eq_iff_iff]
    simp only [List.any_eq_true, decide_eq_true_eq, id]
    constructor
    · rintro ⟨u, _, i, i1, i2⟩
      exact ⟨true, List.mem_of_getElem? i2, rfl⟩
    · rintro ⟨k, hk, rfl⟩
      obtain ⟨i, hi1, e1⟩ := List.getElem_of_mem hk
      have hu1 : i < us.length := by rw [← hl]; exact hi1
      exact ⟨us[i], List.getElem_mem hu1, i, List.getElem?_eq_getElem hu1, by rw [List.getElem?_eq_getElem hi1, e1]⟩
theorem op_inS (hK : X.K = G.K) (hu : X.A.units + 65 < cLine) : OpR X (compareOp .In) (fun x y H Q => ∃ ρ h xa xs k p ys, RH G ρ h H ∧ RV G ρ H xa x ∧ y = .ref p ∧ (SqL X.K H p ys ∨ SqT X.K H p ys) ∧ RVs G ρ H xs ys ∧ inS h xa xs = some k ∧ Q (.bl k) H) := by
  intro pins s σ H x y v u Q I rx ry hq
  obtain ⟨ρ, h, xa, xs, k, p, ys, R, ra, rfl, hs, rs, e, q⟩ := hq
  cases ry
  obtain ⟨bs, e1, rfl⟩ := Option.map_eq_some_iff.mp e
  have hu1 : X.A.in1.units + 64 < cLine := by show X.A.units + 1 + 64 < cLine; omega
  rcases hs with hs | hs
  · obtain ⟨its, r, pl, hz⟩ := I.list hs
    obtain ⟨e, g1, g2⟩ := inS_at hK hu1 I R ra rx rs r e1
    refine SeqAt.in_listAt e pl.isList (fun w hw => g1 w (by simpa using hw)) ⟨.bl _, H, I, rfl, ?_⟩
    rw [show its.toArray.any e = its.any e by simp, g2]
    exact q
  · obtain ⟨its, r, pl, hz⟩ := I.tuple hs
    obtain ⟨e, g1, g2⟩ := inS_at hK hu1 I R ra rx rs r e1
    refine SeqAt.in_tupleAt e pl (fun w hw => g1 w (by simpa using hw)) ⟨.bl _, H, I, rfl, ?_⟩
    rw [show its.toArray.any e = its.any e by simp, g2]
    exact q
theorem op_notInS (hK : X.K = G.K) (hu : X.A.units + 65 < cLine) : OpR X (compareOp .NotIn) (fun x y H Q => ∃ ρ h xa xs k p ys, RH G ρ h H ∧ RV G ρ H xa x ∧ y = .ref p ∧ (SqL X.K H p ys ∨ SqT X.K H p ys) ∧ RVs G ρ H xs ys ∧ inS h xa xs = some k ∧ Q (.bl (!k)) H) := by
  intro pins s σ H x y v u Q I rx ry hq
  obtain ⟨ρ, h, xa, xs, k, p, ys, R, ra, rfl, hs, rs, e, q⟩ := hq
  cases ry
  obtain ⟨bs, e1, rfl⟩ := Option.map_eq_some_iff.mp e
  have hu1 : X.A.in1.units + 64 < cLine := by show X.A.units + 1 + 64 < cLine; omega
  rcases hs with hs | hs
  · obtain ⟨its, r, pl, hz⟩ := I.list hs
    obtain ⟨e, g1, g2⟩ := inS_at hK hu1 I R ra rx rs r e1
    refine SeqAt.notIn_listAt e pl.isList (fun w hw => g1 w (by simpa using hw)) ⟨.bl _, H, I, rfl, ?_⟩
    rw [show its.toArray.any e = its.any e by simp, g2]
    exact q
  · obtain ⟨its, r, pl, hz⟩ := I.tuple hs
    obtain ⟨e, g1, g2⟩ := inS_at hK hu1 I R ra rx rs r e1
    refine SeqAt.notIn_tupleAt e pl (fun w hw => g1 w (by simpa using hw)) ⟨.bl _, H, I, rfl, ?_⟩
    rw [show its.toArray.any e = its.any e by simp, g2]
    exact q
end
end PM
end
section
set_option maxHeartbeats 1000000
/-! PMD: dicts. -/
namespace PM
open PySem PySem.Spec L2
section
variable {X : Cx} {G : Gw} {ρ : List Addr} {H : Hp} {h h' : AH} {a b r x k : AV} {v w : V} {Q : VK}
theorem keyE_ok : ∀ {a b : AV} {p q : Key}, cK a = some p → cK b = some q → keyE a b = decide (p = q)
  | .int i, .int j, _, _, e1, e2 => by
    cases e1; cases e2
    show decide (i = j) = _
    exact decide_eq_decide.mpr ⟨fun z => by rw [z], fun z => Sum.inl.inj z⟩
  | .str i, .str j, _, _, e1, e2 => by
    cases e1; cases e2
    show decide (i = j) = _
    exact decide_eq_decide.mpr ⟨fun z => by rw [z], fun z => cStr_inj (Sum.inr.inj z)⟩
  | .int i, .str j, _, _, e1, e2 => by cases e1; cases e2; exact (decide_eq_false (fun z => by cases z)).symm
  | .str i, .int j, _, _, e1, e2 => by cases e1; cases e2; exact (decide_eq_false (fun z => by cases z)).symm
  | .non, _, _, _, e, _ | .bl _, _, _, _, e, _ | .tup _, _, _, _, e, _ | .ref _, _, _, _, e, _ | .ktp _, _, _, _, e, _ | .glo _, _, _, _, e, _ | .gdc _, _, _, _, e, _ | .ty _, _, _, _, e, _ => by cases e
  | .int _, .non, _, _, _, e | .int _, .bl _, _, _, _, e | .int _, .tup _, _, _, _, e | .int _, .ref _, _, _, _, e | .int _, .ktp _, _, _, _, e | .int _, .glo _, _, _, _, e | .int _, .gdc _, _, _, _, e | .int _, .ty _, _, _, _, e => by cases e
  | .str _, .non, _, _, _, e | .str _, .bl _, _, _, _, e | .str _, .tup _, _, _, _, e | .str _, .ref _, _, _, _, e | .str _, .ktp _, _, _, _, e | .str _, .glo _, _, _, _, e | .str _, .gdc _, _, _, _, e | .str _, .ty _, _, _, _, e => by cases e
theorem cKs_cons {x : AV} {xs : List AV} {l : List Key} (e : cKs (x :: xs) = some l) : ∃ k ks, cK x = some k ∧ cKs xs = some ks ∧ l = k :: ks := by
  unfold cKs at e
  split at e
  · cases e; exact ⟨_, _, by assumption, by assumption, rfl⟩
  · cases e
theorem keyEs_ok : ∀ {a b : List AV} {p q : List Key}, cKs a = some p → cKs b = some q → keyEs a b = decide (p = q)
  | [], [], _, _, e1, e2 => by cases e1; cases e2; rfl
  | [], y :: ys, _, _, e1, e2 => by
    cases e1
    obtain ⟨k, ks, _, _, rfl⟩ := cKs_cons e2
    rfl
  | x :: xs, [], _, _, e1, e2 => by
    cases e2
    obtain ⟨k, ks, _, _, rfl⟩ := cKs_cons e1
    rfl
  | x :: xs, y :: ys, _, _, e1, e2 => by
    obtain ⟨k, ks, a1, a2, rfl⟩ := cKs_cons e1
    obtain ⟨l, ls, b1, b2, rfl⟩ := cKs_cons e2
    show (keyE x y && keyEs xs ys) = _
    rw [keyE_ok a1 b1, keyEs_ok a2 b2, Bool.eq_iff_iff]
    simp
theorem keyB_K {a b : AV} {p q : Key} (e1 : cK a = some p) (e2 : cK b = some q) : keyB a b = decide (p = q) := by
  have : keyB a b = keyE a b := by
    cases a with
    | tup xs => cases e1
    | _ => rfl
  rw [this, keyE_ok e1 e2]
theorem keyB_T {a b : AV} {p q : List Key} (e1 : cT a = some p) (e2 : cT b = some q) : keyB a b = decide (p = q) := by
  cases a with
  | tup xs =>
    cases b with
    | tup ys => exact keyEs_ok e1 e2
    | _ => cases e2
  | _ => cases e1
theorem cK_of {a : AV} (h : keyF a = true) : ∃ p, cK a = some p := by
  cases a with
  | int i => exact ⟨_, rfl⟩
  | str x => exact ⟨_, rfl⟩
  | _ => cases h
theorem cKs_of : ∀ {xs : List AV}, xs.all keyF = true → ∃ p, cKs xs = some p
  | [], _ => ⟨_, rfl⟩
  | x :: xs, h => by
    rw [List.all_cons, Bool.and_eq_true] at h
    obtain ⟨p, e1⟩ := cK_of h.1
    obtain ⟨ps, e2⟩ := cKs_of h.2
    exact ⟨p :: ps, by simp [cKs, e1, e2]⟩
theorem cT_of {a : AV} (h : keyT a = true) : ∃ p, cT a = some p := by
  cases a with
  | tup xs => exact cKs_of h
  | _ => cases h
theorem RV_cK {a : AV} {p : Key} (e : cK a = some p) : RV G ρ H a v ↔ v = kV p := by
  cases a with
  | int i => cases e; exact RV_int
  | str x => cases e; exact RV_str
  | _ => cases e
theorem RVs_cKs : ∀ {xs : List AV} {ps : List Key} {ys : List V}, cKs xs = some ps → (RVs G ρ H xs ys ↔ ys = ps.map kV)
  | [], _, _, e => by cases e; exact RVs_nil
  | x :: xs, _, ys, e => by
    obtain ⟨k, ks, a1, a2, rfl⟩ := cKs_cons e
    rw [RVs_cons]
    constructor
    · rintro ⟨y, r, rfl, h1, h2⟩
      rw [(RV_cK a1).mp h1, (RVs_cKs a2).mp h2]
      rfl
    · rintro rfl
      exact ⟨kV k, ks.map kV, rfl, (RV_cK a1).mpr rfl, (RVs_cKs a2).mpr rfl⟩
/-- a tuple's key stands in the heap as such a tuple -/
theorem RV_cT {a : AV} {p : List Key} (e : cT a = some p) (r : RV G ρ H a v) : ∃ t, v = .ref t ∧ H t = some (.tup (p.map kV)) := by
  cases a with
  | tup xs =>
    obtain ⟨t, ys, rfl, ht, s⟩ := RV_tup.mp r
    rw [(RVs_cKs e).mp s] at ht
    exact ⟨t, rfl, ht⟩
  | _ => cases e

/-- what is found -/
def RVO (G : Gw) (ρ : List Addr) (H : Hp) : Option AV → Option V → Prop
  | some x, some v => RV G ρ H x v
  | none, none => True
  | _, _ => False
theorem look_K {p : Key} (ek : cK k = some p) : ∀ {kvs : List (AV × AV)} {l : List (Key × V)}, RKs G ρ H kvs l → RVO G ρ H (look kvs k) (valV l p)
  | [], _, h => by rw [show (_ : List (Key × V)) = [] from h]; trivial
  | (k0, x) :: r, _, h => by
    obtain ⟨p0, v, l', rfl, e0, rv, t⟩ := h
    have ih := look_K ek t
    by_cases q : p0 = p
    · rw [valV_pos (p := (p0, v)) q]
      have : look ((k0, x) :: r) k = some x := by simp [look, List.find?_cons, keyB_K e0 ek, q]
      rw [this]
      exact rv
    · rw [valV_neg (p := (p0, v)) q]
      have : look ((k0, x) :: r) k = look r k := by simp [look, List.find?_cons, keyB_K e0 ek, q]
      rw [this]
      exact ih
theorem look_T {p : List Key} (ek : cT k = some p) : ∀ {kvs : List (AV × AV)} {l : List (List Key × V)}, RTs G ρ H kvs l → RVO G ρ H (look kvs k) (valV l p)
  | [], _, h => by rw [show (_ : List (List Key × V)) = [] from h]; trivial
  | (k0, x) :: r, _, h => by
    obtain ⟨p0, v, l', rfl, e0, rv, t⟩ := h
    have ih := look_T ek t
    by_cases q : p0 = p
    · rw [valV_pos (p := (p0, v)) q]
      have : look ((k0, x) :: r) k = some x := by simp [look, List.find?_cons, keyB_T e0 ek, q]
      rw [this]
      exact rv
    · rw [valV_neg (p := (p0, v)) q]
      have : look ((k0, x) :: r) k = look r k := by simp [look, List.find?_cons, keyB_T e0 ek, q]
      rw [this]
      exact ih
theorem RKs.append : ∀ {kvs kvs' : List (AV × AV)} {l l' : List (Key × V)}, RKs G ρ H kvs l → RKs G ρ H kvs' l' → RKs G ρ H (kvs ++ kvs') (l ++ l')
  | [], _, _, _, h, h' => by rw [show (_ : List (Key × V)) = [] from h]; exact h'
  | (k, x) :: r, _, _, _, h, h' => by
    obtain ⟨p0, v, l', rfl, e0, rv, t⟩ := h
    exact ⟨p0, v, _, rfl, e0, rv, RKs.append t h'⟩
theorem RTs.append : ∀ {kvs kvs' : List (AV × AV)} {l l' : List (List Key × V)}, RTs G ρ H kvs l → RTs G ρ H kvs' l' → RTs G ρ H (kvs ++ kvs') (l ++ l')
  | [], _, _, _, h, h' => by rw [show (_ : List (List Key × V)) = [] from h]; exact h'
  | (k, x) :: r, _, _, _, h, h' => by
    obtain ⟨p0, v, l', rfl, e0, rv, t⟩ := h
    exact ⟨p0, v, _, rfl, e0, rv, RTs.append t h'⟩
theorem RKs.any {p : Key} (ek : cK k = some p) : ∀ {kvs : List (AV × AV)} {l : List (Key × V)}, RKs G ρ H kvs l → (kvs.any fun kv => keyB kv.1 k) = l.any fun kv => decide (kv.1 = p)
  | [], _, h => by rw [show (_ : List (Key × V)) = [] from h]; rfl
  | (k0, x) :: r, _, h => by
    obtain ⟨p0, v, l', rfl, e0, rv, t⟩ := h
    rw [List.any_cons, List.any_cons, RKs.any ek t, keyB_K e0 ek]
theorem RTs.any {p : List Key} (ek : cT k = some p) : ∀ {kvs : List (AV × AV)} {l : List (List Key × V)}, RTs G ρ H kvs l → (kvs.any fun kv => keyB kv.1 k) = l.any fun kv => decide (kv.1 = p)
  | [], _, h => by rw [show (_ : List (List Key × V)) = [] from h]; rfl
  | (k0, x) :: r, _, h => by
    obtain ⟨p0, v, l', rfl, e0, rv, t⟩ := h
    rw [List.any_cons, List.any_cons, RTs.any ek t, keyB_T e0 ek]
theorem RKs.map {p : Key} (ek : cK k = some p) (rx : RV G ρ H x v) : ∀ {kvs : List (AV × AV)} {l : List (Key × V)}, RKs G ρ H kvs l → RKs G ρ H (kvs.map fun kv => if keyB kv.1 k then (kv.1, x) else kv) (l.map fun kv => if kv.1 = p then (kv.1, v) else kv)
  | [], _, h => by rw [show (_ : List (Key × V)) = [] from h]; rfl
  | (k0, y) :: r, _, h => by
    obtain ⟨p0, u, l', rfl, e0, rv, t⟩ := h
    have ih := RKs.map ek rx t
    simp only [List.map_cons, keyB_K e0 ek, decide_eq_true_eq]
    by_cases q : p0 = p
    · rw [if_pos q, if_pos q]
      exact ⟨p0, v, _, rfl, e0, rx, ih⟩
    · rw [if_neg q, if_neg q]
      exact ⟨p0, u, _, rfl, e0, rv, ih⟩
theorem RTs.map {p : List Key} (ek : cT k = some p) (rx : RV G ρ H x v) : ∀ {kvs : List (AV × AV)} {l : List (List Key × V)}, RTs G ρ H kvs l → RTs G ρ H (kvs.map fun kv => if keyB kv.1 k then (kv.1, x) else kv) (l.map fun kv => if kv.1 = p then (kv.1, v) else kv)
  | [], _, h => by rw [show (_ : List (List Key × V)) = [] from h]; rfl
  | (k0, y) :: r, _, h => by
    obtain ⟨p0, u, l', rfl, e0, rv, t⟩ := h
    have ih := RTs.map ek rx t
    simp only [List.map_cons, keyB_T e0 ek, decide_eq_true_eq]
    by_cases q : p0 = p
    · rw [if_pos q, if_pos q]
      exact ⟨p0, v, _, rfl, e0, rx, ih⟩
    · rw [if_neg q, if_neg q]
      exact ⟨p0, u, _, rfl, e0, rv, ih⟩
theorem RKs.put {p : Key} (ek : cK k = some p) (rx : RV G ρ H x v) {kvs : List (AV × AV)} {l : List (Key × V)} (h : RKs G ρ H kvs l) : RKs G ρ H (put kvs k x) (putK l p v) := by
  unfold PM.put L2.putK
  rw [RKs.any ek h]
  split
  · exact RKs.map ek rx h
  · exact RKs.append h ⟨p, v, [], rfl, ek, rx, rfl⟩
theorem RTs.put {p : List Key} (ek : cT k = some p) (rx : RV G ρ H x v) {kvs : List (AV × AV)} {l : List (List Key × V)} (h : RTs G ρ H kvs l) : RTs G ρ H (put kvs k x) (putK l p v) := by
  unfold PM.put L2.putK
  rw [RTs.any ek h]
  split
  · exact RTs.map ek rx h
  · exact RTs.append h ⟨p, v, [], rfl, ek, rx, rfl⟩
theorem RKs.length : ∀ {kvs : List (AV × AV)} {l : List (Key × V)}, RKs G ρ H kvs l → kvs.length = l.length
  | [], _, h => by rw [show (_ : List (Key × V)) = [] from h]; rfl
  | (k0, x) :: r, _, h => by
    obtain ⟨p0, v, l', rfl, e0, rv, t⟩ := h
    simp [RKs.length t]
theorem RTs.length : ∀ {kvs : List (AV × AV)} {l : List (List Key × V)}, RTs G ρ H kvs l → kvs.length = l.length
  | [], _, h => by rw [show (_ : List (List Key × V)) = [] from h]; rfl
  | (k0, x) :: r, _, h => by
    obtain ⟨p0, v, l', rfl, e0, rv, t⟩ := h
    simp [RTs.length t]
/-- the keys of such a dict are ints and texts -/
theorem RKs.keys : ∀ {kvs : List (AV × AV)} {l : List (Key × V)}, RKs G ρ H kvs l → kvs.all (fun kv => keyF kv.1) = true
  | [], _, h => rfl
  | (k0, x) :: r, _, h => by
    obtain ⟨p0, v, l', rfl, e0, rv, t⟩ := h
    rw [List.all_cons, RKs.keys t]
    cases k0 <;> first | rfl | cases e0
theorem RTs.keys : ∀ {kvs : List (AV × AV)} {l : List (List Key × V)}, RTs G ρ H kvs l → kvs ≠ [] → kvs.all (fun kv => keyF kv.1) = false
  | [], _, h, n => absurd rfl n
  | (k0, x) :: r, _, h, _ => by
    obtain ⟨p0, v, l', rfl, e0, rv, t⟩ := h
    rw [List.all_cons]
    cases k0 <;> first | rfl | cases e0

/-! ### an empty dict is both -/
theorem dk_dt {P : Program} {w : World} {hp : Heap} {q : Addr} {H H' : Hp} (x : ObjOk P w H hp q (.dK [])) : ObjOk P w H' hp q (.dT []) := by
  obtain ⟨z, hd, vs, rel, o, es, ep, e, ex, ed, k1, k2, nd⟩ := x
  cases rel
  refine ⟨Nat.zero_le _, hd, [], .nil, o, es, ep, e, ex, ed, ?_, List.nodup_nil⟩
  cases he : es.toList with
  | nil => rfl
  | cons a r => rw [he] at k2; cases k2
theorem dt_dk {P : Program} {w : World} {hp : Heap} {q : Addr} {H H' : Hp} (x : ObjOk P w H hp q (.dT [])) : ObjOk P w H' hp q (.dK []) := by
  obtain ⟨z, hd, xs, rel, o, es, ep, e, ex, ed, k2, nd⟩ := x
  cases rel
  have he : es = #[] := by
    apply Array.toList_inj.mp
    rw [k2]; rfl
  subst he
  exact ⟨Nat.zero_le _, hd, [], .nil, o, #[], ep, e, ex, ed, fun _ h => by simp at h, by first | exact .nil | exact True.intro | rfl, List.nodup_nil⟩
theorem Inv.reT {pins : List (Addr × Obj)} {σ : St} {s : Shared} {q : Addr} (I : L2.Inv X pins σ H s) (e : H q = some (.dK [])) : L2.Inv X pins σ (upd H q (.dT [])) s := by
  have ok := I.hok q _ e
  obtain ⟨ob, hob⟩ : ∃ u, s.heap.get? q = some u := by obtain ⟨_, _, _, _, o, _, _, e, _⟩ := ok; exact ⟨o, e⟩
  exact I.write (t' := s.toks) (by rw [e]; exact True.intro) (.inl rfl) (fun b u _ h => h) ⟨ob, hob⟩ (dk_dt ok)
theorem Inv.reK {pins : List (Addr × Obj)} {σ : St} {s : Shared} {q : Addr} (I : L2.Inv X pins σ H s) (e : H q = some (.dT [])) : L2.Inv X pins σ (upd H q (.dK [])) s := by
  have ok := I.hok q _ e
  obtain ⟨ob, hob⟩ : ∃ u, s.heap.get? q = some u := by obtain ⟨_, _, _, _, o, _, _, e, _⟩ := ok; exact ⟨o, e⟩
  exact I.write (t' := s.toks) (by rw [e]; exact True.intro) (.inl rfl) (fun b u _ h => h) ⟨ob, hob⟩ (dt_dk ok)
theorem keyF_T {k : AV} (a : keyF k = true) (b : keyT k = true) : False := by cases k <;> first | (cases a; done) | (cases b; done)
theorem RH.same (R : RH G ρ h H) {n : Nat} {q : Addr} {o : AObj} {ho : HO} (eq : ρ[n]? = some q) (eo : h.get n = some o) (mu : Mut (H q)) (r : RO G ρ H o ho) : Ext ρ H ρ (upd H q ho) ∧ RH G ρ h (upd H q ho) := by
  have e : Ext ρ H ρ (upd H q ho) := ⟨⟨[], by simp⟩, Mut.notup mu⟩
  refine ⟨e, R.wf, R.full, R.len, R.nd, fun k b u eb eu => ?_⟩
  obtain ⟨ho', h1, h2⟩ := R.ob k b u eb eu
  by_cases z : b = q
  · subst z
    have : k = n := by
      obtain ⟨l1, e1⟩ := List.getElem?_eq_some_iff.mp eb
      obtain ⟨l2, e2⟩ := List.getElem?_eq_some_iff.mp eq
      exact (List.getElem_inj R.nd).mp (e1.trans e2.symm)
    subst this
    rw [eo] at eu
    cases eu
    exact ⟨ho, upd_same, r.mono e⟩
  · exact ⟨ho', by rw [upd_ne z]; exact h1, h2.mono e⟩
theorem RKs.putAll : ∀ {more : List (AV × AV)} {l2 : List (Key × V)} {kvs : List (AV × AV)} {l : List (Key × V)}, RKs G ρ H kvs l → RKs G ρ H more l2 → RKs G ρ H (putAll kvs more) (mergeK l l2)
  | [], _, kvs, l, h, t => by
    rw [show _ = [] from t]
    exact h
  | (k, x) :: r, _, kvs, l, h, t => by
    obtain ⟨p, v, l', rfl, e, rv, t'⟩ := t
    show RKs G ρ H (PM.putAll (PM.put kvs k x) r) (mergeK (putK l p v) l')
    exact RKs.putAll (h.put e rv) t'
/-- a dict of plain keys: maybe seen anew -/
theorem asK (R : RH G ρ h H) {p : Nat} {q : Addr} (eq : ρ[p]? = some q) {kvs : List (AV × AV)} (g : h.get p = some (.dic kvs)) (kk : kvs.all (fun kv => keyF kv.1) = true) {pins : List (Addr × Obj)} {σ : St} {s : Shared} (I : L2.Inv X pins σ H s) :
    ∃ H2 l, L2.Inv X pins σ H2 s ∧ Ext ρ H ρ H2 ∧ RH G ρ h H2 ∧ H2 q = some (.dK l) ∧ RKs G ρ H2 kvs l ∧ ∀ b, b ≠ q → H2 b = H b := by
  obtain ⟨ho, hq, r⟩ := R.ob p q _ eq g
  rcases r with ⟨l, rfl, rl⟩ | ⟨l, rfl, rl⟩
  · exact ⟨H, l, I, .refl, R, hq, rl, fun _ _ => rfl⟩
  · have : kvs = [] := by
      cases kvs with
      | nil => rfl
      | cons c cs =>
        have := rl.keys (by simp)
        rw [this] at kk
        cases kk
    subst this
    rw [show l = [] from rl] at hq
    obtain ⟨e2, R2⟩ := R.same (ho := .dK []) eq g (by rw [hq]; exact True.intro) (.inl ⟨[], rfl, rfl⟩)
    exact ⟨_, [], Inv.reK I hq, e2, R2, upd_same, rfl, fun b nb => upd_ne nb⟩
/-- a dict that is asked for a key: maybe seen anew -/
theorem ask (R : RH G ρ h H) {p : Nat} (rv : RV G ρ H (.ref p) v) (rk : RV G ρ H k w) {kvs : List (AV × AV)} (e : dicR p k h = .ok kvs h') :
    h' = h ∧ ∃ q, v = .ref q ∧ ∀ {pins : List (Addr × Obj)} {σ : St} {s : Shared}, L2.Inv X pins σ H s → ∃ H2 o, L2.Inv X pins σ H2 s ∧ Ext ρ H ρ H2 ∧ RH G ρ h H2 ∧ DGet H2 q w o ∧ RVO G ρ H2 (look kvs k) o := by
  obtain ⟨q, eq, rfl⟩ := RV_ref.mp rv
  have caseK : ∀ {H2 : Hp} {l : List (Key × V)}, keyF k = true → RV G ρ H2 k w → Rd H2 q (.dK l) → RKs G ρ H2 kvs l → ∃ o, DGet H2 q w o ∧ RVO G ρ H2 (look kvs k) o := by
    intro H2 l kf rk rd rl
    obtain ⟨c, ec⟩ := cK_of kf
    obtain rfl := (RV_cK ec).mp rk
    exact ⟨_, .inl ⟨l, c, rd, rfl, rfl⟩, look_K ec rl⟩
  have caseT : ∀ {H2 : Hp} {l : List (List Key × V)}, keyT k = true → RV G ρ H2 k w → Rd H2 q (.dT l) → RTs G ρ H2 kvs l → ∃ o, DGet H2 q w o ∧ RVO G ρ H2 (look kvs k) o := by
    intro H2 l kt rk rd rl
    obtain ⟨c, ec⟩ := cT_of kt
    obtain ⟨t, rfl, ht⟩ := RV_cT ec rk
    exact ⟨_, .inr ⟨l, c, t, rd, rfl, ht, rfl⟩, look_T ec rl⟩
  unfold dicR at e
  split at e
  · rename_i kvs' g
    split at e
    · rename_i ok
      cases e
      refine ⟨rfl, q, rfl, fun {pins σ s} I => ?_⟩
      obtain ⟨ho, hq, r⟩ := R.ob p q _ eq g
      unfold keyOk at ok
      rw [Bool.or_eq_true, Bool.and_eq_true, Bool.and_eq_true] at ok
      rcases r with ⟨l, rfl, rl⟩ | ⟨l, rfl, rl⟩
      · rcases ok with ⟨kf, _⟩ | ⟨kt, ka⟩
        · obtain ⟨o, d1, d2⟩ := caseK kf rk (.inl hq) rl
          exact ⟨H, o, I, .refl, R, d1, d2⟩
        · have : kvs = [] := by
            cases kvs with
            | nil => rfl
            | cons c cs =>
              have := rl.keys
              rw [List.all_cons, Bool.and_eq_true] at this ka
              exact (keyF_T this.1 ka.1).elim
          subst this
          rw [show l = [] from rl] at hq
          obtain ⟨e2, R2⟩ := R.same (ho := .dT []) eq g (by rw [hq]; exact True.intro) (.inr ⟨[], rfl, rfl⟩)
          obtain ⟨o, d1, d2⟩ := caseT (H2 := upd H q (.dT [])) kt (RV.mono e2 _ rk) (.inl upd_same) rfl
          exact ⟨_, o, Inv.reT I hq, e2, R2, d1, d2⟩
      · rcases ok with ⟨kf, ka⟩ | ⟨kt, ka⟩
        · have : kvs = [] := by
            cases kvs with
            | nil => rfl
            | cons c cs =>
              have := rl.keys (by simp)
              rw [this] at ka
              cases ka
          subst this
          rw [show l = [] from rl] at hq
          obtain ⟨e2, R2⟩ := R.same (ho := .dK []) eq g (by rw [hq]; exact True.intro) (.inl ⟨[], rfl, rfl⟩)
          obtain ⟨o, d1, d2⟩ := caseK (H2 := upd H q (.dK [])) kf (RV.mono e2 _ rk) (.inl upd_same) rfl
          exact ⟨_, o, Inv.reK I hq, e2, R2, d1, d2⟩
        · obtain ⟨o, d1, d2⟩ := caseT kt rk (.inl hq) rl
          exact ⟨H, o, I, .refl, R, d1, d2⟩
    · cases e
  · rename_i kvs' g
    split at e
    · rename_i ok
      cases e
      refine ⟨rfl, q, rfl, fun {pins σ s} I => ?_⟩
      obtain ⟨ho, hq, ob, o', rfl, r⟩ := R.ob p q _ eq g
      unfold keyOkR keyOk at ok
      rw [Bool.and_eq_true, Bool.or_eq_true, Bool.and_eq_true, Bool.and_eq_true] at ok
      obtain ⟨kn, ok⟩ := ok
      cases kvs with
      | nil => cases kn
      | cons c cs =>
        rcases r with ⟨l, rfl, rl⟩ | ⟨l, rfl, rl⟩
        · rcases ok with ⟨kf, _⟩ | ⟨kt, ka⟩
          · obtain ⟨o, d1, d2⟩ := caseK kf rk (.inr ⟨ob, hq⟩) rl
            exact ⟨H, o, I, .refl, R, d1, d2⟩
          · have := rl.keys
            rw [List.all_cons, Bool.and_eq_true] at this ka
            exact (keyF_T this.1 ka.1).elim
        · rcases ok with ⟨kf, ka⟩ | ⟨kt, ka⟩
          · have := rl.keys (by simp)
            rw [this] at ka
            cases ka
          · obtain ⟨o, d1, d2⟩ := caseT kt rk (.inr ⟨ob, hq⟩) rl
            exact ⟨H, o, I, .refl, R, d1, d2⟩
    · cases e
  · cases e
end
end PM
end
section
set_option maxHeartbeats 1000000
/-! PME: comparisons, items, slices, by values. -/
namespace PM
open PySem PySem.Spec L2
section
variable {X : Cx} {G : Gw} {ρ : List Addr} {H : Hp} {h h' : AH} {a b r x k : AV} {v w : V} {Q : VK}
/-- a rule for values that may look at the dict anew -/
def rAsk (G : Gw) (f : V → V × V → Prop) : R2 := fun _ _ _ _ => True
theorem op_inAsk (hu : X.A.units + 1 < cLine) : OpR X (compareOp .In) (fun x y H Q => ∃ G ρ h h' p k kvs, RH G ρ h H ∧ RV G ρ H (.ref p) y ∧ RV G ρ H k x ∧ dicR p k h = .ok kvs h' ∧ Done G ρ H (.bl (look kvs k).isSome) h' Q) := by
  intro pins s σ H x y v u Q I rx ry hq
  obtain ⟨G, ρ, h, h', p, k, kvs, R, rv, rk, e, D⟩ := hq
  obtain ⟨rfl, q, rfl, g⟩ := ask R rv rk e
  obtain ⟨H2, o, I2, e2, R2, d1, d2⟩ := g I
  cases ry
  refine d_in hu I2 d1 rx fun s' I' => ⟨.bl o.isSome, H2, I', rfl, ?_⟩
  have : o.isSome = (look kvs k).isSome := by
    cases e1 : look kvs k <;> cases o <;> first | rfl | (rw [e1] at d2; exact d2.elim)
  rw [this]
  exact D _ _ _ e2 R2 (by simp)
theorem op_notInAsk (hu : X.A.units + 1 < cLine) : OpR X (compareOp .NotIn) (fun x y H Q => ∃ G ρ h h' p k kvs, RH G ρ h H ∧ RV G ρ H (.ref p) y ∧ RV G ρ H k x ∧ dicR p k h = .ok kvs h' ∧ Done G ρ H (.bl (!(look kvs k).isSome)) h' Q) := by
  intro pins s σ H x y v u Q I rx ry hq
  obtain ⟨G, ρ, h, h', p, k, kvs, R, rv, rk, e, D⟩ := hq
  obtain ⟨rfl, q, rfl, g⟩ := ask R rv rk e
  obtain ⟨H2, o, I2, e2, R2, d1, d2⟩ := g I
  cases ry
  refine d_notIn hu I2 d1 rx fun s' I' => ⟨.bl (!o.isSome), H2, I', rfl, ?_⟩
  have : o.isSome = (look kvs k).isSome := by
    cases e1 : look kvs k <;> cases o <;> first | rfl | (rw [e1] at d2; exact d2.elim)
  rw [this]
  exact D _ _ _ e2 R2 (by simp)
theorem mem_sign {c : Nat} {z : List Nat} : (!(Builtin.Str.occurrences (cStr z) (cStr [c]) 0 (cStr z).length 1).isEmpty) = decide (c ∈ z) := by
  have := PySem.StrLaws.found_one (cStr z) c
  rw [cStr_tl] at this
  exact this
theorem inL_inv {xs : List AV} {k : Bool} (e : inL x xs h = .ok k h') : inS h x xs = some k ∧ h' = h := by
  unfold inL at e
  split at e
  · cases e; exact ⟨by assumption, rfl⟩
  · cases e
theorem inM_ok (hK : X.K = G.K) (hu : X.A.units + 65 < cLine) (R : RH G ρ h H) (ra : RV G ρ H a v) (rb : RV G ρ H b w) {k : Bool} (e : inM a b h = .ok k h') (D : Done G ρ H (.bl k) h' Q) : ∃ r2 : R2, OpR X (compareOp .In) r2 ∧ r2 v w H Q := by
  have hu1 : X.A.units + 1 < cLine := by omega
  have seqL : ∀ {xs : List AV} {p : Addr} {ys : List V}, w = .ref p → (SqL X.K H p ys ∨ SqT X.K H p ys) → RVs G ρ H xs ys → inL a xs h = .ok k h' → ∃ r2 : R2, OpR X (compareOp .In) r2 ∧ r2 v w H Q := by
    intro xs p ys ew hs rs e
    obtain ⟨e1, rfl⟩ := inL_inv e
    exact ⟨_, op_inS hK hu, ρ, h', a, xs, k, p, ys, R, ra, ew, hs, rs, e1, D.here R (by simp)⟩
  unfold inM at e
  split at e
  · split at e
    · obtain ⟨rfl, rfl⟩ := pure_inv e
      obtain rfl := RV_str.mp ra
      obtain rfl := RV_str.mp rb
      exact ⟨_, op_in_str, _, _, rfl, rfl, by rw [mem_sign]; exact D.here R (by simp)⟩
    · cases e
  · rename_i p
    obtain ⟨o, h1, e1, e2⟩ := bind_inv e
    obtain ⟨g, rfl⟩ := getO_inv e1
    split at e2
    · obtain ⟨kvs, h2, e3, e4⟩ := bind_inv e2
      obtain ⟨rfl, rfl⟩ := pure_inv e4
      exact ⟨_, op_inAsk hu1, G, ρ, h1, h', p, a, kvs, R, rb, ra, e3, D⟩
    · obtain ⟨kvs, h2, e3, e4⟩ := bind_inv e2
      obtain ⟨rfl, rfl⟩ := pure_inv e4
      exact ⟨_, op_inAsk hu1, G, ρ, h1, h', p, a, kvs, R, rb, ra, e3, D⟩
    · obtain ⟨q, ys, ew, _, hs, rs⟩ := R.lstR rb (.inl g)
      exact seqL ew (.inl (by rw [hK]; exact hs)) rs e2
    · obtain ⟨q, ys, ew, _, hs, rs⟩ := R.lstR rb (.inr g)
      exact seqL ew (.inl (by rw [hK]; exact hs)) rs e2
    · cases e2
  · obtain ⟨q, ys, ew, hs, rs⟩ := RV_tup.mp rb
    exact seqL ew (.inr (SqT.of hs)) rs e
  · obtain ⟨q, ys, ew, hs, rs⟩ := RV_ktp.mp rb
    exact seqL ew (.inr (by rw [hK]; exact .inr hs)) rs e
  · cases e
theorem notInM_ok (hK : X.K = G.K) (hu : X.A.units + 65 < cLine) (R : RH G ρ h H) (ra : RV G ρ H a v) (rb : RV G ρ H b w) {k : Bool} (e : inM a b h = .ok k h') (D : Done G ρ H (.bl (!k)) h' Q) : ∃ r2 : R2, OpR X (compareOp .NotIn) r2 ∧ r2 v w H Q := by
  have hu1 : X.A.units + 1 < cLine := by omega
  have seqL : ∀ {xs : List AV} {p : Addr} {ys : List V}, w = .ref p → (SqL X.K H p ys ∨ SqT X.K H p ys) → RVs G ρ H xs ys → inL a xs h = .ok k h' → ∃ r2 : R2, OpR X (compareOp .NotIn) r2 ∧ r2 v w H Q := by
    intro xs p ys ew hs rs e
    obtain ⟨e1, rfl⟩ := inL_inv e
    exact ⟨_, op_notInS hK hu, ρ, h', a, xs, k, p, ys, R, ra, ew, hs, rs, e1, D.here R (by simp)⟩
  unfold inM at e
  split at e
  · split at e
    · obtain ⟨rfl, rfl⟩ := pure_inv e
      obtain rfl := RV_str.mp ra
      obtain rfl := RV_str.mp rb
      exact ⟨_, op_notin_str, _, _, rfl, rfl, by rw [mem_sign]; exact D.here R (by simp)⟩
    · cases e
  · rename_i p
    obtain ⟨o, h1, e1, e2⟩ := bind_inv e
    obtain ⟨g, rfl⟩ := getO_inv e1
    split at e2
    · obtain ⟨kvs, h2, e3, e4⟩ := bind_inv e2
      obtain ⟨rfl, rfl⟩ := pure_inv e4
      exact ⟨_, op_notInAsk hu1, G, ρ, h1, h', p, a, kvs, R, rb, ra, e3, D⟩
    · obtain ⟨kvs, h2, e3, e4⟩ := bind_inv e2
      obtain ⟨rfl, rfl⟩ := pure_inv e4
      exact ⟨_, op_notInAsk hu1, G, ρ, h1, h', p, a, kvs, R, rb, ra, e3, D⟩
    · obtain ⟨q, ys, ew, _, hs, rs⟩ := R.lstR rb (.inl g)
      exact seqL ew (.inl (by rw [hK]; exact hs)) rs e2
    · obtain ⟨q, ys, ew, _, hs, rs⟩ := R.lstR rb (.inr g)
      exact seqL ew (.inl (by rw [hK]; exact hs)) rs e2
    · cases e2
  · obtain ⟨q, ys, ew, hs, rs⟩ := RV_tup.mp rb
    exact seqL ew (.inr (SqT.of hs)) rs e
  · obtain ⟨q, ys, ew, hs, rs⟩ := RV_ktp.mp rb
    exact seqL ew (.inr (by rw [hK]; exact .inr hs)) rs e
  · cases e
theorem atI_ok {xs : List AV} {ys : List V} {i : Int} {x : AV} (rs : RVs G ρ H xs ys) (e : atI xs i = some x) : ∃ y, L2.atI ys i = some y ∧ RV G ρ H x y := by
  unfold PM.atI at e
  obtain ⟨j, e1, e2⟩ := Option.bind_eq_some_iff.mp e
  obtain ⟨y, h1, h2⟩ := rs.get e2
  refine ⟨y, ?_, h2⟩
  unfold L2.atI
  have : L2.ixN ys.length i = some j := by rw [← rs.length]; exact e1
  rw [this]
  exact h1
theorem ix_ask (hu : X.A.units + 1 < cLine) : IxR X (fun y x H Q => ∃ G ρ h h' p k kvs r, RH G ρ h H ∧ RV G ρ H (.ref p) y ∧ RV G ρ H k x ∧ dicR p k h = .ok kvs h' ∧ look kvs k = some r ∧ Done G ρ H r h' Q) := by
  intro value slice pins s σ H y x uy ux Q I ry rx hq hs
  obtain ⟨G, ρ, h, h', p, k, kvs, r, R, rv, rk, e, el, D⟩ := hq
  obtain ⟨rfl, q, rfl, g⟩ := ask R rv rk e
  obtain ⟨H2, o, I2, e2, R2, d1, d2⟩ := g I
  cases ry
  rw [el] at d2
  cases o with
  | none => exact d2.elim
  | some z =>
    exact PyProof.Rows.tail_any (dict_typeIs I2 d1) PySem.F.slot_dict_getitem.lookup (d_getItem hu I2 d1 rx fun w' s3 I3 rw' => ⟨z, H2, I3, rw', D _ _ _ e2 R2 d2⟩) hs
theorem ixA_ok {P : Pg} (hK : X.K = G.K) (hu : X.A.units + 65 < cLine) (R : RH G ρ h H) (ra : RV G ρ H a v) (rb : RV G ρ H b w) (ng : ∀ d, a ≠ .gdc d) (e : ixA P a b h = .ok r h') (D : Done G ρ H r h' Q) : ∃ r2 : R2, IxR X r2 ∧ r2 v w H Q := by
  have hu1 : X.A.units + 1 < cLine := by omega
  unfold ixA at e
  split at e
  · split at e
    · obtain rfl := RV_str.mp ra
      obtain rfl := RV_int.mp rb
      obtain ⟨_, h1, e1, e2⟩ := bind_inv e
      obtain ⟨q1, rfl⟩ := guardM_inv e1
      obtain ⟨c, h2, e3, e4⟩ := bind_inv e2
      obtain ⟨g, rfl⟩ := ofO_inv e3
      obtain ⟨rfl, rfl⟩ := pure_inv e4
      refine ⟨_, ix_str, _, _, c, rfl, rfl, by rw [cStr_len]; exact sizeLineB_le q1, ?_, D.here R (by simp [cStr])⟩
      rw [cStr_tl]
      exact g
    · cases e
  · split at e
    · obtain ⟨p, ys, rfl, hs, rs⟩ := RV_tup.mp ra
      obtain rfl := RV_int.mp rb
      obtain ⟨g, rfl⟩ := ofO_inv e
      obtain ⟨y, g1, g2⟩ := atI_ok rs g
      exact ⟨_, ix_tup, p, ys, _, y, rfl, rfl, SqT.of hs, g1, D.here R g2⟩
    · cases e
  · exact (ng _ rfl).elim
  · rename_i p
    obtain ⟨o, h1, e1, e2⟩ := bind_inv e
    obtain ⟨g, rfl⟩ := getO_inv e1
    have seqL : ∀ {xs : List AV} {q : Addr} {ys : List V}, v = .ref q → SqL G.K H q ys → RVs G ρ H xs ys → (match b with | .int i => ofO (PM.atI xs i) | _ => bad) h1 = .ok r h' → ∃ r2 : R2, IxR X r2 ∧ r2 v w H Q := by
      intro xs q ys ev hs rs e
      split at e
      · obtain rfl := RV_int.mp rb
        obtain ⟨g4, rfl⟩ := ofO_inv e
        obtain ⟨y, g1, g2⟩ := atI_ok rs g4
        exact ⟨_, ix_list, q, ys, _, y, ev, rfl, by rw [hK]; exact hs, g1, D.here R g2⟩
      · cases e
    split at e2
    · obtain ⟨q, ys, ev, _, hs, rs⟩ := R.lstR ra (.inl g)
      exact seqL ev hs rs e2
    · obtain ⟨q, ys, ev, _, hs, rs⟩ := R.lstR ra (.inr g)
      exact seqL ev hs rs e2
    · obtain ⟨kvs, h2, e3, e4⟩ := bind_inv e2
      obtain ⟨e5, rfl⟩ := ofO_inv e4
      exact ⟨_, ix_ask hu1, G, ρ, h1, h', p, b, kvs, r, R, ra, rb, e3, e5, D⟩
    · obtain ⟨kvs, h2, e3, e4⟩ := bind_inv e2
      obtain ⟨e5, rfl⟩ := ofO_inv e4
      exact ⟨_, ix_ask hu1, G, ρ, h1, h', p, b, kvs, r, R, ra, rb, e3, e5, D⟩
    · cases e2
  · cases e
theorem cutV_ok {xs : List AV} {ys : List V} (lo hi : Option Int) (rs : RVs G ρ H xs ys) : RVs G ρ H (cutA xs lo hi) (cutV ys lo hi) := by
  unfold cutA cutV
  rw [rs.length]
  exact (rs.drop _).take _
theorem slA_ok {lo hi : Option Int} (hK : X.K = G.K) (R : RH G ρ h H) (ra : RV G ρ H a v) (e : slA a lo hi h = .ok r h') (D : Done G ρ H r h' Q) : ∃ r2, SlR X r2 ∧ r2 v lo hi H Q := by
  unfold slA at e
  split at e
  · obtain rfl := RV_str.mp ra
    obtain ⟨_, h1, e1, e2⟩ := bind_inv e
    obtain ⟨q1, rfl⟩ := guardM_inv e1
    obtain ⟨rfl, rfl⟩ := pure_inv e2
    refine ⟨_, sl_str, _, rfl, by rw [cStr_len]; exact sizeLineB_le q1, D.here R ?_⟩
    simp [cStr, cutS, cutA, Str.length]
  · rename_i xs
    obtain ⟨p, ys, rfl, hs, rs⟩ := RV_tup.mp ra
    obtain ⟨rfl, rfl⟩ := pure_inv e
    refine ⟨_, sl_tupA, p, ys, rfl, SqT.of hs, fun z => ?_, fun _ => tupDone R (cutV_ok lo hi rs) D⟩
    refine D.here R (RV_tup.mpr ⟨p, ys, rfl, hs, ?_⟩)
    have : cutA xs lo hi = xs := by
      unfold cutA
      rw [rs.length, z.1, z.2]
      simp [← rs.length]
    rw [this]
    exact rs
  · rename_i p
    obtain ⟨xs, h1, e1, e2⟩ := bind_inv e
    obtain ⟨g, rfl⟩ := lstO_inv e1
    obtain ⟨rfl, rfl⟩ := newO_inv e2
    obtain ⟨q, ys, rfl, _, hs, rs⟩ := R.lstR ra g
    exact ⟨_, sl_list, q, ys, rfl, by rw [hK]; exact hs, newDone (o := .lst (cutA xs lo hi)) R ⟨_, rfl, cutV_ok lo hi rs⟩ D⟩
  · cases e
end
end PM
end
section
set_option maxHeartbeats 1000000
/-! PMF: what is stored: lists, dicts, fields. -/
namespace PM
open PySem PySem.Spec L2
section
variable {X : Cx} {G : Gw} {ρ : List Addr} {H : Hp} {h h' : AH} {a b c r x k : AV} {v w y : V} {Q : VK}
def DoneH (G : Gw) (ρ : List Addr) (H : Hp) (h : AH) (Q : Hp → Prop) : Prop := ∀ ρ' H', Ext ρ H ρ' H' → RH G ρ' h H' → Q H'
theorem put_len (kvs : List (AV × AV)) (k x : AV) : (put kvs k x).length ≤ kvs.length + 1 := by
  unfold put
  split <;> simp
/-- the heap with d[k] = x -/
theorem askPut (R : RH G ρ h H) {p : Nat} {q : Addr} (eq : ρ[p]? = some q) (rk : RV G ρ H k w) (rx : RV G ρ H x y) {kvs : List (AV × AV)} (g : h.get p = some (.dic kvs)) (ok : keyOk kvs k = true) (hl : kvs.length < sizeLine)
    {pins : List (Addr × Obj)} {σ : St} {s : Shared} (I : L2.Inv X pins σ H s) :
    ∃ H2 H3, L2.Inv X pins σ H2 s ∧ DPut H2 q w y H3 ∧ Ext ρ H ρ H3 ∧ RH G ρ (h.set p (.dic (put kvs k x))) H3 := by
  obtain ⟨ho, hq, r⟩ := R.ob p q _ eq g
  unfold keyOk at ok
  rw [Bool.or_eq_true, Bool.and_eq_true, Bool.and_eq_true] at ok
  have caseK : ∀ {H2 : Hp} {l : List (Key × V)}, RH G ρ h H2 → keyF k = true → RV G ρ H2 k w → RV G ρ H2 x y → H2 q = some (.dK l) → RKs G ρ H2 kvs l → ∃ H3, DPut H2 q w y H3 ∧ Ext ρ H2 ρ H3 ∧ RH G ρ (h.set p (.dic (put kvs k x))) H3 := by
    intro H2 l R2 kf rk rx hq rl
    obtain ⟨c, ec⟩ := cK_of kf
    obtain rfl := (RV_cK ec).mp rk
    obtain ⟨e3, R3⟩ := R2.set (o := .dic (put kvs k x)) (ho := .dK (putK l c y)) eq (by rw [hq]; exact True.intro) (.inl ⟨_, rfl, rl.put ec rx⟩)
    exact ⟨_, DPut.k hq (by rw [← rl.length]; exact hl), e3, R3⟩
  have caseT : ∀ {H2 : Hp} {l : List (List Key × V)}, RH G ρ h H2 → keyT k = true → RV G ρ H2 k w → RV G ρ H2 x y → H2 q = some (.dT l) → RTs G ρ H2 kvs l → ∃ H3, DPut H2 q w y H3 ∧ Ext ρ H2 ρ H3 ∧ RH G ρ (h.set p (.dic (put kvs k x))) H3 := by
    intro H2 l R2 kt rk rx hq rl
    obtain ⟨c, ec⟩ := cT_of kt
    obtain ⟨t, rfl, ht⟩ := RV_cT ec rk
    obtain ⟨e3, R3⟩ := R2.set (o := .dic (put kvs k x)) (ho := .dT (putK l c y)) eq (by rw [hq]; exact True.intro) (.inr ⟨_, rfl, rl.put ec rx⟩)
    exact ⟨_, DPut.t hq ht (by rw [← rl.length]; exact hl), e3, R3⟩
  rcases r with ⟨l, rfl, rl⟩ | ⟨l, rfl, rl⟩
  · rcases ok with ⟨kf, _⟩ | ⟨kt, ka⟩
    · obtain ⟨H3, d1, d2, d3⟩ := caseK R kf rk rx hq rl
      exact ⟨H, H3, I, d1, d2, d3⟩
    · have : kvs = [] := by
        cases kvs with
        | nil => rfl
        | cons c cs =>
          have := rl.keys
          rw [List.all_cons, Bool.and_eq_true] at this ka
          exact (keyF_T this.1 ka.1).elim
      subst this
      rw [show l = [] from rl] at hq
      obtain ⟨e2, R2⟩ := R.same (ho := .dT []) eq g (by rw [hq]; exact True.intro) (.inr ⟨[], rfl, rfl⟩)
      obtain ⟨H3, d1, d2, d3⟩ := caseT R2 kt (RV.mono e2 _ rk) (RV.mono e2 _ rx) upd_same rfl
      exact ⟨_, H3, Inv.reT I hq, d1, e2.trans d2, d3⟩
  · rcases ok with ⟨kf, ka⟩ | ⟨kt, ka⟩
    · have : kvs = [] := by
        cases kvs with
        | nil => rfl
        | cons c cs =>
          have := rl.keys (by simp)
          rw [this] at ka
          cases ka
      subst this
      rw [show l = [] from rl] at hq
      obtain ⟨e2, R2⟩ := R.same (ho := .dK []) eq g (by rw [hq]; exact True.intro) (.inl ⟨[], rfl, rfl⟩)
      obtain ⟨H3, d1, d2, d3⟩ := caseK R2 kf (RV.mono e2 _ rk) (RV.mono e2 _ rx) upd_same rfl
      exact ⟨_, H3, Inv.reK I hq, d1, e2.trans d2, d3⟩
    · obtain ⟨H3, d1, d2, d3⟩ := caseT R kt rk rx hq rl
      exact ⟨H, H3, I, d1, d2, d3⟩
theorem set_ask (hu : X.A.units + 1 < cLine) : PSet X (fun o i v H Q => ∃ G ρ h p q k x kvs, RH G ρ h H ∧ o = .ref q ∧ ρ[p]? = some q ∧ RV G ρ H k i ∧ RV G ρ H x v ∧ h.get p = some (.dic kvs) ∧ keyOk kvs k = true ∧ kvs.length < sizeLine ∧ DoneH G ρ H (h.set p (.dic (put kvs k x))) Q) := by
  intro pins s σ H o i v ov iv u Q I ro ri rv hq
  obtain ⟨G, ρ, h, p, q, k, x, kvs, R, rfl, eq, rk, rx, g, ok, hl, D⟩ := hq
  obtain ⟨H2, H3, I2, d, e, R3⟩ := askPut R eq rk rx g ok hl I
  cases ro
  exact d_setItem hu I2 d ri rv fun s' I' => ⟨H3, I', D _ _ e R3⟩
theorem setIx_ok {Q : Hp → Prop} {u : Unit} (hK : X.K = G.K) (hu : X.A.units + 65 < cLine) (R : RH G ρ h H) (ra : RV G ρ H a v) (rb : RV G ρ H b w) (rc : RV G ρ H c y) (e : setIx a b c h = .ok u h') (D : DoneH G ρ H h' Q) : ∃ r2 : TSet, PSet X r2 ∧ r2 v w y H Q := by
  have hu1 : X.A.units + 1 < cLine := by omega
  unfold setIx at e
  split at e
  · rename_i p
    obtain ⟨o, h1, e1, e2⟩ := bind_inv e
    obtain ⟨g, rfl⟩ := getO_inv e1
    split at e2
    · rename_i xs
      split at e2
      · rename_i i
        obtain ⟨j, h2, e3, e4⟩ := bind_inv e2
        obtain ⟨e5, rfl⟩ := ofO_inv e3
        obtain rfl := setO_inv e4
        obtain ⟨q, ys, rfl, eq, hs, rs⟩ := R.lst ra g
        obtain rfl := RV_int.mp rb
        obtain ⟨ex, R2⟩ := R.set (o := .lst (xs.set j c)) (ho := .lst (ys.set j y)) eq (by rw [hs]; exact True.intro) ⟨_, rfl, rs.set rc j⟩
        exact ⟨_, set_list, q, ys, i, j, rfl, rfl, hs, by rw [← rs.length]; exact e5, D _ _ ex R2⟩
      · cases e2
    · rename_i kvs
      obtain ⟨_, h2, e3, e4⟩ := bind_inv e2
      obtain ⟨q1, rfl⟩ := guardM_inv e3
      obtain rfl := setO_inv e4
      rw [Bool.and_eq_true] at q1
      obtain ⟨q, eq, rfl⟩ := RV_ref.mp ra
      exact ⟨_, set_ask hu1, G, ρ, h2, p, q, b, c, kvs, R, rfl, eq, rb, rc, g, q1.1, by rw [sizeLine_eq]; exact of_decide_eq_true q1.2, D⟩
    · cases e2
  · cases e

/-! ### fields -/
theorem nm_inj {nms : List Str} (nd : nms.Nodup) {i j : Nat} {s : Str} (a : nms[i]? = some s) (b : nms[j]? = some s) : i = j := nodup_ix nd a b
theorem RFs.lookup (nd : G.nms.Nodup) {f : Nat} {s : Str} (ef : G.nms[f]? = some s) : ∀ {fs : List (Nat × AV)} {l : List (Str × V)}, RFs G ρ H fs l → RVO G ρ H (fs.lookup f) (l.lookup s)
  | [], _, h => by rw [show (_ : List (Str × V)) = [] from h]; trivial
  | (g, x) :: r, _, h => by
    obtain ⟨t, u, l', rfl, eg, rv, tl⟩ := h
    have ih := RFs.lookup nd ef tl
    by_cases q : g = f
    · subst q
      rw [ef] at eg
      cases eg
      simp only [List.lookup_cons, beq_self_eq_true]
      exact rv
    · have n1 : (f == g) = false := beq_eq_false_iff_ne.mpr (Ne.symm q)
      have n2 : (s == t) = false := beq_eq_false_iff_ne.mpr fun z => q (nm_inj nd (z ▸ eg) ef)
      simp only [List.lookup_cons, n1, n2]
      exact ih
theorem RFs.put (nd : G.nms.Nodup) {f : Nat} {s : Str} (ef : G.nms[f]? = some s) (rx : RV G ρ H x v) : ∀ {fs : List (Nat × AV)} {l : List (Str × V)}, RFs G ρ H fs l → RFs G ρ H (PM.putF f x fs) (L2.putF s v l)
  | [], _, h => by rw [show (_ : List (Str × V)) = [] from h]; exact ⟨s, v, [], rfl, ef, rx, rfl⟩
  | (g, z) :: r, _, h => by
    obtain ⟨t, u, l', rfl, eg, rv, tl⟩ := h
    have ih := RFs.put nd ef rx tl
    by_cases q : g = f
    · subst q
      rw [ef] at eg
      cases eg
      simp only [PM.putF, L2.putF, if_true]
      exact ⟨s, v, l', rfl, ef, rx, tl⟩
    · have n2 : ¬ t = s := fun z => q (nm_inj nd (z ▸ eg) ef)
      simp only [PM.putF, L2.putF, if_neg q, if_neg n2]
      exact ⟨t, u, _, rfl, eg, rv, ih⟩
theorem RFs.length : ∀ {fs : List (Nat × AV)} {l : List (Str × V)}, RFs G ρ H fs l → fs.length = l.length
  | [], _, h => by rw [show (_ : List (Str × V)) = [] from h]; rfl
  | (g, z) :: r, _, h => by
    obtain ⟨t, u, l', rfl, eg, rv, tl⟩ := h
    simp [RFs.length tl]
/-- what must be so of the classes -/
structure PF (P : Pg) (G : Gw) : Prop where
  nd : G.nms.Nodup
  cls : ∀ c cl, P.cl c = some cl → Cls G.K (G.gm c)
  fld : ∀ c cl f, P.cl c = some cl → cl.flds.contains f = true → ∃ s, G.nms[f]? = some s ∧ NoAttr G.K (G.gm c) s
theorem RH.ins (R : RH G ρ h H) {p : Nat} {v : V} {c : Nat} {fs : List (Nat × AV)} (ra : RV G ρ H (.ref p) v) (e : h.get p = some (.ins c fs)) : ∃ q dx l, v = .ref q ∧ ρ[p]? = some q ∧ H q = some (.ins (G.gm c) dx l) ∧ RFs G ρ H fs l := by
  obtain ⟨q, e1, rfl⟩ := RV_ref.mp ra
  obtain ⟨ho, h1, dx, l, rfl, h2⟩ := R.ob p q _ e1 e
  exact ⟨q, dx, l, rfl, e1, h1, h2⟩
end
end PM
end
section
set_option maxHeartbeats 1000000
/-! PMFt: tuples that are held with the whole object: tuple(a list), dict(such a tuple of pairs). -/
namespace PM
open PySem PySem.Spec L2
open PyProof.Rows (IsTup)
section
variable {X : Cx}
theorem call_ftup : CallR X (.type "tuple") (fun xs H Q => ∃ p ys, xs = [.ref p] ∧ SqL X.K H p ys ∧ ∀ l ob, H l = none → ob.dict = none → Q (.ref l) (upd H l (.frz ob (.tup ys)))) := by
  intro pins s σ H xs us Q I r h
  obtain ⟨p, ys, rfl, hq, q⟩ := h
  obtain ⟨u, rfl, rx⟩ := vals1 r
  cases rx
  obtain ⟨its, r', pl, hz⟩ := I.list hq
  have hlen := r'.length
  refine call_tuple_list pl.isList (fun h' kp => ?_) (by simp only [List.size_toArray] <;> omega)
  have I1 : L2.Inv X pins σ H { s with heap := h' } := I.kept (t' := s.toks) kp
  have I2 : L2.Inv X pins σ (upd H h'.objs.size (.frz { cls := .type "tuple", data := .seq its.toArray } (.tup ys))) { s with heap := h'.push { cls := .type "tuple", data := .seq its.toArray } } :=
    I1.laid (t' := s.toks) (fun b o e => Heap.get?_push_of_some _ e) (Nat.le_refl _) (show ObjOk X.prog X.w _ _ _ (.frz _ (.tup ys)) from ⟨Heap.get?_push_size _ rfl, hz, its, r', PyProof.Rows.IsTup.new _ _⟩)
  exact ⟨.ref h'.objs.size, _, I2, rfl, q _ _ (I1.hok.fresh (Nat.le_refl _)) rfl⟩
theorem pairs_of2 {pins : List (Addr × Obj)} {σ : St} {H : Hp} {s : Shared} (I : L2.Inv X pins σ H s) : ∀ {ps : List Addr} {kvs : List (Key × V)}, Paired (fun p kv => SqT X.K H p [kV kv.1, kv.2]) ps kvs →
    ∃ (prs : List (Key × Value)) (psv : List (Value × Value)), KV kvs prs ∧ prs.length = ps.length ∧ psv.length = ps.length ∧ ∀ (j : Nat) (k v : Value), psv[j]? = some (k, v) → ∃ (b : Addr) (q : Key), ps[j]? = some b ∧ prs[j]? = some (q, v) ∧ IsTup s.heap b #[k, v] ∧ keyIs q k = true
  | _, _, .nil => ⟨[], [], .nil, rfl, rfl, fun j k v e => by simp at e⟩
  | _, _, .cons (a := p) (b := kv) h t => by
    obtain ⟨prs, psv, r, hl, hl2, hp⟩ := pairs_of2 I t
    obtain ⟨its, rv, ht, _⟩ := I.tuple h
    obtain ⟨u, y, ei, ru, ry⟩ := vals2 rv
    subst ei
    refine ⟨(kv.1, y) :: prs, (u, y) :: psv, .cons ⟨rfl, ry⟩ r, by rw [List.length_cons, List.length_cons, hl], by rw [List.length_cons, List.length_cons, hl2], fun j k v e => ?_⟩
    cases j with
    | zero =>
      have e' : (u, y) = (k, v) := Option.some.inj e
      cases e'
      exact ⟨p, kv.1, rfl, rfl, ht, kV_is (P := X.prog) (w := X.w) ru⟩
    | succ j =>
      obtain ⟨b, q, e1, e2, e3, e4⟩ := hp j k v (by simpa using e)
      exact ⟨b, q, by simpa using e1, by simpa using e2, e3, e4⟩
/-- dict(t) of a tuple of pairs that is held whole -/
theorem call_dictFt (hcalm : X.calm = true) : CallR X (.type "dict") (fun xs H Q => ∃ (a : Addr) (ob : Obj) (ps : List Addr) (kvs : List (Key × V)), xs = [.ref a] ∧ H a = some (.frz ob (.tup (ps.map V.ref))) ∧ ob.dict = none ∧ Paired (fun p kv => SqT X.K H p [kV kv.1, kv.2]) ps kvs ∧
    ∀ p, H p = none → Q (.ref p) (upd H p (.dK (mergeK [] kvs)))) := by
  intro pins s σ H xs us Q I r q
  obtain ⟨a, ob, ps, kvs, ex, hq, hdn, hp, q⟩ := q
  subst ex
  obtain ⟨u, eu, rx⟩ := vals1 r
  subst eu
  cases rx
  obtain ⟨hob, hz, its, rv, ⟨o, ho, hc, n, hdat⟩⟩ := (show ObjOk X.prog X.w H s.heap a (.frz ob (.tup (ps.map V.ref))) from I.hok a _ hq)
  rw [hob] at ho
  cases ho
  have ei := refs_at rv
  subst ei
  rw [List.length_map] at hz
  obtain ⟨prs, psv, rel, hl, hl2, hpr⟩ := pairs_of2 I hp
  refine _root_.PySem.call_dict_pairs (knd := mixKind X.prog X.w) (kvs := prs) (PairArg.tuple (prog := X.prog) (w := X.w) a (ps.map Value.ref).toArray (fun j => ps[j]?.getD 0) psv) (I.ok.hd hcalm) ⟨⟨ob, n, hob, hc, hdn, hdat⟩, by simp [hl2], fun j k v e => ?_⟩ ⟨by rw [hl, hl2], fun i k v e => ?_⟩ (by rw [hl2]; exact hz) fun h' tk hd' k => ?_
  · obtain ⟨b, q, e1, e2, e3, e4⟩ := hpr j k v e
    exact ⟨by simp [e1], .inl (by show s.heap.IsTuple (ps[j]?.getD 0) _; rw [e1]; exact e3)⟩
  · obtain ⟨b, q, e1, e2, e3, e4⟩ := hpr i k v e
    exact ⟨q, e2, e4⟩
  · have hm : (s.heap.objs.size == sysModules) = false := beq_eq_false_iff_ne.mpr (Nat.ne_of_gt I.big)
    have hlen : (mergeK [] kvs).length ≤ sizeLine := by
      refine Nat.le_trans (length_mergeK kvs []) ?_
      rw [List.length_nil, Nat.zero_add, rel.length, hl]
      exact hz
    exact ⟨.ref s.heap.objs.size, upd H s.heap.objs.size (.dK (mergeK [] kvs)), I.laid (t' := tk) (fun b o e => k b o (by simp) e) (Nat.le_refl _) (show ObjOk X.prog X.w _ _ _ (.dK (mergeK [] kvs)) from ⟨hlen, hm, merged [] prs, KV.merge rel .nil, hd'⟩), rfl, q _ (I.hok.fresh (Nat.le_refl _))⟩
end
end PM
end
section
set_option maxHeartbeats 1000000
/-! PMH: built-in functions and methods, by values. -/
namespace PM
open PySem PySem.Spec L2
section
variable {X : Cx} {G : Gw} {ρ : List Addr} {H : Hp} {h h' : AH} {a b c r x k : AV} {v w y : V} {Q : VK} {P : Pg}
theorem CallR.any {f : Value} : CallR X f (fun xs H Q => ∃ r, CallR X f r ∧ r xs H Q) := fun pins s σ H xs us Q I rv ⟨r, hr, q⟩ => hr pins s σ H xs us Q I rv q
theorem OpR.any {f : Value → Value → Sem Value} : OpR X f (fun x y H Q => ∃ r, OpR X f r ∧ r x y H Q) := fun pins s σ H x y v u Q I rx ry ⟨r, hr, q⟩ => hr pins s σ H x y v u Q I rx ry q
def bltV : B → Option Value
  | .len => some (.builtin "len") | .abs => some (.builtin "abs") | .max => some (.builtin "max") | .min => some (.builtin "min") | .sum => some (.builtin "sum")
  | .all => some (.builtin "all") | .any => some (.builtin "any") | .sorted => some (.builtin "sorted") | .repr => some (.builtin "repr") | .isinstance => some (.builtin "isinstance")
  | .int => some (.type "int") | .str => some (.type "str") | .list => some (.type "list") | .tuple => some (.type "tuple") | .ftuple => some (.type "tuple") | .dict => some (.type "dict") | .dictof => some (.type "dict") | .bool => some (.type "bool")
  | _ => none
theorem rvs1 {x : AV} {us : List V} (rv : RVs G ρ H [x] us) : ∃ u, us = [u] ∧ RV G ρ H x u := by
  obtain ⟨y, r, rfl, h1, h2⟩ := RVs_cons.mp rv
  rw [RVs_nil.mp h2]
  exact ⟨y, rfl, h1⟩
theorem rvs2 {x x' : AV} {us : List V} (rv : RVs G ρ H [x, x'] us) : ∃ u u', us = [u, u'] ∧ RV G ρ H x u ∧ RV G ρ H x' u' := by
  obtain ⟨y, r, rfl, h1, h2⟩ := RVs_cons.mp rv
  obtain ⟨u, rfl, h3⟩ := rvs1 h2
  exact ⟨y, u, rfl, h1, h3⟩
theorem rvs0 {us : List V} (rv : RVs G ρ H [] us) : us = [] := RVs_nil.mp rv

/-! ### rows of one kind -/
theorem sumI_cons {x : AV} {xs : List AV} {i : Int} (e : sumI (x :: xs) = some i) : ∃ j k, x = .int j ∧ sumI xs = some k ∧ i = j + k := by
  unfold sumI at e
  split at e
  · contradiction
  · rename_i q; cases q
    obtain ⟨k, e1, rfl⟩ := Option.map_eq_some_iff.mp e
    exact ⟨_, k, rfl, e1, rfl⟩
  · cases e
theorem intsO_cons {x : AV} {xs : List AV} {l : List Int} (e : intsO (x :: xs) = some l) : ∃ j k, x = .int j ∧ intsO xs = some k ∧ l = j :: k := by
  unfold intsO at e
  split at e
  · contradiction
  · rename_i q; cases q
    obtain ⟨k, e1, rfl⟩ := Option.map_eq_some_iff.mp e
    exact ⟨_, k, rfl, e1, rfl⟩
  · cases e
theorem bls_cons {x : AV} {xs : List AV} {l : List Bool} (e : bls (x :: xs) = some l) : ∃ j k, x = .bl j ∧ bls xs = some k ∧ l = j :: k := by
  unfold bls at e
  split at e
  · contradiction
  · rename_i q; cases q
    obtain ⟨k, e1, rfl⟩ := Option.map_eq_some_iff.mp e
    exact ⟨_, k, rfl, e1, rfl⟩
  · cases e
theorem strsO_cons {x : AV} {xs : List AV} {l : List (List Nat)} (e : strsO (x :: xs) = some l) : ∃ j k, x = .str j ∧ strsO xs = some k ∧ l = j :: k := by
  unfold strsO at e
  split at e
  · contradiction
  · rename_i q; cases q
    obtain ⟨k, e1, rfl⟩ := Option.map_eq_some_iff.mp e
    exact ⟨_, k, rfl, e1, rfl⟩
  · cases e
theorem sumI_ok : ∀ (xs : List AV) (ys : List V) (i : Int), RVs G ρ H xs ys → sumI xs = some i → ∃ ns : List Int, ys = ns.map V.int ∧ ns.sum = i
  | [], ys, i, rv, e => by cases e; exact ⟨[], RVs_nil.mp rv, rfl⟩
  | x :: xs, ys, i, rv, e => by
    obtain ⟨y, r, rfl, h1, h2⟩ := RVs_cons.mp rv
    obtain ⟨j, k, rfl, e1, rfl⟩ := sumI_cons e
    obtain ⟨ns, rfl, e2⟩ := sumI_ok _ _ _ h2 e1
    obtain rfl := RV_int.mp h1
    exact ⟨j :: ns, rfl, by rw [List.sum_cons, e2]⟩
theorem intsO_ok : ∀ (xs : List AV) (ys : List V) (ns : List Int), RVs G ρ H xs ys → intsO xs = some ns → ys = ns.map V.int
  | [], ys, i, rv, e => by cases e; exact RVs_nil.mp rv
  | x :: xs, ys, i, rv, e => by
    obtain ⟨y, r, rfl, h1, h2⟩ := RVs_cons.mp rv
    obtain ⟨j, k, rfl, e1, rfl⟩ := intsO_cons e
    obtain rfl := RV_int.mp h1
    rw [intsO_ok _ _ _ h2 e1]
    rfl
theorem bls_ok : ∀ (xs : List AV) (ys : List V) (ns : List Bool), RVs G ρ H xs ys → bls xs = some ns → ys = ns.map V.bl
  | [], ys, i, rv, e => by cases e; exact RVs_nil.mp rv
  | x :: xs, ys, i, rv, e => by
    obtain ⟨y, r, rfl, h1, h2⟩ := RVs_cons.mp rv
    obtain ⟨j, k, rfl, e1, rfl⟩ := bls_cons e
    obtain rfl := RV_bl.mp h1
    rw [bls_ok _ _ _ h2 e1]
    rfl
theorem strsO_ok : ∀ (xs : List AV) (ys : List V) (ns : List (List Nat)), RVs G ρ H xs ys → strsO xs = some ns → ys = (ns.map cStr).map V.str
  | [], ys, i, rv, e => by cases e; exact RVs_nil.mp rv
  | x :: xs, ys, i, rv, e => by
    obtain ⟨y, r, rfl, h1, h2⟩ := RVs_cons.mp rv
    obtain ⟨j, k, rfl, e1, rfl⟩ := strsO_cons e
    obtain rfl := RV_str.mp h1
    rw [strsO_ok _ _ _ h2 e1]
    rfl
theorem RVs_ints : ∀ ns : List Int, RVs G ρ H (ns.map .int) (ns.map V.int)
  | [] => RVs.nil
  | n :: ns => RVs.cons (by simp) (RVs_ints ns)
theorem RVs_strs : ∀ ns : List (List Nat), RVs G ρ H (ns.map .str) ((ns.map cStr).map V.str)
  | [] => RVs.nil
  | n :: ns => RVs.cons (by simp) (RVs_strs ns)
theorem insI_perm (i : Int) : ∀ l : List Int, (insI i l).Perm (i :: l)
  | [] => List.Perm.refl _
  | j :: r => by
    unfold insI
    split
    · exact List.Perm.refl _
    · exact ((insI_perm i r).cons j).trans (List.Perm.swap i j r)
theorem insI_mem {i a : Int} {l : List Int} (h : a ∈ insI i l) : a = i ∨ a ∈ l := by
  have := (insI_perm i l).mem_iff.mp h
  simpa using this
theorem insI_sorted (i : Int) : ∀ l : List Int, l.Pairwise (· ≤ ·) → (insI i l).Pairwise (· ≤ ·)
  | [], _ => by simp [insI]
  | j :: r, h => by
    unfold insI
    split
    · rename_i hij
      refine List.pairwise_cons.mpr ⟨fun a ha => ?_, h⟩
      rcases List.mem_cons.mp ha with rfl | ha
      · exact hij
      · exact Int.le_trans hij ((List.pairwise_cons.mp h).1 a ha)
    · rename_i hij
      refine List.pairwise_cons.mpr ⟨fun a ha => ?_, insI_sorted i r (List.pairwise_cons.mp h).2⟩
      rcases insI_mem ha with rfl | ha
      · omega
      · exact (List.pairwise_cons.mp h).1 a ha
theorem sortI_perm : ∀ l : List Int, (sortI l).Perm l
  | [] => List.Perm.refl _
  | i :: r => (insI_perm i (sortI r)).trans ((sortI_perm r).cons i)
theorem sortI_sorted : ∀ l : List Int, (sortI l).Pairwise (· ≤ ·)
  | [] => List.Pairwise.nil
  | i :: r => insI_sorted i _ (sortI_sorted r)
theorem sorted_uniq : ∀ {l m : List Int}, l.Perm m → l.Pairwise (· ≤ ·) → m.Pairwise (· ≤ ·) → l = m
  | [], m, p, _, _ => (List.nil_perm.mp p).symm
  | x :: l, [], p, _, _ => absurd p.symm (by simp)
  | x :: l, y :: m, p, h1, h2 => by
    have hx : x ∈ y :: m := p.mem_iff.mp List.mem_cons_self
    have hy : y ∈ x :: l := p.mem_iff.mpr List.mem_cons_self
    have e : x = y := by
      rcases List.mem_cons.mp hx with e | hx
      · exact e
      · rcases List.mem_cons.mp hy with e | hy
        · exact e.symm
        · have a1 := (List.pairwise_cons.mp h2).1 x hx
          have a2 := (List.pairwise_cons.mp h1).1 y hy
          omega
    subst e
    rw [sorted_uniq (List.Perm.cons_inv p) (List.pairwise_cons.mp h1).2 (List.pairwise_cons.mp h2).2]

/-! ### isinstance -/
def tys : List String := ["NoneType", "bool", "int", "str", "tuple", "list", "dict"]
def tysT : List String := ["int", "str", "bool", "tuple", "list", "dict"]
theorem kit_tysB : (tys.all fun t => tysT.all fun T => decide (kitB t T = some (isTy t T))) = true := by decide +kernel
theorem kit_tys : ∀ t ∈ tys, ∀ T ∈ tysT, kitB t T = some (isTy t T) := fun t ht T hT => of_decide_eq_true (List.all_eq_true.mp (List.all_eq_true.mp kit_tysB t ht) T hT)
theorem tyA_mem {t : String} (e : tyA h a = some t) : t ∈ tys := by
  unfold tyA at e
  split at e
  · cases e; decide
  · cases e; decide
  · cases e; decide
  · cases e; decide
  · cases e; decide
  · split at e
    · cases e; decide
    · cases e; decide
    · cases e; decide
    · cases e
  · cases e
theorem tyA_ok {t : String} (R : RH G ρ h H) (ra : RV G ρ H a v) (e : tyA h a = some t) : TyX X.K H v (.type t) := by
  unfold tyA at e
  split at e
  · cases e; rw [RV_non.mp ra]; exact .base .non
  · cases e; rw [RV_bl.mp ra]; exact .base (.bl _)
  · cases e; rw [RV_int.mp ra]; exact .base (.int _)
  · cases e; rw [RV_str.mp ra]; exact .base (.str _)
  · cases e
    obtain ⟨p, ys, rfl, ht, _⟩ := RV_tup.mp ra
    exact .base (.tup ht)
  · rename_i p
    split at e
    · cases e
      rename_i g
      obtain ⟨q, ys, rfl, _, hq, _⟩ := R.lst ra g
      exact .base (.lst hq)
    · cases e
      rename_i g
      obtain ⟨q, e1, rfl⟩ := RV_ref.mp ra
      obtain ⟨ho, h1, h2⟩ := R.ob p q _ e1 g
      rcases h2 with ⟨l, rfl, _⟩ | ⟨l, rfl, _⟩
      · exact .base (.dK h1)
      · exact .base (.dT h1)
    · cases e
      rename_i g
      obtain ⟨q, ob, ys, rfl, _, hq, _⟩ := R.ftup ra g
      exact .fTuple hq
    · cases e
  · cases e
/-- what isinstance asks of the own classes -/
structure PI' (P : Pg) (G : Gw) : Prop where
  ty : ∀ c cl, P.cl c = some cl → ∀ t ∈ tys, PySem.W.kitOne G.K (.type t) (.ref (G.gm c)) = some false
  own : ∀ c cl c' cl', P.cl c = some cl → P.cl c' = some cl' → PySem.W.kitOne G.K (.ref (G.gm c)) (.ref (G.gm c')) = some (decide (c = c'))
  not : ∀ c cl, P.cl c = some cl → ∀ T ∈ tysT, PySem.W.kitOne G.K (.ref (G.gm c)) (.type T) = some false
  ha : ∀ c cl, P.cl c = some cl → PySem.W.findIn G.K (.ref (G.gm c)) "__class__" = some (some (.builtin "object.__class__"))
  hn : PySem.W.specialIn G.K (.builtin "object.__class__") "__get__" = some (some (.builtin "getset_descriptor.__get__"))
  ht : PySem.W.takesIn G.K (.builtin "object.__class__") = some true
  hm : ∀ c cl, P.cl c = some cl → PySem.W.mroIn G.K (G.gm c) (.type "object") = some true
theorem PI'.tyx (pi : PI' P G) (pf : PF P G) (hK : X.K = G.K) {q dx : Addr} {c : Nat} {cl : Cl} {l : List (Str × V)} (hc : P.cl c = some cl) (hq : H q = some (.ins (G.gm c) dx l)) : TyX X.K H (.ref q) (.ref (G.gm c)) := by
  rw [hK]
  exact .base (.ins hq (pf.cls c cl hc) (pi.ha c cl hc) pi.hn pi.ht (pi.hm c cl hc))

/-! ### numbers as texts -/
theorem toStr_ok (i : Int) : (toString i : Str) = cStr (intL i) := by
  refine TL.ext_tl ?_
  rw [show TL.tl (cStr (intL i)) = intL i from cStr_tl _]
  unfold intL
  split
  · rename_i hi
    cases i with
    | ofNat n => exact absurd hi (by simp)
    | negSucc n =>
      have : (toString (Int.negSucc n) : String) = "-" ++ toString ((n + 1 : Nat) : Int) := rfl
      show TL.tl (Str.ofString (toString (Int.negSucc n))) = _
      rw [this, TL.tl_ofString, String.toList_append, List.map_append, ← TL.tl_ofString, ← TL.tl_ofString, TL.tl_num]
      rfl
  · rename_i hi
    obtain ⟨n, rfl⟩ := Int.eq_ofNat_of_zero_le (Int.not_lt.mp hi)
    exact TL.tl_num n
theorem isDig_all {x : List Nat} (h : x.all isDig = true) : NumText.AllDigits x := fun c hc => of_decide_eq_true (List.all_eq_true.mp h c hc)

/-! ### repr -/
theorem toD_depth : ∀ (f : Nat) (a : AV) (d : PyData), toD f h a = some d → d.depth ≤ f
  | 0, _, _, e => by simp [toD] at e
  | f + 1, a, d, e => by
    have all : ∀ (xs : List AV) (ds : List PyData), mapO (toD f h) xs = some ds → PyData.depthAll ds ≤ f := by
      intro xs
      induction xs with
      | nil => intro ds e; cases e; exact Nat.zero_le _
      | cons x xs ih =>
        intro ds e
        obtain ⟨d1, d2, e1, e2, rfl⟩ := mapO_cons e
        exact Nat.max_le.mpr ⟨toD_depth f x d1 e1, ih d2 e2⟩
    unfold toD at e
    split at e
    · contradiction
    · cases e; exact Nat.zero_le _
    · cases e; exact Nat.zero_le _
    · cases e; exact Nat.zero_le _
    · cases e; exact Nat.zero_le _
    · rename_i q
      cases q
      obtain ⟨ds, e1, rfl⟩ := Option.map_eq_some_iff.mp e
      exact Nat.succ_le_succ (all _ _ e1)
    · rename_i q
      cases q
      obtain ⟨ds, e1, rfl⟩ := Option.map_eq_some_iff.mp e
      exact Nat.succ_le_succ (all _ _ e1)
    · rename_i q
      cases q
      split at e
      · obtain ⟨ds, e1, rfl⟩ := Option.map_eq_some_iff.mp e
        exact Nat.succ_le_succ (all _ _ e1)
      · obtain ⟨ds, e1, rfl⟩ := Option.map_eq_some_iff.mp e
        exact Nat.succ_le_succ (all _ _ e1)
      · cases e
    · cases e
def rReprD (X : Cx) : List V → Hp → VK → Prop := fun xs H Q => ∃ (x : V) (d : PyData), xs = [x] ∧ Dp X.K H x d ∧ d.showable = true ∧ d.hasDict = false ∧ d.depth ≤ 60 ∧ d.shown.length + 64 ≤ 16777216 ∧ Q (.str d.shown) H
theorem call_reprD (hg : X.A.guards = some []) (hu : X.A.units + 100 < cLine) : CallR X (.builtin "repr") (rReprD X) := by
  intro pins s σ H xs us Q I rv hq
  obtain ⟨x, d, rfl, dp, hs, hd, hdp, hz, q⟩ := hq
  obtain ⟨u, rfl, ru⟩ := vals1 rv
  obtain ⟨as, rd⟩ := Dp.reads I d x u dp ru
  have hsz : d.shown.length ≤ sizeLine := by rw [sizeLine_eq]; omega
  have fin : ∀ t s', Inv X pins σ H s' → EP X pins σ Q (.str d.shown t) s' := fun t s' I' => ⟨.str d.shown, H, I', ⟨t, rfl⟩, q⟩
  cases dp with
  | non => cases ru; exact PySem.P.repr_of_none (fin _ _ (I.tok _))
  | bl b => cases ru; exact PySem.P.repr_of_bool (fin _ _ (I.tok _))
  | int i =>
    obtain ⟨t, rfl⟩ := ru
    exact PySem.P.repr_of_int (of_decide_eq_true hs) (fin _ _ (I.tok _))
  | str y =>
    obtain ⟨t, rfl⟩ := ru
    exact PySem.P.repr_of_str (fin _ _ (I.tok _)) hsz
  | lst _ _ =>
    cases ru
    exact repr_of_reads' rd hs (fun e => by rw [hd] at e; cases e) hg (by omega) (fun _ _ e => e) (fun h' u tk hk => fin _ _ (I.kept hk)) hsz
  | tup _ _ =>
    cases ru
    exact repr_of_reads' rd hs (fun e => by rw [hd] at e; cases e) hg (by omega) (fun _ _ e => e) (fun h' u tk hk => fin _ _ (I.kept hk)) hsz

/-! ### built-in functions -/
theorem putAll_K : ∀ (ps : List (AV × AV)) {kvs : List (AV × AV)} {l : List (Key × V)} {m : List (Key × V)}, RKs G ρ H kvs l → RKs G ρ H ps m → RKs G ρ H (putAll kvs ps) (mergeK l m)
  | [], kvs, l, m, r, q => by rw [show m = [] from q]; exact r
  | (k, x) :: ps, kvs, l, m, r, q => by
    obtain ⟨k', v, m', rfl, e, rx, t⟩ := q
    show RKs G ρ H (putAll (put kvs k x) ps) (mergeK (putK l k' v) m')
    exact putAll_K ps (r.put e rx) t
theorem pairsO_cons {x : AV} {xs : List AV} {l : List (AV × AV)} (e : pairsO (x :: xs) = some l) : ∃ k v m, x = .tup [k, v] ∧ pairsO xs = some m ∧ l = (k, v) :: m := by
  unfold pairsO at e
  split at e
  · contradiction
  · rename_i q; cases q
    obtain ⟨k, e1, rfl⟩ := Option.map_eq_some_iff.mp e
    exact ⟨_, _, k, rfl, e1, rfl⟩
  · cases e
theorem pairsO_ok : ∀ (xs : List AV) (ys : List V) (ps : List (AV × AV)), RVs G ρ H xs ys → pairsO xs = some ps → (ps.all fun kv => keyF kv.1) = true →
    ∃ (as : List Addr) (kvs : List (Key × V)), ys = as.map V.ref ∧ RKs G ρ H ps kvs ∧ Paired (fun p kv => SqT X.K H p [kV kv.1, kv.2]) as kvs
  | [], ys, ps, rv, e, _ => by cases e; exact ⟨[], [], RVs_nil.mp rv, rfl, .nil⟩
  | x :: xs, ys, ps, rv, e, hk => by
    obtain ⟨y, r, rfl, h1, h2⟩ := RVs_cons.mp rv
    obtain ⟨k, v, m, rfl, e1, rfl⟩ := pairsO_cons e
    rw [List.all_cons, Bool.and_eq_true] at hk
    obtain ⟨as, kvs, rfl, q1, q2⟩ := pairsO_ok xs r m h2 e1 hk.2
    obtain ⟨a, zs, rfl, ht, rz⟩ := RV_tup.mp h1
    obtain ⟨u, u', rfl, ru, ru'⟩ := rvs2 rz
    obtain ⟨c, ec⟩ := cK_of hk.1
    obtain rfl := (RV_cK ec).mp ru
    exact ⟨a :: as, (c, u') :: kvs, rfl, ⟨c, u', kvs, rfl, ec, ru', q1⟩, .cons (SqT.of ht) q2⟩
/-- a written dict with text keys -/
def GDk (G : Gw) (w : World) (d : Nat) (kvs : List (AV × AV)) : Prop := ∃ (es : Array DictEntry) (n : Nat) (l : List (Key × V)) (vs : List (Key × Value)), G.K.lookup (G.dm d) = some ⟨.type "dict", none, .dict es n, #[]⟩ ∧
  (∀ prog, KeysOf (mixKind prog w) es ∧ Pairs (mixKind prog w) es.toList vs) ∧ (vs.map (·.1)).Nodup ∧ KV l vs ∧ l.length ≤ sizeLine ∧ (G.dm d == sysModules) = false ∧ ∀ ρ H, RKs G ρ H kvs l
theorem call_dictK {d : Nat} {kvs : List (AV × AV)} (hK : X.K = G.K) (g : GDk G X.w d kvs) : CallR X (.type "dict") (fun xs H Q => xs = [.ref (G.dm d)] ∧ ∀ l, (∀ ρ H, RKs G ρ H kvs l) → ∀ p, H p = none → Q (.ref p) (upd H p (.dK l))) := by
  intro pins s σ H xs us Q I r q
  obtain ⟨rfl, q⟩ := q
  obtain ⟨u, rfl, rx⟩ := vals1 r
  cases rx
  obtain ⟨es, n, l, vs, lk, kp, nd, rel, z, low, rks⟩ := g
  have dd : s.heap.DictOf (mixKind X.prog X.w) (G.dm d) vs := ⟨_, es, n, I.kIn _ _ (by rw [hK]; exact lk), ⟨rfl, rfl, rfl⟩, rfl, (kp X.prog).1, (kp X.prog).2, nd⟩
  refine kt_call_dict low dd (by rw [← rel.length]; exact z) fun h' d' hs => ?_
  have hm : (s.heap.objs.size == sysModules) = false := beq_eq_false_iff_ne.mpr (Nat.ne_of_gt I.big)
  exact ⟨.ref s.heap.objs.size, upd H s.heap.objs.size (.dK l), I.laid (t' := s.toks) (fun b u e => (hs.2 b (Nat.ne_of_lt (Heap.lt_size e))).trans (Heap.get?_push_of_some _ e)) (Nat.le_refl _)
    (show ObjOk X.prog X.w _ _ _ (.dK l) from ⟨z, hm, vs, rel, d'⟩), rfl, q l rks _ (I.hok.fresh (Nat.le_refl _))⟩
theorem gd_dict {X : Cx} {pins : List (Addr × Obj)} {σ : St} {H : Hp} {s : Shared} {d : Nat} {kvs : List (AV × AV)} (hK : X.K = G.K) (g : GDk G X.w d kvs) (I : Inv X pins σ H s) : ∃ l vs, s.heap.DictOf (mixKind X.prog X.w) (G.dm d) vs ∧ KV l vs ∧ (G.dm d == sysModules) = false ∧ ∀ ρ H, RKs G ρ H kvs l := by
  obtain ⟨es, n, l, vs, lk, kp, nd, rel, z, low, rks⟩ := g
  exact ⟨l, vs, ⟨_, es, n, I.kIn _ _ (by rw [hK]; exact lk), ⟨rfl, rfl, rfl⟩, rfl, (kp X.prog).1, (kp X.prog).2, nd⟩, rel, low, rks⟩
theorem ix_gd : IxR X (fun y x H Q => ∃ G ρ h d k kvs r, X.K = G.K ∧ GDk G X.w d kvs ∧ RH G ρ h H ∧ y = .ref (G.dm d) ∧ RV G ρ H k x ∧ keyF k = true ∧ look kvs k = some r ∧ Done G ρ H r h Q) := by
  intro value slice pins s σ H y x uy ux Q I ry rx hq hs
  obtain ⟨G, ρ, h, d, k, kvs, r, hK, g, R, rfl, rk, ek, el, D⟩ := hq
  obtain ⟨l, vs, dd, rel, low, rks⟩ := gd_dict hK g I
  obtain ⟨c, ec⟩ := cK_of ek
  obtain rfl := (RV_cK ec).mp rk
  have hl := look_K (G := G) (ρ := ρ) (H := H) ec (rks ρ H)
  rw [el] at hl
  cases ev : valV l c with
  | none => rw [ev] at hl; exact hl.elim
  | some v =>
    rw [ev] at hl
    obtain ⟨w', hw, rw'⟩ := RelO.some_of (v := v) (o := valueAt vs c) (by rw [← ev]; exact rel.val c)
    cases ry
    exact PyProof.Rows.tail_any dd.typeIs PySem.F.slot_dict_getitem.lookup (wpAny_getItem_of (kV_is rx) dd.mapOf hw ⟨v, H, I.tok _, rw', D.here R hl⟩) hs
theorem op_inGd : OpR X (compareOp .In) (fun x y H Q => ∃ G ρ h d k kvs, X.K = G.K ∧ GDk G X.w d kvs ∧ RH G ρ h H ∧ y = .ref (G.dm d) ∧ RV G ρ H k x ∧ keyF k = true ∧ Done G ρ H (.bl (look kvs k).isSome) h Q) := by
  intro pins s σ H x y v u Q I rx ry hq
  obtain ⟨G, ρ, h, d, k, kvs, hK, g, R, rfl, rk, ek, D⟩ := hq
  obtain ⟨l, vs, dd, rel, low, rks⟩ := gd_dict hK g I
  obtain ⟨c, ec⟩ := cK_of ek
  obtain rfl := (RV_cK ec).mp rk
  have hl := look_K (G := G) (ρ := ρ) (H := H) ec (rks ρ H)
  have e : (valueAt vs c).isSome = (look kvs k).isSome := by
    rw [← (rel.val c).isSome_eq]
    cases e1 : look kvs k <;> cases e2 : valV l c <;> first | rfl | (rw [e1, e2] at hl; exact hl.elim)
  cases ry
  refine wpAny_in_of (kV_is rx) low dd.mapOf ⟨.bl (valueAt vs c).isSome, H, I.tok _, rfl, ?_⟩
  rw [e]
  exact D.here R (by simp)
theorem op_notInGd : OpR X (compareOp .NotIn) (fun x y H Q => ∃ G ρ h d k kvs, X.K = G.K ∧ GDk G X.w d kvs ∧ RH G ρ h H ∧ y = .ref (G.dm d) ∧ RV G ρ H k x ∧ keyF k = true ∧ Done G ρ H (.bl (!(look kvs k).isSome)) h Q) := by
  intro pins s σ H x y v u Q I rx ry hq
  obtain ⟨G, ρ, h, d, k, kvs, hK, g, R, rfl, rk, ek, D⟩ := hq
  obtain ⟨l, vs, dd, rel, low, rks⟩ := gd_dict hK g I
  obtain ⟨c, ec⟩ := cK_of ek
  obtain rfl := (RV_cK ec).mp rk
  have hl := look_K (G := G) (ρ := ρ) (H := H) ec (rks ρ H)
  have e : (valueAt vs c).isSome = (look kvs k).isSome := by
    rw [← (rel.val c).isSome_eq]
    cases e1 : look kvs k <;> cases e2 : valV l c <;> first | rfl | (rw [e1, e2] at hl; exact hl.elim)
  cases ry
  refine wpAny_notIn_of (kV_is rx) low dd.mapOf ⟨.bl (!(valueAt vs c).isSome), H, I.tok _, rfl, ?_⟩
  rw [e]
  exact D.here R (by simp)
structure Ctx (P : Pg) (G : Gw) (X : Cx) : Prop where
  hK : X.K = G.K
  calm : X.calm = true
  gd : X.A.guards = some []
  un : X.A.units + 100 < cLine
  pf : PF P G
  pi : PI' P G
  ngd : ∀ d kvs, P.gd d = some kvs → GDk G X.w d kvs
  gq : ∀ d kvs, P.gq d = some kvs → GDk G X.w d kvs
theorem bltA_ok {us : List V} {vs : List AV} {f : Value} {b : B} (C : Ctx P G X) (R : RH G ρ h H) (rv : RVs G ρ H vs us) (hb : bltV b = some f) (e : bltA P b vs h = .ok r h') (D : Done G ρ H r h' Q) : ∃ rr, CallR X f rr ∧ rr us H Q := by
  have hK := C.hK
  have hcalm := C.calm
  have hu := C.un
  unfold bltA at e
  split at e
  · cases hb
    obtain ⟨u, rfl, ru⟩ := rvs1 rv
    obtain rfl := RV_str.mp ru
    obtain ⟨_, h1, e1, e2⟩ := bind_inv e
    obtain ⟨q1, rfl⟩ := guardM_inv e1
    obtain ⟨rfl, rfl⟩ := pure_inv e2
    exact ⟨_, call_len_str, _, rfl, by rw [cStr_len]; exact sizeLineB_le q1, D.here R (by simp [cStr_len])⟩
  · cases hb
    obtain ⟨u, rfl, ru⟩ := rvs1 rv
    obtain ⟨p, ys, rfl, ht, rs⟩ := RV_tup.mp ru
    obtain ⟨rfl, rfl⟩ := pure_inv e
    exact ⟨_, call_len_seq, p, ys, rfl, .inr (SqT.of ht), D.here R (by simp [rs.length])⟩
  · cases hb
    obtain ⟨u, rfl, ru⟩ := rvs1 rv
    obtain ⟨o, h1, e1, e2⟩ := bind_inv e
    obtain ⟨g, rfl⟩ := getO_inv e1
    split at e2
    · obtain ⟨rfl, rfl⟩ := pure_inv e2
      obtain ⟨q, ys, rfl, _, hs, rs⟩ := R.lstR ru (.inl g)
      exact ⟨_, call_len_seq, q, ys, rfl, .inl (by rw [hK]; exact hs), D.here R (by simp [rs.length])⟩
    · obtain ⟨rfl, rfl⟩ := pure_inv e2
      obtain ⟨q, ys, rfl, _, hs, rs⟩ := R.lstR ru (.inr g)
      exact ⟨_, call_len_seq, q, ys, rfl, .inl (by rw [hK]; exact hs), D.here R (by simp [rs.length])⟩
    · obtain ⟨rfl, rfl⟩ := pure_inv e2
      obtain ⟨q, e3, rfl⟩ := RV_ref.mp ru
      obtain ⟨ho, h3, h4⟩ := R.ob _ q _ e3 g
      rcases h4 with ⟨l, rfl, rl⟩ | ⟨l, rfl, rl⟩
      · exact ⟨_, call_lenD, q, l, rfl, h3, D.here R (by simp [rl.length])⟩
      · exact ⟨_, call_len_dT, q, l, rfl, h3, D.here R (by simp [rl.length])⟩
    · obtain ⟨rfl, rfl⟩ := pure_inv e2
      obtain ⟨q, ob, ys, rfl, _, hs, _, rs⟩ := R.ftup ru g
      exact ⟨_, call_len_seq, q, ys, rfl, .inr (.inl (.inr ⟨ob, hs⟩)), D.here R (by simp [rs.length])⟩
    · cases e2
  · cases hb
    obtain ⟨u, rfl, ru⟩ := rvs1 rv
    obtain rfl := RV_int.mp ru
    obtain ⟨rfl, rfl⟩ := pure_inv e
    exact ⟨_, call_abs, _, rfl, D.here R (by simp)⟩
  · cases hb
    obtain ⟨u, u', rfl, ru, ru'⟩ := rvs2 rv
    obtain rfl := RV_int.mp ru
    obtain rfl := RV_int.mp ru'
    obtain ⟨rfl, rfl⟩ := pure_inv e
    exact ⟨_, call_max2 hcalm, _, _, rfl, D.here R (by simp)⟩
  · cases hb
    obtain ⟨u, u', rfl, ru, ru'⟩ := rvs2 rv
    obtain rfl := RV_int.mp ru
    obtain rfl := RV_int.mp ru'
    obtain ⟨rfl, rfl⟩ := pure_inv e
    exact ⟨_, call_min2 hcalm, _, _, rfl, D.here R (by simp)⟩
  · cases hb
    obtain ⟨u, rfl, ru⟩ := rvs1 rv
    obtain ⟨xs, h1, e1, e2⟩ := bind_inv e
    obtain ⟨g, rfl⟩ := lstO_inv e1
    obtain ⟨i, h2, e3, e4⟩ := bind_inv e2
    obtain ⟨e5, rfl⟩ := ofO_inv e3
    obtain ⟨rfl, rfl⟩ := pure_inv e4
    obtain ⟨q, ys, rfl, _, hs, rs⟩ := R.lstR ru g
    obtain ⟨ns, rfl, rfl⟩ := sumI_ok _ _ _ rs e5
    exact ⟨_, cr_sum hcalm, q, ns, rfl, by rw [hK]; exact hs, D.here R (by simp)⟩
  · cases hb
    obtain ⟨u, rfl, ru⟩ := rvs1 rv
    obtain ⟨xs, h1, e1, e2⟩ := bind_inv e
    obtain ⟨g, rfl⟩ := lstO_inv e1
    obtain ⟨i, h2, e3, e4⟩ := bind_inv e2
    obtain ⟨e5, rfl⟩ := ofO_inv e3
    obtain ⟨rfl, rfl⟩ := pure_inv e4
    obtain ⟨q, ys, rfl, _, hs, rs⟩ := R.lstR ru g
    obtain rfl := bls_ok _ _ _ rs e5
    exact ⟨_, cr_all hcalm, q, _, rfl, by rw [hK]; exact hs, D.here R (by simp)⟩
  · cases hb
    obtain ⟨u, rfl, ru⟩ := rvs1 rv
    obtain ⟨xs, h1, e1, e2⟩ := bind_inv e
    obtain ⟨g, rfl⟩ := lstO_inv e1
    obtain ⟨i, h2, e3, e4⟩ := bind_inv e2
    obtain ⟨e5, rfl⟩ := ofO_inv e3
    obtain ⟨rfl, rfl⟩ := pure_inv e4
    obtain ⟨q, ys, rfl, _, hs, rs⟩ := R.lstR ru g
    obtain rfl := bls_ok _ _ _ rs e5
    exact ⟨_, cr_any hcalm, q, _, rfl, by rw [hK]; exact hs, D.here R (by simp)⟩
  · cases hb
    obtain ⟨u, rfl, ru⟩ := rvs1 rv
    obtain ⟨xs, h1, e1, e2⟩ := bind_inv e
    obtain ⟨g, rfl⟩ := lstO_inv e1
    obtain ⟨is, h2, e3, e4⟩ := bind_inv e2
    obtain ⟨e5, rfl⟩ := ofO_inv e3
    obtain ⟨rfl, rfl⟩ := newO_inv e4
    obtain ⟨q, ys, rfl, _, hs, rs⟩ := R.lstR ru g
    obtain rfl := intsO_ok _ _ _ rs e5
    refine ⟨_, cr_sortedI, q, _, rfl, by rw [hK]; exact hs, fun ns' p hp ho hn => ?_⟩
    have : ns' = sortI is := sorted_uniq (hp.trans (sortI_perm is).symm) ho (sortI_sorted is)
    subst this
    exact newDone (o := .lst ((sortI is).map .int)) R ⟨_, rfl, RVs_ints _⟩ D p hn
  · cases hb
    obtain ⟨u, rfl, ru⟩ := rvs1 rv
    obtain ⟨hh, h1, e1, e2⟩ := bind_inv e
    obtain ⟨rfl, rfl⟩ := heapM_inv e1
    obtain ⟨i, h2, e3, e4⟩ := bind_inv e2
    obtain ⟨e5, rfl⟩ := ofO_inv e3
    obtain ⟨rfl, rfl⟩ := pure_inv e4
    unfold reprA at e5
    split at e5
    · rename_i d ed
      split at e5
      · rename_i hs
        cases e5
        rw [Bool.and_eq_true, Bool.and_eq_true] at hs
        refine ⟨_, call_reprD C.gd hu, u, d, rfl, toD_ok hK R _ _ _ _ ed ru, hs.1.1, by simpa using hs.1.2, toD_depth _ _ _ ed, of_decide_eq_true hs.2, D.here R ?_⟩
        simp [cStr]
      · cases e5
    · cases e5
  · rename_i a T
    cases hb
    obtain ⟨u, u', rfl, ru, ru'⟩ := rvs2 rv
    obtain rfl := RV_ty.mp ru'
    obtain ⟨_, h0, e3, e4⟩ := bind_inv e
    obtain ⟨q1, rfl⟩ := guardM_inv e3
    have hT : T ∈ tysT := by
      have := List.contains_iff_mem.mp q1
      simpa [tysT] using this
    obtain ⟨hh, h1, e1, e2⟩ := bind_inv e4
    obtain ⟨rfl, rfl⟩ := heapM_inv e1
    cases ho : ownOf P (fun _ => some 0) a h1 with
    | some f0 =>
      rw [ho] at e2
      obtain ⟨rfl, rfl⟩ := pure_inv e2
      unfold ownOf at ho
      split at ho
      · split at ho
        · rename_i p c fs g
          obtain ⟨cl, e5, _⟩ := Option.bind_eq_some_iff.mp ho
          obtain ⟨q, dx, l, rfl, _, hq, _⟩ := R.ins ru g
          exact ⟨_, call_isi, .ref q, .ty T, .ref (G.gm c), .type T, false, rfl, .ty T, C.pi.tyx C.pf hK e5 hq, by rw [hK]; exact C.pi.not c cl e5 T hT, D.here R (by simp)⟩
        · cases ho
      · cases ho
    | none =>
      rw [ho] at e2
      obtain ⟨t, h2, e5, e6⟩ := bind_inv e2
      obtain ⟨e5, rfl⟩ := ofO_inv e5
      obtain ⟨rfl, rfl⟩ := pure_inv e6
      exact ⟨_, call_isi, u, .ty T, .type t, .type T, isTy t T, rfl, .ty T, tyA_ok R ru e5, kit_ty (kit_tys t (tyA_mem e5) T hT), D.here R (by simp)⟩
  · rename_i a c
    cases hb
    obtain ⟨u, u', rfl, ru, ru'⟩ := rvs2 rv
    obtain rfl := RV_glo.mp ru'
    obtain ⟨hh, h1, e1, e2⟩ := bind_inv e
    obtain ⟨rfl, rfl⟩ := heapM_inv e1
    have plain : ∀ {t : String} {cl : Cl}, tyA h1 a = some t → P.cl c = some cl → r = .bl false → h' = h1 → ∃ rr, CallR X (.builtin "isinstance") rr ∧ rr [u, .ref (G.gm c)] H Q := by
      rintro t cl e5 e6 rfl rfl
      exact ⟨_, call_isi, u, .ref (G.gm c), .type t, .ref (G.gm c), false, rfl, .own _, tyA_ok R ru e5, by rw [hK]; exact C.pi.ty c cl e6 t (tyA_mem e5), D.here R (by simp)⟩
    split at e2
    · rename_i p
      obtain ⟨o, h2, e3, e4⟩ := bind_inv e2
      obtain ⟨g, rfl⟩ := getO_inv e3
      split at e4
      · rename_i c' fs
        obtain ⟨_, h3, e5, e6⟩ := bind_inv e4
        obtain ⟨cl', h4, e7, e8⟩ := bind_inv e6
        obtain ⟨e9, rfl⟩ := ofO_inv e5
        obtain ⟨e10, rfl⟩ := ofO_inv e7
        obtain ⟨rfl, rfl⟩ := pure_inv e8
        obtain ⟨q, dx, l, rfl, _, hq, _⟩ := R.ins ru g
        exact ⟨_, call_isi, .ref q, .ref (G.gm c), .ref (G.gm c'), .ref (G.gm c), _, rfl, .own _, C.pi.tyx C.pf hK e9 hq, by rw [hK]; exact C.pi.own c' _ c _ e9 e10, D.here R (by simp)⟩
      · obtain ⟨t, h3, e5, e6⟩ := bind_inv e4
        obtain ⟨cl', h4, e7, e8⟩ := bind_inv e6
        obtain ⟨e9, rfl⟩ := ofO_inv e5
        obtain ⟨e10, rfl⟩ := ofO_inv e7
        obtain ⟨rfl, rfl⟩ := pure_inv e8
        exact plain e9 e10 rfl rfl
    · obtain ⟨t, h3, e5, e6⟩ := bind_inv e2
      obtain ⟨cl', h4, e7, e8⟩ := bind_inv e6
      obtain ⟨e9, rfl⟩ := ofO_inv e5
      obtain ⟨e10, rfl⟩ := ofO_inv e7
      obtain ⟨rfl, rfl⟩ := pure_inv e8
      exact plain e9 e10 rfl rfl
  · cases hb
    obtain ⟨u, rfl, ru⟩ := rvs1 rv
    obtain rfl := RV_int.mp ru
    obtain ⟨rfl, rfl⟩ := pure_inv e
    exact ⟨_, call_int1, .inl ⟨_, rfl, D.here R (by simp)⟩⟩
  · cases hb
    obtain ⟨u, rfl, ru⟩ := rvs1 rv
    obtain rfl := RV_bl.mp ru
    obtain ⟨rfl, rfl⟩ := pure_inv e
    exact ⟨_, call_int1, .inr ⟨_, rfl, D.here R (by simp)⟩⟩
  · rename_i x
    cases hb
    obtain ⟨u, rfl, ru⟩ := rvs1 rv
    obtain rfl := RV_str.mp ru
    obtain ⟨_, h1, e1, e2⟩ := bind_inv e
    obtain ⟨q1, rfl⟩ := guardM_inv e1
    obtain ⟨rfl, rfl⟩ := pure_inv e2
    unfold canon at q1
    rw [Bool.and_eq_true, Bool.and_eq_true] at q1
    have hl : x.length ≤ 640 := of_decide_eq_true q1.2
    refine ⟨_, call_int_str, cStr x, _, rfl, intText_digits (x := cStr x) (by rw [cStr_tl]; exact isDig_all q1.1.2) (by rw [cStr_tl]; intro z; rw [z] at q1; simp at q1) (by rw [cStr_len]; omega), by rw [cStr_len]; exact hl, D.here R ?_⟩
    rw [cStr_tl]
    simp
  · cases hb
    obtain ⟨u, rfl, ru⟩ := rvs1 rv
    obtain rfl := RV_int.mp ru
    obtain ⟨rfl, rfl⟩ := pure_inv e
    exact ⟨_, call_bool1, .inl ⟨_, rfl, D.here R (by simp)⟩⟩
  · cases hb
    obtain ⟨u, rfl, ru⟩ := rvs1 rv
    obtain rfl := RV_int.mp ru
    obtain ⟨_, h1, e1, e2⟩ := bind_inv e
    obtain ⟨q1, rfl⟩ := guardM_inv e1
    obtain ⟨rfl, rfl⟩ := pure_inv e2
    exact ⟨_, call_str_int, _, rfl, of_decide_eq_true q1, by rw [toStr_ok]; exact D.here R (by simp)⟩
  · cases hb
    obtain ⟨u, rfl, ru⟩ := rvs1 rv
    obtain rfl := RV_str.mp ru
    obtain ⟨rfl, rfl⟩ := pure_inv e
    exact ⟨_, SkE.call_str_str, _, rfl, D.here R (by simp)⟩
  · rename_i xs
    cases hb
    obtain ⟨u, rfl, ru⟩ := rvs1 rv
    obtain ⟨rfl, rfl⟩ := newO_inv e
    obtain ⟨p, ys, rfl, ht, rs⟩ := RV_tup.mp ru
    exact ⟨_, call_list_of, p, ys, rfl, .inr (SqT.of ht), newDone (o := .lst xs) R ⟨_, rfl, rs⟩ D⟩
  · cases hb
    obtain ⟨u, rfl, ru⟩ := rvs1 rv
    obtain ⟨xs, h1, e1, e2⟩ := bind_inv e
    obtain ⟨g, rfl⟩ := lstO_inv e1
    obtain ⟨rfl, rfl⟩ := newO_inv e2
    obtain ⟨q, ys, rfl, _, hs, rs⟩ := R.lstR ru g
    exact ⟨_, call_list_of, q, ys, rfl, .inl (by rw [hK]; exact hs), newDone (o := .lst xs) R ⟨_, rfl, rs⟩ D⟩
  · rename_i xs
    cases hb
    obtain ⟨u, rfl, ru⟩ := rvs1 rv
    obtain ⟨rfl, rfl⟩ := pure_inv e
    obtain ⟨p, ys, rfl, ht, rs⟩ := RV_tup.mp ru
    exact ⟨_, call_tuple_of, p, ys, rfl, .inr ⟨SqT.of ht, D.here R ru⟩⟩
  · cases hb
    obtain ⟨u, rfl, ru⟩ := rvs1 rv
    obtain ⟨xs, h1, e1, e2⟩ := bind_inv e
    obtain ⟨g, rfl⟩ := lstO_inv e1
    obtain ⟨rfl, rfl⟩ := pure_inv e2
    obtain ⟨q, ys, rfl, _, hs, rs⟩ := R.lstR ru g
    exact ⟨_, call_tuple_of, q, ys, rfl, .inl ⟨by rw [hK]; exact hs, tupDone R rs D⟩⟩
  · cases hb
    obtain ⟨u, rfl, ru⟩ := rvs1 rv
    obtain ⟨xs, h1, e1, e2⟩ := bind_inv e
    obtain ⟨g, rfl⟩ := lstO_inv e1
    obtain ⟨rfl, rfl⟩ := newO_inv e2
    obtain ⟨q, ys, rfl, _, hs, rs⟩ := R.lstR ru g
    exact ⟨_, call_ftup, q, ys, rfl, by rw [hK]; exact hs, fun l ob hl hd => newDone (o := .ftup xs) R ⟨ob, ys, rfl, hd, rs⟩ D l hl⟩
  · cases hb
    obtain ⟨u, rfl, ru⟩ := rvs1 rv
    obtain ⟨xs, h1, e1, e2⟩ := bind_inv e
    obtain ⟨g, rfl⟩ := seqO_inv e1
    obtain ⟨ps, h2, e3, e4⟩ := bind_inv e2
    obtain ⟨e5, rfl⟩ := ofO_inv e3
    obtain ⟨_, h3, e6, e7⟩ := bind_inv e4
    obtain ⟨q1, rfl⟩ := guardM_inv e6
    obtain ⟨rfl, rfl⟩ := newO_inv e7
    rcases g with g | g
    rotate_left
    · obtain ⟨q, ob, ys, rfl, _, hs, hd, rs⟩ := R.ftup ru g
      obtain ⟨as, kvs, rfl, z1, z2⟩ := pairsO_ok (X := X) _ _ _ rs e5 q1
      exact ⟨_, call_dictFt hcalm, q, ob, as, kvs, rfl, hs, hd, z2, newDone (o := .dic (putAll [] ps)) R (.inl ⟨_, rfl, putAll_K ps (l := []) rfl z1⟩) D⟩
    obtain ⟨q, ys, rfl, _, hs, rs⟩ := R.lstR ru g
    obtain ⟨as, kvs, rfl, z1, z2⟩ := pairsO_ok (X := X) _ _ _ rs e5 q1
    exact ⟨_, call_dictP hcalm, q, as, kvs, rfl, by rw [hK]; exact hs, z2, newDone (o := .dic (putAll [] ps)) R (.inl ⟨_, rfl, putAll_K ps (l := []) rfl z1⟩) D⟩
  all_goals first | (cases hb; done) | (cases e; done)
end
end PM
end
section
set_option maxHeartbeats 1000000
/-! PMI: methods of built-in types, by values. -/
namespace PM
open PySem PySem.Spec L2
section
variable {X : Cx} {G : Gw} {ρ : List Addr} {H : Hp} {h h' : AH} {a b c r x k : AV} {v w y : V} {Q : VK} {P : Pg}
theorem MtR.any {id : String} : MtR X id (fun x xs H Q => ∃ r, MtR X id r ∧ r x xs H Q) := fun pins s σ H x xs v us Q I rx rv ⟨r, hr, q⟩ => hr pins s σ H x xs v us Q I rx rv q
def rtS : RT → String
  | .str => "str" | .lst => "list" | .dic => "dict"
theorem rt_attrs : ∀ t : RT, PlainAttrs (rtS t)
  | .str => F.plainAttrs_str
  | .lst => F.plainAttrs_list
  | .dic => F.plainAttrs_dict
def mName : Nat → Option Str
  | 0 => some "append" | 1 => some "extend" | 2 => some "pop" | 3 => some "get" | 4 => some "join" | 5 => some "split" | 6 => some "index" | 7 => some "count" | 8 => some "update" | 10 => some "endswith" | 12 => some "find"
  | _ => none
theorem recv_ok {t : RT} (hK : X.K = G.K) (R : RH G ρ h H) (ra : RV G ρ H a v) (e : recv h a = some t) : tyV X.K (rtS t) v H := by
  unfold recv at e
  split at e
  · cases e; rw [RV_str.mp ra]; rfl
  · split at e
    · cases e
      rename_i g
      obtain ⟨q, ys, rfl, _, hq, _⟩ := R.lst ra g
      exact .inl ⟨rfl, ys, SqL.of hq⟩
    · cases e
      rename_i g
      obtain ⟨q, ys, rfl, _, hq, _⟩ := R.lstR ra (.inr g)
      exact .inl ⟨rfl, ys, by rw [hK]; exact hq⟩
    · cases e
      rename_i g
      obtain ⟨q, e1, rfl⟩ := RV_ref.mp ra
      obtain ⟨ho, h1, h2⟩ := R.ob _ q _ e1 g
      rcases h2 with ⟨l, rfl, _⟩ | ⟨l, rfl, _⟩
      · exact .inr (.inr (.inl ⟨rfl, .inl ⟨l, h1⟩⟩))
      · exact .inr (.inr (.inl ⟨rfl, .inr ⟨l, h1⟩⟩))
    · cases e
  · cases e
theorem mt_getA (hu : X.A.units + 1 < cLine) : MtR X "dict.get" (fun y xs H Q => ∃ G ρ h h' p k kvs, RH G ρ h H ∧ RV G ρ H (.ref p) y ∧ dicR p k h = .ok kvs h' ∧
    ((∃ w, xs = [w] ∧ RV G ρ H k w ∧ Done G ρ H ((look kvs k).getD .non) h' Q) ∨ ∃ w d z, xs = [w, z] ∧ RV G ρ H k w ∧ RV G ρ H d z ∧ Done G ρ H ((look kvs k).getD d) h' Q)) := by
  intro pins s σ H y xs uy us Q I ry rs hq
  obtain ⟨G, ρ, h, h', p, k, kvs, R, rv, e, hq⟩ := hq
  have getD_ok : ∀ {H2 : Hp} {o : Option AV} {o' : Option V} {d : AV} {z : V}, RVO G ρ H2 o o' → RV G ρ H2 d z → RV G ρ H2 (o.getD d) (o'.getD z) := by
    intro H2 o o' d z h1 h2
    cases o <;> cases o' <;> first | exact h1.elim | exact h2 | exact h1
  rcases hq with ⟨w, rfl, rk, D⟩ | ⟨w, d, z, rfl, rk, rd, D⟩
  · obtain ⟨rfl, q, rfl, g⟩ := ask R rv rk e
    obtain ⟨H2, o, I2, e2, R2, d1, d2⟩ := g I
    obtain ⟨u, rfl, ru⟩ := vals1 rs
    cases ry
    exact d_get1 hu I2 d1 ru fun w' s3 I3 rw' => ⟨_, H2, I3, rw', D _ _ _ e2 R2 (getD_ok d2 (by simp))⟩
  · obtain ⟨rfl, q, rfl, g⟩ := ask R rv rk e
    obtain ⟨H2, o, I2, e2, R2, d1, d2⟩ := g I
    obtain ⟨u, u', rfl, ru, ru'⟩ := vals2 rs
    cases ry
    exact d_get2 hu I2 d1 ru ru' fun w' s3 I3 rw' => ⟨_, H2, I3, rw', D _ _ _ e2 R2 (getD_ok d2 (RV.mono e2 _ rd))⟩
theorem mt_update : MtR X "dict.update" (fun y xs H Q => ∃ G ρ h p q kvs more w, xs = [w] ∧ RH G ρ h H ∧ RV G ρ H (.ref p) y ∧ RV G ρ H (.ref q) w ∧ h.get p = some (.dic kvs) ∧ h.get q = some (.dic more) ∧ p ≠ q ∧
    kvs.all (fun kv => keyF kv.1) = true ∧ more.all (fun kv => keyF kv.1) = true ∧ kvs.length + more.length ≤ sizeLine ∧ Done G ρ H .non (h.set p (.dic (putAll kvs more))) Q) := by
  intro pins s σ H y xs uy us Q I ry rs hq
  obtain ⟨G, ρ, h, p, q, kvs, more, w, rfl, R, rv, rw', g1, g2, ne, k1, k2, hz, D⟩ := hq
  obtain ⟨a, ea, rfl⟩ := RV_ref.mp rv
  obtain ⟨b, eb, rfl⟩ := RV_ref.mp rw'
  obtain ⟨u, rfl, ru⟩ := vals1 rs
  cases ry
  cases ru
  have nab : a ≠ b := fun z => by
    subst z
    obtain ⟨l1, e1⟩ := List.getElem?_eq_some_iff.mp ea
    obtain ⟨l2, e2⟩ := List.getElem?_eq_some_iff.mp eb
    exact ne ((List.getElem_inj R.nd).mp (e1.trans e2.symm))
  obtain ⟨H2, l, I2, x2, R2, d2, r2, s2⟩ := asK R ea g1 k1 I
  obtain ⟨H3, m, I3, x3, R3, d3, r3, s3⟩ := asK R2 eb g2 k2 I2
  have d2' : H3 a = some (.dK l) := (s3 a nab).trans d2
  have r2' : RKs G ρ H3 kvs l := r2.mono x3
  obtain ⟨z, hd, vs, rel, dd⟩ := dk_of I3.hok d2'
  obtain ⟨z', hd', vs', rel', dd'⟩ := dk_of I3.hok d3
  have hl : l.length + m.length ≤ sizeLine := by rw [← r2'.length, ← r3.length]; exact hz
  refine call_meetsIn PySem.F.slot_dict_update dd.typeIs PySem.F.entry_dict_update (PySem.F.args_dict_update_2 _ _) (meets_dict_update (mixKind X.prog X.w) a b nab hd') ⟨vs, vs', dd, dd', by rw [← rel.length, ← rel'.length]; exact hl, fun h' dn _ hs => ?_⟩
  have he : ∃ q, h'.get? a = some q := let ⟨q, _, _, hq, _⟩ := dn; ⟨q, hq⟩
  have I4 := d_write (t' := s.toks) I3 (by rw [d2']; exact True.intro) hs he (dk_new (Nat.le_trans (length_mergeK m l) hl) hd (KV.merge rel' rel) dn)
  exact ⟨.non, _, I4, rfl, setDone (x := .non) (o := .dic (putAll kvs more)) R3 ea (by rw [d2']; exact True.intro) (.inl ⟨_, rfl, r2'.putAll r3⟩) (by simp) fun ρ' H' v e R' r => D ρ' H' v ((x2.trans x3).trans e) R' r⟩
theorem ixN_seq {n : Nat} {i : Int} {j : Nat} (e : ixN n i = some j) : seqIndex? i n = some j := by
  unfold ixN at e
  unfold seqIndex?
  by_cases h0 : 0 ≤ i
  · rw [if_pos h0] at e
    split at e
    · cases e
      have h1 : ¬ i < 0 := by omega
      simp only [if_neg h1]
      rw [if_pos (by simp; omega)]
    · cases e
  · rw [if_neg h0] at e
    split at e
    · cases e
      have h1 : i < 0 := by omega
      simp only [if_pos h1]
      rw [if_pos (by simp; omega)]
    · cases e
theorem map_tl_cStr (l : List (List Nat)) : l.map (TL.tl ∘ cStr) = l := by
  have : (TL.tl ∘ cStr) = id := funext fun z => cStr_tl z
  rw [this, List.map_id]
/-- which built-in method it is -/
def mId : Nat → RT → Option String
  | 0, .lst => some "list.append" | 1, .lst => some "list.extend" | 2, .lst => some "list.pop" | 3, .dic => some "dict.get" | 4, .str => some "str.join" | 5, .str => some "str.split"
  | 8, .dic => some "dict.update" | 7, .str => some "str.count" | 10, .str => some "str.endswith" | 12, .str => some "str.find"
  | _, _ => none
theorem bMeth_id {m : Nat} {t : RT} {vs : List AV} (e : bMeth m t a vs h = .ok r h') : ∃ id, mId m t = some id := by
  unfold bMeth at e
  split at e <;> first | (cases e; done) | exact ⟨_, rfl⟩
theorem slot_of {m : Nat} {t : RT} {id : String} {nm : Str} (hn : mName m = some nm) (e : mId m t = some id) : Slot (rtS t) nm id ∧ typeOf (.builtin id) = pure (.type "method_descriptor") := by
  unfold mId at e
  split at e
  · cases hn; cases e; exact ⟨F.slot_list_append, F.type_list_append⟩
  · cases hn; cases e; exact ⟨F.slot_list_extend, F.type_list_extend⟩
  · cases hn; cases e; exact ⟨F.slot_list_pop, F.type_list_pop⟩
  · cases hn; cases e; exact ⟨F.slot_dict_get, F.type_dict_get⟩
  · cases hn; cases e; exact ⟨F.slot_str_join, F.type_str_join⟩
  · cases hn; cases e; exact ⟨F.slot_str_split, F.type_str_split⟩
  · cases hn; cases e; exact ⟨F.slot_dict_update, F.type_dict_update⟩
  · cases hn; cases e; exact ⟨F.slot_str_count, F.type_str_count⟩
  · cases hn; cases e; exact ⟨F.slot_str_endswith, F.type_str_endswith⟩
  · cases hn; cases e; exact ⟨F.slot_str_find, F.type_str_find⟩
  · cases e
theorem bMeth_ok {us : List V} {vs : List AV} {m : Nat} {t : RT} (C : Ctx P G X) (R : RH G ρ h H) (ra : RV G ρ H a v) (rv : RVs G ρ H vs us) {id : String} (hn : mId m t = some id) (e : bMeth m t a vs h = .ok r h') (D : Done G ρ H r h' Q) :
    ∃ rr, MtR X id rr ∧ rr v us H Q := by
  have hK := C.hK
  have hu := C.un
  unfold bMeth at e
  split at e
  · rename_i p y
    cases hn
    obtain ⟨u, rfl, ru⟩ := rvs1 rv
    obtain ⟨xs, h1, e1, e2⟩ := bind_inv e
    obtain ⟨g, rfl⟩ := lstW_inv e1
    obtain ⟨_, h2, e3, e4⟩ := bind_inv e2
    obtain ⟨q1, rfl⟩ := guardM_inv e3
    obtain ⟨_, h3, e5, e6⟩ := bind_inv e4
    obtain rfl := setO_inv e5
    obtain ⟨rfl, rfl⟩ := pure_inv e6
    obtain ⟨q, ys, rfl, eq, hs, rs⟩ := R.lst ra g
    exact ⟨_, mt_append, q, ys, u, rfl, rfl, hs, by rw [← rs.length, sizeLine_eq]; exact of_decide_eq_true q1,
      setDone (o := .lst (xs ++ [y])) (x := .non) R eq (by rw [hs]; exact True.intro) ⟨_, rfl, rs.append (RVs.cons ru RVs.nil)⟩ (by simp) D⟩
  · rename_i p q
    cases hn
    obtain ⟨u, rfl, ru⟩ := rvs1 rv
    obtain ⟨xs, h1, e1, e2⟩ := bind_inv e
    obtain ⟨g, rfl⟩ := lstW_inv e1
    obtain ⟨zs, h2, e3, e4⟩ := bind_inv e2
    obtain ⟨g2, rfl⟩ := lstW_inv e3
    obtain ⟨_, h3, e5, e6⟩ := bind_inv e4
    obtain ⟨q1, rfl⟩ := guardM_inv e5
    obtain ⟨_, h4, e7, e8⟩ := bind_inv e6
    obtain rfl := setO_inv e7
    obtain ⟨rfl, rfl⟩ := pure_inv e8
    obtain ⟨l, ys, rfl, eq, hs, rs⟩ := R.lst ra g
    obtain ⟨l2, ys2, rfl, eq2, hs2, rs2⟩ := R.lst ru g2
    exact ⟨_, mt_extend, l, l2, ys, ys2, rfl, rfl, hs, hs2, by rw [← rs.length, ← rs2.length]; exact sizeLineB_le q1,
      setDone (o := .lst (xs ++ zs)) (x := .non) R eq (by rw [hs]; exact True.intro) ⟨_, rfl, rs.append rs2⟩ (by simp) D⟩
  · rename_i p
    cases hn
    obtain rfl := rvs0 rv
    obtain ⟨xs, h1, e1, e2⟩ := bind_inv e
    obtain ⟨g, rfl⟩ := lstW_inv e1
    obtain ⟨z, h2, e3, e4⟩ := bind_inv e2
    obtain ⟨ez, rfl⟩ := ofO_inv e3
    obtain ⟨_, h3, e5, e6⟩ := bind_inv e4
    obtain rfl := setO_inv e5
    obtain ⟨rfl, rfl⟩ := pure_inv e6
    obtain ⟨l, ys, rfl, eq, hs, rs⟩ := R.lst ra g
    obtain ⟨zv, g1, g2⟩ := rs.get ez
    exact ⟨_, mt_pop, l, ys, zv, rfl, rfl, hs, by rw [← rs.length]; exact g1,
      setDone (o := .lst xs.dropLast) R eq (by rw [hs]; exact True.intro) ⟨_, rfl, rs.dropLast⟩ g2 D⟩
  · rename_i p i
    cases hn
    obtain ⟨u, rfl, ru⟩ := rvs1 rv
    obtain rfl := RV_int.mp ru
    obtain ⟨xs, h1, e1, e2⟩ := bind_inv e
    obtain ⟨g, rfl⟩ := lstW_inv e1
    obtain ⟨_, h0, e01, e02⟩ := bind_inv e2
    obtain ⟨q1, rfl⟩ := guardM_inv e01
    obtain ⟨j, h2, e3, e4⟩ := bind_inv e02
    obtain ⟨ej, rfl⟩ := ofO_inv e3
    obtain ⟨z, h3, e5, e6⟩ := bind_inv e4
    obtain ⟨ez, rfl⟩ := ofO_inv e5
    obtain ⟨_, h4, e7, e8⟩ := bind_inv e6
    obtain rfl := setO_inv e7
    obtain ⟨rfl, rfl⟩ := pure_inv e8
    obtain ⟨l, ys, rfl, eq, hs, rs⟩ := R.lst ra g
    obtain ⟨zv, g1, g2⟩ := rs.get ez
    have q2 := of_decide_eq_true q1
    exact ⟨_, mt_popAt, l, ys, i, j, zv, rfl, rfl, hs, q2.1, q2.2, by rw [← rs.length]; exact ixN_seq ej, g1,
      setDone (o := .lst (xs.eraseIdx j)) R eq (by rw [hs]; exact True.intro) ⟨_, rfl, rs.eraseIdx j⟩ g2 D⟩
  · rename_i p k
    cases hn
    obtain ⟨u, rfl, ru⟩ := rvs1 rv
    obtain ⟨kvs, h1, e1, e2⟩ := bind_inv e
    obtain ⟨rfl, rfl⟩ := pure_inv e2
    exact ⟨_, mt_getA (by omega), G, ρ, h, h', p, k, kvs, R, ra, e1, .inl ⟨u, rfl, ru, D⟩⟩
  · rename_i p k d
    cases hn
    obtain ⟨u, u', rfl, ru, ru'⟩ := rvs2 rv
    obtain ⟨kvs, h1, e1, e2⟩ := bind_inv e
    obtain ⟨rfl, rfl⟩ := pure_inv e2
    exact ⟨_, mt_getA (by omega), G, ρ, h, h', p, k, kvs, R, ra, e1, .inr ⟨u, d, u', rfl, ru, ru', D⟩⟩
  · rename_i sep p
    cases hn
    obtain ⟨u, rfl, ru⟩ := rvs1 rv
    obtain rfl := RV_str.mp ra
    obtain ⟨xs, h1, e1, e2⟩ := bind_inv e
    obtain ⟨g, rfl⟩ := lstO_inv e1
    obtain ⟨ys, h2, e3, e4⟩ := bind_inv e2
    obtain ⟨ey, rfl⟩ := ofO_inv e3
    obtain ⟨_, h3, e5, e6⟩ := bind_inv e4
    obtain ⟨q1, rfl⟩ := guardM_inv e5
    obtain ⟨rfl, rfl⟩ := pure_inv e6
    obtain ⟨l, zs, rfl, _, hs, rs⟩ := R.lstR ru g
    obtain rfl := strsO_ok _ _ _ rs ey
    refine ⟨_, mt_join, cStr sep, l, _, rfl, rfl, .inl (by rw [hK]; exact hs), ?_, D.here R ?_⟩
    · have := of_decide_eq_true q1
      rw [List.map_map, List.length_map, cStr_len]
      have e7 : (List.map ((fun x => x.length) ∘ cStr) ys) = ys.map (·.length) := List.map_congr_left fun z _ => cStr_len z
      rw [e7]
      exact this
    · have : Txt.join (cStr sep) (ys.map cStr) = cStr (TL.joinL sep ys) := by
        rw [TL.join_eq]
        refine TL.ext_tl ?_
        rw [TL.tl_join]
        show TL.joinL (TL.tl (cStr sep)) ((ys.map cStr).map TL.tl) = TL.tl (cStr (TL.joinL sep ys))
        rw [show TL.tl (cStr sep) = sep from cStr_tl _, show TL.tl (cStr (TL.joinL sep ys)) = _ from cStr_tl _, List.map_map]
        rw [map_tl_cStr]
      rw [this]
      simp
  · rename_i x sep
    cases hn
    obtain ⟨u, rfl, ru⟩ := rvs1 rv
    obtain rfl := RV_str.mp ra
    obtain rfl := RV_str.mp ru
    obtain ⟨_, h1, e1, e2⟩ := bind_inv e
    obtain ⟨q1, rfl⟩ := guardM_inv e1
    obtain ⟨rfl, rfl⟩ := newO_inv e2
    rw [Bool.and_eq_true, Bool.and_eq_true] at q1
    have hne : sep ≠ [] := by intro z; rw [z] at q1; simp at q1
    refine ⟨_, mt_split, cStr x, cStr sep, rfl, rfl, ?_, ?_, fun p hp => ?_⟩
    · rw [cStr_len]
      cases sep with
      | nil => exact absurd rfl hne
      | cons _ _ => rfl
    · rw [cStr_len, sizeLine_eq]; exact of_decide_eq_true q1.2
    · have hsp : (Txt.split (cStr x) (cStr sep)).map TL.tl = TL.spl sep 0 [] x := by
        have := TL.split_spl (cStr x) (cStr sep) (by rw [show TL.tl (cStr sep) = sep from cStr_tl _]; exact hne) (TL.kind_ok (by
          show sep.toArray.all (· < 256) = true
          simpa using q1.1.2))
        rw [show TL.tl (cStr sep) = sep from cStr_tl _, show TL.tl (cStr x) = x from cStr_tl _] at this
        exact this
      have hsp2 : Txt.split (cStr x) (cStr sep) = (TL.spl sep 0 [] x).map cStr := by
        refine TL.map_tl_inj ?_
        rw [hsp, List.map_map, map_tl_cStr]
      rw [hsp2]
      exact newDone (o := .lst ((TL.spl sep 0 [] x).map .str)) R ⟨_, rfl, RVs_strs _⟩ D p hp
  · cases hn
    obtain ⟨u, rfl, ru⟩ := rvs1 rv
    obtain rfl := RV_str.mp ra
    obtain rfl := RV_str.mp ru
    obtain ⟨rfl, rfl⟩ := pure_inv e
    exact ⟨_, mt_endswith, _, _, rfl, rfl, D.here R (by simp [cStr])⟩
  · cases hn
    obtain ⟨u, rfl, ru⟩ := rvs1 rv
    obtain rfl := RV_str.mp ra
    obtain rfl := RV_str.mp ru
    obtain ⟨rfl, rfl⟩ := pure_inv e
    exact ⟨_, mt_find, _, _, rfl, rfl, D.here R (by simp [cStr])⟩
  · rename_i p q
    cases hn
    obtain ⟨u, rfl, ru⟩ := rvs1 rv
    obtain ⟨kvs, h1, e1, e2⟩ := bind_inv e
    obtain ⟨g1, rfl⟩ := dicW_inv e1
    obtain ⟨more, h2, e3, e4⟩ := bind_inv e2
    obtain ⟨g2, rfl⟩ := dicW_inv e3
    obtain ⟨_, h3, e5, e6⟩ := bind_inv e4
    obtain ⟨q1, rfl⟩ := guardM_inv e5
    obtain ⟨_, h4, e7, e8⟩ := bind_inv e6
    obtain rfl := setO_inv e7
    obtain ⟨rfl, rfl⟩ := pure_inv e8
    rw [Bool.and_eq_true, Bool.and_eq_true, Bool.and_eq_true] at q1
    exact ⟨_, mt_update, G, ρ, _, p, q, kvs, more, u, rfl, R, ra, ru, g1, g2, of_decide_eq_true q1.1, q1.2.1, q1.2.2.1, sizeLineB_le q1.2.2.2, D⟩
  · cases hn
    obtain ⟨u, rfl, ru⟩ := rvs1 rv
    obtain rfl := RV_str.mp ra
    obtain rfl := RV_str.mp ru
    obtain ⟨rfl, rfl⟩ := pure_inv e
    exact ⟨_, mt_count, _, _, rfl, rfl, D.here R (by simp [cStr])⟩
  · cases e
end
end PM
end
section
set_option maxHeartbeats 1000000
/-! PMJ: what the interpreter says of expressions, as readings. -/
namespace PM
open PySem PySem.Spec L2
section
variable (P : Pg) (cf : CF) (G : Gw)
def WE (e : E) : TE := fun σ H Q => ∃ ρ h σ' v h', RH G ρ h H ∧ RS G ρ H σ' σ ∧ evE P cf e σ' h = .ok v h' ∧ Done G ρ H v h' Q
def WT (e : E) : TT := fun σ H Q => ∃ ρ h σ' v h', RH G ρ h H ∧ RS G ρ H σ' σ ∧ evT P cf e σ' h = .ok v h' ∧ DoneB G ρ H v h' Q
def WA (e : E) : TA := fun σ H Q => ∃ ρ h σ' vs h', RH G ρ h H ∧ RS G ρ H σ' σ ∧ evA P cf e σ' h = .ok vs h' ∧ DoneL G ρ H vs h' Q
def Same (vs : List Nat) (τ σ : St) : Prop := τ.length = σ.length ∧ ∀ i, i ∉ vs → τ[i]? = σ[i]?
/-- the slots of a target -/
def tgS : E → List Nat
  | .v i => [i]
  | .tup es => tgS es
  | .cons t ts => tgS t ++ tgS ts
  | _ => []
def DoneG (ρ : List Addr) (H : Hp) (t : List Nat) (σ : St) (τ : Loc) (h : AH) (Q : St → Hp → Prop) : Prop := ∀ ρ' H' σ2, Ext ρ H ρ' H' → RH G ρ' h H' → RS G ρ' H' τ σ2 → Same t σ2 σ → Q σ2 H'
def WG (t : E) : TG := fun v σ H Q => ∃ ρ h σ' x τ h', RH G ρ h H ∧ RS G ρ H σ' σ ∧ RV G ρ H x v ∧ asgT P cf t x σ' h = .ok τ h' ∧ DoneG G ρ H (tgS t) σ τ h' Q
def WGs (ts : E) : TGs := fun vs σ H Q => ∃ ρ h σ' xs τ h', RH G ρ h H ∧ RS G ρ H σ' σ ∧ RVs G ρ H xs vs ∧ asgTs P cf ts xs σ' h = .ok τ h' ∧ DoneG G ρ H (tgS ts) σ τ h' Q
end
section
variable {X : Cx} {P : Pg} {cf : CF} {G : Gw} {ρ ρ' : List Addr} {H H' : Hp} {h h' : AH} {Q : VK} {a b c : Expr} {a' b' c' : E} {pos : Pos}
theorem PE.imp {e : Expr} {t t' : TE} (p : PE X e t) (i : ∀ σ H Q, t' σ H Q → t σ H Q) : PE X e t' := ⟨fun pins s σ H Q I q => p.run pins s σ H Q I (i σ H Q q)⟩
theorem PT.imp {e : Expr} {t t' : TT} (p : PT X e t) (i : ∀ σ H Q, t' σ H Q → t σ H Q) : PT X e t' := ⟨fun pins s σ H Q I q => p.run pins s σ H Q I (i σ H Q q)⟩
theorem PA.imp {e : List Expr} {t t' : TA} (p : PA X e t) (i : ∀ σ H Q, t' σ H Q → t σ H Q) : PA X e t' := ⟨fun pos pins s σ H Q I q => p.run pos pins s σ H Q I (i σ H Q q)⟩
theorem PS.imp {e : Stmt} {t t' : TS} (p : PS X e t) (i : ∀ D σ H, t' D σ H → t D σ H) : PS X e t' := ⟨fun pins s σ H D I q => p.run pins s σ H D I (i D σ H q)⟩
theorem PSs.imp {e : List Stmt} {t t' : TS} (p : PSs X e t) (i : ∀ D σ H, t' D σ H → t D σ H) : PSs X e t' := ⟨fun pins s σ H D I q => p.run pins s σ H D I (i D σ H q)⟩
theorem PG.imp {e : Expr} {t t' : TG} (p : PG X e t) (i : ∀ v σ H Q, t' v σ H Q → t v σ H Q) : PG X e t' := ⟨fun pins s σ H v u Q I r q => p.run pins s σ H v u Q I r (i v σ H Q q)⟩
theorem PGs.imp {e : List Expr} {t t' : TGs} (p : PGs X e t) (i : ∀ v σ H Q, t' v σ H Q → t v σ H Q) : PGs X e t' := ⟨fun pins s σ H v u Q I r q => p.run pins s σ H v u Q I r (i v σ H Q q)⟩
theorem Done.ext {v : AV} (D : Done G ρ H v h Q) (e : Ext ρ H ρ' H') : Done G ρ' H' v h Q := fun ρ2 H2 w e2 R r => D ρ2 H2 w (e.trans e2) R r
theorem DoneB.ext {v : Bool} {Q : Bool → Hp → Prop} (D : DoneB G ρ H v h Q) (e : Ext ρ H ρ' H') : DoneB G ρ' H' v h Q := fun ρ2 H2 e2 R => D ρ2 H2 (e.trans e2) R
theorem DoneL.ext {v : List AV} {Q : List V → Hp → Prop} (D : DoneL G ρ H v h Q) (e : Ext ρ H ρ' H') : DoneL G ρ' H' v h Q := fun ρ2 H2 w e2 R r => D ρ2 H2 w (e.trans e2) R r
theorem DoneG.ext {t : List Nat} {σ : St} {τ : Loc} {Q : St → Hp → Prop} (D : DoneG G ρ H t σ τ h Q) (e : Ext ρ H ρ' H') : DoneG G ρ' H' t σ τ h Q := fun ρ2 H2 w e2 R r s => D ρ2 H2 w (e.trans e2) R r s
/-- go on behind an expression -/
theorem WE.mk {σ : St} {σ' : Loc} {v : AV} (R : RH G ρ h H) (S : RS G ρ H σ' σ) (e : evE P cf a' σ' h = .ok v h') (k : ∀ ρ' H' w, Ext ρ H ρ' H' → RH G ρ' h' H' → RS G ρ' H' σ' σ → RV G ρ' H' v w → Q w H') : WE P cf G a' σ H Q :=
  ⟨ρ, h, σ', v, h', R, S, e, fun ρ' H' w x R' r => k ρ' H' w x R' (S.mono x) r⟩
theorem WT.mk {σ : St} {σ' : Loc} {v : Bool} {Q : Bool → Hp → Prop} (R : RH G ρ h H) (S : RS G ρ H σ' σ) (e : evT P cf a' σ' h = .ok v h') (k : ∀ ρ' H', Ext ρ H ρ' H' → RH G ρ' h' H' → RS G ρ' H' σ' σ → Q v H') : WT P cf G a' σ H Q :=
  ⟨ρ, h, σ', v, h', R, S, e, fun ρ' H' x R' => k ρ' H' x R' (S.mono x)⟩
theorem WA.mk {σ : St} {σ' : Loc} {v : List AV} {Q : List V → Hp → Prop} (R : RH G ρ h H) (S : RS G ρ H σ' σ) (e : evA P cf a' σ' h = .ok v h') (k : ∀ ρ' H' w, Ext ρ H ρ' H' → RH G ρ' h' H' → RS G ρ' H' σ' σ → RVs G ρ' H' v w → Q w H') : WA P cf G a' σ H Q :=
  ⟨ρ, h, σ', v, h', R, S, e, fun ρ' H' w x R' r => k ρ' H' w x R' (S.mono x) r⟩

/-! ### names, constants -/
theorem getD_some {σ : Loc} {i : Nat} {v : AV} (e : σ.getD i none = some v) : σ[i]? = some (some v) := by
  rw [List.getD_eq_getElem?_getD] at e
  cases q : σ[i]? with
  | none => rw [q] at e; cases e
  | some o => rw [q] at e; exact congrArg some e
theorem we_var {i : Nat} {x : Str} (hN : X.N[i]? = some x) (hv : Vis X.env.scope x) (hd : (x == ("__debug__" : Str)) = false) (hcd : (x == ("__classdict__" : Str)) = false) : PE X (.Name x pos) (WE P cf G (.v i)) :=
  PE.imp (pe_var hN hv hd hcd) fun σ H Q ⟨ρ, h, σ', v, h', R, S, e, D⟩ => by
    rw [evE] at e
    obtain ⟨e1, rfl⟩ := ofO_inv e
    obtain ⟨w, g1, g2⟩ := S.get i v (getD_some e1)
    exact ⟨w, g1, D.here R g2⟩
theorem we_k {e : Expr} {v : V} {k : AV} (p : PE X e (tC v)) (r : ∀ ρ H, RV G ρ H k v) : PE X e (WE P cf G (.k k)) :=
  PE.imp p fun σ H Q ⟨ρ, h, σ', v', h', R, S, e, D⟩ => by
    rw [evE] at e
    obtain ⟨rfl, rfl⟩ := pure_inv e
    exact D.here R (r ρ H)

/-! ### operators -/
theorem we_bin {op : Operator} (C : Ctx P G X) (ha : PE X a (WE P cf G a')) (hb : PE X b (WE P cf G b')) : PE X (.BinOp a op b pos) (WE P cf G (.bin op a' b')) :=
  PE.imp (pe_op OpR.any ha hb) fun σ H Q ⟨ρ, h, σ', r, h', R, S, e, D⟩ => by
    rw [evE] at e
    obtain ⟨x, h1, e1, e2⟩ := bind_inv e
    obtain ⟨y, h2, e3, e4⟩ := bind_inv e2
    refine WE.mk R S e1 fun ρ1 H1 v x1 R1 S1 r1 => WE.mk R1 S1 e3 fun ρ2 H2 w x2 R2 S2 r2 => ?_
    exact binA_ok C.hK R2 (RV.mono x2 _ r1) r2 e4 (D.ext (x1.trans x2))
theorem we_neg (ha : PE X a (WE P cf G a')) : PE X (.UnaryOp .USub a pos) (WE P cf G (.neg a')) :=
  PE.imp (pe_un un_neg ha) fun σ H Q ⟨ρ, h, σ', r, h', R, S, e, D⟩ => by
    rw [evE] at e
    obtain ⟨x, h1, e1, e2⟩ := bind_inv e
    refine WE.mk R S e1 fun ρ1 H1 v x1 R1 S1 r1 => ?_
    split at e2
    · obtain ⟨rfl, rfl⟩ := pure_inv e2
      obtain rfl := RV_int.mp r1
      exact ⟨_, rfl, D _ _ _ x1 R1 (by simp)⟩
    · cases e2
theorem wt_not (ha : PT X a (WT P cf G a')) : PT X (.UnaryOp .Not a pos) (WT P cf G (.not a')) :=
  PT.imp (pt_not ha) fun σ H Q ⟨ρ, h, σ', r, h', R, S, e, D⟩ => by
    rw [evT] at e
    obtain ⟨x, h1, e1, e2⟩ := bind_inv e
    obtain ⟨rfl, rfl⟩ := pure_inv e2
    exact WT.mk R S e1 fun ρ1 H1 x1 R1 S1 => D _ _ x1 R1
theorem we_ite (hc : PT X c (WT P cf G c')) (ha : PE X a (WE P cf G a')) (hb : PE X b (WE P cf G b')) : PE X (.IfExp c a b pos) (WE P cf G (.ite c' a' b')) :=
  PE.imp (pe_ifExp hc ha hb) fun σ H Q ⟨ρ, h, σ', r, h', R, S, e, D⟩ => by
    rw [evE] at e
    obtain ⟨x, h1, e1, e2⟩ := bind_inv e
    refine WT.mk R S e1 fun ρ1 H1 x1 R1 S1 => ?_
    cases x with
    | true => exact ⟨ρ1, h1, σ', r, h', R1, S1, e2, D.ext x1⟩
    | false => exact ⟨ρ1, h1, σ', r, h', R1, S1, e2, D.ext x1⟩
/-! ### truth -/
theorem RVs.isEmpty {xs : List AV} {ys : List V} (rs : RVs G ρ H xs ys) : xs.isEmpty = ys.isEmpty := by
  have := rs.length
  cases xs <;> cases ys <;> first | rfl | (simp at this)
theorem truM_ok {v : AV} {w : V} {k : Bool} (hK : X.K = G.K) (R : RH G ρ h H) (ra : RV G ρ H v w) (e : truM P cf v h = .ok k h') : h' = h ∧ TruV X.K w H k := by
  unfold truM at e
  split at e
  · rename_i b eb
    cases e
    refine ⟨rfl, ?_⟩
    unfold truA at eb
    split at eb
    · cases eb; rw [RV_non.mp ra]; rfl
    · cases eb; rw [RV_bl.mp ra]; rfl
    · cases eb; rw [RV_int.mp ra]; rfl
    · split at eb
      · rename_i x hs
        cases eb
        rw [RV_str.mp ra]
        refine ⟨by rw [cStr_len]; exact sizeLineB_le hs, ?_⟩
        rw [cStr_len]
        cases x <;> simp
        omega
      · cases eb
    · cases eb
      obtain ⟨p, ys, rfl, ht, rs⟩ := RV_tup.mp ra
      exact .inr (.inl ⟨ys, SqT.of ht, by rw [rs.isEmpty]⟩)
    · split at eb
      · rename_i g
        cases eb
        obtain ⟨q, ys, rfl, _, hs, rs⟩ := R.lstR ra (.inl g)
        exact .inl ⟨ys, by rw [hK]; exact hs, by rw [rs.isEmpty]⟩
      · rename_i g
        cases eb
        obtain ⟨q, ys, rfl, _, hs, rs⟩ := R.lstR ra (.inr g)
        exact .inl ⟨ys, by rw [hK]; exact hs, by rw [rs.isEmpty]⟩
      · cases eb
    · cases eb
  · cases e
theorem bind_assocM {α β γ : Type} (m : M α) (f : α → M β) (g : β → M γ) (h : AH) : ((m >>= f) >>= g) h = (m >>= fun a => f a >>= g) h := by
  rw [bind_ap, bind_ap, bind_ap]
  cases m h <;> rfl
/-- tests that are their value's truth -/
def plainT : E → Bool
  | .v _ | .call _ _ | .blt _ _ | .meth _ _ _ | .attr _ _ | .ix _ _ => true
  | _ => false
theorem bind_congrM {α β : Type} (m : M α) {f g : α → M β} (k : ∀ a h, f a h = g a h) (h : AH) : (m >>= f) h = (m >>= g) h := by
  rw [bind_ap, bind_ap]
  cases m h with
  | ok a h1 => exact k a h1
  | err c v h1 => rfl
  | bad => rfl
theorem evT_plain {e : E} {σ : Loc} (p : plainT e = true) : evT P cf e σ h = (evE P cf e σ >>= truM P cf) h := by
  cases e with
  | v i => rw [evT, evE]
  | call f args => rw [evT, evE, bind_assocM]
  | blt f args => rw [evT, evE, bind_assocM]
  | attr f args => rw [evT, evE, bind_assocM]
  | ix o i =>
    rw [evT, evE, bind_assocM]
    refine bind_congrM _ (fun x h1 => ?_) h
    rw [bind_assocM]
  | meth o m args =>
    rw [evT, evE, bind_assocM]
    refine bind_congrM _ (fun x h1 => ?_) h
    rw [bind_assocM]
    refine bind_congrM _ (fun z h2 => ?_) h1
    generalize ownM P m x z = q
    cases q with
    | some f => exact (bind_assocM _ _ _ h2).symm
    | none =>
      refine Eq.trans ?_ (bind_assocM _ _ _ h2).symm
      refine bind_congrM _ (fun t h3 => ?_) h2
      exact (bind_assocM _ _ _ h3).symm
  | _ => cases p
theorem wt_plain (hK : X.K = G.K) (pl : plainT a' = true) (ha : PE X a (WE P cf G a')) (he : ∀ whole, isTrue a X.env whole = (do let v ← whole; standAt a.pos; holding [v] (truthy v))) : PT X a (WT P cf G a') :=
  PT.imp (pt_truth ha he) fun σ H Q ⟨ρ, h, σ', r, h', R, S, e, D⟩ => by
    rw [evT_plain pl] at e
    obtain ⟨x, h1, e1, e2⟩ := bind_inv e
    refine WE.mk R S e1 fun ρ1 H1 v x1 R1 S1 r1 => ?_
    obtain ⟨rfl, t⟩ := truM_ok hK R1 r1 e2
    exact ⟨r, t, D _ _ x1 R1⟩
theorem we_not (hK : X.K = G.K) (ha : PE X a (WE P cf G a')) : PE X (.UnaryOp .Not a pos) (WE P cf G (.not a')) :=
  ⟨fun pins s σ H Q I ⟨ρ, h, σ', r, h', R, S, e, D⟩ => by
    rw [evE] at e
    obtain ⟨x, h1, e1, e2⟩ := bind_inv e
    obtain ⟨k, h2, e3, e4⟩ := bind_inv e2
    obtain ⟨rfl, rfl⟩ := pure_inv e4
    refine PyProof.Rows.UnaryOp_ (thn (ha.run pins s σ H (fun w H1 => TruV X.K w H1 k ∧ Q (.bl (!k)) H1) I (WE.mk R S e1 fun ρ1 H1 v x1 R1 S1 r1 => ?_)) fun v s1 ⟨w, H1, I1, rw1, t, q⟩ => ?_)
    · obtain ⟨rfl, t⟩ := truM_ok hK R1 r1 e3
      exact ⟨t, D _ _ _ x1 R1 (by simp)⟩
    · exact PyProof.Rows.not_of (thn (tru_ok pins s1 σ H1 w v (fun c H2 => Q (.bl (!c)) H2) I1 rw1 ⟨k, t, q⟩) fun c s2 ⟨H2, I2, q2⟩ => ⟨V.bl (!c), H2, I2, rfl, q2⟩)⟩
theorem we_and1 {op : BoolOp} (ha : PE X a (WE P cf G a')) : PE X (.BoolOp op [a] pos) (WE P cf G a') := pe_one ha
theorem we_and {rest : List Expr} (hK : X.K = G.K) (ha : PE X a (WE P cf G a')) (hb : PE X (.BoolOp .And (b :: rest) pos) (WE P cf G b')) : PE X (.BoolOp .And (a :: b :: rest) pos) (WE P cf G (.and a' b')) :=
  ⟨fun pins s σ H Q I ⟨ρ, h, σ', r, h', R, S, e, D⟩ => by
    rw [evE] at e
    obtain ⟨x, h1, e1, e2⟩ := bind_inv e
    obtain ⟨k, h2, e3, e4⟩ := bind_inv e2
    refine PyProof.Rows.BoolOp_and (thn (ha.run pins s σ H (fun w H1 => TruV X.K w H1 k ∧ if k = true then WE P cf G b' σ H1 Q else Q w H1) I (WE.mk R S e1 fun ρ1 H1 v x1 R1 S1 r1 => ?_)) fun v s1 ⟨w, H1, I1, rw1, t, q⟩ => ?_)
    · obtain ⟨rfl, t⟩ := truM_ok hK R1 r1 e3
      refine ⟨t, ?_⟩
      cases k with
      | true => exact ⟨ρ1, h2, σ', r, h', R1, S1, e4, D.ext x1⟩
      | false =>
        obtain ⟨rfl, rfl⟩ := pure_inv e4
        exact D _ _ _ x1 R1 r1
    · refine thn (tru_ok pins s1 σ H1 w v (fun c H2 => c = k ∧ H2 = H1) I1 rw1 ⟨k, t, rfl, rfl⟩) fun c s2 ⟨H2, I2, q2, q3⟩ => ?_
      subst q2 q3
      cases c with
      | true => exact hb.run pins s2 σ H2 Q I2 q
      | false => exact ⟨w, H2, I2, rw1, q⟩⟩
theorem we_or {rest : List Expr} (hK : X.K = G.K) (ha : PE X a (WE P cf G a')) (hb : PE X (.BoolOp .Or (b :: rest) pos) (WE P cf G b')) : PE X (.BoolOp .Or (a :: b :: rest) pos) (WE P cf G (.or a' b')) :=
  ⟨fun pins s σ H Q I ⟨ρ, h, σ', r, h', R, S, e, D⟩ => by
    rw [evE] at e
    obtain ⟨x, h1, e1, e2⟩ := bind_inv e
    obtain ⟨k, h2, e3, e4⟩ := bind_inv e2
    refine PyProof.Rows.BoolOp_or (thn (ha.run pins s σ H (fun w H1 => TruV X.K w H1 k ∧ if k = true then Q w H1 else WE P cf G b' σ H1 Q) I (WE.mk R S e1 fun ρ1 H1 v x1 R1 S1 r1 => ?_)) fun v s1 ⟨w, H1, I1, rw1, t, q⟩ => ?_)
    · obtain ⟨rfl, t⟩ := truM_ok hK R1 r1 e3
      refine ⟨t, ?_⟩
      cases k with
      | false => exact ⟨ρ1, h2, σ', r, h', R1, S1, e4, D.ext x1⟩
      | true =>
        obtain ⟨rfl, rfl⟩ := pure_inv e4
        exact D _ _ _ x1 R1 r1
    · refine thn (tru_ok pins s1 σ H1 w v (fun c H2 => c = k ∧ H2 = H1) I1 rw1 ⟨k, t, rfl, rfl⟩) fun c s2 ⟨H2, I2, q2, q3⟩ => ?_
      subst q2 q3
      cases c with
      | false => exact hb.run pins s2 σ H2 Q I2 q
      | true => exact ⟨w, H2, I2, rw1, q⟩⟩
/-- tests joined -/
theorem ww_and1 {op : BoolOp} (ho : op = .And ∨ op = .Or) (ha : PT X a (WT P cf G a')) : PW X (.BoolOp op [a] pos) (WT P cf G a') := by
  rcases ho with rfl | rfl
  · exact pw_and1 ha
  · exact pw_or1 ha
theorem PW.imp {e : Expr} {t t' : TT} (p : PW X e t) (i : ∀ σ H Q, t' σ H Q → t σ H Q) : PW X e t' := ⟨fun wh pins s σ H Q I q => p.run wh pins s σ H Q I (i σ H Q q)⟩
theorem ww_and {rest : List Expr} (ha : PT X a (WT P cf G a')) (hb : PW X (.BoolOp .And (b :: rest) pos) (WT P cf G b')) : PW X (.BoolOp .And (a :: b :: rest) pos) (WT P cf G (.and a' b')) :=
  PW.imp (pw_and ha hb) fun σ H Q ⟨ρ, h, σ', r, h', R, S, e, D⟩ => by
    rw [evT] at e
    obtain ⟨x, h1, e1, e2⟩ := bind_inv e
    refine WT.mk R S e1 fun ρ1 H1 x1 R1 S1 => ?_
    cases x with
    | true => exact ⟨ρ1, h1, σ', r, h', R1, S1, e2, D.ext x1⟩
    | false =>
      obtain ⟨rfl, rfl⟩ := pure_inv e2
      exact D _ _ x1 R1
theorem ww_or {rest : List Expr} (ha : PT X a (WT P cf G a')) (hb : PW X (.BoolOp .Or (b :: rest) pos) (WT P cf G b')) : PW X (.BoolOp .Or (a :: b :: rest) pos) (WT P cf G (.or a' b')) :=
  PW.imp (pw_or ha hb) fun σ H Q ⟨ρ, h, σ', r, h', R, S, e, D⟩ => by
    rw [evT] at e
    obtain ⟨x, h1, e1, e2⟩ := bind_inv e
    refine WT.mk R S e1 fun ρ1 H1 x1 R1 S1 => ?_
    cases x with
    | false => exact ⟨ρ1, h1, σ', r, h', R1, S1, e2, D.ext x1⟩
    | true =>
      obtain ⟨rfl, rfl⟩ := pure_inv e2
      exact D _ _ x1 R1
end
end PM
end
section
set_option maxHeartbeats 1000000
/-! PMK: what a def promises; calls, fields, comparisons, displays. -/
namespace PM
open PySem PySem.Spec L2

/-- how a call ends that raises nothing -/
def CRn (outer : List Env) (P : Program) (w : World) (H : Hp) (s : Shared) (Q : VK) (r : Result) (s' : Shared) : Prop := match r with
  | .ok (.ret u) => CE outer P w H s Q u s'
  | _ => False
/-- a def's promise, nothing being shown around it -/
structure FnG (P : Program) (w : World) (K : PySem.W.Frag) (mg : Str → Option Value) (base : Heap) (k : Nat) (f : Addr) (fd : FuncData) (ps : List Str) (sp : List V → Hp → VK → Prop) : Prop where
  run : ∀ (A : Around) (outer : List Env) (s : Shared) (H : Hp) (args : Args) (us : List Value) (vs : List V) (Q : VK), Room k A → A.guards = some [] → Env0 P w K mg base A outer s H → BindsTo s fd args (ps.zip us) → Vals vs us → sp vs H Q →
    codeAny (model P w) A (.call (.ref f) args) (CRn outer P w H s Q) s
theorem FnG.mono {P : Program} {w : World} {K : PySem.W.Frag} {mg : Str → Option Value} {base : Heap} {j k : Nat} {f : Addr} {fd : FuncData} {ps : List Str} {sp : List V → Hp → VK → Prop} (F : FnG P w K mg base j f fd ps sp) (h : j ≤ k) : FnG P w K mg base k f fd ps sp :=
  ⟨fun A outer s H args us vs Q hr => F.run A outer s H args us vs Q (hr.mono h)⟩
def spF (cf : CF) (G : Gw) (f : Nat) : List V → Hp → VK → Prop := fun us H Q => ∃ ρ h vs r h', RH G ρ h H ∧ RVs G ρ H vs us ∧ cf f vs h = .ok r h' ∧ Done G ρ H r h' Q
/-- what is known of the defs' texts -/
structure PFn (P : Pg) (G : Gw) : Prop where
  np : ∀ f fn, P.fn f = some fn → (G.ps f).length = fn.np
  bind : ∀ f fn, P.fn f = some fn → ∀ us : List Value, us.length = (G.ps f).length → bindArgs (G.fd f) ⟨us, []⟩ = pure ((G.ps f).zip us)
  kp : ∀ f fn, P.fn f = some fn → PySem.W.keepIn G.K (.ref (G.fa f)) = true
  fn : ∀ f fn, P.fn f = some fn → PySem.W.isFn G.K (.ref (G.fa f)) = true
  kb : ∀ q ∈ G.kw, ∀ us ws : List Value, us.length = q.n → ws.length = q.ks.length → bindArgs (G.fd q.f) ⟨us, q.ks.zip ws⟩ = pure ((G.ps q.f).zip (q.perm.filterMap ((us ++ ws)[·]?)))
/-- a method's name by its number -/
def mNm (nms : List Str) (m : Nat) : Option Str := if m < 100 then mName m else nms[m - 100]?
/-- what is known of the classes' defs -/
structure PCl (P : Pg) (G : Gw) : Prop where
  init : ∀ c cl f, P.cl c = some cl → cl.init = some f → Mk G.K (G.gm c) (G.fa f)
  meth : ∀ c cl m f nm, P.cl c = some cl → cl.meths.lookup m = some f → mNm G.nms m = some nm → Meth G.K (G.gm c) nm (G.fa f) ∧ ∀ n, cl.flds.contains n = true → G.nms[n]? ≠ some nm
  prop : ∀ c cl n f nm, P.cl c = some cl → cl.props.lookup n = some f → G.nms[n]? = some nm → ∃ p, PropOf G.K (G.gm c) nm p (G.fa f)
  eq : ∀ c cl f, P.cl c = some cl → cl.eq = some f → PySem.W.findIn G.K (.ref (G.gm c)) "__eq__" = some (some (.ref (G.fa f)))
  ne : ∀ c cl f, P.cl c = some cl → cl.eq = some f → PySem.W.findIn G.K (.ref (G.gm c)) "__ne__" = some (some (.builtin "object.__ne__"))
  len : ∀ c cl f, P.cl c = some cl → cl.len = some f → PySem.W.findIn G.K (.ref (G.gm c)) "__len__" = some (some (.ref (G.fa f)))
  nft : ∀ c cl, P.cl c = some cl → ∀ t ∈ tys, PySem.W.notFirst G.K (G.gm c) (.type t) = true
  nfo : ∀ c cl c' cl', P.cl c = some cl → P.cl c' = some cl' → PySem.W.notFirst G.K (G.gm c) (.ref (G.gm c')) = true
structure CtxF (P : Pg) (cf : CF) (k : Nat) (G : Gw) (X : Cx) : Prop extends Ctx P G X where
  room : Room (k + 1) X.A
  xe : X.xe = fun _ _ => False
  pfn : PFn P G
  pcl : PCl P G
  cfn : ∀ f vs h r h', cf f vs h = .ok r h' → ∃ fn, P.fn f = some fn ∧ vs.length = fn.np
  fok : ∀ f fn, P.fn f = some fn → FnG X.prog X.w X.K X.mg X.base k (G.fa f) (G.fd f) (G.ps f) (spF cf G f)
section
variable {X : Cx} {P : Pg} {cf : CF} {kk : Nat} {G : Gw} {ρ ρ' : List Addr} {H H' : Hp} {h h' : AH} {Q : VK} {a b c e : Expr} {a' b' c' : E} {pos apos : Pos} {pins : List (Addr × Obj)} {σ : St} {s : Shared}
theorem make_guards {A : Around} {C : Addr} {us : List Value} {kw : List (Str × Value)} : (A.under (.builtin "type.__call__" ⟨.ref C :: us, kw⟩)).guards = A.guards := by
  first | rfl | simp [Around.under, Code.guards, Code.isGuard, pushGuards, guardIds]
/-- an own def is called -/
theorem runG {us : List Value} {vs : List V} {f : Nat} {xs : List AV} {r : AV} (C : CtxF P cf kk G X) (I : Inv X pins σ H s) (rv : Vals vs us) (R : RH G ρ h H) (rx : RVs G ρ H xs vs) (e : cf f xs h = .ok r h') (D : Done G ρ H r h' Q) :
    wpAny (model X.prog X.w) X.A (call (.ref (G.fa f)) us) (EP X pins σ Q) X.xe s := by
  obtain ⟨fn, hf, hl⟩ := C.cfn _ _ _ _ _ e
  have F := C.fok f fn hf
  have hlen : us.length = (G.ps f).length := by rw [← rv.length, ← rx.length, hl, C.pfn.np f fn hf]
  refine wpAny_call (codeAny_mono (F.run X.A X.stack s H ⟨us, []⟩ us vs Q (C.room.mono (Nat.le_succ _)) C.gd I.env0 (.of_eq (C.pfn.bind f fn hf us hlen)) rv ⟨ρ, h, xs, r, h', R, rx, e, D⟩) fun r' s' hq => ?_)
  cases r' with
  | error e => exact False.elim hq
  | ok fl =>
    cases fl with
    | ret u => exact I.after hq
    | next => exact False.elim hq
    | brk => exact False.elim hq
    | cont => exact False.elim hq
/-- plain argument lists -/
def noStar : List Expr → Bool
  | [] => true
  | .Starred _ _ :: _ => false
  | _ :: r => noStar r
theorem starEach_cons {es : List Expr} (hn : noStar (e :: es) = true) (env : Env) : starEach (e :: es) env = (false, eval e env) :: starEach es env := by
  cases e <;> first | rfl | (cases hn)
theorem noStar_tl {es : List Expr} (hn : noStar (e :: es) = true) : noStar es = true := by
  cases e <;> first | exact hn | (cases hn)
theorem starEach_any : ∀ {es : List Expr}, noStar es = true → ∀ env, (starEach es env).any (·.1) = false
  | [], _, _ => rfl
  | e :: es, hn, env => by rw [starEach_cons hn]; exact starEach_any (noStar_tl hn) env
theorem backTo_any {es : List Expr} (hn : noStar es = true) (env : Env) (pos : Pos) : (backTo pos (starEach es env)).any (·.1) = false := by
  unfold backTo
  rw [List.any_map]
  exact starEach_any hn env
/-- the arguments, then the call -/
theorem args_K {es : List Expr} {f : Value} {first : List Value} {xs : List AV} {σ' : Loc} {Qf : Value → Shared → Prop} (hK : X.K = G.K) (hk : PySem.W.keepIn G.K f = true) (hn : noStar es = true) (h0 : es = [] → a' = .nil) (ha : PA X es (WA P cf G a'))
    (I : Inv X pins σ H s) (R : RH G ρ h H) (S : RS G ρ H σ' σ) (e1 : evA P cf a' σ' h = .ok xs h')
    (k : ∀ us s1 ρ1 H1 vs, Inv X pins σ H1 s1 → Vals vs us → Ext ρ H ρ1 H1 → RH G ρ1 h' H1 → RVs G ρ1 H1 xs vs → wpAny (model X.prog X.w) X.A (call f (first ++ us)) Qf X.xe s1) :
    wpAny (model X.prog X.w) X.A (callWith pos f first (backTo pos (starEach es X.env)) (backToKw pos (keywordEach [] X.env))) Qf X.xe s := by
  have hk' : PySem.W.keepIn X.K f = true := by rw [hK]; exact hk
  cases es with
  | nil =>
    rw [h0 rfl, evA] at e1
    obtain ⟨rfl, rfl⟩ := pure_inv e1
    exact PySem.W.callWith_K0 I.kIn hk' (k [] s ρ H [] I .nil .refl R RVs.nil)
  | cons e es =>
    refine PySem.W.callWith_K (h₀ := X.base) I.ok.mod.kin hk' (thn (ha.run pos pins s σ H (fun vs H1 => ∃ ρ1, Ext ρ H ρ1 H1 ∧ RH G ρ1 h' H1 ∧ RVs G ρ1 H1 xs vs) I (WA.mk R S e1 fun ρ1 H1 w x1 R1 S1 r1 => ⟨ρ1, x1, R1, r1⟩)) fun us s1 ⟨vs, H1, I1, rv, ρ1, x1, R1, r1⟩ => ⟨I1.kIn, ?_⟩) (starEach_cons hn _) (backTo_any (noStar_tl hn) _ _)
    exact k us s1 ρ1 H1 vs I1 rv x1 R1 r1
theorem we_call {x : Str} {p : Pos} {es : List Expr} {f : Nat} (C : CtxF P cf kk G X) (hn : noStar es = true) (h0 : es = [] → a' = .nil) (hg : Gl X x) (hm : X.mg x = some (.ref (G.fa f))) (hdb : (x == ("__debug__" : Str)) = false) (ha : PA X es (WA P cf G a')) :
    PE X (.Call (.Name x p) es [] pos) (WE P cf G (.call f a')) :=
  ⟨fun pins s σ H Q I ⟨ρ, h, σ', r, h', R, S, ev, D⟩ => by
    rw [evE] at ev
    obtain ⟨xs, h1, e1, e2⟩ := bind_inv ev
    obtain ⟨fn, hf, hl⟩ := C.cfn _ _ _ _ _ e2
    refine wpAny_Call_Name_kw (ld_glob I hg hm ?_ hdb)
    exact args_K (first := []) C.hK (C.pfn.kp f fn hf) hn h0 ha I R S e1 fun us s1 ρ1 H1 vs I1 rv x1 R1 r1 => runG C I1 rv R1 r1 e2 (D.ext x1)⟩
/-- an own class is made -/
theorem we_new {x : Str} {p : Pos} {es : List Expr} {c : Nat} (C : CtxF P cf kk G X) (hn : noStar es = true) (h0 : es = [] → a' = .nil) (hg : Gl X x) (hm : X.mg x = some (.ref (G.gm c))) (hdb : (x == ("__debug__" : Str)) = false) (ha : PA X es (WA P cf G a')) :
    PE X (.Call (.Name x p) es [] pos) (WE P cf G (.new c a')) :=
  ⟨fun pins s σ H Q I ⟨ρ, h, σ', r, h', R, S, ev, D⟩ => by
    rw [evE] at ev
    obtain ⟨xs, h1, e1, e2⟩ := bind_inv ev
    obtain ⟨cl, h2, e3, e4⟩ := bind_inv e2
    obtain ⟨hcl, rfl⟩ := ofO_inv e3
    obtain ⟨f, h3, e5, e6⟩ := bind_inv e4
    obtain ⟨hf, rfl⟩ := ofO_inv e5
    obtain ⟨p0, h4, e7, e8⟩ := bind_inv e6
    obtain ⟨rfl, rfl⟩ := newO_inv e7
    obtain ⟨z, h5, e9, e10⟩ := bind_inv e8
    have M := C.pcl.init c cl f hcl hf
    obtain ⟨fn, hfn, hl⟩ := C.cfn _ _ _ _ _ e9
    refine wpAny_Call_Name_kw (ld_glob I hg hm ?_ hdb)
    refine args_K (first := []) C.hK M.kp hn h0 ha I R S e1 fun us s1 ρ1 H1 vs I1 rv x1 R1 r1 => ?_
    have I2 := Inv.made (C := G.gm c) I1
    have f1 : H1 s1.heap.objs.size = none := I1.hok.fresh (Nat.le_refl _)
    have f2 : H1 (s1.heap.objs.size + 1) = none := I1.hok.fresh (Nat.le_succ _)
    have ne : s1.heap.objs.size ≠ s1.heap.objs.size + 1 := Nat.ne_of_lt (Nat.lt_succ_self _)
    obtain ⟨x2, R2⟩ := R1.other (o := .own (s1.heap.objs.size + 1)) f1
    obtain ⟨x3, R3, r3⟩ := R2.push (p := s1.heap.objs.size + 1) (o := .ins c []) (ho := .ins (G.gm c) s1.heap.objs.size []) (by rw [upd_ne (Ne.symm ne)]; exact f2) ⟨_, [], rfl, rfl⟩
    have hq : wpAny (model X.prog X.w) X.A (call (.ref (G.gm c)) us) (EP X pins σ Q) X.xe s1 := by
      have F := C.fok f fn hfn
      have rv2 : Vals (V.ref (s1.heap.objs.size + 1) :: vs) (Value.ref (s1.heap.objs.size + 1) :: us) := .cons rfl rv
      have rx2 := RVs.cons r3 (RVs.mono (x2.trans x3) xs r1)
      have hlen : (Value.ref (s1.heap.objs.size + 1) :: us).length = (G.ps f).length := by
        rw [← rv2.length, ← rx2.length, hl, C.pfn.np f fn hfn]
      have hsp : spF cf G f (V.ref (s1.heap.objs.size + 1) :: vs) _ (fun v H2 => v = .non ∧ Q (.ref (s1.heap.objs.size + 1)) H2) := ⟨_, _, _, _, _, R3, rx2, e9, fun ρ' H' w x4 R4 r4 => by
        split at e10
        · obtain ⟨rfl, rfl⟩ := pure_inv e10
          refine ⟨RV_non.mp r4, D _ _ _ (x1.trans (x2.trans (x3.trans x4))) R4 (RV.mono x4 _ r3)⟩
        · cases e10⟩
      refine wpAny_call (make_map (K := G.K) (f := G.fa f) (by rw [← C.hK]; exact I1.kIn) M.makes M.init (beq_iff_eq.mp M.fn) (codeAny_mono (F.run _ X.stack _ _ ⟨Value.ref (s1.heap.objs.size + 1) :: us, []⟩ _ _ _ (C.room.make (G.gm c) us []) ?_
        (I2.env0.make (G.gm c) us []) (.of_eq (C.pfn.bind f fn hfn _ hlen)) rv2 hsp) fun r' s' hq' => ?_))
      · rw [make_guards]; exact C.gd
      · cases r' with
        | error e => exact False.elim hq'
        | ok fl =>
          cases fl with
          | ret u =>
            obtain ⟨v, H', I3, rw', ew, q3⟩ := I2.after hq'
            subst ew
            exact ⟨rw', ⟨V.ref (s1.heap.objs.size + 1), H', I3, rfl, q3⟩⟩
          | next => exact False.elim hq'
          | brk => exact False.elim hq'
          | cont => exact False.elim hq'
    exact hq⟩
/-! ### calls with keywords -/
theorem pk_cons' {nm : Option Str} {kpos : Pos} {kws : List Keyword} (ha : PE X e (WE P cf G a')) (hr : PK X kws (WA P cf G b')) : PK X (⟨nm, e, kpos⟩ :: kws) (WA P cf G (.cons a' b')) := by
  refine ⟨fun pos pins s σ H Q I hq => (pk_cons ha hr).run pos pins s σ H Q I ?_⟩
  obtain ⟨ρ, h, σ', vs, h', R, S, ev, D⟩ := hq
  rw [evA] at ev
  obtain ⟨x, h1, e1, e2⟩ := bind_inv ev
  obtain ⟨xs, h2, e3, e4⟩ := bind_inv e2
  obtain ⟨rfl, rfl⟩ := pure_inv e4
  refine WE.mk R S e1 fun ρ1 H1 v x1 R1 S1 r1 => WA.mk R1 S1 e3 fun ρ2 H2 w x2 R2 S2 r2 => ?_
  exact D _ _ _ (x1.trans x2) R2 (RVs.cons (RV.mono x2 _ r1) r2)
theorem pk_nil' : PK X [] (WA P cf G .nil) := by
  refine ⟨fun pos pins s σ H Q I hq => pk_nil.run pos pins s σ H Q I ?_⟩
  obtain ⟨ρ, h, σ', vs, h', R, S, ev, D⟩ := hq
  rw [evA] at ev
  obtain ⟨rfl, rfl⟩ := pure_inv ev
  exact D _ _ _ .refl R RVs.nil
theorem perm_rel : ∀ {perm : List Nat} {xs zs : List AV} {ys : List V}, RVs G ρ H xs ys → mapO (fun i => xs[i]?) perm = some zs → RVs G ρ H zs (perm.filterMap (ys[·]?))
  | [], xs, zs, ys, r, e => by cases e; exact RVs.nil
  | i :: perm, xs, zs, ys, r, e => by
    obtain ⟨d1, d2, e1, e2, rfl⟩ := mapO_cons e
    obtain ⟨y, g1, g2⟩ := r.get e1
    rw [List.filterMap_cons, g1]
    exact RVs.cons g2 (perm_rel r e2)
theorem perm_vals : ∀ {perm : List Nat} {ys : List V} {us : List Value}, Vals ys us → Vals (perm.filterMap (ys[·]?)) (perm.filterMap (us[·]?))
  | [], ys, us, r => .nil
  | i :: perm, ys, us, r => by
    rw [List.filterMap_cons, List.filterMap_cons]
    cases g : ys[i]? with
    | none =>
      have : us[i]? = none := by
        rw [List.getElem?_eq_none_iff] at g ⊢
        rw [← r.length]; exact g
      rw [this]
      exact perm_vals r
    | some y =>
      obtain ⟨u, g', ru⟩ := r.get g
      rw [g']
      exact .cons ru (perm_vals r)
theorem mapO_len {α β : Type} {f : α → Option β} : ∀ {l : List α} {r : List β}, mapO f l = some r → r.length = l.length
  | [], r, e => by cases e; rfl
  | a :: l, r, e => by
    obtain ⟨d1, d2, e1, e2, rfl⟩ := mapO_cons e
    simp [mapO_len e2]
/-- what is seen of the keywords -/
structure KwsOk (X : Cx) (kws : List Keyword) (ks : List Str) : Prop where
  all : ∀ pos, (backToKw pos (keywordEach kws X.env)).all (·.1.isSome) = true
  nms : ∀ pos, (backToKw pos (keywordEach kws X.env)).filterMap (·.1) = ks
theorem kws_none {kws : List Keyword} {ks : List Str} (h : KwsOk X kws ks) (pos : Pos) : (backToKw pos (keywordEach kws X.env)).any (·.1.isNone) = false := by
  have := h.all pos
  generalize (backToKw pos (keywordEach kws X.env)) = l at this
  induction l with
  | nil => rfl
  | cons a l ih =>
    rw [List.all_cons, Bool.and_eq_true] at this
    rw [List.any_cons, ih this.2, Bool.or_false]
    cases q : a.1 with
    | none => rw [q] at this; exact absurd this.1 (by simp)
    | some z => rfl
theorem argsK_K {es : List Expr} {kws : List Keyword} {ks : List Str} {f : Value} {first : List Value} {xs ws : List AV} {h1 : AH} {σ' : Loc} {Qf : Value → Shared → Prop} (hK : X.K = G.K) (hk : PySem.W.keepIn G.K f = true) (hn : noStar es = true) (h0 : es = [] → a' = .nil) (ha : PA X es (WA P cf G a'))
    (hkw : PK X kws (WA P cf G b')) (ok : KwsOk X kws ks)
    (I : Inv X pins σ H s) (R : RH G ρ h H) (S : RS G ρ H σ' σ) (e1 : evA P cf a' σ' h = .ok xs h1) (e2 : evA P cf b' σ' h1 = .ok ws h')
    (k : ∀ us zs s1 ρ1 H1 vs ys, Inv X pins σ H1 s1 → Vals vs us → Vals ys zs → Ext ρ H ρ1 H1 → RH G ρ1 h' H1 → RVs G ρ1 H1 xs vs → RVs G ρ1 H1 ws ys → wpAny (model X.prog X.w) X.A (call f (first ++ us) (ks.zip zs)) Qf X.xe s1) :
    wpAny (model X.prog X.w) X.A (callWith pos f first (backTo pos (starEach es X.env)) (backToKw pos (keywordEach kws X.env))) Qf X.xe s := by
  have hk' : PySem.W.keepIn X.K f = true := by rw [hK]; exact hk
  have kwrun : ∀ us s1 ρ1 H1 vs, Inv X pins σ H1 s1 → Vals vs us → Ext ρ H ρ1 H1 → RH G ρ1 h1 H1 → RS G ρ1 H1 σ' σ → RVs G ρ1 H1 xs vs → wpAny (model X.prog X.w) X.A (evalAll ((backToKw pos (keywordEach kws X.env)).map (·.2)))
      (fun zs s2 => X.K.In s2.heap ∧ wpAny (model X.prog X.w) X.A (call f (first ++ us) (((backToKw pos (keywordEach kws X.env)).filterMap (·.1)).zip zs)) Qf X.xe s2) X.xe s1 := by
    intro us s1 ρ1 H1 vs I1 rv x1 R1 S1 r1
    refine thn (hkw.run pos pins s1 σ H1 (fun ys H2 => ∃ ρ2, Ext ρ1 H1 ρ2 H2 ∧ RH G ρ2 h' H2 ∧ RVs G ρ2 H2 ws ys) I1 (WA.mk R1 S1 e2 fun ρ2 H2 w x2 R2 S2 r2 => ⟨ρ2, x2, R2, r2⟩)) fun zs s2 ⟨ys, H2, I2, ry, ρ2, x2, R2, r2⟩ => ⟨I2.kIn, ?_⟩
    rw [ok.nms]
    exact k us zs s2 ρ2 H2 vs ys I2 rv ry (x1.trans x2) R2 (RVs.mono x2 _ r1) r2
  cases es with
  | nil =>
    rw [h0 rfl, evA] at e1
    obtain ⟨rfl, rfl⟩ := pure_inv e1
    exact PySem.W.callWith_KW0 (h₀ := X.base) I.ok.mod.kin hk' (ok.all pos) (by simpa using kwrun [] s ρ H [] I .nil .refl R S RVs.nil) (by rw [kws_none ok]; rfl)
  | cons e es =>
    refine PySem.W.callWith_KW (h₀ := X.base) I.ok.mod.kin hk' (ok.all pos) (thn (ha.run pos pins s σ H (fun vs H1 => ∃ ρ1, Ext ρ H ρ1 H1 ∧ RH G ρ1 h1 H1 ∧ RS G ρ1 H1 σ' σ ∧ RVs G ρ1 H1 xs vs) I (WA.mk R S e1 fun ρ1 H1 w x1 R1 S1 r1 => ⟨ρ1, x1, R1, S1, r1⟩)) fun us s1 ⟨vs, H1, I1, rv, ρ1, x1, R1, S1, r1⟩ => ?_)
      (by rw [kws_none ok, backTo_any hn]; rfl) (starEach_cons hn _)
    exact kwrun us s1 ρ1 H1 vs I1 rv x1 R1 S1 r1
theorem we_callK {x : Str} {p : Pos} {es : List Expr} {kws : List Keyword} {q : KwE} (C : CtxF P cf kk G X) (hq : q ∈ G.kw) (hl : es.length = q.n) (hl' : kws.length = q.ks.length) (ok : KwsOk X kws q.ks) (hn : noStar es = true) (h0 : es = [] → a' = .nil) (hg : Gl X x) (hm : X.mg x = some (.ref (G.fa q.f))) (hdb : (x == ("__debug__" : Str)) = false)
    (la : ∀ σ h xs h', evA P cf a' σ h = .ok xs h' → xs.length = es.length) (lb : ∀ σ h xs h', evA P cf b' σ h = .ok xs h' → xs.length = kws.length) (ha : PA X es (WA P cf G a')) (hkw : PK X kws (WA P cf G b')) :
    PE X (.Call (.Name x p) es kws pos) (WE P cf G (.callK q.f q.perm a' b')) :=
  ⟨fun pins s σ H Q I ⟨ρ, h, σ', r, h', R, S, ev, D⟩ => by
    rw [evE] at ev
    obtain ⟨xs, h1, e1, e2⟩ := bind_inv ev
    obtain ⟨ws, h2, e3, e4⟩ := bind_inv e2
    obtain ⟨zs, h3, e5, e6⟩ := bind_inv e4
    obtain ⟨ez, rfl⟩ := ofO_inv e5
    obtain ⟨fn, hf, hfl⟩ := C.cfn _ _ _ _ _ e6
    refine wpAny_Call_Name_kw (ld_glob I hg hm ?_ hdb)
    refine argsK_K (first := []) C.hK (C.pfn.kp q.f fn hf) hn h0 ha hkw ok I R S e1 e3 fun us vz s1 ρ1 H1 vs ys I1 rv ry x1 R1 r1 r2 => ?_
    have n1 : us.length = q.n := by rw [← rv.length, ← r1.length, la _ _ _ _ e1, hl]
    have n2 : vz.length = q.ks.length := by rw [← ry.length, ← r2.length, lb _ _ _ _ e3, hl']
    have rx := perm_rel (RVs.append r1 r2) ez
    have rvs := perm_vals (perm := q.perm) (rv.append ry)
    have F := C.fok q.f fn hf
    refine wpAny_call (codeAny_mono (F.run X.A X.stack s1 H1 ⟨us, q.ks.zip vz⟩ _ _ Q (C.room.mono (Nat.le_succ _)) C.gd I1.env0 (.of_eq (C.pfn.kb q hq us vz n1 n2)) rvs ⟨ρ1, _, zs, r, h', R1, rx, e6, D.ext x1⟩) fun r' s' hq => ?_)
    cases r' with
    | error e => exact False.elim hq
    | ok fl =>
      cases fl with
      | ret u => exact I1.after hq
      | next => exact False.elim hq
      | brk => exact False.elim hq
      | cont => exact False.elim hq⟩
theorem we_newK {x : Str} {p : Pos} {es : List Expr} {kws : List Keyword} {q : KwE} {c : Nat} (C : CtxF P cf kk G X) (hq : q ∈ G.kw) (hl : es.length + 1 = q.n) (hl' : kws.length = q.ks.length) (ok : KwsOk X kws q.ks) (hn : noStar es = true) (h0 : es = [] → a' = .nil) (hg : Gl X x) (hm : X.mg x = some (.ref (G.gm c))) (hdb : (x == ("__debug__" : Str)) = false)
    (la : ∀ σ h xs h', evA P cf a' σ h = .ok xs h' → xs.length = es.length) (lb : ∀ σ h xs h', evA P cf b' σ h = .ok xs h' → xs.length = kws.length) (ha : PA X es (WA P cf G a')) (hkw : PK X kws (WA P cf G b')) :
    PE X (.Call (.Name x p) es kws pos) (WE P cf G (.newK c q.f q.perm a' b')) :=
  ⟨fun pins s σ H Q I ⟨ρ, h, σ', r, h', R, S, ev, D⟩ => by
    rw [evE] at ev
    obtain ⟨xs, h1, e1, e2⟩ := bind_inv ev
    obtain ⟨ws, h2, e3, e4⟩ := bind_inv e2
    obtain ⟨cl, h3, e5, e6⟩ := bind_inv e4
    obtain ⟨hcl, rfl⟩ := ofO_inv e5
    obtain ⟨_, h4, e7, e8⟩ := bind_inv e6
    obtain ⟨q1, rfl⟩ := guardM_inv e7
    have hf0 := of_decide_eq_true q1
    obtain ⟨p0, h5, e9, e10⟩ := bind_inv e8
    obtain ⟨rfl, rfl⟩ := newO_inv e9
    obtain ⟨zs, h6, e11, e12⟩ := bind_inv e10
    obtain ⟨ez, rfl⟩ := ofO_inv e11
    obtain ⟨z, h7, e13, e14⟩ := bind_inv e12
    have M := C.pcl.init c cl q.f hcl hf0
    obtain ⟨fn, hfn, hfl⟩ := C.cfn _ _ _ _ _ e13
    refine wpAny_Call_Name_kw (ld_glob I hg hm ?_ hdb)
    refine argsK_K (first := []) C.hK M.kp hn h0 ha hkw ok I R S e1 e3 fun us vz s1 ρ1 H1 vs ys I1 rv ry x1 R1 r1 r2 => ?_
    have I2 := Inv.made (C := G.gm c) I1
    have f1 : H1 s1.heap.objs.size = none := I1.hok.fresh (Nat.le_refl _)
    have f2 : H1 (s1.heap.objs.size + 1) = none := I1.hok.fresh (Nat.le_succ _)
    have ne : s1.heap.objs.size ≠ s1.heap.objs.size + 1 := Nat.ne_of_lt (Nat.lt_succ_self _)
    obtain ⟨x2, R2⟩ := R1.other (o := .own (s1.heap.objs.size + 1)) f1
    obtain ⟨x3, R3, r3⟩ := R2.push (p := s1.heap.objs.size + 1) (o := .ins c []) (ho := .ins (G.gm c) s1.heap.objs.size []) (by rw [upd_ne (Ne.symm ne)]; exact f2) ⟨_, [], rfl, rfl⟩
    have hq' : wpAny (model X.prog X.w) X.A (call (.ref (G.gm c)) us (q.ks.zip vz)) (EP X pins σ Q) X.xe s1 := by
      have F := C.fok q.f fn hfn
      have rv2 : Vals (V.ref (s1.heap.objs.size + 1) :: vs) (Value.ref (s1.heap.objs.size + 1) :: us) := .cons rfl rv
      have rx2 := RVs.cons r3 (RVs.mono (x2.trans x3) xs r1)
      have n1 : (Value.ref (s1.heap.objs.size + 1) :: us).length = q.n := by rw [List.length_cons, ← rv.length, ← r1.length, la _ _ _ _ e1, hl]
      have n2 : vz.length = q.ks.length := by rw [← ry.length, ← r2.length, lb _ _ _ _ e3, hl']
      have rx := perm_rel (RVs.append rx2 (RVs.mono (x2.trans x3) ws r2)) ez
      have rvs := perm_vals (perm := q.perm) (rv2.append ry)
      have hsp : spF cf G q.f (q.perm.filterMap ((V.ref (s1.heap.objs.size + 1) :: vs ++ ys)[·]?)) _ (fun v H2 => v = .non ∧ Q (.ref (s1.heap.objs.size + 1)) H2) := ⟨_, _, _, _, _, R3, rx, e13, fun ρ' H' w x4 R4 r4 => by
        split at e14
        · obtain ⟨rfl, rfl⟩ := pure_inv e14
          refine ⟨RV_non.mp r4, D _ _ _ (x1.trans (x2.trans (x3.trans x4))) R4 (RV.mono x4 _ r3)⟩
        · cases e14⟩
      refine wpAny_call (make_map (K := G.K) (f := G.fa q.f) (by rw [← C.hK]; exact I1.kIn) M.makes M.init (beq_iff_eq.mp M.fn) (codeAny_mono (F.run _ X.stack _ _ ⟨Value.ref (s1.heap.objs.size + 1) :: us, q.ks.zip vz⟩ _ _ _ (C.room.make (G.gm c) us (q.ks.zip vz)) ?_
        (I2.env0.make (G.gm c) us (q.ks.zip vz)) (.of_eq (C.pfn.kb q hq _ vz n1 n2)) rvs hsp) fun r' s' hq' => ?_))
      · rw [make_guards]; exact C.gd
      · cases r' with
        | error e => exact False.elim hq'
        | ok fl =>
          cases fl with
          | ret u =>
            obtain ⟨v, H', I3, rw', ew, q3⟩ := I2.after hq'
            subst ew
            exact ⟨rw', ⟨V.ref (s1.heap.objs.size + 1), H', I3, rfl, q3⟩⟩
          | next => exact False.elim hq'
          | brk => exact False.elim hq'
          | cont => exact False.elim hq'
    exact hq'⟩
end
end PM
end
section
set_option maxHeartbeats 1000000
/-! PMKn: x != y where x's class has an own __eq__ and object's __ne__. -/
namespace PM
open PySem PySem.Spec L2 PySem.W PyProof.Rows
section
variable {prog : Program} {w : World} {A : Around} {E : Value → Shared → Prop} {s : Shared} {K : Frag} {x C L f : Addr} {h₀ : Heap} {m : Str → Option Value} {ox : Obj} {od : Option Obj} {name : Str} {b tb : Value}
theorem csib {M : Model} {self : Value} {name : Str} {id : String} {args : List Value} {Q : Option Value → Shared → Prop} (sp : Looks M s.heap (specialOf self name) (some (.builtin id))) (hb : bindSpecial (.builtin id) self = pure (.builtin id, [self]))
    (hc : wpAny M A (call (.builtin id) (self :: args)) (fun v => Q (some v)) E s) : wpAny M A (callSpecialIfBound? self name args) Q E s := by
  simp only [callSpecialIfBound?, bindSpecialIfBound?]
  refine wpAny_holding (wpAny_bind (wpAny_bind (sp.here ?_)))
  simp only [hb]
  refine wpAny_bind (wpAny_askSetting (wpAny_ite ?_))
  have fin : wpAny M A (call (.builtin id) ([self] ++ args) >>= fun v => pure (some v)) Q E s := wpAny_bind (wpAny_mono hc (fun v s' h' => wpAny_pure h') fun _ _ h' => h')
  split
  · exact wpAny_bind (wpAny_pure (wpAny_pure fin))
  · exact wpAny_tryCatch (wpAny_bind (wpAny_pure (wpAny_pure fin)))
theorem one_ne {Q : Value → Shared → Prop} (hu1 : A.in1.units < cLine) (X : K.In s.heap) (I : InstAt s.heap x ox C od) (hne : findIn K (.ref C) "__ne__" = some (some (.builtin "object.__ne__")))
    (hm : mroIn K C (.type "object") = some true) (hs : findIn K (.ref C) "__eq__" = some (some (.ref f))) (hf : isFn K (.ref f) = true)
    (h : wpAny (model prog w) A.in1 (call (.ref f) [.ref x, b]) (fun v s' => ∃ k, v = .bool k ∧ Q (.bool (!k)) s') E s) :
    wpAny (model prog w) A (tryCompare (.ref x) "__ne__" b) (fun r s' => ∃ v, r = some v ∧ Q v s') E s := by
  have sp : Looks (model prog w) s.heap (specialOf (.ref x) "__ne__") (some (.builtin "object.__ne__")) := I.type.andThen (looks_findIn X hne)
  unfold tryCompare
  refine wpAny_bind (csib sp (PySem.F.cmp_object.ne.bind _) ?_)
  refine wpAny_call (codeAny_call_builtin PySem.F.cmp_object.ne.plain PySem.F.cmpEntry_ne (check_slot PySem.F.cmpKind_ne PySem.F.cmpSplit_ne (I.type.andThen (looks_mroIn X hm)) (PySem.F.cmpArgs_ne _ _) ?_))
  unfold Builtin.«object.__ne__»
  refine wpAny_bind (m := slotArgs "__ne__" 1 _) (wpAny_pure ?_)
  refine wpAny_bind (m := cRoomFor _ _) (wpAny_cRoomFor hu1 ?_)
  refine wpAny_bind (m := callSpecialIfBound? (.ref x) (Str.ofString "__eq__") _) (ifBound_K X I hs hf (wpAny_mono h (fun r s' hq => ?_) fun _ _ y => y))
  obtain ⟨k, rfl, hq⟩ := hq
  refine wpAny_bind (m := truthy (.bool _)) (wpAny_truthy_bool ?_)
  first
    | exact wpAny_pure (wpAny_pure ⟨_, rfl, hq⟩)
    | exact wpAny_pure ⟨_, rfl, hq⟩
    | skip
theorem ne_K {Q : Value → Shared → Prop} (hu : A.units < cLine) (hu1 : A.in1.units < cLine) (F : Fr h₀ L s.heap m) (X₀ : K.In h₀) (I : InstAt s.heap x ox C od) (hb : Looks (model prog w) s.heap (typeOf b) tb) (hn : notFirst K C tb = true)
    (hne : findIn K (.ref C) "__ne__" = some (some (.builtin "object.__ne__")))
    (hm : mroIn K C (.type "object") = some true) (hs : findIn K (.ref C) "__eq__" = some (some (.ref f))) (hf : isFn K (.ref f) = true)
    (h : wpAny (model prog w) A.in1 (call (.ref f) [.ref x, b]) (fun v s' => ∃ k, v = .bool k ∧ Q (.bool (!k)) s') E s) : wpAny (model prog w) A (richCompare .NotEq (.ref x) b) Q E s := by
  have X := X₀.keeps F.keep
  have one := one_ne (Q := Q) hu1 X I hne hm hs hf h
  unfold richCompare
  simp only [oneThing_ref]
  refine wpAny_holding (wpAny_bind (wpAny_cRoomFor hu ?_))
  refine wpAny_bind (I.type.here (wpAny_bind (hb.here ?_)))
  split
  · rename_i q
    have e : subIn K tb (.ref C) = some false := by
      rcases Bool.or_eq_true_iff.mp hn with e | e
      · rw [beq_iff_eq.mp e] at q; simp at q
      · exact beq_iff_eq.mp e
    refine wpAny_bind ((looks_subIn X e).here ?_)
    simp only [Bool.false_eq_true, if_false]
    refine wpAny_bind (wpAny_mono one (fun r s' z => ?_) fun _ _ e => e)
    obtain ⟨v, rfl, hq⟩ := z
    exact wpAny_pure hq
  · refine wpAny_bind (wpAny_pure ?_)
    simp only [Bool.false_eq_true, if_false]
    refine wpAny_bind (wpAny_mono one (fun r s' z => ?_) fun _ _ e => e)
    obtain ⟨v, rfl, hq⟩ := z
    exact wpAny_pure hq
end
end PM
end
section
set_option maxHeartbeats 1000000
/-! PMKl: len(x), x's class has an own __len__. -/
namespace PM
open PySem PySem.Spec L2 PySem.W PyProof.Rows
section
variable {prog : Program} {w : World} {A : Around} {E : Value → Shared → Prop} {s : Shared} {K : Frag} {x C f : Addr} {ox : Obj} {od : Option Obj}
theorem len_own {Q : Value → Shared → Prop} (X : K.In s.heap) (I : InstAt s.heap x ox C od) (hs : findIn K (.ref C) "__len__" = some (some (.ref f))) (hf : isFn K (.ref f) = true)
    (h : wpAny (model prog w) A.in1 (call (.ref f) [.ref x]) (fun v s' => ∃ n t, v = .int n t ∧ 0 ≤ n ∧ n < 2 ^ 63 ∧ ∀ t' tk, Q (.int n t') { s' with toks := tk }) E s) : wpAny (model prog w) A (call (.builtin "len") [.ref x]) Q E s := by
  refine Calls.call_function_entry kind_len plain_len entry_len (args_len1 _) ?_
  unfold Builtin.«len»
  refine wpAny_bind (m := oneArg "len" _) (wpAny_pure ?_)
  refine wpAny_bind (m := callSpecial? (.ref x) (PySem.Str.ofString "__len__")) (special_fn X I hs (beq_iff_eq.mp hf) (wpAny_mono h (fun v s' hq => ?_) fun _ _ z => z))
  obtain ⟨n, t, rfl, h0, h1, q⟩ := hq
  refine wpAny_bind (wpAny_holding (wpAny_pure ?_))
  refine wpAny_bind (wpAny_letGo ?_)
  show wpAny _ _ (if n < 0 then _ else _) _ _ _
  rw [if_neg (by omega)]
  show wpAny _ _ (if n ≥ 2 ^ 63 then _ else _) _ _ _
  rw [if_neg (by omega)]
  exact wpAny_bind (wpAny_mkInt (wpAny_pure ⟨_, rfl, q _ _⟩))
end
end PM
end
section
set_option maxHeartbeats 4000000
/-! PMSet: set(xs) of texts, and how many there are. -/
namespace PM
open PySem PySem.Spec L2 PySem.W PyProof.Rows
/-- the unlike ones of a row, in the order in which they are first met -/
def addS (l : List Str) (x : Str) : List Str := if l.any (· == x) then l else l ++ [x]
def metS (f : Nat → Str) : Nat → List Str
  | 0 => []
  | i + 1 => addS (metS f i) (f i)
theorem addS_any (l : List Str) (x k : Str) : (addS l x).any (· == k) = (l.any (· == k) || decide (k = x)) := by
  unfold addS
  by_cases h : l.any (· == x) = true
  · rw [if_pos h]
    by_cases e : k = x
    · subst e; rw [h]; rfl
    · rw [decide_eq_false e, Bool.or_false]
  · rw [if_neg h, List.any_append]
    by_cases e : k = x
    · subst e; simp
    · have hb : (x == k) = false := beq_eq_false_iff_ne.mpr fun z => e z.symm
      simp [hb, e]
theorem addS_len (l : List Str) (x : Str) : (addS l x).length = if l.any (· == x) then l.length else l.length + 1 := by
  unfold addS; split <;> simp
theorem metS_le (f : Nat → Str) : ∀ i, (metS f i).length ≤ i
  | 0 => Nat.le_refl _
  | i + 1 => by
    have h := metS_le f i
    show (addS (metS f i) (f i)).length ≤ i + 1
    rw [addS_len]
    split <;> omega
section
variable {prog : Program} {w : World} {A : Around} {R : Result → Shared → Prop} {I : Addr} {fp wr : List Addr} {G : Array GenState → Array GenState → Prop} {n : Nat} {Pv : Nat → Value → Prop} {St : Nat → Shared → Prop}
abbrev SetS (prog : Program) (w : World) (h : Heap) (S : Addr) (l : List Str) : Prop := h.SetOf (PySem.strKind prog w) S (fun k => l.any (· == k)) l.length
theorem SetS.keep {h h' : Heap} {S : Addr} {l : List Str} (a : SetS prog w h S l) (k : ∀ o, h.get? S = some o → h'.get? S = some o) : SetS prog w h' S l := by
  obtain ⟨o, es, ep, t, ho, rest⟩ := a
  exact ⟨o, es, ep, t, k o ho, rest⟩
/-- the loop that puts one text after the other into the set -/
theorem fill_loop (W : WalksS prog w A.in1 I fp wr G n Pv St) (S : Addr) (hSf : S ∉ fp) (f : Nat → Str) (hf : ∀ i v, Pv i v → ∃ t, v = .str (f i) t) (hb : n + 1 < scanBound) :
    ∀ (k i : Nat) (s : Shared), n - i = k → i ≤ n → St i s → SetS prog w s.heap S (metS f i) → (∀ s', Moved (S :: wr) G s s' → SetS prog w s'.heap S (metS f n) → R (.ok (.ret .none)) s') →
      codeAny (model prog w) A (.builtin "set.update.loop" ⟨[.ref S, .ref I], []⟩) R s
  | 0, i, s, hk, hi, hst, a, fin => by
    obtain rfl : i = n := by omega
    have hSw : S ∉ wr := fun z => hSf (W.sub _ z)
    refine codeAny_builtin PyProof.Rows.F.entry_set_update_loop ?_
    rw [Around.under_plainId PyProof.Rows.F.plain_set_update_loop _]
    show wpAny _ A.in1 (pyNext (.ref I) >>= _) _ _ s
    refine wpAny_bind (W.done s _ _ hst fun s' mv => ?_)
    show wpAny _ A.in1 (ret Value.none) _ _ s'
    exact wpAny_pure (fin s' (mv.mono fun b hb => List.mem_cons_of_mem _ hb) (a.keep fun o => mv.heap S o hSw))
  | k + 1, i, s, hk, hi, hst, a, fin => by
    have hlt : i < n := by omega
    have hSw : S ∉ wr := fun z => hSf (W.sub _ z)
    have up : ∀ b ∈ wr, b ∈ S :: wr := fun b hb => List.mem_cons_of_mem _ hb
    refine codeAny_builtin PyProof.Rows.F.entry_set_update_loop ?_
    rw [Around.under_plainId PyProof.Rows.F.plain_set_update_loop _]
    show wpAny _ A.in1 (pyNext (.ref I) >>= _) _ _ s
    refine wpAny_bind (W.item i s _ _ hlt hst fun v s1 hP hst1 mv => ?_)
    obtain ⟨t, rfl⟩ := hf i v hP
    have a1 : SetS prog w s1.heap S (metS f i) := a.keep fun o => mv.heap S o hSw
    show wpAny _ A.in1 (holding [Value.str (f i) t] (setAdd S (.str (f i) t)) >>= _) _ _ s1
    refine wpAny_bind (wpAny_holding ?_)
    unfold setAdd
    refine wpAny_holding (wpAny_bind ((PySem.strKind prog w).pyHash (k := f i) (strKind_is _ _ _ _) ?_))
    have room : (metS f i).length + 1 < scanBound := by have := metS_le f i; omega
    refine wpAny_setAddHashed_of (knd := PySem.strKind prog w) (s := { s1 with toks := s1.toks + 1 }) (strKind_is _ _ _ _) rfl a1 room fun h2 sb a2 => ?_
    have a3 : SetS prog w h2 S (metS f (i + 1)) := SetOf_congr a2 (fun k' => (addS_any _ _ _).symm) (addS_len _ _).symm
    refine wpAny_pure ⟨plainId_quiet PyProof.Rows.F.plain_set_update_loop _, fill_loop W S hSf f hf hb k (i + 1) _ (by omega) hlt (W.frame _ s1 _ _ hst1 (Nat.le_succ _) fun b hb o e => ?_) a3 fun s3 mv3 a4 => ?_⟩
    · rw [sb.2 b fun z : b = S => hSf (z ▸ hb)]
      exact e
    · refine fin s3 (Moved.trans W.gtrans ((mv.mono up).then_heap (Nat.le_succ _) fun b o hb e => ?_) mv3) a4
      rw [sb.2 b fun z : b = S => hb (z ▸ List.mem_cons_self)]
      exact e
end
section
variable {prog : Program} {w : World} {A : Around} {E : Value → Shared → Prop} {s : Shared}
def set0 (led : Bool) : Obj := { cls := .type "set", dict := none, data := .set #[] 0 (.fresh 0 0 led) }
/-- how the new set is filled: what is left to show of its __init__ -/
def InitS (prog : Program) (w : World) (s : Shared) (l : List Str) (E : Value → Shared → Prop) : Result → Shared → Prop :=
  wants (fun r s₂ => r = .none ∧ ∃ h' tk, s₂ = { s with heap := h', toks := tk } ∧ SetS prog w h' s.heap.objs.size l ∧ ∀ b o, b < s.heap.objs.size → s.heap.get? b = some o → h'.get? b = some o) E
/-- set(x) by its __init__ -/
theorem set_call {x : Addr} {l : List Str} {Q : Value → Shared → Prop}
    (init : ∀ led, codeAny (model prog w) A.in1 (.call (.builtin "set.__init__") ⟨[.ref s.heap.objs.size, .ref x], []⟩) (InitS prog w s l E) { s with heap := s.heap.push (set0 led) })
    (h : ∀ (h' : Heap) (tk : Nat), SetS prog w h' s.heap.objs.size l → (∀ b o, b < s.heap.objs.size → s.heap.get? b = some o → h'.get? b = some o) → Q (.ref s.heap.objs.size) { s with heap := h', toks := tk }) :
    wpAny (model prog w) A (call (.type "set") [.ref x]) Q E s := by
  obtain ⟨c, tl, hmro⟩ := PySem.F.called_set.mro
  have hmade := PySem.F.called_set.made
  have hsub := PySem.F.called_set.sub
  refine wpAny_call (codeAny_of_tree ?_)
  show wpAny _ _ (callAny (.type "set") _) _ _ _
  refine wpAny_pure ⟨Code.quiet_builtin _ (by decide +kernel), codeAny_builtin PySem.F.entry_type_call ?_⟩
  rw [Around.under_plain (weight_type_call_type "set" [.ref x] []) rfl]
  have h1 := PySem.F.called_set.notType
  have h2 := PySem.F.called_set.canCreate
  have hct := PySem.F.typeCall_set_1 (.ref x)
  repeat (any_goals (first | assumption | wp_step))
  refine codeAny_mono (code_set_new_1 (.ref x) (E := E) (Q₁ := fun obj s₁ => ∃ led : Bool, obj = .ref s.heap.objs.size ∧ s₁ = { s with heap := s.heap.push (set0 led) }) fun led => ⟨led, rfl, rfl⟩) fun r s₁ hr => ?_
  cases r with
  | error e => exact hr
  | ok fl =>
    cases fl with
    | next => exact hr.elim
    | brk => exact hr.elim
    | cont => exact hr.elim
    | ret obj =>
      obtain ⟨led, rfl, rfl⟩ := hr
      have hT : Shared.TypeIs { s with heap := s.heap.push (set0 led) } (.ref s.heap.objs.size) "set" := ⟨_, Heap.get?_push_size _ rfl, rfl⟩
      have hli := PySem.F.called_set.init.lookup
      have hbi := PySem.F.called_set.init.bind (.ref s.heap.objs.size)
      have hin := init led
      repeat (any_goals (first | assumption | wp_step))
      refine codeAny_mono hin fun r₂ s₂ hr₂ => ?_
      cases r₂ with
      | error e => exact hr₂
      | ok fl₂ =>
        cases fl₂ with
        | next => exact hr₂.elim
        | brk => exact hr₂.elim
        | cont => exact hr₂.elim
        | ret r =>
          obtain ⟨rfl, h', tk, rfl, a, k⟩ := hr₂
          repeat (any_goals (first | assumption | wp_step))
          exact h _ _ a k
/-- behind the loop -/
theorem init_end {x : Addr} {led : Bool} {l : List Str} {it : Obj} {wr : List Addr} (s' : Shared) (hw : ∀ b ∈ wr, b = s.heap.objs.size ∨ b = s.heap.objs.size + 1 )
    (mv : Moved wr (fun g g' => g' = g) { s with heap := (s.heap.push (set0 led)).push it } s') (a : SetS prog w s'.heap s.heap.objs.size l) :
    ∃ h' tk, s' = { s with heap := h', toks := tk } ∧ SetS prog w h' s.heap.objs.size l ∧ ∀ b o, b < s.heap.objs.size → s.heap.get? b = some o → h'.get? b = some o := by
  obtain ⟨h', g', d', tk', os'⟩ := s'
  have eg : g' = s.gens := mv.gens
  have ed : d' = s.drawn := mv.drawn
  have eo : os' = s.os := mv.os
  subst eg; subst ed; subst eo
  refine ⟨h', tk', rfl, a, fun b o hb e => mv.heap b o (fun z => ?_) (Heap.get?_push_of_some _ (Heap.get?_push_of_some _ e))⟩
  rcases hw b z with z | z
  · exact Nat.lt_irrefl _ (z ▸ hb)
  · exact Nat.lt_irrefl _ (Nat.lt_trans (Nat.lt_succ_self _) (z ▸ hb))
theorem set_init_lst {x : Addr} {items : Array Value} {xs : List Str} (hh : A.handled = none) (hl : s.heap.IsList x items) (hi : StrsAre items.toList xs) (hb : items.size + 1 < scanBound) (led : Bool) :
    codeAny (model prog w) A.in1 (.call (.builtin "set.__init__") ⟨[.ref s.heap.objs.size, .ref x], []⟩) (InitS prog w s (metS (fun i => xs.getD i Str.empty) items.size) E) { s with heap := s.heap.push (set0 led) } := by
  have hT : Shared.TypeIs { s with heap := s.heap.push (set0 led) } (.ref s.heap.objs.size) "set" := ⟨_, Heap.get?_push_size _ rfl, rfl⟩
  refine codeAny_call_builtin PySem.F.called_set.init.plain PySem.F.entry_set_init (check_set_init_1 hT ?_)
  have hx : x < s.heap.objs.size := let ⟨_, e, _⟩ := hl; Heap.lt_size e
  have hl1 : (s.heap.push (set0 led)).IsList x items := hl.push _
  obtain ⟨ol, hol, hcl, nl, hdl⟩ := id hl1
  obtain ⟨ocls, odict, odata, oslots⟩ := ol
  simp only at hcl hdl
  subst hcl; subst hdl
  have hsls := PySem.F.sub_list_set
  have hslf := PySem.F.sub_list_frozenset
  have hne : (Value.type "list" == Value.type "dict") = false := by decide
  unfold Builtin.«set.__init__» noKeywords Builtin.Frozenset.updateFrom
  generalize hPI : pyIter = PI
  wp_walk
  subst hPI
  refine wpAny_pyIter_list hl1 ?_
  refine wpAny_bind (wpAny_runValue ?_)
  have hh3 : A.in1.in1.in1.handled = none := by simp [hh]
  have sz : (s.heap.push (set0 led)).objs.size = s.heap.objs.size + 1 := Heap.size_push _ _
  have n1 : x ≠ (s.heap.push (set0 led)).objs.size := by rw [sz]; exact Nat.ne_of_lt (Nat.lt_succ_of_lt hx)
  have n2 : s.heap.objs.size ∉ [(s.heap.push (set0 led)).objs.size, x] := by
    rw [sz]; simp only [List.mem_cons, List.not_mem_nil, or_false, not_or]
    exact ⟨Nat.ne_of_lt (Nat.lt_succ_self _), Nat.ne_of_gt hx⟩
  have hv : ∀ (i : Nat) (v : Value), items[i]? = some v → ∃ t, v = .str (xs.getD i Str.empty) t := fun i v e => SS.strs_at hi i v (by rw [Array.getElem?_toList]; exact e)
  refine fill_loop ((Walks.list hh3 _ x n1 items).toS) s.heap.objs.size n2 (fun i => xs.getD i Str.empty) hv hb (items.size - 0) 0 _ (by omega) (Nat.zero_le _) ⟨⟨_, Heap.get?_push_size _ rfl, rfl, rfl⟩, (hl1.push _)⟩ ?hS0 ?hR
  case hS0 => exact SetOf_congr ((setObjOf_fresh (knd := PySem.strKind prog w) led).setOf (Heap.get?_push_of_some _ (Heap.get?_push_size _ rfl)) (by unfold scanBound; omega)) (fun _ => rfl) rfl
  case hR =>
    intro s' mv a
    have fin := init_end (x := x) (led := led) s' (wr := _) (fun b z => by simpa [sz] using z) mv a
    show wpAny _ _ _ _ _ _
    refine wpAny_pure ?_
    show wpAny _ _ (ret Value.none) _ _ _
    exact wpAny_pure ⟨rfl, fin⟩
theorem set_init_tup {x : Addr} {items : Array Value} {xs : List Str} (hh : A.handled = none) (hl : s.heap.IsTuple x items) (hi : StrsAre items.toList xs) (hb : items.size + 1 < scanBound) (led : Bool) :
    codeAny (model prog w) A.in1 (.call (.builtin "set.__init__") ⟨[.ref s.heap.objs.size, .ref x], []⟩) (InitS prog w s (metS (fun i => xs.getD i Str.empty) items.size) E) { s with heap := s.heap.push (set0 led) } := by
  have hT : Shared.TypeIs { s with heap := s.heap.push (set0 led) } (.ref s.heap.objs.size) "set" := ⟨_, Heap.get?_push_size _ rfl, rfl⟩
  refine codeAny_call_builtin PySem.F.called_set.init.plain PySem.F.entry_set_init (check_set_init_1 hT ?_)
  have hx : x < s.heap.objs.size := let ⟨_, e, _⟩ := hl; Heap.lt_size e
  have hl1 : (s.heap.push (set0 led)).IsTuple x items := hl.push _
  obtain ⟨ol, hol, hcl, nl, hdl⟩ := id hl1
  obtain ⟨ocls, odict, odata, oslots⟩ := ol
  simp only at hcl hdl
  subst hcl; subst hdl
  have hsls := PySem.F.sub_tuple_set
  have hslf := PySem.F.sub_tuple_frozenset
  have hne : (Value.type "tuple" == Value.type "dict") = false := by decide
  unfold Builtin.«set.__init__» noKeywords Builtin.Frozenset.updateFrom
  generalize hPI : pyIter = PI
  wp_walk
  subst hPI
  refine wpAny_pyIter_tuple hl1 ?_
  refine wpAny_bind (wpAny_runValue ?_)
  have hh3 : A.in1.in1.in1.handled = none := by simp [hh]
  have sz : (s.heap.push (set0 led)).objs.size = s.heap.objs.size + 1 := Heap.size_push _ _
  have n1 : x ≠ (s.heap.push (set0 led)).objs.size := by rw [sz]; exact Nat.ne_of_lt (Nat.lt_succ_of_lt hx)
  have n2 : s.heap.objs.size ∉ [(s.heap.push (set0 led)).objs.size, x] := by
    rw [sz]; simp only [List.mem_cons, List.not_mem_nil, or_false, not_or]
    exact ⟨Nat.ne_of_lt (Nat.lt_succ_self _), Nat.ne_of_gt hx⟩
  have hv : ∀ (i : Nat) (v : Value), items[i]? = some v → ∃ t, v = .str (xs.getD i Str.empty) t := fun i v e => SS.strs_at hi i v (by rw [Array.getElem?_toList]; exact e)
  refine fill_loop ((Walks.tuple hh3 _ x n1 items).toS) s.heap.objs.size n2 (fun i => xs.getD i Str.empty) hv hb (items.size - 0) 0 _ (by omega) (Nat.zero_le _) ⟨⟨_, Heap.get?_push_size _ rfl, rfl, rfl⟩, (hl1.push _)⟩ ?hS0 ?hR
  case hS0 => exact SetOf_congr ((setObjOf_fresh (knd := PySem.strKind prog w) led).setOf (Heap.get?_push_of_some _ (Heap.get?_push_size _ rfl)) (by unfold scanBound; omega)) (fun _ => rfl) rfl
  case hR =>
    intro s' mv a
    have fin := init_end (x := x) (led := led) s' (wr := _) (fun b z => by simpa [sz] using z) mv a
    show wpAny _ _ _ _ _ _
    refine wpAny_pure ?_
    show wpAny _ _ (ret Value.none) _ _ _
    exact wpAny_pure ⟨rfl, fin⟩
end
theorem addL_map (l : List (List Nat)) (x : List Nat) : addS (l.map cStr) (cStr x) = (addL l x).map cStr := by
  have e : (l.map cStr).any (· == cStr x) = l.any (· == x) := by
    rw [List.any_map]
    refine congrArg (fun p => l.any p) (funext fun y => ?_)
    show (cStr y == cStr x) = (y == x)
    by_cases h : y = x
    · subst h; simp
    · rw [beq_eq_false_iff_ne.mpr h, beq_eq_false_iff_ne.mpr fun z => h (by simpa [cStr] using congrArg (fun u : Str => u.cps.toList) z)]
  unfold addS addL
  rw [e]
  split <;> simp
theorem fold_map : ∀ (xs l : List (List Nat)), (xs.map cStr).foldl addS (l.map cStr) = (xs.foldl addL l).map cStr
  | [], l => rfl
  | x :: xs, l => by
    rw [List.map_cons, List.foldl_cons, List.foldl_cons, addL_map, fold_map xs]
theorem metS_take (xs : List Str) : ∀ i, i ≤ xs.length → metS (fun i => xs.getD i Str.empty) i = (xs.take i).foldl addS []
  | 0, _ => by simp [metS]
  | i + 1, h => by
    show addS (metS _ i) _ = _
    rw [metS_take xs i (by omega), List.take_succ, List.foldl_append]
    have hi : i < xs.length := by omega
    simp [List.getElem?_eq_getElem hi, List.getD_eq_getElem?_getD]
end PM
end
section
set_option maxHeartbeats 1000000
/-! PML: fields, methods, built-in functions. -/
namespace PM
open PySem PySem.Spec L2
section
variable {X : Cx} {P : Pg} {cf : CF} {kk : Nat} {G : Gw} {ρ ρ' : List Addr} {H H' : Hp} {h h' : AH} {Q : VK} {a b c e : Expr} {a' b' c' : E} {pos apos : Pos} {pins : List (Addr × Obj)} {σ : St} {s : Shared}
theorem getpropG {nm : Str} {b : Bool} {cl : Cl} {c g : Nat} {n : Nat} {q dx : Addr} {l : List (Str × V)} {x r : AV} (C : CtxF P cf kk G X) (I : Inv X pins σ H s) (hq : H q = some (.ins (G.gm c) dx l)) (hc : P.cl c = some cl) (hp : cl.props.lookup n = some g) (hn : G.nms[n]? = some nm)
    (R : RH G ρ h H) (rx : RV G ρ H x (.ref q)) (e : cf g [x] h = .ok r h') (D : Done G ρ H r h' Q) : wpAny (model X.prog X.w) X.A (getAttr (.ref q) nm b) (EP X pins σ Q) X.xe s := by
  have hK := C.hK
  have cc := C.pf.cls c cl hc
  rw [← hK] at cc
  obtain ⟨p, pp⟩ := C.pcl.prop c cl n g nm hc hp hn
  obtain ⟨mA, O, _, _, _, _⟩ := ins_get I.hok hq
  obtain ⟨od, J, _⟩ := O.look
  obtain ⟨rest, hrec⟩ := pp.rec_
  have I1 := I.tok (s.toks + 1)
  obtain ⟨fn, hf, hl⟩ := C.cfn _ _ _ _ _ e
  have F := C.fok g fn hf
  have hlen : ([Value.ref q] : List Value).length = (G.ps g).length := by rw [C.pfn.np g fn hf]; simpa using hl
  have hcls : (PySem.W.clsIn G.K (G.gm c)).isSome = true := by
    obtain ⟨cd, hc, _⟩ := PySem.W.any_some (C.pf.cls c cl hc).hd
    rw [hc]
    rfl
  have KX : G.K.In s.heap := by rw [← hK]; exact I.kIn
  have KX1 : G.K.In ({ s with toks := s.toks + 1 } : Shared).heap := KX
  refine PySem.W.get_bind KX J (PySem.W.plainGet_of ((C.pf.cls c cl hc).get nm)).1 (PySem.W.findObj_data hcls pp.at_ pp.get pp.tak) (PySem.W.plainGet_of ((C.pf.cls c cl hc).get nm)).2 (wpAny_call (PySem.W.prop_get (s := { s with toks := s.toks + 1 }) KX hrec ?_))
  refine codeAny_mono (F.run X.A.in1 X.stack { s with toks := s.toks + 1 } H ⟨[.ref q], []⟩ [.ref q] [.ref q] Q C.room.in1 C.gd I1.env0.in1 (.of_eq (C.pfn.bind g fn hf _ hlen)) (.cons rfl .nil) ⟨ρ, h, [x], r, h', R, RVs.cons rx RVs.nil, e, D⟩) fun r s' hq' => ?_
  cases r with
  | error er => exact False.elim hq'
  | ok fl =>
    cases fl with
    | ret u =>
      obtain ⟨v, H', I3, rv, q3⟩ := I1.after hq'
      show wpAny _ _ (handedOut u) _ _ _
      rw [PySem.W.handedOut_of (handed_of rv)]
      exact wpAny_pure ⟨v, H', I3, rv, q3⟩
    | next => exact False.elim hq'
    | brk => exact False.elim hq'
    | cont => exact False.elim hq'
theorem we_attr {nm : Str} {f : Nat} (C : CtxF P cf kk G X) (hb : attributeBase e nm X.env (eval e X.env) = eval e X.env) (hn : G.nms[f]? = some nm) (ha : PE X e (WE P cf G a')) : PE X (.Attribute e nm pos) (WE P cf G (.attr a' f)) :=
  ⟨fun pins s σ H Q I ⟨ρ, h, σ', r, h', R, S, ev, D⟩ => by
    rw [evE] at ev
    obtain ⟨x, h1, e1, e2⟩ := bind_inv ev
    refine attr_of hb (thn (ha.run pins s σ H (fun v H1 => ∃ ρ1, Ext ρ H ρ1 H1 ∧ RH G ρ1 h1 H1 ∧ RV G ρ1 H1 x v) I (WE.mk R S e1 fun ρ1 H1 w x1 R1 S1 r1 => ⟨ρ1, x1, R1, r1⟩)) fun u s1 ⟨v, H1, I1, rv, ρ1, x1, R1, r1⟩ => ?_)
    unfold getAt at e2
    split at e2
    · rename_i p
      obtain ⟨o, h2, e3, e4⟩ := bind_inv e2
      obtain ⟨g, rfl⟩ := insO_inv e3
      obtain ⟨cl, h3, e5, e6⟩ := bind_inv e4
      obtain ⟨hcl, rfl⟩ := ofO_inv e5
      obtain ⟨q, dx, l, rfl, eq, hq, rf⟩ := R1.ins r1 g
      obtain rfl : u = Value.ref q := rv
      cases hp : cl.props.lookup f with
      | some gg =>
        rw [hp] at e6
        exact getpropG C I1 hq hcl hp hn R1 r1 e6 (D.ext x1)
      | none =>
        rw [hp] at e6
        obtain ⟨_, h4, e7, e8⟩ := bind_inv e6
        obtain ⟨q1, rfl⟩ := guardM_inv e7
        obtain ⟨lk, rfl⟩ := ofO_inv e8
        obtain ⟨nm', hn', na⟩ := C.pf.fld _ cl f hcl q1
        rw [hn] at hn'
        cases hn'
        have := rf.lookup C.pf.nd hn
        rw [lk] at this
        cases hl : l.lookup nm with
        | none => rw [hl] at this; exact this.elim
        | some v =>
          rw [hl] at this
          refine getattr_ok I1 hq (by rw [C.hK]; exact C.pf.cls _ cl hcl) (by rw [C.hK]; exact na) hl fun u' s2 I2 ru => ⟨v, H1, I2, ru, (D.ext x1).here R1 this⟩
    · cases e2⟩
/-! ### methods -/
theorem all_not {es : List Expr} (hn : noStar es = true) (env : Env) (pos : Pos) : (backTo pos (starEach es env)).all (!·.1) = true := by
  rw [List.all_eq_not_any_not]
  simp only [Bool.not_not]
  rw [backTo_any hn env pos]
  rfl
theorem meth_tree {o : Expr} {m : Str} {args : List Expr} {env : Env} (hb : attributeBase o m env (eval o env) = eval o env) (hn : noStar args = true) (hl : (apos.endLine == pos.line) = true) (h30 : args.length < 30) :
    eval (.Call (.Attribute o m apos) args [] pos) env = (do
      let ov ← eval o env
      standAt apos.atName
      let (f, first) ← holding [ov] (getMethod ov m (do return (← importBound o env).getD true))
      callWith pos f first (backTo pos (starEach args env)) (backToKw pos (keywordEach [] env))) := by
  have hform : methodCallForm (args.length + ([] : List Keyword).length) (backTo pos (starEach args env)) (backToKw pos (keywordEach [] env)) = true := by
    show ((backTo pos (starEach args env)).all (!·.1) && true && decide (args.length + 0 + 0 < 30)) = true
    rw [all_not hn]
    simpa using h30
  have hpos : methodCallPos true o env apos pos = pure pos := by unfold methodCallPos; simp [hl]
  rw [arm_eval_Call, hb]
  unfold methodCall
  rw [hform, hpos]
  simp only [pure_bind]
  rfl
theorem bMeth_lt {m : Nat} {t : RT} {x r : AV} {vs : List AV} (e : bMeth m t x vs h = .ok r h') : m < 100 := by
  unfold bMeth at e
  split at e <;> first | (cases e; done) | decide
theorem RFs.none {nm : Str} : ∀ {fs : List (Nat × AV)} {l : List (Str × V)}, RFs G ρ H fs l → (∀ p ∈ fs, G.nms[p.1]? ≠ some nm) → l.lookup nm = none
  | [], _, r, _ => by rw [show (_ : List (Str × V)) = [] from r]; rfl
  | (f, x) :: fs, _, r, k => by
    obtain ⟨s, v, l', rfl, ef, _, t⟩ := r
    have ih := RFs.none t fun p hp => k p (List.mem_cons_of_mem _ hp)
    have : (nm == s) = false := beq_eq_false_iff_ne.mpr fun z => k (f, x) List.mem_cons_self (by rw [z]; exact ef)
    rw [List.lookup_cons, this]
    exact ih
theorem we_meth {o : Expr} {m : Nat} {nm : Str} {es : List Expr} (C : CtxF P cf kk G X) (hb : attributeBase o nm X.env (eval o X.env) = eval o X.env) (hn : noStar es = true) (hl : (apos.endLine == pos.line) = true) (h30 : es.length < 30) (h0 : es = [] → b' = .nil)
    (hm : mNm G.nms m = some nm) (ho : PE X o (WE P cf G a')) (ha : PA X es (WA P cf G b')) : PE X (.Call (.Attribute o nm apos) es [] pos) (WE P cf G (.meth a' m b')) :=
  ⟨fun pins s σ H Q I ⟨ρ, h, σ', r, h', R, S, ev, D⟩ => by
    rw [evE] at ev
    obtain ⟨x, h1, e1, e2⟩ := bind_inv ev
    obtain ⟨hh, h2, e3, e4⟩ := bind_inv e2
    obtain ⟨rfl, rfl⟩ := heapM_inv e3
    refine PySem.W.methodCall_KW (kws := []) (thn (ho.run pins s σ H (fun v H1 => ∃ ρ1, Ext ρ H ρ1 H1 ∧ RH G ρ1 h2 H1 ∧ RS G ρ1 H1 σ' σ ∧ RV G ρ1 H1 x v) I (WE.mk R S e1 fun ρ1 H1 w x1 R1 S1 r1 => ⟨ρ1, x1, R1, S1, r1⟩)) fun u s1 ⟨v, H1, I1, rv, ρ1, x1, R1, S1, r1⟩ => ?_) (meth_tree hb hn hl h30)
    cases hq : ownM P m x h2 with
    | some f =>
      rw [hq] at e4
      obtain ⟨vs, h3, e5, e6⟩ := bind_inv e4
      unfold ownM at hq
      split at hq
      · rename_i p
        split at hq
        · rename_i c fs g
          split at hq
          · rename_i cl hcl
            split at hq
            · rename_i hfs
              obtain ⟨me, nof⟩ := C.pcl.meth c cl m f nm hcl hq hm
              obtain ⟨q, dx, l, rfl, eq, hq', rf⟩ := R1.ins r1 g
              obtain rfl : u = Value.ref q := rv
              have hlk : l.lookup nm = none := rf.none fun p hp => nof p.1 (List.all_eq_true.mp hfs p hp)
              refine getmeth_ok I1 hq' (by rw [C.hK]; exact C.pf.cls c cl hcl) (by rw [C.hK]; exact me) hlk ?_
              refine args_K (first := [.ref q]) C.hK me.kp hn h0 ha I1 R1 S1 e5 fun us s2 ρ2 H2 ws I2 rv2 x2 R2 r2 => ?_
              exact runG (us := .ref q :: us) (vs := .ref q :: ws) C I2 (.cons rfl rv2) R2 (RVs.cons (RV.mono x2 _ r1) r2) e6 (D.ext (x1.trans x2))
            · cases hq
          · cases hq
        · cases hq
      · cases hq
    | none =>
      rw [hq] at e4
      obtain ⟨t, h3, e5, e6⟩ := bind_inv e4
      obtain ⟨et, rfl⟩ := ofO_inv e5
      obtain ⟨vs, h4, e7, e8⟩ := bind_inv e6
      have hmn : mName m = some nm := by
        have : m < 100 := bMeth_lt e8
        unfold mNm at hm
        rw [if_pos this] at hm
        exact hm
      have ty := recv_ok (X := X) C.hK R1 r1 et
      obtain ⟨t1, t2⟩ := tyV_is I1 rv ty
      obtain ⟨id, hid⟩ := bMeth_id e8
      obtain ⟨slot, hty⟩ := slot_of hmn hid
      have go2 : ∀ us s2 ρ2 H2 ws, Inv X pins σ H2 s2 → Vals ws us → Ext ρ1 H1 ρ2 H2 → RH G ρ2 h4 H2 → RVs G ρ2 H2 vs ws → wpAny (model X.prog X.w) X.A (call (.builtin id) (u :: us)) (EP X pins σ Q) X.xe s2 := by
        intro us s2 ρ2 H2 ws I2 rv2 x2 R2 r2
        obtain ⟨rr, g3, g4⟩ := bMeth_ok (X := X) C.toCtx R2 (RV.mono x2 _ r1) r2 hid e8 (D.ext (x1.trans x2))
        exact g3 pins s2 σ H2 v ws u us Q I2 rv rv2 g4
      refine getMethod_builtin t1 (rt_attrs t) slot hty t2 ?_
      cases es with
      | nil =>
        rw [h0 rfl, evA] at e7
        obtain ⟨rfl, rfl⟩ := pure_inv e7
        exact Calls.callWith_builtin rfl (PySem.evalArgs_none (go2 [] s1 ρ1 H1 [] I1 .nil .refl R1 RVs.nil))
      | cons e es =>
        have hA := ha.run pos pins s1 σ H1 (fun ws H2 => ∃ ρ2, Ext ρ1 H1 ρ2 H2 ∧ RH G ρ2 h4 H2 ∧ RVs G ρ2 H2 vs ws) I1 (WA.mk R1 S1 e7 fun ρ2 H2 w x2 R2 S2 r2 => ⟨ρ2, x2, R2, r2⟩)
        rw [starEach_cons hn] at hA ⊢
        refine Calls.callWith_builtin (by show (false || (backTo pos (starEach es X.env)).any (·.1)) = false; rw [backTo_any (noStar_tl hn)]; rfl) (Calls.evalArgs_plain ?_)
        exact thn hA fun us s2 ⟨ws, H2, I2, rv2, ρ2, x2, R2, r2⟩ => go2 us s2 ρ2 H2 ws I2 rv2 x2 R2 r2⟩
end
end PM
end
section
set_option maxHeartbeats 1000000
/-! PMM: built-in functions, comparisons, items, slices, displays. -/
namespace PM
open PySem PySem.Spec L2
section
variable {X : Cx} {P : Pg} {cf : CF} {kk : Nat} {G : Gw} {ρ ρ' : List Addr} {H H' : Hp} {h h' : AH} {Q : VK} {a b c e : Expr} {a' b' c' d' : E} {pos apos : Pos} {pins : List (Addr × Obj)} {σ : St} {s : Shared}
/-! ### argument lists -/
theorem wa_nil : PA X [] (WA P cf G .nil) := PA.imp pa_nil fun σ H Q ⟨ρ, h, σ', vs, h', R, S, ev, D⟩ => by
  rw [evA] at ev
  obtain ⟨rfl, rfl⟩ := pure_inv ev
  exact D _ _ _ .refl R RVs.nil
theorem wa_cons {es : List Expr} (hs : starEach (e :: es) X.env = (false, eval e X.env) :: starEach es X.env) (ha : PE X e (WE P cf G a')) (hb : PA X es (WA P cf G b')) : PA X (e :: es) (WA P cf G (.cons a' b')) :=
  PA.imp (pa_cons ha hb hs) fun σ H Q ⟨ρ, h, σ', vs, h', R, S, ev, D⟩ => by
    rw [evA] at ev
    obtain ⟨x, h1, e1, e2⟩ := bind_inv ev
    obtain ⟨xs, h2, e3, e4⟩ := bind_inv e2
    obtain ⟨rfl, rfl⟩ := pure_inv e4
    refine WE.mk R S e1 fun ρ1 H1 v x1 R1 S1 r1 => WA.mk R1 S1 e3 fun ρ2 H2 w x2 R2 S2 r2 => ?_
    exact D _ _ _ (x1.trans x2) R2 (RVs.cons (RV.mono x2 _ r1) r2)
/-! ### built-in functions -/
/-- the written name of a built-in function -/
theorem boot_any : bootBuiltins "any" = some (.builtin "any") := by decide +kernel
def bltName : B → Option Str
  | .len => some "len" | .abs => some "abs" | .max => some "max" | .min => some "min" | .sum => some "sum"
  | .all => some "all" | .any => some "any" | .sorted => some "sorted" | .repr => some "repr" | .isinstance => some "isinstance"
  | .int => some "int" | .str => some "str" | .list => some "list" | .tuple => some "tuple" | .ftuple => some "tuple" | .dict => some "dict" | .dictof => some "dict" | .bool => some "bool"
  | _ => none
def isTyB : B → Bool
  | .int | .str | .list | .tuple | .dict | .bool | .ftuple => true
  | _ => false
theorem bltName_boot {b : B} {x : Str} (h : bltName b = some x) : ∃ f, bltV b = some f ∧ bootBuiltins x = some f ∧ x ≠ "__name__" ∧ (x == ("__debug__" : Str)) = false ∧ ((∃ id, f = .builtin id) ∨ ∃ T, f = .type T) := by
  cases b <;> cases h
  all_goals first | exact ⟨_, rfl, by decide +kernel, by decide, by decide, .inl ⟨_, rfl⟩⟩ | exact ⟨_, rfl, by decide +kernel, by decide, by decide, .inr ⟨_, rfl⟩⟩
/-! ### comparisons -/
theorem known_ok {b : AV} {v : V} (C : Ctx P G X) (pc : PCl P G) {c : Nat} {cl : Cl} (hc : P.cl c = some cl) (R : RH G ρ h H) (rb : RV G ρ H b v) (e : tyKnown P h b = true) : ∃ t, TyX X.K H v t ∧ PySem.W.notFirst G.K (G.gm c) t = true := by
  unfold tyKnown at e
  rw [Bool.or_eq_true] at e
  rcases e with e | e
  · obtain ⟨t, et⟩ := Option.isSome_iff_exists.mp e
    exact ⟨_, tyA_ok R rb et, pc.nft c cl hc t (tyA_mem et)⟩
  · split at e
    · split at e
      · rename_i p c' fs g
        obtain ⟨cl', hc'⟩ := Option.isSome_iff_exists.mp e
        obtain ⟨q, dx, l, rfl, _, hq, _⟩ := R.ins rb g
        exact ⟨_, C.pi.tyx C.pf C.hK hc' hq, pc.nfo c cl c' cl' hc hc'⟩
      · cases e
    · cases e
theorem ownOf_inv {sel : Cl → Option Nat} {x : AV} {f : Nat} (e : ownOf P sel x h = some f) : ∃ p c fs cl, x = .ref p ∧ h.get p = some (.ins c fs) ∧ P.cl c = some cl ∧ sel cl = some f := by
  unfold ownOf at e
  split at e
  · split at e
    · rename_i c fs g
      obtain ⟨cl, h1, h2⟩ := Option.bind_eq_some_iff.mp e
      exact ⟨_, c, fs, cl, rfl, g, h1, h2⟩
    · cases e
  · cases e
/-- len(x), x an own instance -/
def rOwnLen (P : Pg) (cf : CF) (G : Gw) : List V → Hp → VK → Prop := fun us H Q => ∃ x ρ h h' a f n, us = [x] ∧ RH G ρ h H ∧ RV G ρ H a x ∧ ownOf P (·.len) a h = some f ∧ cf f [a] h = .ok (.int n) h' ∧ 0 ≤ n ∧ n < 2 ^ 63 ∧ Done G ρ H (.int n) h' Q
theorem in1_guards {A : Around} : A.in1.guards = A.guards := by
  first | rfl | simp [Around.in1]
theorem call_ownLen (C : CtxF P cf kk G X) : CallR X (.builtin "len") (rOwnLen P cf G) := by
  intro pins s σ H xs us Q I rv hq
  obtain ⟨x, ρ, h, h', a, f, n, rfl, R, ra, ho, e, h0, h1, D⟩ := hq
  obtain ⟨u, rfl, ru⟩ := vals1 rv
  obtain ⟨p, c, fs, cl, rfl, g, hc, he⟩ := ownOf_inv ho
  obtain ⟨q, dx, l, rfl, _, hq, _⟩ := R.ins ra g
  cases ru
  obtain ⟨mA, J, _⟩ := ins_get I.hok hq
  obtain ⟨od, J, _⟩ := J.look
  obtain ⟨fn, hfn, hl⟩ := C.cfn _ _ _ _ _ e
  have hr1 : Room kk X.A.in1 := C.room.in1
  refine len_own (K := X.K) I.kIn J (by rw [C.hK]; exact C.pcl.len c cl f hc he) (by rw [C.hK]; exact C.pfn.fn f fn hfn) ?_
  have F := C.fok f fn hfn
  have rv : Vals [V.ref q] [Value.ref q] := .cons (show RelV (V.ref q) (Value.ref q) from rfl) .nil
  have hlen : ([Value.ref q] : List Value).length = (G.ps f).length := by rw [C.pfn.np f fn hfn, ← hl]; rfl
  refine wpAny_call (codeAny_mono (F.run X.A.in1 X.stack s H ⟨[Value.ref q], []⟩ [Value.ref q] _ (fun w H' => w = .int n ∧ Q (.int n) H') hr1 (by rw [in1_guards]; exact C.gd) I.env0.in1 (.of_eq (C.pfn.bind f fn hfn _ hlen)) rv
    ⟨ρ, h, _, .int n, h', R, RVs.cons ra RVs.nil, e, fun ρ' H' w x' R' r' => ⟨RV_int.mp r', D ρ' H' _ x' R' (by simp)⟩⟩) fun r' s' hq' => ?_)
  cases r' with
  | error e => exact False.elim hq'
  | ok fl =>
    cases fl with
    | ret u =>
      obtain ⟨w, H', I3, rw', ew, q3⟩ := I.after hq'
      subst ew
      obtain ⟨t, rfl⟩ := rw'
      exact ⟨n, t, rfl, h0, h1, fun t' tk => ⟨.int n, H', I3.kept (t' := tk) (h' := s'.heap) (fun b o e => e), ⟨t', rfl⟩, q3⟩⟩
    | next => exact False.elim hq'
    | brk => exact False.elim hq'
    | cont => exact False.elim hq'
theorem bltB_ok {us : List V} {vs : List AV} {f : Value} {b : B} {r : AV} (C : CtxF P cf kk G X) (R : RH G ρ h H) (rv : RVs G ρ H vs us) (hb : bltV b = some f) (e : bltB P cf b vs h = .ok r h') (D : Done G ρ H r h' Q) : ∃ rr, CallR X f rr ∧ rr us H Q := by
  unfold bltB at e
  cases ho : lenOwn P b vs h with
  | some q =>
    obtain ⟨g, x⟩ := q
    rw [ho] at e
    unfold lenOwn at ho
    split at ho
    · obtain ⟨g', hg, e0⟩ := Option.map_eq_some_iff.mp ho
      cases e0
      cases hb
      obtain ⟨u, rfl, ru⟩ := rvs1 rv
      obtain ⟨z, h1, e1, e2⟩ := bind_inv (show (do
        match ← cf g [x] with
        | .int n => do
          guardM (decide (0 ≤ n ∧ n < 2 ^ 63))
          pure (AV.int n)
        | _ => bad : M AV) h = .ok r h' from e)
      split at e2
      · rename_i n
        obtain ⟨_, h2, e3, e4⟩ := bind_inv e2
        obtain ⟨q1, rfl⟩ := guardM_inv e3
        obtain ⟨rfl, rfl⟩ := pure_inv e4
        have q2 := of_decide_eq_true q1
        exact ⟨_, call_ownLen C, u, ρ, h, _, x, g, n, rfl, R, ru, hg, e1, q2.1, q2.2, D⟩
      · cases e2
    · cases ho
  | none =>
    rw [ho] at e
    by_cases hdo : b = .dictof
    · subst hdo
      cases hb
      cases vs with
      | nil => cases e
      | cons x r0 =>
        cases r0 with
        | cons y r1 => cases x <;> cases e
        | nil =>
          cases x <;> first | (cases e; done) | skip
          rename_i d
          obtain ⟨kvs, h1, e1, e2⟩ := bind_inv (show (do let kvs ← ofO (P.gq d); newO (.dic kvs) : M AV) h = .ok r h' from e)
          obtain ⟨g, rfl⟩ := ofO_inv e1
          obtain ⟨rfl, rfl⟩ := newO_inv e2
          obtain ⟨u, rfl, ru⟩ := rvs1 rv
          exact ⟨_, call_dictK C.hK (C.gq d kvs g), by rw [RV_gdc.mp ru], fun l hl => newDone (o := .dic kvs) R (.inl ⟨l, rfl, hl _ _⟩) D⟩
    · have e' : bltA P b vs h = .ok r h' := by
        cases b <;> first | exact e | (cases hb; done) | exact absurd rfl hdo
      exact bltA_ok C.toCtx R rv hb e' D
theorem we_blt {x : Str} {p : Pos} {es : List Expr} {b : B} (C : CtxF P cf kk G X) (hx : bltName b = some x) (hg : Gl X x) (hm : X.mg x = none) (hn : noStar (e :: es) = true) (ha : PA X (e :: es) (WA P cf G a')) : PE X (.Call (.Name x p) (e :: es) [] pos) (WE P cf G (.blt b a')) := by
  obtain ⟨f, hb, hv, n1, n2, hf⟩ := bltName_boot hx
  have entail : ∀ σ H Q, WE P cf G (.blt b a') σ H Q → tCB (fun us H Q => ∃ r, CallR X f r ∧ r us H Q) (WA P cf G a') σ H Q := by
    rintro σ H Q ⟨ρ, h, σ', r, h', R, S, ev, D⟩
    rw [evE] at ev
    obtain ⟨xs, h1, e1, e2⟩ := bind_inv ev
    refine WA.mk R S e1 fun ρ1 H1 w x1 R1 S1 r1 => ?_
    exact bltB_ok C R1 r1 hb e2 (D.ext x1)
  rcases hf with ⟨id, rfl⟩ | ⟨T, rfl⟩
  · exact PE.imp (pe_callB CallR.any hg hm hv ha n1 n2 (starEach_cons hn _) (backTo_any (noStar_tl hn) _ _)) entail
  · exact PE.imp (pe_callTy CallR.any hg hm hv ha n1 n2 (starEach_cons hn _) (backTo_any (noStar_tl hn) _ _)) entail

def rOwnEq (P : Pg) (cf : CF) (G : Gw) : R2 := fun x y H Q => ∃ ρ h h' a b f r, RH G ρ h H ∧ RV G ρ H a x ∧ RV G ρ H b y ∧ ownOf P (·.eq) a h = some f ∧ tyKnown P h b = true ∧ cf f [a, b] h = .ok (.bl r) h' ∧ Done G ρ H (.bl r) h' Q
theorem op_ownEq (C : CtxF P cf kk G X) : OpR X (compareOp .Eq) (rOwnEq P cf G) := by
  intro pins s σ H x y u v Q I rx ry hq
  obtain ⟨ρ, h, h', a, b, f, r, R, ra, rb, ho, hk, e, D⟩ := hq
  obtain ⟨p, c, fs, cl, rfl, g, hc, he⟩ := ownOf_inv ho
  obtain ⟨q, dx, l, rfl, _, hq, _⟩ := R.ins ra g
  cases rx
  obtain ⟨t, ty, nf⟩ := known_ok C.toCtx C.pcl hc R rb hk
  obtain ⟨PP, Z, pz, _⟩ := kit_of I ry ty
  obtain ⟨mA, J, _⟩ := ins_get I.hok hq
  obtain ⟨od, J, _⟩ := J.look
  obtain ⟨m, hF⟩ := I.fr
  obtain ⟨fn, hfn, _⟩ := C.cfn _ _ _ _ _ e
  have hu := C.un
  show wpAny (model X.prog X.w) X.A (richCompare .Eq (.ref q) v) (EP X pins σ Q) X.xe s
  refine PySem.W.cmp_K (op := .Eq) (K := X.K) (by omega) hF I.ok.mod.kin J (Z.ty _ _ I.kIn pz) (by rw [C.hK]; exact nf) (by rw [C.hK]; exact C.pcl.eq c cl f hc he) (by rw [C.hK]; exact C.pfn.fn f fn hfn) ?_
  refine thn (runG (Q := fun w H' => ∃ k, w = .bl k ∧ Q w H') C I (.cons (show RelV (V.ref q) (Value.ref q) from rfl) (.cons ry .nil)) R (RVs.cons ra (RVs.cons rb RVs.nil)) e fun ρ' H' w x' R' r' => ⟨_, RV_bl.mp r', D ρ' H' w x' R' r'⟩) fun w s' ⟨wv, H', I', rw', k, ek, q⟩ => ?_
  subst ek
  cases rw'
  exact ⟨.bl k, H', I', rfl, q⟩
def rOwnNe (P : Pg) (cf : CF) (G : Gw) : R2 := fun x y H Q => ∃ ρ h h' a b f r, RH G ρ h H ∧ RV G ρ H a x ∧ RV G ρ H b y ∧ ownOf P (·.eq) a h = some f ∧ tyKnown P h b = true ∧ cf f [a, b] h = .ok (.bl r) h' ∧ Done G ρ H (.bl (!r)) h' Q
theorem op_ownNe (C : CtxF P cf kk G X) : OpR X (compareOp .NotEq) (rOwnNe P cf G) := by
  intro pins s σ H x y u v Q I rx ry hq
  obtain ⟨ρ, h, h', a, b, f, r, R, ra, rb, ho, hk, e, D⟩ := hq
  obtain ⟨p, c, fs, cl, rfl, g, hc, he⟩ := ownOf_inv ho
  obtain ⟨q, dx, l, rfl, _, hq, _⟩ := R.ins ra g
  cases rx
  obtain ⟨t, ty, nf⟩ := known_ok C.toCtx C.pcl hc R rb hk
  obtain ⟨PP, Z, pz, _⟩ := kit_of I ry ty
  obtain ⟨mA, J, _⟩ := ins_get I.hok hq
  obtain ⟨od, J, _⟩ := J.look
  obtain ⟨m, hF⟩ := I.fr
  obtain ⟨fn, hfn, hl⟩ := C.cfn _ _ _ _ _ e
  have hu := C.un
  have hr1 : Room kk X.A.in1 := C.room.in1
  show wpAny (model X.prog X.w) X.A (richCompare .NotEq (.ref q) v) (EP X pins σ Q) X.xe s
  refine ne_K (K := X.K) (by omega) hr1.units0 hF I.ok.mod.kin J (Z.ty _ _ I.kIn pz) (by rw [C.hK]; exact nf) (by rw [C.hK]; exact C.pcl.ne c cl f hc he) (by rw [C.hK]; exact C.pi.hm c cl hc) (by rw [C.hK]; exact C.pcl.eq c cl f hc he) (by rw [C.hK]; exact C.pfn.fn f fn hfn) ?_
  have F := C.fok f fn hfn
  have rv : Vals [V.ref q, y] [Value.ref q, v] := .cons (show RelV (V.ref q) (Value.ref q) from rfl) (.cons ry .nil)
  have hlen : ([Value.ref q, v] : List Value).length = (G.ps f).length := by rw [C.pfn.np f fn hfn, ← hl]; rfl
  refine wpAny_call (codeAny_mono (F.run X.A.in1 X.stack s H ⟨[Value.ref q, v], []⟩ [Value.ref q, v] _ (fun w H' => ∃ k, w = .bl k ∧ Q (.bl (!k)) H') hr1 (by rw [in1_guards]; exact C.gd) I.env0.in1 (.of_eq (C.pfn.bind f fn hfn _ hlen)) rv
    ⟨ρ, h, _, .bl r, h', R, RVs.cons ra (RVs.cons rb RVs.nil), e, fun ρ' H' w x' R' r' => ⟨r, RV_bl.mp r', D ρ' H' _ x' R' (by simp)⟩⟩) fun r' s' hq' => ?_)
  cases r' with
  | error e => exact False.elim hq'
  | ok fl =>
    cases fl with
    | ret u =>
      obtain ⟨w, H', I3, rw', k, ew, q3⟩ := I.after hq'
      subst ew
      cases rw'
      exact ⟨k, rfl, .bl (!k), H', I3, rfl, q3⟩
    | next => exact False.elim hq'
    | brk => exact False.elim hq'
    | cont => exact False.elim hq'
theorem inG_ok {a b : AV} {v w : V} {k : Bool} (C : Ctx P G X) (R : RH G ρ h H) (ra : RV G ρ H a v) (rb : RV G ρ H b w) (e : inG P a b h = .ok k h') (D : Done G ρ H (.bl k) h' Q) : ∃ r2 : R2, OpR X (compareOp .In) r2 ∧ r2 v w H Q := by
  have hu := C.un
  unfold inG at e
  split at e
  · obtain ⟨kvs, h1, e1, e2⟩ := bind_inv e
    obtain ⟨e3, rfl⟩ := ofO_inv e1
    obtain ⟨_, h2, e4, e5⟩ := bind_inv e2
    obtain ⟨e6, rfl⟩ := guardM_inv e4
    obtain ⟨rfl, rfl⟩ := pure_inv e5
    exact ⟨_, op_inGd, G, ρ, _, _, a, kvs, C.hK, C.ngd _ _ e3, R, RV_gdc.mp rb, ra, e6, D⟩
  · exact inM_ok C.hK (by omega) R ra rb e D
theorem notInG_ok {a b : AV} {v w : V} {k : Bool} (C : Ctx P G X) (R : RH G ρ h H) (ra : RV G ρ H a v) (rb : RV G ρ H b w) (e : inG P a b h = .ok k h') (D : Done G ρ H (.bl (!k)) h' Q) : ∃ r2 : R2, OpR X (compareOp .NotIn) r2 ∧ r2 v w H Q := by
  have hu := C.un
  unfold inG at e
  split at e
  · obtain ⟨kvs, h1, e1, e2⟩ := bind_inv e
    obtain ⟨e3, rfl⟩ := ofO_inv e1
    obtain ⟨_, h2, e4, e5⟩ := bind_inv e2
    obtain ⟨e6, rfl⟩ := guardM_inv e4
    obtain ⟨rfl, rfl⟩ := pure_inv e5
    exact ⟨_, op_notInGd, G, ρ, _, _, a, kvs, C.hK, C.ngd _ _ e3, R, RV_gdc.mp rb, ra, e6, D⟩
  · exact notInM_ok C.hK (by omega) R ra rb e D
theorem non_ok {a b : AV} {v w : V} (ra : RV G ρ H a v) (rb : RV G ρ H b w) (e : isNonB b = true) : w = .non ∧ decide (v = .non) = isNonB a := by
  cases b <;> first | (cases e; done) | skip
  refine ⟨RV_non.mp rb, ?_⟩
  cases a with
  | non => rw [RV_non.mp ra]; rfl
  | bl k => rw [RV_bl.mp ra]; rfl
  | int k => rw [RV_int.mp ra]; rfl
  | str k => rw [RV_str.mp ra]; rfl
  | tup k => obtain ⟨p, ys, rfl, _⟩ := RV_tup.mp ra; rfl
  | ref k => obtain ⟨p, _, rfl⟩ := RV_ref.mp ra; rfl
  | ktp k => obtain ⟨p, ys, rfl, _⟩ := RV_ktp.mp ra; rfl
  | glo k => rw [RV_glo.mp ra]; rfl
  | gdc k => rw [RV_gdc.mp ra]; rfl
  | ty k => rw [RV_ty.mp ra]; rfl
theorem eqM_inv {a b : AV} {k : Bool} (e : eqM a b h = .ok k h') : eqA h a b = some k ∧ h' = h := by
  unfold eqM at e
  split at e
  · cases e; exact ⟨by assumption, rfl⟩
  · cases e
theorem cmpA_ok {op : CmpOp} {a b : AV} {v w : V} {k : Bool} (C : CtxF P cf kk G X) (R : RH G ρ h H) (ra : RV G ρ H a v) (rb : RV G ρ H b w) (e : cmpA P cf op a b h = .ok k h') (D : Done G ρ H (.bl k) h' Q) : ∃ r2 : R2, OpR X (compareOp op) r2 ∧ r2 v w H Q := by
  have hu := C.un
  cases op with
  | Eq =>
    unfold cmpA at e
    obtain ⟨hh, h1, e1, e2⟩ := bind_inv e
    obtain ⟨rfl, rfl⟩ := heapM_inv e1
    cases ho : ownOf P (·.eq) a h1 with
    | some f =>
      rw [ho] at e2
      obtain ⟨_, h2, e3, e4⟩ := bind_inv e2
      obtain ⟨q1, rfl⟩ := guardM_inv e3
      obtain ⟨z, h3, e5, e6⟩ := bind_inv e4
      split at e6
      · obtain ⟨rfl, rfl⟩ := pure_inv e6
        exact ⟨_, op_ownEq C, ρ, h2, h', a, b, f, _, R, ra, rb, ho, q1, e5, D⟩
      · cases e6
    | none =>
      rw [ho] at e2
      obtain ⟨e3, rfl⟩ := eqM_inv e2
      exact eqA_op C.hK (by omega) R ra rb e3 (D.here R (by simp))
  | NotEq =>
    unfold cmpA at e
    obtain ⟨hh, h1, e1, e2⟩ := bind_inv e
    obtain ⟨rfl, rfl⟩ := heapM_inv e1
    cases ho : ownOf P (·.eq) a h1 with
    | some f =>
      rw [ho] at e2
      obtain ⟨_, h2, e3, e4⟩ := bind_inv e2
      obtain ⟨q1, rfl⟩ := guardM_inv e3
      obtain ⟨z, h3, e5, e6⟩ := bind_inv e4
      split at e6
      · obtain ⟨rfl, rfl⟩ := pure_inv e6
        exact ⟨_, op_ownNe C, ρ, h2, h', a, b, f, _, R, ra, rb, ho, q1, e5, D⟩
      · cases e6
    | none =>
      rw [ho] at e2
      obtain ⟨z, h2, e3, e4⟩ := bind_inv e2
      obtain ⟨e5, rfl⟩ := eqM_inv e3
      obtain ⟨rfl, rfl⟩ := pure_inv e4
      exact eqA_opN C.hK (by omega) R ra rb e5 (D.here R (by simp))
  | Lt =>
    unfold cmpA at e
    cases a <;> first | (cases e; done) | skip
    cases b <;> first | (cases e; done) | skip
    obtain ⟨rfl, rfl⟩ := pure_inv e
    exact ⟨_, op_lt, _, _, RV_int.mp ra, RV_int.mp rb, D.here R (by simp)⟩
  | LtE =>
    unfold cmpA at e
    cases a <;> first | (cases e; done) | skip
    cases b <;> first | (cases e; done) | skip
    obtain ⟨rfl, rfl⟩ := pure_inv e
    exact ⟨_, op_le, _, _, RV_int.mp ra, RV_int.mp rb, D.here R (by simp)⟩
  | Gt =>
    unfold cmpA at e
    cases a <;> first | (cases e; done) | skip
    cases b <;> first | (cases e; done) | skip
    obtain ⟨rfl, rfl⟩ := pure_inv e
    exact ⟨_, op_gt, _, _, RV_int.mp ra, RV_int.mp rb, D.here R (by simp)⟩
  | GtE =>
    unfold cmpA at e
    cases a <;> first | (cases e; done) | skip
    cases b <;> first | (cases e; done) | skip
    obtain ⟨rfl, rfl⟩ := pure_inv e
    exact ⟨_, op_ge, _, _, RV_int.mp ra, RV_int.mp rb, D.here R (by simp)⟩
  | Is =>
    unfold cmpA at e
    obtain ⟨_, h1, e1, e2⟩ := bind_inv e
    obtain ⟨q1, rfl⟩ := guardM_inv e1
    obtain ⟨rfl, rfl⟩ := pure_inv e2
    obtain ⟨eb, ea⟩ := non_ok ra rb q1
    exact ⟨_, op_isN, eb, by rw [ea]; exact D.here R (by simp)⟩
  | IsNot =>
    unfold cmpA at e
    obtain ⟨_, h1, e1, e2⟩ := bind_inv e
    obtain ⟨q1, rfl⟩ := guardM_inv e1
    obtain ⟨rfl, rfl⟩ := pure_inv e2
    obtain ⟨eb, ea⟩ := non_ok ra rb q1
    exact ⟨_, op_notN, eb, by rw [ea]; exact D.here R (by simp)⟩
  | In => exact inG_ok C.toCtx R ra rb e D
  | NotIn =>
    unfold cmpA at e
    obtain ⟨z, h1, e1, e2⟩ := bind_inv e
    obtain ⟨rfl, rfl⟩ := pure_inv e2
    exact notInG_ok C.toCtx R ra rb e1 D
theorem we_cmp {op : CmpOp} (C : CtxF P cf kk G X) (hm : behindInMarks op b = false) (ha : PE X a (WE P cf G a')) (hb : PE X b (WE P cf G b')) : PE X (.Compare a [op] [b] pos) (WE P cf G (.cmp op a' b')) :=
  PE.imp (pe_cmpR OpR.any ha hb hm) fun σ H Q ⟨ρ, h, σ', r, h', R, S, e, D⟩ => by
    rw [evE] at e
    obtain ⟨x, h1, e1, e2⟩ := bind_inv e
    obtain ⟨y, h2, e3, e4⟩ := bind_inv e2
    obtain ⟨k, h3, e5, e6⟩ := bind_inv e4
    obtain ⟨rfl, rfl⟩ := pure_inv e6
    refine WE.mk R S e1 fun ρ1 H1 v x1 R1 S1 r1 => WE.mk R1 S1 e3 fun ρ2 H2 w x2 R2 S2 r2 => ?_
    exact cmpA_ok C R2 (RV.mono x2 _ r1) r2 e5 (D.ext (x1.trans x2))
theorem wt_cmp {op : CmpOp} (C : CtxF P cf kk G X) (hm : behindInMarks op b = false) (ha : PE X a (WE P cf G a')) (hb : PE X b (WE P cf G b')) : PT X (.Compare a [op] [b] pos) (WT P cf G (.cmp op a' b')) :=
  PT.imp (pt_cmpR OpR.any ha hb hm) fun σ H Q ⟨ρ, h, σ', r, h', R, S, e, D⟩ => by
    rw [evT] at e
    obtain ⟨x, h1, e1, e2⟩ := bind_inv e
    obtain ⟨y, h2, e3, e4⟩ := bind_inv e2
    refine WE.mk R S e1 fun ρ1 H1 v x1 R1 S1 r1 => WE.mk R1 S1 e3 fun ρ2 H2 w x2 R2 S2 r2 => ?_
    exact cmpA_ok C R2 (RV.mono x2 _ r1) r2 e4 fun ρ3 H3 z x3 R3 r3 => ⟨r, RV_bl.mp r3, D _ _ (x1.trans (x2.trans x3)) R3⟩
theorem chain_go {op op' : CmpOp} {σ : St} {σ' : Loc} {x y : AV} {v w : V} {k r : Bool} {h1 : AH} (C : CtxF P cf kk G X) (R : RH G ρ h H) (S : RS G ρ H σ' σ) (ra : RV G ρ H x v) (rb : RV G ρ H y w) (e : cmpA P cf op x y h = .ok k h1)
    (e' : (if k = true then do let z ← evE P cf c' σ'; cmpA P cf op' y z else pure false) h1 = .ok r h') (D : Done G ρ H (.bl r) h' Q) :
    ∃ r2 : R2, OpR X (compareOp op) r2 ∧ r2 v w H fun z H3 => ∃ k, z = .bl k ∧ (if k = true then WE P cf G c' σ H3 fun w' H4 => ∃ r3 : R2, OpR X (compareOp op') r3 ∧ r3 w w' H4 Q else Q (.bl false) H3) := by
  refine cmpA_ok C R ra rb e fun ρ3 H3 z x3 R3 r3 => ⟨k, RV_bl.mp r3, ?_⟩
  cases k with
  | false =>
    obtain ⟨rfl, rfl⟩ := pure_inv e'
    exact D _ _ _ x3 R3 (by simp)
  | true =>
    obtain ⟨z, h2, e1, e2⟩ := bind_inv e'
    show WE P cf G c' σ H3 _
    refine WE.mk R3 (S.mono x3) e1 fun ρ4 H4 w' x4 R4 S4 r4 => ?_
    exact cmpA_ok C R4 (RV.mono (x3.trans x4) _ rb) r4 e2 (D.ext (x3.trans x4))
theorem we_chain {op op' : CmpOp} (C : CtxF P cf kk G X) (hm : lastMarks [op, op'] [b, c] = false) (ha : PE X a (WE P cf G a')) (hb : PE X b (WE P cf G b')) (hc : PE X c (WE P cf G c')) : PE X (.Compare a [op, op'] [b, c] pos) (WE P cf G (.chain op op' a' b' c')) :=
  PE.imp (pe_chain OpR.any OpR.any ha hb hc hm) fun σ H Q ⟨ρ, h, σ', r, h', R, S, e, D⟩ => by
    rw [evE] at e
    obtain ⟨x, h1, e1, e2⟩ := bind_inv e
    obtain ⟨y, h2, e3, e4⟩ := bind_inv e2
    obtain ⟨k, h3, e5, e6⟩ := bind_inv e4
    refine WE.mk R S e1 fun ρ1 H1 v x1 R1 S1 r1 => WE.mk R1 S1 e3 fun ρ2 H2 w x2 R2 S2 r2 => ?_
    have e7 : ∃ q, r = .bl q ∧ (if k = true then do let z ← evE P cf c' σ'; cmpA P cf op' y z else pure false) h3 = .ok q h' := by
      cases k with
      | false =>
        obtain ⟨rfl, rfl⟩ := pure_inv e6
        exact ⟨false, rfl, rfl⟩
      | true =>
        obtain ⟨z, h4, g1, g2⟩ := bind_inv e6
        obtain ⟨q, h5, g3, g4⟩ := bind_inv g2
        obtain ⟨rfl, rfl⟩ := pure_inv g4
        exact ⟨q, rfl, (bind_ok g1).trans g3⟩
    obtain ⟨q, rfl, e8⟩ := e7
    exact chain_go C R2 S2 (RV.mono x2 _ r1) r2 e5 e8 (D.ext (x1.trans x2))
theorem wt_chain {op op' : CmpOp} (C : CtxF P cf kk G X) (hm : lastMarks [op, op'] [b, c] = false) (ha : PE X a (WE P cf G a')) (hb : PE X b (WE P cf G b')) (hc : PE X c (WE P cf G c')) : PT X (.Compare a [op, op'] [b, c] pos) (WT P cf G (.chain op op' a' b' c')) :=
  PT.imp (pt_chain OpR.any OpR.any ha hb hc hm) fun σ H Q ⟨ρ, h, σ', r, h', R, S, e, D⟩ => by
    rw [evT] at e
    obtain ⟨x, h1, e1, e2⟩ := bind_inv e
    obtain ⟨y, h2, e3, e4⟩ := bind_inv e2
    obtain ⟨k, h3, e5, e6⟩ := bind_inv e4
    refine WE.mk R S e1 fun ρ1 H1 v x1 R1 S1 r1 => WE.mk R1 S1 e3 fun ρ2 H2 w x2 R2 S2 r2 => ?_
    exact chain_go C R2 S2 (RV.mono x2 _ r1) r2 e5 e6 fun ρ3 H3 z x3 R3 r3 => ⟨r, RV_bl.mp r3, D _ _ (x1.trans (x2.trans x3)) R3⟩

/-! ### items, slices, displays -/
theorem we_ix (C : Ctx P G X) (hs : PlainIx b) (ha : PE X a (WE P cf G a')) (hb : PE X b (WE P cf G b')) : PE X (.Subscript a b pos) (WE P cf G (.ix a' b')) := by
  have any : IxR X (fun x y H Q => ∃ r, IxR X r ∧ r x y H Q) := fun value slice pins s σ H x y v u Q I rx ry ⟨r, hr, q⟩ hs => hr value slice pins s σ H x y v u Q I rx ry q hs
  refine PE.imp (pe_ix any ha hb hs) fun σ H Q ⟨ρ, h, σ', r, h', R, S, e, D⟩ => ?_
  have hu := C.un
  rw [evE] at e
  obtain ⟨x, h1, e1, e2⟩ := bind_inv e
  obtain ⟨y, h2, e3, e4⟩ := bind_inv e2
  refine WE.mk R S e1 fun ρ1 H1 v x1 R1 S1 r1 => WE.mk R1 S1 e3 fun ρ2 H2 w x2 R2 S2 r2 => ?_
  by_cases z : ∃ d, x = .gdc d
  · obtain ⟨d, rfl⟩ := z
    obtain ⟨kvs, h3, e5, e6⟩ := bind_inv (show (do let kvs ← ofO (P.gd d); guardM (keyF y); ofO (look kvs y) : M AV) h2 = .ok r h' from e4)
    obtain ⟨e7, rfl⟩ := ofO_inv e5
    obtain ⟨_, h4, e8, e9⟩ := bind_inv e6
    obtain ⟨e10, rfl⟩ := guardM_inv e8
    obtain ⟨e11, rfl⟩ := ofO_inv e9
    exact ⟨_, ix_gd, G, ρ2, _, d, y, kvs, r, C.hK, C.ngd _ _ e7, R2, RV_gdc.mp (RV.mono x2 _ r1), r2, e10, e11, D.ext (x1.trans x2)⟩
  · exact ixA_ok C.hK (by omega) R2 (RV.mono x2 _ r1) r2 (fun d e => z ⟨d, e⟩) e4 (D.ext (x1.trans x2))
theorem we_tup {es : List Expr} {x1 : Nat} (ha : PA X es (WA P cf G a')) : PE X (.Tuple es x1 pos) (WE P cf G (.tup a')) :=
  PE.imp (pe_tup ha) fun σ H Q ⟨ρ, h, σ', r, h', R, S, e, D⟩ => by
    rw [evE] at e
    obtain ⟨xs, h1, e1, e2⟩ := bind_inv e
    obtain ⟨_, h2, e3, e4⟩ := bind_inv e2
    obtain ⟨q1, rfl⟩ := guardM_inv e3
    obtain ⟨rfl, rfl⟩ := pure_inv e4
    refine WA.mk R S e1 fun ρ1 H1 v x1 R1 S1 r1 => ⟨by rw [← r1.length]; exact sizeLineB_le q1, tupDone R1 r1 (D.ext x1)⟩
theorem we_lst {es : List Expr} (ha : PA X es (WA P cf G a')) : PE X (.List es pos) (WE P cf G (.lst a')) :=
  PE.imp (pe_lst ha) fun σ H Q ⟨ρ, h, σ', r, h', R, S, e, D⟩ => by
    rw [evE] at e
    obtain ⟨xs, h1, e1, e2⟩ := bind_inv e
    obtain ⟨_, h2, e3, e4⟩ := bind_inv e2
    obtain ⟨q1, rfl⟩ := guardM_inv e3
    obtain ⟨rfl, rfl⟩ := newO_inv e4
    refine WA.mk R S e1 fun ρ1 H1 v x1 R1 S1 r1 => ⟨by rw [← r1.length]; exact sizeLineB_le q1, newDone (o := .lst xs) R1 ⟨_, rfl, r1⟩ (D.ext x1)⟩
/-- a slice's bound -/
def plainP : E → Bool
  | .k (.int _) | .v _ | .neg _ | .bin _ _ _ | .call _ _ | .blt _ _ | .ix _ _ | .attr _ _ => true
  | _ => false
theorem evP_plain {e : E} {σ : Loc} (p : plainP e = true) : evP P cf e σ h = (evE P cf e σ >>= optI) h := by
  cases e with
  | k x =>
    cases x <;> first | (cases p; done) | skip
    rw [evP, evE]; rfl
  | v i => rw [evP, evE]
  | neg a =>
    rw [evP, evE, bind_assocM]
    refine bind_congrM _ (fun x h1 => ?_) h
    cases x <;> rfl
  | bin op a b =>
    rw [evP, evE, bind_assocM]
    refine bind_congrM _ (fun x h1 => ?_) h
    rw [bind_assocM]
  | call f a => rw [evP, evE, bind_assocM]
  | blt f a => rw [evP, evE, bind_assocM]
  | ix o i =>
    rw [evP, evE, bind_assocM]
    refine bind_congrM _ (fun x h1 => ?_) h
    rw [bind_assocM]
  | attr o f => rw [evP, evE, bind_assocM]
  | _ => cases p
def WP (P : Pg) (cf : CF) (G : Gw) (e : E) : TO := fun σ H Q => ∃ ρ h σ' o h', RH G ρ h H ∧ RS G ρ H σ' σ ∧ evP P cf e σ' h = .ok o h' ∧ ∀ ρ' H', Ext ρ H ρ' H' → RH G ρ' h' H' → Q o H'
theorem PO.imp {e : Option Expr} {t t' : TO} (p : PO X e t) (i : ∀ σ H Q, t' σ H Q → t σ H Q) : PO X e t' := ⟨fun pins s σ H Q I q => p.run pins s σ H Q I (i σ H Q q)⟩
theorem wp_no : PO X none (WP P cf G .no) := PO.imp po_none fun σ H Q ⟨ρ, h, σ', o, h', R, S, ev, D⟩ => by
  rw [evP] at ev
  obtain ⟨rfl, rfl⟩ := pure_inv ev
  exact D _ _ .refl R
theorem wp_some (pl : plainP a' = true) (ha : PE X a (WE P cf G a')) : PO X (some a) (WP P cf G a') := PO.imp (po_some ha) fun σ H Q ⟨ρ, h, σ', o, h', R, S, ev, D⟩ => by
  rw [evP_plain pl] at ev
  obtain ⟨x, h1, e1, e2⟩ := bind_inv ev
  refine WE.mk R S e1 fun ρ1 H1 v x1 R1 S1 r1 => ?_
  unfold optI at e2
  split at e2
  · obtain ⟨rfl, rfl⟩ := pure_inv e2
    exact ⟨_, RV_int.mp r1, D _ _ x1 R1⟩
  · cases e2
theorem we_sl {lo hi : Option Expr} {p2 : Pos} (C : Ctx P G X) (ha : PE X a (WE P cf G a')) (hl : PO X lo (WP P cf G b')) (hh : PO X hi (WP P cf G c')) : PE X (.Subscript a (.Slice lo hi none p2) pos) (WE P cf G (.sl a' b' c')) := by
  have any : SlR X (fun x lo hi H Q => ∃ r, SlR X r ∧ r x lo hi H Q) := fun pins s σ H x v vl vu lo hi sl Q I rx hs pl pu ⟨r, hr, q⟩ => hr pins s σ H x v vl vu lo hi sl Q I rx hs pl pu q
  refine PE.imp (pe_slice any ha hl hh) fun σ H Q ⟨ρ, h, σ', r, h', R, S, e, D⟩ => ?_
  rw [evE] at e
  obtain ⟨x, h1, e1, e2⟩ := bind_inv e
  obtain ⟨l, h2, e3, e4⟩ := bind_inv e2
  obtain ⟨u, h3, e5, e6⟩ := bind_inv e4
  refine WE.mk R S e1 fun ρ1 H1 v x1 R1 S1 r1 => ⟨ρ1, h1, σ', l, h2, R1, S1, e3, fun ρ2 H2 x2 R2 => ⟨ρ2, h2, σ', u, h3, R2, S1.mono x2, e5, fun ρ3 H3 x3 R3 => ?_⟩⟩
  exact slA_ok C.hK R3 (RV.mono (x2.trans x3) _ r1) e6 (D.ext (x1.trans (x2.trans x3)))
end
end PM
end
section
set_option maxHeartbeats 1000000
/-! PMN: targets, statements, loops, comprehensions. -/
namespace PM
open PySem PySem.Spec L2
section
variable (P : Pg) (cf : CF) (G : Gw)
def DoneF (ρ : List Addr) (H : Hp) (fl : Fl) (h : AH) (D : Ends) : Prop := ∀ ρ' H', Ext ρ H ρ' H' → RH G ρ' h H' → match fl with
  | .nx τ => ∀ σ2, RS G ρ' H' τ σ2 → D.nx σ2 H'
  | .rt v => ∀ w, RV G ρ' H' v w → D.rt w H'
  | .bk τ => ∀ σ2, RS G ρ' H' τ σ2 → D.bk σ2 H'
  | .ct τ => ∀ σ2, RS G ρ' H' τ σ2 → D.ct σ2 H'
def WS (st : S) : TS := fun D σ H => ∃ ρ h σ' fl h', RH G ρ h H ∧ RS G ρ H σ' σ ∧ evS P cf st σ' h = .ok fl h' ∧ DoneF G ρ H fl h' D
end
section
variable {X : Cx} {P : Pg} {cf : CF} {kk : Nat} {G : Gw} {ρ ρ' : List Addr} {H H' : Hp} {h h' : AH} {Q : VK} {a b c e : Expr} {a' b' c' d' : E} {pos apos : Pos} {pins : List (Addr × Obj)} {σ : St} {s : Shared}
theorem DoneF.ext {fl : Fl} {D : Ends} (d : DoneF G ρ H fl h D) (e : Ext ρ H ρ' H') : DoneF G ρ' H' fl h D := fun ρ2 H2 e2 R => d ρ2 H2 (e.trans e2) R
/-! ### targets -/
theorem Same.set (σ : St) (i : Nat) (v : V) : Same [i] (σ.set i (some v)) σ := ⟨by simp, fun j hj => by rw [List.getElem?_set_ne (fun z => hj (by simp [z]))]⟩
theorem Same.refl {vs : List Nat} (σ : St) : Same vs σ σ := ⟨rfl, fun _ _ => rfl⟩
theorem Same.trans {us vs : List Nat} {σ τ ω : St} (a : Same us τ σ) (b : Same vs ω τ) : Same (us ++ vs) ω σ := ⟨b.1.trans a.1, fun i hi => by
  rw [List.mem_append, not_or] at hi
  rw [b.2 i hi.2, a.2 i hi.1]⟩
theorem Same.mono {us vs : List Nat} {σ τ : St} (a : Same us τ σ) (k : ∀ i ∈ us, i ∈ vs) : Same vs τ σ := ⟨a.1, fun i hi => a.2 i fun z => hi (k i z)⟩
theorem wipe_get (σ : St) : ∀ (vs : List Nat) (i : Nat), (L2.wipe σ vs)[i]? = if i ∈ vs then (if i < σ.length then some none else none) else σ[i]?
  | [], i => by simp [L2.wipe]
  | v :: vs, i => by
    unfold L2.wipe
    by_cases hv : v = i
    · subst hv
      by_cases hl : v < σ.length
      · rw [List.getElem?_set_self (by rw [L2.wipe_length]; exact hl)]
        simp [hl]
      · rw [List.getElem?_eq_none (by simp [L2.wipe_length]; omega)]
        simp [hl]
    · rw [List.getElem?_set_ne hv, wipe_get σ vs i]
      have : (i ∈ v :: vs) ↔ i ∈ vs := by simp [Ne.symm hv]
      simp only [this]
theorem Same.wipe {vs : List Nat} {σ τ : St} (a : Same vs τ σ) : L2.wipe τ vs = L2.wipe σ vs := by
  apply List.ext_getElem?
  intro i
  rw [wipe_get, wipe_get, a.1]
  split
  · rfl
  · rename_i hi
    exact a.2 i hi
theorem wg_name {i : Nat} {x : Str} (hN : X.N.Nodup) (hi : X.N[i]? = some x) (hx : L2.Loc X.env.scope x) (hf : X.fn x = true ∨ X.env.scope.names.lookup x = some .local) : PG X (.Name x pos) (WG P cf G (.v i)) :=
  PG.imp (pg_name hN hi hx hf) fun v σ H Q ⟨ρ, h, σ', x, τ, h', R, S, r, e, D⟩ => by
    rw [asgT] at e
    obtain ⟨rfl, rfl⟩ := pure_inv e
    exact D _ _ _ .refl R (S.set i r) (Same.set σ i v)
theorem wgs_nil : PGs X [] (WGs P cf G .nil) :=
  PGs.imp pgs_nil fun v σ H Q ⟨ρ, h, σ', xs, τ, h', R, S, r, e, D⟩ => by
    cases xs with
    | nil =>
      rw [asgTs] at e
      obtain ⟨rfl, rfl⟩ := pure_inv e
      exact ⟨RVs_nil.mp r, D _ _ _ .refl R S (Same.refl σ)⟩
    | cons x xs => cases e
theorem wgs_cons {es : List Expr} (hs : (assignEach (e :: es) X.env).map (·.2) = assign e X.env :: (assignEach es X.env).map (·.2)) (h1 : PG X e (WG P cf G a')) (h2 : PGs X es (WGs P cf G b')) : PGs X (e :: es) (WGs P cf G (.cons a' b')) :=
  PGs.imp (pgs_cons h1 h2 hs) fun v σ H Q ⟨ρ, h, σ', xs, τ, h', R, S, r, e, D⟩ => by
    cases xs with
    | nil => cases e
    | cons x xs =>
      rw [asgTs] at e
      obtain ⟨τ1, h1, e1, e2⟩ := bind_inv e
      obtain ⟨y, ys, rfl, r1, r2⟩ := RVs_cons.mp r
      refine ⟨y, ys, rfl, ρ, h, σ', x, τ1, h1, R, S, r1, e1, fun ρ1 H1 σ1 x1 R1 S1 s1 => ?_⟩
      exact ⟨ρ1, h1, τ1, xs, τ, h', R1, S1, RVs.mono x1 _ r2, e2, fun ρ2 H2 σ2 x2 R2 S2 s2 => D _ _ _ (x1.trans x2) R2 S2 (s1.trans s2)⟩
theorem assignEach_cons {es : List Expr} (hn : noStar (e :: es) = true) (env : Env) : assignEach (e :: es) env = (false, assign e env) :: assignEach es env := by
  cases e <;> first | rfl | (cases hn)
theorem assignEach_len : ∀ {es : List Expr}, noStar es = true → ∀ env, (assignEach es env).length = es.length ∧ (assignEach es env).findIdx? (·.1) = none
  | [], _, _ => ⟨rfl, rfl⟩
  | e :: es, hn, env => by
    obtain ⟨h1, h2⟩ := assignEach_len (noStar_tl hn) env
    rw [assignEach_cons hn]
    exact ⟨by simp [h1], by simp [List.findIdx?_cons, h2]⟩
theorem asgTs_len : ∀ {ts : E} {xs : List AV} {σ τ : PM.Loc} {h h' : AH}, asgTs P cf ts xs σ h = .ok τ h' → True := fun _ => True.intro
theorem wg_tup {es : List Expr} {k : Nat} (C : Ctx P G X) (hn : noStar es = true) (hl : ∀ xs σ h τ h', asgTs P cf a' xs σ h = .ok τ h' → xs.length = es.length) (ha : PGs X es (WGs P cf G a')) : PG X (.Tuple es k pos) (WG P cf G (.tup a')) :=
  ⟨fun pins s σ H v u Q I r ⟨ρ, h, σ', x, τ, h', R, S, rx, e, D⟩ => by
    rw [asgT] at e
    obtain ⟨xs, h1, e1, e2⟩ := bind_inv e
    obtain ⟨n1, n2⟩ := assignEach_len hn X.env
    have hlen := hl _ _ _ _ _ e2
    unfold unpackA at e1
    split at e1
    · obtain ⟨rfl, rfl⟩ := pure_inv e1
      obtain ⟨p, ys, rfl, ht, rs⟩ := RV_tup.mp rx
      exact (pg_tup C.calm ha n1 n2).run pins s σ H _ u Q I r ⟨p, ys, rfl, SqT.of ht, by rw [← rs.length, hlen], ρ, h1, σ', _, τ, h', R, S, rs, e2, D⟩
    · obtain ⟨rfl, rfl⟩ := pure_inv e1
      obtain ⟨p, ys, rfl, ht, rs⟩ := RV_ktp.mp rx
      exact (pg_tup C.calm ha n1 n2).run pins s σ H _ u Q I r ⟨p, ys, rfl, by rw [C.hK]; exact .inr ht, by rw [← rs.length, hlen], ρ, h1, σ', _, τ, h', R, S, rs, e2, D⟩
    · obtain ⟨g, rfl⟩ := lstO_inv e1
      obtain ⟨p, ys, rfl, _, hs, rs⟩ := R.lstR rx g
      exact (pg_unl C.calm ha n1 n2).run pins s σ H _ u Q I r ⟨p, ys, rfl, by rw [C.hK]; exact hs, by rw [← rs.length, hlen], ρ, h1, σ', _, τ, h', R, S, rs, e2, D⟩
    · cases e1⟩
theorem wg_sub (C : Ctx P G X) (hs : PlainIx b) (ha : PE X a (WE P cf G a')) (hb : PE X b (WE P cf G b')) (hx : ∀ v, assign (.Subscript a b pos) X.env v = (do
      let ov ← holding [v] (eval a X.env)
      let iv ← holding [v, ov] (eval b X.env)
      standAt pos
      holding [v, ov, iv] (setItem ov iv v)
      release [v, ov, iv] [])) : PG X (.Subscript a b pos) (WG P cf G (.ix a' b')) := by
  have any : PSet X (fun o i v H Q => ∃ r, PSet X r ∧ r o i v H Q) := fun pins s σ H o i v ov iv u Q I r1 r2 r3 ⟨r, hr, q⟩ => hr pins s σ H o i v ov iv u Q I r1 r2 r3 q
  have hu := C.un
  refine PG.imp (pg_sub ha hb any hx) fun v σ H Q ⟨ρ, h, σ', x, τ, h', R, S, rx, e, D⟩ => ?_
  rw [asgT] at e
  obtain ⟨y, h1, e1, e2⟩ := bind_inv e
  obtain ⟨z, h2, e3, e4⟩ := bind_inv e2
  obtain ⟨_, h3, e5, e6⟩ := bind_inv e4
  obtain ⟨rfl, rfl⟩ := pure_inv e6
  refine WE.mk R S e1 fun ρ1 H1 o x1 R1 S1 r1 => WE.mk R1 S1 e3 fun ρ2 H2 i x2 R2 S2 r2 => ?_
  exact setIx_ok C.hK (by omega) R2 (RV.mono x2 _ r1) r2 (RV.mono (x1.trans x2) _ rx) e5 fun ρ3 H3 x3 R3 => D _ _ _ (x1.trans (x2.trans x3)) R3 (S.mono (x1.trans (x2.trans x3))) (Same.refl σ)
theorem wg_attr {nm : Str} {f : Nat} (C : Ctx P G X) (hn : G.nms[f]? = some nm) (ha : PE X a (WE P cf G a')) : PG X (.Attribute a nm pos) (WG P cf G (.attr a' f)) :=
  ⟨fun pins s σ H v u Q I r ⟨ρ, h, σ', x, τ, h', R, S, rx, e, D⟩ => by
    rw [asgT] at e
    obtain ⟨y, h1, e1, e2⟩ := bind_inv e
    obtain ⟨_, h2, e3, e4⟩ := bind_inv e2
    obtain ⟨rfl, rfl⟩ := pure_inv e4
    show wpAny _ _ (do
      let ov ← holding [u] (eval a X.env)
      standAt pos.atName
      holding [u, ov] (setAttr ov nm u)
      release [u, ov] []) _ _ _
    refine wpAny_bind (wpAny_holding (thn (ha.run pins s σ H (fun w H1 => ∃ ρ1, Ext ρ H ρ1 H1 ∧ RH G ρ1 h1 H1 ∧ RV G ρ1 H1 y w) I (WE.mk R S e1 fun ρ1 H1 w x1 R1 S1 r1 => ⟨ρ1, x1, R1, r1⟩)) fun ov s1 ⟨w, H1, I1, rv, ρ1, x1, R1, r1⟩ => ?_))
    unfold setAt at e3
    split at e3
    · rename_i p
      obtain ⟨o, h3, e5, e6⟩ := bind_inv e3
      obtain ⟨g, rfl⟩ := insO_inv e5
      obtain ⟨cl, h4, e7, e8⟩ := bind_inv e6
      obtain ⟨hcl, rfl⟩ := ofO_inv e7
      obtain ⟨_, h5, e9, e10⟩ := bind_inv e8
      obtain ⟨q1, rfl⟩ := guardM_inv e9
      obtain rfl := setO_inv e10
      rw [Bool.and_eq_true] at q1
      obtain ⟨q, dx, l, rfl, eq, hq, rf⟩ := R1.ins r1 g
      obtain rfl : ov = Value.ref q := rv
      obtain ⟨nm', hn', na⟩ := C.pf.fld _ cl f hcl q1.1
      rw [hn] at hn'
      cases hn'
      refine wpAny_bind (wpAny_standAt (wpAny_bind (wpAny_holding ?_)))
      refine setattr_ok I1 hq (by rw [C.hK]; exact C.pf.cls _ cl hcl) (by rw [C.hK]; exact na) (by rw [← rf.length]; exact of_decide_eq_true q1.2) r fun s2 I2 => ?_
      obtain ⟨x2, R2⟩ := R1.set (o := .ins o.1 (putF f x o.2)) (ho := .ins (G.gm o.1) dx (L2.putF nm v l)) eq (by rw [hq]; exact True.intro) ⟨_, _, rfl, rf.put C.pf.nd hn (RV.mono x1 _ rx)⟩
      exact wpAny_release ⟨σ, _, I2, D _ _ _ (x1.trans x2) R2 (S.mono (x1.trans x2)) (Same.refl σ)⟩
    · cases e3⟩

/-! ### statements -/
theorem ws_asg {tg e : Expr} {t' : E} (he : PE X e (WE P cf G a')) (hg : PG X tg (WG P cf G t')) (hs : swapsWithSole [tg] e pos.line X.env = pure false) (hw : swappedStores [tg] e X.env = pure none) (h1 : (assignEach [tg] X.env).map (·.2) = [assign tg X.env]) :
    PS X (.Assign [tg] e pos) (WS P cf G (.asg t' a')) :=
  PS.imp (ps_asg he hg hs hw h1) fun D σ H ⟨ρ, h, σ', fl, h', R, S, e, d⟩ => by
    rw [evS] at e
    obtain ⟨x, h1, e1, e2⟩ := bind_inv e
    obtain ⟨τ, h2, e3, e4⟩ := bind_inv e2
    obtain ⟨rfl, rfl⟩ := pure_inv e4
    refine WE.mk R S e1 fun ρ1 H1 v x1 R1 S1 r1 => ?_
    exact ⟨ρ1, h1, σ', x, τ, h', R1, S1, r1, e3, fun ρ2 H2 σ2 x2 R2 S2 _ => d _ _ (x1.trans x2) R2 σ2 S2⟩
/-- name = e, the name stored by its own rule -/
theorem ws_set {i : Nat} {x : Str} {e : Expr} {pos' : Pos} (hN : X.N.Nodup) (hi : X.N[i]? = some x) (hx : L2.Loc X.env.scope x) (hf : X.fn x = true ∨ X.env.scope.names.lookup x = some .local) (he : PE X e (WE P cf G a')) (hs : swapsWith e (some (.Name x pos')) pos.line X.env = pure false) :
    PS X (.Assign [.Name x pos'] e pos) (WS P cf G (.asg (.v i) a')) :=
  PS.imp (ps_set hN hi hx he hs hf) fun D σ H ⟨ρ, h, σ', fl, h', R, S, e, d⟩ => by
    rw [evS] at e
    obtain ⟨x, h1, e1, e2⟩ := bind_inv e
    obtain ⟨τ, h2, e3, e4⟩ := bind_inv e2
    obtain ⟨rfl, rfl⟩ := pure_inv e4
    rw [asgT] at e3
    obtain ⟨rfl, rfl⟩ := pure_inv e3
    refine WE.mk R S e1 fun ρ1 H1 v x1 R1 S1 r1 => ?_
    exact d _ _ x1 R1 _ (S1.set i r1)
theorem ws_ex {e : Expr} (he : PE X e (WE P cf G a')) (hs : swapsWith e none pos.line X.env = pure false) : PS X (.Expr e pos) (WS P cf G (.ex a')) :=
  PS.imp (ps_expr he hs) fun D σ H ⟨ρ, h, σ', fl, h', R, S, e, d⟩ => by
    rw [evS] at e
    obtain ⟨x, h1, e1, e2⟩ := bind_inv e
    obtain ⟨rfl, rfl⟩ := pure_inv e2
    exact WE.mk R S e1 fun ρ1 H1 v x1 R1 S1 r1 => d _ _ x1 R1 _ S1
theorem ws_retN : PS X (.Return none pos) (WS P cf G (.ret .no)) :=
  PS.imp ps_retN fun D σ H ⟨ρ, h, σ', fl, h', R, S, e, d⟩ => by
    rw [evS] at e
    obtain ⟨rfl, rfl⟩ := pure_inv e
    exact d _ _ .refl R _ (by simp)
theorem ws_ret {e : Expr} (he : PE X e (WE P cf G a')) (hn : a' ≠ .no) : PS X (.Return (some e) pos) (WS P cf G (.ret a')) :=
  PS.imp (ps_ret he) fun D σ H ⟨ρ, h, σ', fl, h', R, S, e, d⟩ => by
    have e : (do let x ← evE P cf a' σ'; pure (.rt x) : M Fl) h = .ok fl h' := by
      cases a' <;> first | exact absurd rfl hn | exact e
    obtain ⟨x, h1, e1, e2⟩ := bind_inv e
    obtain ⟨rfl, rfl⟩ := pure_inv e2
    exact WE.mk R S e1 fun ρ1 H1 v x1 R1 S1 r1 => d _ _ x1 R1 _ r1
theorem ws_if {sa sb : List Stmt} {sa' sb' : S} (hc : PT X c (WT P cf G c')) (ha : PSs X sa (WS P cf G sa')) (hb : PSs X sb (WS P cf G sb')) : PS X (.If c sa sb pos) (WS P cf G (.ife c' sa' sb')) :=
  PS.imp (ps_if hc ha hb) fun D σ H ⟨ρ, h, σ', fl, h', R, S, e, d⟩ => by
    rw [evS] at e
    obtain ⟨x, h1, e1, e2⟩ := bind_inv e
    refine WT.mk R S e1 fun ρ1 H1 x1 R1 S1 => ?_
    cases x with
    | true => exact ⟨ρ1, h1, σ', fl, h', R1, S1, e2, d.ext x1⟩
    | false => exact ⟨ρ1, h1, σ', fl, h', R1, S1, e2, d.ext x1⟩
theorem ws_brk : PS X (.Break pos) (WS P cf G .brk) := PS.imp ps_break fun D σ H ⟨ρ, h, σ', fl, h', R, S, e, d⟩ => by
  rw [evS] at e
  obtain ⟨rfl, rfl⟩ := pure_inv e
  exact d _ _ .refl R _ S
theorem ws_cnt : PS X (.Continue pos) (WS P cf G .cnt) := PS.imp ps_continue fun D σ H ⟨ρ, h, σ', fl, h', R, S, e, d⟩ => by
  rw [evS] at e
  obtain ⟨rfl, rfl⟩ := pure_inv e
  exact d _ _ .refl R _ S
theorem ws_pass : PS X (.Pass pos) (WS P cf G .pass) := PS.imp ps_pass fun D σ H ⟨ρ, h, σ', fl, h', R, S, e, d⟩ => by
  rw [evS] at e
  obtain ⟨rfl, rfl⟩ := pure_inv e
  exact d _ _ .refl R _ S
/-- what never ends well -/
theorem ws_never {st : Stmt} {st' : S} (hn : ∀ σ h fl h', evS P cf st' σ h ≠ .ok fl h') : PS X st (WS P cf G st') :=
  ⟨fun pins s σ H D I ⟨ρ, h, σ', fl, h', R, S, e, d⟩ => absurd e (hn _ _ _ _)⟩
theorem we_never {e : Expr} {e' : E} (hn : ∀ σ h v h', evE P cf e' σ h ≠ .ok v h') : PE X e (WE P cf G e') :=
  ⟨fun pins s σ H Q I ⟨ρ, h, σ', v, h', R, S, e, d⟩ => absurd e (hn _ _ _ _)⟩
theorem wss_nil : PSs X [] (WS P cf G .done) := PSs.imp pss_nil fun D σ H ⟨ρ, h, σ', fl, h', R, S, e, d⟩ => by
  rw [evS] at e
  obtain ⟨rfl, rfl⟩ := pure_inv e
  exact d _ _ .refl R _ S
theorem wss_cons {st : Stmt} {rest : List Stmt} {st' rest' : S} (h1 : PS X st (WS P cf G st')) (h2 : PSs X rest (WS P cf G rest')) : PSs X (st :: rest) (WS P cf G (.seq st' rest')) :=
  PSs.imp (pss_cons h1 h2) fun D σ H ⟨ρ, h, σ', fl, h', R, S, e, d⟩ => by
    rw [evS] at e
    obtain ⟨f1, h1, e1, e2⟩ := bind_inv e
    refine ⟨ρ, h, σ', f1, h1, R, S, e1, fun ρ1 H1 x1 R1 => ?_⟩
    cases f1 with
    | nx τ => exact fun σ2 S2 => ⟨ρ1, h1, τ, fl, h', R1, S2, e2, d.ext x1⟩
    | rt v =>
      obtain ⟨rfl, rfl⟩ := pure_inv e2
      exact d _ _ x1 R1
    | bk τ =>
      obtain ⟨rfl, rfl⟩ := pure_inv e2
      exact d _ _ x1 R1
    | ct τ =>
      obtain ⟨rfl, rfl⟩ := pure_inv e2
      exact d _ _ x1 R1
theorem ws_par2 {i j : Nat} {x y : Str} {px py pt : Pos} {kt k2 : Nat} {pt2 : Pos} (hc : X.calm = true) (hN : X.N.Nodup) (hi : X.N[i]? = some x) (hj : X.N[j]? = some y) (hij : i ≠ j)
    (hx : X.env.scope.names.lookup x = some .local) (hy : X.env.scope.names.lookup y = some .local) (ha : PA X [a, b] (WA P cf G a')) (hw : swappedStores [.Tuple [.Name x px, .Name y py] kt pt] (.Tuple [a, b] k2 pt2) X.env = pure (some [x, y])) :
    PS X (.Assign [.Tuple [.Name x px, .Name y py] kt pt] (.Tuple [a, b] k2 pt2) pos) (WS P cf G (.par [i, j] a')) :=
  PS.imp (ps_par hc hN hi hj hij hx hy ha hw) fun D σ H ⟨ρ, h, σ', fl, h', R, S, e, d⟩ => by
    rw [evS] at e
    obtain ⟨xs, h1, e1, e2⟩ := bind_inv e
    obtain ⟨τ, h2, e3, e4⟩ := bind_inv e2
    obtain ⟨e5, rfl⟩ := ofO_inv e3
    obtain ⟨rfl, rfl⟩ := pure_inv e4
    refine WA.mk R S e1 fun ρ1 H1 v x1 R1 S1 r1 => ?_
    match xs, e5 with
    | [x1', x2'], e5 =>
      cases e5
      obtain ⟨u, u', rfl, q1, q2⟩ := rvs2 r1
      exact ⟨u, u', rfl, d _ _ x1 R1 _ ((S1.set i q1).set j q2)⟩
theorem ws_par3 {i j l : Nat} {x y z : Str} {px py pz pt : Pos} {kt k2 : Nat} {pt2 : Pos} (hc : X.calm = true) (hN : X.N.Nodup) (hi : X.N[i]? = some x) (hj : X.N[j]? = some y) (hl : X.N[l]? = some z) (hij : i ≠ j) (hil : i ≠ l) (hjl : j ≠ l)
    (hx : X.env.scope.names.lookup x = some .local) (hy : X.env.scope.names.lookup y = some .local) (hz : X.env.scope.names.lookup z = some .local) (ha : PA X [a, b, c] (WA P cf G a')) (hw : swappedStores [.Tuple [.Name x px, .Name y py, .Name z pz] kt pt] (.Tuple [a, b, c] k2 pt2) X.env = pure (some [x, y, z])) :
    PS X (.Assign [.Tuple [.Name x px, .Name y py, .Name z pz] kt pt] (.Tuple [a, b, c] k2 pt2) pos) (WS P cf G (.par [i, j, l] a')) :=
  PS.imp (ps_par3 hc hN hi hj hl hij hil hjl hx hy hz ha hw) fun D σ H ⟨ρ, h, σ', fl, h', R, S, e, d⟩ => by
    rw [evS] at e
    obtain ⟨xs, h1, e1, e2⟩ := bind_inv e
    obtain ⟨τ, h2, e3, e4⟩ := bind_inv e2
    obtain ⟨e5, rfl⟩ := ofO_inv e3
    obtain ⟨rfl, rfl⟩ := pure_inv e4
    refine WA.mk R S e1 fun ρ1 H1 v x1 R1 S1 r1 => ?_
    match xs, e5 with
    | [y1, y2, y3], e5 =>
      cases e5
      obtain ⟨u, r, rfl, q1, q2⟩ := RVs_cons.mp r1
      obtain ⟨u', u'', rfl, q3, q4⟩ := rvs2 q2
      exact ⟨u, u', u'', rfl, d _ _ x1 R1 _ (((S1.set i q1).set j q3).set l q4)⟩
/-! ### name op= e -/
theorem augA_ok {op : Operator} {x y r : AV} {v w : V} (R : RH G ρ h H) (ra : RV G ρ H x v) (rb : RV G ρ H y w) (e : augA op x y h = .ok r h') (D : Done G ρ H r h' Q) : ∃ t : TIp, PIp X op t ∧ t v w H Q := by
  unfold augA at e
  split at e
  · obtain ⟨rfl, rfl⟩ := pure_inv e
    exact ⟨_, ip_add, _, _, RV_int.mp ra, RV_int.mp rb, D.here R (by simp)⟩
  · obtain ⟨rfl, rfl⟩ := pure_inv e
    exact ⟨_, ip_sub, _, _, RV_int.mp ra, RV_int.mp rb, D.here R (by simp)⟩
  · obtain ⟨_, h1, e1, e2⟩ := bind_inv e
    obtain ⟨q1, rfl⟩ := guardM_inv e1
    obtain ⟨rfl, rfl⟩ := pure_inv e2
    exact ⟨_, iop_add_str, _, _, RV_str.mp ra, RV_str.mp rb, by rw [cStr_len, cStr_len]; exact sizeLineB_le q1, D.here R (by simp [cStr_app])⟩
  · cases e
theorem ws_aug {i : Nat} {x : Str} {e : Expr} {op : Operator} {pos' : Pos} (hN : X.N.Nodup) (hi : X.N[i]? = some x) (hx : L2.Loc X.env.scope x) (hf : X.fn x = true ∨ X.env.scope.names.lookup x = some .local) (he : PE X e (WE P cf G a')) :
    PS X (.AugAssign (.Name x pos') op e pos) (WS P cf G (.aug op (.v i) a')) := by
  have any : PIp X op (fun x y H Q => ∃ t, PIp X op t ∧ t x y H Q) := fun pins s σ H x y v u Q I r1 r2 ⟨r, hr, q⟩ => hr pins s σ H x y v u Q I r1 r2 q
  refine PS.imp (ps_aug hN hi hx he any hf) fun D σ H ⟨ρ, h, σ', fl, h', R, S, e, d⟩ => ?_
  rw [evS] at e
  obtain ⟨y, h1, e1, e2⟩ := bind_inv e
  obtain ⟨g, rfl⟩ := ofO_inv e1
  obtain ⟨z, h2, e3, e4⟩ := bind_inv e2
  obtain ⟨w, h3, e5, e6⟩ := bind_inv e4
  obtain ⟨rfl, rfl⟩ := pure_inv e6
  obtain ⟨v, g1, g2⟩ := S.get i y (getD_some g)
  refine ⟨v, g1, WE.mk R S e3 fun ρ1 H1 u x1 R1 S1 r1 => ?_⟩
  exact augA_ok R1 (RV.mono x1 _ g2) r1 e5 fun ρ2 H2 q x2 R2 r2 => d _ _ (x1.trans x2) R2 _ ((S1.mono x2).set i r2)
end
end PM
end
section
set_option maxHeartbeats 1000000
/-! PMZ: zip of a list, a tuple, a text with one another; enumerate of a tuple. -/
namespace PM
open PySem PySem.Spec L2
/-- what may be walked along in a zip -/
inductive Ck where
  | l (a : Addr) | t (a : Addr) | s (x : Str)
def Ck.Sq (K : PySem.W.Frag) (H : Hp) : Ck → List V → Prop
  | .l a, xs => SqL K H a xs
  | .t a, xs => SqT K H a xs
  | .s x, xs => xs = x.cps.toList.map fun c => V.str ⟨#[c]⟩
def Ck.cont : Ck → List Addr
  | .l a => [a]
  | .t a => [a]
  | .s _ => []
def Ck.val : Ck → V → Prop
  | .l a, v => v = .ref a
  | .t a, v => v = .ref a
  | .s x, v => v = .str x
def Ck.tn (it i : Nat) (h : Heap) : Ck → Prop
  | .l a => h.IsListIter it a i
  | .t a => h.IsTupleIter it a i
  | .s x => ∃ u, h.IsStrIter it (strIterType x) x u i
theorem Ck.tn_obj {k : Ck} {it i : Nat} {h : Heap} (t : k.tn it i h) : ∃ o, h.get? it = some o ∧ ∀ v, o.data ≠ .cell v := by
  cases k with
  | l a => obtain ⟨o, e, _, d⟩ := t; exact ⟨o, e, fun v q => by rw [d] at q; cases q⟩
  | t a => obtain ⟨o, e, _, d⟩ := t; exact ⟨o, e, fun v q => by rw [d] at q; cases q⟩
  | s x => obtain ⟨u, o, e, _, d⟩ := t; exact ⟨o, e, fun v q => by rw [d] at q; cases q⟩
theorem Ck.tn_at {k : Ck} {it i : Nat} {h h' : Heap} (t : k.tn it i h) (e : ∀ o, h.get? it = some o → h'.get? it = some o) : k.tn it i h' := by
  cases k with
  | l a => exact Heap.IsListIter.at t e
  | t a => exact Heap.IsTupleIter.at t e
  | s x => obtain ⟨u, o, g, r⟩ := t; exact ⟨u, o, e o g, r⟩
theorem Ck.sq_inj {X : Cx} {pins : List (Addr × Obj)} {σ : L2.St} {H : Hp} {s : Shared} {k : Ck} {xs ys : List V} (I : Inv X pins σ H s) (a : k.Sq X.K H xs) (b : k.Sq X.K H ys) : xs = ys := by
  cases k with
  | l r => exact I.list_inj a b
  | t r => exact I.tuple_inj a b
  | s x => exact Eq.trans a (Eq.symm b)
theorem ck_draws {X : Cx} {pins : List (Addr × Obj)} {σ : L2.St} {H : Hp} {s : Shared} {k : Ck} {xs : List V} {it i : Nat} {A : Around} (I : Inv X pins σ H s) (hh : A.handled = none) (q : k.Sq X.K H xs) (ne : it ∉ k.cont) (t : k.tn it i s.heap) :
    ∃ P St, Draws X.prog X.w A it (it :: k.cont) xs.length P St ∧ St i s.heap ∧ (∀ j h', St j h' → k.tn it j h') ∧ ∀ j v, P j v → ∃ x, xs[j]? = some x ∧ RelV x v := by
  cases k with
  | l a =>
    obtain ⟨its, rv, p, _⟩ := I.list q
    have hl := rv.length
    have D := Draws.list (prog := X.prog) (w := X.w) hh it a (fun e => ne (by simp [Ck.cont, e])) its.toArray
    rw [show its.toArray.size = xs.length by simp [hl]] at D
    refine ⟨_, _, D, ⟨t, p.isList⟩, fun j h' st => st.1, fun j v hv => ?_⟩
    have hv' : its[j]? = some v := by simpa using hv
    have hj : j < xs.length := by rw [hl]; exact (List.getElem?_eq_some_iff.mp hv').1
    obtain ⟨u, g, r⟩ := rv.get (List.getElem?_eq_getElem hj)
    rw [hv'] at g
    cases g
    exact ⟨_, List.getElem?_eq_getElem hj, r⟩
  | t a =>
    obtain ⟨its, rv, p, _⟩ := I.tuple q
    have hl := rv.length
    have D := Draws.tuple (prog := X.prog) (w := X.w) hh it a (fun e => ne (by simp [Ck.cont, e])) its.toArray
    rw [show its.toArray.size = xs.length by simp [hl]] at D
    refine ⟨_, _, D, ⟨t, p⟩, fun j h' st => st.1, fun j v hv => ?_⟩
    have hv' : its[j]? = some v := by simpa using hv
    have hj : j < xs.length := by rw [hl]; exact (List.getElem?_eq_some_iff.mp hv').1
    obtain ⟨u, g, r⟩ := rv.get (List.getElem?_eq_getElem hj)
    rw [hv'] at g
    cases g
    exact ⟨_, List.getElem?_eq_getElem hj, r⟩
  | s x =>
    obtain ⟨u, t⟩ := t
    have D := Draws.text (prog := X.prog) (w := X.w) hh it x u
    have hq : xs = x.cps.toList.map fun c => V.str ⟨#[c]⟩ := q
    rw [show x.cps.size = xs.length by simp [hq]] at D
    refine ⟨_, _, D, t, fun j h' st => ⟨u, st⟩, fun j v hv => ?_⟩
    obtain ⟨c, u', g, rfl⟩ := hv
    refine ⟨.str ⟨#[c]⟩, ?_, u', rfl⟩
    rw [hq, List.getElem?_map]
    simp [g]
theorem ck_begins {X : Cx} {pins : List (Addr × Obj)} {σ : L2.St} {H : Hp} {s : Shared} {k : Ck} {xs : List V} {x : V} {v : Value} (I : Inv X pins σ H s) (q : k.Sq X.K H xs) (hv : k.val x) (r : RelV x v) :
    ∃ o B, Begins v o B ∧ B s.heap ∧ (∀ b ∈ k.cont, b < s.heap.objs.size) ∧ ∀ it h', h'.get? it = some o → k.tn it 0 h' := by
  cases k with
  | l a =>
    obtain ⟨its, rv, p, _⟩ := I.list q
    cases hv
    cases r
    exact ⟨_, _, begins_list a its.toArray, p.isList, fun b hb => by simp only [Ck.cont, List.mem_singleton] at hb; subst hb; exact p.lt, fun it h' e => ⟨_, e, rfl, rfl⟩⟩
  | t a =>
    obtain ⟨its, rv, p, _⟩ := I.tuple q
    cases hv
    cases r
    have p' : s.heap.IsTuple a its.toArray := p
    obtain ⟨o1, ho1, _⟩ := id p'
    exact ⟨_, _, begins_tuple a its.toArray, p', fun b hb => by simp only [Ck.cont, List.mem_singleton] at hb; subst hb; exact Heap.lt_size ho1, fun it h' e => ⟨_, e, rfl, rfl⟩⟩
  | s y =>
    cases hv
    obtain ⟨t, rfl⟩ := r
    exact ⟨_, _, begins_text y t, trivial, fun b hb => by simp [Ck.cont] at hb, fun it h' e => ⟨t, _, e, rfl, rfl⟩⟩
/-- the rows at a and b, the items in new pairs -/
def ItG (K : PySem.W.Frag) (a b : Ck) : It :=
  ⟨fun i H => ∃ (xs ys : List V) (x y : V), a.Sq K H xs ∧ b.Sq K H ys ∧ xs[i]? = some x ∧ ys[i]? = some y,
    fun i H v H' => ∃ T x y, v = .ref T ∧ H T = none ∧ H' = upd H T (.tup [x, y]) ∧ (∀ xs, a.Sq K H xs → xs[i]? = some x) ∧ ∀ ys, b.Sq K H ys → ys[i]? = some y,
    fun i H => ∃ xs ys : List V, a.Sq K H xs ∧ b.Sq K H ys ∧ i ≤ xs.length ∧ i ≤ ys.length ∧ (i = xs.length ∨ i = ys.length)⟩
theorem turn_zipG {P : Program} {w : World} {K : PySem.W.Frag} {elts : List Expr} {kk : Nat} {tpos : Pos} {a b : Ck} {z TI TO i1 i2 : Addr} (D : ZipSep2 z TI TO i1 i2 (i1 :: a.cont) (i2 :: b.cont)) (n1 : i1 ∉ a.cont) (n2 : i2 ∉ b.cont) :
    Turn P w K (.Tuple elts kk tpos) (ItG K a b) [z, TI, TO, i1, i2] z (fun i h => IsZip h z TI TO .none ∧ IsPair h TI (.ref i1) (.ref i2) ∧ (∃ x y, IsPair h TO x y) ∧ a.tn i1 i h ∧ b.tn i2 i h) where
  mem := by simp
  obj := fun i h st c hc => by
    obtain ⟨hz, hTI, ⟨x, y, hTO⟩, h1, h2⟩ := st
    have e' : c = z ∨ c = TI ∨ c = TO ∨ c = i1 ∨ c = i2 := by simpa using hc
    rcases e' with q | q | q | q | q
    · rw [q]; exact ⟨_, hz, fun v q => nomatch q⟩
    · rw [q]; exact ⟨_, hTI, fun v q => nomatch q⟩
    · rw [q]; exact ⟨_, hTO, fun v q => nomatch q⟩
    · rw [q]; exact Ck.tn_obj h1
    · rw [q]; exact Ck.tn_obj h2
  keep := fun i h h' st k => by
    obtain ⟨hz, hTI, ⟨x, y, hTO⟩, h1, h2⟩ := st
    exact ⟨k z (by simp) _ hz, k TI (by simp) _ hTI, ⟨x, y, k TO (by simp) _ hTO⟩, Ck.tn_at h1 fun o q => k i1 (by simp) o q, Ck.tn_at h2 fun o q => k i2 (by simp) o q⟩
  item := by
    intro X hP hw hK hc i pins s σ H E I hf st hg
    subst hP hw hK
    obtain ⟨hz, hTI, ⟨x0, y0, hTO⟩, h1, h2⟩ := st
    obtain ⟨xs, ys, x, y, hqx, hqy, hx, hy⟩ := hg
    have hh : X.A.in1.handled = none := I.ok.hd hc
    obtain ⟨P1, St1, D1, t1, b1, r1⟩ := ck_draws I hh hqx n1 h1
    obtain ⟨P2, St2, D2, t2, b2, r2⟩ := ck_draws I hh hqy n2 h2
    have hzl : z < s.heap.objs.size := Heap.lt_size hz
    refine wpAny_pyNext_zipD2_item D D1 D2 hz hTI hTO t1 t2 (List.getElem?_eq_some_iff.mp hx).1 (List.getElem?_eq_some_iff.mp hy).1 fun u u2 h' tk p1 p2 z' TO' h1' h2' hT hsz hk => ?_
    obtain ⟨x', ex, ru⟩ := r1 _ _ p1
    obtain ⟨y', ey, ru2⟩ := r2 _ _ p2
    rw [hx] at ex
    rw [hy] at ey
    cases ex
    cases ey
    refine ⟨_, rfl, wpAny_letOwnedTupleGo_zip (s := { s with heap := h', toks := tk }) z' fun h'' z'' sb => ?_⟩
    have hT2 : h''.get? s.heap.objs.size = some { cls := .type "tuple", data := .seq #[u, u2] } := (sb.2 _ (Nat.ne_of_gt hzl)).trans hT
    have new : ObjOk X.prog X.w (upd H s.heap.objs.size (.tup [x, y])) h'' s.heap.objs.size (.tup [x, y]) :=
      ⟨by show 2 ≤ sizeLine; decide, [u, u2], .cons ru (.cons ru2 .nil), ⟨_, hT2, rfl, _, rfl⟩⟩
    have I1 : Inv X pins σ (upd H s.heap.objs.size (.tup [x, y])) { s with heap := h'', toks := tk } :=
      I.turnedNew (t' := tk) (ch := [z, TI, TO, i1, i2]) (fun c o hb q => (sb.2 c (fun q' => hb (by simp [q']))).trans (hk c o (fun q' => hb (by simp [q'])) (fun q' => hb (by simp [q'])) (fun q' => hb (by simp [q'])) (fun q' => hb (by simp [q'])) q)) hf (Nat.le_refl _) new
    refine ⟨.ref s.heap.objs.size, _, I1, rfl, ⟨_, x, y, rfl, I.hok.fresh (Nat.le_refl _), rfl, fun l hl => by rw [Ck.sq_inj I hl hqx]; exact hx, fun l hl => by rw [Ck.sq_inj I hl hqy]; exact hy⟩, ⟨z'', ?_, ⟨u, u2, ?_⟩, ?_, ?_⟩, fun c hcm => ?_⟩
    · exact (sb.2 _ D.TIz).trans (hk _ _ D.TIz D.TITO D.TIi1 D.TIi2 hTI)
    · exact (sb.2 _ D.TOz).trans TO'
    · exact Ck.tn_at (b1 _ _ h1') fun o q => (sb.2 _ (Ne.symm D.zi1)).trans q
    · exact Ck.tn_at (b2 _ _ h2') fun o q => (sb.2 _ (Ne.symm D.zi2)).trans q
    · have hlt : c < s.heap.objs.size := by
        have e' : c = z ∨ c = TI ∨ c = TO ∨ c = i1 ∨ c = i2 := by simpa using hcm
        rcases e' with q | q | q | q | q
        · rw [q]; exact hzl
        · rw [q]; exact Heap.lt_size hTI
        · rw [q]; exact Heap.lt_size hTO
        · rw [q]; obtain ⟨_, e1, _⟩ := Ck.tn_obj h1; exact Heap.lt_size e1
        · rw [q]; obtain ⟨_, e2, _⟩ := Ck.tn_obj h2; exact Heap.lt_size e2
      rw [upd_ne (Nat.ne_of_lt hlt)]
      exact (hf c hcm).1
  done := by
    intro X hP hw hK hc i pins s σ H E I hf st hg
    subst hP hw hK
    obtain ⟨hz, hTI, ⟨x0, y0, hTO⟩, h1, h2⟩ := st
    obtain ⟨xs, ys, hqx, hqy, l1, l2, hend⟩ := hg
    have hh : X.A.in1.handled = none := I.ok.hd hc
    obtain ⟨P1, St1, D1, t1, b1, r1⟩ := ck_draws I hh hqx n1 h1
    obtain ⟨P2, St2, D2, t2, b2, r2⟩ := ck_draws I hh hqy n2 h2
    exact wpAny_pyNext_zipD2_end D D1 D2 hz hTI hTO t1 t2 l1 l2 hend fun h' tk hk => ⟨rfl, I.turnedL (t' := tk) (ch := [z, TI, TO, i1, i2]) (fun c o hb q =>
      hk c o (fun q' => hb (by simp [q'])) (fun q' => hb (by simp [q'])) (fun q' => hb (by simp [q'])) (fun q' => hb (by simp [q'])) q) hf⟩
  self := fun A i s Q E st h => wpAny_pyIter_zip st.1 h
def iZipG (K : PySem.W.Frag) (ta : TA) : TI := fun σ H R => ta σ H fun vs H1 => ∃ a b v1 v2 xs ys, vs = [v1, v2] ∧ Ck.val a v1 ∧ Ck.val b v2 ∧ a.Sq K H1 xs ∧ b.Sq K H1 ys ∧ R (ItG K a b) H1
/-- zip of two, of whatever kinds; of two lists, of two tuples as the kit has it -/
def iZipX (K : PySem.W.Frag) (ta : TA) : TI := fun σ H R => ta σ H fun vs H1 =>
  (∃ a b xs ys, vs = [.ref a, .ref b] ∧ ((SqL K H1 a xs ∧ SqL K H1 b ys ∧ R (Itz K a b) H1) ∨ (SqT K H1 a xs ∧ SqT K H1 b ys ∧ R (RZ.ItzT K a b) H1))) ∨
  ∃ a b v1 v2 xs ys, vs = [v1, v2] ∧ Ck.val a v1 ∧ Ck.val b v2 ∧ a.Sq K H1 xs ∧ b.Sq K H1 ys ∧ R (ItG K a b) H1
theorem pi_zipX {X : Cx} {e e2 : Expr} {ta : TA} {p pos tpos : Pos} {elts : List Expr} {kk : Nat} (hg : Gl X "zip") (hm : X.mg "zip" = none) (ha : PA X [e, e2] ta)
    (hs : starEach [e, e2] X.env = (false, eval e X.env) :: starEach [e2] X.env := by rfl) (hpl : (backTo pos (starEach [e2] X.env)).any (·.1) = false := by rfl) :
    PI X (.Tuple elts kk tpos) (.Call (.Name "zip" p) [e, e2] [] pos) (iZipX X.K ta) := by
  refine ⟨fun pins s σ H R I h => ?_⟩
  refine PyProof.Rows.Call_ (ld_blt I hg hm PyProof.Rows.boot_zip (PyProof.Rows.callWith_type1 (thn (ha.run pos pins s σ H _ I h) fun us s1 ⟨vs, H1, I1, r1, q1⟩ => ?_) hs hpl))
  have fresh5 : ∀ c, c ∈ [s1.heap.objs.size + 4, s1.heap.objs.size + 2, s1.heap.objs.size + 3, s1.heap.objs.size, s1.heap.objs.size + 1] → FpOk X pins H1 c := fun c hcm => by
    have e' : c = s1.heap.objs.size + 4 ∨ c = s1.heap.objs.size + 2 ∨ c = s1.heap.objs.size + 3 ∨ c = s1.heap.objs.size ∨ c = s1.heap.objs.size + 1 := by simpa using hcm
    have hle : s1.heap.objs.size ≤ c := by
      rcases e' with z | z | z | z | z
      · rw [z]; exact Nat.le_add_right _ _
      · rw [z]; exact Nat.le_add_right _ _
      · rw [z]; exact Nat.le_add_right _ _
      · rw [z]; exact Nat.le_refl _
      · rw [z]; exact Nat.le_add_right _ _
    exact I1.fpOk hle (I1.hok.fresh hle)
  rcases q1 with ⟨a, b, xs, ys, ex, q1⟩ | ⟨a, b, v1, v2, xs, ys, ex, hv1, hv2, hqx, hqy, q⟩
  · subst ex
    cases r1 with
    | cons r rr =>
      cases rr with
      | cons r' rr =>
        cases rr
        cases r
        cases r'
        rcases q1 with ⟨hqx, hqy, q⟩ | ⟨hqx, hqy, q⟩
        · obtain ⟨its, rv, p1, _⟩ := I1.list hqx
          obtain ⟨its2, rv2, p2, _⟩ := I1.list hqy
          refine call_zip_2 p1.isList p2.isList fun h' hz hTI hTO h1 h2 hsz hk => wpAny_pyIter_zip hz ?_
          have I2 : Inv X pins σ H1 { s1 with heap := h' } := I1.kept (t' := s1.toks) hk
          exact ⟨s1.heap.objs.size + 4, [s1.heap.objs.size + 4, s1.heap.objs.size + 2, s1.heap.objs.size + 3, s1.heap.objs.size, s1.heap.objs.size + 1], _, _, H1, rfl, I2, turn_zip (PySem.W.ktu_apart s1.heap.objs.size a b p1.lt p2.lt), ⟨hz, hTI, ⟨_, _, hTO⟩, h1, h2⟩, fresh5, q⟩
        · obtain ⟨its, rv, p1, _⟩ := I1.tuple hqx
          obtain ⟨its2, rv2, p2, _⟩ := I1.tuple hqy
          obtain ⟨o1, ho1, _⟩ := id p1
          obtain ⟨o2, ho2, _⟩ := id p2
          refine RZ.call_zipT (show s1.heap.IsTuple a its.toArray from p1) (show s1.heap.IsTuple b its2.toArray from p2) fun h' hz hTI hTO h1 h2 hsz hk => wpAny_pyIter_zip hz ?_
          have I2 : Inv X pins σ H1 { s1 with heap := h' } := I1.kept (t' := s1.toks) hk
          exact ⟨s1.heap.objs.size + 4, [s1.heap.objs.size + 4, s1.heap.objs.size + 2, s1.heap.objs.size + 3, s1.heap.objs.size, s1.heap.objs.size + 1], _, _, H1, rfl, I2, RZ.turn_zipT (PySem.W.ktu_apart s1.heap.objs.size a b (Heap.lt_size ho1) (Heap.lt_size ho2)), ⟨hz, hTI, ⟨_, _, hTO⟩, h1, h2⟩, fresh5, q⟩
  · subst ex
    cases r1 with
    | cons r rr =>
      cases rr with
      | cons r' rr =>
        cases rr
        obtain ⟨o1, B1, g1, f1, lt1, n1⟩ := ck_begins I1 hqx hv1 r
        obtain ⟨o2, B2, g2, f2, lt2, n2⟩ := ck_begins I1 hqy hv2 r'
        refine zip_begins2 g1 g2 f1 f2 fun h' hz hTI hTO h1 h2 hsz hk => wpAny_pyIter_zip hz ?_
        have I2 : Inv X pins σ H1 { s1 with heap := h' } := I1.kept (t' := s1.toks) hk
        exact ⟨s1.heap.objs.size + 4, [s1.heap.objs.size + 4, s1.heap.objs.size + 2, s1.heap.objs.size + 3, s1.heap.objs.size, s1.heap.objs.size + 1], _, _, H1, rfl, I2, turn_zipG (zip_sep2 lt1 lt2) (fun q => Nat.lt_irrefl _ (lt1 _ q)) (fun q => absurd (lt2 _ q) (Nat.not_lt_of_le (Nat.le_succ _))), ⟨hz, hTI, ⟨_, _, hTO⟩, n1 _ _ h1, n2 _ _ h2⟩, fresh5, q⟩

/-! ### enumerate of a tuple -/
set_option maxHeartbeats 2000000 in
theorem meets_enumerate_newB1 {v : Value} {o : Obj} {H : Heap → Prop} (B : Begins v o H) :
    Meets (Builtin.«enumerate.__new__» ⟨[.type "enumerate", v], []⟩) (fun _ R s => H s.heap ∧
      R (.ok (.ret (.ref (s.heap.push o).objs.size)))
        { s with heap := (s.heap.push o).push { cls := .type "enumerate", data := .fields #[.none, .bool false, .ref s.heap.objs.size, rawInt 0, .none, .none] } }) :=
  .of_wp fun prog w A R s h => by
    obtain ⟨hp, g, d, tk, os⟩ := s
    obtain ⟨h1, h⟩ := h
    have hsub := sub_enumerate
    have q1 : ∀ {A' : Around} {E : Value → Shared → Prop} {Q : Value → Shared → Prop}, Q (.ref hp.objs.size) ⟨(hp.push o), g, d, tk, os⟩ → wpAny (model prog w) A' (pyIter v) Q E ⟨hp, g, d, tk, os⟩ :=
      fun q => B.iter prog w _ _ ⟨hp, g, d, tk, os⟩ _ (B.keeps _ _ h1 fun b o' e => e) q
    wp_walk
    refine wpAny_stack_any fun st => wpAny_pure ?_
    split
    · rename_i c _ _ _ _ _
      cases (c == Value.type "enumerate")
      · wp_walk using q1
        exact ⟨_, rfl, h⟩
      · wp_walk using q1
        exact ⟨_, rfl, h⟩
    · wp_walk using q1
      exact ⟨_, rfl, h⟩
theorem call_enumerateB {prog : Program} {w : World} {A : Around} {E : Value → Shared → Prop} {s : Shared} {v : Value} {o : Obj} {H : Heap → Prop} {Q : Value → Shared → Prop} (B : Begins v o H) (h1 : H s.heap)
    (h : ∀ h', IsEnum h' (s.heap.objs.size + 1) s.heap.objs.size 0 .none → h'.get? s.heap.objs.size = some o → h'.objs.size = s.heap.objs.size + 2 →
      (∀ b o, s.heap.get? b = some o → h'.get? b = some o) → Q (.ref (s.heap.objs.size + 1)) { s with heap := h' }) :
    wpAny (model prog w) A (call (.type "enumerate") [v]) Q E s := by
  refine callType_new F.called_enumerate (by decide) (F.typeCall_enumerate_1 _) (F.newCall_enumerate_1 _) (fun obj => F.args_object_init_2 obj _) F.entry_enumerate_new
    (meets_enumerate_newB1 B) ⟨h1, ?_⟩
  have hz : (s.heap.push o).objs.size = s.heap.objs.size + 1 := Heap.size_push ..
  show _ ∧ _
  rw [hz]
  have he : IsEnum ((s.heap.push o).push
      { cls := .type "enumerate", data := .fields #[.none, .bool false, .ref s.heap.objs.size, rawInt 0, .none, .none] }) (s.heap.objs.size + 1) s.heap.objs.size 0 .none := by
    have := Heap.get?_push_size (s.heap.push o)
      (o := { cls := .type "enumerate", data := .fields #[.none, .bool false, .ref s.heap.objs.size, rawInt 0, .none, .none] }) rfl
    rw [hz] at this; exact this
  refine ⟨⟨_, he, rfl⟩, h _ he (Heap.get?_push_of_some _ (Heap.get?_push_size _ B.free)) (by rw [Heap.size_push, hz]) fun b o y => Heap.get?_push_of_some _ (Heap.get?_push_of_some _ y)⟩
def IteG (K : PySem.W.Frag) (a : Ck) : It :=
  ⟨fun i H => ∃ (xs : List V) (x : V), a.Sq K H xs ∧ xs[i]? = some x, fun i H v H' => ∃ T x, v = .ref T ∧ H T = none ∧ H' = upd H T (.tup [.int (i : Nat), x]) ∧ ∀ xs, a.Sq K H xs → xs[i]? = some x, fun i H => ∃ xs : List V, a.Sq K H xs ∧ xs.length = i⟩
theorem turn_enumG {P : Program} {w : World} {K : PySem.W.Frag} {elts : List Expr} {kk : Nat} {tpos : Pos} {a : Ck} {e it : Addr} (n1 : it ∉ a.cont) (n2 : e ∉ it :: a.cont) :
    Turn P w K (.Tuple elts kk tpos) (IteG K a) [e, it] e (fun i h => (∃ old, IsEnum h e it ((i : Nat) : Int) old) ∧ a.tn it i h) where
  mem := by simp
  obj := fun i h st b hb => by
    obtain ⟨⟨old, he⟩, ht⟩ := st
    have e' : b = e ∨ b = it := by simpa using hb
    rcases e' with z | z
    · rw [z]; exact ⟨_, he, fun v q => nomatch q⟩
    · rw [z]; exact Ck.tn_obj ht
  keep := fun i h h' st k => let ⟨⟨old, he⟩, hi⟩ := st; ⟨⟨old, k e (by simp) _ he⟩, Ck.tn_at hi fun o q => k it (by simp) o q⟩
  item := by
    intro X hP hw hK hc i pins s σ H E I hf st hg
    subst hP hw hK
    obtain ⟨⟨old, he⟩, hit⟩ := st
    obtain ⟨xs, x, hq, hx⟩ := hg
    have hne : e ≠ it := fun q => n2 (by simp [q])
    have hh : X.A.in1.handled = none := I.ok.hd hc
    obtain ⟨P1, St1, D1, t1, b1, r1⟩ := ck_draws I hh hq n1 hit
    have hel : e < s.heap.objs.size := Heap.lt_size he
    have hil : it < s.heap.objs.size := by obtain ⟨_, q, _⟩ := Ck.tn_obj hit; exact Heap.lt_size q
    refine wpAny_pyNext_enum_itemD D1 he t1 (List.getElem?_eq_some_iff.mp hx).1 hne n2 fun u h' tk p1 ho hit' hT hsz hk => ?_
    obtain ⟨x', ex, ru⟩ := r1 _ _ p1
    rw [hx] at ex
    cases ex
    refine ⟨_, rfl, wpAny_letOwnedTupleGo_enum (s := { s with heap := h', toks := tk + 1 }) ho fun h'' he' sb => ?_⟩
    have hT2 : h''.get? s.heap.objs.size = some { cls := .type "tuple", data := .seq #[.int i tk, u] } := (sb.2 _ (Nat.ne_of_gt hel)).trans hT
    have new : ObjOk X.prog X.w (upd H s.heap.objs.size (.tup [.int (i : Nat), x])) h'' s.heap.objs.size (.tup [.int (i : Nat), x]) :=
      ⟨by show 2 ≤ sizeLine; decide, [.int i tk, u], .cons ⟨_, rfl⟩ (.cons ru .nil), ⟨_, hT2, rfl, _, rfl⟩⟩
    have I1 : Inv X pins σ (upd H s.heap.objs.size (.tup [.int (i : Nat), x])) { s with heap := h'', toks := tk + 1 } :=
      I.turnedNew (ch := [e, it]) (fun b ob hb q => (sb.2 b (fun z => hb (by simp [z]))).trans (hk b ob (fun z => hb (by simp [z])) (fun z => hb (by simp [z])) q)) hf (Nat.le_refl _) new
    refine ⟨.ref s.heap.objs.size, _, I1, rfl, ⟨_, x, rfl, I.hok.fresh (Nat.le_refl _), rfl, fun ys hy => by rw [Ck.sq_inj I hy hq]; exact hx⟩, ⟨⟨u, ?_⟩, Ck.tn_at (b1 _ _ hit') fun o q => (sb.2 it (Ne.symm hne)).trans q⟩, fun b hb => ?_⟩
    · have e1 : ((i + 1 : Nat) : Int) = (i : Int) + 1 := by omega
      rw [e1]; exact he'
    · have hb' : b < s.heap.objs.size := by
        have e' : b = e ∨ b = it := by simpa using hb
        rcases e' with z | z
        · rw [z]; exact hel
        · rw [z]; exact hil
      rw [upd_ne (Nat.ne_of_lt hb')]
      exact (hf b hb).1
  done := by
    intro X hP hw hK hc i pins s σ H E I hf st hg
    subst hP hw hK
    obtain ⟨⟨old, he⟩, hit⟩ := st
    obtain ⟨xs, hq, hx⟩ := hg
    subst hx
    have hh : X.A.in1.handled = none := I.ok.hd hc
    obtain ⟨P1, St1, D1, t1, b1, r1⟩ := ck_draws I hh hq n1 hit
    obtain ⟨f0, f1, f2, f3, f4, f5⟩ := hf it (by simp)
    exact wpAny_pyNext_enum_endD D1 he t1 fun h' eb => ⟨rfl, I.turned (t' := s.toks) (fun b o hb q => eb b o hb q) f0 f1 f3 f4 f5⟩
  self := fun A i s Q E st h => let ⟨⟨_, he⟩, _⟩ := st; wpAny_pyIter_enum he h
/-- enumerate of a list as the kit has it, of a tuple -/
def iEnumX (K : PySem.W.Frag) (ta : TA) : TI := fun σ H R => ta σ H fun vs H1 => (∃ a xs, vs = [.ref a] ∧ SqL K H1 a xs ∧ R (Ite K a) H1) ∨ ∃ a v xs, vs = [v] ∧ Ck.val a v ∧ a.Sq K H1 xs ∧ R (IteG K a) H1
theorem pi_enumX {X : Cx} {e : Expr} {ta : TA} {p pos tpos : Pos} {elts : List Expr} {kk : Nat} (hg : Gl X "enumerate") (hm : X.mg "enumerate" = none) (ha : PA X [e] ta) (hs : starEach [e] X.env = [(false, eval e X.env)] := by rfl) :
    PI X (.Tuple elts kk tpos) (.Call (.Name "enumerate" p) [e] [] pos) (iEnumX X.K ta) := by
  refine ⟨fun pins s σ H R I h => ?_⟩
  refine PyProof.Rows.Call_ (ld_blt I hg hm PyProof.Rows.boot_enumerate (PyProof.Rows.callWith_type1 (thn (ha.run pos pins s σ H _ I h) fun us s1 ⟨vs, H1, I1, r1, q1⟩ => ?_) hs rfl))
  have fresh : ∀ b, b ∈ [s1.heap.objs.size + 1, s1.heap.objs.size] → FpOk X pins H1 b := fun b hb => by
    have e' : b = s1.heap.objs.size + 1 ∨ b = s1.heap.objs.size := by simpa using hb
    have hle : s1.heap.objs.size ≤ b := by
      rcases e' with z | z
      · rw [z]; exact Nat.le_add_right _ _
      · rw [z]; exact Nat.le_refl _
    exact I1.fpOk hle (I1.hok.fresh hle)
  rcases q1 with ⟨a, xs, ex, hq, q⟩ | ⟨a, v, xs, ex, hv, hq, q⟩
  · subst ex
    cases r1 with
    | cons r rr =>
      cases rr
      cases r
      obtain ⟨its, rv, p', hz⟩ := I1.list hq
      refine call_enumerate_list p'.isList fun h' he hit hsz hk => wpAny_pyIter_enum he ?_
      have I2 : Inv X pins σ H1 { s1 with heap := h' } := I1.kept (t' := s1.toks) hk
      exact ⟨s1.heap.objs.size + 1, [s1.heap.objs.size + 1, s1.heap.objs.size], _, _, H1, rfl, I2, turn_enum a (s1.heap.objs.size + 1) s1.heap.objs.size, ⟨⟨.none, he⟩, hit, Nat.succ_ne_self _⟩, fresh, q⟩
  · subst ex
    cases r1 with
    | cons r rr =>
      cases rr
      obtain ⟨o1, B1, g1, f1, lt1, n1⟩ := ck_begins I1 hq hv r
      refine call_enumerateB g1 f1 fun h' he hit hsz hk => wpAny_pyIter_enum he ?_
      have I2 : Inv X pins σ H1 { s1 with heap := h' } := I1.kept (t' := s1.toks) hk
      exact ⟨s1.heap.objs.size + 1, [s1.heap.objs.size + 1, s1.heap.objs.size], _, _, H1, rfl, I2, turn_enumG (fun q => Nat.lt_irrefl _ (lt1 _ q)) (fun q => by
        rcases List.mem_cons.mp q with q | q
        · exact Nat.succ_ne_self _ q
        · exact absurd (lt1 _ q) (Nat.not_lt_of_le (Nat.le_succ _))), ⟨⟨.none, he⟩, n1 _ _ hit⟩, fresh, q⟩
end PM
end
section
set_option maxHeartbeats 1000000
/-! PMP: what is walked; for, while, comprehensions. -/
namespace PM
open PySem PySem.Spec L2
section
variable {X : Cx} {P : Pg} {cf : CF} {kk : Nat} {G : Gw} {ρ ρ' ρ0 : List Addr} {H H' H0 : Hp} {h h' : AH} {Q : VK} {a b c e tg : Expr} {a' b' c' d' tg' : E} {pos apos : Pos} {pins : List (Addr × Obj)} {σ : St} {s : Shared}
/-- a source and what the model walks -/
def SrcOk (G : Gw) (ρ0 : List Addr) (H0 : Hp) (src : Src) (J : It) : Prop := ∀ ρ H h i, Ext ρ0 H0 ρ H → RH G ρ h H →
  (∀ x h', src.at i h = .ok (some x) h' → h' = h ∧ J.go i H ∧ ∀ v H', J.yld i H v H' → Ext ρ H ρ H' ∧ RH G ρ h H' ∧ RV G ρ H' x v) ∧ ∀ h', src.at i h = .ok none h' → h' = h ∧ J.stop i H
theorem src_fix {xs : List AV} {J : It} {n : Nat} (hl : xs.length = n) (hg : ∀ i H, i < n → J.go i H) (hs : ∀ i H, n ≤ i → J.stop i H) (hy : ∀ ρ H, Ext ρ0 H0 ρ H → ∀ i x v H', xs[i]? = some x → J.yld i H v H' → H' = H ∧ RV G ρ H x v) : SrcOk G ρ0 H0 (.fix xs) J := by
  intro ρ H h i x0 R
  refine ⟨fun x h' e => ?_, fun h' e => ?_⟩
  · obtain ⟨ex, rfl⟩ := pure_inv (show (pure xs[i]? : M (Option AV)) h = .ok (some x) h' from e)
    have hi : i < n := by
      have := (List.getElem?_eq_some_iff.mp ex.symm).1
      omega
    refine ⟨rfl, hg i H hi, fun v H' y => ?_⟩
    obtain ⟨rfl, r⟩ := hy ρ H x0 i x v H' ex.symm y
    exact ⟨.refl, R, r⟩
  · obtain ⟨ex, rfl⟩ := pure_inv (show (pure xs[i]? : M (Option AV)) h = .ok none h' from e)
    have := List.getElem?_eq_none_iff.mp ex.symm
    exact ⟨rfl, hs i H (by omega)⟩
theorem src_tup {K : PySem.W.Frag} {p : Addr} {xs : List AV} {ys : List V} (ht : SqT K H0 p ys) (keep : ∀ ρ H, Ext ρ0 H0 ρ H → SqT K H p ys) (rs : RVs G ρ0 H0 xs ys) : SrcOk G ρ0 H0 (.fix xs) (Itt K p) := by
  intro ρ H h i x0 R
  have hT := keep ρ H x0
  have rs' := RVs.mono x0 _ rs
  refine ⟨fun x h' e => ?_, fun h' e => ?_⟩
  · obtain ⟨ex, rfl⟩ := pure_inv (show (pure xs[i]? : M (Option AV)) h = .ok (some x) h' from e)
    obtain ⟨y, g1, g2⟩ := rs'.get ex.symm
    refine ⟨rfl, ⟨ys, y, hT, g1⟩, fun v H' ⟨e1, e2⟩ => ?_⟩
    subst e1
    have := e2 ys hT
    rw [g1] at this
    cases this
    exact ⟨.refl, R, g2⟩
  · obtain ⟨ex, rfl⟩ := pure_inv (show (pure xs[i]? : M (Option AV)) h = .ok none h' from e)
    exact ⟨rfl, ys, hT, by rw [← rs'.length]; exact List.getElem?_eq_none_iff.mp ex.symm⟩
theorem src_lst {n : Nat} {p : Addr} (en : ρ0[n]? = some p) : SrcOk G ρ0 H0 (.lst n) (Itl G.K p) := by
  intro ρ H h i x0 R
  have rv : RV G ρ H (.ref n) (.ref p) := RV_ref.mpr ⟨p, x0.get en, rfl⟩
  refine ⟨fun x h' e => ?_, fun h' e => ?_⟩
  · obtain ⟨xs, h1, e1, e2⟩ := bind_inv (show (do let xs ← lstO n; pure xs[i]? : M (Option AV)) h = .ok (some x) h' from e)
    obtain ⟨g, rfl⟩ := lstO_inv e1
    obtain ⟨ex, rfl⟩ := pure_inv e2
    obtain ⟨q, ys, eq, _, hs, rs⟩ := R.lstR rv g
    cases eq
    obtain ⟨y, g1, g2⟩ := rs.get ex.symm
    refine ⟨rfl, ⟨ys, y, hs, g1⟩, fun v H' ⟨e1, e2⟩ => ?_⟩
    subst e1
    have := e2 ys hs
    rw [g1] at this
    cases this
    exact ⟨.refl, R, g2⟩
  · obtain ⟨xs, h1, e1, e2⟩ := bind_inv (show (do let xs ← lstO n; pure xs[i]? : M (Option AV)) h = .ok none h' from e)
    obtain ⟨g, rfl⟩ := lstO_inv e1
    obtain ⟨ex, rfl⟩ := pure_inv e2
    obtain ⟨q, ys, eq, _, hs, rs⟩ := R.lstR rv g
    cases eq
    exact ⟨rfl, ys, hs, by rw [← rs.length]; exact List.getElem?_eq_none_iff.mp ex.symm⟩
theorem src_ftp {n : Nat} {p : Addr} (en : ρ0[n]? = some p) : SrcOk G ρ0 H0 (.ftp n) (Itt G.K p) := by
  intro ρ H h i x0 R
  have rv : RV G ρ H (.ref n) (.ref p) := RV_ref.mpr ⟨p, x0.get en, rfl⟩
  refine ⟨fun x h' e => ?_, fun h' e => ?_⟩
  · replace e : (match h.get n with
      | some (.ftup xs) => .ok xs[i]? h
      | _ => .bad : Res (Option AV)) = .ok (some x) h' := e
    split at e
    · rename_i xs g
      injection e with e1 e2
      subst e2
      obtain ⟨q, ob, ys, eq, _, hs, _, rs⟩ := R.ftup rv g
      cases eq
      have hs' : SqT G.K H p ys := .inl (.inr ⟨ob, hs⟩)
      obtain ⟨y, g1, g2⟩ := rs.get e1
      refine ⟨rfl, ⟨ys, y, hs', g1⟩, fun v H' ⟨e1, e2⟩ => ?_⟩
      subst e1
      have := e2 ys hs'
      rw [g1] at this
      cases this
      exact ⟨.refl, R, g2⟩
    · cases e
  · replace e : (match h.get n with
      | some (.ftup xs) => .ok xs[i]? h
      | _ => .bad : Res (Option AV)) = .ok none h' := e
    split at e
    · rename_i xs g
      injection e with e1 e2
      subst e2
      obtain ⟨q, ob, ys, eq, _, hs, _, rs⟩ := R.ftup rv g
      cases eq
      exact ⟨rfl, ys, .inl (.inr ⟨ob, hs⟩), by rw [← rs.length]; exact List.getElem?_eq_none_iff.mp e1⟩
    · cases e
theorem src_enum {n : Nat} {p : Addr} (en : ρ0[n]? = some p) : SrcOk G ρ0 H0 (.enum (.lst n)) (Ite G.K p) := by
  intro ρ H h i x0 R
  have rv : RV G ρ H (.ref n) (.ref p) := RV_ref.mpr ⟨p, x0.get en, rfl⟩
  have key : ∀ {o : Option AV} {h'}, Src.at (.enum (.lst n)) i h = .ok o h' → ∃ xs, (h.get n = some (.lst xs) ∨ h.get n = some (.ro (.lst xs))) ∧ h' = h ∧ o = (xs[i]?).map fun x => .tup [.int i, x] := by
    intro o h' e
    obtain ⟨z, h1, e1, e2⟩ := bind_inv (show (do
      match ← (do let xs ← lstO n; pure xs[i]? : M (Option AV)) with
      | some x => pure (some (.tup [.int i, x]))
      | none => pure none : M (Option AV)) h = .ok o h' from e)
    obtain ⟨xs, h2, e3, e4⟩ := bind_inv e1
    obtain ⟨g, rfl⟩ := lstO_inv e3
    obtain ⟨rfl, rfl⟩ := pure_inv e4
    cases hx : xs[i]? with
    | none =>
      rw [hx] at e2
      obtain ⟨rfl, rfl⟩ := pure_inv e2
      exact ⟨xs, g, rfl, by rw [hx]; rfl⟩
    | some x =>
      rw [hx] at e2
      obtain ⟨rfl, rfl⟩ := pure_inv e2
      exact ⟨xs, g, rfl, by rw [hx]; rfl⟩
  refine ⟨fun x h' e => ?_, fun h' e => ?_⟩
  · obtain ⟨xs, g, rfl, eo⟩ := key e
    obtain ⟨x1, ex, rfl⟩ := Option.map_eq_some_iff.mp eo.symm
    obtain ⟨q, ys, eq, _, hs, rs⟩ := R.lstR rv g
    cases eq
    obtain ⟨y, g1, g2⟩ := rs.get ex
    refine ⟨rfl, ⟨ys, y, hs, g1⟩, fun v H' ⟨T, z, e1, e2, e3, e4⟩ => ?_⟩
    subst e1 e3
    have ez := e4 ys hs
    rw [g1] at ez
    cases ez
    obtain ⟨x2, R2⟩ := R.other (o := .tup [.int (i : Nat), y]) e2
    exact ⟨x2, R2, RV_tup.mpr ⟨T, _, rfl, upd_same, RVs.cons (by simp) (RVs.cons (RV.mono x2 _ g2) RVs.nil)⟩⟩
  · obtain ⟨xs, g, rfl, eo⟩ := key e
    have ex : xs[i]? = none := by
      cases hx : xs[i]? with
      | none => rfl
      | some x => rw [hx] at eo; cases eo
    obtain ⟨q, ys, eq, _, hs, rs⟩ := R.lstR rv g
    cases eq
    exact ⟨rfl, ys, hs, by rw [← rs.length]; exact List.getElem?_eq_none_iff.mp ex⟩
theorem at_lst {n i : Nat} {o : Option AV} (e : Src.at (.lst n) i h = .ok o h') : ∃ xs, (h.get n = some (.lst xs) ∨ h.get n = some (.ro (.lst xs))) ∧ h' = h ∧ o = xs[i]? := by
  obtain ⟨xs, h2, e3, e4⟩ := bind_inv (show (do let xs ← lstO n; pure xs[i]? : M (Option AV)) h = .ok o h' from e)
  obtain ⟨g, rfl⟩ := lstO_inv e3
  obtain ⟨rfl, rfl⟩ := pure_inv e4
  exact ⟨xs, g, rfl, rfl⟩
theorem at_fix {xs : List AV} {i : Nat} {o : Option AV} (e : Src.at (.fix xs) i h = .ok o h') : h' = h ∧ o = xs[i]? := by
  obtain ⟨rfl, rfl⟩ := pure_inv (show (pure xs[i]? : M (Option AV)) h = .ok o h' from e)
  exact ⟨rfl, rfl⟩
theorem at_zip {s1 s2 : Src} {i : Nat} {o : Option AV} (e : Src.at (.zip s1 s2) i h = .ok o h') :
    (∃ x y h1, s1.at i h = .ok (some x) h1 ∧ s2.at i h1 = .ok (some y) h' ∧ o = some (.tup [x, y])) ∨ (∃ h1 z, s1.at i h = .ok none h1 ∧ s2.at i h1 = .ok z h' ∧ o = none) ∨ (∃ x h1, s1.at i h = .ok (some x) h1 ∧ s2.at i h1 = .ok none h' ∧ o = none) := by
  obtain ⟨z, h1, e1, e2⟩ := bind_inv (show (do
    match ← s1.at i with
    | some x => do
      match ← s2.at i with
      | some y => pure (some (.tup [x, y]))
      | none => pure none
    | none => do
      let _ ← s2.at i
      pure none : M (Option AV)) h = .ok o h' from e)
  cases z with
  | none =>
    obtain ⟨z2, h2, e3, e4⟩ := bind_inv e2
    obtain ⟨rfl, rfl⟩ := pure_inv e4
    exact .inr (.inl ⟨h1, z2, e1, e3, rfl⟩)
  | some x =>
    obtain ⟨z2, h2, e3, e4⟩ := bind_inv e2
    cases z2 with
    | none =>
      obtain ⟨rfl, rfl⟩ := pure_inv e4
      exact .inr (.inr ⟨x, h1, e1, e3, rfl⟩)
    | some y =>
      obtain ⟨rfl, rfl⟩ := pure_inv e4
      exact .inl ⟨x, y, h1, e1, e3, rfl⟩
theorem src_zipL {n m : Nat} {p q : Addr} (en : ρ0[n]? = some p) (em : ρ0[m]? = some q) : SrcOk G ρ0 H0 (.zip (.lst n) (.lst m)) (Itz G.K p q) := by
  intro ρ H h i x0 R
  have rn : RV G ρ H (.ref n) (.ref p) := RV_ref.mpr ⟨p, x0.get en, rfl⟩
  have rm : RV G ρ H (.ref m) (.ref q) := RV_ref.mpr ⟨q, x0.get em, rfl⟩
  have read : ∀ {n : Nat} {p : Addr} {xs : List AV}, RV G ρ H (.ref n) (.ref p) → (h.get n = some (.lst xs) ∨ h.get n = some (.ro (.lst xs))) → ∃ ys, SqL G.K H p ys ∧ RVs G ρ H xs ys := fun r g => by
    obtain ⟨q, ys, eq, _, hs, rs⟩ := R.lstR r g
    cases eq
    exact ⟨ys, hs, rs⟩
  refine ⟨fun x h' e => ?_, fun h' e => ?_⟩
  · rcases at_zip e with ⟨x1, y1, h1, e1, e2, ex⟩ | ⟨_, _, _, _, ex⟩ | ⟨_, _, _, _, ex⟩
    · cases ex
      obtain ⟨xs, g1, rfl, k1⟩ := at_lst e1
      obtain ⟨zs, g2, rfl, k2⟩ := at_lst e2
      obtain ⟨ys, hs, rs⟩ := read rn g1
      obtain ⟨ws, hs2, rs2⟩ := read rm g2
      obtain ⟨v1, j1, j2⟩ := rs.get k1.symm
      obtain ⟨v2, j3, j4⟩ := rs2.get k2.symm
      refine ⟨rfl, ⟨ys, ws, v1, v2, hs, hs2, j1, j3⟩, fun v H' ⟨T, z1, z2, e3, e4, e5, e6, e7⟩ => ?_⟩
      subst e3 e5
      have t1 := e6 ys hs
      rw [j1] at t1
      cases t1
      have t2 := e7 ws hs2
      rw [j3] at t2
      cases t2
      obtain ⟨x2, R2⟩ := R.other (o := .tup [v1, v2]) e4
      exact ⟨x2, R2, RV_tup.mpr ⟨T, _, rfl, upd_same, RVs.cons (RV.mono x2 _ j2) (RVs.cons (RV.mono x2 _ j4) RVs.nil)⟩⟩
    · cases ex
    · cases ex
  · rcases at_zip e with ⟨_, _, _, _, _, ex⟩ | ⟨h1, z, e1, e2, _⟩ | ⟨x1, h1, e1, e2, _⟩
    · cases ex
    · obtain ⟨xs, g1, rfl, k1⟩ := at_lst e1
      obtain ⟨zs, g2, rfl, k2⟩ := at_lst e2
      obtain ⟨ys, hs, rs⟩ := read rn g1
      obtain ⟨ws, hs2, rs2⟩ := read rm g2
      exact ⟨rfl, ys, ws, hs, hs2, .inl (by rw [← rs.length]; exact List.getElem?_eq_none_iff.mp k1.symm)⟩
    · obtain ⟨xs, g1, rfl, k1⟩ := at_lst e1
      obtain ⟨zs, g2, rfl, k2⟩ := at_lst e2
      obtain ⟨ys, hs, rs⟩ := read rn g1
      obtain ⟨ws, hs2, rs2⟩ := read rm g2
      exact ⟨rfl, ys, ws, hs, hs2, .inr (by rw [← rs2.length]; exact List.getElem?_eq_none_iff.mp k2.symm)⟩
theorem src_zipT {K : PySem.W.Frag} {p q : Addr} {xs zs : List AV} {ys ws : List V} (k1 : ∀ ρ H, Ext ρ0 H0 ρ H → SqT K H p ys) (k2 : ∀ ρ H, Ext ρ0 H0 ρ H → SqT K H q ws) (r1 : RVs G ρ0 H0 xs ys) (r2 : RVs G ρ0 H0 zs ws) : SrcOk G ρ0 H0 (.zip (.fix xs) (.fix zs)) (RZ.ItzT K p q) := by
  intro ρ H h i x0 R
  have hs := k1 ρ H x0
  have hs2 := k2 ρ H x0
  have rs := RVs.mono x0 _ r1
  have rs2 := RVs.mono x0 _ r2
  refine ⟨fun x h' e => ?_, fun h' e => ?_⟩
  · rcases at_zip e with ⟨x1, y1, h1, e1, e2, ex⟩ | ⟨_, _, _, _, ex⟩ | ⟨_, _, _, _, ex⟩
    · cases ex
      obtain ⟨rfl, k1⟩ := at_fix e1
      obtain ⟨rfl, k2⟩ := at_fix e2
      obtain ⟨v1, j1, j2⟩ := rs.get k1.symm
      obtain ⟨v2, j3, j4⟩ := rs2.get k2.symm
      refine ⟨rfl, ⟨ys, ws, v1, v2, hs, hs2, j1, j3⟩, fun v H' ⟨T, z1, z2, e3, e4, e5, e6, e7⟩ => ?_⟩
      subst e3 e5
      have t1 := e6 ys hs
      rw [j1] at t1
      cases t1
      have t2 := e7 ws hs2
      rw [j3] at t2
      cases t2
      obtain ⟨x2, R2⟩ := R.other (o := .tup [v1, v2]) e4
      exact ⟨x2, R2, RV_tup.mpr ⟨T, _, rfl, upd_same, RVs.cons (RV.mono x2 _ j2) (RVs.cons (RV.mono x2 _ j4) RVs.nil)⟩⟩
    · cases ex
    · cases ex
  · rcases at_zip e with ⟨_, _, _, _, _, ex⟩ | ⟨h1, z, e1, e2, _⟩ | ⟨x1, h1, e1, e2, _⟩
    · cases ex
    · obtain ⟨rfl, k1⟩ := at_fix e1
      obtain ⟨rfl, k2⟩ := at_fix e2
      exact ⟨rfl, ys, ws, hs, hs2, .inl (by rw [← rs.length]; exact List.getElem?_eq_none_iff.mp k1.symm)⟩
    · obtain ⟨rfl, k1⟩ := at_fix e1
      obtain ⟨rfl, k2⟩ := at_fix e2
      exact ⟨rfl, ys, ws, hs, hs2, .inr (by rw [← rs2.length]; exact List.getElem?_eq_none_iff.mp k2.symm)⟩
/-- a row that a zip walks along -/
def ChOk (G : Gw) (ρ0 : List Addr) (H0 : Hp) (s : Src) (k : Ck) : Prop := ∀ ρ H h i o h', Ext ρ0 H0 ρ H → RH G ρ h H → s.at i h = .ok o h' → ∃ xs ys, (∀ j o' h'', s.at j h = .ok o' h'' → h'' = h ∧ o' = xs[j]?) ∧ k.Sq G.K H ys ∧ RVs G ρ H xs ys
theorem ch_lst {n : Nat} {p : Addr} (en : ρ0[n]? = some p) : ChOk G ρ0 H0 (.lst n) (.l p) := fun ρ H h i o h' x0 R e => by
  have rn : RV G ρ H (.ref n) (.ref p) := RV_ref.mpr ⟨p, x0.get en, rfl⟩
  obtain ⟨xs, g, rfl, k⟩ := at_lst e
  obtain ⟨q, ys, eq, _, hs, rs⟩ := R.lstR rn g
  cases eq
  refine ⟨xs, ys, fun j o' h'' e' => ?_, hs, rs⟩
  obtain ⟨xs', g', rfl, k'⟩ := at_lst e'
  have : xs' = xs := by
    rcases g with g | g <;> rcases g' with g' | g' <;> rw [g] at g' <;> cases g' <;> rfl
  subst this
  exact ⟨rfl, k'⟩
theorem ch_tup {p : Addr} {xs : List AV} {ys : List V} (k1 : ∀ ρ H, Ext ρ0 H0 ρ H → SqT G.K H p ys) (r1 : RVs G ρ0 H0 xs ys) : ChOk G ρ0 H0 (.fix xs) (.t p) := fun ρ H h i o h' x0 R e =>
  ⟨xs, ys, fun j o' h'' e' => at_fix e', k1 ρ H x0, RVs.mono x0 _ r1⟩
theorem ch_str (x : List Nat) : ChOk G ρ0 H0 (.fix (x.map fun c => .str [c])) (.s (cStr x)) := fun ρ H h i o h' x0 R e => by
  refine ⟨_, _, fun j o' h'' e' => at_fix e', rfl, ?_⟩
  show RVs G ρ H (x.map fun c => .str [c]) ((cStr x).cps.toList.map fun c => V.str ⟨#[c]⟩)
  have : (cStr x).cps.toList = x := by simp [cStr]
  rw [this]
  clear e
  induction x with
  | nil => exact RVs.nil
  | cons c x ih => exact RVs.cons (by simp [cStr]) (ih (by simp [cStr]))
theorem src_zipG {s1 s2 : Src} {k1 k2 : Ck} (c1 : ChOk G ρ0 H0 s1 k1) (c2 : ChOk G ρ0 H0 s2 k2) : SrcOk G ρ0 H0 (.zipG s1 s2) (ItG G.K k1 k2) := by
  intro ρ H h i x0 R
  have key : ∀ {o : Option AV} {h'}, Src.at (.zipG s1 s2) i h = .ok o h' → ∃ xs ys zs ws, h' = h ∧ k1.Sq G.K H ys ∧ RVs G ρ H xs ys ∧ k2.Sq G.K H ws ∧ RVs G ρ H zs ws ∧ ((∃ x y, xs[i]? = some x ∧ zs[i]? = some y ∧ o = some (.tup [x, y])) ∨ (o = none ∧ (xs[i]? = none ∨ zs[i]? = none) ∧ (i = 0 ∨ ((xs[i - 1]?).isSome ∧ (zs[i - 1]?).isSome)))) := by
    intro o h' e
    obtain ⟨o1, h1, e1, e2⟩ := bind_inv (show (do
      let o ← s1.at i
      let o' ← s2.at i
      match o, o' with
      | some x, some y => pure (some (.tup [x, y]))
      | _, _ => do
        let p ← s1.at (i - 1)
        let p' ← s2.at (i - 1)
        guardM (decide (i = 0) || (p.isSome && p'.isSome))
        pure none : M (Option AV)) h = .ok o h' from e)
    obtain ⟨o2, h2, e3, e4⟩ := bind_inv e2
    obtain ⟨xs, ys, f1, q1, r1⟩ := c1 ρ H h i o1 h1 x0 R e1
    obtain ⟨rfl, k1'⟩ := f1 _ _ _ e1
    obtain ⟨zs, ws, f2, q2, r2⟩ := c2 ρ H _ i o2 h2 x0 R e3
    obtain ⟨rfl, k2'⟩ := f2 _ _ _ e3
    have late : ∀ {m : M (Option AV)}, m = (do
        let p ← s1.at (i - 1)
        let p' ← s2.at (i - 1)
        guardM (decide (i = 0) || (p.isSome && p'.isSome))
        pure none : M (Option AV)) → m h2 = .ok o h' → h' = h2 ∧ o = none ∧ (i = 0 ∨ ((xs[i - 1]?).isSome ∧ (zs[i - 1]?).isSome)) := by
      intro m em e
      subst em
      obtain ⟨p, h3, e5, e6⟩ := bind_inv e
      obtain ⟨p', h4, e7, e8⟩ := bind_inv e6
      obtain ⟨_, h5, e9, e10⟩ := bind_inv e8
      obtain ⟨rfl, j1⟩ := f1 _ _ _ e5
      obtain ⟨rfl, j2⟩ := f2 _ _ _ e7
      obtain ⟨gd, rfl⟩ := guardM_inv e9
      obtain ⟨rfl, rfl⟩ := pure_inv e10
      rw [Bool.or_eq_true, Bool.and_eq_true] at gd
      refine ⟨rfl, rfl, ?_⟩
      rcases gd with gd | gd
      · exact .inl (of_decide_eq_true gd)
      · rw [j1, j2] at gd; exact .inr gd
    cases o1 with
    | none =>
      obtain ⟨rfl, rfl, l⟩ := late rfl e4
      exact ⟨xs, ys, zs, ws, rfl, q1, r1, q2, r2, .inr ⟨rfl, .inl k1'.symm, l⟩⟩
    | some x =>
      cases o2 with
      | none =>
        obtain ⟨rfl, rfl, l⟩ := late rfl e4
        exact ⟨xs, ys, zs, ws, rfl, q1, r1, q2, r2, .inr ⟨rfl, .inr k2'.symm, l⟩⟩
      | some y =>
        obtain ⟨rfl, rfl⟩ := pure_inv e4
        exact ⟨xs, ys, zs, ws, rfl, q1, r1, q2, r2, .inl ⟨x, y, k1'.symm, k2'.symm, rfl⟩⟩
  refine ⟨fun x h' e => ?_, fun h' e => ?_⟩
  · obtain ⟨xs, ys, zs, ws, rfl, q1, r1, q2, r2, ⟨x1, y1, g1, g2, ex⟩ | ⟨ex, _⟩⟩ := key e
    · cases ex
      obtain ⟨v1, j1, j2⟩ := r1.get g1
      obtain ⟨v2, j3, j4⟩ := r2.get g2
      refine ⟨rfl, ⟨ys, ws, v1, v2, q1, q2, j1, j3⟩, fun v H' ⟨T, z1, z2, e3, e4, e5, e6, e7⟩ => ?_⟩
      subst e3 e5
      have t1 := e6 ys q1
      rw [j1] at t1
      cases t1
      have t2 := e7 ws q2
      rw [j3] at t2
      cases t2
      obtain ⟨x2, R2⟩ := R.other (o := .tup [v1, v2]) e4
      exact ⟨x2, R2, RV_tup.mpr ⟨T, _, rfl, upd_same, RVs.cons (RV.mono x2 _ j2) (RVs.cons (RV.mono x2 _ j4) RVs.nil)⟩⟩
    · cases ex
  · obtain ⟨xs, ys, zs, ws, rfl, q1, r1, q2, r2, ⟨x1, y1, g1, g2, ex⟩ | ⟨ex, g, l⟩⟩ := key e
    · cases ex
    · have l1 := r1.length
      have l2 := r2.length
      have b : i ≤ xs.length ∧ i ≤ zs.length := by
        rcases l with l | ⟨l3, l4⟩
        · omega
        · obtain ⟨a, ha⟩ := Option.isSome_iff_exists.mp l3
          obtain ⟨c, hc⟩ := Option.isSome_iff_exists.mp l4
          have := (List.getElem?_eq_some_iff.mp ha).1
          have := (List.getElem?_eq_some_iff.mp hc).1
          omega
      refine ⟨rfl, ys, ws, q1, q2, by omega, by omega, ?_⟩
      rcases g with g | g
      · have := List.getElem?_eq_none_iff.mp g; exact .inl (by omega)
      · have := List.getElem?_eq_none_iff.mp g; exact .inr (by omega)
theorem src_enumT {p : Addr} {xs : List AV} {ys : List V} (k1 : ∀ ρ H, Ext ρ0 H0 ρ H → SqT G.K H p ys) (r1 : RVs G ρ0 H0 xs ys) : SrcOk G ρ0 H0 (.enumT xs) (IteG G.K (.t p)) := by
  intro ρ H h i x0 R
  have rs := RVs.mono x0 _ r1
  have hs : Ck.Sq G.K H (.t p) ys := k1 ρ H x0
  have e0 : Src.at (.enumT xs) i h = (match xs[i]? with
    | some x => pure (some (.tup [.int i, x]))
    | none => do
      guardM (decide (i = xs.length))
      pure none : M (Option AV)) h := rfl
  refine ⟨fun x h' e => ?_, fun h' e => ?_⟩
  · rw [e0] at e
    cases g : xs[i]? with
    | none =>
      rw [g] at e
      obtain ⟨_, _, _, e2⟩ := bind_inv e
      cases (pure_inv e2).1
    | some x1 =>
      rw [g] at e
      obtain ⟨ex, rfl⟩ := pure_inv e
      cases ex
      obtain ⟨y, g1, g2⟩ := rs.get g
      refine ⟨rfl, ⟨ys, y, hs, g1⟩, fun v H' ⟨T, z, e1, e2, e3, e4⟩ => ?_⟩
      subst e1 e3
      have ez := e4 ys hs
      rw [g1] at ez
      cases ez
      obtain ⟨x2, R2⟩ := R.other (o := .tup [.int (i : Nat), y]) e2
      exact ⟨x2, R2, RV_tup.mpr ⟨T, _, rfl, upd_same, RVs.cons (by simp) (RVs.cons (RV.mono x2 _ g2) RVs.nil)⟩⟩
  · rw [e0] at e
    cases g : xs[i]? with
    | some x1 =>
      rw [g] at e
      cases (pure_inv e).1
    | none =>
      rw [g] at e
      obtain ⟨_, h1, e1, e2⟩ := bind_inv e
      obtain ⟨gd, rfl⟩ := guardM_inv e1
      obtain ⟨_, rfl⟩ := pure_inv e2
      exact ⟨rfl, ys, hs, by rw [← rs.length]; exact (of_decide_eq_true gd).symm⟩
theorem src_rng {lo : Int} {n : Nat} {hi : Int} (hn : (hi - lo).toNat = n) : SrcOk G ρ0 H0 (.fix (rangeA lo hi)) (Itr lo n) := by
  refine src_fix (n := n) (by simp [rangeA, hn]) (fun _ _ k => k) (fun _ _ k => k) fun ρ H x0 i x v H' e ⟨e1, e2⟩ => ⟨e1, ?_⟩
  subst e2
  unfold rangeA at e
  rw [hn, List.getElem?_map] at e
  obtain ⟨k, ek, rfl⟩ := Option.map_eq_some_iff.mp e
  rw [List.getElem?_range (by have := (List.getElem?_eq_some_iff.mp ek).1; simpa using this)] at ek
  cases ek
  simp
theorem src_str (x : List Nat) : SrcOk G ρ0 H0 (.fix (x.map fun c => .str [c])) (Its (cStr x)) := by
  refine src_fix (n := x.length) (by simp) (fun _ _ k => by simpa [Its, cStr] using k) (fun _ _ k => by simpa [Its, cStr] using k) fun ρ H x0 i y v H' e ⟨e1, c, e2, e3⟩ => ⟨e1, ?_⟩
  subst e3
  rw [List.getElem?_map] at e
  obtain ⟨k, ek, rfl⟩ := Option.map_eq_some_iff.mp e
  have : (cStr x).cps[i]? = x[i]? := by simp [cStr]
  rw [this, ek] at e2
  cases e2
  simp [cStr]
end
end PM
end
section
set_option maxHeartbeats 1000000
/-! PMQ: iterables; for, while, comprehensions. -/
namespace PM
open PySem PySem.Spec L2
section
variable {X : Cx} {P : Pg} {cf : CF} {kk : Nat} {G : Gw} {ρ ρ' ρ0 : List Addr} {H H' H0 : Hp} {h h' : AH} {Q : VK} {a b c e tg : Expr} {a' b' c' d' tg' : E} {pos apos : Pos} {pins : List (Addr × Obj)} {σ : St} {s : Shared}
def WI (P : Pg) (cf : CF) (G : Gw) (ik : IK) (e : E) : TI := fun σ H R => ∃ ρ h σ' vs h1 src h', RH G ρ h H ∧ RS G ρ H σ' σ ∧ evA P cf e σ' h = .ok vs h1 ∧ srcK ik vs h1 = .ok src h' ∧ ∀ ρ' H' J, Ext ρ H ρ' H' → RH G ρ' h' H' → SrcOk G ρ' H' src J → R J H'
theorem one_inv {x' : E} {σ' : Loc} {vs : List AV} (e : evA P cf (.cons x' .nil) σ' h = .ok vs h') : ∃ x, evE P cf x' σ' h = .ok x h' ∧ vs = [x] := by
  rw [evA] at e
  obtain ⟨x, h1, e1, e2⟩ := bind_inv e
  obtain ⟨xs, h2, e3, e4⟩ := bind_inv e2
  rw [evA] at e3
  obtain ⟨rfl, rfl⟩ := pure_inv e3
  obtain ⟨rfl, rfl⟩ := pure_inv e4
  exact ⟨x, e1, rfl⟩
theorem lst_inv {x : AV} {src : Src} (e : srcOf x h = .ok src h') {n : Nat} (hs : src = .lst n) : x = .ref n ∧ h' = h ∧ ∃ xs, h.get n = some (.lst xs) ∨ h.get n = some (.ro (.lst xs)) := by
  subst hs
  unfold srcOf at e
  split at e
  · cases (pure_inv e).1
  · cases (pure_inv e).1
  · cases (pure_inv e).1
  · obtain ⟨o, h1, e1, e2⟩ := bind_inv e
    obtain ⟨g, rfl⟩ := getO_inv e1
    split at e2
    · obtain ⟨e3, rfl⟩ := pure_inv e2
      cases e3
      exact ⟨rfl, rfl, _, .inl g⟩
    · obtain ⟨e3, rfl⟩ := pure_inv e2
      cases e3
      exact ⟨rfl, rfl, _, .inr g⟩
    · cases (pure_inv e2).1
    · cases e2
  · cases e
theorem ftp_inv {x : AV} {src : Src} (e : srcOf x h = .ok src h') {n : Nat} (hs : src = .ftp n) : x = .ref n ∧ h' = h ∧ ∃ xs, h.get n = some (.ftup xs) := by
  subst hs
  unfold srcOf at e
  split at e
  · cases (pure_inv e).1
  · cases (pure_inv e).1
  · cases (pure_inv e).1
  · obtain ⟨o, h1, e1, e2⟩ := bind_inv e
    obtain ⟨g, rfl⟩ := getO_inv e1
    split at e2
    · cases (pure_inv e2).1
    · cases (pure_inv e2).1
    · obtain ⟨e3, rfl⟩ := pure_inv e2
      cases e3
      exact ⟨rfl, rfl, _, g⟩
    · cases e2
  · cases e
theorem wi_self (C : Ctx P G X) (ha : PE X a (WE P cf G a')) : PI X tg a (WI P cf G .self (.cons a' .nil)) :=
  ⟨fun pins s σ H R I ⟨ρ, h, σ', vs, h1, src, h', RR, S, e1, e2, D⟩ => by
    obtain ⟨x, e3, rfl⟩ := one_inv e1
    replace e2 : srcOf x h1 = .ok src h' := e2
    cases x <;> first | (cases e2; done) | skip
    · rename_i y
      obtain ⟨rfl, rfl⟩ := pure_inv (show (pure (.fix (y.map fun c => .str [c])) : M Src) h1 = .ok src h' from e2)
      refine (pi_str ha).run pins s σ H R I (WE.mk RR S e3 fun ρ1 H1 v x1 R1 S1 r1 => ?_)
      exact ⟨_, RV_str.mp r1, D _ _ _ x1 R1 (src_str _)⟩
    · rename_i y
      obtain ⟨rfl, rfl⟩ := pure_inv (show (pure (.fix y) : M Src) h1 = .ok src h' from e2)
      refine (pi_tup ha).run pins s σ H R I (WE.mk RR S e3 fun ρ1 H1 v x1 R1 S1 r1 => ?_)
      obtain ⟨p, ys, rfl, ht, rs⟩ := RV_tup.mp r1
      exact ⟨p, rfl, ⟨ys, SqT.of ht⟩, D _ _ _ x1 R1 (src_tup (SqT.of ht) (fun ρ2 H2 x2 => SqT.of (x2.tup p ys ht)) rs)⟩
    · rename_i n
      have isL : (∃ n0, src = .lst n0) ∨ ∃ n0, src = .ftp n0 := by
        obtain ⟨o, h2, g1, g2⟩ := bind_inv (show (do
          match ← getO n with
          | .lst _ => pure (.lst n)
          | .ro (.lst _) => pure (.lst n)
          | .ftup _ => pure (.ftp n)
          | _ => bad : M Src) h1 = .ok src h' from e2)
        split at g2
        · obtain ⟨rfl, _⟩ := pure_inv g2; exact .inl ⟨n, rfl⟩
        · obtain ⟨rfl, _⟩ := pure_inv g2; exact .inl ⟨n, rfl⟩
        · obtain ⟨rfl, _⟩ := pure_inv g2; exact .inr ⟨n, rfl⟩
        · cases g2
      rcases isL with ⟨n0, rfl⟩ | ⟨n0, rfl⟩
      rotate_left
      · obtain ⟨ex, rfl, xs, g⟩ := ftp_inv e2 rfl
        cases ex
        refine (pi_tup ha).run pins s σ H R I (WE.mk RR S e3 fun ρ1 H1 v x1 R1 S1 r1 => ?_)
        obtain ⟨q, ob, ys, rfl, en, hs, _, rs⟩ := R1.ftup r1 g
        exact ⟨q, rfl, ⟨ys, .inl (.inr ⟨ob, hs⟩)⟩, D _ _ _ x1 R1 (by rw [C.hK]; exact src_ftp en)⟩
      obtain ⟨ex, rfl, xs, g⟩ := lst_inv e2 rfl
      cases ex
      refine (pi_list ha).run pins s σ H R I (WE.mk RR S e3 fun ρ1 H1 v x1 R1 S1 r1 => ?_)
      obtain ⟨q, ys, rfl, en, hs, rs⟩ := R1.lstR r1 g
      exact ⟨q, rfl, ⟨ys, by rw [C.hK]; exact hs⟩, D _ _ _ x1 R1 (by rw [C.hK]; exact src_lst en)⟩
    · rename_i y
      obtain ⟨rfl, rfl⟩ := pure_inv (show (pure (.fix y) : M Src) h1 = .ok src h' from e2)
      refine (pi_tup ha).run pins s σ H R I (WE.mk RR S e3 fun ρ1 H1 v x1 R1 S1 r1 => ?_)
      obtain ⟨p, ys, rfl, ht, rs⟩ := RV_ktp.mp r1
      have ht' : KTup X.K p ys := by rw [C.hK]; exact ht
      exact ⟨p, rfl, ⟨ys, .inr ht'⟩, D _ _ _ x1 R1 (src_tup (.inr ht') (fun ρ2 H2 x2 => .inr ht') rs)⟩⟩
theorem wi_range1 {p : Pos} (hg : Gl X "range") (hm : X.mg "range" = none) (hn : noStar [a] = true) (ha : PA X [a] (WA P cf G (.cons a' .nil))) : PI X tg (.Call (.Name "range" p) [a] [] pos) (WI P cf G .range (.cons a' .nil)) :=
  ⟨fun pins s σ H R I ⟨ρ, h, σ', vs, h1, src, h', RR, S, e1, e2, D⟩ => by
    refine (pi_range1 hg hm ha (starEach_cons hn _)).run pins s σ H R I ?_
    refine WA.mk RR S e1 fun ρ1 H1 v x1 R1 S1 r1 => ?_
    obtain ⟨x, e3, rfl⟩ := one_inv e1
    obtain ⟨u, rfl, ru⟩ := rvs1 r1
    unfold srcK at e2
    cases x <;> first | (cases e2; done) | skip
    rename_i i
    obtain ⟨_, h2, e4, e5⟩ := bind_inv e2
    obtain ⟨q1, rfl⟩ := guardM_inv e4
    obtain ⟨rfl, rfl⟩ := pure_inv e5
    obtain rfl := RV_int.mp ru
    have q2 := of_decide_eq_true q1
    exact ⟨i, rfl, q2.1, q2.2, D _ _ _ x1 R1 (src_rng (by simp))⟩⟩
theorem two_inv {x' y' : E} {σ' : Loc} {vs : List AV} (e : evA P cf (.cons x' (.cons y' .nil)) σ' h = .ok vs h') : ∃ x y, vs = [x, y] := by
  rw [evA] at e
  obtain ⟨x, h1, e1, e2⟩ := bind_inv e
  obtain ⟨xs, h2, e3, e4⟩ := bind_inv e2
  obtain ⟨y, _, rfl⟩ := one_inv e3
  obtain ⟨rfl, rfl⟩ := pure_inv e4
  exact ⟨x, y, rfl⟩
theorem wi_range2 {p : Pos} (hg : Gl X "range") (hm : X.mg "range" = none) (hn : noStar [a, b] = true) (ha : PA X [a, b] (WA P cf G (.cons a' (.cons b' .nil)))) : PI X tg (.Call (.Name "range" p) [a, b] [] pos) (WI P cf G .range (.cons a' (.cons b' .nil))) :=
  ⟨fun pins s σ H R I ⟨ρ, h, σ', vs, h1, src, h', RR, S, e1, e2, D⟩ => by
    refine (pi_range2 hg hm ha (by rw [starEach_cons hn, starEach_cons (noStar_tl hn)]; rfl) (starEach_cons (noStar_tl hn) _)).run pins s σ H R I ?_
    refine WA.mk RR S e1 fun ρ1 H1 v x1 R1 S1 r1 => ?_
    obtain ⟨x, y, rfl⟩ := two_inv e1
    obtain ⟨u, u', rfl, ru, ru'⟩ := rvs2 r1
    unfold srcK at e2
    cases x <;> first | (cases e2; done) | skip
    cases y <;> first | (cases e2; done) | skip
    rename_i i j
    obtain ⟨_, h2, e4, e5⟩ := bind_inv e2
    obtain ⟨q1, rfl⟩ := guardM_inv e4
    obtain ⟨rfl, rfl⟩ := pure_inv e5
    obtain rfl := RV_int.mp ru
    obtain rfl := RV_int.mp ru'
    rw [Bool.and_eq_true] at q1
    have q2 := of_decide_eq_true q1.1
    have q3 := of_decide_eq_true q1.2
    exact ⟨i, j, rfl, ⟨q2.1, q2.2, q3.1, q3.2⟩, D _ _ _ x1 R1 (src_rng rfl)⟩⟩
theorem tup_inv {x : AV} {xs : List AV} {h h' : AH} (e : srcOf x h = .ok (.fix xs) h') : h' = h ∧ (x = .tup xs ∨ x = .ktp xs ∨ ∃ y, x = .str y ∧ xs = y.map fun c => .str [c]) := by
  unfold srcOf at e
  split at e
  · obtain ⟨e1, rfl⟩ := pure_inv e; cases e1; exact ⟨rfl, .inr (.inr ⟨_, rfl, rfl⟩)⟩
  · obtain ⟨e1, rfl⟩ := pure_inv e; cases e1; exact ⟨rfl, .inl rfl⟩
  · obtain ⟨e1, rfl⟩ := pure_inv e; cases e1; exact ⟨rfl, .inr (.inl rfl)⟩
  · obtain ⟨o, h1, e1, e2⟩ := bind_inv e
    split at e2
    · cases (pure_inv e2).1
    · cases (pure_inv e2).1
    · cases (pure_inv e2).1
    · cases e2
  · cases e
theorem src_kinds {x : AV} {src : Src} {h h' : AH} (hf : src.isFt = false) (e : srcOf x h = .ok src h') : (∃ n, src = .lst n) ∨ ∃ xs, src = .fix xs := by
  unfold srcOf at e
  split at e
  · exact .inr ⟨_, (pure_inv e).1⟩
  · exact .inr ⟨_, (pure_inv e).1⟩
  · exact .inr ⟨_, (pure_inv e).1⟩
  · obtain ⟨o, h1, e1, e2⟩ := bind_inv e
    split at e2
    · exact .inl ⟨_, (pure_inv e2).1⟩
    · exact .inl ⟨_, (pure_inv e2).1⟩
    · rw [(pure_inv e2).1] at hf
      cases hf
    · cases e2
  · cases e
/-- one of the two that a mixed zip walks -/
theorem ch_of {x : AV} {src : Src} {u : V} {h0 : AH} {ρ1 : List Addr} {H1 : Hp} (ck : ckA x = true) (hf : src.isFt = false) (e : srcOf x h = .ok src h') (R1 : RH G ρ1 h H1) (r : RV G ρ1 H1 x u) :
    h' = h ∧ ∃ k ys, Ck.val k u ∧ k.Sq G.K H1 ys ∧ ChOk G ρ1 H1 src k := by
  rcases src_kinds hf e with ⟨n, rfl⟩ | ⟨xs, rfl⟩
  · obtain ⟨rfl, rfl, zs, g⟩ := lst_inv e rfl
    obtain ⟨q, ys, rfl, en, hs, rs⟩ := R1.lstR r g
    exact ⟨rfl, .l q, ys, rfl, hs, ch_lst en⟩
  · obtain ⟨rfl, rfl | rfl | ⟨y, rfl, rfl⟩⟩ := tup_inv e
    · obtain ⟨q, ys, rfl, ht, rs⟩ := RV_tup.mp r
      exact ⟨rfl, .t q, ys, rfl, SqT.of ht, ch_tup (fun ρ2 H2 x2 => SqT.of (x2.tup q ys ht)) rs⟩
    · cases ck
    · obtain rfl := RV_str.mp r
      exact ⟨rfl, .s (cStr y), _, rfl, rfl, ch_str y⟩
theorem wi_enum {p tpos : Pos} {elts : List Expr} {k : Nat} (C : Ctx P G X) (hg : Gl X "enumerate") (hm : X.mg "enumerate" = none) (hn : noStar [a] = true) (ha : PA X [a] (WA P cf G (.cons a' .nil))) : PI X (.Tuple elts k tpos) (.Call (.Name "enumerate" p) [a] [] pos) (WI P cf G .enum (.cons a' .nil)) :=
  ⟨fun pins s σ H R I ⟨ρ, h, σ', vs, h1, src, h', RR, S, e1, e2, D⟩ => by
    refine (pi_enumX hg hm ha (starEach_cons hn _)).run pins s σ H R I ?_
    refine WA.mk RR S e1 fun ρ1 H1 v x1 R1 S1 r1 => ?_
    obtain ⟨x, e3, rfl⟩ := one_inv e1
    obtain ⟨u, rfl, ru⟩ := rvs1 r1
    obtain ⟨src0, h2, e4, e5⟩ := bind_inv (show (do
      let s ← srcOf x
      match s, x with
      | .lst p, _ => pure (.enum (.lst p))
      | .fix xs, .tup _ => pure (.enumT xs)
      | _, _ => bad : M Src) h1 = .ok src h' from e2)
    split at e5
    · rename_i n
      obtain ⟨rfl, rfl⟩ := pure_inv e5
      obtain ⟨rfl, rfl, xs, g⟩ := lst_inv e4 rfl
      obtain ⟨q, ys, rfl, en, hs, rs⟩ := R1.lstR ru g
      exact .inl ⟨q, ys, rfl, by rw [C.hK]; exact hs, D _ _ _ x1 R1 (by rw [C.hK]; exact src_enum en)⟩
    · rename_i xs _ _
      obtain ⟨rfl, rfl⟩ := pure_inv e5
      obtain ⟨rfl, q | q | ⟨y, q, _⟩⟩ := tup_inv e4
      · cases q
        obtain ⟨q, ys, rfl, ht, rs⟩ := RV_tup.mp ru
        exact .inr ⟨.t q, _, ys, rfl, rfl, by rw [C.hK]; exact SqT.of ht, D _ _ _ x1 R1 (by rw [C.hK]; exact src_enumT (fun ρ2 H2 x2 => SqT.of (x2.tup q ys ht)) rs)⟩
      · cases q
      · cases q
    · cases e5⟩
theorem wi_zip {p tpos : Pos} {elts : List Expr} {k : Nat} (C : Ctx P G X) (hg : Gl X "zip") (hm : X.mg "zip" = none) (hn : noStar [a, b] = true) (ha : PA X [a, b] (WA P cf G (.cons a' (.cons b' .nil)))) : PI X (.Tuple elts k tpos) (.Call (.Name "zip" p) [a, b] [] pos) (WI P cf G .zip (.cons a' (.cons b' .nil))) :=
  ⟨fun pins s σ H R I ⟨ρ, h, σ', vs, h1, src, h', RR, S, e1, e2, D⟩ => by
    refine (pi_zipX hg hm ha (starEach_cons hn _) (backTo_any (noStar_tl hn) _ _)).run pins s σ H R I ?_
    refine WA.mk RR S e1 fun ρ1 H1 v x1 R1 S1 r1 => ?_
    obtain ⟨x, y, rfl⟩ := two_inv e1
    obtain ⟨u, u', rfl, ru, ru'⟩ := rvs2 r1
    obtain ⟨s1, h2, e4, e5⟩ := bind_inv (show (do
      let s ← srcOf x
      let t ← srcOf y
      match s, t, x, y with
      | .lst p, .lst q, _, _ => pure (.zip (.lst p) (.lst q))
      | .fix u, .fix w, .tup _, .tup _ => pure (.zip (.fix u) (.fix w))
      | _, _, x, y => do
        guardM (ckA x && ckA y && !s.isFt && !t.isFt)
        pure (.zipG s t) : M Src) h1 = .ok src h' from e2)
    obtain ⟨s2, h3, e6, e7⟩ := bind_inv e5
    split at e7
    · rename_i n m
      obtain ⟨rfl, rfl⟩ := pure_inv e7
      obtain ⟨rfl, rfl, xs, g⟩ := lst_inv e4 rfl
      obtain ⟨rfl, rfl, zs, g2⟩ := lst_inv e6 rfl
      obtain ⟨q, ys, rfl, en, hs, rs⟩ := R1.lstR ru g
      obtain ⟨q2, ws, rfl, en2, hs2, rs2⟩ := R1.lstR ru' g2
      exact .inl ⟨q, q2, ys, ws, rfl, .inl ⟨by rw [C.hK]; exact hs, by rw [C.hK]; exact hs2, D _ _ _ x1 R1 (by rw [C.hK]; exact src_zipL en en2)⟩⟩
    · rename_i u0 w0 xs zs
      obtain ⟨rfl, rfl⟩ := pure_inv e7
      obtain ⟨ex, rfl⟩ := pure_inv (show (pure (.fix xs) : M Src) h1 = .ok (.fix u0) h2 from e4)
      obtain ⟨ez, rfl⟩ := pure_inv (show (pure (.fix zs) : M Src) h2 = .ok (.fix w0) h' from e6)
      cases ex
      cases ez
      obtain ⟨q, ys, rfl, ht, rs⟩ := RV_tup.mp ru
      obtain ⟨q2, ws, rfl, ht2, rs2⟩ := RV_tup.mp ru'
      exact .inl ⟨q, q2, ys, ws, rfl, .inr ⟨SqT.of ht, SqT.of ht2, D _ _ _ x1 R1 (src_zipT (fun ρ2 H2 x2 => SqT.of (x2.tup q ys ht)) (fun ρ2 H2 x2 => SqT.of (x2.tup q2 ws ht2)) rs rs2)⟩⟩
    · obtain ⟨_, h4, e8, e9⟩ := bind_inv e7
      obtain ⟨gd, rfl⟩ := guardM_inv e8
      obtain ⟨rfl, rfl⟩ := pure_inv e9
      simp only [Bool.and_eq_true, Bool.not_eq_true'] at gd
      obtain ⟨⟨⟨gd1, gd2⟩, gf1⟩, gf2⟩ := gd
      obtain ⟨rfl, k2, ws, w1, w2, w3⟩ := ch_of (h0 := h) gd2 gf2 e6 (by
        have := (ch_of (h0 := h) gd1 gf1 e4 R1 ru).1
        subst this
        exact R1) ru'
      obtain ⟨rfl, k1, ys, y1, y2, y3⟩ := ch_of (h0 := h) gd1 gf1 e4 R1 ru
      exact .inr ⟨k1, k2, _, _, ys, ws, rfl, y1, w1, by rw [C.hK]; exact y2, by rw [C.hK]; exact w2, D _ _ _ x1 R1 (by rw [C.hK]; exact src_zipG y3 w3)⟩⟩
end
end PM
end
section
set_option maxHeartbeats 1000000
/-! PMS: for, while, comprehensions. -/
namespace PM
open PySem PySem.Spec L2
section
variable {X : Cx} {P : Pg} {cf : CF} {kk : Nat} {G : Gw} {ρ ρ' ρ0 : List Addr} {H H' H0 : Hp} {h h' : AH} {Q : VK} {a b c e tg iter : Expr} {a' b' c' d' tg' it' : E} {pos apos : Pos} {pins : List (Addr × Obj)} {σ : St} {s : Shared}
theorem ws_for {ik : IK} {body : List Stmt} {body' : S} (C : CtxF P cf kk G X) (hi : PI X tg iter (WI P cf G ik it')) (hg : PG X tg (WG P cf G tg')) (hb : PSs X body (WS P cf G body')) (hs : ∀ x, foldedSetIterable iter X.env x = pure x) :
    PS X (.For tg iter body [] pos) (WS P cf G (.for_ tg' ik it' body')) :=
  PS.imp (ps_for (by rw [C.xe]; exact PassesOwn.never) C.calm hi hg hb hs) fun D σ H ⟨ρ, h, σ', fl, h', R, S, e, d⟩ => by
    rw [evS] at e
    obtain ⟨vs, h1, e1, e2⟩ := bind_inv e
    obtain ⟨src, h2, e3, e4⟩ := bind_inv e2
    obtain ⟨hh, h3, e5, e6⟩ := bind_inv e4
    obtain ⟨rfl, rfl⟩ := heapM_inv e5
    refine ⟨ρ, h, σ', vs, h1, src, h3, R, S, e1, e3, fun ρ1 H1 J x1 R1 so => ?_⟩
    refine ⟨fun i m τ H => ∃ ρ2 h2 τ', Ext ρ1 H1 ρ2 H ∧ RH G ρ2 h2 H ∧ RS G ρ2 H τ' τ ∧ forLoop src (fun x σ => do let σ' ← asgT P cf tg' x σ; evS P cf body' σ') m i τ' h2 = .ok fl h',
      ⟨src.most h3, ρ1, h3, σ', .refl, R1, S.mono x1, e6⟩, ?_⟩
    rintro i m τ H2 ⟨ρ2, h2, τ', x2, R2, S2, ev⟩
    obtain ⟨so1, so2⟩ := so ρ2 H2 h2 i x2 R2
    cases m with
    | zero =>
      unfold forLoop at ev
      obtain ⟨o, h4, g1, g2⟩ := bind_inv ev
      cases o with
      | none =>
        obtain ⟨rfl, st⟩ := so2 _ g1
        obtain ⟨rfl, rfl⟩ := pure_inv g2
        exact .inl ⟨st, d _ _ (x1.trans x2) R2 _ S2⟩
      | some x => cases g2
    | succ m =>
      unfold forLoop at ev
      obtain ⟨o, h4, g1, g2⟩ := bind_inv ev
      cases o with
      | none =>
        obtain ⟨rfl, st⟩ := so2 _ g1
        obtain ⟨rfl, rfl⟩ := pure_inv g2
        exact .inl ⟨st, d _ _ (x1.trans x2) R2 _ S2⟩
      | some x =>
        obtain ⟨rfl, go, yl⟩ := so1 x _ g1
        obtain ⟨f1, h5, g3, g4⟩ := bind_inv g2
        obtain ⟨τ1, h6, g5, g6⟩ := bind_inv g3
        refine .inr ⟨go, fun τ2 H3 => ∃ ρ2 h2 τ', Ext ρ1 H1 ρ2 H3 ∧ RH G ρ2 h2 H3 ∧ RS G ρ2 H3 τ' τ2 ∧ forLoop src (fun x σ => do let σ' ← asgT P cf tg' x σ; evS P cf body' σ') m (i + 1) τ' h2 = .ok fl h', fun σ3 H3 w => ⟨m, Nat.lt_succ_self _, w⟩, fun v H3 y => ?_⟩
        obtain ⟨x3, R3, r3⟩ := yl v H3 y
        refine ⟨ρ2, h4, τ', x, τ1, h6, R3, S2.mono x3, r3, g5, fun ρ4 H4 σ4 x4 R4 S4 _ => ?_⟩
        refine ⟨ρ4, h6, τ1, f1, h5, R4, S4, g6, fun ρ5 H5 x5 R5 => ?_⟩
        have xx := x2.trans (x3.trans (x4.trans x5))
        cases f1 with
        | nx τ3 => exact fun σ5 S5 => ⟨ρ5, h5, τ3, xx, R5, S5, g4⟩
        | ct τ3 => exact fun σ5 S5 => ⟨ρ5, h5, τ3, xx, R5, S5, g4⟩
        | bk τ3 =>
          obtain ⟨rfl, rfl⟩ := pure_inv g4
          exact fun σ5 S5 => d _ _ (x1.trans xx) R5 σ5 S5
        | rt w =>
          obtain ⟨rfl, rfl⟩ := pure_inv g4
          exact fun v5 r5 => d _ _ (x1.trans xx) R5 v5 r5
theorem ws_while {body : List Stmt} {body' : S} (C : CtxF P cf kk G X) (hc : PT X c (WT P cf G c')) (hb : PSs X body (WS P cf G body')) : PS X (.While c body [] pos) (WS P cf G (.while_ c' body')) :=
  PS.imp (ps_while (by rw [C.xe]; exact PassesOwn.never) hc hb) fun D σ H ⟨ρ, h, σ', fl, h', R, S, e, d⟩ => by
    rw [evS] at e
    refine ⟨fun m τ H1 => ∃ ρ2 h2 τ', Ext ρ H ρ2 H1 ∧ RH G ρ2 h2 H1 ∧ RS G ρ2 H1 τ' τ ∧ whileLoop (fun σ => evT P cf c' σ) (fun σ => evS P cf body' σ) m τ' h2 = .ok fl h', ⟨mostTurns, ρ, h, σ', .refl, R, S, e⟩, ?_⟩
    rintro m τ H2 ⟨ρ2, h2, τ', x2, R2, S2, ev⟩
    cases m with
    | zero => cases ev
    | succ m =>
      unfold whileLoop at ev
      obtain ⟨t, h3, g1, g2⟩ := bind_inv ev
      refine WT.mk R2 S2 g1 fun ρ3 H3 x3 R3 S3 => ?_
      cases t with
      | false =>
        obtain ⟨rfl, rfl⟩ := pure_inv g2
        exact d _ _ (x2.trans x3) R3 _ S3
      | true =>
        obtain ⟨f1, h5, g3, g4⟩ := bind_inv g2
        refine ⟨fun τ2 H4 => ∃ ρ2 h2 τ', Ext ρ H ρ2 H4 ∧ RH G ρ2 h2 H4 ∧ RS G ρ2 H4 τ' τ2 ∧ whileLoop (fun σ => evT P cf c' σ) (fun σ => evS P cf body' σ) m τ' h2 = .ok fl h', fun σ4 H4 w => ⟨m, Nat.lt_succ_self _, w⟩, ?_⟩
        refine ⟨ρ3, h3, τ', f1, h5, R3, S3, g3, fun ρ5 H5 x5 R5 => ?_⟩
        have xx := x2.trans (x3.trans x5)
        cases f1 with
        | nx τ3 => exact fun σ5 S5 => ⟨ρ5, h5, τ3, xx, R5, S5, g4⟩
        | ct τ3 => exact fun σ5 S5 => ⟨ρ5, h5, τ3, xx, R5, S5, g4⟩
        | bk τ3 =>
          obtain ⟨rfl, rfl⟩ := pure_inv g4
          exact fun σ5 S5 => d _ _ xx R5 σ5 S5
        | rt w =>
          obtain ⟨rfl, rfl⟩ := pure_inv g4
          exact fun v5 r5 => d _ _ xx R5 v5 r5
/-! ### comprehensions -/
theorem CtxF.blk (C : CtxF P cf kk G X) (s : Shared) (H : Hp) (scope : Scope) (ce : Env) (fp : List Addr) : CtxF P cf kk G (X.blk s H scope ce fp) :=
  ⟨⟨C.hK, C.calm, C.gd, C.un, C.pf, C.pi, C.ngd, C.gq⟩, C.room, rfl, C.pfn, C.pcl, C.cfn, C.fok⟩
theorem wts_nil : PTs X [] (WT P cf G .no) := ⟨fun pins s σ H Q I ⟨ρ, h, σ', r, h', R, S, e, D⟩ => by
  rw [evT] at e
  obtain ⟨rfl, rfl⟩ := pure_inv e
  exact pts_nil.run pins s σ H Q I (D _ _ .refl R)⟩
theorem lc_go {ik : IK} {elt' test' : E} {own : List (Str × Nat)} {σ : St} {H : Hp} {Q : VK} (ho : ∀ i ∈ tgS tg', i ∈ own.map (·.2)) (hw : WE P cf G (.lc elt' tg' ik it' test' (own.map (·.2))) σ H Q) : tLc (WI P cf G ik it') (WG P cf G tg') (WT P cf G test') (WE P cf G elt') (own.map (·.2)) σ H Q := by
    obtain ⟨ρ, h, σ', r, h', R, S, e, d⟩ := hw
    rw [evE] at e
    obtain ⟨vs, h1, e1, e2⟩ := bind_inv e
    obtain ⟨src, h2, e3, e4⟩ := bind_inv e2
    obtain ⟨hh, h3, e5, e6⟩ := bind_inv e4
    obtain ⟨rfl, rfl⟩ := heapM_inv e5
    obtain ⟨p, h4, e7, e8⟩ := bind_inv e6
    obtain ⟨rfl, rfl⟩ := newO_inv e7
    refine ⟨ρ, h, σ', vs, h1, src, h3, R, S, e1, e3, fun ρ1 H1 J x1 R1 so => ?_⟩
    intro D hD
    obtain ⟨x2, R2, r2⟩ := R1.push (o := .lst []) (ho := .lst []) hD ⟨[], rfl, RVs.nil⟩
    have en : (ρ1 ++ [D])[h3.n]? = some D := by rw [List.getElem?_append_right (by rw [R1.len]; exact Nat.le_refl _), R1.len]; simp
    generalize hturn : (fun x => (do
        let σ' ← asgT P cf tg' x (PM.wipe σ' (own.map (·.2)))
        let r ← evT P cf test' σ'
        if r then do
          let y ← evE P cf elt' σ'
          pure (some y)
        else pure none : M (Option AV))) = turn at e8
    refine ⟨fun i m H4 => ∃ ρ4 h4, Ext (ρ1 ++ [D]) (upd H1 D (.lst [])) ρ4 H4 ∧ RH G ρ4 h4 H4 ∧ lcLoop src h3.n turn m i h4 = .ok r h', ⟨src.most h3, _, _, .refl, R2, e8⟩, ?_⟩
    rintro i m H4 ⟨ρ4, h4, x4, R4, ev⟩
    obtain ⟨so1, so2⟩ := so ρ4 H4 h4 i (x2.trans x4) R4
    have stop : ∀ {h5 : AH}, src.at i h4 = .ok none h5 → (pure (.ref h3.n) : M AV) h5 = .ok r h' → J.stop i H4 ∧ Q (.ref D) H4 := by
      intro h5 g1 g2
      obtain ⟨rfl, st⟩ := so2 _ g1
      obtain ⟨rfl, rfl⟩ := pure_inv g2
      exact ⟨st, d _ _ _ (x1.trans (x2.trans x4)) R4 (RV.mono x4 _ r2)⟩
    cases m with
    | zero =>
      unfold lcLoop at ev
      obtain ⟨o, h5, g1, g2⟩ := bind_inv ev
      cases o with
      | none => exact .inl (stop g1 g2)
      | some x => cases g2
    | succ m =>
      unfold lcLoop at ev
      obtain ⟨o, h5, g1, g2⟩ := bind_inv ev
      cases o with
      | none => exact .inl (stop g1 g2)
      | some x =>
        obtain ⟨rfl, go, yl⟩ := so1 x _ g1
        obtain ⟨o2, h6, g3, g4⟩ := bind_inv g2
        refine .inr ⟨go, fun H5 => ∃ ρ5 h5, Ext (ρ1 ++ [D]) (upd H1 D (.lst [])) ρ5 H5 ∧ RH G ρ5 h5 H5 ∧ lcLoop src h3.n turn m (i + 1) h5 = .ok r h', fun H5 w => ⟨m, Nat.lt_succ_self _, w⟩, fun v H5 y => ?_⟩
        obtain ⟨x5, R5, r5⟩ := yl v H5 y
        rw [← hturn] at g3
        obtain ⟨τ1, h7, g5, g6⟩ := bind_inv g3
        obtain ⟨t, h8, g7, g8⟩ := bind_inv g6
        have S5 : RS G ρ4 H5 σ' σ := S.mono (x1.trans (x2.trans (x4.trans x5)))
        refine ⟨ρ4, h5, _, x, τ1, h7, R5, S5.wipe (own.map (·.2)), r5, g5, fun ρ6 H6 σ6 x6 R6 S6 s6 => ⟨?_, ?_⟩⟩
        · have := (s6.mono ho).wipe
          rw [this]
          apply List.ext_getElem?
          intro i
          rw [wipe_get, wipe_get, L2.wipe_length]
          split <;> rfl
        · refine WT.mk R6 S6 g7 fun ρ7 H7 x7 R7 S7 => ?_
          cases t with
          | false =>
            obtain ⟨rfl, rfl⟩ := pure_inv g8
            exact ⟨ρ7, h6, x4.trans (x5.trans (x6.trans x7)), R7, g4⟩
          | true =>
            obtain ⟨yv, h9, g9, g10⟩ := bind_inv g8
            obtain ⟨rfl, rfl⟩ := pure_inv g10
            show WE P cf G elt' σ6 H7 _
            refine WE.mk R7 S7 g9 fun ρ8 H8 w x8 R8 S8 r8 => ?_
            obtain ⟨acc, h10, k1, k2⟩ := bind_inv g4
            obtain ⟨ga, rfl⟩ := lstW_inv k1
            obtain ⟨_, h11, k3, k4⟩ := bind_inv k2
            obtain ⟨q1, rfl⟩ := guardM_inv k3
            obtain ⟨_, h12, k5, k6⟩ := bind_inv k4
            obtain rfl := setO_inv k5
            have xx := x4.trans (x5.trans (x6.trans (x7.trans x8)))
            obtain ⟨q, ys, eq, eq2, hs8, rs8⟩ := R8.lst (RV.mono xx _ r2) ga
            cases eq
            obtain ⟨x9, R9⟩ := R8.set (o := .lst (acc ++ [yv])) (ho := .lst (ys ++ [w])) eq2 (by rw [hs8]; exact True.intro) ⟨_, rfl, rs8.append (RVs.cons r8 RVs.nil)⟩
            exact ⟨ys, hs8, by rw [← rs8.length, sizeLine_eq]; exact of_decide_eq_true q1, ρ8, _, xx.trans x9, R9, k6⟩
theorem we_lc {ik : IK} {elt : Expr} {ifs : List Expr} {elt' test' : E} {scope : Scope} {own : List (Str × Nat)} (C : CtxF P cf kk G X) (hN : X.N.Nodup) (hi : PI X tg iter (WI P cf G ik it')) (ok : BlkOk X.N X.env.scope scope own)
    (hg : ∀ (s : Shared) (H : Hp) (C : Addr) (cl : List (Str × Addr)) (fp : List Addr), PG (X.blk s H scope (compEnvC scope cl C X.env) fp) tg (WG P cf G tg'))
    (ht : ∀ (s : Shared) (H : Hp) (C : Addr) (cl : List (Str × Addr)) (fp : List Addr), PTs (X.blk s H scope (compEnvC scope cl C X.env) fp) ifs (WT P cf G test'))
    (he : ∀ (s : Shared) (H : Hp) (C : Addr) (cl : List (Str × Addr)) (fp : List Addr), PE (X.blk s H scope (compEnvC scope cl C X.env) fp) elt (WE P cf G elt'))
    (hs : ∀ x, foldedSetIterable iter X.env x = pure x) (ho : ∀ i ∈ tgS tg', i ∈ own.map (·.2)) : PE X (.ListComp elt [⟨tg, iter, ifs, 0⟩] scope pos) (WE P cf G (.lc elt' tg' ik it' test' (own.map (·.2)))) :=
  PE.imp (pe_lc C.calm hN hi ok hg ht he hs) fun σ H Q hw => lc_go ho hw
end
end PM
end
section
set_option maxHeartbeats 1000000
/-! PMLz: list(zip(a, b)) of two lists. -/
namespace PM
open PySem PySem.Spec L2
theorem zip_no_len : typeLookup (.type "zip") "__len__" = pure none := am_miss_of_fast (by decide +kernel)
theorem zip_no_hint : typeLookup (.type "zip") "__length_hint__" = pure none := am_miss_of_fast (by decide +kernel)
structure LzSt (h : Heap) (z TI TO i1 i2 l1 l2 S i : Nat) : Prop where
  ti : IsPair h TI (.ref i1) (.ref i2)
  h1 : h.IsListIter i1 l1 i
  h2 : h.IsListIter i2 l2 i
  st : (IsZip h z TI TO .none ∧ ∃ a b, IsPair h TO a b) ∨ ∃ T f oT, IsZipHeld h z TI TO T f ∧ h.get? T = some oT ∧ T ≠ z ∧ T ≠ i1 ∧ T ≠ i2 ∧ T ≠ S
structure LzG (xs ys : Array Value) (lo : Nat) (h : Heap) (as : List Addr) : Prop where
  rise : as.Pairwise (· < ·)
  above : ∀ a ∈ as, lo < a
  pairs : ∀ (j : Nat) (a : Addr), as[j]? = some a → ∃ x y, xs[j]? = some x ∧ ys[j]? = some y ∧ IsPair h a x y
theorem LzG.there {xs ys : Array Value} {lo : Nat} {h : Heap} {as : List Addr} (g : LzG xs ys lo h as) {a : Addr} (ha : a ∈ as) : a < h.objs.size := by
  obtain ⟨j, hj⟩ := List.mem_iff_getElem?.mp ha
  obtain ⟨_, _, _, _, e⟩ := g.pairs j a hj
  exact Heap.lt_size e
section
variable {prog : Program} {w : World} {A : Around} {E : Value → Shared → Prop} {s : Shared} {z TI TO i1 i2 l1 l2 S : Addr} {xs ys : Array Value}
theorem LzSt.keep {h h' : Heap} {i : Nat} (x : LzSt h z TI TO i1 i2 l1 l2 S i) (hk : ∀ b o, b ≠ S → h.get? b = some o → h'.get? b = some o) (n1 : z ≠ S) (n2 : TI ≠ S) (n3 : TO ≠ S) (n4 : i1 ≠ S) (n5 : i2 ≠ S) : LzSt h' z TI TO i1 i2 l1 l2 S i := by
  refine ⟨hk _ _ n2 x.ti, x.h1.at fun o e => hk _ o n4 e, x.h2.at fun o e => hk _ o n5 e, ?_⟩
  rcases x.st with ⟨e, a, b, p⟩ | ⟨T, f, oT, a, b, c1, c2, c3, c4⟩
  · exact .inl ⟨hk _ _ n1 e, a, b, hk _ _ n3 p⟩
  · exact .inr ⟨T, f, oT, hk _ _ n1 a, hk _ _ c4 b, c1, c2, c3, c4⟩
theorem lz_item {i : Nat} {x y : Value} {Q : Option Value → Shared → Prop} (D : ZipApart z TI TO i1 i2 l1 l2) (hst : LzSt s.heap z TI TO i1 i2 l1 l2 S i) (hS : S < s.heap.objs.size)
    (hl1 : s.heap.IsList l1 xs) (hl2 : s.heap.IsList l2 ys) (hx : xs[i]? = some x) (hy : ys[i]? = some y)
    (hQ : ∀ h', LzSt h' z TI TO i1 i2 l1 l2 S (i + 1) → IsPair h' s.heap.objs.size x y → h'.objs.size = s.heap.objs.size + 1 →
      (∀ c o, c ≠ z → c ≠ TO → c ≠ i1 → c ≠ i2 → s.heap.get? c = some o → h'.get? c = some o) → Q (some (.ref s.heap.objs.size)) { s with heap := h' }) :
    wpAny (model prog w) A (pyNext (.ref z)) Q E s := by
  have b1 : i1 < s.heap.objs.size := let ⟨_, e, _⟩ := hst.h1; Heap.lt_size e
  have b2 : i2 < s.heap.objs.size := let ⟨_, e, _⟩ := hst.h2; Heap.lt_size e
  rcases hst.st with ⟨hz, a, b, hTO⟩ | ⟨T, f, oT, hz, hT, c1, c2, c3, c4⟩
  · have bz : z < s.heap.objs.size := Heap.lt_size hz
    exact wpAny_pyNext_zip_item D hz hst.ti hTO hst.h1 hst.h2 hl1 hl2 hx hy fun h' z' TO' h1' h2' hT hsz hk =>
      hQ h' ⟨hk _ _ D.TIz D.TITO D.TIi1 D.TIi2 hst.ti, h1', h2', .inr ⟨_, false, _, z', hT, Nat.ne_of_gt bz, Nat.ne_of_gt b1, Nat.ne_of_gt b2, Nat.ne_of_gt hS⟩⟩ hT hsz hk
  · exact wpAny_pyNext_zip_item_held D hz hT hst.ti hst.h1 hst.h2 hl1 hl2 hx hy fun h' z' h1' h2' hT' hsz hk =>
      hQ h' ⟨hk _ _ D.TIz D.TIi1 D.TIi2 hst.ti, h1', h2', .inr ⟨T, true, oT, z', hk _ _ c1 c2 c3 hT, c1, c2, c3, c4⟩⟩ hT' hsz fun c o d1 _ d3 d4 e => hk c o d1 d3 d4 e
theorem lz_done {i : Nat} {Q : Option Value → Shared → Prop} (hh : A.handled = none) (D : ZipApart z TI TO i1 i2 l1 l2) (hst : LzSt s.heap z TI TO i1 i2 l1 l2 S i)
    (hl1 : s.heap.IsList l1 xs) (hl2 : s.heap.IsList l2 ys) (hend : xs[i]? = none ∨ ys[i]? = none)
    (hQ : ∀ h', (∀ c o, c ≠ z → c ≠ TO → c ≠ i1 → c ≠ i2 → s.heap.get? c = some o → h'.get? c = some o) → Q none { s with heap := h' }) : wpAny (model prog w) A (pyNext (.ref z)) Q E s := by
  rcases hst.st with ⟨hz, a, b, hTO⟩ | ⟨T, f, oT, hz, hT, c1, c2, c3, c4⟩
  · exact wpAny_pyNext_zip_end hh D hz hst.ti hTO hst.h1 hst.h2 hl1 hl2 hend hQ
  · exact wpAny_pyNext_zip_end_held hh D hz hT hst.ti hst.h1 hst.h2 hl1 hl2 hend fun h' hk => hQ h' fun c o d1 _ d3 d4 e => hk c o d1 d3 d4 e
end
section
variable {prog : Program} {w : World} {A : Around} {s : Shared} {R : Result → Shared → Prop} {z TI TO i1 i2 l1 l2 S : Addr} {xs ys : Array Value}
theorem lz_loop (hh : A.handled = none) (D : ZipApart z TI TO i1 i2 l1 l2) (lt : z < S ∧ TI < S ∧ TO < S ∧ i1 < S ∧ i2 < S ∧ l1 < S ∧ l2 < S) (hn : min xs.size ys.size ≤ sizeLine) (res : Value) {h₁ : Heap}
    (hR : ∀ h' tk acc c as, (∀ b o, b ≠ S → b ≠ z → b ≠ TO → b ≠ i1 → b ≠ i2 → h₁.get? b = some o → h'.get? b = some o) → h'.get? S = some { cls := .type "list", dict := none, data := .seq acc c, slots := #[] } → as.length = min xs.size ys.size → LzG xs ys S h' as →
      acc.toList = as.map Value.ref → R (.ok (.ret res)) { s with heap := h', toks := tk }) :
    ∀ (k i : Nat) (h : Heap) (tk c : Nat) (acc : Array Value) (as : List Addr), min xs.size ys.size - i = k → i ≤ min xs.size ys.size → LzSt h z TI TO i1 i2 l1 l2 S i → h.IsList l1 xs → h.IsList l2 ys → (∀ b o, b ≠ S → b ≠ z → b ≠ TO → b ≠ i1 → b ≠ i2 → h₁.get? b = some o → h.get? b = some o) →
      h.get? S = some { cls := .type "list", dict := none, data := .seq acc c, slots := #[] } → acc.toList = as.map Value.ref → as.length = i → LzG xs ys S h as →
      codeAny (model prog w) A (.builtin "list.extend.loop" ⟨[.ref S, .ref z, res], []⟩) R { s with heap := h, toks := tk } := by
  obtain ⟨t1, t2, t3, t4, t5, t6, t7⟩ := lt
  have S1 : S ≠ z := Nat.ne_of_gt t1
  have S3 : S ≠ TO := Nat.ne_of_gt t3
  have S4 : S ≠ i1 := Nat.ne_of_gt t4
  have S5 : S ≠ i2 := Nat.ne_of_gt t5
  have S6 : S ≠ l1 := Nat.ne_of_gt t6
  have S7 : S ≠ l2 := Nat.ne_of_gt t7
  have big : ∀ b, S < b → b ≠ z ∧ b ≠ TO ∧ b ≠ i1 ∧ b ≠ i2 := fun b hb => ⟨Nat.ne_of_gt (Nat.lt_trans t1 hb), Nat.ne_of_gt (Nat.lt_trans t3 hb), Nat.ne_of_gt (Nat.lt_trans t4 hb), Nat.ne_of_gt (Nat.lt_trans t5 hb)⟩
  intro k
  induction k with
  | zero =>
    intro i h tk c acc as hk hi hst hl1 hl2 hkeep hS hacc hal hG
    have hend : xs[i]? = none ∨ ys[i]? = none := by
      rcases Nat.le_total xs.size ys.size with q | q
      · exact .inl (Array.getElem?_eq_none (by omega))
      · exact .inr (Array.getElem?_eq_none (by omega))
    refine codeAny_builtin PySem.F.entry_extend_loop ?_
    rw [Around.under_plainId PySem.F.plain_extend_loop _]
    show wpAny _ A.in1 (pyNext (.ref z) >>= _) _ _ _
    refine wpAny_bind (lz_done (s := { s with heap := h, toks := tk }) (A := A.in1) hh D hst hl1 hl2 hend fun h' he => ?_)
    refine wpAny_pure (hR h' tk acc c as (fun b o h0 h1 h2 h3 h4 e => he b o h1 h2 h3 h4 (hkeep b o h0 h1 h2 h3 h4 e)) (he S _ S1 S3 S4 S5 hS) (by omega) ⟨hG.rise, hG.above, fun j a hj => ?_⟩ hacc)
    obtain ⟨x, y, e1, e2, e3⟩ := hG.pairs j a hj
    obtain ⟨b1, b2, b3, b4⟩ := big a (hG.above a (List.mem_of_getElem? hj))
    exact ⟨x, y, e1, e2, he a _ b1 b2 b3 b4 e3⟩
  | succ k ih =>
    intro i h tk c acc as hk hi hst hl1 hl2 hkeep hS hacc hal hG
    have hlt : i < min xs.size ys.size := by omega
    have hx : xs[i]? = some xs[i] := Array.getElem?_eq_getElem (by omega)
    have hy : ys[i]? = some ys[i] := Array.getElem?_eq_getElem (by omega)
    have hsz : acc.size = i := by rw [← Array.length_toList, hacc, List.length_map, hal]
    have hSl : S < h.objs.size := Heap.lt_size hS
    refine codeAny_builtin PySem.F.entry_extend_loop ?_
    rw [Around.under_plainId PySem.F.plain_extend_loop _]
    show wpAny _ A.in1 (pyNext (.ref z) >>= _) _ _ _
    refine wpAny_bind (lz_item (s := { s with heap := h, toks := tk }) D hst hSl hl1 hl2 hx hy fun h' hst' ht hz hkp => ?_)
    dsimp only at ht hz hkp ⊢
    have hS' := hkp S _ S1 S3 S4 S5 hS
    have up : ∀ b o, b ≠ S → h'.get? b = some o → (h'.update S (Obj.mapSeq (·.push (Value.ref h.objs.size)))).get? b = some o := fun b o hb e => (Heap.get?_update_other _ _ (Ne.symm hb)).trans e
    show wpAny _ A.in1 (updateSeq S (·.push (Value.ref h.objs.size)) >>= _) _ _ _
    refine wpAny_bind ?_
    refine wpAny_updateSeq hS' rfl (wpAny_pure ⟨plainId_quiet PySem.F.plain_extend_loop _, ih (i + 1) _ tk _ (acc.push (Value.ref h.objs.size)) (as ++ [h.objs.size]) (by omega) (by omega) (hst'.keep up (Ne.symm S1) (Nat.ne_of_lt t2) (Ne.symm S3) (Ne.symm S4) (Ne.symm S5))
      (hl1.at fun o e => up l1 o (Ne.symm S6) (hkp l1 o D.l1z D.l1TO D.l1i1 D.l1i2 e)) (hl2.at fun o e => up l2 o (Ne.symm S7) (hkp l2 o D.l2z D.l2TO D.l2i1 D.l2i2 e))
      (fun b o h0 h1 h2 h3 h4 e => up b o h0 (hkp b o h1 h2 h3 h4 (hkeep b o h0 h1 h2 h3 h4 e))) (Heap.get?_update_self _ hS' rfl) (by rw [Array.toList_push, hacc, List.map_append]; rfl) (by rw [List.length_append, hal]; rfl) ⟨?_, ?_, ?_⟩⟩) (by rw [hsz]; omega) (by show (acc.push (Value.ref h.objs.size)).size ≤ sizeLine + 1; rw [Array.size_push, hsz]; omega)
    · refine List.pairwise_append.mpr ⟨hG.rise, List.pairwise_singleton _ _, fun a ha b hb => ?_⟩
      rw [List.mem_singleton.mp hb]
      exact hG.there ha
    · intro a ha
      rcases List.mem_append.mp ha with ha | ha
      · exact hG.above a ha
      · rw [List.mem_singleton.mp ha]; exact hSl
    · intro j b hj
      rcases Nat.lt_trichotomy j as.length with h1 | h1 | h1
      · rw [List.getElem?_append_left h1] at hj
        obtain ⟨x, y, e1, e2, e3⟩ := hG.pairs j b hj
        have hb := hG.above b (List.mem_of_getElem? hj)
        obtain ⟨b1, b2, b3, b4⟩ := big b hb
        exact ⟨x, y, e1, e2, up b _ (Nat.ne_of_gt hb) (hkp b _ b1 b2 b3 b4 e3)⟩
      · subst h1
        have hb : h.objs.size = b := by simpa using hj
        subst hb
        exact ⟨_, _, by rw [hal]; exact hx, by rw [hal]; exact hy, up _ _ (Nat.ne_of_gt hSl) ht⟩
      · have hnone : (as ++ [h.objs.size])[j]? = none := List.getElem?_eq_none (by rw [List.length_append, List.length_singleton]; omega)
        rw [hnone] at hj; cases hj
theorem lz_extend (hh : A.handled = none) (D : ZipApart z TI TO i1 i2 l1 l2) (hst : LzSt s.heap z TI TO i1 i2 l1 l2 S 0) (hz : ∃ f0, IsZip s.heap z TI TO f0) (hl1 : s.heap.IsList l1 xs) (hl2 : s.heap.IsList l2 ys)
    (lt : z < S ∧ TI < S ∧ TO < S ∧ i1 < S ∧ i2 < S ∧ l1 < S ∧ l2 < S) (hn : min xs.size ys.size ≤ sizeLine) (res : Value) (c₀ : Nat) (hS : s.heap.get? S = some { cls := .type "list", data := .seq #[] c₀ })
    (hR : ∀ h' tk acc c as, (∀ b o, b ≠ S → b ≠ z → b ≠ TO → b ≠ i1 → b ≠ i2 → s.heap.get? b = some o → h'.get? b = some o) → h'.get? S = some { cls := .type "list", dict := none, data := .seq acc c, slots := #[] } → as.length = min xs.size ys.size → LzG xs ys S h' as →
      acc.toList = as.map Value.ref → R (.ok (.ret res)) { s with heap := h', toks := tk }) :
    wpAny (model prog w) A.in1 (Builtin.List.listExtendWith (.ref S) (.ref z) res)
      (fun fin s' => match fin with | .done f => R (.ok f) s' | .again c' => c'.quiet = true ∧ codeAny (model prog w) A c' R s') (fun e s' => R (.error e) s') s := by
  obtain ⟨f0, hz⟩ := hz
  have hTy : s.TypeIs (.ref z) "zip" := ⟨_, hz, rfl⟩
  have hSz : S ≠ z := Nat.ne_of_gt lt.1
  unfold Builtin.List.listExtendWith
  refine wpAny_bind (wpAny_typeOf hTy ?_)
  have h1 : Builtin.List.listSameRef (.ref S) (.ref z) = false := by simp [Builtin.List.listSameRef, hSz]
  have h2 : (Value.type "zip" == Value.type "list") = false := by decide
  have h3 : (Value.type "zip" == Value.type "tuple") = false := by decide
  simp only [h1, h2, h3, Bool.or_false, Bool.false_eq_true, if_false]
  refine wpAny_bind (wpAny_pyIter_zip hz ?_)
  refine wpAny_bind (wpAny_holding ?_)
  unfold Builtin.List.listLengthHint
  refine wpAny_bind (wpAny_specialOf hTy zip_no_len ?_)
  show wpAny _ A.in1 (specialOf (Value.ref z) (Str.ofString "__length_hint__") >>= _) _ _ _
  refine wpAny_bind (wpAny_specialOf hTy zip_no_hint ?_)
  refine wpAny_pure ?_
  show wpAny _ A.in1 (rule "list.extend.makes-room" >>= fun _ => Builtin.List.listTouch (.ref S) >>= fun _ =>
    again (.builtin "list.extend.loop" ⟨[.ref S, .ref z, res], []⟩)) _ _ _
  refine wpAny_bind (wpAny_rule ?_)
  refine wpAny_bind ?_
  show wpAny _ A.in1 (updateSeq S (·.push .none) >>= fun _ => updateSeq S (·.pop)) _ _ _
  refine wpAny_bind (wpAny_updateSeq hS rfl ?_)
  have hS₂ := Heap.get?_update_self (Obj.mapSeq (·.push Value.none)) hS rfl
  refine wpAny_updateSeq (hz := by seq_fits) hS₂ rfl ?_
  have hS₃ := Heap.get?_update_self (Obj.mapSeq (·.pop)) hS₂ rfl
  have oth : ∀ b o, b ≠ S → s.heap.get? b = some o → ((s.heap.update S (Obj.mapSeq (·.push Value.none))).update S (Obj.mapSeq (·.pop))).get? b = some o :=
    fun b o hb e => (Heap.get?_update_other _ _ (Ne.symm hb)).trans ((Heap.get?_update_other _ _ (Ne.symm hb)).trans e)
  obtain ⟨t1, t2, t3, t4, t5, t6, t7⟩ := id lt
  exact wpAny_pure ⟨plainId_quiet PySem.F.plain_extend_loop _, lz_loop (s := s) (h₁ := s.heap) hh D lt hn res hR _ 0 _ s.toks _ #[] [] rfl (Nat.zero_le _) (hst.keep oth (Nat.ne_of_lt t1) (Nat.ne_of_lt t2) (Nat.ne_of_lt t3) (Nat.ne_of_lt t4) (Nat.ne_of_lt t5))
    (hl1.at fun o e => oth l1 o (Nat.ne_of_lt t6) e) (hl2.at fun o e => oth l2 o (Nat.ne_of_lt t7) e) (fun b o h0 _ _ _ _ e => oth b o h0 e) hS₃ rfl rfl ⟨List.Pairwise.nil, (fun _ ha => nomatch ha), (fun j a hj => by simp at hj)⟩⟩
end
section
variable {prog : Program} {w : World} {A : Around} {E : Value → Shared → Prop} {s : Shared} {z TI TO i1 i2 l1 l2 : Addr} {xs ys : Array Value}
theorem lz_call {Q : Value → Shared → Prop} (hh : A.handled = none) (D : ZipApart z TI TO i1 i2 l1 l2) (hz : IsZip s.heap z TI TO .none) (hTI : IsPair s.heap TI (.ref i1) (.ref i2)) (hTO : IsPair s.heap TO .none .none)
    (h1 : s.heap.IsListIter i1 l1 0) (h2 : s.heap.IsListIter i2 l2 0) (hl1 : s.heap.IsList l1 xs) (hl2 : s.heap.IsList l2 ys) (hn : min xs.size ys.size ≤ sizeLine)
    (hQ : ∀ h' tk acc c as, (∀ b o, b ≠ z → b ≠ TO → b ≠ i1 → b ≠ i2 → s.heap.get? b = some o → h'.get? b = some o) → h'.get? s.heap.objs.size = some { cls := .type "list", dict := none, data := .seq acc c, slots := #[] } → as.length = min xs.size ys.size → LzG xs ys s.heap.objs.size h' as →
      acc.toList = as.map Value.ref → Q (.ref s.heap.objs.size) { s with heap := h', toks := tk }) :
    wpAny (model prog w) A (call (.type "list") [.ref z]) Q E s := by
  refine callType_codes (Q₁ := fun obj s₁ => obj = .ref s.heap.objs.size ∧ s₁ = { s with heap := s.heap.push { cls := .type "list", data := .seq #[] } }) PySem.F.called_list (PySem.F.typeCall_list_1 _) PySem.F.entry_list_init
    (code_list_new _ ⟨rfl, rfl⟩) fun obj s₁ h₁ => ?_
  obtain ⟨rfl, rfl⟩ := h₁
  have hS : (s.heap.push { cls := .type "list", data := .seq #[] }).get? s.heap.objs.size = some { cls := .type "list", data := .seq #[] } := Heap.get?_push_size _ rfl
  have up : ∀ b o, s.heap.get? b = some o → (s.heap.push { cls := .type "list", data := .seq #[] }).get? b = some o := fun b o e => Heap.get?_push_of_some _ e
  have lt : z < s.heap.objs.size ∧ TI < s.heap.objs.size ∧ TO < s.heap.objs.size ∧ i1 < s.heap.objs.size ∧ i2 < s.heap.objs.size ∧ l1 < s.heap.objs.size ∧ l2 < s.heap.objs.size :=
    ⟨Heap.lt_size hz, Heap.lt_size hTI, Heap.lt_size hTO, let ⟨_, e, _⟩ := h1; Heap.lt_size e, let ⟨_, e, _⟩ := h2; Heap.lt_size e, let ⟨_, e, _⟩ := hl1; Heap.lt_size e, let ⟨_, e, _⟩ := hl2; Heap.lt_size e⟩
  refine ⟨⟨_, hS, rfl⟩, PySem.F.args_list_init_2 _ _, ?_⟩
  show wpAny _ _ (do let old ← Builtin.List.listItems (.ref s.heap.objs.size); Builtin.List.listUpdate (.ref s.heap.objs.size) (fun _ => #[]); letGo old.toList.reverse; Builtin.List.listExtendWith (.ref s.heap.objs.size) (.ref z) .none) _ _ _
  refine wpAny_bind ?_
  unfold Builtin.List.listItems
  refine wpAny_bind (wpAny_seqItems hS rfl (wpAny_pure ?_))
  show wpAny _ _ (updateSeq s.heap.objs.size (fun _ => #[]) >>= fun _ => letGo (#[] : Array Value).toList.reverse >>= fun _ => Builtin.List.listExtendWith (.ref s.heap.objs.size) (.ref z) .none) _ _ _
  refine wpAny_bind (wpAny_updateSeq hS rfl ?_)
  have hS₂ := Heap.get?_update_self (Obj.mapSeq (fun _ => (#[] : Array Value))) hS rfl
  have oth : ∀ b o, b ≠ s.heap.objs.size → s.heap.get? b = some o → ((s.heap.push { cls := .type "list", data := .seq #[] }).update s.heap.objs.size (Obj.mapSeq (fun _ => (#[] : Array Value)))).get? b = some o :=
    fun b o hb e => (Heap.get?_update_other _ _ (Ne.symm hb)).trans (up b o e)
  have low : ∀ b o, s.heap.get? b = some o → ((s.heap.push { cls := .type "list", data := .seq #[] }).update s.heap.objs.size (Obj.mapSeq (fun _ => (#[] : Array Value)))).get? b = some o :=
    fun b o e => oth b o (Nat.ne_of_lt (Heap.lt_size e)) e
  refine wpAny_bind (wpAny_letGo ?_)
  refine lz_extend (A := A.in1) (s := { s with heap := (s.heap.push { cls := .type "list", data := .seq #[] }).update s.heap.objs.size (Obj.mapSeq (fun _ => (#[] : Array Value))) }) (S := s.heap.objs.size) hh D ⟨low _ _ hTI, h1.at fun o e => low _ o e, h2.at fun o e => low _ o e, .inl ⟨low _ _ hz, _, _, low _ _ hTO⟩⟩ ⟨_, low _ _ hz⟩ (hl1.at fun o e => low _ o e) (hl2.at fun o e => low _ o e) lt hn .none _ hS₂ fun h' tk acc c as hk hS' hl hG hacc => ?_
  exact ⟨rfl, hQ h' tk acc c as (fun b o d1 d2 d3 d4 e => hk b o (Nat.ne_of_lt (Heap.lt_size e)) d1 d2 d3 d4 (low b o e)) hS' hl hG hacc⟩
end
end PM
namespace PM
open PySem PySem.Spec PyProof.Rows L2
/-- the pairs tracked at their addresses -/
def putP : Hp → List Addr → List (V × V) → Hp
  | H, a :: as, p :: ps => putP (upd H a (.tup [p.1, p.2])) as ps
  | H, _, _ => H
theorem putP_off {b : Addr} : ∀ (as : List Addr) (ps : List (V × V)) (H : Hp), b ∉ as → putP H as ps b = H b
  | [], _, _, _ => rfl
  | _ :: _, [], _, _ => rfl
  | a :: as, p :: ps, H, h => by
    show putP (upd H a (.tup [p.1, p.2])) as ps b = H b
    rw [putP_off as ps _ (fun z => h (List.mem_cons_of_mem _ z)), upd_ne (fun z => h (by rw [z]; exact List.mem_cons_self))]
theorem putP_at : ∀ (as : List Addr) (ps : List (V × V)) (H : Hp), as.length = ps.length → as.Nodup → Paired (fun (t : Addr) (p : V × V) => putP H as ps t = some (.tup [p.1, p.2])) as ps
  | [], [], _, _, _ => .nil
  | [], _ :: _, _, h, _ => by cases h
  | _ :: _, [], _, h, _ => by cases h
  | a :: as, p :: ps, H, h, hn => by
    have hn' := List.nodup_cons.mp hn
    have ih := putP_at as ps (upd H a (.tup [p.1, p.2])) (Nat.succ.inj h) hn'.2
    refine .cons ?_ ih
    show putP (upd H a (.tup [p.1, p.2])) as ps a = some (.tup [p.1, p.2])
    rw [putP_off as ps _ hn'.1, upd_same]
def rListZip (K : PySem.W.Frag) : List V → Hp → VK → Prop := fun vs H Q => ∃ (a b : Addr) (xs ys : List V), vs = [.ref a, .ref b] ∧ SqL K H a xs ∧ SqL K H b ys ∧
  ∀ (H' : Hp) (p : Addr) (ts : List Addr), (∀ b o, H b = some o → H' b = some o) → H p = none → (∀ t ∈ ts, H t = none) → p ∉ ts → H' p = some (.lst (ts.map V.ref)) → Paired (fun (t : Addr) (q : V × V) => H' t = some (.tup [q.1, q.2])) ts (xs.zip ys) → Q (.ref p) H'
section
variable {X : Cx}
theorem zip_laid {pins : List (Addr × Obj)} {σ : L2.St} {H : Hp} {s : Shared} {h' : Heap} {tk : Nat} {vx vy : List V} {xs ys : List Value} {acc : Array Value} {c S : Nat} {as : List Addr} (I : Inv X pins σ H s) (hz : (vx.zip vy).length ≤ sizeLine) (rx : Vals vx xs) (ry : Vals vy ys)
    (hk : ∀ b o, s.heap.get? b = some o → h'.get? b = some o) (hlo : s.heap.objs.size ≤ S) (hS : h'.get? S = some { cls := .type "list", dict := none, data := .seq acc c, slots := #[] }) (hl : as.length = min xs.length ys.length) (hG : LzG xs.toArray ys.toArray S h' as) (hacc : acc.toList = as.map Value.ref) :
    ∃ H' : Hp, (∀ b o, H b = some o → H' b = some o) ∧ H S = none ∧ (∀ t ∈ as, H t = none) ∧ S ∉ as ∧ H' S = some (.lst (as.map V.ref)) ∧ Paired (fun (t : Addr) (q : V × V) => H' t = some (.tup [q.1, q.2])) as (vx.zip vy) ∧ Inv X pins σ H' { s with heap := h', toks := tk } := by
  have lx := rx.length
  have ly := ry.length
  have hSn : S ∉ as := fun z => Nat.lt_irrefl _ (hG.above _ z)
  have nd : as.Nodup := List.Pairwise.imp (fun {a b} (h : a < b) => Nat.ne_of_lt h) hG.rise
  have new : ∀ t ∈ as, H t = none := fun t ht => I.hok.fresh (Nat.le_trans hlo (Nat.le_of_lt (hG.above t ht)))
  have newS : H S = none := I.hok.fresh hlo
  have atP := putP_at as (vx.zip vy) (upd H S (.lst (as.map V.ref))) (by rw [hl, List.length_zip, lx, ly]) nd
  have off : ∀ b, b ∉ as → b ≠ S → putP (upd H S (.lst (as.map V.ref))) as (vx.zip vy) b = H b := fun b h1 h2 => by rw [putP_off as _ _ h1, upd_ne h2]
  have low : ∀ b o, s.heap.get? b = some o → b ∉ as ∧ b ≠ S := fun b o e => ⟨fun z => absurd (Heap.lt_size e) (Nat.not_lt.mpr (Nat.le_trans hlo (Nat.le_of_lt (hG.above b z)))), Nat.ne_of_lt (Nat.lt_of_lt_of_le (Heap.lt_size e) hlo)⟩
  have kp : ∀ b u, H b = some u → (putP (upd H S (.lst (as.map V.ref))) as (vx.zip vy)) b = some u := fun b u e => by
    rw [off b (fun z => by rw [new b z] at e; cases e) (fun z => by rw [z, newS] at e; cases e)]
    exact e
  have eS : putP (upd H S (.lst (as.map V.ref))) as (vx.zip vy) S = some (.lst (as.map V.ref)) := by rw [putP_off as _ _ hSn, upd_same]
  refine ⟨putP (upd H S (.lst (as.map V.ref))) as (vx.zip vy), kp, newS, new, hSn, eS, atP, ?_⟩
  refine I.call' (ch := []) rfl ⟨fun b o q _ _ _ => hk b o q, fun b o q _ _ _ => ⟨o.slots, hk b o q⟩, fun b o q n _ => ?_, fun b o q _ => ⟨o, hk b o q⟩, fun b xs q => kp b _ q, fun b o u q => kp b _ q, fun b ps q => ⟨#[], by rw [kp b _ q]; simp⟩⟩ (fun b u q => ?_) I.bare fun b z => by simp at z
  · obtain ⟨z1, z2⟩ := low b o q
    rw [off b z1 z2]
    exact n
  · by_cases hb : b ∈ as
    · obtain ⟨j, pk, e1, e2, e3⟩ := LiI.paired_ix atP hb
      rw [e3] at q
      cases q
      obtain ⟨x, y, f1, f2, f3⟩ := hG.pairs j b e1
      obtain ⟨g1, g2⟩ := List.getElem?_zip_eq_some.mp e2
      obtain ⟨x', h1, r1⟩ := rx.get g1
      obtain ⟨y', h2, r2⟩ := ry.get g2
      have f1' : xs[j]? = some x := by simpa using f1
      have f2' : ys[j]? = some y := by simpa using f2
      rw [f1'] at h1
      rw [f2'] at h2
      cases h1
      cases h2
      exact ⟨by show 2 ≤ sizeLine; decide, [x, y], .cons r1 (.cons r2 .nil), ⟨_, f3, rfl, _, rfl⟩⟩
    · by_cases hb2 : b = S
      · rw [hb2] at q ⊢
        rw [eS] at q
        cases q
        refine ⟨by rw [List.length_map, hl, ← lx, ← ly, ← List.length_zip]; exact hz, acc.toList, c, by rw [hacc]; exact LiI.vals_refs as, ?_⟩
        rw [Array.toArray_toList]
        exact hS
      · rw [off b hb hb2] at q
        exact (I.hok b u q).stay (fun d v _ y => hk d v y) (fun d y => kp d _ y) fun d xs y => kp d _ y
/-- list(zip(a, b)) -/
theorem pe_listZip {e e2 : Expr} {ta : TA} {p p2 pos pos2 : Pos} (hc : X.calm = true) (hg : Gl X "list") (hm : X.mg "list" = none) (hg2 : Gl X "zip") (hm2 : X.mg "zip" = none) (ha : PA X [e, e2] ta)
    (hs2 : starEach [e, e2] X.env = (false, eval e X.env) :: starEach [e2] X.env := by rfl) (hpl : (backTo pos2 (starEach [e2] X.env)).any (·.1) = false := by rfl)
    (hs : starEach [.Call (.Name "zip" p2) [e, e2] [] pos2] X.env = (false, eval (.Call (.Name "zip" p2) [e, e2] [] pos2) X.env) :: starEach [] X.env := by rfl) :
    PE X (.Call (.Name "list" p) [.Call (.Name "zip" p2) [e, e2] [] pos2] [] pos) (fun σ H Q => ta σ H fun vs H1 => rListZip X.K vs H1 Q) := by
  refine ⟨fun pins s σ H Q I h => ?_⟩
  refine wpAny_Call_Name_kw (ld_blt I hg hm boot_list ?_)
  refine PyProof.Rows.callWith_type1 ?_ hs rfl
  rw [hs]
  show wpAny _ _ (spliced ((false, eval (.Call (.Name "zip" p2) [e, e2] [] pos2) X.env) :: backTo pos (starEach [] X.env))) _ _ s
  refine Calls.spliced_cons ?_
  refine Call_ (ld_blt I hg2 hm2 PyProof.Rows.boot_zip (PyProof.Rows.callWith_type1 (thn (ha.run pos2 pins s σ H _ I h) fun us s1 ⟨vs, H1, I1, r1, q1⟩ => ?_) hs2 hpl))
  obtain ⟨a, b, xs, ys, ex, hqx, hqy, q⟩ := q1
  subst ex
  cases r1 with
  | cons r rr =>
    cases rr with
    | cons r' rr =>
      cases rr
      cases r
      cases r'
      obtain ⟨its, rv, p1, z1⟩ := I1.list hqx
      obtain ⟨its2, rv2, p2', z2⟩ := I1.list hqy
      have l1 := rv.length
      have l2 := rv2.length
      refine call_zip_2 p1.isList p2'.isList fun h' hz hTI hTO h1 h2 hsz hk => ?_
      refine Calls.spliced_nil ?_
      refine lz_call (s := { s1 with heap := h' }) (I1.ok.hd hc) (PySem.W.ktu_apart s1.heap.objs.size a b p1.lt p2'.lt) hz hTI hTO h1 h2 (p1.isList.at fun o e => hk _ o e) (p2'.isList.at fun o e => hk _ o e) (by simp only [List.size_toArray]; omega) fun h'' tk acc c as hk' hS hl hG hacc => ?_
      have hk2 : ∀ b o, s1.heap.get? b = some o → h''.get? b = some o := fun b o e => by
        have lt := Heap.lt_size e
        exact hk' b o (Nat.ne_of_lt (Nat.lt_add_right _ lt)) (Nat.ne_of_lt (Nat.lt_add_right _ lt)) (Nat.ne_of_lt lt) (Nat.ne_of_lt (Nat.lt_add_right _ lt)) (hk b o e)
      obtain ⟨H', k1, k2, k3, k4, k5, k6, J⟩ := zip_laid (tk := tk) I1 (by rw [List.length_zip]; omega) rv rv2 hk2 (show s1.heap.objs.size ≤ h'.objs.size by rw [hsz]; exact Nat.le_add_right _ _) hS (by simpa only [List.size_toArray] using hl) hG hacc
      exact ⟨.ref _, H', J, rfl, q H' _ as k1 k2 k3 k4 k5 k6⟩
end
end PM
end
section
set_option maxHeartbeats 2000000
/-! PMSx: more expressions: stars, displays of dicts, ranges as lists, lists turned about. -/
namespace PM
open PySem PySem.Spec L2
section
variable {X : Cx} {P : Pg} {cf : CF} {kk : Nat} {G : Gw} {ρ ρ' : List Addr} {H H' : Hp} {h h' : AH} {Q : VK} {a b c e : Expr} {a' b' c' : E} {pos apos : Pos}
theorem unpackA_ok {x : AV} {v : V} {xs : List AV} (hK : X.K = G.K) (R : RH G ρ h H) (rx : RV G ρ H x v) (e1 : unpackA x h = .ok xs h') : h' = h ∧ ∃ p ys, v = .ref p ∧ (SqT X.K H p ys ∨ SqL X.K H p ys) ∧ RVs G ρ H xs ys := by
  unfold unpackA at e1
  split at e1
  · obtain ⟨rfl, rfl⟩ := pure_inv e1
    obtain ⟨p, ys, rfl, ht, rs⟩ := RV_tup.mp rx
    exact ⟨rfl, p, ys, rfl, .inl (SqT.of ht), rs⟩
  · obtain ⟨rfl, rfl⟩ := pure_inv e1
    obtain ⟨p, ys, rfl, ht, rs⟩ := RV_ktp.mp rx
    exact ⟨rfl, p, ys, rfl, .inl (by rw [hK]; exact .inr ht), rs⟩
  · obtain ⟨g, rfl⟩ := lstO_inv e1
    obtain ⟨p, ys, rfl, _, hs, rs⟩ := R.lstR rx g
    exact ⟨rfl, p, ys, rfl, .inr (by rw [hK]; exact hs), rs⟩
  · cases e1
theorem wa_star {es : List Expr} {p : Pos} (hK : X.K = G.K) (ha : PE X e (WE P cf G a')) (hb : PA X es (WA P cf G b')) : PA X (.Starred e p :: es) (WA P cf G (.star a' b')) :=
  PA.imp (StX.pa_star ha hb) fun σ H Q ⟨ρ, h, σ', vs, h', R, S, ev, D⟩ => by
    rw [evA] at ev
    obtain ⟨x, h1, e1, e2⟩ := bind_inv ev
    obtain ⟨ys, h2, e3, e4⟩ := bind_inv e2
    obtain ⟨xs, h3, e5, e6⟩ := bind_inv e4
    obtain ⟨rfl, rfl⟩ := pure_inv e6
    refine WE.mk R S e1 fun ρ1 H1 v x1 R1 S1 r1 => ?_
    obtain ⟨rfl, p, ws, rfl, hs, rs⟩ := unpackA_ok hK R1 r1 e3
    refine ⟨p, ws, rfl, hs, WA.mk R1 S1 e5 fun ρ2 H2 w x2 R2 S2 r2 => ?_⟩
    exact D _ _ _ (x1.trans x2) R2 (RVs.append (RVs.mono x2 _ rs) r2)
theorem we_revL {k : Nat} {p1 p2 p3 : Pos} (hK : X.K = G.K) (he : PE X e (WE P cf G a')) : PE X (.Subscript e (.Slice none none (some (.UnaryOp .USub (.Constant (.int 1) k p1) p2)) p3) pos) (WE P cf G (.rev a')) :=
  PE.imp (pe_revL he) fun σ H Q ⟨ρ, h, σ', r, h', R, S, ev, D⟩ => by
    rw [evE] at ev
    obtain ⟨x, h1, e1, e2⟩ := bind_inv ev
    refine WE.mk R S e1 fun ρ1 H1 v x1 R1 S1 r1 => ?_
    split at e2
    · obtain ⟨xs, h2, e3, e4⟩ := bind_inv e2
      obtain ⟨g, rfl⟩ := lstO_inv e3
      obtain ⟨rfl, rfl⟩ := newO_inv e4
      obtain ⟨p, ys, rfl, _, hs, rs⟩ := R1.lstR r1 g
      exact ⟨p, ys, rfl, by rw [hK]; exact hs, newDone (o := .lst xs.reverse) R1 ⟨_, rfl, rs.reverse⟩ (D.ext x1)⟩
    · cases e2
/-! ### list(range(..)), tuple(range(..)) -/
theorem rgV_rel {ρ : List Addr} {H : Hp} (a b : Int) : RVs G ρ H ((List.range (b - a).toNat).map fun k => AV.int (a + (k : Nat))) (rgV a b) := by
  unfold rgV
  generalize (List.range (b - a).toNat) = l
  induction l with
  | nil => exact RVs.nil
  | cons x l ih => exact RVs.cons (by simp) ih
theorem rgV_rel0 {ρ : List Addr} {H : Hp} (n : Int) : RVs G ρ H ((List.range n.toNat).map fun k => AV.int (k : Nat)) (rgV 0 n) := by
  have e := rgV_rel (G := G) (ρ := ρ) (H := H) 0 n
  simpa using e
theorem we_listrange1 {p p2 pos2 : Pos} (C : Ctx P G X) (hn : noStar [e] = true) (hg : Gl X "list") (hm : X.mg "list" = none) (hg2 : Gl X "range") (hm2 : X.mg "range" = none) (he : PE X e (WE P cf G a')) :
    PE X (.Call (.Name "list" p) [.Call (.Name "range" p2) [e] [] pos2] [] pos) (WE P cf G (.blt .listrange (.cons a' .nil))) :=
  PE.imp (pe_listRg C.calm hg hm (prg_1 hg2 hm2 he (starEach_cons hn _))) fun σ H Q ⟨ρ, h, σ', r, h', R, S, ev, D⟩ => by
    rw [evE, evA] at ev
    obtain ⟨xs, h1, e1, e2⟩ := bind_inv ev
    obtain ⟨x, h2, e3, e4⟩ := bind_inv e1
    obtain ⟨ys, h3, e5, e6⟩ := bind_inv e4
    rw [evA] at e5
    obtain ⟨rfl, rfl⟩ := pure_inv e5
    obtain ⟨rfl, rfl⟩ := pure_inv e6
    refine WE.mk R S e3 fun ρ1 H1 v x1 R1 S1 r1 => ?_
    cases x <;> first | (cases e2; done) | skip
    · rename_i n
      obtain ⟨_, h4, e7, e8⟩ := bind_inv (show (do guardM (decide (-(2 ^ 62) ≤ n ∧ n ≤ 16777216)); newO (.lst ((List.range n.toNat).map fun k => AV.int (k : Nat)))) _ = .ok r h' from e2)
      obtain ⟨q1, rfl⟩ := guardM_inv e7
      obtain ⟨rfl, rfl⟩ := newO_inv e8
      have q2 := of_decide_eq_true q1
      refine ⟨n, RV_int.mp r1, ⟨by omega, by omega, by omega, by omega, by omega⟩, newDone (o := .lst ((List.range n.toNat).map fun k => AV.int (k : Nat))) R1 ⟨_, rfl, rgV_rel0 n⟩ (D.ext x1)⟩
theorem we_listrange2 {p p2 pos2 : Pos} (C : Ctx P G X) (hn : noStar [a, b] = true) (hg : Gl X "list") (hm : X.mg "list" = none) (hg2 : Gl X "range") (hm2 : X.mg "range" = none) (ha : PE X a (WE P cf G a')) (hb : PE X b (WE P cf G b')) :
    PE X (.Call (.Name "list" p) [.Call (.Name "range" p2) [a, b] [] pos2] [] pos) (WE P cf G (.blt .listrange (.cons a' (.cons b' .nil)))) :=
  PE.imp (pe_listRg C.calm hg hm (prg_2 hg2 hm2 ha hb (starEach_cons hn _) (starEach_cons (noStar_tl hn) _) (backTo_any (noStar_tl hn) _ _))) fun σ H Q ⟨ρ, h, σ', r, h', R, S, ev, D⟩ => by
    rw [evE, evA] at ev
    obtain ⟨xs, h1, e1, e2⟩ := bind_inv ev
    obtain ⟨x, h2, e3, e4⟩ := bind_inv e1
    obtain ⟨ys, h3, e5, e6⟩ := bind_inv e4
    obtain ⟨rfl, rfl⟩ := pure_inv e6
    rw [evA] at e5
    obtain ⟨y, h4, e7, e8⟩ := bind_inv e5
    obtain ⟨zs, h5, e9, e10⟩ := bind_inv e8
    rw [evA] at e9
    obtain ⟨rfl, rfl⟩ := pure_inv e9
    obtain ⟨rfl, rfl⟩ := pure_inv e10
    refine WE.mk R S e3 fun ρ1 H1 v x1 R1 S1 r1 => WE.mk R1 S1 e7 fun ρ2 H2 w x2 R2 S2 r2 => ?_
    cases x <;> first | (cases e2; done) | skip
    · cases y <;> first | (cases e2; done) | skip
      rename_i i j
      obtain ⟨_, h6, e11, e12⟩ := bind_inv (show (do guardM (decide (-(2 ^ 62) ≤ i ∧ i < 2 ^ 62 ∧ -(2 ^ 62) ≤ j ∧ j < 2 ^ 62 ∧ (j - i).toNat ≤ 16777216)); newO (.lst ((List.range (j - i).toNat).map fun k => AV.int (i + (k : Nat))))) _ = .ok r h' from e2)
      obtain ⟨q1, rfl⟩ := guardM_inv e11
      obtain ⟨rfl, rfl⟩ := newO_inv e12
      have q2 := of_decide_eq_true q1
      refine ⟨i, j, RV_int.mp r1, RV_int.mp r2, ⟨by omega, by omega, by omega, by omega, by omega⟩, newDone (o := .lst ((List.range (j - i).toNat).map fun k => AV.int (i + (k : Nat)))) R2 ⟨_, rfl, rgV_rel i j⟩ (D.ext (x1.trans x2))⟩
theorem we_tuprange1 {p p2 pos2 : Pos} (C : Ctx P G X) (hn : noStar [e] = true) (hg : Gl X "tuple") (hm : X.mg "tuple" = none) (hg2 : Gl X "range") (hm2 : X.mg "range" = none) (he : PE X e (WE P cf G a')) :
    PE X (.Call (.Name "tuple" p) [.Call (.Name "range" p2) [e] [] pos2] [] pos) (WE P cf G (.blt .tuplerange (.cons a' .nil))) :=
  PE.imp (pe_tupRg C.calm hg hm (prg_1 hg2 hm2 he (starEach_cons hn _))) fun σ H Q ⟨ρ, h, σ', r, h', R, S, ev, D⟩ => by
    rw [evE, evA] at ev
    obtain ⟨xs, h1, e1, e2⟩ := bind_inv ev
    obtain ⟨x, h2, e3, e4⟩ := bind_inv e1
    obtain ⟨ys, h3, e5, e6⟩ := bind_inv e4
    rw [evA] at e5
    obtain ⟨rfl, rfl⟩ := pure_inv e5
    obtain ⟨rfl, rfl⟩ := pure_inv e6
    refine WE.mk R S e3 fun ρ1 H1 v x1 R1 S1 r1 => ?_
    cases x <;> first | (cases e2; done) | skip
    · rename_i n
      obtain ⟨_, h4, e7, e8⟩ := bind_inv (show (do guardM (decide (-(2 ^ 62) ≤ n ∧ n ≤ 16777216)); pure (AV.tup ((List.range n.toNat).map fun k => AV.int (k : Nat)))) _ = .ok r h' from e2)
      obtain ⟨q1, rfl⟩ := guardM_inv e7
      obtain ⟨rfl, rfl⟩ := pure_inv e8
      have q2 := of_decide_eq_true q1
      exact ⟨n, RV_int.mp r1, ⟨by omega, by omega, by omega, by omega, by omega⟩, tupDone R1 (rgV_rel0 n) (D.ext x1)⟩
/-! ### displays of dicts -/
def trD (f : Expr → E) : List (Option Expr) → List Expr → E
  | some k :: ks, v :: vs => .cons (f k) (.cons (f v) (trD f ks vs))
  | _, _ => .nil
def trDp (P : Pg) (cf : CF) (G : Gw) (f : Expr → E) : List (Option Expr) → List Expr → List (TE × TE)
  | some k :: ks, v :: vs => (WE P cf G (f k), WE P cf G (f v)) :: trDp P cf G f ks vs
  | _, _ => []
theorem pps_ok {f : Expr → E} (hE : ∀ e, PE X e (WE P cf G (f e))) : ∀ (ks : List (Option Expr)) (vs : List Expr), ks.all (·.isSome) = true → ks.length = vs.length → PPs X pos ks vs (trDp P cf G f ks vs)
  | [], [], _, _ => pps_nil
  | [], _ :: _, _, h => by cases h
  | some k :: ks, v :: vs, h, hl => pps_cons (hE k) (hE v) (pps_ok hE ks vs (by simpa using h) (by simpa using hl))
  | some k :: ks, [], _, h => by cases h
  | none :: ks, _, h, _ => by simp at h
def RPs (G : Gw) (ρ : List Addr) (H : Hp) : List (AV × AV) → List (V × V) → Prop
  | [], l => l = []
  | (k, x) :: r, l => ∃ u v l', l = (u, v) :: l' ∧ RV G ρ H k u ∧ RV G ρ H x v ∧ RPs G ρ H r l'
theorem RPs.mono (e : Ext ρ H ρ' H') : ∀ {kvs : List (AV × AV)} {l : List (V × V)}, RPs G ρ H kvs l → RPs G ρ' H' kvs l
  | [], _, h => h
  | (k, x) :: r, _, h => by
    obtain ⟨k', v, l', rfl, h1, h2, h3⟩ := h
    exact ⟨k', v, l', rfl, RV.mono e k h1, RV.mono e x h2, RPs.mono e h3⟩
theorem pairs_run {f : Expr → E} : ∀ (ks : List (Option Expr)) (vs : List Expr) (ρ : List Addr) (h : AH) (H : Hp) (σ : St) (σ' : Loc) (xs : List AV) (ps : List (AV × AV)) (h' : AH) (Q : List (V × V) → Hp → Prop),
    RH G ρ h H → RS G ρ H σ' σ → evA P cf (trD f ks vs) σ' h = .ok xs h' → pairUp xs = some ps → (∀ ρ' H' l, Ext ρ H ρ' H' → RH G ρ' h' H' → RPs G ρ' H' ps l → Q l H') → tPairs (trDp P cf G f ks vs) σ H Q
  | some k :: ks, v :: vs, ρ, h, H, σ, σ', xs, ps, h', Q, R, S, e, ep, q => by
    rw [trD, evA] at e
    obtain ⟨x, h1, e1, e2⟩ := bind_inv e
    obtain ⟨ys, h2, e3, e4⟩ := bind_inv e2
    obtain ⟨rfl, rfl⟩ := pure_inv e4
    rw [evA] at e3
    obtain ⟨y, h3, e5, e6⟩ := bind_inv e3
    obtain ⟨zs, h4, e7, e8⟩ := bind_inv e6
    obtain ⟨rfl, rfl⟩ := pure_inv e8
    obtain ⟨ps', ep', rfl⟩ := Option.map_eq_some_iff.mp (show (pairUp zs).map ((x, y) :: ·) = some ps from ep)
    refine WE.mk R S e1 fun ρ1 H1 u x1 R1 S1 r1 => WE.mk R1 S1 e5 fun ρ2 H2 w x2 R2 S2 r2 => ?_
    refine pairs_run ks vs ρ2 _ H2 σ σ' _ _ _ _ R2 S2 e7 ep' fun ρ3 H3 l x3 R3 r3 => ?_
    exact q _ _ _ (x1.trans (x2.trans x3)) R3 ⟨u, w, l, rfl, RV.mono (x2.trans x3) _ r1, RV.mono x3 _ r2, r3⟩
  | [], vs, ρ, h, H, σ, σ', xs, ps, h', Q, R, S, e, ep, q => by
    have e' : evA P cf .nil σ' h = .ok xs h' := by cases vs <;> exact e
    rw [evA] at e'
    obtain ⟨rfl, rfl⟩ := pure_inv e'
    cases ep
    have : tPairs (trDp P cf G f [] vs) σ H Q = Q [] H := by cases vs <;> rfl
    rw [this]
    exact q _ _ _ .refl R rfl
  | none :: ks, vs, ρ, h, H, σ, σ', xs, ps, h', Q, R, S, e, ep, q => by
    have e' : evA P cf .nil σ' h = .ok xs h' := by cases vs <;> exact e
    rw [evA] at e'
    obtain ⟨rfl, rfl⟩ := pure_inv e'
    cases ep
    have : tPairs (trDp P cf G f (none :: ks) vs) σ H Q = Q [] H := by cases vs <;> rfl
    rw [this]
    exact q _ _ _ .refl R rfl
  | some k :: ks, [], ρ, h, H, σ, σ', xs, ps, h', Q, R, S, e, ep, q => by
    have e' : evA P cf .nil σ' h = .ok xs h' := e
    rw [evA] at e'
    obtain ⟨rfl, rfl⟩ := pure_inv e'
    cases ep
    exact q _ _ _ .refl R rfl
theorem RPs.keys : ∀ {ps : List (AV × AV)} {l : List (V × V)}, RPs G ρ H ps l → (ps.all fun kv => keyF kv.1) = true → ∃ kvs : List (Key × V), l = kvs.map (fun kv => (kV kv.1, kv.2)) ∧ RKs G ρ H ps kvs
  | [], _, h, _ => by cases h; exact ⟨[], rfl, rfl⟩
  | (k, x) :: r, _, h, hk => by
    obtain ⟨u, v, l', rfl, h1, h2, h3⟩ := h
    rw [List.all_cons, Bool.and_eq_true] at hk
    obtain ⟨kvs, rfl, q⟩ := RPs.keys h3 hk.2
    obtain ⟨c, ec⟩ := cK_of hk.1
    obtain rfl := (RV_cK ec).mp h1
    exact ⟨(c, v) :: kvs, rfl, c, v, kvs, rfl, ec, h2, q⟩
theorem RPs.length : ∀ {ps : List (AV × AV)} {l : List (V × V)}, RPs G ρ H ps l → ps.length = l.length
  | [], _, h => by cases h; rfl
  | (k, x) :: r, _, h => by
    obtain ⟨u, v, l', rfl, h1, h2, h3⟩ := h
    simp [RPs.length h3]
theorem zipRel : ∀ {xs xs2 : List AV} {ys ys2 : List V} {ts : List Addr}, RVs G ρ H xs ys → RVs G ρ H xs2 ys2 → Paired (fun (t : Addr) (q : V × V) => H t = some (.tup [q.1, q.2])) ts (ys.zip ys2) → RVs G ρ H ((xs.zip xs2).map fun p => .tup [p.1, p.2]) (ts.map V.ref)
  | [], xs2, ys, ys2, ts, h1, h2, hp => by
    rw [RVs_nil.mp h1] at hp
    cases hp
    exact RVs.nil
  | x :: xs, [], ys, ys2, ts, h1, h2, hp => by
    rw [RVs_nil.mp h2, List.zip_nil_right] at hp
    cases hp
    exact RVs.nil
  | x :: xs, x2 :: xs2, ys, ys2, ts, h1, h2, hp => by
    obtain ⟨y, r, rfl, a1, a2⟩ := RVs_cons.mp h1
    obtain ⟨y2, r2, rfl, b1, b2⟩ := RVs_cons.mp h2
    rw [List.zip_cons_cons] at hp
    cases hp with
    | cons e r => exact RVs.cons (RV_tup.mpr ⟨_, _, rfl, e, RVs.cons a1 (RVs.cons b1 RVs.nil)⟩) (zipRel a2 b2 r)
theorem we_listzip {a b : Expr} {a' b' : E} {p p2 pos q : Pos} (C : Ctx P G X) (hn : noStar [a, b] = true) (hg : Gl X "list") (hm : X.mg "list" = none) (hg2 : Gl X "zip") (hm2 : X.mg "zip" = none) (ha : PA X [a, b] (WA P cf G (.cons a' (.cons b' .nil)))) :
    PE X (.Call (.Name "list" p) [.Call (.Name "zip" p2) [a, b] [] q] [] pos) (WE P cf G (.blt .listzip (.cons a' (.cons b' .nil)))) :=
  PE.imp (pe_listZip C.calm hg hm hg2 hm2 ha (starEach_cons hn _) (backTo_any (noStar_tl hn) _ _)) fun σ H Q ⟨ρ, h, σ', r, h', R, S, ev, D⟩ => by
    rw [evE] at ev
    obtain ⟨vs, h1, e1, e2⟩ := bind_inv ev
    refine WA.mk R S e1 fun ρ1 H1 w x1 R1 S1 r1 => ?_
    obtain ⟨x, y, rfl⟩ := two_inv e1
    obtain ⟨u, u', rfl, ru, ru'⟩ := rvs2 r1
    have e2' : bltA P .listzip [x, y] h1 = .ok r h' := e2
    unfold bltA at e2'
    cases x <;> first | (cases e2'; done) | skip
    cases y <;> first | (cases e2'; done) | skip
    rename_i n m
    obtain ⟨xs, h2, e3, e4⟩ := bind_inv (show (do let xs ← lstO n; let ys ← lstO m; newO (.lst ((xs.zip ys).map fun p => .tup [p.1, p.2])) : M AV) h1 = .ok r h' from e2')
    obtain ⟨ys, h3, e5, e6⟩ := bind_inv e4
    obtain ⟨g1, rfl⟩ := lstO_inv e3
    obtain ⟨g2, rfl⟩ := lstO_inv e5
    obtain ⟨rfl, rfl⟩ := newO_inv e6
    obtain ⟨q1, zs, rfl, _, hs, rs⟩ := R1.lstR ru g1
    obtain ⟨q2, zs2, rfl, _, hs2, rs2⟩ := R1.lstR ru' g2
    refine ⟨q1, q2, zs, zs2, rfl, by rw [C.hK]; exact hs, by rw [C.hK]; exact hs2, fun H' pz ts kp n1 n2 n3 e4 e5 => ?_⟩
    have xx : Ext ρ1 H1 ρ1 H' := ⟨⟨[], by simp⟩, fun a ys q => kp a _ q⟩
    obtain ⟨ex, R', rv⟩ := R1.pushG (o := .lst ((xs.zip ys).map fun p => .tup [p.1, p.2])) kp n1 e4 ⟨_, rfl, zipRel (RVs.mono xx _ rs) (RVs.mono xx _ rs2) e5⟩
    exact (D.ext x1) _ _ _ ex R' rv
theorem we_edict {pos : Pos} : PE X (.Dict [] [] pos) (WE P cf G (.blt .edict .nil)) :=
  PE.imp pe_dnewK fun σ H Q ⟨ρ, h, σ', r, h', R, S, e, D⟩ => by
    rw [evE] at e
    obtain ⟨xs, h1, e1, e2⟩ := bind_inv e
    rw [evA] at e1
    obtain ⟨rfl, rfl⟩ := pure_inv e1
    obtain ⟨rfl, rfl⟩ := newO_inv (show newO (.dic []) h1 = .ok r h' from e2)
    exact newDone (o := .dic []) R (.inl ⟨[], rfl, rfl⟩) D
theorem we_dic {f : Expr → E} {ks : List (Option Expr)} {vs : List Expr} (hE : ∀ e, PE X e (WE P cf G (f e))) (hall : ks.all (·.isSome) = true) (hl : ks.length = vs.length) (h0 : ks ≠ []) (h15 : ks.length ≤ 15) :
    PE X (.Dict ks vs pos) (WE P cf G (.dic (trD f ks vs))) :=
  PE.imp (pe_disp (pps_ok hE ks vs hall hl) hall hl h0 h15) fun σ H Q ⟨ρ, h, σ', r, h', R, S, ev, D⟩ => by
    rw [evE] at ev
    obtain ⟨p0, h1, e1, e2⟩ := bind_inv ev
    obtain ⟨xs, h2, e3, e4⟩ := bind_inv e2
    obtain ⟨ps, h3, e5, e6⟩ := bind_inv e4
    obtain ⟨ep, rfl⟩ := ofO_inv e5
    obtain ⟨_, h4, e7, e8⟩ := bind_inv e6
    obtain ⟨q1, rfl⟩ := guardM_inv e7
    rw [Bool.and_eq_true, decide_eq_true_eq] at q1
    obtain ⟨rfl, rfl⟩ := newO_inv e1
    obtain ⟨_, h5, e9, e10⟩ := bind_inv e8
    obtain ⟨_, h6, e11, e12⟩ := bind_inv e10
    obtain ⟨rfl, rfl⟩ := pure_inv e12
    cases e11
    unfold tmpO at e9
    split at e9
    · rename_i g
      cases e9
      intro p hp
      obtain ⟨x1, R1, r1⟩ := R.push (p := p) (o := .tmp) (ho := .dK []) hp rfl
      have hn : (ρ ++ [p])[h.n]? = some p := by
        rw [List.getElem?_append_right (by rw [R.len]; exact Nat.le_refl _), R.len]; simp
      refine pairs_run ks vs _ _ _ _ σ' _ _ _ _ R1 (S.mono x1) e3 ep fun ρ2 H2 l x2 R2 r2 => ?_
      have hp2 := x2.get hn
      obtain ⟨ho, g1, g2⟩ := R2.ob _ _ _ hp2 g
      cases (show ho = .dK [] from g2)
      obtain ⟨kvs, rfl, rk⟩ := r2.keys q1.1
      refine ⟨g1, kvs, rfl, ?_, ?_⟩
      · have := r2.length
        rw [List.length_map] at this
        omega
      · have rm : RO G ρ2 H2 (.dic (putAll [] ps)) (.dK (mergeK [] kvs)) := .inl ⟨_, rfl, putAll_K ps (kvs := []) (l := []) rfl rk⟩
        obtain ⟨x3, R3⟩ := R2.set hp2 (by rw [g1]; exact True.intro) rm
        exact D _ _ _ (x1.trans (x2.trans x3)) R3 (RV_ref.mpr ⟨p, x3.get hp2, rfl⟩)
    · cases e9
/-! ### len(set(texts)) -/
theorem boot_setP : bootBuiltins "set" = some (.type "set") := by decide +kernel
def tLenSetS (X : Cx) (ta : TE) : TE := fun σ H Q => ta σ H fun x H1 => ∃ (l : Addr) (xs : List Str), x = .ref l ∧ (SqL X.K H1 l (xs.map V.str) ∨ SqT X.K H1 l (xs.map V.str)) ∧ xs.length < 4000 ∧ Q (.int (xs.foldl addS []).length) H1
theorem metS_all {xs : List Str} {n : Nat} (h : n = xs.length) : metS (fun i => xs.getD i Str.empty) n = xs.foldl addS [] := by
  rw [metS_take xs n (by omega), h, List.take_length]
theorem pe_lenSetS {ta : TE} {p p2 q : Pos} (hc : X.calm = true) (hn : noStar [a] = true) (hg : Gl X "len") (hm : X.mg "len" = none) (hg2 : Gl X "set") (hm2 : X.mg "set" = none) (ha : PE X a ta) :
    PE X (.Call (.Name "len" p) [.Call (.Name "set" p2) [a] [] q] [] pos) (tLenSetS X ta) := by
  have na := starEach_cons hn X.env
  refine ⟨fun pins s σ H Q I h => PyProof.Rows.Call_ (ld_blt I hg hm boot_len ?_)⟩
  refine PyProof.Rows.callWith_builtin1 (PyProof.Rows.args_cons ?_ rfl) rfl rfl
  refine PyProof.Rows.Call_ (ld_blt I hg2 hm2 boot_setP ?_)
  refine PyProof.Rows.callWith_type1 (PyProof.Rows.args_cons (thn (ha.run pins s σ H _ I h) fun v s1 ⟨x, H1, I1, r1, q1⟩ => PyProof.Rows.args_nil ?_) na) na rfl
  obtain ⟨l, xs, rfl, hq, h1, q1⟩ := q1
  cases r1
  have fin : ∀ (its : List Value), Vals (xs.map V.str) its → ∀ (h' : Heap) (tk : Nat), SetS X.prog X.w h' s1.heap.objs.size (metS (fun i => xs.getD i Str.empty) its.toArray.size) →
      (∀ b o, b < s1.heap.objs.size → s1.heap.get? b = some o → h'.get? b = some o) →
      wpAny (model X.prog X.w) X.A (spliced (backTo pos (starEach [] X.env))) (fun vs s₂ => wpAny (model X.prog X.w) X.A (call (.builtin "len") (Value.ref s1.heap.objs.size :: vs)) (EP X pins σ Q) X.xe s₂) X.xe { s1 with heap := h', toks := tk } := fun its r h' tk hS hk => by
    have hl : its.toArray.size = xs.length := by rw [List.size_toArray, ← r.length, List.length_map]
    have hle := metS_le (fun i => xs.getD i Str.empty) its.toArray.size
    rw [metS_all hl] at hS hle
    obtain ⟨o, es, ep, t, ho, hex, hd, _, _, _, hf, hz⟩ := hS
    have I2 : Inv X pins σ H1 { s1 with heap := h', toks := tk } := I1.kept fun b o e => hk b o (Heap.lt_size e) e
    exact PyProof.Rows.args_nil (call_len_set ho hex hd hf (by rw [hz]; omega) ⟨.int (xs.foldl addS []).length, H1, I2.tok _, ⟨_, by rw [hz]⟩, q1⟩)
  have room : ∀ its : List Value, Vals (xs.map V.str) its → its.toArray.size + 1 < scanBound := fun its r => by
    have : its.length = xs.length := by rw [← r.length, List.length_map]
    rw [List.size_toArray]
    unfold scanBound
    omega
  rcases hq with hq | hq
  · obtain ⟨its, r, pl, hz⟩ := I1.list hq
    exact set_call (fun led => set_init_lst (I1.ok.hd hc) pl.isList (by simpa using strsAre_of r) (room its r) led) fun h' tk hS hk => fin its r h' tk hS hk
  · obtain ⟨its, r, pl, hz⟩ := I1.tuple hq
    exact set_call (fun led => set_init_tup (I1.ok.hd hc) pl (by simpa using strsAre_of r) (room its r) led) fun h' tk hS hk => fin its r h' tk hS hk
theorem we_lenset {p p2 q : Pos} (C : Ctx P G X) (hn : noStar [a] = true) (hg : Gl X "len") (hm : X.mg "len" = none) (hg2 : Gl X "set") (hm2 : X.mg "set" = none) (ha : PE X a (WE P cf G a')) :
    PE X (.Call (.Name "len" p) [.Call (.Name "set" p2) [a] [] q] [] pos) (WE P cf G (.blt .setlen (.cons a' .nil))) :=
  PE.imp (pe_lenSetS C.calm hn hg hm hg2 hm2 ha) fun σ H Q ⟨ρ, h, σ', r, h', R, S, ev, D⟩ => by
    rw [evE, evA] at ev
    obtain ⟨xs, h1, e1, e2⟩ := bind_inv ev
    obtain ⟨x, h2, e3, e4⟩ := bind_inv e1
    obtain ⟨ys, h3, e5, e6⟩ := bind_inv e4
    rw [evA] at e5
    obtain ⟨rfl, rfl⟩ := pure_inv e5
    obtain ⟨rfl, rfl⟩ := pure_inv e6
    refine WE.mk R S e3 fun ρ1 H1 v x1 R1 S1 r1 => ?_
    have done : ∀ {us : List AV} {zs : List (List Nat)} {vs : List V} {hh : AH} {l : Addr}, RH G ρ1 hh H1 → hh = h' → v = .ref l → (SqL X.K H1 l vs ∨ SqT X.K H1 l vs) → RVs G ρ1 H1 us vs → strsO us = some zs → decide (zs.length < 4000) = true → r = .int ((zs.foldl addL []).length : Nat) → ∃ (l : Addr) (xs : List Str), v = .ref l ∧ (SqL X.K H1 l (xs.map V.str) ∨ SqT X.K H1 l (xs.map V.str)) ∧ xs.length < 4000 ∧ Q (.int (xs.foldl addS []).length) H1 := by
      intro us zs vs hh l R2 eh evl hs rs es hd er
      subst eh er
      have e := strsO_ok _ _ _ rs es
      subst e
      refine ⟨l, zs.map cStr, evl, hs, by rw [List.length_map]; exact of_decide_eq_true hd, ?_⟩
      have ef : (zs.map cStr).foldl addS [] = (zs.foldl addL []).map cStr := fold_map zs []
      rw [ef, List.length_map]
      exact (D.ext x1).here R2 (by simp)
    have e2' : bltA P .setlen [x] _ = .ok r h' := e2
    unfold bltA at e2'
    cases x <;> first | (cases e2'; done) | skip
    · rename_i us
      obtain ⟨zs, h4, e7, e8⟩ := bind_inv e2'
      obtain ⟨es, rfl⟩ := ofO_inv e7
      obtain ⟨_, h5, e9, e10⟩ := bind_inv e8
      obtain ⟨q1, rfl⟩ := guardM_inv e9
      obtain ⟨rfl, rfl⟩ := pure_inv e10
      obtain ⟨l, vs, rfl, ht, rs⟩ := RV_tup.mp r1
      exact done R1 rfl rfl (.inr (SqT.of ht)) rs es q1 rfl
    · rename_i n
      obtain ⟨us, h4, e7, e8⟩ := bind_inv e2'
      obtain ⟨g, rfl⟩ := lstO_inv e7
      obtain ⟨zs, h5, e9, e10⟩ := bind_inv e8
      obtain ⟨es, rfl⟩ := ofO_inv e9
      obtain ⟨_, h6, e11, e12⟩ := bind_inv e10
      obtain ⟨q1, rfl⟩ := guardM_inv e11
      obtain ⟨rfl, rfl⟩ := pure_inv e12
      obtain ⟨l, vs, rfl, _, hs, rs⟩ := R1.lstR r1 g
      exact done R1 rfl rfl (.inl (by rw [C.hK]; exact hs)) rs es q1 rfl
end
end PM
end
section
set_option maxHeartbeats 2000000
/-! PMT: the text as the interpreter's text. -/
namespace PM
open PySem PySem.Spec L2
inductive GK where
  | fn (f : Nat) | cls (c : Nat) | cst (a : AV) | dct (d : Nat)
structure TC where
  gl : List (Str × GK)
  nms : List Str
  kw : List KwE
  N : List Str
  sc : Scope
  fn : Str → Bool
def idx (N : List Str) (x : Str) : Option Nat := N.findIdx? (· == x)
theorem idx_ok {N : List Str} {x : Str} {i : Nat} (h : idx N x = some i) : N[i]? = some x := by
  unfold idx at h
  obtain ⟨hi, h1, _⟩ := List.findIdx?_eq_some_iff_getElem.mp h
  rw [List.getElem?_eq_getElem hi]
  exact congrArg some (beq_iff_eq.mp h1)
/-- a method's number -/
def mNo (nms : List Str) (x : Str) : Option Nat :=
  match ([("append", 0), ("extend", 1), ("pop", 2), ("get", 3), ("join", 4), ("split", 5), ("index", 6), ("count", 7), ("update", 8), ("endswith", 10), ("find", 12)] : List (Str × Nat)).lookup x with
  | some m => some m
  | none => (idx nms x).map (100 + ·)
theorem mNo_ok {nms : List Str} {x : Str} {m : Nat} (h : mNo nms x = some m) : mNm nms m = some x := by
  unfold mNo at h
  split at h
  · rename_i k hk
    cases h
    have hm := PySem.mem_of_lookup hk
    simp only [List.mem_cons, Prod.mk.injEq, List.not_mem_nil, or_false] at hm
    rcases hm with ⟨rfl, rfl⟩ | ⟨rfl, rfl⟩ | ⟨rfl, rfl⟩ | ⟨rfl, rfl⟩ | ⟨rfl, rfl⟩ | ⟨rfl, rfl⟩ | ⟨rfl, rfl⟩ | ⟨rfl, rfl⟩ | ⟨rfl, rfl⟩ | ⟨rfl, rfl⟩ | ⟨rfl, rfl⟩ <;> rfl
  · obtain ⟨i, hi, rfl⟩ := Option.map_eq_some_iff.mp h
    unfold mNm
    rw [if_neg (by omega), Nat.add_sub_cancel_left]
    exact idx_ok hi
def bTab : List (Str × B) := [("len", .len), ("abs", .abs), ("max", .max), ("min", .min), ("sum", .sum), ("all", .all), ("any", .any), ("sorted", .sorted), ("repr", .repr), ("isinstance", .isinstance), ("int", .int), ("str", .str), ("list", .list), ("tuple", .tuple), ("dict", .dict), ("bool", .bool)]
def bNames : List Str := ["len", "abs", "max", "min", "sum", "all", "any", "sorted", "repr", "isinstance", "int", "str", "list", "tuple", "dict", "bool", "range", "enumerate", "zip", "set"]
theorem bTab_ok {x : Str} {b : B} (h : bTab.lookup x = some b) : bltName b = some x ∧ x ∈ bNames := by
  have hm := PySem.mem_of_lookup h
  simp only [bTab, List.mem_cons, Prod.mk.injEq, List.not_mem_nil, or_false] at hm
  rcases hm with ⟨rfl, rfl⟩ | ⟨rfl, rfl⟩ | ⟨rfl, rfl⟩ | ⟨rfl, rfl⟩ | ⟨rfl, rfl⟩ | ⟨rfl, rfl⟩ | ⟨rfl, rfl⟩ | ⟨rfl, rfl⟩ | ⟨rfl, rfl⟩ | ⟨rfl, rfl⟩ | ⟨rfl, rfl⟩ | ⟨rfl, rfl⟩ | ⟨rfl, rfl⟩ | ⟨rfl, rfl⟩ | ⟨rfl, rfl⟩ | ⟨rfl, rfl⟩ <;> exact ⟨rfl, by simp [bNames]⟩
def tyTab : List (Str × String) := [("int", "int"), ("str", "str"), ("bool", "bool"), ("tuple", "tuple"), ("list", "list"), ("dict", "dict")]
theorem tyTab_ok {x : Str} {t : String} (h : tyTab.lookup x = some t) : bootBuiltins x = some (.type t) ∧ x ∈ bNames ∧ x ≠ "__name__" ∧ (x == ("__debug__" : Str)) = false := by
  have hm := PySem.mem_of_lookup h
  simp only [tyTab, List.mem_cons, Prod.mk.injEq, List.not_mem_nil, or_false] at hm
  rcases hm with ⟨rfl, rfl⟩ | ⟨rfl, rfl⟩ | ⟨rfl, rfl⟩ | ⟨rfl, rfl⟩ | ⟨rfl, rfl⟩ | ⟨rfl, rfl⟩ <;> exact ⟨by decide +kernel, by simp [bNames], by decide, by decide⟩
def dbg (x : Str) : Bool := x == ("__debug__" : Str) || x == ("__classdict__" : Str)
def visB (sc : Scope) (x : Str) : Bool := match sc.names.lookup x with
  | some .local | some .cell | some .free => true
  | _ => false
def glB (sc : Scope) (x : Str) : Bool := match sc.names.lookup x with
  | some .globalImplicit => true
  | _ => false
def locB (T : TC) (x : Str) : Bool := match T.sc.names.lookup x with
  | some .local => true
  | some .cell => T.fn x
  | _ => false
def trName (T : TC) (x : Str) : E :=
  if dbg x then .nil
  else if visB T.sc x then (match idx T.N x with | some i => .v i | none => .nil)
  else if glB T.sc x then (match T.gl.lookup x with
    | some (.cst a) => .k a
    | some (.cls c) => .k (.glo c)
    | some (.fn _) => .nil
    | some (.dct _) => .nil
    | none => match tyTab.lookup x with
      | some t => .k (.ty t)
      | none => .nil)
  else .nil
def trL (f : Expr → E) : List Expr → E
  | [] => .nil
  | e :: r => .cons (f e) (trL f r)
def trLS (f : Expr → E) : List Expr → E
  | [] => .nil
  | .Starred e _ :: r => .star (f e) (trLS f r)
  | e :: r => .cons (f e) (trLS f r)
def trK (f : Expr → E) : List Keyword → E
  | [] => .nil
  | k :: r => .cons (f k.value) (trK f r)
def kwNms : List Keyword → Option (List Str)
  | [] => some []
  | ⟨some x, _, _⟩ :: r => (kwNms r).map (x :: ·)
  | _ :: _ => none
def kwAt (T : TC) (x : Str) (n : Nat) (ks : List Str) : Option KwE := T.kw.find? fun q => q.x == x && q.n == n && decide (q.ks = ks)
def trB (f : Expr → E) (j : E → E → E) : List Expr → E
  | [] => .nil
  | [e] => f e
  | e :: r => j (f e) (trB f j r)
def baseOk : Expr → Bool
  | .Call (.Name _ _) [] [] _ => false
  | _ => true
def plainIxB : Expr → Bool
  | .Slice _ _ none _ => false
  | _ => true
def notSet : Expr → Bool
  | .Set _ _ _ => false
  | _ => true
/-- what is walked -/
def trI (f : Expr → E) (T : TC) (tup : Bool) : Expr → IK × E
  | .Call (.Name x p) es [] pos => if glB T.sc x && (T.gl.lookup x).isNone && noStar es then
      (if x == ("range" : Str) then (match es with
        | [a] => (.range, .cons (f a) .nil)
        | [a, b] => (.range, .cons (f a) (.cons (f b) .nil))
        | _ => (.self, .cons .nil .nil))
      else if x == ("enumerate" : Str) && tup then (match es with
        | [a] => (.enum, .cons (f a) .nil)
        | _ => (.self, .cons .nil .nil))
      else if x == ("zip" : Str) && tup then (match es with
        | [a, b] => (.zip, .cons (f a) (.cons (f b) .nil))
        | _ => (.self, .cons .nil .nil))
      else (.self, .cons (f (.Call (.Name x p) es [] pos)) .nil))
    else (.self, .cons (f (.Call (.Name x p) es [] pos)) .nil)
  | e => if notSet e then (.self, .cons (f e) .nil) else (.self, .cons .nil .nil)
def trGL (g : Expr → E) : List Expr → E
  | [] => .nil
  | e :: r => .cons (g e) (trGL g r)
def isTup : Expr → Bool
  | .Tuple _ _ _ => true
  | _ => false
/-- a target; m: how deep -/
def trG (f : Expr → E) (T : TC) : Nat → Expr → E
  | 0, _ => .nil
  | m + 1, e => match e with
    | .Name x _ => if locB T x then (match idx T.N x with | some i => .v i | none => .nil) else .nil
    | .Tuple es _ _ => if noStar es then .tup (trGL (trG f T m) es) else .nil
    | .Attribute o nm _ => (match idx T.nms nm with | some i => .attr (f o) i | none => .nil)
    | .Subscript a i _ => if plainIxB i then .ix (f a) (f i) else .nil
    | _ => .nil
def ownOfB (N : List Str) (scope : Scope) : List (Str × Nat) := scope.names.filterMap fun y => match y.2 with
  | .local | .cell => (idx N y.1).map fun i => (y.1, i)
  | _ => none
def blkTC (T : TC) (scope : Scope) : TC := { T with sc := relS scope T.sc, fn := fun x => scope.names.lookup x == some .cell }
def trTest (f : Expr → E) : List Expr → E
  | [] => .no
  | [e] => f e
  | _ => .nil
def trSl (f : Expr → E) : Option Expr → E
  | none => .no
  | some e => if plainP (f e) then f e else .nil
/-- list(range(..)), tuple(range(..)): the arguments -/
def rgArg (T : TC) (x : Str) : List Expr → Option (List Expr)
  | [.Call (.Name y _) es [] _] => if (x == ("list" : Str) || x == ("tuple" : Str)) && y == ("range" : Str) && glB T.sc y && (T.gl.lookup y).isNone && noStar es then some es else none
  | _ => none
/-- len(set(a)) -/
def setArg (T : TC) (x : Str) : List Expr → Option Expr
  | [.Call (.Name y _) [a] [] _] => if x == ("len" : Str) && y == ("set" : Str) && glB T.sc y && (T.gl.lookup y).isNone && noStar [a] then some a else none
  | _ => none
/-- dict(NAME), NAME a written dict -/
def dctArg (T : TC) (x : Str) : List Expr → Option Nat
  | [.Name y _] => if x == ("dict" : Str) && glB T.sc y && !dbg y then (match T.gl.lookup y with
    | some (.dct d) => some d
    | _ => none) else none
  | _ => none
/-- list(zip(a, b)) -/
def zipArg (T : TC) (x : Str) : List Expr → Option (Expr × Expr)
  | [.Call (.Name y _) [a, b] [] _] => if x == ("list" : Str) && y == ("zip" : Str) && glB T.sc y && (T.gl.lookup y).isNone && noStar [a, b] then some (a, b) else none
  | _ => none
/-- a tuple that is held whole: of the name pairs -/
def bFt (b : B) (es : List Expr) : B := match b, es with
  | .tuple, [.Name y _] => if y == ("pairs" : Str) then .ftuple else .tuple
  | b, _ => b
theorem bFt_name {b : B} {es : List Expr} : bltName (bFt b es) = bltName b := by
  unfold bFt
  split
  · split <;> rfl
  · rfl
def trCall (f : Expr → E) (T : TC) (x : Str) (es : List Expr) : E :=
  if dbg x || !glB T.sc x || !noStar es then .nil
  else match T.gl.lookup x with
    | some (.fn g) => .call g (trL f es)
    | some (.cls c) => .new c (trL f es)
    | some (.cst _) => .nil
    | some (.dct _) => .nil
    | none => match rgArg T x es with
      | some [a] => if x == ("list" : Str) then .blt .listrange (.cons (f a) .nil) else .blt .tuplerange (.cons (f a) .nil)
      | some [a, b] => if x == ("list" : Str) then .blt .listrange (.cons (f a) (.cons (f b) .nil)) else .nil
      | some _ => .nil
      | none => match setArg T x es with
       | some a => .blt .setlen (.cons (f a) .nil)
       | none => match zipArg T x es with
        | some (a, b) => .blt .listzip (.cons (f a) (.cons (f b) .nil))
        | none => match dctArg T x es with
         | some d => .blt .dictof (.cons (.k (.gdc d)) .nil)
         | none => match bTab.lookup x, es with
           | some b, _ :: _ => .blt (bFt b es) (trL f es)
           | _, _ => .nil
/-- a call with keywords; psn: how many positional values a class's call has less -/
def trCallK (f : Expr → E) (T : TC) (x : Str) (es : List Expr) (kws : List Keyword) : E :=
  if dbg x || !glB T.sc x || !noStar es then .nil
  else match T.gl.lookup x, kwNms kws with
    | some (.fn g), some ks => (match kwAt T x es.length ks with
      | some q => if q.f == g then .callK q.f q.perm (trL f es) (trK f kws) else .nil
      | none => .nil)
    | some (.cls c), some ks => (match kwAt T x (es.length + 1) ks with
      | some q => .newK c q.f q.perm (trL f es) (trK f kws)
      | none => .nil)
    | _, _ => .nil
/-- the name of a written dict -/
def dctNm (T : TC) : Expr → Option Nat
  | .Name y _ => if glB T.sc y && !dbg y then (match T.gl.lookup y with
    | some (.dct d) => some d
    | _ => none) else none
  | _ => none
def trDN (f : Expr → E) (T : TC) (e : Expr) : E := match dctNm T e with
  | some d => .k (.gdc d)
  | none => f e
def trStep (f : TC → Expr → E) (T : TC) : Expr → E
  | .Constant (.int i) _ _ => .k (.int i)
  | .Constant (.str x) _ _ => .k (.str x.cps.toList)
  | .Constant (.bool b) _ _ => .k (.bl b)
  | .Constant .none _ _ => .k .non
  | .Name x _ => trName T x
  | .BinOp a op b _ => .bin op (f T a) (f T b)
  | .UnaryOp .USub a _ => .neg (f T a)
  | .UnaryOp .Not a _ => .not (f T a)
  | .BoolOp .And es _ => trB (f T) .and es
  | .BoolOp .Or es _ => trB (f T) .or es
  | .IfExp c a b _ => .ite (f T c) (f T a) (f T b)
  | .Compare a [op] [b] _ => if behindInMarks op b then .nil else .cmp op (f T a) (trDN (f T) T b)
  | .Compare a [op, op'] [b, c] _ => if lastMarks [op, op'] [b, c] then .nil else .chain op op' (f T a) (f T b) (f T c)
  | .Call (.Name x _) es [] _ => trCall (f T) T x es
  | .Call (.Name x _) es kws _ => trCallK (f T) T x es kws
  | .Call (.Attribute o nm apos) es [] pos => if baseOk o && noStar es && (apos.endLine == pos.line) && decide (es.length < 30) then
      (match mNo T.nms nm with | some m => .meth (f T o) m (trL (f T) es) | none => .nil) else .nil
  | .Attribute o nm _ => if baseOk o then (match idx T.nms nm with | some i => .attr (f T o) i | none => .nil) else .nil
  | .Subscript a (.Slice none none (some (.UnaryOp .USub (.Constant (.int 1) _ _) _)) _) _ => .rev (f T a)
  | .Subscript a (.Slice lo hi none _) _ => .sl (f T a) (trSl (f T) lo) (trSl (f T) hi)
  | .Subscript a i _ => if plainIxB i then .ix (trDN (f T) T a) (f T i) else .nil
  | .List es _ => .lst (trLS (f T) es)
  | .Tuple es _ _ => .tup (trLS (f T) es)
  | .Dict [] [] _ => .blt .edict .nil
  | .Dict ks vs _ => if ks.all (·.isSome) && (ks.length == vs.length) && !ks.isEmpty && decide (ks.length ≤ 15) then .dic (trD (f T) ks vs) else .nil
  | .ListComp elt [⟨tg, it, ifs, 0⟩] scope _ =>
    if blkC T.N T.sc scope (ownOfB T.N scope) && (tgS (trG (f (blkTC T scope)) (blkTC T scope) 5 tg)).all (fun i => (ownOfB T.N scope).any fun p => p.2 == i) then
      .lc (f (blkTC T scope) elt) (trG (f (blkTC T scope)) (blkTC T scope) 5 tg) (trI (f T) T (isTup tg) it).1 (trI (f T) T (isTup tg) it).2 (trTest (f (blkTC T scope)) ifs) ((ownOfB T.N scope).map (·.2))
    else .nil
  | _ => .nil
def tr : Nat → TC → Expr → E
  | 0, _, _ => .nil
  | n + 1, T, e => trStep (tr n) T e

/-! ### it is sound -/
/-- what is known of the module's names -/
structure MgOk (P : Pg) (G : Gw) (mg : Str → Option Value) (gl : List (Str × GK)) : Prop where
  fn : ∀ x f, gl.lookup x = some (.fn f) → mg x = some (.ref (G.fa f))
  cls : ∀ x c, gl.lookup x = some (.cls c) → mg x = some (.ref (G.gm c))
  cst : ∀ x a, gl.lookup x = some (.cst a) → ∃ u v, mg x = some u ∧ RelV v u ∧ ∀ ρ H, RV G ρ H a v
  none : ∀ x, gl.lookup x = none → x ∈ bNames → mg x = none
  dct : ∀ x d, gl.lookup x = some (.dct d) → mg x = some (.ref (G.dm d))
structure TOk (P : Pg) (G : Gw) (T : TC) (X : Cx) : Prop where
  N : X.N = T.N
  sc : X.env.scope = T.sc
  nd : T.N.Nodup
  fn : ∀ x, T.fn x = true → X.fn x = true
  kind : T.sc.kind = .function
  nms : G.nms = T.nms
  kw : G.kw = T.kw
  mg : MgOk P G X.mg T.gl
section
variable {X : Cx} {P : Pg} {cf : CF} {kk : Nat} {G : Gw} {T : TC} {f : Expr → E} {e a : Expr} {pos : Pos}
theorem vis_ok {sc : Scope} {x : Str} (h : visB sc x = true) : Vis sc x := by
  unfold visB at h
  split at h
  · exact .inl (by assumption)
  · exact .inr (.inl (by assumption))
  · exact .inr (.inr (by assumption))
  · cases h
theorem gl_ok (ok : TOk P G T X) {x : Str} (h : glB T.sc x = true) : Gl X x := by
  unfold glB at h
  split at h
  · show X.env.scope.names.lookup x = _
    rw [ok.sc]; assumption
  · cases h
theorem loc_ok (ok : TOk P G T X) {x : Str} (h : locB T x = true) : L2.Loc X.env.scope x ∧ (X.fn x = true ∨ X.env.scope.names.lookup x = some .local) := by
  unfold locB at h
  rw [ok.sc]
  split at h
  · exact ⟨.inl (by assumption), .inr (by assumption)⟩
  · exact ⟨.inr (by assumption), .inl (ok.fn x h)⟩
  · cases h
theorem never_nil {e : Expr} : PE X e (WE P cf G .nil) := we_never fun _ _ _ _ z => by cases z
theorem tnever {e : Expr} {e' : E} (hn : ∀ σ h v h', evT P cf e' σ h ≠ .ok v h') : PT X e (WT P cf G e') := ⟨fun pins s σ H Q I ⟨ρ, h, σ', v, h', R, S, ev, d⟩ => absurd ev (hn _ _ _ _)⟩
theorem gnever {e : Expr} {e' : E} (hn : ∀ σ h v x h', asgT P cf e' x σ h ≠ .ok v h') : PG X e (WG P cf G e') := ⟨fun pins s σ H v u Q I r ⟨ρ, h, σ', x, τ, h', R, S, r2, ev, d⟩ => absurd ev (hn _ _ _ _ _)⟩
theorem tr_name (ok : TOk P G T X) {x : Str} : PE X (.Name x pos) (WE P cf G (trName T x)) := by
  unfold trName
  split
  · exact never_nil
  rename_i hd
  unfold dbg at hd
  simp only [Bool.or_eq_true, not_or, Bool.not_eq_true] at hd
  split
  · rename_i hv
    split
    · rename_i i hi
      exact we_var (by rw [ok.N]; exact idx_ok hi) (by rw [ok.sc]; exact vis_ok hv) hd.1 hd.2
    · exact never_nil
  split
  · rename_i hg
    have hG := gl_ok ok hg
    split
    · rename_i a ha
      obtain ⟨u, v, h1, h2, h3⟩ := ok.mg.cst x a ha
      exact we_k (pe_glob hG h1 h2 hd.1) h3
    · rename_i c hc
      exact we_k (pe_glob (v := .ref (G.gm c)) hG (ok.mg.cls x c hc) rfl hd.1) fun _ _ => by simp
    · exact never_nil
    · exact never_nil
    · rename_i hn
      split
      · rename_i t ht
        obtain ⟨h1, h2, h3, h4⟩ := tyTab_ok ht
        exact we_k (pe_bltn (v := .ty t) hG (ok.mg.none x hn h2) h1 rfl h3 h4) fun _ _ => by simp
      · exact never_nil
  · exact never_nil
theorem tr_list (hE : ∀ e, PE X e (WE P cf G (f e))) : ∀ es : List Expr, noStar es = true → PA X es (WA P cf G (trL f es))
  | [], _ => wa_nil
  | e :: es, hn => wa_cons (starEach_cons hn _) (hE e) (tr_list hE es (noStar_tl hn))
theorem tr_listS (hK : X.K = G.K) (hE : ∀ e, PE X e (WE P cf G (f e))) : ∀ es : List Expr, PA X es (WA P cf G (trLS f es))
  | [] => wa_nil
  | e :: es => by
    cases e <;> first | exact wa_star hK (hE _) (tr_listS hK hE es) | exact wa_cons rfl (hE _) (tr_listS hK hE es)
theorem trK_ok (hE : ∀ e, PE X e (WE P cf G (f e))) : ∀ kws : List Keyword, PK X kws (WA P cf G (trK f kws))
  | [] => pk_nil'
  | ⟨nm, e, p⟩ :: kws => pk_cons' (hE e) (trK_ok hE kws)
theorem kws_ok {X : Cx} : ∀ {kws : List Keyword} {ks : List Str}, kwNms kws = some ks → KwsOk X kws ks ∧ kws.length = ks.length
  | [], ks, h => by cases h; exact ⟨⟨fun _ => rfl, fun _ => rfl⟩, rfl⟩
  | ⟨some x, e, p⟩ :: r, ks, h => by
    obtain ⟨ks', h1, rfl⟩ := Option.map_eq_some_iff.mp (show (kwNms r).map (x :: ·) = some ks from h)
    obtain ⟨k, hl⟩ := kws_ok (X := X) h1
    exact ⟨⟨fun pos => by
      have := k.all pos
      exact this, fun pos => by
      have := k.nms pos
      show x :: (backToKw pos (keywordEach r X.env)).filterMap (·.1) = _
      rw [this]⟩, by simp [hl]⟩
  | ⟨none, e, p⟩ :: r, ks, h => by cases h
theorem trL_len : ∀ (es : List Expr) (σ : Loc) (h : AH) (xs : List AV) (h' : AH), evA P cf (trL f es) σ h = .ok xs h' → xs.length = es.length
  | [], σ, h, xs, h', e => by rw [trL, evA] at e; obtain ⟨rfl, _⟩ := pure_inv e; rfl
  | e0 :: es, σ, h, xs, h', e => by
    rw [trL, evA] at e
    obtain ⟨x, h1, e1, e2⟩ := bind_inv e
    obtain ⟨ys, h2, e3, e4⟩ := bind_inv e2
    obtain ⟨rfl, _⟩ := pure_inv e4
    simp [trL_len es _ _ _ _ e3]
theorem trK_len : ∀ (kws : List Keyword) (σ : Loc) (h : AH) (xs : List AV) (h' : AH), evA P cf (trK f kws) σ h = .ok xs h' → xs.length = kws.length
  | [], σ, h, xs, h', e => by rw [trK, evA] at e; obtain ⟨rfl, _⟩ := pure_inv e; rfl
  | k :: kws, σ, h, xs, h', e => by
    rw [trK, evA] at e
    obtain ⟨x, h1, e1, e2⟩ := bind_inv e
    obtain ⟨ys, h2, e3, e4⟩ := bind_inv e2
    obtain ⟨rfl, _⟩ := pure_inv e4
    simp [trK_len kws _ _ _ _ e3]
theorem kwAt_ok {x : Str} {n : Nat} {ks : List Str} {q : KwE} (h : kwAt T x n ks = some q) : q ∈ T.kw ∧ q.n = n ∧ q.ks = ks := by
  unfold kwAt at h
  have h1 := List.mem_of_find?_eq_some h
  have h2 := List.find?_some h
  simp only [Bool.and_eq_true, decide_eq_true_eq, beq_iff_eq] at h2
  exact ⟨h1, h2.1.2, h2.2⟩
theorem setArg_ok {x : Str} {es : List Expr} {a : Expr} (h : setArg T x es = some a) : x = ("len" : Str) ∧ ∃ p pos, es = [.Call (.Name "set" p) [a] [] pos] ∧ glB T.sc "set" = true ∧ T.gl.lookup ("set" : Str) = none ∧ noStar [a] = true := by
  unfold setArg at h
  split at h
  · rename_i y p a pos
    by_cases hh : (x == ("len" : Str) && y == ("set" : Str) && glB T.sc y && (T.gl.lookup y).isNone && noStar [a]) = true
    · rw [if_pos hh] at h
      cases h
      simp only [Bool.and_eq_true, beq_iff_eq, Option.isNone_iff_eq_none] at hh
      obtain ⟨⟨⟨⟨h1, rfl⟩, h3⟩, h4⟩, h5⟩ := hh
      exact ⟨h1, p, pos, rfl, h3, h4, h5⟩
    · rw [if_neg hh] at h
      cases h
  · cases h
theorem zipArg_ok {x : Str} {es : List Expr} {a b : Expr} (h : zipArg T x es = some (a, b)) : x = ("list" : Str) ∧ ∃ p pos, es = [.Call (.Name "zip" p) [a, b] [] pos] ∧ glB T.sc "zip" = true ∧ T.gl.lookup ("zip" : Str) = none ∧ noStar [a, b] = true := by
  unfold zipArg at h
  split at h
  · rename_i y p a' b' pos
    by_cases hh : (x == ("list" : Str) && y == ("zip" : Str) && glB T.sc y && (T.gl.lookup y).isNone && noStar [a', b']) = true
    · rw [if_pos hh] at h
      cases h
      simp only [Bool.and_eq_true, beq_iff_eq, Option.isNone_iff_eq_none] at hh
      obtain ⟨⟨⟨⟨h1, rfl⟩, h3⟩, h4⟩, h5⟩ := hh
      exact ⟨h1, p, pos, rfl, h3, h4, h5⟩
    · rw [if_neg hh] at h
      cases h
  · cases h
theorem dctArg_ok {x : Str} {es : List Expr} {d : Nat} (h : dctArg T x es = some d) : x = ("dict" : Str) ∧ ∃ y p, es = [.Name y p] ∧ glB T.sc y = true ∧ dbg y = false ∧ T.gl.lookup y = some (.dct d) := by
  unfold dctArg at h
  split at h
  · rename_i y p
    by_cases hh : (x == ("dict" : Str) && glB T.sc y && !dbg y) = true
    · rw [if_pos hh] at h
      simp only [Bool.and_eq_true, beq_iff_eq, Bool.not_eq_true'] at hh
      cases q : T.gl.lookup y with
      | none => rw [q] at h; cases h
      | some k =>
        rw [q] at h
        cases k <;> first | (cases h; done) | skip
        cases h
        exact ⟨hh.1.1, y, p, rfl, hh.1.2, hh.2, q⟩
    · rw [if_neg hh] at h
      cases h
  · cases h
theorem dctNm_ok {e : Expr} {d : Nat} (h : dctNm T e = some d) : ∃ y p, e = .Name y p ∧ glB T.sc y = true ∧ dbg y = false ∧ T.gl.lookup y = some (.dct d) := by
  unfold dctNm at h
  split at h
  · rename_i y p
    by_cases hh : (glB T.sc y && !dbg y) = true
    · rw [if_pos hh] at h
      simp only [Bool.and_eq_true, Bool.not_eq_true'] at hh
      cases q : T.gl.lookup y with
      | none => rw [q] at h; cases h
      | some k =>
        rw [q] at h
        cases k <;> first | (cases h; done) | skip
        cases h
        exact ⟨y, p, rfl, hh.1, hh.2, q⟩
    · rw [if_neg hh] at h
      cases h
  · cases h
theorem trDN_ok (ok : TOk P G T X) (hE : ∀ e, PE X e (WE P cf G (f e))) (e : Expr) : PE X e (WE P cf G (trDN f T e)) := by
  unfold trDN
  split
  · rename_i d hd
    obtain ⟨y, p, rfl, g1, g2, g3⟩ := dctNm_ok hd
    unfold dbg at g2
    simp only [Bool.or_eq_false_iff] at g2
    exact we_k (pe_glob (v := .ref (G.dm d)) (gl_ok ok g1) (ok.mg.dct _ _ g3) rfl g2.1) fun _ _ => by simp
  · exact hE e
theorem rgArg_ok {x : Str} {es rs : List Expr} (h : rgArg T x es = some rs) : ∃ p pos, es = [.Call (.Name "range" p) rs [] pos] ∧ glB T.sc "range" = true ∧ T.gl.lookup ("range" : Str) = none ∧ noStar rs = true ∧ (x = ("list" : Str) ∨ x = ("tuple" : Str)) := by
  unfold rgArg at h
  split at h
  · rename_i y p es pos
    by_cases hh : ((x == ("list" : Str) || x == ("tuple" : Str)) && y == ("range" : Str) && glB T.sc y && (T.gl.lookup y).isNone && noStar es) = true
    · rw [if_pos hh] at h
      cases h
      simp only [Bool.and_eq_true, Bool.or_eq_true, beq_iff_eq, Option.isNone_iff_eq_none] at hh
      obtain ⟨⟨⟨⟨h1, rfl⟩, h3⟩, h4⟩, h5⟩ := hh
      exact ⟨p, pos, rfl, h3, h4, h5, h1⟩
    · rw [if_neg hh] at h
      cases h
  · cases h
theorem trL_nil {es : List Expr} (h : es = []) : trL f es = .nil := by rw [h]; rfl
theorem tr_and (hK : X.K = G.K) (hE : ∀ e, PE X e (WE P cf G (f e))) : ∀ es : List Expr, PE X (.BoolOp .And es pos) (WE P cf G (trB f .and es))
  | [] => never_nil
  | [e] => we_and1 (hE e)
  | e :: b :: r => we_and hK (hE e) (tr_and hK hE (b :: r))
theorem tr_or (hK : X.K = G.K) (hE : ∀ e, PE X e (WE P cf G (f e))) : ∀ es : List Expr, PE X (.BoolOp .Or es pos) (WE P cf G (trB f .or es))
  | [] => never_nil
  | [e] => we_and1 (hE e)
  | e :: b :: r => we_or hK (hE e) (tr_or hK hE (b :: r))
theorem tr_andT (hT : ∀ e, PT X e (WT P cf G (f e))) : ∀ es : List Expr, es ≠ [] → PW X (.BoolOp .And es pos) (WT P cf G (trB f .and es))
  | [], h => absurd rfl h
  | [e], _ => ww_and1 (.inl rfl) (hT e)
  | e :: b :: r, _ => ww_and (hT e) (tr_andT hT (b :: r) (by simp))
theorem tr_orT (hT : ∀ e, PT X e (WT P cf G (f e))) : ∀ es : List Expr, es ≠ [] → PW X (.BoolOp .Or es pos) (WT P cf G (trB f .or es))
  | [], h => absurd rfl h
  | [e], _ => ww_and1 (.inr rfl) (hT e)
  | e :: b :: r, _ => ww_or (hT e) (tr_orT hT (b :: r) (by simp))
theorem base_ok {o : Expr} {nm : Str} {env : Env} (h : baseOk o = true) : attributeBase o nm env (eval o env) = eval o env := by
  unfold attributeBase
  split
  · cases h
  · rfl
theorem plainIx_ok {b : Expr} (h : plainIxB b = true) : PlainIx b := fun o i => by
  cases b <;> first | rfl | skip
  rename_i lo hi st p
  cases st with
  | none => cases h
  | some z => rfl
theorem sub_assign {a b : Expr} {env : Env} (h : plainIxB b = true) (v : Value) : assign (.Subscript a b pos) env v = (do
      let ov ← holding [v] (eval a env)
      let iv ← holding [v, ov] (eval b env)
      standAt pos
      holding [v, ov, iv] (setItem ov iv v)
      release [v, ov, iv] []) := by
  cases b <;> first | rfl | skip
  rename_i lo hi st p
  cases st with
  | none => cases h
  | some z => rfl
theorem set_ok {e : Expr} {env : Env} (h : notSet e = true) (x : Value) : foldedSetIterable e env x = pure x := by
  cases e <;> first | rfl | (cases h)
end
end PM
end
section
set_option maxHeartbeats 2000000
/-! PMU: the translation is sound: expressions. -/
namespace PM
open PySem PySem.Spec L2
section
variable {X : Cx} {P : Pg} {cf : CF} {kk : Nat} {G : Gw} {T : TC} {f : Expr → E} {e a : Expr} {pos : Pos}
theorem asgTs_len' (g : Expr → E) : ∀ (es : List Expr) (xs : List AV) (σ : PM.Loc) (h : AH) (τ : PM.Loc) (h' : AH), asgTs P cf (trGL g es) xs σ h = .ok τ h' → xs.length = es.length
  | [], xs, σ, h, τ, h', e => by
    cases xs with
    | nil => rfl
    | cons x xs => cases e
  | e :: es, xs, σ, h, τ, h', ev => by
    cases xs with
    | nil => cases ev
    | cons x xs =>
      unfold trGL at ev
      rw [asgTs] at ev
      obtain ⟨τ1, h1, e1, e2⟩ := bind_inv ev
      simp [asgTs_len' g es xs τ1 h1 τ h' e2]
theorem trG_ok (C : CtxF P cf kk G X) (ok : TOk P G T X) (hE : ∀ e, PE X e (WE P cf G (f e))) : ∀ (m : Nat) (e : Expr), PG X e (WG P cf G (trG f T m e))
  | 0, e => gnever fun _ _ _ _ _ z => by cases z
  | m + 1, e => by
    have nil : PG X e (WG P cf G .nil) := gnever fun _ _ _ _ _ z => by cases z
    have hN : X.N.Nodup := by rw [ok.N]; exact ok.nd
    unfold trG
    split
    · split
      · rename_i x _ hl
        split
        · rename_i i hi
          obtain ⟨l1, l2⟩ := loc_ok ok hl
          exact wg_name hN (by rw [ok.N]; exact idx_ok hi) l1 l2
        · exact nil
      · exact nil
    · rename_i es k p
      split
      · rename_i hn
        have all : ∀ es : List Expr, noStar es = true → PGs X es (WGs P cf G (trGL (trG f T m) es)) := by
          intro es
          induction es with
          | nil => intro _; exact wgs_nil
          | cons e es ih => exact fun hn => wgs_cons (by rw [assignEach_cons hn]; rfl) (trG_ok C ok hE m e) (ih (noStar_tl hn))
        exact wg_tup C.toCtx hn (asgTs_len' _ es) (all es hn)
      · exact nil
    · rename_i o nm p
      split
      · rename_i i hi
        exact wg_attr C.toCtx (by rw [ok.nms]; exact idx_ok hi) (hE o)
      · exact nil
    · rename_i a i p
      split
      · rename_i hp
        exact wg_sub C.toCtx (plainIx_ok hp) (hE a) (hE i) (sub_assign hp)
      · exact nil
    · exact nil
theorem mem_b {x y : Str} (h : x ∈ bNames) (e : (y == x) = true) : y ∈ bNames := by rw [beq_iff_eq.mp e]; exact h
theorem self_never {e tg : Expr} : PI X tg e (WI P cf G .self (.cons .nil .nil)) := ⟨fun pins s σ H R I ⟨ρ, h, σ', vs, h1, src, h', RR, S, e1, e2, D⟩ => by
  rw [evA] at e1
  obtain ⟨x, h2, e3, e4⟩ := bind_inv e1
  cases e3⟩
theorem trI_ok (C : CtxF P cf kk G X) (ok : TOk P G T X) (hE : ∀ e, PE X e (WE P cf G (f e))) (tg : Expr) (e : Expr) : PI X tg e (WI P cf G (trI f T (isTup tg) e).1 (trI f T (isTup tg) e).2) ∧ ∀ x, foldedSetIterable e X.env x = pure x ∨ (trI f T (isTup tg) e) = (.self, .cons .nil .nil) := by
  unfold trI
  split
  · rename_i x p es pos
    refine ⟨?_, fun y => .inl rfl⟩
    split
    · rename_i hh
      simp only [Bool.and_eq_true, Option.isNone_iff_eq_none] at hh
      obtain ⟨⟨hg, hn⟩, hs⟩ := hh
      have hG := gl_ok ok hg
      split
      · rename_i hx
        have hx' := beq_iff_eq.mp hx
        subst hx'
        have hm := ok.mg.none _ hn (by simp [bNames])
        split
        · exact wi_range1 hG hm hs (tr_list hE _ hs)
        · exact wi_range2 hG hm hs (tr_list hE _ hs)
        · exact self_never
      · split
        · rename_i hx
          simp only [Bool.and_eq_true] at hx
          have hx' := beq_iff_eq.mp hx.1
          subst hx'
          have hm := ok.mg.none _ hn (by simp [bNames])
          split
          · cases tg <;> first | (cases hx.2; done) | skip
            exact wi_enum C.toCtx hG hm hs (tr_list hE _ hs)
          · exact self_never
        · split
          · rename_i hx
            simp only [Bool.and_eq_true] at hx
            have hx' := beq_iff_eq.mp hx.1
            subst hx'
            have hm := ok.mg.none _ hn (by simp [bNames])
            split
            · cases tg <;> first | (cases hx.2; done) | skip
              exact wi_zip C.toCtx hG hm hs (tr_list hE _ hs)
            · exact self_never
          · exact wi_self C.toCtx (hE _)
    · exact wi_self C.toCtx (hE _)
  · split
    · rename_i hs
      exact ⟨wi_self C.toCtx (hE _), fun y => .inl (set_ok hs y)⟩
    · exact ⟨self_never, fun y => .inr rfl⟩
theorem trTest_ok (hT : ∀ e, PT X e (WT P cf G (f e))) (ifs : List Expr) : PTs X ifs (WT P cf G (trTest f ifs)) := by
  unfold trTest
  split
  · exact wts_nil
  · exact pts_one (hT _)
  · exact ⟨fun pins s σ H Q I ⟨ρ, h, σ', v, h', R, S, ev, d⟩ => by cases ev⟩
theorem blk_tok (ok : TOk P G T X) {s : Shared} {H : Hp} {scope : Scope} {C : Addr} {cl : List (Str × Addr)} {fp : List Addr} (hk : scope.kind = .function) : TOk P G (blkTC T scope) (X.blk s H scope (compEnvC scope cl C X.env) fp) :=
  ⟨ok.N, by show relS scope X.env.scope = relS scope T.sc; rw [ok.sc], ok.nd, fun x h => h, hk, ok.nms, ok.kw, ok.mg⟩
theorem wt_ite {a b c : Expr} {a' b' c' : E} (hc : PT X c (WT P cf G c')) (ha : PT X a (WT P cf G a')) (hb : PT X b (WT P cf G b')) : PT X (.IfExp c a b pos) (WT P cf G (.ite c' a' b')) :=
  ⟨fun pins s σ H Q I ⟨ρ, h, σ', r, h', R, S, e, D⟩ => by
    rw [evT] at e
    obtain ⟨x, h1, e1, e2⟩ := bind_inv e
    show wpAny _ _ (do if ← isTrue c X.env (eval c X.env) then isTrue a X.env (eval a X.env) else isTrue b X.env (eval b X.env)) _ _ _
    refine wpAny_bind (thn (hc.run pins s σ H (fun k H1 => k = x ∧ ∃ ρ1, Ext ρ H ρ1 H1 ∧ RH G ρ1 h1 H1) I (WT.mk R S e1 fun ρ1 H1 x1 R1 S1 => ⟨rfl, ρ1, x1, R1⟩)) fun k s1 ⟨H1, I1, ek, ρ1, x1, R1⟩ => ?_)
    subst ek
    cases k with
    | true => exact ha.run pins s1 σ H1 Q I1 ⟨ρ1, h1, σ', r, h', R1, S.mono x1, e2, D.ext x1⟩
    | false => exact hb.run pins s1 σ H1 Q I1 ⟨ρ1, h1, σ', r, h', R1, S.mono x1, e2, D.ext x1⟩⟩
/-- an expression whose test is its value's truth -/
def truE : Expr → Bool
  | .Name _ _ | .Call _ _ _ _ | .Attribute _ _ _ | .Subscript _ _ _ => true
  | _ => false
theorem tru_plain {e : Expr} {env : Env} (h : truE e = true) (whole : Sem Value) : isTrue e env whole = (do let v ← whole; standAt e.pos; holding [v] (truthy v)) := by
  cases e <;> first | rfl | (cases h)
theorem evT_no {e' : E} (h : plainT e' = false) (h2 : ∀ c a b, e' ≠ .ite c a b) (h3 : ∀ a, e' ≠ .not a) (h4 : ∀ a b, e' ≠ .and a b) (h5 : ∀ a b, e' ≠ .or a b) (h6 : ∀ o a b, e' ≠ .cmp o a b) (h7 : ∀ o p a b c, e' ≠ .chain o p a b c) (h8 : e' ≠ .no) : ∀ σ h v h', evT P cf e' σ h ≠ .ok v h' := by
  intro σ hp v h' z
  cases e' <;> first | (cases z; done) | (cases h; done) | exact absurd rfl (h2 _ _ _) | exact absurd rfl (h3 _) | exact absurd rfl (h4 _ _) | exact absurd rfl (h5 _ _) | exact absurd rfl (h6 _ _ _) | exact absurd rfl (h7 _ _ _ _ _) | exact absurd rfl h8
/-- both at once -/
structure Both (P : Pg) (cf : CF) (G : Gw) (X : Cx) (e : Expr) (e' : E) : Prop where
  pe : PE X e (WE P cf G e')
  pt : PT X e (WT P cf G e')
theorem Both.nil : Both P cf G X e .nil := ⟨never_nil, tnever fun _ _ _ _ z => by cases z⟩
theorem Both.val {e' : E} (hK : X.K = G.K) (h : PE X e (WE P cf G e')) (ht : truE e = true) (hp : plainT e' = true ∨ ∀ σ h v h', evT P cf e' σ h ≠ .ok v h') : Both P cf G X e e' :=
  ⟨h, hp.elim (fun hp => wt_plain hK hp h (tru_plain ht)) tnever⟩
theorem Both.noT {e' : E} (h : PE X e (WE P cf G e')) (hp : ∀ σ h v h', evT P cf e' σ h ≠ .ok v h') : Both P cf G X e e' := ⟨h, tnever hp⟩
theorem trName_T {x : Str} : plainT (trName T x) = true ∨ ∀ σ h v h', evT P cf (trName T x) σ h ≠ .ok v h' := by
  unfold trName
  split
  · exact .inr fun _ _ _ _ z => by cases z
  · split
    · split
      · exact .inl rfl
      · exact .inr fun _ _ _ _ z => by cases z
    · split
      · split
        · exact .inr fun _ _ _ _ z => by cases z
        · exact .inr fun _ _ _ _ z => by cases z
        · exact .inr fun _ _ _ _ z => by cases z
        · exact .inr fun _ _ _ _ z => by cases z
        · split
          · exact .inr fun _ _ _ _ z => by cases z
          · exact .inr fun _ _ _ _ z => by cases z
      · exact .inr fun _ _ _ _ z => by cases z
theorem trStep_ok {g : TC → Expr → E} (ih : ∀ (X : Cx) (T : TC), CtxF P cf kk G X → TOk P G T X → ∀ e, Both P cf G X e (g T e)) (C : CtxF P cf kk G X) (ok : TOk P G T X) (e : Expr) : Both P cf G X e (trStep g T e) := by
  have hK := C.hK
  have B := ih X T C ok
  have hE := fun e => (B e).pe
  have hT := fun e => (B e).pt
  have hN : X.N.Nodup := by rw [ok.N]; exact ok.nd
  unfold trStep
  split
  · exact .noT (we_k pe_int fun _ _ => by simp) fun _ _ _ _ z => by cases z
  · rename_i x _ _
    exact .noT (we_k pe_str fun _ _ => RV_str.mpr (congrArg V.str (TL.mk_tl x).symm)) fun _ _ _ _ z => by cases z
  · exact .noT (we_k pe_bl fun _ _ => by simp) fun _ _ _ _ z => by cases z
  · exact .noT (we_k pe_non fun _ _ => by simp) fun _ _ _ _ z => by cases z
  · exact .val hK (tr_name ok) rfl trName_T
  · exact .noT (we_bin C.toCtx (hE _) (hE _)) fun _ _ _ _ z => by cases z
  · exact .noT (we_neg (hE _)) fun _ _ _ _ z => by cases z
  · exact ⟨we_not hK (hE _), wt_not (hT _)⟩
  · rename_i es p
    refine ⟨tr_and hK hE es, ?_⟩
    cases es with
    | nil => exact tnever fun _ _ _ _ z => by cases z
    | cons e es => exact (tr_andT hT (e :: es) (by simp)).pt
  · rename_i es p
    refine ⟨tr_or hK hE es, ?_⟩
    cases es with
    | nil => exact tnever fun _ _ _ _ z => by cases z
    | cons e es => exact (tr_orT hT (e :: es) (by simp)).pt
  · exact ⟨we_ite (hT _) (hE _) (hE _), wt_ite (hT _) (hT _) (hT _)⟩
  · split
    · exact .nil
    · rename_i hb
      have hb' := Bool.not_eq_true _ ▸ hb
      exact ⟨we_cmp C (by simpa using hb) (hE _) (trDN_ok ok hE _), wt_cmp C (by simpa using hb) (hE _) (trDN_ok ok hE _)⟩
  · split
    · exact .nil
    · rename_i hb
      exact ⟨we_chain C (by simpa using hb) (hE _) (hE _) (hE _), wt_chain C (by simpa using hb) (hE _) (hE _) (hE _)⟩
  · rename_i x p es pos
    unfold trCall
    split
    · exact .nil
    · rename_i hh
      simp only [Bool.or_eq_true, Bool.not_eq_true', not_or, Bool.not_eq_true, Bool.not_eq_false] at hh
      obtain ⟨⟨hd, hg⟩, hn⟩ := hh
      have hdb : (x == ("__debug__" : Str)) = false := by
        unfold dbg at hd
        simp only [Bool.or_eq_false_iff] at hd
        exact hd.1
      have hG := gl_ok ok hg
      split
      · rename_i f hf
        exact .val hK (we_call C hn trL_nil hG (ok.mg.fn _ _ hf) hdb (tr_list hE es hn)) rfl (.inl rfl)
      · rename_i c hc
        exact .val hK (we_new C hn trL_nil hG (ok.mg.cls _ _ hc) hdb (tr_list hE es hn)) rfl (.inr fun _ _ _ _ z => by cases z)
      · exact .nil
      · exact .nil
      · rename_i hnn
        have hrg : ∀ y : Str, X.mg y = none → True := fun _ _ => True.intro
        split
        · rename_i a hr
          obtain ⟨p2, pos2, rfl, g1, g2, g3, g4⟩ := rgArg_ok hr
          have m2 := ok.mg.none _ g2 (by simp [bNames])
          split
          · rename_i hx
            have hx' := beq_iff_eq.mp hx
            subst hx'
            exact .val hK (we_listrange1 C.toCtx g3 hG (ok.mg.none _ hnn (by simp [bNames])) (gl_ok ok g1) m2 (hE _)) rfl (.inl rfl)
          · rename_i hx
            rcases g4 with rfl | rfl
            · exact absurd (beq_self_eq_true _) hx
            · exact .val hK (we_tuprange1 C.toCtx g3 hG (ok.mg.none _ hnn (by simp [bNames])) (gl_ok ok g1) m2 (hE _)) rfl (.inl rfl)
        · rename_i a b hr
          obtain ⟨p2, pos2, rfl, g1, g2, g3, g4⟩ := rgArg_ok hr
          have m2 := ok.mg.none _ g2 (by simp [bNames])
          split
          · rename_i hx
            have hx' := beq_iff_eq.mp hx
            subst hx'
            exact .val hK (we_listrange2 C.toCtx g3 hG (ok.mg.none _ hnn (by simp [bNames])) (gl_ok ok g1) m2 (hE _) (hE _)) rfl (.inl rfl)
          · exact .nil
        · exact .nil
        split
        · rename_i a hs2
          obtain ⟨rfl, p2, pos2, rfl, g1, g2, g3⟩ := setArg_ok hs2
          exact .val hK (we_lenset C.toCtx g3 hG (ok.mg.none _ hnn (by simp [bNames])) (gl_ok ok g1) (ok.mg.none _ g2 (by simp [bNames])) (hE _)) rfl (.inl rfl)
        split
        · rename_i a b hs2
          obtain ⟨rfl, p2, pos2, rfl, g1, g2, g3⟩ := zipArg_ok hs2
          exact .val hK (we_listzip C.toCtx g3 hG (ok.mg.none _ hnn (by simp [bNames])) (gl_ok ok g1) (ok.mg.none _ g2 (by simp [bNames])) (tr_list hE [_, _] g3)) rfl (.inl rfl)
        split
        · rename_i d hd2
          obtain ⟨rfl, y, p2, rfl, g1, g2, g3⟩ := dctArg_ok hd2
          have hdb2 : (y == ("__debug__" : Str)) = false := by
            unfold dbg at g2
            simp only [Bool.or_eq_false_iff] at g2
            exact g2.1
          have hk : PE X (.Name y p2) (WE P cf G (.k (.gdc d))) := we_k (pe_glob (v := .ref (G.dm d)) (gl_ok ok g1) (ok.mg.dct _ _ g3) rfl hdb2) fun _ _ => by simp
          exact .val hK (we_blt C (b := .dictof) rfl hG (ok.mg.none _ hnn (by simp [bNames])) hn (wa_cons rfl hk wa_nil)) rfl (.inl rfl)
        split
        · rename_i b e0 es0 hb _ _ _ _
          obtain ⟨h1, h2⟩ := bTab_ok hb
          exact .val hK (we_blt C (bFt_name.trans h1) hG (ok.mg.none _ hnn h2) hn (tr_list hE _ hn)) rfl (.inl rfl)
        · exact .nil
  · rename_i x p es kws pos hkn
    unfold trCallK
    split
    · exact .nil
    · rename_i hh
      simp only [Bool.or_eq_true, Bool.not_eq_true', not_or, Bool.not_eq_true, Bool.not_eq_false] at hh
      obtain ⟨⟨hd, hg⟩, hn⟩ := hh
      have hdb : (x == ("__debug__" : Str)) = false := by
        unfold dbg at hd
        simp only [Bool.or_eq_false_iff] at hd
        exact hd.1
      have hG := gl_ok ok hg
      split
      · rename_i g ks hf hk
        obtain ⟨kok, kl⟩ := kws_ok (X := X) hk
        split
        · rename_i q hq
          obtain ⟨k1, k2, k3⟩ := kwAt_ok hq
          split
          · rename_i hqf
            have hqf' := beq_iff_eq.mp hqf
            subst k3
            exact .noT (we_callK C (by rw [ok.kw]; exact k1) k2.symm kl kok hn trL_nil hG (by rw [hqf']; exact ok.mg.fn _ _ hf) hdb (trL_len es) (trK_len kws) (tr_list hE es hn) (trK_ok hE kws)) fun _ _ _ _ z => by cases z
          · exact .nil
        · exact .nil
      · rename_i c ks hf hk
        obtain ⟨kok, kl⟩ := kws_ok (X := X) hk
        split
        · rename_i q hq
          obtain ⟨k1, k2, k3⟩ := kwAt_ok hq
          subst k3
          exact .noT (we_newK C (by rw [ok.kw]; exact k1) k2.symm kl kok hn trL_nil hG (ok.mg.cls _ _ hf) hdb (trL_len es) (trK_len kws) (tr_list hE es hn) (trK_ok hE kws)) fun _ _ _ _ z => by cases z
        · exact .nil
      · exact .nil
  · rename_i o nm apos es pos
    split
    · rename_i hh
      simp only [Bool.and_eq_true, decide_eq_true_eq] at hh
      obtain ⟨⟨⟨h1, h2⟩, h3⟩, h4⟩ := hh
      split
      · rename_i m hm
        exact .val hK (we_meth C (base_ok h1) h2 h3 h4 trL_nil (by rw [ok.nms]; exact mNo_ok hm) (hE _) (tr_list hE es h2)) rfl (.inl rfl)
      · exact .nil
    · exact .nil
  · split
    · rename_i hb
      split
      · rename_i i hi
        exact .val hK (we_attr C (base_ok hb) (by rw [ok.nms]; exact idx_ok hi) (hE _)) rfl (.inl rfl)
      · exact .nil
    · exact .nil
  · exact .noT (we_revL hK (hE _)) fun _ _ _ _ z => by cases z
  · rename_i a lo hi p2 p
    have part : ∀ o : Option Expr, PO X o (WP P cf G (trSl (g T) o)) := by
      intro o
      cases o with
      | none => exact wp_no
      | some e =>
        show PO X (some e) (WP P cf G (if plainP (g T e) then g T e else .nil))
        split
        · rename_i hp
          exact wp_some hp (hE e)
        · exact ⟨fun pins s σ H Q I ⟨ρ, h, σ', v, h', R, S, ev, d⟩ => by cases ev⟩
    exact .noT (we_sl C.toCtx (hE _) (part lo) (part hi)) fun _ _ _ _ z => by cases z
  · split
    · rename_i hp
      exact .val hK (we_ix C.toCtx (plainIx_ok hp) (trDN_ok ok hE _) (hE _)) rfl (.inl rfl)
    · exact .nil
  · exact .noT (we_lst (tr_listS hK hE _)) fun _ _ _ _ z => by cases z
  · exact .noT (we_tup (tr_listS hK hE _)) fun _ _ _ _ z => by cases z
  · exact .noT we_edict fun σ h v h' z => by
      rw [evT] at z
      obtain ⟨xs, h1, e1, e2⟩ := bind_inv z
      rw [evA] at e1
      obtain ⟨rfl, rfl⟩ := pure_inv e1
      obtain ⟨y, h2, e3, e4⟩ := bind_inv e2
      obtain ⟨rfl, rfl⟩ := newO_inv (show newO (.dic []) h1 = .ok y h2 from e3)
      unfold truM at e4
      simp only [truA, AH.get_push, if_true] at e4
      cases e4
  · split
    · rename_i hh
      simp only [Bool.and_eq_true, decide_eq_true_eq, beq_iff_eq] at hh
      obtain ⟨⟨⟨d1, d2⟩, d3⟩, d4⟩ := hh
      exact .noT (we_dic hE d1 d2 (by intro z; rw [z] at d3; cases d3) d4) fun _ _ _ _ z => by cases z
    · exact .nil
  · rename_i elt tg it ifs scope p
    split
    · rename_i hh
      rw [Bool.and_eq_true] at hh
      have bo : BlkOk X.N X.env.scope scope (ownOfB T.N scope) := by rw [ok.N, ok.sc]; exact blkOk_by hh.1
      obtain ⟨hi, hs⟩ := trI_ok C ok hE tg it
      by_cases hz : trI (g T) T (isTup tg) it = (.self, .cons .nil .nil)
      · refine .noT (we_never fun σ h v h' ev => ?_) fun _ _ _ _ z => by cases z
        rw [hz] at ev
        rw [evE, evA] at ev
        obtain ⟨x, h1, e1, e2⟩ := bind_inv ev
        obtain ⟨y, h2, e3, e4⟩ := bind_inv e1
        cases e3
      · refine .noT (we_lc C hN hi bo (fun s H Cc cl fp => ?_) (fun s H Cc cl fp => ?_) (fun s H Cc cl fp => ?_) (fun x => (hs x).resolve_right hz) fun i hi => ?_) fun _ _ _ _ z => by cases z
        · exact trG_ok (C.blk s H scope _ fp) (blk_tok ok bo.kind) (fun e => (ih _ _ (C.blk s H scope _ fp) (blk_tok ok bo.kind) e).pe) 5 tg
        · exact trTest_ok (fun e => (ih _ _ (C.blk s H scope _ fp) (blk_tok ok bo.kind) e).pt) ifs
        · exact (ih _ _ (C.blk s H scope _ fp) (blk_tok ok bo.kind) elt).pe
        · have := List.all_eq_true.mp hh.2 i hi
          obtain ⟨q, hq, e⟩ := List.any_eq_true.mp this
          exact List.mem_map.mpr ⟨q, hq, beq_iff_eq.mp e⟩
    · exact .nil
  · exact .nil
theorem tr_ok : ∀ (n : Nat) (X : Cx) (T : TC), CtxF P cf kk G X → TOk P G T X → ∀ e, Both P cf G X e (tr n T e)
  | 0, X, T, C, ok, e => .nil
  | n + 1, X, T, C, ok, e => trStep_ok (tr_ok n) C ok e
end
end PM
end
section
set_option maxHeartbeats 2000000
/-! PMV: the translation is sound: statements. -/
namespace PM
open PySem PySem.Spec L2
def notComp : Expr → Bool
  | .ListComp _ _ _ _ | .SetComp _ _ _ _ | .DictComp _ _ _ _ _ => false
  | _ => true
def isStar : Expr → Bool
  | .Starred _ _ => true
  | _ => false
def nmSel (sc : Scope) (line : Nat) : Expr → Option Str
  | .Name id pos => if sc.names.lookup id == some .local && pos.line == line then some id else none
  | _ => none
/-- how a, b = x, y is stored -/
def swC (sc : Scope) (ts vs : List Expr) : Option (Option (List Str)) :=
  if !(ts.length == 2 || ts.length == 3) || vs.length != ts.length then some none
  else if vs.any isStar then some none
  else
    let names := ts.filterMap (nmSel sc ((ts.head?.map (·.pos.line)).getD 0))
    if names.length != ts.length || names.eraseDups.length != names.length then some none
    else if vs.all (foldedForSure 8) then some none
    else if vs.all (constantsAlone 8) then none
    else some (some names)
def isTL : Expr → Bool
  | .Tuple _ _ _ | .List _ _ => true
  | _ => false
def loc1 (sc : Scope) (x : Str) : Bool := match sc.names.lookup x with
  | some .local => true
  | _ => false
def trPar (F : Expr → E) (T : TC) (ts vs : List Expr) (ns : List Str) : S := match ts, vs with
  | [.Name x _, .Name y _], [a, b] => (match idx T.N x, idx T.N y with
    | some i, some j => if decide (ns = [x, y]) && loc1 T.sc x && loc1 T.sc y && i != j && noStar [a, b] then .par [i, j] (trL F [a, b]) else .raise 0 .nil
    | _, _ => .raise 0 .nil)
  | [.Name x _, .Name y _, .Name z _], [a, b, c] => (match idx T.N x, idx T.N y, idx T.N z with
    | some i, some j, some l => if decide (ns = [x, y, z]) && loc1 T.sc x && loc1 T.sc y && loc1 T.sc z && i != j && i != l && j != l && noStar [a, b, c] then .par [i, j, l] (trL F [a, b, c]) else .raise 0 .nil
    | _, _, _ => .raise 0 .nil)
  | _, _ => .raise 0 .nil
def trAsg (F : Expr → E) (T : TC) (tg e : Expr) (line : Nat) : S := match tg with
  | .Name x px => if locB T x then (match idx T.N x with
      | some i => (match e with
        | .ListComp elt gs scope lpos =>
          if (T.sc.names.lookup x == some .local) && (px.line == lpos.line) && !(scope.names.any fun (n, k) => n == x && (k == .local || k == .cell)) then .asg (.v i) (F e)
          else .asg (.v i) (F e)
        | e => if notComp e then .asg (.v i) (F e) else .raise 0 .nil)
      | none => .raise 0 .nil) else .raise 0 .nil
  | .Tuple ts _ _ => (match e with
    | .Tuple vs _ _ => (match swC T.sc ts vs with
      | some none => .asg (trG F T 5 tg) (F e)
      | some (some ns) => trPar F T ts vs ns
      | none => .raise 0 .nil)
    | e => .asg (trG F T 5 tg) (F e))
  | .Attribute _ _ _ => .asg (trG F T 5 tg) (F e)
  | .Subscript _ _ _ => .asg (trG F T 5 tg) (F e)
  | _ => .raise 0 .nil
def trSs (f : Stmt → S) : List Stmt → S
  | [] => .done
  | s :: r => .seq (f s) (trSs f r)
def isNilE : E → Bool
  | .no => true
  | _ => false
def trSt (F : Expr → E) (T : TC) (f : Stmt → S) : Stmt → S
  | .Assign [tg] e pos => trAsg F T tg e pos.line
  | .AugAssign (.Name x _) op e _ => if locB T x then (match idx T.N x with | some i => .aug op (.v i) (F e) | none => .raise 0 .nil) else .raise 0 .nil
  | .Expr e _ => if notComp e then .ex (F e) else .raise 0 .nil
  | .Return none _ => .ret .no
  | .Return (some e) _ => if isNilE (F e) then .raise 0 .nil else .ret (F e)
  | .If c a b _ => .ife (F c) (trSs f a) (trSs f b)
  | .For tg it body [] _ => .for_ (trG F T 5 tg) (trI F T (isTup tg) it).1 (trI F T (isTup tg) it).2 (trSs f body)
  | .While c body [] _ => .while_ (F c) (trSs f body)
  | .Break _ => .brk
  | .Continue _ => .cnt
  | .Pass _ => .pass
  | _ => .raise 0 .nil
def trS (m : Nat) (T : TC) : Nat → Stmt → S
  | 0, _ => .raise 0 .nil
  | n + 1, s => trSt (tr m T) T (trS m T n) s
section
variable {X : Cx} {P : Pg} {cf : CF} {kk : Nat} {G : Gw} {T : TC} {e a : Expr} {pos : Pos}
theorem snever {st : Stmt} : PS X st (WS P cf G (.raise 0 .nil)) := ws_never fun _ _ _ _ z => by cases z
theorem sw_no {e : Expr} {t : Option Expr} {l : Nat} {env : Env} (h : notComp e = true) : swapsWith e t l env = pure false := by
  cases e <;> first | rfl | (cases h)
theorem sw_lc {elt : Expr} {gs : List Comprehension} {scope : Scope} {lpos px : Pos} {x : Str} {l : Nat} {env : Env} (hk : env.scope.kind = .function) :
    swapsWith (.ListComp elt gs scope lpos) (some (.Name x px)) l env = pure ((env.scope.names.lookup x == some .local) && (px.line == lpos.line) && !(scope.names.any fun (n, k) => n == x && (k == .local || k == .cell))) := by
  have hb : env.blockKind = .function := by unfold Env.blockKind; rw [hk]; rfl
  unfold swapsWith
  simp only [hb]
  try rfl
theorem blk_fun {env : Env} (hk : env.scope.kind = .function) : env.blockKind = .function := by unfold Env.blockKind; rw [hk]; rfl
theorem sw_key {ts vs : List Expr} {k k2 : Nat} {p p2 : Pos} {env : Env} : swappedStores [.Tuple ts k p] (.Tuple vs k2 p2) env =
    (if (!(ts.length == 2 || ts.length == 3) || vs.length != ts.length || env.blockKind != .function) = true then pure none
    else if vs.any isStar = true then pure none
    else if ((ts.filterMap (nmSel env.scope ((ts.head?.map (·.pos.line)).getD 0))).length != ts.length || (ts.filterMap (nmSel env.scope ((ts.head?.map (·.pos.line)).getD 0))).eraseDups.length != (ts.filterMap (nmSel env.scope ((ts.head?.map (·.pos.line)).getD 0))).length) = true then pure none
    else if vs.all (foldedForSure 8) = true then pure none
    else if vs.all (constantsAlone 8) = true then do unsupported "assign.tuple-of-constant-expressions:order-of-the-stores"; pure (some (ts.filterMap (nmSel env.scope ((ts.head?.map (·.pos.line)).getD 0))))
    else pure (some (ts.filterMap (nmSel env.scope ((ts.head?.map (·.pos.line)).getD 0))))) := by
  have e1 : (fun x : Expr => match x with | .Starred _ _ => true | _ => false) = isStar := by funext e; cases e <;> rfl
  unfold swappedStores
  rfl
theorem sw_stores {sc : Scope} {ts vs : List Expr} {r : Option (List Str)} {k k2 : Nat} {p p2 : Pos} {env : Env} (hk : env.scope.kind = .function) (hs : env.scope = sc) (h : swC sc ts vs = some r) : swappedStores [.Tuple ts k p] (.Tuple vs k2 p2) env = pure r := by
  subst hs
  have hb := blk_fun hk
  rw [sw_key, hb]
  unfold swC at h
  by_cases c1 : (!(ts.length == 2 || ts.length == 3) || vs.length != ts.length) = true
  · rw [if_pos c1] at h
    cases h
    rw [if_pos (by rw [c1]; rfl)]
  · rw [if_neg c1] at h
    rw [if_neg (by intro z; rw [Bool.or_eq_true] at z; rcases z with z | z; exact c1 z; cases z)]
    by_cases c2 : vs.any isStar = true
    · rw [if_pos c2] at h
      cases h
      rw [if_pos c2]
    · rw [if_neg c2] at h
      rw [if_neg c2]
      simp only at h
      split at h
      · rename_i c3
        cases h
        rw [if_pos c3]
      · rename_i c3
        rw [if_neg c3]
        split at h
        · rename_i c4
          cases h
          rw [if_pos c4]
        · rename_i c4
          rw [if_neg c4]
          split at h
          · cases h
          · rename_i c5
            cases h
            rw [if_neg c5]
theorem sw_not {tg e : Expr} {env : Env} (h : isTL tg = false) : swappedStores [tg] e env = pure none := by
  cases tg <;> first | rfl | (cases h)
theorem lc_other {m : Nat} {elt : Expr} {gs : List Comprehension} {scope : Scope} {p : Pos} (h : ∀ tg it ifs, gs ≠ [⟨tg, it, ifs, 0⟩]) : tr (m + 1) T (.ListComp elt gs scope p) = .nil := by
  unfold tr trStep
  split <;> rename_i hh <;> first | (cases hh; done) | skip
  · injection hh with h1 h2
    exact absurd h2 (h _ _ _)
  · rfl
theorem sw_not2 {ts : List Expr} {k : Nat} {p : Pos} {e : Expr} {env : Env} (h : isTup e = false) : swappedStores [.Tuple ts k p] e env = pure none := by
  cases e <;> first | rfl | (cases h)
theorem ws_setLc {i : Nat} {y : Str} {py pos spos : Pos} {elt tg it : Expr} {ifs : List Expr} {scope : Scope} {m : Nat} (C : CtxF P cf kk G X) (ok : TOk P G T X) (hy : X.N[i]? = some y) (hyl : X.env.scope.names.lookup y = some .local)
    (hsw : swapsWith (.ListComp elt [⟨tg, it, ifs, 0⟩] scope pos) (some (.Name y py)) spos.line X.env = pure true) :
    PS X (.Assign [.Name y py] (.ListComp elt [⟨tg, it, ifs, 0⟩] scope pos) spos) (WS P cf G (.asg (.v i) (tr (m + 1) T (.ListComp elt [⟨tg, it, ifs, 0⟩] scope pos)))) := by
  have hN : X.N.Nodup := by rw [ok.N]; exact ok.nd
  have ih := tr_ok (P := P) (cf := cf) (kk := kk) (G := G) m
  have B := ih X T C ok
  have bad : (∀ σ h v h', evE P cf (tr (m + 1) T (.ListComp elt [⟨tg, it, ifs, 0⟩] scope pos)) σ h ≠ .ok v h') → PS X (.Assign [.Name y py] (.ListComp elt [⟨tg, it, ifs, 0⟩] scope pos) spos) (WS P cf G (.asg (.v i) (tr (m + 1) T (.ListComp elt [⟨tg, it, ifs, 0⟩] scope pos)))) := fun hb => ws_never fun σ h fl h' ev => by
    rw [evS] at ev
    obtain ⟨x, h1, e1, _⟩ := bind_inv ev
    exact hb _ _ _ _ e1
  have un : tr (m + 1) T (.ListComp elt [⟨tg, it, ifs, 0⟩] scope pos) = if blkC T.N T.sc scope (ownOfB T.N scope) && (tgS (trG (tr m (blkTC T scope)) (blkTC T scope) 5 tg)).all (fun i => (ownOfB T.N scope).any fun p => p.2 == i) then
      .lc (tr m (blkTC T scope) elt) (trG (tr m (blkTC T scope)) (blkTC T scope) 5 tg) (trI (tr m T) T (isTup tg) it).1 (trI (tr m T) T (isTup tg) it).2 (trTest (tr m (blkTC T scope)) ifs) ((ownOfB T.N scope).map (·.2)) else .nil := rfl
  rw [un] at bad ⊢
  by_cases hh : (blkC T.N T.sc scope (ownOfB T.N scope) && (tgS (trG (tr m (blkTC T scope)) (blkTC T scope) 5 tg)).all (fun i => (ownOfB T.N scope).any fun p => p.2 == i)) = true
  · rw [if_pos hh] at bad ⊢
    rw [Bool.and_eq_true] at hh
    have bo : BlkOk X.N X.env.scope scope (ownOfB T.N scope) := by rw [ok.N, ok.sc]; exact blkOk_by hh.1
    obtain ⟨hi, hs⟩ := trI_ok C ok (fun e => (B e).pe) tg it
    by_cases hz : trI (tr m T) T (isTup tg) it = (.self, .cons .nil .nil)
    · refine bad fun σ h v h' ev => ?_
      rw [hz] at ev
      rw [evE, evA] at ev
      obtain ⟨x, h1, e1, e2⟩ := bind_inv ev
      obtain ⟨y, h2, e3, e4⟩ := bind_inv e1
      cases e3
    · refine PS.imp (ps_setLc (g := WG P cf G (trG (tr m (blkTC T scope)) (blkTC T scope) 5 tg)) (tt := WT P cf G (trTest (tr m (blkTC T scope)) ifs)) (te := WE P cf G (tr m (blkTC T scope) elt)) C.calm hN hy hyl hsw hi bo (fun s H Cc cl fp => ?_) (fun s H Cc cl fp => ?_) (fun s H Cc cl fp => ?_) (fun x => (hs x).resolve_right hz)) fun D σ H ⟨ρ, h, σ', fl, h', R, S, e, d⟩ => ?_
      · exact trG_ok (C.blk s H scope _ fp) (blk_tok ok bo.kind) (fun e => (ih _ _ (C.blk s H scope _ fp) (blk_tok ok bo.kind) e).pe) 5 tg
      · exact trTest_ok (fun e => (ih _ _ (C.blk s H scope _ fp) (blk_tok ok bo.kind) e).pt) ifs
      · exact (ih _ _ (C.blk s H scope _ fp) (blk_tok ok bo.kind) elt).pe
      · rw [evS] at e
        obtain ⟨x, h1, e1, e2⟩ := bind_inv e
        obtain ⟨τ, h2, e3, e4⟩ := bind_inv e2
        obtain ⟨rfl, rfl⟩ := pure_inv e4
        rw [asgT] at e3
        obtain ⟨rfl, rfl⟩ := pure_inv e3
        refine lc_go (fun i hi => ?_) (WE.mk R S e1 fun ρ1 H1 v x1 R1 S1 r1 => d _ _ x1 R1 _ (S1.set i r1))
        have := List.all_eq_true.mp hh.2 i hi
        obtain ⟨q, hq, e⟩ := List.any_eq_true.mp this
        exact List.mem_map.mpr ⟨q, hq, beq_iff_eq.mp e⟩
  · rw [if_neg hh] at bad ⊢
    exact bad fun _ _ _ _ z => by cases z
theorem loc1_ok {sc : Scope} {x : Str} (h : loc1 sc x = true) : sc.names.lookup x = some .local := by
  unfold loc1 at h
  split at h
  · assumption
  · cases h
theorem trPar_ok {F : Expr → E} {k k2 : Nat} {p p2 : Pos} {ts vs : List Expr} {ns : List Str} (C : CtxF P cf kk G X) (ok : TOk P G T X) (hE : ∀ e, PE X e (WE P cf G (F e))) (hsw : swappedStores [.Tuple ts k p] (.Tuple vs k2 p2) X.env = pure (some ns)) :
    PS X (.Assign [.Tuple ts k p] (.Tuple vs k2 p2) pos) (WS P cf G (trPar F T ts vs ns)) := by
  have hN : X.N.Nodup := by rw [ok.N]; exact ok.nd
  unfold trPar
  split
  · split
    · rename_i i j hi hj
      split
      · rename_i hh
        simp only [Bool.and_eq_true, bne_iff_ne, ne_eq, decide_eq_true_eq] at hh
        obtain ⟨⟨⟨⟨rfl, l1⟩, l2⟩, nij⟩, hn⟩ := hh
        exact ws_par2 C.calm hN (by rw [ok.N]; exact idx_ok hi) (by rw [ok.N]; exact idx_ok hj) nij (by rw [ok.sc]; exact loc1_ok l1) (by rw [ok.sc]; exact loc1_ok l2) (tr_list hE _ hn) hsw
      · exact snever
    · exact snever
  · split
    · rename_i i j l hi hj hl
      split
      · rename_i hh
        simp only [Bool.and_eq_true, bne_iff_ne, ne_eq, decide_eq_true_eq] at hh
        obtain ⟨⟨⟨⟨⟨⟨⟨rfl, l1⟩, l2⟩, l3⟩, n1⟩, n2⟩, n3⟩, hn⟩ := hh
        exact ws_par3 C.calm hN (by rw [ok.N]; exact idx_ok hi) (by rw [ok.N]; exact idx_ok hj) (by rw [ok.N]; exact idx_ok hl) n1 n2 n3 (by rw [ok.sc]; exact loc1_ok l1) (by rw [ok.sc]; exact loc1_ok l2) (by rw [ok.sc]; exact loc1_ok l3) (tr_list hE _ hn) hsw
      · exact snever
    · exact snever
  · exact snever
theorem trAsg_ok {m : Nat} (C : CtxF P cf kk G X) (ok : TOk P G T X) (tg e : Expr) : PS X (.Assign [tg] e pos) (WS P cf G (trAsg (tr (m + 1) T) T tg e pos.line)) := by
  have hN : X.N.Nodup := by rw [ok.N]; exact ok.nd
  have hk : X.env.scope.kind = .function := by rw [ok.sc]; exact ok.kind
  have B := tr_ok (P := P) (cf := cf) (kk := kk) (G := G) (m + 1) X T C ok
  have hE := fun e => (B e).pe
  unfold trAsg
  split
  · rename_i x px
    split
    · rename_i hl
      obtain ⟨l1, l2⟩ := loc_ok ok hl
      split
      · rename_i i hi
        have hi' : X.N[i]? = some x := by rw [ok.N]; exact idx_ok hi
        split
        · rename_i elt gs scope lpos
          have sw := sw_lc (elt := elt) (gs := gs) (scope := scope) (lpos := lpos) (px := px) (x := x) (l := pos.line) hk
          have fin : PS X (.Assign [.Name x px] (.ListComp elt gs scope lpos) pos) (WS P cf G (.asg (.v i) (tr (m + 1) T (.ListComp elt gs scope lpos)))) := by
            cases hb : ((X.env.scope.names.lookup x == some .local) && (px.line == lpos.line) && !(scope.names.any fun (n, k) => n == x && (k == .local || k == .cell))) with
            | false =>
              rw [hb] at sw
              exact ws_set hN hi' l1 l2 (hE _) sw
            | true =>
              rw [hb] at sw
              have hyl : X.env.scope.names.lookup x = some .local := by
                rw [Bool.and_eq_true, Bool.and_eq_true] at hb
                exact beq_iff_eq.mp hb.1.1
              by_cases hg : ∃ tg it ifs, gs = [⟨tg, it, ifs, 0⟩]
              · obtain ⟨tg, it, ifs, rfl⟩ := hg
                exact ws_setLc C ok hi' hyl sw
              · rw [lc_other fun tg it ifs z => hg ⟨tg, it, ifs, z⟩]
                exact ws_never fun σ h fl h' ev => by rw [evS] at ev; obtain ⟨y, h1, e1, _⟩ := bind_inv ev; cases e1
          split <;> exact fin
        · split
          · rename_i hc
            exact ws_set hN hi' l1 l2 (hE _) (sw_no hc)
          · exact snever
      · exact snever
    · exact snever
  · rename_i ts k p
    have tgo := trG_ok C ok hE 5 (.Tuple ts k p)
    have s1 : ∀ e, swapsWithSole [.Tuple ts k p] e pos.line X.env = pure false := fun e => by cases e <;> rfl
    split
    · rename_i vs k2 p2
      split
      · rename_i hw
        exact ws_asg (hE _) tgo (s1 _) (sw_stores hk ok.sc hw) rfl
      · rename_i ns hw
        exact trPar_ok C ok hE (sw_stores hk ok.sc hw)
      · exact snever
    · rename_i hne
      exact ws_asg (hE _) tgo (s1 _) (sw_not2 (by cases e <;> first | rfl | exact absurd rfl (hne _ _ _) | skip)) rfl
  · exact ws_asg (hE _) (trG_ok C ok hE 5 _) (by cases e <;> rfl) rfl rfl
  · exact ws_asg (hE _) (trG_ok C ok hE 5 _) (by cases e <;> rfl) rfl rfl
  · exact snever
theorem trSs_ok {f : Stmt → S} (ih : ∀ s, PS X s (WS P cf G (f s))) : ∀ l : List Stmt, PSs X l (WS P cf G (trSs f l))
  | [] => wss_nil
  | s :: r => wss_cons (ih s) (trSs_ok ih r)
theorem trSt_ok {m : Nat} {f : Stmt → S} (C : CtxF P cf kk G X) (ok : TOk P G T X) (ih : ∀ s, PS X s (WS P cf G (f s))) (st : Stmt) : PS X st (WS P cf G (trSt (tr (m + 1) T) T f st)) := by
  have hN : X.N.Nodup := by rw [ok.N]; exact ok.nd
  have B := tr_ok (P := P) (cf := cf) (kk := kk) (G := G) (m + 1) X T C ok
  have hE := fun e => (B e).pe
  unfold trSt
  split
  · exact trAsg_ok C ok _ _
  · split
    · rename_i hl
      obtain ⟨l1, l2⟩ := loc_ok ok hl
      split
      · rename_i i hi
        exact ws_aug hN (by rw [ok.N]; exact idx_ok hi) l1 l2 (hE _)
      · exact snever
    · exact snever
  · split
    · rename_i hc
      exact ws_ex (hE _) (sw_no hc)
    · exact snever
  · exact ws_retN
  · split
    · exact snever
    · rename_i hc
      exact ws_ret (hE _) fun z => by rw [z] at hc; exact hc rfl
  · exact ws_if (B _).pt (trSs_ok ih _) (trSs_ok ih _)
  · rename_i tg it body p
    obtain ⟨hi, hs⟩ := trI_ok C ok hE tg it
    by_cases hz : trI (tr (m + 1) T) T (isTup tg) it = (.self, .cons .nil .nil)
    · refine ws_never fun σ h fl h' ev => ?_
      rw [hz] at ev
      rw [evS, evA] at ev
      obtain ⟨x, h1, e1, e2⟩ := bind_inv ev
      obtain ⟨y, h2, e3, e4⟩ := bind_inv e1
      cases e3
    · exact ws_for C hi (trG_ok C ok hE 5 tg) (trSs_ok ih _) fun x => (hs x).resolve_right hz
  · exact ws_while C (B _).pt (trSs_ok ih _)
  · exact ws_brk
  · exact ws_cnt
  · exact ws_pass
  · exact snever
theorem trS_ok {m : Nat} (C : CtxF P cf kk G X) (ok : TOk P G T X) : ∀ (n : Nat) (st : Stmt), PS X st (WS P cf G (trS (m + 1) T n st))
  | 0, st => snever
  | n + 1, st => trSt_ok C ok (trS_ok C ok n) st
end

/-! ### defs -/
def tcOf (gl : List (Str × GK)) (nms : List Str) (kw : List KwE) (N : List Str) (sc : Scope) : TC := ⟨gl, nms, kw, N, sc, fun _ => true⟩
/-- what is known of a def -/
structure FnTx (P : Pg) (G : Gw) (gl : List (Str × GK)) (f : Nat) (fn : Fn) : Prop where
  tx : ∃ (oc : Value) (od : Option Addr) (osl : Array (Option Value)) (name qual : Str) (params : Arguments) (body : List Stmt) (scope : Scope) (dV kV doc pm : Value) (an : Option Addr) (cdv ct : Value) (N : List Str),
    G.K.lookup (G.fa f) = some ⟨oc, od, .func (PySem.W.fnOf name qual params body scope dV kV doc pm an cdv ct), osl⟩ ∧ G.fd f = PySem.W.fnOf name qual params body scope dV kV doc pm an cdv ct ∧
    PySem.W.codeIn G.K cdv qual = true ∧ FnScope N (G.ps f) scope ∧ N.length = fn.ns ∧ trSs (trS 41 (tcOf gl G.nms G.kw N scope) 20) body = fn.body
theorem RS_start {G : Gw} {ρ : List Addr} {H : Hp} {xs : List AV} {vs : List V} {N : List Str} {ns : Nat} (hl : N.length = ns) (r : RVs G ρ H xs vs) : RS G ρ H (PM.start ns xs) (L2.start N vs) := by
  refine ⟨by simp [PM.start, L2.start, r.length, hl], fun i x e => ?_⟩
  unfold PM.start at e
  have hi : i < xs.length := by
    by_cases hi : i < xs.length
    · exact hi
    · rw [List.getElem?_append_right (by simpa using hi)] at e
      rw [List.getElem?_replicate] at e
      split at e <;> cases e
  rw [List.getElem?_append_left (by simpa using hi), List.getElem?_map] at e
  obtain ⟨y, ey, e2⟩ := Option.map_eq_some_iff.mp e
  cases e2
  obtain ⟨v, g1, g2⟩ := r.get ey
  refine ⟨v, ?_, g2⟩
  unfold L2.start
  rw [List.getElem?_append_left (by rw [List.length_map, ← r.length]; exact hi), List.getElem?_map, g1]
  rfl
/-- the fixed part of what is known -/
structure PgOk (P : Pg) (G : Gw) (gl : List (Str × GK)) (w : World) : Prop where
  pf : PF P G
  pi : PI' P G
  ngd : ∀ d kvs, P.gd d = some kvs → GDk G w d kvs
  gq : ∀ d kvs, P.gq d = some kvs → GDk G w d kvs
  pfn : PFn P G
  pcl : PCl P G
  tx : ∀ f fn, P.fn f = some fn → FnTx P G gl f fn
theorem callF_fn {P : Pg} : ∀ (d : Nat) {f : Nat} {vs : List AV} {h h' : AH} {r : AV}, callF P d f vs h = .ok r h' → ∃ fn, P.fn f = some fn ∧ vs.length = fn.np
  | 0, _, _, _, _, _, e => by cases e
  | d + 1, f, vs, h, h', r, e => by
    unfold callF at e
    obtain ⟨fn, h1, e1, e2⟩ := bind_inv e
    obtain ⟨hf, rfl⟩ := ofO_inv e1
    obtain ⟨_, h2, e3, e4⟩ := bind_inv e2
    obtain ⟨q1, rfl⟩ := guardM_inv e3
    exact ⟨fn, hf, beq_iff_eq.mp q1⟩
theorem fnG_all {P : Pg} {G : Gw} {gl : List (Str × GK)} {prog : Program} {w : World} {mg : Str → Option Value} {base : Heap} (ok : PgOk P G gl w) (hmg : MgOk P G mg gl) :
    ∀ (d f : Nat) (fn : Fn), P.fn f = some fn → FnG prog w G.K mg base (2 * d) (G.fa f) (G.fd f) (G.ps f) (spF (callF P d) G f)
  | 0, f, fn, hf => ⟨fun A outer s H args us vs Q _ _ _ _ _ ⟨ρ, h, xs, r, h', R, rv, e, D⟩ => by cases e⟩
  | d + 1, f, fn, hf => by
    have ih := fnG_all (prog := prog) (w := w) (base := base) ok hmg d
    obtain ⟨oc, od, osl, name, qual, params, body, scope, dV, kV, doc, pm, an, cdv, ct, N, lk, efd, hcd, S, hN, hb⟩ := (ok.tx f fn hf).tx
    rw [efd]
    refine ⟨fun A outer s H args us vs Q hr hgd e0 hbd rv ⟨ρ, h, xs, r, h', R, rx, e, D⟩ => ?_⟩
    have hnp : xs.length = fn.np := by
      obtain ⟨fn', hf', hl⟩ := callF_fn (d + 1) e
      rw [hf] at hf'
      cases hf'
      exact hl
    have hl : vs.length = (G.ps f).length := by rw [← rx.length, hnp, ok.pfn.np f fn hf]
    have KX : G.K.In s.heap := e0.mod.kin.keeps fun b o e => (e0.bs b o e).1
    have lim : s.heap.NoLimit := e0.mod.nolimit.keeps fun b o e => (e0.bs b o e).1
    have hkind : ∀ y ∈ (G.ps f).zip us, scope.names.lookup y.1 = some .local ∨ (scope.names.lookup y.1 = some .cell ∧ ((cellsFrom (s.heap.objs.size + 1) scope.names []).lookup y.1).isSome = true) := fun ⟨n, v⟩ hy => by
      rcases S.par n (List.of_mem_zip hy).1 with q | q
      · exact .inl q
      · exact .inr ⟨q, PySem.W.cellsFrom_some _ _ _ (.inl q)⟩
    refine codeAny_call_function hr.depth (KX _ _ lk) rfl S.co S.gen rfl (PySem.W.codeRec_of KX hcd) (hbd _ _ _ _ ?_)
    refine wpAny_newFunctionEnv_cells S.kind hkind fun env he s1 x => ?_
    subst he
    refine ⟨lim.keeps x.toInCall.keep, codeAny_func ?_⟩
    have I : Inv (cxOf (fun _ _ _ _ _ _ => False) prog w G.K mg base N qual scope (G.fa f) cdv A outer s H (fun _ _ _ => False)) [] (L2.start N vs) H s1 := inv_start S hr.hd e0 hl rv x
    have I' := I.wish fun _ _ => False
    have hr' : Room (2 * d + 1) (A.deeper (PyProof.Rows.envOfC qual scope s.heap.objs.size (G.fa f) cdv)) := hr.deeper _
    have un := hr'.un
    have C : CtxF P (callF P d) (2 * d) G (cxOf (fun _ _ _ _ _ _ => False) prog w G.K mg base N qual scope (G.fa f) cdv A outer s H (fun _ _ _ => False)).nox :=
      ⟨⟨rfl, rfl, hgd, by show (A.deeper (PyProof.Rows.envOfC qual scope s.heap.objs.size (G.fa f) cdv)).units + 100 < cLine; omega, ok.pf, ok.pi, ok.ngd, ok.gq⟩, hr', rfl, ok.pfn, ok.pcl, fun f vs h r h' => callF_fn d, fun f fn hf => ih f fn hf⟩
    have T : TOk P G (tcOf gl G.nms G.kw N scope) (cxOf (fun _ _ _ _ _ _ => False) prog w G.K mg base N qual scope (G.fa f) cdv A outer s H (fun _ _ _ => False)).nox :=
      ⟨rfl, rfl, S.nd, fun _ _ => rfl, S.kind, rfl, rfl, hmg⟩
    have ps := trSs_ok (trS_ok (m := 40) C T 20) body
    rw [hb] at ps
    unfold callF at e
    obtain ⟨fn', h1, e1, e2⟩ := bind_inv e
    obtain ⟨hf', rfl⟩ := ofO_inv e1
    rw [hf] at hf'
    cases hf'
    obtain ⟨_, h2, e3, e4⟩ := bind_inv e2
    obtain ⟨_, rfl⟩ := guardM_inv e3
    obtain ⟨fl, h3, e5, e6⟩ := bind_inv e4
    have fin : ∀ {σ' : St} {H' : Hp} {v : V} {u : Value} {s' : Shared}, Inv (cxOf (fun _ _ _ _ _ _ => False) prog w G.K mg base N qual scope (G.fa f) cdv A outer s H (fun _ _ _ => False)).nox [] σ' H' s' → RelV v u → Q v H' → CE outer prog w H s Q u s' :=
      fun {σ' H' v u s'} J rv q => ⟨v, H', J.os, J.bare, J.base, J.hok, rv, q⟩
    refine wpAny_mono (ps.run [] s1 (L2.start N vs) H { nx := fun _ H' => Q .non H', rt := Q } I' ⟨ρ, h2, PM.start fn.ns xs, fl, h3, R, RS_start hN rx, e5, fun ρ1 H1 x1 R1 => ?_⟩) (fun fl s' hs => ?_) fun e s' hs => False.elim hs
    · cases fl with
      | nx τ =>
        obtain ⟨rfl, rfl⟩ := pure_inv e6
        exact fun σ2 S2 => D _ _ _ x1 R1 (by simp)
      | rt v =>
        obtain ⟨rfl, rfl⟩ := pure_inv e6
        exact fun w rw' => D _ _ _ x1 R1 rw'
      | bk τ => cases e6
      | ct τ => cases e6
    · cases fl with
      | ret u =>
        obtain ⟨v, σ', H', J, rv, q⟩ := hs
        exact fin J rv q
      | next =>
        obtain ⟨σ', H', J, q⟩ := hs
        exact fin (v := V.non) (u := Value.none) J rfl q
      | brk =>
        obtain ⟨_, _, _, q⟩ := hs
        exact False.elim q
      | cont =>
        obtain ⟨_, _, _, q⟩ := hs
        exact False.elim q
end PM
end
section
set_option maxHeartbeats 2000000
/-! PMW: the head: from the module's end to the law's call. -/
namespace PM
open PySem PySem.Spec L2 PyProof.Rows He

theorem law_callG {P : Program} {w : World} {K : PySem.W.Frag} {mg mb : Str → Option Value} {k : Nat} {fa a : Addr} {fd : FuncData} {x : Str} {sp : List V → Hp → VK → Prop} {s₁ : Shared} {vs : List Value} {ns : List Int}
    (KX : K.In s₁.heap) (hns : s₁.heap.Ns mainGlobals mg) (hb : s₁.heap.Ns builtinsNs mb) (hbb : ∀ x : Str, x ≠ "__name__" → mb x = bootBuiltins x) (hlim : s₁.heap.NoLimit) (hg : s₁.gens = #[])
    (ha : s₁.heap.get? a = some { cls := .type "list", data := .seq vs.toArray }) (hi : IntsAre vs ns) (hl : ns.length ≤ sizeLine) (hr : Room k callerA)
    (noL : ∀ a o, K.lookup a = some o → o.cls ≠ .type "list")
    (F : ∀ base : Heap, K.In base → base.Ns mainGlobals mg → FnG P w K mg base k fa fd [x] sp) (hbind : ∀ (s : Shared) (u : Value), BindsTo s fd ⟨[u], []⟩ [(x, u)])
    (hsp : ∀ (H : Hp) (o : Obj), H a = some (.frz o (.lst (ns.map V.int))) → sp [.ref a] H (fun v _ => v = .bl true)) :
    codeAny (model P w) callerA (.call (.ref fa) ⟨[.ref a], []⟩) (fun r s' => r = .ok (.ret (.bool true)) ∧ OldK s₁.heap s'.heap ∧ s'.os = s₁.os ∧ AllBare s'.gens) s₁ := by
  have rv := vals_ints hi
  have lenV := hi.length
  have core : ∀ H : Hp, Only H → (∃ o, H a = some (.frz o (.lst (ns.map V.int)))) → HOk P w H s₁.heap → (∀ b, H b ≠ none → b = a) → (H a ≠ none → K.lookup a = none) →
      codeAny (model P w) callerA (.call (.ref fa) ⟨[.ref a], []⟩) (fun r s' => r = .ok (.ret (.bool true)) ∧ OldK s₁.heap s'.heap ∧ s'.os = s₁.os ∧ AllBare s'.gens) s₁ := by
    intro H hO hS hok hA hK
    have base_of : ∀ {b : Addr} {o : Obj}, s₁.heap.get? b = some o → H b = none → (hidT s₁.heap H).get? b = some o := fun e n => hidT_get e n
    have noA : ∀ {b : Addr} {o : Obj} {es : Array DictEntry} {ep : Nat}, s₁.heap.get? b = some o → o.data = .dict es ep → H b = none := fun {b o es ep} e d => by
      cases q : H b with
      | none => rfl
      | some u =>
        have e' : b = a := hA b (by rw [q]; simp)
        subst e'
        rw [ha] at e; cases e
        have d' : Data.seq vs.toArray _ = Data.dict es ep := d
        cases d'
    have nsK : ∀ {b : Addr} {m : Str → Option Value}, s₁.heap.Ns b m → (hidT s₁.heap H).Ns b m := fun {b m} ⟨o, es, ep, e, d, r⟩ => ⟨o, es, ep, base_of e (noA e d), d, r⟩
    have hKb : K.In (hidT s₁.heap H) := fun b o e => base_of (KX b o e) (by
      cases q : H b with
      | none => rfl
      | some u =>
        have e' : b = a := hA b (by rw [q]; simp)
        subst e'
        rw [hK (by rw [q]; simp)] at e; cases e)
    have hM : Mod K mg (hidT s₁.heap H) := ⟨hKb, nsK hns, ⟨mb, nsK hb, hbb⟩, let ⟨mc, h1, h2⟩ := hlim; ⟨mc, nsK h1, h2⟩⟩
    have e0 : Env0 P w K mg (hidT s₁.heap H) callerA [] s₁ H := ⟨rfl, hM, fun b o e => of_hidT e, Nat.le_of_eq (hidT_size _ _), trivial, fun b hb => absurd (show b ∈ ([] : List Addr) from hb) (by simp), hok, .of_eq hg⟩
    obtain ⟨ob, hS⟩ := hS
    refine codeAny_mono ((F _ hKb (nsK hns)).run callerA [] s₁ H ⟨[.ref a], []⟩ [.ref a] [.ref a] _ hr rfl e0 (hbind s₁ (.ref a)) (.cons rfl .nil) (hsp H ob hS)) fun r s' h => ?_
    cases r with
    | error e => exact False.elim h
    | ok fl =>
      cases fl with
      | next => exact False.elim h
      | brk => exact False.elim h
      | cont => exact False.elim h
      | ret u =>
        obtain ⟨v, H', os, bare, un, hok', r', q⟩ := h
        have q' : v = .bl true := q
        subst q'
        obtain rfl : u = Value.bool true := r'
        refine ⟨rfl, OldK.of_keep fun b o e => ?_, os, bare⟩
        cases q : H b with
        | none => exact un.keep b o e q (by intro z; exact absurd (show b ∈ ([] : List Addr) from z) (by simp)) (by simp)
        | some u =>
          rcases hO b with z | ⟨ob, xs, z⟩
          · rw [q] at z; cases z
          · have z2 := un.frzs b ob _ z
            obtain ⟨e1, _⟩ := hok b _ z
            obtain ⟨e2, _⟩ := hok' b _ z2
            rw [e] at e1; cases e1
            exact e2
  cases hk : K.lookup a with
  | some o =>
    have e := KX a o hk
    rw [ha] at e
    cases e
    exact absurd rfl (noL a _ hk)
  | none =>
    refine core (fun b => if b = a then some (.frz { cls := .type "list", data := .seq vs.toArray } (.lst (ns.map V.int))) else none) (fun b => ?_) ⟨{ cls := .type "list", data := .seq vs.toArray }, if_pos rfl⟩ (fun b u z => ?_) (fun b z => ?_) fun _ => hk
    · by_cases hb : b = a
      · exact .inr ⟨_, _, if_pos hb⟩
      · exact .inl (if_neg hb)
    · by_cases hb : b = a
      · have z' := (if_pos hb).symm.trans z
        cases z'
        subst hb
        exact ⟨ha, by rw [List.length_map]; exact hl, vs, _, rv, ha⟩
      · have z' := (if_neg hb).symm.trans z
        cases z'
    · by_cases hb : b = a
      · exact hb
      · exact absurd (if_neg hb) z
theorem walk_G {l : PySem.W.OpenLaw} {n k : Nat} {q : Program} {loose : List Str} {XP : (Str → Option Value) → Heap → Prop} {YP : World → Heap → Prop} {d : DefRec} {x : Str}
    (hn : l.most = some n) (hn2 : n ≤ sizeLine) (hdf : d.params.defaults = []) (hr : Room k callerA)
    (F : ∀ (w : World) (mg : Str → Option Value) (fa : Addr) (h : Heap), YP w h → h.Ns mainGlobals mg → mg d.name = some (.ref fa) →
      ∃ (K : PySem.W.Frag) (fd : FuncData) (sp : List V → Hp → VK → Prop), K.In h ∧ (∀ a o, K.lookup a = some o → o.cls ≠ .type "list") ∧ (∀ (s : Shared) (u : Value), BindsTo s fd ⟨[u], []⟩ [(x, u)]) ∧
        (∀ (H : Hp) (a : Addr) (o : Obj) (ns : List Int), ns.length ≤ n → (∀ z ∈ ns, Builtin.Int.intBits z ≤ 1048576) → H a = some (.frz o (.lst (ns.map V.int))) → sp [.ref a] H (fun v _ => v = .bl true)) ∧
        ∀ base : Heap, K.In base → base.Ns mainGlobals mg → FnG l.prog w K mg base k fa fd [x] sp) :
    PySem.W.WalkO q loose XP YP l.row.toRowW d [] (fun f vs => PySem.call f vs) := by
  refine Att.attach_callB hn hdf fun w s₀ s₁ mg mb fa o pm cd doc a vs ns G Y ho hd hcd hmg hobj hints hlen hbits hg => ?_
  obtain ⟨K, fd, sp, KX, noL, hb, hsp, hF⟩ := F w mg fa _ Y G.T.g hmg
  exact law_callG KX G.T.g G.T.b G.T.builtins G.T.nolimit hg hobj hints (Nat.le_trans hlen hn2) hr noL hF hb (fun H o h => hsp H a o ns hlen hbits h)

/-! ### the program as data -/
inductive PAt where | glo (x : Str) | meth (C m : Str) | prop (C m : Str)
def recG (K : PySem.W.Frag) (p : Addr) : Addr := match PySem.W.recIn K p "property" with
  | some (.ref g :: _) => g
  | _ => 0
def PAt.ad (K : PySem.W.Frag) : PAt → Addr
  | .glo x => ga K x
  | .meth C m => ma K (ga K C) m
  | .prop C m => recG K (ma K (ga K C) m)
structure PDef where
  at_ : PAt
  name : Str
  qual : Str
  st : Stmt
  more : List Str := []
def gf (x : Str) (f : Nat) : Str × GK := (x, .fn f)
def gc (x : Str) (c : Nat) : Str × GK := (x, .cls c)
def gd (x : Str) (d : Nat) : Str × GK := (x, .dct d)
def gk (x : Str) (a : AV) : Str × GK := (x, .cst a)
def PDef.ps (d : PDef) : List Str := (defArgs d.st).args.map (·.arg)
def PDef.N (d : PDef) : List Str := d.ps ++ ((defScope d.st).names.filterMap fun y => match y.2 with
  | .local | .cell => if d.ps.contains y.1 then none else some y.1
  | _ => none) ++ d.more
/-- a written dict: its name, keys, values -/
structure DctE where
  x : Str
  ks : List Str
  vs : List AV
structure PD where
  fns : List PDef
  cls : List (Str × Cl)
  nms : List Str
  kw : List KwE
  dc : List DctE
  gl : List (Str × GK)
def PD.body (D : PD) (d : PDef) : S := trSs (trS 41 (tcOf D.gl D.nms D.kw d.N (defScope d.st)) 20) (defBody d.st)
def PD.fn (D : PD) (d : PDef) : Fn := ⟨d.ps.length, d.N.length, D.body d⟩
def PD.pg (D : PD) : Pg := ⟨fun f => (D.fns[f]?).map D.fn, fun c => (D.cls[c]?).map (·.2), fun d => (D.dc[d]?).map fun q => (q.ks.map fun k => AV.str k.cps.toList).zip q.vs, fun d => (D.dc[d]?).map fun q => (q.ks.map fun k => AV.str k.cps.toList).zip q.vs⟩
def fdD : FuncData := PySem.W.fnOf "" "" (defArgs (.Pass ⟨0, 0, 0, 0⟩)) [] (defScope (.Pass ⟨0, 0, 0, 0⟩)) .none .none .none .none none .none .none
def fdAt (K : PySem.W.Frag) (a : Addr) : FuncData := match K.lookup a with
  | some ⟨_, _, .func fd, _⟩ => fd
  | _ => fdD
def PD.faK (D : PD) (K : PySem.W.Frag) (f : Nat) : Addr := match D.fns[f]? with
  | some d => d.at_.ad K
  | none => 0
def PD.gmK (D : PD) (K : PySem.W.Frag) (c : Nat) : Addr := match D.cls[c]? with
  | some d => ga K d.1
  | none => 0
def PD.dmK (D : PD) (K : PySem.W.Frag) (d : Nat) : Addr := match D.dc[d]? with
  | some q => ga K q.x
  | none => 0
def PD.psK (D : PD) (f : Nat) : List Str := match D.fns[f]? with
  | some d => d.ps
  | none => []
def PD.gw (D : PD) (K : PySem.W.Frag) : Gw := ⟨K, D.gmK K, D.dmK K, D.nms, D.faK K, fun f => fdAt K (D.faK K f), D.psK, D.kw⟩

/-! ### what is looked at -/
mutual
def avB (K : PySem.W.Frag) : AV → Value → Bool
  | .non, .none => true
  | .bl b, .bool c => b == c
  | .int i, .int j _ => decide (i = j)
  | .str l, .str y _ => decide (cStr l = y)
  | .ktp xs, .ref a => (match K.lookup a with
    | some ⟨.type c, _, .seq its _, _⟩ => decide (c = "tuple") && (decide (its.size ≤ sizeLine) && avsB K xs its.toList)
    | _ => false)
  | _, _ => false
def avsB (K : PySem.W.Frag) : List AV → List Value → Bool
  | [], [] => true
  | x :: xs, u :: us => avB K x u && avsB K xs us
  | _, _ => false
end
def clsB (K : PySem.W.Frag) (C : Addr) : Bool := PySem.W.plainGet K C Str.empty && (PySem.W.hasDictIn K C && (PySem.W.plainOver K C && eqO (PySem.W.findIn K (.ref C) "__setattr__") (some (some (.builtin "object.__setattr__")))))
def mkB (K : PySem.W.Frag) (C f : Addr) : Bool := PySem.W.makesIn K C && (eqO (PySem.W.findIn K (.ref C) "__init__") (some (some (.ref f))) && (PySem.W.isFn K (.ref f) && PySem.W.keepIn K (.ref C)))
def methB (K : PySem.W.Frag) (C : Addr) (m : Str) (f : Addr) : Bool := eqO (PySem.W.findIn K (.ref C) m) (some (some (.ref f))) && (PySem.W.isFn K (.ref f) && PySem.W.keepIn K (.ref f))
def propB (K : PySem.W.Frag) (C : Addr) (x : Str) (g : Addr) : Bool := eqO (PySem.W.findIn K (.ref C) x) (some (some (.ref (ma K C x)))) && (eqO (PySem.W.specialIn K (.ref (ma K C x)) "__get__") (some (some (.builtin "property.__get__"))) &&
  (decide (PySem.W.takesIn K (.ref (ma K C x)) = some true) && (match PySem.W.recIn K (ma K C x) "property" with
    | some (.ref b :: _) => b == g
    | _ => false)))
def oB (a b : Option Bool) : Bool := decide (a = b)
def PD.clB (D : PD) (K : PySem.W.Frag) (C : Addr) (cl : Cl) : Bool :=
  clsB K C && ((cl.flds.all fun f => match D.nms[f]? with | some s => eqO (PySem.W.findIn K (.ref C) s) (some none) | none => false) &&
  ((tys.all fun t => oB (PySem.W.kitOne K (.type t) (.ref C)) (some false)) && ((tysT.all fun T => oB (PySem.W.kitOne K (.ref C) (.type T)) (some false)) &&
  (eqO (PySem.W.findIn K (.ref C) "__class__") (some (some (.builtin "object.__class__"))) && (oB (PySem.W.mroIn K C (.type "object")) (some true) &&
  ((match cl.init with | some f => mkB K C (D.faK K f) | none => true) && ((cl.meths.all fun q => match mNm D.nms q.1 with | some nm => methB K C nm (D.faK K q.2) && cl.flds.all (fun n => !decide (D.nms[n]? = some nm)) | none => true) &&
  ((cl.props.all fun q => match D.nms[q.1]? with | some nm => propB K C nm (D.faK K q.2) | none => true) && ((match cl.eq with | some f => eqO (PySem.W.findIn K (.ref C) "__eq__") (some (some (.ref (D.faK K f)))) && eqO (PySem.W.findIn K (.ref C) "__ne__") (some (some (.builtin "object.__ne__"))) | none => true) &&
  ((match cl.len with | some f => eqO (PySem.W.findIn K (.ref C) "__len__") (some (some (.ref (D.faK K f)))) | none => true) &&
  (tys.all fun t => PySem.W.notFirst K C (.type t))))))))))))
def kindB (a b : NameKind) : Bool := match a, b with
  | .local, .local | .cell, .cell | .free, .free => true
  | _, _ => false
def scopeB (N P : List Str) (sc : Scope) : Bool := (match sc.kind with | .function => true | _ => false) && (!sc.isCoroutine && (!sc.isGenerator && (decide N.Nodup && (decide (N.take P.length = P) &&
  ((P.all fun x => match sc.names.lookup x with | some .local => true | some .cell => true | _ => false) && sc.names.all fun y => match y.2 with | .free => false | _ => true)))))
def PD.fnB (K : PySem.W.Frag) (d : PDef) : Bool := PySem.W.keepIn K (.ref (d.at_.ad K)) && (PySem.W.isFn K (.ref (d.at_.ad K)) && (match K.lookup (d.at_.ad K) with
  | some ⟨_, _, .func fd, _⟩ => PySem.W.codeIn K fd.code d.qual && (match fd.defaults with | .none => true | _ => false)
  | _ => false))
def PD.glB (D : PD) (K : PySem.W.Frag) : Str × GK → Bool
  | (x, .fn f) => eqO (PySem.W.nsIn K mainGlobals x) (some (some (.ref (D.faK K f))))
  | (x, .cls c) => eqO (PySem.W.nsIn K mainGlobals x) (some (some (.ref (D.gmK K c))))
  | (x, .dct d) => eqO (PySem.W.nsIn K mainGlobals x) (some (some (.ref (D.dmK K d))))
  | (x, .cst a) => (match PySem.W.nsIn K mainGlobals x with
    | some (some u) => avB K a u
    | _ => false)
/-- a written dict's values -/
def dcB (K : PySem.W.Frag) (q : DctE) : Bool := decide q.ks.Nodup && (decide (q.ks.length ≤ sizeLine) && (match K.lookup (ga K q.x) with
  | some ⟨_, _, .dict es _, _⟩ => avsB K q.vs (es.toList.map (·.val))
  | _ => false))
def PD.ok (D : PD) (K : PySem.W.Frag) : Bool :=
  ((D.cls.all fun c => D.clB K (ga K c.1) c.2) && ((D.cls.zipIdx.all fun c => D.cls.zipIdx.all fun c' => oB (PySem.W.kitOne K (.ref (ga K c.1.1)) (.ref (ga K c'.1.1))) (some (decide (c.2 = c'.2))) && PySem.W.notFirst K (ga K c.1.1) (.ref (ga K c'.1.1))))) &&
  ((eqO (PySem.W.specialIn K (.builtin "object.__class__") "__get__") (some (some (.builtin "getset_descriptor.__get__"))) && oB (PySem.W.takesIn K (.builtin "object.__class__")) (some true)) &&
  ((D.fns.all fun d => PD.fnB K d) && ((D.dc.all fun q => dcB K q) && ((D.gl.all fun q => D.glB K q) && ((bNames.all fun x => (D.gl.lookup x).isSome || eqO (PySem.W.nsIn K mainGlobals x) (some none)) && K.all fun p => !decide (p.2.cls = .type "list"))))))
def fnWa (K : PySem.W.Frag) (a : Addr) : FnW := match K.lookup a with
  | some ⟨_, _, .func fd, _⟩ => some (fd.name, fd.qualname, fd.params, fd.body, fd.scope, fd.globals, fd.closure, fd.builtins)
  | _ => none
def PDef.val (d : PDef) : FnW := some (d.name, d.qual, defArgs d.st, .stmts (defBody d.st), defScope d.st, mainGlobals, [], builtinsNs)
abbrev AlP : Type := Bool × (List FnW × List (Option (List (Option (Str × Int)))))
def PD.obs (D : PD) (K : PySem.W.Frag) : AlP := (D.ok K, D.fns.map fun d => fnWa K (d.at_.ad K), D.dc.map fun q => He.dicW K (ga K q.x))
def PD.val (D : PD) (w : World) : AlP := (true, D.fns.map PDef.val, D.dc.map fun q => some (keysIn w.params q.ks))
def PD.obsG (D : PD) (n : Nat) (g : Addr → Option Obj) : AlP := D.obs (frG g (asD g n))
def PD.hook (D : PD) (n : Nat) : PySem.W.Hook where
  α := AlP
  obs := fun s => D.obsG n s.heap.get?
  val := fun w => D.val w
  says := fun w h => ∃ K : PySem.W.Frag, K.In h ∧ D.obs K = D.val w
  of := fun _ _ e => ⟨_, frG_in, e⟩
  keeps := fun _ _ _ ⟨K, hK, c⟩ k => ⟨K, PySem.W.Frag.In.keeps hK k, c⟩
theorem PD.obsG_eq {D : PD} {n : Nat} {g : Addr → Option Obj} {s : Shared} (h : ∀ a, g a = s.heap.get? a) : D.obsG n g = (D.hook n).obs s := by
  have e : g = s.heap.get? := funext h
  rw [e] <;> rfl
end PM
end
section
set_option maxHeartbeats 2000000
/-! PMX: the facts are there. -/
namespace PM
open PySem PySem.Spec L2 PyProof.Rows He
/-- how a def binds its arguments -/
def BindOk (d : PDef) : Prop := ∀ (kV doc pm : Value) (an : Option Addr) (cdv ct : Value) (us : List Value), us.length = d.ps.length → bindArgs (PySem.W.fnOf d.name d.qual (defArgs d.st) (defBody d.st) (defScope d.st) .none kV doc pm an cdv ct) ⟨us, []⟩ = pure (d.ps.zip us)
structure PD.Bd (D : PD) : Prop where
  bind : ∀ (f : Nat) (d : PDef), D.fns[f]? = some d → BindOk d
  kb : ∀ q ∈ D.kw, ∃ d : PDef, D.fns[q.f]? = some d ∧ ∀ (kV doc pm : Value) (an : Option Addr) (cdv ct : Value) (us ws : List Value), us.length = q.n → ws.length = q.ks.length → bindArgs (PySem.W.fnOf d.name d.qual (defArgs d.st) (defBody d.st) (defScope d.st) .none kV doc pm an cdv ct) ⟨us, q.ks.zip ws⟩ = pure (d.ps.zip (q.perm.filterMap ((us ++ ws)[·]?)))
  scope : (D.fns.all fun d => scopeB d.N d.ps (defScope d.st)) = true
  nd : D.nms.Nodup
section
variable {D : PD} {K : PySem.W.Frag} {w : World}
theorem mem_lk {β : Type} {k : Nat} {v : β} : ∀ {l : List (Nat × β)}, l.lookup k = some v → (k, v) ∈ l
  | [], h => by cases h
  | (a, b) :: l, h => by
    rw [List.lookup_cons] at h
    split at h
    · rename_i q
      cases h
      rw [beq_iff_eq.mp q]
      exact List.Mem.head _
    · exact List.Mem.tail _ (mem_lk h)
theorem scopeB_ok {N P : List Str} {sc : Scope} (h : scopeB N P sc = true) : FnScope N P sc := by
  unfold scopeB at h
  obtain ⟨h1, h⟩ := ba h
  obtain ⟨h2, h⟩ := ba h
  obtain ⟨h3, h⟩ := ba h
  obtain ⟨h4, h⟩ := ba h
  obtain ⟨h5, h⟩ := ba h
  obtain ⟨h6, h7⟩ := ba h
  refine ⟨?_, ?_, ?_, of_decide_eq_true h4, of_decide_eq_true h5, fun x hx => ?_, fun y hy e => ?_⟩
  · cases q : sc.kind <;> rw [q] at h1 <;> first | rfl | (cases h1)
  · simpa using h2
  · simpa using h3
  · have := List.all_eq_true.mp h6 x hx
    cases q : sc.names.lookup x with
    | none => rw [q] at this; cases this
    | some k => rw [q] at this; cases k <;> first | exact .inl rfl | exact .inr rfl | (cases this)
  · have := List.all_eq_true.mp h7 y hy
    rw [e] at this
    cases this
theorem fdAt_some {a : Addr} {oc : Value} {od : Option Addr} {fd : FuncData} {osl : Array (Option Value)} (h : K.lookup a = some ⟨oc, od, .func fd, osl⟩) : fdAt K a = fd := by
  unfold fdAt
  rw [h]
theorem fn_shape {d : PDef} {a : Addr} (e : fnWa K a = d.val) (c : PD.fnB K d = true) (ha : d.at_.ad K = a) :
    ∃ oc od osl kV doc pm an cdv ct, K.lookup a = some ⟨oc, od, .func (PySem.W.fnOf d.name d.qual (defArgs d.st) (defBody d.st) (defScope d.st) .none kV doc pm an cdv ct), osl⟩ ∧ PySem.W.codeIn K cdv d.qual = true := by
  unfold PD.fnB at c
  rw [ha] at c
  obtain ⟨_, c⟩ := ba c
  obtain ⟨_, c⟩ := ba c
  unfold fnWa at e
  cases q : K.lookup a with
  | none => rw [q] at c; cases c
  | some o =>
    obtain ⟨oc, od, dt, osl⟩ := o
    rw [q] at c e
    cases dt with
    | func fd =>
      obtain ⟨n1, n2, n3, n4, n5, n6, n7, n8, n9, n10, n11, n12, n13, n14, n15⟩ := fd
      have e2 : (some (n1, n2, n3, n4, n5, n6, n7, n15) : FnW) = some (d.name, d.qual, defArgs d.st, .stmts (defBody d.st), defScope d.st, mainGlobals, [], builtinsNs) := e
      simp only [Option.some.injEq, Prod.mk.injEq] at e2
      obtain ⟨h1, h2, h3, h4, h5, h6, h7, h8⟩ := e2
      subst h1 h2 h3 h4 h5 h6 h7 h8
      obtain ⟨k1, k2⟩ := ba c
      have k3 : n8 = .none := by cases n8 <;> first | rfl | (cases k2)
      subst k3
      exact ⟨_, _, _, _, _, _, _, _, _, rfl, k1⟩
    | _ => cases c
theorem clsB_ok {C : Addr} (c : clsB K C = true) : Cls K C := by
  obtain ⟨c1, c⟩ := ba c
  obtain ⟨c2, c⟩ := ba c
  obtain ⟨c3, c4⟩ := ba c
  exact ⟨c1, c2, c3, eqO_ok c4⟩
theorem mkB_ok {C f : Addr} (c : mkB K C f = true) : Mk K C f := by
  obtain ⟨c1, c⟩ := ba c
  obtain ⟨c2, c⟩ := ba c
  obtain ⟨c3, c4⟩ := ba c
  exact ⟨c1, eqO_ok c2, c3, c4⟩
theorem methB_ok {C f : Addr} {m : Str} (c : methB K C m f = true) : Meth K C m f := by
  obtain ⟨c1, c⟩ := ba c
  obtain ⟨c2, c3⟩ := ba c
  exact ⟨eqO_ok c1, c2, c3⟩
theorem propB_ok {C g : Addr} {x : Str} (c : propB K C x g = true) : PropOf K C x (ma K C x) g := by
  obtain ⟨c1, c⟩ := ba c
  obtain ⟨c2, c⟩ := ba c
  obtain ⟨c3, c4⟩ := ba c
  refine ⟨eqO_ok c1, eqO_ok c2, of_decide_eq_true c3, ?_⟩
  split at c4
  · rename_i b rest q
    rw [← beq_iff_eq.mp c4]
    exact ⟨rest, q⟩
  · cases c4
mutual
theorem avB_ok {G : Gw} (hG : G.K = K) : ∀ (a : AV) (u : Value), avB K a u = true → ∃ v, RelV v u ∧ ∀ ρ H, RV G ρ H a v
  | .non, u, h => by cases u <;> first | (cases h; done) | exact ⟨.non, rfl, fun _ _ => by simp⟩
  | .bl b, u, h => by
    cases u <;> first | (cases h; done) | skip
    rename_i c
    have e : b = c := eq_of_beq (show (b == c) = true by simpa [avB] using h)
    exact ⟨.bl b, by rw [e]; rfl, fun _ _ => by simp⟩
  | .int i, u, h => by
    cases u <;> first | (cases h; done) | skip
    rename_i j t
    have e : i = j := by simpa [avB] using h
    exact ⟨.int i, ⟨t, by rw [e]⟩, fun _ _ => by simp⟩
  | .str l, u, h => by
    cases u <;> first | (cases h; done) | skip
    rename_i y t
    have e : cStr l = y := by simpa [avB] using h
    exact ⟨.str (cStr l), ⟨t, by rw [e]⟩, fun _ _ => by simp⟩
  | .ktp xs, u, h => by
    cases u <;> first | (cases h; done) | skip
    rename_i a
    unfold avB at h
    cases q : K.lookup a with
    | none => rw [q] at h; cases h
    | some o =>
      obtain ⟨oc, od, dt, osl⟩ := o
      rw [q] at h
      cases oc <;> first | (cases h; done) | skip
      cases dt <;> first | (cases h; done) | skip
      rename_i c its n
      obtain ⟨h1, h⟩ := ba h
      obtain ⟨h2, h3⟩ := ba h
      obtain ⟨ys, rv, hr⟩ := avsB_ok hG xs its.toList h3
      exact ⟨.ref a, rfl, fun ρ H => RV_ktp.mpr ⟨a, ys, rfl, ⟨_, its, n, by rw [hG]; exact q, congrArg Value.type (of_decide_eq_true h1), rfl, of_decide_eq_true h2, rv⟩, hr ρ H⟩⟩
  | .tup _, u, h => by cases u <;> cases h
  | .ref _, u, h => by cases u <;> cases h
  | .glo _, u, h => by cases u <;> cases h
  | .gdc _, u, h => by cases u <;> cases h
  | .ty _, u, h => by cases u <;> cases h
theorem avsB_ok {G : Gw} (hG : G.K = K) : ∀ (xs : List AV) (us : List Value), avsB K xs us = true → ∃ ys, Vals ys us ∧ ∀ ρ H, RVs G ρ H xs ys
  | [], [], _ => ⟨[], .nil, fun _ _ => RVs.nil⟩
  | [], _ :: _, h => by cases h
  | _ :: _, [], h => by cases h
  | x :: xs, u :: us, h => by
    unfold avsB at h
    obtain ⟨h1, h2⟩ := ba h
    obtain ⟨v, r1, q1⟩ := avB_ok hG x u h1
    obtain ⟨ys, r2, q2⟩ := avsB_ok hG xs us h2
    exact ⟨v :: ys, .cons r1 r2, fun ρ H => RVs.cons (q1 ρ H) (q2 ρ H)⟩
end
theorem PD.says_fn (c : D.obs K = D.val w) {f : Nat} {d : PDef} (h : D.fns[f]? = some d) : fnWa K (d.at_.ad K) = d.val := by
  have e : D.fns.map (fun d => fnWa K (d.at_.ad K)) = D.fns.map PDef.val := congrArg (fun z : AlP => z.2.1) c
  have e2 : (D.fns.map fun d => fnWa K (d.at_.ad K))[f]? = (D.fns.map PDef.val)[f]? := by rw [e]
  rw [List.getElem?_map, List.getElem?_map, h] at e2
  exact Option.some.inj e2
theorem PD.says_ok (c : D.obs K = D.val w) : D.ok K = true := congrArg (fun z : AlP => z.1) c
theorem faK_eq {f : Nat} {d : PDef} (h : D.fns[f]? = some d) : D.faK K f = d.at_.ad K := by unfold PD.faK; rw [h]
theorem gmK_eq {c : Nat} {d : Str × Cl} (h : D.cls[c]? = some d) : D.gmK K c = ga K d.1 := by unfold PD.gmK; rw [h]
theorem psK_eq {f : Nat} {d : PDef} (h : D.fns[f]? = some d) : D.psK f = d.ps := by unfold PD.psK; rw [h]
theorem pg_fn {f : Nat} {fn : Fn} (h : D.pg.fn f = some fn) : ∃ d, D.fns[f]? = some d ∧ fn = D.fn d := by
  obtain ⟨d, h1, h2⟩ := Option.map_eq_some_iff.mp (show (D.fns[f]?).map D.fn = some fn from h)
  exact ⟨d, h1, h2.symm⟩
theorem pg_cl {c : Nat} {cl : Cl} (h : D.pg.cl c = some cl) : ∃ d, D.cls[c]? = some (d, cl) := by
  obtain ⟨⟨d, cl'⟩, h1, h2⟩ := Option.map_eq_some_iff.mp (show (D.cls[c]?).map (·.2) = some cl from h)
  cases h2
  exact ⟨d, h1⟩
structure ClOk (D : PD) (K : PySem.W.Frag) (C : Addr) (cl : Cl) : Prop where
  cls : Cls K C
  fld : ∀ f, cl.flds.contains f = true → ∃ s, D.nms[f]? = some s ∧ NoAttr K C s
  ty : ∀ t ∈ tys, PySem.W.kitOne K (.type t) (.ref C) = some false
  nt : ∀ T ∈ tysT, PySem.W.kitOne K (.ref C) (.type T) = some false
  ha : PySem.W.findIn K (.ref C) "__class__" = some (some (.builtin "object.__class__"))
  hm : PySem.W.mroIn K C (.type "object") = some true
  init : ∀ f, cl.init = some f → Mk K C (D.faK K f)
  meth : ∀ m f nm, cl.meths.lookup m = some f → mNm D.nms m = some nm → Meth K C nm (D.faK K f) ∧ ∀ n, cl.flds.contains n = true → D.nms[n]? ≠ some nm
  prop : ∀ n f nm, cl.props.lookup n = some f → D.nms[n]? = some nm → ∃ p, PropOf K C nm p (D.faK K f)
  eq : ∀ f, cl.eq = some f → PySem.W.findIn K (.ref C) "__eq__" = some (some (.ref (D.faK K f)))
  ne : ∀ f, cl.eq = some f → PySem.W.findIn K (.ref C) "__ne__" = some (some (.builtin "object.__ne__"))
  len : ∀ f, cl.len = some f → PySem.W.findIn K (.ref C) "__len__" = some (some (.ref (D.faK K f)))
  nft : ∀ t ∈ tys, PySem.W.notFirst K C (.type t) = true
theorem clB_ok {C : Addr} {cl : Cl} (h : D.clB K C cl = true) : ClOk D K C cl := by
  unfold PD.clB at h
  obtain ⟨h1, h⟩ := ba h
  obtain ⟨h2, h⟩ := ba h
  obtain ⟨h3, h⟩ := ba h
  obtain ⟨h4, h⟩ := ba h
  obtain ⟨h5, h⟩ := ba h
  obtain ⟨h6, h⟩ := ba h
  obtain ⟨h7, h⟩ := ba h
  obtain ⟨h8, h⟩ := ba h
  obtain ⟨h9, h⟩ := ba h
  obtain ⟨h10, h⟩ := ba h
  obtain ⟨h12, h11⟩ := ba h
  refine ⟨clsB_ok h1, fun f hf => ?_, fun t ht => of_decide_eq_true (List.all_eq_true.mp h3 t ht), fun t ht => of_decide_eq_true (List.all_eq_true.mp h4 t ht), eqO_ok h5, of_decide_eq_true h6, fun f hf => ?_, fun m f nm hm hn => ?_, fun n f nm hm hn => ?_, fun f hf => ?_, fun f hf => ?_, fun f hf => ?_, fun t ht => List.all_eq_true.mp h11 t ht⟩
  · have := List.all_eq_true.mp h2 f (by simpa using hf)
    cases q : D.nms[f]? with
    | none => rw [q] at this; cases this
    | some s => rw [q] at this; exact ⟨s, rfl, eqO_ok this⟩
  · rw [hf] at h7
    exact mkB_ok h7
  · have := List.all_eq_true.mp h8 (m, f) (mem_lk hm)
    rw [hn] at this
    obtain ⟨k1, k2⟩ := ba this
    refine ⟨methB_ok k1, fun n hc e => ?_⟩
    have := List.all_eq_true.mp k2 n (by simpa using hc)
    rw [e] at this
    simp at this
  · have := List.all_eq_true.mp h9 (n, f) (mem_lk hm)
    rw [hn] at this
    exact ⟨_, propB_ok this⟩
  · rw [hf] at h10
    exact eqO_ok (ba h10).1
  · rw [hf] at h10
    exact eqO_ok (ba h10).2
  · rw [hf] at h12
    exact eqO_ok h12
theorem cls_at (h : D.ok K = true) {c : Nat} {cl : Cl} (hc : D.pg.cl c = some cl) : ClOk D K (D.gmK K c) cl := by
  obtain ⟨x, e⟩ := pg_cl hc
  unfold PD.ok at h
  obtain ⟨h1, _⟩ := ba h
  obtain ⟨h2, _⟩ := ba h1
  rw [gmK_eq e]
  exact clB_ok (List.all_eq_true.mp h2 _ (List.mem_of_getElem? e))
theorem cls_two (h : D.ok K = true) {c c' : Nat} {cl cl' : Cl} (hc : D.pg.cl c = some cl) (hc' : D.pg.cl c' = some cl') : PySem.W.kitOne K (.ref (D.gmK K c)) (.ref (D.gmK K c')) = some (decide (c = c')) ∧ PySem.W.notFirst K (D.gmK K c) (.ref (D.gmK K c')) = true := by
  obtain ⟨x, e⟩ := pg_cl hc
  obtain ⟨x', e'⟩ := pg_cl hc'
  unfold PD.ok at h
  obtain ⟨h1, _⟩ := ba h
  obtain ⟨_, h2⟩ := ba h1
  rw [gmK_eq e, gmK_eq e']
  have m1 : ((x, cl), c) ∈ D.cls.zipIdx := List.mem_zipIdx_iff_getElem?.mpr e
  have m2 : ((x', cl'), c') ∈ D.cls.zipIdx := List.mem_zipIdx_iff_getElem?.mpr e'
  obtain ⟨k1, k2⟩ := ba (List.all_eq_true.mp (List.all_eq_true.mp h2 _ m1) _ m2)
  exact ⟨of_decide_eq_true k1, k2⟩
theorem ok_rest (h : D.ok K = true) : (eqO (PySem.W.specialIn K (.builtin "object.__class__") "__get__") (some (some (.builtin "getset_descriptor.__get__"))) && oB (PySem.W.takesIn K (.builtin "object.__class__")) (some true)) = true ∧
    (∀ (f : Nat) (d : PDef), D.fns[f]? = some d → PD.fnB K d = true) ∧ (∀ q ∈ D.dc, dcB K q = true) ∧ (∀ q ∈ D.gl, D.glB K q = true) ∧ (∀ x ∈ bNames, (D.gl.lookup x).isSome = true ∨ PySem.W.nsIn K mainGlobals x = some none) ∧ ∀ a o, K.lookup a = some o → o.cls ≠ .type "list" := by
  unfold PD.ok at h
  obtain ⟨_, h⟩ := ba h
  obtain ⟨h1, h⟩ := ba h
  obtain ⟨h2, h⟩ := ba h
  obtain ⟨h6, h⟩ := ba h
  obtain ⟨h3, h⟩ := ba h
  obtain ⟨h4, h5⟩ := ba h
  refine ⟨h1, fun f d hd => List.all_eq_true.mp h2 d (List.mem_of_getElem? hd), fun q hq => List.all_eq_true.mp h6 q hq, fun q hq => List.all_eq_true.mp h3 q hq, fun x hx => ?_, fun a o e q => ?_⟩
  · have := List.all_eq_true.mp h4 x hx
    rw [Bool.or_eq_true] at this
    exact this.imp id eqO_ok
  · have := List.all_eq_true.mp h5 _ (mem_lk e)
    simp [q] at this
theorem keyOf_ok {e : DictEntry} {k : Str} {i : Int} (h : He.keyOf e = some (k, i)) : ∃ t, e.key = .str k t ∧ e.hash = i := by
  unfold He.keyOf at h
  split at h
  · rename_i x t q
    cases h
    exact ⟨t, q, rfl⟩
  · cases h
theorem dct_rows {G : Gw} : ∀ {es : List DictEntry} {ks : List Str} {ys : List V}, es.map He.keyOf = keysIn w.params ks → Vals ys (es.map (·.val)) → ∃ (l : List (Key × V)) (vs : List (Key × Value)), (∀ prog, (∀ e ∈ es, ∃ k, (mixKind prog w).is k e.key = true ∧ e.hash = (mixKind prog w).hash k) ∧ Pairs (mixKind prog w) es vs) ∧ KV l vs ∧
    vs.map (·.1) = ks.map (fun k => (.inr k : Key)) ∧ l = (ks.map fun k => (.inr k : Key)).zip ys
  | [], [], ys, _, r => by
    cases r
    exact ⟨[], [], fun _ => ⟨(fun e he => by cases he), .nil⟩, .nil, rfl, rfl⟩
  | [], _ :: _, _, h, _ => by cases h
  | _ :: _, [], _, h, _ => by cases h
  | e :: es, k :: ks, ys, h, r => by
    have h1 : He.keyOf e :: es.map He.keyOf = some (k, PyData.keyHash w.params k) :: keysIn w.params ks := h
    injection h1 with h2 h3
    obtain ⟨t, q1, q2⟩ := keyOf_ok h2
    cases ys with
    | nil => cases r
    | cons y ys =>
      cases r with
      | cons ry rr =>
        obtain ⟨l, vs, a, b, c, d⟩ := dct_rows (G := G) h3 rr
        have hk : ∀ prog, (mixKind prog w).is (.inr k) e.key = true := fun prog => by
          rw [q1]
          show Value.isStrOf k (.str k t) = true
          simp [Value.isStrOf]
        refine ⟨(.inr k, y) :: l, (.inr k, e.val) :: vs, fun prog => ⟨fun e' he => ?_, .cons (hk prog) rfl (a prog).2⟩, .cons ⟨rfl, ry⟩ b, ?_, ?_⟩
        · cases he with
          | head => exact ⟨.inr k, hk prog, q2⟩
          | tail _ m => exact (a prog).1 e' m
        · rw [List.map_cons, List.map_cons, c]
        · rw [List.map_cons, List.zip_cons_cons, d]
theorem rks_zip {G : Gw} {ρ : List Addr} {H : Hp} : ∀ {ks : List Str} {xs : List AV} {ys : List V}, RVs G ρ H xs ys → RKs G ρ H ((ks.map fun k => AV.str k.cps.toList).zip xs) ((ks.map fun k => (.inr k : Key)).zip ys)
  | [], xs, ys, _ => rfl
  | k :: ks, [], ys, r => by
    cases RVs_nil.mp r
    rfl
  | k :: ks, x :: xs, ys, r => by
    obtain ⟨y, r', rfl, h1, h2⟩ := RVs_cons.mp r
    exact ⟨.inr k, y, _, rfl, rfl, h1, rks_zip h2⟩
theorem nodup_inr : ∀ {ks : List Str}, ks.Nodup → (ks.map fun k => (.inr k : Key)).Nodup
  | [], _ => List.Pairwise.nil
  | k :: ks, h => by
    rw [List.map_cons, List.nodup_cons]
    rw [List.nodup_cons] at h
    refine ⟨fun hm => ?_, nodup_inr h.2⟩
    obtain ⟨x, hx, e⟩ := List.mem_map.mp hm
    injection e with e
    exact h.1 (e ▸ hx)
theorem dct_ok (c : D.obs K = D.val w) (hd : ∀ q ∈ D.dc, dcB K q = true) {d : Nat} {kvs : List (AV × AV)} (h : D.pg.gq d = some kvs) : GDk (D.gw K) w d kvs := by
  obtain ⟨q, hq, rfl⟩ := Option.map_eq_some_iff.mp (show (D.dc[d]?).map (fun q => (q.ks.map fun k => AV.str k.cps.toList).zip q.vs) = some kvs from h)
  have e : D.dc.map (fun q => He.dicW K (ga K q.x)) = D.dc.map fun q => some (keysIn w.params q.ks) := congrArg (fun z : AlP => z.2.2) c
  have e2 : (D.dc.map fun q => He.dicW K (ga K q.x))[d]? = (D.dc.map fun q => some (keysIn w.params q.ks))[d]? := by rw [e]
  rw [List.getElem?_map, List.getElem?_map, hq] at e2
  have e3 : He.dicW K (ga K q.x) = some (keysIn w.params q.ks) := Option.some.inj e2
  have hb := hd q (List.mem_of_getElem? hq)
  unfold dcB at hb
  obtain ⟨b1, hb⟩ := ba hb
  obtain ⟨b2, b3⟩ := ba hb
  have hdm : (D.gw K).dm d = ga K q.x := by
    show D.dmK K d = _
    unfold PD.dmK
    rw [hq]
  unfold He.dicW at e3
  cases g : K.lookup (ga K q.x) with
  | none => rw [g] at e3; cases e3
  | some o =>
    obtain ⟨oc, od, dt, osl⟩ := o
    rw [g] at e3 b3
    cases oc <;> first | (cases e3; done) | skip
    rename_i cn
    cases od <;> first | (cases e3; done) | skip
    cases dt <;> first | (cases e3; done) | skip
    rename_i es n
    simp only at e3
    cases z : decide (cn = "dict") && (osl.isEmpty && !(ga K q.x == sysModules)) with
    | false => rw [z] at e3; cases e3
    | true =>
      rw [z] at e3
      obtain ⟨z1, z2⟩ := ba z
      obtain ⟨z3, z4⟩ := ba z2
      have e4 : cn = "dict" := of_decide_eq_true z1
      have e5 : osl = #[] := Array.isEmpty_iff.mp z3
      subst e4 e5
      obtain ⟨ys, rv, hr⟩ := avsB_ok (K := K) (G := D.gw K) rfl q.vs (es.toList.map fun e => e.val) (show avsB K q.vs (es.toList.map fun e => e.val) = true from b3)
      obtain ⟨l, vs, a, b, cc, dd⟩ := dct_rows (G := D.gw K) (Option.some.inj e3) rv
      refine ⟨es, n, l, vs, by rw [hdm]; exact g, fun prog => ⟨fun e he => (a prog).1 e (by simpa using he), (a prog).2⟩, ?_, b, ?_, ?_, fun ρ H => ?_⟩
      · rw [cc]
        have := of_decide_eq_true b1
        exact nodup_inr this
      · rw [dd, List.length_zip, List.length_map]
        have := of_decide_eq_true b2
        omega
      · rw [hdm]; simpa using z4
      · rw [dd]
        exact rks_zip (hr ρ H)
theorem PD.pgOk (B : D.Bd) (c : D.obs K = D.val w) : PgOk D.pg (D.gw K) D.gl w := by
  have hok := PD.says_ok c
  obtain ⟨r1, r2, r6', r3, r4, r5⟩ := ok_rest hok
  obtain ⟨r6, r7⟩ := ba r1
  refine ⟨⟨B.nd, fun c cl hc => (cls_at hok hc).cls, fun c cl f hc hf => (cls_at hok hc).fld f hf⟩,
    ⟨fun c cl hc => (cls_at hok hc).ty, fun c cl c' cl' hc hc' => (cls_two hok hc hc').1, fun c cl hc => (cls_at hok hc).nt, fun c cl hc => (cls_at hok hc).ha, eqO_ok r6, of_decide_eq_true r7, fun c cl hc => (cls_at hok hc).hm⟩, fun d kvs hd => dct_ok c (r6') hd, fun d kvs hd => ?_,
    ⟨fun f fn hf => ?_, fun f fn hf us hl => ?_, fun f fn hf => ?_, fun f fn hf => ?_, fun q hq us ws n1 n2 => ?_⟩,
    ⟨fun c cl f hc hf => (cls_at hok hc).init f hf, fun c cl m f nm hc hm hn => (cls_at hok hc).meth m f nm hm hn, fun c cl n f nm hc hm hn => (cls_at hok hc).prop n f nm hm hn, fun c cl f hc hf => (cls_at hok hc).eq f hf, fun c cl f hc hf => (cls_at hok hc).ne f hf, fun c cl f hc hf => (cls_at hok hc).len f hf, fun c cl hc => (cls_at hok hc).nft, fun c cl c' cl' hc hc' => (cls_two hok hc hc').2⟩,
    fun f fn hf => ?_⟩
  · exact dct_ok c (r6') hd
  · obtain ⟨d, hd, rfl⟩ := pg_fn hf
    show (D.psK f).length = _
    rw [psK_eq hd] <;> rfl
  · obtain ⟨d, hd, rfl⟩ := pg_fn hf
    obtain ⟨oc, od, osl, kV, doc, pm, an, cdv, ct, lk, hcd⟩ := fn_shape (PD.says_fn c hd) (r2 f d hd) rfl
    show bindArgs (fdAt K (D.faK K f)) ⟨us, []⟩ = pure ((D.psK f).zip us)
    have hl' : us.length = (D.psK f).length := hl
    rw [faK_eq hd, fdAt_some lk, psK_eq hd]
    rw [psK_eq hd] at hl'
    exact B.bind f d hd _ _ _ _ _ _ us hl'
  · obtain ⟨d, hd, rfl⟩ := pg_fn hf
    show PySem.W.keepIn K (.ref (D.faK K f)) = true
    rw [faK_eq hd]
    exact (ba (r2 f d hd)).1
  · obtain ⟨d, hd, rfl⟩ := pg_fn hf
    show PySem.W.isFn K (.ref (D.faK K f)) = true
    rw [faK_eq hd]
    exact (ba (ba (r2 f d hd)).2).1
  · obtain ⟨d, hd, hb⟩ := B.kb q hq
    obtain ⟨oc, od, osl, kV, doc, pm, an, cdv, ct, lk, hcd⟩ := fn_shape (PD.says_fn c hd) (r2 q.f d hd) rfl
    show bindArgs (fdAt K (D.faK K q.f)) _ = pure ((D.psK q.f).zip _)
    rw [faK_eq hd, fdAt_some lk, psK_eq hd]
    exact hb _ _ _ _ _ _ us ws n1 n2
  · obtain ⟨d, hd, rfl⟩ := pg_fn hf
    obtain ⟨oc, od, osl, kV, doc, pm, an, cdv, ct, lk, hcd⟩ := fn_shape (PD.says_fn c hd) (r2 f d hd) rfl
    refine ⟨⟨oc, od, osl, d.name, d.qual, defArgs d.st, defBody d.st, defScope d.st, .none, kV, doc, pm, an, cdv, ct, d.N, ?_, ?_, hcd, ?_, rfl, rfl⟩⟩
    · show K.lookup (D.faK K f) = _
      rw [faK_eq hd]
      exact lk
    · show fdAt K (D.faK K f) = _
      rw [faK_eq hd]
      exact fdAt_some lk
    · show FnScope d.N (D.psK f) (defScope d.st)
      rw [psK_eq hd]
      exact scopeB_ok (List.all_eq_true.mp B.scope d (List.mem_of_getElem? hd))
theorem PD.mgOk {h : Heap} {mg : Str → Option Value} (c : D.obs K = D.val w) (X : K.In h) (G : h.Ns mainGlobals mg) : MgOk D.pg (D.gw K) mg D.gl := by
  obtain ⟨r1, r2, r6', r3, r4, r5⟩ := ok_rest (PD.says_ok c)
  refine ⟨fun x f hx => ?_, fun x c hx => ?_, fun x a hx => ?_, fun x hn hb => ?_, fun x d hx => PySem.W.mg_of X G (eqO_ok (r3 _ (PySem.mem_of_lookup hx)))⟩
  · exact PySem.W.mg_of X G (eqO_ok (r3 _ (PySem.mem_of_lookup hx)))
  · exact PySem.W.mg_of X G (eqO_ok (r3 _ (PySem.mem_of_lookup hx)))
  · have := r3 _ (PySem.mem_of_lookup hx)
    unfold PD.glB at this
    simp only at this
    split at this
    · rename_i u q
      obtain ⟨v, h1, h2⟩ := avB_ok (G := D.gw K) rfl a u this
      exact ⟨u, v, PySem.W.mg_of X G q, h1, h2⟩
    · cases this
  · rcases r4 x hb with z | z
    · rw [hn] at z; cases z
    · exact PySem.W.mg_none_of X G z
/-- the script's heap -/
def h0 (ns : List Int) : AH := AH.push .empty (.ro (.lst (ns.map AV.int)))
theorem rvs_ints {G : Gw} {ρ : List Addr} {H : Hp} : ∀ ns : List Int, RVs G ρ H (ns.map AV.int) (ns.map V.int)
  | [] => RVs.nil
  | n :: ns => RVs.cons (by simp) (rvs_ints ns)
theorem rh_h0 {G : Gw} {H : Hp} {a : Addr} {o : Obj} {ns : List Int} (h : H a = some (.frz o (.lst (ns.map V.int)))) : RH G [a] (h0 ns) H := by
  refine ⟨AH.Wf.empty.push _, fun n hn => ?_, rfl, by simp, fun n b u hb hu => ?_⟩
  · have hn' : n < 1 := hn
    obtain rfl : n = 0 := by omega
    exact ⟨_, rfl⟩
  · cases n with
    | zero =>
      cases hb
      cases hu
      exact ⟨_, h, o, _, rfl, _, rfl, rvs_ints ns⟩
    | succ n => cases n <;> cases hb
/-- a law by its interpreter -/
theorem walk_PM {l : PySem.W.OpenLaw} {n dp m L : Nat} {q : Program} {loose : List Str} {XP : (Str → Option Value) → Heap → Prop} {d : DefRec} {dl : PDef}
    (hn : l.most = some n) (hn2 : n ≤ sizeLine) (hdf : d.params.defaults = []) (hr : Room (2 * dp) callerA) (B : D.Bd)
    (hL : D.fns[L]? = some dl) (hgl : D.gl.lookup d.name = some (.fn L)) (hps : dl.ps = [("script" : Str)])
    (hlaw : ∀ ns : List Int, ns.length ≤ n → (∀ z ∈ ns, Builtin.Int.intBits z ≤ 1048576) → ∃ h', callF D.pg dp L [.ref 0] (h0 ns) = .ok (.bl true) h') :
    PySem.W.WalkO q loose XP (D.hook m).says l.row.toRowW d [] (fun f vs => PySem.call f vs) := by
  refine walk_G (x := "script") hn hn2 hdf hr fun w mg fa h Y G hmg => ?_
  obtain ⟨K, KX, c⟩ := Y
  have ok := D.pgOk B c
  have mgk := PD.mgOk c KX G
  obtain ⟨r1, r2, r6', r3, r4, r5⟩ := ok_rest (PD.says_ok c)
  have hf : D.pg.fn L = some (D.fn dl) := by
    show (D.fns[L]?).map D.fn = _
    rw [hL] <;> rfl
  have hfa : (D.gw K).fa L = fa := by
    have e := mgk.fn d.name L hgl
    rw [hmg] at e
    injection e with e
    injection e with e
    exact e.symm
  have hpsL : (D.gw K).ps L = [("script" : Str)] := by
    show D.psK L = _
    rw [psK_eq hL, hps]
  refine ⟨K, (D.gw K).fd L, spF (callF D.pg dp) (D.gw K) L, KX, r5, fun s u => .of_eq ?_, fun H a o ns hl hb hS => ?_, fun base hKb hNs => ?_⟩
  · have := ok.pfn.bind L _ hf [u] (by rw [hpsL] <;> rfl)
    rw [hpsL] at this
    exact this
  · obtain ⟨h', e⟩ := hlaw ns hl hb
    exact ⟨[a], h0 ns, [.ref 0], .bl true, h', rh_h0 hS, RVs.cons (RV_ref.mpr ⟨a, rfl, rfl⟩) RVs.nil, e, fun ρ' H' v _ _ r => RV_bl.mp r⟩
  · have := fnG_all (prog := l.prog) (w := w) (base := base) ok (PD.mgOk (h := base) c hKb hNs) dp L _ hf
    rw [hfa, hpsL] at this
    exact this
end
end PM
end
section
set_option maxHeartbeats 0
-- PySem.Challenge.rw_contraryrolls_k23_readers_named_anew_and
namespace K23
open PySem PySem.W PM L2
def top (i : Nat) : Stmt := PySem.Challenge.pw_contraryrolls_k23_readers_named_anew_and.main.body.getD i (.Pass ⟨0, 0, 0, 0⟩)
def d0 : PDef := ⟨(.glo "is_name"), "is_name", "is_name", (top 12), ["letter"]⟩
def d1 : PDef := ⟨(.glo "number_in"), "number_in", "number_in", (top 13), ["sign"]⟩
def d2 : PDef := ⟨(.glo "words_in"), "words_in", "words_in", (top 14), []⟩
def d3 : PDef := ⟨(.glo "lines_in"), "lines_in", "lines_in", (top 15), []⟩
def d4 : PDef := ⟨(.glo "room_in"), "room_in", "room_in", (top 45), []⟩
def d5 : PDef := ⟨(.glo "boxes_in"), "boxes_in", "boxes_in", (top 46), ["name"]⟩
def d6 : PDef := ⟨(.glo "part_in"), "part_in", "part_in", (top 47), []⟩
def d7 : PDef := ⟨(.glo "kinds_in"), "kinds_in", "kinds_in", (top 48), []⟩
def d8 : PDef := ⟨(.glo "row_in"), "row_in", "row_in", (top 49), ["kind", "word"]⟩
def d9 : PDef := ⟨(.glo "read_reader"), "read_reader", "read_reader", (top 50), ["name"]⟩
def d10 : PDef := ⟨(.glo "coded"), "coded", "coded", (top 51), ["kind", "part"]⟩
def d11 : PDef := ⟨(.meth "Reader" "__init__"), "__init__", "Reader.__init__", (inClass (top 52) 0), ["at", "name", "row"]⟩
def d12 : PDef := ⟨(.prop "Reader" "text"), "text", "Reader.text", (inClass (top 52) 1), []⟩
def d13 : PDef := ⟨(.prop "Reader" "room"), "room", "Reader.room", (inClass (top 52) 2), []⟩
def d14 : PDef := ⟨(.prop "Reader" "boxes"), "boxes", "Reader.boxes", (inClass (top 52) 3), []⟩
def d15 : PDef := ⟨(.prop "Reader" "rows"), "rows", "Reader.rows", (inClass (top 52) 4), []⟩
def d16 : PDef := ⟨(.meth "Reader" "__len__"), "__len__", "Reader.__len__", (inClass (top 52) 5), []⟩
def d17 : PDef := ⟨(.meth "Reader" "__eq__"), "__eq__", "Reader.__eq__", (inClass (top 52) 6), []⟩
def d18 : PDef := ⟨(.glo "reader_of_rows"), "reader_of_rows", "reader_of_rows", (top 55), ["part", "row"]⟩
def d19 : PDef := ⟨(.glo "with_boxes_named"), "with_boxes_named", "with_boxes_named", (top 56), ["kind", "part"]⟩
def d20 : PDef := ⟨(.glo "renamed"), "renamed", "renamed", (top 57), ["name", "new", "old", "row"]⟩
def d21 : PDef := ⟨(.glo "are_pairs"), "are_pairs", "are_pairs", (top 58), ["name", "new", "old"]⟩
def d22 : PDef := ⟨(.glo "named_anew"), "named_anew", "named_anew", (top 59), []⟩
def d23 : PDef := ⟨(.glo "turned"), "turned", "turned", (top 60), []⟩
def d24 : PDef := ⟨(.glo "_law_pot"), "_law_pot", "_law_pot", (top 62), []⟩
def d25 : PDef := ⟨(.glo "_law_take"), "_law_take", "_law_take", (top 63), []⟩
def d26 : PDef := ⟨(.glo "_law_of"), "_law_of", "_law_of", (top 64), []⟩
def d27 : PDef := ⟨(.glo "_law_some"), "_law_some", "_law_some", (top 65), []⟩
def d28 : PDef := ⟨(.glo "_law_cells"), "_law_cells", "_law_cells", (top 66), []⟩
def d29 : PDef := ⟨(.glo "_law_names"), "_law_names", "_law_names", (top 67), ["one", "sign"]⟩
def d30 : PDef := ⟨(.glo "_law_test_row"), "_law_test_row", "_law_test_row", (top 68), []⟩
def d31 : PDef := ⟨(.glo "_law_row"), "_law_row", "_law_row", (top 69), []⟩
def d32 : PDef := ⟨(.glo "_law_walker"), "_law_walker", "_law_walker", (top 70), []⟩
def d33 : PDef := ⟨(.glo "_law_reader"), "_law_reader", "_law_reader", (top 71), ["lap"]⟩
def d34 : PDef := ⟨(.glo "_law_reader_text"), "_law_reader_text", "_law_reader_text", (top 72), ["word"]⟩
def d35 : PDef := ⟨(.glo "_law_words_changed"), "_law_words_changed", "_law_words_changed", (top 73), ["at", "word"]⟩
def d36 : PDef := ⟨(.glo "_law_box_spots"), "_law_box_spots", "_law_box_spots", (top 74), []⟩
def d37 : PDef := ⟨(.glo "_law_is_renamed_right"), "_law_is_renamed_right", "_law_is_renamed_right", (top 75), []⟩
def d38 : PDef := ⟨(.glo "_law_is_named_anew_right"), "_law_is_named_anew_right", "_law_is_named_anew_right", (top 76), []⟩
def d39 : PDef := ⟨(.glo "_law_is_turned_right"), "_law_is_turned_right", "_law_is_turned_right", (top 77), []⟩
def d40 : PDef := ⟨(.glo "_law_right"), "_law_right", "_law_right", (top 78), ["name"]⟩
def d41 : PDef := ⟨(.glo "law"), "law", "law", (top 79), ["lap", "place", "pot"]⟩
def c0 : Str × Cl := ("Reader", { init := some 11, meths := [], props := [(5, 12), (6, 13), (7, 14), (8, 15)], eq := some 17, len := some 16, flds := [0, 1, 2, 3, 4] })
def q0 : KwE := ⟨"renamed", 20, 0, ["names", "reader"], [1, 0]⟩
def q1 : KwE := ⟨"turned", 23, 0, ["reader"], [0]⟩
def q2 : KwE := ⟨"named_anew", 22, 0, ["pairs", "reader"], [1, 0]⟩
def D : PD := ⟨(([d0, d1, d2, d3, d4, d5, d6, d7, d8, d9, d10, d11, d12, d13, d14, d15, d16, d17, d18, d19] : List PDef) ++ ([d20, d21, d22, d23, d24, d25, d26, d27, d28, d29, d30, d31, d32, d33, d34, d35, d36, d37, d38, d39] : List PDef) ++ ([d40, d41] : List PDef)), [c0], ["own_room", "own_boxes", "own_rows", "own_text", "own_codes", "text", "room", "boxes", "rows"], [q0, q1, q2], [⟨"FORMS", ["take", "either", "same", "less", "is", "within", "edge", "mark", "arrow", "set", "put", "up", "go", "let", "refuse"], [(.str [81,66]), (.str [76]), (.str [66,66,76]), (.str [66,66,76]), (.str [66,75,76]), (.str [81,66,76]), (.str [81,66,76]), (.str [78,66,76]), (.str [78,66,66,76]), (.str [66,75]), (.str [66,66]), (.str [66]), (.str [76]), (.str []), (.str [])]⟩], (([gf "is_name" 0, gf "number_in" 1, gf "words_in" 2, gf "lines_in" 3, gf "room_in" 4, gf "boxes_in" 5, gf "part_in" 6, gf "kinds_in" 7, gf "row_in" 8, gf "read_reader" 9, gf "coded" 10, gf "reader_of_rows" 18, gf "with_boxes_named" 19, gf "renamed" 20, gf "are_pairs" 21, gf "named_anew" 22, gf "turned" 23, gf "_law_pot" 24, gf "_law_take" 25, gf "_law_of" 26] : List (PySem.Str × GK)) ++ ([gf "_law_some" 27, gf "_law_cells" 28, gf "_law_names" 29, gf "_law_test_row" 30, gf "_law_row" 31, gf "_law_walker" 32, gf "_law_reader" 33, gf "_law_reader_text" 34, gf "_law_words_changed" 35, gf "_law_box_spots" 36, gf "_law_is_renamed_right" 37, gf "_law_is_named_anew_right" 38, gf "_law_is_turned_right" 39, gf "_law_right" 40, gf "law" 41, gc "Reader" 0, gd "FORMS" 0, gk "LETTERS" (.str [97,98,99,100,101,102,103,104,105,106,107,108,109,110,111,112,113,114,115,116,117,118,119,120,121,122]), gk "DIGITS" (.str [48,49,50,51,52,53,54,55,56,57]), gk "BLANK" (.str [32])] : List (PySem.Str × GK)) ++ ([gk "FEED" (.str [10]), gk "MOST_LETTERS" (.int 8), gk "MOST_DIGITS" (.int 9), gk "ROOM" (.str [114,111,111,109]), gk "BOXES" (.str [98,111,120,101,115]), gk "TAKE" (.str [116,97,107,101]), gk "EITHER" (.str [101,105,116,104,101,114]), gk "SAME" (.str [115,97,109,101]), gk "LESS" (.str [108,101,115,115]), gk "IS" (.str [105,115]), gk "WITHIN" (.str [119,105,116,104,105,110]), gk "EDGE" (.str [101,100,103,101]), gk "MARK" (.str [109,97,114,107]), gk "ARROW" (.str [97,114,114,111,119]), gk "SET" (.str [115,101,116]), gk "PUT" (.str [112,117,116]), gk "UP" (.str [117,112]), gk "GO" (.str [103,111]), gk "LET" (.str [108,101,116]), gk "REFUSE" (.str [114,101,102,117,115,101])] : List (PySem.Str × GK)) ++ ([gk "NAME_PART" (.str [78]), gk "BOX_PART" (.str [66]), gk "WIDTH_PART" (.str [81]), gk "ROW_PART" (.str [76]), gk "ANY_MANY" (.str [42]), gk "MOST_ROOM" (.int 20), gk "MOST_BOXES" (.int 120), gk "MOST_ROWS" (.int 40000), gk "HEAD_LINES" (.int 2), gk "PAIR_readers" (.int 2), gk "PAIR_joins" (.int 2)] : List (PySem.Str × GK)))⟩
end K23

namespace K23
open PySem PySem.W PM L2
theorem b0 : BindOk d0 := fun _ _ _ _ _ _ us hl => match us, hl with | [_], _ => rfl
theorem b1 : BindOk d1 := fun _ _ _ _ _ _ us hl => match us, hl with | [_], _ => rfl
theorem b2 : BindOk d2 := fun _ _ _ _ _ _ us hl => match us, hl with | [_], _ => rfl
theorem b3 : BindOk d3 := fun _ _ _ _ _ _ us hl => match us, hl with | [_], _ => rfl
theorem b4 : BindOk d4 := fun _ _ _ _ _ _ us hl => match us, hl with | [_], _ => rfl
theorem b5 : BindOk d5 := fun _ _ _ _ _ _ us hl => match us, hl with | [_], _ => rfl
theorem b6 : BindOk d6 := fun _ _ _ _ _ _ us hl => match us, hl with | [_, _, _, _, _], _ => rfl
theorem b7 : BindOk d7 := fun _ _ _ _ _ _ us hl => match us, hl with | [_, _], _ => rfl
theorem b8 : BindOk d8 := fun _ _ _ _ _ _ us hl => match us, hl with | [_, _, _, _, _], _ => rfl
theorem b9 : BindOk d9 := fun _ _ _ _ _ _ us hl => match us, hl with | [_, _], _ => rfl
theorem b10 : BindOk d10 := fun _ _ _ _ _ _ us hl => match us, hl with | [_, _, _], _ => rfl
theorem b11 : BindOk d11 := fun _ _ _ _ _ _ us hl => match us, hl with | [_, _], _ => rfl
theorem b12 : BindOk d12 := fun _ _ _ _ _ _ us hl => match us, hl with | [_], _ => rfl
theorem b13 : BindOk d13 := fun _ _ _ _ _ _ us hl => match us, hl with | [_], _ => rfl
theorem b14 : BindOk d14 := fun _ _ _ _ _ _ us hl => match us, hl with | [_], _ => rfl
theorem b15 : BindOk d15 := fun _ _ _ _ _ _ us hl => match us, hl with | [_], _ => rfl
theorem b16 : BindOk d16 := fun _ _ _ _ _ _ us hl => match us, hl with | [_], _ => rfl
theorem b17 : BindOk d17 := fun _ _ _ _ _ _ us hl => match us, hl with | [_, _], _ => rfl
theorem b18 : BindOk d18 := fun _ _ _ _ _ _ us hl => match us, hl with | [_, _, _], _ => rfl
theorem b19 : BindOk d19 := fun _ _ _ _ _ _ us hl => match us, hl with | [_, _], _ => rfl
theorem b20 : BindOk d20 := fun _ _ _ _ _ _ us hl => match us, hl with | [_, _], _ => rfl
theorem b21 : BindOk d21 := fun _ _ _ _ _ _ us hl => match us, hl with | [_], _ => rfl
theorem b22 : BindOk d22 := fun _ _ _ _ _ _ us hl => match us, hl with | [_, _], _ => rfl
theorem b23 : BindOk d23 := fun _ _ _ _ _ _ us hl => match us, hl with | [_], _ => rfl
theorem b24 : BindOk d24 := fun _ _ _ _ _ _ us hl => match us, hl with | [_, _], _ => rfl
theorem b25 : BindOk d25 := fun _ _ _ _ _ _ us hl => match us, hl with | [_, _], _ => rfl
theorem b26 : BindOk d26 := fun _ _ _ _ _ _ us hl => match us, hl with | [_, _], _ => rfl
theorem b27 : BindOk d27 := fun _ _ _ _ _ _ us hl => match us, hl with | [_, _, _], _ => rfl
theorem b28 : BindOk d28 := fun _ _ _ _ _ _ us hl => match us, hl with | [_, _], _ => rfl
theorem b29 : BindOk d29 := fun _ _ _ _ _ _ us hl => match us, hl with | [_, _], _ => rfl
theorem b30 : BindOk d30 := fun _ _ _ _ _ _ us hl => match us, hl with | [_, _, _, _, _], _ => rfl
theorem b31 : BindOk d31 := fun _ _ _ _ _ _ us hl => match us, hl with | [_, _, _, _, _], _ => rfl
theorem b32 : BindOk d32 := fun _ _ _ _ _ _ us hl => match us, hl with | [_, _, _], _ => rfl
theorem b33 : BindOk d33 := fun _ _ _ _ _ _ us hl => match us, hl with | [_, _, _, _, _, _], _ => rfl
theorem b34 : BindOk d34 := fun _ _ _ _ _ _ us hl => match us, hl with | [_], _ => rfl
theorem b35 : BindOk d35 := fun _ _ _ _ _ _ us hl => match us, hl with | [_, _, _], _ => rfl
theorem b36 : BindOk d36 := fun _ _ _ _ _ _ us hl => match us, hl with | [], _ => rfl
theorem b37 : BindOk d37 := fun _ _ _ _ _ _ us hl => match us, hl with | [_, _, _], _ => rfl
theorem b38 : BindOk d38 := fun _ _ _ _ _ _ us hl => match us, hl with | [_, _, _, _], _ => rfl
theorem b39 : BindOk d39 := fun _ _ _ _ _ _ us hl => match us, hl with | [_, _], _ => rfl
theorem b40 : BindOk d40 := fun _ _ _ _ _ _ us hl => match us, hl with | [_], _ => rfl
theorem b41 : BindOk d41 := fun _ _ _ _ _ _ us hl => match us, hl with | [_], _ => rfl
theorem kb0 (kV doc pm : Value) (an : Option Addr) (cdv ct : Value) (us ws : List Value) (h1 : us.length = q0.n) (h2 : ws.length = q0.ks.length) : bindArgs (PySem.W.fnOf d20.name d20.qual (defArgs d20.st) (defBody d20.st) (defScope d20.st) .none kV doc pm an cdv ct) ⟨us, q0.ks.zip ws⟩ = pure (d20.ps.zip (q0.perm.filterMap ((us ++ ws)[·]?))) := match us, h1, ws, h2 with | [], _, [_, _], _ => rfl
theorem kb1 (kV doc pm : Value) (an : Option Addr) (cdv ct : Value) (us ws : List Value) (h1 : us.length = q1.n) (h2 : ws.length = q1.ks.length) : bindArgs (PySem.W.fnOf d23.name d23.qual (defArgs d23.st) (defBody d23.st) (defScope d23.st) .none kV doc pm an cdv ct) ⟨us, q1.ks.zip ws⟩ = pure (d23.ps.zip (q1.perm.filterMap ((us ++ ws)[·]?))) := match us, h1, ws, h2 with | [], _, [_], _ => rfl
theorem kb2 (kV doc pm : Value) (an : Option Addr) (cdv ct : Value) (us ws : List Value) (h1 : us.length = q2.n) (h2 : ws.length = q2.ks.length) : bindArgs (PySem.W.fnOf d22.name d22.qual (defArgs d22.st) (defBody d22.st) (defScope d22.st) .none kV doc pm an cdv ct) ⟨us, q2.ks.zip ws⟩ = pure (d22.ps.zip (q2.perm.filterMap ((us ++ ws)[·]?))) := match us, h1, ws, h2 with | [], _, [_, _], _ => rfl
theorem bd : D.Bd := by
  refine ⟨fun f d h => ?_, fun q hq => ?_, by decide +kernel, by decide +kernel⟩
  · match f, h with
    | 0, h => cases h; exact b0
    | 1, h => cases h; exact b1
    | 2, h => cases h; exact b2
    | 3, h => cases h; exact b3
    | 4, h => cases h; exact b4
    | 5, h => cases h; exact b5
    | 6, h => cases h; exact b6
    | 7, h => cases h; exact b7
    | 8, h => cases h; exact b8
    | 9, h => cases h; exact b9
    | 10, h => cases h; exact b10
    | 11, h => cases h; exact b11
    | 12, h => cases h; exact b12
    | 13, h => cases h; exact b13
    | 14, h => cases h; exact b14
    | 15, h => cases h; exact b15
    | 16, h => cases h; exact b16
    | 17, h => cases h; exact b17
    | 18, h => cases h; exact b18
    | 19, h => cases h; exact b19
    | 20, h => cases h; exact b20
    | 21, h => cases h; exact b21
    | 22, h => cases h; exact b22
    | 23, h => cases h; exact b23
    | 24, h => cases h; exact b24
    | 25, h => cases h; exact b25
    | 26, h => cases h; exact b26
    | 27, h => cases h; exact b27
    | 28, h => cases h; exact b28
    | 29, h => cases h; exact b29
    | 30, h => cases h; exact b30
    | 31, h => cases h; exact b31
    | 32, h => cases h; exact b32
    | 33, h => cases h; exact b33
    | 34, h => cases h; exact b34
    | 35, h => cases h; exact b35
    | 36, h => cases h; exact b36
    | 37, h => cases h; exact b37
    | 38, h => cases h; exact b38
    | 39, h => cases h; exact b39
    | 40, h => cases h; exact b40
    | 41, h => cases h; exact b41
    | n + 42, h => cases h
  · simp only [D, List.mem_cons, List.not_mem_nil, or_false] at hq
    rcases hq with rfl | rfl | rfl
    · exact ⟨d20, rfl, kb0⟩
    · exact ⟨d23, rfl, kb1⟩
    · exact ⟨d22, rfl, kb2⟩
abbrev R : OpenRow := OpenLaw.row PySem.Challenge.rw_contraryrolls_k23_readers_named_anew_and
def ob (s : SharedT) : AlP := D.obsG 5 (HandSHeadRun.getT s)
theorem ob_eq (s : SharedT) : ob s = (D.hook 5).obs s.abs := PD.obsG_eq (HandSHeadRun.getT_eq s)
def names : List PySem.Str := (["RollError", "BadNames", "BadReader", "BadPairs", "LETTERS", "DIGITS", "BLANK", "FEED", "MOST_LETTERS", "MOST_DIGITS", "is_name", "number_in", "words_in", "lines_in", "ROOM", "BOXES", "TAKE", "EITHER", "SAME", "LESS", "IS", "WITHIN", "EDGE", "MARK", "ARROW"] : List PySem.Str) ++ (["SET", "PUT", "UP", "GO", "LET", "REFUSE", "FORMS", "NAME_PART", "BOX_PART", "WIDTH_PART", "ROW_PART", "ANY_MANY", "MOST_ROOM", "MOST_BOXES", "MOST_ROWS", "HEAD_LINES", "PAIR_readers", "room_in", "boxes_in", "part_in", "kinds_in", "row_in", "read_reader", "coded", "Reader"] : List PySem.Str) ++ (["PAIR_joins", "reader_of_rows", "with_boxes_named", "renamed", "are_pairs", "named_anew", "turned", "_law_pot", "_law_take", "_law_of", "_law_some", "_law_cells", "_law_names", "_law_test_row", "_law_row", "_law_walker", "_law_reader", "_law_reader_text", "_law_words_changed", "_law_box_spots", "_law_is_renamed_right", "_law_is_named_anew_right", "_law_is_turned_right", "_law_right"] : List PySem.Str)
theorem run_f (w : World) : HandSHeadRun.RunEq R (view R.prog [79]) (D.hook 5) ob 7800 names (w.withFollow "special-get-raises" false) := by
  intro os
  kernel_rfl
theorem run_t (w : World) : HandSHeadRun.RunEq R (view R.prog [79]) (D.hook 5) ob 7800 names (w.withFollow "special-get-raises" true) := by
  intro os
  kernel_rfl
theorem run (w : World) : HandSHeadRun.RunEq R (view R.prog [79]) (D.hook 5) ob 7800 names w := byRow2 "special-get-raises" (P := fun w => HandSHeadRun.RunEq R (view R.prog [79]) (D.hook 5) ob 7800 names w) run_f run_t w
end K23
end
section
/-! PL1: what the interpreter does, told forward: wp and its rules. -/
namespace PM
open PySem

def wp {α : Type} (m : M α) (Q : α → AH → Prop) (h : AH) : Prop := ∃ a h', m h = .ok a h' ∧ Q a h'
section
variable {α β : Type} {Q : α → AH → Prop} {h : AH}
theorem wp_mk {m : M α} {a : α} {h' : AH} (e : m h = .ok a h') (q : Q a h') : wp m Q h := ⟨a, h', e, q⟩
theorem wp_pure {a : α} (q : Q a h) : wp (pure a) Q h := ⟨a, h, rfl, q⟩
theorem wp_bind {Q : β → AH → Prop} {m : M α} {f : α → M β} (q : wp m (fun a => wp (f a) Q) h) : wp (m >>= f) Q h := by
  obtain ⟨a, h1, e, b, h2, e2, q⟩ := q
  exact ⟨b, h2, by rw [bind_ok e, e2], q⟩
theorem wp_mono {R : α → AH → Prop} {m : M α} (q : wp m Q h) (k : ∀ a h', Q a h' → R a h') : wp m R h := by
  obtain ⟨a, h1, e, q⟩ := q
  exact ⟨a, h1, e, k _ _ q⟩
theorem wp_conj {R : α → AH → Prop} {m : M α} (q : wp m Q h) (r : ∀ a h', m h = .ok a h' → Q a h' → R a h') : wp m R h := by
  obtain ⟨a, h1, e, q⟩ := q
  exact ⟨a, h1, e, r _ _ e q⟩
theorem wp_ofO {o : Option α} {a : α} (q : Q a h) (e : o = some a) : wp (ofO o) Q h := by subst e; exact ⟨a, h, rfl, q⟩
theorem wp_ofO' {o : Option α} {a : α} (e : o = some a) (q : Q a h) : wp (ofO o) Q h := by subst e; exact ⟨a, h, rfl, q⟩
theorem wp_guard {Q : Unit → AH → Prop} {b : Bool} (q : Q () h) (e : b = true) : wp (guardM b) Q h := by subst e; exact ⟨(), h, rfl, q⟩
theorem wp_new {Q : AV → AH → Prop} {o : AObj} (q : Q (.ref h.n) (h.push o)) : wp (newO o) Q h := ⟨_, _, rfl, q⟩
theorem wp_setO {Q : Unit → AH → Prop} {p : Nat} {o : AObj} (q : Q () (h.set p o)) : wp (setO p o) Q h := ⟨_, _, rfl, q⟩
theorem wp_heap {Q : AH → AH → Prop} (q : Q h h) : wp heapM Q h := ⟨_, _, rfl, q⟩
theorem wp_getO {Q : AObj → AH → Prop} {p : Nat} {o : AObj} (e : h.get p = some o) (q : Q o h) : wp (getO p) Q h := ⟨o, h, by unfold getO; rw [e], q⟩
theorem wp_if {m m' : M α} {b : Bool} (t : b = true → wp m Q h) (f : b = false → wp m' Q h) : wp (if b = true then m else m') Q h := by
  cases b with
  | true => exact t rfl
  | false => simpa using f rfl
theorem wp_if_t {m m' : M α} {b : Bool} (e : b = true) (t : wp m Q h) : wp (if b = true then m else m') Q h := by subst e; exact t
theorem wp_if_f {m m' : M α} {b : Bool} (e : b = false) (t : wp m' Q h) : wp (if b = true then m else m') Q h := by subst e; simpa using t
end

/-! ### frames -/
/-- all is kept but what lies at b - 1 -/
structure Kp (b : Nat) (h h' : AH) : Prop where
  le : h.n ≤ h'.n
  keep : ∀ r, r + 1 ≠ b → r < h.n → h'.get r = h.get r
abbrev Kx := Kp 0
structure At (b : Nat) (h : AH) (r : Nat) (o : AObj) : Prop where
  lo : b ≤ r
  lt : r < h.n
  get : h.get r = some o
theorem Kp.refl (b : Nat) (h : AH) : Kp b h h := ⟨Nat.le_refl _, fun _ _ _ => rfl⟩
theorem Kp.trans {b : Nat} {h h1 h2 : AH} (a : Kp b h h1) (c : Kp b h1 h2) : Kp b h h2 := ⟨Nat.le_trans a.le c.le, fun r x y => by rw [c.keep r x (Nat.lt_of_lt_of_le y a.le), a.keep r x y]⟩
theorem Kx.kp {b : Nat} {h h' : AH} (a : Kx h h') : Kp b h h' := ⟨a.le, fun r _ y => a.keep r (Nat.succ_ne_zero _) y⟩
theorem Kp.push {b : Nat} {h h1 : AH} (a : Kp b h h1) (o : AObj) : Kp b h (h1.push o) := ⟨Nat.le_succ_of_le a.le, fun r x y => by rw [AH.get_push, if_neg (by have := a.le; omega)]; exact a.keep r x y⟩
theorem Kp.set {b : Nat} {h h1 : AH} (a : Kp b h h1) {p : Nat} (o : AObj) (l : h.n ≤ p) : Kp b h (h1.set p o) := ⟨a.le, fun r x y => by rw [AH.get_set, if_neg (by omega)]; exact a.keep r x y⟩
theorem Kp.set_at {h h1 : AH} {p : Nat} (a : Kp (p + 1) h h1) (o : AObj) : Kp (p + 1) h (h1.set p o) := ⟨a.le, fun r x y => by rw [AH.get_set, if_neg (by omega)]; exact a.keep r x y⟩
theorem Kp.new {h h1 h2 : AH} {p : Nat} (a : Kx h h1) (l : h.n ≤ p) (c : Kp (p + 1) h1 h2) : Kx h h2 := ⟨Nat.le_trans a.le c.le, fun r x y => by rw [c.keep r (by omega) (Nat.lt_of_lt_of_le y a.le), a.keep r x y]⟩
theorem At.kp {b c : Nat} {h h' : AH} {r : Nat} {o : AObj} (k : Kp c h h') (a : At b h r o) (l : c ≤ b) : At b h' r o := ⟨a.lo, Nat.lt_of_lt_of_le a.lt k.le, by rw [k.keep r (by have := a.lo; omega) a.lt]; exact a.get⟩
theorem At.push {b : Nat} {h : AH} {r : Nat} {o : AObj} (a : At b h r o) (u : AObj) : At b (h.push u) r o := ⟨a.lo, Nat.lt_succ_of_lt a.lt, by rw [AH.get_push, if_neg (Nat.ne_of_lt a.lt)]; exact a.get⟩
theorem At.new {b : Nat} {h : AH} (o : AObj) (l : b ≤ h.n) : At b (h.push o) h.n o := ⟨l, Nat.lt_succ_self _, by rw [AH.get_push, if_pos rfl]⟩
theorem At.set {b : Nat} {h : AH} {r : Nat} {o : AObj} (a : At b h r o) (u : AObj) : At b (h.set r u) r u := ⟨a.lo, a.lt, by rw [AH.get_set, if_pos rfl]⟩
theorem At.set_ne {b : Nat} {h : AH} {r p : Nat} {o : AObj} (a : At b h r o) (u : AObj) (l : r ≠ p) : At b (h.set p u) r o := ⟨a.lo, a.lt, by rw [AH.get_set, if_neg l]; exact a.get⟩
theorem At.weak {b c : Nat} {h : AH} {r : Nat} {o : AObj} (a : At b h r o) (l : c ≤ b) : At c h r o := ⟨Nat.le_trans l a.lo, a.lt, a.get⟩
theorem At.inj {b c : Nat} {h : AH} {r : Nat} {o u : AObj} (a : At b h r o) (a' : At c h r u) : o = u := Option.some.inj (a.get.symm.trans a'.get)

/-! ### lists, dicts -/
section
variable {h : AH}
theorem wp_lstO {Q : List AV → AH → Prop} {b p : Nat} {xs : List AV} (q : Q xs h) (a : At b h p (.lst xs)) : wp (lstO p) Q h := ⟨xs, h, by unfold lstO; rw [a.get], q⟩
theorem wp_seqO {Q : List AV → AH → Prop} {b p : Nat} {xs : List AV} (q : Q xs h) (a : At b h p (.lst xs)) : wp (seqO p) Q h := ⟨xs, h, by unfold seqO; rw [a.get], q⟩
theorem wp_lstO_ro {Q : List AV → AH → Prop} {b p : Nat} {xs : List AV} (q : Q xs h) (a : At b h p (.ro (.lst xs))) : wp (lstO p) Q h := ⟨xs, h, by unfold lstO; rw [a.get], q⟩
theorem wp_lstW {Q : List AV → AH → Prop} {b p : Nat} {xs : List AV} (q : Q xs h) (a : At b h p (.lst xs)) : wp (lstW p) Q h := ⟨xs, h, by unfold lstW; rw [a.get], q⟩
theorem wp_getA {Q : AObj → AH → Prop} {b p : Nat} {o : AObj} (q : Q o h) (a : At b h p o) : wp (getO p) Q h := wp_getO a.get q
theorem wp_insO {Q : Nat × List (Nat × AV) → AH → Prop} {b p c : Nat} {fs : List (Nat × AV)} (q : Q (c, fs) h) (a : At b h p (.ins c fs)) : wp (insO p) Q h := ⟨(c, fs), h, by unfold insO; rw [a.get], q⟩
theorem wp_tmpO {Q : Unit → AH → Prop} {b p : Nat} (q : Q () h) (a : At b h p .tmp) : wp (tmpO p) Q h := ⟨(), h, by unfold tmpO; rw [a.get], q⟩
theorem wp_dicO {Q : List (AV × AV) → AH → Prop} {b p : Nat} {kvs : List (AV × AV)} (q : Q kvs h) (a : At b h p (.dic kvs)) : wp (dicO p) Q h := ⟨kvs, h, by unfold dicO; rw [a.get], q⟩
theorem wp_dicR {Q : List (AV × AV) → AH → Prop} {b p : Nat} {k : AV} {kvs : List (AV × AV)} (q : Q kvs h) (a : At b h p (.dic kvs)) (e : keyOk kvs k = true) : wp (dicR p k) Q h := ⟨kvs, h, by unfold dicR; rw [a.get]; simp only [e, if_true], q⟩
end

/-! ### expressions -/
section
variable {P : Pg} {cf : CF} {σ : Loc} {Q : AV → AH → Prop} {h : AH}
theorem wE_v {i : Nat} {x : AV} (e : σ.getD i none = some x) (q : Q x h) : wp (evE P cf (.v i) σ) Q h := by
  simp only [evE]; exact wp_ofO q e
theorem wE_k {a : AV} (q : Q a h) : wp (evE P cf (.k a) σ) Q h := by
  simp only [evE]; exact wp_pure q
theorem wE_bin {op : Operator} {a b : E} (q : wp (evE P cf a σ) (fun x => wp (evE P cf b σ) (fun y => wp (binA op x y) Q)) h) : wp (evE P cf (.bin op a b) σ) Q h := by
  simp only [evE]; exact wp_bind (wp_mono q fun _ _ q => wp_bind q)
theorem wE_neg {a : E} (q : wp (evE P cf a σ) (fun x h => ∃ i, x = .int i ∧ Q (.int (-i)) h) h) : wp (evE P cf (.neg a) σ) Q h := by
  simp only [evE]; exact wp_bind (wp_mono q fun _ _ ⟨i, e, q⟩ => by subst e; exact wp_pure q)
theorem wE_not {a : E} (q : wp (evE P cf a σ) (fun x => wp (truM P cf x) (fun b => Q (.bl (!b)))) h) : wp (evE P cf (.not a) σ) Q h := by
  simp only [evE]; exact wp_bind (wp_mono q fun _ _ q => wp_bind (wp_mono q fun _ _ q => wp_pure q))
theorem wE_and {a b : E} (q : wp (evE P cf a σ) (fun x => wp (truM P cf x) (fun r => wp (if r = true then evE P cf b σ else pure x) Q)) h) : wp (evE P cf (.and a b) σ) Q h := by
  simp only [evE]; exact wp_bind (wp_mono q fun _ _ q => wp_bind q)
theorem wE_or {a b : E} (q : wp (evE P cf a σ) (fun x => wp (truM P cf x) (fun r => wp (if r = true then pure x else evE P cf b σ) Q)) h) : wp (evE P cf (.or a b) σ) Q h := by
  simp only [evE]; exact wp_bind (wp_mono q fun _ _ q => wp_bind q)
theorem wE_ite {t a b : E} (q : wp (evT P cf t σ) (fun r => wp (if r = true then evE P cf a σ else evE P cf b σ) Q) h) : wp (evE P cf (.ite t a b) σ) Q h := by
  simp only [evE]; exact wp_bind q
theorem wE_cmp {op : CmpOp} {a b : E} (q : wp (evE P cf a σ) (fun x => wp (evE P cf b σ) (fun y => wp (cmpA P cf op x y) (fun r => Q (.bl r)))) h) : wp (evE P cf (.cmp op a b) σ) Q h := by
  simp only [evE]; exact wp_bind (wp_mono q fun _ _ q => wp_bind (wp_mono q fun _ _ q => wp_bind (wp_mono q fun _ _ q => wp_pure q)))
theorem wE_chain {op op' : CmpOp} {a b c : E} (q : wp (evE P cf a σ) (fun x => wp (evE P cf b σ) (fun y => wp (cmpA P cf op x y) (fun r => wp (if r = true then evE P cf c σ >>= fun z => cmpA P cf op' y z else pure false) (fun r => Q (.bl r))))) h) : wp (evE P cf (.chain op op' a b c) σ) Q h := by
  simp only [evE]
  refine wp_bind (wp_mono q fun x _ q => wp_bind (wp_mono q fun y _ q => wp_bind (wp_mono q fun r _ q => ?_)))
  cases r with
  | false => obtain ⟨_, _, e, q⟩ := q; cases e; exact wp_pure q
  | true => 
    obtain ⟨_, _, e, q⟩ := q
    obtain ⟨z, h1, e1, e⟩ := bind_inv e
    exact ⟨_, _, by simp only [if_true]; rw [bind_ok e1, bind_ok e]; rfl, q⟩
theorem wE_call {f : Nat} {as : E} (q : wp (evA P cf as σ) (fun vs => wp (cf f vs) Q) h) : wp (evE P cf (.call f as) σ) Q h := by
  simp only [evE]; exact wp_bind q
theorem wE_callK {f : Nat} {perm : List Nat} {as ks : E} (q : wp (evA P cf as σ) (fun us => wp (evA P cf ks σ) (fun ws => wp (ofO (mapO (fun i => (us ++ ws)[i]?) perm)) (fun zs => wp (cf f zs) Q))) h) : wp (evE P cf (.callK f perm as ks) σ) Q h := by
  simp only [evE]; exact wp_bind (wp_mono q fun _ _ q => wp_bind (wp_mono q fun _ _ q => wp_bind q))
theorem wE_new {c f : Nat} {cl : Cl} {as : E} (hc : P.cl c = some cl) (hf : cl.init = some f) (q : wp (evA P cf as σ) (fun vs h => wp (cf f (.ref h.n :: vs)) (fun v h' => v = .non ∧ Q (.ref h.n) h') (h.push (.ins c []))) h) : wp (evE P cf (.new c as) σ) Q h := by
  simp only [evE]
  refine wp_bind (wp_mono q fun vs h1 q => wp_bind (wp_ofO (wp_bind (wp_ofO (wp_bind (wp_new (wp_bind (wp_mono q fun v h2 q => ?_)))) hf)) hc))
  obtain ⟨e, q⟩ := q
  subst e
  exact wp_pure q
theorem wE_newK {c f : Nat} {cl : Cl} {perm : List Nat} {as ks : E} (hc : P.cl c = some cl) (hf : cl.init = some f) (q : wp (evA P cf as σ) (fun us => wp (evA P cf ks σ) (fun ws h => wp (ofO (mapO (fun i => (.ref h.n :: us ++ ws)[i]?) perm)) (fun zs => wp (cf f zs) (fun v h' => v = .non ∧ Q (.ref h.n) h')) (h.push (.ins c [])))) h) : wp (evE P cf (.newK c f perm as ks) σ) Q h := by
  simp only [evE]
  refine wp_bind (wp_mono q fun us h1 q => wp_bind (wp_mono q fun ws h1 q => wp_bind (wp_ofO (wp_bind (wp_guard (wp_bind (wp_new (wp_bind (wp_mono q fun zs h2 q => wp_bind (wp_mono q fun v h3 q => ?_))))) (by simp [hf]))) hc)))
  obtain ⟨e, q⟩ := q
  subst e
  exact wp_pure q
theorem wE_blt {b : B} {as : E} (q : wp (evA P cf as σ) (fun vs => wp (bltB P cf b vs) Q) h) : wp (evE P cf (.blt b as) σ) Q h := by
  simp only [evE]; exact wp_bind q
/-- a method: of an own instance or of a built-in type -/
def methK (P : Pg) (cf : CF) (m : Nat) (args : E) (σ : Loc) (x : AV) : M AV := fun h => match ownM P m x h with
  | some f => (evA P cf args σ >>= fun vs => cf f (x :: vs)) h
  | none => (ofO (recv h x) >>= fun t => evA P cf args σ >>= fun vs => bMeth m t x vs) h
theorem wE_meth {o : E} {m : Nat} {as : E} (q : wp (evE P cf o σ) (fun x => wp (methK P cf m as σ x) Q) h) : wp (evE P cf (.meth o m as) σ) Q h := by
  simp only [evE]
  refine wp_bind (wp_mono q fun x h1 q => wp_bind (wp_heap ?_))
  obtain ⟨v, h2, e, q⟩ := q
  refine ⟨v, h2, ?_, q⟩
  unfold methK at e
  cases w : ownM P m x h1 <;> simp only [w] at e ⊢ <;> exact e
theorem wM_own {m f : Nat} {x : AV} {as : E} (e : ownM P m x h = some f) (q : wp (evA P cf as σ) (fun vs => wp (cf f (x :: vs)) Q) h) : wp (methK P cf m as σ x) Q h := by
  obtain ⟨v, h2, e', q⟩ := wp_bind q
  exact ⟨v, h2, by unfold methK; simp only [e]; exact e', q⟩
theorem wM_blt {m : Nat} {x : AV} {as : E} {t : RT} (e : ownM P m x h = none) (r : recv h x = some t) (q : wp (evA P cf as σ) (fun vs => wp (bMeth m t x vs) Q) h) : wp (methK P cf m as σ x) Q h := by
  obtain ⟨v, h2, e', q⟩ := wp_bind q
  exact ⟨v, h2, by unfold methK; simp only [e, r]; exact e', q⟩
theorem wM_str {m : Nat} {x : List Nat} {as : E} (q : wp (evA P cf as σ) (fun vs => wp (bMeth m .str (.str x) vs) Q) h) : wp (methK P cf m as σ (.str x)) Q h := wM_blt rfl rfl q
theorem wM_lst {m b p : Nat} {xs : List AV} {as : E} (q : wp (evA P cf as σ) (fun vs => wp (bMeth m .lst (.ref p) vs) Q) h) (a : At b h p (.lst xs)) : wp (methK P cf m as σ (.ref p)) Q h := wM_blt (by simp [ownM, a.get]) (by simp [recv, a.get]) q
theorem wM_dic {m b p : Nat} {xs : List (AV × AV)} {as : E} (q : wp (evA P cf as σ) (fun vs => wp (bMeth m .dic (.ref p) vs) Q) h) (a : At b h p (.dic xs)) : wp (methK P cf m as σ (.ref p)) Q h := wM_blt (by simp [ownM, a.get]) (by simp [recv, a.get]) q
theorem wE_attr {o : E} {f : Nat} (q : wp (evE P cf o σ) (fun x => wp (getAt P cf x f) Q) h) : wp (evE P cf (.attr o f) σ) Q h := by
  simp only [evE]; exact wp_bind q
theorem wE_ix {o i : E} (q : wp (evE P cf o σ) (fun x => wp (evE P cf i σ) (fun y => wp (ixA P x y) Q)) h) : wp (evE P cf (.ix o i) σ) Q h := by
  simp only [evE]; exact wp_bind (wp_mono q fun _ _ q => wp_bind q)
theorem wE_sl {o lo hi : E} (q : wp (evE P cf o σ) (fun x => wp (evP P cf lo σ) (fun a => wp (evP P cf hi σ) (fun b => wp (slA x a b) Q))) h) : wp (evE P cf (.sl o lo hi) σ) Q h := by
  simp only [evE]; exact wp_bind (wp_mono q fun _ _ q => wp_bind (wp_mono q fun _ _ q => wp_bind q))
theorem wE_lst {es : E} (q : wp (evA P cf es σ) (fun vs h => (Q (.ref h.n) (h.push (.lst vs))) ∧ vs.length ≤ 16777216) h) : wp (evE P cf (.lst es) σ) Q h := by
  simp only [evE]; exact wp_bind (wp_mono q fun _ _ ⟨q, l⟩ => wp_bind (wp_guard (wp_new q) (by simpa [sizeLineB] using l)))
theorem wE_tup {es : E} (q : wp (evA P cf es σ) (fun vs h => (Q (.tup vs) h) ∧ vs.length ≤ 16777216) h) : wp (evE P cf (.tup es) σ) Q h := by
  simp only [evE]; exact wp_bind (wp_mono q fun _ _ ⟨q, l⟩ => wp_bind (wp_guard (wp_pure q) (by simpa [sizeLineB] using l)))
theorem wE_dic {kvs : E} (q : wp (evA P cf kvs σ) (fun vs h1 => ∃ ps b, (Q (.ref h.n) (h1.set h.n (.dic (putAll [] ps)))) ∧ pairUp vs = some ps ∧ At b h1 h.n .tmp ∧ ps.all (fun kv => keyF kv.1) = true ∧ ps.length ≤ 15) (h.push .tmp)) : wp (evE P cf (.dic kvs) σ) Q h := by
  simp only [evE]
  refine wp_bind (wp_new (wp_bind (wp_mono q fun vs h1 q => ?_)))
  obtain ⟨ps, b, q, e, a, k, l⟩ := q
  refine wp_bind (wp_ofO (wp_bind (wp_guard ?_ (by simp [k, l]))) e)
  exact wp_bind (wp_tmpO (wp_bind (wp_setO (wp_pure q))) a)
theorem wE_lc {elt tg it test : E} {ik : IK} {own : List Nat} (q : wp (evA P cf it σ) (fun vs => wp (srcK ik vs) (fun src h => wp (lcLoop src h.n (fun x => do
        let σ' ← asgT P cf tg x (wipe σ own)
        let r ← evT P cf test σ'
        if r then do
          let y ← evE P cf elt σ'
          pure (some y)
        else pure none) (src.most h) 0) Q (h.push (.lst [])))) h) : wp (evE P cf (.lc elt tg ik it test own) σ) Q h := by
  simp only [evE]
  exact wp_bind (wp_mono q fun _ _ q => wp_bind (wp_mono q fun _ _ q => wp_bind (wp_heap (wp_bind (wp_new q)))))
end
section
variable {P : Pg} {cf : CF} {σ : Loc} {Q : List AV → AH → Prop} {h : AH}
theorem wA_nil (q : Q [] h) : wp (evA P cf .nil σ) Q h := by simp only [evA]; exact wp_pure q
theorem wA_cons {e es : E} (q : wp (evE P cf e σ) (fun x => wp (evA P cf es σ) (fun xs => Q (x :: xs))) h) : wp (evA P cf (.cons e es) σ) Q h := by
  simp only [evA]; exact wp_bind (wp_mono q fun _ _ q => wp_bind (wp_mono q fun _ _ q => wp_pure q))
theorem wA_star {e es : E} (q : wp (evE P cf e σ) (fun x => wp (unpackA x) (fun ys => wp (evA P cf es σ) (fun xs => Q (ys ++ xs)))) h) : wp (evA P cf (.star e es) σ) Q h := by
  simp only [evA]; exact wp_bind (wp_mono q fun _ _ q => wp_bind (wp_mono q fun _ _ q => wp_bind (wp_mono q fun _ _ q => wp_pure q)))
end
section
variable {P : Pg} {cf : CF} {σ : Loc} {Q : Bool → AH → Prop} {h : AH}
theorem wT_not {a : E} (q : wp (evT P cf a σ) (fun b => Q (!b)) h) : wp (evT P cf (.not a) σ) Q h := by
  simp only [evT]; exact wp_bind (wp_mono q fun _ _ q => wp_pure q)
theorem wT_and {a b : E} (q : wp (evT P cf a σ) (fun r => wp (if r = true then evT P cf b σ else pure false) Q) h) : wp (evT P cf (.and a b) σ) Q h := by
  simp only [evT]; exact wp_bind q
theorem wT_or {a b : E} (q : wp (evT P cf a σ) (fun r => wp (if r = true then pure true else evT P cf b σ) Q) h) : wp (evT P cf (.or a b) σ) Q h := by
  simp only [evT]; exact wp_bind q
theorem wT_ite {t a b : E} (q : wp (evT P cf t σ) (fun r => wp (if r = true then evT P cf a σ else evT P cf b σ) Q) h) : wp (evT P cf (.ite t a b) σ) Q h := by
  simp only [evT]; exact wp_bind q
theorem wT_cmp {op : CmpOp} {a b : E} (q : wp (evE P cf a σ) (fun x => wp (evE P cf b σ) (fun y => wp (cmpA P cf op x y) Q)) h) : wp (evT P cf (.cmp op a b) σ) Q h := by
  simp only [evT]; exact wp_bind (wp_mono q fun _ _ q => wp_bind q)
theorem wT_chain {op op' : CmpOp} {a b c : E} (q : wp (evE P cf a σ) (fun x => wp (evE P cf b σ) (fun y => wp (cmpA P cf op x y) (fun r => wp (if r = true then evE P cf c σ >>= fun z => cmpA P cf op' y z else pure false) Q))) h) : wp (evT P cf (.chain op op' a b c) σ) Q h := by
  simp only [evT]
  exact wp_bind (wp_mono q fun x _ q => wp_bind (wp_mono q fun y _ q => wp_bind (wp_mono q fun r _ q => q)))
theorem wT_no (q : Q true h) : wp (evT P cf .no σ) Q h := by simp only [evT]; exact wp_pure q
theorem wT_v {i : Nat} {x : AV} (e : σ.getD i none = some x) (q : wp (truM P cf x) Q h) : wp (evT P cf (.v i) σ) Q h := by
  simp only [evT]; exact wp_bind (wp_ofO q e)
theorem wT_call {f : Nat} {as : E} (q : wp (evA P cf as σ) (fun vs => wp (cf f vs) (fun x => wp (truM P cf x) Q)) h) : wp (evT P cf (.call f as) σ) Q h := by
  simp only [evT]; exact wp_bind (wp_mono q fun _ _ q => wp_bind q)
theorem wT_blt {b : B} {as : E} (q : wp (evA P cf as σ) (fun vs => wp (bltB P cf b vs) (fun x => wp (truM P cf x) Q)) h) : wp (evT P cf (.blt b as) σ) Q h := by
  simp only [evT]; exact wp_bind (wp_mono q fun _ _ q => wp_bind q)
theorem wT_meth {o : E} {m : Nat} {as : E} (q : wp (evE P cf o σ) (fun x => wp (methK P cf m as σ x) (fun x => wp (truM P cf x) Q)) h) : wp (evT P cf (.meth o m as) σ) Q h := by
  simp only [evT]
  refine wp_bind (wp_mono q fun x h1 q => wp_bind (wp_heap ?_))
  obtain ⟨v, h2, e, q⟩ := q
  unfold methK at e
  cases w : ownM P m x h1 <;> simp only [w] at e ⊢
  · obtain ⟨a, h3, e1, e⟩ := bind_inv e
    obtain ⟨a', h4, e2, e⟩ := bind_inv e
    exact wp_bind ⟨a, h3, e1, wp_bind ⟨a', h4, e2, wp_bind ⟨v, h2, e, q⟩⟩⟩
  · obtain ⟨a, h3, e1, e⟩ := bind_inv e
    exact wp_bind ⟨a, h3, e1, wp_bind ⟨v, h2, e, q⟩⟩
theorem wT_attr {o : E} {f : Nat} (q : wp (evE P cf o σ) (fun x => wp (getAt P cf x f) (fun x => wp (truM P cf x) Q)) h) : wp (evT P cf (.attr o f) σ) Q h := by
  simp only [evT]; exact wp_bind (wp_mono q fun _ _ q => wp_bind q)
theorem wT_ix {o i : E} (q : wp (evE P cf o σ) (fun x => wp (evE P cf i σ) (fun y => wp (ixA P x y) (fun x => wp (truM P cf x) Q))) h) : wp (evT P cf (.ix o i) σ) Q h := by
  simp only [evT]; exact wp_bind (wp_mono q fun _ _ q => wp_bind (wp_mono q fun _ _ q => wp_bind q))
theorem w_tru {a : AV} {b : Bool} (e : truA h a = some b) (q : Q b h) : wp (truM P cf a) Q h := ⟨b, h, by unfold truM; rw [e], q⟩
theorem w_tru_bl {b : Bool} (q : Q b h) : wp (truM P cf (.bl b)) Q h := w_tru rfl q
end
section
variable {P : Pg} {cf : CF} {σ : Loc} {Q : Option Int → AH → Prop} {h : AH}
theorem wP_no (q : Q none h) : wp (evP P cf .no σ) Q h := by simp only [evP]; exact wp_pure q
theorem wP_k {i : Int} (q : Q (some i) h) : wp (evP P cf (.k (.int i)) σ) Q h := by simp only [evP]; exact wp_pure q
theorem wP_v {i : Nat} {n : Int} (e : σ.getD i none = some (.int n)) (q : Q (some n) h) : wp (evP P cf (.v i) σ) Q h := by
  have q' : wp (optI (.int n)) Q h := wp_pure q
  simp only [evP]; exact wp_bind (wp_ofO q' e)
theorem wP_neg {a : E} (q : wp (evE P cf a σ) (fun x h => ∃ i, x = .int i ∧ Q (some (-i)) h) h) : wp (evP P cf (.neg a) σ) Q h := by
  simp only [evP]; exact wp_bind (wp_mono q fun _ _ ⟨i, e, q⟩ => by subst e; exact wp_pure q)
theorem wP_bin {op : Operator} {a b : E} (q : wp (evE P cf a σ) (fun x => wp (evE P cf b σ) (fun y => wp (binA op x y) (fun z h => ∃ i, z = .int i ∧ Q (some i) h))) h) : wp (evP P cf (.bin op a b) σ) Q h := by
  simp only [evP]
  exact wp_bind (wp_mono q fun _ _ q => wp_bind (wp_mono q fun _ _ q => wp_bind (wp_mono q fun _ _ ⟨i, e, q⟩ => by subst e; exact wp_pure q)))
end
section
variable {P : Pg} {cf : CF} {σ : Loc} {Q : Loc → AH → Prop} {h : AH}
theorem wG_v {i : Nat} {x : AV} (q : Q (σ.set i (some x)) h) : wp (asgT P cf (.v i) x σ) Q h := by simp only [asgT]; exact wp_pure q
theorem wG_tup {es : E} {x : AV} (q : wp (unpackA x) (fun xs => wp (asgTs P cf es xs σ) Q) h) : wp (asgT P cf (.tup es) x σ) Q h := by simp only [asgT]; exact wp_bind q
theorem wG_attr {o : E} {f : Nat} {x : AV} (q : wp (evE P cf o σ) (fun y => wp (setAt P y f x) (fun _ => Q σ)) h) : wp (asgT P cf (.attr o f) x σ) Q h := by
  simp only [asgT]; exact wp_bind (wp_mono q fun _ _ q => wp_bind (wp_mono q fun _ _ q => wp_pure q))
theorem wG_ix {o i : E} {x : AV} (q : wp (evE P cf o σ) (fun y => wp (evE P cf i σ) (fun z => wp (setIx y z x) (fun _ => Q σ))) h) : wp (asgT P cf (.ix o i) x σ) Q h := by
  simp only [asgT]; exact wp_bind (wp_mono q fun _ _ q => wp_bind (wp_mono q fun _ _ q => wp_bind (wp_mono q fun _ _ q => wp_pure q)))
theorem wGs_nil (q : Q σ h) : wp (asgTs P cf .nil [] σ) Q h := by simp only [asgTs]; exact wp_pure q
theorem wGs_cons {t ts : E} {x : AV} {xs : List AV} (q : wp (asgT P cf t x σ) (fun σ' => wp (asgTs P cf ts xs σ') Q) h) : wp (asgTs P cf (.cons t ts) (x :: xs) σ) Q h := by simp only [asgTs]; exact wp_bind q
theorem wU_tup {Q : List AV → AH → Prop} {xs : List AV} (q : Q xs h) : wp (unpackA (.tup xs)) Q h := wp_pure q
theorem wU_lst {Q : List AV → AH → Prop} {b p : Nat} {xs : List AV} (q : Q xs h) (a : At b h p (.lst xs)) : wp (unpackA (.ref p)) Q h := wp_lstO q a
end

/-! ### operators -/
section
variable {P : Pg} {cf : CF} {Q : AV → AH → Prop} {h : AH}
theorem wB_add {i j : Int} (q : Q (.int (i + j)) h) : wp (binA .Add (.int i) (.int j)) Q h := wp_pure q
theorem wB_adds {x y : List Nat} (q : Q (.str (x ++ y)) h) (g : x.length + y.length ≤ 16777216) : wp (binA .Add (.str x) (.str y)) Q h := wp_bind (wp_guard (wp_pure q) (by simpa [sizeLineB] using g))
theorem wB_addt {x y : List AV} (q : Q (.tup (x ++ y)) h) (g : x.length + y.length ≤ 16777216) : wp (binA .Add (.tup x) (.tup y)) Q h := wp_bind (wp_guard (wp_pure q) (by simpa [sizeLineB] using g))
theorem wB_addl {b c p r : Nat} {x y : List AV} (q : Q (.ref h.n) (h.push (.lst (x ++ y)))) (a : At b h p (.lst x)) (a' : At c h r (.lst y)) (g : x.length + y.length ≤ 16777216) : wp (binA .Add (.ref p) (.ref r)) Q h :=
  wp_bind (wp_lstW (wp_bind (wp_lstW (wp_bind (wp_guard (wp_new q) (by simpa [sizeLineB] using g))) a')) a)
theorem wB_sub {i j : Int} (q : Q (.int (i - j)) h) : wp (binA .Sub (.int i) (.int j)) Q h := wp_pure q
theorem wB_mul {i j : Int} (q : Q (.int (i * j)) h) (g : (Builtin.Int.intBits i : Int) + (Builtin.Int.intBits j : Int) ≤ 134217728) : wp (binA .Mult (.int i) (.int j)) Q h := wp_bind (wp_guard (wp_pure q) (by simpa using g))
theorem wB_div {i j : Int} (q : Q (.int (i / j)) h) (g : 0 < j ∧ j.natAbs.log2 < 9000) : wp (binA .FloorDiv (.int i) (.int j)) Q h := wp_bind (wp_guard (wp_pure q) (by simpa using g))
theorem wB_mod {i j : Int} (q : Q (.int (i % j)) h) (g : 0 < j) : wp (binA .Mod (.int i) (.int j)) Q h := wp_bind (wp_guard (wp_pure q) (by simpa using g))
theorem wB_pow {i j : Int} (q : Q (.int (i ^ j.toNat)) h) (g : 0 ≤ j ∧ (Builtin.Int.intBits i : Int) * j ≤ 134217728) : wp (binA .Pow (.int i) (.int j)) Q h := wp_bind (wp_guard (wp_pure q) (by simpa using g))
end
section
variable {P : Pg} {cf : CF} {Q : Bool → AH → Prop} {h : AH}
theorem wC_lt {i j : Int} (q : Q (decide (i < j)) h) : wp (cmpA P cf .Lt (.int i) (.int j)) Q h := wp_pure q
theorem wC_le {i j : Int} (q : Q (decide (i ≤ j)) h) : wp (cmpA P cf .LtE (.int i) (.int j)) Q h := wp_pure q
theorem wC_gt {i j : Int} (q : Q (decide (j < i)) h) : wp (cmpA P cf .Gt (.int i) (.int j)) Q h := wp_pure q
theorem wC_ge {i j : Int} (q : Q (decide (j ≤ i)) h) : wp (cmpA P cf .GtE (.int i) (.int j)) Q h := wp_pure q
theorem wp_eqM {a b : AV} {r : Bool} (e : eqA h a b = some r) (q : Q r h) : wp (eqM a b) Q h := ⟨r, h, by unfold eqM; rw [e], q⟩
theorem wC_eqA {a b : AV} {r : Bool} (o : ownOf P (·.eq) a h = none) (e : eqA h a b = some r) (q : Q r h) : wp (cmpA P cf .Eq a b) Q h := by
  unfold cmpA
  refine wp_bind (wp_heap ?_)
  simp only [o]
  exact wp_eqM e q
theorem wC_neA {a b : AV} {r : Bool} (o : ownOf P (·.eq) a h = none) (e : eqA h a b = some r) (q : Q (!r) h) : wp (cmpA P cf .NotEq a b) Q h := by
  unfold cmpA
  refine wp_bind (wp_heap ?_)
  simp only [o]
  exact wp_bind (wp_eqM e (wp_pure q))
theorem eqA_flat {a b : AV} {r : Bool} (e : eqF a b = some r) : eqA h a b = some r := by unfold eqA; rw [e]
theorem wC_eqs {x y : List Nat} (q : Q (decide (x = y)) h) : wp (cmpA P cf .Eq (.str x) (.str y)) Q h := wC_eqA rfl rfl q
theorem wC_nes {x y : List Nat} (q : Q (!decide (x = y)) h) : wp (cmpA P cf .NotEq (.str x) (.str y)) Q h := wC_neA rfl rfl q
theorem wC_eqi {x y : Int} (q : Q (decide (x = y)) h) : wp (cmpA P cf .Eq (.int x) (.int y)) Q h := wC_eqA rfl rfl q
theorem wC_nei {x y : Int} (q : Q (!decide (x = y)) h) : wp (cmpA P cf .NotEq (.int x) (.int y)) Q h := wC_neA rfl rfl q
theorem wC_is {a : AV} (q : Q (isNonB a) h) : wp (cmpA P cf .Is a .non) Q h := wp_bind (wp_guard (wp_pure q) rfl)
theorem wC_isn {a : AV} (q : Q (!isNonB a) h) : wp (cmpA P cf .IsNot a .non) Q h := wp_bind (wp_guard (wp_pure q) rfl)
theorem wC_in {a b : AV} (q : wp (inG P a b) Q h) : wp (cmpA P cf .In a b) Q h := q
theorem wC_nin {a b : AV} (q : wp (inG P a b) (fun r => Q (!r)) h) : wp (cmpA P cf .NotIn a b) Q h := wp_bind (wp_mono q fun _ _ q => wp_pure q)
theorem wN_str {c : Nat} {z : List Nat} (q : Q (decide (c ∈ z)) h) : wp (inG P (.str [c]) (.str z)) Q h := wp_pure q
theorem wN_gdc {d : Nat} {x : AV} {kvs : List (AV × AV)} (e : P.gd d = some kvs) (g : keyF x = true) (q : Q (look kvs x).isSome h) : wp (inG P x (.gdc d)) Q h := wp_bind (wp_ofO (wp_bind (wp_guard (wp_pure q) g)) e)
theorem wN_dic {b p : Nat} {x : AV} {kvs : List (AV × AV)} (q : Q (look kvs x).isSome h) (a : At b h p (.dic kvs)) (g : keyOk kvs x = true) : wp (inG P x (.ref p)) Q h := by
  refine wp_bind (wp_getA ?_ a)
  exact wp_bind (wp_dicR (wp_pure q) a g)
theorem wp_inL {x : AV} {xs : List AV} {r : Bool} (e : inS h x xs = some r) (q : Q r h) : wp (inL x xs) Q h := ⟨r, h, by unfold inL; rw [e], q⟩
theorem wN_lst {b p : Nat} {x : AV} {xs : List AV} {r : Bool} (e : inS h x xs = some r) (q : Q r h) (a : At b h p (.lst xs)) : wp (inG P x (.ref p)) Q h := by
  refine wp_bind (wp_getA ?_ a)
  exact wp_inL e q
theorem wN_tup {x : AV} {xs : List AV} {r : Bool} (e : inS h x xs = some r) (q : Q r h) : wp (inG P x (.tup xs)) Q h := wp_inL e q
end
/-- membership of flat values -/
theorem mapO_map {α β γ : Type} {f : α → Option β} {g : γ → α} {k : γ → β} : ∀ {xs : List γ}, (∀ x ∈ xs, f (g x) = some (k x)) → mapO f (xs.map g) = some (xs.map k)
  | [], _ => rfl
  | x :: xs, h => by
    simp only [List.map_cons, mapO, h x (List.mem_cons_self ..), mapO_map (xs := xs) fun y m => h y (List.mem_cons_of_mem _ m)]
theorem inS_strs {h : AH} {x : List Nat} {xs : List (List Nat)} : inS h (.str x) (xs.map .str) = some (decide (x ∈ xs)) := by
  unfold inS
  rw [mapO_map (f := fun y => eqA h y (.str x)) (k := fun y => decide (y = x)) (fun y _ => eqA_flat rfl)]
  simp only [Option.map_some, Option.some.injEq, List.any_map]
  rw [Bool.eq_iff_iff]
  simp only [List.any_eq_true, Function.comp, id, decide_eq_true_eq]
  exact ⟨fun ⟨y, m, e⟩ => e ▸ m, fun m => ⟨x, m, rfl⟩⟩

/-! ### items, slices, built-ins -/
section
variable {P : Pg} {cf : CF} {Q : AV → AH → Prop} {h : AH}
theorem wX_tup {xs : List AV} {i : Int} {x : AV} (e : atI xs i = some x) (q : Q x h) : wp (ixA P (.tup xs) (.int i)) Q h := wp_ofO q e
theorem wX_str {xs : List Nat} {i : Int} {x : Nat} (e : atI xs i = some x) (g : xs.length ≤ 16777216) (q : Q (.str [x]) h) : wp (ixA P (.str xs) (.int i)) Q h := wp_bind (wp_guard (wp_bind (wp_ofO (wp_pure q) e)) (by simpa [sizeLineB] using g))
theorem wX_lst {b p : Nat} {xs : List AV} {i : Int} {x : AV} (a : At b h p (.lst xs)) (e : atI xs i = some x) (q : Q x h) : wp (ixA P (.ref p) (.int i)) Q h := by
  refine wp_bind (wp_getA ?_ a)
  exact wp_ofO q e
theorem wX_dic {b p : Nat} {kvs : List (AV × AV)} {i : AV} {x : AV} (a : At b h p (.dic kvs)) (g : keyOk kvs i = true) (e : look kvs i = some x) (q : Q x h) : wp (ixA P (.ref p) i) Q h := by
  refine wp_bind (wp_getA ?_ a)
  exact wp_bind (wp_dicR (wp_ofO q e) a g)
theorem wX_gdc {d : Nat} {kvs : List (AV × AV)} {i : AV} {x : AV} (a : P.gd d = some kvs) (g : keyF i = true) (e : look kvs i = some x) (q : Q x h) : wp (ixA P (.gdc d) i) Q h := wp_bind (wp_ofO (wp_bind (wp_guard (wp_ofO q e) g)) a)
theorem wL_str {xs : List Nat} {lo hi : Option Int} (q : Q (.str (cutA xs lo hi)) h) (g : xs.length ≤ 16777216) : wp (slA (.str xs) lo hi) Q h := wp_bind (wp_guard (wp_pure q) (by simpa [sizeLineB] using g))
theorem wL_tup {xs : List AV} {lo hi : Option Int} (q : Q (.tup (cutA xs lo hi)) h) : wp (slA (.tup xs) lo hi) Q h := wp_pure q
theorem wL_lst {b p : Nat} {xs : List AV} {lo hi : Option Int} (q : Q (.ref h.n) (h.push (.lst (cutA xs lo hi)))) (a : At b h p (.lst xs)) : wp (slA (.ref p) lo hi) Q h := wp_bind (wp_lstO (wp_new q) a)
theorem wS_lst {Q : Unit → AH → Prop} {b p j : Nat} {xs : List AV} {i : Int} {v : AV} (q : Q () (h.set p (.lst (xs.set j v)))) (a : At b h p (.lst xs)) (e : ixN xs.length i = some j) : wp (setIx (.ref p) (.int i) v) Q h := by
  refine wp_bind (wp_getA ?_ a)
  exact wp_bind (wp_ofO (wp_setO q) e)
theorem wS_dic {Q : Unit → AH → Prop} {b p : Nat} {kvs : List (AV × AV)} {i v : AV} (q : Q () (h.set p (.dic (put kvs i v)))) (a : At b h p (.dic kvs)) (g : keyOk kvs i = true) (l : kvs.length < 16777216) : wp (setIx (.ref p) i v) Q h := by
  refine wp_bind (wp_getA ?_ a)
  exact wp_bind (wp_guard (wp_setO q) (by simp only [g, l, decide_true, Bool.and_self]))
theorem wAt_set {Q : Unit → AH → Prop} {b p c f : Nat} {fs : List (Nat × AV)} {cl : Cl} {v : AV} (q : Q () (h.set p (.ins c (putF f v fs)))) (a : At b h p (.ins c fs)) (hc : P.cl c = some cl) (g : cl.flds.contains f = true) (l : fs.length < 1000) : wp (setAt P (.ref p) f v) Q h :=
  wp_bind (wp_insO (wp_bind (wp_ofO (wp_bind (wp_guard (wp_setO q) (by simp only [g, l, decide_true, Bool.and_self]))) hc)) a)
theorem wAt_fld {b p c f : Nat} {fs : List (Nat × AV)} {cl : Cl} {v : AV} (a : At b h p (.ins c fs)) (hc : P.cl c = some cl) (np : cl.props.lookup f = none) (g : cl.flds.contains f = true) (l : fs.lookup f = some v) (q : Q v h) : wp (getAt P cf (.ref p) f) Q h := by
  refine wp_bind (wp_insO (wp_bind (wp_ofO ?_ hc)) a)
  simp only [np]
  exact wp_bind (wp_guard (wp_ofO q l) g)
theorem wAt_prop {b p c f g : Nat} {fs : List (Nat × AV)} {cl : Cl} (a : At b h p (.ins c fs)) (hc : P.cl c = some cl) (np : cl.props.lookup f = some g) (q : wp (cf g [.ref p]) Q h) : wp (getAt P cf (.ref p) f) Q h := by
  refine wp_bind (wp_insO (wp_bind (wp_ofO ?_ hc)) a)
  simp only [np]
  exact q
/-! built-ins: those that are no len go straight -/
theorem wF {b : B} {vs : List AV} (hb : b ≠ .len) (hd : b ≠ .dictof) (q : wp (bltA P b vs) Q h) : wp (bltB P cf b vs) Q h := by
  obtain ⟨v, h', e, q⟩ := q
  refine ⟨v, h', ?_, q⟩
  unfold bltB
  have : lenOwn P b vs h = none := by
    unfold lenOwn
    split
    · exact absurd rfl hb
    · rfl
  simp only [this]
  split
  · exact absurd rfl hd
  · cases e
  · exact e
theorem wF_lenS {x : List Nat} (q : Q (.int x.length) h) (g : x.length ≤ 16777216) : wp (bltB P cf .len [.str x]) Q h := by
  obtain ⟨v, h', e, q⟩ : wp (bltA P .len [.str x]) Q h := wp_bind (wp_guard (wp_pure q) (by simpa [sizeLineB] using g))
  exact ⟨v, h', e, q⟩
theorem wF_lenT {x : List AV} (q : Q (.int x.length) h) : wp (bltB P cf .len [.tup x]) Q h := by
  obtain ⟨v, h', e, q⟩ : wp (bltA P .len [.tup x]) Q h := wp_pure q
  exact ⟨v, h', e, q⟩
theorem wF_lenL {b p : Nat} {x : List AV} (q : Q (.int x.length) h) (a : At b h p (.lst x)) : wp (bltB P cf .len [.ref p]) Q h := by
  obtain ⟨v, h', e, q⟩ : wp (bltA P .len [.ref p]) Q h := by
    refine wp_bind (wp_getA ?_ a)
    exact wp_pure q
  refine ⟨v, h', ?_, q⟩
  unfold bltB
  have : lenOwn P .len [.ref p] h = none := by simp [lenOwn, ownOf, a.get]
  simp only [this]
  exact e
theorem wF_lenLro {b p : Nat} {x : List AV} (q : Q (.int x.length) h) (a : At b h p (.ro (.lst x))) : wp (bltB P cf .len [.ref p]) Q h := by
  obtain ⟨v, h', e, q⟩ : wp (bltA P .len [.ref p]) Q h := by
    refine wp_bind (wp_getA ?_ a)
    exact wp_pure q
  refine ⟨v, h', ?_, q⟩
  unfold bltB
  have : lenOwn P .len [.ref p] h = none := by simp [lenOwn, ownOf, a.get]
  simp only [this]
  exact e
theorem wF_lenOwn {x : AV} {f : Nat} (o : ownOf P (·.len) x h = some f) (q : wp (cf f [x]) (fun v h' => ∃ n : Int, v = .int n ∧ 0 ≤ n ∧ n < 2 ^ 63 ∧ Q (.int n) h') h) : wp (bltB P cf .len [x]) Q h := by
  obtain ⟨v, h', e, n, rfl, h1, h2, q⟩ := q
  refine ⟨.int n, h', ?_, q⟩
  unfold bltB
  have : lenOwn P .len [x] h = some (f, x) := by simp [lenOwn, o]
  simp only [this]
  unfold lenB
  rw [bind_ok e]
  show (guardM (decide (0 ≤ n ∧ n < 2 ^ 63)) >>= fun _ => (pure (AV.int n) : M AV)) h' = _
  rw [show decide (0 ≤ n ∧ n < 2 ^ 63) = true from decide_eq_true ⟨h1, h2⟩]
  rfl
theorem wF_dictof {d : Nat} {kvs : List (AV × AV)} (e : P.gq d = some kvs) (q : Q (.ref h.n) (h.push (.dic kvs))) : wp (bltB P cf .dictof [.gdc d]) Q h := by
  refine ⟨_, _, ?_, q⟩
  show (ofO (P.gq d) >>= fun kvs => newO (.dic kvs)) h = _
  rw [e]; rfl
theorem wF_edict (q : Q (.ref h.n) (h.push (.dic []))) : wp (bltB P cf .edict []) Q h := ⟨_, _, rfl, q⟩
theorem wF_abs {i : Int} (q : Q (.int (if i < 0 then -i else i)) h) : wp (bltB P cf .abs [.int i]) Q h := wF nofun nofun (wp_pure q)
theorem wF_max {i j : Int} (q : Q (.int (if j > i then j else i)) h) : wp (bltB P cf .max [.int i, .int j]) Q h := wF nofun nofun (wp_pure q)
theorem wF_min {i j : Int} (q : Q (.int (if j < i then j else i)) h) : wp (bltB P cf .min [.int i, .int j]) Q h := wF nofun nofun (wp_pure q)
theorem wF_int {i : Int} (q : Q (.int i) h) : wp (bltB P cf .int [.int i]) Q h := wF nofun nofun (wp_pure q)
theorem wF_intB {i : Bool} (q : Q (.int (if i then 1 else 0)) h) : wp (bltB P cf .int [.bl i]) Q h := wF nofun nofun (wp_pure q)
theorem wF_intS {x : List Nat} (q : Q (.int (digV x : Nat)) h) (g : canon x = true) : wp (bltB P cf .int [.str x]) Q h := wF nofun nofun (wp_bind (wp_guard (wp_pure q) g))
theorem wF_strI {i : Int} (q : Q (.str (intL i)) h) (g : i.natAbs.log2 < 1920) : wp (bltB P cf .str [.int i]) Q h := wF nofun nofun (wp_bind (wp_guard (wp_pure q) (by simpa using g)))
theorem wF_sum {b p : Nat} {xs : List AV} {i : Int} (e : sumI xs = some i) (q : Q (.int i) h) (a : At b h p (.lst xs)) : wp (bltB P cf .sum [.ref p]) Q h := wF nofun nofun (wp_bind (wp_lstO (wp_bind (wp_ofO (wp_pure q) e)) a))
theorem wF_all {b p : Nat} {xs : List AV} {i : List Bool} (a : At b h p (.lst xs)) (e : bls xs = some i) (q : Q (.bl (i.all id)) h) : wp (bltB P cf .all [.ref p]) Q h := wF nofun nofun (wp_bind (wp_lstO (wp_bind (wp_ofO (wp_pure q) e)) a))
theorem wF_any {b p : Nat} {xs : List AV} {i : List Bool} (a : At b h p (.lst xs)) (e : bls xs = some i) (q : Q (.bl (i.any id)) h) : wp (bltB P cf .any [.ref p]) Q h := wF nofun nofun (wp_bind (wp_lstO (wp_bind (wp_ofO (wp_pure q) e)) a))
theorem wF_listT {xs : List AV} (q : Q (.ref h.n) (h.push (.lst xs))) : wp (bltB P cf .list [.tup xs]) Q h := wF nofun nofun (wp_new q)
theorem wF_listL {b p : Nat} {xs : List AV} (q : Q (.ref h.n) (h.push (.lst xs))) (a : At b h p (.lst xs)) : wp (bltB P cf .list [.ref p]) Q h := wF nofun nofun (wp_bind (wp_lstO (wp_new q) a))
theorem wF_tupT {xs : List AV} (q : Q (.tup xs) h) : wp (bltB P cf .tuple [.tup xs]) Q h := wF nofun nofun (wp_pure q)
theorem wF_tupL {b p : Nat} {xs : List AV} (q : Q (.tup xs) h) (a : At b h p (.lst xs)) : wp (bltB P cf .tuple [.ref p]) Q h := wF nofun nofun (wp_bind (wp_lstO (wp_pure q) a))
theorem wF_dict {b p : Nat} {xs : List AV} {ps : List (AV × AV)} (a : At b h p (.lst xs)) (e : pairsO xs = some ps) (g : (ps.all fun kv => keyF kv.1) = true) (q : Q (.ref h.n) (h.push (.dic (putAll [] ps)))) : wp (bltB P cf .dict [.ref p]) Q h := wF nofun nofun (wp_bind (wp_seqO (wp_bind (wp_ofO (wp_bind (wp_guard (wp_new q) g)) e)) a))
theorem wF_setlenT {xs : List AV} {ys : List (List Nat)} (e : strsO xs = some ys) (g : ys.length < 4000) (q : Q (.int ((ys.foldl addL []).length : Nat)) h) : wp (bltB P cf .setlen [.tup xs]) Q h := wF nofun nofun (wp_bind (wp_ofO (wp_bind (wp_guard (wp_pure q) (by simpa using g))) e))
theorem wF_lrange {n : Int} (q : Q (.ref h.n) (h.push (.lst ((List.range n.toNat).map fun k => .int (k : Nat))))) (g : -(2 ^ 62) ≤ n ∧ n ≤ 16777216) : wp (bltB P cf .listrange [.int n]) Q h := wF nofun nofun (wp_bind (wp_guard (wp_new q) (by simpa using g)))
theorem wF_repr {a : AV} {x : List Nat} (e : reprA h a = some x) (q : Q (.str x) h) : wp (bltB P cf .repr [a]) Q h := wF nofun nofun (wp_bind (wp_heap (wp_bind (wp_ofO (wp_pure q) e))))
theorem wF_isin {a : AV} {T t : String} (hT : (["int", "str", "bool", "tuple", "list", "dict"].contains T) = true) (o : ownOf P (fun _ => some 0) a h = none) (e : tyA h a = some t) (q : Q (.bl (isTy t T)) h) : wp (bltB P cf .isinstance [a, .ty T]) Q h := by
  refine wF nofun nofun (wp_bind (wp_guard (wp_bind (wp_heap ?_)) hT))
  simp only [o]
  exact wp_bind (wp_ofO (wp_pure q) e)
theorem isTy_str : isTy "str" "str" = true := by decide
theorem isTy_int : isTy "int" "str" = false := by decide
theorem wF_isin_str {x : List Nat} (q : Q (.bl true) h) : wp (bltB P cf .isinstance [.str x, .ty "str"]) Q h := wF_isin (t := "str") (by decide) rfl rfl (by rw [isTy_str]; exact q)
theorem wF_isin_int {x : Int} (q : Q (.bl false) h) : wp (bltB P cf .isinstance [.int x, .ty "str"]) Q h := wF_isin (t := "int") (by decide) rfl rfl (by rw [isTy_int]; exact q)
/-! methods -/
theorem wm_app {b p : Nat} {xs : List AV} {y : AV} (q : Q .non (h.set p (.lst (xs ++ [y])))) (a : At b h p (.lst xs)) (g : xs.length < 16777216) : wp (bMeth 0 .lst (.ref p) [y]) Q h := wp_bind (wp_lstW (wp_bind (wp_guard (wp_bind (wp_setO (wp_pure q))) (by simpa using g))) a)
theorem wm_ext {b c p r : Nat} {xs ys : List AV} (q : Q .non (h.set p (.lst (xs ++ ys)))) (a : At b h p (.lst xs)) (a' : At c h r (.lst ys)) (g : xs.length + ys.length ≤ 16777216) : wp (bMeth 1 .lst (.ref p) [.ref r]) Q h := wp_bind (wp_lstW (wp_bind (wp_lstW (wp_bind (wp_guard (wp_bind (wp_setO (wp_pure q))) (by simpa [sizeLineB] using g))) a')) a)
theorem wm_popi {b p j : Nat} {xs : List AV} {i : Int} {y : AV} (a : At b h p (.lst xs)) (g : -(2 ^ 63) ≤ i ∧ i < 2 ^ 63) (e : ixN xs.length i = some j) (e' : xs[j]? = some y) (q : Q y (h.set p (.lst (xs.eraseIdx j)))) : wp (bMeth 2 .lst (.ref p) [.int i]) Q h :=
  wp_bind (wp_lstW (wp_bind (wp_guard (wp_bind (wp_ofO (wp_bind (wp_ofO (wp_bind (wp_setO (wp_pure q))) e')) e)) (by simpa using g))) a)
theorem wm_join {b p : Nat} {sep : List Nat} {xs : List AV} {ys : List (List Nat)} (a : At b h p (.lst xs)) (e : strsO xs = some ys) (g : (ys.map (·.length)).sum + ys.length * sep.length ≤ 16777216) (q : Q (.str (TL.joinL sep ys)) h) : wp (bMeth 4 .str (.str sep) [.ref p]) Q h := wp_bind (wp_lstO (wp_bind (wp_ofO (wp_bind (wp_guard (wp_pure q) (by simpa using g))) e)) a)
theorem wm_split {x sep : List Nat} (q : Q (.ref h.n) (h.push (.lst ((TL.spl sep 0 [] x).map .str)))) (g : (!sep.isEmpty && sep.all (· < 256)) = true) (l : x.length + 2 ≤ 16777216) : wp (bMeth 5 .str (.str x) [.str sep]) Q h := wp_bind (wp_guard (wp_new q) (by rw [g]; simpa using l))
end

section
variable {P : Pg} {cf : CF} {h : AH}
theorem wX_ro {Q : AV → AH → Prop} {b p : Nat} {xs : List AV} {i : Int} {x : AV} (a : At b h p (.ro (.lst xs))) (e : atI xs i = some x) (q : Q x h) : wp (ixA P (.ref p) (.int i)) Q h := by
  refine wp_bind (wp_getA ?_ a)
  exact wp_ofO q e
theorem wL_ro {Q : AV → AH → Prop} {b p : Nat} {xs : List AV} {lo hi : Option Int} (q : Q (.ref h.n) (h.push (.lst (cutA xs lo hi)))) (a : At b h p (.ro (.lst xs))) : wp (slA (.ref p) lo hi) Q h := wp_bind (wp_lstO_ro (wp_new q) a)
theorem wK_range {Q : Src → AH → Prop} {n : Int} (q : Q (.fix (rangeA 0 n)) h) (g : -(2 ^ 62) ≤ n ∧ n < 2 ^ 62) : wp (srcK .range [.int n]) Q h := wp_bind (wp_guard (wp_pure q) (by simpa [small62] using g))
theorem wK_str {Q : Src → AH → Prop} {x : List Nat} (q : Q (.fix (x.map fun c => .str [c])) h) : wp (srcK .self [.str x]) Q h := wp_pure q
theorem wK_tup {Q : Src → AH → Prop} {x : List AV} (q : Q (.fix x) h) : wp (srcK .self [.tup x]) Q h := wp_pure q
theorem w_src {Q : Src → AH → Prop} {b p : Nat} {xs : List AV} (q : Q (.lst p) h) (a : At b h p (.lst xs)) : wp (srcOf (.ref p)) Q h := by
  refine wp_bind (wp_getA ?_ a)
  exact wp_pure q
theorem wK_lst {Q : Src → AH → Prop} {b p : Nat} {xs : List AV} (q : Q (.lst p) h) (a : At b h p (.lst xs)) : wp (srcK .self [.ref p]) Q h := w_src q a
theorem wK_enumL {Q : Src → AH → Prop} {b p : Nat} {xs : List AV} (q : Q (.enum (.lst p)) h) (a : At b h p (.lst xs)) : wp (srcK .enum [.ref p]) Q h := wp_bind (w_src (wp_pure q) a)
theorem wK_enumT {Q : Src → AH → Prop} {xs : List AV} (q : Q (.enumT xs) h) : wp (srcK .enum [.tup xs]) Q h := wp_bind (wp_pure (wp_pure q : wp (pure (Src.enumT xs)) Q h) : wp (srcOf (.tup xs)) _ h)
theorem wK_zipLL {Q : Src → AH → Prop} {b c p r : Nat} {xs ys : List AV} (q : Q (.zip (.lst p) (.lst r)) h) (a : At b h p (.lst xs)) (a' : At c h r (.lst ys)) : wp (srcK .zip [.ref p, .ref r]) Q h := wp_bind (w_src (wp_bind (w_src (wp_pure q) a')) a)
theorem wK_zipTT {Q : Src → AH → Prop} {xs ys : List AV} (q : Q (.zip (.fix xs) (.fix ys)) h) : wp (srcK .zip [.tup xs, .tup ys]) Q h := wp_bind (wp_pure (wp_bind (wp_pure (wp_pure q : wp (pure (Src.zip (.fix xs) (.fix ys))) Q h) : wp (srcOf (.tup ys)) _ h)) : wp (srcOf (.tup xs)) _ h)
theorem wK_zipLS {Q : Src → AH → Prop} {b p : Nat} {xs : List AV} {y : List Nat} (q : Q (.zipG (.lst p) (.fix (y.map fun c => .str [c]))) h) (a : At b h p (.lst xs)) : wp (srcK .zip [.ref p, .str y]) Q h := by
  have e : wp (do guardM (ckA (.ref p) && ckA (.str y)); pure (Src.zipG (.lst p) (.fix (y.map fun c => .str [c])))) Q h := wp_bind (wp_guard (wp_pure q) rfl)
  exact wp_bind (w_src (wp_bind (wp_pure e : wp (srcOf (.str y)) _ h)) a)
theorem wK_zipTS {Q : Src → AH → Prop} {xs : List AV} {y : List Nat} (q : Q (.zipG (.fix xs) (.fix (y.map fun c => .str [c]))) h) : wp (srcK .zip [.tup xs, .str y]) Q h := by
  have e : wp (do guardM (ckA (.tup xs) && ckA (.str y)); pure (Src.zipG (.fix xs) (.fix (y.map fun c => .str [c])))) Q h := wp_bind (wp_guard (wp_pure q) rfl)
  exact wp_bind (wp_pure (wp_bind (wp_pure e : wp (srcOf (.str y)) _ h)) : wp (srcOf (.tup xs)) _ h)
end
theorem rangeA_len (lo hi : Int) : (rangeA lo hi).length = (hi - lo).toNat := by simp [rangeA]
theorem cutA_map {α β : Type} (f : α → β) (xs : List α) (lo hi : Option Int) : cutA (xs.map f) lo hi = (cutA xs lo hi).map f := by simp [cutA, List.map_drop, List.map_take]
theorem sumI_map : ∀ xs : List Int, sumI (xs.map .int) = some xs.sum
  | [] => rfl
  | x :: xs => by simp only [List.map_cons, sumI, sumI_map xs, Option.map_some, List.sum_cons]
theorem strsO_map : ∀ xs : List (List Nat), strsO (xs.map .str) = some xs
  | [] => rfl
  | x :: xs => by simp only [List.map_cons, strsO, strsO_map xs, Option.map_some]
theorem bls_map : ∀ xs : List Bool, bls (xs.map .bl) = some xs
  | [] => rfl
  | x :: xs => by simp only [List.map_cons, bls, bls_map xs, Option.map_some]
/-! ### statements, calls -/
def seqK (k : Loc → AH → Prop) (Q : Fl → AH → Prop) : Fl → AH → Prop
  | .nx σ, h => k σ h
  | .rt v, h => Q (.rt v) h
  | .bk σ, h => Q (.bk σ) h
  | .ct σ, h => Q (.ct σ) h
theorem seqK_nx {k : Loc → AH → Prop} {Q : Fl → AH → Prop} {σ : Loc} {h : AH} (q : k σ h) : seqK k Q (.nx σ) h := q
theorem seqK_rt {k : Loc → AH → Prop} {Q : Fl → AH → Prop} {v : AV} {h : AH} (q : Q (.rt v) h) : seqK k Q (.rt v) h := q
theorem seqK_bk {k : Loc → AH → Prop} {Q : Fl → AH → Prop} {σ : Loc} {h : AH} (q : Q (.bk σ) h) : seqK k Q (.bk σ) h := q
theorem seqK_ct {k : Loc → AH → Prop} {Q : Fl → AH → Prop} {σ : Loc} {h : AH} (q : Q (.ct σ) h) : seqK k Q (.ct σ) h := q
def retK (Q : AV → AH → Prop) : Fl → AH → Prop
  | .nx _, h => Q .non h
  | .rt v, h => Q v h
  | .bk _, _ => False
  | .ct _, _ => False
theorem retK_nx {Q : AV → AH → Prop} {σ : Loc} {h : AH} (q : Q .non h) : retK Q (.nx σ) h := q
theorem retK_rt {Q : AV → AH → Prop} {v : AV} {h : AH} (q : Q v h) : retK Q (.rt v) h := q
section
variable {P : Pg} {cf : CF} {σ : Loc} {Q : Fl → AH → Prop} {h : AH}
theorem wS_seq {a b : S} (q : wp (evS P cf a σ) (seqK (fun σ' => wp (evS P cf b σ') Q) Q) h) : wp (evS P cf (.seq a b) σ) Q h := by
  simp only [evS]
  refine wp_bind (wp_mono q fun fl h' q => ?_)
  cases fl with
  | nx σ' => exact q
  | rt v => exact wp_pure q
  | bk σ' => exact wp_pure q
  | ct σ' => exact wp_pure q
theorem wS_asg {t e : E} (q : wp (evE P cf e σ) (fun x => wp (asgT P cf t x σ) (fun σ' => Q (.nx σ'))) h) : wp (evS P cf (.asg t e) σ) Q h := by
  simp only [evS]; exact wp_bind (wp_mono q fun _ _ q => wp_bind (wp_mono q fun _ _ q => wp_pure q))
theorem wS_par {is : List Nat} {es : E} (q : wp (evA P cf es σ) (fun xs h => ∃ σ', setAll is xs σ = some σ' ∧ Q (.nx σ') h) h) : wp (evS P cf (.par is es) σ) Q h := by
  simp only [evS]; exact wp_bind (wp_mono q fun _ _ ⟨σ', e, q⟩ => wp_bind (wp_ofO (wp_pure q) e))
theorem wS_aug {op : Operator} {i : Nat} {e : E} {x : AV} (g : σ.getD i none = some x) (q : wp (evE P cf e σ) (fun y => wp (augA op x y) (fun z => Q (.nx (σ.set i (some z))))) h) : wp (evS P cf (.aug op (.v i) e) σ) Q h := by
  simp only [evS]; exact wp_bind (wp_ofO (wp_bind (wp_mono q fun _ _ q => wp_bind (wp_mono q fun _ _ q => wp_pure q))) g)
theorem wS_ex {e : E} (q : wp (evE P cf e σ) (fun _ => Q (.nx σ)) h) : wp (evS P cf (.ex e) σ) Q h := by
  simp only [evS]; exact wp_bind (wp_mono q fun _ _ q => wp_pure q)
theorem wS_ret {e : E} (ne : e ≠ .no) (q : wp (evE P cf e σ) (fun x => Q (.rt x)) h) : wp (evS P cf (.ret e) σ) Q h := by
  cases e with
  | no => exact absurd rfl ne
  | _ => simp only [evS]; exact wp_bind (wp_mono q fun _ _ q => wp_pure q)
theorem wS_ret0 (q : Q (.rt .non) h) : wp (evS P cf (.ret .no) σ) Q h := by
  simp only [evS]; exact wp_pure q
theorem wS_ife {t : E} {a b : S} (q : wp (evT P cf t σ) (fun r => wp (if r = true then evS P cf a σ else evS P cf b σ) Q) h) : wp (evS P cf (.ife t a b) σ) Q h := by
  simp only [evS]; exact wp_bind q
theorem wS_brk (q : Q (.bk σ) h) : wp (evS P cf .brk σ) Q h := by simp only [evS]; exact wp_pure q
theorem wS_cnt (q : Q (.ct σ) h) : wp (evS P cf .cnt σ) Q h := by simp only [evS]; exact wp_pure q
theorem wS_pass (q : Q (.nx σ) h) : wp (evS P cf .pass σ) Q h := by simp only [evS]; exact wp_pure q
theorem wS_done (q : Q (.nx σ) h) : wp (evS P cf .done σ) Q h := by simp only [evS]; exact wp_pure q
theorem wS_for {tg it : E} {ik : IK} {body : S} (q : wp (evA P cf it σ) (fun vs => wp (srcK ik vs) (fun src h => wp (forLoop src (fun x σ => asgT P cf tg x σ >>= fun σ' => evS P cf body σ') (src.most h) 0 σ) Q h)) h) : wp (evS P cf (.for_ tg ik it body) σ) Q h := by
  simp only [evS]; exact wp_bind (wp_mono q fun _ _ q => wp_bind (wp_mono q fun _ _ q => wp_bind (wp_heap q)))
theorem w_call {d f : Nat} {vs : List AV} {fn : Fn} {Q : AV → AH → Prop} (hf : P.fn f = some fn) (hn : vs.length = fn.np) (q : wp (evS P (callF P d) fn.body (start fn.ns vs)) (retK Q) h) : wp (callF P (d + 1) f vs) Q h := by
  unfold callF
  refine wp_bind (wp_ofO (wp_bind (wp_guard (wp_bind (wp_mono q fun fl h' q => ?_)) (by simp [hn]))) hf)
  cases fl with
  | nx σ' => exact wp_pure q
  | rt v => exact wp_pure q
  | bk σ' => exact q.elim
  | ct σ' => exact q.elim
end

/-! ### loops -/
/-- what is walked, now -/
def Src.Is (s : Src) (h : AH) (xs : List AV) : Prop := ∀ i, i ≤ xs.length → s.at i h = .ok xs[i]? h
theorem Src.is_fix (xs : List AV) (h : AH) : (Src.fix xs).Is h xs := fun _ _ => rfl
theorem Src.is_lst {b p : Nat} {xs : List AV} {h : AH} (a : At b h p (.lst xs)) : (Src.lst p).Is h xs := fun i _ => by
  show (lstO p >>= fun xs => pure xs[i]?) h = _
  rw [bind_ok (by unfold lstO; rw [a.get])]; rfl
theorem Src.is_lst_ro {b p : Nat} {xs : List AV} {h : AH} (a : At b h p (.ro (.lst xs))) : (Src.lst p).Is h xs := fun i _ => by
  show (lstO p >>= fun xs => pure xs[i]?) h = _
  rw [bind_ok (by unfold lstO; rw [a.get])]; rfl
theorem Src.is_enum {s : Src} {xs : List AV} {h : AH} (a : s.Is h xs) : (Src.enum s).Is h (xs.mapIdx fun i x => .tup [.int i, x]) := fun i hi => by
  show (s.at i >>= fun o => match o with | some x => pure (some (AV.tup [AV.int i, x])) | none => pure none) h = _
  rw [bind_ok (a i (by simpa using hi))]
  rw [List.getElem?_mapIdx]
  cases xs[i]? <;> rfl
theorem Src.is_zip {s t : Src} {xs ys : List AV} {h : AH} (a : s.Is h xs) (b : t.Is h ys) : (Src.zip s t).Is h ((xs.zip ys).map fun p => .tup [p.1, p.2]) := fun i hi => by
  show (s.at i >>= fun o => match o with | some x => (t.at i >>= fun o => match o with | some y => pure (some (AV.tup [x, y])) | none => pure none) | none => (t.at i >>= fun _ => pure none)) h = _
  have hi' : i ≤ min xs.length ys.length := by simpa [List.length_zip] using hi
  rw [bind_ok (a i (by omega))]
  rw [List.getElem?_map]
  cases e : xs[i]? with
  | none =>
    simp only []
    rw [bind_ok (b i (by omega))]
    rw [List.getElem?_eq_none (by rw [List.length_zip]; have := List.getElem?_eq_none_iff.mp e; omega)]; rfl
  | some x =>
    simp only []
    rw [bind_ok (b i (by omega))]
    cases e' : ys[i]? with
    | none => 
      rw [List.getElem?_eq_none (by rw [List.length_zip]; have := List.getElem?_eq_none_iff.mp e'; omega)]; rfl
    | some y => rw [List.getElem?_zip_eq_some (z := (x, y)) |>.mpr ⟨e, e'⟩]; rfl

theorem Src.is_enumT (xs : List AV) (h : AH) : (Src.enumT xs).Is h (xs.mapIdx fun i x => .tup [.int i, x]) := fun i hi => by
  rw [List.getElem?_mapIdx]
  unfold Src.at
  cases e : xs[i]? with
  | some x => rfl
  | none =>
    have h1 := List.getElem?_eq_none_iff.mp e
    have h2 : i = xs.length := by simp at hi; omega
    show (guardM (decide (i = xs.length)) >>= fun _ => pure none) h = _
    rw [show decide (i = xs.length) = true from by simp [h2]]; rfl
theorem Src.is_zipG {s t : Src} {xs ys : List AV} {h : AH} (a : s.Is h xs) (b : t.Is h ys) : (Src.zipG s t).Is h ((xs.zip ys).map fun p => .tup [p.1, p.2]) := fun i hi => by
  have hi' : i ≤ min xs.length ys.length := by simpa [List.length_zip] using hi
  have late : (s.at (i - 1) >>= fun p => t.at (i - 1) >>= fun p' => guardM (decide (i = 0) || (p.isSome && p'.isSome)) >>= fun _ => pure (none : Option AV)) h = .ok none h := by
    rw [bind_ok (a (i - 1) (by omega)), bind_ok (b (i - 1) (by omega))]
    by_cases i0 : i = 0
    · simp only [i0, decide_true, Bool.true_or]; rfl
    · rw [List.getElem?_eq_getElem (show i - 1 < xs.length by omega), List.getElem?_eq_getElem (show i - 1 < ys.length by omega)]
      simp only [Option.isSome_some, Bool.and_self, Bool.or_true]; rfl
  unfold Src.at
  rw [bind_ok (a i (by omega)), bind_ok (b i (by omega)), List.getElem?_map]
  cases e : xs[i]? with
  | none =>
    have z : (xs.zip ys)[i]? = none := List.getElem?_eq_none (by rw [List.length_zip]; have := List.getElem?_eq_none_iff.mp e; omega)
    rw [z]
    exact late
  | some x =>
    cases e' : ys[i]? with
    | none => 
      have z : (xs.zip ys)[i]? = none := List.getElem?_eq_none (by rw [List.length_zip]; have := List.getElem?_eq_none_iff.mp e'; omega)
      rw [z]
      exact late
    | some y => rw [List.getElem?_zip_eq_some (z := (x, y)) |>.mpr ⟨e, e'⟩]; rfl

def forK (J : Loc → AH → Prop) (Q : Fl → AH → Prop) : Fl → AH → Prop
  | .nx σ, h => J σ h
  | .ct σ, h => J σ h
  | .bk σ, h => Q (.nx σ) h
  | .rt v, h => Q (.rt v) h
theorem forK_nx {J : Loc → AH → Prop} {Q : Fl → AH → Prop} {σ : Loc} {h : AH} (q : J σ h) : forK J Q (.nx σ) h := q
theorem forK_ct {J : Loc → AH → Prop} {Q : Fl → AH → Prop} {σ : Loc} {h : AH} (q : J σ h) : forK J Q (.ct σ) h := q
theorem forK_bk {J : Loc → AH → Prop} {Q : Fl → AH → Prop} {σ : Loc} {h : AH} (q : Q (.nx σ) h) : forK J Q (.bk σ) h := q
theorem forK_rt {J : Loc → AH → Prop} {Q : Fl → AH → Prop} {v : AV} {h : AH} (q : Q (.rt v) h) : forK J Q (.rt v) h := q
theorem wp_for {src : Src} {turn : AV → Loc → M Fl} {xs : List AV} {Q : Fl → AH → Prop} (J : Nat → Loc → AH → Prop)
    (hs : ∀ i σ h, J i σ h → src.Is h xs)
    (step : ∀ i x σ h, xs[i]? = some x → J i σ h → wp (turn x σ) (forK (J (i + 1)) Q) h)
    (done : ∀ σ h, J xs.length σ h → Q (.nx σ) h) : ∀ (f i : Nat) (σ : Loc) (h : AH), i + f = xs.length → J i σ h → wp (forLoop src turn f i σ) Q h
  | 0, i, σ, h, hl, j => by
    refine ⟨.nx σ, h, ?_, done σ h (by rw [← hl]; exact j)⟩
    unfold forLoop
    rw [bind_ok (hs i σ h j i (by omega)), List.getElem?_eq_none (by omega)]; rfl
  | f + 1, i, σ, h, hl, j => by
    unfold forLoop
    have hi : i < xs.length := by omega
    refine wp_bind ⟨_, _, hs i σ h j i (by omega), ?_⟩
    rw [List.getElem?_eq_getElem hi]
    refine wp_bind (wp_mono (step i _ σ h (List.getElem?_eq_getElem hi) j) fun fl h' q => ?_)
    cases fl with
    | nx σ' => exact wp_for J hs step done f (i + 1) σ' h' (by omega) q
    | ct σ' => exact wp_for J hs step done f (i + 1) σ' h' (by omega) q
    | bk σ' => exact wp_pure q
    | rt v => exact wp_pure q

/-- a comprehension, what is gathered and the heap told together -/
def lcJ (J : List AV → AH → Prop) (acc : List AV) : Option AV → AH → Prop
  | none, h => J acc h
  | some y, h => J (acc ++ [y]) h
theorem wp_lcJ {src : Src} {turn : AV → M (Option AV)} {xs : List AV} {Q : AV → AH → Prop} {hs : AH} {b : Nat} (J : Nat → List AV → AH → Prop)
    (hb : b ≤ hs.n) (hl : xs.length < 16777216)
    (is : ∀ i acc h, Kp b hs h → J i acc h → src.Is h xs)
    (stab : ∀ i acc h o, hs.n < h.n → J i acc h → J i acc (h.set hs.n o))
    (step : ∀ i x acc h, xs[i]? = some x → Kp b hs h → At b h hs.n (.lst acc) → J i acc h → wp (turn x) (fun o h' => Kp b h h' ∧ lcJ (J (i + 1)) acc o h') h)
    (done : ∀ acc h, Kp b hs h → At b h hs.n (.lst acc) → J xs.length acc h → Q (.ref hs.n) h) :
    ∀ (f i : Nat) (acc : List AV) (h : AH), i + f = xs.length → acc.length ≤ i → Kp b hs h → At b h hs.n (.lst acc) → J i acc h → wp (lcLoop src hs.n turn f i) Q h
  | 0, i, acc, h, hi, ha, k, a, j => by
    refine ⟨.ref hs.n, h, ?_, done acc h k a (by rw [← hi]; exact j)⟩
    unfold lcLoop
    rw [bind_ok (is i acc h k j i (by omega)), List.getElem?_eq_none (by omega)]; rfl
  | f + 1, i, acc, h, hi, ha, k, a, j => by
    unfold lcLoop
    have h0 : i < xs.length := by omega
    refine wp_bind ⟨_, _, is i acc h k j i (by omega), ?_⟩
    rw [List.getElem?_eq_getElem h0]
    refine wp_bind (wp_mono (step i _ acc h (List.getElem?_eq_getElem h0) k a j) fun o h' q => ?_)
    obtain ⟨k', q⟩ := q
    cases o with
    | none => exact wp_lcJ J hb hl is stab step done f (i + 1) acc h' (by omega) (by omega) (k.trans k') (a.kp k' (Nat.le_refl _)) q
    | some y =>
      have a' := a.kp k' (Nat.le_refl _)
      refine wp_bind (wp_lstW (wp_bind (wp_guard (wp_bind (wp_setO ?_)) (by simp; omega))) a')
      exact wp_lcJ J hb hl is stab step done f (i + 1) (acc ++ [y]) _ (by omega) (by simp; omega) ((k.trans k').set _ (Nat.le_refl _)) (a'.set _) (stab _ _ _ _ a'.lt q)
def lcK (JL : Nat → List AV → Prop) (i : Nat) (acc : List AV) : Option AV → Prop
  | none => JL (i + 1) acc
  | some y => JL (i + 1) (acc ++ [y])
theorem wp_lc {src : Src} {turn : AV → M (Option AV)} {xs : List AV} {Q : AV → AH → Prop} {hs : AH} {b : Nat} (JH : Nat → AH → Prop) (JL : Nat → List AV → Prop)
    (hb : b ≤ hs.n) (hl : xs.length < 16777216)
    (is : ∀ i h, Kp b hs h → JH i h → src.Is h xs)
    (stab : ∀ i h o, hs.n < h.n → JH i h → JH i (h.set hs.n o))
    (step : ∀ i x acc h, xs[i]? = some x → Kp b hs h → At b h hs.n (.lst acc) → JH i h → JL i acc → wp (turn x) (fun o h' => Kp b h h' ∧ JH (i + 1) h' ∧ lcK JL i acc o) h)
    (done : ∀ acc h, Kp b hs h → At b h hs.n (.lst acc) → JH xs.length h → JL xs.length acc → Q (.ref hs.n) h) :
    ∀ (f i : Nat) (acc : List AV) (h : AH), i + f = xs.length → acc.length ≤ i → Kp b hs h → At b h hs.n (.lst acc) → JH i h → JL i acc → wp (lcLoop src hs.n turn f i) Q h
  | 0, i, acc, h, hi, ha, k, a, jh, jl => by
    refine ⟨.ref hs.n, h, ?_, done acc h k a (by rw [← hi]; exact jh) (by rw [← hi]; exact jl)⟩
    unfold lcLoop
    rw [bind_ok (is i h k jh i (by omega)), List.getElem?_eq_none (by omega)]; rfl
  | f + 1, i, acc, h, hi, ha, k, a, jh, jl => by
    unfold lcLoop
    have h0 : i < xs.length := by omega
    refine wp_bind ⟨_, _, is i h k jh i (by omega), ?_⟩
    rw [List.getElem?_eq_getElem h0]
    refine wp_bind (wp_mono (step i _ acc h (List.getElem?_eq_getElem h0) k a jh jl) fun o h' q => ?_)
    obtain ⟨k', jh', q⟩ := q
    cases o with
    | none => exact wp_lc JH JL hb hl is stab step done f (i + 1) acc h' (by omega) (by omega) (k.trans k') (a.kp k' (Nat.le_refl _)) jh' q
    | some y =>
      have a' := a.kp k' (Nat.le_refl _)
      refine wp_bind (wp_lstW (wp_bind (wp_guard (wp_bind (wp_setO ?_)) (by simp; omega))) a')
      exact wp_lc JH JL hb hl is stab step done f (i + 1) (acc ++ [y]) _ (by omega) (by simp; omega) ((k.trans k').set _ (Nat.le_refl _)) (a'.set _) (stab _ _ _ a'.lt jh') q

theorem atI_nat {α : Type} {xs : List α} (n : Nat) : atI xs (n : Int) = xs[n]? := by
  unfold atI ixN
  rw [if_pos (Int.natCast_nonneg n)]
  by_cases h : n < xs.length
  · rw [if_pos (by omega)]; rfl
  · rw [if_neg (by omega), List.getElem?_eq_none (by omega)]; rfl
theorem atI_0 {α : Type} {x : α} {xs : List α} : atI (x :: xs) 0 = some x := atI_nat 0
theorem atI_1 {α : Type} {x y : α} {xs : List α} : atI (x :: y :: xs) 1 = some y := atI_nat 1
theorem atI_2 {α : Type} {x y z : α} {xs : List α} : atI (x :: y :: z :: xs) 2 = some z := atI_nat 2
/-- a comprehension that keeps the heap and tells of each item one value -/
theorem wp_lc_map {src : Src} {turn : AV → M (Option AV)} {xs : List AV} {Q : AV → AH → Prop} {hs : AH} (g : AV → AV) (hl : xs.length < 16777216)
    (is : ∀ h, Kx hs h → src.Is h xs)
    (step : ∀ (i : Nat) x h, xs[i]? = some x → Kx hs h → wp (turn x) (fun o h' => Kx h h' ∧ o = some (g x)) h)
    (done : ∀ h, Kx hs h → At 0 h hs.n (.lst (xs.map g)) → Q (.ref hs.n) h) {f : Nat} (hf : f = xs.length) : wp (lcLoop src hs.n turn f 0) Q (hs.push (.lst [])) := by
  subst hf
  refine wp_lc (b := 0) (fun _ _ => True) (fun i acc => acc = (xs.take i).map g) (Nat.zero_le _) hl (fun i h k _ => is h k) (fun _ _ _ _ _ => trivial) ?_ ?_ _ 0 [] _ (Nat.zero_add _) (Nat.zero_le _) ((Kp.refl _ _).push _) (At.new _ (Nat.zero_le _)) trivial rfl
  · rintro i x acc h hx k a _ rfl
    refine wp_mono (step i x h hx k) ?_
    rintro o h' ⟨k', rfl⟩
    refine ⟨k', trivial, ?_⟩
    show _ ++ [g x] = _
    rw [List.take_succ, hx]
    simp
  · rintro acc h k a _ rfl
    rw [List.take_length] at a
    exact done h k a
/-! ### steps -/
theorem and_len {p : Prop} {α : Type} {xs : List α} (q : p) (l : Nat.ble xs.length 16777216 = true) : p ∧ xs.length ≤ 16777216 := ⟨q, Nat.le_of_ble_eq_true l⟩
theorem par_ok {o : Option Loc} {σ : Loc} {Q : Loc → Prop} (e : o = some σ) (q : Q σ) : ∃ σ', o = some σ' ∧ Q σ' := ⟨σ, e, q⟩
theorem int_ok {x : AV} {i : Int} {Q : Int → Prop} (e : x = .int i) (q : Q i) : ∃ j, x = .int j ∧ Q j := ⟨i, e, q⟩
end PM
end
section
set_option maxHeartbeats 400000
/-! PL2: the draws that all laws share: pot, take, of, some, cells, names. -/
namespace PM
open PySem
local macro_rules | `(tactic| array_get_dec) => `(tactic| repeat' (first
  | assumption
  | exact At.new _ (by first | exact Nat.zero_le _ | omega | (simp only [AH.n_push, AH.n_set]; omega))
  | refine At.push ?_ _
  | refine At.set (by assumption) _
  | refine At.set_ne ?_ _ (by first | assumption | omega | (simp only [AH.n_push, AH.n_set]; omega))
  | refine At.kp (by assumption) ?_ (by first | exact Nat.le_refl _ | exact Nat.zero_le _ | omega)))
local macro_rules | `(tactic| array_mem_dec) => `(tactic| with_reducible first
  | refine wS_seq ?_ | refine wS_asg ?_ | refine wS_par ?_ | refine wS_aug (by with_unfolding_all exact rfl) ?_ | refine wS_ex ?_ | refine wS_ret (by with_unfolding_all exact nofun) ?_ | refine wS_ret0 ?_ | refine wS_ife ?_ | refine wS_brk ?_ | refine wS_cnt ?_ | refine wS_pass ?_ | refine wS_done ?_ | refine wS_for ?_
  | refine seqK_nx ?_ | refine seqK_rt ?_ | refine seqK_bk ?_ | refine seqK_ct ?_ | refine retK_nx ?_ | refine retK_rt ?_ | refine forK_nx ?_ | refine forK_ct ?_ | refine forK_bk ?_ | refine forK_rt ?_
  | refine wE_v (by with_unfolding_all exact rfl) ?_ | refine wE_k ?_ | refine wE_bin ?_ | refine wE_neg ?_ | refine wE_not ?_ | refine wE_and ?_ | refine wE_or ?_ | refine wE_ite ?_ | refine wE_cmp ?_ | refine wE_chain ?_ | refine wE_call ?_ | refine wE_callK ?_ | refine wE_blt ?_ | refine wE_meth ?_ | refine wE_attr ?_ | refine wE_ix ?_ | refine wE_sl ?_ | refine wE_lst ?_ | refine wE_tup ?_ | refine wE_dic ?_ | refine wE_lc ?_
  | refine wA_nil ?_ | refine wA_cons ?_ | refine wA_star ?_
  | refine wT_not ?_ | refine wT_and ?_ | refine wT_or ?_ | refine wT_ite ?_ | refine wT_cmp ?_ | refine wT_chain ?_ | refine wT_no ?_ | refine wT_v (by with_unfolding_all exact rfl) ?_ | refine wT_call ?_ | refine wT_blt ?_ | refine wT_meth ?_ | refine wT_attr ?_ | refine wT_ix ?_
  | refine w_tru_bl ?_
  | refine wP_no ?_ | refine wP_k ?_ | refine wP_v (by with_unfolding_all exact rfl) ?_ | refine wP_neg ?_ | refine wP_bin ?_
  | refine wG_v ?_ | refine wG_tup ?_ | refine wG_attr ?_ | refine wG_ix ?_ | refine wGs_nil ?_ | refine wGs_cons ?_ | refine wU_tup ?_
  | refine wB_add ?_ | refine wB_sub ?_
  | refine wC_lt ?_ | refine wC_le ?_ | refine wC_gt ?_ | refine wC_ge ?_ | refine wC_eqs ?_ | refine wC_nes ?_ | refine wC_eqi ?_ | refine wC_nei ?_ | refine wC_is ?_ | refine wC_isn ?_ | refine wC_in ?_ | refine wC_nin ?_ | refine wN_str ?_
  | refine wF_lenT ?_ | refine wF_abs ?_ | refine wF_max ?_ | refine wF_min ?_ | refine wF_int ?_ | refine wF_intB ?_ | refine wF_tupT ?_ | refine wF_listT ?_ | refine wF_isin_str ?_ | refine wF_isin_int ?_
  | refine wL_tup ?_ | refine wM_str ?_
  | refine wp_pure ?_ | refine wp_bind ?_
  | refine and_len ?_ (by with_unfolding_all exact rfl) | refine par_ok (by with_unfolding_all exact rfl) ?_ | refine int_ok rfl ?_)
local macro_rules | `(tactic| bv_omega) => `(tactic| repeat (first | array_mem_dec | (with_reducible first | refine wp_if_t rfl ?_ | refine wp_if_f rfl ?_)))
local macro_rules | `(tactic| sizeOf_list_dec) => `(tactic| repeat array_mem_dec)
-- pot, upto, digit, prime, blend
def B_law_take (k1 k2 k3 k4 k5 : Int) : S := (.seq (.ife (.cmp .Gt (.ix (.v 0) (.k (.int 0))) (.k (.int 0))) (.seq (.asg (.v 2) (.bin .Mod (.blt .int (.cons (.ix (.v 0) (.k (.int 0))) .nil)) (.v 1))) (.seq (.asg (.ix (.v 0) (.k (.int 0))) (.bin .FloorDiv (.ix (.v 0) (.k (.int 0))) (.v 1))) (.seq (.ret (.v 2)) .done))) .done) (.seq (.asg (.ix (.v 0) (.k (.int 2))) (.bin .Add (.ix (.v 0) (.k (.int 2))) (.k (.int 1)))) (.seq (.asg (.v 3) (.ix (.lst (.cons (.k (.int 2147483647)) (.cons (.k (.int 2147483629)) (.cons (.k (.int 2147483587)) (.cons (.k (.int 2147483579)) (.cons (.k (.int 2147483563)) .nil)))))) (.bin .Mod (.blt .int (.cons (.ix (.v 0) (.k (.int 2))) .nil)) (.k (.int 5))))) (.seq (.asg (.v 4) (.bin .Mod (.blt .int (.cons (.bin .Pow (.blt .int (.cons (.bin .Add (.bin .Add (.ix (.v 0) (.k (.int 1))) (.bin .Mult (.bin .Mult (.k (.int k1)) (.ix (.v 0) (.k (.int 2)))) (.ix (.v 0) (.k (.int 2))))) (.k (.int k2))) .nil)) (.k (.int 3))) .nil)) (.v 3))) (.seq (.asg (.v 4) (.bin .Mod (.blt .int (.cons (.bin .Mult (.v 4) (.bin .Add (.bin .Mod (.blt .int (.cons (.v 4) .nil)) (.k (.int k3))) (.bin .Mult (.k (.int k4)) (.ix (.v 0) (.k (.int 2)))))) .nil)) (.k (.int 2305843009213693907)))) (.seq (.ret (.bin .Mod (.blt .int (.cons (.bin .FloorDiv (.v 4) (.k (.int k5))) .nil)) (.v 1))) .done))))))
abbrev F_law_take (k1 k2 k3 k4 k5 : Int) : Fn := ⟨2, 5, B_law_take k1 k2 k3 k4 k5⟩
-- script, place, cell, own, small
def B_law_pot (k1 k2 k3 k4 k5 : Int) : S := (.seq (.asg (.v 2) (.ite (.cmp .Lt (.v 1) (.blt .len (.cons (.v 0) .nil))) (.ix (.v 0) (.v 1)) (.bin .Add (.bin .Add (.bin .Mod (.blt .sum (.cons (.sl (.v 0) .no (.k (.int 1))) .nil)) (.k (.int 1000003))) (.bin .Mult (.k (.int k1)) (.v 1))) (.k (.int k2))))) (.seq (.asg (.v 3) (.bin .Mult (.bin .Mod (.blt .int (.cons (.blt .abs (.cons (.v 2) .nil)) .nil)) (.bin .Pow (.bin .Pow (.k (.int 10)) (.k (.int 60))) (.k (.int 5)))) (.blt .int (.cons (.cmp .GtE (.blt .abs (.cons (.v 2) .nil)) (.bin .Pow (.k (.int 10)) (.k (.int 18)))) .nil)))) (.seq (.asg (.v 4) (.bin .Mod (.blt .int (.cons (.v 2) .nil)) (.k (.int 2305843009213693951)))) (.seq (.ret (.lst (.cons (.v 3) (.cons (.bin .Mod (.blt .int (.cons (.bin .Add (.bin .Add (.bin .Mult (.v 4) (.k (.int k3))) (.bin .Mult (.bin .Mult (.k (.int k4)) (.v 1)) (.v 1))) (.k (.int k5))) .nil)) (.k (.int 2305843009213693921))) (.cons (.k (.int 0)) .nil))))) .done))))
abbrev F_law_pot (k1 k2 k3 k4 k5 : Int) : Fn := ⟨2, 5, B_law_pot k1 k2 k3 k4 k5⟩
-- pot, some
def B_law_of (l_take : Nat) : S := (.seq (.ret (.ix (.v 1) (.call l_take (.cons (.v 0) (.cons (.blt .len (.cons (.v 1) .nil)) .nil))))) .done)
abbrev F_law_of (l_take : Nat) : Fn := ⟨2, 2, B_law_of l_take⟩
-- pot, pool, many, left, found, lap
def B_law_some (l_take : Nat) : S := (.seq (.par [3, 4] (.cons (.blt .list (.cons (.v 1) .nil)) (.cons (.lst .nil) .nil))) (.seq (.for_ (.v 5) .range (.cons (.v 2) .nil) (.seq (.ex (.meth (.v 4) 0 (.cons (.meth (.v 3) 2 (.cons (.call l_take (.cons (.v 0) (.cons (.blt .len (.cons (.v 3) .nil)) .nil))) .nil)) .nil))) .done)) (.seq (.ret (.v 4)) .done)))
abbrev F_law_some (l_take : Nat) : Fn := ⟨3, 6, B_law_some l_take⟩
-- script, most
def B_law_cells : S := (.seq (.ret (.blt .listrange (.cons (.blt .max (.cons (.k (.int 1)) (.cons (.blt .min (.cons (.v 1) (.cons (.blt .len (.cons (.v 0) .nil)) .nil))) .nil))) .nil))) .done)
abbrev F_law_cells : Fn := ⟨2, 2, B_law_cells ⟩
-- pot, many, found, signs, lap, word, some, one, sign
def B_law_names (l_of l_take : Nat) : S := (.seq (.asg (.tup (.cons (.v 2) (.cons (.v 3) .nil))) (.tup (.cons (.lst .nil) (.cons (.k (.str [97, 98, 99, 100, 101, 102, 103, 104, 105, 106, 107, 108, 109, 110, 111, 112, 113, 114, 115, 116, 117, 118, 119, 120, 121, 122])) .nil)))) (.seq (.for_ (.v 4) .range (.cons (.v 1) .nil) (.seq (.asg (.v 5) (.meth (.k (.str [])) 4 (.cons (.lc (.call l_of (.cons (.v 0) (.cons (.v 3) .nil))) (.v 8) .range (.cons (.bin .Add (.k (.int 1)) (.call l_of (.cons (.v 0) (.cons (.lst (.cons (.k (.int 0)) (.cons (.k (.int 0)) (.cons (.k (.int 0)) (.cons (.k (.int 1)) (.cons (.k (.int 2)) (.cons (.k (.int 7)) .nil))))))) .nil)))) .nil) .no [8]) .nil))) (.seq (.ife (.cmp .Eq (.call l_take (.cons (.v 0) (.cons (.k (.int 11)) .nil))) (.k (.int 0))) (.seq (.asg (.v 5) (.call l_of (.cons (.v 0) (.cons (.lst (.cons (.k (.str [112, 108, 97, 99, 101, 115])) (.cons (.k (.str [109, 97, 114, 107])) (.cons (.k (.str [97, 114, 114, 111, 119])) (.cons (.k (.str [108, 101, 116])) (.cons (.k (.str [116, 97, 107, 101])) (.cons (.k (.str [119, 97, 121])) (.cons (.k (.str [110, 111, 116])) .nil)))))))) .nil)))) .done) .done) (.seq (.asg (.v 6) (.lc (.v 7) (.v 7) .self (.cons (.bin .Add (.lst (.cons (.v 5) .nil)) (.lc (.bin .Add (.v 8) (.sl (.v 5) (.k (.int 1)) .no)) (.v 8) .self (.cons (.v 3) .nil) .no [8])) .nil) (.cmp .NotIn (.v 7) (.v 2)) [7])) (.seq (.ex (.meth (.v 2) 0 (.cons (.ix (.v 6) (.k (.int 0))) .nil))) .done))))) (.seq (.ret (.v 2)) .done)))
abbrev F_law_names (l_of l_take : Nat) : Fn := ⟨2, 9, B_law_names l_of l_take⟩
open PySem.Builtin.Int (intBits)
theorem bits_le_of {x : Int} {m : Nat} (h : x.natAbs < 2 ^ m) : intBits x ≤ m := intBits_le_iff.mpr h
theorem bits60 {x : Int} (h0 : 0 ≤ x) (h : x < 2 ^ 60) : intBits x ≤ 60 := bits_le_of (by omega)
theorem bits32 {x : Int} (h0 : 0 ≤ x) (h : x < 2 ^ 32) : intBits x ≤ 32 := bits_le_of (by omega)
/-- the numbers that a draw takes, and how often it may still be drawn -/
structure Pot (p N : Nat) (h : AH) (a b c : Int) : Prop where
  at_ : At 0 h p (.lst [.int a, .int b, .int c])
  a0 : 0 ≤ a
  ab : intBits a ≤ 1000
  b0 : 0 ≤ b
  bb : intBits b ≤ 64
  c0 : 0 ≤ c
  cN : c + N ≤ 2 ^ 60
def PotN (p N : Nat) (h : AH) : Prop := ∃ a b c, Pot p N h a b c
theorem PotN.lt {p N : Nat} {h : AH} (q : PotN p N h) : p < h.n := let ⟨_, _, _, q⟩ := q; q.at_.lt
theorem PotN.weak {p N M : Nat} {h : AH} (q : PotN p N h) (l : M ≤ N) : PotN p M h := let ⟨a, b, c, q⟩ := q; ⟨a, b, c, q.at_, q.a0, q.ab, q.b0, q.bb, q.c0, by have := q.cN; omega⟩
theorem PotN.push {p N : Nat} {h : AH} (q : PotN p N h) (o : AObj) : PotN p N (h.push o) := let ⟨a, b, c, q⟩ := q; ⟨a, b, c, q.at_.push o, q.a0, q.ab, q.b0, q.bb, q.c0, q.cN⟩
theorem PotN.set {p N r : Nat} {h : AH} (q : PotN p N h) (o : AObj) (l : p < r) : PotN p N (h.set r o) := let ⟨a, b, c, q⟩ := q; ⟨a, b, c, q.at_.set_ne o (Nat.ne_of_lt l), q.a0, q.ab, q.b0, q.bb, q.c0, q.cN⟩
theorem PotN.kx {p N : Nat} {h h' : AH} (q : PotN p N h) (k : Kx h h') : PotN p N h' := let ⟨a, b, c, q⟩ := q; ⟨a, b, c, q.at_.kp k (Nat.le_refl _), q.a0, q.ab, q.b0, q.bb, q.c0, q.cN⟩
structure TakeOk (k1 k2 k3 k4 k5 : Int) : Prop where
  k1 : 0 ≤ k1 ∧ k1 < 2 ^ 32
  k2 : 0 ≤ k2 ∧ k2 < 2 ^ 32
  k3 : 0 < k3 ∧ k3 < 2 ^ 32
  k4 : 0 ≤ k4 ∧ k4 < 2 ^ 32
  k5 : 0 < k5 ∧ k5 < 2 ^ 32
theorem ten_eq : ∀ i : Int, 0 ≤ i → i < 5 → ∃ z : Int, atI ([.int 2147483647, .int 2147483629, .int 2147483587, .int 2147483579, .int 2147483563] : List AV) i = some (.int z) ∧ 0 < z ∧ z < 2 ^ 32 := by
  intro i h0 h1
  have : i = 0 ∨ i = 1 ∨ i = 2 ∨ i = 3 ∨ i = 4 := by omega
  rcases this with rfl | rfl | rfl | rfl | rfl
  · exact ⟨_, rfl, by decide, by decide⟩
  · exact ⟨_, rfl, by decide, by decide⟩
  · exact ⟨_, rfl, by decide, by decide⟩
  · exact ⟨_, rfl, by decide, by decide⟩
  · exact ⟨_, rfl, by decide, by decide⟩
section
variable {P : Pg} {d f : Nat} {h : AH} {Q : AV → AH → Prop} {k1 k2 k3 k4 k5 : Int} {p N : Nat}
theorem take_spec (hf : P.fn f = some (F_law_take k1 k2 k3 k4 k5)) (K : TakeOk k1 k2 k3 k4 k5) (q : PotN p N h) (hN : 1 ≤ N) {u : Int} (u0 : 0 < u) (u1 : u ≤ 2 ^ 60)
    (k : ∀ r h', 0 ≤ r → r < u → Kp (p + 1) h h' → h.n ≤ h'.n → PotN p (N - 1) h' → Q (.int r) h') : wp (callF P (d + 1) f [.ref p, .int u]) Q h := by
  obtain ⟨a, b, c, q⟩ := q
  have hp := q.at_
  refine w_call hf rfl ?_
  show wp (evS P (callF P d) (B_law_take k1 k2 k3 k4 k5) [some (.ref p), some (.int u), none, none, none]) _ _
  unfold B_law_take
  bv_omega
  refine wX_lst hp atI_0 ?_
  bv_omega
  refine wp_if (fun t => ?_) (fun t => ?_)
  · have t' := of_decide_eq_true t
    bv_omega
    refine wX_lst hp atI_0 ?_
    bv_omega
    refine wB_mod ?_ u0
    bv_omega
    refine wX_lst hp atI_0 ?_
    bv_omega
    refine wB_div ?_ ⟨u0, ?_⟩
    · bv_omega
      refine wS_lst ?_ hp rfl
      bv_omega
      refine k _ _ (Int.emod_nonneg _ (by omega)) (Int.emod_lt_of_pos _ u0) ((Kp.refl _ _).set_at _) (Nat.le_refl _) ⟨a / u, b, c, hp.set _, ?_, ?_, q.b0, q.bb, q.c0, by have := q.cN; omega⟩
      · exact Int.ediv_nonneg q.a0 (by omega)
      · exact intBits_le_of_natAbs (by
          have := Int.ediv_le_self u q.a0
          have := Int.ediv_nonneg q.a0 (show 0 ≤ u by omega)
          omega) q.ab
    · have : u.natAbs ≤ 2 ^ 60 := by omega
      have : u.natAbs.log2 ≤ 60 := by
        rcases Nat.eq_zero_or_pos u.natAbs with z | z
        · simp [z]
        · exact (Nat.log2_lt (by omega)).mpr (by omega) |> Nat.le_of_lt_succ
      omega
  · have bu : intBits u ≤ 61 := bits_le_of (by omega)
    have c1 : intBits (c + 1) ≤ 61 := bits_le_of (by have := q.c0; have := q.cN; omega)
    have bk1 := bits32 K.k1.1 K.k1.2
    have bk2 := bits32 K.k2.1 K.k2.2
    have bk3 := bits32 (Int.le_of_lt K.k3.1) K.k3.2
    have bk4 := bits32 K.k4.1 K.k4.2
    bv_omega
    refine wX_lst hp atI_2 ?_
    bv_omega
    refine wS_lst (j := 2) ?_ hp rfl
    have hp1 : At 0 (h.set p (.lst [.int a, .int b, .int (c + 1)])) p (.lst [.int a, .int b, .int (c + 1)]) := hp.set _
    show wp _ _ (h.set p (.lst [.int a, .int b, .int (c + 1)]))
    bv_omega
    refine wX_lst (hp1.push _) atI_2 ?_
    bv_omega
    refine wB_mod ?_ (by decide)
    obtain ⟨z, ez, z0, z1⟩ := ten_eq ((c + 1) % 5) (Int.emod_nonneg _ (by decide)) (Int.emod_lt_of_pos _ (by decide))
    have bz := bits32 (Int.le_of_lt z0) z1
    refine wX_lst (At.new _ (Nat.zero_le _)) ez ?_
    bv_omega
    refine wX_lst (hp1.push _) atI_1 ?_
    bv_omega
    refine wX_lst (hp1.push _) atI_2 ?_
    refine wB_mul ?_ (by omega)
    bv_omega
    refine wX_lst (hp1.push _) atI_2 ?_
    have m1 := intBits_mul_le bk1 c1
    refine wB_mul ?_ (by omega)
    have m2 := intBits_mul_le m1 c1
    bv_omega
    have m3 := intBits_add_le (intBits_add_le q.bb m2) bk2
    refine wB_pow ?_ ⟨by decide, by omega⟩
    bv_omega
    refine wB_mod ?_ z0
    have m4 : intBits ((b + k1 * (c + 1) * (c + 1) + k2) ^ (3 : Int).toNat % z) ≤ 32 := bits32 (Int.emod_nonneg _ (by omega)) (Int.lt_trans (Int.emod_lt_of_pos _ z0) z1)
    generalize (b + k1 * (c + 1) * (c + 1) + k2) ^ (3 : Int).toNat % z = y at m4
    bv_omega
    refine wB_mod ?_ K.k3.1
    bv_omega
    refine wX_lst (hp1.push _) atI_2 ?_
    refine wB_mul ?_ (by omega)
    bv_omega
    have m5 := intBits_add_le (PyProof.Rows.bits_emod m4 bk3) (intBits_mul_le bk4 c1)
    refine wB_mul ?_ (by omega)
    bv_omega
    refine wB_mod ?_ (by decide)
    bv_omega
    refine wB_div ?_ ⟨K.k5.1, ?_⟩
    · bv_omega
      refine wB_mod ?_ u0
      bv_omega
      refine k _ _ (Int.emod_nonneg _ (by omega)) (Int.emod_lt_of_pos _ u0) (((Kp.refl _ _).set_at _).push _) (Nat.le_succ _) ⟨a, b, c + 1, hp1.push _, q.a0, q.ab, q.b0, q.bb, by have := q.c0; omega, by have := q.cN; omega⟩
    · have hk := K.k5
      have : k5.natAbs.log2 < 32 := (Nat.log2_lt (by omega)).mpr (by omega)
      omega
end
theorem cut_tail {α : Type} (xs : List α) : cutA xs (some 1) none = xs.drop 1 := by
  simp only [cutA, HT.sIx]
  rw [if_neg (by decide)]
  cases xs with
  | nil => rfl
  | cons x xs =>
    have : min (1 : Int).toNat (x :: xs).length = 1 := by simp
    rw [this]
    simp [List.take_of_length_le]
theorem cut_tail2 {α : Type} (xs : List α) : cutA xs (some 2) none = xs.drop 2 := by
  simp only [cutA, HT.sIx]
  rw [if_neg (by decide)]
  by_cases h : 2 ≤ xs.length
  · have : min (2 : Int).toNat xs.length = 2 := by simp [h]
    rw [this, List.take_of_length_le (by simp)]
  · have : min (2 : Int).toNat xs.length = xs.length := by simp; omega
    rw [this, List.drop_length, List.drop_eq_nil_of_le (by omega), List.take_nil]
theorem cut_head1 {α : Type} (xs : List α) : cutA xs none (some 1) = xs.take 1 := by
  simp only [cutA, HT.sIx]
  rw [if_neg (by decide)]
  cases xs with
  | nil => rfl
  | cons x xs =>
    have : min (1 : Int).toNat (x :: xs).length = 1 := by simp
    rw [this]
    simp
structure PotOk (k1 k2 k3 k4 k5 : Int) : Prop where
  k1 : 0 ≤ k1 ∧ k1 < 2 ^ 32
  k2 : 0 ≤ k2 ∧ k2 < 2 ^ 32
  k3 : 0 ≤ k3 ∧ k3 < 2 ^ 32
  k4 : 0 ≤ k4 ∧ k4 < 2 ^ 32
  k5 : 0 ≤ k5 ∧ k5 < 2 ^ 32
section
variable {P : Pg} {d f : Nat} {h : AH} {Q : AV → AH → Prop} {k1 k2 k3 k4 k5 : Int} {p N : Nat}
theorem p300 : ((10 : Int) ^ (60 : Int).toNat) ^ (5 : Int).toNat = ((10 ^ 300 : Nat) : Int) := by decide +kernel
theorem pot_fin {cell place : Int} (hc : intBits cell ≤ 1048577) (p0 : 0 ≤ place) (p1 : place < 2 ^ 32) (K : PotOk k1 k2 k3 k4 k5) {cf : CF} (hN : N ≤ 2 ^ 60)
    (k : ∀ a b : Int, 0 ≤ a → intBits a ≤ 1000 → 0 ≤ b → intBits b ≤ 64 → Q (.ref h.n) (h.push (.lst [.int a, .int b, .int 0]))) {s0 : Option AV} {b : S}
    (hb : b = (.seq (.asg (.v 3) (.bin .Mult (.bin .Mod (.blt .int (.cons (.blt .abs (.cons (.v 2) .nil)) .nil)) (.bin .Pow (.bin .Pow (.k (.int 10)) (.k (.int 60))) (.k (.int 5)))) (.blt .int (.cons (.cmp .GtE (.blt .abs (.cons (.v 2) .nil)) (.bin .Pow (.k (.int 10)) (.k (.int 18)))) .nil)))) (.seq (.asg (.v 4) (.bin .Mod (.blt .int (.cons (.v 2) .nil)) (.k (.int 2305843009213693951)))) (.seq (.ret (.lst (.cons (.v 3) (.cons (.bin .Mod (.blt .int (.cons (.bin .Add (.bin .Add (.bin .Mult (.v 4) (.k (.int k3))) (.bin .Mult (.bin .Mult (.k (.int k4)) (.v 1)) (.v 1))) (.k (.int k5))) .nil)) (.k (.int 2305843009213693921))) (.cons (.k (.int 0)) .nil))))) .done)))) :
    wp (evS P cf b [s0, some (.int place), some (.int cell), none, none]) (retK Q) h := by
  subst hb
  have bp := bits32 p0 p1
  have bk3 := bits32 K.k3.1 K.k3.2
  have bk4 := bits32 K.k4.1 K.k4.2
  have bk5 := bits32 K.k5.1 K.k5.2
  bv_omega
  have ba : intBits (if cell < 0 then -cell else cell) ≤ 1048577 := by
    split
    · exact intBits_neg_le hc
    · exact hc
  have pa : 0 ≤ (if cell < 0 then -cell else cell) := by split <;> omega
  obtain ⟨z, hz⟩ : ∃ z, z = (if cell < 0 then -cell else cell) := ⟨_, rfl⟩
  rw [← hz] at ba pa ⊢
  refine wB_pow ?_ ⟨by decide, by decide +kernel⟩
  bv_omega
  refine wB_pow ?_ ⟨by decide, by decide +kernel⟩
  rw [p300]
  refine wB_mod ?_ (by decide +kernel)
  bv_omega
  refine wB_pow ?_ ⟨by decide, by decide +kernel⟩
  bv_omega
  have b1 : intBits (z % ((10 ^ 300 : Nat) : Int)) ≤ 1000 := by
    have g1 := Int.emod_nonneg z (show ((10 ^ 300 : Nat) : Int) ≠ 0 by decide +kernel)
    have g2 := Int.emod_lt_of_pos z (show 0 < ((10 ^ 300 : Nat) : Int) by decide +kernel)
    refine bits_le_of (Nat.lt_trans (m := 10 ^ 300) ?_ (by decide +kernel))
    omega
  have g1 := Int.emod_nonneg z (show ((10 ^ 300 : Nat) : Int) ≠ 0 by decide +kernel)
  generalize z % ((10 ^ 300 : Nat) : Int) = y at b1 g1
  rw [← hz]
  generalize decide ((10 : Int) ^ (18 : Int).toNat ≤ z) = bb
  have bb1 : intBits (if bb = true then 1 else 0) ≤ 1 := by cases bb <;> decide
  have bb0 : (0 : Int) ≤ (if bb = true then 1 else 0) := by cases bb <;> decide
  have bb2 : (if bb = true then (1 : Int) else 0) ≤ 1 := by cases bb <;> decide
  refine wB_mul ?_ (by omega)
  have by0 : 0 ≤ y * (if bb = true then 1 else 0) := Int.mul_nonneg g1 bb0
  have by1 : intBits (y * (if bb = true then 1 else 0)) ≤ 1000 := by
    cases bb with
    | true => simpa using b1
    | false => simp [intBits]
  generalize y * (if bb = true then (1 : Int) else 0) = a at by0 by1
  bv_omega
  refine wB_mod ?_ (by decide)
  bv_omega
  have b2 : intBits (cell % 2305843009213693951) ≤ 61 := by
    have g1 := Int.emod_nonneg cell (show (2305843009213693951 : Int) ≠ 0 by decide)
    have g2 := Int.emod_lt_of_pos cell (show (0 : Int) < 2305843009213693951 by decide)
    exact bits_le_of (by omega)
  generalize cell % 2305843009213693951 = m at b2
  refine wB_mul ?_ (by omega)
  bv_omega
  refine wB_mul ?_ (by omega)
  have m1 := intBits_mul_le bk4 bp
  bv_omega
  refine wB_mul ?_ (by omega)
  bv_omega
  refine wB_mod ?_ (by decide)
  bv_omega
  refine k _ _ by0 by1 (Int.emod_nonneg _ (by decide)) ?_
  generalize m * k3 + k4 * place * place + k5 = w
  have g1 := Int.emod_nonneg w (show (2305843009213693921 : Int) ≠ 0 by decide)
  have g2 := Int.emod_lt_of_pos w (show (0 : Int) < 2305843009213693921 by decide)
  exact bits_le_of (by omega)
theorem pot_spec (hf : P.fn f = some (F_law_pot k1 k2 k3 k4 k5)) (K : PotOk k1 k2 k3 k4 k5) {b : Nat} {ns : List Int} (a : At b h 0 (.ro (.lst (ns.map .int)))) (hns : ∀ z ∈ ns, intBits z ≤ 1048576) (hl : ns.length ≤ 63) {place : Nat} (hp : place < 1000)
    (hN : N ≤ 2 ^ 60) (k : ∀ p h', h.n ≤ p → p < h'.n → Kx h h' → PotN p N h' → Q (.ref p) h') : wp (callF P (d + 1) f [.ref 0, .int (place : Nat)]) Q h := by
  refine w_call hf rfl ?_
  show wp (evS P (callF P d) (B_law_pot k1 k2 k3 k4 k5) [some (.ref 0), some (.int (place : Nat)), none, none, none]) _ _
  unfold B_law_pot
  have fin : ∀ (cell : Int) (h' : AH), intBits cell ≤ 1048577 → Kx h h' → ∀ {s0 b}, _ → wp (evS P (callF P d) b [s0, some (.int (place : Nat)), some (.int cell), none, none]) (retK Q) h' := fun cell h' hc kk {s0 b} hb => pot_fin hc (Int.natCast_nonneg _) (by omega) K hN (fun x y x0 xb y0 yb => k h'.n _ kk.le (Nat.lt_succ_self _) (kk.push _) ⟨x, y, 0, At.new _ (Nat.zero_le _), x0, xb, y0, yb, Int.le_refl _, by omega⟩) hb
  refine wS_seq (wS_asg (wE_ite ?_))
  bv_omega
  refine wF_lenLro ?_ a
  bv_omega
  refine wp_if (fun t => ?_) (fun t => ?_)
  · have t' := of_decide_eq_true t
    rw [List.length_map] at t'
    have hlt : place < ns.length := by omega
    bv_omega
    refine wX_ro a (x := .int ns[place]) (by rw [atI_nat, List.getElem?_map, List.getElem?_eq_getElem hlt]; rfl) ?_
    refine wG_v (seqK_nx (fin _ _ (Nat.le_succ_of_le (hns _ (List.getElem_mem hlt))) (Kp.refl _ _) rfl))
  · bv_omega
    refine wL_ro ?_ a
    rw [cutA_map, cut_head1]
    bv_omega
    refine wF_sum (sumI_map _) ?_ (At.new _ (Nat.zero_le _))
    bv_omega
    refine wB_mod ?_ (by decide)
    bv_omega
    have bk1 := bits32 K.k1.1 K.k1.2
    have bk2 := bits32 K.k2.1 K.k2.2
    have bp : intBits ((place : Nat) : Int) ≤ 32 := bits32 (Int.natCast_nonneg _) (by omega)
    refine wB_mul (wB_add (wE_k (wB_add (wG_v (seqK_nx (fin _ _ ?_ ((Kp.refl _ _).push _) rfl)))))) (by omega)
    have b1 : intBits ((ns.take 1).sum % 1000003) ≤ 32 := bits32 (Int.emod_nonneg _ (by decide)) (Int.lt_trans (Int.emod_lt_of_pos _ (by decide)) (by decide))
    have := intBits_add_le (intBits_add_le b1 (intBits_mul_le bk1 bp)) bk2
    omega
end
section
variable {P : Pg} {d f t : Nat} {h : AH} {Q : AV → AH → Prop} {k1 k2 k3 k4 k5 : Int} {p N : Nat}
/-- the draws that a program has -/
structure Draw (P : Pg) (t : Nat) : Prop where
  fn : ∃ k1 k2 k3 k4 k5, P.fn t = some (F_law_take k1 k2 k3 k4 k5) ∧ TakeOk k1 k2 k3 k4 k5
theorem Draw.spec (D : Draw P t) (q : PotN p N h) (hN : 1 ≤ N) {u : Int} (u0 : 0 < u) (u1 : u ≤ 2 ^ 60)
    (k : ∀ r h', 0 ≤ r → r < u → Kp (p + 1) h h' → h.n ≤ h'.n → PotN p (N - 1) h' → Q (.int r) h') : wp (callF P (d + 1) t [.ref p, .int u]) Q h := by
  obtain ⟨_, _, _, _, _, hf, K⟩ := D.fn
  exact take_spec hf K q hN u0 u1 k
theorem of_lst (D : Draw P t) (hf : P.fn f = some (F_law_of t)) (q : PotN p N h) (hN : 1 ≤ N) {r : Nat} {xs : List AV} (a : At (p + 1) h r (.lst xs)) (ne : xs ≠ []) (l : xs.length ≤ 2 ^ 60)
    (k : ∀ x h', x ∈ xs → Kp (p + 1) h h' → h.n ≤ h'.n → PotN p (N - 1) h' → Q x h') : wp (callF P (d + 2) f [.ref p, .ref r]) Q h := by
  refine w_call hf rfl ?_
  show wp (evS P (callF P (d + 1)) (B_law_of t) [some (.ref p), some (.ref r)]) _ _
  unfold B_law_of
  have hl : 0 < xs.length := List.length_pos_iff.mpr ne
  bv_omega
  refine wF_lenL ?_ a
  bv_omega
  refine D.spec q hN (by omega) (by omega) fun i h' i0 i1 kp hn q' => ?_
  obtain ⟨n, rfl⟩ := Int.eq_ofNat_of_zero_le i0
  have hi : n < xs.length := by omega
  refine wX_lst (a.kp kp (Nat.le_refl _)) (x := xs[n]) (by rw [atI_nat, List.getElem?_eq_getElem hi]) ?_
  bv_omega
  exact k _ _ (List.getElem_mem hi) kp hn q'
theorem of_str (D : Draw P t) (hf : P.fn f = some (F_law_of t)) (q : PotN p N h) (hN : 1 ≤ N) {xs : List Nat} (ne : xs ≠ []) (l : xs.length ≤ 16777216)
    (k : ∀ x h', x ∈ xs → Kp (p + 1) h h' → h.n ≤ h'.n → PotN p (N - 1) h' → Q (.str [x]) h') : wp (callF P (d + 2) f [.ref p, .str xs]) Q h := by
  refine w_call hf rfl ?_
  show wp (evS P (callF P (d + 1)) (B_law_of t) [some (.ref p), some (.str xs)]) _ _
  unfold B_law_of
  have hl : 0 < xs.length := List.length_pos_iff.mpr ne
  bv_omega
  refine wF_lenS ?_ l
  bv_omega
  refine D.spec q hN (by omega) (by omega) fun i h' i0 i1 kp hn q' => ?_
  obtain ⟨n, rfl⟩ := Int.eq_ofNat_of_zero_le i0
  have hi : n < xs.length := by omega
  refine wX_str (x := xs[n]) (by rw [atI_nat, List.getElem?_eq_getElem hi]) l ?_
  bv_omega
  exact k _ _ (List.getElem_mem hi) kp hn q'
theorem of_tup (D : Draw P t) (hf : P.fn f = some (F_law_of t)) (q : PotN p N h) (hN : 1 ≤ N) {xs : List AV} (ne : xs ≠ []) (l : xs.length ≤ 16777216)
    (k : ∀ x h', x ∈ xs → Kp (p + 1) h h' → h.n ≤ h'.n → PotN p (N - 1) h' → Q x h') : wp (callF P (d + 2) f [.ref p, .tup xs]) Q h := by
  refine w_call hf rfl ?_
  show wp (evS P (callF P (d + 1)) (B_law_of t) [some (.ref p), some (.tup xs)]) _ _
  unfold B_law_of
  have hl : 0 < xs.length := List.length_pos_iff.mpr ne
  bv_omega
  refine D.spec q hN (by omega) (by omega) fun i h' i0 i1 kp hn q' => ?_
  obtain ⟨n, rfl⟩ := Int.eq_ofNat_of_zero_le i0
  have hi : n < xs.length := by omega
  refine wX_tup (x := xs[n]) (by rw [atI_nat, List.getElem?_eq_getElem hi]) ?_
  bv_omega
  exact k _ _ (List.getElem_mem hi) kp hn q'
theorem cells_spec (hf : P.fn f = some F_law_cells) {b : Nat} {xs : List AV} (a : At b h 0 (.ro (.lst xs))) {m : Nat} (hm : 1 ≤ m ∧ m < 1000) (k : ∀ j : Nat, j ≤ m → Q (.ref h.n) (h.push (.lst ((List.range j).map fun k => .int (k : Nat))))) : wp (callF P (d + 1) f [.ref 0, .int (m : Nat)]) Q h := by
  refine w_call hf rfl ?_
  show wp (evS P (callF P d) B_law_cells [some (.ref 0), some (.int (m : Nat))]) _ _
  unfold B_law_cells
  bv_omega
  refine wF_lenLro ?_ a
  bv_omega
  have g1 : (if (if (xs.length : Int) < (m : Nat) then (xs.length : Int) else (m : Nat)) > 1 then (if (xs.length : Int) < (m : Nat) then (xs.length : Int) else (m : Nat)) else 1) ≤ (m : Int) := by split <;> (try split) <;> omega
  have g0 : 1 ≤ (if (if (xs.length : Int) < (m : Nat) then (xs.length : Int) else (m : Nat)) > 1 then (if (xs.length : Int) < (m : Nat) then (xs.length : Int) else (m : Nat)) else 1) := by split <;> (try split) <;> omega
  generalize (if (if (xs.length : Int) < (m : Nat) then (xs.length : Int) else (m : Nat)) > 1 then (if (xs.length : Int) < (m : Nat) then (xs.length : Int) else (m : Nat)) else 1) = j at g0 g1
  refine wF_lrange ?_ ⟨by omega, by omega⟩
  bv_omega
  exact k _ (by omega)
end

section
variable {P : Pg} {d f t : Nat} {h : AH} {Q : AV → AH → Prop} {p N : Nat}
theorem eraseIdx_perm {α : Type} : ∀ {xs : List α} {j : Nat} (hj : j < xs.length), (xs[j] :: xs.eraseIdx j).Perm xs
  | x :: xs, 0, _ => .refl _
  | x :: xs, j + 1, hj => by
    have ih := eraseIdx_perm (xs := xs) (j := j) (by simpa using hj)
    simp only [List.getElem_cons_succ, List.eraseIdx_cons_succ]
    exact (List.Perm.swap x _ _).trans (ih.cons x)
theorem some_spec (D : Draw P t) (hf : P.fn f = some (F_law_some t)) (q : PotN p N h) {m : Nat} (hN : m ≤ N) {r : Nat} {xs : List AV} (a : At (p + 1) h r (.lst xs)) (l : xs.length < 16777216) (hm : m ≤ xs.length)
    (k : ∀ fo ys rest h', h.n ≤ fo → At (p + 1) h' fo (.lst ys) → (ys ++ rest).Perm xs → ys.length = m → Kp (p + 1) h h' → h.n ≤ h'.n → PotN p (N - m) h' → Q (.ref fo) h') : wp (callF P (d + 2) f [.ref p, .ref r, .int (m : Nat)]) Q h := by
  refine w_call hf rfl ?_
  show wp (evS P (callF P (d + 1)) (B_law_some t) [some (.ref p), some (.ref r), some (.int (m : Nat)), none, none, none]) _ _
  unfold B_law_some
  have hp := q.lt
  bv_omega
  refine wF_listL ?_ a
  bv_omega
  refine wK_range ?_ ⟨by omega, by omega⟩
  have sz : (Src.fix (rangeA 0 (m : Nat))).most ((h.push (.lst xs)).push (.lst [])) = (rangeA 0 (m : Nat)).length := rfl
  have ln : (rangeA 0 (m : Nat)).length = m := by rw [rangeA_len]; omega
  refine wp_for (xs := rangeA 0 (m : Nat)) (fun i σ h' => ∃ left found v5, σ = [some (.ref p), some (.ref r), some (.int (m : Nat)), some (.ref h.n), some (.ref (h.n + 1)), v5] ∧ Kp (p + 1) h h' ∧ At (p + 1) h' h.n (.lst left) ∧ At (p + 1) h' (h.n + 1) (.lst found) ∧ (found ++ left).Perm xs ∧ found.length = i ∧ i ≤ m ∧ PotN p (N - i) h')
    (fun i σ h' _ => Src.is_fix _ _) ?_ ?_ _ 0 _ _ (by rw [sz, Nat.zero_add]) ?_
  · rintro i x σ h' hx ⟨left, found, v5, rfl, kp, al, af, pm, fl, hi, pq⟩
    have hi' : i < m := by have := (List.getElem?_eq_some_iff.mp hx).1; omega
    have pl := pm.length_eq
    rw [List.length_append] at pl
    bv_omega
    refine wM_lst ?_ af
    bv_omega
    refine wM_lst ?_ al
    bv_omega
    refine wF_lenL ?_ al
    bv_omega
    refine D.spec pq (by omega) (by omega) (by omega) fun j h1 j0 j1 kp1 hn1 pq1 => ?_
    bv_omega
    obtain ⟨n, rfl⟩ := Int.eq_ofNat_of_zero_le j0
    have hn : n < left.length := by omega
    have al1 := al.kp kp1 (Nat.le_refl _)
    have af1 := af.kp kp1 (Nat.le_refl _)
    refine wm_popi al1 ⟨by omega, by omega⟩ (j := n) (y := left[n]) (by unfold ixN; rw [if_pos (Int.natCast_nonneg _), if_pos (by omega)]; rfl) (List.getElem?_eq_getElem hn) ?_
    have af2 := af1.set_ne (.lst (left.eraseIdx n)) (show h.n + 1 ≠ h.n by omega)
    have al2 := al1.set (.lst (left.eraseIdx n))
    bv_omega
    refine wm_app ?_ af2 (by omega)
    bv_omega
    refine ⟨_, _, _, rfl, ((kp.trans kp1).set _ (Nat.le_refl _)).set _ (Nat.le_succ _), al2.set_ne _ (by omega), af2.set _, ?_, by simp [fl], hi', ?_⟩
    · have e1 := eraseIdx_perm hn
      rw [List.append_assoc]
      exact ((e1.append_left found).trans pm)
    · have := (pq1.set (.lst (left.eraseIdx n)) hp).set (.lst (found ++ [left[n]])) (show p < h.n + 1 by omega)
      rw [Nat.sub_sub] at this
      exact this
  · rintro σ h' ⟨left, found, v5, rfl, kp, al, af, pm, fl, hi, pq⟩
    rw [ln] at fl pq
    bv_omega
    exact k _ _ _ _ (Nat.le_succ _) af pm fl kp kp.le pq
  · exact ⟨xs, [], none, rfl, ((Kp.refl _ _).push _).push _, (At.new _ (by omega)).push _, At.new _ (by simp only [AH.n_push]; omega), .refl _, rfl, Nat.zero_le _, (q.push _).push _⟩
end
end PM
end
section
set_option maxHeartbeats 400000
/-! PL3: drawn names. -/
namespace PM
open PySem
local macro_rules | `(tactic| array_get_dec) => `(tactic| repeat' (first
  | assumption
  | exact At.new _ (by first | exact Nat.zero_le _ | omega | (simp only [AH.n_push, AH.n_set]; omega))
  | refine At.push ?_ _
  | refine At.set (by assumption) _
  | refine At.set_ne ?_ _ (by first | assumption | omega | (simp only [AH.n_push, AH.n_set]; omega))
  | refine At.kp (by assumption) ?_ (by first | exact Nat.le_refl _ | exact Nat.zero_le _ | omega)))
local macro_rules | `(tactic| array_mem_dec) => `(tactic| with_reducible first
  | refine wS_seq ?_ | refine wS_asg ?_ | refine wS_par ?_ | refine wS_aug (by with_unfolding_all exact rfl) ?_ | refine wS_ex ?_ | refine wS_ret (by with_unfolding_all exact nofun) ?_ | refine wS_ret0 ?_ | refine wS_ife ?_ | refine wS_brk ?_ | refine wS_cnt ?_ | refine wS_pass ?_ | refine wS_done ?_ | refine wS_for ?_
  | refine seqK_nx ?_ | refine seqK_rt ?_ | refine seqK_bk ?_ | refine seqK_ct ?_ | refine retK_nx ?_ | refine retK_rt ?_ | refine forK_nx ?_ | refine forK_ct ?_ | refine forK_bk ?_ | refine forK_rt ?_
  | refine wE_v (by with_unfolding_all exact rfl) ?_ | refine wE_k ?_ | refine wE_bin ?_ | refine wE_neg ?_ | refine wE_not ?_ | refine wE_and ?_ | refine wE_or ?_ | refine wE_ite ?_ | refine wE_cmp ?_ | refine wE_chain ?_ | refine wE_call ?_ | refine wE_callK ?_ | refine wE_blt ?_ | refine wE_meth ?_ | refine wE_attr ?_ | refine wE_ix ?_ | refine wE_sl ?_ | refine wE_lst ?_ | refine wE_tup ?_ | refine wE_dic ?_ | refine wE_lc ?_
  | refine wA_nil ?_ | refine wA_cons ?_ | refine wA_star ?_
  | refine wT_not ?_ | refine wT_and ?_ | refine wT_or ?_ | refine wT_ite ?_ | refine wT_cmp ?_ | refine wT_chain ?_ | refine wT_no ?_ | refine wT_v (by with_unfolding_all exact rfl) ?_ | refine wT_call ?_ | refine wT_blt ?_ | refine wT_meth ?_ | refine wT_attr ?_ | refine wT_ix ?_
  | refine w_tru_bl ?_
  | refine wP_no ?_ | refine wP_k ?_ | refine wP_v (by with_unfolding_all exact rfl) ?_ | refine wP_neg ?_ | refine wP_bin ?_
  | refine wG_v ?_ | refine wG_tup ?_ | refine wG_attr ?_ | refine wG_ix ?_ | refine wGs_nil ?_ | refine wGs_cons ?_ | refine wU_tup ?_
  | refine wB_add ?_ | refine wB_sub ?_
  | refine wC_lt ?_ | refine wC_le ?_ | refine wC_gt ?_ | refine wC_ge ?_ | refine wC_eqs ?_ | refine wC_nes ?_ | refine wC_eqi ?_ | refine wC_nei ?_ | refine wC_is ?_ | refine wC_isn ?_ | refine wC_in ?_ | refine wC_nin ?_ | refine wN_str ?_
  | refine wF_lenT ?_ | refine wF_abs ?_ | refine wF_max ?_ | refine wF_min ?_ | refine wF_int ?_ | refine wF_intB ?_ | refine wF_tupT ?_ | refine wF_listT ?_ | refine wF_isin_str ?_ | refine wF_isin_int ?_
  | refine wL_tup ?_ | refine wM_str ?_
  | refine wp_pure ?_ | refine wp_bind ?_
  | refine and_len ?_ (by with_unfolding_all exact rfl) | refine par_ok (by with_unfolding_all exact rfl) ?_ | refine int_ok rfl ?_)
local macro_rules | `(tactic| bv_omega) => `(tactic| repeat (first | array_mem_dec | (with_reducible first | refine wp_if_t rfl ?_ | refine wp_if_f rfl ?_)))
local macro_rules | `(tactic| sizeOf_list_dec) => `(tactic| repeat array_mem_dec)
abbrev LET : List Nat := [97, 98, 99, 100, 101, 102, 103, 104, 105, 106, 107, 108, 109, 110, 111, 112, 113, 114, 115, 116, 117, 118, 119, 120, 121, 122]
structure NameOk (w : List Nat) : Prop where
  l0 : 1 ≤ w.length
  l1 : w.length ≤ 8
  all : ∀ c ∈ w, c ∈ LET
theorem nodup_len {α : Type} [DecidableEq α] : ∀ {xs ys : List α}, xs.Nodup → (∀ x ∈ xs, x ∈ ys) → xs.length ≤ ys.length
  | [], _, _, _ => Nat.zero_le _
  | x :: xs, ys, hn, hs => by
    rw [List.nodup_cons] at hn
    have hx := hs x (List.mem_cons_self ..)
    have ih := nodup_len (xs := xs) (ys := ys.erase x) hn.2 fun y hy => (List.mem_erase_of_ne (fun e => hn.1 (by subst e; exact hy))).mpr (hs y (List.mem_cons_of_mem _ hy))
    rw [List.length_erase_of_mem hx] at ih
    have := List.length_pos_of_mem hx
    simp only [List.length_cons]
    omega
theorem join_nil : ∀ w : List Nat, TL.joinL [] (w.map fun c => [c]) = w
  | [] => rfl
  | [c] => rfl
  | c :: c' :: w => by
    have ih := join_nil (c' :: w)
    show [c] ++ ([] ++ TL.joinL [] ((c' :: w).map fun c => [c])) = _
    rw [ih]; rfl
theorem sum_ones : ∀ w : List Nat, ((w.map fun c => [c]).map (·.length)).sum = w.length
  | [] => rfl
  | c :: w => by
    have ih := sum_ones w
    simp only [List.map_cons, List.sum_cons, List.length_cons, ih, List.length_nil]
    omega
theorem oddWords : ∀ x ∈ ([.str [112, 108, 97, 99, 101, 115], .str [109, 97, 114, 107], .str [97, 114, 114, 111, 119], .str [108, 101, 116], .str [116, 97, 107, 101], .str [119, 97, 121], .str [110, 111, 116]] : List AV), ∃ w, x = .str w ∧ NameOk w := by
  intro x hx
  simp only [List.mem_cons, List.not_mem_nil, or_false] at hx
  rcases hx with rfl | rfl | rfl | rfl | rfl | rfl | rfl <;> exact ⟨_, rfl, by decide, by decide, by decide⟩
section
variable {P : Pg} {d f t o : Nat} {h : AH} {Q : AV → AH → Prop} {p N : Nat}
theorem names_spec (D : Draw P t) (ho : P.fn o = some (F_law_of t)) (hf : P.fn f = some (F_law_names o t)) (q : PotN p N h) {m : Nat} (hN : 11 * m ≤ N) (hm : m ≤ 26)
    (k : ∀ (fo : Nat) (ws : List (List Nat)) (h' : AH), h.n ≤ fo → At (p + 1) h' fo (.lst (ws.map .str)) → ws.length = m → ws.Nodup → (∀ w ∈ ws, NameOk w) → Kp (p + 1) h h' → h.n ≤ h'.n → PotN p (N - 11 * m) h' → Q (.ref fo) h') : wp (callF P (d + 3) f [.ref p, .int (m : Nat)]) Q h := by
  refine w_call hf rfl ?_
  show wp (evS P (callF P (d + 2)) (B_law_names o t) [some (.ref p), some (.int (m : Nat)), none, none, none, none, none, none, none]) _ _
  unfold B_law_names
  have hp := q.lt
  bv_omega
  refine wK_range ?_ ⟨by omega, by omega⟩
  have sz : (Src.fix (rangeA 0 (m : Nat))).most (h.push (.lst [])) = (rangeA 0 (m : Nat)).length := rfl
  have ln : (rangeA 0 (m : Nat)).length = m := by rw [rangeA_len]; omega
  refine wp_for (xs := rangeA 0 (m : Nat)) (fun i σ h' => ∃ (found : List (List Nat)) (v4 v5 v6 v7 v8 : Option AV), σ = [some (.ref p), some (.int (m : Nat)), some (.ref h.n), some (.str LET), v4, v5, v6, v7, v8] ∧ Kp (p + 1) h h' ∧ At (p + 1) h' h.n (.lst (found.map .str)) ∧ found.length = i ∧ found.Nodup ∧ (∀ w ∈ found, NameOk w) ∧ i ≤ m ∧ PotN p (N - 11 * i) h')
    (fun i σ h' _ => Src.is_fix _ _) ?_ ?_ _ 0 _ _ (by rw [sz, Nat.zero_add]) ?_
  · rintro i x σ h' hx ⟨found, v4, v5, v6, v7, v8, rfl, kp, af, fl, fn, fok, hi, pq⟩
    have hi' : i < m := by have := (List.getElem?_eq_some_iff.mp hx).1; omega
    -- the word is drawn; then the first new one near to it is put
    have rest : ∀ (w : List Nat) (h1 : AH) (v8' : Option AV), NameOk w → Kp (p + 1) h h1 → At (p + 1) h1 h.n (.lst (found.map .str)) → PotN p (N - 11 * (i + 1)) h1 →
        wp (evS P (callF P (d + 2)) (.seq (.asg (.v 6) (.lc (.v 7) (.v 7) .self (.cons (.bin .Add (.lst (.cons (.v 5) .nil)) (.lc (.bin .Add (.v 8) (.sl (.v 5) (.k (.int 1)) .no)) (.v 8) .self (.cons (.v 3) .nil) .no [8])) .nil) (.cmp .NotIn (.v 7) (.v 2)) [7])) (.seq (.ex (.meth (.v 2) 0 (.cons (.ix (.v 6) (.k (.int 0))) .nil))) .done))
          [some (.ref p), some (.int (m : Nat)), some (.ref h.n), some (.str LET), some x, some (.str w), v6, v7, v8'])
          (forK (fun σ h' => ∃ (found : List (List Nat)) (v4 v5 v6 v7 v8 : Option AV), σ = [some (.ref p), some (.int (m : Nat)), some (.ref h.n), some (.str LET), v4, v5, v6, v7, v8] ∧ Kp (p + 1) h h' ∧ At (p + 1) h' h.n (.lst (found.map .str)) ∧ found.length = i + 1 ∧ found.Nodup ∧ (∀ w ∈ found, NameOk w) ∧ i + 1 ≤ m ∧ PotN p (N - 11 * (i + 1)) h')
            (seqK (fun σ' => wp (evS P (callF P (d + 2)) (.seq (.ret (.v 2)) .done) σ') (retK Q)) (retK Q))) h1 := by
      intro w h1 v8' wok kp1 af1 pq1
      have hl1 : h.n < h1.n := af1.lt
      bv_omega
      refine wK_str ?_
      have hw : w.length ≤ 8 := wok.l1
      refine wp_lc (hs := h1.push (.lst [.str w])) (b := p + 1) (xs := LET.map fun c => .str [c]) (fun _ h' => PotN p (N - 11 * (i + 1)) h') (fun j acc => acc = (LET.take j).map fun c => .str (c :: w.drop 1)) (by simp only [AH.n_push]; omega) (by decide) (fun i h _ _ => Src.is_fix _ _) (fun i h' oo lt pq => pq.set _ (by simp only [AH.n_push] at lt ⊢; omega)) ?_ ?_ _ 0 [] _ (by rfl) (Nat.zero_le _) ((Kp.refl _ _).push _) (At.new _ (by simp only [AH.n_push]; omega)) ((pq1.push _).push _) rfl
      · intro j y acc h2 hy kp2 a2 pq2 jl
        rw [List.getElem?_map] at hy
        obtain ⟨c, hc, rfl⟩ := Option.map_eq_some_iff.mp hy
        bv_omega
        refine wL_str ?_ (by omega)
        rw [cut_tail]
        refine wB_adds ?_ (by simp; omega)
        bv_omega
        refine ⟨Kp.refl _ _, pq2, ?_⟩
        show acc ++ [.str ([c] ++ w.drop 1)] = _
        rw [jl, List.take_succ, hc]
        simp
      · intro acc h2 kp2 a2 pq2 jl
        have kp12 : Kp (p + 1) h h2 := (kp1.push _).trans kp2
        have a0 : At (p + 1) h2 h1.n (.lst [.str w]) := (At.new _ (by omega)).kp kp2 (Nat.le_refl _)
        have af2 := (af1.push _).kp kp2 (Nat.le_refl _)
        have hacc : acc = LET.map fun c => .str (c :: w.drop 1) := by rw [jl]; simp
        subst hacc
        refine wB_addl ?_ a0 a2 (by simp)
        bv_omega
        have hle2 := kp2.le
        simp only [AH.n_push] at hle2
        refine wK_lst ?_ (At.new (b := p + 1) _ (by omega))
        have most : Src.most (.lst h2.n) (h2.push (.lst ([AV.str w] ++ LET.map fun c => AV.str (c :: w.drop 1)))) = ([AV.str w] ++ LET.map fun c => AV.str (c :: w.drop 1)).length := by
          simp only [Src.most, AH.get_push, if_pos]
        rw [most]
        refine wp_lc (hs := h2.push (.lst ([AV.str w] ++ LET.map fun c => AV.str (c :: w.drop 1)))) (b := p + 1) (xs := [AV.str w] ++ LET.map fun c => AV.str (c :: w.drop 1)) (fun _ h' => PotN p (N - 11 * (i + 1)) h') (fun j acc => (∀ y ∈ acc, ∃ u, y = .str u ∧ NameOk u ∧ u ∉ found) ∧ ∀ j' u, j' < j → ([AV.str w] ++ LET.map fun c => AV.str (c :: w.drop 1))[j']? = some (.str u) → u ∉ found → acc ≠ []) (by simp only [AH.n_push]; omega) (by simp) (fun i h' kp3 _ => Src.is_lst ((At.new (b := p + 1) _ (by omega)).kp kp3 (Nat.le_refl _))) (fun i h' oo lt pq => pq.set _ (by simp only [AH.n_push] at lt ⊢; omega)) ?_ ?_ _ 0 [] _ (Nat.zero_add _) (Nat.zero_le _) ((Kp.refl _ _).push _) (At.new _ (by simp only [AH.n_push]; omega)) ((pq2.push _).push _) ⟨nofun, nofun⟩
        · intro j y acc h3 hy kp3 a3 pq3 jl
          have hyo : ∃ u, y = .str u ∧ NameOk u := by
            have hm := List.mem_of_getElem? hy
            rcases List.mem_append.mp hm with hm | hm
            · exact ⟨w, List.mem_singleton.mp hm, wok⟩
            · obtain ⟨c, hc, rfl⟩ := List.mem_map.mp hm
              exact ⟨_, rfl, by simp, by simp; omega, fun z hz => by
                rcases List.mem_cons.mp hz with rfl | hz
                · exact hc
                · exact wok.all _ (List.mem_of_mem_drop hz)⟩
          obtain ⟨u, rfl, uok⟩ := hyo
          have af3 := (af2.push _).kp kp3 (Nat.le_refl _)
          bv_omega
          refine wN_lst inS_strs ?_ af3
          refine wp_if (fun t => ?_) (fun t => ?_)
          · have nu : u ∉ found := by simpa using t
            bv_omega
            refine ⟨Kp.refl _ _, pq3, ?_, fun _ _ _ _ _ => by simp⟩
            intro z hz
            rcases List.mem_append.mp hz with hz | hz
            · exact jl.1 z hz
            · exact ⟨u, List.mem_singleton.mp hz, uok, nu⟩
          · have nu : u ∈ found := by simpa using t
            bv_omega
            refine ⟨Kp.refl _ _, pq3, jl.1, fun j' u' hj he hu => ?_⟩
            by_cases e : j' = j
            · subst e
              rw [hy] at he
              cases he
              exact absurd nu hu
            · exact jl.2 j' u' (by omega) he hu
        · intro acc h3 kp3 a3 pq3 jl
          have af3 := (af2.push _).kp kp3 (Nat.le_refl _)
          have ne : acc ≠ [] := by
            have ex : ∃ c ∈ LET, (c :: w.drop 1) ∉ found := by
              refine Decidable.byContradiction fun hno => ?_
              have all : ∀ x ∈ LET.map (fun c => c :: w.drop 1), x ∈ found := fun x hx => by
                obtain ⟨c, hc, rfl⟩ := List.mem_map.mp hx
                exact Decidable.byContradiction fun z => hno ⟨c, hc, z⟩
              have nd : (LET.map (fun c => c :: w.drop 1)).Nodup := by
                refine List.Pairwise.map _ (fun a b hab e => hab (List.cons.inj e).1) (show LET.Nodup by decide)
              have := nodup_len nd all
              simp at this
              omega
            obtain ⟨c, hc, hu⟩ := ex
            obtain ⟨j, hj, ej⟩ := List.getElem_of_mem hc
            refine jl.2 (j + 1) (c :: w.drop 1) (by simp at hj ⊢; omega) ?_ hu
            show (LET.map fun c => AV.str (c :: w.drop 1))[j]? = _
            rw [List.getElem?_map, List.getElem?_eq_getElem hj, ej]; rfl
          obtain ⟨y, ys, rfl⟩ := List.exists_cons_of_ne_nil ne
          obtain ⟨u, rfl, uok, unew⟩ := jl.1 y (List.mem_cons_self ..)
          bv_omega
          refine wM_lst ?_ af3
          bv_omega
          refine wX_lst a3 atI_0 ?_
          bv_omega
          refine wm_app ?_ af3 (by simp; omega)
          bv_omega
          refine ⟨found ++ [u], _, _, _, _, _, rfl, ?_, ?_, by simp [fl], ?_, ?_, hi', ?_⟩
          · exact ((kp12.push _).trans kp3).set _ (Nat.le_refl _)
          · have := af3.set (.lst (found.map .str ++ [.str u]))
            rw [show found.map AV.str ++ [.str u] = (found ++ [u]).map .str by simp] at this
            simpa using this
          · rw [List.nodup_append]
            exact ⟨fn, by simp, fun a ha b hb => by rw [List.mem_singleton.mp hb]; exact fun e => unew (e ▸ ha)⟩
          · intro z hz
            rcases List.mem_append.mp hz with hz | hz
            · exact fok z hz
            · rw [List.mem_singleton.mp hz]; exact uok
          · exact pq3.set _ hp
    bv_omega
    refine of_lst D ho (pq.push _) (by omega) (At.new _ (by have := af.lt; omega)) (by simp) (by simp) fun z h1 hz kp1 hn1 pq1 => ?_
    have hz' : ∃ j : Nat, z = .int (j : Nat) ∧ j ≤ 7 := by
      simp only [List.mem_cons, List.not_mem_nil, or_false] at hz
      rcases hz with rfl | rfl | rfl | rfl | rfl | rfl
      · exact ⟨0, rfl, by decide⟩
      · exact ⟨0, rfl, by decide⟩
      · exact ⟨0, rfl, by decide⟩
      · exact ⟨1, rfl, by decide⟩
      · exact ⟨2, rfl, by decide⟩
      · exact ⟨7, rfl, by decide⟩
    obtain ⟨j, rfl, hj⟩ := hz'
    bv_omega
    have lj : (rangeA 0 (1 + (j : Nat))).length = j + 1 := by rw [rangeA_len]; omega
    have kp1' : Kp (p + 1) h h1 := (kp.push _).trans kp1
    have hn1' := kp1'.le
    have af1 := (af.push _).kp kp1 (Nat.le_refl _)
    refine wK_range ?_ ⟨by omega, by omega⟩
    refine wp_lc (hs := h1) (b := p + 1) (xs := rangeA 0 (1 + (j : Nat))) (fun i' h' => PotN p (N - 11 * i - 1 - i') h') (fun i' acc => ∃ w : List Nat, acc = w.map (fun c => .str [c]) ∧ w.length = i' ∧ ∀ c ∈ w, c ∈ LET) (by omega) (by omega) (fun i h _ _ => Src.is_fix _ _) (fun i h' oo lt pq => pq.set _ (by omega)) ?_ ?_ _ 0 [] _ (Nat.zero_add _) (Nat.zero_le _) ((Kp.refl _ _).push _) (At.new _ (by omega)) (pq1.push _) ⟨[], rfl, rfl, nofun⟩
    · rintro i' y acc h2 hy kp2 a2 pq2 ⟨w, rfl, wl, wl2⟩
      have hi2 : i' < j + 1 := by have := (List.getElem?_eq_some_iff.mp hy).1; omega
      bv_omega
      refine of_str D ho pq2 (by omega) (by simp) (by simp) fun c h3 hc kp3 hn3 pq3 => ?_
      bv_omega
      refine ⟨kp3, by rw [Nat.sub_sub] at pq3; exact pq3, w ++ [c], by simp, by simp [wl], fun c' hc' => ?_⟩
      rcases List.mem_append.mp hc' with hc' | hc'
      · exact wl2 _ hc'
      · rw [List.mem_singleton.mp hc']; exact hc
    · rintro acc h2 kp2 a2 pq2 ⟨w, rfl, wl, wl2⟩
      rw [lj] at wl pq2
      have af2 := af1.kp kp2 (Nat.le_refl _)
      bv_omega
      refine wm_join (ys := w.map fun c => [c]) a2 (by rw [show w.map (fun c => AV.str [c]) = (w.map fun c => [c]).map .str by simp]; exact strsO_map _) (by rw [sum_ones]; simp; omega) ?_
      rw [join_nil]
      bv_omega
      refine D.spec pq2 (by omega) (by decide) (by decide) fun r h3 r0 r1 kp3 hn3 pq3 => ?_
      bv_omega
      have kp3' : Kp (p + 1) h h3 := (kp1'.trans kp2).trans kp3
      have af3 := af2.kp kp3 (Nat.le_refl _)
      refine wp_if (fun t => ?_) (fun t => ?_)
      · bv_omega
        refine of_lst D ho (pq3.push _) (by omega) (At.new _ (by have := af3.lt; omega)) (by simp) (by simp) fun z h4 hz kp4 hn4 pq4 => ?_
        obtain ⟨w', rfl, wok⟩ := oddWords z hz
        refine wG_v (seqK_nx (wS_done (seqK_nx ?_)))
        exact rest w' h4 _ wok ((kp3'.push _).trans kp4) ((af3.push _).kp kp4 (Nat.le_refl _)) (pq4.weak (by omega))
      · refine wS_done (seqK_nx ?_)
        exact rest w h3 _ ⟨by omega, by omega, wl2⟩ kp3' af3 (pq3.weak (by omega))
  · rintro σ h' ⟨found, v4, v5, v6, v7, v8, rfl, kp, af, fl, fn, fok, hi, pq⟩
    rw [ln] at fl pq
    bv_omega
    exact k _ _ _ (Nat.le_refl _) af fl fn fok kp kp.le pq
  · exact ⟨[], none, none, none, none, none, rfl, (Kp.refl _ _).push _, At.new _ (by omega), rfl, List.nodup_nil, nofun, Nat.zero_le _, (q.push _)⟩
end
end PM
end
section
set_option maxHeartbeats 400000
/-! PL4: words and readers of the program. -/
namespace PM
open PySem
local macro_rules | `(tactic| array_get_dec) => `(tactic| repeat' (first
  | assumption
  | exact At.new _ (by first | exact Nat.zero_le _ | omega | (simp only [AH.n_push, AH.n_set]; omega))
  | refine At.push ?_ _
  | refine At.set (by assumption) _
  | refine At.set_ne ?_ _ (by first | assumption | omega | (simp only [AH.n_push, AH.n_set]; omega))
  | refine At.kp (by assumption) ?_ (by first | exact Nat.le_refl _ | exact Nat.zero_le _ | omega)))
local macro_rules | `(tactic| array_mem_dec) => `(tactic| with_reducible first
  | refine wS_seq ?_ | refine wS_asg ?_ | refine wS_par ?_ | refine wS_aug (by with_unfolding_all exact rfl) ?_ | refine wS_ex ?_ | refine wS_ret (by with_unfolding_all exact nofun) ?_ | refine wS_ret0 ?_ | refine wS_ife ?_ | refine wS_brk ?_ | refine wS_cnt ?_ | refine wS_pass ?_ | refine wS_done ?_ | refine wS_for ?_
  | refine seqK_nx ?_ | refine seqK_rt ?_ | refine seqK_bk ?_ | refine seqK_ct ?_ | refine retK_nx ?_ | refine retK_rt ?_ | refine forK_nx ?_ | refine forK_ct ?_ | refine forK_bk ?_ | refine forK_rt ?_
  | refine wE_v (by with_unfolding_all exact rfl) ?_ | refine wE_k ?_ | refine wE_bin ?_ | refine wE_neg ?_ | refine wE_not ?_ | refine wE_and ?_ | refine wE_or ?_ | refine wE_ite ?_ | refine wE_cmp ?_ | refine wE_chain ?_ | refine wE_call ?_ | refine wE_callK ?_ | refine wE_blt ?_ | refine wE_meth ?_ | refine wE_attr ?_ | refine wE_ix ?_ | refine wE_sl ?_ | refine wE_lst ?_ | refine wE_tup ?_ | refine wE_dic ?_ | refine wE_lc ?_
  | refine wA_nil ?_ | refine wA_cons ?_ | refine wA_star ?_
  | refine wT_not ?_ | refine wT_and ?_ | refine wT_or ?_ | refine wT_ite ?_ | refine wT_cmp ?_ | refine wT_chain ?_ | refine wT_no ?_ | refine wT_v (by with_unfolding_all exact rfl) ?_ | refine wT_call ?_ | refine wT_blt ?_ | refine wT_meth ?_ | refine wT_attr ?_ | refine wT_ix ?_
  | refine w_tru_bl ?_
  | refine wP_no ?_ | refine wP_k ?_ | refine wP_v (by with_unfolding_all exact rfl) ?_ | refine wP_neg ?_ | refine wP_bin ?_
  | refine wG_v ?_ | refine wG_tup ?_ | refine wG_attr ?_ | refine wG_ix ?_ | refine wGs_nil ?_ | refine wGs_cons ?_ | refine wU_tup ?_
  | refine wB_add ?_ | refine wB_sub ?_
  | refine wC_lt ?_ | refine wC_le ?_ | refine wC_gt ?_ | refine wC_ge ?_ | refine wC_eqs ?_ | refine wC_nes ?_ | refine wC_eqi ?_ | refine wC_nei ?_ | refine wC_is ?_ | refine wC_isn ?_ | refine wC_in ?_ | refine wC_nin ?_ | refine wN_str ?_
  | refine wF_lenT ?_ | refine wF_abs ?_ | refine wF_max ?_ | refine wF_min ?_ | refine wF_int ?_ | refine wF_intB ?_ | refine wF_tupT ?_ | refine wF_listT ?_ | refine wF_isin_str ?_ | refine wF_isin_int ?_
  | refine wL_tup ?_ | refine wM_str ?_
  | refine wp_pure ?_ | refine wp_bind ?_
  | refine and_len ?_ (by with_unfolding_all exact rfl) | refine par_ok (by with_unfolding_all exact rfl) ?_ | refine int_ok rfl ?_)
local macro_rules | `(tactic| bv_omega) => `(tactic| repeat (first | array_mem_dec | (with_reducible first | refine wp_if_t rfl ?_ | refine wp_if_f rfl ?_)))
local macro_rules | `(tactic| sizeOf_list_dec) => `(tactic| repeat array_mem_dec)
-- value, letter
def B_is_name : S := (.seq (.ife (.or (.not (.blt .isinstance (.cons (.v 0) (.cons (.k (.ty "str")) .nil)))) (.not (.chain .LtE .LtE (.k (.int 1)) (.blt .len (.cons (.v 0) .nil)) (.k (.int 8))))) (.seq (.ret (.k (.bl false))) .done) .done) (.seq (.ret (.blt .all (.cons (.lc (.cmp .In (.v 1) (.k (.str [97, 98, 99, 100, 101, 102, 103, 104, 105, 106, 107, 108, 109, 110, 111, 112, 113, 114, 115, 116, 117, 118, 119, 120, 121, 122]))) (.v 1) .self (.cons (.v 0) .nil) .no [1]) .nil))) .done))
abbrev F_is_name : Fn := ⟨1, 2, B_is_name ⟩
-- word, sign
def B_number_in : S := (.seq (.ife (.or (.not (.chain .LtE .LtE (.k (.int 1)) (.blt .len (.cons (.v 0) .nil)) (.k (.int 9)))) (.not (.blt .all (.cons (.lc (.cmp .In (.v 1) (.k (.str [48, 49, 50, 51, 52, 53, 54, 55, 56, 57]))) (.v 1) .self (.cons (.v 0) .nil) .no [1]) .nil)))) (.seq (.ret (.k .non)) .done) .done) (.seq (.ret (.ite (.or (.cmp .Eq (.v 0) (.k (.str [48]))) (.cmp .NotEq (.ix (.v 0) (.k (.int 0))) (.k (.str [48])))) (.blt .int (.cons (.v 0) .nil)) (.k .non))) .done))
abbrev F_number_in : Fn := ⟨1, 2, B_number_in ⟩
-- line
def B_words_in : S := (.seq (.ret (.meth (.v 0) 5 (.cons (.k (.str [32])) .nil))) .done)
abbrev F_words_in : Fn := ⟨1, 1, B_words_in ⟩
-- text
def B_lines_in : S := (.seq (.ret (.meth (.v 0) 5 (.cons (.k (.str [10])) .nil))) .done)
abbrev F_lines_in : Fn := ⟨1, 1, B_lines_in ⟩
-- line, words, room
def B_room_in (f_words_in f_number_in : Nat) : S := (.seq (.asg (.v 1) (.call f_words_in (.cons (.v 0) .nil))) (.seq (.asg (.v 2) (.ite (.and (.cmp .Eq (.blt .len (.cons (.v 1) .nil)) (.k (.int 2))) (.cmp .Eq (.ix (.v 1) (.k (.int 0))) (.k (.str [114, 111, 111, 109])))) (.call f_number_in (.cons (.ix (.v 1) (.k (.int 1))) .nil)) (.k .non))) (.seq (.ret (.ite (.and (.cmp .IsNot (.v 2) (.k .non)) (.chain .LtE .LtE (.k (.int 1)) (.v 2) (.k (.int 20)))) (.v 2) (.k .non))) .done)))
abbrev F_room_in (f_words_in f_number_in : Nat) : Fn := ⟨1, 3, B_room_in f_words_in f_number_in⟩
-- line, words, names, name
def B_boxes_in (f_words_in f_is_name : Nat) : S := (.seq (.asg (.v 1) (.call f_words_in (.cons (.v 0) .nil))) (.seq (.asg (.v 2) (.blt .tuple (.cons (.sl (.v 1) (.k (.int 1)) .no) .nil))) (.seq (.ife (.or (.cmp .NotEq (.ix (.v 1) (.k (.int 0))) (.k (.str [98, 111, 120, 101, 115]))) (.or (.cmp .Gt (.blt .len (.cons (.v 2) .nil)) (.k (.int 120))) (.not (.blt .all (.cons (.lc (.call f_is_name (.cons (.v 3) .nil)) (.v 3) .self (.cons (.v 2) .nil) .no [3]) .nil))))) (.seq (.ret (.k .non)) .done) .done) (.seq (.ret (.ite (.cmp .Eq (.blt .setlen (.cons (.v 2) .nil)) (.blt .len (.cons (.v 2) .nil))) (.v 2) (.k .non))) .done))))
abbrev F_boxes_in (f_words_in f_is_name : Nat) : Fn := ⟨1, 4, B_boxes_in f_words_in f_is_name⟩
-- word, kind, room, places, many, number
def B_part_in (f_is_name f_number_in : Nat) : S := (.seq (.ife (.cmp .Eq (.v 1) (.k (.str [78]))) (.seq (.ret (.ite (.call f_is_name (.cons (.v 0) .nil)) (.v 0) (.k .non))) .done) .done) (.seq (.ife (.cmp .Eq (.v 1) (.k (.str [66]))) (.seq (.ret (.ite (.cmp .In (.v 0) (.v 3)) (.v 0) (.k .non))) .done) .done) (.seq (.asg (.v 5) (.call f_number_in (.cons (.v 0) .nil))) (.seq (.ife (.or (.cmp .Is (.v 5) (.k .non)) (.or (.and (.cmp .Eq (.v 1) (.k (.str [81]))) (.cmp .Gt (.v 5) (.v 2))) (.and (.cmp .Eq (.v 1) (.k (.str [76]))) (.cmp .GtE (.v 5) (.v 4))))) (.seq (.ret (.k .non)) .done) .done) (.seq (.ret (.v 5)) .done)))))
abbrev F_part_in (f_is_name f_number_in : Nat) : Fn := ⟨5, 6, B_part_in f_is_name f_number_in⟩
-- form, many
def B_kinds_in : S := (.seq (.ife (.not (.meth (.v 0) 10 (.cons (.k (.str [42])) .nil))) (.seq (.ret (.ite (.cmp .Eq (.blt .len (.cons (.v 0) .nil)) (.v 1)) (.v 0) (.k .non))) .done) .done) (.seq (.ret (.ite (.cmp .GtE (.v 1) (.bin .Sub (.blt .len (.cons (.v 0) .nil)) (.k (.int 2)))) (.bin .Add (.sl (.v 0) .no (.neg (.k (.int 2)))) (.bin .Mult (.ix (.v 0) (.neg (.k (.int 2)))) (.bin .Add (.bin .Sub (.v 1) (.blt .len (.cons (.v 0) .nil))) (.k (.int 2))))) (.k .non))) .done))
abbrev F_kinds_in : Fn := ⟨2, 2, B_kinds_in ⟩
-- line, room, places, many, forms, words, kinds, parts, kind, word
def B_row_in (f_words_in f_kinds_in f_part_in : Nat) : S := (.seq (.asg (.v 5) (.call f_words_in (.cons (.v 0) .nil))) (.seq (.asg (.v 6) (.ite (.cmp .In (.ix (.v 5) (.k (.int 0))) (.v 4)) (.call f_kinds_in (.cons (.ix (.v 4) (.ix (.v 5) (.k (.int 0)))) (.cons (.bin .Sub (.blt .len (.cons (.v 5) .nil)) (.k (.int 1))) .nil))) (.k .non))) (.seq (.ife (.cmp .Is (.v 6) (.k .non)) (.seq (.ret (.k .non)) .done) .done) (.seq (.asg (.v 7) (.blt .tuple (.cons (.lc (.call f_part_in (.cons (.v 9) (.cons (.v 8) (.cons (.v 1) (.cons (.v 2) (.cons (.v 3) .nil)))))) (.tup (.cons (.v 9) (.cons (.v 8) .nil))) .zip (.cons (.sl (.v 5) (.k (.int 1)) .no) (.cons (.v 6) .nil)) .no [9, 8]) .nil))) (.seq (.ret (.ite (.cmp .In (.k .non) (.v 7)) (.k .non) (.tup (.cons (.ix (.v 5) (.k (.int 0))) (.star (.v 7) .nil))))) .done)))))
abbrev F_row_in (f_words_in f_kinds_in f_part_in : Nat) : Fn := ⟨5, 10, B_row_in f_words_in f_kinds_in f_part_in⟩
-- text, forms, lines, room, boxes, at, rows, places, many, line, row, name
def B_read_reader (z1 z2 z3 z4 z5 : S) (f_lines_in f_room_in f_boxes_in f_row_in : Nat) : S := (.seq (.ife (.not (.blt .isinstance (.cons (.v 0) (.cons (.k (.ty "str")) .nil)))) (.seq z1 .done) .done) (.seq (.asg (.v 2) (.call f_lines_in (.cons (.v 0) .nil))) (.seq (.asg (.v 3) (.call f_room_in (.cons (.ix (.v 2) (.k (.int 0))) .nil))) (.seq (.ife (.cmp .Is (.v 3) (.k .non)) (.seq z2 .done) .done) (.seq (.asg (.v 4) (.ite (.cmp .Gt (.blt .len (.cons (.v 2) .nil)) (.k (.int 1))) (.call f_boxes_in (.cons (.ix (.v 2) (.k (.int 1))) .nil)) (.k .non))) (.seq (.ife (.cmp .Is (.v 4) (.k .non)) (.seq z3 .done) .done) (.seq (.ife (.cmp .Eq (.blt .len (.cons (.v 2) .nil)) (.k (.int 2))) (.seq z4 .done) .done) (.seq (.par [6, 7, 8] (.cons (.lst .nil) (.cons (.blt .dict (.cons (.lc (.tup (.cons (.v 11) (.cons (.v 5) .nil))) (.tup (.cons (.v 5) (.cons (.v 11) .nil))) .enum (.cons (.v 4) .nil) .no [5, 11]) .nil)) (.cons (.bin .Sub (.blt .len (.cons (.v 2) .nil)) (.k (.int 2))) .nil)))) (.seq (.for_ (.tup (.cons (.v 5) (.cons (.v 9) .nil))) .enum (.cons (.sl (.v 2) (.k (.int 2)) .no) .nil) (.seq (.asg (.v 10) (.ite (.cmp .Lt (.v 5) (.k (.int 40000))) (.call f_row_in (.cons (.v 9) (.cons (.v 3) (.cons (.v 7) (.cons (.v 8) (.cons (.v 1) .nil)))))) (.k .non))) (.seq (.ife (.cmp .Is (.v 10) (.k .non)) (.seq z5 .done) .done) (.seq (.ex (.meth (.v 6) 0 (.cons (.v 10) .nil))) .done)))) (.seq (.ret (.tup (.cons (.v 3) (.cons (.v 4) (.cons (.blt .tuple (.cons (.v 6) .nil)) .nil))))) .done))))))))))
abbrev F_read_reader (z1 z2 z3 z4 z5 : S) (f_lines_in f_room_in f_boxes_in f_row_in : Nat) : Fn := ⟨2, 12, B_read_reader z1 z2 z3 z4 z5 f_lines_in f_room_in f_boxes_in f_row_in⟩
-- row, places, forms, kinds, kind, part
def B_coded (f_kinds_in : Nat) : S := (.seq (.asg (.v 3) (.call f_kinds_in (.cons (.ix (.v 2) (.ix (.v 0) (.k (.int 0)))) (.cons (.bin .Sub (.blt .len (.cons (.v 0) .nil)) (.k (.int 1))) .nil)))) (.seq (.ret (.tup (.cons (.ix (.v 0) (.k (.int 0))) (.star (.lc (.ite (.cmp .Eq (.v 4) (.k (.str [66]))) (.ix (.v 1) (.v 5)) (.v 5)) (.tup (.cons (.v 5) (.cons (.v 4) .nil))) .zip (.cons (.sl (.v 0) (.k (.int 1)) .no) (.cons (.v 3) .nil)) .no [5, 4]) .nil)))) .done))
abbrev F_coded (f_kinds_in : Nat) : Fn := ⟨3, 6, B_coded f_kinds_in⟩
-- self, text, places, at, name, row
def B_Reader_init (a_own_room a_own_boxes a_own_rows f_read_reader g_0 a_own_text a_own_codes f_coded : Nat) : S := (.seq (.asg (.tup (.cons (.attr (.v 0) a_own_room) (.cons (.attr (.v 0) a_own_boxes) (.cons (.attr (.v 0) a_own_rows) .nil)))) (.call f_read_reader (.cons (.v 1) (.cons (.blt .dictof (.cons (.k (.gdc g_0)) .nil)) .nil)))) (.seq (.asg (.v 2) (.blt .dict (.cons (.lc (.tup (.cons (.v 4) (.cons (.v 3) .nil))) (.tup (.cons (.v 3) (.cons (.v 4) .nil))) .enum (.cons (.attr (.v 0) a_own_boxes) .nil) .no [3, 4]) .nil))) (.seq (.asg (.tup (.cons (.attr (.v 0) a_own_text) (.cons (.attr (.v 0) a_own_codes) .nil))) (.tup (.cons (.v 1) (.cons (.lc (.call f_coded (.cons (.v 5) (.cons (.v 2) (.cons (.blt .dictof (.cons (.k (.gdc g_0)) .nil)) .nil)))) (.v 5) .self (.cons (.attr (.v 0) a_own_rows) .nil) .no [5]) .nil)))) .done)))
abbrev F_Reader_init (a_own_room a_own_boxes a_own_rows f_read_reader g_0 a_own_text a_own_codes f_coded : Nat) : Fn := ⟨2, 6, B_Reader_init a_own_room a_own_boxes a_own_rows f_read_reader g_0 a_own_text a_own_codes f_coded⟩
-- self
def B_Reader_text (a_own_text : Nat) : S := (.seq (.ret (.attr (.v 0) a_own_text)) .done)
abbrev F_Reader_text (a_own_text : Nat) : Fn := ⟨1, 1, B_Reader_text a_own_text⟩
-- self
def B_Reader_room (a_own_room : Nat) : S := (.seq (.ret (.attr (.v 0) a_own_room)) .done)
abbrev F_Reader_room (a_own_room : Nat) : Fn := ⟨1, 1, B_Reader_room a_own_room⟩
-- self
def B_Reader_boxes (a_own_boxes : Nat) : S := (.seq (.ret (.attr (.v 0) a_own_boxes)) .done)
abbrev F_Reader_boxes (a_own_boxes : Nat) : Fn := ⟨1, 1, B_Reader_boxes a_own_boxes⟩
-- self
def B_Reader_rows (a_own_rows : Nat) : S := (.seq (.ret (.attr (.v 0) a_own_rows)) .done)
abbrev F_Reader_rows (a_own_rows : Nat) : Fn := ⟨1, 1, B_Reader_rows a_own_rows⟩
-- self
def B_Reader_len (a_own_rows : Nat) : S := (.seq (.ret (.blt .len (.cons (.attr (.v 0) a_own_rows) .nil))) .done)
abbrev F_Reader_len (a_own_rows : Nat) : Fn := ⟨1, 1, B_Reader_len a_own_rows⟩
-- self, other
def B_Reader_eq (c_0 a_own_text : Nat) : S := (.seq (.ret (.and (.blt .isinstance (.cons (.v 1) (.cons (.k (.glo c_0)) .nil))) (.cmp .Eq (.attr (.v 0) a_own_text) (.attr (.v 1) a_own_text)))) .done)
abbrev F_Reader_eq (c_0 a_own_text : Nat) : Fn := ⟨2, 2, B_Reader_eq c_0 a_own_text⟩
abbrev DIG : List Nat := [48, 49, 50, 51, 52, 53, 54, 55, 56, 57]
def nameB (w : List Nat) : Bool := decide (1 ≤ w.length) && decide (w.length ≤ 8) && w.all fun c => decide (c ∈ LET)
def numV (w : List Nat) : AV := if decide (1 ≤ w.length) && decide (w.length ≤ 9) && w.all (fun c => decide (c ∈ DIG)) then (if w = [48] ∨ w.head? ≠ some 48 then .int (digV w : Nat) else .non) else .non
section
variable {P : Pg} {d f : Nat} {h : AH} {Q : AV → AH → Prop}
theorem is_name_spec (hf : P.fn f = some F_is_name) {w : List Nat} (lw : w.length < 16777216) (k : ∀ h', Kx h h' → Q (.bl (nameB w)) h') : wp (callF P (d + 1) f [.str w]) Q h := by
  refine w_call hf rfl ?_
  show wp (evS P (callF P d) B_is_name [some (.str w), none]) _ _
  unfold B_is_name
  bv_omega
  refine wF_lenS ?_ (by omega)
  bv_omega
  have yes : 1 ≤ w.length → w.length ≤ 8 → wp (evS P (callF P d) (.seq (.ret (.blt .all (.cons (.lc (.cmp .In (.v 1) (.k (.str LET))) (.v 1) .self (.cons (.v 0) .nil) .no [1]) .nil))) .done) [some (.str w), none]) (retK Q) h := by
    intro l0 l1
    bv_omega
    refine wK_str ?_
    refine wp_lc_map (fun x => match x with | .str [c] => .bl (decide (c ∈ LET)) | _ => .non) (by simpa using lw) (fun _ _ => Src.is_fix _ _) ?_ ?_ rfl
    · intro i x h' hx kk
      rw [List.getElem?_map] at hx
      obtain ⟨c, hc, rfl⟩ := Option.map_eq_some_iff.mp hx
      bv_omega
      exact ⟨Kp.refl _ _, rfl⟩
    · intro h' kk a
      bv_omega
      rw [List.map_map] at a
      refine wF_all a (i := w.map fun c => decide (c ∈ LET)) (by rw [← bls_map]; rw [List.map_map]; rfl) ?_
      bv_omega
      have e : nameB w = (w.map fun c => decide (c ∈ LET)).all id := by
        unfold nameB
        rw [decide_eq_true l0, decide_eq_true l1, List.all_map]; rfl
      rw [← e]
      exact k _ kk
  refine wp_if (fun t => ?_) (fun t => ?_)
  · have t1 := of_decide_eq_true t
    bv_omega
    refine wp_if (fun t2 => ?_) (fun t2 => ?_)
    · bv_omega
      have e : nameB w = false := by
        have : ¬ w.length ≤ 8 := by
          have : ¬ (w.length : Int) ≤ 8 := by simpa using t2
          omega
        unfold nameB
        rw [decide_eq_false this]; simp
      rw [← e]
      exact k _ (Kp.refl _ _)
    · have t3 : (w.length : Int) ≤ 8 := by simpa using t2
      exact wS_done (seqK_nx (yes (by omega) (by omega)))
  · have t1 : ¬ (1 : Int) ≤ w.length := of_decide_eq_false t
    bv_omega
    have e : nameB w = false := by
      have : ¬ 1 ≤ w.length := by omega
      unfold nameB
      rw [decide_eq_false this]; simp
    rw [← e]
    exact k _ (Kp.refl _ _)

theorem number_in_spec (hf : P.fn f = some F_number_in) {w : List Nat} (lw : w.length < 16777216) (k : ∀ h', Kx h h' → Q (numV w) h') : wp (callF P (d + 1) f [.str w]) Q h := by
  refine w_call hf rfl ?_
  show wp (evS P (callF P d) B_number_in [some (.str w), none]) _ _
  unfold B_number_in
  have no : ∀ h', Kx h h' → (decide (1 ≤ w.length) && decide (w.length ≤ 9) && w.all (fun c => decide (c ∈ DIG))) = false → Q .non h' := fun h' kk e => by
    have := k h' kk
    unfold numV at this
    rw [e] at this
    simpa using this
  bv_omega
  refine wF_lenS ?_ (by omega)
  bv_omega
  refine wp_if (fun t => ?_) (fun t => ?_)
  · have t1 := of_decide_eq_true t
    bv_omega
    refine wp_if (fun t2 => ?_) (fun t2 => ?_)
    · bv_omega
      have : ¬ (w.length : Int) ≤ 9 := by simpa using t2
      exact no _ (Kp.refl _ _) (by rw [decide_eq_false (show ¬ w.length ≤ 9 by omega)]; simp)
    · have t3 : (w.length : Int) ≤ 9 := by simpa using t2
      bv_omega
      refine wK_str ?_
      refine wp_lc_map (fun x => match x with | .str [c] => .bl (decide (c ∈ DIG)) | _ => .non) (by simpa using lw) (fun _ _ => Src.is_fix _ _) ?_ ?_ rfl
      · intro i x h' hx kk
        rw [List.getElem?_map] at hx
        obtain ⟨c, hc, rfl⟩ := Option.map_eq_some_iff.mp hx
        bv_omega
        exact ⟨Kp.refl _ _, rfl⟩
      · intro h' kk a
        bv_omega
        rw [List.map_map] at a
        refine wF_all a (i := w.map fun c => decide (c ∈ DIG)) (by rw [← bls_map]; rw [List.map_map]; rfl) ?_
        have e : (w.map fun c => decide (c ∈ DIG)).all id = w.all fun c => decide (c ∈ DIG) := by rw [List.all_map]; rfl
        rw [e]
        bv_omega
        refine wp_if (fun t4 => ?_) (fun t4 => ?_)
        · bv_omega
          have t5 : (w.all fun c => decide (c ∈ DIG)) = false := by simpa using t4
          exact no _ kk (by rw [t5]; simp)
        · have t5 : (w.all fun c => decide (c ∈ DIG)) = true := by simpa using t4
          have hk := k h' kk
          unfold numV at hk
          rw [t5, decide_eq_true (show 1 ≤ w.length by omega), decide_eq_true (show w.length ≤ 9 by omega)] at hk
          simp only [Bool.and_self, if_true] at hk
          have cn : canon w = true := by
            unfold canon
            have e1 : w.isEmpty = false := by cases w with | nil => simp at t1 | cons _ _ => rfl
            have e2 : w.all isDig = true := by
              rw [List.all_eq_true] at t5 ⊢
              intro c hc
              have := of_decide_eq_true (t5 c hc)
              simp only [List.mem_cons, List.not_mem_nil, or_false] at this
              unfold isDig
              exact decide_eq_true (by omega)
            rw [e1, e2, decide_eq_true (show w.length ≤ 640 by omega)]; rfl
          bv_omega
          refine wp_if (fun t6 => ?_) (fun t6 => ?_)
          · have t7 := of_decide_eq_true t6
            bv_omega
            refine wF_intS ?_ cn
            bv_omega
            rw [if_pos (.inl t7)] at hk
            exact hk
          · have t7 := of_decide_eq_false t6
            bv_omega
            obtain ⟨c, w', rfl⟩ : ∃ c w', w = c :: w' := by cases w with | nil => simp at t1 | cons c w' => exact ⟨c, w', rfl⟩
            refine wX_str atI_0 (by omega) ?_
            bv_omega
            refine wp_if (fun t8 => ?_) (fun t8 => ?_)
            · have t9 : c ≠ 48 := by simpa using t8
              bv_omega
              refine wF_intS ?_ cn
              bv_omega
              rw [if_pos (.inr (by simpa using t9))] at hk
              exact hk
            · have t9 : c = 48 := by simpa using t8
              bv_omega
              rw [if_neg (by rintro (z | z); exact t7 z; exact z (by simp [t9]))] at hk
              exact hk
  · have t1 : ¬ (1 : Int) ≤ w.length := of_decide_eq_false t
    bv_omega
    exact no _ (Kp.refl _ _) (by rw [decide_eq_false (show ¬ 1 ≤ w.length by omega)]; simp)
theorem words_in_spec (hf : P.fn f = some F_words_in) {x : List Nat} (l : x.length + 2 ≤ 16777216) (k : Q (.ref h.n) (h.push (.lst ((TL.spl [32] 0 [] x).map .str)))) : wp (callF P (d + 1) f [.str x]) Q h := by
  refine w_call hf rfl ?_
  show wp (evS P (callF P d) B_words_in [some (.str x)]) _ _
  unfold B_words_in
  bv_omega
  refine wm_split ?_ (by decide) l
  bv_omega
  exact k
theorem lines_in_spec (hf : P.fn f = some F_lines_in) {x : List Nat} (l : x.length + 2 ≤ 16777216) (k : Q (.ref h.n) (h.push (.lst ((TL.spl [10] 0 [] x).map .str)))) : wp (callF P (d + 1) f [.str x]) Q h := by
  refine w_call hf rfl ?_
  show wp (evS P (callF P d) B_lines_in [some (.str x)]) _ _
  unfold B_lines_in
  bv_omega
  refine wm_split ?_ (by decide) l
  bv_omega
  exact k
end
theorem numL_head : ∀ n : Nat, n ≠ 0 → (TL.numL n).head? ≠ some 48 := by
  intro n
  induction n using Nat.strongRecOn with
  | _ n ih =>
    intro h0
    by_cases h : n < 10
    · rw [TL.numL_lt h]
      simp
      omega
    · rw [TL.numL_step (by omega)]
      have := ih (n / 10) (by omega) (by omega)
      have ne := TL.numL_ne (n / 10)
      obtain ⟨c, w, e⟩ := List.exists_cons_of_ne_nil ne
      rw [e] at this ⊢
      simpa using this
theorem numL_dig {n c : Nat} (hc : c ∈ TL.numL n) : c ∈ DIG := by
  have := TL.numL_digits n c hc
  have : c = 48 ∨ c = 49 ∨ c = 50 ∨ c = 51 ∨ c = 52 ∨ c = 53 ∨ c = 54 ∨ c = 55 ∨ c = 56 ∨ c = 57 := by omega
  rcases this with rfl | rfl | rfl | rfl | rfl | rfl | rfl | rfl | rfl | rfl <;> decide
theorem numV_num {n : Nat} (h : n < 1000000000) : numV (TL.numL n) = .int (n : Nat) := by
  unfold numV
  have l1 := TL.numL_len (k := 9) (by decide) (show n < 10 ^ 9 by omega)
  have l0 : 1 ≤ (TL.numL n).length := List.length_pos_iff.mpr (TL.numL_ne n)
  rw [decide_eq_true l0, decide_eq_true l1, show (TL.numL n).all (fun c => decide (c ∈ DIG)) = true from List.all_eq_true.mpr fun c hc => decide_eq_true (numL_dig hc)]
  simp only [Bool.and_self, if_true]
  have hv : digV (TL.numL n) = n := TL.numL_val n
  rw [hv]
  by_cases h0 : n = 0
  · subst h0
    rw [if_pos (.inl (by rw [TL.numL_lt (by decide)]))]
  · rw [if_pos (.inr (numL_head n h0))]

/-! ### the rows of a reader -/
abbrev sROOM : List Nat := [114, 111, 111, 109]
abbrev sBOXES : List Nat := [98, 111, 120, 101, 115]
/-- what stands behind the first word of a row -/
def FORMS : List (AV × AV) := [(.str [116, 97, 107, 101], .str [81,66]), (.str [101, 105, 116, 104, 101, 114], .str [76]), (.str [115, 97, 109, 101], .str [66,66,76]), (.str [108, 101, 115, 115], .str [66,66,76]), (.str [105, 115], .str [66,75,76]), (.str [119, 105, 116, 104, 105, 110], .str [81,66,76]), (.str [101, 100, 103, 101], .str [81,66,76]), (.str [109, 97, 114, 107], .str [78,66,76]), (.str [97, 114, 114, 111, 119], .str [78,66,66,76]), (.str [115, 101, 116], .str [66,75]), (.str [112, 117, 116], .str [66,66]), (.str [117, 112], .str [66]), (.str [103, 111], .str [76]), (.str [108, 101, 116], .str []), (.str [114, 101, 102, 117, 115, 101], .str [])]
inductive PartOk (room : Nat) (boxes : List (List Nat)) (many : Nat) : Nat → AV → Prop
  | n {w : List Nat} (h : NameOk w) : PartOk room boxes many 78 (.str w)
  | b {w : List Nat} (h : w ∈ boxes) : PartOk room boxes many 66 (.str w)
  | q {n : Nat} (h : n ≤ room) : PartOk room boxes many 81 (.int (n : Nat))
  | l {n : Nat} (h : n < many) : PartOk room boxes many 76 (.int (n : Nat))
  | k {n : Nat} (h : n < 1000000000) : PartOk room boxes many 75 (.int (n : Nat))
inductive PartsOk (room : Nat) (boxes : List (List Nat)) (many : Nat) : List Nat → List AV → Prop
  | nil : PartsOk room boxes many [] []
  | cons {k : Nat} {ks : List Nat} {x : AV} {xs : List AV} (h : PartOk room boxes many k x) (r : PartsOk room boxes many ks xs) : PartsOk room boxes many (k :: ks) (x :: xs)
structure RowOk (F : List (AV × AV)) (room : Nat) (boxes : List (List Nat)) (many : Nat) (kw : List Nat) (form : List Nat) (parts : List AV) : Prop where
  look_ : look F (.str kw) = some (.str form)
  few : form.length ≤ 8
  plain : Txt.endswith ⟨form.toArray⟩ ⟨#[42]⟩ = false
  word : ∀ c ∈ kw, c ∈ LET
  short : kw.length ≤ 8
  parts : PartsOk room boxes many form parts
/-- the text of a part -/
def wtxt : AV → List Nat
  | .str w => w
  | .int i => intL i
  | _ => []
theorem let_free {c s : Nat} (h : c ∈ LET) (hs : s < 97) : s ≠ c := fun e => by
  subst e
  simp only [List.mem_cons, List.not_mem_nil, or_false] at h
  omega
theorem intL_nat (n : Nat) : intL (n : Int) = TL.numL n := by
  unfold intL
  rw [if_neg (by omega), Int.natAbs_natCast]
theorem PartOk.txt {room many k : Nat} {boxes : List (List Nat)} {x : AV} (h : PartOk room boxes many k x) (hr : room ≤ 20) (hm : many ≤ 40000) (hb : ∀ w ∈ boxes, NameOk w) {s : Nat} (hs : s < 48) : s ∉ wtxt x ∧ (wtxt x).length ≤ 9 := by
  have nm : ∀ w, NameOk w → s ∉ w ∧ w.length ≤ 9 := fun w ok => ⟨fun hm => let_free (ok.all s hm) (by omega) rfl, Nat.le_succ_of_le ok.l1⟩
  have nb : ∀ n : Nat, n < 1000000000 → s ∉ wtxt (.int (n : Nat)) ∧ (wtxt (.int (n : Nat))).length ≤ 9 := fun n hn => by
    show s ∉ intL (n : Int) ∧ (intL (n : Int)).length ≤ 9
    rw [intL_nat]
    exact ⟨TL.numL_free (.inl hs), TL.numL_len (by decide) (by omega)⟩
  cases h with
  | n h => exact nm _ h
  | b h => exact nm _ (hb _ h)
  | q h => exact nb _ (by omega)
  | l h => exact nb _ (by omega)
  | k h => exact nb _ h
theorem PartsOk.txt {room many : Nat} {boxes : List (List Nat)} {s : Nat} (hr : room ≤ 20) (hm : many ≤ 40000) (hb : ∀ w ∈ boxes, NameOk w) (hs : s < 48) : ∀ {ks : List Nat} {xs : List AV}, PartsOk room boxes many ks xs → ∀ x ∈ xs, s ∉ wtxt x ∧ (wtxt x).length ≤ 9
  | _, _, .cons h r => fun x hx => by
    rcases List.mem_cons.mp hx with rfl | hx
    · exact h.txt hr hm hb hs
    · exact PartsOk.txt hr hm hb hs r x hx
  | _, _, .nil => fun x hx => by cases hx
theorem PartsOk.len {room many : Nat} {boxes : List (List Nat)} : ∀ {ks : List Nat} {xs : List AV}, PartsOk room boxes many ks xs → xs.length = ks.length
  | _, _, .nil => rfl
  | _, _, .cons h r => congrArg Nat.succ (PartsOk.len r)
theorem PartsOk.get {room many : Nat} {boxes : List (List Nat)} : ∀ {ks : List Nat} {xs : List AV} {i k : Nat} {x : AV}, PartsOk room boxes many ks xs → ks[i]? = some k → xs[i]? = some x → PartOk room boxes many k x
  | _, _, 0, _, _, .cons h r, e, e' => by simp at e e'; subst e e'; exact h
  | _, _, i + 1, _, _, .cons h r, e, e' => PartsOk.get r (by simpa using e) (by simpa using e')
def rowTxt (kw : List Nat) (parts : List AV) : List Nat := TL.joinL [32] (kw :: parts.map wtxt)
theorem joinL_mem {S : List Nat} {c : Nat} : ∀ {ps : List (List Nat)}, c ∈ TL.joinL S ps → (∃ p ∈ ps, c ∈ p) ∨ c ∈ S
  | [], h => by cases h
  | [p], h => .inl ⟨p, List.mem_singleton_self p, h⟩
  | p :: q :: r, h => by
    rcases List.mem_append.mp (show c ∈ p ++ (S ++ TL.joinL S (q :: r)) from h) with h | h
    · exact .inl ⟨p, List.mem_cons_self .., h⟩
    · rcases List.mem_append.mp h with h | h
      · exact .inr h
      · rcases joinL_mem h with ⟨p', m, h⟩ | h
        · exact .inl ⟨p', List.mem_cons_of_mem _ m, h⟩
        · exact .inr h
theorem joinL_len {S : List Nat} {m : Nat} : ∀ {ps : List (List Nat)}, (∀ p ∈ ps, p.length ≤ m) → (TL.joinL S ps).length ≤ ps.length * (m + S.length)
  | [], _ => Nat.zero_le _
  | [p], h => by
    have := h p (List.mem_singleton_self p)
    show p.length ≤ _
    simp; omega
  | p :: q :: r, h => by
    have ih := joinL_len (S := S) (ps := q :: r) fun x hx => h x (List.mem_cons_of_mem _ hx)
    have := h p (List.mem_cons_self ..)
    show (p ++ (S ++ TL.joinL S (q :: r))).length ≤ _
    rw [List.length_append, List.length_append, List.length_cons, Nat.succ_mul]
    omega
theorem RowOk.free {F : List (AV × AV)} {room many : Nat} {boxes : List (List Nat)} {kw form : List Nat} {parts : List AV} (R : RowOk F room boxes many kw form parts) (hr : room ≤ 20) (hm : many ≤ 40000) (hb : ∀ w ∈ boxes, NameOk w) :
    TL.spl [32] 0 [] (rowTxt kw parts) = kw :: parts.map wtxt ∧ 10 ∉ rowTxt kw parts ∧ (rowTxt kw parts).length ≤ 90 := by
  have all : ∀ s, s < 48 → ∀ p ∈ kw :: parts.map wtxt, s ∉ p ∧ p.length ≤ 9 := fun s hs p hp => by
    rcases List.mem_cons.mp hp with rfl | hp
    · exact ⟨fun hm => let_free (R.word s hm) (by omega) rfl, Nat.le_succ_of_le R.short⟩
    · obtain ⟨x, hx, rfl⟩ := List.mem_map.mp hp
      exact R.parts.txt hr hm hb hs x hx
  refine ⟨TL.spl_join (by simp) fun p hp => (all 32 (by decide) p hp).1, fun h => ?_, ?_⟩
  · rcases joinL_mem h with ⟨p, hp, h⟩ | h
    · exact (all 10 (by decide) p hp).1 h
    · simp at h
  · have := joinL_len (S := [32]) (m := 9) fun p hp => (all 32 (by decide) p hp).2
    have l1 := R.parts.len
    have l2 := R.few
    simp only [List.length_cons, List.length_map, List.length_nil] at this
    unfold rowTxt
    omega
section
variable {P : Pg} {d f : Nat} {h : AH} {Q : AV → AH → Prop}
theorem room_in_spec {fw fn : Nat} (hw : P.fn fw = some F_words_in) (hn : P.fn fn = some F_number_in) (hf : P.fn f = some (F_room_in fw fn)) {r : Nat} (r0 : 1 ≤ r) (r1 : r ≤ 20) (k : ∀ h', Kx h h' → Q (.int (r : Nat)) h') : wp (callF P (d + 2) f [.str (sROOM ++ 32 :: TL.numL r)]) Q h := by
  refine w_call hf rfl ?_
  have l9 := TL.numL_len (n := r) (k := 9) (by decide) (by omega)
  have sp : TL.spl [32] 0 [] (sROOM ++ 32 :: TL.numL r) = [sROOM, TL.numL r] := by
    have := TL.spl_join (s := 32) (S := []) (parts := [sROOM, TL.numL r]) (by simp) (by
      intro p hp
      simp only [List.mem_cons, List.not_mem_nil, or_false] at hp
      rcases hp with rfl | rfl
      · decide
      · exact TL.numL_free (.inl (by decide)))
    exact this
  have ln : (sROOM ++ 32 :: TL.numL r).length + 2 ≤ 16777216 := by simp; omega
  generalize (sROOM ++ 32 :: TL.numL r) = line at sp ln
  show wp (evS P (callF P (d + 1)) (B_room_in fw fn) [some (.str line), none, none]) _ _
  unfold B_room_in
  bv_omega
  refine words_in_spec hw ln ?_
  rw [sp]
  have a : At 0 (h.push (.lst ([sROOM, TL.numL r].map .str))) h.n (.lst [.str sROOM, .str (TL.numL r)]) := At.new _ (Nat.zero_le _)
  bv_omega
  refine wF_lenL ?_ a
  bv_omega
  refine wX_lst a atI_0 ?_
  bv_omega
  refine wX_lst a atI_1 ?_
  bv_omega
  refine number_in_spec hn (by omega) fun h1 k1 => ?_
  rw [numV_num (by omega)]
  bv_omega
  refine wp_if_t (decide_eq_true (by omega)) ?_
  bv_omega
  refine wp_if_t (decide_eq_true (by omega)) ?_
  bv_omega
  exact k _ (((Kp.refl _ _).push _).trans k1)
end

theorem foldl_addL : ∀ {ws acc : List (List Nat)}, (acc ++ ws).Nodup → ws.foldl addL acc = acc ++ ws
  | [], acc, _ => by simp
  | w :: ws, acc, h => by
    have nw : w ∉ acc := fun hm => by
      rw [List.nodup_append] at h
      exact h.2.2 w hm w (List.mem_cons_self ..) rfl
    have e : addL acc w = acc ++ [w] := by
      unfold addL
      rw [if_neg]
      simp only [List.any_eq_true, beq_iff_eq, not_exists, not_and]
      exact fun x hx e => nw (e ▸ hx)
    rw [List.foldl_cons, e, foldl_addL (by simpa using h)]
    simp
theorem nameB_ok {w : List Nat} (h : NameOk w) : nameB w = true := by
  unfold nameB
  rw [decide_eq_true h.l0, decide_eq_true h.l1, show (w.all fun c => decide (c ∈ LET)) = true from List.all_eq_true.mpr fun c hc => decide_eq_true (h.all c hc)]; rfl
theorem map_const_bl {α : Type} : ∀ xs : List α, xs.map (fun _ => AV.bl true) = (List.replicate xs.length true).map .bl
  | [] => rfl
  | x :: xs => by rw [List.map_cons, map_const_bl xs]; rfl
theorem all_replicate {n : Nat} : (List.replicate n true).all id = true := by simp
def boxTxt (boxes : List (List Nat)) : List Nat := TL.joinL [32] (sBOXES :: boxes)
theorem box_free {boxes : List (List Nat)} (hb : ∀ w ∈ boxes, NameOk w) (hl : boxes.length ≤ 120) : TL.spl [32] 0 [] (boxTxt boxes) = sBOXES :: boxes ∧ 10 ∉ boxTxt boxes ∧ (boxTxt boxes).length ≤ 2000 := by
  have all : ∀ s, s < 48 → ∀ p ∈ sBOXES :: boxes, s ∉ p ∧ p.length ≤ 8 := fun s hs p hp => by
    rcases List.mem_cons.mp hp with rfl | hp
    · refine ⟨fun hm => ?_, by decide⟩
      simp only [List.mem_cons, List.not_mem_nil, or_false] at hm
      omega
    · exact ⟨fun hm => let_free ((hb p hp).all s hm) (by omega) rfl, (hb p hp).l1⟩
  refine ⟨TL.spl_join (by simp) fun p hp => (all 32 (by decide) p hp).1, fun h => ?_, ?_⟩
  · rcases joinL_mem h with ⟨p, hp, h⟩ | h
    · exact (all 10 (by decide) p hp).1 h
    · simp at h
  · have := joinL_len (S := [32]) (m := 8) fun p hp => (all 32 (by decide) p hp).2
    simp only [List.length_cons, List.length_nil] at this
    unfold boxTxt
    omega
section
variable {P : Pg} {d f : Nat} {h : AH} {Q : AV → AH → Prop}
theorem boxes_in_spec {fw fn : Nat} (hw : P.fn fw = some F_words_in) (hn : P.fn fn = some F_is_name) (hf : P.fn f = some (F_boxes_in fw fn)) {boxes : List (List Nat)} (hb : ∀ w ∈ boxes, NameOk w) (hl : boxes.length ≤ 120) (nd : boxes.Nodup) (k : ∀ h', Kx h h' → Q (.tup (boxes.map .str)) h') : wp (callF P (d + 2) f [.str (boxTxt boxes)]) Q h := by
  obtain ⟨sp, _, ln⟩ := box_free hb hl
  refine w_call hf rfl ?_
  generalize boxTxt boxes = line at sp ln
  show wp (evS P (callF P (d + 1)) (B_boxes_in fw fn) [some (.str line), none, none, none]) _ _
  unfold B_boxes_in
  bv_omega
  refine words_in_spec hw (by omega) ?_
  rw [sp]
  have a : At 0 (h.push (.lst ((sBOXES :: boxes).map .str))) h.n (.lst (.str sBOXES :: boxes.map .str)) := At.new _ (Nat.zero_le _)
  bv_omega
  refine wL_lst ?_ a
  rw [cut_tail]
  bv_omega
  refine wF_tupL ?_ (At.new _ (Nat.zero_le _))
  rw [List.drop_one, List.tail_cons]
  have a1 := a.push (.lst (boxes.map .str))
  have k1 : Kx h ((h.push (.lst ((sBOXES :: boxes).map .str))).push (.lst (boxes.map .str))) := ((Kp.refl _ _).push _).push _
  generalize (h.push (.lst ((sBOXES :: boxes).map .str))).push (.lst (boxes.map .str)) = h1 at a1 k1
  bv_omega
  refine wX_lst a1 atI_0 ?_
  bv_omega
  refine wp_if_f (decide_eq_false (by simp; omega)) ?_
  bv_omega
  refine wK_tup ?_
  refine wp_lc_map (fun _ => .bl true) (by simp; omega) (fun _ _ => Src.is_fix _ _) ?_ ?_ rfl
  · intro i x h' hx kk
    rw [List.getElem?_map] at hx
    obtain ⟨w, hw', rfl⟩ := Option.map_eq_some_iff.mp hx
    have wok := hb w (List.mem_of_getElem? hw')
    bv_omega
    refine is_name_spec hn (by have := wok.l1; omega) fun h2 k2 => ?_
    rw [nameB_ok wok]
    bv_omega
    exact ⟨k2, rfl⟩
  · intro h' kk a2
    bv_omega
    refine wF_all a2 (i := List.replicate boxes.length true) (by rw [map_const_bl, bls_map]; simp) ?_
    rw [all_replicate]
    bv_omega
    refine wF (by nofun) (by nofun) (wp_bind (wp_ofO (a := boxes) (wp_bind (wp_guard (wp_pure ?_) (by simp; omega))) (strsO_map _)))
    rw [foldl_addL (acc := []) (by simpa using nd), List.nil_append]
    bv_omega
    refine wp_if_t (decide_eq_true (by simp)) ?_
    bv_omega
    exact k _ (k1.trans kk)
end

/-- the places of boxes by their names -/
structure PlOk (boxes : List (List Nat)) (kvs : List (AV × AV)) : Prop where
  ok : ∀ w, keyOk kvs (.str w) = true
  at_ : ∀ i w, boxes[i]? = some w → look kvs (.str w) = some (.int (i : Nat))
  only : ∀ w, w ∉ boxes → look kvs (.str w) = none
section
variable {P : Pg} {d f : Nat} {h : AH} {Q : AV → AH → Prop}
theorem part_in_spec {fi fn : Nat} (hi : P.fn fi = some F_is_name) (hn : P.fn fn = some F_number_in) (hf : P.fn f = some (F_part_in fi fn)) {room many kind pl b : Nat} {boxes : List (List Nat)} {x : AV} {kvs : List (AV × AV)} (hp : PartOk room boxes many kind x) (hr : room ≤ 20) (hm : many ≤ 40000)
    (hpl : PlOk boxes kvs) (a : At b h pl (.dic kvs)) (k : ∀ h', Kx h h' → Q x h') : wp (callF P (d + 2) f [.str (wtxt x), .str [kind], .int (room : Nat), .ref pl, .int (many : Nat)]) Q h := by
  refine w_call hf rfl ?_
  have num : ∀ n : Nat, n < 1000000000 → x = .int (n : Nat) → kind ≠ 78 → kind ≠ 66 → (kind = 81 → n ≤ room) → (kind = 76 → n < many) →
      wp (evS P (callF P (d + 1)) (B_part_in fi fn) [some (.str (wtxt x)), some (.str [kind]), some (.int (room : Nat)), some (.ref pl), some (.int (many : Nat)), none]) (retK Q) h := by
    rintro n hn' rfl n1 n2 g1 g2
    have et : wtxt (.int (n : Nat)) = TL.numL n := intL_nat n
    rw [et]
    unfold B_part_in
    bv_omega
    refine wp_if_f (decide_eq_false (by simpa using n1)) ?_
    bv_omega
    refine wp_if_f (decide_eq_false (by simpa using n2)) ?_
    bv_omega
    have l9 := TL.numL_len (n := n) (k := 9) (by decide) (by omega)
    refine number_in_spec hn (by omega) fun h1 k1 => ?_
    rw [numV_num hn']
    bv_omega
    by_cases e : kind = 81
    · have := g1 e
      refine wp_if_t (decide_eq_true (by rw [e])) ?_
      bv_omega
      refine wp_if_f (decide_eq_false (by omega)) ?_
      bv_omega
      refine wp_if_f (decide_eq_false (by rw [e]; decide)) ?_
      bv_omega
      exact k _ k1
    · refine wp_if_f (decide_eq_false (by simpa using e)) ?_
      bv_omega
      by_cases e2 : kind = 76
      · have := g2 e2
        refine wp_if_t (decide_eq_true (by rw [e2])) ?_
        bv_omega
        refine wp_if_f (decide_eq_false (by omega)) ?_
        bv_omega
        exact k _ k1
      · refine wp_if_f (decide_eq_false (by simpa using e2)) ?_
        bv_omega
        exact k _ k1
  show wp (evS P (callF P (d + 1)) (B_part_in fi fn) [some (.str (wtxt x)), some (.str [kind]), some (.int (room : Nat)), some (.ref pl), some (.int (many : Nat)), none]) (retK Q) h
  cases hp with
  | n h1 =>
    unfold B_part_in
    bv_omega
    refine is_name_spec hi (by have := h1.l1; show List.length _ < _; simp only [wtxt]; omega) fun h2 k2 => ?_
    rw [show nameB (wtxt (AV.str _)) = true from nameB_ok h1]
    bv_omega
    exact k _ k2
  | b h1 =>
    obtain ⟨i, hi', rfl⟩ := List.getElem_of_mem h1
    unfold B_part_in
    bv_omega
    refine wN_dic ?_ a (hpl.ok _)
    rw [show look kvs (.str (wtxt (.str boxes[i]))) = some (.int (i : Nat)) from hpl.at_ i _ (List.getElem?_eq_getElem hi')]
    bv_omega
    exact k _ (Kp.refl _ _)
  | q h1 => exact num _ (by omega) rfl (by decide) (by decide) (fun _ => h1) (fun e => by cases e)
  | l h1 => exact num _ (by omega) rfl (by decide) (by decide) (fun e => by cases e) (fun _ => h1)
  | k h1 => exact num _ h1 rfl (by decide) (by decide) (fun e => by cases e) (fun e => by cases e)
theorem kinds_in_spec (hf : P.fn f = some F_kinds_in) {form : List Nat} (e : Txt.endswith ⟨form.toArray⟩ ⟨#[42]⟩ = false) (l : form.length ≤ 8) (k : Q (.str form) h) : wp (callF P (d + 1) f [.str form, .int (form.length : Nat)]) Q h := by
  refine w_call hf rfl ?_
  show wp (evS P (callF P d) B_kinds_in [some (.str form), some (.int (form.length : Nat))]) _ _
  unfold B_kinds_in
  bv_omega
  refine (wp_pure ?_ : wp (pure (AV.bl (Txt.endswith ⟨form.toArray⟩ ⟨#[42]⟩))) _ _)
  rw [e]
  bv_omega
  refine wF_lenS ?_ (by omega)
  bv_omega
  refine wp_if_t (decide_eq_true rfl) ?_
  bv_omega
  exact k
theorem inS_non {h : AH} : ∀ {xs : List AV}, (∀ x ∈ xs, (∃ w, x = .str w) ∨ ∃ i, x = .int i) → inS h .non xs = some false
  | [], _ => rfl
  | x :: xs, hs => by
    have ih := inS_non (h := h) fun y hy => hs y (List.mem_cons_of_mem _ hy)
    have e : eqA h x .non = some false := by
      rcases hs x (List.mem_cons_self ..) with ⟨w, rfl⟩ | ⟨i, rfl⟩
      · exact eqA_flat rfl
      · exact eqA_flat rfl
    unfold inS at ih ⊢
    obtain ⟨bs, e1, e2⟩ := Option.map_eq_some_iff.mp ih
    simp only [mapO, e, e1, Option.map_some, List.any_cons, e2, id, Bool.or_self]
theorem PartOk.flat {room many k : Nat} {boxes : List (List Nat)} {x : AV} (h : PartOk room boxes many k x) : (∃ w, x = .str w) ∨ ∃ i, x = .int i := by
  cases h with
  | n h => exact .inl ⟨_, rfl⟩
  | b h => exact .inl ⟨_, rfl⟩
  | q h => exact .inr ⟨_, rfl⟩
  | l h => exact .inr ⟨_, rfl⟩
  | k h => exact .inr ⟨_, rfl⟩
theorem PartsOk.flat {room many : Nat} {boxes : List (List Nat)} : ∀ {ks : List Nat} {xs : List AV}, PartsOk room boxes many ks xs → ∀ x ∈ xs, (∃ w, x = .str w) ∨ ∃ i, x = .int i
  | _, _, .nil => fun x hx => by cases hx
  | _, _, .cons h r => fun x hx => by
    rcases List.mem_cons.mp hx with rfl | hx
    · exact h.flat
    · exact PartsOk.flat r x hx
theorem row_in_spec {fw fk fp fi fn : Nat} (hw : P.fn fw = some F_words_in) (hk : P.fn fk = some F_kinds_in) (hp : P.fn fp = some (F_part_in fi fn)) (hi : P.fn fi = some F_is_name) (hn : P.fn fn = some F_number_in) (hf : P.fn f = some (F_row_in fw fk fp))
    {F : List (AV × AV)} {room many pl fo b c : Nat} {boxes : List (List Nat)} {kvs : List (AV × AV)} {kw form : List Nat} {parts : List AV} (R : RowOk F room boxes many kw form parts) (hr : room ≤ 20) (hm : many ≤ 40000) (hb : ∀ w ∈ boxes, NameOk w)
    (hpl : PlOk boxes kvs) (a : At b h pl (.dic kvs)) (aF : At c h fo (.dic F)) (okF : ∀ w, keyOk F (.str w) = true) (k : ∀ h', Kx h h' → Q (.tup (.str kw :: parts)) h') :
    wp (callF P (d + 3) f [.str (rowTxt kw parts), .int (room : Nat), .ref pl, .int (many : Nat), .ref fo]) Q h := by
  obtain ⟨sp, _, ln⟩ := R.free hr hm hb
  refine w_call hf rfl ?_
  generalize rowTxt kw parts = line at sp ln
  show wp (evS P (callF P (d + 2)) (B_row_in fw fk fp) [some (.str line), some (.int (room : Nat)), some (.ref pl), some (.int (many : Nat)), some (.ref fo), none, none, none, none, none]) _ _
  unfold B_row_in
  bv_omega
  refine words_in_spec hw (by omega) ?_
  rw [sp]
  have pl' := R.parts.len
  have few := R.few
  have a0 : At 0 (h.push (.lst ((kw :: parts.map wtxt).map .str))) h.n (.lst (.str kw :: (parts.map wtxt).map .str)) := At.new _ (Nat.zero_le _)
  have k0 : Kx h (h.push (.lst ((kw :: parts.map wtxt).map .str))) := (Kp.refl _ _).push _
  have a1 := a.push (.lst ((kw :: parts.map wtxt).map .str))
  have aF1 := aF.push (.lst ((kw :: parts.map wtxt).map .str))
  generalize (h.push (.lst ((kw :: parts.map wtxt).map .str))) = h1 at a0 k0 a1 aF1
  bv_omega
  refine wX_lst a0 atI_0 ?_
  bv_omega
  refine wN_dic ?_ aF1 (okF _)
  rw [R.look_]
  bv_omega
  refine wX_lst a0 atI_0 ?_
  refine wX_dic aF1 (okF _) R.look_ ?_
  bv_omega
  refine wF_lenL ?_ a0
  bv_omega
  rw [show (((AV.str kw :: (parts.map wtxt).map .str).length : Nat) : Int) - 1 = (form.length : Nat) by simp; omega]
  refine kinds_in_spec hk R.plain few ?_
  bv_omega
  refine wL_lst ?_ a0
  rw [cut_tail, List.drop_one, List.tail_cons]
  have aT : At 0 (h1.push (.lst ((parts.map wtxt).map .str))) h1.n (.lst ((parts.map wtxt).map .str)) := At.new _ (Nat.zero_le _)
  have a2 := a1.push (.lst ((parts.map wtxt).map .str))
  have a02 := a0.push (.lst ((parts.map wtxt).map .str))
  have k2 := k0.push (.lst ((parts.map wtxt).map .str))
  have mostE : ((parts.map wtxt).map AV.str).length = parts.length := by simp
  have mostG : Src.most (.zipG (.lst h1.n) (.fix (form.map fun c => .str [c]))) (h1.push (.lst ((parts.map wtxt).map .str))) = parts.length := by
    simp only [Src.most, aT.get, List.length_map]; omega
  generalize (h1.push (.lst ((parts.map wtxt).map .str))) = h2 at aT a2 a02 k2 mostG
  bv_omega
  refine wK_zipLS ?_ aT
  rw [mostG]
  refine wp_lc (hs := h2) (b := 0) (xs := (((parts.map wtxt).map AV.str).zip (form.map fun c => .str [c])).map fun p => .tup [p.1, p.2]) (fun _ _ => True) (fun i acc => acc = parts.take i) (Nat.zero_le _) (by simp; omega) (fun i h3 k3 _ => Src.is_zipG (Src.is_lst (aT.kp k3 (Nat.le_refl _))) (Src.is_fix _ _)) (fun _ _ _ _ _ => trivial) ?_ ?_ _ 0 [] _ (by simp; omega) (Nat.zero_le _) ((Kp.refl _ _).push _) (At.new _ (Nat.zero_le _)) trivial rfl
  · rintro i x acc h3 hx k3 a3 _ rfl
    rw [List.getElem?_map] at hx
    obtain ⟨⟨u, v⟩, hz, rfl⟩ := Option.map_eq_some_iff.mp hx
    rw [List.getElem?_zip_eq_some] at hz
    obtain ⟨hz1, hz2⟩ := hz
    simp only [List.getElem?_map, Option.map_map, Option.map_eq_some_iff] at hz1 hz2
    obtain ⟨y, hy, rfl⟩ := hz1
    obtain ⟨c, hc, rfl⟩ := hz2
    have ok := R.parts.get hc hy
    bv_omega
    refine part_in_spec hi hn hp ok hr hm hpl (a2.kp k3 (Nat.zero_le _)) fun h4 k4 => ?_
    bv_omega
    refine ⟨k4, trivial, ?_⟩
    show parts.take i ++ [y] = parts.take (i + 1)
    rw [List.take_succ, hy]; rfl
  · rintro acc h3 k3 a3 _ rfl
    rw [show ((((parts.map wtxt).map AV.str).zip (form.map fun c => AV.str [c])).map fun p => AV.tup [p.1, p.2]).length = parts.length by simp; omega, List.take_length] at a3
    bv_omega
    refine wF_tupL ?_ a3
    bv_omega
    refine wN_tup (inS_non R.parts.flat) ?_
    bv_omega
    refine wX_lst (a02.kp k3 (Nat.le_refl _)) atI_0 ?_
    bv_omega
    rw [List.append_nil]
    refine ⟨?_, by simp; omega⟩
    bv_omega
    exact k _ (k2.trans k3)
end
end PM
end
section
set_option maxHeartbeats 400000
/-! PL5: a reader is read. -/
namespace PM
open PySem
local macro_rules | `(tactic| array_get_dec) => `(tactic| repeat' (first
  | assumption
  | exact At.new _ (by first | exact Nat.zero_le _ | omega | (simp only [AH.n_push, AH.n_set]; omega))
  | refine At.push ?_ _
  | refine At.set (by assumption) _
  | refine At.set_ne ?_ _ (by first | assumption | omega | (simp only [AH.n_push, AH.n_set]; omega))
  | refine At.kp (by assumption) ?_ (by first | exact Nat.le_refl _ | exact Nat.zero_le _ | omega)))
local macro_rules | `(tactic| array_mem_dec) => `(tactic| with_reducible first
  | refine wS_seq ?_ | refine wS_asg ?_ | refine wS_par ?_ | refine wS_aug (by with_unfolding_all exact rfl) ?_ | refine wS_ex ?_ | refine wS_ret (by with_unfolding_all exact nofun) ?_ | refine wS_ret0 ?_ | refine wS_ife ?_ | refine wS_brk ?_ | refine wS_cnt ?_ | refine wS_pass ?_ | refine wS_done ?_ | refine wS_for ?_
  | refine seqK_nx ?_ | refine seqK_rt ?_ | refine seqK_bk ?_ | refine seqK_ct ?_ | refine retK_nx ?_ | refine retK_rt ?_ | refine forK_nx ?_ | refine forK_ct ?_ | refine forK_bk ?_ | refine forK_rt ?_
  | refine wE_v (by with_unfolding_all exact rfl) ?_ | refine wE_k ?_ | refine wE_bin ?_ | refine wE_neg ?_ | refine wE_not ?_ | refine wE_and ?_ | refine wE_or ?_ | refine wE_ite ?_ | refine wE_cmp ?_ | refine wE_chain ?_ | refine wE_call ?_ | refine wE_callK ?_ | refine wE_blt ?_ | refine wE_meth ?_ | refine wE_attr ?_ | refine wE_ix ?_ | refine wE_sl ?_ | refine wE_lst ?_ | refine wE_tup ?_ | refine wE_dic ?_ | refine wE_lc ?_
  | refine wA_nil ?_ | refine wA_cons ?_ | refine wA_star ?_
  | refine wT_not ?_ | refine wT_and ?_ | refine wT_or ?_ | refine wT_ite ?_ | refine wT_cmp ?_ | refine wT_chain ?_ | refine wT_no ?_ | refine wT_v (by with_unfolding_all exact rfl) ?_ | refine wT_call ?_ | refine wT_blt ?_ | refine wT_meth ?_ | refine wT_attr ?_ | refine wT_ix ?_
  | refine w_tru_bl ?_
  | refine wP_no ?_ | refine wP_k ?_ | refine wP_v (by with_unfolding_all exact rfl) ?_ | refine wP_neg ?_ | refine wP_bin ?_
  | refine wG_v ?_ | refine wG_tup ?_ | refine wG_attr ?_ | refine wG_ix ?_ | refine wGs_nil ?_ | refine wGs_cons ?_ | refine wU_tup ?_
  | refine wB_add ?_ | refine wB_sub ?_
  | refine wC_lt ?_ | refine wC_le ?_ | refine wC_gt ?_ | refine wC_ge ?_ | refine wC_eqs ?_ | refine wC_nes ?_ | refine wC_eqi ?_ | refine wC_nei ?_ | refine wC_is ?_ | refine wC_isn ?_ | refine wC_in ?_ | refine wC_nin ?_ | refine wN_str ?_
  | refine wF_lenT ?_ | refine wF_abs ?_ | refine wF_max ?_ | refine wF_min ?_ | refine wF_int ?_ | refine wF_intB ?_ | refine wF_tupT ?_ | refine wF_listT ?_ | refine wF_isin_str ?_ | refine wF_isin_int ?_
  | refine wL_tup ?_ | refine wM_str ?_
  | refine wp_pure ?_ | refine wp_bind ?_
  | refine and_len ?_ (by with_unfolding_all exact rfl) | refine par_ok (by with_unfolding_all exact rfl) ?_ | refine int_ok rfl ?_)
local macro_rules | `(tactic| bv_omega) => `(tactic| repeat (first | array_mem_dec | (with_reducible first | refine wp_if_t rfl ?_ | refine wp_if_f rfl ?_)))
local macro_rules | `(tactic| sizeOf_list_dec) => `(tactic| repeat array_mem_dec)
/-! ### the places of boxes -/
def plF : Nat → List (List Nat) → List (AV × AV)
  | _, [] => []
  | n, w :: ws => (.str w, .int (n : Nat)) :: plF (n + 1) ws
def plT : Nat → List (List Nat) → List AV
  | _, [] => []
  | n, w :: ws => .tup [.str w, .int (n : Nat)] :: plT (n + 1) ws
theorem plT_len : ∀ (n : Nat) (ws : List (List Nat)), (plT n ws).length = ws.length
  | _, [] => rfl
  | n, w :: ws => congrArg Nat.succ (plT_len (n + 1) ws)
theorem plT_get : ∀ (n : Nat) (ws : List (List Nat)) (i : Nat), (plT n ws)[i]? = (ws[i]?).map fun w => .tup [.str w, .int ((n + i : Nat) : Int)]
  | _, [], i => rfl
  | n, w :: ws, 0 => rfl
  | n, w :: ws, i + 1 => by
    show (plT (n + 1) ws)[i]? = _
    rw [plT_get (n + 1) ws i, List.getElem?_cons_succ, show n + 1 + i = n + (i + 1) by omega]
theorem plT_pairs : ∀ (n : Nat) (ws : List (List Nat)), pairsO (plT n ws) = some (plF n ws)
  | _, [] => rfl
  | n, w :: ws => by
    show (pairsO (plT (n + 1) ws)).map _ = _
    rw [plT_pairs (n + 1) ws]; rfl
theorem plF_keys : ∀ (n : Nat) (ws : List (List Nat)), (plF n ws).all (fun kv => keyF kv.1) = true
  | _, [] => rfl
  | n, w :: ws => by
    show (keyF (.str w) && (plF (n + 1) ws).all fun kv => keyF kv.1) = true
    rw [plF_keys (n + 1) ws]; rfl
theorem plF_look : ∀ (n : Nat) (ws : List (List Nat)) (i : Nat) (w : List Nat), ws.Nodup → ws[i]? = some w → look (plF n ws) (.str w) = some (.int ((n + i : Nat) : Int))
  | n, u :: ws, 0, w, nd, e => by
    simp at e
    subst e
    simp [look, plF, keyB, keyE]
  | n, u :: ws, i + 1, w, nd, e => by
    rw [List.nodup_cons] at nd
    have e' : ws[i]? = some w := by simpa using e
    have ne : u ≠ w := fun z => nd.1 (by rw [z]; exact List.mem_of_getElem? e')
    have ih := plF_look (n + 1) ws i w nd.2 e'
    have : look (plF n (u :: ws)) (.str w) = look (plF (n + 1) ws) (.str w) := by
      simp [look, plF, keyB, keyE, ne]
    rw [this, ih, show n + 1 + i = n + (i + 1) by omega]
theorem plF_none : ∀ (n : Nat) (ws : List (List Nat)) (w : List Nat), w ∉ ws → look (plF n ws) (.str w) = none
  | _, [], _, _ => rfl
  | n, u :: ws, w, h => by
    have ne : u ≠ w := fun z => h (by rw [z]; exact List.mem_cons_self ..)
    have ih := plF_none (n + 1) ws w fun hm => h (List.mem_cons_of_mem _ hm)
    have : look (plF n (u :: ws)) (.str w) = look (plF (n + 1) ws) (.str w) := by
      simp [look, plF, keyB, keyE, ne]
    rw [this, ih]
theorem plF_app : ∀ (n : Nat) (ws us : List (List Nat)), plF n (ws ++ us) = plF n ws ++ plF (n + ws.length) us
  | n, [], us => rfl
  | n, w :: ws, us => by
    show (_ :: plF (n + 1) (ws ++ us)) = _
    rw [plF_app (n + 1) ws us, show n + 1 + ws.length = n + (w :: ws).length by simp; omega]; rfl
theorem any_key : ∀ (n : Nat) (ws : List (List Nat)) (w : List Nat), w ∉ ws → (plF n ws).any (fun kv => keyB kv.1 (.str w)) = false
  | _, [], _, _ => rfl
  | n, u :: ws, w, h => by
    have ne : u ≠ w := fun z => h (by rw [z]; exact List.mem_cons_self ..)
    have ih := any_key (n + 1) ws w fun hm => h (List.mem_cons_of_mem _ hm)
    show (keyB (.str u) (.str w) || (plF (n + 1) ws).any fun kv => keyB kv.1 (.str w)) = false
    rw [ih]
    simp [keyB, keyE, ne]
theorem putAll_plF : ∀ (us ws : List (List Nat)), (us ++ ws).Nodup → putAll (plF 0 us) (plF us.length ws) = plF 0 (us ++ ws)
  | us, [], _ => by simp [putAll, plF]
  | us, w :: ws, h => by
    have nw : w ∉ us := fun hm => by
      rw [List.nodup_append] at h
      exact h.2.2 w hm w (List.mem_cons_self ..) rfl
    show putAll (put (plF 0 us) (.str w) (.int (us.length : Nat))) (plF (us.length + 1) ws) = _
    have e : put (plF 0 us) (.str w) (.int (us.length : Nat)) = plF 0 (us ++ [w]) := by
      unfold put
      rw [any_key 0 us w nw, plF_app]
      simp [plF]
    rw [e]
    have ih := putAll_plF (us ++ [w]) ws (by simpa using h)
    rw [List.length_append] at ih
    simpa using ih
theorem pl_ok {boxes : List (List Nat)} (nd : boxes.Nodup) : PlOk boxes (putAll [] (plF 0 boxes)) := by
  have e := putAll_plF [] boxes (by simpa using nd)
  have e' : putAll [] (plF 0 boxes) = plF 0 boxes := by simpa [plF] using e
  rw [e']
  refine ⟨fun w => ?_, fun i w h => ?_, fun w h => plF_none 0 boxes w h⟩
  · unfold keyOk
    rw [plF_keys]; rfl
  · have := plF_look 0 boxes i w nd h
    rwa [Nat.zero_add] at this
theorem places_lc {turn : AV → M (Option AV)} {hs : AH} {boxes : List (List Nat)} {Q : AV → AH → Prop} (hl : boxes.length ≤ 120)
    (step : ∀ (i : Nat) w h, Kx hs h → wp (turn (.tup [.int (i : Nat), .str w])) (fun o h' => Kx h h' ∧ o = some (.tup [.str w, .int (i : Nat)])) h)
    (done : ∀ h, Kx hs h → At 0 h hs.n (.lst (plT 0 boxes)) → Q (.ref hs.n) h) {f : Nat} (hf : f = boxes.length) : wp (lcLoop (.enumT (boxes.map .str)) hs.n turn f 0) Q (hs.push (.lst [])) := by
  subst hf
  refine wp_lc (b := 0) (xs := (boxes.map AV.str).mapIdx fun i x => .tup [.int i, x]) (fun _ _ => True) (fun i acc => acc = (plT 0 boxes).take i) (Nat.zero_le _) (by simp; omega) (fun i h k _ => Src.is_enumT _ _) (fun _ _ _ _ _ => trivial) ?_ ?_ _ 0 [] _ (by simp) (Nat.zero_le _) ((Kp.refl _ _).push _) (At.new _ (Nat.zero_le _)) trivial rfl
  · rintro i x acc h hx k a _ rfl
    rw [List.getElem?_mapIdx, List.getElem?_map] at hx
    simp only [Option.map_map, Option.map_eq_some_iff] at hx
    obtain ⟨w, hw, rfl⟩ := hx
    refine wp_mono (step i w h k) ?_
    rintro o h' ⟨k', rfl⟩
    refine ⟨k', trivial, ?_⟩
    show _ ++ [AV.tup [.str w, .int (i : Nat)]] = _
    rw [List.take_succ, plT_get, hw, Nat.zero_add]; rfl
  · rintro acc h k a _ rfl
    rw [show ((boxes.map AV.str).mapIdx fun i x => AV.tup [.int i, x]).length = (plT 0 boxes).length by simp [plT_len], List.take_length] at a
    exact done h k a
/-! ### the text of a reader -/
def rowAV (r : List Nat × List AV) : AV := .tup (.str r.1 :: r.2)
structure RdOk (F : List (AV × AV)) (room : Nat) (boxes : List (List Nat)) (rows : List (List Nat × List AV)) : Prop where
  r0 : 1 ≤ room
  r1 : room ≤ 20
  names : ∀ w ∈ boxes, NameOk w
  few : boxes.length ≤ 120
  nd : boxes.Nodup
  some_ : 1 ≤ rows.length
  most : rows.length ≤ 1000
  rows : ∀ r ∈ rows, ∃ form, RowOk F room boxes rows.length r.1 form r.2
def rdLines (room : Nat) (boxes : List (List Nat)) (rows : List (List Nat × List AV)) : List (List Nat) := (sROOM ++ 32 :: TL.numL room) :: boxTxt boxes :: rows.map fun r => rowTxt r.1 r.2
def rdTxt (room : Nat) (boxes : List (List Nat)) (rows : List (List Nat × List AV)) : List Nat := TL.joinL [10] (rdLines room boxes rows)
theorem joinL_cons_len (S p : List Nat) (ps : List (List Nat)) : (TL.joinL S (p :: ps)).length ≤ p.length + S.length + (TL.joinL S ps).length := by
  cases ps with
  | nil => show p.length ≤ _; omega
  | cons q r =>
    show (p ++ (S ++ TL.joinL S (q :: r))).length ≤ _
    rw [List.length_append, List.length_append]
    omega
theorem RdOk.txt {F : List (AV × AV)} {room : Nat} {boxes : List (List Nat)} {rows : List (List Nat × List AV)} (R : RdOk F room boxes rows) : TL.spl [10] 0 [] (rdTxt room boxes rows) = rdLines room boxes rows ∧ (rdTxt room boxes rows).length ≤ 100000 := by
  have hm := R.most
  obtain ⟨_, hb1, hb2⟩ := box_free R.names R.few
  have l0 := TL.numL_len (n := room) (k := 9) (by decide) (by have := R.r1; omega)
  have rw_ : ∀ p ∈ rows.map fun r => rowTxt r.1 r.2, 10 ∉ p ∧ p.length ≤ 90 := fun p hp => by
    obtain ⟨r, hr, rfl⟩ := List.mem_map.mp hp
    obtain ⟨form, ok⟩ := R.rows r hr
    obtain ⟨_, h1, h2⟩ := ok.free R.r1 (by omega) R.names
    exact ⟨h1, h2⟩
  have all : ∀ p ∈ rdLines room boxes rows, 10 ∉ p := fun p hp => by
    rcases List.mem_cons.mp hp with rfl | hp
    · intro h
      rcases List.mem_append.mp h with h | h
      · revert h; decide
      · rcases List.mem_cons.mp h with h | h
        · cases h
        · exact TL.numL_free (.inl (by decide)) h
    · rcases List.mem_cons.mp hp with rfl | hp
      · exact hb1
      · exact (rw_ p hp).1
  refine ⟨TL.spl_join (by simp [rdLines]) all, ?_⟩
  have j1 := joinL_cons_len [10] (sROOM ++ 32 :: TL.numL room) (boxTxt boxes :: rows.map fun r => rowTxt r.1 r.2)
  have j2 := joinL_cons_len [10] (boxTxt boxes) (rows.map fun r => rowTxt r.1 r.2)
  have j3 := joinL_len (S := [10]) (m := 90) fun p hp => (rw_ p hp).2
  unfold rdTxt rdLines
  simp only [List.length_append, List.length_cons, List.length_map, List.length_nil] at j1 j2 j3 ⊢
  omega
section
variable {P : Pg} {d f : Nat} {h : AH} {Q : AV → AH → Prop}
theorem read_reader_spec {fl fr fb fo fw fk fp fi fn : Nat} {z1 z2 z3 z4 z5 : S} (hl : P.fn fl = some F_lines_in) (hr : P.fn fr = some (F_room_in fw fn)) (hb : P.fn fb = some (F_boxes_in fw fi)) (ho : P.fn fo = some (F_row_in fw fk fp))
    (hw : P.fn fw = some F_words_in) (hk : P.fn fk = some F_kinds_in) (hp : P.fn fp = some (F_part_in fi fn)) (hi : P.fn fi = some F_is_name) (hn : P.fn fn = some F_number_in) (hf : P.fn f = some (F_read_reader z1 z2 z3 z4 z5 fl fr fb fo))
    {F : List (AV × AV)} {room c r : Nat} {boxes : List (List Nat)} {rows : List (List Nat × List AV)} (R : RdOk F room boxes rows) (aF : At c h r (.dic F)) (okF : ∀ w, keyOk F (.str w) = true)
    (k : ∀ h', Kx h h' → Q (.tup [.int (room : Nat), .tup (boxes.map .str), .tup (rows.map rowAV)]) h') :
    wp (callF P (d + 4) f [.str (rdTxt room boxes rows), .ref r]) Q h := by
  obtain ⟨sp, ln⟩ := R.txt
  have hfew := R.few
  have hmost := R.most
  have hsome := R.some_
  refine w_call hf rfl ?_
  generalize rdTxt room boxes rows = text at sp ln
  show wp (evS P (callF P (d + 3)) (B_read_reader z1 z2 z3 z4 z5 fl fr fb fo) [some (.str text), some (.ref r), none, none, none, none, none, none, none, none, none, none]) _ _
  unfold B_read_reader
  bv_omega
  refine lines_in_spec hl (by omega) ?_
  rw [sp]
  have hll : (rdLines room boxes rows).length = rows.length + 2 := by simp [rdLines]
  have a0 : At 0 (h.push (.lst ((rdLines room boxes rows).map .str))) h.n (.lst (.str (sROOM ++ 32 :: TL.numL room) :: .str (boxTxt boxes) :: rows.map fun r => .str (rowTxt r.1 r.2))) := by
    have e : (rdLines room boxes rows).map AV.str = (.str (sROOM ++ 32 :: TL.numL room) :: .str (boxTxt boxes) :: rows.map fun r => .str (rowTxt r.1 r.2)) := by
      simp only [rdLines, List.map_cons, List.map_map, Function.comp_def]
    rw [e]
    exact At.new _ (Nat.zero_le _)
  have k0 : Kx h (h.push (.lst ((rdLines room boxes rows).map .str))) := (Kp.refl _ _).push _
  generalize (h.push (.lst ((rdLines room boxes rows).map .str))) = h1 at a0 k0
  bv_omega
  refine wX_lst a0 atI_0 ?_
  bv_omega
  refine room_in_spec hw hn hr R.r0 R.r1 fun h2 k2 => ?_
  have a2 := a0.kp k2 (Nat.le_refl _)
  bv_omega
  refine wF_lenL ?_ a2
  bv_omega
  refine wp_if_t (decide_eq_true (by simp; omega)) ?_
  bv_omega
  refine wX_lst a2 atI_1 ?_
  bv_omega
  refine boxes_in_spec hw hi hb R.names R.few R.nd fun h3 k3 => ?_
  have a3 := a2.kp k3 (Nat.le_refl _)
  have k03 := (k0.trans k2).trans k3
  bv_omega
  refine wF_lenL ?_ a3
  bv_omega
  refine wp_if_f (decide_eq_false (by simp; omega)) ?_
  bv_omega
  refine wK_enumT ?_
  have a4 := a3.push (.lst [])
  have rl4 : At 0 (h3.push (.lst [])) h3.n (.lst []) := At.new _ (Nat.zero_le _)
  have k04 := k03.push (.lst [])
  have n4 : (h3.push (.lst [])).n = h3.n + 1 := rfl
  generalize h3.push (.lst []) = h4 at a4 rl4 k04 n4
  refine places_lc R.few ?_ ?_ (by simp [Src.most])
  · intro i w h5 k5
    bv_omega
    exact ⟨Kp.refl _ _, rfl⟩
  · intro h5 k5 a5
    have l5 := a5.lt
    bv_omega
    refine wF_dict a5 (plT_pairs 0 boxes) (plF_keys 0 boxes) ?_
    have pl6 : At 0 (h5.push (.dic (putAll [] (plF 0 boxes)))) h5.n (.dic (putAll [] (plF 0 boxes))) := At.new _ (Nat.zero_le _)
    have a6 := (a4.kp k5 (Nat.le_refl _)).push (.dic (putAll [] (plF 0 boxes)))
    have rl6 := (rl4.kp k5 (Nat.le_refl _)).push (.dic (putAll [] (plF 0 boxes)))
    have k06 := (k04.trans k5).push (.dic (putAll [] (plF 0 boxes)))
    have n6 : (h5.push (.dic (putAll [] (plF 0 boxes)))).n = h5.n + 1 := rfl
    generalize h5.push (.dic (putAll [] (plF 0 boxes))) = h6 at pl6 a6 rl6 k06 n6
    bv_omega
    refine wF_lenL ?_ a6
    bv_omega
    refine wL_lst ?_ a6
    rw [cut_tail2]
    rw [show (List.drop 2 (AV.str (sROOM ++ 32 :: TL.numL room) :: AV.str (boxTxt boxes) :: rows.map fun r => AV.str (rowTxt r.1 r.2))) = rows.map fun r => AV.str (rowTxt r.1 r.2) from rfl]
    rw [show (((AV.str (sROOM ++ 32 :: TL.numL room) :: AV.str (boxTxt boxes) :: rows.map fun r => AV.str (rowTxt r.1 r.2)).length : Nat) : Int) - 2 = (rows.length : Nat) by simp; omega]
    have pl7 := pl6.push (.lst (rows.map fun r => .str (rowTxt r.1 r.2)))
    have rl7 := rl6.push (.lst (rows.map fun r => .str (rowTxt r.1 r.2)))
    have k07 := k06.push (.lst (rows.map fun r => .str (rowTxt r.1 r.2)))
    have ln7 : At 0 (h6.push (.lst (rows.map fun r => .str (rowTxt r.1 r.2)))) h6.n (.lst (rows.map fun r => .str (rowTxt r.1 r.2))) := At.new _ (Nat.zero_le _)
    have x1 := k5.le
    have x3 := k03.le
    have r4 := rl4.lt
    generalize h6.push (.lst (rows.map fun r => .str (rowTxt r.1 r.2))) = h7 at pl7 rl7 k07 ln7
    bv_omega
    refine wK_enumL ?_ ln7
    have most : Src.most (.enum (.lst h6.n)) h7 = ((rows.map fun r => AV.str (rowTxt r.1 r.2)).mapIdx fun i x => AV.tup [.int i, x]).length := by
      simp only [Src.most, ln7.get, List.length_mapIdx]
    rw [most]
    refine wp_for (xs := (rows.map fun r => AV.str (rowTxt r.1 r.2)).mapIdx fun i x => .tup [.int i, x]) (fun i σ h' => ∃ (v5 v9 v10 v11 : Option AV), σ = [some (.str text), some (.ref r), some (.ref h.n), some (.int (room : Nat)), some (.tup (boxes.map .str)), v5, some (.ref h3.n), some (.ref h5.n), some (.int (rows.length : Nat)), v9, v10, v11] ∧ Kx h h' ∧ At 0 h' h5.n (.dic (putAll [] (plF 0 boxes))) ∧ At 0 h' h6.n (.lst (rows.map fun r => .str (rowTxt r.1 r.2))) ∧ At 0 h' h3.n (.lst ((rows.take i).map rowAV)))
      (fun i σ h' ⟨_, _, _, _, _, _, _, l, _⟩ => Src.is_enum (Src.is_lst l)) ?_ ?_ _ 0 _ _ (by rw [Nat.zero_add]) ?_
    · rintro i x σ h' hx ⟨v5, v9, v10, v11, rfl, kk, pl, l, rl⟩
      rw [List.getElem?_mapIdx, List.getElem?_map] at hx
      simp only [Option.map_map, Option.map_eq_some_iff] at hx
      obtain ⟨rw_, hrw, hx'⟩ := hx
      have hx2 : x = .tup [.int (i : Nat), .str (rowTxt rw_.1 rw_.2)] := hx'.symm
      subst hx2
      have hi' : i < rows.length := (List.getElem?_eq_some_iff.mp hrw).1
      obtain ⟨form, ok⟩ := R.rows rw_ (List.mem_of_getElem? hrw)
      sizeOf_list_dec
      refine wp_if_t (decide_eq_true (by omega)) ?_
      bv_omega
      refine row_in_spec hw hk hp hi hn ho ok R.r1 (by omega) R.names (pl_ok R.nd) pl (aF.kp kk (Nat.zero_le _)) okF fun h8 k8 => ?_
      have rl8 := rl.kp k8 (Nat.le_refl _)
      bv_omega
      refine wM_lst ?_ rl8
      bv_omega
      refine wm_app ?_ rl8 (by simp; omega)
      bv_omega
      refine ⟨_, _, _, _, rfl, (kk.trans k8).set _ x3, (pl.kp k8 (Nat.le_refl _)).set_ne _ (by omega), (l.kp k8 (Nat.le_refl _)).set_ne _ (by omega), ?_⟩
      have := rl8.set (.lst ((rows.take i).map rowAV ++ [rowAV rw_]))
      rw [show (rows.take i).map rowAV ++ [rowAV rw_] = (rows.take (i + 1)).map rowAV by rw [List.take_succ, hrw]; simp] at this
      have e : (rows.take i).map rowAV ++ [AV.tup (.str rw_.1 :: rw_.2)] = (rows.take (i + 1)).map rowAV := by rw [List.take_succ, hrw]; simp [rowAV]
      rw [e]
      exact this
    · rintro σ h' ⟨v5, v9, v10, v11, rfl, kk, pl, l, rl⟩
      rw [show ((rows.map fun r => AV.str (rowTxt r.1 r.2)).mapIdx fun i x => AV.tup [.int i, x]).length = rows.length by simp, List.take_length] at rl
      bv_omega
      refine wF_tupL ?_ rl
      bv_omega
      exact k _ kk
    · exact ⟨_, _, _, _, rfl, k07, pl7, ln7, rl7⟩
end
end PM
end
section
set_option maxHeartbeats 400000
/-! PL6: readers as objects. -/
namespace PM
open PySem
local macro_rules | `(tactic| array_get_dec) => `(tactic| repeat' (first
  | assumption
  | exact At.new _ (by first | exact Nat.zero_le _ | omega | (simp only [AH.n_push, AH.n_set]; omega))
  | refine At.push ?_ _
  | refine At.set (by assumption) _
  | refine At.set_ne ?_ _ (by first | assumption | omega | (simp only [AH.n_push, AH.n_set]; omega))
  | refine At.kp (by assumption) ?_ (by first | exact Nat.le_refl _ | exact Nat.zero_le _ | omega)))
local macro_rules | `(tactic| array_mem_dec) => `(tactic| with_reducible first
  | refine wS_seq ?_ | refine wS_asg ?_ | refine wS_par ?_ | refine wS_aug (by with_unfolding_all exact rfl) ?_ | refine wS_ex ?_ | refine wS_ret (by with_unfolding_all exact nofun) ?_ | refine wS_ret0 ?_ | refine wS_ife ?_ | refine wS_brk ?_ | refine wS_cnt ?_ | refine wS_pass ?_ | refine wS_done ?_ | refine wS_for ?_
  | refine seqK_nx ?_ | refine seqK_rt ?_ | refine seqK_bk ?_ | refine seqK_ct ?_ | refine retK_nx ?_ | refine retK_rt ?_ | refine forK_nx ?_ | refine forK_ct ?_ | refine forK_bk ?_ | refine forK_rt ?_
  | refine wE_v (by with_unfolding_all exact rfl) ?_ | refine wE_k ?_ | refine wE_bin ?_ | refine wE_neg ?_ | refine wE_not ?_ | refine wE_and ?_ | refine wE_or ?_ | refine wE_ite ?_ | refine wE_cmp ?_ | refine wE_chain ?_ | refine wE_call ?_ | refine wE_callK ?_ | refine wE_blt ?_ | refine wE_meth ?_ | refine wE_attr ?_ | refine wE_ix ?_ | refine wE_sl ?_ | refine wE_lst ?_ | refine wE_tup ?_ | refine wE_dic ?_ | refine wE_lc ?_
  | refine wA_nil ?_ | refine wA_cons ?_ | refine wA_star ?_
  | refine wT_not ?_ | refine wT_and ?_ | refine wT_or ?_ | refine wT_ite ?_ | refine wT_cmp ?_ | refine wT_chain ?_ | refine wT_no ?_ | refine wT_v (by with_unfolding_all exact rfl) ?_ | refine wT_call ?_ | refine wT_blt ?_ | refine wT_meth ?_ | refine wT_attr ?_ | refine wT_ix ?_
  | refine w_tru_bl ?_
  | refine wP_no ?_ | refine wP_k ?_ | refine wP_v (by with_unfolding_all exact rfl) ?_ | refine wP_neg ?_ | refine wP_bin ?_
  | refine wG_v ?_ | refine wG_tup ?_ | refine wG_attr ?_ | refine wG_ix ?_ | refine wGs_nil ?_ | refine wGs_cons ?_ | refine wU_tup ?_
  | refine wB_add ?_ | refine wB_sub ?_
  | refine wC_lt ?_ | refine wC_le ?_ | refine wC_gt ?_ | refine wC_ge ?_ | refine wC_eqs ?_ | refine wC_nes ?_ | refine wC_eqi ?_ | refine wC_nei ?_ | refine wC_is ?_ | refine wC_isn ?_ | refine wC_in ?_ | refine wC_nin ?_ | refine wN_str ?_
  | refine wF_lenT ?_ | refine wF_abs ?_ | refine wF_max ?_ | refine wF_min ?_ | refine wF_int ?_ | refine wF_intB ?_ | refine wF_tupT ?_ | refine wF_listT ?_ | refine wF_isin_str ?_ | refine wF_isin_int ?_
  | refine wL_tup ?_ | refine wM_str ?_
  | refine wp_pure ?_ | refine wp_bind ?_
  | refine and_len ?_ (by with_unfolding_all exact rfl) | refine par_ok (by with_unfolding_all exact rfl) ?_ | refine int_ok rfl ?_)
local macro_rules | `(tactic| bv_omega) => `(tactic| repeat (first | array_mem_dec | (with_reducible first | refine wp_if_t rfl ?_ | refine wp_if_f rfl ?_)))
local macro_rules | `(tactic| sizeOf_list_dec) => `(tactic| repeat array_mem_dec)
/-- the parts of a program that read a reader -/
structure Rd (P : Pg) where
  (isName numberIn wordsIn linesIn roomIn boxesIn partIn kindsIn rowIn readReader coded init text room boxes rows len eq : Nat)
  (c g aRoom aBoxes aRows aText aCodes pText pRoom pBoxes pRows : Nat)
  (z1 z2 z3 z4 z5 : S)
  cl : Cl
  F : List (AV × AV)
  h_isName : P.fn isName = some F_is_name
  h_numberIn : P.fn numberIn = some F_number_in
  h_wordsIn : P.fn wordsIn = some F_words_in
  h_linesIn : P.fn linesIn = some F_lines_in
  h_roomIn : P.fn roomIn = some (F_room_in wordsIn numberIn)
  h_boxesIn : P.fn boxesIn = some (F_boxes_in wordsIn isName)
  h_partIn : P.fn partIn = some (F_part_in isName numberIn)
  h_kindsIn : P.fn kindsIn = some F_kinds_in
  h_rowIn : P.fn rowIn = some (F_row_in wordsIn kindsIn partIn)
  h_readReader : P.fn readReader = some (F_read_reader z1 z2 z3 z4 z5 linesIn roomIn boxesIn rowIn)
  h_coded : P.fn coded = some (F_coded kindsIn)
  h_init : P.fn init = some (F_Reader_init aRoom aBoxes aRows readReader g aText aCodes coded)
  h_text : P.fn text = some (F_Reader_text aText)
  h_room : P.fn room = some (F_Reader_room aRoom)
  h_boxes : P.fn boxes = some (F_Reader_boxes aBoxes)
  h_rows : P.fn rows = some (F_Reader_rows aRows)
  h_len : P.fn len = some (F_Reader_len aRows)
  h_eq : P.fn eq = some (F_Reader_eq c aText)
  h_g : P.gq g = some F
  okF : ∀ w, keyOk F (.str w) = true
  h_c : P.cl c = some cl
  c_init : cl.init = some init
  c_eq : cl.eq = some eq
  c_len : cl.len = some len
  c_flds : [aRoom, aBoxes, aRows, aText, aCodes].all (fun a => cl.flds.contains a && (cl.props.lookup a).isNone) = true
  c_nd : [aRoom, aBoxes, aRows, aText, aCodes].Nodup
  c_text : cl.props.lookup pText = some text
  c_room : cl.props.lookup pRoom = some room
  c_boxes : cl.props.lookup pBoxes = some boxes
  c_rows : cl.props.lookup pRows = some rows
variable {P : Pg}
def Rd.fs (R : Rd P) (room : Nat) (boxes : List (List Nat)) (rows : List (List Nat × List AV)) (codes : AV) : List (Nat × AV) :=
  [(R.aRoom, .int (room : Nat)), (R.aBoxes, .tup (boxes.map .str)), (R.aRows, .tup (rows.map rowAV)), (R.aText, .str (rdTxt room boxes rows)), (R.aCodes, codes)]
theorem Rd.fld (R : Rd P) : (∀ a ∈ [R.aRoom, R.aBoxes, R.aRows, R.aText, R.aCodes], R.cl.flds.contains a = true ∧ R.cl.props.lookup a = none) := fun a ha => by
  have := List.all_eq_true.mp R.c_flds a ha
  rw [Bool.and_eq_true] at this
  exact ⟨this.1, Option.isNone_iff_eq_none.mp this.2⟩
section
variable {d f : Nat} {h : AH} {Q : AV → AH → Prop}
theorem coded_spec {fk : Nat} (hk : P.fn fk = some F_kinds_in) (hf : P.fn f = some (F_coded fk)) {F : List (AV × AV)} {room many b c pl fo : Nat} {boxes : List (List Nat)} {kvs : List (AV × AV)} {kw form : List Nat} {parts : List AV} (R : RowOk F room boxes many kw form parts)
    (hpl : PlOk boxes kvs) (a : At b h pl (.dic kvs)) (aF : At c h fo (.dic F)) (okF : ∀ w, keyOk F (.str w) = true) (k : ∀ h' cs, Kx h h' → Q (.tup (.str kw :: cs)) h') :
    wp (callF P (d + 2) f [.tup (.str kw :: parts), .ref pl, .ref fo]) Q h := by
  refine w_call hf rfl ?_
  have few := R.few
  have pl' := R.parts.len
  show wp (evS P (callF P (d + 1)) (B_coded fk) [some (.tup (.str kw :: parts)), some (.ref pl), some (.ref fo), none, none, none]) _ _
  unfold B_coded
  bv_omega
  refine wX_tup atI_0 ?_
  refine wX_dic aF (okF _) R.look_ ?_
  bv_omega
  rw [show (((AV.str kw :: parts).length : Nat) : Int) - 1 = (form.length : Nat) by simp; omega]
  refine kinds_in_spec hk R.plain few ?_
  bv_omega
  refine wX_tup atI_0 ?_
  bv_omega
  rw [cut_tail, List.drop_one, List.tail_cons]
  refine wK_zipTS ?_
  have most : Src.most (.zipG (.fix parts) (.fix (form.map fun c => .str [c]))) h = ((parts.zip (form.map fun c => AV.str [c])).map fun p => AV.tup [p.1, p.2]).length := by
    simp only [Src.most, List.length_map, List.length_zip]
  rw [most]
  refine wp_lc (hs := h) (b := 0) (fun _ _ => True) (fun i acc => acc.length = i) (Nat.zero_le _) (by simp; omega) (fun i h3 k3 _ => Src.is_zipG (Src.is_fix _ _) (Src.is_fix _ _)) (fun _ _ _ _ _ => trivial) ?_ ?_ _ 0 [] _ (Nat.zero_add _) (Nat.zero_le _) ((Kp.refl _ _).push _) (At.new _ (Nat.zero_le _)) trivial rfl
  · rintro i x acc h3 hx k3 a3 _ rfl
    rw [List.getElem?_map] at hx
    obtain ⟨⟨u, v⟩, hz, rfl⟩ := Option.map_eq_some_iff.mp hx
    rw [List.getElem?_zip_eq_some] at hz
    obtain ⟨hz1, hz2⟩ := hz
    simp only [List.getElem?_map, Option.map_eq_some_iff] at hz2
    obtain ⟨c, hc, hv⟩ := hz2
    have ok := R.parts.get hc hz1
    subst hv
    bv_omega
    cases ok with
    | b h1 =>
      obtain ⟨i, hi', rfl⟩ := List.getElem_of_mem h1
      bv_omega
      refine wX_dic (a.kp k3 (Nat.zero_le _)) (hpl.ok _) (hpl.at_ i _ (List.getElem?_eq_getElem hi')) ?_
      bv_omega
      exact ⟨Kp.refl _ _, trivial, by simp [lcK]⟩
    | n h1 => bv_omega; exact ⟨Kp.refl _ _, trivial, by simp [lcK]⟩
    | q h1 => bv_omega; exact ⟨Kp.refl _ _, trivial, by simp [lcK]⟩
    | l h1 => bv_omega; exact ⟨Kp.refl _ _, trivial, by simp [lcK]⟩
    | k h1 => bv_omega; exact ⟨Kp.refl _ _, trivial, by simp [lcK]⟩
  · rintro acc h3 k3 a3 _ al
    have l8 : acc.length ≤ 8 := by
      rw [al]
      simp only [List.length_map, List.length_zip]
      omega
    bv_omega
    refine wU_lst ?_ a3
    bv_omega
    refine ⟨?_, by simp; omega⟩
    bv_omega
    exact k _ _ k3
/-- an instance of a reader -/
def IsRd (R : Rd P) (b : Nat) (h : AH) (self : Nat) (room : Nat) (boxes : List (List Nat)) (rows : List (List Nat × List AV)) : Prop := ∃ codes, At b h self (.ins R.c (R.fs room boxes rows codes))
theorem IsRd.kp {R : Rd P} {b c self room : Nat} {h h' : AH} {boxes : List (List Nat)} {rows : List (List Nat × List AV)} (k : Kp c h h') (a : IsRd R b h self room boxes rows) (l : c ≤ b) : IsRd R b h' self room boxes rows := let ⟨codes, a⟩ := a; ⟨codes, a.kp k l⟩
theorem init_spec (R : Rd P) {room self : Nat} {boxes : List (List Nat)} {rows : List (List Nat × List AV)} (ok : RdOk R.F room boxes rows) {h0 : AH} (k0 : Kx h0 h) (l0 : h0.n ≤ self) (a : At 0 h self (.ins R.c []))
    (k : ∀ h', Kx h0 h' → IsRd R 0 h' self room boxes rows → Q .non h') : wp (callF P (d + 5) R.init [.ref self, .str (rdTxt room boxes rows)]) Q h := by
  obtain ⟨n1, n2⟩ := List.nodup_cons.mp R.c_nd
  obtain ⟨n3, n4⟩ := List.nodup_cons.mp n2
  obtain ⟨n5, n6⟩ := List.nodup_cons.mp n4
  obtain ⟨n7, n8⟩ := List.nodup_cons.mp n6
  simp only [List.mem_cons, List.not_mem_nil, or_false, not_or] at n1 n3 n5 n7
  have F1 := R.fld R.aRoom (by simp)
  have F2 := R.fld R.aBoxes (by simp)
  have F3 := R.fld R.aRows (by simp)
  have F4 := R.fld R.aText (by simp)
  have F5 := R.fld R.aCodes (by simp)
  have few := ok.few
  refine w_call R.h_init rfl ?_
  show wp (evS P (callF P (d + 4)) (B_Reader_init R.aRoom R.aBoxes R.aRows R.readReader R.g R.aText R.aCodes R.coded) [some (.ref self), some (.str (rdTxt room boxes rows)), none, none, none, none]) _ _
  unfold B_Reader_init
  bv_omega
  refine wF_dictof R.h_g ?_
  bv_omega
  refine read_reader_spec R.h_linesIn R.h_roomIn R.h_boxesIn R.h_rowIn R.h_wordsIn R.h_kindsIn R.h_partIn R.h_isName R.h_numberIn R.h_readReader ok (At.new (b := 0) _ (Nat.zero_le _)) R.okF fun h1 k1 => ?_
  have a1 := (a.push (.dic R.F)).kp k1 (Nat.le_refl _)
  have k01 := (k0.push (.dic R.F)).trans k1
  bv_omega
  refine wAt_set ?_ a1 R.h_c F1.1 (by decide)
  have a2 := a1.set (.ins R.c (putF R.aRoom (.int (room : Nat)) []))
  have k02 := k01.set (.ins R.c (putF R.aRoom (.int (room : Nat)) [])) l0
  generalize h1.set self (.ins R.c (putF R.aRoom (.int (room : Nat)) [])) = h2 at a2 k02
  simp only [putF] at a2
  bv_omega
  refine wAt_set ?_ a2 R.h_c F2.1 (by simp)
  have a3 := a2.set (.ins R.c (putF R.aBoxes (.tup (boxes.map .str)) [(R.aRoom, .int (room : Nat))]))
  have k03 := k02.set (.ins R.c (putF R.aBoxes (.tup (boxes.map .str)) [(R.aRoom, .int (room : Nat))])) l0
  generalize h2.set self (.ins R.c (putF R.aBoxes (.tup (boxes.map .str)) [(R.aRoom, .int (room : Nat))])) = h3 at a3 k03
  simp only [putF, if_neg n1.1] at a3
  bv_omega
  refine wAt_set ?_ a3 R.h_c F3.1 (by simp)
  have a4 := a3.set (.ins R.c (putF R.aRows (.tup (rows.map rowAV)) [(R.aRoom, .int (room : Nat)), (R.aBoxes, .tup (boxes.map .str))]))
  have k04 := k03.set (.ins R.c (putF R.aRows (.tup (rows.map rowAV)) [(R.aRoom, .int (room : Nat)), (R.aBoxes, .tup (boxes.map .str))])) l0
  generalize h3.set self (.ins R.c (putF R.aRows (.tup (rows.map rowAV)) [(R.aRoom, .int (room : Nat)), (R.aBoxes, .tup (boxes.map .str))])) = h4 at a4 k04
  simp only [putF, if_neg n1.2.1, if_neg n3.1] at a4
  bv_omega
  refine wAt_fld a4 R.h_c F2.2 F2.1 (v := .tup (boxes.map .str)) (by simp [List.lookup, Ne.symm n1.1, beq_false_of_ne]) ?_
  bv_omega
  refine wK_enumT ?_
  refine places_lc few ?_ ?_ (by simp [Src.most])
  · intro i w h5 k5
    bv_omega
    exact ⟨Kp.refl _ _, rfl⟩
  · intro h5 k5 a5
    bv_omega
    refine wF_dict a5 (plT_pairs 0 boxes) (plF_keys 0 boxes) ?_
    have pl6 : At 0 (h5.push (.dic (putAll [] (plF 0 boxes)))) h5.n (.dic (putAll [] (plF 0 boxes))) := At.new _ (Nat.zero_le _)
    have a6 := (a4.kp k5 (Nat.le_refl _)).push (.dic (putAll [] (plF 0 boxes)))
    have k06 := (k04.trans k5).push (.dic (putAll [] (plF 0 boxes)))
    generalize h5.push (.dic (putAll [] (plF 0 boxes))) = h6 at pl6 a6 k06
    bv_omega
    refine wAt_fld a6 R.h_c F3.2 F3.1 (v := .tup (rows.map rowAV)) (by simp [List.lookup, Ne.symm n1.2.1, Ne.symm n3.1, beq_false_of_ne]) ?_
    bv_omega
    refine wK_tup ?_
    have hmost := ok.most
    refine wp_lc (hs := h6) (b := 0) (xs := rows.map rowAV) (fun _ _ => True) (fun i acc => True) (Nat.zero_le _) (by simp; omega) (fun i h3 k3 _ => Src.is_fix _ _) (fun _ _ _ _ _ => trivial) ?_ ?_ _ 0 [] _ (by simp [Src.most]) (Nat.zero_le _) ((Kp.refl _ _).push _) (At.new _ (Nat.zero_le _)) trivial trivial
    · rintro i x acc h7 hx k7 a7 _ _
      rw [List.getElem?_map] at hx
      obtain ⟨r, hr, rfl⟩ := Option.map_eq_some_iff.mp hx
      obtain ⟨form, rok⟩ := ok.rows r (List.mem_of_getElem? hr)
      bv_omega
      refine wF_dictof R.h_g ?_
      bv_omega
      refine coded_spec (d := d + 2) R.h_kindsIn R.h_coded rok (pl_ok ok.nd) ((pl6.kp k7 (Nat.le_refl _)).push _) (At.new (b := 0) _ (Nat.zero_le _)) R.okF fun h8 cs k8 => ?_
      bv_omega
      exact ⟨((Kp.refl _ _).push _).trans k8, trivial, trivial⟩
    · rintro acc h7 k7 a7 _ _
      have a8 := a6.kp k7 (Nat.le_refl _)
      have k08 := k06.trans k7
      bv_omega
      refine wAt_set ?_ a8 R.h_c F4.1 (by simp)
      have a9 := a8.set (.ins R.c (putF R.aText (.str (rdTxt room boxes rows)) [(R.aRoom, .int (room : Nat)), (R.aBoxes, .tup (boxes.map .str)), (R.aRows, .tup (rows.map rowAV))]))
      have k09 := k08.set (.ins R.c (putF R.aText (.str (rdTxt room boxes rows)) [(R.aRoom, .int (room : Nat)), (R.aBoxes, .tup (boxes.map .str)), (R.aRows, .tup (rows.map rowAV))])) l0
      generalize h7.set self (.ins R.c (putF R.aText (.str (rdTxt room boxes rows)) [(R.aRoom, .int (room : Nat)), (R.aBoxes, .tup (boxes.map .str)), (R.aRows, .tup (rows.map rowAV))])) = h9 at a9 k09
      simp only [putF, if_neg n1.2.2.1, if_neg n3.2.1, if_neg n5.1] at a9
      bv_omega
      refine wAt_set ?_ a9 R.h_c F5.1 (by simp)
      have a10 := a9.set (.ins R.c (putF R.aCodes (.ref h6.n) [(R.aRoom, .int (room : Nat)), (R.aBoxes, .tup (boxes.map .str)), (R.aRows, .tup (rows.map rowAV)), (R.aText, .str (rdTxt room boxes rows))]))
      have k10 := k09.set (.ins R.c (putF R.aCodes (.ref h6.n) [(R.aRoom, .int (room : Nat)), (R.aBoxes, .tup (boxes.map .str)), (R.aRows, .tup (rows.map rowAV)), (R.aText, .str (rdTxt room boxes rows))])) l0
      generalize h9.set self (.ins R.c (putF R.aCodes (.ref h6.n) [(R.aRoom, .int (room : Nat)), (R.aBoxes, .tup (boxes.map .str)), (R.aRows, .tup (rows.map rowAV)), (R.aText, .str (rdTxt room boxes rows))])) = h10 at a10 k10
      simp only [putF, if_neg n1.2.2.2, if_neg n3.2.2, if_neg n5.2, if_neg n7] at a10
      bv_omega
      exact k _ k10 ⟨_, a10⟩
theorem newR_spec (R : Rd P) {room : Nat} {boxes : List (List Nat)} {rows : List (List Nat × List AV)} (ok : RdOk R.F room boxes rows) {σ : Loc} {e : E} (q : wp (evE P (callF P (d + 5)) e σ) (fun v h1 => v = .str (rdTxt room boxes rows) ∧ ∀ h', Kx h1 h' → IsRd R 0 h' h1.n room boxes rows → Q (.ref h1.n) h') h) :
    wp (evE P (callF P (d + 5)) (.newK R.c R.init [0, 1] .nil (.cons e .nil)) σ) Q h := by
  refine wE_newK R.h_c R.c_init (wA_nil (wA_cons (wp_mono q fun v h1 q => wA_nil ?_)))
  obtain ⟨rfl, k⟩ := q
  refine wp_ofO ?_ rfl
  refine init_spec R ok ((Kp.refl _ _).push _) (Nat.le_refl _) (At.new _ (Nat.zero_le _)) fun h' k1 r => ⟨rfl, k h' k1 r⟩
theorem newA_spec (R : Rd P) {room : Nat} {boxes : List (List Nat)} {rows : List (List Nat × List AV)} (ok : RdOk R.F room boxes rows) {σ : Loc} {e : E} (q : wp (evE P (callF P (d + 5)) e σ) (fun v h1 => v = .str (rdTxt room boxes rows) ∧ ∀ h', Kx h1 h' → IsRd R 0 h' h1.n room boxes rows → Q (.ref h1.n) h') h) :
    wp (evE P (callF P (d + 5)) (.new R.c (.cons e .nil)) σ) Q h := by
  refine wE_new R.h_c R.c_init (wA_cons (wp_mono q fun v h1 q => wA_nil ?_))
  obtain ⟨rfl, k⟩ := q
  refine init_spec R ok ((Kp.refl _ _).push _) (Nat.le_refl _) (At.new _ (Nat.zero_le _)) fun h' k1 r => ⟨rfl, k h' k1 r⟩
end
end PM
end
section
set_option maxHeartbeats 400000
/-! PL7: what readers tell; when they are equal. -/
namespace PM
open PySem
local macro_rules | `(tactic| array_get_dec) => `(tactic| repeat' (first
  | assumption
  | exact At.new _ (by first | exact Nat.zero_le _ | omega | (simp only [AH.n_push, AH.n_set]; omega))
  | refine At.push ?_ _
  | refine At.set (by assumption) _
  | refine At.set_ne ?_ _ (by first | assumption | omega | (simp only [AH.n_push, AH.n_set]; omega))
  | refine At.kp (by assumption) ?_ (by first | exact Nat.le_refl _ | exact Nat.zero_le _ | omega)))
local macro_rules | `(tactic| array_mem_dec) => `(tactic| with_reducible first
  | refine wS_seq ?_ | refine wS_asg ?_ | refine wS_par ?_ | refine wS_aug (by with_unfolding_all exact rfl) ?_ | refine wS_ex ?_ | refine wS_ret (by with_unfolding_all exact nofun) ?_ | refine wS_ret0 ?_ | refine wS_ife ?_ | refine wS_brk ?_ | refine wS_cnt ?_ | refine wS_pass ?_ | refine wS_done ?_ | refine wS_for ?_
  | refine seqK_nx ?_ | refine seqK_rt ?_ | refine seqK_bk ?_ | refine seqK_ct ?_ | refine retK_nx ?_ | refine retK_rt ?_ | refine forK_nx ?_ | refine forK_ct ?_ | refine forK_bk ?_ | refine forK_rt ?_
  | refine wE_v (by with_unfolding_all exact rfl) ?_ | refine wE_k ?_ | refine wE_bin ?_ | refine wE_neg ?_ | refine wE_not ?_ | refine wE_and ?_ | refine wE_or ?_ | refine wE_ite ?_ | refine wE_cmp ?_ | refine wE_chain ?_ | refine wE_call ?_ | refine wE_callK ?_ | refine wE_blt ?_ | refine wE_meth ?_ | refine wE_attr ?_ | refine wE_ix ?_ | refine wE_sl ?_ | refine wE_lst ?_ | refine wE_tup ?_ | refine wE_dic ?_ | refine wE_lc ?_
  | refine wA_nil ?_ | refine wA_cons ?_ | refine wA_star ?_
  | refine wT_not ?_ | refine wT_and ?_ | refine wT_or ?_ | refine wT_ite ?_ | refine wT_cmp ?_ | refine wT_chain ?_ | refine wT_no ?_ | refine wT_v (by with_unfolding_all exact rfl) ?_ | refine wT_call ?_ | refine wT_blt ?_ | refine wT_meth ?_ | refine wT_attr ?_ | refine wT_ix ?_
  | refine w_tru_bl ?_
  | refine wP_no ?_ | refine wP_k ?_ | refine wP_v (by with_unfolding_all exact rfl) ?_ | refine wP_neg ?_ | refine wP_bin ?_
  | refine wG_v ?_ | refine wG_tup ?_ | refine wG_attr ?_ | refine wG_ix ?_ | refine wGs_nil ?_ | refine wGs_cons ?_ | refine wU_tup ?_
  | refine wB_add ?_ | refine wB_sub ?_
  | refine wC_lt ?_ | refine wC_le ?_ | refine wC_gt ?_ | refine wC_ge ?_ | refine wC_eqs ?_ | refine wC_nes ?_ | refine wC_eqi ?_ | refine wC_nei ?_ | refine wC_is ?_ | refine wC_isn ?_ | refine wC_in ?_ | refine wC_nin ?_ | refine wN_str ?_
  | refine wF_lenT ?_ | refine wF_abs ?_ | refine wF_max ?_ | refine wF_min ?_ | refine wF_int ?_ | refine wF_intB ?_ | refine wF_tupT ?_ | refine wF_listT ?_ | refine wF_isin_str ?_ | refine wF_isin_int ?_
  | refine wL_tup ?_ | refine wM_str ?_
  | refine wp_pure ?_ | refine wp_bind ?_
  | refine and_len ?_ (by with_unfolding_all exact rfl) | refine par_ok (by with_unfolding_all exact rfl) ?_ | refine int_ok rfl ?_)
local macro_rules | `(tactic| bv_omega) => `(tactic| repeat (first | array_mem_dec | (with_reducible first | refine wp_if_t rfl ?_ | refine wp_if_f rfl ?_)))
local macro_rules | `(tactic| sizeOf_list_dec) => `(tactic| repeat array_mem_dec)
variable {P : Pg}
section
variable {d f : Nat} {h : AH} {room self b : Nat} {boxes : List (List Nat)} {rows : List (List Nat × List AV)}
theorem fs_look (R : Rd P) (codes : AV) : (R.fs room boxes rows codes).lookup R.aRoom = some (.int (room : Nat)) ∧ (R.fs room boxes rows codes).lookup R.aBoxes = some (.tup (boxes.map .str)) ∧ (R.fs room boxes rows codes).lookup R.aRows = some (.tup (rows.map rowAV)) ∧ (R.fs room boxes rows codes).lookup R.aText = some (.str (rdTxt room boxes rows)) := by
  obtain ⟨n1, n2⟩ := List.nodup_cons.mp R.c_nd
  obtain ⟨n3, n4⟩ := List.nodup_cons.mp n2
  obtain ⟨n5, n6⟩ := List.nodup_cons.mp n4
  obtain ⟨n7, n8⟩ := List.nodup_cons.mp n6
  simp only [List.mem_cons, List.not_mem_nil, or_false, not_or] at n1 n3 n5 n7
  unfold Rd.fs
  refine ⟨by simp [List.lookup], by simp [List.lookup, Ne.symm n1.1, beq_false_of_ne], by simp [List.lookup, Ne.symm n1.2.1, Ne.symm n3.1, beq_false_of_ne], by simp [List.lookup, Ne.symm n1.2.2.1, Ne.symm n3.2.1, Ne.symm n5.1, beq_false_of_ne]⟩
variable {Q : AV → AH → Prop}
theorem rd_fld (R : Rd P) {cf : CF} (a : IsRd R b h self room boxes rows) {x : Nat} {v : AV} (hx : x ∈ [R.aRoom, R.aBoxes, R.aRows, R.aText, R.aCodes]) (hv : ∀ codes, (R.fs room boxes rows codes).lookup x = some v) (q : Q v h) : wp (getAt P cf (.ref self) x) Q h := by
  obtain ⟨codes, a⟩ := a
  have F := R.fld x hx
  exact wAt_fld a R.h_c F.2 F.1 (hv codes) q
theorem rd_prop (R : Rd P) (a : IsRd R b h self room boxes rows) {p x g : Nat} {v : AV} (hp : R.cl.props.lookup p = some g) (hg : P.fn g = some ⟨1, 1, .seq (.ret (.attr (.v 0) x)) .done⟩) (hx : x ∈ [R.aRoom, R.aBoxes, R.aRows, R.aText, R.aCodes]) (hv : ∀ codes, (R.fs room boxes rows codes).lookup x = some v) (q : Q v h) : wp (getAt P (callF P (d + 1)) (.ref self) p) Q h := by
  obtain ⟨codes, a'⟩ := id a
  refine wAt_prop a' R.h_c hp (w_call hg rfl ?_)
  show wp (evS P (callF P d) (.seq (.ret (.attr (.v 0) x)) .done) [some (.ref self)]) _ _
  bv_omega
  refine rd_fld R a hx hv ?_
  bv_omega
  exact q
theorem rd_text (R : Rd P) (a : IsRd R b h self room boxes rows) (q : Q (.str (rdTxt room boxes rows)) h) : wp (getAt P (callF P (d + 1)) (.ref self) R.pText) Q h := rd_prop R a R.c_text R.h_text (by simp) (fun c => (fs_look R c).2.2.2) q
theorem rd_room (R : Rd P) (a : IsRd R b h self room boxes rows) (q : Q (.int (room : Nat)) h) : wp (getAt P (callF P (d + 1)) (.ref self) R.pRoom) Q h := rd_prop R a R.c_room R.h_room (by simp) (fun c => (fs_look R c).1) q
theorem rd_boxes (R : Rd P) (a : IsRd R b h self room boxes rows) (q : Q (.tup (boxes.map .str)) h) : wp (getAt P (callF P (d + 1)) (.ref self) R.pBoxes) Q h := rd_prop R a R.c_boxes R.h_boxes (by simp) (fun c => (fs_look R c).2.1) q
theorem rd_rows (R : Rd P) (a : IsRd R b h self room boxes rows) (q : Q (.tup (rows.map rowAV)) h) : wp (getAt P (callF P (d + 1)) (.ref self) R.pRows) Q h := rd_prop R a R.c_rows R.h_rows (by simp) (fun c => (fs_look R c).2.2.1) q
theorem rd_len (R : Rd P) (a : IsRd R b h self room boxes rows) (l : rows.length < 2 ^ 60) (q : Q (.int (rows.length : Nat)) h) : wp (bltB P (callF P (d + 1)) .len [.ref self]) Q h := by
  obtain ⟨codes, a'⟩ := id a
  refine wF_lenOwn (f := R.len) (by simp only [ownOf, a'.get, R.h_c, Option.bind_some, R.c_len]) (w_call R.h_len rfl ?_)
  show wp (evS P (callF P d) (B_Reader_len R.aRows) [some (.ref self)]) _ _
  unfold B_Reader_len
  bv_omega
  refine rd_fld R a (by simp) (fun c => (fs_look R c).2.2.1) ?_
  bv_omega
  rw [List.length_map]
  exact ⟨by omega, by omega, q⟩
theorem rd_own (R : Rd P) (a : IsRd R b h self room boxes rows) : ownOf P (·.eq) (.ref self) h = some R.eq := by
  obtain ⟨codes, a'⟩ := a
  simp only [ownOf, a'.get, R.h_c, Option.bind_some, R.c_eq]
theorem eq_fn (R : Rd P) {room2 self2 b2 : Nat} {boxes2 : List (List Nat)} {rows2 : List (List Nat × List AV)} (a : IsRd R b h self room boxes rows) (a2 : IsRd R b2 h self2 room2 boxes2 rows2) (q : Q (.bl (decide (rdTxt room boxes rows = rdTxt room2 boxes2 rows2))) h) : wp (callF P (d + 1) R.eq [.ref self, .ref self2]) Q h := by
  obtain ⟨codes2, a2'⟩ := id a2
  refine w_call R.h_eq rfl ?_
  show wp (evS P (callF P d) (B_Reader_eq R.c R.aText) [some (.ref self), some (.ref self2)]) _ _
  unfold B_Reader_eq
  bv_omega
  refine wF (by nofun) (by nofun) (wp_bind (wp_heap ?_))
  refine wp_bind (wp_getA ?_ a2')
  refine wp_bind (wp_ofO (wp_bind (wp_ofO (wp_pure ?_) R.h_c)) R.h_c)
  refine w_tru_bl ?_
  refine wp_if_t (decide_eq_true rfl) ?_
  bv_omega
  refine rd_fld R a (by simp) (fun c => (fs_look R c).2.2.2) ?_
  bv_omega
  refine rd_fld R a2 (by simp) (fun c => (fs_look R c).2.2.2) ?_
  bv_omega
  exact q
theorem eq_fn_not (R : Rd P) {v : AV} (hv : (∃ w, v = .str w) ∨ ∃ xs, v = .tup xs) (q : Q (.bl false) h) : wp (callF P (d + 1) R.eq [.ref self, v]) Q h := by
  refine w_call R.h_eq rfl ?_
  show wp (evS P (callF P d) (B_Reader_eq R.c R.aText) [some (.ref self), some v]) _ _
  unfold B_Reader_eq
  bv_omega
  have e : wp (bltB P (callF P d) .isinstance [v, .glo R.c]) (fun v h' => v = .bl false ∧ h' = h) h := by
    rcases hv with ⟨w, rfl⟩ | ⟨xs, rfl⟩
    · exact wF (by nofun) (by nofun) (wp_bind (wp_heap (wp_bind (wp_ofO (wp_bind (wp_ofO (wp_pure ⟨rfl, rfl⟩) R.h_c)) rfl))))
    · exact wF (by nofun) (by nofun) (wp_bind (wp_heap (wp_bind (wp_ofO (wp_bind (wp_ofO (wp_pure ⟨rfl, rfl⟩) R.h_c)) rfl))))
  refine wp_mono e ?_
  rintro v' h' ⟨rfl, rfl⟩
  bv_omega
  exact q
end
section
variable {d : Nat} {h : AH} {room self b : Nat} {boxes : List (List Nat)} {rows : List (List Nat × List AV)} {Q : Bool → AH → Prop}
theorem rd_known (R : Rd P) (a : IsRd R b h self room boxes rows) : tyKnown P h (.ref self) = true := by
  obtain ⟨codes, a⟩ := a
  simp [tyKnown, tyA, a.get, R.h_c]
theorem cmp_rd (R : Rd P) {room2 self2 b2 : Nat} {boxes2 : List (List Nat)} {rows2 : List (List Nat × List AV)} (a : IsRd R b h self room boxes rows) (a2 : IsRd R b2 h self2 room2 boxes2 rows2) {t : Bool} (ht : t = decide (rdTxt room boxes rows = rdTxt room2 boxes2 rows2)) :
    (Q t h → wp (cmpA P (callF P (d + 1)) .Eq (.ref self) (.ref self2)) Q h) ∧ (Q (!t) h → wp (cmpA P (callF P (d + 1)) .NotEq (.ref self) (.ref self2)) Q h) := by
  subst ht
  constructor
  · intro q
    refine wp_bind (wp_heap ?_)
    simp only [rd_own R a]
    exact wp_bind (wp_guard (wp_bind (eq_fn R a a2 (wp_pure q))) (rd_known R a2))
  · intro q
    refine wp_bind (wp_heap ?_)
    simp only [rd_own R a]
    exact wp_bind (wp_guard (wp_bind (eq_fn R a a2 (wp_pure q))) (rd_known R a2))
theorem cmp_not (R : Rd P) (a : IsRd R b h self room boxes rows) {v : AV} (hv : (∃ w, v = .str w) ∨ ∃ xs, v = .tup xs) :
    (Q false h → wp (cmpA P (callF P (d + 1)) .Eq (.ref self) v) Q h) ∧ (Q true h → wp (cmpA P (callF P (d + 1)) .NotEq (.ref self) v) Q h) := by
  have kn : tyKnown P h v = true := by rcases hv with ⟨w, rfl⟩ | ⟨xs, rfl⟩ <;> rfl
  constructor
  · intro q
    refine wp_bind (wp_heap ?_)
    simp only [rd_own R a]
    exact wp_bind (wp_guard (wp_bind (eq_fn_not R hv (wp_pure q))) kn)
  · intro q
    refine wp_bind (wp_heap ?_)
    simp only [rd_own R a]
    exact wp_bind (wp_guard (wp_bind (eq_fn_not R hv (wp_pure q))) kn)
end
end PM
end
section
set_option maxHeartbeats 400000
/-! PL8: drawn rows and readers. -/
namespace PM
open PySem
local macro_rules | `(tactic| array_get_dec) => `(tactic| repeat' (first
  | assumption
  | exact At.new _ (by first | exact Nat.zero_le _ | omega | (simp only [AH.n_push, AH.n_set]; omega))
  | refine At.push ?_ _
  | refine At.set (by assumption) _
  | refine At.set_ne ?_ _ (by first | assumption | omega | (simp only [AH.n_push, AH.n_set]; omega))
  | refine At.kp (by assumption) ?_ (by first | exact Nat.le_refl _ | exact Nat.zero_le _ | omega)))
local macro_rules | `(tactic| array_mem_dec) => `(tactic| with_reducible first
  | refine wS_seq ?_ | refine wS_asg ?_ | refine wS_par ?_ | refine wS_aug (by with_unfolding_all exact rfl) ?_ | refine wS_ex ?_ | refine wS_ret (by with_unfolding_all exact nofun) ?_ | refine wS_ret0 ?_ | refine wS_ife ?_ | refine wS_brk ?_ | refine wS_cnt ?_ | refine wS_pass ?_ | refine wS_done ?_ | refine wS_for ?_
  | refine seqK_nx ?_ | refine seqK_rt ?_ | refine seqK_bk ?_ | refine seqK_ct ?_ | refine retK_nx ?_ | refine retK_rt ?_ | refine forK_nx ?_ | refine forK_ct ?_ | refine forK_bk ?_ | refine forK_rt ?_
  | refine wE_v (by with_unfolding_all exact rfl) ?_ | refine wE_k ?_ | refine wE_bin ?_ | refine wE_neg ?_ | refine wE_not ?_ | refine wE_and ?_ | refine wE_or ?_ | refine wE_ite ?_ | refine wE_cmp ?_ | refine wE_chain ?_ | refine wE_call ?_ | refine wE_callK ?_ | refine wE_blt ?_ | refine wE_meth ?_ | refine wE_attr ?_ | refine wE_ix ?_ | refine wE_sl ?_ | refine wE_lst ?_ | refine wE_tup ?_ | refine wE_dic ?_ | refine wE_lc ?_
  | refine wA_nil ?_ | refine wA_cons ?_ | refine wA_star ?_
  | refine wT_not ?_ | refine wT_and ?_ | refine wT_or ?_ | refine wT_ite ?_ | refine wT_cmp ?_ | refine wT_chain ?_ | refine wT_no ?_ | refine wT_v (by with_unfolding_all exact rfl) ?_ | refine wT_call ?_ | refine wT_blt ?_ | refine wT_meth ?_ | refine wT_attr ?_ | refine wT_ix ?_
  | refine w_tru_bl ?_
  | refine wP_no ?_ | refine wP_k ?_ | refine wP_v (by with_unfolding_all exact rfl) ?_ | refine wP_neg ?_ | refine wP_bin ?_
  | refine wG_v ?_ | refine wG_tup ?_ | refine wG_attr ?_ | refine wG_ix ?_ | refine wGs_nil ?_ | refine wGs_cons ?_ | refine wU_tup ?_
  | refine wB_add ?_ | refine wB_sub ?_
  | refine wC_lt ?_ | refine wC_le ?_ | refine wC_gt ?_ | refine wC_ge ?_ | refine wC_eqs ?_ | refine wC_nes ?_ | refine wC_eqi ?_ | refine wC_nei ?_ | refine wC_is ?_ | refine wC_isn ?_ | refine wC_in ?_ | refine wC_nin ?_ | refine wN_str ?_
  | refine wF_lenT ?_ | refine wF_abs ?_ | refine wF_max ?_ | refine wF_min ?_ | refine wF_int ?_ | refine wF_intB ?_ | refine wF_tupT ?_ | refine wF_listT ?_ | refine wF_isin_str ?_ | refine wF_isin_int ?_
  | refine wL_tup ?_ | refine wM_str ?_
  | refine wp_pure ?_ | refine wp_bind ?_
  | refine and_len ?_ (by with_unfolding_all exact rfl) | refine par_ok (by with_unfolding_all exact rfl) ?_ | refine int_ok rfl ?_)
local macro_rules | `(tactic| bv_omega) => `(tactic| repeat (first | array_mem_dec | (with_reducible first | refine wp_if_t rfl ?_ | refine wp_if_f rfl ?_)))
local macro_rules | `(tactic| sizeOf_list_dec) => `(tactic| repeat array_mem_dec)
-- pot, own, many, marks, arrows, one, other, to, way, some
def B_law_test_row (l_of l_take : Nat) : S := (.seq (.par [5, 6, 7] (.cons (.call l_of (.cons (.v 0) (.cons (.ix (.v 1) (.k (.str [98, 111, 120, 101, 115]))) .nil))) (.cons (.call l_of (.cons (.v 0) (.cons (.ix (.v 1) (.k (.str [98, 111, 120, 101, 115]))) .nil))) (.cons (.blt .int (.cons (.call l_take (.cons (.v 0) (.cons (.v 2) .nil))) .nil)) .nil)))) (.seq (.asg (.v 8) (.call l_take (.cons (.v 0) (.cons (.k (.int 9)) .nil)))) (.seq (.ife (.and (.cmp .Lt (.v 8) (.k (.int 3))) (.cmp .NotEq (.v 4) (.lst .nil))) (.seq (.ret (.tup (.cons (.k (.str [97, 114, 114, 111, 119])) (.cons (.call l_of (.cons (.v 0) (.cons (.v 4) .nil))) (.cons (.v 5) (.cons (.v 6) (.cons (.v 7) .nil))))))) .done) .done) (.seq (.ife (.and (.cmp .Lt (.v 8) (.k (.int 4))) (.cmp .NotEq (.v 3) (.lst .nil))) (.seq (.ret (.tup (.cons (.k (.str [109, 97, 114, 107])) (.cons (.call l_of (.cons (.v 0) (.cons (.v 3) .nil))) (.cons (.v 5) (.cons (.v 7) .nil)))))) .done) .done) (.seq (.asg (.v 9) (.lst (.cons (.tup (.cons (.k (.str [115, 97, 109, 101])) (.cons (.v 5) (.cons (.v 6) (.cons (.v 7) .nil))))) (.cons (.tup (.cons (.k (.str [108, 101, 115, 115])) (.cons (.v 5) (.cons (.v 6) (.cons (.v 7) .nil))))) (.cons (.tup (.cons (.k (.str [105, 115])) (.cons (.v 5) (.cons (.blt .int (.cons (.call l_of (.cons (.v 0) (.cons (.lst (.cons (.k (.int 0)) (.cons (.k (.int 1)) (.cons (.k (.int 1)) (.cons (.k (.int 2)) (.cons (.k (.int 3)) .nil)))))) .nil))) .nil)) (.cons (.v 7) .nil))))) .nil))))) (.seq (.ex (.meth (.v 9) 1 (.cons (.lst (.cons (.tup (.cons (.k (.str [119, 105, 116, 104, 105, 110])) (.cons (.blt .int (.cons (.call l_take (.cons (.v 0) (.cons (.bin .Add (.ix (.v 1) (.k (.str [114, 111, 111, 109]))) (.k (.int 1))) .nil))) .nil)) (.cons (.v 5) (.cons (.v 7) .nil))))) (.cons (.tup (.cons (.k (.str [103, 111])) (.cons (.v 7) .nil))) .nil))) .nil))) (.seq (.ret (.call l_of (.cons (.v 0) (.cons (.bin .Add (.v 9) (.lst (.cons (.tup (.cons (.k (.str [101, 100, 103, 101])) (.cons (.blt .int (.cons (.call l_take (.cons (.v 0) (.cons (.bin .Add (.ix (.v 1) (.k (.str [114, 111, 111, 109]))) (.k (.int 1))) .nil))) .nil)) (.cons (.v 5) (.cons (.v 7) .nil))))) .nil))) .nil)))) .done)))))))
abbrev F_law_test_row (l_of l_take : Nat) : Fn := ⟨5, 10, B_law_test_row l_of l_take⟩
-- pot, own, many, marks, arrows, way, to, one, some
def B_law_row (l_take l_of l_test_row : Nat) : S := (.seq (.par [5, 6] (.cons (.call l_take (.cons (.v 0) (.cons (.k (.int 12)) .nil))) (.cons (.blt .int (.cons (.call l_take (.cons (.v 0) (.cons (.v 2) .nil))) .nil)) .nil))) (.seq (.ife (.cmp .Eq (.ix (.v 1) (.k (.str [98, 111, 120, 101, 115]))) (.lst .nil)) (.seq (.ret (.call l_of (.cons (.v 0) (.cons (.lst (.cons (.tup (.cons (.k (.str [101, 105, 116, 104, 101, 114])) (.cons (.v 6) .nil))) (.cons (.tup (.cons (.k (.str [101, 105, 116, 104, 101, 114])) (.cons (.v 6) .nil))) (.cons (.tup (.cons (.k (.str [103, 111])) (.cons (.v 6) .nil))) (.cons (.tup (.cons (.k (.str [108, 101, 116])) .nil)) (.cons (.tup (.cons (.k (.str [114, 101, 102, 117, 115, 101])) .nil)) .nil)))))) .nil)))) .done) .done) (.seq (.asg (.v 7) (.call l_of (.cons (.v 0) (.cons (.ix (.v 1) (.k (.str [98, 111, 120, 101, 115]))) .nil)))) (.seq (.ife (.cmp .Lt (.v 5) (.k (.int 3))) (.seq (.ret (.tup (.cons (.k (.str [116, 97, 107, 101])) (.cons (.blt .int (.cons (.call l_of (.cons (.v 0) (.cons (.lst (.cons (.k (.int 1)) (.cons (.k (.int 1)) (.cons (.k (.int 1)) (.cons (.ix (.v 1) (.k (.str [114, 111, 111, 109]))) (.cons (.k (.int 0)) .nil)))))) .nil))) .nil)) (.cons (.v 7) .nil))))) .done) .done) (.seq (.ife (.cmp .Lt (.v 5) (.k (.int 8))) (.seq (.ret (.call l_test_row (.cons (.v 0) (.cons (.v 1) (.cons (.v 2) (.cons (.v 3) (.cons (.v 4) .nil))))))) .done) .done) (.seq (.ife (.cmp .Eq (.v 5) (.k (.int 8))) (.seq (.ret (.tup (.cons (.k (.str [101, 105, 116, 104, 101, 114])) (.cons (.v 6) .nil)))) .done) .done) (.seq (.ife (.cmp .Eq (.v 5) (.k (.int 9))) (.seq (.ret (.call l_of (.cons (.v 0) (.cons (.lst (.cons (.tup (.cons (.k (.str [108, 101, 116])) .nil)) (.cons (.tup (.cons (.k (.str [114, 101, 102, 117, 115, 101])) .nil)) (.cons (.tup (.cons (.k (.str [114, 101, 102, 117, 115, 101])) .nil)) .nil)))) .nil)))) .done) .done) (.seq (.asg (.v 8) (.lst (.cons (.tup (.cons (.k (.str [112, 117, 116])) (.cons (.v 7) (.cons (.call l_of (.cons (.v 0) (.cons (.ix (.v 1) (.k (.str [98, 111, 120, 101, 115]))) .nil))) .nil)))) (.cons (.tup (.cons (.k (.str [117, 112])) (.cons (.v 7) .nil))) (.cons (.tup (.cons (.k (.str [115, 101, 116])) (.cons (.v 7) (.cons (.blt .int (.cons (.call l_of (.cons (.v 0) (.cons (.lst (.cons (.k (.int 0)) (.cons (.k (.int 0)) (.cons (.k (.int 1)) (.cons (.k (.int 2)) .nil))))) .nil))) .nil)) .nil)))) .nil))))) (.seq (.ret (.call l_of (.cons (.v 0) (.cons (.v 8) .nil)))) .done)))))))))
abbrev F_law_row (l_take l_of l_test_row : Nat) : Fn := ⟨5, 9, B_law_row l_take l_of l_test_row⟩
-- pot, own, arrows, one, other, test, step
def B_law_walker (l_of l_take : Nat) : S := (.seq (.par [3, 4] (.cons (.ix (.ix (.v 1) (.k (.str [98, 111, 120, 101, 115]))) (.k (.int 0))) (.cons (.ix (.ix (.v 1) (.k (.str [98, 111, 120, 101, 115]))) (.k (.int 1))) .nil))) (.seq (.asg (.v 5) (.call l_of (.cons (.v 0) (.cons (.lst (.cons (.tup (.cons (.k (.str [101, 100, 103, 101])) (.cons (.k (.int 1)) (.cons (.v 3) (.cons (.k (.int 6)) .nil))))) (.cons (.tup (.cons (.k (.str [105, 115])) (.cons (.v 3) (.cons (.blt .int (.cons (.bin .Add (.k (.int 1)) (.call l_take (.cons (.v 0) (.cons (.k (.int 2)) .nil)))) .nil)) (.cons (.k (.int 6)) .nil))))) (.cons (.tup (.cons (.k (.str [101, 100, 103, 101])) (.cons (.k (.int 1)) (.cons (.v 4) (.cons (.k (.int 6)) .nil))))) .nil)))) .nil)))) (.seq (.asg (.v 6) (.tup (.cons (.k (.str [97, 114, 114, 111, 119])) (.cons (.call l_of (.cons (.v 0) (.cons (.v 2) .nil))) (.cons (.call l_of (.cons (.v 0) (.cons (.lst (.cons (.v 3) (.cons (.v 3) (.cons (.v 4) .nil)))) .nil))) (.cons (.call l_of (.cons (.v 0) (.cons (.lst (.cons (.v 4) (.cons (.v 4) (.cons (.v 3) .nil)))) .nil))) (.cons (.k (.int 4)) .nil))))))) (.seq (.ret (.lst (.cons (.v 5) (.cons (.tup (.cons (.k (.str [116, 97, 107, 101])) (.cons (.k (.int 1)) (.cons (.v 4) .nil)))) (.cons (.v 6) (.cons (.tup (.cons (.k (.str [114, 101, 102, 117, 115, 101])) .nil)) (.cons (.tup (.cons (.k (.str [112, 117, 116])) (.cons (.v 3) (.cons (.v 4) .nil)))) (.cons (.tup (.cons (.k (.str [103, 111])) (.cons (.k (.int 0)) .nil))) (.cons (.tup (.cons (.k (.str [108, 101, 116])) .nil)) .nil))))))))) .done))))
abbrev F_law_walker (l_of l_take : Nat) : Fn := ⟨3, 7, B_law_walker l_of l_take⟩
-- pot, room, boxes, rows, marks, arrows, own, many, lap
def B_law_reader (l_take l_names l_walker l_row : Nat) : S := (.seq (.asg (.v 6) (.dic (.cons (.k (.str [114, 111, 111, 109])) (.cons (.blt .int (.cons (.bin .Add (.k (.int 1)) (.call l_take (.cons (.v 0) (.cons (.v 1) .nil)))) .nil)) (.cons (.k (.str [98, 111, 120, 101, 115])) (.cons (.call l_names (.cons (.v 0) (.cons (.call l_take (.cons (.v 0) (.cons (.bin .Add (.v 2) (.k (.int 1))) .nil))) .nil))) (.cons (.k (.str [114, 111, 119, 115])) (.cons (.lst .nil) .nil)))))))) (.seq (.ife (.and (.cmp .Gt (.blt .len (.cons (.ix (.v 6) (.k (.str [98, 111, 120, 101, 115]))) .nil)) (.k (.int 1))) (.and (.cmp .Gt (.v 3) (.k (.int 6))) (.and (.cmp .NotEq (.v 5) (.lst .nil)) (.cmp .Eq (.call l_take (.cons (.v 0) (.cons (.k (.int 4)) .nil))) (.k (.int 0)))))) (.seq (.asg (.ix (.v 6) (.k (.str [114, 111, 119, 115]))) (.call l_walker (.cons (.v 0) (.cons (.v 6) (.cons (.v 5) .nil))))) (.seq (.ret (.v 6)) .done)) .done) (.seq (.asg (.v 7) (.bin .Add (.k (.int 2)) (.call l_take (.cons (.v 0) (.cons (.bin .Sub (.v 3) (.k (.int 1))) .nil))))) (.seq (.asg (.ix (.v 6) (.k (.str [114, 111, 119, 115]))) (.lc (.call l_row (.cons (.v 0) (.cons (.v 6) (.cons (.v 7) (.cons (.v 4) (.cons (.v 5) .nil)))))) (.v 8) .range (.cons (.v 7) .nil) .no [8])) (.seq (.ife (.cmp .Gt (.call l_take (.cons (.v 0) (.cons (.k (.int 4)) .nil))) (.k (.int 0))) (.seq (.asg (.ix (.ix (.v 6) (.k (.str [114, 111, 119, 115]))) (.call l_take (.cons (.v 0) (.cons (.v 7) .nil)))) (.tup (.cons (.k (.str [108, 101, 116])) .nil))) .done) .done) (.seq (.ret (.v 6)) .done))))))
abbrev F_law_reader (l_take l_names l_walker l_row : Nat) : Fn := ⟨6, 9, B_law_reader l_take l_names l_walker l_row⟩
-- own, rows, row, word
def B_law_reader_text : S := (.seq (.asg (.v 1) (.lst (.cons (.bin .Add (.k (.str [114, 111, 111, 109, 32])) (.blt .str (.cons (.blt .int (.cons (.ix (.v 0) (.k (.str [114, 111, 111, 109]))) .nil)) .nil))) (.cons (.meth (.k (.str [32])) 4 (.cons (.bin .Add (.lst (.cons (.k (.str [98, 111, 120, 101, 115])) .nil)) (.ix (.v 0) (.k (.str [98, 111, 120, 101, 115])))) .nil)) .nil)))) (.seq (.for_ (.v 2) .self (.cons (.ix (.v 0) (.k (.str [114, 111, 119, 115]))) .nil) (.seq (.ex (.meth (.v 1) 0 (.cons (.meth (.k (.str [32])) 4 (.cons (.lc (.ite (.blt .isinstance (.cons (.v 3) (.cons (.k (.ty "str")) .nil))) (.v 3) (.blt .str (.cons (.blt .int (.cons (.v 3) .nil)) .nil))) (.v 3) .self (.cons (.v 2) .nil) .no [3]) .nil)) .nil))) .done)) (.seq (.ret (.meth (.k (.str [10])) 4 (.cons (.v 1) .nil))) .done)))
abbrev F_law_reader_text : Fn := ⟨1, 4, B_law_reader_text ⟩
abbrev sROWS : List Nat := [114, 111, 119, 115]
theorem toD_str (f : Nat) (h : AH) (x : List Nat) : toD (f + 1) h (.str x) = some (.str ⟨x.toArray⟩) := rfl
theorem strOk_of {w : List Nat} (hw : ∀ c ∈ w, c < 1114112) : PyData.strOk ⟨w.toArray⟩ = true := by
  unfold PyData.strOk
  simp only [List.all_toArray, List.all_eq_true, decide_eq_true_eq]
  exact hw
theorem NameOk.lt {w : List Nat} (h : NameOk w) : ∀ c ∈ w, c < 1114112 := fun c hc => by
  have := h.all c hc
  simp only [List.mem_cons, List.not_mem_nil, or_false] at this
  omega
theorem canLayAll_strs : ∀ {ms : List (List Nat)}, (∀ w ∈ ms, NameOk w) → PyData.canLayAll0 (ms.map fun w => .str ⟨w.toArray⟩) = true
  | [], _ => rfl
  | w :: ms, h => by
    simp only [List.map_cons, PyData.canLayAll0, PyData.canLay0, strOk_of (h w (List.mem_cons_self ..)).lt, canLayAll_strs fun x hx => h x (List.mem_cons_of_mem _ hx), Bool.and_self]
theorem depthAll_strs : ∀ {ms : List (List Nat)}, PyData.depthAll (ms.map fun w => .str ⟨w.toArray⟩) = 0
  | [] => rfl
  | w :: ms => by simp only [List.map_cons, PyData.depthAll, PyData.depth, depthAll_strs, Nat.max_self]
theorem eqA_nil {b c a e : Nat} {h : AH} {ms : List (List Nat)} (names : ∀ w ∈ ms, NameOk w) (A : At b h a (.lst (ms.map .str))) (E : At c h e (.lst [])) : eqA h (.ref a) (.ref e) = some (decide (ms = [])) := by
  have d1 : toD 60 h (.ref a) = some (.list (ms.map fun w => .str ⟨w.toArray⟩)) := by
    show (match h.get a with
      | some (.lst xs) => (mapO (toD 59 h) xs).map PyData.list
      | some (.ro (.lst xs)) => (mapO (toD 59 h) xs).map PyData.list
      | _ => none) = _
    rw [A.get]
    show (mapO (toD 59 h) (ms.map AV.str)).map PyData.list = _
    rw [mapO_map (k := fun w => PyData.str ⟨w.toArray⟩) fun w _ => toD_str 58 h w]; rfl
  have d2 : toD 60 h (.ref e) = some (.list []) := by
    show (match h.get e with
      | some (.lst xs) => (mapO (toD 59 h) xs).map PyData.list
      | some (.ro (.lst xs)) => (mapO (toD 59 h) xs).map PyData.list
      | _ => none) = _
    rw [E.get]; rfl
  unfold eqA
  rw [show eqF (.ref a) (.ref e) = none from rfl, d1, d2]
  have s1 : SeqAt.shaped (.list (ms.map fun w => .str ⟨w.toArray⟩)) = true := by
    unfold SeqAt.shaped
    simp only [PyData.canLay0, canLayAll_strs names, PyData.depth, depthAll_strs]; rfl
  have s2 : SeqAt.shaped (.list []) = true := rfl
  simp only [s1, s2, Bool.and_self, if_true]
  cases ms with
  | nil => rfl
  | cons w ms => rfl
/-- an own reader that is drawn -/
def ownD (room : Nat) (rb rr : Nat) : List (AV × AV) := [(.str sROOM, .int (room : Nat)), (.str sBOXES, .ref rb), (.str sROWS, .ref rr)]
theorem ownD_room {room rb rr : Nat} : look (ownD room rb rr) (.str sROOM) = some (.int (room : Nat)) := rfl
theorem ownD_boxes {room rb rr : Nat} : look (ownD room rb rr) (.str sBOXES) = some (.ref rb) := rfl
theorem ownD_rows {room rb rr : Nat} : look (ownD room rb rr) (.str sROWS) = some (.ref rr) := rfl
theorem ownD_ok {room rb rr : Nat} {w : List Nat} : keyOk (ownD room rb rr) (.str w) = true := rfl
/-- a row that stands -/
def RowA (room : Nat) (boxes : List (List Nat)) (many : Nat) (v : AV) : Prop := ∃ kw form parts, v = .tup (.str kw :: parts) ∧ RowOk FORMS room boxes many kw form parts
theorem RowA.mk (kw form parts) {room many : Nat} {boxes : List (List Nat)} (e : look FORMS (.str kw) = some (.str form)) (p : PartsOk room boxes many form parts) (f : (decide (form.length ≤ 8) && !(Txt.endswith ⟨form.toArray⟩ ⟨#[42]⟩) && kw.all (fun c => decide (c ∈ LET)) && decide (kw.length ≤ 8)) = true) : RowA room boxes many (.tup (.str kw :: parts)) := by
  simp only [Bool.and_eq_true, Bool.not_eq_true', decide_eq_true_eq, List.all_eq_true] at f
  exact ⟨kw, form, parts, rfl, e, f.1.1.1, f.1.1.2, f.1.2, f.2, p⟩
section
variable {P : Pg} {d f t o : Nat} {h : AH} {Q : AV → AH → Prop} {p N : Nat}
theorem test_row_spec (D : Draw P t) (ho : P.fn o = some (F_law_of t)) (hf : P.fn f = some (F_law_test_row o t)) (q : PotN p N h) (hN : 9 ≤ N) {room many ow rb rr mk ar : Nat} {boxes ms as : List (List Nat)}
    (a : At (p + 1) h ow (.dic (ownD room rb rr))) (ab : At (p + 1) h rb (.lst (boxes.map .str))) (am : At (p + 1) h mk (.lst (ms.map .str))) (aa : At (p + 1) h ar (.lst (as.map .str)))
    (ne : boxes ≠ []) (lb : boxes.length ≤ 1000) (lm : ms.length ≤ 1000) (la : as.length ≤ 1000) (okm : ∀ w ∈ ms, NameOk w) (oka : ∀ w ∈ as, NameOk w) (hr : room ≤ 20) (m1 : 1 ≤ many) (m2 : many ≤ 1000)
    (k : ∀ v h', RowA room boxes many v → Kp (p + 1) h h' → h.n ≤ h'.n → PotN p (N - 9) h' → Q v h') : wp (callF P (d + 3) f [.ref p, .ref ow, .int (many : Nat), .ref mk, .ref ar]) Q h := by
  refine w_call hf rfl ?_
  have neb : boxes.map AV.str ≠ [] := by simpa using ne
  show wp (evS P (callF P (d + 2)) (B_law_test_row o t) [some (.ref p), some (.ref ow), some (.int (many : Nat)), some (.ref mk), some (.ref ar), none, none, none, none, none]) _ _
  unfold B_law_test_row
  bv_omega
  refine wX_dic a ownD_ok ownD_boxes ?_
  bv_omega
  refine of_lst D ho q (by omega) ab neb (by simp; omega) fun x1 h1 hx1 k1 n1 q1 => ?_
  obtain ⟨one, hone, rfl⟩ := List.mem_map.mp hx1
  bv_omega
  refine wX_dic (a.kp k1 (Nat.le_refl _)) ownD_ok ownD_boxes ?_
  bv_omega
  refine of_lst D ho q1 (by omega) (ab.kp k1 (Nat.le_refl _)) neb (by simp; omega) fun x2 h2 hx2 k2 n2 q2 => ?_
  obtain ⟨other, hother, rfl⟩ := List.mem_map.mp hx2
  bv_omega
  refine D.spec q2 (by omega) (by omega) (by omega) fun r3 h3 r30 r31 k3 n3 q3 => ?_
  obtain ⟨to, rfl⟩ := Int.eq_ofNat_of_zero_le r30
  have hto : to < many := by omega
  bv_omega
  refine D.spec q3 (by omega) (by decide) (by decide) fun way h4 w40 w41 k4 n4 q4 => ?_
  have k04 := ((k1.trans k2).trans k3).trans k4
  have q4' : PotN p (N - 4) h4 := q4.weak (by omega)
  have hp4 := q4.lt
  clear q1 q2 q3 q4
  have a4 := a.kp k04 (Nat.le_refl _)
  have ab4 := ab.kp k04 (Nat.le_refl _)
  have am4 := am.kp k04 (Nat.le_refl _)
  have aa4 := aa.kp k04 (Nat.le_refl _)
  -- the last part: one of five
  have last : ∀ h5, Kp (p + 1) h4 h5 → PotN p (N - 4) h5 → wp (evS P (callF P (d + 2)) (.seq (.asg (.v 9) (.lst (.cons (.tup (.cons (.k (.str [115, 97, 109, 101])) (.cons (.v 5) (.cons (.v 6) (.cons (.v 7) .nil))))) (.cons (.tup (.cons (.k (.str [108, 101, 115, 115])) (.cons (.v 5) (.cons (.v 6) (.cons (.v 7) .nil))))) (.cons (.tup (.cons (.k (.str [105, 115])) (.cons (.v 5) (.cons (.blt .int (.cons (.call o (.cons (.v 0) (.cons (.lst (.cons (.k (.int 0)) (.cons (.k (.int 1)) (.cons (.k (.int 1)) (.cons (.k (.int 2)) (.cons (.k (.int 3)) .nil)))))) .nil))) .nil)) (.cons (.v 7) .nil))))) .nil))))) (.seq (.ex (.meth (.v 9) 1 (.cons (.lst (.cons (.tup (.cons (.k (.str [119, 105, 116, 104, 105, 110])) (.cons (.blt .int (.cons (.call t (.cons (.v 0) (.cons (.bin .Add (.ix (.v 1) (.k (.str [114, 111, 111, 109]))) (.k (.int 1))) .nil))) .nil)) (.cons (.v 5) (.cons (.v 7) .nil))))) (.cons (.tup (.cons (.k (.str [103, 111])) (.cons (.v 7) .nil))) .nil))) .nil))) (.seq (.ret (.call o (.cons (.v 0) (.cons (.bin .Add (.v 9) (.lst (.cons (.tup (.cons (.k (.str [101, 100, 103, 101])) (.cons (.blt .int (.cons (.call t (.cons (.v 0) (.cons (.bin .Add (.ix (.v 1) (.k (.str [114, 111, 111, 109]))) (.k (.int 1))) .nil))) .nil)) (.cons (.v 5) (.cons (.v 7) .nil))))) .nil))) .nil)))) .done)))
      [some (.ref p), some (.ref ow), some (.int (many : Nat)), some (.ref mk), some (.ref ar), some (.str one), some (.str other), some (.int (to : Nat)), some (.int way), none]) (retK Q) h5 := by
    intro h5 k5 q5
    have a5 := a4.kp k5 (Nat.le_refl _)
    have hp5 := q5.lt
    bv_omega
    refine of_lst D ho (q5.push _) (by omega) (At.new _ (by omega)) (by simp) (by simp) fun z h6 hz k6 n6 q6 => ?_
    have hz' : ∃ j : Nat, z = .int (j : Nat) ∧ j ≤ 3 := by
      simp only [List.mem_cons, List.not_mem_nil, or_false] at hz
      rcases hz with rfl | rfl | rfl | rfl | rfl
      · exact ⟨0, rfl, by decide⟩
      · exact ⟨1, rfl, by decide⟩
      · exact ⟨1, rfl, by decide⟩
      · exact ⟨2, rfl, by decide⟩
      · exact ⟨3, rfl, by decide⟩
    obtain ⟨j, rfl, hj⟩ := hz'
    have a6 := (a5.push (.lst [.int 0, .int 1, .int 1, .int 2, .int 3])).kp k6 (Nat.le_refl _)
    have k06 := (k5.push (.lst [.int 0, .int 1, .int 1, .int 2, .int 3])).trans k6
    bv_omega
    have al7 : At (p + 1) (h6.push (.lst [.tup [.str [115, 97, 109, 101], .str one, .str other, .int (to : Nat)], .tup [.str [108, 101, 115, 115], .str one, .str other, .int (to : Nat)], .tup [.str [105, 115], .str one, .int (j : Nat), .int (to : Nat)]])) h6.n (.lst [.tup [.str [115, 97, 109, 101], .str one, .str other, .int (to : Nat)], .tup [.str [108, 101, 115, 115], .str one, .str other, .int (to : Nat)], .tup [.str [105, 115], .str one, .int (j : Nat), .int (to : Nat)]]) := At.new _ (by have := q6.lt; omega)
    have a7 := a6.push (.lst [.tup [.str [115, 97, 109, 101], .str one, .str other, .int (to : Nat)], .tup [.str [108, 101, 115, 115], .str one, .str other, .int (to : Nat)], .tup [.str [105, 115], .str one, .int (j : Nat), .int (to : Nat)]])
    have q7 := q6.push (.lst [.tup [.str [115, 97, 109, 101], .str one, .str other, .int (to : Nat)], .tup [.str [108, 101, 115, 115], .str one, .str other, .int (to : Nat)], .tup [.str [105, 115], .str one, .int (j : Nat), .int (to : Nat)]])
    have k07 := k06.push (.lst [.tup [.str [115, 97, 109, 101], .str one, .str other, .int (to : Nat)], .tup [.str [108, 101, 115, 115], .str one, .str other, .int (to : Nat)], .tup [.str [105, 115], .str one, .int (j : Nat), .int (to : Nat)]])
    have x6 := k06.le
    generalize (h6.push (.lst [.tup [.str [115, 97, 109, 101], .str one, .str other, .int (to : Nat)], .tup [.str [108, 101, 115, 115], .str one, .str other, .int (to : Nat)], .tup [.str [105, 115], .str one, .int (j : Nat), .int (to : Nat)]])) = h7 at al7 a7 q7 k07
    refine wM_lst ?_ al7
    bv_omega
    refine wX_dic a7 ownD_ok ownD_room ?_
    bv_omega
    refine D.spec q7 (by omega) (by omega) (by omega) fun r8 h8 r80 r81 k8 n8 q8 => ?_
    obtain ⟨w1, rfl⟩ := Int.eq_ofNat_of_zero_le r80
    have hw1 : w1 ≤ room := by omega
    bv_omega
    have al8 := al7.kp k8 (Nat.le_refl _)
    have hp8 := q8.lt
    have l8 := al8.lt
    have new8 : At (p + 1) (h8.push (.lst [.tup [.str [119, 105, 116, 104, 105, 110], .int (w1 : Nat), .str one, .int (to : Nat)], .tup [.str [103, 111], .int (to : Nat)]])) h8.n _ := At.new _ (by omega)
    refine wm_ext ?_ (al8.push _) new8 (by simp)
    have al9 := (al8.push (.lst [.tup [.str [119, 105, 116, 104, 105, 110], .int (w1 : Nat), .str one, .int (to : Nat)], .tup [.str [103, 111], .int (to : Nat)]])).set (.lst ([.tup [.str [115, 97, 109, 101], .str one, .str other, .int (to : Nat)], .tup [.str [108, 101, 115, 115], .str one, .str other, .int (to : Nat)], .tup [.str [105, 115], .str one, .int (j : Nat), .int (to : Nat)]] ++ [.tup [.str [119, 105, 116, 104, 105, 110], .int (w1 : Nat), .str one, .int (to : Nat)], .tup [.str [103, 111], .int (to : Nat)]]))
    have a9 := ((a7.kp k8 (Nat.le_refl _)).push (.lst [.tup [.str [119, 105, 116, 104, 105, 110], .int (w1 : Nat), .str one, .int (to : Nat)], .tup [.str [103, 111], .int (to : Nat)]])).set_ne (.lst ([.tup [.str [115, 97, 109, 101], .str one, .str other, .int (to : Nat)], .tup [.str [108, 101, 115, 115], .str one, .str other, .int (to : Nat)], .tup [.str [105, 115], .str one, .int (j : Nat), .int (to : Nat)]] ++ [.tup [.str [119, 105, 116, 104, 105, 110], .int (w1 : Nat), .str one, .int (to : Nat)], .tup [.str [103, 111], .int (to : Nat)]])) (show ow ≠ h6.n by have := a6.lt; omega)
    have q9 := (q8.push (.lst [.tup [.str [119, 105, 116, 104, 105, 110], .int (w1 : Nat), .str one, .int (to : Nat)], .tup [.str [103, 111], .int (to : Nat)]])).set (.lst ([.tup [.str [115, 97, 109, 101], .str one, .str other, .int (to : Nat)], .tup [.str [108, 101, 115, 115], .str one, .str other, .int (to : Nat)], .tup [.str [105, 115], .str one, .int (j : Nat), .int (to : Nat)]] ++ [.tup [.str [119, 105, 116, 104, 105, 110], .int (w1 : Nat), .str one, .int (to : Nat)], .tup [.str [103, 111], .int (to : Nat)]])) (show p < h6.n by have := q6.lt; omega)
    have k09 := ((k07.trans k8).push (.lst [.tup [.str [119, 105, 116, 104, 105, 110], .int (w1 : Nat), .str one, .int (to : Nat)], .tup [.str [103, 111], .int (to : Nat)]])).set (.lst ([.tup [.str [115, 97, 109, 101], .str one, .str other, .int (to : Nat)], .tup [.str [108, 101, 115, 115], .str one, .str other, .int (to : Nat)], .tup [.str [105, 115], .str one, .int (j : Nat), .int (to : Nat)]] ++ [.tup [.str [119, 105, 116, 104, 105, 110], .int (w1 : Nat), .str one, .int (to : Nat)], .tup [.str [103, 111], .int (to : Nat)]])) x6
    generalize ((h8.push (.lst [.tup [.str [119, 105, 116, 104, 105, 110], .int (w1 : Nat), .str one, .int (to : Nat)], .tup [.str [103, 111], .int (to : Nat)]])).set h6.n (.lst ([.tup [.str [115, 97, 109, 101], .str one, .str other, .int (to : Nat)], .tup [.str [108, 101, 115, 115], .str one, .str other, .int (to : Nat)], .tup [.str [105, 115], .str one, .int (j : Nat), .int (to : Nat)]] ++ [.tup [.str [119, 105, 116, 104, 105, 110], .int (w1 : Nat), .str one, .int (to : Nat)], .tup [.str [103, 111], .int (to : Nat)]]))) = h9 at al9 a9 q9 k09
    bv_omega
    refine wX_dic a9 ownD_ok ownD_room ?_
    bv_omega
    refine D.spec q9 (by omega) (by omega) (by omega) fun r10 h10 r100 r101 k10 n10 q10 => ?_
    obtain ⟨w2, rfl⟩ := Int.eq_ofNat_of_zero_le r100
    have hw2 : w2 ≤ room := by omega
    bv_omega
    have hp10 := q10.lt
    refine wB_addl ?_ ((al9.kp k10 (Nat.le_refl _)).push _) (At.new (b := p + 1) _ (by omega)) (by simp)
    bv_omega
    refine of_lst D ho ((q10.push _).push _) (by omega) (At.new _ (by simp only [AH.n_push]; omega)) (by simp) (by simp) fun v h11 hv k11 n11 q11 => ?_
    bv_omega
    refine k _ _ ?_ (k04.trans ((((k09.trans k10).push _).push _).trans k11)) (k04.trans ((((k09.trans k10).push _).push _).trans k11)).le (q11.weak (by omega))
    simp only [List.mem_append, List.mem_cons, List.not_mem_nil, or_false] at hv
    rcases hv with ((rfl | rfl | rfl) | (rfl | rfl)) | rfl
    · exact RowA.mk _ [66, 66, 76] _ rfl (.cons (.b hone) (.cons (.b hother) (.cons (.l hto) .nil))) (by decide)
    · exact RowA.mk _ [66, 66, 76] _ rfl (.cons (.b hone) (.cons (.b hother) (.cons (.l hto) .nil))) (by decide)
    · exact RowA.mk _ [66, 75, 76] _ rfl (.cons (.b hone) (.cons (.k (by omega)) (.cons (.l hto) .nil))) (by decide)
    · exact RowA.mk _ [81, 66, 76] _ rfl (.cons (.q hw1) (.cons (.b hone) (.cons (.l hto) .nil))) (by decide)
    · exact RowA.mk _ [76] _ rfl (.cons (.l hto) .nil) (by decide)
    · exact RowA.mk _ [81, 66, 76] _ rfl (.cons (.q hw2) (.cons (.b hone) (.cons (.l hto) .nil))) (by decide)
  -- a mark, or the last part
  have mid : ∀ h5, Kp (p + 1) h4 h5 → PotN p (N - 4) h5 → wp (evT P (callF P (d + 2)) (.and (.cmp .Lt (.v 8) (.k (.int 4))) (.cmp .NotEq (.v 3) (.lst .nil))) [some (.ref p), some (.ref ow), some (.int (many : Nat)), some (.ref mk), some (.ref ar), some (.str one), some (.str other), some (.int (to : Nat)), some (.int way), none])
      (fun r h6 => Kp (p + 1) h4 h6 ∧ PotN p (N - 4) h6 ∧ (r = true → ms ≠ [])) h5 := by
    intro h5 k5 q5
    have hp5 := q5.lt
    bv_omega
    refine wp_if (fun t => ?_) (fun t => ?_)
    · bv_omega
      refine wC_neA (by simp [ownOf, AH.get_push, (am4.kp k5 (Nat.le_refl _)).get, Nat.ne_of_lt (am4.kp k5 (Nat.le_refl _)).lt]) (eqA_nil okm ((am4.kp k5 (Nat.le_refl _)).push _) (At.new (b := p + 1) _ (by omega))) ?_
      exact ⟨k5.push _, q5.push _, fun e => by simpa using e⟩
    · bv_omega
      exact ⟨k5, q5, fun e => by cases e⟩
  have mid2 : ∀ h5, Kp (p + 1) h4 h5 → PotN p (N - 4) h5 → wp (evS P (callF P (d + 2)) (.seq (.ife (.and (.cmp .Lt (.v 8) (.k (.int 4))) (.cmp .NotEq (.v 3) (.lst .nil))) (.seq (.ret (.tup (.cons (.k (.str [109, 97, 114, 107])) (.cons (.call o (.cons (.v 0) (.cons (.v 3) .nil))) (.cons (.v 5) (.cons (.v 7) .nil)))))) .done) .done) (.seq (.asg (.v 9) (.lst (.cons (.tup (.cons (.k (.str [115, 97, 109, 101])) (.cons (.v 5) (.cons (.v 6) (.cons (.v 7) .nil))))) (.cons (.tup (.cons (.k (.str [108, 101, 115, 115])) (.cons (.v 5) (.cons (.v 6) (.cons (.v 7) .nil))))) (.cons (.tup (.cons (.k (.str [105, 115])) (.cons (.v 5) (.cons (.blt .int (.cons (.call o (.cons (.v 0) (.cons (.lst (.cons (.k (.int 0)) (.cons (.k (.int 1)) (.cons (.k (.int 1)) (.cons (.k (.int 2)) (.cons (.k (.int 3)) .nil)))))) .nil))) .nil)) (.cons (.v 7) .nil))))) .nil))))) (.seq (.ex (.meth (.v 9) 1 (.cons (.lst (.cons (.tup (.cons (.k (.str [119, 105, 116, 104, 105, 110])) (.cons (.blt .int (.cons (.call t (.cons (.v 0) (.cons (.bin .Add (.ix (.v 1) (.k (.str [114, 111, 111, 109]))) (.k (.int 1))) .nil))) .nil)) (.cons (.v 5) (.cons (.v 7) .nil))))) (.cons (.tup (.cons (.k (.str [103, 111])) (.cons (.v 7) .nil))) .nil))) .nil))) (.seq (.ret (.call o (.cons (.v 0) (.cons (.bin .Add (.v 9) (.lst (.cons (.tup (.cons (.k (.str [101, 100, 103, 101])) (.cons (.blt .int (.cons (.call t (.cons (.v 0) (.cons (.bin .Add (.ix (.v 1) (.k (.str [114, 111, 111, 109]))) (.k (.int 1))) .nil))) .nil)) (.cons (.v 5) (.cons (.v 7) .nil))))) .nil))) .nil)))) .done))))
      [some (.ref p), some (.ref ow), some (.int (many : Nat)), some (.ref mk), some (.ref ar), some (.str one), some (.str other), some (.int (to : Nat)), some (.int way), none]) (retK Q) h5 := by
    intro h5 k5 q5
    refine wS_seq (wS_ife (wp_mono (mid h5 k5 q5) ?_))
    rintro r h6 ⟨k6, q6, hr'⟩
    refine wp_if (fun t => ?_) (fun t => ?_)
    · bv_omega
      refine of_lst D ho q6 (by omega) (am4.kp k6 (Nat.le_refl _)) (by simpa using hr' t) (by simp; omega) fun v h7 hv k7 n7 q7 => ?_
      obtain ⟨w, hw, rfl⟩ := List.mem_map.mp hv
      bv_omega
      exact k _ _ (RowA.mk _ [78, 66, 76] _ rfl (.cons (.n (okm w hw)) (.cons (.b hone) (.cons (.l hto) .nil))) (by decide)) ((k04.trans k6).trans k7) ((k04.trans k6).trans k7).le (q7.weak (by omega))
    · exact wS_done (seqK_nx (last _ k6 q6))
  bv_omega
  refine wp_if (fun t => ?_) (fun t => ?_)
  · bv_omega
    refine wC_neA (by simp [ownOf, AH.get_push, aa4.get, Nat.ne_of_lt aa4.lt]) (eqA_nil oka (aa4.push _) (At.new (b := p + 1) _ (by omega))) ?_
    refine wp_if (fun t => ?_) (fun t => ?_)
    · have nea : as ≠ [] := by simpa using t
      bv_omega
      refine of_lst D ho (q4'.push _) (by omega) (aa4.push _) (by simpa using nea) (by simp; omega) fun v h7 hv k7 n7 q7 => ?_
      obtain ⟨w, hw, rfl⟩ := List.mem_map.mp hv
      bv_omega
      have kk := (k04.push (.lst [])).trans k7
      exact k _ _ (RowA.mk _ [78, 66, 66, 76] _ rfl (.cons (.n (oka w hw)) (.cons (.b hone) (.cons (.b hother) (.cons (.l hto) .nil)))) (by decide)) kk kk.le (q7.weak (by omega))
    · exact wS_done (seqK_nx (mid2 _ ((Kp.refl _ _).push _) (q4'.push _)))
  · refine wp_pure (wp_if_f rfl (wS_done (seqK_nx (mid2 _ (Kp.refl _ _) q4'))))
end
end PM
end
section
set_option maxHeartbeats 400000
/-! PL9: drawn rows, walkers, readers. -/
namespace PM
open PySem
local macro_rules | `(tactic| array_get_dec) => `(tactic| repeat' (first
  | assumption
  | exact At.new _ (by first | exact Nat.zero_le _ | omega | (simp only [AH.n_push, AH.n_set]; omega))
  | refine At.push ?_ _
  | refine At.set (by assumption) _
  | refine At.set_ne ?_ _ (by first | assumption | omega | (simp only [AH.n_push, AH.n_set]; omega))
  | refine At.kp (by assumption) ?_ (by first | exact Nat.le_refl _ | exact Nat.zero_le _ | omega)))
local macro_rules | `(tactic| array_mem_dec) => `(tactic| with_reducible first
  | refine wS_seq ?_ | refine wS_asg ?_ | refine wS_par ?_ | refine wS_aug (by with_unfolding_all exact rfl) ?_ | refine wS_ex ?_ | refine wS_ret (by with_unfolding_all exact nofun) ?_ | refine wS_ret0 ?_ | refine wS_ife ?_ | refine wS_brk ?_ | refine wS_cnt ?_ | refine wS_pass ?_ | refine wS_done ?_ | refine wS_for ?_
  | refine seqK_nx ?_ | refine seqK_rt ?_ | refine seqK_bk ?_ | refine seqK_ct ?_ | refine retK_nx ?_ | refine retK_rt ?_ | refine forK_nx ?_ | refine forK_ct ?_ | refine forK_bk ?_ | refine forK_rt ?_
  | refine wE_v (by with_unfolding_all exact rfl) ?_ | refine wE_k ?_ | refine wE_bin ?_ | refine wE_neg ?_ | refine wE_not ?_ | refine wE_and ?_ | refine wE_or ?_ | refine wE_ite ?_ | refine wE_cmp ?_ | refine wE_chain ?_ | refine wE_call ?_ | refine wE_callK ?_ | refine wE_blt ?_ | refine wE_meth ?_ | refine wE_attr ?_ | refine wE_ix ?_ | refine wE_sl ?_ | refine wE_lst ?_ | refine wE_tup ?_ | refine wE_dic ?_ | refine wE_lc ?_
  | refine wA_nil ?_ | refine wA_cons ?_ | refine wA_star ?_
  | refine wT_not ?_ | refine wT_and ?_ | refine wT_or ?_ | refine wT_ite ?_ | refine wT_cmp ?_ | refine wT_chain ?_ | refine wT_no ?_ | refine wT_v (by with_unfolding_all exact rfl) ?_ | refine wT_call ?_ | refine wT_blt ?_ | refine wT_meth ?_ | refine wT_attr ?_ | refine wT_ix ?_
  | refine w_tru_bl ?_
  | refine wP_no ?_ | refine wP_k ?_ | refine wP_v (by with_unfolding_all exact rfl) ?_ | refine wP_neg ?_ | refine wP_bin ?_
  | refine wG_v ?_ | refine wG_tup ?_ | refine wG_attr ?_ | refine wG_ix ?_ | refine wGs_nil ?_ | refine wGs_cons ?_ | refine wU_tup ?_
  | refine wB_add ?_ | refine wB_sub ?_
  | refine wC_lt ?_ | refine wC_le ?_ | refine wC_gt ?_ | refine wC_ge ?_ | refine wC_eqs ?_ | refine wC_nes ?_ | refine wC_eqi ?_ | refine wC_nei ?_ | refine wC_is ?_ | refine wC_isn ?_ | refine wC_in ?_ | refine wC_nin ?_ | refine wN_str ?_
  | refine wF_lenT ?_ | refine wF_abs ?_ | refine wF_max ?_ | refine wF_min ?_ | refine wF_int ?_ | refine wF_intB ?_ | refine wF_tupT ?_ | refine wF_listT ?_ | refine wF_isin_str ?_ | refine wF_isin_int ?_
  | refine wL_tup ?_ | refine wM_str ?_
  | refine wp_pure ?_ | refine wp_bind ?_
  | refine and_len ?_ (by with_unfolding_all exact rfl) | refine par_ok (by with_unfolding_all exact rfl) ?_ | refine int_ok rfl ?_)
local macro_rules | `(tactic| bv_omega) => `(tactic| repeat (first | array_mem_dec | (with_reducible first | refine wp_if_t rfl ?_ | refine wp_if_f rfl ?_)))
local macro_rules | `(tactic| sizeOf_list_dec) => `(tactic| repeat array_mem_dec)
theorem own_lst {P : Pg} {b p : Nat} {xs : List AV} {h : AH} (a : At b h p (.lst xs)) : ownOf P (·.eq) (.ref p) h = none := by simp [ownOf, a.get]
section
variable {P : Pg} {d f t o tr : Nat} {h : AH} {Q : AV → AH → Prop} {p N : Nat}
theorem row_spec (D : Draw P t) (ho : P.fn o = some (F_law_of t)) (ht : P.fn tr = some (F_law_test_row o t)) (hf : P.fn f = some (F_law_row t o tr)) (q : PotN p N h) (hN : 12 ≤ N) {room many ow rb rr mk ar : Nat} {boxes ms as : List (List Nat)}
    (a : At (p + 1) h ow (.dic (ownD room rb rr))) (ab : At (p + 1) h rb (.lst (boxes.map .str))) (am : At (p + 1) h mk (.lst (ms.map .str))) (aa : At (p + 1) h ar (.lst (as.map .str)))
    (names : ∀ w ∈ boxes, NameOk w) (lb : boxes.length ≤ 1000) (lm : ms.length ≤ 1000) (la : as.length ≤ 1000) (okm : ∀ w ∈ ms, NameOk w) (oka : ∀ w ∈ as, NameOk w) (hr0 : 1 ≤ room) (hr : room ≤ 20) (m1 : 1 ≤ many) (m2 : many ≤ 1000)
    (k : ∀ v h', RowA room boxes many v → Kp (p + 1) h h' → h.n ≤ h'.n → PotN p (N - 12) h' → Q v h') : wp (callF P (d + 4) f [.ref p, .ref ow, .int (many : Nat), .ref mk, .ref ar]) Q h := by
  refine w_call hf rfl ?_
  show wp (evS P (callF P (d + 3)) (B_law_row t o tr) [some (.ref p), some (.ref ow), some (.int (many : Nat)), some (.ref mk), some (.ref ar), none, none, none, none]) _ _
  unfold B_law_row
  bv_omega
  refine D.spec q (by omega) (by decide) (by decide) fun way h1 w0 w1 k1 n1 q1 => ?_
  bv_omega
  refine D.spec q1 (by omega) (by omega) (by omega) fun r2 h2 r20 r21 k2 n2 q2 => ?_
  obtain ⟨to, rfl⟩ := Int.eq_ofNat_of_zero_le r20
  have hto : to < many := by omega
  have k02 := k1.trans k2
  have a2 := a.kp k02 (Nat.le_refl _)
  have ab2 := ab.kp k02 (Nat.le_refl _)
  have hp2 := q2.lt
  bv_omega
  refine wX_dic a2 ownD_ok ownD_boxes ?_
  bv_omega
  refine wC_eqA (own_lst (ab2.push _)) (eqA_nil names (ab2.push _) (At.new (b := p + 1) _ (by omega))) ?_
  have k03 := k02.push (.lst [])
  have a3 := a2.push (.lst [])
  have ab3 := ab2.push (.lst [])
  have am3 := (am.kp k02 (Nat.le_refl _)).push (.lst [])
  have aa3 := (aa.kp k02 (Nat.le_refl _)).push (.lst [])
  have q3 := q2.push (.lst [])
  have hp3 := q3.lt
  generalize h2.push (.lst []) = h3 at k03 a3 ab3 am3 aa3 q3 hp3
  have either : RowA room boxes many (.tup [.str [101, 105, 116, 104, 101, 114], .int (to : Nat)]) := RowA.mk _ [76] _ rfl (.cons (.l hto) .nil) (by decide)
  have let_ : RowA room boxes many (.tup [.str [108, 101, 116]]) := RowA.mk _ [] _ rfl .nil (by decide)
  have refuse : RowA room boxes many (.tup [.str [114, 101, 102, 117, 115, 101]]) := RowA.mk _ [] _ rfl .nil (by decide)
  refine wp_if (fun t => ?_) (fun t => ?_)
  · bv_omega
    refine of_lst D ho (q3.push _) (by omega) (At.new _ (by omega)) (by simp) (by simp) fun v h4 hv k4 n4 q4 => ?_
    bv_omega
    have kk := (k03.push _).trans k4
    refine k _ _ ?_ kk kk.le (q4.weak (by omega))
    simp only [List.mem_cons, List.not_mem_nil, or_false] at hv
    rcases hv with rfl | rfl | rfl | rfl | rfl
    · exact either
    · exact either
    · exact RowA.mk _ [76] _ rfl (.cons (.l hto) .nil) (by decide)
    · exact let_
    · exact refuse
  · have ne : boxes ≠ [] := by simpa using t
    have neb : boxes.map AV.str ≠ [] := by simpa using ne
    bv_omega
    refine wX_dic a3 ownD_ok ownD_boxes ?_
    bv_omega
    refine of_lst D ho q3 (by omega) ab3 neb (by simp; omega) fun x1 h4 hx1 k4 n4 q4 => ?_
    obtain ⟨one, hone, rfl⟩ := List.mem_map.mp hx1
    have k04 := k03.trans k4
    have a4 := a3.kp k4 (Nat.le_refl _)
    have ab4 := ab3.kp k4 (Nat.le_refl _)
    have am4 := am3.kp k4 (Nat.le_refl _)
    have aa4 := aa3.kp k4 (Nat.le_refl _)
    have hp4 := q4.lt
    bv_omega
    refine wp_if (fun t => ?_) (fun t => ?_)
    · bv_omega
      refine wX_dic a4 ownD_ok ownD_room ?_
      bv_omega
      refine of_lst D ho (q4.push _) (by omega) (At.new _ (by omega)) (by simp) (by simp) fun v h5 hv k5 n5 q5 => ?_
      have hv' : ∃ j : Nat, v = .int (j : Nat) ∧ j ≤ room := by
        simp only [List.mem_cons, List.not_mem_nil, or_false] at hv
        rcases hv with rfl | rfl | rfl | rfl | rfl
        · exact ⟨1, rfl, hr0⟩
        · exact ⟨1, rfl, hr0⟩
        · exact ⟨1, rfl, hr0⟩
        · exact ⟨room, rfl, Nat.le_refl _⟩
        · exact ⟨0, rfl, Nat.zero_le _⟩
      obtain ⟨j, rfl, hj⟩ := hv'
      bv_omega
      have kk := (k04.push _).trans k5
      exact k _ _ (RowA.mk _ [81, 66] _ rfl (.cons (.q hj) (.cons (.b hone) .nil)) (by decide)) kk kk.le (q5.weak (by omega))
    · bv_omega
      refine wp_if (fun t => ?_) (fun t => ?_)
      · bv_omega
        refine test_row_spec D ho ht q4 (by omega) a4 ab4 am4 aa4 ne lb lm la okm oka hr m1 m2 fun v h5 hv k5 n5 q5 => ?_
        bv_omega
        exact k _ _ hv (k04.trans k5) (k04.trans k5).le (q5.weak (by omega))
      · bv_omega
        refine wp_if (fun t => ?_) (fun t => ?_)
        · bv_omega
          exact k _ _ either k04 k04.le (q4.weak (by omega))
        · bv_omega
          refine wp_if (fun t => ?_) (fun t => ?_)
          · bv_omega
            refine of_lst D ho (q4.push _) (by omega) (At.new _ (by omega)) (by simp) (by simp) fun v h5 hv k5 n5 q5 => ?_
            bv_omega
            have kk := (k04.push _).trans k5
            refine k _ _ ?_ kk kk.le (q5.weak (by omega))
            simp only [List.mem_cons, List.not_mem_nil, or_false] at hv
            rcases hv with rfl | rfl | rfl
            · exact let_
            · exact refuse
            · exact refuse
          · bv_omega
            refine wX_dic a4 ownD_ok ownD_boxes ?_
            bv_omega
            refine of_lst D ho q4 (by omega) ab4 neb (by simp; omega) fun x2 h5 hx2 k5 n5 q5 => ?_
            obtain ⟨other, hother, rfl⟩ := List.mem_map.mp hx2
            have hp5 := q5.lt
            bv_omega
            refine of_lst D ho (q5.push _) (by omega) (At.new _ (by omega)) (by simp) (by simp) fun z h6 hz k6 n6 q6 => ?_
            have hz' : ∃ j : Nat, z = .int (j : Nat) ∧ j ≤ 3 := by
              simp only [List.mem_cons, List.not_mem_nil, or_false] at hz
              rcases hz with rfl | rfl | rfl | rfl
              · exact ⟨0, rfl, by decide⟩
              · exact ⟨0, rfl, by decide⟩
              · exact ⟨1, rfl, by decide⟩
              · exact ⟨2, rfl, by decide⟩
            obtain ⟨j, rfl, hj⟩ := hz'
            have hp6 := q6.lt
            bv_omega
            refine of_lst D ho (q6.push _) (by omega) (At.new _ (by omega)) (by simp) (by simp) fun v h7 hv k7 n7 q7 => ?_
            bv_omega
            have kk := ((((k04.trans k5).push _).trans k6).push _).trans k7
            refine k _ _ ?_ kk kk.le (q7.weak (by omega))
            simp only [List.mem_cons, List.not_mem_nil, or_false] at hv
            rcases hv with rfl | rfl | rfl
            · exact RowA.mk _ [66, 66] _ rfl (.cons (.b hone) (.cons (.b hother) .nil)) (by decide)
            · exact RowA.mk _ [66] _ rfl (.cons (.b hone) .nil) (by decide)
            · exact RowA.mk _ [66, 75] _ rfl (.cons (.b hone) (.cons (.k (by omega)) .nil)) (by decide)
theorem walker_spec (D : Draw P t) (ho : P.fn o = some (F_law_of t)) (hf : P.fn f = some (F_law_walker o t)) (q : PotN p N h) (hN : 5 ≤ N) {room ow rb rr ar : Nat} {boxes as : List (List Nat)}
    (a : At (p + 1) h ow (.dic (ownD room rb rr))) (ab : At (p + 1) h rb (.lst (boxes.map .str))) (aa : At (p + 1) h ar (.lst (as.map .str)))
    (lb : 2 ≤ boxes.length) (ne : as ≠ []) (la : as.length ≤ 1000) (oka : ∀ w ∈ as, NameOk w) (hr0 : 1 ≤ room)
    (k : ∀ r rows h', h.n ≤ r → At (p + 1) h' r (.lst rows) → rows.length = 7 → (∀ v ∈ rows, RowA room boxes 7 v) → Kp (p + 1) h h' → h.n ≤ h'.n → PotN p (N - 5) h' → Q (.ref r) h') : wp (callF P (d + 3) f [.ref p, .ref ow, .ref ar]) Q h := by
  refine w_call hf rfl ?_
  show wp (evS P (callF P (d + 2)) (B_law_walker o t) [some (.ref p), some (.ref ow), some (.ref ar), none, none, none, none]) _ _
  unfold B_law_walker
  obtain ⟨one, other, bs, rfl⟩ : ∃ one other bs, boxes = one :: other :: bs := by
    match boxes, lb with
    | one :: other :: bs, _ => exact ⟨one, other, bs, rfl⟩
  have h1 : one ∈ one :: other :: bs := by simp
  have h2 : other ∈ one :: other :: bs := by simp
  have hp := q.lt
  bv_omega
  refine wX_dic a ownD_ok ownD_boxes ?_
  bv_omega
  refine wX_lst ab atI_0 ?_
  bv_omega
  refine wX_dic a ownD_ok ownD_boxes ?_
  bv_omega
  refine wX_lst ab atI_1 ?_
  bv_omega
  refine D.spec q (by omega) (by decide) (by decide) fun r h3 r0 r1 k3 n3 q3 => ?_
  obtain ⟨j, rfl⟩ := Int.eq_ofNat_of_zero_le r0
  have hp3 := q3.lt
  bv_omega
  refine of_lst D ho (q3.push _) (by omega) (At.new _ (by omega)) (by simp) (by simp) fun v h4 hv k4 n4 q4 => ?_
  have hv' : RowA room (one :: other :: bs) 7 v := by
    simp only [List.mem_cons, List.not_mem_nil, or_false] at hv
    rcases hv with rfl | rfl | rfl
    · exact RowA.mk _ [81, 66, 76] _ rfl (.cons (PartOk.q (n := 1) hr0) (.cons (.b h1) (.cons (PartOk.l (n := 6) (by decide)) .nil))) (by decide)
    · have e : (1 : Int) + ((j : Nat) : Int) = ((1 + j : Nat) : Int) := by omega
      rw [e]
      exact RowA.mk _ [66, 75, 76] _ rfl (.cons (.b h1) (.cons (.k (by omega)) (.cons (PartOk.l (n := 6) (by decide)) .nil))) (by decide)
    · exact RowA.mk _ [81, 66, 76] _ rfl (.cons (PartOk.q (n := 1) hr0) (.cons (.b h2) (.cons (PartOk.l (n := 6) (by decide)) .nil))) (by decide)
  have k04 := (k3.push (.lst [.tup [.str [101, 100, 103, 101], .int 1, .str one, .int 6], .tup [.str [105, 115], .str one, .int (1 + (j : Nat)), .int 6], .tup [.str [101, 100, 103, 101], .int 1, .str other, .int 6]])).trans k4
  have hp4 := q4.lt
  bv_omega
  refine of_lst D ho q4 (by omega) (aa.kp k04 (Nat.le_refl _)) (by simpa using ne) (by simp; omega) fun x5 h5 hx5 k5 n5 q5 => ?_
  obtain ⟨w5, hw5, rfl⟩ := List.mem_map.mp hx5
  have hp5 := q5.lt
  bv_omega
  refine of_lst D ho (q5.push _) (by omega) (At.new _ (by omega)) (by simp) (by simp) fun x6 h6 hx6 k6 n6 q6 => ?_
  obtain ⟨w6, hw6, rfl⟩ : ∃ w, w ∈ one :: other :: bs ∧ x6 = .str w := by
    simp only [List.mem_cons, List.not_mem_nil, or_false] at hx6
    rcases hx6 with rfl | rfl | rfl
    · exact ⟨_, h1, rfl⟩
    · exact ⟨_, h1, rfl⟩
    · exact ⟨_, h2, rfl⟩
  have hp6 := q6.lt
  bv_omega
  refine of_lst D ho (q6.push _) (by omega) (At.new _ (by omega)) (by simp) (by simp) fun x7 h7 hx7 k7 n7 q7 => ?_
  obtain ⟨w7, hw7, rfl⟩ : ∃ w, w ∈ one :: other :: bs ∧ x7 = .str w := by
    simp only [List.mem_cons, List.not_mem_nil, or_false] at hx7
    rcases hx7 with rfl | rfl | rfl
    · exact ⟨_, h2, rfl⟩
    · exact ⟨_, h2, rfl⟩
    · exact ⟨_, h1, rfl⟩
  have hp7 := q7.lt
  have kk := ((((k04.trans k5).push (.lst [.str one, .str one, .str other])).trans k6).push (.lst [.str other, .str other, .str one])).trans k7
  have hk := kk.le
  bv_omega
  refine k _ _ _ hk (At.new _ (by omega)) rfl ?_ (kk.push _) (kk.push _).le ((q7.push _).weak (by omega))
  intro v' hv'
  simp only [List.mem_cons, List.not_mem_nil, or_false] at hv'
  rcases hv' with rfl | rfl | rfl | rfl | rfl | rfl | rfl
  · exact ‹RowA _ _ _ _›
  · exact RowA.mk _ [81, 66] _ rfl (.cons (PartOk.q (n := 1) hr0) (.cons (.b h2) .nil)) (by decide)
  · exact RowA.mk _ [78, 66, 66, 76] _ rfl (.cons (.n (oka _ hw5)) (.cons (.b hw6) (.cons (.b hw7) (.cons (PartOk.l (n := 4) (by decide)) .nil)))) (by decide)
  · exact RowA.mk _ [] _ rfl .nil (by decide)
  · exact RowA.mk _ [66, 66] _ rfl (.cons (.b h1) (.cons (.b h2) .nil)) (by decide)
  · exact RowA.mk _ [76] _ rfl (.cons (PartOk.l (n := 0) (by decide)) .nil) (by decide)
  · exact RowA.mk _ [] _ rfl .nil (by decide)
end
end PM
end
section
set_option maxHeartbeats 400000
/-! PL10: drawn readers. -/
namespace PM
open PySem
local macro_rules | `(tactic| array_get_dec) => `(tactic| repeat' (first
  | assumption
  | exact At.new _ (by first | exact Nat.zero_le _ | omega | (simp only [AH.n_push, AH.n_set]; omega))
  | refine At.push ?_ _
  | refine At.set (by assumption) _
  | refine At.set_ne ?_ _ (by first | assumption | omega | (simp only [AH.n_push, AH.n_set]; omega))
  | refine At.kp (by assumption) ?_ (by first | exact Nat.le_refl _ | exact Nat.zero_le _ | omega)))
local macro_rules | `(tactic| array_mem_dec) => `(tactic| with_reducible first
  | refine wS_seq ?_ | refine wS_asg ?_ | refine wS_par ?_ | refine wS_aug (by with_unfolding_all exact rfl) ?_ | refine wS_ex ?_ | refine wS_ret (by with_unfolding_all exact nofun) ?_ | refine wS_ret0 ?_ | refine wS_ife ?_ | refine wS_brk ?_ | refine wS_cnt ?_ | refine wS_pass ?_ | refine wS_done ?_ | refine wS_for ?_
  | refine seqK_nx ?_ | refine seqK_rt ?_ | refine seqK_bk ?_ | refine seqK_ct ?_ | refine retK_nx ?_ | refine retK_rt ?_ | refine forK_nx ?_ | refine forK_ct ?_ | refine forK_bk ?_ | refine forK_rt ?_
  | refine wE_v (by with_unfolding_all exact rfl) ?_ | refine wE_k ?_ | refine wE_bin ?_ | refine wE_neg ?_ | refine wE_not ?_ | refine wE_and ?_ | refine wE_or ?_ | refine wE_ite ?_ | refine wE_cmp ?_ | refine wE_chain ?_ | refine wE_call ?_ | refine wE_callK ?_ | refine wE_blt ?_ | refine wE_meth ?_ | refine wE_attr ?_ | refine wE_ix ?_ | refine wE_sl ?_ | refine wE_lst ?_ | refine wE_tup ?_ | refine wE_dic ?_ | refine wE_lc ?_
  | refine wA_nil ?_ | refine wA_cons ?_ | refine wA_star ?_
  | refine wT_not ?_ | refine wT_and ?_ | refine wT_or ?_ | refine wT_ite ?_ | refine wT_cmp ?_ | refine wT_chain ?_ | refine wT_no ?_ | refine wT_v (by with_unfolding_all exact rfl) ?_ | refine wT_call ?_ | refine wT_blt ?_ | refine wT_meth ?_ | refine wT_attr ?_ | refine wT_ix ?_
  | refine w_tru_bl ?_
  | refine wP_no ?_ | refine wP_k ?_ | refine wP_v (by with_unfolding_all exact rfl) ?_ | refine wP_neg ?_ | refine wP_bin ?_
  | refine wG_v ?_ | refine wG_tup ?_ | refine wG_attr ?_ | refine wG_ix ?_ | refine wGs_nil ?_ | refine wGs_cons ?_ | refine wU_tup ?_
  | refine wB_add ?_ | refine wB_sub ?_
  | refine wC_lt ?_ | refine wC_le ?_ | refine wC_gt ?_ | refine wC_ge ?_ | refine wC_eqs ?_ | refine wC_nes ?_ | refine wC_eqi ?_ | refine wC_nei ?_ | refine wC_is ?_ | refine wC_isn ?_ | refine wC_in ?_ | refine wC_nin ?_ | refine wN_str ?_
  | refine wF_lenT ?_ | refine wF_abs ?_ | refine wF_max ?_ | refine wF_min ?_ | refine wF_int ?_ | refine wF_intB ?_ | refine wF_tupT ?_ | refine wF_listT ?_ | refine wF_isin_str ?_ | refine wF_isin_int ?_
  | refine wL_tup ?_ | refine wM_str ?_
  | refine wp_pure ?_ | refine wp_bind ?_
  | refine and_len ?_ (by with_unfolding_all exact rfl) | refine par_ok (by with_unfolding_all exact rfl) ?_ | refine int_ok rfl ?_)
local macro_rules | `(tactic| bv_omega) => `(tactic| repeat (first | array_mem_dec | (with_reducible first | refine wp_if_t rfl ?_ | refine wp_if_f rfl ?_)))
local macro_rules | `(tactic| sizeOf_list_dec) => `(tactic| repeat array_mem_dec)
structure OwnOk (R B M room : Nat) (boxes : List (List Nat)) (rows : List AV) : Prop where
  r0 : 1 ≤ room
  r1 : room ≤ R
  names : ∀ w ∈ boxes, NameOk w
  nd : boxes.Nodup
  few : boxes.length ≤ B
  some_ : 1 ≤ rows.length
  most : rows.length ≤ M
  rows : ∀ v ∈ rows, RowA room boxes rows.length v
def OwnR (b : Nat) (h : AH) (ow room : Nat) (boxes : List (List Nat)) (rows : List AV) : Prop := ∃ rb rr, At b h ow (.dic (ownD room rb rr)) ∧ At b h rb (.lst (boxes.map .str)) ∧ At b h rr (.lst rows)
theorem OwnR.kp {b c ow room : Nat} {h h' : AH} {boxes : List (List Nat)} {rows : List AV} (k : Kp c h h') (a : OwnR b h ow room boxes rows) (l : c ≤ b) : OwnR b h' ow room boxes rows := let ⟨rb, rr, a1, a2, a3⟩ := a; ⟨rb, rr, a1.kp k l, a2.kp k l, a3.kp k l⟩
theorem OwnR.push {b ow room : Nat} {h : AH} {boxes : List (List Nat)} {rows : List AV} (a : OwnR b h ow room boxes rows) (u : AObj) : OwnR b (h.push u) ow room boxes rows := let ⟨rb, rr, a1, a2, a3⟩ := a; ⟨rb, rr, a1.push u, a2.push u, a3.push u⟩
section
variable {P : Pg} {d f t o nm wk rw_ tr : Nat} {h : AH} {Q : AV → AH → Prop} {p N : Nat}
theorem reader_spec (D : Draw P t) (ho : P.fn o = some (F_law_of t)) (hn : P.fn nm = some (F_law_names o t)) (ht : P.fn tr = some (F_law_test_row o t)) (hr : P.fn rw_ = some (F_law_row t o tr)) (hw : P.fn wk = some (F_law_walker o t)) (hf : P.fn f = some (F_law_reader t nm wk rw_))
    (q : PotN p N h) {R B M : Nat} (hN : 11 * B + 12 * M + 10 ≤ N) (R0 : 1 ≤ R) (R1 : R ≤ 20) (B1 : B ≤ 26) (M0 : 2 ≤ M) (M1 : M ≤ 1000) {mk ar : Nat} {ms as : List (List Nat)}
    (am : At (p + 1) h mk (.lst (ms.map .str))) (aa : At (p + 1) h ar (.lst (as.map .str))) (lm : ms.length ≤ 1000) (la : as.length ≤ 1000) (okm : ∀ w ∈ ms, NameOk w) (oka : ∀ w ∈ as, NameOk w)
    (k : ∀ ow room boxes rows h', h.n ≤ ow → OwnR (p + 1) h' ow room boxes rows → OwnOk R B M room boxes rows → Kp (p + 1) h h' → h.n ≤ h'.n → PotN p (N - (11 * B + 12 * M + 10)) h' → Q (.ref ow) h') :
    wp (callF P (d + 5) f [.ref p, .int (R : Nat), .int (B : Nat), .int (M : Nat), .ref mk, .ref ar]) Q h := by
  refine w_call hf rfl ?_
  show wp (evS P (callF P (d + 4)) (B_law_reader t nm wk rw_) [some (.ref p), some (.int (R : Nat)), some (.int (B : Nat)), some (.int (M : Nat)), some (.ref mk), some (.ref ar), none, none, none]) _ _
  unfold B_law_reader
  have hp := q.lt
  bv_omega
  have atmp : At (p + 1) (h.push .tmp) h.n .tmp := At.new _ (by omega)
  have k0 : Kp (p + 1) h (h.push .tmp) := (Kp.refl _ _).push _
  have q0 := q.push .tmp
  have lt0 : h.n < (h.push .tmp).n := Nat.lt_succ_self _
  generalize h.push .tmp = h0 at atmp k0 q0 lt0
  refine D.spec q0 (by omega) (by omega) (by omega) fun r1 h1 r10 r11 k1 n1 q1 => ?_
  obtain ⟨rm, rfl⟩ := Int.eq_ofNat_of_zero_le r10
  bv_omega
  refine D.spec q1 (by omega) (by omega) (by omega) fun r2 h2 r20 r21 k2 n2 q2 => ?_
  obtain ⟨nb, rfl⟩ := Int.eq_ofNat_of_zero_le r20
  have hnb : nb ≤ B := by omega
  bv_omega
  refine names_spec (d := d + 1) D ho hn q2 (by omega) (by omega) fun rb boxes h3 rbl ab3 bl nd bok k3 n3 q3 => ?_
  have k03 := ((k0.trans k1).trans k2).trans k3
  have at3 := ((atmp.kp k1 (Nat.le_refl _)).kp k2 (Nat.le_refl _)).kp k3 (Nat.le_refl _)
  have hp3 := q3.lt
  bv_omega
  obtain ⟨room, hroom⟩ : ∃ room : Nat, (1 : Int) + ((rm : Nat) : Int) = ((room : Nat) : Int) := ⟨1 + rm, by omega⟩
  rw [hroom]
  have rbne : rb ≠ h.n := by omega
  refine ⟨_, p + 1, ?_, rfl, at3.push _, rfl, Nat.le_of_ble_eq_true rfl⟩
  have rr4 : At (p + 1) (h3.push (.lst [])) h3.n (.lst []) := At.new _ (by omega)
  have rrne : h3.n ≠ h.n := by have := at3.lt; omega
  have ow5 : At (p + 1) ((h3.push (.lst [])).set h.n (.dic (ownD room rb h3.n))) h.n (.dic (ownD room rb h3.n)) := (at3.push _).set _
  have ab5 := (ab3.push (.lst [])).set_ne (.dic (ownD room rb h3.n)) rbne
  have rr5 := rr4.set_ne (.dic (ownD room rb h3.n)) rrne
  have k05 := (k03.push (.lst [])).set (.dic (ownD room rb h3.n)) (Nat.le_refl h.n)
  have q5 := ((q3.push (.lst [])).set (.dic (ownD room rb h3.n)) hp).weak (show N - (11 * B + 2) ≤ _ by omega)
  show wp _ _ ((h3.push (.lst [])).set h.n (.dic (ownD room rb h3.n)))
  generalize (h3.push (.lst [])).set h.n (.dic (ownD room rb h3.n)) = h5 at ow5 ab5 rr5 k05 q5
  have am5 := am.kp k05 (Nat.le_refl _)
  have aa5 := aa.kp k05 (Nat.le_refl _)
  have hx : h3.n < h5.n := rr5.lt
  generalize h3.n = rr at rr5 rrne ow5 ab5 hx
  have hroom1 : 1 ≤ room := by omega
  have hroom2 : room ≤ R := by omega
  -- not a walker: rows one by one
  have rest : ∀ h6, Kp (p + 1) h5 h6 → PotN p (N - (11 * B + 3)) h6 → wp (evS P (callF P (d + 4)) (.seq (.asg (.v 7) (.bin .Add (.k (.int 2)) (.call t (.cons (.v 0) (.cons (.bin .Sub (.v 3) (.k (.int 1))) .nil))))) (.seq (.asg (.ix (.v 6) (.k (.str [114, 111, 119, 115]))) (.lc (.call rw_ (.cons (.v 0) (.cons (.v 6) (.cons (.v 7) (.cons (.v 4) (.cons (.v 5) .nil)))))) (.v 8) .range (.cons (.v 7) .nil) .no [8])) (.seq (.ife (.cmp .Gt (.call t (.cons (.v 0) (.cons (.k (.int 4)) .nil))) (.k (.int 0))) (.seq (.asg (.ix (.ix (.v 6) (.k (.str [114, 111, 119, 115]))) (.call t (.cons (.v 0) (.cons (.v 7) .nil)))) (.tup (.cons (.k (.str [108, 101, 116])) .nil))) .done) .done) (.seq (.ret (.v 6)) .done))))
      [some (.ref p), some (.int (R : Nat)), some (.int (B : Nat)), some (.int (M : Nat)), some (.ref mk), some (.ref ar), some (.ref h.n), none, none]) (retK Q) h6 := by
    intro h6 k6 q6
    have ow6 := ow5.kp k6 (Nat.le_refl _)
    have ab6 := ab5.kp k6 (Nat.le_refl _)
    have am6 := am5.kp k6 (Nat.le_refl _)
    have aa6 := aa5.kp k6 (Nat.le_refl _)
    have k06 := k05.trans k6
    bv_omega
    refine D.spec q6 (by omega) (by omega) (by omega) fun r7 h7 r70 r71 k7 n7 q7 => ?_
    obtain ⟨m7, rfl⟩ := Int.eq_ofNat_of_zero_le r70
    obtain ⟨many, hmany⟩ : ∃ many : Nat, (2 : Int) + ((m7 : Nat) : Int) = ((many : Nat) : Int) := ⟨2 + m7, by omega⟩
    have hm0 : 2 ≤ many := by omega
    have hm1 : many ≤ M := by omega
    bv_omega
    rw [hmany]
    refine wK_range ?_ ⟨by omega, by omega⟩
    have lr : (rangeA 0 (many : Nat)).length = many := by rw [rangeA_len]; omega
    have ow7 := ow6.kp k7 (Nat.le_refl _)
    have ab7 := ab6.kp k7 (Nat.le_refl _)
    have am7 := am6.kp k7 (Nat.le_refl _)
    have aa7 := aa6.kp k7 (Nat.le_refl _)
    have hp7 := q7.lt
    refine wp_lc (hs := h7) (b := p + 1) (xs := rangeA 0 (many : Nat)) (fun i' h' => PotN p (N - (11 * B + 4) - 12 * i') h') (fun i' acc => acc.length = i' ∧ ∀ v ∈ acc, RowA room boxes many v) (by omega) (by omega) (fun i h _ _ => Src.is_fix _ _) (fun i h' oo lt pq => pq.set _ (by omega)) ?_ ?_ _ 0 [] _ (Nat.zero_add _) (Nat.zero_le _) ((Kp.refl _ _).push _) (At.new _ (by omega)) (q7.push _ |>.weak (by omega)) ⟨rfl, nofun⟩
    · rintro i y acc h8 hy k8 a8 q8 ⟨al, aok⟩
      have hi : i < many := by have := (List.getElem?_eq_some_iff.mp hy).1; omega
      bv_omega
      refine row_spec D ho ht hr q8 (by omega) (ow7.kp k8 (Nat.le_refl _)) (ab7.kp k8 (Nat.le_refl _)) (am7.kp k8 (Nat.le_refl _)) (aa7.kp k8 (Nat.le_refl _)) bok (by omega) lm la okm oka hroom1 (by omega) (by omega) (by omega) fun v h9 hv k9 n9 q9 => ?_
      bv_omega
      refine ⟨k9, q9.weak (by omega), by simp [al], fun z hz => ?_⟩
      rcases List.mem_append.mp hz with hz | hz
      · exact aok z hz
      · rw [List.mem_singleton.mp hz]; exact hv
    · rintro acc h8 k8 a8 q8 ⟨al, aok⟩
      rw [lr] at al q8
      have ow8 := ow7.kp k8 (Nat.le_refl _)
      have ab8 := ab7.kp k8 (Nat.le_refl _)
      have hp8 := q8.lt
      have l7 := a8.lt
      have owl := ow7.lt
      have abl := ab7.lt
      bv_omega
      refine wS_dic ?_ ow8 ownD_ok (by simp [ownD])
      have e9 : put (ownD room rb rr) (.str [114, 111, 119, 115]) (.ref h7.n) = ownD room rb h7.n := rfl
      rw [e9]
      have ow9 := ow8.set (.dic (ownD room rb h7.n))
      have ab9 := ab8.set_ne (.dic (ownD room rb h7.n)) rbne
      have rr9 := a8.set_ne (.dic (ownD room rb h7.n)) (show h7.n ≠ h.n by omega)
      have k09 := ((k06.trans k7).trans k8).set (.dic (ownD room rb h7.n)) (Nat.le_refl h.n)
      have q9 := q8.set (.dic (ownD room rb h7.n)) hp
      generalize h8.set h.n (.dic (ownD room rb h7.n)) = h9 at ow9 ab9 rr9 k09 q9
      bv_omega
      refine D.spec q9 (by omega) (by decide) (by decide) fun r10 h10 r100 r101 k10 n10 q10 => ?_
      have ow10 := ow9.kp k10 (Nat.le_refl _)
      have ab10 := ab9.kp k10 (Nat.le_refl _)
      have rr10 := rr9.kp k10 (Nat.le_refl _)
      bv_omega
      refine wp_if (fun t => ?_) (fun t => ?_)
      · bv_omega
        refine wX_dic ow10 ownD_ok ownD_rows ?_
        bv_omega
        refine D.spec q10 (by omega) (by omega) (by omega) fun r11 h11 r110 r111 k11 n11 q11 => ?_
        obtain ⟨j, rfl⟩ := Int.eq_ofNat_of_zero_le r110
        have rr11 := rr10.kp k11 (Nat.le_refl _)
        refine wS_lst (j := j) ?_ rr11 (by unfold ixN; rw [if_pos (Int.natCast_nonneg _), if_pos (by omega)]; rfl)
        bv_omega
        have k012 := ((k09.trans k10).trans k11).set (.lst (acc.set j (.tup [.str [108, 101, 116]]))) (show h.n ≤ h7.n by have := k06.le; have := k7.le; omega)
        refine k h.n room boxes (acc.set j (.tup [.str [108, 101, 116]])) _ (Nat.le_refl _) ⟨rb, h7.n, (ow10.kp k11 (Nat.le_refl _)).set_ne _ (by omega), (ab10.kp k11 (Nat.le_refl _)).set_ne _ (by omega), rr11.set _⟩ ⟨hroom1, hroom2, bok, nd, by omega, by simp; omega, by simp; omega, fun v hv => ?_⟩ k012 k012.le ((q11.set _ (by omega)).weak (by omega))
        rw [List.length_set, al]
        rcases List.mem_or_eq_of_mem_set hv with hv | rfl
        · exact aok v hv
        · exact RowA.mk _ [] _ rfl .nil (by decide)
      · bv_omega
        have k010 := k09.trans k10
        exact k h.n room boxes acc _ (Nat.le_refl _) ⟨rb, h7.n, ow10, ab10, rr10⟩ ⟨hroom1, hroom2, bok, nd, by omega, by omega, by omega, fun v hv => by rw [al]; exact aok v hv⟩ k010 k010.le (q10.weak (by omega))
  bv_omega
  refine wX_dic ow5 ownD_ok ownD_boxes ?_
  bv_omega
  refine wF_lenL ?_ ab5
  bv_omega
  refine wp_if (fun t => ?_) (fun t => ?_)
  · have lb2 : 2 ≤ boxes.length := by
      have := of_decide_eq_true t
      simp at this
      omega
    bv_omega
    refine wp_if (fun t => ?_) (fun t => ?_)
    · have hM : 6 < M := by
        have := of_decide_eq_true t
        omega
      bv_omega
      refine wC_neA (own_lst (aa5.push _)) (eqA_nil oka (aa5.push _) (At.new (b := p + 1) _ (by have := q5.lt; omega))) ?_
      refine wp_if (fun t => ?_) (fun t => ?_)
      · have nea : as ≠ [] := by simpa using t
        bv_omega
        refine D.spec (q5.push _) (by omega) (by decide) (by decide) fun r6 h6 r60 r61 k6 n6 q6 => ?_
        have k56 : Kp (p + 1) h5 h6 := ((Kp.refl _ _).push _).trans k6
        bv_omega
        refine wp_if (fun t => ?_) (fun t => ?_)
        · bv_omega
          refine walker_spec (d := d + 1) D ho hw q6 (by omega) (ow5.kp k56 (Nat.le_refl _)) (ab5.kp k56 (Nat.le_refl _)) (aa5.kp k56 (Nat.le_refl _)) lb2 nea la oka hroom1 fun r7 rows h7 r7l a7 l7 ok7 k7 n7 q7 => ?_
          have ow7 := (ow5.kp k56 (Nat.le_refl _)).kp k7 (Nat.le_refl _)
          have ab7 := (ab5.kp k56 (Nat.le_refl _)).kp k7 (Nat.le_refl _)
          have x5 := ow5.lt
          have x6 := k56.le
          bv_omega
          refine wS_dic ?_ ow7 ownD_ok (by simp [ownD])
          have e9 : put (ownD room rb rr) (.str [114, 111, 119, 115]) (.ref r7) = ownD room rb r7 := rfl
          rw [e9]
          bv_omega
          have kk := ((k05.trans k56).trans k7).set (.dic (ownD room rb r7)) (Nat.le_refl h.n)
          exact k h.n room boxes rows _ (Nat.le_refl _) ⟨rb, r7, ow7.set _, ab7.set_ne _ rbne, a7.set_ne _ (by omega)⟩ ⟨hroom1, hroom2, bok, nd, by omega, by omega, by omega, fun v hv => by rw [l7]; exact ok7 v hv⟩ kk kk.le ((q7.set _ hp).weak (by omega))
        · exact wS_done (seqK_nx (rest _ k56 (q6.weak (by omega))))
      · exact wp_pure (wp_if_f rfl (wS_done (seqK_nx (rest _ ((Kp.refl _ _).push _) ((q5.push _).weak (by omega))))))
    · exact wp_pure (wp_if_f rfl (wS_done (seqK_nx (rest _ (Kp.refl _ _) (q5.weak (by omega))))))
  · exact wp_pure (wp_if_f rfl (wS_done (seqK_nx (rest _ (Kp.refl _ _) (q5.weak (by omega))))))
end
end PM
end
section
set_option maxHeartbeats 400000
/-! PL11: the text of a drawn reader. -/
namespace PM
open PySem
local macro_rules | `(tactic| array_get_dec) => `(tactic| repeat' (first
  | assumption
  | exact At.new _ (by first | exact Nat.zero_le _ | omega | (simp only [AH.n_push, AH.n_set]; omega))
  | refine At.push ?_ _
  | refine At.set (by assumption) _
  | refine At.set_ne ?_ _ (by first | assumption | omega | (simp only [AH.n_push, AH.n_set]; omega))
  | refine At.kp (by assumption) ?_ (by first | exact Nat.le_refl _ | exact Nat.zero_le _ | omega)))
local macro_rules | `(tactic| array_mem_dec) => `(tactic| with_reducible first
  | refine wS_seq ?_ | refine wS_asg ?_ | refine wS_par ?_ | refine wS_aug (by with_unfolding_all exact rfl) ?_ | refine wS_ex ?_ | refine wS_ret (by with_unfolding_all exact nofun) ?_ | refine wS_ret0 ?_ | refine wS_ife ?_ | refine wS_brk ?_ | refine wS_cnt ?_ | refine wS_pass ?_ | refine wS_done ?_ | refine wS_for ?_
  | refine seqK_nx ?_ | refine seqK_rt ?_ | refine seqK_bk ?_ | refine seqK_ct ?_ | refine retK_nx ?_ | refine retK_rt ?_ | refine forK_nx ?_ | refine forK_ct ?_ | refine forK_bk ?_ | refine forK_rt ?_
  | refine wE_v (by with_unfolding_all exact rfl) ?_ | refine wE_k ?_ | refine wE_bin ?_ | refine wE_neg ?_ | refine wE_not ?_ | refine wE_and ?_ | refine wE_or ?_ | refine wE_ite ?_ | refine wE_cmp ?_ | refine wE_chain ?_ | refine wE_call ?_ | refine wE_callK ?_ | refine wE_blt ?_ | refine wE_meth ?_ | refine wE_attr ?_ | refine wE_ix ?_ | refine wE_sl ?_ | refine wE_lst ?_ | refine wE_tup ?_ | refine wE_dic ?_ | refine wE_lc ?_
  | refine wA_nil ?_ | refine wA_cons ?_ | refine wA_star ?_
  | refine wT_not ?_ | refine wT_and ?_ | refine wT_or ?_ | refine wT_ite ?_ | refine wT_cmp ?_ | refine wT_chain ?_ | refine wT_no ?_ | refine wT_v (by with_unfolding_all exact rfl) ?_ | refine wT_call ?_ | refine wT_blt ?_ | refine wT_meth ?_ | refine wT_attr ?_ | refine wT_ix ?_
  | refine w_tru_bl ?_
  | refine wP_no ?_ | refine wP_k ?_ | refine wP_v (by with_unfolding_all exact rfl) ?_ | refine wP_neg ?_ | refine wP_bin ?_
  | refine wG_v ?_ | refine wG_tup ?_ | refine wG_attr ?_ | refine wG_ix ?_ | refine wGs_nil ?_ | refine wGs_cons ?_ | refine wU_tup ?_
  | refine wB_add ?_ | refine wB_sub ?_
  | refine wC_lt ?_ | refine wC_le ?_ | refine wC_gt ?_ | refine wC_ge ?_ | refine wC_eqs ?_ | refine wC_nes ?_ | refine wC_eqi ?_ | refine wC_nei ?_ | refine wC_is ?_ | refine wC_isn ?_ | refine wC_in ?_ | refine wC_nin ?_ | refine wN_str ?_
  | refine wF_lenT ?_ | refine wF_abs ?_ | refine wF_max ?_ | refine wF_min ?_ | refine wF_int ?_ | refine wF_intB ?_ | refine wF_tupT ?_ | refine wF_listT ?_ | refine wF_isin_str ?_ | refine wF_isin_int ?_
  | refine wL_tup ?_ | refine wM_str ?_
  | refine wp_pure ?_ | refine wp_bind ?_
  | refine and_len ?_ (by with_unfolding_all exact rfl) | refine par_ok (by with_unfolding_all exact rfl) ?_ | refine int_ok rfl ?_)
local macro_rules | `(tactic| bv_omega) => `(tactic| repeat (first | array_mem_dec | (with_reducible first | refine wp_if_t rfl ?_ | refine wp_if_f rfl ?_)))
local macro_rules | `(tactic| sizeOf_list_dec) => `(tactic| repeat array_mem_dec)
theorem sum_le_mul {m : Nat} : ∀ {ws : List (List Nat)}, (∀ w ∈ ws, w.length ≤ m) → (ws.map (·.length)).sum ≤ ws.length * m
  | [], _ => Nat.zero_le _
  | w :: ws, h => by
    have ih := sum_le_mul (ws := ws) fun x hx => h x (List.mem_cons_of_mem _ hx)
    have := h w (List.mem_cons_self ..)
    simp only [List.map_cons, List.sum_cons, List.length_cons, Nat.succ_mul]
    omega
theorem own_rows {room : Nat} {boxes : List (List Nat)} {n : Nat} : ∀ {rows : List AV}, (∀ v ∈ rows, RowA room boxes n v) → ∃ rs : List (List Nat × List AV), rows = rs.map rowAV ∧ ∀ r ∈ rs, ∃ form, RowOk FORMS room boxes n r.1 form r.2
  | [], _ => ⟨[], rfl, nofun⟩
  | v :: rows, h => by
    obtain ⟨rs, e, ok⟩ := own_rows (rows := rows) fun x hx => h x (List.mem_cons_of_mem _ hx)
    obtain ⟨kw, form, parts, rfl, R⟩ := h v (List.mem_cons_self ..)
    refine ⟨(kw, parts) :: rs, by rw [e]; rfl, fun r hr => ?_⟩
    rcases List.mem_cons.mp hr with rfl | hr
    · exact ⟨form, R⟩
    · exact ok r hr
theorem OwnOk.rd {R B M room : Nat} {boxes : List (List Nat)} {rows : List AV} (ok : OwnOk R B M room boxes rows) (hR : R ≤ 20) (hB : B ≤ 120) (hM : M ≤ 1000) : ∃ rs, rows = rs.map rowAV ∧ RdOk FORMS room boxes rs := by
  obtain ⟨rs, e, h⟩ := own_rows ok.rows
  have hl : rows.length = rs.length := by rw [e, List.length_map]
  have h0 := ok.some_
  have h1 := ok.most
  have h2 := ok.r1
  have h3 := ok.few
  refine ⟨rs, e, ok.r0, by omega, ok.names, by omega, ok.nd, by omega, by omega, fun r hr => ?_⟩
  rw [← hl]
  exact h r hr
theorem PartOk.word {room many k : Nat} {boxes : List (List Nat)} {x : AV} (h : PartOk room boxes many k x) (hr : room ≤ 20) (hm : many ≤ 40000) : (∃ w, x = .str w) ∨ ∃ n : Nat, x = .int (n : Nat) ∧ n < 1000000000 := by
  cases h with
  | n h => exact .inl ⟨_, rfl⟩
  | b h => exact .inl ⟨_, rfl⟩
  | q h => exact .inr ⟨_, rfl, by omega⟩
  | l h => exact .inr ⟨_, rfl, by omega⟩
  | k h => exact .inr ⟨_, rfl, h⟩
theorem PartsOk.words {room many : Nat} {boxes : List (List Nat)} (hr : room ≤ 20) (hm : many ≤ 40000) : ∀ {ks : List Nat} {xs : List AV}, PartsOk room boxes many ks xs → ∀ x ∈ xs, (∃ w, x = .str w) ∨ ∃ n : Nat, x = .int (n : Nat) ∧ n < 1000000000
  | _, _, .nil => fun x hx => by cases hx
  | _, _, .cons h r => fun x hx => by
    rcases List.mem_cons.mp hx with rfl | hx
    · exact h.word hr hm
    · exact PartsOk.words hr hm r x hx
section
variable {P : Pg} {d f : Nat} {h : AH} {Q : AV → AH → Prop}
theorem reader_text_spec (hf : P.fn f = some F_law_reader_text) {b ow room : Nat} {boxes : List (List Nat)} {rows : List (List Nat × List AV)} (a : OwnR b h ow room boxes (rows.map rowAV)) (R : RdOk FORMS room boxes rows)
    (k : ∀ h', Kx h h' → Q (.str (rdTxt room boxes rows)) h') : wp (callF P (d + 1) f [.ref ow]) Q h := by
  obtain ⟨rb, rr, ao, ab, ar⟩ := a
  have few := R.few
  have most := R.most
  have r1 := R.r1
  refine w_call hf rfl ?_
  show wp (evS P (callF P d) B_law_reader_text [some (.ref ow), none, none, none]) _ _
  unfold B_law_reader_text
  bv_omega
  refine wX_dic ao ownD_ok ownD_room ?_
  bv_omega
  refine wF_strI ?_ (by rw [Int.natAbs_natCast]; have : room.log2 ≤ room := Nat.log2_le_self room; omega)
  rw [intL_nat]
  have l9 := TL.numL_len (n := room) (k := 9) (by decide) (by omega)
  refine wB_adds ?_ (by simp; omega)
  bv_omega
  have ao1 := ao.push (.lst [.str sBOXES])
  have ab1 := ab.push (.lst [.str sBOXES])
  refine wX_dic ao1 ownD_ok ownD_boxes ?_
  refine wB_addl ?_ (At.new (b := 0) _ (Nat.zero_le _)) ab1 (by simp; omega)
  bv_omega
  have nm : ∀ w ∈ sBOXES :: boxes, w.length ≤ 8 := fun w hw => by
    rcases List.mem_cons.mp hw with rfl | hw
    · decide
    · exact (R.names w hw).l1
  have sm := sum_le_mul nm
  simp only [List.length_cons] at sm
  refine wm_join (ys := sBOXES :: boxes) (At.new (b := 0) _ (Nat.zero_le _)) (strsO_map (sBOXES :: boxes)) (by simp only [List.length_cons, List.length_nil] at sm ⊢; omega) ?_
  bv_omega
  have ar2 := (ar.push (.lst [.str sBOXES])).push (.lst ([.str sBOXES] ++ boxes.map .str))
  have ao2 := ao1.push (.lst ([.str sBOXES] ++ boxes.map .str))
  have k2 : Kx h ((h.push (.lst [.str sBOXES])).push (.lst ([.str sBOXES] ++ boxes.map .str))) := ((Kp.refl _ _).push _).push _
  show wp _ _ (((h.push (.lst [.str sBOXES])).push (.lst ([.str sBOXES] ++ boxes.map .str))).push _)
  generalize (h.push (.lst [.str sBOXES])).push (.lst ([.str sBOXES] ++ boxes.map .str)) = h2 at ar2 ao2 k2
  have e0 : [AV.str ([114, 111, 111, 109, 32] ++ TL.numL room), AV.str (TL.joinL [32] (sBOXES :: boxes))] = ((sROOM ++ 32 :: TL.numL room) :: boxTxt boxes :: (rows.take 0).map fun r => rowTxt r.1 r.2).map AV.str := rfl
  rw [e0]
  have al3 : At 0 (h2.push (.lst (((sROOM ++ 32 :: TL.numL room) :: boxTxt boxes :: (rows.take 0).map fun r => rowTxt r.1 r.2).map AV.str))) h2.n _ := At.new _ (Nat.zero_le _)
  have ar3 := ar2.push (.lst (((sROOM ++ 32 :: TL.numL room) :: boxTxt boxes :: (rows.take 0).map fun r => rowTxt r.1 r.2).map AV.str))
  have ao3 := ao2.push (.lst (((sROOM ++ 32 :: TL.numL room) :: boxTxt boxes :: (rows.take 0).map fun r => rowTxt r.1 r.2).map AV.str))
  have k3 := k2.push (.lst (((sROOM ++ 32 :: TL.numL room) :: boxTxt boxes :: (rows.take 0).map fun r => rowTxt r.1 r.2).map AV.str))
  generalize (h2.push (.lst (((sROOM ++ 32 :: TL.numL room) :: boxTxt boxes :: (rows.take 0).map fun r => rowTxt r.1 r.2).map AV.str))) = h3 at al3 ar3 ao3 k3
  refine wX_dic ao3 ownD_ok ownD_rows ?_
  bv_omega
  refine wK_lst ?_ ar3
  have ms : Src.most (.lst rr) h3 = (rows.map rowAV).length := by simp only [Src.most, ar3.get]
  rw [ms]
  have x2 := k2.le
  have xr := ar.lt
  refine wp_for (xs := rows.map rowAV) (fun i σ h' => ∃ (v2 v3 : Option AV), σ = [some (.ref ow), some (.ref h2.n), v2, v3] ∧ Kx h h' ∧ At 0 h' h2.n (.lst (((sROOM ++ 32 :: TL.numL room) :: boxTxt boxes :: (rows.take i).map fun r => rowTxt r.1 r.2).map AV.str)) ∧ At b h' rr (.lst (rows.map rowAV)))
    (fun i σ h' ⟨_, _, _, _, _, l⟩ => Src.is_lst l) ?_ ?_ _ 0 _ _ (Nat.zero_add _) ⟨_, _, rfl, k3, al3, ar3⟩
  · rintro i x σ h' hx ⟨v2, v3, rfl, kk, al, ar'⟩
    rw [List.getElem?_map] at hx
    obtain ⟨r, hr, rfl⟩ := Option.map_eq_some_iff.mp hx
    obtain ⟨form, ok⟩ := R.rows r (List.mem_of_getElem? hr)
    have pl := ok.parts.len
    have few8 := ok.few
    bv_omega
    refine wM_lst ?_ al
    bv_omega
    refine wK_tup ?_
    refine wp_lc_map (fun x => .str (wtxt x)) (by simp; omega) (fun _ _ => Src.is_fix _ _) ?_ ?_ rfl
    · intro j y h4 hy k4
      have hw : (∃ w, y = .str w) ∨ ∃ n : Nat, y = .int (n : Nat) ∧ n < 1000000000 := by
        rcases List.mem_cons.mp (List.mem_of_getElem? hy) with rfl | hm
        · exact .inl ⟨_, rfl⟩
        · exact ok.parts.words (by omega) (by omega) y hm
      rcases hw with ⟨w, rfl⟩ | ⟨n, rfl, hn⟩
      · bv_omega
        exact ⟨Kp.refl _ _, rfl⟩
      · bv_omega
        refine wF_strI ?_ (by
          rw [Int.natAbs_natCast]
          rcases Nat.eq_zero_or_pos n with z | z
          · simp [z]
          · have : n.log2 < 30 := (Nat.log2_lt (by omega)).mpr (by omega)
            omega)
        bv_omega
        exact ⟨Kp.refl _ _, rfl⟩
    · intro h4 k4 a4
      have tx : ∀ p ∈ r.1 :: r.2.map wtxt, p.length ≤ 9 := fun p hp => by
        rcases List.mem_cons.mp hp with rfl | hp
        · exact Nat.le_succ_of_le ok.short
        · obtain ⟨x, hx, rfl⟩ := List.mem_map.mp hp
          exact (ok.parts.txt (by omega) (by omega) R.names (s := 10) (by decide) x hx).2
      have sm := sum_le_mul tx
      simp only [List.length_cons, List.length_map] at sm
      have e1 : (AV.str r.1 :: r.2).map (fun x => AV.str (wtxt x)) = (r.1 :: r.2.map wtxt).map AV.str := by
        simp only [List.map_cons, List.map_map, Function.comp_def, wtxt]
      rw [e1] at a4
      have al4 := al.kp k4 (Nat.le_refl _)
      bv_omega
      refine wm_join (ys := r.1 :: r.2.map wtxt) a4 (strsO_map _) (by simp only [List.length_cons, List.length_map, List.length_nil]; omega) ?_
      bv_omega
      refine wm_app ?_ al4 (by simp; omega)
      bv_omega
      have e2 : (((sROOM ++ 32 :: TL.numL room) :: boxTxt boxes :: (rows.take i).map fun r => rowTxt r.1 r.2).map AV.str) ++ [AV.str (TL.joinL [32] (r.1 :: r.2.map wtxt))] = ((sROOM ++ 32 :: TL.numL room) :: boxTxt boxes :: (rows.take (i + 1)).map fun r => rowTxt r.1 r.2).map AV.str := by
        rw [List.take_succ, hr]
        simp [rowTxt]
      rw [e2]
      exact ⟨_, _, rfl, (kk.trans k4).set _ x2, al4.set _, (ar'.kp k4 (Nat.zero_le _)).set_ne _ (by omega)⟩
  · rintro σ h' ⟨v2, v3, rfl, kk, al, ar'⟩
    rw [List.length_map, List.take_length] at al
    have ln := R.txt.2
    have hb := (box_free R.names R.few).2.2
    have tx : ∀ p ∈ rdLines room boxes rows, p.length ≤ 2000 := fun p hp => by
      rcases List.mem_cons.mp hp with rfl | hp
      · simp; omega
      · rcases List.mem_cons.mp hp with rfl | hp
        · exact hb
        · obtain ⟨r, hr, rfl⟩ := List.mem_map.mp hp
          obtain ⟨form, ok⟩ := R.rows r hr
          have := (ok.free R.r1 (by omega) R.names).2.2
          omega
    have sm := sum_le_mul tx
    have ll : (rdLines room boxes rows).length = rows.length + 2 := by simp [rdLines]
    bv_omega
    refine wm_join (ys := rdLines room boxes rows) al (strsO_map _) (by rw [ll] at sm ⊢; simp only [List.length_cons, List.length_nil]; omega) ?_
    bv_omega
    exact k _ kk
end
end PM
end
section
set_option maxHeartbeats 400000
/-! PL12: what repr tells is there. -/
namespace PM
open PySem
local macro_rules | `(tactic| array_get_dec) => `(tactic| repeat' (first
  | assumption
  | exact At.new _ (by first | exact Nat.zero_le _ | omega | (simp only [AH.n_push, AH.n_set]; omega))
  | refine At.push ?_ _
  | refine At.set (by assumption) _
  | refine At.set_ne ?_ _ (by first | assumption | omega | (simp only [AH.n_push, AH.n_set]; omega))
  | refine At.kp (by assumption) ?_ (by first | exact Nat.le_refl _ | exact Nat.zero_le _ | omega)))
local macro_rules | `(tactic| array_mem_dec) => `(tactic| with_reducible first
  | refine wS_seq ?_ | refine wS_asg ?_ | refine wS_par ?_ | refine wS_aug (by with_unfolding_all exact rfl) ?_ | refine wS_ex ?_ | refine wS_ret (by with_unfolding_all exact nofun) ?_ | refine wS_ret0 ?_ | refine wS_ife ?_ | refine wS_brk ?_ | refine wS_cnt ?_ | refine wS_pass ?_ | refine wS_done ?_ | refine wS_for ?_
  | refine seqK_nx ?_ | refine seqK_rt ?_ | refine seqK_bk ?_ | refine seqK_ct ?_ | refine retK_nx ?_ | refine retK_rt ?_ | refine forK_nx ?_ | refine forK_ct ?_ | refine forK_bk ?_ | refine forK_rt ?_
  | refine wE_v (by with_unfolding_all exact rfl) ?_ | refine wE_k ?_ | refine wE_bin ?_ | refine wE_neg ?_ | refine wE_not ?_ | refine wE_and ?_ | refine wE_or ?_ | refine wE_ite ?_ | refine wE_cmp ?_ | refine wE_chain ?_ | refine wE_call ?_ | refine wE_callK ?_ | refine wE_blt ?_ | refine wE_meth ?_ | refine wE_attr ?_ | refine wE_ix ?_ | refine wE_sl ?_ | refine wE_lst ?_ | refine wE_tup ?_ | refine wE_dic ?_ | refine wE_lc ?_
  | refine wA_nil ?_ | refine wA_cons ?_ | refine wA_star ?_
  | refine wT_not ?_ | refine wT_and ?_ | refine wT_or ?_ | refine wT_ite ?_ | refine wT_cmp ?_ | refine wT_chain ?_ | refine wT_no ?_ | refine wT_v (by with_unfolding_all exact rfl) ?_ | refine wT_call ?_ | refine wT_blt ?_ | refine wT_meth ?_ | refine wT_attr ?_ | refine wT_ix ?_
  | refine w_tru_bl ?_
  | refine wP_no ?_ | refine wP_k ?_ | refine wP_v (by with_unfolding_all exact rfl) ?_ | refine wP_neg ?_ | refine wP_bin ?_
  | refine wG_v ?_ | refine wG_tup ?_ | refine wG_attr ?_ | refine wG_ix ?_ | refine wGs_nil ?_ | refine wGs_cons ?_ | refine wU_tup ?_
  | refine wB_add ?_ | refine wB_sub ?_
  | refine wC_lt ?_ | refine wC_le ?_ | refine wC_gt ?_ | refine wC_ge ?_ | refine wC_eqs ?_ | refine wC_nes ?_ | refine wC_eqi ?_ | refine wC_nei ?_ | refine wC_is ?_ | refine wC_isn ?_ | refine wC_in ?_ | refine wC_nin ?_ | refine wN_str ?_
  | refine wF_lenT ?_ | refine wF_abs ?_ | refine wF_max ?_ | refine wF_min ?_ | refine wF_int ?_ | refine wF_intB ?_ | refine wF_tupT ?_ | refine wF_listT ?_ | refine wF_isin_str ?_ | refine wF_isin_int ?_
  | refine wL_tup ?_ | refine wM_str ?_
  | refine wp_pure ?_ | refine wp_bind ?_
  | refine and_len ?_ (by with_unfolding_all exact rfl) | refine par_ok (by with_unfolding_all exact rfl) ?_ | refine int_ok rfl ?_)
local macro_rules | `(tactic| bv_omega) => `(tactic| repeat (first | array_mem_dec | (with_reducible first | refine wp_if_t rfl ?_ | refine wp_if_f rfl ?_)))
local macro_rules | `(tactic| sizeOf_list_dec) => `(tactic| repeat array_mem_dec)
structure Dt (n W : Nat) (a : AV) (d : PyData) : Prop where
  to : ∀ f h, toD (f + n) h a = some d
  sh : d.showable = true
  nd : d.hasDict = false
  ls : d.leavesShort 13 = true
  w : d.weight ≤ W
theorem Dt.str {x : List Nat} (hx : ∀ c ∈ x, c < 1114112) {W : Nat} (hW : x.length ≤ W) : Dt 1 W (.str x) (.str ⟨x.toArray⟩) :=
  ⟨fun _ _ => rfl, rfl, rfl, by
    simp only [PyData.leavesShort, List.all_eq_true, decide_eq_true_eq]
    intro c hc
    exact Nat.lt_trans (hx c (by simpa using hc)) (by decide), by simpa [PyData.weight] using hW⟩
theorem shown_nat {n : Nat} (hn : n < 1000000000) : (PyData.shown (.int ((n : Nat) : Int))).length ≤ 13 := by
  have e : PyData.shown (.int ((n : Nat) : Int)) = Str.ofString (toString ((n : Nat) : Int)) := rfl
  rw [e, TL.len_tl, TL.tl_num]
  have := TL.numL_len (n := n) (k := 9) (by decide) (by omega)
  omega
theorem log_small {n : Nat} (hn : n < 1000000000) : n.log2 ≤ 29 := by
  rcases Nat.eq_zero_or_pos n with z | z
  · simp [z]
  · have : n.log2 < 30 := (Nat.log2_lt (by omega)).mpr (by omega)
    omega
theorem Dt.nat {n : Nat} (hn : n < 1000000000) {W : Nat} (hW : 30 ≤ W) : Dt 1 W (.int (n : Nat)) (.int (n : Nat)) :=
  ⟨fun _ _ => rfl, by
    simp only [PyData.showable, Int.natAbs_natCast]
    have := log_small hn
    exact decide_eq_true (by omega), rfl, by
    simp only [PyData.leavesShort]
    exact decide_eq_true (shown_nat hn), by
    simp only [PyData.weight, Int.natAbs_natCast]
    have := log_small hn
    split <;> omega⟩
theorem Dt.bl (b : Bool) : Dt 1 0 (.bl b) (.bool b) := ⟨fun _ _ => rfl, rfl, rfl, rfl, Nat.le_refl _⟩
theorem dts {n W : Nat} : ∀ {xs : List AV}, (∀ x ∈ xs, ∃ d, Dt n W x d) → ∃ ds, (∀ f h, mapO (toD (f + n) h) xs = some ds) ∧ PyData.showableAll ds = true ∧ PyData.hasDictAll ds = false ∧ PyData.leavesShortAll 13 ds = true ∧ PyData.weightAll ds ≤ xs.length * (W + 1)
  | [], _ => ⟨[], fun _ _ => rfl, rfl, rfl, rfl, Nat.zero_le _⟩
  | x :: xs, h => by
    obtain ⟨ds, h1, h2, h3, h4, h5⟩ := dts (xs := xs) fun y hy => h y (List.mem_cons_of_mem _ hy)
    obtain ⟨d, D⟩ := h x (List.mem_cons_self ..)
    refine ⟨d :: ds, fun f h => by simp only [mapO, D.to, h1], by simp only [PyData.showableAll, D.sh, h2, Bool.and_self], by simp only [PyData.hasDictAll, D.nd, h3, Bool.or_self], by simp only [PyData.leavesShortAll, D.ls, h4, Bool.and_self], ?_⟩
    simp only [PyData.weightAll, List.length_cons, Nat.succ_mul]
    have := D.w
    omega
theorem Dt.tup {n W W' : Nat} {xs : List AV} (h : ∀ x ∈ xs, ∃ d, Dt n W x d) (hW : xs.length * (W + 1) ≤ W') : ∃ d, Dt (n + 1) W' (.tup xs) d := by
  obtain ⟨ds, h1, h2, h3, h4, h5⟩ := dts h
  refine ⟨.tuple ds, fun f h => ?_, by simpa only [PyData.showable] using h2, by simpa only [PyData.hasDict] using h3, by simpa only [PyData.leavesShort] using h4, by simp only [PyData.weight]; omega⟩
  show (mapO (toD (f + n) h) xs).map PyData.tuple = _
  rw [h1]; rfl
theorem Dt.up {n m W : Nat} {a : AV} {d : PyData} (D : Dt n W a d) (l : n ≤ m) : Dt m W a d := ⟨fun f h => by rw [show f + m = (f + (m - n)) + n by omega]; exact D.to _ h, D.sh, D.nd, D.ls, D.w⟩
theorem Dt.wide {n W W' : Nat} {a : AV} {d : PyData} (D : Dt n W a d) (l : W ≤ W') : Dt n W' a d := ⟨D.to, D.sh, D.nd, D.ls, Nat.le_trans D.w l⟩
theorem Dt.repr {n W : Nat} {a : AV} {d : PyData} (D : Dt n W a d) (hn : n ≤ 60) (hW : W ≤ 1000000) (h : AH) : ∃ x, reprA h a = some x := by
  have e : toD 60 h a = some d := by
    have := D.to (60 - n) h
    rwa [show 60 - n + n = 60 by omega] at this
  have l := PyData.shown_le 13 (by decide) d D.ls
  have := D.w
  refine ⟨d.shown.cps.toList, ?_⟩
  unfold reprA
  rw [e]
  simp only [D.sh, D.nd, Bool.not_false, Bool.and_self, Bool.true_and]
  rw [if_pos (decide_eq_true (by omega))]
/-- what a reader tells, all together -/
theorem told_dt {room : Nat} {boxes : List (List Nat)} {rows : List (List Nat × List AV)} (R : RdOk FORMS room boxes rows) (hl : rows.length ≤ 300) : ∃ d, Dt 4 600000 (.tup [.str (rdTxt room boxes rows), .int (room : Nat), .tup (boxes.map .str), .tup (rows.map rowAV), .int (rows.length : Nat)]) d := by
  have r1 := R.r1
  have few := R.few
  have tx : ∀ c ∈ rdTxt room boxes rows, c < 1114112 := fun c hc => by
    have num : ∀ n : Nat, ∀ c ∈ TL.numL n, c < 1114112 := fun n c hc => by
      have := TL.numL_digits n c hc
      omega
    have nm : ∀ w, NameOk w → ∀ c ∈ w, c < 1114112 := fun w ok => ok.lt
    have lt : ∀ w : List Nat, (∀ c ∈ w, c ∈ LET) → ∀ c ∈ w, c < 1114112 := fun w h c hc => by
      have := h c hc
      simp only [List.mem_cons, List.not_mem_nil, or_false] at this
      omega
    rcases joinL_mem hc with ⟨p, hp, hc⟩ | hc
    · rcases List.mem_cons.mp hp with rfl | hp
      · rcases List.mem_append.mp hc with hc | hc
        · simp only [List.mem_cons, List.not_mem_nil, or_false] at hc
          omega
        · rcases List.mem_cons.mp hc with rfl | hc
          · decide
          · exact num _ c hc
      · rcases List.mem_cons.mp hp with rfl | hp
        · rcases joinL_mem hc with ⟨p, hp, hc⟩ | hc
          · rcases List.mem_cons.mp hp with rfl | hp
            · simp only [List.mem_cons, List.not_mem_nil, or_false] at hc
              omega
            · exact nm p (R.names p hp) c hc
          · simp only [List.mem_cons, List.not_mem_nil, or_false] at hc
            omega
        · obtain ⟨r, hr, rfl⟩ := List.mem_map.mp hp
          obtain ⟨form, ok⟩ := R.rows r hr
          rcases joinL_mem hc with ⟨p, hp, hc⟩ | hc
          · rcases List.mem_cons.mp hp with rfl | hp
            · exact lt _ ok.word c hc
            · obtain ⟨x, hx, rfl⟩ := List.mem_map.mp hp
              obtain ⟨i, hi, rfl⟩ := List.getElem_of_mem hx
              have pl := ok.parts.len
              obtain ⟨kd, hkd⟩ : ∃ kd, form[i]? = some kd := ⟨_, List.getElem?_eq_getElem (show i < form.length by omega)⟩
              have pk := ok.parts.get hkd (List.getElem?_eq_getElem hi)
              generalize r.2[i] = x at pk hc
              cases pk with
              | n h => exact nm _ h c hc
              | b h => exact nm _ (R.names _ h) c hc
              | q h => exact num _ c (by rw [← intL_nat]; exact hc)
              | l h => exact num _ c (by rw [← intL_nat]; exact hc)
              | k h => exact num _ c (by rw [← intL_nat]; exact hc)
          · simp only [List.mem_cons, List.not_mem_nil, or_false] at hc
            omega
    · simp only [List.mem_cons, List.not_mem_nil, or_false] at hc
      omega
  have l1 := R.txt.2
  have dtext := (Dt.str tx l1).up (show 1 ≤ 3 by decide)
  have droom := (Dt.nat (n := room) (by omega) (W := 100000) (by decide)).up (show 1 ≤ 3 by decide)
  have dlen := (Dt.nat (n := rows.length) (by omega) (W := 100000) (by decide)).up (show 1 ≤ 3 by decide)
  obtain ⟨db, Db⟩ := Dt.tup (n := 1) (W := 8) (W' := 100000) (xs := boxes.map .str) (fun x hx => by
    obtain ⟨w, hw, rfl⟩ := List.mem_map.mp hx
    exact ⟨_, Dt.str (R.names w hw).lt (R.names w hw).l1⟩) (by simp; omega)
  obtain ⟨dr, Dr⟩ := Dt.tup (n := 2) (W := 290) (W' := 100000) (xs := rows.map rowAV) (fun x hx => by
    obtain ⟨r, hr, rfl⟩ := List.mem_map.mp hx
    obtain ⟨form, ok⟩ := R.rows r hr
    have pl := ok.parts.len
    have f8 := ok.few
    refine Dt.tup (n := 1) (W := 30) (xs := .str r.1 :: r.2) (fun y hy => ?_) (by simp; omega)
    rcases List.mem_cons.mp hy with rfl | hy
    · refine ⟨_, Dt.str (fun c hc => ?_) (by have := ok.short; omega)⟩
      have := ok.word c hc
      simp only [List.mem_cons, List.not_mem_nil, or_false] at this
      omega
    · obtain ⟨i, hi, rfl⟩ := List.getElem_of_mem hy
      obtain ⟨kd, hkd⟩ : ∃ kd, form[i]? = some kd := ⟨_, List.getElem?_eq_getElem (show i < form.length by omega)⟩
      have pk := ok.parts.get hkd (List.getElem?_eq_getElem hi)
      generalize r.2[i] = y at pk
      cases pk with
      | n h => exact ⟨_, Dt.str h.lt (by have := h.l1; omega)⟩
      | b h => exact ⟨_, Dt.str (R.names _ h).lt (by have := (R.names _ h).l1; omega)⟩
      | q h => exact ⟨_, Dt.nat (by omega) (by decide)⟩
      | l h => exact ⟨_, Dt.nat (by omega) (by decide)⟩
      | k h => exact ⟨_, Dt.nat h (by decide)⟩) (by simp; omega)
  refine Dt.tup (n := 3) (W := 100000) (fun x hx => ?_) (by simp)
  simp only [List.mem_cons, List.not_mem_nil, or_false] at hx
  rcases hx with rfl | rfl | rfl | rfl | rfl
  · exact ⟨_, dtext⟩
  · exact ⟨_, droom⟩
  · exact ⟨_, Db.up (by decide)⟩
  · exact ⟨_, Dr⟩
  · exact ⟨_, dlen⟩
end PM
end
section
set_option maxHeartbeats 400000
/-! PL15: readers made of rows (the program). -/
namespace PM
open PySem
local macro_rules | `(tactic| array_get_dec) => `(tactic| repeat' (first
  | assumption
  | exact At.new _ (by first | exact Nat.zero_le _ | omega | (simp only [AH.n_push, AH.n_set]; omega))
  | refine At.push ?_ _
  | refine At.set (by assumption) _
  | refine At.set_ne ?_ _ (by first | assumption | omega | (simp only [AH.n_push, AH.n_set]; omega))
  | refine At.kp (by assumption) ?_ (by first | exact Nat.le_refl _ | exact Nat.zero_le _ | omega)))
local macro_rules | `(tactic| array_mem_dec) => `(tactic| with_reducible first
  | refine wS_seq ?_ | refine wS_asg ?_ | refine wS_par ?_ | refine wS_aug (by with_unfolding_all exact rfl) ?_ | refine wS_ex ?_ | refine wS_ret (by with_unfolding_all exact nofun) ?_ | refine wS_ret0 ?_ | refine wS_ife ?_ | refine wS_brk ?_ | refine wS_cnt ?_ | refine wS_pass ?_ | refine wS_done ?_ | refine wS_for ?_
  | refine seqK_nx ?_ | refine seqK_rt ?_ | refine seqK_bk ?_ | refine seqK_ct ?_ | refine retK_nx ?_ | refine retK_rt ?_ | refine forK_nx ?_ | refine forK_ct ?_ | refine forK_bk ?_ | refine forK_rt ?_
  | refine wE_v (by with_unfolding_all exact rfl) ?_ | refine wE_k ?_ | refine wE_bin ?_ | refine wE_neg ?_ | refine wE_not ?_ | refine wE_and ?_ | refine wE_or ?_ | refine wE_ite ?_ | refine wE_cmp ?_ | refine wE_chain ?_ | refine wE_call ?_ | refine wE_callK ?_ | refine wE_blt ?_ | refine wE_meth ?_ | refine wE_attr ?_ | refine wE_ix ?_ | refine wE_sl ?_ | refine wE_lst ?_ | refine wE_tup ?_ | refine wE_dic ?_ | refine wE_lc ?_
  | refine wA_nil ?_ | refine wA_cons ?_ | refine wA_star ?_
  | refine wT_not ?_ | refine wT_and ?_ | refine wT_or ?_ | refine wT_ite ?_ | refine wT_cmp ?_ | refine wT_chain ?_ | refine wT_no ?_ | refine wT_v (by with_unfolding_all exact rfl) ?_ | refine wT_call ?_ | refine wT_blt ?_ | refine wT_meth ?_ | refine wT_attr ?_ | refine wT_ix ?_
  | refine w_tru_bl ?_
  | refine wP_no ?_ | refine wP_k ?_ | refine wP_v (by with_unfolding_all exact rfl) ?_ | refine wP_neg ?_ | refine wP_bin ?_
  | refine wG_v ?_ | refine wG_tup ?_ | refine wG_attr ?_ | refine wG_ix ?_ | refine wGs_nil ?_ | refine wGs_cons ?_ | refine wU_tup ?_
  | refine wB_add ?_ | refine wB_sub ?_
  | refine wC_lt ?_ | refine wC_le ?_ | refine wC_gt ?_ | refine wC_ge ?_ | refine wC_eqs ?_ | refine wC_nes ?_ | refine wC_eqi ?_ | refine wC_nei ?_ | refine wC_is ?_ | refine wC_isn ?_ | refine wC_in ?_ | refine wC_nin ?_ | refine wN_str ?_
  | refine wF_lenT ?_ | refine wF_abs ?_ | refine wF_max ?_ | refine wF_min ?_ | refine wF_int ?_ | refine wF_intB ?_ | refine wF_tupT ?_ | refine wF_listT ?_ | refine wF_isin_str ?_ | refine wF_isin_int ?_
  | refine wL_tup ?_ | refine wM_str ?_
  | refine wp_pure ?_ | refine wp_bind ?_
  | refine and_len ?_ (by with_unfolding_all exact rfl) | refine par_ok (by with_unfolding_all exact rfl) ?_ | refine int_ok rfl ?_)
local macro_rules | `(tactic| bv_omega) => `(tactic| repeat (first | array_mem_dec | (with_reducible first | refine wp_if_t rfl ?_ | refine wp_if_f rfl ?_)))
local macro_rules | `(tactic| sizeOf_list_dec) => `(tactic| repeat array_mem_dec)
-- room, boxes, rows, heads, part, row
def B_reader_of_rows (c_0 : Nat) : S := (.seq (.asg (.v 3) (.lst (.cons (.meth (.k (.str [32])) 4 (.cons (.lst (.cons (.k (.str [114, 111, 111, 109])) (.cons (.blt .str (.cons (.v 0) .nil)) .nil))) .nil)) (.cons (.meth (.k (.str [32])) 4 (.cons (.lst (.cons (.k (.str [98, 111, 120, 101, 115])) (.star (.v 1) .nil))) .nil)) .nil)))) (.seq (.ret (.new c_0 (.cons (.meth (.k (.str [10])) 4 (.cons (.lst (.star (.v 3) (.star (.lc (.meth (.k (.str [32])) 4 (.cons (.lc (.blt .str (.cons (.v 4) .nil)) (.v 4) .self (.cons (.v 5) .nil) .no [4]) .nil)) (.v 5) .self (.cons (.v 2) .nil) .no [5]) .nil))) .nil)) .nil))) .done))
abbrev F_reader_of_rows (c_0 : Nat) : Fn := ⟨3, 6, B_reader_of_rows c_0⟩
section
variable {P : Pg} {d f : Nat} {h : AH} {Q : AV → AH → Prop}
theorem reader_of_rows_spec (R : Rd P) (hf : P.fn f = some (F_reader_of_rows R.c)) {b rr room : Nat} {boxes : List (List Nat)} {rows : List (List Nat × List AV)} (hF : R.F = FORMS) (ok : RdOk FORMS room boxes rows) (a : At b h rr (.lst (rows.map rowAV)))
    (k : ∀ self h', h.n ≤ self → Kx h h' → IsRd R 0 h' self room boxes rows → Q (.ref self) h') : wp (callF P (d + 6) f [.int (room : Nat), .tup (boxes.map .str), .ref rr]) Q h := by
  have few := ok.few
  have most := ok.most
  have r1 := ok.r1
  refine w_call hf rfl ?_
  show wp (evS P (callF P (d + 5)) (B_reader_of_rows R.c) [some (.int (room : Nat)), some (.tup (boxes.map .str)), some (.ref rr), none, none, none]) _ _
  unfold B_reader_of_rows
  bv_omega
  refine wF_strI ?_ (by rw [Int.natAbs_natCast]; have : room.log2 ≤ room := Nat.log2_le_self room; omega)
  rw [intL_nat]
  bv_omega
  refine wm_join (ys := [sROOM, TL.numL room]) (At.new (b := 0) _ (Nat.zero_le _)) rfl (by have := TL.numL_len (n := room) (k := 9) (by decide) (by omega); simp; omega) ?_
  have e1 : TL.joinL [32] [sROOM, TL.numL room] = sROOM ++ 32 :: TL.numL room := rfl
  rw [e1]
  have l9 := TL.numL_len (n := room) (k := 9) (by decide) (by omega)
  have nm : ∀ w ∈ sBOXES :: boxes, w.length ≤ 8 := fun w hw => by
    rcases List.mem_cons.mp hw with rfl | hw
    · decide
    · exact (ok.names w hw).l1
  have sm := sum_le_mul nm
  simp only [List.length_cons] at sm
  have a1 := a.push (.lst [.str [114, 111, 111, 109], .str (TL.numL room)])
  have k1 : Kx h (h.push (.lst [.str [114, 111, 111, 109], .str (TL.numL room)])) := (Kp.refl _ _).push _
  generalize h.push (.lst [.str [114, 111, 111, 109], .str (TL.numL room)]) = h1 at a1 k1
  bv_omega
  refine ⟨?_, by simp; omega⟩
  rw [List.append_nil]
  bv_omega
  refine wm_join (ys := sBOXES :: boxes) (At.new (b := 0) _ (Nat.zero_le _)) (strsO_map (sBOXES :: boxes)) (by simp only [List.length_cons, List.length_nil] at sm ⊢; omega) ?_
  bv_omega
  have a2 := a1.push (.lst (.str sBOXES :: boxes.map .str))
  have k2 := k1.push (.lst (.str sBOXES :: boxes.map .str))
  generalize h1.push (.lst (.str sBOXES :: boxes.map .str)) = h2 at a2 k2
  show wp _ _ (h2.push (.lst [AV.str (sROOM ++ 32 :: TL.numL room), AV.str (TL.joinL [32] (sBOXES :: boxes))]))
  have e2 : [AV.str (sROOM ++ 32 :: TL.numL room), AV.str (TL.joinL [32] (sBOXES :: boxes))] = [sROOM ++ 32 :: TL.numL room, boxTxt boxes].map AV.str := rfl
  rw [e2]
  have a3 := a2.push (.lst ([sROOM ++ 32 :: TL.numL room, boxTxt boxes].map AV.str))
  have k3 := k2.push (.lst ([sROOM ++ 32 :: TL.numL room, boxTxt boxes].map AV.str))
  have b3 : At 0 (h2.push (.lst ([sROOM ++ 32 :: TL.numL room, boxTxt boxes].map AV.str))) h2.n _ := At.new _ (Nat.zero_le _)
  generalize h2.push (.lst ([sROOM ++ 32 :: TL.numL room, boxTxt boxes].map AV.str)) = h3 at a3 k3 b3
  generalize h2.n = hd at b3
  simp only [List.set_cons_succ, List.set_cons_zero]
  refine newA_spec R (hF ▸ ok) ?_
  bv_omega
  refine wU_lst ?_ b3
  bv_omega
  refine wK_lst ?_ a3
  have ms : Src.most (.lst rr) h3 = (rows.map rowAV).length := by simp only [Src.most, a3.get]
  rw [ms]
  refine wp_lc_map (fun v => match v with | .tup xs => .str (TL.joinL [32] (xs.map wtxt)) | _ => .non) (by simp; omega) (fun h' kk => Src.is_lst (a3.kp kk (Nat.zero_le _))) ?_ ?_ rfl
  · intro i x h4 hx k4
    rw [List.getElem?_map] at hx
    obtain ⟨r, hr, rfl⟩ := Option.map_eq_some_iff.mp hx
    obtain ⟨form, okr⟩ := ok.rows r (List.mem_of_getElem? hr)
    have pl := okr.parts.len
    have few8 := okr.few
    bv_omega
    refine wK_tup ?_
    refine wp_lc_map (fun x => .str (wtxt x)) (by simp; omega) (fun _ _ => Src.is_fix _ _) ?_ ?_ rfl
    · intro j y h5 hy k5
      have hw : (∃ w, y = .str w) ∨ ∃ n : Nat, y = .int (n : Nat) ∧ n < 1000000000 := by
        rcases List.mem_cons.mp (List.mem_of_getElem? hy) with rfl | hm
        · exact .inl ⟨_, rfl⟩
        · exact okr.parts.words (by omega) (by omega) y hm
      rcases hw with ⟨w, rfl⟩ | ⟨n, rfl, hn⟩
      · bv_omega
        refine wF nofun nofun (wp_pure ?_)
        bv_omega
        exact ⟨Kp.refl _ _, rfl⟩
      · bv_omega
        refine wF_strI ?_ (by
          rw [Int.natAbs_natCast]
          rcases Nat.eq_zero_or_pos n with z | z
          · simp [z]
          · have : n.log2 < 30 := (Nat.log2_lt (by omega)).mpr (by omega)
            omega)
        bv_omega
        exact ⟨Kp.refl _ _, rfl⟩
    · intro h5 k5 a5
      have tx : ∀ p ∈ r.1 :: r.2.map wtxt, p.length ≤ 9 := fun p hp => by
        rcases List.mem_cons.mp hp with rfl | hp
        · exact Nat.le_succ_of_le okr.short
        · obtain ⟨x, hx, rfl⟩ := List.mem_map.mp hp
          exact (okr.parts.txt (by omega) (by omega) ok.names (s := 10) (by decide) x hx).2
      have sm := sum_le_mul tx
      simp only [List.length_cons, List.length_map] at sm
      have e1 : (AV.str r.1 :: r.2).map (fun x => AV.str (wtxt x)) = (r.1 :: r.2.map wtxt).map AV.str := by
        simp only [List.map_cons, List.map_map, Function.comp_def, wtxt]
      rw [e1] at a5
      bv_omega
      refine wm_join (ys := r.1 :: r.2.map wtxt) a5 (strsO_map _) (by simp only [List.length_cons, List.length_map, List.length_nil]; omega) ?_
      bv_omega
      exact ⟨k5, rfl⟩
  · intro h4 k4 a4
    have e3 : (rows.map rowAV).map (fun v => match v with | .tup xs => .str (TL.joinL [32] (xs.map wtxt)) | _ => .non) = (rows.map fun r => rowTxt r.1 r.2).map AV.str := by
      rw [List.map_map, List.map_map]
      exact List.map_congr_left fun r _ => rfl
    rw [e3] at a4
    refine wU_lst ?_ a4
    bv_omega
    have b4 := b3.kp k4 (Nat.le_refl _)
    refine ⟨?_, by simp; omega⟩
    have e4 : [sROOM ++ 32 :: TL.numL room, boxTxt boxes].map AV.str ++ ((rows.map fun r => rowTxt r.1 r.2).map AV.str ++ []) = (rdLines room boxes rows).map AV.str := by
      rw [List.append_nil, ← List.map_append]
      rfl
    rw [e4]
    have k5 := (k3.trans k4).push (.lst ((rdLines room boxes rows).map AV.str))
    have b5 : At 0 (h4.push (.lst ((rdLines room boxes rows).map AV.str))) h4.n _ := At.new _ (Nat.zero_le _)
    generalize h4.push (.lst ((rdLines room boxes rows).map AV.str)) = h5 at k5 b5
    generalize h4.n = hd5 at b5
    have ln := ok.txt.2
    have hb := (box_free ok.names ok.few).2.2
    have tx : ∀ p ∈ rdLines room boxes rows, p.length ≤ 2000 := fun p hp => by
      rcases List.mem_cons.mp hp with rfl | hp
      · simp; omega
      · rcases List.mem_cons.mp hp with rfl | hp
        · exact hb
        · obtain ⟨r, hr, rfl⟩ := List.mem_map.mp hp
          obtain ⟨form, ok'⟩ := ok.rows r hr
          have := (ok'.free ok.r1 (by omega) ok.names).2.2
          omega
    have sm := sum_le_mul tx
    have ll : (rdLines room boxes rows).length = rows.length + 2 := by simp [rdLines]
    bv_omega
    refine wm_join (ys := rdLines room boxes rows) b5 (strsO_map _) (by rw [ll] at sm ⊢; simp only [List.length_cons, List.length_nil]; omega) ?_
    refine ⟨rfl, fun h6 k6 r6 => ?_⟩
    bv_omega
    exact k _ _ k5.le (k5.trans k6) r6
end
end PM
end
section
set_option maxHeartbeats 400000
/-! PL16: rows with words exchanged. -/
namespace PM
open PySem
local macro_rules | `(tactic| array_get_dec) => `(tactic| repeat' (first
  | assumption
  | exact At.new _ (by first | exact Nat.zero_le _ | omega | (simp only [AH.n_push, AH.n_set]; omega))
  | refine At.push ?_ _
  | refine At.set (by assumption) _
  | refine At.set_ne ?_ _ (by first | assumption | omega | (simp only [AH.n_push, AH.n_set]; omega))
  | refine At.kp (by assumption) ?_ (by first | exact Nat.le_refl _ | exact Nat.zero_le _ | omega)))
local macro_rules | `(tactic| array_mem_dec) => `(tactic| with_reducible first
  | refine wS_seq ?_ | refine wS_asg ?_ | refine wS_par ?_ | refine wS_aug (by with_unfolding_all exact rfl) ?_ | refine wS_ex ?_ | refine wS_ret (by with_unfolding_all exact nofun) ?_ | refine wS_ret0 ?_ | refine wS_ife ?_ | refine wS_brk ?_ | refine wS_cnt ?_ | refine wS_pass ?_ | refine wS_done ?_ | refine wS_for ?_
  | refine seqK_nx ?_ | refine seqK_rt ?_ | refine seqK_bk ?_ | refine seqK_ct ?_ | refine retK_nx ?_ | refine retK_rt ?_ | refine forK_nx ?_ | refine forK_ct ?_ | refine forK_bk ?_ | refine forK_rt ?_
  | refine wE_v (by with_unfolding_all exact rfl) ?_ | refine wE_k ?_ | refine wE_bin ?_ | refine wE_neg ?_ | refine wE_not ?_ | refine wE_and ?_ | refine wE_or ?_ | refine wE_ite ?_ | refine wE_cmp ?_ | refine wE_chain ?_ | refine wE_call ?_ | refine wE_callK ?_ | refine wE_blt ?_ | refine wE_meth ?_ | refine wE_attr ?_ | refine wE_ix ?_ | refine wE_sl ?_ | refine wE_lst ?_ | refine wE_tup ?_ | refine wE_dic ?_ | refine wE_lc ?_
  | refine wA_nil ?_ | refine wA_cons ?_ | refine wA_star ?_
  | refine wT_not ?_ | refine wT_and ?_ | refine wT_or ?_ | refine wT_ite ?_ | refine wT_cmp ?_ | refine wT_chain ?_ | refine wT_no ?_ | refine wT_v (by with_unfolding_all exact rfl) ?_ | refine wT_call ?_ | refine wT_blt ?_ | refine wT_meth ?_ | refine wT_attr ?_ | refine wT_ix ?_
  | refine w_tru_bl ?_
  | refine wP_no ?_ | refine wP_k ?_ | refine wP_v (by with_unfolding_all exact rfl) ?_ | refine wP_neg ?_ | refine wP_bin ?_
  | refine wG_v ?_ | refine wG_tup ?_ | refine wG_attr ?_ | refine wG_ix ?_ | refine wGs_nil ?_ | refine wGs_cons ?_ | refine wU_tup ?_
  | refine wB_add ?_ | refine wB_sub ?_
  | refine wC_lt ?_ | refine wC_le ?_ | refine wC_gt ?_ | refine wC_ge ?_ | refine wC_eqs ?_ | refine wC_nes ?_ | refine wC_eqi ?_ | refine wC_nei ?_ | refine wC_is ?_ | refine wC_isn ?_ | refine wC_in ?_ | refine wC_nin ?_ | refine wN_str ?_
  | refine wF_lenT ?_ | refine wF_abs ?_ | refine wF_max ?_ | refine wF_min ?_ | refine wF_int ?_ | refine wF_intB ?_ | refine wF_tupT ?_ | refine wF_listT ?_ | refine wF_isin_str ?_ | refine wF_isin_int ?_
  | refine wL_tup ?_ | refine wM_str ?_
  | refine wp_pure ?_ | refine wp_bind ?_
  | refine and_len ?_ (by with_unfolding_all exact rfl) | refine par_ok (by with_unfolding_all exact rfl) ?_ | refine int_ok rfl ?_)
local macro_rules | `(tactic| bv_omega) => `(tactic| repeat (first | array_mem_dec | (with_reducible first | refine wp_if_t rfl ?_ | refine wp_if_f rfl ?_)))
local macro_rules | `(tactic| sizeOf_list_dec) => `(tactic| repeat array_mem_dec)
/-- the forms of the words of rows -/
def FT : List (List Nat × List Nat) := FORMS.filterMap fun kv => match kv with | (.str w, .str f) => some (w, f) | _ => none
theorem look_mem : ∀ {F : List (AV × AV)} {k v : AV}, look F k = some v → ∃ kv ∈ F, keyB kv.1 k = true ∧ kv.2 = v := by
  intro F k v e
  unfold look at e
  obtain ⟨kv, h1, h2⟩ := Option.map_eq_some_iff.mp e
  exact ⟨kv, List.mem_of_find?_eq_some h1, List.find?_some (p := fun kv : AV × AV => keyB kv.1 k) h1, h2⟩
theorem FT_of {kw form : List Nat} (e : look FORMS (.str kw) = some (.str form)) : (kw, form) ∈ FT := by
  obtain ⟨⟨a, b⟩, h1, h2, h3⟩ := look_mem e
  have hs : ∀ kv ∈ FORMS, ∃ w f, kv = (AV.str w, AV.str f) := by
    intro kv hk
    simp only [FORMS, List.mem_cons, List.not_mem_nil, or_false] at hk
    rcases hk with rfl | rfl | rfl | rfl | rfl | rfl | rfl | rfl | rfl | rfl | rfl | rfl | rfl | rfl | rfl <;> exact ⟨_, _, rfl⟩
  obtain ⟨w, f, e2⟩ := hs _ h1
  cases e2
  cases h3
  have e3 : w = kw := of_decide_eq_true (show decide (w = kw) = true from by simpa [keyB, keyE] using h2)
  subst e3
  exact List.mem_filterMap.mpr ⟨_, h1, rfl⟩
/-- words at parts of a kind exchanged -/
def chgK (c : Nat) (g : List Nat → List Nat) : List Nat → List AV → List AV
  | k :: ks, x :: xs => (if k = c then (match x with | .str w => .str (g w) | y => y) else x) :: chgK c g ks xs
  | _, xs => xs
def formOf (kw : List Nat) : List Nat := match look FORMS (.str kw) with
  | some (.str f) => f
  | _ => []
def chgR (c : Nat) (g : List Nat → List Nat) (r : List Nat × List AV) : List Nat × List AV := (r.1, chgK c g (formOf r.1) r.2)
theorem formOf_eq {kw form : List Nat} (e : look FORMS (.str kw) = some (.str form)) : formOf kw = form := by unfold formOf; rw [e]
theorem chgK_len {c : Nat} {g : List Nat → List Nat} : ∀ {ks : List Nat} {xs : List AV}, (chgK c g ks xs).length = xs.length
  | [], _ => rfl
  | _ :: _, [] => rfl
  | _ :: ks, _ :: xs => congrArg Nat.succ (chgK_len (ks := ks) (xs := xs))
theorem chgK_get {c : Nat} {g : List Nat → List Nat} : ∀ {ks : List Nat} {xs : List AV} {j : Nat}, xs.length = ks.length → (chgK c g ks xs)[j]? = (xs[j]?).map fun x => if ks[j]? = some c then (match x with | .str w => .str (g w) | y => y) else x
  | [], [], _, _ => by simp [chgK]
  | k :: ks, x :: xs, 0, _ => by
    show some _ = some _
    congr 1
    simp
  | k :: ks, x :: xs, j + 1, h => by
    have := chgK_get (c := c) (g := g) (ks := ks) (xs := xs) (j := j) (by simpa using h)
    simpa [chgK] using this
theorem PartsOk.box {room many : Nat} {boxes : List (List Nat)} (g : List Nat → List Nat) : ∀ {ks : List Nat} {xs : List AV}, PartsOk room boxes many ks xs → PartsOk room (boxes.map g) many ks (chgK 66 g ks xs)
  | _, _, .nil => .nil
  | _, _, .cons h r => by
    refine .cons ?_ (PartsOk.box g r)
    cases h with
    | n h => exact .n h
    | b h => exact .b (List.mem_map.mpr ⟨_, h, rfl⟩)
    | q h => exact .q h
    | l h => exact .l h
    | k h => exact .k h
theorem PartsOk.name {room many : Nat} {boxes : List (List Nat)} {g : List Nat → List Nat} (hg : ∀ w, NameOk w → NameOk (g w)) : ∀ {ks : List Nat} {xs : List AV}, PartsOk room boxes many ks xs → PartsOk room boxes many ks (chgK 78 g ks xs)
  | _, _, .nil => .nil
  | _, _, .cons h r => by
    refine .cons ?_ (PartsOk.name hg r)
    cases h with
    | n h => exact .n (hg _ h)
    | b h => exact .b h
    | q h => exact .q h
    | l h => exact .l h
    | k h => exact .k h
theorem RdOk.box {room : Nat} {boxes : List (List Nat)} {rows : List (List Nat × List AV)} (R : RdOk FORMS room boxes rows) (g : List Nat → List Nat) (hn : ∀ w ∈ boxes, NameOk (g w)) (nd : (boxes.map g).Nodup) : RdOk FORMS room (boxes.map g) (rows.map (chgR 66 g)) where
  r0 := R.r0
  r1 := R.r1
  names := fun w hw => by
    obtain ⟨u, hu, rfl⟩ := List.mem_map.mp hw
    exact hn u hu
  few := by rw [List.length_map]; exact R.few
  nd := nd
  some_ := by rw [List.length_map]; exact R.some_
  most := by rw [List.length_map]; exact R.most
  rows := fun r hr => by
    obtain ⟨q, hq, rfl⟩ := List.mem_map.mp hr
    obtain ⟨form, ok⟩ := R.rows q hq
    refine ⟨form, ok.look_, ok.few, ok.plain, ok.word, ok.short, ?_⟩
    show PartsOk room (boxes.map g) (rows.map (chgR 66 g)).length form (chgK 66 g (formOf q.1) q.2)
    rw [formOf_eq ok.look_, List.length_map]
    exact ok.parts.box g
theorem RdOk.name {room : Nat} {boxes : List (List Nat)} {rows : List (List Nat × List AV)} (R : RdOk FORMS room boxes rows) {g : List Nat → List Nat} (hg : ∀ w, NameOk w → NameOk (g w)) : RdOk FORMS room boxes (rows.map (chgR 78 g)) where
  r0 := R.r0
  r1 := R.r1
  names := R.names
  few := R.few
  nd := R.nd
  some_ := by rw [List.length_map]; exact R.some_
  most := by rw [List.length_map]; exact R.most
  rows := fun r hr => by
    obtain ⟨q, hq, rfl⟩ := List.mem_map.mp hr
    obtain ⟨form, ok⟩ := R.rows q hq
    refine ⟨form, ok.look_, ok.few, ok.plain, ok.word, ok.short, ?_⟩
    show PartsOk room boxes (rows.map (chgR 78 g)).length form (chgK 78 g (formOf q.1) q.2)
    rw [formOf_eq ok.look_, List.length_map]
    exact ok.parts.name hg
/-- the places of a kind in a row -/
def posn (c : Nat) : Nat → List Nat → List Nat
  | _, [] => []
  | n, k :: ks => if k = c then n :: posn c (n + 1) ks else posn c (n + 1) ks
theorem mem_posn {c i : Nat} : ∀ {ks : List Nat} {n : Nat}, i ∈ posn c n ks ↔ ∃ j, i = n + j ∧ ks[j]? = some c
  | [], n => by simp [posn]
  | k :: ks, n => by
    have ih := mem_posn (c := c) (i := i) (ks := ks) (n := n + 1)
    unfold posn
    by_cases h : k = c
    · rw [if_pos h, List.mem_cons, ih]
      constructor
      · rintro (rfl | ⟨j, rfl, e⟩)
        · exact ⟨0, rfl, by simp [h]⟩
        · exact ⟨j + 1, by omega, by simpa using e⟩
      · rintro ⟨j, rfl, e⟩
        cases j with
        | zero => exact .inl rfl
        | succ j => exact .inr ⟨j, by omega, by simpa using e⟩
    · rw [if_neg h, ih]
      constructor
      · rintro ⟨j, rfl, e⟩
        exact ⟨j + 1, by omega, by simpa using e⟩
      · rintro ⟨j, rfl, e⟩
        cases j with
        | zero => exact absurd (by simpa using e) h
        | succ j => exact ⟨j, by omega, by simpa using e⟩
/-- a row's words by their places -/
theorem chg_idx {c : Nat} {g : List Nat → List Nat} {kvs : List (AV × AV)} {kw : List Nat} {ks : List Nat} {xs : List AV} (hl : xs.length = ks.length) (hg : ∀ w, (look kvs (.str w)).getD (.str w) = .str (g w)) (hx : ∀ (j : Nat) (x : AV), ks[j]? = some c → xs[j]? = some x → ∃ w, x = AV.str w) :
    (AV.str kw :: xs).mapIdx (fun i x => if i ∈ posn c 1 ks then (look kvs x).getD x else x) = .str kw :: chgK c g ks xs := by
  apply List.ext_getElem?
  intro j
  rw [List.getElem?_mapIdx]
  cases j with
  | zero =>
    have : 0 ∉ posn c 1 ks := fun h => by
      obtain ⟨j, e, _⟩ := mem_posn.mp h
      omega
    simp [this]
  | succ j =>
    rw [List.getElem?_cons_succ, List.getElem?_cons_succ, chgK_get hl]
    cases e : xs[j]? with
    | none => rfl
    | some x =>
      show some _ = some _
      congr 1
      dsimp only
      by_cases hc : ks[j]? = some c
      · rw [if_pos (mem_posn.mpr ⟨j, by omega, hc⟩), if_pos hc]
        obtain ⟨w, rfl⟩ := hx j x hc e
        exact hg w
      · rw [if_neg (fun h => hc (by
          obtain ⟨i, e1, e2⟩ := mem_posn.mp h
          rw [show j = i by omega]
          exact e2)), if_neg hc]
end PM
end
section
set_option maxHeartbeats 400000
/-! PL17: boxes named anew (the program). -/
namespace PM
open PySem
local macro_rules | `(tactic| array_get_dec) => `(tactic| repeat' (first
  | assumption
  | exact At.new _ (by first | exact Nat.zero_le _ | omega | (simp only [AH.n_push, AH.n_set]; omega))
  | refine At.push ?_ _
  | refine At.set (by assumption) _
  | refine At.set_ne ?_ _ (by first | assumption | omega | (simp only [AH.n_push, AH.n_set]; omega))
  | refine At.kp (by assumption) ?_ (by first | exact Nat.le_refl _ | exact Nat.zero_le _ | omega)))
local macro_rules | `(tactic| array_mem_dec) => `(tactic| with_reducible first
  | refine wS_seq ?_ | refine wS_asg ?_ | refine wS_par ?_ | refine wS_aug (by with_unfolding_all exact rfl) ?_ | refine wS_ex ?_ | refine wS_ret (by with_unfolding_all exact nofun) ?_ | refine wS_ret0 ?_ | refine wS_ife ?_ | refine wS_brk ?_ | refine wS_cnt ?_ | refine wS_pass ?_ | refine wS_done ?_ | refine wS_for ?_
  | refine seqK_nx ?_ | refine seqK_rt ?_ | refine seqK_bk ?_ | refine seqK_ct ?_ | refine retK_nx ?_ | refine retK_rt ?_ | refine forK_nx ?_ | refine forK_ct ?_ | refine forK_bk ?_ | refine forK_rt ?_
  | refine wE_v (by with_unfolding_all exact rfl) ?_ | refine wE_k ?_ | refine wE_bin ?_ | refine wE_neg ?_ | refine wE_not ?_ | refine wE_and ?_ | refine wE_or ?_ | refine wE_ite ?_ | refine wE_cmp ?_ | refine wE_chain ?_ | refine wE_call ?_ | refine wE_callK ?_ | refine wE_blt ?_ | refine wE_meth ?_ | refine wE_attr ?_ | refine wE_ix ?_ | refine wE_sl ?_ | refine wE_lst ?_ | refine wE_tup ?_ | refine wE_dic ?_ | refine wE_lc ?_
  | refine wA_nil ?_ | refine wA_cons ?_ | refine wA_star ?_
  | refine wT_not ?_ | refine wT_and ?_ | refine wT_or ?_ | refine wT_ite ?_ | refine wT_cmp ?_ | refine wT_chain ?_ | refine wT_no ?_ | refine wT_v (by with_unfolding_all exact rfl) ?_ | refine wT_call ?_ | refine wT_blt ?_ | refine wT_meth ?_ | refine wT_attr ?_ | refine wT_ix ?_
  | refine w_tru_bl ?_
  | refine wP_no ?_ | refine wP_k ?_ | refine wP_v (by with_unfolding_all exact rfl) ?_ | refine wP_neg ?_ | refine wP_bin ?_
  | refine wG_v ?_ | refine wG_tup ?_ | refine wG_attr ?_ | refine wG_ix ?_ | refine wGs_nil ?_ | refine wGs_cons ?_ | refine wU_tup ?_
  | refine wB_add ?_ | refine wB_sub ?_
  | refine wC_lt ?_ | refine wC_le ?_ | refine wC_gt ?_ | refine wC_ge ?_ | refine wC_eqs ?_ | refine wC_nes ?_ | refine wC_eqi ?_ | refine wC_nei ?_ | refine wC_is ?_ | refine wC_isn ?_ | refine wC_in ?_ | refine wC_nin ?_ | refine wN_str ?_
  | refine wF_lenT ?_ | refine wF_abs ?_ | refine wF_max ?_ | refine wF_min ?_ | refine wF_int ?_ | refine wF_intB ?_ | refine wF_tupT ?_ | refine wF_listT ?_ | refine wF_isin_str ?_ | refine wF_isin_int ?_
  | refine wL_tup ?_ | refine wM_str ?_
  | refine wp_pure ?_ | refine wp_bind ?_
  | refine and_len ?_ (by with_unfolding_all exact rfl) | refine par_ok (by with_unfolding_all exact rfl) ?_ | refine int_ok rfl ?_)
local macro_rules | `(tactic| bv_omega) => `(tactic| repeat (first | array_mem_dec | (with_reducible first | refine wp_if_t rfl ?_ | refine wp_if_f rfl ?_)))
local macro_rules | `(tactic| sizeOf_list_dec) => `(tactic| repeat array_mem_dec)
-- row, names, kind, part
def B_with_boxes_named (g_0 : Nat) : S := (.seq (.ret (.tup (.cons (.ix (.v 0) (.k (.int 0))) (.star (.lc (.ite (.cmp .Eq (.v 2) (.k (.str [66]))) (.ix (.v 1) (.v 3)) (.v 3)) (.tup (.cons (.v 3) (.cons (.v 2) .nil))) .zip (.cons (.sl (.v 0) (.k (.int 1)) .no) (.cons (.ix (.k (.gdc g_0)) (.ix (.v 0) (.k (.int 0)))) .nil)) .no [3, 2]) .nil)))) .done)
abbrev F_with_boxes_named (g_0 : Nat) : Fn := ⟨2, 4, B_with_boxes_named g_0⟩
-- reader, names, exchanged, name, new, old, row
def B_renamed (a_boxes f_is_name f_reader_of_rows a_room f_with_boxes_named a_rows : Nat) : S := (.seq (.ife (.or (.not (.blt .isinstance (.cons (.v 1) (.cons (.k (.ty "tuple")) .nil)))) (.or (.cmp .NotEq (.blt .len (.cons (.v 1) .nil)) (.blt .len (.cons (.attr (.v 0) a_boxes) .nil))) (.not (.blt .all (.cons (.lc (.call f_is_name (.cons (.v 3) .nil)) (.v 3) .self (.cons (.v 1) .nil) .no [3]) .nil))))) (.seq (.raise 0 .nil) .done) .done) (.seq (.ife (.cmp .Lt (.blt .setlen (.cons (.v 1) .nil)) (.blt .len (.cons (.v 1) .nil))) (.seq (.raise 0 .nil) .done) .done) (.seq (.asg (.v 2) (.blt .dict (.cons (.lc (.tup (.cons (.v 5) (.cons (.v 4) .nil))) (.tup (.cons (.v 5) (.cons (.v 4) .nil))) .zip (.cons (.attr (.v 0) a_boxes) (.cons (.v 1) .nil)) .no [5, 4]) .nil))) (.seq (.ret (.call f_reader_of_rows (.cons (.attr (.v 0) a_room) (.cons (.v 1) (.cons (.lc (.call f_with_boxes_named (.cons (.v 6) (.cons (.v 2) .nil))) (.v 6) .self (.cons (.attr (.v 0) a_rows) .nil) .no [6]) .nil))))) .done))))
abbrev F_renamed (a_boxes f_is_name f_reader_of_rows a_room f_with_boxes_named a_rows : Nat) : Fn := ⟨2, 7, B_renamed a_boxes f_is_name f_reader_of_rows a_room f_with_boxes_named a_rows⟩
def isB (v : AV) : Bool := match v with
  | .str [c] => decide (c = 66)
  | _ => false
def chgP (g : List Nat → List Nat) (v : AV) : AV := match v with
  | .tup [x, y] => if isB y then (match x with | .str w => .str (g w) | y => y) else x
  | _ => .non
theorem chgK_zip {g : List Nat → List Nat} : ∀ {ks : List Nat} {xs : List AV}, xs.length = ks.length →
    ((xs.zip (ks.map fun c => AV.str [c])).map fun p => AV.tup [p.1, p.2]).map (chgP g) = chgK 66 g ks xs
  | [], [], _ => rfl
  | k :: ks, x :: xs, h => by
    have := chgK_zip (g := g) (ks := ks) (xs := xs) (by simpa using h)
    simp only [List.map_cons, List.zip_cons_cons, chgK]
    rw [this]
    congr 1
    by_cases e : k = 66
    · subst e; rfl
    · rw [if_neg e]
      simp [chgP, isB, e]
/-- a dict of texts -/
def dS (v : List Nat → AV) (ws : List (List Nat)) : List (AV × AV) := ws.map fun w => (.str w, v w)
theorem keyB_str {u w : List Nat} : keyB (.str u) (.str w) = decide (u = w) := by
  simp [keyB, keyE]
theorem look_dS {v : List Nat → AV} {w : List Nat} : ∀ {ws : List (List Nat)}, look (dS v ws) (.str w) = if w ∈ ws then some (v w) else none
  | [] => rfl
  | u :: ws => by
    have ih := look_dS (v := v) (w := w) (ws := ws)
    unfold look dS at ih ⊢
    rw [List.map_cons, List.find?_cons, keyB_str]
    by_cases e : u = w
    · subst e; simp
    · rw [decide_eq_false e]
      rw [ih]
      by_cases h : w ∈ ws
      · rw [if_pos h, if_pos (List.mem_cons_of_mem _ h)]
      · rw [if_neg h, if_neg (fun z => (List.mem_cons.mp z).elim (fun q => e q.symm) h)]
theorem any_dS {v : List Nat → AV} {w : List Nat} : ∀ {ws : List (List Nat)}, w ∉ ws → ((dS v ws).any fun kv => keyB kv.1 (.str w)) = false
  | [], _ => rfl
  | u :: ws, h => by
    unfold dS
    rw [List.map_cons, List.any_cons, keyB_str, decide_eq_false (fun z : u = w => h (by rw [z]; exact List.mem_cons_self ..)), Bool.false_or]
    exact any_dS (v := v) fun z => h (List.mem_cons_of_mem _ z)
theorem putAll_dS {v : List Nat → AV} : ∀ {ws us : List (List Nat)}, (us ++ ws).Nodup → putAll (dS v us) (dS v ws) = dS v (us ++ ws)
  | [], us, _ => by simp [putAll, dS]
  | w :: ws, us, h => by
    have hw : w ∉ us := fun z => by
      rw [List.nodup_append] at h
      exact h.2.2 w z w List.mem_cons_self rfl
    show putAll (put (dS v us) (.str w) (v w)) (dS v ws) = _
    unfold put
    rw [if_neg (by rw [any_dS hw]; exact Bool.false_ne_true)]
    have := putAll_dS (v := v) (ws := ws) (us := us ++ [w]) (by simpa using h)
    rw [show dS v us ++ [(AV.str w, v w)] = dS v (us ++ [w]) by simp [dS]]
    rw [this]
    simp
theorem keys_dS {v : List Nat → AV} : ∀ {ws : List (List Nat)}, ((dS v ws).all fun kv => keyF kv.1) = true
  | [] => rfl
  | _ :: ws => keys_dS (v := v) (ws := ws)
theorem keyOk_dS {v : List Nat → AV} {ws : List (List Nat)} {w : List Nat} : keyOk (dS v ws) (.str w) = true := by
  unfold keyOk
  rw [keys_dS]
  rfl
theorem pairs_dS {v : List Nat → AV} : ∀ {ws : List (List Nat)}, pairsO (ws.map fun w => .tup [.str w, v w]) = some (dS v ws)
  | [] => rfl
  | w :: ws => by
    show (pairsO (ws.map fun w => .tup [.str w, v w])).map ((AV.str w, v w) :: ·) = _
    rw [pairs_dS]
    rfl
theorem zip_two {α : Type} (f g : α → AV) : ∀ L : List α, ((L.map f).zip (L.map g)).map (fun p => AV.tup [p.1, p.2]) = L.map fun e => .tup [f e, g e]
  | [] => rfl
  | e :: L => by simp only [List.map_cons, List.zip_cons_cons, zip_two f g L]
section
variable {P : Pg} {d f : Nat} {h : AH} {Q : AV → AH → Prop}
theorem with_boxes_named_spec (R : Rd P) (hgd : P.gd R.g = some FORMS) (hf : P.fn f = some (F_with_boxes_named R.g)) {room many b nd : Nat} {boxes : List (List Nat)} {kvs : List (AV × AV)} {kw form : List Nat} {parts : List AV} (ok : RowOk FORMS room boxes many kw form parts) {g : List Nat → List Nat}
    (a : At b h nd (.dic kvs)) (hk : ∀ w, keyOk kvs (.str w) = true) (hg : ∀ w ∈ boxes, look kvs (.str w) = some (.str (g w))) (k : ∀ h', Kx h h' → Q (rowAV (chgR 66 g (kw, parts))) h') :
    wp (callF P (d + 1) f [.tup (.str kw :: parts), .ref nd]) Q h := by
  have few := ok.few
  have pl := ok.parts.len
  refine w_call hf rfl ?_
  show wp (evS P (callF P d) (B_with_boxes_named R.g) [some (.tup (.str kw :: parts)), some (.ref nd), none, none]) _ _
  unfold B_with_boxes_named
  bv_omega
  refine wX_tup atI_0 ?_
  bv_omega
  rw [cut_tail, List.drop_one, List.tail_cons]
  refine wX_tup atI_0 ?_
  refine wX_gdc hgd rfl ok.look_ ?_
  bv_omega
  refine wK_zipTS ?_
  have most : Src.most (.zipG (.fix parts) (.fix (form.map fun c => .str [c]))) h = ((parts.zip (form.map fun c => AV.str [c])).map fun p => AV.tup [p.1, p.2]).length := by
    simp only [Src.most, List.length_map, List.length_zip]
  rw [most]
  refine wp_lc_map (chgP g) (by simp; omega) (fun _ _ => Src.is_zipG (Src.is_fix _ _) (Src.is_fix _ _)) ?_ ?_ rfl
  · intro i x h3 hx k3
    rw [List.getElem?_map] at hx
    obtain ⟨⟨u, v⟩, hz, rfl⟩ := Option.map_eq_some_iff.mp hx
    rw [List.getElem?_zip_eq_some] at hz
    obtain ⟨hz1, hz2⟩ := hz
    simp only [List.getElem?_map, Option.map_eq_some_iff] at hz2
    obtain ⟨c, hc, hv⟩ := hz2
    have ok' := ok.parts.get hc hz1
    subst hv
    bv_omega
    cases ok' with
    | b h1 =>
      bv_omega
      refine wX_dic (a.kp k3 (Nat.zero_le _)) (hk _) (hg _ h1) ?_
      bv_omega
      exact ⟨Kp.refl _ _, rfl⟩
    | n h1 => bv_omega; exact ⟨Kp.refl _ _, rfl⟩
    | q h1 => bv_omega; exact ⟨Kp.refl _ _, rfl⟩
    | l h1 => bv_omega; exact ⟨Kp.refl _ _, rfl⟩
    | k h1 => bv_omega; exact ⟨Kp.refl _ _, rfl⟩
  · intro h3 k3 a3
    rw [chgK_zip pl] at a3
    refine wU_lst ?_ a3
    bv_omega
    refine ⟨?_, by simp [chgK_len]; omega⟩
    bv_omega
    have := k _ k3
    rw [show rowAV (chgR 66 g (kw, parts)) = AV.tup (.str kw :: chgK 66 g form parts) by unfold chgR; rw [formOf_eq ok.look_]; rfl] at this
    simpa using this
theorem renamed_spec (R : Rd P) (hF : R.F = FORMS) (hgd : P.gd R.g = some FORMS) {fw fr : Nat} (hw : P.fn fw = some (F_with_boxes_named R.g)) (hr : P.fn fr = some (F_reader_of_rows R.c)) (hf : P.fn f = some (F_renamed R.pBoxes R.isName fr R.pRoom fw R.pRows)) {b self room : Nat} {boxes : List (List Nat)} {rows : List (List Nat × List AV)}
    (ok : RdOk FORMS room boxes rows) (a : IsRd R b h self room boxes rows) {g : List Nat → List Nat} (hn : ∀ w ∈ boxes, NameOk (g w)) (nd : (boxes.map g).Nodup)
    (k : ∀ s' h', h.n ≤ s' → Kx h h' → IsRd R 0 h' s' room (boxes.map g) (rows.map (chgR 66 g)) → Q (.ref s') h') : wp (callF P (d + 7) f [.ref self, .tup ((boxes.map g).map .str)]) Q h := by
  have few := ok.few
  have most := ok.most
  refine w_call hf rfl ?_
  show wp (evS P (callF P (d + 6)) (B_renamed R.pBoxes R.isName fr R.pRoom fw R.pRows) [some (.ref self), some (.tup ((boxes.map g).map .str)), none, none, none, none, none]) _ _
  unfold B_renamed
  bv_omega
  have isT : ∀ {Q : AV → AH → Prop} {xs : List AV} {h : AH}, Q (.bl true) h → wp (bltB P (callF P (d + 6)) .isinstance [.tup xs, .ty "tuple"]) Q h := fun {Q xs h} q => wF_isin (t := "tuple") (by decide) rfl rfl (by rw [show isTy "tuple" "tuple" = true by decide]; exact q)
  refine isT ?_
  bv_omega
  refine rd_boxes R a ?_
  bv_omega
  refine wp_if_f (by simp) ?_
  bv_omega
  refine wK_tup ?_
  refine wp_lc_map (fun _ => .bl true) (by simp; omega) (fun _ _ => Src.is_fix _ _) ?_ ?_ rfl
  · intro i x h' hx kk
    rw [List.getElem?_map] at hx
    obtain ⟨w, hw', rfl⟩ := Option.map_eq_some_iff.mp hx
    obtain ⟨u, hu, rfl⟩ := List.mem_map.mp (List.mem_of_getElem? hw')
    have wok := hn u hu
    bv_omega
    refine is_name_spec R.h_isName (by have := wok.l1; omega) fun h2 k2 => ?_
    rw [nameB_ok wok]
    bv_omega
    exact ⟨k2, rfl⟩
  intro h1 k1 a2
  bv_omega
  refine wF_all a2 (i := List.replicate boxes.length true) (by rw [map_const_bl, bls_map]; simp) ?_
  rw [all_replicate]
  bv_omega
  refine wF (by nofun) (by nofun) (wp_bind (wp_ofO (a := boxes.map g) (wp_bind (wp_guard (wp_pure ?_) (by simp; omega))) (strsO_map _)))
  rw [foldl_addL (acc := []) (by simpa using nd), List.nil_append]
  bv_omega
  refine wp_if_f (decide_eq_false (by simp)) ?_
  bv_omega
  have a1 := a.kp k1 (Nat.zero_le _)
  refine rd_boxes R a1 ?_
  bv_omega
  refine wK_zipTT ?_
  have e0 : (boxes.map g).map AV.str = boxes.map fun w => AV.str (g w) := by rw [List.map_map]; rfl
  have most : Src.most (.zip (.fix (boxes.map .str)) (.fix ((boxes.map g).map .str))) h1 = (boxes.map fun w => AV.tup [.str w, .str (g w)]).length := by
    simp only [Src.most, List.length_map, Nat.min_self]
  rw [most]
  have isz : ∀ h', (Src.zip (.fix (boxes.map .str)) (.fix ((boxes.map g).map .str))).Is h' (boxes.map fun w => AV.tup [.str w, .str (g w)]) := fun h' => by
    have := Src.is_zip (Src.is_fix (boxes.map AV.str) h') (Src.is_fix ((boxes.map g).map AV.str) h')
    rw [e0, zip_two AV.str (fun w => AV.str (g w))] at this
    rw [e0]
    exact this
  refine wp_lc_map id (by simp; omega) (fun h' _ => isz h') ?_ ?_ rfl
  · intro i x h' hx kk
    rw [List.getElem?_map] at hx
    obtain ⟨w, hw', rfl⟩ := Option.map_eq_some_iff.mp hx
    bv_omega
    exact ⟨Kp.refl _ _, rfl⟩
  intro h2 k2 a3
  rw [List.map_id] at a3
  bv_omega
  refine wF_dict a3 (ps := dS (fun w => .str (g w)) boxes) pairs_dS keys_dS ?_
  have e1 := putAll_dS (v := fun w => AV.str (g w)) (ws := boxes) (us := []) (by simpa using ok.nd)
  rw [show dS (fun w => AV.str (g w)) [] = [] from rfl, List.nil_append] at e1
  rw [e1]
  have a4 := a1.kp (k2.push (.dic (dS (fun w => .str (g w)) boxes))) (Nat.zero_le _)
  have k4 := (k1.trans k2).push (.dic (dS (fun w => .str (g w)) boxes))
  have ad : At 0 (h2.push (.dic (dS (fun w => .str (g w)) boxes))) h2.n _ := At.new _ (Nat.zero_le _)
  generalize h2.push (.dic (dS (fun w => .str (g w)) boxes)) = h3 at a4 k4 ad
  generalize h2.n = nd' at ad
  bv_omega
  refine rd_room R a4 ?_
  bv_omega
  refine rd_rows R a4 ?_
  bv_omega
  refine wK_tup ?_
  refine wp_lc_map (fun v => match v with | .tup (.str kw :: xs) => rowAV (chgR 66 g (kw, xs)) | _ => .non) (by simp; omega) (fun _ _ => Src.is_fix _ _) ?_ ?_ rfl
  · intro i x h' hx kk
    rw [List.getElem?_map] at hx
    obtain ⟨r, hr', rfl⟩ := Option.map_eq_some_iff.mp hx
    obtain ⟨form, okr⟩ := ok.rows r (List.mem_of_getElem? hr')
    bv_omega
    refine with_boxes_named_spec R hgd hw okr (ad.kp kk (Nat.zero_le _)) (fun w => keyOk_dS) (fun w hw' => by rw [look_dS, if_pos hw']) fun h5 k5 => ?_
    bv_omega
    exact ⟨k5, rfl⟩
  intro h5 k5 a5
  have e6 : (rows.map rowAV).map (fun v => match v with | .tup (.str kw :: xs) => rowAV (chgR 66 g (kw, xs)) | _ => .non) = (rows.map (chgR 66 g)).map rowAV := by
    rw [List.map_map, List.map_map]
    exact List.map_congr_left fun r _ => rfl
  rw [e6] at a5
  bv_omega
  refine reader_of_rows_spec R hr hF (ok.box g hn nd) a5 fun s' h6 l6 k6 r6 => ?_
  bv_omega
  exact k _ _ (Nat.le_trans (k4.trans k5).le l6) ((k4.trans k5).trans k6) r6
end
end PM
end
section
set_option maxHeartbeats 400000
/-! PL18: readers turned (the program). -/
namespace PM
open PySem
local macro_rules | `(tactic| array_get_dec) => `(tactic| repeat' (first
  | assumption
  | exact At.new _ (by first | exact Nat.zero_le _ | omega | (simp only [AH.n_push, AH.n_set]; omega))
  | refine At.push ?_ _
  | refine At.set (by assumption) _
  | refine At.set_ne ?_ _ (by first | assumption | omega | (simp only [AH.n_push, AH.n_set]; omega))
  | refine At.kp (by assumption) ?_ (by first | exact Nat.le_refl _ | exact Nat.zero_le _ | omega)))
local macro_rules | `(tactic| array_mem_dec) => `(tactic| with_reducible first
  | refine wS_seq ?_ | refine wS_asg ?_ | refine wS_par ?_ | refine wS_aug (by with_unfolding_all exact rfl) ?_ | refine wS_ex ?_ | refine wS_ret (by with_unfolding_all exact nofun) ?_ | refine wS_ret0 ?_ | refine wS_ife ?_ | refine wS_brk ?_ | refine wS_cnt ?_ | refine wS_pass ?_ | refine wS_done ?_ | refine wS_for ?_
  | refine seqK_nx ?_ | refine seqK_rt ?_ | refine seqK_bk ?_ | refine seqK_ct ?_ | refine retK_nx ?_ | refine retK_rt ?_ | refine forK_nx ?_ | refine forK_ct ?_ | refine forK_bk ?_ | refine forK_rt ?_
  | refine wE_v (by with_unfolding_all exact rfl) ?_ | refine wE_k ?_ | refine wE_bin ?_ | refine wE_neg ?_ | refine wE_not ?_ | refine wE_and ?_ | refine wE_or ?_ | refine wE_ite ?_ | refine wE_cmp ?_ | refine wE_chain ?_ | refine wE_call ?_ | refine wE_callK ?_ | refine wE_blt ?_ | refine wE_meth ?_ | refine wE_attr ?_ | refine wE_ix ?_ | refine wE_sl ?_ | refine wE_lst ?_ | refine wE_tup ?_ | refine wE_dic ?_ | refine wE_lc ?_
  | refine wA_nil ?_ | refine wA_cons ?_ | refine wA_star ?_
  | refine wT_not ?_ | refine wT_and ?_ | refine wT_or ?_ | refine wT_ite ?_ | refine wT_cmp ?_ | refine wT_chain ?_ | refine wT_no ?_ | refine wT_v (by with_unfolding_all exact rfl) ?_ | refine wT_call ?_ | refine wT_blt ?_ | refine wT_meth ?_ | refine wT_attr ?_ | refine wT_ix ?_
  | refine w_tru_bl ?_
  | refine wP_no ?_ | refine wP_k ?_ | refine wP_v (by with_unfolding_all exact rfl) ?_ | refine wP_neg ?_ | refine wP_bin ?_
  | refine wG_v ?_ | refine wG_tup ?_ | refine wG_attr ?_ | refine wG_ix ?_ | refine wGs_nil ?_ | refine wGs_cons ?_ | refine wU_tup ?_
  | refine wB_add ?_ | refine wB_sub ?_
  | refine wC_lt ?_ | refine wC_le ?_ | refine wC_gt ?_ | refine wC_ge ?_ | refine wC_eqs ?_ | refine wC_nes ?_ | refine wC_eqi ?_ | refine wC_nei ?_ | refine wC_is ?_ | refine wC_isn ?_ | refine wC_in ?_ | refine wC_nin ?_ | refine wN_str ?_
  | refine wF_lenT ?_ | refine wF_abs ?_ | refine wF_max ?_ | refine wF_min ?_ | refine wF_int ?_ | refine wF_intB ?_ | refine wF_tupT ?_ | refine wF_listT ?_ | refine wF_isin_str ?_ | refine wF_isin_int ?_
  | refine wL_tup ?_ | refine wM_str ?_
  | refine wp_pure ?_ | refine wp_bind ?_
  | refine and_len ?_ (by with_unfolding_all exact rfl) | refine par_ok (by with_unfolding_all exact rfl) ?_ | refine int_ok rfl ?_)
local macro_rules | `(tactic| bv_omega) => `(tactic| repeat (first | array_mem_dec | (with_reducible first | refine wp_if_t rfl ?_ | refine wp_if_f rfl ?_)))
local macro_rules | `(tactic| sizeOf_list_dec) => `(tactic| repeat array_mem_dec)
-- reader, rows, row
def B_turned (a_rows f_reader_of_rows a_room a_boxes : Nat) : S := (.seq (.asg (.v 1) (.lst .nil)) (.seq (.for_ (.v 2) .self (.cons (.attr (.v 0) a_rows) .nil) (.seq (.ex (.meth (.v 1) 0 (.cons (.ite (.cmp .Eq (.ix (.v 2) (.k (.int 0))) (.k (.str [97, 114, 114, 111, 119]))) (.tup (.cons (.ix (.v 2) (.k (.int 0))) (.cons (.ix (.v 2) (.k (.int 1))) (.cons (.ix (.v 2) (.k (.int 3))) (.cons (.ix (.v 2) (.k (.int 2))) (.cons (.ix (.v 2) (.k (.int 4))) .nil)))))) (.v 2)) .nil))) .done)) (.seq (.ret (.call f_reader_of_rows (.cons (.attr (.v 0) a_room) (.cons (.attr (.v 0) a_boxes) (.cons (.v 1) .nil))))) .done)))
abbrev F_turned (a_rows f_reader_of_rows a_room a_boxes : Nat) : Fn := ⟨1, 3, B_turned a_rows f_reader_of_rows a_room a_boxes⟩
abbrev sARROW : List Nat := [97, 114, 114, 111, 119]
/-- a row of an arrow, the other way -/
def turnR (r : List Nat × List AV) : List Nat × List AV := if r.1 = sARROW then (match r.2 with | [n, x, y, l] => (r.1, [n, y, x, l]) | _ => r) else r
theorem arrow_parts {room many : Nat} {boxes : List (List Nat)} {form : List Nat} {parts : List AV} (ok : RowOk FORMS room boxes many sARROW form parts) : ∃ n x y l : AV, parts = [n, x, y, l] ∧ form = [78, 66, 66, 76] ∧ PartOk room boxes many 78 n ∧ PartOk room boxes many 66 x ∧ PartOk room boxes many 66 y ∧ PartOk room boxes many 76 l := by
  have e : look FORMS (.str sARROW) = some (.str [78, 66, 66, 76]) := rfl
  have h := ok.look_
  rw [e] at h
  injection h with h
  injection h with h
  subst h
  have p := ok.parts
  rcases p with _ | ⟨h1, _ | ⟨h2, _ | ⟨h3, _ | ⟨h4, _ | _⟩⟩⟩⟩
  exact ⟨_, _, _, _, rfl, rfl, h1, h2, h3, h4⟩
theorem turnR_ok {room many : Nat} {boxes : List (List Nat)} {r : List Nat × List AV} {form : List Nat} (ok : RowOk FORMS room boxes many r.1 form r.2) : RowOk FORMS room boxes many (turnR r).1 form (turnR r).2 := by
  unfold turnR
  by_cases h : r.1 = sARROW
  · rw [if_pos h]
    obtain ⟨kw, parts⟩ := r
    cases h
    obtain ⟨n, x, y, l, rfl, rfl, h1, h2, h3, h4⟩ := arrow_parts ok
    exact ⟨ok.look_, ok.few, ok.plain, ok.word, ok.short, .cons h1 (.cons h3 (.cons h2 (.cons h4 .nil)))⟩
  · rw [if_neg h]; exact ok
theorem turnR_turnR (r : List Nat × List AV) : turnR (turnR r) = r := by
  unfold turnR
  by_cases h : r.1 = sARROW
  · rw [if_pos h]
    split
    · rename_i n x y l e
      rw [if_pos h]
      obtain ⟨kw, parts⟩ := r
      cases e
      rfl
    · rename_i hn
      rw [if_pos h]
      split
      · rename_i n x y l e
        exact (hn _ _ _ _ e).elim
      · rfl
  · rw [if_neg h, if_neg h]
theorem RdOk.turn {room : Nat} {boxes : List (List Nat)} {rows : List (List Nat × List AV)} (R : RdOk FORMS room boxes rows) : RdOk FORMS room boxes (rows.map turnR) where
  r0 := R.r0
  r1 := R.r1
  names := R.names
  few := R.few
  nd := R.nd
  some_ := by rw [List.length_map]; exact R.some_
  most := by rw [List.length_map]; exact R.most
  rows := fun r hr => by
    obtain ⟨q, hq, rfl⟩ := List.mem_map.mp hr
    obtain ⟨form, ok⟩ := R.rows q hq
    rw [List.length_map]
    exact ⟨form, turnR_ok ok⟩
section
variable {P : Pg} {d f : Nat} {h : AH} {Q : AV → AH → Prop}
theorem turned_spec (R : Rd P) (hF : R.F = FORMS) {fr : Nat} (hr : P.fn fr = some (F_reader_of_rows R.c)) (hf : P.fn f = some (F_turned R.pRows fr R.pRoom R.pBoxes)) {b self room : Nat} {boxes : List (List Nat)} {rows : List (List Nat × List AV)}
    (ok : RdOk FORMS room boxes rows) (a : IsRd R b h self room boxes rows)
    (k : ∀ s' h', h.n ≤ s' → Kx h h' → IsRd R 0 h' s' room boxes (rows.map turnR) → Q (.ref s') h') : wp (callF P (d + 7) f [.ref self]) Q h := by
  have most := ok.most
  refine w_call hf rfl ?_
  show wp (evS P (callF P (d + 6)) (B_turned R.pRows fr R.pRoom R.pBoxes) [some (.ref self), none, none]) _ _
  unfold B_turned
  bv_omega
  have k1 : Kx h (h.push (.lst [])) := (Kp.refl _ _).push _
  have al1 : At 0 (h.push (.lst [])) h.n (.lst (((rows.take 0).map turnR).map rowAV)) := At.new _ (Nat.zero_le _)
  have a1 := a.kp k1 (Nat.zero_le _)
  generalize h.push (.lst []) = h1 at k1 al1 a1
  refine rd_rows R a1 ?_
  bv_omega
  refine wK_tup ?_
  have ms : Src.most (.fix (rows.map rowAV)) h1 = (rows.map rowAV).length := rfl
  rw [ms]
  refine wp_for (xs := rows.map rowAV) (fun i σ h' => ∃ v2 : Option AV, σ = [some (.ref self), some (.ref h.n), v2] ∧ Kx h h' ∧ At 0 h' h.n (.lst (((rows.take i).map turnR).map rowAV)))
    (fun i σ h' _ => Src.is_fix _ _) ?_ ?_ _ 0 _ _ (Nat.zero_add _) ⟨_, rfl, k1, al1⟩
  · rintro i x σ h' hx ⟨v2, rfl, kk, al⟩
    rw [List.getElem?_map] at hx
    obtain ⟨r, hr', rfl⟩ := Option.map_eq_some_iff.mp hx
    obtain ⟨form, okr⟩ := ok.rows r (List.mem_of_getElem? hr')
    have e2 : ((rows.take i).map turnR).map rowAV ++ [rowAV (turnR r)] = ((rows.take (i + 1)).map turnR).map rowAV := by
      rw [List.take_succ, hr']
      simp
    have ln : (((rows.take i).map turnR).map rowAV).length ≤ 1000 := by
      simp only [List.length_map, List.length_take]
      omega
    bv_omega
    refine wM_lst ?_ al
    bv_omega
    refine wX_tup atI_0 ?_
    bv_omega
    by_cases t : r.1 = sARROW
    · obtain ⟨kw, parts⟩ := r
      cases t
      obtain ⟨n, x, y, l, rfl, rfl, _⟩ := arrow_parts okr
      refine wp_if_t (decide_eq_true rfl) ?_
      bv_omega
      refine wX_tup atI_0 ?_
      bv_omega
      refine wX_tup (x := n) rfl ?_
      bv_omega
      refine wX_tup (x := y) rfl ?_
      bv_omega
      refine wX_tup (x := x) rfl ?_
      bv_omega
      refine wX_tup (x := l) rfl ?_
      bv_omega
      refine wm_app ?_ al (by omega)
      bv_omega
      have e3 : AV.tup [.str [97, 114, 114, 111, 119], n, y, x, l] = rowAV (turnR (sARROW, [n, x, y, l])) := rfl
      rw [e3, e2]
      exact ⟨_, rfl, kk.set _ (Nat.le_refl _), al.set _⟩
    · refine wp_if_f (decide_eq_false (fun z => t z)) ?_
      bv_omega
      refine wm_app ?_ al (by omega)
      bv_omega
      have e3 : rowAV r = rowAV (turnR r) := by unfold turnR; rw [if_neg t]
      rw [e3, e2]
      exact ⟨_, rfl, kk.set _ (Nat.le_refl _), al.set _⟩
  · rintro σ h' ⟨v2, rfl, kk, al⟩
    rw [List.length_map, List.take_length] at al
    bv_omega
    have a2 := a.kp kk (Nat.zero_le _)
    refine rd_room R a2 ?_
    bv_omega
    refine rd_boxes R a2 ?_
    bv_omega
    refine reader_of_rows_spec R hr hF ok.turn al fun s' h6 l6 k6 r6 => ?_
    bv_omega
    exact k _ _ (Nat.le_trans kk.le l6) (kk.trans k6) r6
end
end PM
end
section
set_option maxHeartbeats 400000
/-! PL19: names exchanged by pairs (the program). -/
namespace PM
open PySem
local macro_rules | `(tactic| array_get_dec) => `(tactic| repeat' (first
  | assumption
  | exact At.new _ (by first | exact Nat.zero_le _ | omega | (simp only [AH.n_push, AH.n_set]; omega))
  | refine At.push ?_ _
  | refine At.set (by assumption) _
  | refine At.set_ne ?_ _ (by first | assumption | omega | (simp only [AH.n_push, AH.n_set]; omega))
  | refine At.kp (by assumption) ?_ (by first | exact Nat.le_refl _ | exact Nat.zero_le _ | omega)))
local macro_rules | `(tactic| array_mem_dec) => `(tactic| with_reducible first
  | refine wS_seq ?_ | refine wS_asg ?_ | refine wS_par ?_ | refine wS_aug (by with_unfolding_all exact rfl) ?_ | refine wS_ex ?_ | refine wS_ret (by with_unfolding_all exact nofun) ?_ | refine wS_ret0 ?_ | refine wS_ife ?_ | refine wS_brk ?_ | refine wS_cnt ?_ | refine wS_pass ?_ | refine wS_done ?_ | refine wS_for ?_
  | refine seqK_nx ?_ | refine seqK_rt ?_ | refine seqK_bk ?_ | refine seqK_ct ?_ | refine retK_nx ?_ | refine retK_rt ?_ | refine forK_nx ?_ | refine forK_ct ?_ | refine forK_bk ?_ | refine forK_rt ?_
  | refine wE_v (by with_unfolding_all exact rfl) ?_ | refine wE_k ?_ | refine wE_bin ?_ | refine wE_neg ?_ | refine wE_not ?_ | refine wE_and ?_ | refine wE_or ?_ | refine wE_ite ?_ | refine wE_cmp ?_ | refine wE_chain ?_ | refine wE_call ?_ | refine wE_callK ?_ | refine wE_blt ?_ | refine wE_meth ?_ | refine wE_attr ?_ | refine wE_ix ?_ | refine wE_sl ?_ | refine wE_lst ?_ | refine wE_tup ?_ | refine wE_dic ?_ | refine wE_lc ?_
  | refine wA_nil ?_ | refine wA_cons ?_ | refine wA_star ?_
  | refine wT_not ?_ | refine wT_and ?_ | refine wT_or ?_ | refine wT_ite ?_ | refine wT_cmp ?_ | refine wT_chain ?_ | refine wT_no ?_ | refine wT_v (by with_unfolding_all exact rfl) ?_ | refine wT_call ?_ | refine wT_blt ?_ | refine wT_meth ?_ | refine wT_attr ?_ | refine wT_ix ?_
  | refine w_tru_bl ?_
  | refine wP_no ?_ | refine wP_k ?_ | refine wP_v (by with_unfolding_all exact rfl) ?_ | refine wP_neg ?_ | refine wP_bin ?_
  | refine wG_v ?_ | refine wG_tup ?_ | refine wG_attr ?_ | refine wG_ix ?_ | refine wGs_nil ?_ | refine wGs_cons ?_ | refine wU_tup ?_
  | refine wB_add ?_ | refine wB_sub ?_
  | refine wC_lt ?_ | refine wC_le ?_ | refine wC_gt ?_ | refine wC_ge ?_ | refine wC_eqs ?_ | refine wC_nes ?_ | refine wC_eqi ?_ | refine wC_nei ?_ | refine wC_is ?_ | refine wC_isn ?_ | refine wC_in ?_ | refine wC_nin ?_ | refine wN_str ?_
  | refine wF_lenT ?_ | refine wF_abs ?_ | refine wF_max ?_ | refine wF_min ?_ | refine wF_int ?_ | refine wF_intB ?_ | refine wF_tupT ?_ | refine wF_listT ?_ | refine wF_isin_str ?_ | refine wF_isin_int ?_
  | refine wL_tup ?_ | refine wM_str ?_
  | refine wp_pure ?_ | refine wp_bind ?_
  | refine and_len ?_ (by with_unfolding_all exact rfl) | refine par_ok (by with_unfolding_all exact rfl) ?_ | refine int_ok rfl ?_)
local macro_rules | `(tactic| bv_omega) => `(tactic| repeat (first | array_mem_dec | (with_reducible first | refine wp_if_t rfl ?_ | refine wp_if_f rfl ?_)))
local macro_rules | `(tactic| sizeOf_list_dec) => `(tactic| repeat array_mem_dec)
-- value, pair, name, new, old
def B_are_pairs (f_is_name : Nat) : S := (.seq (.ife (.not (.blt .isinstance (.cons (.v 0) (.cons (.k (.ty "tuple")) .nil)))) (.seq (.ret (.k (.bl false))) .done) .done) (.seq (.for_ (.v 1) .self (.cons (.v 0) .nil) (.seq (.ife (.or (.not (.blt .isinstance (.cons (.v 1) (.cons (.k (.ty "tuple")) .nil)))) (.or (.cmp .NotEq (.blt .len (.cons (.v 1) .nil)) (.k (.int 2))) (.not (.blt .all (.cons (.lc (.call f_is_name (.cons (.v 2) .nil)) (.v 2) .self (.cons (.v 1) .nil) .no [2]) .nil))))) (.seq (.ret (.k (.bl false))) .done) .done) .done)) (.seq (.ret (.cmp .Eq (.blt .setlen (.cons (.lc (.v 4) (.tup (.cons (.v 4) (.cons (.v 3) .nil))) .self (.cons (.v 0) .nil) .no [4, 3]) .nil)) (.blt .len (.cons (.v 0) .nil)))) .done)))
abbrev F_are_pairs (f_is_name : Nat) : Fn := ⟨1, 5, B_are_pairs f_is_name⟩
-- reader, pairs, exchanged, rows, row, is_look
def B_named_anew (f_are_pairs a_rows f_reader_of_rows a_room a_boxes : Nat) : S := (.seq (.ife (.not (.call f_are_pairs (.cons (.v 1) .nil))) (.seq (.raise 0 .nil) .done) .done) (.seq (.par [2, 3] (.cons (.blt .dict (.cons (.v 1) .nil)) (.cons (.lst .nil) .nil))) (.seq (.for_ (.v 4) .self (.cons (.attr (.v 0) a_rows) .nil) (.seq (.asg (.v 5) (.cmp .In (.ix (.v 4) (.k (.int 0))) (.tup (.cons (.k (.str [109, 97, 114, 107])) (.cons (.k (.str [97, 114, 114, 111, 119])) .nil))))) (.seq (.ex (.meth (.v 3) 0 (.cons (.ite (.v 5) (.tup (.cons (.ix (.v 4) (.k (.int 0))) (.cons (.meth (.v 2) 3 (.cons (.ix (.v 4) (.k (.int 1))) (.cons (.ix (.v 4) (.k (.int 1))) .nil))) (.star (.sl (.v 4) (.k (.int 2)) .no) .nil)))) (.v 4)) .nil))) .done))) (.seq (.ret (.call f_reader_of_rows (.cons (.attr (.v 0) a_room) (.cons (.attr (.v 0) a_boxes) (.cons (.v 3) .nil))))) .done))))
abbrev F_named_anew (f_are_pairs a_rows f_reader_of_rows a_room a_boxes : Nat) : Fn := ⟨2, 6, B_named_anew f_are_pairs a_rows f_reader_of_rows a_room a_boxes⟩
section
variable {P : Pg} {cf : CF} {h : AH} {b p : Nat} {xs : List AV}
theorem wK_ftp {Q : Src → AH → Prop} (q : Q (.ftp p) h) (a : At b h p (.ftup xs)) : wp (srcK .self [.ref p]) Q h := by
  refine wp_bind (wp_getA ?_ a)
  exact wp_pure q
theorem wF_lenFt {Q : AV → AH → Prop} (q : Q (.int xs.length) h) (a : At b h p (.ftup xs)) : wp (bltB P cf .len [.ref p]) Q h := by
  obtain ⟨v, h', e, q⟩ : wp (bltA P .len [.ref p]) Q h := by
    refine wp_bind (wp_getA ?_ a)
    exact wp_pure q
  refine ⟨v, h', ?_, q⟩
  unfold bltB
  have : lenOwn P .len [.ref p] h = none := by simp [lenOwn, ownOf, a.get]
  simp only [this]
  exact e
theorem wF_dictFt {Q : AV → AH → Prop} {ps : List (AV × AV)} (a : At b h p (.ftup xs)) (e : pairsO xs = some ps) (g : (ps.all fun kv => keyF kv.1) = true) (q : Q (.ref h.n) (h.push (.dic (putAll [] ps)))) : wp (bltB P cf .dict [.ref p]) Q h :=
  wF nofun nofun (wp_bind ⟨xs, h, by unfold seqO; rw [a.get], wp_bind (wp_ofO (wp_bind (wp_guard (wp_new q) g)) e)⟩)
theorem Src.is_ftp (a : At b h p (.ftup xs)) : (Src.ftp p).Is h xs := fun i _ => by
  show (match h.get p with
    | some (.ftup xs) => .ok xs[i]? h
    | _ => .bad : Res (Option AV)) = _
  rw [a.get]
theorem most_ftp (a : At b h p (.ftup xs)) : Src.most (.ftp p) h = xs.length := by simp only [Src.most, a.get]
theorem wF_isin_ftp {Q : AV → AH → Prop} (q : Q (.bl true) h) (a : At b h p (.ftup xs)) : wp (bltB P cf .isinstance [.ref p, .ty "tuple"]) Q h :=
  wF_isin (t := "tuple") (by decide) (by simp [ownOf, a.get]) (by simp [tyA, a.get]) (by rw [show isTy "tuple" "tuple" = true by decide]; exact q)
end
theorem wF_isin_tup {P : Pg} {cf : CF} {h : AH} {Q : AV → AH → Prop} {xs : List AV} (q : Q (.bl true) h) : wp (bltB P cf .isinstance [.tup xs, .ty "tuple"]) Q h :=
  wF_isin (t := "tuple") (by decide) rfl rfl (by rw [show isTy "tuple" "tuple" = true by decide]; exact q)
def prAV (q : List Nat × List Nat) : AV := .tup [.str q.1, .str q.2]
section
variable {P : Pg} {d f : Nat} {h : AH} {Q : AV → AH → Prop}
theorem are_pairs_spec {fi : Nat} (hi : P.fn fi = some F_is_name) (hf : P.fn f = some (F_are_pairs fi)) {b p : Nat} {prs : List (List Nat × List Nat)} (a : At b h p (.ftup (prs.map prAV))) (hn : ∀ q ∈ prs, NameOk q.1 ∧ NameOk q.2) (nd : (prs.map (·.1)).Nodup) (l : prs.length ≤ 10)
    (k : ∀ h', Kx h h' → Q (.bl true) h') : wp (callF P (d + 2) f [.ref p]) Q h := by
  refine w_call hf rfl ?_
  show wp (evS P (callF P (d + 1)) (B_are_pairs fi) [some (.ref p), none, none, none, none]) _ _
  unfold B_are_pairs
  bv_omega
  refine wF_isin_ftp ?_ a
  bv_omega
  refine wK_ftp ?_ a
  rw [most_ftp a]
  refine wp_for (xs := prs.map prAV) (fun i σ h' => (∃ v1 v2 : Option AV, σ = [some (.ref p), v1, v2, none, none]) ∧ Kx h h') (fun i σ h' ⟨_, kk⟩ => Src.is_ftp (a.kp kk (Nat.zero_le _))) ?_ ?_ _ 0 _ _ (Nat.zero_add _) ⟨⟨_, _, rfl⟩, Kp.refl _ _⟩
  · rintro i x σ h' hx ⟨⟨v1, v2, rfl⟩, kk⟩
    rw [List.getElem?_map] at hx
    obtain ⟨q, hq, rfl⟩ := Option.map_eq_some_iff.mp hx
    obtain ⟨n1, n2⟩ := hn q (List.mem_of_getElem? hq)
    obtain ⟨u, v⟩ := q
    unfold prAV
    bv_omega
    refine wF_isin_tup ?_
    bv_omega
    refine wK_tup ?_
    refine wp_lc_map (fun _ => .bl true) (by simp) (fun _ _ => Src.is_fix _ _) ?_ ?_ rfl
    · intro j x h2 hx k2
      have hw : ∃ w, x = .str w ∧ NameOk w := by
        have := List.mem_of_getElem? hx
        simp only [List.mem_cons, List.not_mem_nil, or_false] at this
        rcases this with rfl | rfl
        · exact ⟨_, rfl, n1⟩
        · exact ⟨_, rfl, n2⟩
      obtain ⟨w, rfl, wok⟩ := hw
      bv_omega
      refine is_name_spec hi (by have := wok.l1; omega) fun h3 k3 => ?_
      rw [nameB_ok wok]
      bv_omega
      exact ⟨k3, rfl⟩
    intro h2 k2 a2
    bv_omega
    refine wF_all a2 (i := [true, true]) rfl ?_
    bv_omega
    exact ⟨⟨_, _, rfl⟩, kk.trans k2⟩
  · rintro σ h' ⟨⟨v1, v2, rfl⟩, kk⟩
    have a1 := a.kp kk (Nat.zero_le _)
    bv_omega
    refine wK_ftp ?_ a1
    rw [most_ftp a1]
    refine wp_lc_map (fun v => match v with | .tup [x, _] => x | _ => .non) (by simp; omega) (fun h2 k2 => Src.is_ftp (a1.kp k2 (Nat.zero_le _))) ?_ ?_ rfl
    · intro j x h2 hx k2
      rw [List.getElem?_map] at hx
      obtain ⟨⟨u, v⟩, hq, rfl⟩ := Option.map_eq_some_iff.mp hx
      unfold prAV
      bv_omega
      exact ⟨Kp.refl _ _, rfl⟩
    intro h2 k2 a2
    have e1 : (prs.map prAV).map (fun v => match v with | .tup [x, _] => x | _ => .non) = (prs.map (·.1)).map AV.str := by
      rw [List.map_map, List.map_map]
      exact List.map_congr_left fun r _ => rfl
    rw [e1] at a2
    bv_omega
    refine wF (by nofun) (by nofun) (wp_bind (wp_lstO (wp_bind (wp_ofO (a := prs.map (·.1)) (wp_bind (wp_guard (wp_pure ?_) (by simp; omega))) (strsO_map _))) a2))
    rw [foldl_addL (acc := []) (by simpa using nd), List.nil_append]
    bv_omega
    refine wF_lenFt ?_ (a1.kp k2 (Nat.zero_le _))
    bv_omega
    have := k _ (kk.trans k2)
    simpa using this
end
end PM
end
section
set_option maxHeartbeats 400000
/-! PL20: named anew (the program). -/
namespace PM
open PySem
local macro_rules | `(tactic| array_get_dec) => `(tactic| repeat' (first
  | assumption
  | exact At.new _ (by first | exact Nat.zero_le _ | omega | (simp only [AH.n_push, AH.n_set]; omega))
  | refine At.push ?_ _
  | refine At.set (by assumption) _
  | refine At.set_ne ?_ _ (by first | assumption | omega | (simp only [AH.n_push, AH.n_set]; omega))
  | refine At.kp (by assumption) ?_ (by first | exact Nat.le_refl _ | exact Nat.zero_le _ | omega)))
local macro_rules | `(tactic| array_mem_dec) => `(tactic| with_reducible first
  | refine wS_seq ?_ | refine wS_asg ?_ | refine wS_par ?_ | refine wS_aug (by with_unfolding_all exact rfl) ?_ | refine wS_ex ?_ | refine wS_ret (by with_unfolding_all exact nofun) ?_ | refine wS_ret0 ?_ | refine wS_ife ?_ | refine wS_brk ?_ | refine wS_cnt ?_ | refine wS_pass ?_ | refine wS_done ?_ | refine wS_for ?_
  | refine seqK_nx ?_ | refine seqK_rt ?_ | refine seqK_bk ?_ | refine seqK_ct ?_ | refine retK_nx ?_ | refine retK_rt ?_ | refine forK_nx ?_ | refine forK_ct ?_ | refine forK_bk ?_ | refine forK_rt ?_
  | refine wE_v (by with_unfolding_all exact rfl) ?_ | refine wE_k ?_ | refine wE_bin ?_ | refine wE_neg ?_ | refine wE_not ?_ | refine wE_and ?_ | refine wE_or ?_ | refine wE_ite ?_ | refine wE_cmp ?_ | refine wE_chain ?_ | refine wE_call ?_ | refine wE_callK ?_ | refine wE_blt ?_ | refine wE_meth ?_ | refine wE_attr ?_ | refine wE_ix ?_ | refine wE_sl ?_ | refine wE_lst ?_ | refine wE_tup ?_ | refine wE_dic ?_ | refine wE_lc ?_
  | refine wA_nil ?_ | refine wA_cons ?_ | refine wA_star ?_
  | refine wT_not ?_ | refine wT_and ?_ | refine wT_or ?_ | refine wT_ite ?_ | refine wT_cmp ?_ | refine wT_chain ?_ | refine wT_no ?_ | refine wT_v (by with_unfolding_all exact rfl) ?_ | refine wT_call ?_ | refine wT_blt ?_ | refine wT_meth ?_ | refine wT_attr ?_ | refine wT_ix ?_
  | refine w_tru_bl ?_
  | refine wP_no ?_ | refine wP_k ?_ | refine wP_v (by with_unfolding_all exact rfl) ?_ | refine wP_neg ?_ | refine wP_bin ?_
  | refine wG_v ?_ | refine wG_tup ?_ | refine wG_attr ?_ | refine wG_ix ?_ | refine wGs_nil ?_ | refine wGs_cons ?_ | refine wU_tup ?_
  | refine wB_add ?_ | refine wB_sub ?_
  | refine wC_lt ?_ | refine wC_le ?_ | refine wC_gt ?_ | refine wC_ge ?_ | refine wC_eqs ?_ | refine wC_nes ?_ | refine wC_eqi ?_ | refine wC_nei ?_ | refine wC_is ?_ | refine wC_isn ?_ | refine wC_in ?_ | refine wC_nin ?_ | refine wN_str ?_
  | refine wF_lenT ?_ | refine wF_abs ?_ | refine wF_max ?_ | refine wF_min ?_ | refine wF_int ?_ | refine wF_intB ?_ | refine wF_tupT ?_ | refine wF_listT ?_ | refine wF_isin_str ?_ | refine wF_isin_int ?_
  | refine wL_tup ?_ | refine wM_str ?_
  | refine wp_pure ?_ | refine wp_bind ?_
  | refine and_len ?_ (by with_unfolding_all exact rfl) | refine par_ok (by with_unfolding_all exact rfl) ?_ | refine int_ok rfl ?_)
local macro_rules | `(tactic| bv_omega) => `(tactic| repeat (first | array_mem_dec | (with_reducible first | refine wp_if_t rfl ?_ | refine wp_if_f rfl ?_)))
local macro_rules | `(tactic| sizeOf_list_dec) => `(tactic| repeat array_mem_dec)
abbrev sMARK : List Nat := [109, 97, 114, 107]
theorem chgK_not {c : Nat} {g : List Nat → List Nat} : ∀ {ks : List Nat} {xs : List AV}, c ∉ ks → chgK c g ks xs = xs
  | [], _, _ => by unfold chgK; rfl
  | _ :: _, [], _ => rfl
  | k :: ks, x :: xs, h => by
    have h1 : ¬ k = c := fun z => h (by rw [z]; exact List.mem_cons_self ..)
    show (if k = c then _ else x) :: chgK c g ks xs = _
    rw [if_neg h1, chgK_not fun z => h (List.mem_cons_of_mem _ z)]
theorem FT_look : (FT.all fun q => if q.1 = sMARK ∨ q.1 = sARROW then (match q.2 with | k :: ks => decide (k = 78) && decide (78 ∉ ks) | [] => false) else decide (78 ∉ q.2)) = true := by decide
/-- a row of a look, or another one -/
theorem look_row {room many : Nat} {boxes : List (List Nat)} {kw form : List Nat} {parts : List AV} (ok : RowOk FORMS room boxes many kw form parts) (g : List Nat → List Nat) :
    if kw = sMARK ∨ kw = sARROW then ∃ w xs, parts = .str w :: xs ∧ chgR 78 g (kw, parts) = (kw, .str (g w) :: xs) ∧ xs.length ≤ 8 else chgR 78 g (kw, parts) = (kw, parts) := by
  have hm := List.all_eq_true.mp FT_look _ (FT_of ok.look_)
  have pl := ok.parts.len
  have few := ok.few
  dsimp only at hm
  unfold chgR
  dsimp only
  rw [formOf_eq ok.look_]
  by_cases h : kw = sMARK ∨ kw = sARROW
  · rw [if_pos h] at hm ⊢
    have p := ok.parts
    cases p with
    | nil => cases hm
    | cons h1 r =>
      simp only [Bool.and_eq_true, decide_eq_true_eq] at hm
      obtain ⟨rfl, hn⟩ := hm
      cases h1 with
      | n hw =>
        refine ⟨_, _, rfl, ?_, ?_⟩
        · show (kw, (if (78 : Nat) = 78 then _ else _) :: chgK 78 g _ _) = _
          rw [if_pos rfl, chgK_not hn]
        · simp only [List.length_cons] at pl few
          omega
  · rw [if_neg h] at hm ⊢
    rw [chgK_not (of_decide_eq_true hm)]
theorem wm_get2 {h : AH} {Q : AV → AH → Prop} {b p : Nat} {kvs : List (AV × AV)} {k dv : AV} (a : At b h p (.dic kvs)) (g : keyOk kvs k = true) (q : Q ((look kvs k).getD dv) h) : wp (bMeth 3 .dic (.ref p) [k, dv]) Q h :=
  wp_bind (wp_dicR (wp_pure q) a g)
section
variable {P : Pg} {d f : Nat} {h : AH} {Q : AV → AH → Prop}
theorem named_anew_spec (R : Rd P) (hF : R.F = FORMS) {fp fr : Nat} (hp : P.fn fp = some (F_are_pairs R.isName)) (hr : P.fn fr = some (F_reader_of_rows R.c)) (hf : P.fn f = some (F_named_anew fp R.pRows fr R.pRoom R.pBoxes)) {b c self room p : Nat} {boxes : List (List Nat)} {rows : List (List Nat × List AV)}
    (ok : RdOk FORMS room boxes rows) (a : IsRd R b h self room boxes rows) {us : List (List Nat)} {g : List Nat → List Nat} (ap : At c h p (.ftup (us.map fun u => prAV (u, g u)))) (l : us.length ≤ 10) (nd : us.Nodup) (n1 : ∀ u ∈ us, NameOk u) (hg : ∀ w, NameOk w → NameOk (g w)) (out : ∀ w, w ∉ us → g w = w)
    (k : ∀ s' h', h.n ≤ s' → Kx h h' → IsRd R 0 h' s' room boxes (rows.map (chgR 78 g)) → Q (.ref s') h') : wp (callF P (d + 7) f [.ref self, .ref p]) Q h := by
  have most := ok.most
  refine w_call hf rfl ?_
  show wp (evS P (callF P (d + 6)) (B_named_anew fp R.pRows fr R.pRoom R.pBoxes) [some (.ref self), some (.ref p), none, none, none, none]) _ _
  unfold B_named_anew
  bv_omega
  have ap' : At c h p (.ftup ((us.map fun u => (u, g u)).map prAV)) := by rw [List.map_map]; exact ap
  refine are_pairs_spec R.h_isName hp ap' (fun q hq => by
    obtain ⟨u, hu, rfl⟩ := List.mem_map.mp hq
    exact ⟨n1 u hu, hg u (n1 u hu)⟩) (by rw [List.map_map]; simpa [Function.comp_def] using nd) (by simpa using l) fun h1 k1 => ?_
  bv_omega
  refine wF_dictFt (ap.kp k1 (Nat.zero_le _)) (ps := dS (fun u => .str (g u)) us) pairs_dS keys_dS ?_
  have e1 := putAll_dS (v := fun w => AV.str (g w)) (ws := us) (us := []) (by simpa using nd)
  rw [show dS (fun w => AV.str (g w)) [] = [] from rfl, List.nil_append] at e1
  rw [e1]
  have k2 := k1.push (.dic (dS (fun w => .str (g w)) us))
  have ad : At 0 (h1.push (.dic (dS (fun w => .str (g w)) us))) h1.n _ := At.new _ (Nat.zero_le _)
  generalize h1.push (.dic (dS (fun w => .str (g w)) us)) = h2 at k2 ad
  generalize h1.n = dd at ad
  bv_omega
  have a2 := a.kp k2 (Nat.zero_le _)
  have ddlt := ad.lt
  have k3 := k2.push (.lst [])
  have al3 : At 0 (h2.push (.lst [])) h2.n (.lst (((rows.take 0).map (chgR 78 g)).map rowAV)) := At.new _ (Nat.zero_le _)
  have ad3 := ad.push (.lst [])
  have a3 := a.kp k3 (Nat.zero_le _)
  have lh := k2.le
  generalize h2.push (.lst []) = h3 at k3 al3 ad3 a3
  generalize h2.n = ll at al3 ddlt lh
  refine rd_rows R a3 ?_
  bv_omega
  refine wK_tup ?_
  have ms : Src.most (.fix (rows.map rowAV)) h3 = (rows.map rowAV).length := rfl
  rw [ms]
  refine wp_for (xs := rows.map rowAV) (fun i σ h' => (∃ v4 v5 : Option AV, σ = [some (.ref self), some (.ref p), some (.ref dd), some (.ref ll), v4, v5]) ∧ Kx h h' ∧ At 0 h' ll (.lst (((rows.take i).map (chgR 78 g)).map rowAV)) ∧ At 0 h' dd (.dic (dS (fun w => .str (g w)) us)))
    (fun i σ h' _ => Src.is_fix _ _) ?_ ?_ _ 0 _ _ (Nat.zero_add _) ⟨⟨_, _, rfl⟩, k3, al3, ad3⟩
  · rintro i x σ h' hx ⟨⟨v4, v5, rfl⟩, kk, al, ad'⟩
    rw [List.getElem?_map] at hx
    obtain ⟨r, hr', rfl⟩ := Option.map_eq_some_iff.mp hx
    obtain ⟨form, okr⟩ := ok.rows r (List.mem_of_getElem? hr')
    have e2 : ((rows.take i).map (chgR 78 g)).map rowAV ++ [rowAV (chgR 78 g r)] = ((rows.take (i + 1)).map (chgR 78 g)).map rowAV := by
      rw [List.take_succ, hr']
      simp
    have ln : (((rows.take i).map (chgR 78 g)).map rowAV).length ≤ 1000 := by
      simp only [List.length_map, List.length_take]
      omega
    have lr := look_row okr g
    obtain ⟨kw, parts⟩ := r
    bv_omega
    refine wX_tup atI_0 ?_
    bv_omega
    refine wN_tup (r := decide (sMARK = kw) || (decide (sARROW = kw) || false)) rfl ?_
    bv_omega
    by_cases t : kw = sMARK ∨ kw = sARROW
    · rw [if_pos t] at lr
      obtain ⟨w, xs, rfl, e3, l8⟩ := lr
      have tt : (decide (sMARK = kw) || (decide (sARROW = kw) || false)) = true := by
        rcases t with rfl | rfl <;> decide
      rw [tt]
      bv_omega
      refine wM_lst ?_ al
      bv_omega
      refine wX_tup atI_0 ?_
      bv_omega
      refine wM_dic ?_ ad'
      bv_omega
      refine wX_tup atI_1 ?_
      bv_omega
      refine wX_tup atI_1 ?_
      bv_omega
      refine wm_get2 ad' keyOk_dS ?_
      have e4 : (look (dS (fun w => AV.str (g w)) us) (.str w)).getD (.str w) = .str (g w) := by
        rw [look_dS]
        by_cases hu : w ∈ us
        · rw [if_pos hu]; rfl
        · rw [if_neg hu, out w hu]; rfl
      rw [e4]
      bv_omega
      refine wL_tup (xs := .str kw :: .str w :: xs) ?_
      rw [cut_tail2]
      bv_omega
      refine ⟨?_, by simp; omega⟩
      bv_omega
      refine wm_app ?_ al (by omega)
      bv_omega
      have e5 : AV.tup (.str kw :: .str (g w) :: (List.drop 2 (.str kw :: .str w :: xs) ++ [])) = rowAV (chgR 78 g (kw, .str w :: xs)) := by
        rw [e3, List.append_nil]
        rfl
      rw [e5, e2]
      exact ⟨⟨_, _, rfl⟩, kk.set _ (by omega), al.set _, ad'.set_ne _ (by omega)⟩
    · rw [if_neg t] at lr
      have tt : (decide (sMARK = kw) || (decide (sARROW = kw) || false)) = false := by
        simp only [not_or] at t
        rw [decide_eq_false (fun z => t.1 z.symm), decide_eq_false (fun z => t.2 z.symm)]
        rfl
      rw [tt]
      bv_omega
      refine wM_lst ?_ al
      bv_omega
      refine wm_app ?_ al (by omega)
      bv_omega
      rw [← lr, e2]
      exact ⟨⟨_, _, rfl⟩, kk.set _ (by omega), al.set _, ad'.set_ne _ (by omega)⟩
  · rintro σ h' ⟨⟨v4, v5, rfl⟩, kk, al, ad'⟩
    rw [List.length_map, List.take_length] at al
    bv_omega
    have a4 := a.kp kk (Nat.zero_le _)
    refine rd_room R a4 ?_
    bv_omega
    refine rd_boxes R a4 ?_
    bv_omega
    refine reader_of_rows_spec R hr hF (ok.name hg) al fun s' h6 l6 k6 r6 => ?_
    bv_omega
    exact k _ _ (Nat.le_trans kk.le l6) (kk.trans k6) r6
end
end PM
end
section
set_option maxHeartbeats 400000
/-! PL21: words changed (the law k23). -/
namespace PM
open PySem
local macro_rules | `(tactic| array_get_dec) => `(tactic| repeat' (first
  | assumption
  | exact At.new _ (by first | exact Nat.zero_le _ | omega | (simp only [AH.n_push, AH.n_set]; omega))
  | refine At.push ?_ _
  | refine At.set (by assumption) _
  | refine At.set_ne ?_ _ (by first | assumption | omega | (simp only [AH.n_push, AH.n_set]; omega))
  | refine At.kp (by assumption) ?_ (by first | exact Nat.le_refl _ | exact Nat.zero_le _ | omega)))
local macro_rules | `(tactic| array_mem_dec) => `(tactic| with_reducible first
  | refine wS_seq ?_ | refine wS_asg ?_ | refine wS_par ?_ | refine wS_aug (by with_unfolding_all exact rfl) ?_ | refine wS_ex ?_ | refine wS_ret (by with_unfolding_all exact nofun) ?_ | refine wS_ret0 ?_ | refine wS_ife ?_ | refine wS_brk ?_ | refine wS_cnt ?_ | refine wS_pass ?_ | refine wS_done ?_ | refine wS_for ?_
  | refine seqK_nx ?_ | refine seqK_rt ?_ | refine seqK_bk ?_ | refine seqK_ct ?_ | refine retK_nx ?_ | refine retK_rt ?_ | refine forK_nx ?_ | refine forK_ct ?_ | refine forK_bk ?_ | refine forK_rt ?_
  | refine wE_v (by with_unfolding_all exact rfl) ?_ | refine wE_k ?_ | refine wE_bin ?_ | refine wE_neg ?_ | refine wE_not ?_ | refine wE_and ?_ | refine wE_or ?_ | refine wE_ite ?_ | refine wE_cmp ?_ | refine wE_chain ?_ | refine wE_call ?_ | refine wE_callK ?_ | refine wE_blt ?_ | refine wE_meth ?_ | refine wE_attr ?_ | refine wE_ix ?_ | refine wE_sl ?_ | refine wE_lst ?_ | refine wE_tup ?_ | refine wE_dic ?_ | refine wE_lc ?_
  | refine wA_nil ?_ | refine wA_cons ?_ | refine wA_star ?_
  | refine wT_not ?_ | refine wT_and ?_ | refine wT_or ?_ | refine wT_ite ?_ | refine wT_cmp ?_ | refine wT_chain ?_ | refine wT_no ?_ | refine wT_v (by with_unfolding_all exact rfl) ?_ | refine wT_call ?_ | refine wT_blt ?_ | refine wT_meth ?_ | refine wT_attr ?_ | refine wT_ix ?_
  | refine w_tru_bl ?_
  | refine wP_no ?_ | refine wP_k ?_ | refine wP_v (by with_unfolding_all exact rfl) ?_ | refine wP_neg ?_ | refine wP_bin ?_
  | refine wG_v ?_ | refine wG_tup ?_ | refine wG_attr ?_ | refine wG_ix ?_ | refine wGs_nil ?_ | refine wGs_cons ?_ | refine wU_tup ?_
  | refine wB_add ?_ | refine wB_sub ?_
  | refine wC_lt ?_ | refine wC_le ?_ | refine wC_gt ?_ | refine wC_ge ?_ | refine wC_eqs ?_ | refine wC_nes ?_ | refine wC_eqi ?_ | refine wC_nei ?_ | refine wC_is ?_ | refine wC_isn ?_ | refine wC_in ?_ | refine wC_nin ?_ | refine wN_str ?_
  | refine wF_lenT ?_ | refine wF_abs ?_ | refine wF_max ?_ | refine wF_min ?_ | refine wF_int ?_ | refine wF_intB ?_ | refine wF_tupT ?_ | refine wF_listT ?_ | refine wF_isin_str ?_ | refine wF_isin_int ?_
  | refine wL_tup ?_ | refine wM_str ?_
  | refine wp_pure ?_ | refine wp_bind ?_
  | refine and_len ?_ (by with_unfolding_all exact rfl) | refine par_ok (by with_unfolding_all exact rfl) ?_ | refine int_ok rfl ?_)
local macro_rules | `(tactic| bv_omega) => `(tactic| repeat (first | array_mem_dec | (with_reducible first | refine wp_if_t rfl ?_ | refine wp_if_f rfl ?_)))
local macro_rules | `(tactic| sizeOf_list_dec) => `(tactic| repeat array_mem_dec)
-- rows, kinds, names, found, row, spots, at, word
def B_law_words_changed : S := (.seq (.asg (.v 3) (.lst .nil)) (.seq (.for_ (.v 4) .self (.cons (.v 0) .nil) (.seq (.asg (.v 5) (.meth (.v 1) 3 (.cons (.ix (.v 4) (.k (.int 0))) (.cons (.lst .nil) .nil)))) (.seq (.ex (.meth (.v 3) 0 (.cons (.blt .tuple (.cons (.lc (.ite (.cmp .In (.v 6) (.v 5)) (.meth (.v 2) 3 (.cons (.v 7) (.cons (.v 7) .nil))) (.v 7)) (.tup (.cons (.v 6) (.cons (.v 7) .nil))) .enum (.cons (.v 4) .nil) .no [6, 7]) .nil)) .nil))) .done))) (.seq (.ret (.v 3)) .done)))
abbrev F_law_words_changed : Fn := ⟨3, 8, B_law_words_changed ⟩
-- spots
def B_law_box_spots : S := (.seq (.asg (.v 0) (.dic (.cons (.k (.str [116, 97, 107, 101])) (.cons (.lst (.cons (.k (.int 2)) .nil)) (.cons (.k (.str [115, 97, 109, 101])) (.cons (.lst (.cons (.k (.int 1)) (.cons (.k (.int 2)) .nil))) (.cons (.k (.str [108, 101, 115, 115])) (.cons (.lst (.cons (.k (.int 1)) (.cons (.k (.int 2)) .nil))) (.cons (.k (.str [105, 115])) (.cons (.lst (.cons (.k (.int 1)) .nil)) (.cons (.k (.str [119, 105, 116, 104, 105, 110])) (.cons (.lst (.cons (.k (.int 2)) .nil)) (.cons (.k (.str [101, 100, 103, 101])) (.cons (.lst (.cons (.k (.int 2)) .nil)) (.cons (.k (.str [109, 97, 114, 107])) (.cons (.lst (.cons (.k (.int 2)) .nil)) .nil)))))))))))))))) (.seq (.ex (.meth (.v 0) 8 (.cons (.dic (.cons (.k (.str [97, 114, 114, 111, 119])) (.cons (.lst (.cons (.k (.int 2)) (.cons (.k (.int 3)) .nil))) (.cons (.k (.str [115, 101, 116])) (.cons (.lst (.cons (.k (.int 1)) .nil)) (.cons (.k (.str [112, 117, 116])) (.cons (.lst (.cons (.k (.int 1)) (.cons (.k (.int 2)) .nil))) (.cons (.k (.str [117, 112])) (.cons (.lst (.cons (.k (.int 1)) .nil)) .nil))))))))) .nil))) (.seq (.ret (.v 0)) .done)))
abbrev F_law_box_spots : Fn := ⟨0, 1, B_law_box_spots ⟩
/-- the places of a kind, by the words of rows -/
def SpotsOk (c b : Nat) (h : AH) (kvs : List (AV × AV)) : Prop := (∀ w, keyOk kvs (.str w) = true) ∧ ∀ q ∈ FT, (∃ r, look kvs (.str q.1) = some (.ref r) ∧ At b h r (.lst ((posn c 1 q.2).map fun i : Nat => .int (i : Nat)))) ∨ (look kvs (.str q.1) = none ∧ posn c 1 q.2 = [])
theorem SpotsOk.kp {c b b' : Nat} {h h' : AH} {kvs : List (AV × AV)} (k : Kp b' h h') (s : SpotsOk c b h kvs) (l : b' ≤ b) : SpotsOk c b h' kvs := ⟨s.1, fun q hq => (s.2 q hq).imp (fun ⟨r, e, a⟩ => ⟨r, e, a.kp k l⟩) id⟩
theorem inS_ints {h : AH} {i : Nat} {ns : List Nat} : inS h (.int (i : Nat)) (ns.map fun n : Nat => .int (n : Nat)) = some (decide (i ∈ ns)) := by
  unfold inS
  rw [mapO_map (f := fun y => eqA h y (.int (i : Nat))) (g := fun n : Nat => AV.int (n : Nat)) (k := fun y : Nat => decide (((y : Nat) : Int) = (i : Nat))) (fun y _ => eqA_flat rfl)]
  simp only [Option.map_some, Option.some.injEq, List.any_map]
  rw [Bool.eq_iff_iff]
  simp only [List.any_eq_true, Function.comp, id, decide_eq_true_eq]
  exact ⟨fun ⟨y, m, e⟩ => by rwa [← Int.ofNat_inj.mp e], fun m => ⟨i, m, rfl⟩⟩
def chgI (c : Nat) (form : List Nat) (kvs : List (AV × AV)) (v : AV) : AV := match v with
  | .tup [.int i, x] => if i.toNat ∈ posn c 1 form then (look kvs x).getD x else x
  | _ => .non
section
variable {P : Pg} {d f : Nat} {h : AH} {Q : AV → AH → Prop}
theorem words_changed_spec (hf : P.fn f = some F_law_words_changed) {b1 b2 b3 rr kd nd c room : Nat} {boxes : List (List Nat)} {rows : List (List Nat × List AV)} {kvs kvs2 : List (AV × AV)} {g : List Nat → List Nat} (ok : RdOk FORMS room boxes rows) (hc : c = 66 ∨ c = 78)
    (a : At b1 h rr (.lst (rows.map rowAV))) (ak : At b2 h kd (.dic kvs)) (sp : SpotsOk c b2 h kvs) (an : At b3 h nd (.dic kvs2)) (k2 : ∀ w, keyOk kvs2 (.str w) = true) (hg : ∀ w, (look kvs2 (.str w)).getD (.str w) = .str (g w))
    (k : ∀ fo h', h.n ≤ fo → Kx h h' → At 0 h' fo (.lst ((rows.map (chgR c g)).map rowAV)) → Q (.ref fo) h') : wp (callF P (d + 1) f [.ref rr, .ref kd, .ref nd]) Q h := by
  have most := ok.most
  refine w_call hf rfl ?_
  show wp (evS P (callF P d) B_law_words_changed [some (.ref rr), some (.ref kd), some (.ref nd), none, none, none, none, none]) _ _
  unfold B_law_words_changed
  bv_omega
  have k1 : Kx h (h.push (.lst [])) := (Kp.refl _ _).push _
  have al1 : At 0 (h.push (.lst [])) h.n (.lst (((rows.take 0).map (chgR c g)).map rowAV)) := At.new _ (Nat.zero_le _)
  have a1 := a.kp k1 (Nat.zero_le _)
  generalize h.push (.lst []) = h1 at k1 al1 a1
  refine wK_lst ?_ a1
  have ms : Src.most (.lst rr) h1 = (rows.map rowAV).length := by simp only [Src.most, a1.get]
  rw [ms]
  refine wp_for (xs := rows.map rowAV) (fun i σ h' => (∃ v4 v5 : Option AV, σ = [some (.ref rr), some (.ref kd), some (.ref nd), some (.ref h.n), v4, v5, none, none]) ∧ Kx h h' ∧ At 0 h' h.n (.lst (((rows.take i).map (chgR c g)).map rowAV)))
    (fun i σ h' j => Src.is_lst (a.kp j.2.1 (Nat.zero_le _))) ?_ ?_ _ 0 _ _ (Nat.zero_add _) ⟨⟨_, _, rfl⟩, k1, al1⟩
  · rintro i x σ h' hx ⟨⟨v4, v5, rfl⟩, kk, al⟩
    rw [List.getElem?_map] at hx
    obtain ⟨r, hr', rfl⟩ := Option.map_eq_some_iff.mp hx
    obtain ⟨form, okr⟩ := ok.rows r (List.mem_of_getElem? hr')
    have few := okr.few
    have pl := okr.parts.len
    have e2 : ((rows.take i).map (chgR c g)).map rowAV ++ [rowAV (chgR c g r)] = ((rows.take (i + 1)).map (chgR c g)).map rowAV := by
      rw [List.take_succ, hr']
      simp
    have ln : (((rows.take i).map (chgR c g)).map rowAV).length ≤ 1000 := by
      simp only [List.length_map, List.length_take]
      omega
    have rown : ownOf P (·.eq) (rowAV r) h' = none := rfl
    obtain ⟨kw, parts⟩ := r
    bv_omega
    refine wM_dic ?_ (ak.kp kk (Nat.zero_le _))
    bv_omega
    refine wX_tup atI_0 ?_
    bv_omega
    have kl : Kx h (h'.push (.lst [])) := kk.push _
    refine wm_get2 (ak.kp kl (Nat.zero_le _)) (sp.1 _) ?_
    have e3 : ∃ s, (look kvs (.str kw)).getD (.ref h'.n) = .ref s ∧ At 0 (h'.push (.lst [])) s (.lst ((posn c 1 form).map fun i : Nat => .int (i : Nat))) := by
      rcases sp.2 _ (FT_of okr.look_) with ⟨s, e, as⟩ | ⟨e, e'⟩
      · exact ⟨s, by rw [e]; rfl, (as.kp kl (Nat.zero_le _)).weak (Nat.zero_le _)⟩
      · refine ⟨h'.n, by rw [e]; rfl, ?_⟩
        dsimp only at e'
        rw [e']
        exact At.new _ (Nat.zero_le _)
    obtain ⟨s, e3, as⟩ := e3
    rw [e3]
    have al2 := al.push (.lst [])
    generalize h'.push (.lst []) = h2 at kl as al2
    have an2 := an.kp kl (Nat.zero_le _)
    have lh := k1.le
    bv_omega
    refine wM_lst ?_ al2
    bv_omega
    refine wK_enumT (xs := .str kw :: parts) ?_
    have ml : Src.most (.enumT (.str kw :: parts)) h2 = ((AV.str kw :: parts).mapIdx fun i x => AV.tup [.int i, x]).length := by simp only [Src.most, List.length_mapIdx]
    rw [ml]
    refine wp_lc_map (chgI c form kvs2) (by have : parts.length = form.length := pl; simp; omega) (fun _ _ => Src.is_enumT _ _) ?_ ?_ rfl
    · intro j y h3 hy k3
      rw [List.getElem?_mapIdx] at hy
      obtain ⟨z, hz, rfl⟩ := Option.map_eq_some_iff.mp hy
      bv_omega
      refine wN_lst inS_ints ?_ (as.kp k3 (Nat.zero_le _))
      by_cases t : j ∈ posn c 1 form
      · refine wp_if_t (decide_eq_true t) ?_
        have hw : ∃ w, z = .str w := by
          obtain ⟨m, rfl, em⟩ := mem_posn.mp t
          rw [Nat.add_comm, List.getElem?_cons_succ] at hz
          have := okr.parts.get em hz
          rcases hc with rfl | rfl
          · cases this; exact ⟨_, rfl⟩
          · cases this; exact ⟨_, rfl⟩
        obtain ⟨w, rfl⟩ := hw
        bv_omega
        refine wM_dic ?_ (an2.kp k3 (Nat.zero_le _))
        bv_omega
        refine wm_get2 (an2.kp k3 (Nat.zero_le _)) (k2 _) ?_
        bv_omega
        refine ⟨Kp.refl _ _, ?_⟩
        show _ = some (if j ∈ posn c 1 form then (look kvs2 (.str w)).getD (.str w) else (.str w))
        rw [if_pos t]
      · refine wp_if_f (decide_eq_false t) ?_
        bv_omega
        refine ⟨Kp.refl _ _, ?_⟩
        show _ = some (if j ∈ posn c 1 form then (look kvs2 z).getD z else z)
        rw [if_neg t]
    · intro h3 k3 a3
      have e4 : ((AV.str kw :: parts).mapIdx fun i x => AV.tup [.int i, x]).map (chgI c form kvs2) = .str kw :: chgK c g form parts := by
        rw [← chg_idx (kvs := kvs2) (kw := kw) pl hg ?_]
        · apply List.ext_getElem?
          intro j
          simp only [List.getElem?_map, List.getElem?_mapIdx, Option.map_map]
          rfl
        · intro j x h1 h2
          have := okr.parts.get h1 h2
          rcases hc with rfl | rfl
          · cases this; exact ⟨_, rfl⟩
          · cases this; exact ⟨_, rfl⟩
      rw [e4] at a3
      bv_omega
      refine wF_tupL ?_ a3
      bv_omega
      have al3 := al2.kp k3 (Nat.zero_le _)
      refine wm_app ?_ al3 (by omega)
      bv_omega
      have e5 : AV.tup (.str kw :: chgK c g form parts) = rowAV (chgR c g (kw, parts)) := by
        unfold chgR
        dsimp only
        rw [formOf_eq okr.look_]
        rfl
      rw [e5, e2]
      exact ⟨⟨_, _, rfl⟩, (kl.trans k3).set _ (Nat.le_refl _), al3.set _⟩
  · rintro σ h' ⟨⟨v4, v5, rfl⟩, kk, al⟩
    rw [List.length_map, List.take_length] at al
    bv_omega
    exact k _ _ (Nat.le_refl _) kk al
theorem FT_eq : FT = [([116, 97, 107, 101], [81,66]), ([101, 105, 116, 104, 101, 114], [76]), ([115, 97, 109, 101], [66,66,76]), ([108, 101, 115, 115], [66,66,76]), ([105, 115], [66,75,76]), ([119, 105, 116, 104, 105, 110], [81,66,76]), ([101, 100, 103, 101], [81,66,76]), ([109, 97, 114, 107], [78,66,76]), ([97, 114, 114, 111, 119], [78,66,66,76]), ([115, 101, 116], [66,75]), ([112, 117, 116], [66,66]), ([117, 112], [66]), ([103, 111], [76]), ([108, 101, 116], []), ([114, 101, 102, 117, 115, 101], [])] := rfl
theorem wm_upd {b c p r : Nat} {kvs more : List (AV × AV)} (q : Q .non (h.set p (.dic (putAll kvs more)))) (a : At b h p (.dic kvs)) (a' : At c h r (.dic more)) (g : (decide (p ≠ r) && (kvs.all (fun kv => keyF kv.1) && (more.all (fun kv => keyF kv.1) && sizeLineB (kvs.length + more.length)))) = true) : wp (bMeth 8 .dic (.ref p) [.ref r]) Q h :=
  wp_bind ⟨kvs, h, by unfold dicW; rw [a.get], wp_bind ⟨more, h, by unfold dicW; rw [a'.get], wp_bind (wp_guard (wp_bind (wp_setO (wp_pure q))) g)⟩⟩
theorem box_spots_spec (hf : P.fn f = some F_law_box_spots) (k : ∀ p h' kvs, h.n ≤ p → Kx h h' → At 0 h' p (.dic kvs) → SpotsOk 66 0 h' kvs → Q (.ref p) h') : wp (callF P (d + 1) f []) Q h := by
  refine w_call hf rfl ?_
  show wp (evS P (callF P d) B_law_box_spots [none]) _ _
  unfold B_law_box_spots
  bv_omega
  refine ⟨_, 0, ?_, rfl, by array_get_dec, rfl, Nat.le_of_ble_eq_true rfl⟩
  show wp _ _ (((((((((h.push .tmp).push (.lst [.int 2])).push (.lst [.int 1, .int 2])).push (.lst [.int 1, .int 2])).push (.lst [.int 1])).push (.lst [.int 2])).push (.lst [.int 2])).push (.lst [.int 2])).set h.n (.dic [(.str [116, 97, 107, 101], .ref (h.n + 1)), (.str [115, 97, 109, 101], .ref (h.n + 2)), (.str [108, 101, 115, 115], .ref (h.n + 3)), (.str [105, 115], .ref (h.n + 4)), (.str [119, 105, 116, 104, 105, 110], .ref (h.n + 5)), (.str [101, 100, 103, 101], .ref (h.n + 6)), (.str [109, 97, 114, 107], .ref (h.n + 7))]))
  have a1 : At 0 (((((((((h.push .tmp).push (.lst [.int 2])).push (.lst [.int 1, .int 2])).push (.lst [.int 1, .int 2])).push (.lst [.int 1])).push (.lst [.int 2])).push (.lst [.int 2])).push (.lst [.int 2])).set h.n (.dic [(.str [116, 97, 107, 101], .ref (h.n + 1)), (.str [115, 97, 109, 101], .ref (h.n + 2)), (.str [108, 101, 115, 115], .ref (h.n + 3)), (.str [105, 115], .ref (h.n + 4)), (.str [119, 105, 116, 104, 105, 110], .ref (h.n + 5)), (.str [101, 100, 103, 101], .ref (h.n + 6)), (.str [109, 97, 114, 107], .ref (h.n + 7))])) (h.n + 1) (.lst [.int 2]) := by array_get_dec
  have a2 : At 0 (((((((((h.push .tmp).push (.lst [.int 2])).push (.lst [.int 1, .int 2])).push (.lst [.int 1, .int 2])).push (.lst [.int 1])).push (.lst [.int 2])).push (.lst [.int 2])).push (.lst [.int 2])).set h.n (.dic [(.str [116, 97, 107, 101], .ref (h.n + 1)), (.str [115, 97, 109, 101], .ref (h.n + 2)), (.str [108, 101, 115, 115], .ref (h.n + 3)), (.str [105, 115], .ref (h.n + 4)), (.str [119, 105, 116, 104, 105, 110], .ref (h.n + 5)), (.str [101, 100, 103, 101], .ref (h.n + 6)), (.str [109, 97, 114, 107], .ref (h.n + 7))])) (h.n + 2) (.lst [.int 1, .int 2]) := by array_get_dec
  have a3 : At 0 (((((((((h.push .tmp).push (.lst [.int 2])).push (.lst [.int 1, .int 2])).push (.lst [.int 1, .int 2])).push (.lst [.int 1])).push (.lst [.int 2])).push (.lst [.int 2])).push (.lst [.int 2])).set h.n (.dic [(.str [116, 97, 107, 101], .ref (h.n + 1)), (.str [115, 97, 109, 101], .ref (h.n + 2)), (.str [108, 101, 115, 115], .ref (h.n + 3)), (.str [105, 115], .ref (h.n + 4)), (.str [119, 105, 116, 104, 105, 110], .ref (h.n + 5)), (.str [101, 100, 103, 101], .ref (h.n + 6)), (.str [109, 97, 114, 107], .ref (h.n + 7))])) (h.n + 3) (.lst [.int 1, .int 2]) := by array_get_dec
  have a4 : At 0 (((((((((h.push .tmp).push (.lst [.int 2])).push (.lst [.int 1, .int 2])).push (.lst [.int 1, .int 2])).push (.lst [.int 1])).push (.lst [.int 2])).push (.lst [.int 2])).push (.lst [.int 2])).set h.n (.dic [(.str [116, 97, 107, 101], .ref (h.n + 1)), (.str [115, 97, 109, 101], .ref (h.n + 2)), (.str [108, 101, 115, 115], .ref (h.n + 3)), (.str [105, 115], .ref (h.n + 4)), (.str [119, 105, 116, 104, 105, 110], .ref (h.n + 5)), (.str [101, 100, 103, 101], .ref (h.n + 6)), (.str [109, 97, 114, 107], .ref (h.n + 7))])) (h.n + 4) (.lst [.int 1]) := by array_get_dec
  have a5 : At 0 (((((((((h.push .tmp).push (.lst [.int 2])).push (.lst [.int 1, .int 2])).push (.lst [.int 1, .int 2])).push (.lst [.int 1])).push (.lst [.int 2])).push (.lst [.int 2])).push (.lst [.int 2])).set h.n (.dic [(.str [116, 97, 107, 101], .ref (h.n + 1)), (.str [115, 97, 109, 101], .ref (h.n + 2)), (.str [108, 101, 115, 115], .ref (h.n + 3)), (.str [105, 115], .ref (h.n + 4)), (.str [119, 105, 116, 104, 105, 110], .ref (h.n + 5)), (.str [101, 100, 103, 101], .ref (h.n + 6)), (.str [109, 97, 114, 107], .ref (h.n + 7))])) (h.n + 5) (.lst [.int 2]) := by array_get_dec
  have a6 : At 0 (((((((((h.push .tmp).push (.lst [.int 2])).push (.lst [.int 1, .int 2])).push (.lst [.int 1, .int 2])).push (.lst [.int 1])).push (.lst [.int 2])).push (.lst [.int 2])).push (.lst [.int 2])).set h.n (.dic [(.str [116, 97, 107, 101], .ref (h.n + 1)), (.str [115, 97, 109, 101], .ref (h.n + 2)), (.str [108, 101, 115, 115], .ref (h.n + 3)), (.str [105, 115], .ref (h.n + 4)), (.str [119, 105, 116, 104, 105, 110], .ref (h.n + 5)), (.str [101, 100, 103, 101], .ref (h.n + 6)), (.str [109, 97, 114, 107], .ref (h.n + 7))])) (h.n + 6) (.lst [.int 2]) := by array_get_dec
  have a7 : At 0 (((((((((h.push .tmp).push (.lst [.int 2])).push (.lst [.int 1, .int 2])).push (.lst [.int 1, .int 2])).push (.lst [.int 1])).push (.lst [.int 2])).push (.lst [.int 2])).push (.lst [.int 2])).set h.n (.dic [(.str [116, 97, 107, 101], .ref (h.n + 1)), (.str [115, 97, 109, 101], .ref (h.n + 2)), (.str [108, 101, 115, 115], .ref (h.n + 3)), (.str [105, 115], .ref (h.n + 4)), (.str [119, 105, 116, 104, 105, 110], .ref (h.n + 5)), (.str [101, 100, 103, 101], .ref (h.n + 6)), (.str [109, 97, 114, 107], .ref (h.n + 7))])) (h.n + 7) (.lst [.int 2]) := by array_get_dec
  have a0 : At 0 (((((((((h.push .tmp).push (.lst [.int 2])).push (.lst [.int 1, .int 2])).push (.lst [.int 1, .int 2])).push (.lst [.int 1])).push (.lst [.int 2])).push (.lst [.int 2])).push (.lst [.int 2])).set h.n (.dic [(.str [116, 97, 107, 101], .ref (h.n + 1)), (.str [115, 97, 109, 101], .ref (h.n + 2)), (.str [108, 101, 115, 115], .ref (h.n + 3)), (.str [105, 115], .ref (h.n + 4)), (.str [119, 105, 116, 104, 105, 110], .ref (h.n + 5)), (.str [101, 100, 103, 101], .ref (h.n + 6)), (.str [109, 97, 114, 107], .ref (h.n + 7))])) h.n (.dic [(.str [116, 97, 107, 101], .ref (h.n + 1)), (.str [115, 97, 109, 101], .ref (h.n + 2)), (.str [108, 101, 115, 115], .ref (h.n + 3)), (.str [105, 115], .ref (h.n + 4)), (.str [119, 105, 116, 104, 105, 110], .ref (h.n + 5)), (.str [101, 100, 103, 101], .ref (h.n + 6)), (.str [109, 97, 114, 107], .ref (h.n + 7))]) := At.set (At.kp (h := h.push .tmp) (b := 0) (c := 0) (o := .tmp) (by repeat (first | exact Kp.refl _ _ | refine Kp.push ?_ _)) (At.new _ (Nat.zero_le _)) (Nat.le_refl _)) _
  have k1 : Kx h (((((((((h.push .tmp).push (.lst [.int 2])).push (.lst [.int 1, .int 2])).push (.lst [.int 1, .int 2])).push (.lst [.int 1])).push (.lst [.int 2])).push (.lst [.int 2])).push (.lst [.int 2])).set h.n (.dic [(.str [116, 97, 107, 101], .ref (h.n + 1)), (.str [115, 97, 109, 101], .ref (h.n + 2)), (.str [108, 101, 115, 115], .ref (h.n + 3)), (.str [105, 115], .ref (h.n + 4)), (.str [119, 105, 116, 104, 105, 110], .ref (h.n + 5)), (.str [101, 100, 103, 101], .ref (h.n + 6)), (.str [109, 97, 114, 107], .ref (h.n + 7))])) := Kp.set (by repeat (first | exact Kp.refl _ _ | refine Kp.push ?_ _)) _ (Nat.le_refl _)
  have l1 : (((((((((h.push .tmp).push (.lst [.int 2])).push (.lst [.int 1, .int 2])).push (.lst [.int 1, .int 2])).push (.lst [.int 1])).push (.lst [.int 2])).push (.lst [.int 2])).push (.lst [.int 2])).set h.n (.dic [(.str [116, 97, 107, 101], .ref (h.n + 1)), (.str [115, 97, 109, 101], .ref (h.n + 2)), (.str [108, 101, 115, 115], .ref (h.n + 3)), (.str [105, 115], .ref (h.n + 4)), (.str [119, 105, 116, 104, 105, 110], .ref (h.n + 5)), (.str [101, 100, 103, 101], .ref (h.n + 6)), (.str [109, 97, 114, 107], .ref (h.n + 7))])).n = h.n + 8 := rfl
  generalize (((((((((h.push .tmp).push (.lst [.int 2])).push (.lst [.int 1, .int 2])).push (.lst [.int 1, .int 2])).push (.lst [.int 1])).push (.lst [.int 2])).push (.lst [.int 2])).push (.lst [.int 2])).set h.n (.dic [(.str [116, 97, 107, 101], .ref (h.n + 1)), (.str [115, 97, 109, 101], .ref (h.n + 2)), (.str [108, 101, 115, 115], .ref (h.n + 3)), (.str [105, 115], .ref (h.n + 4)), (.str [119, 105, 116, 104, 105, 110], .ref (h.n + 5)), (.str [101, 100, 103, 101], .ref (h.n + 6)), (.str [109, 97, 114, 107], .ref (h.n + 7))])) = h1 at a0 a1 a2 a3 a4 a5 a6 a7 k1 l1
  bv_omega
  refine wM_dic ?_ a0
  bv_omega
  refine ⟨_, 0, ?_, rfl, by array_get_dec, rfl, Nat.le_of_ble_eq_true rfl⟩
  show wp _ _ ((((((h1.push .tmp).push (.lst [.int 2, .int 3])).push (.lst [.int 1])).push (.lst [.int 1, .int 2])).push (.lst [.int 1])).set h1.n (.dic [(.str [97, 114, 114, 111, 119], .ref (h1.n + 1)), (.str [115, 101, 116], .ref (h1.n + 2)), (.str [112, 117, 116], .ref (h1.n + 3)), (.str [117, 112], .ref (h1.n + 4))]))
  have b1 : At 0 ((((((h1.push .tmp).push (.lst [.int 2, .int 3])).push (.lst [.int 1])).push (.lst [.int 1, .int 2])).push (.lst [.int 1])).set h1.n (.dic [(.str [97, 114, 114, 111, 119], .ref (h1.n + 1)), (.str [115, 101, 116], .ref (h1.n + 2)), (.str [112, 117, 116], .ref (h1.n + 3)), (.str [117, 112], .ref (h1.n + 4))])) (h1.n + 1) (.lst [.int 2, .int 3]) := by array_get_dec
  have b2 : At 0 ((((((h1.push .tmp).push (.lst [.int 2, .int 3])).push (.lst [.int 1])).push (.lst [.int 1, .int 2])).push (.lst [.int 1])).set h1.n (.dic [(.str [97, 114, 114, 111, 119], .ref (h1.n + 1)), (.str [115, 101, 116], .ref (h1.n + 2)), (.str [112, 117, 116], .ref (h1.n + 3)), (.str [117, 112], .ref (h1.n + 4))])) (h1.n + 2) (.lst [.int 1]) := by array_get_dec
  have b3 : At 0 ((((((h1.push .tmp).push (.lst [.int 2, .int 3])).push (.lst [.int 1])).push (.lst [.int 1, .int 2])).push (.lst [.int 1])).set h1.n (.dic [(.str [97, 114, 114, 111, 119], .ref (h1.n + 1)), (.str [115, 101, 116], .ref (h1.n + 2)), (.str [112, 117, 116], .ref (h1.n + 3)), (.str [117, 112], .ref (h1.n + 4))])) (h1.n + 3) (.lst [.int 1, .int 2]) := by array_get_dec
  have b4 : At 0 ((((((h1.push .tmp).push (.lst [.int 2, .int 3])).push (.lst [.int 1])).push (.lst [.int 1, .int 2])).push (.lst [.int 1])).set h1.n (.dic [(.str [97, 114, 114, 111, 119], .ref (h1.n + 1)), (.str [115, 101, 116], .ref (h1.n + 2)), (.str [112, 117, 116], .ref (h1.n + 3)), (.str [117, 112], .ref (h1.n + 4))])) (h1.n + 4) (.lst [.int 1]) := by array_get_dec
  have b0 : At 0 ((((((h1.push .tmp).push (.lst [.int 2, .int 3])).push (.lst [.int 1])).push (.lst [.int 1, .int 2])).push (.lst [.int 1])).set h1.n (.dic [(.str [97, 114, 114, 111, 119], .ref (h1.n + 1)), (.str [115, 101, 116], .ref (h1.n + 2)), (.str [112, 117, 116], .ref (h1.n + 3)), (.str [117, 112], .ref (h1.n + 4))])) h1.n (.dic [(.str [97, 114, 114, 111, 119], .ref (h1.n + 1)), (.str [115, 101, 116], .ref (h1.n + 2)), (.str [112, 117, 116], .ref (h1.n + 3)), (.str [117, 112], .ref (h1.n + 4))]) := At.set (At.kp (h := h1.push .tmp) (b := 0) (c := 0) (o := .tmp) (by repeat (first | exact Kp.refl _ _ | refine Kp.push ?_ _)) (At.new _ (Nat.zero_le _)) (Nat.le_refl _)) _
  have k2 : Kx h1 ((((((h1.push .tmp).push (.lst [.int 2, .int 3])).push (.lst [.int 1])).push (.lst [.int 1, .int 2])).push (.lst [.int 1])).set h1.n (.dic [(.str [97, 114, 114, 111, 119], .ref (h1.n + 1)), (.str [115, 101, 116], .ref (h1.n + 2)), (.str [112, 117, 116], .ref (h1.n + 3)), (.str [117, 112], .ref (h1.n + 4))])) := Kp.set (by repeat (first | exact Kp.refl _ _ | refine Kp.push ?_ _)) _ (Nat.le_refl _)
  generalize ((((((h1.push .tmp).push (.lst [.int 2, .int 3])).push (.lst [.int 1])).push (.lst [.int 1, .int 2])).push (.lst [.int 1])).set h1.n (.dic [(.str [97, 114, 114, 111, 119], .ref (h1.n + 1)), (.str [115, 101, 116], .ref (h1.n + 2)), (.str [112, 117, 116], .ref (h1.n + 3)), (.str [117, 112], .ref (h1.n + 4))])) = h2 at b0 b1 b2 b3 b4 k2
  have kk := k1.trans k2
  have c0 := a0.kp k2 (Nat.zero_le _)
  have c1 := a1.kp k2 (Nat.zero_le _)
  have c2 := a2.kp k2 (Nat.zero_le _)
  have c3 := a3.kp k2 (Nat.zero_le _)
  have c4 := a4.kp k2 (Nat.zero_le _)
  have c5 := a5.kp k2 (Nat.zero_le _)
  have c6 := a6.kp k2 (Nat.zero_le _)
  have c7 := a7.kp k2 (Nat.zero_le _)
  clear a0 a1 a2 a3 a4 a5 a6 a7
  bv_omega
  refine wm_upd ?_ c0 b0 (by
    have : decide (h.n ≠ h1.n) = true := decide_eq_true (by omega)
    rw [this]; rfl)
  bv_omega
  have ne : h.n ≠ h1.n := by omega
  refine k h.n (h2.set h.n (.dic [(.str [116, 97, 107, 101], .ref (h.n + 1)), (.str [115, 97, 109, 101], .ref (h.n + 2)), (.str [108, 101, 115, 115], .ref (h.n + 3)), (.str [105, 115], .ref (h.n + 4)), (.str [119, 105, 116, 104, 105, 110], .ref (h.n + 5)), (.str [101, 100, 103, 101], .ref (h.n + 6)), (.str [109, 97, 114, 107], .ref (h.n + 7)), (.str [97, 114, 114, 111, 119], .ref (h1.n + 1)), (.str [115, 101, 116], .ref (h1.n + 2)), (.str [112, 117, 116], .ref (h1.n + 3)), (.str [117, 112], .ref (h1.n + 4))])) _ (Nat.le_refl _) (kk.set _ (Nat.le_refl _)) (c0.set _) ⟨fun w => rfl, fun q hq => ?_⟩
  rw [FT_eq] at hq
  simp only [List.mem_cons, List.not_mem_nil, or_false] at hq
  rcases hq with rfl | rfl | rfl | rfl | rfl | rfl | rfl | rfl | rfl | rfl | rfl | rfl | rfl | rfl | rfl
  · exact .inl ⟨_, rfl, c1.set_ne _ (by omega)⟩
  · exact .inr ⟨rfl, rfl⟩
  · exact .inl ⟨_, rfl, c2.set_ne _ (by omega)⟩
  · exact .inl ⟨_, rfl, c3.set_ne _ (by omega)⟩
  · exact .inl ⟨_, rfl, c4.set_ne _ (by omega)⟩
  · exact .inl ⟨_, rfl, c5.set_ne _ (by omega)⟩
  · exact .inl ⟨_, rfl, c6.set_ne _ (by omega)⟩
  · exact .inl ⟨_, rfl, c7.set_ne _ (by omega)⟩
  · exact .inl ⟨_, rfl, b1.set_ne _ (by omega)⟩
  · exact .inl ⟨_, rfl, b2.set_ne _ (by omega)⟩
  · exact .inl ⟨_, rfl, b3.set_ne _ (by omega)⟩
  · exact .inl ⟨_, rfl, b4.set_ne _ (by omega)⟩
  · exact .inr ⟨rfl, rfl⟩
  · exact .inr ⟨rfl, rfl⟩
  · exact .inr ⟨rfl, rfl⟩
end
end PM
end
section
set_option maxHeartbeats 400000
/-! PL22: boxes named anew, there and back (the law k23). -/
namespace PM
open PySem
local macro_rules | `(tactic| array_get_dec) => `(tactic| repeat' (first
  | assumption
  | exact At.new _ (by first | exact Nat.zero_le _ | omega | (simp only [AH.n_push, AH.n_set]; omega))
  | refine At.push ?_ _
  | refine At.set (by assumption) _
  | refine At.set_ne ?_ _ (by first | assumption | omega | (simp only [AH.n_push, AH.n_set]; omega))
  | refine At.kp (by assumption) ?_ (by first | exact Nat.le_refl _ | exact Nat.zero_le _ | omega)))
local macro_rules | `(tactic| array_mem_dec) => `(tactic| with_reducible first
  | refine wS_seq ?_ | refine wS_asg ?_ | refine wS_par ?_ | refine wS_aug (by with_unfolding_all exact rfl) ?_ | refine wS_ex ?_ | refine wS_ret (by with_unfolding_all exact nofun) ?_ | refine wS_ret0 ?_ | refine wS_ife ?_ | refine wS_brk ?_ | refine wS_cnt ?_ | refine wS_pass ?_ | refine wS_done ?_ | refine wS_for ?_
  | refine seqK_nx ?_ | refine seqK_rt ?_ | refine seqK_bk ?_ | refine seqK_ct ?_ | refine retK_nx ?_ | refine retK_rt ?_ | refine forK_nx ?_ | refine forK_ct ?_ | refine forK_bk ?_ | refine forK_rt ?_
  | refine wE_v (by with_unfolding_all exact rfl) ?_ | refine wE_k ?_ | refine wE_bin ?_ | refine wE_neg ?_ | refine wE_not ?_ | refine wE_and ?_ | refine wE_or ?_ | refine wE_ite ?_ | refine wE_cmp ?_ | refine wE_chain ?_ | refine wE_call ?_ | refine wE_callK ?_ | refine wE_blt ?_ | refine wE_meth ?_ | refine wE_attr ?_ | refine wE_ix ?_ | refine wE_sl ?_ | refine wE_lst ?_ | refine wE_tup ?_ | refine wE_dic ?_ | refine wE_lc ?_
  | refine wA_nil ?_ | refine wA_cons ?_ | refine wA_star ?_
  | refine wT_not ?_ | refine wT_and ?_ | refine wT_or ?_ | refine wT_ite ?_ | refine wT_cmp ?_ | refine wT_chain ?_ | refine wT_no ?_ | refine wT_v (by with_unfolding_all exact rfl) ?_ | refine wT_call ?_ | refine wT_blt ?_ | refine wT_meth ?_ | refine wT_attr ?_ | refine wT_ix ?_
  | refine w_tru_bl ?_
  | refine wP_no ?_ | refine wP_k ?_ | refine wP_v (by with_unfolding_all exact rfl) ?_ | refine wP_neg ?_ | refine wP_bin ?_
  | refine wG_v ?_ | refine wG_tup ?_ | refine wG_attr ?_ | refine wG_ix ?_ | refine wGs_nil ?_ | refine wGs_cons ?_ | refine wU_tup ?_
  | refine wB_add ?_ | refine wB_sub ?_
  | refine wC_lt ?_ | refine wC_le ?_ | refine wC_gt ?_ | refine wC_ge ?_ | refine wC_eqs ?_ | refine wC_nes ?_ | refine wC_eqi ?_ | refine wC_nei ?_ | refine wC_is ?_ | refine wC_isn ?_ | refine wC_in ?_ | refine wC_nin ?_ | refine wN_str ?_
  | refine wF_lenT ?_ | refine wF_abs ?_ | refine wF_max ?_ | refine wF_min ?_ | refine wF_int ?_ | refine wF_intB ?_ | refine wF_tupT ?_ | refine wF_listT ?_ | refine wF_isin_str ?_ | refine wF_isin_int ?_
  | refine wL_tup ?_ | refine wM_str ?_
  | refine wp_pure ?_ | refine wp_bind ?_
  | refine and_len ?_ (by with_unfolding_all exact rfl) | refine par_ok (by with_unfolding_all exact rfl) ?_ | refine int_ok rfl ?_)
local macro_rules | `(tactic| bv_omega) => `(tactic| repeat (first | array_mem_dec | (with_reducible first | refine wp_if_t rfl ?_ | refine wp_if_f rfl ?_)))
local macro_rules | `(tactic| sizeOf_list_dec) => `(tactic| repeat array_mem_dec)
theorem exch_get : ∀ {bs ns : List (List Nat)}, bs.Nodup → ns.length = bs.length → ∃ g : List Nat → List Nat, bs.map g = ns ∧ ∀ w, w ∉ bs → g w = w
  | [], [], _, _ => ⟨id, rfl, fun _ _ => rfl⟩
  | b :: bs, n :: ns, nd, l => by
    rw [List.nodup_cons] at nd
    obtain ⟨g, e, out⟩ := exch_get (bs := bs) (ns := ns) nd.2 (by simpa using l)
    refine ⟨fun w => if w = b then n else g w, ?_, fun w hw => ?_⟩
    · rw [List.map_cons, if_pos rfl, ← e]
      congr 1
      exact List.map_congr_left fun w hw => if_neg fun z : w = b => nd.1 (z ▸ hw)
    · dsimp only
      rw [if_neg fun z : w = b => hw (z ▸ List.mem_cons_self ..)]
      exact out w fun z => hw (List.mem_cons_of_mem _ z)
theorem map_inv {g g' : List Nat → List Nat} {bs : List (List Nat)} (e : (bs.map g).map g' = bs) : ∀ w ∈ bs, g' (g w) = w := by
  intro w hw
  obtain ⟨i, hi, rfl⟩ := List.getElem_of_mem hw
  have : ((bs.map g).map g')[i]? = bs[i]? := by rw [e]
  simpa [hi] using this
theorem chgK_back {room many : Nat} {boxes : List (List Nat)} {g g' : List Nat → List Nat} (hb : ∀ w ∈ boxes, g' (g w) = w) : ∀ {ks : List Nat} {xs : List AV}, PartsOk room boxes many ks xs → chgK 66 g' ks (chgK 66 g ks xs) = xs
  | _, _, .nil => rfl
  | _, _, .cons h r => by
    simp only [chgK]
    rw [chgK_back hb r]
    congr 1
    cases h with
    | b h => simp [hb _ h]
    | n h => rfl
    | q h => rfl
    | l h => rfl
    | k h => rfl
theorem rows_back {room : Nat} {boxes : List (List Nat)} {rows : List (List Nat × List AV)} (R : RdOk FORMS room boxes rows) {g g' : List Nat → List Nat} (hb : ∀ w ∈ boxes, g' (g w) = w) : (rows.map (chgR 66 g)).map (chgR 66 g') = rows := by
  rw [List.map_map]
  conv => rhs; rw [← List.map_id rows]
  refine List.map_congr_left fun r hr => ?_
  obtain ⟨form, ok⟩ := R.rows r hr
  simp only [Function.comp, id]
  unfold chgR
  dsimp only
  rw [formOf_eq ok.look_, chgK_back hb ok.parts]
theorem toD_strs (h : AH) (ws : List (List Nat)) : toD 60 h (.tup (ws.map .str)) = some (.tuple (ws.map fun w => .str ⟨w.toArray⟩)) := by
  show (mapO (toD 59 h) (ws.map AV.str)).map PyData.tuple = _
  rw [mapO_map (k := fun w => PyData.str ⟨w.toArray⟩) fun w _ => toD_str 58 h w]; rfl
theorem eqA_strs {h : AH} {ws : List (List Nat)} (names : ∀ w ∈ ws, NameOk w) : eqA h (.tup (ws.map .str)) (.tup (ws.map .str)) = some true := by
  unfold eqA
  rw [show eqF (.tup (ws.map .str)) (.tup (ws.map .str)) = none from rfl, toD_strs]
  have s0 : (PyData.tuple (ws.map fun w => .str ⟨w.toArray⟩)).canLay0 = true := by
    simp only [PyData.canLay0, canLayAll_strs names]
  have s1 : SeqAt.shaped (.tuple (ws.map fun w => .str ⟨w.toArray⟩)) = true := by
    unfold SeqAt.shaped
    rw [s0]
    simp only [PyData.depth, depthAll_strs]; rfl
  simp only [s1, Bool.and_self, if_true]
  rw [SeqAt.eqv_refl _ s0]
theorem IsRd.up {P : Pg} {R : Rd P} {b c self room : Nat} {h : AH} {boxes : List (List Nat)} {rows : List (List Nat × List AV)} (a : IsRd R b h self room boxes rows) (l : c ≤ self) : IsRd R c h self room boxes rows := let ⟨x, a⟩ := a; ⟨x, l, a.lt, a.get⟩
theorem IsRd.lt {P : Pg} {R : Rd P} {b self room : Nat} {h : AH} {boxes : List (List Nat)} {rows : List (List Nat × List AV)} (a : IsRd R b h self room boxes rows) : self < h.n := let ⟨_, a⟩ := a; a.lt
theorem strs_perm {ys : List AV} {ws : List (List Nat)} (h : ys.Perm (ws.map .str)) : ∃ us : List (List Nat), ys = us.map .str ∧ us.Perm ws := by
  let un : AV → List Nat := fun v => match v with | .str w => w | _ => []
  refine ⟨ys.map un, ?_, ?_⟩
  · rw [List.map_map]
    conv => lhs; rw [← List.map_id ys]
    refine List.map_congr_left fun y hy => ?_
    obtain ⟨w, _, rfl⟩ := List.mem_map.mp (h.mem_iff.mp hy)
    rfl
  · have := h.map un
    rw [List.map_map] at this
    have e : ws.map (un ∘ AV.str) = ws := by
      conv => rhs; rw [← List.map_id ws]
      rfl
    rwa [e] at this
-- pot, own, reader, names, exchanged, due, told
def B_law_is_renamed_right (l_names l_take l_some l_words_changed l_box_spots f_renamed a_text l_reader_text a_boxes : Nat) : S := (.seq (.asg (.v 3) (.call l_names (.cons (.v 0) (.cons (.blt .len (.cons (.ix (.v 1) (.k (.str [98, 111, 120, 101, 115]))) .nil)) .nil)))) (.seq (.ife (.cmp .Eq (.call l_take (.cons (.v 0) (.cons (.k (.int 3)) .nil))) (.k (.int 0))) (.seq (.asg (.v 3) (.call l_some (.cons (.v 0) (.cons (.ix (.v 1) (.k (.str [98, 111, 120, 101, 115]))) (.cons (.blt .len (.cons (.ix (.v 1) (.k (.str [98, 111, 120, 101, 115]))) .nil)) .nil))))) .done) .done) (.seq (.asg (.v 4) (.blt .dict (.cons (.blt .listzip (.cons (.ix (.v 1) (.k (.str [98, 111, 120, 101, 115]))) (.cons (.v 3) .nil))) .nil))) (.seq (.asg (.v 5) (.dic (.cons (.k (.str [114, 111, 111, 109])) (.cons (.ix (.v 1) (.k (.str [114, 111, 111, 109]))) (.cons (.k (.str [98, 111, 120, 101, 115])) (.cons (.v 3) (.cons (.k (.str [114, 111, 119, 115])) (.cons (.call l_words_changed (.cons (.ix (.v 1) (.k (.str [114, 111, 119, 115]))) (.cons (.call l_box_spots .nil) (.cons (.v 4) .nil)))) .nil)))))))) (.seq (.asg (.v 6) (.callK f_renamed [1, 0] .nil (.cons (.blt .tuple (.cons (.v 3) .nil)) (.cons (.v 2) .nil)))) (.seq (.ife (.or (.cmp .NotEq (.attr (.v 6) a_text) (.call l_reader_text (.cons (.v 5) .nil))) (.cmp .NotEq (.attr (.v 6) a_boxes) (.blt .tuple (.cons (.v 3) .nil)))) (.seq (.ret (.k (.bl false))) .done) .done) (.seq (.ret (.cmp .Eq (.attr (.call f_renamed (.cons (.v 6) (.cons (.blt .tuple (.cons (.ix (.v 1) (.k (.str [98, 111, 120, 101, 115]))) .nil)) .nil))) a_text) (.attr (.v 2) a_text))) .done)))))))
abbrev F_law_is_renamed_right (l_names l_take l_some l_words_changed l_box_spots f_renamed a_text l_reader_text a_boxes : Nat) : Fn := ⟨3, 7, B_law_is_renamed_right l_names l_take l_some l_words_changed l_box_spots f_renamed a_text l_reader_text a_boxes⟩
-- pot, own, reader, words, fresh, some, pairs, rows, due
def B_law_is_named_anew_right (l_names l_of l_words_changed f_named_anew a_text l_reader_text : Nat) : S := (.seq (.asg (.v 4) (.call l_names (.cons (.v 0) (.cons (.k (.int 2)) .nil)))) (.seq (.asg (.v 5) (.lst (.cons (.lst (.cons (.tup (.cons (.ix (.v 3) (.k (.int 0))) (.cons (.ix (.v 3) (.k (.int 1))) .nil))) (.cons (.tup (.cons (.ix (.v 3) (.k (.int 1))) (.cons (.ix (.v 3) (.k (.int 0))) .nil))) .nil))) (.cons (.lst (.cons (.tup (.cons (.ix (.v 3) (.k (.int 0))) (.cons (.ix (.v 4) (.k (.int 0))) .nil))) .nil)) (.cons (.lst (.cons (.tup (.cons (.k (.str [110, 111, 115, 117, 99, 104])) (.cons (.ix (.v 4) (.k (.int 0))) .nil))) .nil)) (.cons (.lst .nil) .nil)))))) (.seq (.asg (.v 6) (.call l_of (.cons (.v 0) (.cons (.bin .Add (.v 5) (.lst (.cons (.lst (.cons (.tup (.cons (.ix (.v 3) (.k (.int 0))) (.cons (.ix (.v 4) (.k (.int 0))) .nil))) (.cons (.tup (.cons (.ix (.v 3) (.k (.int 1))) (.cons (.ix (.v 4) (.k (.int 0))) .nil))) .nil))) (.cons (.lst (.cons (.tup (.cons (.ix (.v 3) (.k (.int 1))) (.cons (.ix (.v 3) (.k (.int 1))) .nil))) .nil)) .nil)))) .nil)))) (.seq (.asg (.v 7) (.call l_words_changed (.cons (.ix (.v 1) (.k (.str [114, 111, 119, 115]))) (.cons (.dic (.cons (.k (.str [109, 97, 114, 107])) (.cons (.lst (.cons (.k (.int 1)) .nil)) (.cons (.k (.str [97, 114, 114, 111, 119])) (.cons (.lst (.cons (.k (.int 1)) .nil)) .nil))))) (.cons (.blt .dict (.cons (.v 6) .nil)) .nil))))) (.seq (.asg (.v 8) (.dic (.cons (.k (.str [114, 111, 111, 109])) (.cons (.ix (.v 1) (.k (.str [114, 111, 111, 109]))) (.cons (.k (.str [98, 111, 120, 101, 115])) (.cons (.ix (.v 1) (.k (.str [98, 111, 120, 101, 115]))) (.cons (.k (.str [114, 111, 119, 115])) (.cons (.v 7) .nil)))))))) (.seq (.ret (.cmp .Eq (.attr (.callK f_named_anew [1, 0] .nil (.cons (.blt .ftuple (.cons (.v 6) .nil)) (.cons (.v 2) .nil))) a_text) (.call l_reader_text (.cons (.v 8) .nil)))) .done))))))
abbrev F_law_is_named_anew_right (l_names l_of l_words_changed f_named_anew a_text l_reader_text : Nat) : Fn := ⟨4, 9, B_law_is_named_anew_right l_names l_of l_words_changed f_named_anew a_text l_reader_text⟩
-- own, reader, rows, row, due, told
def B_law_is_turned_right (f_turned a_text l_reader_text : Nat) : S := (.seq (.asg (.v 2) (.lst .nil)) (.seq (.for_ (.v 3) .self (.cons (.ix (.v 0) (.k (.str [114, 111, 119, 115]))) .nil) (.seq (.ex (.meth (.v 2) 0 (.cons (.ite (.cmp .Eq (.ix (.v 3) (.k (.int 0))) (.k (.str [97, 114, 114, 111, 119]))) (.tup (.cons (.ix (.v 3) (.k (.int 0))) (.cons (.ix (.v 3) (.k (.int 1))) (.cons (.ix (.v 3) (.k (.int 3))) (.cons (.ix (.v 3) (.k (.int 2))) (.cons (.ix (.v 3) (.k (.int 4))) .nil)))))) (.v 3)) .nil))) .done)) (.seq (.asg (.v 4) (.dic (.cons (.k (.str [114, 111, 111, 109])) (.cons (.ix (.v 0) (.k (.str [114, 111, 111, 109]))) (.cons (.k (.str [98, 111, 120, 101, 115])) (.cons (.ix (.v 0) (.k (.str [98, 111, 120, 101, 115]))) (.cons (.k (.str [114, 111, 119, 115])) (.cons (.v 2) .nil)))))))) (.seq (.asg (.v 5) (.callK f_turned [0] .nil (.cons (.v 1) .nil))) (.seq (.ret (.and (.cmp .Eq (.attr (.v 5) a_text) (.call l_reader_text (.cons (.v 4) .nil))) (.cmp .Eq (.attr (.call f_turned (.cons (.v 5) .nil)) a_text) (.attr (.v 1) a_text)))) .done)))))
abbrev F_law_is_turned_right (f_turned a_text l_reader_text : Nat) : Fn := ⟨2, 6, B_law_is_turned_right f_turned a_text l_reader_text⟩
/-- the parts of the law, and of the program -/
structure K23 (P : Pg) where
  R : Rd P
  hF : R.F = FORMS
  hgd : P.gd R.g = some FORMS
  (take of_ some_ cells names test row walker reader text wc bs isRen isNew isTurn pot : Nat)
  (rof wbn ren prs nan trn : Nat)
  D : Draw P take
  h_of : P.fn of_ = some (F_law_of take)
  h_some : P.fn some_ = some (F_law_some take)
  h_cells : P.fn cells = some F_law_cells
  h_names : P.fn names = some (F_law_names of_ take)
  h_test : P.fn test = some (F_law_test_row of_ take)
  h_row : P.fn row = some (F_law_row take of_ test)
  h_walker : P.fn walker = some (F_law_walker of_ take)
  h_reader : P.fn reader = some (F_law_reader take names walker row)
  h_text : P.fn text = some F_law_reader_text
  h_wc : P.fn wc = some F_law_words_changed
  h_bs : P.fn bs = some F_law_box_spots
  h_rof : P.fn rof = some (F_reader_of_rows R.c)
  h_wbn : P.fn wbn = some (F_with_boxes_named R.g)
  h_ren : P.fn ren = some (F_renamed R.pBoxes R.isName rof R.pRoom wbn R.pRows)
  h_prs : P.fn prs = some (F_are_pairs R.isName)
  h_nan : P.fn nan = some (F_named_anew prs R.pRows rof R.pRoom R.pBoxes)
  h_trn : P.fn trn = some (F_turned R.pRows rof R.pRoom R.pBoxes)
  h_isRen : P.fn isRen = some (F_law_is_renamed_right names take some_ wc bs ren R.pText text R.pBoxes)
  h_isNew : P.fn isNew = some (F_law_is_named_anew_right names of_ wc nan R.pText text)
  h_isTurn : P.fn isTurn = some (F_law_is_turned_right trn R.pText text)
  h_pot : ∃ k1 k2 k3 k4 k5, P.fn pot = some (F_law_pot k1 k2 k3 k4 k5) ∧ PotOk k1 k2 k3 k4 k5
section
variable {P : Pg} {d f : Nat} {h : AH} {Q : AV → AH → Prop} {p N : Nat}
theorem wF_listzip {cf : CF} {b c p r : Nat} {xs ys : List AV} (a : At b h p (.lst xs)) (a' : At c h r (.lst ys)) (q : Q (.ref h.n) (h.push (.lst ((xs.zip ys).map fun p => .tup [p.1, p.2])))) : wp (bltB P cf .listzip [.ref p, .ref r]) Q h :=
  wF nofun nofun (wp_bind (wp_lstO (wp_bind (wp_lstO (wp_new q) a')) a))
theorem own_push {b ow room r1 r2 : Nat} {h : AH} {boxes : List (List Nat)} {rows : List AV} (a : At b h ow (.dic (ownD room r1 r2))) (a1 : At b h r1 (.lst (boxes.map .str))) (a2 : At b h r2 (.lst rows)) : OwnR b h ow room boxes rows := ⟨_, _, a, a1, a2⟩
theorem is_renamed_right_spec (K : K23 P) (q : PotN p N h) (hN : 400 ≤ N) {ow rd room : Nat} {boxes : List (List Nat)} {rows : List (List Nat × List AV)} (own : OwnR (p + 1) h ow room boxes (rows.map rowAV)) (ok : RdOk FORMS room boxes rows) (few : boxes.length ≤ 26) (is : IsRd K.R (p + 1) h rd room boxes rows)
    (k : ∀ h', Kp (p + 1) h h' → PotN p (N - 400) h' → Q (.bl true) h') : wp (callF P (d + 8) K.isRen [.ref p, .ref ow, .ref rd]) Q h := by
  refine w_call K.h_isRen rfl ?_
  show wp (evS P (callF P (d + 7)) (B_law_is_renamed_right K.names K.take K.some_ K.wc K.bs K.ren K.R.pText K.text K.R.pBoxes) [some (.ref p), some (.ref ow), some (.ref rd), none, none, none, none]) _ _
  unfold B_law_is_renamed_right
  have hp := q.lt
  obtain ⟨rb, rr, ao, ab, ar⟩ := own
  refine wS_seq (wS_asg (wE_call ?_))
  bv_omega
  refine wX_dic ao ownD_ok ownD_boxes ?_
  bv_omega
  refine wF_lenL ?_ ab
  rw [List.length_map]
  bv_omega
  refine names_spec (d := d + 4) K.D K.h_of K.h_names q (m := boxes.length) (by omega) few fun fo ws h1 l1 an ln nd nok k1 n1 q1 => ?_
  refine wG_v (seqK_nx ?_)
  have ao1 := ao.kp k1 (Nat.le_refl _)
  have ab1 := ab.kp k1 (Nat.le_refl _)
  -- the names that are taken
  refine wS_seq (wp_mono (Q := fun fl h' => ∃ (fo : Nat) (ns : List (List Nat)), fl = Fl.nx [some (.ref p), some (.ref ow), some (.ref rd), some (.ref fo), none, none, none] ∧ At (p + 1) h' fo (.lst (ns.map .str)) ∧ ns.length = boxes.length ∧ ns.Nodup ∧ (∀ w ∈ ns, NameOk w) ∧ Kp (p + 1) h h' ∧ PotN p (N - 400) h') ?_ ?_)
  · bv_omega
    refine K.D.spec (d := d + 6) q1 (by omega) (by decide) (by decide) fun r h2 r0 r1 k2 n2 q2 => ?_
    have ao2 := ao1.kp k2 (Nat.le_refl _)
    have ab2 := ab1.kp k2 (Nat.le_refl _)
    bv_omega
    refine wp_if (fun t => ?_) (fun t => ?_)
    · bv_omega
      refine wX_dic ao2 ownD_ok ownD_boxes ?_
      bv_omega
      refine wX_dic ao2 ownD_ok ownD_boxes ?_
      bv_omega
      refine wF_lenL ?_ ab2
      rw [List.length_map]
      bv_omega
      refine some_spec (d := d + 5) K.D K.h_some q2 (m := boxes.length) (by omega) ab2 (by simp; omega) (by simp) fun fo' ys rest h3 l3 a3 pm ly k3 n3 q3 => ?_
      bv_omega
      have lp := pm.length_eq
      rw [List.length_append, List.length_map] at lp
      have hr : rest = [] := List.length_eq_zero_iff.mp (by omega)
      rw [hr, List.append_nil] at pm
      obtain ⟨us, rfl, pu⟩ := strs_perm pm
      exact ⟨_, us, rfl, a3, by rw [← ly, List.length_map], pu.nodup_iff.mpr ok.nd, fun w hw => ok.names w (pu.mem_iff.mp hw), (k1.trans k2).trans k3, q3.weak (by omega)⟩
    · bv_omega
      exact ⟨_, ws, rfl, an.kp k2 (Nat.le_refl _), ln, nd, nok, k1.trans k2, q2.weak (by omega)⟩
  rintro fl h2 ⟨fo2, ns, rfl, a2, ln2, nd2, nok2, k2, q2⟩
  refine seqK_nx ?_
  clear an ln nd nok q1 n1 k1 ao1 ab1 q
  obtain ⟨g, eg, out⟩ := exch_get ok.nd ln2
  obtain ⟨g', eg', _⟩ := exch_get nd2 ln2.symm
  subst eg
  have back := map_inv eg'
  have ao2 := ao.kp k2 (Nat.le_refl _)
  have ab2 := ab.kp k2 (Nat.le_refl _)
  have ar2 := ar.kp k2 (Nat.le_refl _)
  have is2 := is.kp k2 (Nat.le_refl _)
  bv_omega
  refine wX_dic ao2 ownD_ok ownD_boxes ?_
  bv_omega
  have e0 : (boxes.map g).map AV.str = boxes.map fun w => AV.str (g w) := by rw [List.map_map]; rfl
  rw [e0] at a2
  refine wF_listzip ab2 a2 ?_
  rw [zip_two AV.str (fun w => AV.str (g w))]
  bv_omega
  refine wF_dict (At.new (b := 0) _ (Nat.zero_le _)) (ps := dS (fun w => .str (g w)) boxes) pairs_dS keys_dS ?_
  have e1 := putAll_dS (v := fun w => AV.str (g w)) (ws := boxes) (us := []) (by simpa using ok.nd)
  rw [show dS (fun w => AV.str (g w)) [] = [] from rfl, List.nil_append] at e1
  rw [e1]
  have k3 : Kx h2 ((h2.push (.lst (boxes.map fun w => .tup [.str w, .str (g w)]))).push (.dic (dS (fun w => .str (g w)) boxes))) := ((Kp.refl _ _).push _).push _
  have ad3 : At 0 ((h2.push (.lst (boxes.map fun w => .tup [.str w, .str (g w)]))).push (.dic (dS (fun w => .str (g w)) boxes))) (h2.push (.lst (boxes.map fun w => .tup [.str w, .str (g w)]))).n _ := At.new _ (Nat.zero_le _)
  generalize (h2.push (.lst (boxes.map fun w => .tup [.str w, .str (g w)]))).n = dd at ad3
  generalize (h2.push (.lst (boxes.map fun w => .tup [.str w, .str (g w)]))).push (.dic (dS (fun w => .str (g w)) boxes)) = h3 at k3 ad3
  bv_omega
  have k4 := k3.push .tmp
  have at4 : At 0 (h3.push .tmp) h3.n .tmp := At.new _ (Nat.zero_le _)
  have ad4 := ad3.push .tmp
  have lh3 : h2.n ≤ h3.n := k3.le
  generalize h3.push .tmp = h4 at k4 at4 ad4
  refine wX_dic (ao2.kp k4 (Nat.zero_le _)) ownD_ok ownD_room ?_
  bv_omega
  refine wX_dic (ao2.kp k4 (Nat.zero_le _)) ownD_ok ownD_rows ?_
  bv_omega
  refine box_spots_spec (d := d + 6) K.h_bs fun pd h5 kvs l5 k5 a5 sp => ?_
  bv_omega
  have k25 := k4.trans k5
  refine words_changed_spec (d := d + 6) K.h_wc ok (.inl rfl) (ar2.kp k25 (Nat.zero_le _)) a5 sp (ad4.kp k5 (Nat.zero_le _)) (fun w => keyOk_dS) (g := g) (fun w => by
    rw [look_dS]
    by_cases hu : w ∈ boxes
    · rw [if_pos hu]; rfl
    · rw [if_neg hu, out w hu]; rfl) fun fo3 h6 l6 k6 a6 => ?_
  bv_omega
  have k26 := k25.trans k6
  have at6 := (at4.kp k5 (Nat.le_refl _)).kp k6 (Nat.le_refl _)
  refine ⟨_, 0, ?_, rfl, at6, rfl, Nat.le_of_ble_eq_true rfl⟩
  have lf6 : h3.n < fo3 := by have := at4.lt; have := k5.le; omega
  show wp _ _ (h6.set h3.n (.dic (ownD room fo2 fo3)))
  have k27 := k26.set (.dic (ownD room fo2 fo3)) lh3
  have ow7 : OwnR 0 (h6.set h3.n (.dic (ownD room fo2 fo3))) h3.n room (boxes.map g) ((rows.map (chgR 66 g)).map rowAV) := by
    refine own_push (at6.set _) ?_ (a6.set_ne _ (by omega))
    rw [e0]
    exact ((a2.kp k26 (Nat.zero_le _)).set_ne _ (by have := a2.lt; omega)).weak (Nat.zero_le _)
  generalize h6.set h3.n (.dic (ownD room fo2 fo3)) = h7 at k27 ow7
  clear k26 at6 a6 k6 l6 sp a5 k5 l5 k25 at4 ad4 k4 ad3 k3
  have a7 := a2.kp k27 (Nat.zero_le _)
  have is7 := is2.kp k27 (Nat.zero_le _)
  have hn : ∀ w ∈ boxes, NameOk (g w) := fun w hw => nok2 _ (List.mem_map.mpr ⟨w, hw, rfl⟩)
  have okg := ok.box g hn nd2
  rw [← e0] at a7
  bv_omega
  refine wF_tupL ?_ a7
  bv_omega
  refine wp_ofO' rfl ?_
  refine renamed_spec (d := d) K.R K.hF K.hgd K.h_wbn K.h_rof K.h_ren ok is7 hn nd2 fun s' h8 l8 k8 r8 => ?_
  bv_omega
  refine rd_text (d := d + 6) K.R r8 ?_
  bv_omega
  refine reader_text_spec (d := d + 6) K.h_text (ow7.kp k8 (Nat.le_refl _)) okg fun h9 k9 => ?_
  bv_omega
  refine wp_if_f (by simp) ?_
  have r9 := r8.kp k9 (Nat.le_refl _)
  have k79 := k8.trans k9
  bv_omega
  refine rd_boxes (d := d + 6) K.R r9 ?_
  bv_omega
  refine wF_tupL ?_ (a7.kp k79 (Nat.zero_le _))
  refine wC_neA rfl (eqA_strs nok2) ?_
  bv_omega
  have k29 := k27.trans k79
  refine wX_dic (ao2.kp k29 (Nat.zero_le _)) ownD_ok ownD_boxes ?_
  bv_omega
  refine wF_tupL ?_ (ab2.kp k29 (Nat.zero_le _))
  bv_omega
  have eb : ((boxes.map g).map g').map AV.str = boxes.map AV.str := by rw [eg']
  rw [← eb]
  refine renamed_spec (d := d) K.R K.hF K.hgd K.h_wbn K.h_rof K.h_ren okg r9 (g := g') (fun w hw => by
    obtain ⟨u, hu, rfl⟩ := List.mem_map.mp hw
    rw [back u hu]
    exact ok.names u hu) (by rw [eg']; exact ok.nd) fun s2 h10 l10 k10 r10 => ?_
  rw [eg', rows_back ok back] at r10
  refine rd_text (d := d + 6) K.R r10 ?_
  bv_omega
  refine rd_text (d := d + 6) K.R (is7.kp (k79.trans k10) (Nat.zero_le _)) ?_
  bv_omega
  rw [decide_eq_true rfl]
  have kk := k29.trans k10
  exact k _ (k2.trans (Kx.kp kk)) (q2.kx kk)
end
end PM
end
section
set_option maxHeartbeats 400000
/-! PL23: names anew, turned (the law k23). -/
namespace PM
open PySem
local macro_rules | `(tactic| array_get_dec) => `(tactic| repeat' (first
  | assumption
  | exact At.new _ (by first | exact Nat.zero_le _ | omega | (simp only [AH.n_push, AH.n_set]; omega))
  | refine At.push ?_ _
  | refine At.set (by assumption) _
  | refine At.set_ne ?_ _ (by first | assumption | omega | (simp only [AH.n_push, AH.n_set]; omega))
  | refine At.kp (by assumption) ?_ (by first | exact Nat.le_refl _ | exact Nat.zero_le _ | omega)))
local macro_rules | `(tactic| array_mem_dec) => `(tactic| with_reducible first
  | refine wS_seq ?_ | refine wS_asg ?_ | refine wS_par ?_ | refine wS_aug (by with_unfolding_all exact rfl) ?_ | refine wS_ex ?_ | refine wS_ret (by with_unfolding_all exact nofun) ?_ | refine wS_ret0 ?_ | refine wS_ife ?_ | refine wS_brk ?_ | refine wS_cnt ?_ | refine wS_pass ?_ | refine wS_done ?_ | refine wS_for ?_
  | refine seqK_nx ?_ | refine seqK_rt ?_ | refine seqK_bk ?_ | refine seqK_ct ?_ | refine retK_nx ?_ | refine retK_rt ?_ | refine forK_nx ?_ | refine forK_ct ?_ | refine forK_bk ?_ | refine forK_rt ?_
  | refine wE_v (by with_unfolding_all exact rfl) ?_ | refine wE_k ?_ | refine wE_bin ?_ | refine wE_neg ?_ | refine wE_not ?_ | refine wE_and ?_ | refine wE_or ?_ | refine wE_ite ?_ | refine wE_cmp ?_ | refine wE_chain ?_ | refine wE_call ?_ | refine wE_callK ?_ | refine wE_blt ?_ | refine wE_meth ?_ | refine wE_attr ?_ | refine wE_ix ?_ | refine wE_sl ?_ | refine wE_lst ?_ | refine wE_tup ?_ | refine wE_dic ?_ | refine wE_lc ?_
  | refine wA_nil ?_ | refine wA_cons ?_ | refine wA_star ?_
  | refine wT_not ?_ | refine wT_and ?_ | refine wT_or ?_ | refine wT_ite ?_ | refine wT_cmp ?_ | refine wT_chain ?_ | refine wT_no ?_ | refine wT_v (by with_unfolding_all exact rfl) ?_ | refine wT_call ?_ | refine wT_blt ?_ | refine wT_meth ?_ | refine wT_attr ?_ | refine wT_ix ?_
  | refine w_tru_bl ?_
  | refine wP_no ?_ | refine wP_k ?_ | refine wP_v (by with_unfolding_all exact rfl) ?_ | refine wP_neg ?_ | refine wP_bin ?_
  | refine wG_v ?_ | refine wG_tup ?_ | refine wG_attr ?_ | refine wG_ix ?_ | refine wGs_nil ?_ | refine wGs_cons ?_ | refine wU_tup ?_
  | refine wB_add ?_ | refine wB_sub ?_
  | refine wC_lt ?_ | refine wC_le ?_ | refine wC_gt ?_ | refine wC_ge ?_ | refine wC_eqs ?_ | refine wC_nes ?_ | refine wC_eqi ?_ | refine wC_nei ?_ | refine wC_is ?_ | refine wC_isn ?_ | refine wC_in ?_ | refine wC_nin ?_ | refine wN_str ?_
  | refine wF_lenT ?_ | refine wF_abs ?_ | refine wF_max ?_ | refine wF_min ?_ | refine wF_int ?_ | refine wF_intB ?_ | refine wF_tupT ?_ | refine wF_listT ?_ | refine wF_isin_str ?_ | refine wF_isin_int ?_
  | refine wL_tup ?_ | refine wM_str ?_
  | refine wp_pure ?_ | refine wp_bind ?_
  | refine and_len ?_ (by with_unfolding_all exact rfl) | refine par_ok (by with_unfolding_all exact rfl) ?_ | refine int_ok rfl ?_)
local macro_rules | `(tactic| bv_omega) => `(tactic| repeat (first | array_mem_dec | (with_reducible first | refine wp_if_t rfl ?_ | refine wp_if_f rfl ?_)))
local macro_rules | `(tactic| sizeOf_list_dec) => `(tactic| repeat array_mem_dec)
abbrev sNOSUCH : List Nat := [110, 111, 115, 117, 99, 104]
def gg (a b x y w : List Nat) : List Nat := if w = a then x else if w = b then y else w
theorem gg_ok {a b x y : List Nat} (hx : NameOk x) (hy : NameOk y) (w : List Nat) (hw : NameOk w) : NameOk (gg a b x y w) := by
  unfold gg
  split
  · exact hx
  · split
    · exact hy
    · exact hw
theorem gg_out {a b x y w : List Nat} (h1 : w ≠ a) (h2 : w ≠ b) : gg a b x y w = w := by unfold gg; rw [if_neg h1, if_neg h2]
theorem spots78 {b r1 r2 : Nat} {h : AH} (a1 : At b h r1 (.lst [.int 1])) (a2 : At b h r2 (.lst [.int 1])) : SpotsOk 78 b h [(.str sMARK, .ref r1), (.str sARROW, .ref r2)] := by
  refine ⟨fun w => rfl, fun q hq => ?_⟩
  rw [FT_eq] at hq
  simp only [List.mem_cons, List.not_mem_nil, or_false] at hq
  rcases hq with rfl | rfl | rfl | rfl | rfl | rfl | rfl | rfl | rfl | rfl | rfl | rfl | rfl | rfl | rfl <;> first | exact .inr ⟨rfl, rfl⟩ | exact .inl ⟨_, rfl, a1⟩ | exact .inl ⟨_, rfl, a2⟩
theorem two_of {α : Type} {ws : List α} (l : ws.length = 2) : ∃ a b, ws = [a, b] := by
  match ws, l with
  | [a, b], _ => exact ⟨a, b, rfl⟩
theorem names_ok {ws : List (List Nat)} (h : (ws.all fun w => decide (1 ≤ w.length) && decide (w.length ≤ 8) && w.all fun c => decide (c ∈ LET)) = true) : ∀ w ∈ ws, NameOk w := fun w hw => by
  have := List.all_eq_true.mp h w hw
  simp only [Bool.and_eq_true, decide_eq_true_eq, List.all_eq_true] at this
  exact ⟨this.1.1, this.1.2, this.2⟩
/-- pairs that may stand, as a list -/
def PrOk (b : Nat) (h : AH) (x : AV) : Prop := ∃ (r : Nat) (us : List (List Nat)) (g : List Nat → List Nat), x = .ref r ∧ At b h r (.lst (us.map fun u => prAV (u, g u))) ∧ us.length ≤ 10 ∧ us.Nodup ∧ (∀ u ∈ us, NameOk u) ∧ (∀ w, NameOk w → NameOk (g w)) ∧ (∀ w, w ∉ us → g w = w)
theorem prOk2 {b r : Nat} {h : AH} {u v x y : List Nat} (ne : u ≠ v) (hu : NameOk u) (hv : NameOk v) (hx : NameOk x) (hy : NameOk y) (a : At b h r (.lst [prAV (u, x), prAV (v, y)])) : PrOk b h (.ref r) := by
  refine ⟨r, [u, v], gg u v x y, rfl, ?_, by simp, by simp [ne], fun w hw => ?_, gg_ok hx hy, fun w hw => ?_⟩
  · have e1 : gg u v x y u = x := by unfold gg; rw [if_pos rfl]
    have e2 : gg u v x y v = y := by unfold gg; rw [if_neg ne.symm, if_pos rfl]
    simp only [List.map_cons, List.map_nil, e1, e2]
    exact a
  · simp only [List.mem_cons, List.not_mem_nil, or_false] at hw
    rcases hw with rfl | rfl
    · exact hu
    · exact hv
  · simp only [List.mem_cons, List.not_mem_nil, or_false, not_or] at hw
    exact gg_out hw.1 hw.2
theorem prOk1 {b r : Nat} {h : AH} {u x : List Nat} (hu : NameOk u) (hx : NameOk x) (a : At b h r (.lst [prAV (u, x)])) : PrOk b h (.ref r) := by
  refine ⟨r, [u], gg u u x x, rfl, ?_, by simp, by simp, fun w hw => ?_, gg_ok hx hx, fun w hw => ?_⟩
  · have e1 : gg u u x x u = x := by unfold gg; rw [if_pos rfl]
    simp only [List.map_cons, List.map_nil, e1]
    exact a
  · rw [List.mem_singleton.mp hw]; exact hu
  · have := fun z => hw (List.mem_singleton.mpr z)
    exact gg_out this this
theorem prOk0 {b r : Nat} {h : AH} (a : At b h r (.lst [])) : PrOk b h (.ref r) := ⟨r, [], id, rfl, a, by simp, by simp, nofun, fun _ h => h, fun _ _ => rfl⟩
theorem PrOk.kp {b c : Nat} {h h' : AH} {x : AV} (k : Kp c h h') (l : c ≤ b) (a : PrOk b h x) : PrOk b h' x := let ⟨r, us, g, e, a, q⟩ := a; ⟨r, us, g, e, a.kp k l, q⟩
section
variable {P : Pg} {d f : Nat} {h : AH} {Q : AV → AH → Prop} {p N : Nat}
theorem is_named_right_spec (K : K23 P) (q : PotN p N h) (hN : 400 ≤ N) {ow rd wr room : Nat} {boxes : List (List Nat)} {rows : List (List Nat × List AV)} {w0 w1 : List Nat} (own : OwnR (p + 1) h ow room boxes (rows.map rowAV)) (ok : RdOk FORMS room boxes rows) (is : IsRd K.R (p + 1) h rd room boxes rows)
    (aw : At (p + 1) h wr (.lst [.str w0, .str w1])) (ne : w0 ≠ w1) (n0 : NameOk w0) (n1 : NameOk w1)
    (k : ∀ h', Kp (p + 1) h h' → PotN p (N - 400) h' → Q (.bl true) h') : wp (callF P (d + 8) K.isNew [.ref p, .ref ow, .ref rd, .ref wr]) Q h := by
  refine w_call K.h_isNew rfl ?_
  show wp (evS P (callF P (d + 7)) (B_law_is_named_anew_right K.names K.of_ K.wc K.nan K.R.pText K.text) [some (.ref p), some (.ref ow), some (.ref rd), some (.ref wr), none, none, none, none, none]) _ _
  unfold B_law_is_named_anew_right
  have hp := q.lt
  have noS : NameOk sNOSUCH := names_ok (ws := [sNOSUCH]) (by decide) _ (List.mem_singleton_self _)
  bv_omega
  refine names_spec (d := d + 4) K.D K.h_of K.h_names q (m := 2) (by omega) (by decide) fun fo ws h1 l1 an ln nd nok k1 nn1 q1 => ?_
  obtain ⟨f0, f1, rfl⟩ := two_of ln
  have nf0 := nok f0 (by simp)
  bv_omega
  have aw1 := aw.kp k1 (Nat.le_refl _)
  have an1 : At (p + 1) h1 fo (.lst [.str f0, .str f1]) := an
  refine wX_lst (b := p + 1) (xs := [.str w0, .str w1]) (by array_get_dec) (x := .str w0) atI_0 ?_
  bv_omega
  refine wX_lst (b := p + 1) (xs := [.str w0, .str w1]) (by array_get_dec) (x := .str w1) atI_1 ?_
  bv_omega
  refine wX_lst (b := p + 1) (xs := [.str w0, .str w1]) (by array_get_dec) (x := .str w1) atI_1 ?_
  bv_omega
  refine wX_lst (b := p + 1) (xs := [.str w0, .str w1]) (by array_get_dec) (x := .str w0) atI_0 ?_
  bv_omega
  refine wX_lst (b := p + 1) (xs := [.str w0, .str w1]) (by array_get_dec) (x := .str w0) atI_0 ?_
  bv_omega
  refine wX_lst (b := p + 1) (xs := [.str f0, .str f1]) (by array_get_dec) (x := .str f0) atI_0 ?_
  bv_omega
  refine wX_lst (b := p + 1) (xs := [.str f0, .str f1]) (by array_get_dec) (x := .str f0) atI_0 ?_
  bv_omega
  refine wX_lst (b := p + 1) (xs := [.str w0, .str w1]) (by array_get_dec) (x := .str w0) atI_0 ?_
  bv_omega
  refine wX_lst (b := p + 1) (xs := [.str f0, .str f1]) (by array_get_dec) (x := .str f0) atI_0 ?_
  bv_omega
  refine wX_lst (b := p + 1) (xs := [.str w0, .str w1]) (by array_get_dec) (x := .str w1) atI_1 ?_
  bv_omega
  refine wX_lst (b := p + 1) (xs := [.str f0, .str f1]) (by array_get_dec) (x := .str f0) atI_0 ?_
  bv_omega
  refine wX_lst (b := p + 1) (xs := [.str w0, .str w1]) (by array_get_dec) (x := .str w1) atI_1 ?_
  bv_omega
  refine wX_lst (b := p + 1) (xs := [.str w0, .str w1]) (by array_get_dec) (x := .str w1) atI_1 ?_
  bv_omega
  have b0 : At (p + 1) ((((((((h1.push (.lst [.tup [.str w0, .str w1], .tup [.str w1, .str w0]])).push (.lst [.tup [.str w0, .str f0]])).push (.lst [.tup [.str [110, 111, 115, 117, 99, 104], .str f0]])).push (.lst [])).push (.lst [.ref h1.n, .ref (h1.n + 1), .ref (h1.n + 2), .ref (h1.n + 3)])).push (.lst [.tup [.str w0, .str f0], .tup [.str w1, .str f0]])).push (.lst [.tup [.str w1, .str w1]])).push (.lst [.ref (h1.n + 5), .ref (h1.n + 6)])) h1.n (.lst [.tup [.str w0, .str w1], .tup [.str w1, .str w0]]) := by array_get_dec
  have b1 : At (p + 1) ((((((((h1.push (.lst [.tup [.str w0, .str w1], .tup [.str w1, .str w0]])).push (.lst [.tup [.str w0, .str f0]])).push (.lst [.tup [.str [110, 111, 115, 117, 99, 104], .str f0]])).push (.lst [])).push (.lst [.ref h1.n, .ref (h1.n + 1), .ref (h1.n + 2), .ref (h1.n + 3)])).push (.lst [.tup [.str w0, .str f0], .tup [.str w1, .str f0]])).push (.lst [.tup [.str w1, .str w1]])).push (.lst [.ref (h1.n + 5), .ref (h1.n + 6)])) (h1.n + 1) (.lst [.tup [.str w0, .str f0]]) := by array_get_dec
  have b2 : At (p + 1) ((((((((h1.push (.lst [.tup [.str w0, .str w1], .tup [.str w1, .str w0]])).push (.lst [.tup [.str w0, .str f0]])).push (.lst [.tup [.str [110, 111, 115, 117, 99, 104], .str f0]])).push (.lst [])).push (.lst [.ref h1.n, .ref (h1.n + 1), .ref (h1.n + 2), .ref (h1.n + 3)])).push (.lst [.tup [.str w0, .str f0], .tup [.str w1, .str f0]])).push (.lst [.tup [.str w1, .str w1]])).push (.lst [.ref (h1.n + 5), .ref (h1.n + 6)])) (h1.n + 2) (.lst [.tup [.str [110, 111, 115, 117, 99, 104], .str f0]]) := by array_get_dec
  have b3 : At (p + 1) ((((((((h1.push (.lst [.tup [.str w0, .str w1], .tup [.str w1, .str w0]])).push (.lst [.tup [.str w0, .str f0]])).push (.lst [.tup [.str [110, 111, 115, 117, 99, 104], .str f0]])).push (.lst [])).push (.lst [.ref h1.n, .ref (h1.n + 1), .ref (h1.n + 2), .ref (h1.n + 3)])).push (.lst [.tup [.str w0, .str f0], .tup [.str w1, .str f0]])).push (.lst [.tup [.str w1, .str w1]])).push (.lst [.ref (h1.n + 5), .ref (h1.n + 6)])) (h1.n + 3) (.lst []) := by array_get_dec
  have b4 : At (p + 1) ((((((((h1.push (.lst [.tup [.str w0, .str w1], .tup [.str w1, .str w0]])).push (.lst [.tup [.str w0, .str f0]])).push (.lst [.tup [.str [110, 111, 115, 117, 99, 104], .str f0]])).push (.lst [])).push (.lst [.ref h1.n, .ref (h1.n + 1), .ref (h1.n + 2), .ref (h1.n + 3)])).push (.lst [.tup [.str w0, .str f0], .tup [.str w1, .str f0]])).push (.lst [.tup [.str w1, .str w1]])).push (.lst [.ref (h1.n + 5), .ref (h1.n + 6)])) (h1.n + 4) (.lst [.ref h1.n, .ref (h1.n + 1), .ref (h1.n + 2), .ref (h1.n + 3)]) := by array_get_dec
  have b5 : At (p + 1) ((((((((h1.push (.lst [.tup [.str w0, .str w1], .tup [.str w1, .str w0]])).push (.lst [.tup [.str w0, .str f0]])).push (.lst [.tup [.str [110, 111, 115, 117, 99, 104], .str f0]])).push (.lst [])).push (.lst [.ref h1.n, .ref (h1.n + 1), .ref (h1.n + 2), .ref (h1.n + 3)])).push (.lst [.tup [.str w0, .str f0], .tup [.str w1, .str f0]])).push (.lst [.tup [.str w1, .str w1]])).push (.lst [.ref (h1.n + 5), .ref (h1.n + 6)])) (h1.n + 5) (.lst [.tup [.str w0, .str f0], .tup [.str w1, .str f0]]) := by array_get_dec
  have b6 : At (p + 1) ((((((((h1.push (.lst [.tup [.str w0, .str w1], .tup [.str w1, .str w0]])).push (.lst [.tup [.str w0, .str f0]])).push (.lst [.tup [.str [110, 111, 115, 117, 99, 104], .str f0]])).push (.lst [])).push (.lst [.ref h1.n, .ref (h1.n + 1), .ref (h1.n + 2), .ref (h1.n + 3)])).push (.lst [.tup [.str w0, .str f0], .tup [.str w1, .str f0]])).push (.lst [.tup [.str w1, .str w1]])).push (.lst [.ref (h1.n + 5), .ref (h1.n + 6)])) (h1.n + 6) (.lst [.tup [.str w1, .str w1]]) := by array_get_dec
  have b7 : At (p + 1) ((((((((h1.push (.lst [.tup [.str w0, .str w1], .tup [.str w1, .str w0]])).push (.lst [.tup [.str w0, .str f0]])).push (.lst [.tup [.str [110, 111, 115, 117, 99, 104], .str f0]])).push (.lst [])).push (.lst [.ref h1.n, .ref (h1.n + 1), .ref (h1.n + 2), .ref (h1.n + 3)])).push (.lst [.tup [.str w0, .str f0], .tup [.str w1, .str f0]])).push (.lst [.tup [.str w1, .str w1]])).push (.lst [.ref (h1.n + 5), .ref (h1.n + 6)])) (h1.n + 7) (.lst [.ref (h1.n + 5), .ref (h1.n + 6)]) := by array_get_dec
  have kH : Kx h1 ((((((((h1.push (.lst [.tup [.str w0, .str w1], .tup [.str w1, .str w0]])).push (.lst [.tup [.str w0, .str f0]])).push (.lst [.tup [.str [110, 111, 115, 117, 99, 104], .str f0]])).push (.lst [])).push (.lst [.ref h1.n, .ref (h1.n + 1), .ref (h1.n + 2), .ref (h1.n + 3)])).push (.lst [.tup [.str w0, .str f0], .tup [.str w1, .str f0]])).push (.lst [.tup [.str w1, .str w1]])).push (.lst [.ref (h1.n + 5), .ref (h1.n + 6)])) := by repeat (first | exact Kp.refl _ _ | refine Kp.push ?_ _)
  show wp (binA .Add (.ref (h1.n + 4)) (.ref (h1.n + 7))) _ ((((((((h1.push (.lst [.tup [.str w0, .str w1], .tup [.str w1, .str w0]])).push (.lst [.tup [.str w0, .str f0]])).push (.lst [.tup [.str [110, 111, 115, 117, 99, 104], .str f0]])).push (.lst [])).push (.lst [.ref h1.n, .ref (h1.n + 1), .ref (h1.n + 2), .ref (h1.n + 3)])).push (.lst [.tup [.str w0, .str f0], .tup [.str w1, .str f0]])).push (.lst [.tup [.str w1, .str w1]])).push (.lst [.ref (h1.n + 5), .ref (h1.n + 6)]))
  generalize ((((((((h1.push (.lst [.tup [.str w0, .str w1], .tup [.str w1, .str w0]])).push (.lst [.tup [.str w0, .str f0]])).push (.lst [.tup [.str [110, 111, 115, 117, 99, 104], .str f0]])).push (.lst [])).push (.lst [.ref h1.n, .ref (h1.n + 1), .ref (h1.n + 2), .ref (h1.n + 3)])).push (.lst [.tup [.str w0, .str f0], .tup [.str w1, .str f0]])).push (.lst [.tup [.str w1, .str w1]])).push (.lst [.ref (h1.n + 5), .ref (h1.n + 6)])) = h2 at b0 b1 b2 b3 b4 b5 b6 b7 kH
  refine wB_addl ?_ b4 b7 (by simp)
  bv_omega
  have k3 : Kx h1 (h2.push (.lst ([.ref h1.n, .ref (h1.n + 1), .ref (h1.n + 2), .ref (h1.n + 3)] ++ [.ref (h1.n + 5), .ref (h1.n + 6)]))) := kH.push _
  have a3 : At (p + 1) (h2.push (.lst ([.ref h1.n, .ref (h1.n + 1), .ref (h1.n + 2), .ref (h1.n + 3)] ++ [.ref (h1.n + 5), .ref (h1.n + 6)]))) h2.n _ := At.new _ (by have := kH.le; omega)
  have q3 := q1.kx k3
  have po : ∀ x ∈ ([.ref h1.n, .ref (h1.n + 1), .ref (h1.n + 2), .ref (h1.n + 3)] ++ [.ref (h1.n + 5), .ref (h1.n + 6)] : List AV), PrOk (p + 1) h2 x := by
    intro x hx
    simp only [List.cons_append, List.nil_append, List.mem_cons, List.not_mem_nil, or_false] at hx
    rcases hx with rfl | rfl | rfl | rfl | rfl | rfl
    · exact prOk2 ne n0 n1 n1 n0 b0
    · exact prOk1 n0 nf0 b1
    · exact prOk1 noS nf0 b2
    · exact prOk0 b3
    · exact prOk2 ne n0 n1 nf0 nf0 b5
    · exact prOk1 n1 n1 b6
  have po3 : ∀ x ∈ ([.ref h1.n, .ref (h1.n + 1), .ref (h1.n + 2), .ref (h1.n + 3)] ++ [.ref (h1.n + 5), .ref (h1.n + 6)] : List AV), PrOk (p + 1) (h2.push (.lst ([.ref h1.n, .ref (h1.n + 1), .ref (h1.n + 2), .ref (h1.n + 3)] ++ [.ref (h1.n + 5), .ref (h1.n + 6)]))) x := fun x hx => (po x hx).kp ((Kp.refl _ _).push _) (Nat.zero_le _)
  generalize h2.push (.lst ([.ref h1.n, .ref (h1.n + 1), .ref (h1.n + 2), .ref (h1.n + 3)] ++ [.ref (h1.n + 5), .ref (h1.n + 6)])) = h3 at k3 a3 q3 po3
  clear b0 b1 b2 b3 b4 b5 b6 b7 kH po
  generalize h2.n = lo at a3
  generalize h1.n + 4 = so
  refine of_lst (d := d + 5) K.D K.h_of q3 (by omega) a3 (by simp) (by simp) fun x h4 hx k4 nn4 q4 => ?_
  obtain ⟨r, us, g, rfl, ap, l, nd', hu, hg, out⟩ := (po3 x hx).kp k4 (Nat.le_refl _)
  clear po3 a3
  have kk4 : Kp (p + 1) h h4 := (k1.trans (Kx.kp k3)).trans k4
  obtain ⟨rb, rr, ao, ab, ar⟩ := own.kp kk4 (Nat.le_refl _)
  have is4 := is.kp kk4 (Nat.le_refl _)
  bv_omega
  refine wX_dic ao ownD_ok ownD_rows ?_
  bv_omega
  refine ⟨_, 0, ?_, rfl, by array_get_dec, rfl, Nat.le_of_ble_eq_true rfl⟩
  have s1 : At 0 ((((h4.push .tmp).push (.lst [.int 1])).push (.lst [.int 1])).set h4.n (.dic [(.str sMARK, .ref (h4.n + 1)), (.str sARROW, .ref (h4.n + 2))])) (h4.n + 1) (.lst [.int 1]) := by array_get_dec
  have s2 : At 0 ((((h4.push .tmp).push (.lst [.int 1])).push (.lst [.int 1])).set h4.n (.dic [(.str sMARK, .ref (h4.n + 1)), (.str sARROW, .ref (h4.n + 2))])) (h4.n + 2) (.lst [.int 1]) := by array_get_dec
  have s0 : At 0 ((((h4.push .tmp).push (.lst [.int 1])).push (.lst [.int 1])).set h4.n (.dic [(.str sMARK, .ref (h4.n + 1)), (.str sARROW, .ref (h4.n + 2))])) h4.n (.dic [(.str sMARK, .ref (h4.n + 1)), (.str sARROW, .ref (h4.n + 2))]) := At.set (o := .tmp) (by array_get_dec) _
  have k5 : Kx h4 ((((h4.push .tmp).push (.lst [.int 1])).push (.lst [.int 1])).set h4.n (.dic [(.str sMARK, .ref (h4.n + 1)), (.str sARROW, .ref (h4.n + 2))])) := Kp.set (by repeat (first | exact Kp.refl _ _ | refine Kp.push ?_ _)) _ (Nat.le_refl _)
  have sp := spots78 s1 s2
  show wp _ _ ((((h4.push .tmp).push (.lst [.int 1])).push (.lst [.int 1])).set h4.n (.dic [(.str sMARK, .ref (h4.n + 1)), (.str sARROW, .ref (h4.n + 2))]))
  generalize (((h4.push .tmp).push (.lst [.int 1])).push (.lst [.int 1])).set h4.n (.dic [(.str sMARK, .ref (h4.n + 1)), (.str sARROW, .ref (h4.n + 2))]) = h5 at s0 s1 s2 k5 sp
  generalize [(AV.str sMARK, AV.ref (h4.n + 1)), (AV.str sARROW, AV.ref (h4.n + 2))] = kvs at s0 sp
  generalize h4.n = kd at s0
  bv_omega
  have e1 := putAll_dS (v := fun w => AV.str (g w)) (ws := us) (us := []) (by simpa using nd')
  rw [show dS (fun w => AV.str (g w)) [] = [] from rfl, List.nil_append] at e1
  refine wF_dict (ap.kp k5 (Nat.zero_le _)) (ps := dS (fun w => .str (g w)) us) pairs_dS keys_dS ?_
  rw [e1]
  have k6 := k5.push (.dic (dS (fun w => .str (g w)) us))
  have ad6 : At 0 (h5.push (.dic (dS (fun w => .str (g w)) us))) h5.n _ := At.new _ (Nat.zero_le _)
  have s6 := s0.push (.dic (dS (fun w => .str (g w)) us))
  have sp6 : SpotsOk 78 0 (h5.push (.dic (dS (fun w => .str (g w)) us))) kvs := sp.kp ((Kp.refl 0 _).push _) (Nat.le_refl _)
  generalize h5.push (.dic (dS (fun w => .str (g w)) us)) = h6 at k6 ad6 s6 sp6
  generalize h5.n = dd at ad6
  bv_omega
  refine words_changed_spec (d := d + 6) K.h_wc ok (.inr rfl) (ar.kp k6 (Nat.zero_le _)) s6 sp6 ad6 (fun w => keyOk_dS) (g := g) (fun w => by
    rw [look_dS]
    by_cases hu : w ∈ us
    · rw [if_pos hu]; rfl
    · rw [if_neg hu, out w hu]; rfl) fun fo3 h7 l7 k7 a7 => ?_
  have k47 := k6.trans k7
  bv_omega
  refine wX_dic (ao.kp (k47.push _) (Nat.zero_le _)) ownD_ok ownD_room ?_
  bv_omega
  refine wX_dic (ao.kp (k47.push _) (Nat.zero_le _)) ownD_ok ownD_boxes ?_
  bv_omega
  have at8 : At 0 (h7.push .tmp) h7.n .tmp := At.new _ (Nat.zero_le _)
  refine ⟨_, 0, ?_, rfl, at8, rfl, Nat.le_of_ble_eq_true rfl⟩
  show wp _ _ ((h7.push .tmp).set h7.n (.dic (ownD room rb fo3)))
  have k8 : Kx h4 ((h7.push .tmp).set h7.n (.dic (ownD room rb fo3))) := (k47.push .tmp).set _ k47.le
  have ow8 : OwnR 0 ((h7.push .tmp).set h7.n (.dic (ownD room rb fo3))) h7.n room boxes ((rows.map (chgR 78 g)).map rowAV) := by
    refine own_push (at8.set _) ?_ ((a7.push _).set_ne _ (by have := a7.lt; omega))
    have ab7 := ab.kp k47 (Nat.zero_le _)
    exact ((ab7.push _).set_ne _ (by have := ab7.lt; omega)).weak (Nat.zero_le _)
  generalize (h7.push .tmp).set h7.n (.dic (ownD room rb fo3)) = h8 at k8 ow8
  generalize h7.n = due at ow8
  bv_omega
  refine wF nofun nofun (wp_bind (wp_lstO ?_ (ap.kp k8 (Nat.zero_le _))))
  refine wp_new ?_
  have k9 := k8.push (.ftup (us.map fun u => prAV (u, g u)))
  have ap9 : At 0 (h8.push (.ftup (us.map fun u => prAV (u, g u)))) h8.n _ := At.new _ (Nat.zero_le _)
  have ow9 := ow8.push (.ftup (us.map fun u => prAV (u, g u)))
  generalize h8.push (.ftup (us.map fun u => prAV (u, g u))) = h9 at k9 ap9 ow9
  generalize h8.n = fp at ap9
  bv_omega
  refine wp_ofO' rfl ?_
  refine named_anew_spec (d := d) K.R K.hF K.h_prs K.h_rof K.h_nan ok (is4.kp k9 (Nat.zero_le _)) ap9 l nd' hu hg out fun s' h10 l10 k10 r10 => ?_
  refine rd_text (d := d + 6) K.R r10 ?_
  bv_omega
  refine reader_text_spec (d := d + 6) K.h_text (ow9.kp k10 (Nat.le_refl _)) (ok.name hg) fun h11 k11 => ?_
  bv_omega
  rw [decide_eq_true rfl]
  have kk := (k9.trans k10).trans k11
  exact k _ (kk4.trans (Kx.kp kk)) ((q4.kx kk).weak (by omega))
end
end PM
end
section
set_option maxHeartbeats 400000
/-! PL24: turned, the whole law k23. -/
namespace PM
open PySem
local macro_rules | `(tactic| array_get_dec) => `(tactic| repeat' (first
  | assumption
  | exact At.new _ (by first | exact Nat.zero_le _ | omega | (simp only [AH.n_push, AH.n_set]; omega))
  | refine At.push ?_ _
  | refine At.set (by assumption) _
  | refine At.set_ne ?_ _ (by first | assumption | omega | (simp only [AH.n_push, AH.n_set]; omega))
  | refine At.kp (by assumption) ?_ (by first | exact Nat.le_refl _ | exact Nat.zero_le _ | omega)))
local macro_rules | `(tactic| array_mem_dec) => `(tactic| with_reducible first
  | refine wS_seq ?_ | refine wS_asg ?_ | refine wS_par ?_ | refine wS_aug (by with_unfolding_all exact rfl) ?_ | refine wS_ex ?_ | refine wS_ret (by with_unfolding_all exact nofun) ?_ | refine wS_ret0 ?_ | refine wS_ife ?_ | refine wS_brk ?_ | refine wS_cnt ?_ | refine wS_pass ?_ | refine wS_done ?_ | refine wS_for ?_
  | refine seqK_nx ?_ | refine seqK_rt ?_ | refine seqK_bk ?_ | refine seqK_ct ?_ | refine retK_nx ?_ | refine retK_rt ?_ | refine forK_nx ?_ | refine forK_ct ?_ | refine forK_bk ?_ | refine forK_rt ?_
  | refine wE_v (by with_unfolding_all exact rfl) ?_ | refine wE_k ?_ | refine wE_bin ?_ | refine wE_neg ?_ | refine wE_not ?_ | refine wE_and ?_ | refine wE_or ?_ | refine wE_ite ?_ | refine wE_cmp ?_ | refine wE_chain ?_ | refine wE_call ?_ | refine wE_callK ?_ | refine wE_blt ?_ | refine wE_meth ?_ | refine wE_attr ?_ | refine wE_ix ?_ | refine wE_sl ?_ | refine wE_lst ?_ | refine wE_tup ?_ | refine wE_dic ?_ | refine wE_lc ?_
  | refine wA_nil ?_ | refine wA_cons ?_ | refine wA_star ?_
  | refine wT_not ?_ | refine wT_and ?_ | refine wT_or ?_ | refine wT_ite ?_ | refine wT_cmp ?_ | refine wT_chain ?_ | refine wT_no ?_ | refine wT_v (by with_unfolding_all exact rfl) ?_ | refine wT_call ?_ | refine wT_blt ?_ | refine wT_meth ?_ | refine wT_attr ?_ | refine wT_ix ?_
  | refine w_tru_bl ?_
  | refine wP_no ?_ | refine wP_k ?_ | refine wP_v (by with_unfolding_all exact rfl) ?_ | refine wP_neg ?_ | refine wP_bin ?_
  | refine wG_v ?_ | refine wG_tup ?_ | refine wG_attr ?_ | refine wG_ix ?_ | refine wGs_nil ?_ | refine wGs_cons ?_ | refine wU_tup ?_
  | refine wB_add ?_ | refine wB_sub ?_
  | refine wC_lt ?_ | refine wC_le ?_ | refine wC_gt ?_ | refine wC_ge ?_ | refine wC_eqs ?_ | refine wC_nes ?_ | refine wC_eqi ?_ | refine wC_nei ?_ | refine wC_is ?_ | refine wC_isn ?_ | refine wC_in ?_ | refine wC_nin ?_ | refine wN_str ?_
  | refine wF_lenT ?_ | refine wF_abs ?_ | refine wF_max ?_ | refine wF_min ?_ | refine wF_int ?_ | refine wF_intB ?_ | refine wF_tupT ?_ | refine wF_listT ?_ | refine wF_isin_str ?_ | refine wF_isin_int ?_
  | refine wL_tup ?_ | refine wM_str ?_
  | refine wp_pure ?_ | refine wp_bind ?_
  | refine and_len ?_ (by with_unfolding_all exact rfl) | refine par_ok (by with_unfolding_all exact rfl) ?_ | refine int_ok rfl ?_)
local macro_rules | `(tactic| bv_omega) => `(tactic| repeat (first | array_mem_dec | (with_reducible first | refine wp_if_t rfl ?_ | refine wp_if_f rfl ?_)))
local macro_rules | `(tactic| sizeOf_list_dec) => `(tactic| repeat array_mem_dec)
-- pot, words, own, exchanged, rows, reader, name
def B_law_right_k23 (l_names l_reader l_take l_words_changed l_box_spots c_0 l_reader_text l_is_renamed_right l_is_named_anew_right l_is_turned_right : Nat) : S := (.seq (.asg (.v 1) (.call l_names (.cons (.v 0) (.cons (.k (.int 2)) .nil)))) (.seq (.asg (.v 2) (.call l_reader (.cons (.v 0) (.cons (.k (.int 3)) (.cons (.k (.int 3)) (.cons (.k (.int 9)) (.cons (.v 1) (.cons (.v 1) .nil)))))))) (.seq (.ife (.and (.cmp .NotEq (.ix (.v 2) (.k (.str [98, 111, 120, 101, 115]))) (.lst .nil)) (.cmp .Eq (.call l_take (.cons (.v 0) (.cons (.k (.int 4)) .nil))) (.k (.int 0)))) (.seq (.asg (.v 3) (.ite (.cmp .NotIn (.ix (.v 1) (.k (.int 0))) (.ix (.v 2) (.k (.str [98, 111, 120, 101, 115])))) (.dic (.cons (.ix (.ix (.v 2) (.k (.str [98, 111, 120, 101, 115]))) (.k (.int 0))) (.cons (.ix (.v 1) (.k (.int 0))) .nil))) (.blt .edict .nil))) (.seq (.asg (.v 4) (.call l_words_changed (.cons (.ix (.v 2) (.k (.str [114, 111, 119, 115]))) (.cons (.call l_box_spots .nil) (.cons (.v 3) .nil))))) (.seq (.asg (.v 2) (.dic (.cons (.k (.str [114, 111, 111, 109])) (.cons (.ix (.v 2) (.k (.str [114, 111, 111, 109]))) (.cons (.k (.str [98, 111, 120, 101, 115])) (.cons (.lc (.meth (.v 3) 3 (.cons (.v 6) (.cons (.v 6) .nil))) (.v 6) .self (.cons (.ix (.v 2) (.k (.str [98, 111, 120, 101, 115]))) .nil) .no [6]) (.cons (.k (.str [114, 111, 119, 115])) (.cons (.v 4) .nil)))))))) .done))) .done) (.seq (.asg (.v 5) (.new c_0 (.cons (.call l_reader_text (.cons (.v 2) .nil)) .nil))) (.seq (.ife (.or (.not (.call l_is_renamed_right (.cons (.v 0) (.cons (.v 2) (.cons (.v 5) .nil))))) (.not (.call l_is_named_anew_right (.cons (.v 0) (.cons (.v 2) (.cons (.v 5) (.cons (.v 1) .nil))))))) (.seq (.ret (.k (.bl false))) .done) .done) (.seq (.ret (.call l_is_turned_right (.cons (.v 2) (.cons (.v 5) .nil)))) .done))))))
abbrev F_law_right_k23 (l_names l_reader l_take l_words_changed l_box_spots c_0 l_reader_text l_is_renamed_right l_is_named_anew_right l_is_turned_right : Nat) : Fn := ⟨1, 7, B_law_right_k23 l_names l_reader l_take l_words_changed l_box_spots c_0 l_reader_text l_is_renamed_right l_is_named_anew_right l_is_turned_right⟩
-- script, pots, lap, place, pot
def B_law_k23 (l_pot l_cells l_right : Nat) : S := (.seq (.asg (.v 1) (.lc (.call l_pot (.cons (.v 0) (.cons (.v 3) .nil))) (.v 3) .self (.cons (.call l_cells (.cons (.v 0) (.cons (.k (.int 3)) .nil))) .nil) .no [3])) (.seq (.ret (.blt .all (.cons (.lc (.blt .all (.cons (.lc (.call l_right (.cons (.v 4) .nil)) (.v 2) .range (.cons (.k (.int 2)) .nil) .no [2]) .nil)) (.v 4) .self (.cons (.v 1) .nil) .no [4]) .nil))) .done))
abbrev F_law_k23 (l_pot l_cells l_right : Nat) : Fn := ⟨1, 5, B_law_k23 l_pot l_cells l_right⟩
section
variable {P : Pg} {d f : Nat} {h : AH} {Q : AV → AH → Prop} {p N : Nat}
theorem is_turned_right_spec (K : K23 P) {b c ow rd room : Nat} {boxes : List (List Nat)} {rows : List (List Nat × List AV)} (own : OwnR b h ow room boxes (rows.map rowAV)) (ok : RdOk FORMS room boxes rows) (is : IsRd K.R c h rd room boxes rows)
    (k : ∀ h', Kx h h' → Q (.bl true) h') : wp (callF P (d + 8) K.isTurn [.ref ow, .ref rd]) Q h := by
  have most := ok.most
  refine w_call K.h_isTurn rfl ?_
  show wp (evS P (callF P (d + 7)) (B_law_is_turned_right K.trn K.R.pText K.text) [some (.ref ow), some (.ref rd), none, none, none, none]) _ _
  unfold B_law_is_turned_right
  obtain ⟨rb, rr, ao, ab, ar⟩ := own
  bv_omega
  have k1 : Kx h (h.push (.lst [])) := (Kp.refl _ _).push _
  have al1 : At 0 (h.push (.lst [])) h.n (.lst (((rows.take 0).map turnR).map rowAV)) := At.new _ (Nat.zero_le _)
  generalize h.push (.lst []) = h1 at k1 al1
  refine wX_dic (ao.kp k1 (Nat.zero_le _)) ownD_ok ownD_rows ?_
  bv_omega
  have ar1 := ar.kp k1 (Nat.zero_le _)
  refine wK_lst ?_ ar1
  have ms : Src.most (.lst rr) h1 = (rows.map rowAV).length := by simp only [Src.most, ar1.get]
  rw [ms]
  refine wp_for (xs := rows.map rowAV) (fun i σ h' => ∃ v3 : Option AV, σ = [some (.ref ow), some (.ref rd), some (.ref h.n), v3, none, none] ∧ Kx h h' ∧ At 0 h' h.n (.lst (((rows.take i).map turnR).map rowAV)))
    (fun i σ h' j => by obtain ⟨_, _, kk, _⟩ := j; exact Src.is_lst (ar.kp kk (Nat.zero_le _))) ?_ ?_ _ 0 _ _ (Nat.zero_add _) ⟨_, rfl, k1, al1⟩
  · rintro i x σ h' hx ⟨v2, rfl, kk, al⟩
    rw [List.getElem?_map] at hx
    obtain ⟨r, hr', rfl⟩ := Option.map_eq_some_iff.mp hx
    obtain ⟨form, okr⟩ := ok.rows r (List.mem_of_getElem? hr')
    have e2 : ((rows.take i).map turnR).map rowAV ++ [rowAV (turnR r)] = ((rows.take (i + 1)).map turnR).map rowAV := by
      rw [List.take_succ, hr']
      simp
    have ln : (((rows.take i).map turnR).map rowAV).length ≤ 1000 := by
      simp only [List.length_map, List.length_take]
      omega
    bv_omega
    refine wM_lst ?_ al
    bv_omega
    refine wX_tup atI_0 ?_
    bv_omega
    by_cases t : r.1 = sARROW
    · obtain ⟨kw, parts⟩ := r
      cases t
      obtain ⟨n, x, y, l, rfl, rfl, _⟩ := arrow_parts okr
      refine wp_if_t (decide_eq_true rfl) ?_
      bv_omega
      refine wX_tup atI_0 ?_
      bv_omega
      refine wX_tup (x := n) rfl ?_
      bv_omega
      refine wX_tup (x := y) rfl ?_
      bv_omega
      refine wX_tup (x := x) rfl ?_
      bv_omega
      refine wX_tup (x := l) rfl ?_
      bv_omega
      refine wm_app ?_ al (by omega)
      bv_omega
      have e3 : AV.tup [.str [97, 114, 114, 111, 119], n, y, x, l] = rowAV (turnR (sARROW, [n, x, y, l])) := rfl
      rw [e3, e2]
      exact ⟨_, rfl, kk.set _ (Nat.le_refl _), al.set _⟩
    · refine wp_if_f (decide_eq_false (fun z => t z)) ?_
      bv_omega
      refine wm_app ?_ al (by omega)
      bv_omega
      have e3 : rowAV r = rowAV (turnR r) := by unfold turnR; rw [if_neg t]
      rw [e3, e2]
      exact ⟨_, rfl, kk.set _ (Nat.le_refl _), al.set _⟩
  · rintro σ h' ⟨v2, rfl, kk, al⟩
    rw [List.length_map, List.take_length] at al
    bv_omega
    refine wX_dic (ao.kp (kk.push _) (Nat.zero_le _)) ownD_ok ownD_room ?_
    bv_omega
    refine wX_dic (ao.kp (kk.push _) (Nat.zero_le _)) ownD_ok ownD_boxes ?_
    bv_omega
    have at8 : At 0 (h'.push .tmp) h'.n .tmp := At.new _ (Nat.zero_le _)
    refine ⟨_, 0, ?_, rfl, at8, rfl, Nat.le_of_ble_eq_true rfl⟩
    show wp _ _ ((h'.push .tmp).set h'.n (.dic (ownD room rb h.n)))
    have k8 : Kx h ((h'.push .tmp).set h'.n (.dic (ownD room rb h.n))) := (kk.push .tmp).set _ kk.le
    have ow8 : OwnR 0 ((h'.push .tmp).set h'.n (.dic (ownD room rb h.n))) h'.n room boxes ((rows.map turnR).map rowAV) := by
      refine own_push (at8.set _) ?_ ((al.push _).set_ne _ (by have := al.lt; omega))
      have ab7 := ab.kp kk (Nat.zero_le _)
      exact ((ab7.push _).set_ne _ (by have := ab7.lt; omega)).weak (Nat.zero_le _)
    generalize (h'.push .tmp).set h'.n (.dic (ownD room rb h.n)) = h8 at k8 ow8
    generalize h'.n = due at ow8
    have is8 := is.kp k8 (Nat.zero_le _)
    bv_omega
    refine wp_ofO' rfl ?_
    refine turned_spec (d := d) K.R K.hF K.h_rof K.h_trn ok is8 fun s' h10 l10 k10 r10 => ?_
    bv_omega
    refine rd_text (d := d + 6) K.R r10 ?_
    bv_omega
    refine reader_text_spec (d := d + 6) K.h_text (ow8.kp k10 (Nat.le_refl _)) ok.turn fun h11 k11 => ?_
    bv_omega
    refine wp_if_t (decide_eq_true rfl) ?_
    bv_omega
    refine turned_spec (d := d) K.R K.hF K.h_rof K.h_trn ok.turn (r10.kp k11 (Nat.le_refl _)) fun s2 h12 l12 k12 r12 => ?_
    have e5 : (rows.map turnR).map turnR = rows := by
      rw [List.map_map]
      conv => rhs; rw [← List.map_id rows]
      exact List.map_congr_left fun r _ => turnR_turnR r
    rw [e5] at r12
    refine rd_text (d := d + 6) K.R r12 ?_
    bv_omega
    have k112 := (k10.trans k11).trans k12
    refine rd_text (d := d + 6) K.R (is8.kp k112 (Nat.zero_le _)) ?_
    bv_omega
    rw [decide_eq_true rfl]
    exact k _ (k8.trans k112)
theorem law_right_spec (K : K23 P) (hf : P.fn f = some (F_law_right_k23 K.names K.reader K.take K.wc K.bs K.R.c K.text K.isRen K.isNew K.isTurn)) (q : PotN p N h) (hN : 2000 ≤ N) (k : ∀ h', Kp (p + 1) h h' → PotN p (N - 2000) h' → Q (.bl true) h') : wp (callF P (d + 9) f [.ref p]) Q h := by
  refine w_call hf rfl ?_
  show wp (evS P (callF P (d + 8)) (B_law_right_k23 K.names K.reader K.take K.wc K.bs K.R.c K.text K.isRen K.isNew K.isTurn) [some (.ref p), none, none, none, none, none, none]) _ _
  unfold B_law_right_k23
  have hp := q.lt
  bv_omega
  refine names_spec (d := d + 5) K.D K.h_of K.h_names q (m := 2) (by omega) (by decide) fun wr ws h1 l1 aw ln nd nok k1 nn1 q1 => ?_
  obtain ⟨w0, w1, rfl⟩ := two_of ln
  have n0 := nok w0 (by simp)
  have n1 := nok w1 (by simp)
  have ne : w0 ≠ w1 := by simpa using nd
  bv_omega
  refine reader_spec (d := d + 3) (R := 3) (B := 3) (M := 9) K.D K.h_of K.h_names K.h_test K.h_row K.h_walker K.h_reader q1 (by omega) (by decide) (by decide) (by decide) (by decide) (by decide) aw aw (by simp) (by simp) nok nok fun o1 room boxes rows1 h2 l2 own2 ok2 k2 nn2 q2 => ?_
  obtain ⟨rs, er, rd⟩ := ok2.rd (by decide) (by decide) (by decide)
  have few := ok2.few
  subst er
  refine wG_v (seqK_nx ?_)
  have aw2 := aw.kp k2 (Nat.le_refl _)
  have k12 := k1.trans k2
  clear q1 k1 k2 l2 ok2 l1 nn1 aw
  refine wS_seq (wp_mono (Q := fun fl h' => ∃ (ow : Nat) (boxes : List (List Nat)) (rs : List (List Nat × List AV)) (v3 v4 : Option AV), fl = Fl.nx [some (.ref p), some (.ref wr), some (.ref ow), v3, v4, none, none] ∧ OwnR (p + 1) h' ow room boxes (rs.map rowAV) ∧ RdOk FORMS room boxes rs ∧ boxes.length ≤ 3 ∧ At (p + 1) h' wr (.lst ([w0, w1].map .str)) ∧ Kp (p + 1) h h' ∧ PotN p (N - 200) h') ?_ ?_)
  · obtain ⟨rb, rr, ao, ab, ar⟩ := own2
    refine wS_ife (wT_and (wT_cmp ?_))
    bv_omega
    refine wX_dic ao ownD_ok ownD_boxes ?_
    bv_omega
    have ab' := ab.push (.lst [])
    have e0 : At 0 (h2.push (.lst [])) h2.n (.lst []) := At.new _ (Nat.zero_le _)
    refine wC_neA (own_lst ab') (eqA_nil rd.names ab' e0) ?_
    have k2' : Kx h2 (h2.push (.lst [])) := (Kp.refl _ _).push _
    have q2' := q2.push (.lst [])
    generalize h2.push (.lst []) = h3 at k2' q2' ab'
    have aw3 := aw2.kp k2' (Nat.zero_le _)
    have ao3 := ao.kp k2' (Nat.zero_le _)
    have ar3 := ar.kp k2' (Nat.zero_le _)
    by_cases hb : boxes = []
    · have hd : (!decide (boxes = [])) = false := by simp [hb]
      refine wp_if_f hd ?_
      bv_omega
      exact ⟨_, boxes, rs, none, none, rfl, ⟨rb, rr, ao3, ab', ar3⟩, rd, few, aw3, k12.trans (Kx.kp k2'), q2'.weak (by omega)⟩
    · have hd : (!decide (boxes = [])) = true := by simp [hb]
      refine wp_if_t hd ?_
      bv_omega
      refine K.D.spec (d := d + 7) q2' (by omega) (by decide) (by decide) fun r h4 r0 r1 k4 nn4 q4 => ?_
      have aw4 := aw3.kp k4 (Nat.le_refl _)
      have ao4 := ao3.kp k4 (Nat.le_refl _)
      have ar4 := ar3.kp k4 (Nat.le_refl _)
      have ab4 := ab'.kp k4 (Nat.le_refl _)
      have kk4 := (k12.trans (Kx.kp k2')).trans k4
      bv_omega
      refine wp_if (fun t => ?_) (fun t => ?_)
      · obtain ⟨b0, bs, rfl⟩ := List.exists_cons_of_ne_nil hb
        have lp : p + 1 ≤ h4.n := by have := kk4.le; omega
        refine wS_seq (wS_asg (wp_mono (Q := fun x h' => ∃ (nd : Nat) (kvs : List (AV × AV)) (g : List Nat → List Nat), x = .ref nd ∧ At (p + 1) h' nd (.dic kvs) ∧ (∀ w, keyOk kvs (.str w) = true) ∧ (∀ w, (look kvs (.str w)).getD (.str w) = .str (g w)) ∧ (∀ w ∈ b0 :: bs, NameOk (g w)) ∧ ((b0 :: bs).map g).Nodup ∧ Kx h4 h') ?_ ?_))
        · bv_omega
          refine wX_lst aw4 (x := .str w0) atI_0 ?_
          bv_omega
          refine wX_dic ao4 ownD_ok ownD_boxes ?_
          bv_omega
          refine wN_lst inS_strs ?_ ab4
          by_cases hw : w0 ∈ b0 :: bs
          · refine wp_if_f (by simp [hw]) ?_
            bv_omega
            refine wF_edict ?_
            exact ⟨_, [], id, rfl, At.new _ lp, fun w => rfl, fun w => rfl, rd.names, by rw [List.map_id]; exact rd.nd, (Kp.refl _ _).push _⟩
          · refine wp_if_t (by simp [hw]) ?_
            bv_omega
            refine wX_dic (ao4.push _) ownD_ok ownD_boxes ?_
            bv_omega
            refine wX_lst (ab4.push _) (x := .str b0) atI_0 ?_
            bv_omega
            refine wX_lst (aw4.push _) (x := .str w0) atI_0 ?_
            bv_omega
            have at5 : At (p + 1) (h4.push .tmp) h4.n .tmp := At.new _ lp
            refine ⟨_, p + 1, ?_, rfl, at5, rfl, Nat.le_of_ble_eq_true rfl⟩
            refine ⟨_, _, fun w => if w = b0 then w0 else w, rfl, at5.set _, fun w => rfl, fun w => ?_, fun w hw => ?_, ?_, ((Kp.refl _ _).push _).set _ (Nat.le_refl _)⟩
            · show (look (dS (fun _ => AV.str w0) [b0]) (.str w)).getD (.str w) = _
              rw [look_dS]
              by_cases e : w = b0
              · simp [e]
              · simp [e]
            · dsimp only
              split
              · exact n0
              · exact rd.names w hw
            · have nd := rd.nd
              rw [List.nodup_cons] at nd
              rw [List.map_cons, if_pos rfl]
              have eb : bs.map (fun w => if w = b0 then w0 else w) = bs := by
                conv => rhs; rw [← List.map_id bs]
                exact List.map_congr_left fun w hw => if_neg fun z : w = b0 => nd.1 (z ▸ hw)
              rw [eb, List.nodup_cons]
              exact ⟨fun z => hw (List.mem_cons_of_mem _ z), nd.2⟩
        · rintro x h5 ⟨xd, kvs, g, rfl, ad, okk, hg, gn, gd, k5⟩
          have kk5 := kk4.trans (Kx.kp k5)
          have aw5 := aw4.kp k5 (Nat.zero_le _)
          have ao5 := ao4.kp k5 (Nat.zero_le _)
          have ar5 := ar4.kp k5 (Nat.zero_le _)
          have ab5 := ab4.kp k5 (Nat.zero_le _)
          have lp5 : p + 1 ≤ h5.n := by have := k5.le; omega
          bv_omega
          refine wX_dic ao5 ownD_ok ownD_rows ?_
          bv_omega
          refine box_spots_spec (d := d + 7) K.h_bs fun pd h6 kvs6 l6 k6 a6 sp => ?_
          bv_omega
          refine words_changed_spec (d := d + 7) K.h_wc rd (.inl rfl) (ar5.kp k6 (Nat.zero_le _)) a6 sp (ad.kp k6 (Nat.zero_le _)) okk hg fun fo3 h7 l7 k7 a7 => ?_
          have k57 := k6.trans k7
          have a7' : At (p + 1) h7 fo3 _ := ⟨by have := k6.le; omega, a7.lt, a7.get⟩
          bv_omega
          refine wX_dic (ao5.kp (k57.push _) (Nat.zero_le _)) ownD_ok ownD_room ?_
          bv_omega
          have at8 : At (p + 1) (h7.push .tmp) h7.n .tmp := At.new _ (by have := k57.le; omega)
          have k58 := k57.push .tmp
          have a8 := a7'.push .tmp
          have lf7 := a7.lt
          have e8 : (h7.push .tmp).n = h7.n + 1 := rfl
          have lh7 := k57.le
          generalize h7.push .tmp = h8 at at8 k58 a8 e8
          refine wX_dic (ao5.kp k58 (Nat.zero_le _)) ownD_ok ownD_boxes ?_
          bv_omega
          refine wK_lst ?_ (ab5.kp k58 (Nat.zero_le _))
          have ms : Src.most (.lst rb) h8 = ((b0 :: bs).map AV.str).length := by simp only [Src.most, (ab5.kp k58 (Nat.zero_le _)).get]
          rw [ms]
          refine wp_lc_map (fun v => match v with | .str w => .str (g w) | y => y) (by simp only [List.length_map]; omega) (fun h' kk => Src.is_lst ((ab5.kp k58 (Nat.zero_le _)).kp kk (Nat.zero_le _))) ?_ ?_ rfl
          · intro i x h9 hx k9
            rw [List.getElem?_map] at hx
            obtain ⟨w, hw', rfl⟩ := Option.map_eq_some_iff.mp hx
            bv_omega
            refine wM_dic ?_ ((ad.kp k58 (Nat.zero_le _)).kp k9 (Nat.zero_le _))
            bv_omega
            refine wm_get2 ((ad.kp k58 (Nat.zero_le _)).kp k9 (Nat.zero_le _)) (okk _) ?_
            rw [hg]
            bv_omega
            exact ⟨Kp.refl _ _, rfl⟩
          · intro h9 k9 a9
            have e9 : ((b0 :: bs).map AV.str).map (fun v => match v with | .str w => .str (g w) | y => y) = ((b0 :: bs).map g).map AV.str := by
              rw [List.map_map, List.map_map]; rfl
            rw [e9] at a9
            bv_omega
            have at9 := at8.kp k9 (Nat.zero_le _)
            refine ⟨_, _, ?_, rfl, at9, rfl, Nat.le_of_ble_eq_true rfl⟩
            bv_omega
            have kk9 : Kx h5 (h9.set h7.n (.dic (ownD room h8.n fo3))) := (k58.trans k9).set _ lh7
            have a9' : At (p + 1) h9 h8.n _ := ⟨by omega, a9.lt, a9.get⟩
            refine ⟨h7.n, (b0 :: bs).map g, rs.map (chgR 66 g), _, _, rfl, own_push (at9.set _) (a9'.set_ne _ (by omega)) ((a8.kp k9 (Nat.zero_le _)).set_ne _ (by omega)), rd.box g gn gd, by rw [List.length_map]; exact few, aw5.kp kk9 (Nat.zero_le _), kk5.trans (Kx.kp kk9), ((q4.kx k5).kx kk9).weak (by omega)⟩
      · bv_omega
        exact ⟨_, boxes, rs, none, none, rfl, ⟨rb, rr, ao4, ab4, ar4⟩, rd, few, aw4, kk4, q4.weak (by omega)⟩
  rintro fl h3 ⟨ow, boxes, rs, v3, v4, rfl, own, rd, few, aw, k3, q3⟩
  clear own2 q2 k12 aw2
  have lh3 := k3.le
  bv_omega
  refine newA_spec (d := d + 3) K.R (K.hF ▸ rd) ?_
  bv_omega
  refine reader_text_spec (d := d + 7) K.h_text own rd fun h4 k4 => ?_
  refine ⟨rfl, fun h5 k5 r5 => ?_⟩
  have k35 := k4.trans k5
  have own5 := own.kp k35 (Nat.zero_le _)
  have aw5 := aw.kp k35 (Nat.zero_le _)
  have kk5 := k3.trans (Kx.kp k35)
  have q5 := q3.kx k35
  have is5 : IsRd K.R (p + 1) h5 h4.n room boxes rs := r5.up (by have := k4.le; omega)
  bv_omega
  refine is_renamed_right_spec (d := d) K q5 (by omega) own5 rd (by omega) is5 fun h6 k6 q6 => ?_
  have own6 := own5.kp k6 (Nat.le_refl _)
  have aw6 := aw5.kp k6 (Nat.le_refl _)
  have is6 := is5.kp k6 (Nat.le_refl _)
  bv_omega
  refine is_named_right_spec (d := d) K q6 (by omega) own6 rd is6 aw6 ne n0 n1 fun h7 k7 q7 => ?_
  bv_omega
  refine is_turned_right_spec (d := d) K (own6.kp k7 (Nat.le_refl _)) rd (is6.kp k7 (Nat.le_refl _)) fun h8 k8 => ?_
  bv_omega
  exact k _ (((kk5.trans k6).trans k7).trans (Kx.kp k8)) ((q7.kx k8).weak (by omega))
theorem wp_lcG {src : Src} {turn : AV → M (Option AV)} {xs : List AV} {Q : AV → AH → Prop} {D : Nat} (J : Nat → List AV → AH → Prop) (hl : xs.length < 16777216)
    (is : ∀ i acc h, J i acc h → src.Is h xs)
    (step : ∀ i x acc h, xs[i]? = some x → J i acc h → wp (turn x) (fun o h' => match o with | none => J (i + 1) acc h' | some y => At 0 h' D (.lst acc) ∧ J (i + 1) (acc ++ [y]) (h'.set D (.lst (acc ++ [y])))) h)
    (done : ∀ acc h, J xs.length acc h → Q (.ref D) h) : ∀ (f i : Nat) (acc : List AV) (h : AH), i + f = xs.length → acc.length ≤ i → J i acc h → wp (lcLoop src D turn f i) Q h
  | 0, i, acc, h, hi, ha, j => by
    refine ⟨.ref D, h, ?_, done acc h (by rw [← hi]; exact j)⟩
    unfold lcLoop
    rw [bind_ok (is i acc h j i (by omega)), List.getElem?_eq_none (by omega)]; rfl
  | f + 1, i, acc, h, hi, ha, j => by
    unfold lcLoop
    have h0 : i < xs.length := by omega
    refine wp_bind ⟨_, _, is i acc h j i (by omega), ?_⟩
    rw [List.getElem?_eq_getElem h0]
    refine wp_bind (wp_mono (step i _ acc h (List.getElem?_eq_getElem h0) j) fun o h' q => ?_)
    cases o with
    | none => exact wp_lcG J hl is step done f (i + 1) acc h' (by omega) (by omega) q
    | some y =>
      refine wp_bind (wp_lstW (wp_bind (wp_guard (wp_bind (wp_setO ?_)) (by simp; omega))) q.1)
      exact wp_lcG J hl is step done f (i + 1) (acc ++ [y]) _ (by omega) (by simp; omega) q.2
theorem At.ne {b p r : Nat} {h h' : AH} {o : AObj} (k : Kp (p + 1) h h') (a : At b h r o) (l : r ≠ p) : At b h' r o := ⟨a.lo, Nat.lt_of_lt_of_le a.lt k.le, by rw [k.keep r (by omega) a.lt]; exact a.get⟩
theorem PotN.ne {p q N : Nat} {h h' : AH} (k : Kp (p + 1) h h') (a : PotN q N h) (l : q ≠ p) : PotN q N h' := let ⟨x, y, z, a⟩ := a; ⟨x, y, z, a.at_.ne k l, a.a0, a.ab, a.b0, a.bb, a.c0, a.cN⟩
theorem law_k23_spec (K : K23 P) {fr fl : Nat} (hr : P.fn fr = some (F_law_right_k23 K.names K.reader K.take K.wc K.bs K.R.c K.text K.isRen K.isNew K.isTurn)) (hf : P.fn fl = some (F_law_k23 K.pot K.cells fr)) {ns : List Int} (hns : ∀ z ∈ ns, PySem.Builtin.Int.intBits z ≤ 1048576) (hl : ns.length ≤ 63) (a : At 0 h 0 (.ro (.lst (ns.map .int)))) : wp (callF P (d + 10) fl [.ref 0]) (fun v _ => v = .bl true) h := by
  refine w_call hf rfl ?_
  show wp (evS P (callF P (d + 9)) (B_law_k23 K.pot K.cells fr) [some (.ref 0), none, none, none, none]) _ _
  unfold B_law_k23
  obtain ⟨k1, k2, k3, k4, k5, hpot, pok⟩ := K.h_pot
  bv_omega
  refine cells_spec (m := 3) (d := d + 8) K.h_cells a (by decide) fun j hj => ?_
  have al : At 0 (h.push (.lst ((List.range j).map fun k => .int (k : Nat)))) h.n (.lst ((List.range j).map fun k => .int (k : Nat))) := At.new _ (Nat.zero_le _)
  have a1 := a.push (.lst ((List.range j).map fun k => .int (k : Nat)))
  generalize h.push (.lst ((List.range j).map fun k => .int (k : Nat))) = h1 at al a1
  generalize h.n = rl at al
  bv_omega
  refine wK_lst ?_ al
  have ms : Src.most (.lst rl) h1 = ((List.range j).map fun k => AV.int (k : Nat)).length := by simp only [Src.most, al.get]
  rw [ms]
  refine wp_lcJ (hs := h1) (b := 0) (xs := (List.range j).map fun k => .int (k : Nat)) (fun i acc h' => ∃ L : List Nat, acc = L.map .ref ∧ L.length ≤ i ∧ L.Nodup ∧ ∀ p ∈ L, h1.n < p ∧ PotN p 5000 h') (Nat.zero_le _) (by simp; omega) (fun i acc h k _ => Src.is_lst (al.kp k (Nat.le_refl _))) ?_ ?_ ?_ _ 0 [] _ (Nat.zero_add _) (Nat.zero_le _) ((Kp.refl _ _).push _) (At.new _ (Nat.zero_le _)) ⟨[], rfl, Nat.le_refl _, List.nodup_nil, nofun⟩
  · rintro i acc h7 oo lt ⟨L, e, le, nd, hL⟩
    refine ⟨L, e, le, nd, fun x hx => ⟨(hL x hx).1, ?_⟩⟩
    obtain ⟨a, b, c, q⟩ := (hL x hx).2
    exact ⟨a, b, c, q.at_.set_ne _ (by have := (hL x hx).1; omega), q.a0, q.ab, q.b0, q.bb, q.c0, q.cN⟩
  · rintro i x acc h7 hx k7 a7 ⟨L, rfl, le, nd, hL⟩
    rw [List.getElem?_map] at hx
    obtain ⟨pl, hp, rfl⟩ := Option.map_eq_some_iff.mp hx
    have hpl : pl < j := List.mem_range.mp (List.mem_of_getElem? hp)
    bv_omega
    refine pot_spec (N := 5000) (d := d + 8) hpot pok (a1.kp k7 (Nat.le_refl _)) hns hl (by omega) (by decide) fun p h8 hp0 hp1 k8 q8 => ?_
    bv_omega
    refine ⟨k8, L ++ [p], by simp, by simp; omega, ?_, fun x hx => ?_⟩
    · rw [List.nodup_append]
      refine ⟨nd, by simp, fun x hx y hy => ?_⟩
      rw [List.mem_singleton.mp hy]
      have := (hL x hx).2.lt
      omega
    · rcases List.mem_append.mp hx with hx | hx
      · exact ⟨(hL x hx).1, (hL x hx).2.kx k8⟩
      · rw [List.mem_singleton.mp hx]
        exact ⟨by have := a7.lt; omega, q8⟩
  · rintro acc h7 k7 a7 ⟨L, rfl, le, nd, hL⟩
    have lt7 := a7.lt
    rw [List.length_map, List.length_range] at le
    bv_omega
    refine wK_lst ?_ a7
    have ms : Src.most (.lst h1.n) h7 = (L.map AV.ref).length := by simp only [Src.most, a7.get]
    rw [ms]
    refine wp_lcG (D := h7.n) (xs := L.map .ref) (fun i acc h' => acc = (List.replicate i true).map .bl ∧ At 0 h' h7.n (.lst acc) ∧ At 0 h' h1.n (.lst (L.map .ref)) ∧ ∀ p ∈ L.drop i, PotN p 5000 h') (by simp; omega) (fun i acc h' j => Src.is_lst j.2.2.1) ?_ ?_ _ 0 [] _ (Nat.zero_add _) (Nat.zero_le _) ⟨rfl, At.new _ (Nat.zero_le _), a7.push _, fun p hp => ((hL p hp).2.push _)⟩
    · rintro i x acc h8 hx ⟨rfl, a8, al8, hq⟩
      rw [List.getElem?_map] at hx
      obtain ⟨p, hp, rfl⟩ := Option.map_eq_some_iff.mp hx
      have hi : i < L.length := (List.getElem?_eq_some_iff.mp hp).1
      have ep : L[i] = p := (List.getElem?_eq_some_iff.mp hp).2
      have hpm : p ∈ L := List.mem_of_getElem? hp
      have hd : L.drop i = p :: L.drop (i + 1) := by rw [← ep]; exact List.drop_eq_getElem_cons hi
      have qp : PotN p 5000 h8 := hq p (by rw [hd]; exact List.mem_cons_self ..)
      have pgt := (hL p hpm).1
      have plt := (hL p hpm).2.lt
      have nd2 : p ∉ L.drop (i + 1) := by
        have := nd.sublist (List.drop_sublist i L)
        rw [hd, List.nodup_cons] at this
        exact this.1
      bv_omega
      refine wK_range ?_ ⟨by decide, by decide⟩
      have lr : rangeA 0 2 = [.int 0, .int 1] := rfl
      rw [lr]
      show wp (lcLoop _ h8.n _ 2 0) _ _
      have p8 := qp.lt
      refine wp_lcJ (hs := h8) (b := p + 1) (xs := [.int 0, .int 1]) (fun i acc h' => acc = (List.replicate i true).map .bl ∧ PotN p (5000 - 2000 * i) h') (by omega) (by simp) (fun _ _ _ _ _ => Src.is_fix _ _) (fun i acc h' o lt ⟨e, q⟩ => ⟨e, q.set _ p8⟩) ?_ ?_ _ 0 [] _ rfl (Nat.zero_le _) ((Kp.refl _ _).push _) (At.new _ (by omega)) ⟨rfl, qp.push _⟩
      · rintro j y acc h9 hy k9 a9 ⟨rfl, q9⟩
        have hj : j < 2 := (List.getElem?_eq_some_iff.mp hy).1
        bv_omega
        refine law_right_spec (d := d) K hr q9 (by omega) fun h10 k10 q10 => ?_
        bv_omega
        refine ⟨k10, ?_, q10.weak (by omega)⟩
        rw [List.replicate_succ']
        simp
      · rintro acc h9 k9 a9 ⟨rfl, q9⟩
        bv_omega
        refine wF_all a9 (bls_map _) ?_
        rw [all_replicate]
        bv_omega
        have a8' := a8.ne k9 (by omega)
        refine ⟨a8', ?_, a8'.set _, (al8.ne k9 (by omega)).set_ne _ (by omega), fun q hq' => ?_⟩
        · rw [List.replicate_succ']
          simp
        · have hqL : q ∈ L := List.mem_of_mem_drop hq'
          exact ((hq q (by rw [hd]; exact List.mem_cons_of_mem _ hq')).ne k9 (fun e => nd2 (e ▸ hq'))).set _ (hL q hqL).2.lt
    · rintro acc h8 ⟨rfl, a8, _, _⟩
      bv_omega
      refine wF_all a8 (bls_map _) ?_
      rw [all_replicate]
      bv_omega
      rfl
end
end PM
end
section
set_option maxHeartbeats 0
namespace K23
open PM PySem
def zr : S := .raise 0 .nil
def rd : Rd D.pg where
  isName := 0
  numberIn := 1
  wordsIn := 2
  linesIn := 3
  roomIn := 4
  boxesIn := 5
  partIn := 6
  kindsIn := 7
  rowIn := 8
  readReader := 9
  coded := 10
  init := 11
  text := 12
  room := 13
  boxes := 14
  rows := 15
  len := 16
  eq := 17
  c := 0
  g := 0
  aRoom := 0
  aBoxes := 1
  aRows := 2
  aText := 3
  aCodes := 4
  pText := 5
  pRoom := 6
  pBoxes := 7
  pRows := 8
  z1 := zr
  z2 := zr
  z3 := zr
  z4 := zr
  z5 := zr
  cl := c0.2
  F := FORMS
  h_isName := by kernel_rfl
  h_numberIn := by kernel_rfl
  h_wordsIn := by kernel_rfl
  h_linesIn := by kernel_rfl
  h_roomIn := by kernel_rfl
  h_boxesIn := by kernel_rfl
  h_partIn := by kernel_rfl
  h_kindsIn := by kernel_rfl
  h_rowIn := by kernel_rfl
  h_readReader := by kernel_rfl
  h_coded := by kernel_rfl
  h_init := by kernel_rfl
  h_text := by kernel_rfl
  h_room := by kernel_rfl
  h_boxes := by kernel_rfl
  h_rows := by kernel_rfl
  h_len := by kernel_rfl
  h_eq := by kernel_rfl
  h_g := by kernel_rfl
  okF := fun _ => rfl
  h_c := by kernel_rfl
  c_init := rfl
  c_eq := rfl
  c_len := rfl
  c_flds := by decide
  c_nd := by decide
  c_text := rfl
  c_room := rfl
  c_boxes := rfl
  c_rows := rfl
def kk : K23 D.pg where
  R := rd
  hF := rfl
  hgd := by kernel_rfl
  take := 25
  of_ := 26
  some_ := 27
  cells := 28
  names := 29
  test := 30
  row := 31
  walker := 32
  reader := 33
  text := 34
  wc := 35
  bs := 36
  isRen := 37
  isNew := 38
  isTurn := 39
  pot := 24
  rof := 18
  wbn := 19
  ren := 20
  prs := 21
  nan := 22
  trn := 23
  D := ⟨98621, 673, 10357, 89, 173, by kernel_rfl, by decide, by decide, by decide, by decide, by decide⟩
  h_of := by kernel_rfl
  h_some := by kernel_rfl
  h_cells := by kernel_rfl
  h_names := by kernel_rfl
  h_test := by kernel_rfl
  h_row := by kernel_rfl
  h_walker := by kernel_rfl
  h_reader := by kernel_rfl
  h_text := by kernel_rfl
  h_wc := by kernel_rfl
  h_bs := by kernel_rfl
  h_rof := by kernel_rfl
  h_wbn := by kernel_rfl
  h_ren := by kernel_rfl
  h_prs := by kernel_rfl
  h_nan := by kernel_rfl
  h_trn := by kernel_rfl
  h_isRen := by kernel_rfl
  h_isNew := by kernel_rfl
  h_isTurn := by kernel_rfl
  h_pot := ⟨1303, 667, 73553, 8419, 691, by kernel_rfl, by decide, by decide, by decide, by decide, by decide⟩
theorem right_fn : D.pg.fn 40 = some (F_law_right_k23 kk.names kk.reader kk.take kk.wc kk.bs kk.R.c kk.text kk.isRen kk.isNew kk.isTurn) := by kernel_rfl
theorem law_fn : D.pg.fn 41 = some (F_law_k23 kk.pot kk.cells 40) := by kernel_rfl
theorem plain : ∀ ns : List Int, ns.length ≤ 63 → (∀ z ∈ ns, PySem.Builtin.Int.intBits z ≤ 1048576) → ∃ h', PM.callF K23.D.pg 20 41 [.ref 0] (PM.h0 ns) = .ok (.bl true) h' := by
  intro ns hl hb
  obtain ⟨v, h', e, rfl⟩ := law_k23_spec (d := 10) kk right_fn law_fn hb hl (At.new (h := AH.empty) (b := 0) _ (Nat.zero_le _))
  exact ⟨h', e⟩
end K23
end
set_option maxHeartbeats 0
open PySem PySem.W PySem.Calls PyProof.Rows in
theorem PySem.Challenge.cw_contraryrolls_k23_readers_named_anew_and_holds : PySem.Challenge.rw_contraryrolls_k23_readers_named_anew_and.Holds := by
  w_on; o_law
  refine HandSHeadRun.head_any (r := OpenLaw.row PySem.Challenge.rw_contraryrolls_k23_readers_named_anew_and) (q := view (OpenLaw.row PySem.Challenge.rw_contraryrolls_k23_readers_named_anew_and).prog [79]) (H := K23.D.hook 5) (ob := K23.ob) (M := 7800) (loose := K23.names) (d := HandSHeadRun.topDef (OpenLaw.row PySem.Challenge.rw_contraryrolls_k23_readers_named_anew_and).prog 79) (kwd := []) K23.ob_eq
    (by kernel_rfl) (fun s => by kernel_rfl) K23.run (by kernel_rfl) (by kernel_rfl) (by kernel_rfl) (by rfl) (by first | assumption | decide +kernel) (by decide +kernel) ⟨rfl, rfl, rfl, rfl, rfl, by decide +kernel⟩ ?hw ?hc
  case hw => w_witness2
  case hc =>
    exact PM.walk_PM (D := K23.D) (l := PySem.Challenge.rw_contraryrolls_k23_readers_named_anew_and) (n := 63) (dp := 20) (m := 5) (L := 41) (dl := K23.d41) rfl (by decide) (by kernel_rfl) ⟨rfl, by decide, by decide⟩ K23.bd rfl (by kernel_rfl) (by kernel_rfl) K23.plain

