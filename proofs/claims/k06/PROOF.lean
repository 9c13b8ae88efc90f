import PyProof.Rows.All
import HandS.ForMost
import HandS.ForExc
import HandS.More
import HandS.Iter
import HandS.Wide
import HandS.IsInst
import HandS.TupAny
import HandS.TupMul
import HandS.Deep
import HandS.Text
import HandS.Flow
import HandS.Conv
import HandS.SortInts
import HandS.Comp
import HandS.Replace
import HandS.CallRecv
import HandS.SetFor
import HandS.Remove
import HandS.Zip
import HandS.Walk
import HandS.Rev
import KE.GoesMore
import KE.GoesEnum
import HandS.Style
import HandS.ExcIs
import HandS.ExcField
import HandS.TryOnly
import HandS.NoneIn
import KE.KTryMore
import HandS.TryMany
import HandS.Defaults
import HandS.ExcOwn
import HandS.ExcInit
import HandS.ExcSuper
import KE.KSuper
import KE.KExcSuper
import HandS.Head0
import HandS.Head1
import HandS.Head2
import HandS.HeadEnd
import HandS.HeadHook1
import HandS.HeadHook2
import HandS.EndBits
import HandS.Codes
import PySem.Challenge.RW_meetstores_k06_whole_polynomials
import HandS.HeadHook4
import KE.BitLaws
set_option Elab.async false
set_option linter.all false
set_option maxRecDepth 100000
set_option maxHeartbeats 0
/-! The evaluator: values as trees, a small heap, the text as a tree of its own. -/
namespace EV
open PySem

inductive D where
  | non | bl (b : Bool) | int (i : Int) | str (x : List Nat) | tup (l : List D) | lst (l : List D) | ref (n : Nat) | fn (f : Nat) | exc (c : Nat) (d : D)
instance : Inhabited D := ⟨.non⟩
/-- a dict's key -/
inductive DK where
  | i (n : Int) | s (x : List Nat)
  deriving DecidableEq
inductive O where
  | lst (l : List D) | dK (kvs : List (DK × D)) | dT (kvs : List (List DK × D)) | ins (c : Nat) (fs : List (Nat × D))
instance : Inhabited O := ⟨.lst []⟩
/-- the heap; los: below these places nothing younger may be stored -/
structure Hh where
  objs : List O
  los : List Nat
inductive Res (α : Type) where
  | stk | err (c : Nat) (d : D) (h : Hh) | ok (a : α) (h : Hh)
abbrev M (α : Type) := Hh → Res α
@[reducible] def M.pure {α : Type} (a : α) : M α := fun h => .ok a h
def M.bind {α β : Type} (m : M α) (f : α → M β) : M β := fun h => match m h with
  | .stk => .stk
  | .err c d h' => .err c d h'
  | .ok a h' => f a h'
instance : Monad M where
  pure := M.pure
  bind := M.bind
theorem bind_def {α β : Type} (m : M α) (f : α → M β) (h : Hh) : (m >>= f) h = (match m h with
  | .stk => Res.stk
  | .err c d h' => Res.err c d h'
  | .ok a h' => f a h') := rfl
theorem bind_ok {α β : Type} {m : M α} {f : α → M β} {h h' : Hh} {a : α} (e : m h = .ok a h') : (m >>= f) h = f a h' := by rw [bind_def, e]
theorem bind_stk {α β : Type} {m : M α} {f : α → M β} {h : Hh} (e : m h = .stk) : (m >>= f) h = .stk := by rw [bind_def, e]
theorem bind_err {α β : Type} {m : M α} {f : α → M β} {h h' : Hh} {c : Nat} {d : D} (e : m h = .err c d h') : (m >>= f) h = .err c d h' := by rw [bind_def, e]
theorem bind_assoc' {α β γ : Type} (m : M α) (f : α → M β) (g : β → M γ) : (m >>= f) >>= g = m >>= fun a => f a >>= g := by
  funext h
  cases e : m h with
  | stk => rw [bind_stk (bind_stk e), bind_stk e]
  | err c d h' => rw [bind_err (bind_err e), bind_err e]
  | ok a h' => rw [bind_ok e, bind_def, bind_ok e, bind_def]
theorem pure_bind' {α β : Type} (a : α) (f : α → M β) : ((pure a : M α) >>= f) = f a := rfl
theorem bind_pure' {α : Type} (m : M α) : (m >>= fun a => (pure a : M α)) = m := by
  funext h
  cases e : m h with
  | stk => rw [bind_stk e]
  | err c d h' => rw [bind_err e]
  | ok a h' => rw [bind_ok e]; rfl
def stuck {α : Type} : M α := fun _ => .stk
def liftO {α : Type} (o : Option α) : M α := fun h => match o with
  | some a => .ok a h
  | none => .stk

inductive BOp where
  | add | sub | mul | fdiv | mod | pow | shl | shr | band | bxor
  deriving DecidableEq
inductive COp where
  | eq | ne | lt | le | gt | ge | is | isn | mem | nmem
  deriving DecidableEq
/-- built-in functions -/
inductive Bif where
  | len | abs | max | min | int | str | tuple | list | sum | sorted | range
  deriving DecidableEq
/-- methods of built-in types -/
inductive Met where
  | append | index | join | pop | keys | get | count | remove | split | partition
  deriving DecidableEq
/-- the types that isinstance is asked about -/
inductive Ty where
  | int | bool | str | tuple | list | dict
  deriving DecidableEq

inductive E where
  | loc (i : Nat) | con (d : D) | glo (g : Nat) | fnv (f : Nat)
  | nil | cons (a r : E)
  | tup (a : E) | lst (a : E) | mk (a : E)
  | bin (o : BOp) (a b : E)
  | cmp (o : COp) (a b : E) | chn (o o' : COp) (a b c : E)
  | neg (a : E) | not (a : E) | and (a b : E) | or (a b : E) | ite (c a b : E)
  | idx (a b : E) | slc (a lo hi : E)
  | call (f : Nat) (a : E)
  | bif (b : Bif) (a : E)
  | met (m : Met) (o a : E)
  | six (o a : E) | joi (o a : E) | clv (i n : Nat) (a : E) | lrn (a : E) | rem (o a : E)
  | isi (a : E) (t : List Ty)
  | sq (a : E) | rng1 (a : E) | rng2 (a b : E) | enm (a : E) | zip (a b : E) | rev (a : E) | rng3 (a b c : E)
  | comp (elt : E) (tg : E) (it : E) (ifs : E) (own : List Nat)

/-! ### data -/
mutual
/-- data alone: no objects -/
def okD : D → Bool
  | .tup l => okL l
  | .lst l => okL l
  | .ref _ => false
  | .fn _ => false
  | .exc _ _ => false
  | .non => true
  | .bl _ => true
  | .int _ => true
  | .str _ => true
def okL : List D → Bool
  | [] => true
  | d :: r => okD d && okL r
end
mutual
def dep : D → Nat
  | .tup l => depL l + 1
  | .lst l => depL l + 1
  | .ref _ => 0
  | .fn _ => 0
  | .exc _ _ => 0
  | .non => 0
  | .bl _ => 0
  | .int _ => 0
  | .str _ => 0
def depL : List D → Nat
  | [] => 0
  | d :: r => Nat.max (dep d) (depL r)
end
mutual
/-- == of data -/
def eqD : D → D → Bool
  | .non, .non => true
  | .bl a, .bl b => a == b
  | .bl a, .int j => (if a then 1 else 0) == j
  | .int i, .bl b => i == (if b then 1 else 0)
  | .int i, .int j => i == j
  | .str x, .str y => x == y
  | .tup a, .tup b => eqL a b
  | .lst a, .lst b => eqL a b
  | _, _ => false
def eqL : List D → List D → Bool
  | [], [] => true
  | x :: xs, y :: ys => eqD x y && eqL xs ys
  | _, _ => false
end
mutual
/-- every object is younger than .. : all its places lie below k -/
def below (k : Nat) : D → Bool
  | .tup l => belowL k l
  | .lst l => belowL k l
  | .ref n => decide (n < k)
  | .fn _ => true
  | .exc _ _ => true
  | .non => true
  | .bl _ => true
  | .int _ => true
  | .str _ => true
def belowL (k : Nat) : List D → Bool
  | [] => true
  | d :: r => below k d && belowL k r
end
def belowO (k : Nat) : O → Bool
  | .lst l => belowL k l
  | .dK kvs => belowL k (kvs.map (·.2))
  | .dT kvs => belowL k (kvs.map (·.2))
  | .ins _ fs => belowL k (fs.map (·.2))

/-! ### the heap -/
def alloc (o : O) : M D := fun h => .ok (.ref h.objs.length) ⟨h.objs ++ [o], h.los⟩
def getO (n : Nat) : M O := fun h => match h.objs[n]? with
  | some o => .ok o h
  | none => .stk
def okW (los : List Nat) (n : Nat) (o : O) : Bool := belowO (n + 1) o || los.all fun lo => decide (lo ≤ n) || belowO lo o
def setO (n : Nat) (o : O) : M Unit := fun h => if okW h.los n o then .ok () ⟨h.objs.set n o, h.los⟩ else .stk
/-- a list that stands in the heap, as a list -/
def deref (h : Hh) : D → D
  | .ref n => (match h.objs[n]? with
    | some (.lst l) => .lst l
    | _ => .ref n)
  | d => d
def derefM (d : D) : M D := fun h => .ok (deref h d) h

mutual
/-- what is handed back: younger lists become lists -/
def frz (objs : List O) (k : Nat) : D → Option D
  | .tup l => (frzL objs k l).map .tup
  | .lst l => (frzL objs k l).map .lst
  | .ref n => if n < k then some (.ref n) else match objs[n]? with
    | some (.lst l) => if belowL k l then some (.lst l) else none
    | _ => none
  | .fn f => some (.fn f)
  | .exc _ _ => none
  | .non => some .non
  | .bl b => some (.bl b)
  | .int i => some (.int i)
  | .str x => some (.str x)
def frzL (objs : List O) (k : Nat) : List D → Option (List D)
  | [] => some []
  | d :: r => match frz objs k d with
    | some e => (match frzL objs k r with
      | some s => some (e :: s)
      | none => none)
    | none => none
end
/-- a def's frame: what it made is let go -/
def frame (gc : Bool) (m : M D) : M D := fun h => match gc with
  | false => m h
  | true => (match m ⟨h.objs, h.objs.length :: h.los⟩ with
    | .stk => .stk
    | .err c d h' => if decide (h'.los = h.objs.length :: h.los) then (match frz h'.objs h.objs.length d with
      | some e => .err c e ⟨h'.objs.take h.objs.length, h.los⟩
      | none => .stk) else .stk
    | .ok d h' => if decide (h'.los = h.objs.length :: h.los) then (match frz h'.objs h.objs.length d with
      | some e => .ok e ⟨h'.objs.take h.objs.length, h.los⟩
      | none => .stk) else .stk)

/-! ### operations -/
def sizeL : Nat := 16777216
def adjIx (n : Nat) (d : Nat) : Option Int → Nat
  | none => d
  | some i => if i < 0 then (i + n).toNat else if i < n then i.toNat else n
def cut {α : Type} (l : List α) (lo hi : Option Int) : List α := (l.drop (adjIx l.length 0 lo)).take (adjIx l.length l.length hi - adjIx l.length 0 lo)
def ixOf (n : Nat) (i : Int) : Option Nat := if 0 ≤ i then (if i < n then some i.toNat else none) else if -(n : Int) ≤ i then some (i + n).toNat else none
def atIx {α : Type} (l : List α) (i : Int) : Option α := match ixOf l.length i with
  | some j => l[j]?
  | none => none
def smallI (i : Int) : Bool := decide (-(2 ^ 64) < i) && decide (i < 2 ^ 64)
def bits (i : Int) : Nat := i.natAbs.log2 + 1
def binI (o : BOp) (i j : Int) : Option Int := match o with
  | .add => some (i + j)
  | .sub => some (i - j)
  | .mul => if smallI i || smallI j || decide (bits i + bits j ≤ 900000) then some (i * j) else none
  | .fdiv => if decide (0 < j) && decide (bits j ≤ 8000) then some (i / j) else none
  | .mod => if decide (0 < j) then some (i % j) else none
  | .pow => if decide (0 ≤ j) && decide (j ≤ 1000000) && decide (i.natAbs < 2 ^ 64) then some (i ^ j.toNat) else none
  | .shl => if decide (0 ≤ j) && decide (j ≤ 1000000) && decide (i.natAbs < 2 ^ 64) then some (i * 2 ^ j.toNat) else none
  | .shr => if decide (0 ≤ j) then some (i / 2 ^ j.toNat) else none
  | .band => some (Builtin.bitAnd i j)
  | .bxor => some (Builtin.bitXor i j)
def rep {α : Type} (l : List α) (k : Int) : List α := (List.replicate k.toNat l).flatten
/-- a op b, lists in the heap read -/
def binV (o : BOp) : D → D → Option D
  | .int i, .int j => (binI o i j).map .int
  | .int i, .bl b => (match o with
    | .add => some (.int (i + (if b then 1 else 0)))
    | _ => none)
  | .str x, .str y => (match o with
    | .add => if decide (x.length + y.length ≤ sizeL) then some (.str (x ++ y)) else none
    | _ => none)
  | .tup x, .tup y => (match o with
    | .add => if decide (x.length + y.length ≤ sizeL) then some (.tup (x ++ y)) else none
    | _ => none)
  | .lst x, .lst y => (match o with
    | .add => if decide (x.length + y.length ≤ sizeL) then some (.lst (x ++ y)) else none
    | _ => none)
  | .tup x, .int k => (match o with
    | .mul => if decide (2 ≤ k) && decide (k ≤ 1000000) && (!x.isEmpty && decide (x.length * k.toNat ≤ 1000000)) then some (.tup (rep x k)) else none
    | _ => none)
  | .lst x, .int k => (match o with
    | .mul => if decide (k < 2 ^ 32) && decide (-(2 ^ 32) < k) && decide (x.length * k.toNat ≤ sizeL) then some (.lst (rep x k)) else none
    | _ => none)
  | _, _ => none
def binM (o : BOp) (a b : D) : M D := fun h => match binV o (deref h a) (deref h b) with
  | some d => .ok d h
  | none => .stk
/-- text order -/
def ltS : List Nat → List Nat → Bool
  | _, [] => false
  | [], _ :: _ => true
  | x :: xs, y :: ys => if x = y then ltS xs ys else decide (x < y)
def datD (d : D) : Bool := okD d && decide (dep d ≤ 60)
def eqV (a b : D) : Option Bool := match a, b with
  | .int i, .int j => some (decide (i = j))
  | .str x, .str y => some (decide (x = y))
  | a, b => if datD a && datD b then some (eqD a b) else none
def memL (x : D) (l : List D) : Option Bool := if datD x && datD (.lst l) then some (l.any fun z => eqD z x) else none
def cmpV (o : COp) (a b : D) : Option Bool := match o with
  | .eq => eqV a b
  | .ne => (eqV a b).map not
  | .lt => (match a, b with
    | .int i, .int j => some (decide (i < j))
    | .str x, .str y => some (ltS x y)
    | _, _ => none)
  | .le => (match a, b with
    | .int i, .int j => some (decide (i ≤ j))
    | .str x, .str y => some (!ltS y x)
    | _, _ => none)
  | .gt => (match a, b with
    | .int i, .int j => some (decide (j < i))
    | .str x, .str y => some (ltS y x)
    | _, _ => none)
  | .ge => (match a, b with
    | .int i, .int j => some (decide (j ≤ i))
    | .str x, .str y => some (!ltS x y)
    | _, _ => none)
  | .is => (match b with
    | .non => some (match a with | .non => true | _ => false)
    | _ => none)
  | .isn => (match b with
    | .non => some (match a with | .non => false | _ => true)
    | _ => none)
  | .mem => (match a, b with
    | .str [c], .str z => some (decide (c ∈ z))
    | x, .tup l => memL x l
    | x, .lst l => memL x l
    | _, _ => none)
  | .nmem => (match a, b with
    | .str [c], .str z => some (!decide (c ∈ z))
    | x, .tup l => (memL x l).map not
    | x, .lst l => (memL x l).map not
    | _, _ => none)
def cmpM (o : COp) (a b : D) : M D := fun h => match cmpV o (deref h a) (deref h b) with
  | some k => .ok (.bl k) h
  | none => .stk
def truthV : D → Option Bool
  | .non => some false
  | .bl b => some b
  | .int i => some (i != 0)
  | .str x => if decide (x.length ≤ sizeL) then some (!x.isEmpty) else none
  | .tup l => some (!l.isEmpty)
  | .lst l => some (!l.isEmpty)
  | _ => none
def truthM (d : D) : M Bool := fun h => match truthV (deref h d) with
  | some k => .ok k h
  | none => .stk
def idxV : D → D → Option D
  | .tup l, .int i => atIx l i
  | .lst l, .int i => atIx l i
  | .str x, .int i => if decide (x.length ≤ sizeL) then (atIx x i).map fun c => .str [c] else none
  | _, _ => none
def idxM (a b : D) : M D := fun h => match idxV (deref h a) b with
  | some d => .ok d h
  | none => .stk
def slcV (a : D) (lo hi : Option Int) : Option D := match a with
  | .tup l => some (.tup (cut l lo hi))
  | .lst l => some (.lst (cut l lo hi))
  | .str x => if decide (x.length ≤ sizeL) then some (.str (cut x lo hi)) else none
  | _ => none
def slcM (a : D) (lo hi : Option Int) : M D := fun h => match slcV (deref h a) lo hi with
  | some d => .ok d h
  | none => .stk
def tyOf (h : Hh) : D → Option Ty
  | .bl _ => some .bool
  | .int _ => some .int
  | .str _ => some .str
  | .tup _ => some .tuple
  | .lst _ => some .list
  | .ref n => (match h.objs[n]? with
    | some (.lst _) => some .list
    | some (.dK _) => some .dict
    | some (.dT _) => some .dict
    | _ => none)
  | _ => none
/-- isinstance: a bool is an int -/
def isTy (t : Ty) : Ty → Bool := fun u => decide (t = u) || (decide (t = .bool) && decide (u = .int))
def isiM (d : D) (ts : List Ty) : M D := fun h => match d with
  | .non => .ok (.bl false) h
  | d => (match tyOf h d with
    | some t => .ok (.bl (ts.any (isTy t))) h
    | none => .stk)
def showI (i : Int) : List Nat := (toString i).toList.map Char.toNat
def intsOf : List D → Option (List Int)
  | [] => some []
  | .int i :: r => (intsOf r).map (i :: ·)
  | _ :: _ => none
def insI (a : Int) : List Int → List Int
  | [] => [a]
  | b :: r => if a ≤ b then a :: b :: r else b :: insI a r
def sortI : List Int → List Int
  | [] => []
  | a :: r => insI a (sortI r)
def bifV (b : Bif) (l : List D) : Option D := match b, l with
  | .len, [.tup l] => some (.int l.length)
  | .len, [.lst l] => some (.int l.length)
  | .len, [.str x] => if decide (x.length ≤ sizeL) then some (.int x.length) else none
  | .abs, [.int i] => some (.int (if i < 0 then -i else i))
  | .max, [.int i, .int j] => some (.int (if j > i then j else i))
  | .min, [.int i, .int j] => some (.int (if j < i then j else i))
  | .int, [.int i] => some (.int i)
  | .int, [.bl b] => some (.int (if b then 1 else 0))
  | .str, [.int i] => if decide (i.natAbs.log2 < 1920) then some (.str (showI i)) else none
  | .tuple, [.lst l] => some (.tup l)
  | .tuple, [.tup l] => some (.tup l)
  | .list, [.lst l] => some (.lst l)
  | .list, [.tup l] => some (.lst l)
  | .list, [.str x] => if decide (x.length ≤ sizeL) then some (.lst (x.map fun c => .str [c])) else none
  | .sum, [.lst l] => (intsOf l).map fun ns => .int ns.sum
  | .sorted, [.lst l] => (intsOf l).map fun ns => .lst ((sortI ns).map .int)
  | _, _ => none
def bifM (b : Bif) (l : List D) : M D := fun h => match bifV b (l.map (deref h)) with
  | some d => .ok d h
  | none => .stk
/-- the first place of a sign -/
def indexS (c : Nat) : List Nat → Option Nat
  | [] => none
  | d :: r => if d = c then some 0 else (indexS c r).map (· + 1)
def joinS (sep : List Nat) : List D → Option (List Nat)
  | [] => some []
  | [.str x] => some x
  | .str x :: r => (joinS sep r).map fun y => x ++ sep ++ y
  | _ => none
/-- the receiver's type, ahead of the arguments -/
def chkM (m : Met) (x : D) : M Unit := fun h => match m, x with
  | .append, .ref n => (match h.objs[n]? with
    | some (.lst _) => .ok () h
    | _ => .stk)
  | .index, .str _ => .ok () h
  | .join, .str _ => .ok () h
  | _, _ => .stk
def metM (m : Met) (o : D) (l : List D) : M D := fun h => match m, o, l with
  | .append, .ref n, [x] => (match h.objs[n]? with
    | some (.lst l) => if decide (l.length < sizeL) then (setO n (.lst (l ++ [x])) >>= fun _ => pure D.non) h else .stk
    | _ => .stk)
  | .index, .str z, [.str [c]] => (match indexS c z with
    | some k => .ok (.int k) h
    | none => .stk)
  | _, _, _ => .stk

/-- a list of ints -/
def intsL : List D → Option (List Int)
  | [] => some []
  | .int i :: r => (intsL r).map fun l => i :: l
  | _ => none
/-- o.remove(an int that is there) -/
def remM (o : D) (l : List D) : M D := fun h => match o, l with
  | .ref n, [.int k] => (match h.objs[n]? with
    | some (.lst m) => (match intsL m with
      | some ns => if decide (k ∈ ns) then (setO n (.lst ((ns.erase k).map D.int)) >>= fun _ => pure D.non) h else .stk
      | none => .stk)
    | _ => .stk)
  | _, _ => .stk
/-- lo, lo + c, .. -/
def rangeC (lo c : Int) (n : Nat) : List D := (List.range n).map fun (i : Nat) => D.int (lo + (i : Nat) * c)
def joinC (s : List Nat) (l : List D) : Option (List Nat) := match joinS s l with
  | some y => if decide (y.length + l.length * s.length ≤ sizeL) then some y else none
  | none => none
/-- s.join(a list, a tuple) -/
def joinV (s : List Nat) : D → Option D
  | .lst l => (joinC s l).map .str
  | .tup l => (joinC s l).map .str
  | _ => none
def joinM (o : D) (l : List D) : M D := fun h => match o, l with
  | .str s, [x] => (match joinV s (deref h x) with
    | some d => .ok d h
    | none => .stk)
  | _, _ => .stk
def indexV (z : List Nat) : List D → Option D
  | [.str [c]] => (indexS c z).map fun (k : Nat) => .int k
  | _ => none
def sixM (o : D) (l : List D) : M D := fun h => match o with
  | .str z => (match indexV z l with
    | some d => .ok d h
    | none => .stk)
  | _ => .stk
/-- a text, ahead of the arguments -/
def strM (o : D) : M Unit := fun h => match o with
  | .str _ => .ok () h
  | _ => .stk
/-- a def that a name holds -/
def fnM (n : Nat) (o : Option (Option D)) : M Nat := fun h => match o with
  | some (some (.fn f)) => if decide (f < n) then .ok f h else .stk
  | _ => .stk
/-! ### what is walked -/
inductive It where
  | seq (l : List D) | live (n : Nat) | live2 (n : Nat)
def iterOf (h : Hh) : D → Option It
  | .tup l => some (.seq l)
  | .lst l => some (.seq l)
  | .str x => some (.seq (x.map fun c => .str [c]))
  | .ref n => (match h.objs[n]? with
    | some (.lst _) => some (.live n)
    | _ => none)
  | _ => none
def small62 (i : Int) : Bool := decide (-(2 ^ 62) ≤ i) && decide (i < 2 ^ 62)
def rangeL (lo : Int) (n : Nat) : List D := (List.range n).map fun (k : Nat) => .int (lo + k)
def enumL : Nat → List D → List D
  | _, [] => []
  | k, d :: r => .tup [.int k, d] :: enumL (k + 1) r
abbrev Ls := List (Option D)
def wipeL (ls : Ls) : List Nat → Ls
  | [] => ls
  | v :: vs => (wipeL ls vs).set v none

/-- a target that is a name, or names in a tuple -/
def bindT : E → D → Ls → Option Ls
  | .loc i, d, ls => if i < ls.length then some (ls.set i (some d)) else none
  | .tup t, .tup l, ls => bindTs t l ls
  | _, _, _ => none
where bindTs : E → List D → Ls → Option Ls
  | .nil, [], ls => some ls
  | .cons (.loc i) r, d :: l, ls => if i < ls.length then bindTs r l (ls.set i (some d)) else none
  | _, _, _ => none

/-- no exception may leave -/
def noErr {α : Type} (m : M α) : M α := fun h => match m h with
  | .err _ _ _ => .stk
  | .ok a h' => .ok a h'
  | .stk => .stk
/-- a comprehension's turns over items that are known; n: how many came already -/
def compL (turn : D → M (Option D)) : Nat → List D → M (List D)
  | _, [] => pure []
  | n, d :: r => noErr (turn d) >>= fun o => match o with
    | some e => if decide (n < sizeL) then compL turn (n + 1) r >>= fun s => pure (e :: s) else stuck
    | none => compL turn n r
section
variable (C : Nat → List D → M D) (gl : Nat → Option D)
mutual
def evE : E → Ls → M D
  | .loc i, ls => liftO (match ls[i]? with | some o => o | none => none)
  | .con d, _ => pure d
  | .glo g, _ => liftO (gl g)
  | .fnv f, _ => pure (.fn f)
  | .tup a, ls => do
    let l ← evA a ls
    if decide (l.length ≤ sizeL) then pure (.tup l) else stuck
  | .lst a, ls => do
    let l ← evA a ls
    if decide (l.length ≤ sizeL) then pure (.lst l) else stuck
  | .mk a, ls => do
    let d ← evE a ls
    match d with
    | .lst l => alloc (.lst l)
    | _ => stuck
  | .bin o a b, ls => do
    let x ← evE a ls
    let y ← evE b ls
    binM o x y
  | .cmp o a b, ls => do
    let x ← evE a ls
    let y ← evE b ls
    cmpM o x y
  | .chn o o' a b c, ls => do
    let x ← evE a ls
    let y ← evE b ls
    let k ← cmpM o x y
    match k with
    | .bl true => do
      let z ← evE c ls
      cmpM o' y z
    | _ => pure (.bl false)
  | .neg a, ls => do
    let x ← evE a ls
    match x with
    | .int i => pure (.int (-i))
    | _ => stuck
  | .not a, ls => do
    let x ← evE a ls
    let k ← truthM x
    pure (.bl (!k))
  | .and a b, ls => do
    let x ← evE a ls
    let k ← truthM x
    match k with
    | true => evE b ls
    | false => pure x
  | .or a b, ls => do
    let x ← evE a ls
    let k ← truthM x
    match k with
    | true => pure x
    | false => evE b ls
  | .ite c a b, ls => do
    let x ← evE c ls
    let k ← truthM x
    match k with
    | true => evE a ls
    | false => evE b ls
  | .idx a b, ls => do
    let x ← evE a ls
    let y ← evE b ls
    idxM x y
  | .slc a lo hi, ls => do
    let x ← evE a ls
    let i ← evP lo ls
    let j ← evP hi ls
    slcM x i j
  | .call f a, ls => do
    let l ← evA a ls
    C f l
  | .bif b a, ls => do
    let l ← evA a ls
    bifM b l
  | .met m o a, ls => do
    let x ← evE o ls
    chkM m x
    let l ← evA a ls
    metM m x l
  | .rem o a, ls => do
    let x ← evE o ls
    chkM .append x
    let l ← evA a ls
    remM x l
  | .six o a, ls => do
    let x ← evE o ls
    let _ ← strM x
    let l ← evA a ls
    sixM x l
  | .joi o a, ls => do
    let x ← evE o ls
    let _ ← strM x
    let l ← evA a ls
    joinM x l
  | .lrn a, ls => do
    let x ← evE a ls
    match x with
    | .int i => if small62 i && decide (i.toNat ≤ sizeL) then pure (.lst (rangeL 0 i.toNat)) else stuck
    | _ => stuck
  | .clv i n a, ls => do
    let f ← fnM n ls[i]?
    let l ← evA a ls
    C f l
  | .isi a t, ls => do
    let x ← evE a ls
    isiM x t
  | .comp elt tg it ifs own, ls => do
    let l ← evI it ls
    let r ← compL (fun d => match bindT tg d (wipeL ls own) with
      | some ls2 => do
        let k ← evC ifs ls2
        match k with
        | true => do
          let x ← evE elt ls2
          pure (some x)
        | false => pure none
      | none => stuck) 0 l
    pure (.lst r)
  | _, _ => stuck
/-- arguments -/
def evA : E → Ls → M (List D)
  | .nil, _ => pure []
  | .cons a r, ls => do
    let x ← evE a ls
    let l ← evA r ls
    pure (x :: l)
  | _, _ => stuck
/-- a part of a slice -/
def evP : E → Ls → M (Option Int)
  | .nil, _ => pure none
  | .cons a .nil, ls => do
    let x ← evE a ls
    match x with
    | .int i => pure (some i)
    | _ => stuck
  | _, _ => stuck
/-- a clause's tests: none, or one -/
def evC : E → Ls → M Bool
  | .nil, _ => pure true
  | .cons a .nil, ls => do
    let x ← evE a ls
    truthM x
  | _, _ => stuck
/-- the items that are walked (they stand still) -/
def evI : E → Ls → M (List D)
  | .rng1 a, ls => do
    let x ← evE a ls
    match x with
    | .int i => if small62 i then pure (rangeL 0 i.toNat) else stuck
    | _ => stuck
  | .rng2 a b, ls => do
    let x ← evE a ls
    let y ← evE b ls
    match x, y with
    | .int i, .int j => if small62 i && small62 j then pure (rangeL i (j - i).toNat) else stuck
    | _, _ => stuck
  | .enm a, ls => do
    let x ← evE a ls
    match x with
    | .lst l => pure (enumL 0 l)
    | .tup l => pure (enumL 0 l)
    | _ => stuck
  | .zip a b, ls => do
    let x ← evE a ls
    let y ← evE b ls
    match x, y with
    | .lst l, .lst m => pure ((l.zip m).map fun p => .tup [p.1, p.2])
    | .tup l, .tup m => pure ((l.zip m).map fun p => .tup [p.1, p.2])
    | _, _ => stuck
  | .rng3 a b c, ls => do
    let x ← evE a ls
    let y ← evE b ls
    let z ← evE c ls
    match x, y, z with
    | .int i, .int j, .int k => if decide (k ≠ 0) && decide (k.natAbs < 1073741824) && (small62 i && small62 j) && (Builtin.Range.small i j k && decide (0 ≤ Builtin.Range.rangeSize i j k)) then pure (rangeC i k (Builtin.Range.rangeSize i j k).toNat) else stuck
    | _, _, _ => stuck
  | .rev a, ls => do
    let x ← evE a ls
    match x with
    | .lst l => pure l.reverse
    | .tup l => pure l.reverse
    | _ => stuck
  | .sq e, ls => do
    let x ← evE e ls
    match x with
    | .lst l => pure l
    | .tup l => pure l
    | .str x => pure (x.map fun c => .str [c])
    | _ => stuck
  | _, _ => stuck
end
end
end EV

/-! How the evaluator's values stand in the abstract heap. -/
namespace EV
open PySem PySem.Spec PyProof.Rows L2

/-- what stands at the top: the written part, where each def is -/
structure St0 where
  K : PySem.W.Frag
  fa : Nat → Addr
  ca : Nat → Addr
  fld : Nat → Str
  xf : Nat → List Nat

abbrev mkS (x : List Nat) : Str := ⟨x.toArray⟩
def keyOfDK : DK → Key
  | .i n => .inl n
  | .s x => .inr (mkS x)
def okDK : DK → Bool
  | .i _ => true
  | .s x => PyData.strOk (mkS x)

mutual
inductive Rep (S : St0) (φ : Nat → Addr) (k : Nat) (z : Addr → Bool) (H : Hp) : V → D → Prop
  | non : Rep S φ k z H .non .non
  | bl (b : Bool) : Rep S φ k z H (.bl b) (.bl b)
  | int (i : Int) : Rep S φ k z H (.int i) (.int i)
  | str (x : List Nat) : PyData.strOk (mkS x) = true → Rep S φ k z H (.str (mkS x)) (.str x)
  | tup {a : Addr} {vs : List V} {ds : List D} : SqT S.K H a vs → Reps S φ k z H vs ds → Rep S φ k z H (.ref a) (.tup ds)
  | lstH {a : Addr} {vs : List V} {ds : List D} : H a = some (.lst vs) → z a = false → Reps S φ k z H vs ds → Rep S φ k z H (.ref a) (.lst ds)
  | lstZ {a : Addr} {o : Obj} {vs : List V} {ds : List D} : H a = some (.frz o (.lst vs)) → Reps S φ k z H vs ds → Rep S φ k z H (.ref a) (.lst ds)
  | ref (n : Nat) : n < k → Rep S φ k z H (.ref (φ n)) (.ref n)
  | fn (f : Nat) : Rep S φ k z H (.ref (S.fa f)) (.fn f)
inductive Reps (S : St0) (φ : Nat → Addr) (k : Nat) (z : Addr → Bool) (H : Hp) : List V → List D → Prop
  | nil : Reps S φ k z H [] []
  | cons {v : V} {d : D} {vs : List V} {ds : List D} : Rep S φ k z H v d → Reps S φ k z H vs ds → Reps S φ k z H (v :: vs) (d :: ds)
end

theorem Reps.length {S : St0} {φ : Nat → Addr} {k : Nat} {z : Addr → Bool} {H : Hp} : ∀ {vs : List V} {ds : List D}, Reps S φ k z H vs ds → vs.length = ds.length
  | _, _, .nil => rfl
  | _, _, .cons _ r => by simp [Reps.length r]
theorem Reps.get {S : St0} {φ : Nat → Addr} {k : Nat} {z : Addr → Bool} {H : Hp} : ∀ {vs : List V} {ds : List D} {i : Nat} {d : D}, Reps S φ k z H vs ds → ds[i]? = some d → ∃ v, vs[i]? = some v ∧ Rep S φ k z H v d
  | _, _, _, _, .nil, e => by simp at e
  | _, _, 0, _, .cons r _, e => by simp at e; subst e; exact ⟨_, rfl, r⟩
  | _, _, i + 1, d, .cons _ t, e => by
    obtain ⟨v, h1, h2⟩ := Reps.get (i := i) (d := d) t (by simpa using e)
    exact ⟨v, by simpa using h1, h2⟩
theorem Reps.at {S : St0} {φ : Nat → Addr} {k : Nat} {z : Addr → Bool} {H : Hp} : ∀ {vs : List V} {ds : List D} {i : Nat} {v : V}, Reps S φ k z H vs ds → vs[i]? = some v → ∃ d, ds[i]? = some d ∧ Rep S φ k z H v d
  | _, _, _, _, .nil, e => by simp at e
  | _, _, 0, _, .cons r _, e => by simp at e; subst e; exact ⟨_, rfl, r⟩
  | _, _, i + 1, v, .cons _ t, e => by
    obtain ⟨d, h1, h2⟩ := Reps.at (i := i) (v := v) t (by simpa using e)
    exact ⟨d, by simpa using h1, h2⟩
theorem Reps.append {S : St0} {φ : Nat → Addr} {k : Nat} {z : Addr → Bool} {H : Hp} : ∀ {xs ys : List V} {ds es : List D}, Reps S φ k z H xs ds → Reps S φ k z H ys es → Reps S φ k z H (xs ++ ys) (ds ++ es)
  | _, _, _, _, .nil, s => s
  | _, _, _, _, .cons r t, s => .cons r (Reps.append t s)
theorem Reps.take {S : St0} {φ : Nat → Addr} {k : Nat} {z : Addr → Bool} {H : Hp} : ∀ {xs : List V} {ds : List D} (n : Nat), Reps S φ k z H xs ds → Reps S φ k z H (xs.take n) (ds.take n)
  | _, _, 0, _ => by simp; exact .nil
  | _, _, _ + 1, .nil => .nil
  | _, _, n + 1, .cons r t => .cons r (Reps.take n t)
theorem Reps.drop {S : St0} {φ : Nat → Addr} {k : Nat} {z : Addr → Bool} {H : Hp} : ∀ {xs : List V} {ds : List D} (n : Nat), Reps S φ k z H xs ds → Reps S φ k z H (xs.drop n) (ds.drop n)
  | _, _, 0, r => r
  | _, _, _ + 1, .nil => .nil
  | _, _, n + 1, .cons _ t => Reps.drop n t
theorem Reps.set {S : St0} {φ : Nat → Addr} {k : Nat} {z : Addr → Bool} {H : Hp} {v : V} {d : D} (r : Rep S φ k z H v d) : ∀ {xs : List V} {ds : List D} (i : Nat), Reps S φ k z H xs ds → Reps S φ k z H (xs.set i v) (ds.set i d)
  | _, _, _, .nil => .nil
  | _, _, 0, .cons _ t => .cons r t
  | _, _, i + 1, .cons q t => .cons q (Reps.set r i t)
theorem Reps.reverse {S : St0} {φ : Nat → Addr} {k : Nat} {z : Addr → Bool} {H : Hp} : ∀ {xs : List V} {ds : List D}, Reps S φ k z H xs ds → Reps S φ k z H xs.reverse ds.reverse
  | _, _, .nil => .nil
  | _, _, .cons r t => by
    rw [List.reverse_cons, List.reverse_cons]
    exact (Reps.reverse t).append (.cons r .nil)
theorem Reps.none_of {S : St0} {φ : Nat → Addr} {k : Nat} {z : Addr → Bool} {H : Hp} {vs : List V} {ds : List D} {i : Nat} (r : Reps S φ k z H vs ds) (e : ds[i]? = none) : vs[i]? = none := by
  have := r.length
  rw [List.getElem?_eq_none_iff] at e ⊢
  omega
theorem Reps.flat {S : St0} {φ : Nat → Addr} {k : Nat} {z : Addr → Bool} {H : Hp} {xs : List V} {ds : List D} (r : Reps S φ k z H xs ds) : ∀ n : Nat, Reps S φ k z H (List.replicate n xs).flatten (List.replicate n ds).flatten
  | 0 => by simp; exact .nil
  | n + 1 => by
    rw [List.replicate_succ, List.replicate_succ, List.flatten_cons, List.flatten_cons]
    exact r.append (Reps.flat r n)

def RepO (S : St0) (φ : Nat → Addr) (k : Nat) (z : Addr → Bool) (H : Hp) (a : Addr) : O → Prop
  | .lst l => ∃ vs, H a = some (.lst vs) ∧ Reps S φ k z H vs l
  | .dK kvs => ∃ vs, H a = some (.dK ((kvs.map fun p => keyOfDK p.1).zip vs)) ∧ Reps S φ k z H vs (kvs.map (·.2)) ∧ ∀ p ∈ kvs, okDK p.1 = true
  | .dT kvs => ∃ vs, H a = some (.dT ((kvs.map fun p => p.1.map keyOfDK).zip vs)) ∧ Reps S φ k z H vs (kvs.map (·.2)) ∧ ∀ p ∈ kvs, ∀ q ∈ p.1, okDK q = true
  | .ins c fs => ∃ dx vs, H a = some (.ins (S.ca c) dx ((fs.map fun p => S.fld p.1).zip vs)) ∧ Reps S φ k z H vs (fs.map (·.2))

/-- a world: where the evaluator's objects stand -/
structure Wd where
  φ : Nat → Addr
  h : Hh
  H : Hp
  no : Addr → Bool
abbrev Wd.k (w : Wd) : Nat := w.h.objs.length
abbrev RepW (S : St0) (w : Wd) : V → D → Prop := Rep S w.φ w.k w.no w.H
abbrev RepsW (S : St0) (w : Wd) : List V → List D → Prop := Reps S w.φ w.k w.no w.H

structure Sim (S : St0) (w : Wd) : Prop where
  inj : ∀ i j, i < w.k → j < w.k → w.φ i = w.φ j → i = j
  obj : ∀ n o, w.h.objs[n]? = some o → RepO S w.φ w.k w.no w.H (w.φ n) o
  good : ∀ lo ∈ w.h.los, ∀ n o, n < lo → w.h.objs[n]? = some o → belowO lo o = true
  los : ∀ lo ∈ w.h.los, lo ≤ w.k
  nf : ∀ n, n < w.k → w.no (w.φ n) = true
  nd : ∀ b, w.no b = true → ∃ u, w.H b = some u
theorem Sim.fresh {S : St0} {w : Wd} (s : Sim S w) {p : Addr} (h : w.H p = none) : w.no p = false := by
  cases q : w.no p with
  | false => rfl
  | true =>
    obtain ⟨u, hu⟩ := s.nd p q
    rw [h] at hu
    cases hu

/-- what values lean on -/
structure Ext0 (w w' : Wd) : Prop where
  len : w.k ≤ w'.k
  phi : ∀ n, n < w.k → w'.φ n = w.φ n
  tup : ∀ b xs, w.H b = some (.tup xs) → w'.H b = some (.tup xs)
  frz : ∀ b o u, w.H b = some (.frz o u) → w'.H b = some (.frz o u)
  lst : ∀ b xs, w.H b = some (.lst xs) → w.no b = false → w'.H b = some (.lst xs) ∧ w'.no b = false
  xd : ∀ b fs, w.H b = some (.xd fs) → w'.H b = some (.xd fs)
/-- a later world -/
structure Ext (w w' : Wd) : Prop extends Ext0 w w' where
  no : ∀ b, w.no b = true → w'.no b = true
  hid : ∀ b, w.no b = true → (∀ n, n < w.k → w.φ n ≠ b) → w'.H b = w.H b ∧ ∀ n, n < w'.k → w'.φ n ≠ b
theorem Ext.refl (w : Wd) : Ext w w := ⟨⟨Nat.le_refl _, fun _ _ => rfl, fun _ _ h => h, fun _ _ _ h => h, fun _ _ h n => ⟨h, n⟩, fun _ _ h => h⟩, fun _ h => h, fun _ _ h => ⟨rfl, h⟩⟩
theorem Ext0.trans {a b c : Wd} (x : Ext0 a b) (y : Ext0 b c) : Ext0 a c where
  len := Nat.le_trans x.len y.len
  phi := fun n h => (y.phi n (Nat.lt_of_lt_of_le h x.len)).trans (x.phi n h)
  tup := fun b xs h => y.tup b xs (x.tup b xs h)
  frz := fun b o u h => y.frz b o u (x.frz b o u h)
  lst := fun b xs h n => let ⟨h1, h2⟩ := x.lst b xs h n; y.lst b xs h1 h2
  xd := fun b fs h => y.xd b fs (x.xd b fs h)
theorem Ext.trans {a b c : Wd} (x : Ext a b) (y : Ext b c) : Ext a c where
  toExt0 := x.toExt0.trans y.toExt0
  no := fun b h => y.no b (x.no b h)
  hid := fun b h n => let ⟨h1, h2⟩ := x.hid b h n; let ⟨h3, h4⟩ := y.hid b (x.no b h) h2; ⟨h3.trans h1, h4⟩

theorem SqT.ext {S : St0} {w w' : Wd} (x : Ext0 w w') {a : Addr} {vs : List V} (h : SqT S.K w.H a vs) : SqT S.K w'.H a vs := by
  rcases h with (h | ⟨o, h⟩) | h
  · exact .inl (.inl (x.tup _ _ h))
  · exact .inl (.inr ⟨o, x.frz _ _ _ h⟩)
  · exact .inr h
mutual
theorem Rep.ext {S : St0} {w w' : Wd} (x : Ext0 w w') : ∀ {v : V} {d : D}, RepW S w v d → RepW S w' v d
  | _, _, .non => .non
  | _, _, .bl b => .bl b
  | _, _, .int i => .int i
  | _, _, .str y e => .str y e
  | _, _, .tup h r => .tup (SqT.ext x h) (Reps.ext x r)
  | _, _, .lstH h n r => let ⟨h1, h2⟩ := x.lst _ _ h n; .lstH h1 h2 (Reps.ext x r)
  | _, _, .lstZ h r => .lstZ (x.frz _ _ _ h) (Reps.ext x r)
  | _, _, .ref n h => by
    rw [← x.phi n h]
    exact .ref n (Nat.lt_of_lt_of_le h x.len)
  | _, _, .fn f => .fn f
theorem Reps.ext {S : St0} {w w' : Wd} (x : Ext0 w w') : ∀ {vs : List V} {ds : List D}, RepsW S w vs ds → RepsW S w' vs ds
  | _, _, .nil => .nil
  | _, _, .cons r t => .cons (Rep.ext x r) (Reps.ext x t)
end

/-! ### places -/
mutual
theorem below_of {S : St0} {φ : Nat → Addr} {k : Nat} {z : Addr → Bool} {H : Hp} : ∀ {v : V} {d : D}, Rep S φ k z H v d → below k d = true
  | _, _, .non => rfl
  | _, _, .bl b => rfl
  | _, _, .int i => rfl
  | _, _, .str y e => rfl
  | _, _, .tup h r => belowL_of r
  | _, _, .lstH h n r => belowL_of r
  | _, _, .lstZ h r => belowL_of r
  | _, _, .ref n h => decide_eq_true h
  | _, _, .fn f => rfl
theorem belowL_of {S : St0} {φ : Nat → Addr} {k : Nat} {z : Addr → Bool} {H : Hp} : ∀ {vs : List V} {ds : List D}, Reps S φ k z H vs ds → belowL k ds = true
  | _, _, .nil => rfl
  | _, _, .cons r t => by
    show (below k _ && belowL k _) = true
    rw [below_of r, belowL_of t]; rfl
end
mutual
theorem below_mono {j k : Nat} (h : j ≤ k) : ∀ d : D, below j d = true → below k d = true
  | .non, _ => rfl
  | .bl _, _ => rfl
  | .int _, _ => rfl
  | .str _, _ => rfl
  | .tup l, e => belowL_mono h l e
  | .lst l, e => belowL_mono h l e
  | .ref n, e => decide_eq_true (Nat.lt_of_lt_of_le (of_decide_eq_true e) h)
  | .fn _, _ => rfl
  | .exc _ _, _ => rfl
theorem belowL_mono {j k : Nat} (h : j ≤ k) : ∀ l : List D, belowL j l = true → belowL k l = true
  | [], _ => rfl
  | d :: r, e => by
    obtain ⟨e1, e2⟩ := Bool.and_eq_true_iff.mp (show (below j d && belowL j r) = true from e)
    show (below k d && belowL k r) = true
    rw [below_mono h d e1, belowL_mono h r e2]; rfl
end
theorem belowO_mono {j k : Nat} (h : j ≤ k) (o : O) (e : belowO j o = true) : belowO k o = true := by
  cases o <;> exact belowL_mono h _ e
theorem belowO_of {S : St0} {φ : Nat → Addr} {k : Nat} {z : Addr → Bool} {H : Hp} {a : Addr} {o : O} (r : RepO S φ k z H a o) : belowO k o = true := by
  cases o with
  | lst l => obtain ⟨_, _, r⟩ := r; exact belowL_of r
  | dK kvs => obtain ⟨_, _, r, _⟩ := r; exact belowL_of r
  | dT kvs => obtain ⟨_, _, r, _⟩ := r; exact belowL_of r
  | ins c fs => obtain ⟨_, _, _, r⟩ := r; exact belowL_of r

/-! with fewer objects -/
mutual
theorem Rep.cut {S : St0} {φ : Nat → Addr} {j k : Nat} {z : Addr → Bool} {H : Hp} (h : j ≤ k) : ∀ {v : V} {d : D}, Rep S φ k z H v d → below j d = true → Rep S φ j z H v d
  | _, _, .non, _ => .non
  | _, _, .bl b, _ => .bl b
  | _, _, .int i, _ => .int i
  | _, _, .str y e, _ => .str y e
  | _, _, .tup q r, e => .tup q (Reps.cut h r e)
  | _, _, .lstH q n r, e => .lstH q n (Reps.cut h r e)
  | _, _, .lstZ q r, e => .lstZ q (Reps.cut h r e)
  | _, _, .ref n _, e => .ref n (of_decide_eq_true e)
  | _, _, .fn f, _ => .fn f
theorem Reps.cut {S : St0} {φ : Nat → Addr} {j k : Nat} {z : Addr → Bool} {H : Hp} (h : j ≤ k) : ∀ {vs : List V} {ds : List D}, Reps S φ k z H vs ds → belowL j ds = true → Reps S φ j z H vs ds
  | _, _, .nil, _ => .nil
  | _, _, .cons r t, e => by
    obtain ⟨e1, e2⟩ := Bool.and_eq_true_iff.mp (show (below j _ && belowL j _) = true from e)
    exact .cons (Rep.cut h r e1) (Reps.cut h t e2)
end
theorem RepO.cut {S : St0} {φ : Nat → Addr} {j k : Nat} {z : Addr → Bool} {H : Hp} {a : Addr} {o : O} (h : j ≤ k) (r : RepO S φ k z H a o) (e : belowO j o = true) : RepO S φ j z H a o := by
  cases o with
  | lst l => obtain ⟨vs, q, r⟩ := r; exact ⟨vs, q, r.cut h e⟩
  | dK kvs => obtain ⟨vs, q, r, s⟩ := r; exact ⟨vs, q, r.cut h e, s⟩
  | dT kvs => obtain ⟨vs, q, r, s⟩ := r; exact ⟨vs, q, r.cut h e, s⟩
  | ins c fs => obtain ⟨dx, vs, q, r⟩ := r; exact ⟨dx, vs, q, r.cut h e⟩

/-! ### a new object, a write -/
/-- an object's content moves to another world -/
theorem RepO.move {S : St0} {w w' : Wd} {a : Addr} {o : O} (x : Ext0 w w') (r : RepO S w.φ w.k w.no w.H a o) (e : w'.H a = w.H a) : RepO S w'.φ w'.k w'.no w'.H a o := by
  cases o with
  | lst l => obtain ⟨vs, q, r⟩ := r; exact ⟨vs, e.trans q, Reps.ext x r⟩
  | dK kvs => obtain ⟨vs, q, r, s⟩ := r; exact ⟨vs, e.trans q, Reps.ext x r, s⟩
  | dT kvs => obtain ⟨vs, q, r, s⟩ := r; exact ⟨vs, e.trans q, Reps.ext x r, s⟩
  | ins c fs => obtain ⟨dx, vs, q, r⟩ := r; exact ⟨dx, vs, e.trans q, Reps.ext x r⟩
theorem RepO.there {S : St0} {φ : Nat → Addr} {k : Nat} {z : Addr → Bool} {H : Hp} {a : Addr} {o : O} (r : RepO S φ k z H a o) : ∃ u, H a = some u ∧ Mut (some u) := by
  cases o with
  | lst l => obtain ⟨vs, q, _⟩ := r; exact ⟨_, q, trivial⟩
  | dK kvs => obtain ⟨vs, q, _⟩ := r; exact ⟨_, q, trivial⟩
  | dT kvs => obtain ⟨vs, q, _⟩ := r; exact ⟨_, q, trivial⟩
  | ins c fs => obtain ⟨dx, vs, q, _⟩ := r; exact ⟨_, q, trivial⟩
theorem Sim.there {S : St0} {w : Wd} (s : Sim S w) {n : Nat} (h : n < w.k) : ∃ u, w.H (w.φ n) = some u ∧ Mut (some u) :=
  (s.obj n _ (List.getElem?_eq_getElem h)).there

/-- new things that are no objects of ours: tuples, lists that stand still -/
theorem Ext.new {S : St0} {w : Wd} (s : Sim S w) {p : Addr} {u : HO} (hp : w.H p = none) : Ext w ⟨w.φ, w.h, upd w.H p u, w.no⟩ where
  len := Nat.le_refl _
  phi := fun _ _ => rfl
  tup := fun b xs h => (upd_ne (ne_of_none h hp)).trans h
  frz := fun b o u' h => (upd_ne (ne_of_none h hp)).trans h
  lst := fun b xs h n => ⟨(upd_ne (ne_of_none h hp)).trans h, n⟩
  xd := fun b fs h => (upd_ne (ne_of_none h hp)).trans h
  no := fun _ h => h
  hid := fun b h n => ⟨by
    obtain ⟨u', hu⟩ := s.nd b h
    exact upd_ne (ne_of_none hu hp), n⟩
theorem Sim.ext {S : St0} {w w' : Wd} (s : Sim S w) (x : Ext0 w w') (eh : w'.h = w.h) (en : w'.no = w.no) (keep : ∀ b u, w.H b = some u → w'.H b = some u) : Sim S w' where
  nf := fun n hn => by
    have hk : w'.k = w.k := by show w'.h.objs.length = _; rw [eh]
    rw [hk] at hn
    rw [en, x.phi n hn]
    exact s.nf n hn
  nd := fun b h => by
    rw [en] at h
    obtain ⟨u, hu⟩ := s.nd b h
    exact ⟨u, keep b u hu⟩
  inj := fun i j hi hj e => by
    have hk : w'.k = w.k := by show w'.h.objs.length = _; rw [eh]
    rw [hk] at hi hj
    rw [x.phi i hi, x.phi j hj] at e
    exact s.inj i j hi hj e
  obj := fun n o e => by
    rw [eh] at e
    have hn : n < w.k := (List.getElem?_eq_some_iff.mp e).1
    have r := s.obj n o e
    obtain ⟨u, hu, _⟩ := r.there
    rw [x.phi n hn]
    exact r.move x ((keep _ _ hu).trans hu.symm)
  good := fun lo hl n o hn e => by
    rw [eh] at hl e
    exact s.good lo hl n o hn e
  los := fun lo hl => by
    rw [eh] at hl
    exact Nat.le_trans (s.los lo hl) x.len
theorem Sim.new {S : St0} {w : Wd} (s : Sim S w) {p : Addr} {u : HO} (hp : w.H p = none) : Sim S ⟨w.φ, w.h, upd w.H p u, w.no⟩ :=
  s.ext (Ext.new s hp).toExt0 rfl rfl fun b u' h => (upd_ne (ne_of_none h hp)).trans h

/-- an object of ours is made at p -/
def Wd.push (w : Wd) (p : Addr) (o : O) (H' : Hp) : Wd := ⟨fun n => if n = w.k then p else w.φ n, ⟨w.h.objs ++ [o], w.h.los⟩, H', fun b => decide (b = p) || w.no b⟩
theorem Wd.push_k {w : Wd} {p : Addr} {o : O} {H' : Hp} : (w.push p o H').k = w.k + 1 := by
  show (w.h.objs ++ [o]).length = _
  simp
theorem Wd.push_φ {w : Wd} {p : Addr} {o : O} {H' : Hp} {n : Nat} (h : n < w.k) : (w.push p o H').φ n = w.φ n := if_neg (Nat.ne_of_lt h)
theorem Wd.push_new {w : Wd} {p : Addr} {o : O} {H' : Hp} : (w.push p o H').φ w.k = p := if_pos rfl
theorem Wd.push_no {w : Wd} {p b : Addr} {o : O} {H' : Hp} : (w.push p o H').no b = (decide (b = p) || w.no b) := rfl
theorem Ext.push {S : St0} {w : Wd} (s : Sim S w) {p : Addr} {o : O} {H' : Hp} (hp : w.H p = none) (keep : ∀ b u, w.H b = some u → H' b = some u) : Ext w (w.push p o H') where
  len := by rw [Wd.push_k]; exact Nat.le_succ _
  phi := fun n h => Wd.push_φ h
  tup := fun b xs h => keep _ _ h
  frz := fun b o u' h => keep _ _ h
  lst := fun b xs h n => ⟨keep _ _ h, by rw [Wd.push_no, n, decide_eq_false (ne_of_none h hp)]; rfl⟩
  xd := fun b fs h => keep _ _ h
  no := fun b h => by rw [Wd.push_no, h, Bool.or_true]
  hid := fun b h n => by
    obtain ⟨u', hu⟩ := s.nd b h
    refine ⟨(keep _ _ hu).trans hu.symm, fun m hm => ?_⟩
    rw [Wd.push_k] at hm
    by_cases e : m = w.k
    · subst e
      rw [Wd.push_new]
      exact (ne_of_none hu hp).symm
    · rw [Wd.push_φ (by omega)]
      exact n m (by omega)
theorem Sim.push {S : St0} {w : Wd} {p : Addr} {o : O} {H' : Hp} (s : Sim S w) (hp : w.H p = none) (keep : ∀ b u, w.H b = some u → H' b = some u)
    (new : RepO S (w.push p o H').φ (w.push p o H').k (w.push p o H').no H' p o) : Sim S (w.push p o H') where
  nf := fun n hn => by
    rw [Wd.push_k] at hn
    rw [Wd.push_no]
    by_cases e : n = w.k
    · subst e
      rw [Wd.push_new, decide_eq_true rfl]; rfl
    · rw [Wd.push_φ (by omega), s.nf n (by omega), Bool.or_true]
  nd := fun b h => by
    rw [Wd.push_no] at h
    rcases Bool.or_eq_true_iff.mp h with h | h
    · cases of_decide_eq_true h
      cases o with
      | lst l => obtain ⟨vs, q, _⟩ := new; exact ⟨_, q⟩
      | dK l => obtain ⟨vs, q, _⟩ := new; exact ⟨_, q⟩
      | dT l => obtain ⟨vs, q, _⟩ := new; exact ⟨_, q⟩
      | ins c l => obtain ⟨dx, vs, q, _⟩ := new; exact ⟨_, q⟩
    · obtain ⟨u, hu⟩ := s.nd b h
      exact ⟨u, keep b u hu⟩
  inj := fun i j hi hj e => by
    rw [Wd.push_k] at hi hj
    have key : ∀ i, i < w.k → w.φ i ≠ p := fun i h z => by
      obtain ⟨u, hu, _⟩ := s.there h
      rw [z, hp] at hu
      cases hu
    by_cases h1 : i = w.k
    · subst h1
      by_cases h2 : j = w.k
      · exact h2.symm
      · rw [Wd.push_new, Wd.push_φ (by omega)] at e
        exact absurd e.symm (key j (by omega))
    · by_cases h2 : j = w.k
      · subst h2
        rw [Wd.push_new, Wd.push_φ (by omega)] at e
        exact absurd e (key i (by omega))
      · rw [Wd.push_φ (by omega), Wd.push_φ (by omega)] at e
        exact s.inj i j (by omega) (by omega) e
  obj := fun n o' e => by
    have e : (w.h.objs ++ [o])[n]? = some o' := e
    by_cases h : n < w.k
    · rw [List.getElem?_append_left h] at e
      have r := s.obj n o' e
      obtain ⟨u, hu, _⟩ := r.there
      rw [Wd.push_φ h]
      exact r.move (Ext.push s hp keep).toExt0 ((keep _ _ hu).trans hu.symm)
    · have hn : n = w.k := by
        have q := (List.getElem?_eq_some_iff.mp e).1
        rw [List.length_append, List.length_singleton] at q
        have z : w.k = w.h.objs.length := rfl
        omega
      subst hn
      rw [List.getElem?_append_right (Nat.le_refl _)] at e
      simp at e
      subst e
      rw [Wd.push_new]
      exact new
  good := fun lo hl n o' hn e => by
    have e : (w.h.objs ++ [o])[n]? = some o' := e
    have hl : lo ∈ w.h.los := hl
    rw [List.getElem?_append_left (Nat.lt_of_lt_of_le hn (s.los lo hl))] at e
    exact s.good lo hl n o' hn e
  los := fun lo hl => by
    rw [Wd.push_k]
    exact Nat.le_succ_of_le (s.los lo hl)

/-- an object of ours is written -/
def Wd.put (w : Wd) (n : Nat) (o : O) (u : HO) : Wd := ⟨w.φ, ⟨w.h.objs.set n o, w.h.los⟩, upd w.H (w.φ n) u, w.no⟩
theorem Wd.put_k {w : Wd} {n : Nat} {o : O} {u : HO} : (w.put n o u).k = w.k := by
  show (w.h.objs.set n o).length = _
  simp
theorem Ext.put {S : St0} {w : Wd} {n : Nat} {o : O} {u : HO} (s : Sim S w) (hn : n < w.k) : Ext w (w.put n o u) where
  len := by rw [Wd.put_k]; exact Nat.le_refl _
  phi := fun _ _ => rfl
  tup := fun b xs h => by
    refine (upd_ne fun z => ?_).trans h
    obtain ⟨u', hu, m⟩ := s.there hn
    rw [← z, h] at hu
    cases hu
    exact m
  frz := fun b o' u' h => by
    refine (upd_ne fun z => ?_).trans h
    obtain ⟨u2, hu, m⟩ := s.there hn
    rw [← z, h] at hu
    cases hu
    exact m
  lst := fun b xs h m => ⟨(upd_ne fun z => by
    subst z
    rw [s.nf n hn] at m
    cases m).trans h, m⟩
  xd := fun b fs h => by
    refine (upd_ne fun z => ?_).trans h
    obtain ⟨u2, hu, m⟩ := s.there hn
    rw [← z, h] at hu
    cases hu
    exact m
  no := fun _ h => h
  hid := fun b h m => ⟨upd_ne fun z => m n hn z.symm, fun i hi => by
    rw [Wd.put_k] at hi
    exact m i hi⟩
theorem Sim.put {S : St0} {w : Wd} {n : Nat} {o : O} {u : HO} (s : Sim S w) (hn : n < w.k) (hw : okW w.h.los n o = true) (new : RepO S w.φ w.k w.no (upd w.H (w.φ n) u) (w.φ n) o) : Sim S (w.put n o u) where
  nf := fun m hm => by
    rw [Wd.put_k] at hm
    exact s.nf m hm
  nd := fun b h => by
    obtain ⟨u', hu⟩ := s.nd b h
    by_cases e : b = w.φ n
    · subst e; exact ⟨u, upd_same⟩
    · exact ⟨u', (upd_ne e).trans hu⟩
  inj := fun i j hi hj e => by
    rw [Wd.put_k] at hi hj
    exact s.inj i j hi hj e
  obj := fun m o' e => by
    have e : (w.h.objs.set n o)[m]? = some o' := e
    by_cases h : n = m
    · subst h
      rw [List.getElem?_set_self hn] at e
      cases e
      rw [Wd.put_k]
      exact new
    · rw [List.getElem?_set_ne h] at e
      have hm : m < w.k := (List.getElem?_eq_some_iff.mp e).1
      exact (s.obj m o' e).move (Ext.put s hn).toExt0 (upd_ne fun z => h (s.inj m n hm hn z).symm)
  good := fun lo hl m o' hm e => by
    have hl : lo ∈ w.h.los := hl
    have e : (w.h.objs.set n o)[m]? = some o' := e
    by_cases h : n = m
    · subst h
      rw [List.getElem?_set_self hn] at e
      cases e
      rcases Bool.or_eq_true_iff.mp (show (belowO (n + 1) o || w.h.los.all fun lo => decide (lo ≤ n) || belowO lo o) = true from hw) with q | q
      · exact belowO_mono hm o q
      · rcases Bool.or_eq_true_iff.mp (List.all_eq_true.mp q lo hl) with z | z
        · exact absurd (of_decide_eq_true z) (by omega)
        · exact z
    · rw [List.getElem?_set_ne h] at e
      exact s.good lo hl m o' hm e
  los := fun lo hl => by
    rw [Wd.put_k]
    exact s.los lo hl

/-! ### what an evaluation yields -/
abbrev WE := Nat → D → Wd → Prop
/-- r: the result of a run from w; K: what holds of every world behind it; Wx: of an exception -/
def After {α : Type} (S : St0) (r : Res α) (w : Wd) (Wx : WE) (K : α → Wd → Prop) : Prop := match r with
  | .stk => False
  | .err c d h' => ∀ w', w'.h = h' → Ext w w' → Sim S w' → Wx c d w'
  | .ok a h' => ∀ w', w'.h = h' → Ext w w' → Sim S w' → K a w'
theorem After.from {α : Type} {S : St0} {r : Res α} {w w1 : Wd} {Wx : WE} {K : α → Wd → Prop} (x : Ext w w1) (a : After S r w Wx K) : After S r w1 Wx K := by
  cases r with
  | stk => exact a
  | err c d h' => exact fun w' e x' s => a w' e (x.trans x') s
  | ok b h' => exact fun w' e x' s => a w' e (x.trans x') s
theorem After.imp {α : Type} {S : St0} {r : Res α} {w : Wd} {Wx : WE} {K K' : α → Wd → Prop} (a : After S r w Wx K) (i : ∀ b w', Ext w w' → Sim S w' → K b w' → K' b w') : After S r w Wx K' := by
  cases r with
  | stk => exact a
  | err c d h' => exact a
  | ok b h' => exact fun w' e x' s => i b w' x' s (a w' e x' s)
theorem After.bind {α β : Type} {S : St0} {m : M α} {f : α → M β} {w : Wd} {Wx : WE} {K : β → Wd → Prop} (a : After S ((m >>= f) w.h) w Wx K) :
    After S (m w.h) w Wx fun b w1 => After S (f b w1.h) w1 Wx K := by
  have a : After S (match m w.h with | .stk => .stk | .err c d h' => .err c d h' | .ok a h' => f a h') w Wx K := a
  cases e : m w.h with
  | stk => rw [e] at a; exact a.elim
  | err c d h' => rw [e] at a; exact a
  | ok b h' =>
    rw [e] at a
    intro w1 e1 x s
    have a : After S (f b h') w Wx K := a
    rw [← e1] at a
    exact a.from x
theorem After.pure {α : Type} {S : St0} {b : α} {w : Wd} {Wx : WE} {K : α → Wd → Prop} (s : Sim S w) (a : After S ((pure b : M α) w.h) w Wx K) : K b w := by
  have a : ∀ w', w'.h = w.h → Ext w w' → Sim S w' → K b w' := a
  exact a w rfl (Ext.refl w) s
theorem After.ok {α : Type} {S : St0} {b : α} {w : Wd} {Wx : WE} {K : α → Wd → Prop} (s : Sim S w) (a : After S (.ok b w.h) w Wx K) : K b w := a w rfl (Ext.refl w) s
end EV

/-! list(a text): the list of its signs. -/
namespace EV
open PySem PySem.Spec PyProof.Rows L2
section
variable {pr : Program} {wd : World} {Ar : Around} {Er : Value → Shared → Prop} {st : Shared} {x : Str} {t : Tok}
theorem txt_hint {Q : Bool → Shared → Prop} (q : Q false st) : wpAny (model pr wd) Ar (Builtin.List.listLengthHint (.str x t)) Q Er st := by
  have ty : st.TypeIs (.str x t) "str" := typeIs_str _ _ _
  unfold Builtin.List.listLengthHint
  refine wpAny_bind (wpAny_specialOf ty PySem.F.slot_str_len.lookup ?_)
  generalize nm : ("str.__len__" : String) = id1
  wp_delta
  rw [show splitId id1 = some ("str", "__len__") by subst nm; decide +kernel]
  subst nm
  refine wpAny_bind (wpAny_isInstance (T := "str") (b := true) ty (by rw [isSubtype_type]; kernel_rfl) (wpAny_ite_split (fun z => absurd z (by decide)) fun _ => wpAny_ite_split (fun _ => wpAny_bind (wpAny_typeOf ty (wpAny_pure q))) fun z => absurd (by decide +kernel) z))
theorem iter_ty : strIterType x = "str_ascii_iterator" ∨ strIterType x = "str_iterator" := by
  unfold strIterType
  split
  · exact .inl rfl
  · exact .inr rfl
/-- a list takes in a text's signs -/
theorem txt_extend {R : Result → Shared → Prop} (hh : Ar.handled = none) {L : Addr} {res : Value} {c0 : Nat} (gl : st.heap.get? L = some { cls := .type "list", data := .seq #[] c0 }) (few : x.cps.size ≤ sizeLine)
    (fin : ∀ h2 tk acc c, (∀ b o, b ≠ L → st.heap.get? b = some o → h2.get? b = some o) → h2.get? L = some { cls := .type "list", dict := none, data := .seq acc c, slots := #[] } → ItemsOf (SignAt x) acc x.cps.size → R (.ok (.ret res)) { st with heap := h2, toks := tk }) :
    wpAny (model pr wd) Ar.in1 (Builtin.List.listExtendWith (.ref L) (.str x t) res)
      (fun f s2 => match f with | .done f => R (.ok f) s2 | .again c => c.quiet = true ∧ codeAny (model pr wd) Ar c R s2) (fun e s2 => R (.error e) s2) st := by
  have apart : L ≠ st.heap.objs.size := Nat.ne_of_lt (Heap.lt_size gl)
  have apart' : L ∉ [st.heap.objs.size] := fun z => apart (List.mem_singleton.mp z)
  unfold Builtin.List.listExtendWith
  refine wpAny_bind (wpAny_typeOf (T := "str") (v := .str x t) (typeIs_str _ _ _) ?_)
  simp only [show Builtin.List.listSameRef (.ref L) (.str x t) = false from rfl, show (Value.type "str" == Value.type "list") = false by decide, show (Value.type "str" == Value.type "tuple") = false by decide, Bool.or_false, Bool.false_eq_true, if_false]
  refine wpAny_bind (wpAny_pyIter_strU (wpAny_bind (wpAny_holding (txt_hint ?_))))
  rw [if_neg (by first | decide | decide +kernel)]
  have src : (st.heap.push { cls := .type (strIterType x), data := .fields #[.str x t, .int 0 0] }).IsStrIter st.heap.objs.size (strIterType x) x t 0 := ⟨_, Heap.get?_push_size _ rfl, rfl, rfl⟩
  have end_ : ∀ (s2 : Shared) (acc : Array Value) (c : Nat), Moved [L, st.heap.objs.size] (fun a b => b = a) { st with heap := st.heap.push { cls := .type (strIterType x), data := .fields #[.str x t, .int 0 0] } } s2 → s2.heap.get? L = some { cls := .type "list", dict := none, data := .seq acc c, slots := #[] } → ItemsOf (SignAt x) acc x.cps.size → R (.ok (.ret res)) s2 := by
    intro s2 acc c mv g2 items
    rw [Moved.eq_with mv]
    refine fin s2.heap s2.toks acc c (fun b o nb gb => mv.heap b o (fun z => ?_) (Heap.get?_push_of_some _ gb)) g2 items
    rcases List.mem_cons.mp z with z | z
    · exact nb z
    · exact absurd (Heap.lt_size gb) (by rw [List.mem_singleton.mp z]; exact Nat.lt_irrefl _)
  refine wpAny_pure ⟨plainId_quiet PySem.F.plain_extend_loop _, ?_⟩
  cases q : x.cps.all (· < 128) with
  | true =>
    have ety : strIterType x = "str_ascii_iterator" := by unfold strIterType; rw [q]; rfl
    rw [ety] at src end_ ⊢
    exact codeAny_extend_loopS (Walks.strAscii (A := Ar.in1) hh st.heap.objs.size x t).toS few _ apart' _ x.cps.size 0 _ _ _ rfl (Nat.zero_le _) src (Heap.get?_push_of_some _ gl) (ItemsOf.nil _) end_
  | false =>
    have ety : strIterType x = "str_iterator" := by unfold strIterType; rw [q]; rfl
    rw [ety] at src end_ ⊢
    exact codeAny_extend_loopS (Walks.strWide (A := Ar.in1) hh st.heap.objs.size x t).toS few _ apart' _ x.cps.size 0 _ _ _ rfl (Nat.zero_le _) src (Heap.get?_push_of_some _ gl) (ItemsOf.nil _) end_
theorem txt_init {R : Result → Shared → Prop} (hh : Ar.handled = none) {L : Addr} (gl : st.heap.get? L = some { cls := .type "list", data := .seq #[] }) (few : x.cps.size ≤ sizeLine)
    (fin : ∀ h2 tk acc c, (∀ b o, b ≠ L → st.heap.get? b = some o → h2.get? b = some o) → h2.get? L = some { cls := .type "list", dict := none, data := .seq acc c, slots := #[] } → ItemsOf (SignAt x) acc x.cps.size → R (.ok (.ret .none)) { st with heap := h2, toks := tk }) :
    wpAny (model pr wd) Ar.in1 (Builtin.«list.__init__» ⟨[.ref L, .str x t], []⟩)
      (fun f s2 => match f with | .done f => R (.ok f) s2 | .again c => c.quiet = true ∧ codeAny (model pr wd) Ar c R s2) (fun e s2 => R (.error e) s2) st := by
  show wpAny _ _ (Builtin.List.listItems (.ref L) >>= fun old => Builtin.List.listUpdate (.ref L) (fun _ => #[]) >>= fun _ => letGo old.toList.reverse >>= fun _ => Builtin.List.listExtendWith (.ref L) (.str x t) .none) _ _ st
  unfold Builtin.List.listItems
  refine wpAny_bind (wpAny_bind (wpAny_seqItems gl rfl (wpAny_pure ?_)))
  have other : ∀ b o, b ≠ L → st.heap.get? b = some o → (st.heap.update L (Obj.mapSeq fun _ => (#[] : Array Value))).get? b = some o := fun b o nb gb => (Heap.get?_update_other _ _ (Ne.symm nb)).trans gb
  exact wpAny_bind (wpAny_updateSeq gl rfl (wpAny_bind (wpAny_letGo (txt_extend hh (Heap.get?_update_self (Obj.mapSeq fun _ => (#[] : Array Value)) gl rfl) few fun h2 tk acc c kp g2 items => fin h2 tk acc c (fun b o nb gb => kp b o nb (other b o nb gb)) g2 items))))
theorem txt_list {Q : Value → Shared → Prop} (hh : Ar.handled = none) (few : x.cps.size ≤ sizeLine)
    (fin : ∀ h2 tk acc c, (∀ b o, st.heap.get? b = some o → h2.get? b = some o) → h2.get? st.heap.objs.size = some { cls := .type "list", dict := none, data := .seq acc c, slots := #[] } → ItemsOf (SignAt x) acc x.cps.size → Q (.ref st.heap.objs.size) { st with heap := h2, toks := tk }) :
    wpAny (model pr wd) Ar (call (.type "list") [.str x t]) Q Er st := by
  refine callType_codes (Q₁ := fun o s1 => o = .ref st.heap.objs.size ∧ s1 = { st with heap := st.heap.push { cls := .type "list", data := .seq #[] } }) PySem.F.called_list (PySem.F.typeCall_list_1 _) PySem.F.entry_list_init (code_list_new _ ⟨rfl, rfl⟩) fun o s1 z => ?_
  obtain ⟨z1, z2⟩ := z
  subst z1
  subst z2
  have gl : (st.heap.push { cls := .type "list", data := .seq #[] }).get? st.heap.objs.size = some { cls := .type "list", data := .seq #[] } := Heap.get?_push_size _ rfl
  refine ⟨⟨_, gl, rfl⟩, PySem.F.args_list_init_2 _ _, txt_init (Ar := Ar.in1) hh gl few fun h2 tk acc c kp g2 items => ?_⟩
  exact ⟨rfl, fin h2 tk acc c (fun b o gb => kp b o (Nat.ne_of_lt (Heap.lt_size gb)) (Heap.get?_push_of_some _ gb)) g2 items⟩
end
end EV

/-! The evaluator's operations are the model's. -/
namespace EV
open PySem PySem.Spec PyProof.Rows L2

theorem sizeL_eq : sizeL = sizeLine := by rw [sizeLine_eq]; rfl

/-! ### a result at hand -/
def Fin (S : St0) (w : Wd) (Q : VK) (r : D) : Prop := ∀ w', w'.h = w.h → Ext w w' → Sim S w' → ∀ v, RepW S w' v r → Q v w'.H
section
variable {S : St0} {w : Wd} {Q : VK}
theorem Fin.here {v : V} {r : D} (f : Fin S w Q r) (s : Sim S w) (h : RepW S w v r) : Q v w.H := f w rfl (Ext.refl w) s v h
theorem Fin.tup {vs : List V} {ds : List D} {p : Addr} (f : Fin S w Q (.tup ds)) (s : Sim S w) (h : RepsW S w vs ds) (hp : w.H p = none) : Q (.ref p) (upd w.H p (.tup vs)) :=
  f ⟨w.φ, w.h, upd w.H p (.tup vs), w.no⟩ rfl (Ext.new s hp) (s.new hp) _ (.tup (SqT.of upd_same) (Reps.ext (Ext.new s hp).toExt0 h))
theorem Fin.lst {vs : List V} {ds : List D} {p : Addr} (f : Fin S w Q (.lst ds)) (s : Sim S w) (h : RepsW S w vs ds) (hp : w.H p = none) : Q (.ref p) (upd w.H p (.lst vs)) :=
  f ⟨w.φ, w.h, upd w.H p (.lst vs), w.no⟩ rfl (Ext.new s hp) (s.new hp) _ (.lstH upd_same (s.fresh hp) (Reps.ext (Ext.new s hp).toExt0 h))
theorem after_opt {Wx : WE} {o : Option D} {m : M D} (h : m w.h = (match o with | some d => Res.ok d w.h | none => Res.stk)) (a : After S (m w.h) w Wx fun d w' => ∀ v, RepW S w' v d → Q v w'.H) :
    ∃ r, o = some r ∧ Fin S w Q r := by
  rw [h] at a
  cases o with
  | none => exact a.elim
  | some d => exact ⟨d, rfl, a⟩

/-! ### what a value looks like -/
theorem rep_int {v : V} {i : Int} (h : RepW S w v (.int i)) : v = .int i := by cases h; rfl
theorem rep_bl {v : V} {b : Bool} (h : RepW S w v (.bl b)) : v = .bl b := by cases h; rfl
theorem rep_non {v : V} (h : RepW S w v .non) : v = .non := by cases h; rfl
theorem rep_str {v : V} {x : List Nat} (h : RepW S w v (.str x)) : v = .str (mkS x) ∧ PyData.strOk (mkS x) = true := by cases h with | str _ e => exact ⟨rfl, e⟩
theorem rep_tup {v : V} {l : List D} (h : RepW S w v (.tup l)) : ∃ a vs, v = .ref a ∧ SqT S.K w.H a vs ∧ RepsW S w vs l := by cases h with | tup q r => exact ⟨_, _, rfl, q, r⟩
theorem rep_lst {v : V} {l : List D} (h : RepW S w v (.lst l)) : ∃ a vs, v = .ref a ∧ Rd w.H a (.lst vs) ∧ RepsW S w vs l := by
  cases h with
  | lstH q n r => exact ⟨_, _, rfl, .inl q, r⟩
  | lstZ q r => exact ⟨_, _, rfl, .inr ⟨_, q⟩, r⟩
theorem deref_ne {d : D} {h : Hh} (k : ∀ n, d ≠ .ref n) : deref h d = d := by
  cases d with
  | ref n => exact absurd rfl (k n)
  | _ => rfl
theorem deref_cases (h : Hh) (d : D) : deref h d = d ∨ ∃ n l, d = .ref n ∧ h.objs[n]? = some (.lst l) ∧ deref h d = .lst l := by
  cases d with
  | ref n =>
    cases q : h.objs[n]? with
    | none => exact .inl (by unfold deref; simp only [q])
    | some o =>
      cases o with
      | lst l => exact .inr ⟨n, l, rfl, q, by unfold deref; simp only [q]⟩
      | _ => exact .inl (by unfold deref; simp only [q])
  | _ => exact .inl rfl
theorem deref_lst {v : V} {d : D} {l : List D} (s : Sim S w) (h : RepW S w v d) (e : deref w.h d = .lst l) : ∃ a vs, v = .ref a ∧ Rd w.H a (.lst vs) ∧ RepsW S w vs l := by
  rcases deref_cases w.h d with q | ⟨n, l', rfl, q1, q2⟩
  · rw [q] at e
    subst e
    exact rep_lst h
  · rw [q2] at e
    cases e
    cases h with
    | ref _ hn =>
      obtain ⟨vs, r1, r2⟩ := s.obj n _ q1
      exact ⟨_, vs, rfl, .inl r1, r2⟩
theorem deref_nl {d e : D} (q : deref w.h d = e) (h : ∀ l, e ≠ .lst l) : d = e := by
  rcases deref_cases w.h d with z | ⟨n, l', rfl, q1, q2⟩
  · rw [← z]; exact q
  · rw [q2] at q
    exact absurd q.symm (h l')
theorem sqL_of {a : Addr} {vs : List V} (r : Rd w.H a (.lst vs)) : SqL S.K w.H a vs := .inl r

/-! ### texts -/
theorem strOk_iff {x : List Nat} : PyData.strOk (mkS x) = true ↔ ∀ c ∈ x, c < 0x110000 := by
  unfold PyData.strOk
  simp
theorem mkS_append (x y : List Nat) : mkS x ++ mkS y = mkS (x ++ y) := by
  show Str.append _ _ = _
  unfold Str.append
  simp
theorem mkS_len (x : List Nat) : (mkS x).length = x.length := by
  show (x.toArray).size = _
  simp
theorem mkS_inj {x y : List Nat} (h : mkS x = mkS y) : x = y := by
  have := congrArg (fun s => s.cps.toList) h
  simpa using this
theorem mkS_list (x : List Nat) : (mkS x).cps.toList = x := by simp
theorem showI_eq (i : Int) : Str.ofString (toString i) = mkS (showI i) := Str.ofString_eq_toList _
theorem showI_ok (i : Int) : PyData.strOk (mkS (showI i)) = true := by
  rw [strOk_iff]
  intro c hc
  unfold showI at hc
  rw [List.mem_map] at hc
  obtain ⟨ch, _, rfl⟩ := hc
  have := ch.valid
  have e : ch.toNat = ch.val.toNat := rfl
  rw [e]
  rcases this with h | ⟨_, h⟩
  · have : ch.val.toNat < 55296 := h
    omega
  · exact h

/-! ### slices and places -/
theorem cut_sIx (n d : Nat) (o : Option Int) : HT.sIx n d o = adjIx n d o := by
  cases o with
  | none => exact HT.sIx_none n d
  | some i =>
    unfold HT.sIx adjIx
    simp only
    split
    · first | rfl | omega
    · split <;> omega
theorem cutV_cut {vs : List V} {lo hi : Option Int} : cutV vs lo hi = cut vs lo hi := by
  unfold cutV cut
  rw [cut_sIx, cut_sIx]
theorem Reps.cut' {vs : List V} {ds : List D} {lo hi : Option Int} (h : RepsW S w vs ds) : RepsW S w (EV.cut vs lo hi) (EV.cut ds lo hi) := by
  unfold EV.cut
  rw [h.length]
  exact (h.drop _).take _
theorem atI_at {α : Type} (xs : List α) (i : Int) : atI xs i = atIx xs i := by
  unfold atI atIx ixN ixOf
  split <;> (split <;> rfl)
theorem Reps.atIx {vs : List V} {ds : List D} {i : Int} {d : D} (h : RepsW S w vs ds) (e : EV.atIx ds i = some d) : ∃ v, EV.atIx vs i = some v ∧ RepW S w v d := by
  unfold EV.atIx at e ⊢
  rw [h.length]
  cases q : ixOf ds.length i with
  | none => rw [q] at e; cases e
  | some j => rw [q] at e; exact h.get e
theorem atIx_mem {α : Type} {l : List α} {i : Int} {c : α} (h : EV.atIx l i = some c) : c ∈ l := by
  unfold EV.atIx at h
  split at h
  · exact List.mem_of_getElem? h
  · cases h

/-! ### data -/
mutual
def toP : D → PyData
  | .non => .none
  | .bl b => .bool b
  | .int i => .int i
  | .str x => .str (mkS x)
  | .tup l => .tuple (toPs l)
  | .lst l => .list (toPs l)
  | .ref _ => .none
  | .fn _ => .none
  | .exc _ _ => .none
def toPs : List D → List PyData
  | [] => []
  | d :: r => toP d :: toPs r
end
mutual
theorem toP_dep : ∀ d : D, (toP d).depth ≤ dep d
  | .non => by simp [toP, PyData.depth]
  | .bl _ => by simp [toP, PyData.depth]
  | .int _ => by simp [toP, PyData.depth]
  | .str _ => by simp [toP, PyData.depth]
  | .tup l => by
    have := toPs_dep l
    simp only [toP, PyData.depth, dep]
    omega
  | .lst l => by
    have := toPs_dep l
    simp only [toP, PyData.depth, dep]
    omega
  | .ref _ => by simp [toP, PyData.depth]
  | .fn _ => by simp [toP, PyData.depth]
  | .exc _ _ => by simp [toP, PyData.depth]
theorem toPs_dep : ∀ l : List D, PyData.depthAll (toPs l) ≤ depL l
  | [] => by simp [toPs, PyData.depthAll]
  | d :: r => by
    have h1 := toP_dep d
    have h2 := toPs_dep r
    simp only [toPs, PyData.depthAll, depL]
    have e : Nat.max (dep d) (depL r) = max (dep d) (depL r) := rfl
    rw [e]
    omega
end
mutual
theorem toP_eqv : ∀ a b : D, okD a = true → okD b = true → PyData.eqv (toP a) (toP b) = eqD a b
  | .tup x, .tup y, h, k => by
    simp only [toP, PyData.eqv, eqD]
    exact toPs_eqv x y h k
  | .lst x, .lst y, h, k => by
    simp only [toP, PyData.eqv, eqD]
    exact toPs_eqv x y h k
  | .str x, .str y, _, _ => by
    simp only [toP, PyData.eqv, eqD]
    by_cases e : x = y
    · subst e; simp
    · have : ¬ mkS x = mkS y := fun q => e (mkS_inj q)
      rw [beq_eq_false_iff_ne.mpr e, beq_eq_false_iff_ne.mpr this]
  | .non, b, _, k => by cases b <;> first | (cases k; done) | simp [toP, PyData.eqv, eqD]
  | .bl _, b, _, k => by cases b <;> first | (cases k; done) | simp [toP, PyData.eqv, eqD]
  | .int _, b, _, k => by cases b <;> first | (cases k; done) | simp [toP, PyData.eqv, eqD]
  | .str _, .non, _, k => by simp [toP, PyData.eqv, eqD]
  | .str _, .bl _, _, k => by simp [toP, PyData.eqv, eqD]
  | .str _, .int _, _, k => by simp [toP, PyData.eqv, eqD]
  | .str _, .tup _, _, k => by simp [toP, PyData.eqv, eqD]
  | .str _, .lst _, _, k => by simp [toP, PyData.eqv, eqD]
  | .tup _, .non, _, k => by simp [toP, PyData.eqv, eqD]
  | .tup _, .bl _, _, k => by simp [toP, PyData.eqv, eqD]
  | .tup _, .int _, _, k => by simp [toP, PyData.eqv, eqD]
  | .tup _, .str _, _, k => by simp [toP, PyData.eqv, eqD]
  | .tup _, .lst _, _, k => by simp [toP, PyData.eqv, eqD]
  | .lst _, .non, _, k => by simp [toP, PyData.eqv, eqD]
  | .lst _, .bl _, _, k => by simp [toP, PyData.eqv, eqD]
  | .lst _, .int _, _, k => by simp [toP, PyData.eqv, eqD]
  | .lst _, .str _, _, k => by simp [toP, PyData.eqv, eqD]
  | .lst _, .tup _, _, k => by simp [toP, PyData.eqv, eqD]
  | .ref _, _, h, _ => by cases h
  | .fn _, _, h, _ => by cases h
  | .exc _ _, _, h, _ => by cases h
  | .str _, .ref _, _, k => by cases k
  | .str _, .fn _, _, k => by cases k
  | .str _, .exc _ _, _, k => by cases k
  | .tup _, .ref _, _, k => by cases k
  | .tup _, .fn _, _, k => by cases k
  | .tup _, .exc _ _, _, k => by cases k
  | .lst _, .ref _, _, k => by cases k
  | .lst _, .fn _, _, k => by cases k
  | .lst _, .exc _ _, _, k => by cases k
theorem toPs_eqv : ∀ x y : List D, okL x = true → okL y = true → PyData.eqvAll (toPs x) (toPs y) = eqL x y
  | [], [], _, _ => by simp [toPs, PyData.eqvAll, eqL]
  | [], _ :: _, _, _ => by simp [toPs, PyData.eqvAll, eqL]
  | _ :: _, [], _, _ => by simp [toPs, PyData.eqvAll, eqL]
  | a :: x, b :: y, h, k => by
    obtain ⟨h1, h2⟩ := Bool.and_eq_true_iff.mp (show (okD a && okL x) = true from h)
    obtain ⟨k1, k2⟩ := Bool.and_eq_true_iff.mp (show (okD b && okL y) = true from k)
    simp only [toPs, PyData.eqvAll, eqL]
    rw [toP_eqv a b h1 k1, toPs_eqv x y h2 k2]
end
mutual
theorem toP_dp : ∀ {v : V} {d : D}, RepW S w v d → okD d = true → Dp S.K w.H v (toP d) ∧ (toP d).canLay0 = true
  | _, _, .non, _ => ⟨by simp only [toP]; exact .non, by simp [toP, PyData.canLay0]⟩
  | _, _, .bl b, _ => ⟨by simp only [toP]; exact .bl b, by simp [toP, PyData.canLay0]⟩
  | _, _, .int i, _ => ⟨by simp only [toP]; exact .int i, by simp [toP, PyData.canLay0]⟩
  | _, _, .str x e, _ => ⟨by simp only [toP]; exact .str _, by simp only [toP, PyData.canLay0]; exact e⟩
  | _, _, .tup q r, k => by
    obtain ⟨h1, h2⟩ := toPs_dp r k
    exact ⟨by simp only [toP]; exact .tup q h1, by simp only [toP, PyData.canLay0]; exact h2⟩
  | _, _, .lstH q n r, k => by
    obtain ⟨h1, h2⟩ := toPs_dp r k
    exact ⟨by simp only [toP]; exact .lst (.inl (.inl q)) h1, by simp only [toP, PyData.canLay0]; exact h2⟩
  | _, _, .lstZ q r, k => by
    obtain ⟨h1, h2⟩ := toPs_dp r k
    exact ⟨by simp only [toP]; exact .lst (.inl (.inr ⟨_, q⟩)) h1, by simp only [toP, PyData.canLay0]; exact h2⟩
  | _, _, .ref _ _, k => by cases k
  | _, _, .fn _, k => by cases k
theorem toPs_dp : ∀ {vs : List V} {ds : List D}, RepsW S w vs ds → okL ds = true → DpAll S.K w.H vs (toPs ds) ∧ PyData.canLayAll0 (toPs ds) = true
  | _, _, .nil, _ => ⟨by simp only [toPs]; exact .nil, by simp [toPs, PyData.canLayAll0]⟩
  | _, _, .cons r t, k => by
    obtain ⟨k1, k2⟩ := Bool.and_eq_true_iff.mp (show (okD _ && okL _) = true from k)
    obtain ⟨h1, h2⟩ := toP_dp r k1
    obtain ⟨h3, h4⟩ := toPs_dp t k2
    exact ⟨by simp only [toPs]; exact .cons h1 h3, by simp only [toPs, PyData.canLayAll0, h2, h4]; rfl⟩
end
theorem toPs_map : ∀ l : List D, toPs l = l.map toP
  | [] => by simp [toPs]
  | d :: r => by simp only [toPs, List.map_cons, toPs_map r]
theorem dat_of {d : D} (h : datD d = true) : okD d = true ∧ dep d ≤ 60 := by
  obtain ⟨h1, h2⟩ := Bool.and_eq_true_iff.mp (show (okD d && decide (dep d ≤ 60)) = true from h)
  exact ⟨h1, of_decide_eq_true h2⟩
theorem dat_dp {v : V} {d : D} (r : RepW S w v d) (h : datD d = true) : Dp S.K w.H v (toP d) ∧ SeqAt.shaped (toP d) = true := by
  obtain ⟨h1, h2⟩ := dat_of h
  obtain ⟨h3, h4⟩ := toP_dp r h1
  refine ⟨h3, ?_⟩
  show ((toP d).canLay0 && decide ((toP d).depth ≤ 64)) = true
  rw [Bool.and_eq_true]
  exact ⟨h4, decide_eq_true (Nat.le_trans (toP_dep d) (by omega))⟩
/-- the data behind a value, a list of ours read -/
theorem dat_deref {v : V} {d : D} (s : Sim S w) (r : RepW S w v d) (h : datD (deref w.h d) = true) : Dp S.K w.H v (toP (deref w.h d)) ∧ SeqAt.shaped (toP (deref w.h d)) = true := by
  rcases deref_cases w.h d with q | ⟨n, l, rfl, q1, q2⟩
  · rw [q] at h ⊢
    exact dat_dp r h
  · rw [q2] at h ⊢
    cases r with
    | ref _ hn =>
      obtain ⟨vs, r1, r2⟩ := s.obj n _ q1
      obtain ⟨h1, h2⟩ := dat_of h
      obtain ⟨h3, h4⟩ := toPs_dp (w := w) r2 h1
      refine ⟨by simp only [toP]; exact .lst (.inl (.inl r1)) h3, ?_⟩
      show ((toP (.lst l)).canLay0 && decide ((toP (.lst l)).depth ≤ 64)) = true
      rw [Bool.and_eq_true]
      exact ⟨by simp only [toP, PyData.canLay0]; exact h4, decide_eq_true (Nat.le_trans (toP_dep _) (by omega))⟩
end
end EV

/-! The evaluator's operations are the model's: the rules. -/
namespace EV
open PySem PySem.Spec PyProof.Rows L2

section
variable {X : Cx} {S : St0}
/-- two lists that are read, one behind the other -/
theorem op_catR : OpR X (binaryOp .Add) (fun x y H Q => ∃ l b xs zs, x = .ref l ∧ y = .ref b ∧ Rd H l (.lst xs) ∧ Rd H b (.lst zs) ∧ xs.length + zs.length ≤ sizeLine ∧ ∀ p, H p = none → Q (.ref p) (upd H p (.lst (xs ++ zs)))) :=
  fun pins s σ H x y v u Q I rx ry hw => by
    obtain ⟨pa, pb, as, bs, ex, ey, ha, hb, room, fin⟩ := hw
    subst ex
    subst ey
    cases rx
    cases ry
    obtain ⟨_, ia, _, ra, ga⟩ := ha.ok I.hok
    obtain ⟨_, ib, _, rb, gb⟩ := hb.ok I.hok
    have na := ra.length
    have nb := rb.length
    have fits : ia.toArray.size + ib.toArray.size ≤ sizeLine := by
      rw [List.size_toArray, List.size_toArray]
      omega
    refine PySem.P.add_list ga gb ?_ fits
    rw [show ia.toArray ++ ib.toArray = (ia ++ ib).toArray by simp]
    have ln : (as ++ bs).length ≤ sizeLine := by
      rw [List.length_append]
      exact room
    exact ⟨.ref _, _, I.lnew (t' := s.toks) (ra.append rb) ln, rfl, fin _ I.fresh⟩
theorem flat_arr (its : List Value) (k : Nat) : List.foldl (fun a b => a ++ b) #[] (List.replicate (if its.toArray.isEmpty = true then 0 else k) its.toArray) = (List.replicate k its).flatten.toArray := by
  have step : ∀ m : Nat, List.foldl (fun a b => a ++ b) #[] (List.replicate m its.toArray) = (List.replicate m its).flatten.toArray := fun m => (foldl_rep its m []).trans (by rw [List.nil_append])
  rw [step]
  match its with
  | [] => simp
  | a :: r => simp
/-- a list that is read, some times over -/
theorem op_repR : OpR X (binaryOp .Mult) (fun x y H Q => ∃ l k xs, x = .ref l ∧ y = .int k ∧ Rd H l (.lst xs) ∧ -(2 ^ 63) ≤ k ∧ k < 2 ^ 63 ∧ xs.length * k.toNat ≤ sizeLine ∧
    ∀ p, H p = none → Q (.ref p) (upd H p (.lst (List.replicate k.toNat xs).flatten))) :=
  fun pins s σ H x y v u Q I rx ry hw => by
    obtain ⟨pa, times, as, ex, ey, ha, lo, hi, room, fin⟩ := hw
    subst ex
    subst ey
    cases rx
    obtain ⟨tk, rfl⟩ := ry
    obtain ⟨_, ia, na, ra, ga⟩ := ha.ok I.hok
    have room' : ia.toArray.size * times.toNat ≤ sizeLine := by
      rw [List.size_toArray, ← ra.length]
      exact room
    have most : (sizeLine : Nat) ≤ (2 ^ 63 - 1) / 8 := by decide
    have c1 : ¬ (!Builtin.List.listFitsIndex times) = true := fun z => by
      rw [fitsIndex_both lo hi] at z
      cases z
    have c2 : ¬ ia.toArray.size * times.toNat > (2 ^ 63 - 1) / 8 := fun z => absurd (Nat.lt_of_lt_of_le z room') (Nat.not_lt.mpr most)
    have c3 : ¬ Builtin.List.listTooLong (ia.toArray.size * times.toNat) = true := fun z => by
      rw [notLongL room'] at z
      cases z
    have isInt := fun s' => typeIs_int s' times tk
    have other := AutoListH.list___mul___list_int_3 pa ia.toArray na times tk c1 c2 c3
    have back := int___rmul___int_list times tk pa ia.toArray na
    have ln : (List.replicate times.toNat as).flatten.length ≤ sizeLine := by
      rw [PyProof.Rows.lm_len_rep_flat, Nat.mul_comm]
      exact room
    refine wpAny_binaryOp_repeat_ref (T := "list") (U := "int") (by decide) ⟨_, ga, rfl⟩ isInt noFill_list_mul F.fills_int_mul F.slot_int_rmul repeat_list F.slot_int_index.lookup (call_meets F.slot_int_rmul (isInt s) F.entry_int_rmul (F.args_int_rmul_2 _ _) back ⟨ga, rfl, ⟨_, ga, rfl⟩, ?_⟩)
    refine call_meets F.slot_list_mul ⟨_, ga, rfl⟩ F.entry_list_mul (F.args_list_mul_2 _ _) other ⟨ga, ?_⟩
    rw [flat_arr]
    exact ⟨.ref _, _, I.lnew (t' := s.toks) (ra.rep times.toNat) ln, rfl, fin _ I.fresh⟩

/-- a tuple, some times over: a million of places at most -/
theorem op_repM : OpR X (binaryOp .Mult) (fun x y H Q => ∃ a m zs, x = .ref a ∧ y = .int m ∧ SqT X.K H a zs ∧ zs ≠ [] ∧ 2 ≤ m ∧ m ≤ 1000000 ∧ zs.length * m.toNat ≤ 1000000 ∧
    ∀ p, H p = none → Q (.ref p) (upd H p (.tup (List.replicate m.toNat zs).flatten))) :=
  fun pins s σ H x y v u Q I rx ry hw => by
    obtain ⟨pa, m, zs, ex, ey, ht, nz, lo, hi, room, fin⟩ := hw
    subst ex
    subst ey
    cases rx
    obtain ⟨tk, rfl⟩ := ry
    obtain ⟨ia, rz, ⟨⟨cl, di, da, so⟩, ga, ec, na, ed⟩, _⟩ := I.tuple ht
    simp only at ec ed
    subst ec
    subst ed
    have same : ia.length = zs.length := rz.length.symm
    have full : ia ≠ [] := fun z => nz (by
      rw [z] at same
      exact List.eq_nil_of_length_eq_zero same.symm)
    have some1 : ia.toArray.isEmpty = false := by
      cases ia with
      | nil => exact absurd rfl full
      | cons a b => rfl
    have width : ia.toArray.size = zs.length := by rw [List.size_toArray, same]
    have nat : ((m.toNat : Nat) : Int) = m := Int.toNat_of_nonneg (by omega)
    have most : ((ia.toArray.size : Nat) : Int) * m ≤ 1000000 := by
      rw [width]
      calc ((zs.length : Nat) : Int) * m = ((zs.length * m.toNat : Nat) : Int) := by rw [Int.natCast_mul, nat]
        _ ≤ 1000000 := by omega
    have room' : (List.replicate m.toNat ia).flatten.length ≤ sizeLine := by
      rw [PyProof.Rows.lm_len_rep_flat, same, sizeLine_eq, Nat.mul_comm]
      omega
    have room2 : (List.replicate m.toNat zs).flatten.length ≤ sizeLine := by
      rw [PyProof.Rows.lm_len_rep_flat, sizeLine_eq, Nat.mul_comm]
      omega
    have d0 : (decide (m < -(2 ^ 63)) || decide (m ≥ 2 ^ 63)) = false := Bool.or_eq_false_iff.mpr ⟨decide_eq_false (by omega), decide_eq_false (by omega)⟩
    have d1 : (ia.toArray.isEmpty || m == 1) = false := Bool.or_eq_false_iff.mpr ⟨some1, beq_eq_false_iff_ne.mpr (by omega)⟩
    have d2 : (decide (m ≤ 0) || ia.toArray.isEmpty) = false := Bool.or_eq_false_iff.mpr ⟨decide_eq_false (by omega), some1⟩
    have d4 : Builtin.Tuple.tupleTooMany (((ia.toArray.size : Nat) : Int) * m) = false := by
      rw [Builtin.Tuple.tupleTooMany, sizeLine_eq]
      exact decide_eq_false (by omega)
    have other := int_rmul_tuple m tk pa ia.toArray na di so
    have mul := tuple_mulW pa ia.toArray na di so m tk d0 d1 d2 (by omega) d4 (by rw [size_rep, List.size_toArray]; exact room')
    refine wpAny_binaryOp_repeat_ref (T := "tuple") (U := "int") (by decide) ⟨_, ga, rfl⟩ (fun z => typeIs_int z m tk) noFill_tuple_mul F.fills_int_mul F.slot_int_rmul repeat_tuple F.slot_int_index.lookup (call_meets F.slot_int_rmul (typeIs_int s m tk) F.entry_int_rmul (F.args_int_rmul_2 _ _) other ⟨ga, rfl, ⟨_, ga, rfl⟩, ?_⟩)
    refine call_meets F.slot_tuple_mul ⟨_, ga, rfl⟩ F.entry_tuple_mul (F.args_tuple_mul_2 _ _) mul ⟨ga, ?_⟩
    rw [size_rep]
    exact ⟨.ref _, _, I.laid (t' := s.toks) (o := .tup (List.replicate m.toNat zs).flatten) (fun b ob q => Heap.get?_push_of_some _ q) (Nat.le_refl _) ⟨room2, _, rz.rep m.toNat, IsTup.new _ _⟩, rfl, fin _ I.fresh⟩

/-- which operator -/
def opOf : BOp → Operator
  | .add => .Add | .sub => .Sub | .mul => .Mult | .fdiv => .FloorDiv | .mod => .Mod | .pow => .Pow | .shl => .LShift | .shr => .RShift | .band => .BitAnd | .bxor => .BitXor
def cpOf : COp → CmpOp
  | .eq => .Eq | .ne => .NotEq | .lt => .Lt | .le => .LtE | .gt => .Gt | .ge => .GtE | .is => .Is | .isn => .IsNot | .mem => .In | .nmem => .NotIn

theorem small_of {i : Int} (h : smallI i = true) : -(2 ^ 64) < i ∧ i < 2 ^ 64 := by
  obtain ⟨h1, h2⟩ := Bool.and_eq_true_iff.mp (show (decide (-(2 ^ 64) < i) && decide (i < 2 ^ 64)) = true from h)
  exact ⟨of_decide_eq_true h1, of_decide_eq_true h2⟩
theorem int_ok (o : BOp) {pins : List (Addr × Obj)} {s : Shared} {σ : L2.St} {H : Hp} {i j k : Int} {v u : Value} {Q : VK} (I : Inv X pins σ H s) (rx : RelV (.int i) v) (ry : RelV (.int j) u) (e : binI o i j = some k) (q : Q (.int k) H) :
    wpAny (model X.prog X.w) X.A (binaryOp (opOf o) v u) (EP X pins σ Q) X.xe s := by
  cases o with
  | add => cases e; exact op_add pins s σ H _ _ v u Q I rx ry ⟨i, j, rfl, rfl, q⟩
  | sub => cases e; exact op_sub pins s σ H _ _ v u Q I rx ry ⟨i, j, rfl, rfl, q⟩
  | mul =>
    have e : (if (smallI i || smallI j || decide (bits i + bits j ≤ 900000)) = true then some (i * j) else none) = some k := e
    split at e
    · next c =>
      cases e
      rcases Bool.or_eq_true_iff.mp c with c | c
      · rcases Bool.or_eq_true_iff.mp c with c | c
        · exact op_mul pins s σ H _ _ v u Q I rx ry ⟨i, j, rfl, rfl, .inl (small_of c), q⟩
        · exact op_mul pins s σ H _ _ v u Q I rx ry ⟨i, j, rfl, rfl, .inr (small_of c), q⟩
      · have c := of_decide_eq_true c
        unfold bits at c
        exact op_mulW pins s σ H _ _ v u Q I rx ry ⟨i, j, rfl, rfl, (by unfold CMulW; omega), q⟩
    · cases e
  | fdiv =>
    have e : (if (decide (0 < j) && decide (bits j ≤ 8000)) = true then some (i / j) else none) = some k := e
    split at e
    · next c =>
      cases e
      obtain ⟨c1, c2⟩ := Bool.and_eq_true_iff.mp c
      have c1 := of_decide_eq_true c1
      have c2 := of_decide_eq_true c2
      unfold bits at c2
      exact op_fdivW pins s σ H _ _ v u Q I rx ry ⟨i, j, rfl, rfl, ⟨c1, by omega⟩, q⟩
    · cases e
  | mod =>
    have e : (if decide (0 < j) = true then some (i % j) else none) = some k := e
    split at e
    · next c => cases e; exact op_mod pins s σ H _ _ v u Q I rx ry ⟨i, j, rfl, rfl, of_decide_eq_true c, q⟩
    · cases e
  | pow =>
    have e : (if (decide (0 ≤ j) && decide (j ≤ 1000000) && decide (i.natAbs < 2 ^ 64)) = true then some (i ^ j.toNat) else none) = some k := e
    split at e
    · next c =>
      cases e
      obtain ⟨c, c3⟩ := Bool.and_eq_true_iff.mp c
      obtain ⟨c1, c2⟩ := Bool.and_eq_true_iff.mp c
      exact op_pow pins s σ H _ _ v u Q I rx ry ⟨i, j, rfl, rfl, ⟨of_decide_eq_true c1, of_decide_eq_true c2, of_decide_eq_true c3⟩, q⟩
    · cases e
  | shl =>
    have e : (if (decide (0 ≤ j) && decide (j ≤ 1000000) && decide (i.natAbs < 2 ^ 64)) = true then some (i * 2 ^ j.toNat) else none) = some k := e
    split at e
    · next c =>
      cases e
      obtain ⟨c, c3⟩ := Bool.and_eq_true_iff.mp c
      obtain ⟨c1, c2⟩ := Bool.and_eq_true_iff.mp c
      exact op_shl pins s σ H _ _ v u Q I rx ry ⟨i, j, rfl, rfl, ⟨of_decide_eq_true c1, of_decide_eq_true c2, of_decide_eq_true c3⟩, q⟩
    · cases e
  | shr =>
    have e : (if decide (0 ≤ j) = true then some (i / 2 ^ j.toNat) else none) = some k := e
    split at e
    · next c => cases e; exact op_shr pins s σ H _ _ v u Q I rx ry ⟨i, j, rfl, rfl, of_decide_eq_true c, q⟩
    · cases e
  | band => cases e; exact op_and pins s σ H _ _ v u Q I rx ry ⟨i, j, rfl, rfl, q⟩
  | bxor => cases e; exact op_xor pins s σ H _ _ v u Q I rx ry ⟨i, j, rfl, rfl, q⟩

/-- operands that stand in a world -/
def r2 (S : St0) (f : D → D → Option D) : R2 := fun x y H Q => ∃ w d e r, w.H = H ∧ Sim S w ∧ RepW S w x d ∧ RepW S w y e ∧ f (deref w.h d) (deref w.h e) = some r ∧ Fin S w Q r
theorem bin_ok (hK : X.K = S.K) (o : BOp) : OpR X (binaryOp (opOf o)) (r2 S (binV o)) := by
  intro pins s σ H x y v u Q I rx ry h
  obtain ⟨w, d, e, r, rfl, sim, hd, he, hr, f⟩ := h
  generalize qd : deref w.h d = d' at hr
  generalize qe : deref w.h e = e' at hr
  unfold binV at hr
  split at hr
  · next i j =>
    have z1 := deref_nl qd fun l => nofun
    have z2 := deref_nl qe fun l => nofun
    subst z1 z2
    cases rep_int hd
    cases rep_int he
    rw [Option.map_eq_some_iff] at hr
    obtain ⟨k, hk, rfl⟩ := hr
    exact int_ok o I rx ry hk (f.here sim (.int k))
  · next i b =>
    have z1 := deref_nl qd fun l => nofun
    have z2 := deref_nl qe fun l => nofun
    subst z1 z2
    cases rep_int hd
    cases rep_bl he
    split at hr
    · cases hr
      exact op_add_ib pins s σ w.H _ _ v u Q I rx ry ⟨i, b, rfl, rfl, f.here sim (by
        have e : b2i b = (if b = true then 1 else 0) := by cases b <;> rfl
        rw [e]
        exact .int _)⟩
    · cases hr
  · next a b =>
    have z1 := deref_nl qd fun l => nofun
    have z2 := deref_nl qe fun l => nofun
    subst z1 z2
    obtain ⟨rfl, o1⟩ := rep_str hd
    obtain ⟨rfl, o2⟩ := rep_str he
    split at hr
    · split at hr
      · next c =>
        cases hr
        refine op_add_str pins s σ w.H _ _ v u Q I rx ry ⟨_, _, rfl, rfl, ?_, ?_⟩
        · rw [mkS_len, mkS_len, ← sizeL_eq]
          exact of_decide_eq_true c
        · rw [mkS_append]
          refine f.here sim (.str _ ?_)
          rw [strOk_iff] at o1 o2 ⊢
          intro c hc
          rcases List.mem_append.mp hc with hc | hc
          · exact o1 c hc
          · exact o2 c hc
      · cases hr
    · cases hr
  · next a b =>
    have z1 := deref_nl qd fun l => nofun
    have z2 := deref_nl qe fun l => nofun
    subst z1 z2
    obtain ⟨p1, v1, rfl, s1, t1⟩ := rep_tup hd
    obtain ⟨p2, v2, rfl, s2, t2⟩ := rep_tup he
    split at hr
    · split at hr
      · next c =>
        cases hr
        have l1 := t1.length
        have l2 := t2.length
        have c := of_decide_eq_true c
        rw [sizeL_eq] at c
        refine op_catA pins s σ w.H _ _ v u Q I rx ry ⟨p1, p2, v1, v2, rfl, rfl, by rw [hK]; exact s1, by rw [hK]; exact s2, by omega, fun z => ?_, fun z1 z2 => ?_, fun _ _ p hp => ?_⟩
        · subst z
          cases t1
          exact f.here sim (.tup s2 t2)
        · subst z2
          cases t2
          rw [List.append_nil] at f
          exact f.here sim (.tup s1 t1)
        · exact f.tup sim (t1.append t2) hp
      · cases hr
    · cases hr
  · next a b =>
    obtain ⟨p1, v1, rfl, s1, t1⟩ := deref_lst sim hd qd
    obtain ⟨p2, v2, rfl, s2, t2⟩ := deref_lst sim he qe
    split at hr
    · split at hr
      · next c =>
        cases hr
        have l1 := t1.length
        have l2 := t2.length
        have c := of_decide_eq_true c
        rw [sizeL_eq] at c
        exact op_catR pins s σ w.H _ _ v u Q I rx ry ⟨p1, p2, v1, v2, rfl, rfl, s1, s2, by omega, fun p hp => f.lst sim (t1.append t2) hp⟩
      · cases hr
    · cases hr
  · next a k =>
    have z1 := deref_nl qd fun l => nofun
    have z2 := deref_nl qe fun l => nofun
    subst z1 z2
    obtain ⟨p1, v1, rfl, s1, t1⟩ := rep_tup hd
    cases rep_int he
    split at hr
    · split at hr
      · next c =>
        cases hr
        have l1 := t1.length
        obtain ⟨c, c'⟩ := Bool.and_eq_true_iff.mp c
        obtain ⟨c1, c2⟩ := Bool.and_eq_true_iff.mp c
        obtain ⟨c3, c4⟩ := Bool.and_eq_true_iff.mp c'
        have c4 := of_decide_eq_true c4
        refine op_repM pins s σ w.H _ _ v u Q I rx ry ⟨p1, k, v1, rfl, rfl, by rw [hK]; exact s1, ?_, of_decide_eq_true c1, of_decide_eq_true c2, by rw [l1]; exact c4, fun p hp => f.tup sim (t1.flat _) hp⟩
        rintro rfl
        cases t1
        cases c3
      · cases hr
    · cases hr
  · next a k =>
    obtain ⟨p1, v1, rfl, s1, t1⟩ := deref_lst sim hd qd
    have z2 := deref_nl qe fun l => nofun
    subst z2
    cases rep_int he
    split at hr
    · split at hr
      · next c =>
        cases hr
        have l1 := t1.length
        obtain ⟨c, c3⟩ := Bool.and_eq_true_iff.mp c
        obtain ⟨c1, c2⟩ := Bool.and_eq_true_iff.mp c
        have c1 := of_decide_eq_true c1
        have c2 := of_decide_eq_true c2
        have c3 := of_decide_eq_true c3
        rw [sizeL_eq, ← l1] at c3
        exact op_repR pins s σ w.H _ _ v u Q I rx ry ⟨p1, k, v1, rfl, rfl, s1, by omega, by omega, c3, fun p hp => f.lst sim (t1.flat _) hp⟩
      · cases hr
    · cases hr
  · cases hr

theorem in_seqD {pins : List (Addr × Obj)} {s : Shared} {σ : L2.St} {w : Wd} {x y : V} {v u : Value} {Q : VK} {d e : D} {l : List D} {b : Bool} (hK : X.K = S.K) (hu : X.A.units + 65 < cLine) (sim : Sim S w) (I : Inv X pins σ w.H s) (rx : RelV x v) (ry : RelV y u)
    (hd : RepW S w x d) (he : RepW S w y e) (z : deref w.h e = .tup l ∨ deref w.h e = .lst l) (hb : memL (deref w.h d) l = some b) :
    (Q (.bl b) w.H → wpAny (model X.prog X.w) X.A (compareOp .In v u) (EP X pins σ Q) X.xe s) ∧ (Q (.bl (!b)) w.H → wpAny (model X.prog X.w) X.A (compareOp .NotIn v u) (EP X pins σ Q) X.xe s) := by
  unfold memL at hb
  split at hb
  · next c =>
    obtain ⟨c1, c2⟩ := Bool.and_eq_true_iff.mp c
    cases hb
    obtain ⟨h1, h2⟩ := dat_deref sim hd c1
    rw [← hK] at h1
    obtain ⟨as, r1⟩ := Dp.reads I _ x v h1 rx
    have okl : okL l = true := (dat_of c2).1
    have ev : (l.any fun z => eqD z (deref w.h d)) = (toPs l).any fun z => PyData.eqv z (toP (deref w.h d)) := by
      rw [toPs_map, List.any_map]
      have : ∀ l : List D, okL l = true → (l.any fun z => eqD z (deref w.h d)) = l.any ((fun z => PyData.eqv z (toP (deref w.h d))) ∘ toP) := by
        intro l
        induction l with
        | nil => intro _; rfl
        | cons a r ih =>
          intro k
          obtain ⟨k1, k2⟩ := Bool.and_eq_true_iff.mp (show (okD a && okL r) = true from k)
          rw [List.any_cons, List.any_cons, ih k2]
          show _ = (PyData.eqv (toP a) (toP (deref w.h d)) || _)
          rw [toP_eqv a _ k1 (dat_of c1).1]
      exact this l okl
    rcases z with z | z
    · have ze := deref_nl z fun l => nofun
      have c2' : datD (deref w.h e) = true := by rw [z]; exact c2
      obtain ⟨h3, h4⟩ := dat_deref sim he c2'
      rw [z] at h3 h4
      simp only [toP] at h3 h4
      rw [← hK] at h3
      obtain ⟨bs, r2⟩ := Dp.reads I _ y u h3 ry
      have hx : PyData.canLayAll0 (toPs l) = true := by
        have := SeqAt.canLay_of_shaped h4
        simpa only [PyData.canLay0] using this
      refine ⟨fun q => ?_, fun q => ?_⟩
      · exact SeqAt.in_tuple_reads r2 r1 hx (SeqAt.canLay_of_shaped h2) (room_in_shaped h2 hu) ⟨.bl _, _, I, rfl, by rw [← ev]; exact q⟩
      · exact SeqAt.notIn_tuple_reads r2 r1 hx (SeqAt.canLay_of_shaped h2) (room_in_shaped h2 hu) ⟨.bl _, _, I, rfl, by rw [← ev]; exact q⟩
    · have c2' : datD (deref w.h e) = true := by rw [z]; exact c2
      obtain ⟨h3, h4⟩ := dat_deref sim he c2'
      rw [z] at h3 h4
      simp only [toP] at h3 h4
      rw [← hK] at h3
      refine ⟨fun q => op_inD hu pins s σ w.H x y v u Q I rx ry ⟨_, _, h1, h3, h2, h4, ?_⟩, fun q => op_notInD hu pins s σ w.H x y v u Q I rx ry ⟨_, _, h1, h3, h2, h4, ?_⟩⟩
      · rw [← ev]; exact q
      · rw [← ev]; exact q
  · cases hb

theorem lt_cps (x y : List Nat) : decide ((mkS x).cps.toList < (mkS y).cps.toList) = ltS x y := by
  rw [mkS_list, mkS_list]
  induction x generalizing y with
  | nil =>
    cases y with
    | nil => rfl
    | cons b y => exact decide_eq_true (List.nil_lt_cons b y)
  | cons a x ih =>
    cases y with
    | nil => exact decide_eq_false (List.not_lt_nil _)
    | cons b y =>
      unfold ltS
      by_cases e : a = b
      · subst e
        rw [if_pos rfl, ← ih y]
        rw [Bool.eq_iff_iff]
        simp [List.cons_lt_cons_iff]
      · rw [if_neg e]
        rw [Bool.eq_iff_iff]
        simp [List.cons_lt_cons_iff, e]

/-- the comparisons -/
def r2b (S : St0) (f : D → D → Option Bool) : R2 := fun x y H Q => ∃ w d e b, w.H = H ∧ Sim S w ∧ RepW S w x d ∧ RepW S w y e ∧ f (deref w.h d) (deref w.h e) = some b ∧ Q (.bl b) w.H
theorem eq_ok {pins : List (Addr × Obj)} {s : Shared} {σ : L2.St} {w : Wd} {x y : V} {v u : Value} {Q : VK} {d e : D} {b : Bool} (hK : X.K = S.K) (hu : X.A.units + 65 < cLine) (sim : Sim S w) (I : Inv X pins σ w.H s) (rx : RelV x v) (ry : RelV y u)
    (hd : RepW S w x d) (he : RepW S w y e) (hb : eqV (deref w.h d) (deref w.h e) = some b) :
    (Q (.bl b) w.H → wpAny (model X.prog X.w) X.A (compareOp .Eq v u) (EP X pins σ Q) X.xe s) ∧ (Q (.bl (!b)) w.H → wpAny (model X.prog X.w) X.A (compareOp .NotEq v u) (EP X pins σ Q) X.xe s) := by
  generalize qd : deref w.h d = d' at hb
  generalize qe : deref w.h e = e' at hb
  unfold eqV at hb
  split at hb
  · next i j =>
    have z1 := deref_nl qd fun l => nofun
    have z2 := deref_nl qe fun l => nofun
    subst z1 z2
    cases rep_int hd
    cases rep_int he
    cases hb
    refine ⟨fun q => op_eq pins s σ w.H _ _ v u Q I rx ry ⟨rfl, ?_⟩, fun q => op_ne pins s σ w.H _ _ v u Q I rx ry ⟨rfl, ?_⟩⟩
    · simpa using q
    · simpa using q
  · next a c =>
    have z1 := deref_nl qd fun l => nofun
    have z2 := deref_nl qe fun l => nofun
    subst z1 z2
    obtain ⟨rfl, o1⟩ := rep_str hd
    obtain ⟨rfl, o2⟩ := rep_str he
    cases hb
    have k : decide (V.str (mkS a) = V.str (mkS c)) = decide (a = c) := by
      rw [Bool.eq_iff_iff, decide_eq_true_iff, decide_eq_true_iff]
      exact ⟨fun h => mkS_inj (V.str.inj h), fun h => by rw [h]⟩
    refine ⟨fun q => op_eq pins s σ w.H _ _ v u Q I rx ry ⟨rfl, ?_⟩, fun q => op_ne pins s σ w.H _ _ v u Q I rx ry ⟨rfl, ?_⟩⟩
    · rw [k]; exact q
    · rw [k]; exact q
  · split at hb
    · next c =>
      cases hb
      obtain ⟨c1, c2⟩ := Bool.and_eq_true_iff.mp c
      subst qd qe
      obtain ⟨h1, h2⟩ := dat_deref sim hd c1
      obtain ⟨h3, h4⟩ := dat_deref sim he c2
      rw [← hK] at h1 h3
      have ev := toP_eqv _ _ (dat_of c1).1 (dat_of c2).1
      refine ⟨fun q => op_eqD (by omega) pins s σ w.H x y v u Q I rx ry ⟨_, _, h1, h3, h2, h4, ?_⟩, fun q => op_neD (by omega) pins s σ w.H x y v u Q I rx ry ⟨_, _, h1, h3, h2, h4, ?_⟩⟩
      · rw [ev]; exact q
      · rw [ev]; exact q
    · cases hb

/-- two ints, two texts in order -/
theorem ord_ok {pins : List (Addr × Obj)} {s : Shared} {σ : L2.St} {w : Wd} {x y : V} {v u : Value} {Q : VK} {d e : D} {op : CmpOp} {fi : Int → Int → Bool} {fs : List Nat → List Nat → Bool} {b : Bool} (sim : Sim S w) (I : Inv X pins σ w.H s) (rx : RelV x v) (ry : RelV y u)
    (hd : RepW S w x d) (he : RepW S w y e)
    (hb : (match deref w.h d, deref w.h e with | .int i, .int j => some (fi i j) | .str x, .str y => some (fs x y) | _, _ => none) = some b)
    (ri : OpR X (compareOp op) (rI0 fun i j => .bl (fi i j))) (rs : OpR X (compareOp op) (fun x y H Q => ∃ i j, x = .str (mkS i) ∧ y = .str (mkS j) ∧ Q (.bl (fs i j)) H))
    (q : Q (.bl b) w.H) : wpAny (model X.prog X.w) X.A (compareOp op v u) (EP X pins σ Q) X.xe s := by
  generalize qd : deref w.h d = d' at hb
  generalize qe : deref w.h e = e' at hb
  split at hb
  · next i j =>
    have z1 := deref_nl qd fun l => nofun
    have z2 := deref_nl qe fun l => nofun
    subst z1 z2
    cases rep_int hd
    cases rep_int he
    cases hb
    exact ri pins s σ w.H _ _ v u Q I rx ry ⟨i, j, rfl, rfl, q⟩
  · next i j =>
    have z1 := deref_nl qd fun l => nofun
    have z2 := deref_nl qe fun l => nofun
    subst z1 z2
    obtain ⟨rfl, o1⟩ := rep_str hd
    obtain ⟨rfl, o2⟩ := rep_str he
    cases hb
    exact rs pins s σ w.H _ _ v u Q I rx ry ⟨i, j, rfl, rfl, q⟩
  · cases hb
theorem cmp_ok (hK : X.K = S.K) (hu : X.A.units + 65 < cLine) (o : COp) : OpR X (compareOp (cpOf o)) (r2b S (cmpV o)) := by
  intro pins s σ H x y v u Q I rx ry h
  obtain ⟨w, d, e, b, rfl, sim, hd, he, hb, q⟩ := h
  cases o with
  | eq => exact (eq_ok hK hu sim I rx ry hd he hb).1 q
  | ne =>
    have hb : (eqV (deref w.h d) (deref w.h e)).map not = some b := hb
    rw [Option.map_eq_some_iff] at hb
    obtain ⟨c, hc, rfl⟩ := hb
    exact (eq_ok hK hu sim I rx ry hd he hc).2 q
  | lt => exact ord_ok sim I rx ry hd he hb op_lt (fun pins s σ H x y v u Q I rx ry ⟨i, j, e1, e2, q⟩ => op_lt_str pins s σ H x y v u Q I rx ry ⟨_, _, e1, e2, by rw [lt_cps]; exact q⟩) q
  | le => exact ord_ok (fi := fun i j => decide (i ≤ j)) (fs := fun x y => !ltS y x) sim I rx ry hd he hb op_le (fun pins s σ H x y v u Q I rx ry ⟨i, j, e1, e2, q⟩ => op_le_str pins s σ H x y v u Q I rx ry ⟨_, _, e1, e2, by rw [lt_cps]; exact q⟩) q
  | gt => exact ord_ok (fi := fun i j => decide (j < i)) (fs := fun x y => ltS y x) sim I rx ry hd he hb op_gt (fun pins s σ H x y v u Q I rx ry ⟨i, j, e1, e2, q⟩ => op_gt_str pins s σ H x y v u Q I rx ry ⟨_, _, e1, e2, by rw [lt_cps]; exact q⟩) q
  | ge => exact ord_ok (fi := fun i j => decide (j ≤ i)) (fs := fun x y => !ltS x y) sim I rx ry hd he hb op_ge (fun pins s σ H x y v u Q I rx ry ⟨i, j, e1, e2, q⟩ => op_ge_str pins s σ H x y v u Q I rx ry ⟨_, _, e1, e2, by rw [lt_cps]; exact q⟩) q
  | is =>
    have hb : (match deref w.h e with | .non => some (match deref w.h d with | .non => true | _ => false) | _ => none) = some b := hb
    generalize qe : deref w.h e = e' at hb
    split at hb
    · have z2 := deref_nl qe fun l => nofun
      subst z2
      cases rep_non he
      cases hb
      refine op_isN pins s σ w.H _ _ v u Q I rx ry ⟨rfl, ?_⟩
      have : decide (x = V.non) = (match deref w.h d with | .non => true | _ => false) := by
        cases hd with
        | ref n hn => rcases deref_cases w.h (.ref n) with z | ⟨n', l, _, _, z⟩ <;> (rw [z]; rfl)
        | _ => rfl
      rw [this]
      exact q
    · cases hb
  | isn =>
    have hb : (match deref w.h e with | .non => some (match deref w.h d with | .non => false | _ => true) | _ => none) = some b := hb
    generalize qe : deref w.h e = e' at hb
    split at hb
    · have z2 := deref_nl qe fun l => nofun
      subst z2
      cases rep_non he
      cases hb
      refine op_notN pins s σ w.H _ _ v u Q I rx ry ⟨rfl, ?_⟩
      have : (!decide (x = V.non)) = (match deref w.h d with | .non => false | _ => true) := by
        cases hd with
        | ref n hn => rcases deref_cases w.h (.ref n) with z | ⟨n', l, _, _, z⟩ <;> (rw [z]; rfl)
        | _ => rfl
      rw [this]
      exact q
    · cases hb
  | mem =>
    have hb : (match deref w.h d, deref w.h e with | .str [c], .str z => some (decide (c ∈ z)) | x, .tup l => memL x l | x, .lst l => memL x l | _, _ => none) = some b := hb
    generalize qd : deref w.h d = d' at hb
    generalize qe : deref w.h e = e' at hb
    split at hb
    · next c z =>
      have z1 := deref_nl qd fun l => nofun
      have z2 := deref_nl qe fun l => nofun
      subst z1 z2
      obtain ⟨rfl, o1⟩ := rep_str hd
      obtain ⟨rfl, o2⟩ := rep_str he
      cases hb
      exact op_in_sign pins s σ w.H _ _ v u Q I rx ry ⟨c, mkS z, rfl, rfl, by rw [mkS_list]; exact q⟩
    · next l => subst qd; exact (in_seqD hK hu sim I rx ry hd he (.inl qe) hb).1 q
    · next l => subst qd; exact (in_seqD hK hu sim I rx ry hd he (.inr qe) hb).1 q
    · cases hb
  | nmem =>
    have hb : (match deref w.h d, deref w.h e with | .str [c], .str z => some (!decide (c ∈ z)) | x, .tup l => (memL x l).map not | x, .lst l => (memL x l).map not | _, _ => none) = some b := hb
    generalize qd : deref w.h d = d' at hb
    generalize qe : deref w.h e = e' at hb
    split at hb
    · next c z =>
      have z1 := deref_nl qd fun l => nofun
      have z2 := deref_nl qe fun l => nofun
      subst z1 z2
      obtain ⟨rfl, o1⟩ := rep_str hd
      obtain ⟨rfl, o2⟩ := rep_str he
      cases hb
      exact op_notIn_sign pins s σ w.H _ _ v u Q I rx ry ⟨c, mkS z, rfl, rfl, by rw [mkS_list]; exact q⟩
    · next l =>
      rw [Option.map_eq_some_iff] at hb
      obtain ⟨c, hc, rfl⟩ := hb
      subst qd; exact (in_seqD hK hu sim I rx ry hd he (.inl qe) hc).2 q
    · next l =>
      rw [Option.map_eq_some_iff] at hb
      obtain ⟨c, hc, rfl⟩ := hb
      subst qd; exact (in_seqD hK hu sim I rx ry hd he (.inr qe) hc).2 q
    · cases hb

/-- truth -/
theorem tru_of {w : Wd} {x : V} {d : D} {k : Bool} (hK : X.K = S.K) (sim : Sim S w) (hd : RepW S w x d) (hk : truthV (deref w.h d) = some k) : TruV X.K x w.H k := by
  generalize qd : deref w.h d = d' at hk
  unfold truthV at hk
  split at hk
  · have z1 := deref_nl qd fun l => nofun
    subst z1
    cases hk; cases rep_non hd; rfl
  · have z1 := deref_nl qd fun l => nofun
    subst z1
    cases hk; cases rep_bl hd; rfl
  · have z1 := deref_nl qd fun l => nofun
    subst z1
    cases hk; cases rep_int hd; rfl
  · next a =>
    have z1 := deref_nl qd fun l => nofun
    subst z1
    obtain ⟨rfl, _⟩ := rep_str hd
    split at hk
    · next c =>
      cases hk
      have c := of_decide_eq_true c
      rw [sizeL_eq] at c
      refine ⟨by rw [mkS_len]; exact c, ?_⟩
      rw [mkS_len]
      cases a with
      | nil => rfl
      | cons h t =>
        show (((h :: t).length : Int) != 0) = true
        rw [bne_iff_ne, List.length_cons]
        omega
    · cases hk
  · have z1 := deref_nl qd fun l => nofun
    subst z1
    obtain ⟨p, vs, rfl, s1, t1⟩ := rep_tup hd
    cases hk
    exact .inr (.inl ⟨vs, by rw [hK]; exact s1, by cases t1 <;> rfl⟩)
  · obtain ⟨p, vs, rfl, s1, t1⟩ := deref_lst sim hd qd
    cases hk
    exact .inl ⟨vs, .inl s1, by cases t1 <;> rfl⟩
  · cases hk

theorem idx_key {w : Wd} {x y : V} {d e r : D} {Q : VK} (hK : X.K = S.K) (sim : Sim S w) (hd : RepW S w x d) (he : RepW S w y e) (hr : idxV (deref w.h d) e = some r) (f : Fin S w Q r) : rIx X.K x y w.H Q := by
  generalize qd : deref w.h d = d' at hr
  unfold idxV at hr
  split at hr
  · next l i =>
    have z1 := deref_nl qd fun l => nofun
    subst z1
    obtain ⟨p, vs, rfl, s1, t1⟩ := rep_tup hd
    cases rep_int he
    obtain ⟨z, h1, h2⟩ := t1.atIx hr
    exact .inr (.inl ⟨p, vs, i, z, rfl, rfl, by rw [hK]; exact s1, by rw [atI_at]; exact h1, f.here sim h2⟩)
  · next l i =>
    obtain ⟨p, vs, rfl, s1, t1⟩ := deref_lst sim hd qd
    cases rep_int he
    obtain ⟨z, h1, h2⟩ := t1.atIx hr
    exact .inl ⟨p, vs, i, z, rfl, rfl, .inl s1, by rw [atI_at]; exact h1, f.here sim h2⟩
  · next a i =>
    have z1 := deref_nl qd fun l => nofun
    subst z1
    obtain ⟨rfl, o⟩ := rep_str hd
    cases rep_int he
    split at hr
    · next c =>
      rw [Option.map_eq_some_iff] at hr
      obtain ⟨ch, hc, rfl⟩ := hr
      have c := of_decide_eq_true c
      rw [sizeL_eq] at c
      refine .inr (.inr ⟨mkS a, i, ch, rfl, rfl, by rw [mkS_len]; exact c, by rw [atI_at, mkS_list]; exact hc, f.here sim (.str [ch] ?_)⟩)
      rw [strOk_iff] at o ⊢
      intro c' hc'
      cases List.mem_singleton.mp hc'
      exact o _ (atIx_mem hc)
    · cases hr
  · cases hr

/-- o[i] -/
theorem idx_ok (hK : X.K = S.K) : IxR X (fun x y H Q => ∃ w d e r, w.H = H ∧ Sim S w ∧ RepW S w x d ∧ RepW S w y e ∧ idxV (deref w.h d) e = some r ∧ Fin S w Q r) := by
  have key : ∀ x y H Q, (∃ w d e r, w.H = H ∧ Sim S w ∧ RepW S w x d ∧ RepW S w y e ∧ idxV (deref w.h d) e = some r ∧ Fin S w Q r) → rIx X.K x y H Q := by
   intro x y H Q h
   obtain ⟨w, d, e, r, rfl, sim, hd, he, hr, f⟩ := h
   exact idx_key hK sim hd he hr f
  intro b pos s pins σ H x y v u Q I rx ry h
  exact ix_seq _ _ _ _ _ _ _ _ _ _ _ I rx ry (key _ _ _ _ h)
/-- o[lo:hi] -/
theorem slc_ok (hK : X.K = S.K) : SlR X (fun x lo hi H Q => ∃ w d r, w.H = H ∧ Sim S w ∧ RepW S w x d ∧ slcV (deref w.h d) lo hi = some r ∧ Fin S w Q r) := by
  intro pins s σ H x v vl vu lo hi sl Q I rx hs pl pu h
  refine (sl_tupA.or (sl_list.or sl_str)) pins s σ H x v vl vu lo hi sl Q I rx hs pl pu ?_
  obtain ⟨w, d, r, rfl, sim, hd, hr, f⟩ := h
  generalize qd : deref w.h d = d' at hr
  unfold slcV at hr
  split at hr
  · have z1 := deref_nl qd fun l => nofun
    subst z1
    obtain ⟨p, vs, rfl, s1, t1⟩ := rep_tup hd
    cases hr
    refine .inl ⟨p, vs, rfl, by rw [hK]; exact s1, fun z => ?_, fun _ p hp => ?_⟩
    · have t2 := t1.cut' (lo := lo) (hi := hi)
      rw [cut_sIx, cut_sIx] at z
      have e : EV.cut vs lo hi = vs := by
        unfold EV.cut
        rw [z.1, z.2]
        simp
      rw [e] at t2
      exact f.here sim (.tup s1 t2)
    · rw [cutV_cut]
      exact f.tup sim t1.cut' hp
  · obtain ⟨p, vs, rfl, s1, t1⟩ := deref_lst sim hd qd
    cases hr
    refine .inr (.inl ⟨p, vs, rfl, .inl s1, fun p hp => ?_⟩)
    rw [cutV_cut]
    exact f.lst sim t1.cut' hp
  · next a =>
    have z1 := deref_nl qd fun l => nofun
    subst z1
    obtain ⟨rfl, o⟩ := rep_str hd
    split at hr
    · next c =>
      cases hr
      have c := of_decide_eq_true c
      rw [sizeL_eq] at c
      refine .inr (.inr ⟨mkS a, rfl, by rw [mkS_len]; exact c, ?_⟩)
      have e : cutS (mkS a) lo hi = mkS (EV.cut a lo hi) := by
        unfold cutS EV.cut
        rw [mkS_len, cut_sIx, cut_sIx]
      rw [e]
      refine f.here sim (.str _ ?_)
      rw [strOk_iff] at o ⊢
      intro c' hc'
      exact o c' (List.mem_of_mem_drop (List.mem_of_mem_take hc'))
    · cases hr
  · cases hr
end
end EV

/-! Built-in functions by values; isinstance. -/
namespace EV
open PySem PySem.Spec PyProof.Rows L2
section
variable {X : Cx} {S : St0} {w : Wd}
/-- the values that functions are asked with -/
def rBif (S : St0) (f : List D → Option D) : List V → Hp → VK → Prop := fun xs H Q => ∃ w ds r, w.H = H ∧ Sim S w ∧ RepsW S w xs ds ∧ f (ds.map (deref w.h)) = some r ∧ Fin S w Q r
theorem map_one {f : D → D} {ds : List D} {a : D} (h : ds.map f = [a]) : ∃ d, ds = [d] ∧ f d = a := by
  cases ds with
  | nil => cases h
  | cons d r =>
    cases r with
    | nil => exact ⟨d, rfl, (List.cons.inj h).1⟩
    | cons e r => cases (List.cons.inj h).2
theorem map_two {f : D → D} {ds : List D} {a b : D} (h : ds.map f = [a, b]) : ∃ d e, ds = [d, e] ∧ f d = a ∧ f e = b := by
  cases ds with
  | nil => cases h
  | cons d r =>
    obtain ⟨e, rfl, h2⟩ := map_one (List.cons.inj h).2
    exact ⟨d, e, rfl, (List.cons.inj h).1, h2⟩
theorem Reps.one {φ : Nat → Addr} {k : Nat} {z : Addr → Bool} {H : Hp} {xs : List V} {d : D} (h : Reps S φ k z H xs [d]) : ∃ x, xs = [x] ∧ Rep S φ k z H x d := by
  cases h with
  | cons r t => cases t; exact ⟨_, rfl, r⟩
theorem Reps.two {φ : Nat → Addr} {k : Nat} {z : Addr → Bool} {H : Hp} {xs : List V} {d e : D} (h : Reps S φ k z H xs [d, e]) : ∃ x y, xs = [x, y] ∧ Rep S φ k z H x d ∧ Rep S φ k z H y e := by
  cases h with
  | cons r t =>
    obtain ⟨y, rfl, h2⟩ := Reps.one t
    exact ⟨_, y, rfl, r, h2⟩
theorem ints_of {vs : List V} : ∀ {ds : List D} {ns : List Int}, intsOf ds = some ns → RepsW S w vs ds → vs = ns.map V.int := by
  induction vs with
  | nil =>
    intro ds ns h r
    cases r
    cases h
    rfl
  | cons v vs ih =>
    intro ds ns h r
    cases r with
    | cons r t =>
      unfold intsOf at h
      split at h
      · next e => cases e
      · next i l e =>
        cases e
        rw [Option.map_eq_some_iff] at h
        obtain ⟨ms, hm, rfl⟩ := h
        rw [ih hm t, rep_int r]
        rfl
      · cases h
theorem bif_one {Pf : D → Prop} {xs : List V} {ds : List D} {a : D} (r : RepsW S w xs ds) (h : ds.map (deref w.h) = [a]) : ∃ x d, xs = [x] ∧ ds = [d] ∧ RepW S w x d ∧ deref w.h d = a := by
  obtain ⟨d, rfl, e⟩ := map_one h
  obtain ⟨x, rfl, r1⟩ := r.one
  exact ⟨x, d, rfl, rfl, r1, e⟩
theorem bif_two {xs : List V} {ds : List D} {a b : D} (r : RepsW S w xs ds) (h : ds.map (deref w.h) = [a, b]) : ∃ x y d e, xs = [x, y] ∧ ds = [d, e] ∧ RepW S w x d ∧ RepW S w y e ∧ deref w.h d = a ∧ deref w.h e = b := by
  obtain ⟨d, e, rfl, e1, e2⟩ := map_two h
  obtain ⟨x, y, rfl, r1, r2⟩ := r.two
  exact ⟨x, y, d, e, rfl, rfl, r1, r2, e1, e2⟩

def bifVal : Bif → Value
  | .len => .builtin "len" | .abs => .builtin "abs" | .max => .builtin "max" | .min => .builtin "min" | .int => .type "int" | .str => .type "str"
  | .tuple => .type "tuple" | .list => .type "list" | .sum => .builtin "sum" | .sorted => .builtin "sorted" | .range => .type "range"
def bifTy : Bif → Bool
  | .int => true | .str => true | .tuple => true | .list => true | .range => true
  | _ => false
def bifName : Bif → Str
  | .len => "len" | .abs => "abs" | .max => "max" | .min => "min" | .int => "int" | .str => "str"
  | .tuple => "tuple" | .list => "list" | .sum => "sum" | .sorted => "sorted" | .range => "range"
/-- a text's signs -/
def signs (x : Str) : List V := x.cps.toList.map fun c => V.str ⟨#[c]⟩
theorem reps_signs {φ : Nat → Addr} {k : Nat} {z : Addr → Bool} {H : Hp} {x : List Nat} (o : PyData.strOk (mkS x) = true) : Reps S φ k z H (signs (mkS x)) (x.map fun c => .str [c]) := by
  unfold signs
  rw [mkS_list]
  rw [strOk_iff] at o
  induction x with
  | nil => exact .nil
  | cons c r ih => exact .cons (.str [c] (strOk_iff.mpr fun y hy => by cases List.mem_singleton.mp hy; exact o _ (List.mem_cons_self ..))) (ih fun y hy => o y (List.mem_cons_of_mem _ hy))
theorem call_list_txt (hc : X.calm = true) : CallR X (.type "list") (fun xs H Q => ∃ a : Str, xs = [.str a] ∧ a.length ≤ sizeLine ∧ ∀ p, H p = none → Q (.ref p) (upd H p (.lst (signs a)))) := by
  intro pins s σ H xs us Q I rs hw
  obtain ⟨a, e, few, fin⟩ := hw
  subst e
  obtain ⟨u, rfl, ru⟩ := rs.one
  obtain ⟨tk, rfl⟩ := ru
  refine txt_list (I.ok.hd hc) few fun h2 tk2 acc c kp g2 items => ?_
  have ln : (signs a).length = acc.toList.length := by
    unfold signs
    rw [List.length_map, Array.length_toList, Array.length_toList, items.1]
  have vs : Vals (signs a) acc.toList := vals_of_at ln fun j x w h1 h2 => by
    obtain ⟨c, tk3, hc3, rfl⟩ := items.2 j w (by rw [← Array.getElem?_toList]; exact h2)
    unfold signs at h1
    rw [List.getElem?_map, Array.getElem?_toList, hc3] at h1
    cases h1
    exact ⟨tk3, rfl⟩
  refine ⟨.ref s.heap.objs.size, upd H s.heap.objs.size (.lst (signs a)), I.laid kp (Nat.le_refl _) (show ObjOk X.prog X.w _ _ _ (.lst (signs a)) from ⟨?_, acc.toList, c, vs, ?_⟩), rfl, fin _ (I.hok.fresh (Nat.le_refl _))⟩
  · unfold signs
    rw [List.length_map, Array.length_toList]
    exact few
  · rw [Array.toArray_toList]
    exact g2
theorem insI_perm (a : Int) : ∀ l, (insI a l).Perm (a :: l)
  | [] => .refl _
  | b :: r => by
    unfold insI
    split
    · exact .refl _
    · exact ((insI_perm a r).cons b).trans (.swap ..)
theorem sortI_perm : ∀ l, (sortI l).Perm l
  | [] => .refl _
  | a :: r => (insI_perm a _).trans ((sortI_perm r).cons a)
theorem insI_rise (a : Int) : ∀ {l : List Int}, l.Pairwise (· ≤ ·) → (insI a l).Pairwise (· ≤ ·)
  | [], _ => List.pairwise_singleton ..
  | b :: r, h => by
    obtain ⟨h1, h2⟩ := List.pairwise_cons.mp h
    unfold insI
    split
    · next c =>
      refine List.pairwise_cons.mpr ⟨fun x hx => ?_, h⟩
      rcases List.mem_cons.mp hx with z | z
      · exact z ▸ c
      · exact Int.le_trans c (h1 x z)
    · next c =>
      refine List.pairwise_cons.mpr ⟨fun x hx => ?_, insI_rise a h2⟩
      rcases List.mem_cons.mp ((insI_perm a r).mem_iff.mp hx) with z | z
      · rw [z]
        omega
      · exact h1 x z
theorem sortI_rise : ∀ l, (sortI l).Pairwise (· ≤ ·)
  | [] => .nil
  | a :: r => insI_rise a (sortI_rise r)
theorem srt_uniq : ∀ {l m : List Int}, l.Perm m → l.Pairwise (· ≤ ·) → m.Pairwise (· ≤ ·) → l = m
  | [], m, p, _, _ => by
    have := p.length_eq
    match m, this with
    | [], _ => rfl
  | a :: l, [], p, _, _ => by
    have := p.length_eq
    cases this
  | a :: l, b :: m, p, h, k => by
    obtain ⟨h1, h2⟩ := List.pairwise_cons.mp h
    obtain ⟨k1, k2⟩ := List.pairwise_cons.mp k
    have e : a = b := by
      have x1 : a ≤ b := by
        rcases List.mem_cons.mp (p.mem_iff.mpr (List.mem_cons_self ..)) with z | z
        · rw [z]
          exact Int.le_refl _
        · exact h1 _ z
      have x2 : b ≤ a := by
        rcases List.mem_cons.mp (p.mem_iff.mp (List.mem_cons_self ..)) with z | z
        · rw [z]
          exact Int.le_refl _
        · exact k1 _ z
      omega
    subst e
    rw [srt_uniq (List.perm_cons a |>.mp p) h2 k2]
theorem ints_reps {S : St0} {w : Wd} : ∀ ns : List Int, RepsW S w (ns.map V.int) (ns.map D.int)
  | [] => .nil
  | i :: r => .cons (.int i) (ints_reps r)
theorem bif_ok (hK : X.K = S.K) (hc : X.calm = true) (b : Bif) : CallR X (bifVal b) (rBif S (bifV b)) := by
  intro pins s σ H xs us Q I rs h
  obtain ⟨w, ds, r, rfl, sim, reps, hr, f⟩ := h
  generalize qd : ds.map (deref w.h) = l at hr
  unfold bifV at hr
  split at hr
  · next a =>
    obtain ⟨x, d, rfl, rfl, hd, z⟩ := bif_one (Pf := fun _ => True) reps qd
    cases deref_nl z fun l => nofun
    obtain ⟨p, vs, rfl, s1, t1⟩ := rep_tup hd
    cases hr
    exact call_len pins s σ w.H _ us Q I rs ⟨_, a.length, rfl, .inr ⟨vs, by rw [hK]; exact s1, t1.length.symm⟩, f.here sim (.int _)⟩
  · next a =>
    obtain ⟨x, d, rfl, rfl, hd, z⟩ := bif_one (Pf := fun _ => True) reps qd
    obtain ⟨p, vs, rfl, s1, t1⟩ := deref_lst sim hd z
    cases hr
    exact call_len pins s σ w.H _ us Q I rs ⟨_, a.length, rfl, .inl ⟨vs, .inl s1, t1.length.symm⟩, f.here sim (.int _)⟩
  · next a =>
    obtain ⟨x, d, rfl, rfl, hd, z⟩ := bif_one (Pf := fun _ => True) reps qd
    cases deref_nl z fun l => nofun
    obtain ⟨rfl, o⟩ := rep_str hd
    split at hr
    · next c =>
      cases hr
      have c := of_decide_eq_true c
      rw [sizeL_eq] at c
      exact call_len pins s σ w.H _ us Q I rs ⟨_, a.length, rfl, ⟨by rw [mkS_len]; exact c, (mkS_len a).symm⟩, f.here sim (.int _)⟩
    · cases hr
  · next i =>
    obtain ⟨x, d, rfl, rfl, hd, z⟩ := bif_one (Pf := fun _ => True) reps qd
    cases deref_nl z fun l => nofun
    cases rep_int hd
    cases hr
    exact call_abs pins s σ w.H _ us Q I rs ⟨i, rfl, f.here sim (.int _)⟩
  · next i j =>
    obtain ⟨x, y, d, e, rfl, rfl, hd, he, z1, z2⟩ := bif_two reps qd
    cases deref_nl z1 fun l => nofun
    cases deref_nl z2 fun l => nofun
    cases rep_int hd
    cases rep_int he
    cases hr
    exact call_max2 hc pins s σ w.H _ us Q I rs ⟨i, j, rfl, f.here sim (.int _)⟩
  · next i j =>
    obtain ⟨x, y, d, e, rfl, rfl, hd, he, z1, z2⟩ := bif_two reps qd
    cases deref_nl z1 fun l => nofun
    cases deref_nl z2 fun l => nofun
    cases rep_int hd
    cases rep_int he
    cases hr
    exact call_min2 hc pins s σ w.H _ us Q I rs ⟨i, j, rfl, f.here sim (.int _)⟩
  · next i =>
    obtain ⟨x, d, rfl, rfl, hd, z⟩ := bif_one (Pf := fun _ => True) reps qd
    cases deref_nl z fun l => nofun
    cases rep_int hd
    cases hr
    exact call_int1 pins s σ w.H _ us Q I rs (.inl ⟨i, rfl, f.here sim (.int _)⟩)
  · next k =>
    obtain ⟨x, d, rfl, rfl, hd, z⟩ := bif_one (Pf := fun _ => True) reps qd
    cases deref_nl z fun l => nofun
    cases rep_bl hd
    cases hr
    exact call_int1 pins s σ w.H _ us Q I rs (.inr ⟨k, rfl, f.here sim (.int _)⟩)
  · next i =>
    obtain ⟨x, d, rfl, rfl, hd, z⟩ := bif_one (Pf := fun _ => True) reps qd
    cases deref_nl z fun l => nofun
    cases rep_int hd
    split at hr
    · next c =>
      cases hr
      refine call_str_int pins s σ w.H _ us Q I rs ⟨i, rfl, of_decide_eq_true c, ?_⟩
      have e : (Str.ofString (toString i)) = mkS (showI i) := showI_eq i
      show Q (.str (Str.ofString (toString i))) w.H
      rw [e]
      exact f.here sim (.str _ (showI_ok i))
    · cases hr
  · next a =>
    obtain ⟨x, d, rfl, rfl, hd, z⟩ := bif_one (Pf := fun _ => True) reps qd
    obtain ⟨p, vs, rfl, s1, t1⟩ := deref_lst sim hd z
    cases hr
    exact call_tuple_of pins s σ w.H _ us Q I rs ⟨p, vs, rfl, .inl ⟨.inl s1, fun l hl => f.tup sim t1 hl⟩⟩
  · next a =>
    obtain ⟨x, d, rfl, rfl, hd, z⟩ := bif_one (Pf := fun _ => True) reps qd
    cases deref_nl z fun l => nofun
    obtain ⟨p, vs, rfl, s1, t1⟩ := rep_tup hd
    cases hr
    exact call_tuple_of pins s σ w.H _ us Q I rs ⟨p, vs, rfl, .inr ⟨by rw [hK]; exact s1, f.here sim (.tup s1 t1)⟩⟩
  · next a =>
    obtain ⟨x, d, rfl, rfl, hd, z⟩ := bif_one (Pf := fun _ => True) reps qd
    obtain ⟨p, vs, rfl, s1, t1⟩ := deref_lst sim hd z
    cases hr
    exact call_list_of pins s σ w.H _ us Q I rs ⟨p, vs, rfl, .inl (.inl s1), fun l hl => f.lst sim t1 hl⟩
  · next a =>
    obtain ⟨x, d, rfl, rfl, hd, z⟩ := bif_one (Pf := fun _ => True) reps qd
    cases deref_nl z fun l => nofun
    obtain ⟨p, vs, rfl, s1, t1⟩ := rep_tup hd
    cases hr
    exact call_list_of pins s σ w.H _ us Q I rs ⟨p, vs, rfl, .inr (by rw [hK]; exact s1), fun l hl => f.lst sim t1 hl⟩
  · next a =>
    obtain ⟨x, d, rfl, rfl, hd, z⟩ := bif_one (Pf := fun _ => True) reps qd
    cases deref_nl z fun l => nofun
    obtain ⟨rfl, o⟩ := rep_str hd
    split at hr
    · next c =>
      cases hr
      have c := of_decide_eq_true c
      rw [sizeL_eq] at c
      exact call_list_txt hc pins s σ w.H _ us Q I rs ⟨_, rfl, by rw [mkS_len]; exact c, fun l hl => f.lst sim (reps_signs o) hl⟩
    · cases hr
  · next a =>
    obtain ⟨x, d, rfl, rfl, hd, z⟩ := bif_one (Pf := fun _ => True) reps qd
    obtain ⟨p, vs, rfl, s1, t1⟩ := deref_lst sim hd z
    rw [Option.map_eq_some_iff] at hr
    obtain ⟨ns, hn, rfl⟩ := hr
    have e := ints_of hn t1
    subst e
    exact cr_sum hc pins s σ w.H _ us Q I rs ⟨p, ns, rfl, .inl s1, f.here sim (.int _)⟩
  · next a =>
    obtain ⟨x, d, rfl, rfl, hd, z⟩ := bif_one (Pf := fun _ => True) reps qd
    obtain ⟨p, vs, rfl, s1, t1⟩ := deref_lst sim hd z
    rw [Option.map_eq_some_iff] at hr
    obtain ⟨ns, hn, rfl⟩ := hr
    have e := ints_of hn t1
    subst e
    refine cr_sortedI pins s σ w.H _ us Q I rs ⟨p, ns, rfl, .inl s1, fun ns' l pm ri hl => ?_⟩
    rw [srt_uniq (pm.trans (sortI_perm ns).symm) ri (sortI_rise ns)]
    exact f.lst sim (ints_reps _) hl
  · cases hr

/-! ### isinstance -/
def tyN : Ty → String
  | .int => "int" | .bool => "bool" | .str => "str" | .tuple => "tuple" | .list => "list" | .dict => "dict"
def tyS : Ty → Str
  | .int => "int" | .bool => "bool" | .str => "str" | .tuple => "tuple" | .list => "list" | .dict => "dict"
theorem kit_tys (t u : Ty) : kitB (tyN t) (tyN u) = some (isTy t u) := by
  cases t <;> cases u <;> decide +kernel
theorem kit_non (u : Ty) : kitB "NoneType" (tyN u) = some false := by cases u <;> decide +kernel
theorem isiAny_ok {K : PySem.W.Frag} {a : String} (f : Ty → Bool) (h : ∀ u, kitB a (tyN u) = some (f u)) : ∀ ts : List Ty, PySem.W.kitAny K (.type a) (ts.map fun t => .type (tyN t)) = some (ts.any f)
  | [] => kitAny_nil
  | t :: ts => by
    rw [List.map_cons, List.any_cons]
    refine kitAny_cons (b := f t) (kit_ty (h t)) (fun e => ?_) (fun e => by rw [e]; rfl)
    rw [e, Bool.false_or]
    exact isiAny_ok f h ts
theorem tyx_list {K : PySem.W.Frag} {H : Hp} {a : Addr} {vs : List V} (h : Rd H a (.lst vs)) : TyX K H (.ref a) (.type "list") := by
  rcases h with h | ⟨o, h⟩
  · exact .base (.lst h)
  · exact .base (.frz h)
theorem tyx_tuple {K : PySem.W.Frag} {H : Hp} {a : Addr} {vs : List V} (h : SqT K H a vs) : TyX K H (.ref a) (.type "tuple") := by
  rcases h with (h | ⟨o, h⟩) | ⟨o, _, _, e, c, _⟩
  · exact .base (.tup h)
  · exact .fTuple h
  · exact .kTuple e c
/-- the type of a value, as the model sees it -/
theorem ty_of {x : V} {d : D} {t : Ty} (sim : Sim S w) (r : RepW S w x d) (h : tyOf w.h d = some t) : TyX S.K w.H x (.type (tyN t)) := by
  cases r with
  | non => cases h
  | bl b => cases h; exact .base (.bl b)
  | int i => cases h; exact .base (.int i)
  | str y e => cases h; exact .base (.str _)
  | tup q r => cases h; exact tyx_tuple q
  | lstH q n r => cases h; exact tyx_list (.inl q)
  | lstZ q r => cases h; exact tyx_list (.inr ⟨_, q⟩)
  | fn f => cases h
  | ref n hn =>
    unfold tyOf at h
    simp only at h
    split at h
    · next l e =>
      cases h
      obtain ⟨vs, q, _⟩ := sim.obj n _ e
      exact .base (.lst q)
    · next l e =>
      cases h
      obtain ⟨vs, q, _⟩ := sim.obj n _ e
      exact .base (.dK q)
    · next l e =>
      cases h
      obtain ⟨vs, q, _⟩ := sim.obj n _ e
      exact .base (.dT q)
    · cases h
end
end EV

/-! Contexts; how an evaluation is read; texts matched. -/
namespace EV
open PySem PySem.Spec PyProof.Rows L2

theorem PE.imp {X : Cx} {ex : Expr} {t t' : TE} (h : PE X ex t) (i : ∀ σ H Q, t' σ H Q → t σ H Q) : PE X ex t' := ⟨fun pins s σ H Q I q => h.run pins s σ H Q I (i σ H Q q)⟩
theorem PT.imp {X : Cx} {ex : Expr} {t t' : TT} (h : PT X ex t) (i : ∀ σ H Q, t' σ H Q → t σ H Q) : PT X ex t' := ⟨fun pins s σ H Q I q => h.run pins s σ H Q I (i σ H Q q)⟩
theorem PW.imp {X : Cx} {ex : Expr} {t t' : TT} (h : PW X ex t) (i : ∀ σ H Q, t' σ H Q → t σ H Q) : PW X ex t' := ⟨fun wh pins s σ H Q I q => h.run wh pins s σ H Q I (i σ H Q q)⟩
theorem PA.imp {X : Cx} {ex : List Expr} {t t' : TA} (h : PA X ex t) (i : ∀ σ H Q, t' σ H Q → t σ H Q) : PA X ex t' := ⟨fun pos pins s σ H Q I q => h.run pos pins s σ H Q I (i σ H Q q)⟩
theorem PO.imp {X : Cx} {ex : Option Expr} {t t' : TO} (h : PO X ex t) (i : ∀ σ H Q, t' σ H Q → t σ H Q) : PO X ex t' := ⟨fun pins s σ H Q I q => h.run pins s σ H Q I (i σ H Q q)⟩
theorem PTs.imp {X : Cx} {ex : List Expr} {t t' : TT} (h : PTs X ex t) (i : ∀ σ H Q, t' σ H Q → t σ H Q) : PTs X ex t' := ⟨fun pins s σ H Q I q => h.run pins s σ H Q I (i σ H Q q)⟩
theorem PI.imp {X : Cx} {tg ex : Expr} {t t' : TI} (h : PI X tg ex t) (i : ∀ σ H Q, t' σ H Q → t σ H Q) : PI X tg ex t' := ⟨fun pins s σ H Q I q => h.run pins s σ H Q I (i σ H Q q)⟩

/-! ### readings -/
/-- what is wished of an exception; a slot that is known, a word of every world (in an except suite) -/
structure Wl where
  wx : WX
  slot : Option (Nat × V)
  inv : Wd → Prop
  mono : ∀ w w', Ext0 w w' → inv w → inv w'
abbrev Wl.of (W : WX) : Wl := ⟨W, none, fun _ => True, fun _ _ _ h => h⟩
abbrev noW : Wl := Wl.of fun _ _ _ _ => False
/-- the frame's slots hold what the evaluator's do -/
structure Locs (W : Wl) (S : St0) (w : Wd) (σ : L2.St) (ls : Ls) : Prop where
  len : σ.length = ls.length
  at_ : ∀ (i : Nat) (d : D), ls[i]? = some (some d) → ∃ v, σ[i]? = some (some v) ∧ RepW S w v d
  sl : ∀ i v, W.slot = some (i, v) → σ[i]? = some (some v)
  inv : W.inv w
theorem Locs.ext {W : Wl} {S : St0} {w w' : Wd} {σ : L2.St} {ls : Ls} (l : Locs W S w σ ls) (x : Ext0 w w') : Locs W S w' σ ls := ⟨l.len, fun i d e => let ⟨v, h1, h2⟩ := l.at_ i d e; ⟨v, h1, Rep.ext x h2⟩, l.sl, W.mono _ _ x l.inv⟩
theorem Locs.ofW {W : Wl} {W2 : WX} {S : St0} {w : Wd} {σ : L2.St} {ls : Ls} (l : Locs W S w σ ls) : Locs (Wl.of W2) S w σ ls := ⟨l.len, l.at_, (fun _ _ e => nomatch e), trivial⟩
theorem Locs.no {W : Wl} {S : St0} {w : Wd} {σ : L2.St} {ls : Ls} (l : Locs W S w σ ls) : Locs noW S w σ ls := ⟨l.len, l.at_, (fun _ _ e => nomatch e), trivial⟩
/-- an exception: its class, its fields -/
def RepX (S : St0) (w : Wd) (cls : Value) (dd : Option Addr) (c : Nat) (d : D) : Prop := cls = .ref (S.ca c) ∧ match d with
  | .tup l => ∃ dx vs, dd = some dx ∧ w.H dx = some (.xd (((S.xf c).map S.fld).zip vs)) ∧ RepsW S w vs l
  | _ => dd = none
def wx (S : St0) (W : Wl) (σ : L2.St) : WE := fun c d w' => ∀ cls dd, RepX S w' cls dd c d → W.wx cls dd σ w'.H

/-- an evaluation at hand, with its end wanted -/
def Go {α β : Type} (S : St0) (W : Wl) (σ : L2.St) (R : Wd → β → α → Prop) (Q : β → Hp → Prop) (ls : Ls) (w : Wd) (m : M α) : Prop :=
  Sim S w ∧ Locs W S w σ ls ∧ After S (m w.h) w (wx S W σ) fun a w' => ∀ b, R w' b a → Q b w'.H
def RM {α β : Type} (S : St0) (W : Wl) (R : Wd → β → α → Prop) (m : Ls → M α) : L2.St → Hp → (β → Hp → Prop) → Prop := fun σ H Q => ∃ w ls, w.H = H ∧ Go S W σ R Q ls w (m ls)
abbrev RE (S : St0) (W : Wl) (m : Ls → M D) : TE := RM S W (RepW S) m
abbrev RT (S : St0) (W : Wl) (m : Ls → M Bool) : TT := RM S W (fun _ b b' => b = b') m
abbrev RA (S : St0) (W : Wl) (m : Ls → M (List D)) : TA := RM S W (RepsW S) m
abbrev RO (S : St0) (W : Wl) (m : Ls → M (Option Int)) : TO := RM S W (fun _ b b' => b = b') m
section
variable {α β γ δ : Type} {S : St0} {W : Wl} {σ : L2.St} {R : Wd → β → α → Prop} {R' : Wd → δ → γ → Prop} {Q : β → Hp → Prop} {Q' : δ → Hp → Prop} {ls : Ls} {w : Wd}
theorem Go.mono {Q2 : β → Hp → Prop} {m : M α} (g : Go S W σ R Q ls w m) (i : ∀ b H, Q b H → Q2 b H) : Go S W σ R Q2 ls w m :=
  ⟨g.1, g.2.1, g.2.2.imp fun a w' _ _ h b r => i b w'.H (h b r)⟩
theorem Go.bind {m : M α} {f : α → M γ} (g : Go S W σ R' Q' ls w (m >>= f)) : Go S W σ R (fun b H1 => ∃ w1 a, w1.H = H1 ∧ Ext w w1 ∧ R w1 b a ∧ Go S W σ R' Q' ls w1 (f a)) ls w m :=
  ⟨g.1, g.2.1, g.2.2.bind.imp fun a w1 x s a1 b r => ⟨w1, a, rfl, x, r, s, g.2.1.ext x.toExt0, a1⟩⟩
theorem Go.ret {b : β} {a : α} (g : Go S W σ R Q ls w (Pure.pure a : M α)) (r : R w b a) : Q b w.H := (After.pure g.1 g.2.2) b r
theorem Go.sim {m : M α} (g : Go S W σ R Q ls w m) : Sim S w := g.1
theorem Go.not {m : M α} (g : Go S W σ R Q ls w m) (h : ∀ h, m h = .stk) : False := by
  have a := g.2.2
  rw [h] at a
  exact a
/-- an operation that reads alone -/
theorem Go.opt {Q : V → Hp → Prop} {m : M D} {o : Option D} (g : Go S W σ (RepW S) Q ls w m) (h : m w.h = (match o with | some d => Res.ok d w.h | none => Res.stk)) : ∃ r, o = some r ∧ Fin S w Q r := by
  have a := g.2.2
  rw [h] at a
  cases o with
  | none => exact a.elim
  | some d => exact ⟨d, rfl, a⟩
theorem Go.optb {m : M α} {o : Option α} (g : Go S W σ R Q ls w m) (h : m w.h = (match o with | some d => Res.ok d w.h | none => Res.stk)) : ∃ r, o = some r ∧ ∀ b, R w b r → Q b w.H := by
  have a := g.2.2
  rw [h] at a
  cases o with
  | none => exact a.elim
  | some d => exact ⟨d, rfl, a w rfl (Ext.refl w) g.1⟩
end

/-! ### contexts -/
/-- what a text is matched by -/
structure Nm where
  gn : Nat → Str
  fn : Nat → Str
  nf : Nat
  hot : Bool
  hm : Nat → Scope → Expr → Bool
  hs : Option Nat
  fd : Nat → Str
  xn : Nat → Str
  nx : Nat
structure Tx extends Nm where
  S : St0
  C : Nat → List D → M D
  gl : Nat → Option D
  k : Nat
/-- what a def of ours promises, by its evaluation -/
def spC (S : St0) (m : List D → M D) (n : Nat) : Sp := fun vs H Q E => vs.length = n ∧ ∃ w ds, w.H = H ∧ Sim S w ∧ RepsW S w vs ds ∧
  After S (m ds w.h) w (fun c d w' => ∀ cls dd, RepX S w' cls dd c d → E cls dd w'.H) fun d w' => ∀ v, RepW S w' v d → Q v w'.H
def bltN : List Str := ["len", "abs", "max", "min", "int", "str", "tuple", "list", "sum", "sorted", "range", "isinstance", "enumerate", "zip", "reversed", "bool", "dict"]
structure Ok (T : Tx) (N : List Str) (sc : Scope) (W : Wl) (X : Cx) : Prop where
  hN : X.N = N
  nd : N.Nodup
  sc : X.env.scope = sc
  K : X.K = T.S.K
  calm : T.hot = false → X.calm = true
  room : T.hot = false → Room (T.k + 1) X.A
  hu : X.A.units + 65 < cLine
  gl : ∀ g d, T.gl g = some d → ∃ v u, X.mg (T.gn g) = some u ∧ RelV v u ∧ ∀ φ k z H, Rep T.S φ k z H v d
  blt : ∀ x ∈ bltN, X.mg x = none
  fns : ∀ f, f < T.nf → X.mg (T.fn f) = some (.ref (T.S.fa f)) ∧ PySem.W.keepIn X.K (.ref (T.S.fa f)) = true ∧
    ∃ fd ps, (∀ ds h, ds.length ≠ ps.length → T.C f ds h = .stk) ∧ FnOk X.prog X.w X.K X.mg X.base (CX X.prog X.w) T.k (T.S.fa f) fd ps (spC T.S (T.C f) ps.length) ∧ Binds X.K fd ps []
  tk : Takes X W.wx
  hx : T.hot = true → ∀ f ex, T.hm f X.env.scope ex = true → PE X ex (RE T.S W fun _ => T.C f [])
theorem takesF {X : Cx} : Takes X (fun _ _ _ _ => False) := fun _ _ x => by
  obtain ⟨_, _, _, _, _, _, _, _, _, _, _, _, _, _, _, _, w⟩ := x
  exact w.elim
section
variable {T : Tx} {N : List Str} {sc : Scope} {W : Wl} {X : Cx}
theorem Ok.blk (ok : Ok T N sc W X) (hh : T.hot = false) {scope : Scope} {s : Shared} {H : Hp} {C : Addr} {cl : List (Str × Addr)} {fp : List Addr} :
    Ok T N (relS scope sc) noW (X.blk s H scope (compEnvC scope cl C X.env) fp) where
  hN := ok.hN
  nd := ok.nd
  sc := by rw [← ok.sc]; rfl
  K := ok.K
  calm := ok.calm
  room := ok.room
  hu := ok.hu
  hx := fun h => by rw [hh] at h; cases h
  gl := ok.gl
  blt := ok.blt
  fns := ok.fns
  tk := takesF

/-- the callee runs; what it lets out goes on -/
theorem run_fnS {W : WX} {k : Nat} {f : Addr} {fd : FuncData} {ps : List Str} {sp : Sp} {pins : List (Addr × Obj)} {σ : L2.St} {H : Hp} {s : Shared} {Q : VK} {us : List Value} {vs : List V} (F : FnOk X.prog X.w X.K X.mg X.base (CX X.prog X.w) k f fd ps sp) (hr : Room k X.A) (hb : Binds X.K fd ps [])
    (tk : Takes X W) (I : Inv X pins σ H s) (r : Vals vs us) (h : sp vs H Q fun cls d H' => W cls d σ H') : wpAny (model X.prog X.w) X.A (call (.ref f) us) (EP X pins σ Q) X.xe s := by
  have hl : (us ++ []).length = ps.length := by rw [List.append_nil, ← r.length]; exact F.len _ _ _ _ h
  have hb' := hb s us I.kIn hl
  rw [List.append_nil] at hb'
  refine wpAny_call (codeAny_mono (F.run X.A X.stack s H ⟨us, []⟩ us vs Q _ hr I.env0 hb' r h) fun r s' hq => ?_)
  cases r with
  | error e => exact tk e s' (XE.of_call I (fun cls d H' h => h) hq)
  | ok fl =>
    cases fl with
    | ret u => exact I.after hq
    | next => exact False.elim hq
    | brk => exact False.elim hq
    | cont => exact False.elim hq
theorem pe_callS {r : L2.St → List V → Hp → VK → Prop} {f : Addr} {x : Str} {p pos : Pos} {es : List Expr} {t : TA} (hg : Gl X x) (hm : X.mg x = some (.ref f)) (hk : PySem.W.keepIn X.K (.ref f) = true) (hdb : (x == ("__debug__" : Str)) = false)
    (ha : PA X es t) (h0 : es = [] → ∀ σ H Q, t σ H Q → Q [] H) (hst : ∀ e r, es = e :: r → starEach (e :: r) X.env = (false, eval e X.env) :: starEach r X.env ∧ (backTo pos (starEach r X.env)).any (·.1) = false)
    (run : ∀ (pins : List (Addr × Obj)) (s : Shared) (σ : L2.St) (H : Hp) (vs : List V) (us : List Value) (Q : VK), Inv X pins σ H s → Vals vs us → r σ vs H Q → wpAny (model X.prog X.w) X.A (call (.ref f) us) (EP X pins σ Q) X.xe s) :
    PE X (.Call (.Name x p) es [] pos) (fun σ H Q => t σ H fun vs H1 => r σ vs H1 Q) := by
  refine ⟨fun pins s σ H Q I h => ?_⟩
  refine wpAny_Call_Name_kw (ld_glob I hg hm ?_ hdb)
  cases es with
  | nil =>
    exact PySem.W.callWith_K0 I.kIn hk (run pins s σ H [] [] Q I .nil (h0 rfl _ _ _ h))
  | cons e es =>
    obtain ⟨h1, h2⟩ := hst e es rfl
    refine PySem.W.callWith_K (h₀ := X.base) I.ok.mod.kin hk (thn (ha.run pos pins s σ H _ I h) fun us s1 ⟨vs, H1, I1, r1, q⟩ => ⟨I1.kIn, ?_⟩) h1 h2
    exact run pins s1 σ H1 vs us Q I1 r1 q
end
end EV

/-! Texts matched. -/
namespace EV
open PySem PySem.Spec PyProof.Rows L2

def plainName (x : Str) : Bool := !(x == ("__debug__" : Str)) && !(x == ("__classdict__" : Str)) && !(x == ("__name__" : Str))
def isLoc (N : List Str) (sc : Scope) (i : Nat) (x : Str) : Bool := decide (N[i]? = some x) && (match sc.names.lookup x with | some .local => true | some .cell => true | some .free => true | _ => false) && plainName x
def isOwn (N : List Str) (sc : Scope) (i : Nat) (x : Str) : Bool := decide (N[i]? = some x) && (match sc.names.lookup x with | some .local => true | some .cell => true | _ => false) && plainName x
def isGl (sc : Scope) (x : Str) : Bool := (match sc.names.lookup x with | some .globalImplicit => true | _ => false) && plainName x
def conOk : D → Const → Bool
  | .int i, .int j => decide (i = j)
  | .bl a, .bool b => decide (a = b)
  | .non, .none => true
  | .str x, .str y => decide (mkS x = y) && PyData.strOk y
  | _, _ => false
/-- targets: a name, names in a tuple -/
def matchTs (N : List Str) (sc : Scope) : E → List Expr → Bool
  | .nil, es => (match es with | [] => true | _ => false)
  | .cons (.loc i) r, es => (match es with | .Name x _ :: t => isOwn N sc i x && matchTs N sc r t | _ => false)
  | _, _ => false
def matchT (N : List Str) (sc : Scope) : E → Expr → Bool
  | .loc i, ex => (match ex with | .Name x _ => isOwn N sc i x | _ => false)
  | .tup t, ex => (match ex with | .Tuple es _ _ => matchTs N sc t es | _ => false)
  | _, _ => false
def slotsT : E → List Nat
  | .loc i => [i]
  | .cons a r => slotsT a ++ slotsT r
  | .tup t => slotsT t
  | _ => []
def matchTy (sc : Scope) : List Ty → List Expr → Bool
  | [], es => (match es with | [] => true | _ => false)
  | t :: ts, es => (match es with | .Name x _ :: r => decide (x = tyS t) && isGl sc x && matchTy sc ts r | _ => false)
def matchTy1 (sc : Scope) (ts : List Ty) (c : Expr) : Bool := match c with
  | .Name _ _ => matchTy sc ts [c] && decide (ts.length = 1)
  | .Tuple es _ _ => matchTy sc ts es && decide (ts.length ≤ 6)
  | _ => false
def hotShape : Expr → Bool
  | .Call _ _ _ _ => true
  | .Attribute _ _ _ => true
  | _ => false
def isNil : E → Bool
  | .nil => true
  | _ => false
def lineOk (a p : Pos) : Bool := a.endLine == p.line
/-- what a method's receiver may be -/
def recvO : Expr → Bool
  | .Name _ _ => true
  | .Constant _ _ _ => true
  | .Call (.Name x _) [] [] _ => x != ("super" : Str)
  | _ => false
def isTupT : Expr → Bool
  | .Tuple _ _ _ => true
  | _ => false
/-- a new list of our own may come from these -/
def mkOp : BOp → Bool
  | .add => true
  | .mul => true
  | _ => false
section Mt
variable (T : Nm) (N : List Str)
mutual
def matchE : E → Scope → Expr → Bool
  | .loc i, sc, ex => (match ex with | .Name x _ => isLoc N sc i x | _ => false)
  | .con d, sc, ex => (match ex with | .Constant c _ _ => conOk d c | _ => false)
  | .glo g, sc, ex => (match ex with | .Name x _ => decide (x = T.gn g) && isGl sc x | _ => false)
  | .tup a, sc, ex => (match ex with | .Tuple es _ _ => matchA a sc es | _ => false)
  | .lst a, sc, ex => (match ex with | .List es _ => matchA a sc es | _ => false)
  | .mk a, sc, ex => (match a with | .lst _ => matchE a sc ex | .comp _ _ _ _ _ => matchE a sc ex | .bin o _ _ => mkOp o && matchE a sc ex | .bif b _ => decide (b = .list) && matchE a sc ex | _ => false)
  | .bin o a b, sc, ex => (match ex with | .BinOp x op y _ => decide (op = opOf o) && matchE a sc x && matchE b sc y | _ => false)
  | .cmp o a b, sc, ex => (match ex with | .Compare x ops ys _ => (match ops, ys with | [op], [y] => decide (op = cpOf o) && !behindInMarks op y && matchE a sc x && matchE b sc y | _, _ => false) | _ => false)
  | .chn o o' a b c, sc, ex => (match ex with | .Compare x ops ys _ => (match ops, ys with | [op, op'], [y, z] => decide (op = cpOf o) && decide (op' = cpOf o') && !lastMarks [op, op'] [y, z] && matchE a sc x && matchE b sc y && matchE c sc z | _, _ => false) | _ => false)
  | .neg a, sc, ex => (match ex with | .UnaryOp .USub x _ => matchE a sc x | _ => false)
  | .not a, sc, ex => (match ex with | .UnaryOp .Not x _ => matchE a sc x | _ => false)
  | .and a b, sc, ex => (match ex with | .BoolOp .And vs p => (match vs with | x :: y :: [] => matchE a sc x && matchE b sc y | x :: y :: r => matchE a sc x && matchE b sc (.BoolOp .And (y :: r) p) | _ => false) | _ => false)
  | .or a b, sc, ex => (match ex with | .BoolOp .Or vs p => (match vs with | x :: y :: [] => matchE a sc x && matchE b sc y | x :: y :: r => matchE a sc x && matchE b sc (.BoolOp .Or (y :: r) p) | _ => false) | _ => false)
  | .ite c a b, sc, ex => (match ex with | .IfExp z x y _ => matchE c sc z && matchE a sc x && matchE b sc y | _ => false)
  | .idx a b, sc, ex => (match ex with | .Subscript x y _ => (match y with | .Slice _ _ _ _ => false | _ => matchE a sc x && matchE b sc y) | _ => false)
  | .slc a lo hi, sc, ex => (match ex with | .Subscript x y _ => (match y with | .Slice l h none _ => matchE a sc x && matchP lo sc l && matchP hi sc h | _ => false) | _ => false)
  | .call f a, sc, ex => if T.hot then T.hm f sc ex && hotShape ex && isNil a else (match ex with | .Call (.Name x _) es [] _ => decide (x = T.fn f) && decide (f < T.nf) && isGl sc x && matchA a sc es | _ => false)
  | .bif b a, sc, ex => (match ex with | .Call (.Name x _) (e :: es) [] _ => !T.hot && decide (x = bifName b) && isGl sc x && matchA a sc (e :: es) | _ => false)
  | .met m o a, sc, ex => (match ex with | .Call (.Attribute ob name ap) (e :: es) [] p => decide (m = .append) && decide (name = "append") && (match ob with | .Name _ _ => true | _ => false) && lineOk ap p && matchE o sc ob && (match es with | [] => true | _ => false) && matchA a sc (e :: es) | _ => false)
  | .fnv f, sc, ex => (match ex with | .Name x _ => !T.hot && decide (x = T.fn f) && decide (f < T.nf) && isGl sc x | _ => false)
  | .clv i n a, sc, ex => (match ex with | .Call (.Name x _) (e :: es) [] _ => !T.hot && decide (n = T.nf) && isLoc N sc i x && matchA a sc (e :: es) | _ => false)
  | .lrn a, sc, ex => (match ex with | .Call (.Name f _) [.Call (.Name g _) [y] [] _] [] _ => !T.hot && decide (f = "list") && decide (g = "range") && isGl sc f && isGl sc g && matchE a sc y | _ => false)
  | .rem o a, sc, ex => (match ex with | .Call (.Attribute ob name ap) (e :: es) [] p => decide (name = "remove") && (match ob with | .Name _ _ => true | _ => false) && lineOk ap p && matchE o sc ob && (match es with | [] => true | _ => false) && matchA a sc (e :: es) | _ => false)
  | .six o a, sc, ex => (match ex with | .Call (.Attribute ob name ap) (e :: es) [] p => decide (name = "index") && recvO ob && lineOk ap p && matchE o sc ob && (match es with | [] => true | _ => false) && matchA a sc (e :: es) | _ => false)
  | .joi o a, sc, ex => (match ex with | .Call (.Attribute ob name ap) (e :: es) [] p => decide (name = "join") && recvO ob && lineOk ap p && matchE o sc ob && (match es with | [] => true | _ => false) && matchA a sc (e :: es) | _ => false)
  | .isi a ts, sc, ex => (match ex with | .Call (.Name f _) (x :: [c]) [] _ => decide (f = "isinstance") && isGl sc f && matchE a sc x && matchTy1 sc ts c | _ => false)
  | .comp elt tg it ifs own, sc, ex => (match ex with | .ListComp el [⟨t, i, fs, as⟩] scope _ => !T.hot && decide (as = 0) && blkC N sc scope (own.map fun i => ((N[i]?).getD "", i)) && (slotsT tg).all (own.contains ·) && matchT N scope tg t && matchE elt (relS scope sc) el && matchC ifs (relS scope sc) fs && matchI it sc i t | _ => false)
  | _, _, _ => false
def matchA : E → Scope → List Expr → Bool
  | .nil, _, es => (match es with | [] => true | _ => false)
  | .cons a r, sc, es => (match es with | x :: t => matchE a sc x && matchA r sc t | _ => false)
  | _, _, _ => false
def matchP : E → Scope → Option Expr → Bool
  | .nil, _, o => (match o with | none => true | _ => false)
  | .cons a .nil, sc, o => (match o with | some x => matchE a sc x | _ => false)
  | _, _, _ => false
def matchC : E → Scope → List Expr → Bool
  | .nil, _, es => (match es with | [] => true | _ => false)
  | .cons a .nil, sc, es => (match es with | [x] => matchE a sc x | _ => false)
  | _, _, _ => false
def matchI : E → Scope → Expr → Expr → Bool
  | .sq e, sc, ex, _ => (match ex with | .Set _ _ _ => false | _ => matchE e sc ex)
  | .rng1 a, sc, ex, _ => (match ex with | .Call (.Name x _) [y] [] _ => decide (x = "range") && isGl sc x && matchE a sc y | _ => false)
  | .rng2 a b, sc, ex, _ => (match ex with | .Call (.Name x _) [y, z] [] _ => decide (x = "range") && isGl sc x && matchE a sc y && matchE b sc z | _ => false)
  | .rng3 a b c, sc, ex, _ => (match ex with | .Call (.Name x _) [y, z, u] [] _ => decide (x = "range") && isGl sc x && matchE a sc y && matchE b sc z && matchE c sc u | _ => false)
  | .rev a, sc, ex, _ => (match ex with | .Call (.Name x _) [y] [] _ => decide (x = "reversed") && isGl sc x && matchE a sc y | _ => false)
  | .enm a, sc, ex, tg => (match ex with | .Call (.Name x _) [y] [] _ => isTupT tg && decide (x = "enumerate") && isGl sc x && matchE a sc y | _ => false)
  | .zip a b, sc, ex, tg => (match ex with | .Call (.Name x _) [y, z] [] _ => isTupT tg && decide (x = "zip") && isGl sc x && matchE a sc y && matchE b sc z | _ => false)
  | _, _, _, _ => false
end

/-! ### no star -/
variable {T N}
end Mt
section
variable {T : Tx} {N : List Str}
def noStar : Expr → Bool
  | .Starred _ _ => false
  | _ => true
theorem star_cons {e : Expr} (h : noStar e = true) (es : List Expr) (env : Env) : starEach (e :: es) env = (false, eval e env) :: starEach es env := by
  cases e <;> first | rfl | exact absurd (show false = true from h) Bool.false_ne_true
theorem match_noStar {e : E} {sc : Scope} {ex : Expr} (h : matchE T.toNm N e sc ex = true) : noStar ex = true := by
  cases ex <;> first
    | rfl
    | (exfalso
       cases e
       case mk a => cases a <;> simp [matchE] at h
       case call f a =>
         simp only [matchE] at h
         split at h
         · simp [hotShape] at h
         · cases h
       all_goals simp [matchE] at h)
theorem matchA_star : ∀ {a : E} {sc : Scope} {es : List Expr}, matchA T.toNm N a sc es = true → ∀ e ∈ es, noStar e = true := by
  intro a
  induction a with
  | nil =>
    intro sc es h
    cases es with
    | nil => intro e he; cases he
    | cons x t => simp [matchA] at h
  | cons a r _ ih =>
    intro sc es h
    cases es with
    | nil => simp [matchA] at h
    | cons x t =>
      simp only [matchA, Bool.and_eq_true] at h
      intro e he
      rcases List.mem_cons.mp he with rfl | he
      · exact match_noStar h.1
      · exact ih h.2 e he
  | _ => intro sc es h; simp [matchA] at h
theorem star_plain {es : List Expr} (h : ∀ e ∈ es, noStar e = true) (pos : Pos) (env : Env) : (backTo pos (starEach es env)).any (·.1) = false := by
  have : ∀ es : List Expr, (∀ e ∈ es, noStar e = true) → ∀ p ∈ starEach es env, p.1 = false := by
    intro es
    induction es with
    | nil => intro _ p hp; cases hp
    | cons e r ih =>
      intro h p hp
      rw [star_cons (h e List.mem_cons_self)] at hp
      rcases List.mem_cons.mp hp with rfl | hp
      · rfl
      · exact ih (fun e he => h e (List.mem_cons_of_mem _ he)) p hp
  have k := this es h
  unfold backTo
  rw [List.any_eq_false]
  intro p hp
  rw [List.mem_map] at hp
  obtain ⟨q, hq, rfl⟩ := hp
  have := k q hq
  simpa using this

structure All (T : Tx) (N : List Str) (e : E) : Prop where
  pe : ∀ {sc : Scope} {W : Wl} {X : Cx} {ex : Expr}, Ok T N sc W X → matchE T.toNm N e sc ex = true → PE X ex (RE T.S W (evE T.C T.gl e))
  pt : ∀ {sc : Scope} {W : Wl} {X : Cx} {ex : Expr}, Ok T N sc W X → matchE T.toNm N e sc ex = true → PT X ex (RT T.S W (fun ls => evE T.C T.gl e ls >>= truthM))
  pw : ∀ {sc : Scope} {W : Wl} {X : Cx} {op : BoolOp} {es : List Expr} {p : Pos}, Ok T N sc W X → matchE T.toNm N e sc (.BoolOp op es p) = true → PW X (.BoolOp op es p) (RT T.S W (fun ls => evE T.C T.gl e ls >>= truthM))
  pa : ∀ {sc : Scope} {W : Wl} {X : Cx} {es : List Expr}, Ok T N sc W X → matchA T.toNm N e sc es = true → PA X es (RA T.S W (evA T.C T.gl e))
  po : ∀ {sc : Scope} {W : Wl} {X : Cx} {o : Option Expr}, Ok T N sc W X → matchP T.toNm N e sc o = true → PO X o (RO T.S W (evP T.C T.gl e))
  pc : ∀ {sc : Scope} {W : Wl} {X : Cx} {es : List Expr}, Ok T N sc W X → matchC T.toNm N e sc es = true → PTs X es (RT T.S W (evC T.C T.gl e))
end
end EV

/-! Expressions: what the evaluator reckons, the model does. -/
namespace EV
open PySem PySem.Spec PyProof.Rows L2
section
variable {T : Tx} {N : List Str} {sc : Scope} {W : Wl} {X : Cx} {ex : Expr}

def plainT : Expr → Bool
  | .UnaryOp .Not _ _ => false
  | .BoolOp _ _ _ => false
  | .IfExp _ _ _ _ => false
  | .Compare _ _ _ _ => false
  | _ => true
theorem plainT_eq (h : plainT ex = true) (env : Env) (whole : Sem Value) : isTrue ex env whole = (do let v ← whole; standAt ex.pos; holding [v] (truthy v)) := by
  cases ex with
  | UnaryOp op a p => cases op <;> first | rfl | exact absurd (show false = true from h) Bool.false_ne_true
  | BoolOp op a p => exact absurd (show false = true from h) Bool.false_ne_true
  | IfExp a b c p => exact absurd (show false = true from h) Bool.false_ne_true
  | Compare a b c p => exact absurd (show false = true from h) Bool.false_ne_true
  | _ => rfl
/-- the truth of a value at hand -/
theorem Go.tru {Q : Bool → Hp → Prop} {σ : L2.St} {ls : Ls} {w : Wd} {d : D} {v : V} (ok : Ok T N sc W X) (g : Go T.S W σ (fun _ b b' => b = b') Q ls w (truthM d)) (r : RepW T.S w v d) : ∃ k, TruV X.K v w.H k ∧ Q k w.H := by
  obtain ⟨k, hk, q⟩ := g.optb (o := truthV (deref w.h d)) (by unfold truthM; cases truthV (deref w.h d) <;> rfl)
  exact ⟨k, tru_of ok.K g.sim r hk, q k rfl⟩
theorem pt_plain {m : Ls → M D} (ok : Ok T N sc W X) (hp : PE X ex (RE T.S W m)) (h : plainT ex = true) : PT X ex (RT T.S W fun ls => m ls >>= truthM) := by
  refine PT.imp (pt_truth hp fun whole => plainT_eq h X.env whole) fun σ H Q hw => ?_
  obtain ⟨w, ls, rfl, g⟩ := hw
  refine ⟨w, ls, rfl, g.bind.mono ?_⟩
  rintro v H1 ⟨w1, d, rfl, x, r, g1⟩
  exact g1.tru ok r
/-- a constructor that is no list, whose text is plain -/
theorem All.plain {e : E} (pe : ∀ {sc : Scope} {W : Wl} {X : Cx} {ex : Expr}, Ok T N sc W X → matchE T.toNm N e sc ex = true → PE X ex (RE T.S W (evE T.C T.gl e)))
    (hp : ∀ sc ex, matchE T.toNm N e sc ex = true → plainT ex = true) (ha : ∀ sc es, matchA T.toNm N e sc es = false) (ho : ∀ sc es, matchP T.toNm N e sc es = false) (hc : ∀ sc es, matchC T.toNm N e sc es = false) : All T N e where
  pe := pe
  pt := fun ok h => pt_plain ok (pe ok h) (hp _ _ h)
  pw := fun ok h => by
    have := hp _ _ h
    exact absurd (show false = true from this) Bool.false_ne_true
  pa := fun _ h => by rw [ha] at h; cases h
  po := fun _ h => by rw [ho] at h; cases h
  pc := fun _ h => by rw [hc] at h; cases h

theorem isLoc_of {i : Nat} {x : Str} (h : isLoc N sc i x = true) : N[i]? = some x ∧ (sc.names.lookup x = some .local ∨ sc.names.lookup x = some .cell ∨ sc.names.lookup x = some .free) ∧ plainName x = true := by
  unfold isLoc at h
  simp only [Bool.and_eq_true, decide_eq_true_eq] at h
  obtain ⟨⟨h1, h2⟩, h3⟩ := h
  refine ⟨h1, ?_, h3⟩
  split at h2 <;> first | exact .inl (by assumption) | exact .inr (.inl (by assumption)) | exact .inr (.inr (by assumption)) | cases h2
theorem isGl_of {x : Str} (h : isGl sc x = true) : sc.names.lookup x = some .globalImplicit ∧ plainName x = true := by
  unfold isGl at h
  rw [Bool.and_eq_true] at h
  refine ⟨?_, h.2⟩
  have h1 := h.1
  split at h1
  · assumption
  · cases h1
theorem plainName_of {x : Str} (h : plainName x = true) : (x == ("__debug__" : Str)) = false ∧ (x == ("__classdict__" : Str)) = false ∧ x ≠ "__name__" := by
  unfold plainName at h
  simp only [Bool.and_eq_true, Bool.not_eq_true'] at h
  exact ⟨h.1.1, h.1.2, beq_eq_false_iff_ne.mp h.2⟩
theorem Ok.gL (ok : Ok T N sc W X) {x : Str} (h : isGl sc x = true) : Gl X x := by
  have := (isGl_of h).1
  rw [← ok.sc] at this
  exact this

theorem liftO_eq (o : Option D) (h : Hh) : liftO o h = (match o with | some d => Res.ok d h | none => Res.stk) := by cases o <;> rfl
theorem all_loc (i : Nat) : All T N (.loc i) := by
  refine .plain (fun {sc W X ex} ok h => ?_) (fun sc ex h => ?_) (fun _ _ => rfl) (fun _ _ => rfl) (fun _ _ => rfl)
  · cases ex <;> try (simp [matchE] at h; done)
    next x p =>
    simp only [matchE] at h
    obtain ⟨h1, h2, h3⟩ := isLoc_of h
    obtain ⟨h4, h5, _⟩ := plainName_of h3
    refine PE.imp (pe_var (i := i) (by rw [ok.hN]; exact h1) (by rw [ok.sc]; exact h2) h4 h5) fun σ H Q hw => ?_
    obtain ⟨w, ls, rfl, g⟩ := hw
    simp only [evE] at g
    obtain ⟨d, hd, f⟩ := g.opt (o := match ls[i]? with | some o => o | none => none) (liftO_eq _ _)
    split at hd
    · next o e =>
      subst hd
      obtain ⟨v, h1, h2⟩ := g.2.1.at_ i d e
      exact ⟨v, h1, f.here g.sim h2⟩
    · cases hd
  · cases ex <;> first | rfl | (simp [matchE] at h; done)

theorem all_con (d : D) : All T N (.con d) := by
  refine .plain (fun {sc W X ex} ok h => ?_) (fun sc ex h => ?_) (fun _ _ => rfl) (fun _ _ => rfl) (fun _ _ => rfl)
  · cases ex <;> try (simp [matchE] at h; done)
    next c k p =>
    simp only [matchE] at h
    unfold conOk at h
    split at h
    · cases of_decide_eq_true h
      exact PE.imp pe_int fun σ H Q ⟨w, ls, e, g⟩ => by subst e; simp only [evE] at g; exact g.ret (.int _)
    · cases of_decide_eq_true h
      exact PE.imp pe_bl fun σ H Q ⟨w, ls, e, g⟩ => by subst e; simp only [evE] at g; exact g.ret (.bl _)
    · exact PE.imp pe_non fun σ H Q ⟨w, ls, e, g⟩ => by subst e; simp only [evE] at g; exact g.ret .non
    · rw [Bool.and_eq_true] at h
      cases of_decide_eq_true h.1
      exact PE.imp pe_str fun σ H Q ⟨w, ls, e, g⟩ => by subst e; simp only [evE] at g; exact g.ret (.str _ h.2)
    · cases h
  · cases ex <;> first | rfl | (simp [matchE] at h; done)

theorem all_glo (n : Nat) : All T N (.glo n) := by
  refine .plain (fun {sc W X ex} ok h => ?_) (fun sc ex h => ?_) (fun _ _ => rfl) (fun _ _ => rfl) (fun _ _ => rfl)
  · cases ex <;> try (simp [matchE] at h; done)
    next x p =>
    simp only [matchE, Bool.and_eq_true, decide_eq_true_eq] at h
    obtain ⟨rfl, h2⟩ := h
    obtain ⟨h4, h5, _⟩ := plainName_of (isGl_of h2).2
    refine ⟨fun pins s σ H Q I hw => ?_⟩
    obtain ⟨w, ls, rfl, g⟩ := hw
    simp only [evE] at g
    obtain ⟨d, hd, f⟩ := g.opt (o := T.gl n) (liftO_eq _ _)
    obtain ⟨v, u, e1, e2, e3⟩ := ok.gl n d hd
    exact (pe_glob (pos := p) (ok.gL h2) e1 e2 h4).run pins s σ w.H Q I (f.here g.sim (e3 _ _ _ _))
  · cases ex <;> first | rfl | (simp [matchE] at h; done)

theorem all_nil : All T N .nil where
  pe := fun _ h => by simp [matchE] at h
  pt := fun _ h => by simp [matchE] at h
  pw := fun _ h => by simp [matchE] at h
  pa := fun {sc W X es} ok h => by
    cases es with
    | nil => exact PA.imp pa_nil fun σ H Q ⟨w, ls, e, g⟩ => by subst e; simp only [evA] at g; exact g.ret .nil
    | cons x t => simp [matchA] at h
  po := fun {sc W X o} ok h => by
    cases o with
    | none => exact PO.imp po_none fun σ H Q ⟨w, ls, e, g⟩ => by subst e; simp only [evP] at g; exact g.ret rfl
    | some x => simp [matchP] at h
  pc := fun {sc W X es} ok h => by
    cases es with
    | nil => exact PTs.imp pts_nil fun σ H Q ⟨w, ls, e, g⟩ => by subst e; simp only [evC] at g; exact g.ret rfl
    | cons x t => simp [matchC] at h

theorem all_cons {a r : E} (ha : All T N a) (hr : All T N r) : All T N (.cons a r) where
  pe := fun _ h => by simp [matchE] at h
  pt := fun _ h => by simp [matchE] at h
  pw := fun _ h => by simp [matchE] at h
  pa := fun {sc W X es} ok h => by
    cases es with
    | nil => simp [matchA] at h
    | cons x t =>
      simp only [matchA, Bool.and_eq_true] at h
      refine PA.imp (pa_cons (ha.pe ok h.1) (hr.pa ok h.2) (star_cons (match_noStar h.1) _ _)) fun σ H Q hw => ?_
      obtain ⟨w, ls, rfl, g⟩ := hw
      simp only [evA] at g
      refine ⟨w, ls, rfl, g.bind.mono ?_⟩
      rintro v H1 ⟨w1, d, rfl, x1, r1, g1⟩
      refine ⟨w1, ls, rfl, g1.bind.mono ?_⟩
      rintro vs H2 ⟨w2, ds, rfl, x2, r2, g2⟩
      exact g2.ret (.cons (Rep.ext x2.toExt0 r1) r2)
  po := fun {sc W X o} ok h => by
    cases r with
    | nil =>
      cases o with
      | none => simp [matchP] at h
      | some x =>
        simp only [matchP] at h
        refine PO.imp (po_some (ha.pe ok h)) fun σ H Q hw => ?_
        obtain ⟨w, ls, rfl, g⟩ := hw
        simp only [evP] at g
        refine ⟨w, ls, rfl, g.bind.mono ?_⟩
        rintro v H1 ⟨w1, d, rfl, x1, r1, g1⟩
        cases d with
        | int i => exact ⟨i, rep_int r1, g1.ret rfl⟩
        | _ => exact (g1.not fun _ => rfl).elim
    | _ => simp [matchP] at h
  pc := fun {sc W X es} ok h => by
    cases r with
    | nil =>
      cases es with
      | nil => simp [matchC] at h
      | cons x t =>
        cases t with
        | nil =>
          simp only [matchC] at h
          refine PTs.imp (pts_one (ha.pt ok h)) fun σ H Q hw => ?_
          obtain ⟨w, ls, rfl, g⟩ := hw
          simp only [evC] at g
          exact ⟨w, ls, rfl, g⟩
        | cons y t => simp [matchC] at h
    | _ => simp [matchC] at h

theorem all_tup {a : E} (ha : All T N a) : All T N (.tup a) := by
  refine .plain (fun {sc W X ex} ok h => ?_) (fun sc ex h => ?_) (fun _ _ => rfl) (fun _ _ => rfl) (fun _ _ => rfl)
  · cases ex <;> try (simp [matchE] at h; done)
    next es k p =>
    simp only [matchE] at h
    refine PE.imp (pe_tup (ha.pa ok h)) fun σ H Q hw => ?_
    obtain ⟨w, ls, rfl, g⟩ := hw
    simp only [evE] at g
    refine ⟨w, ls, rfl, g.bind.mono ?_⟩
    rintro vs H1 ⟨w1, ds, rfl, x1, r1, g1⟩
    split at g1
    · next c =>
      have c := of_decide_eq_true c
      rw [sizeL_eq] at c
      obtain ⟨r, e, f⟩ := g1.opt (o := some (.tup ds)) rfl
      cases e
      exact ⟨by rw [r1.length]; exact c, fun p hp => f.tup g1.sim r1 hp⟩
    · exact (g1.not fun _ => rfl).elim
  · cases ex <;> first | rfl | (simp [matchE] at h; done)

theorem pe_lstF {a : E} (ha : All T N a) (ok : Ok T N sc W X) (h : matchE T.toNm N (.lst a) sc ex = true) :
    PE X ex (fun σ H Q => ∃ w ls, w.H = H ∧ Go T.S W σ (fun w' (b : Addr × List V) d => ∃ ds, d = .lst ds ∧ w'.H b.1 = none ∧ RepsW T.S w' b.2 ds) (fun b H1 => Q (.ref b.1) (upd H1 b.1 (.lst b.2))) ls w (evE T.C T.gl (.lst a) ls)) := by
  cases ex <;> try (simp [matchE] at h; done)
  next es p =>
  simp only [matchE] at h
  refine PE.imp (pe_lst (ha.pa ok h)) fun σ H Q hw => ?_
  obtain ⟨w, ls, rfl, g⟩ := hw
  simp only [evE] at g
  refine ⟨w, ls, rfl, g.bind.mono ?_⟩
  rintro vs H1 ⟨w1, ds, rfl, x1, r1, g1⟩
  split at g1
  · next c =>
    have c := of_decide_eq_true c
    rw [sizeL_eq] at c
    exact ⟨by rw [r1.length]; exact c, fun p hp => g1.ret (b := (p, vs)) ⟨ds, rfl, hp, r1⟩⟩
  · exact (g1.not fun _ => rfl).elim
/-- a fresh list, read as a list -/
theorem Go.lst_of {Q : VK} {σ : L2.St} {ls : Ls} {w : Wd} {m : M D} (S : St0) (g : Go S W σ (RepW S) Q ls w m) :
    Go S W σ (fun w' (b : Addr × List V) d => ∃ ds, d = .lst ds ∧ w'.H b.1 = none ∧ RepsW S w' b.2 ds) (fun b H1 => Q (.ref b.1) (upd H1 b.1 (.lst b.2))) ls w m := by
  refine ⟨g.1, g.2.1, ?_⟩
  have a := g.2.2
  cases e : m w.h with
  | stk => rw [e] at a; exact a.elim
  | err c d h' => rw [e] at a; exact a
  | ok d h' =>
    rw [e] at a
    rintro w' e' x s b ⟨ds, rfl, hp, r⟩
    refine Fin.lst (w := w') (fun w2 e2 x2 s2 v rv => a w2 (e2.trans e') (x.trans x2) s2 v rv) s r hp
theorem all_lst {a : E} (ha : All T N a) : All T N (.lst a) := by
  refine .plain (fun {sc W X ex} ok h => ?_) (fun sc ex h => ?_) (fun _ _ => rfl) (fun _ _ => rfl) (fun _ _ => rfl)
  · refine PE.imp (pe_lstF ha ok h) fun σ H Q hw => ?_
    obtain ⟨w, ls, rfl, g⟩ := hw
    exact ⟨w, ls, rfl, g.lst_of⟩
  · cases ex <;> first | rfl | (simp [matchE] at h; done)

theorem all_bin {o : BOp} {a b : E} (ha : All T N a) (hb : All T N b) : All T N (.bin o a b) := by
  refine .plain (fun {sc W X ex} ok h => ?_) (fun sc ex h => ?_) (fun _ _ => rfl) (fun _ _ => rfl) (fun _ _ => rfl)
  · cases ex <;> try (simp [matchE] at h; done)
    next x op y p =>
    simp only [matchE, Bool.and_eq_true, decide_eq_true_eq] at h
    obtain ⟨⟨rfl, h1⟩, h2⟩ := h
    refine PE.imp (pe_op (bin_ok ok.K o) (ha.pe ok h1) (hb.pe ok h2)) fun σ H Q hw => ?_
    obtain ⟨w, ls, rfl, g⟩ := hw
    simp only [evE] at g
    refine ⟨w, ls, rfl, g.bind.mono ?_⟩
    rintro v H1 ⟨w1, d, rfl, x1, r1, g1⟩
    refine ⟨w1, ls, rfl, g1.bind.mono ?_⟩
    rintro u H2 ⟨w2, e, rfl, x2, r2, g2⟩
    obtain ⟨r, hr, f⟩ := g2.opt (o := binV o (deref w2.h d) (deref w2.h e)) (by unfold binM; cases binV o (deref w2.h d) (deref w2.h e) <;> rfl)
    exact ⟨w2, d, e, r, rfl, g2.sim, Rep.ext x2.toExt0 r1, r2, hr, f⟩
  · cases ex <;> first | rfl | (simp [matchE] at h; done)

/-- a comparison of two values at hand -/
theorem Go.cmp {Q : VK} {σ : L2.St} {ls : Ls} {w : Wd} {o : COp} {d e : D} {v u : V} {S : St0} (g : Go S W σ (RepW S) Q ls w (cmpM o d e)) (r1 : RepW S w v d) (r2 : RepW S w u e) : r2b S (cmpV o) v u w.H Q := by
  have g' := g.2.2
  have e' : cmpM o d e w.h = (match cmpV o (deref w.h d) (deref w.h e) with | some k => Res.ok (.bl k) w.h | none => Res.stk) := rfl
  rw [e'] at g'
  cases hb : cmpV o (deref w.h d) (deref w.h e) with
  | none => rw [hb] at g'; exact g'.elim
  | some k =>
    rw [hb] at g'
    exact ⟨w, d, e, k, rfl, g.1, r1, r2, hb, g' w rfl (Ext.refl w) g.1 _ (.bl k)⟩
/-- .. and what is done with the answer -/
theorem Go.cmp2 {α β : Type} {R : Wd → β → α → Prop} {Q : β → Hp → Prop} {σ : L2.St} {ls : Ls} {w : Wd} {o : COp} {d e : D} {v u : V} {S : St0} {f : D → M α} (g : Go S W σ R Q ls w (cmpM o d e >>= f)) (r1 : RepW S w v d) (r2 : RepW S w u e) :
    ∃ k, cmpV o (deref w.h d) (deref w.h e) = some k ∧ Go S W σ R Q ls w (f (.bl k)) := by
  have g' := g.2.2
  cases hb : cmpV o (deref w.h d) (deref w.h e) with
  | none =>
    have : (cmpM o d e >>= f) w.h = Res.stk := bind_stk (by unfold cmpM; rw [hb])
    rw [this] at g'
    exact g'.elim
  | some k =>
    have : (cmpM o d e >>= f) w.h = f (.bl k) w.h := bind_ok (by unfold cmpM; rw [hb])
    rw [this] at g'
    exact ⟨k, rfl, g.1, g.2.1, g'⟩
theorem truthM_bl (k : Bool) : truthM (.bl k) = pure k := rfl
theorem all_cmp {o : COp} {a b : E} (ha : All T N a) (hb : All T N b) : All T N (.cmp o a b) where
  pe := fun {sc W X ex} ok h => by
    cases ex <;> try (simp [matchE] at h; done)
    next x ops ys p =>
    simp only [matchE] at h
    split at h
    · simp only [Bool.and_eq_true, decide_eq_true_eq, Bool.not_eq_true'] at h
      obtain ⟨⟨⟨rfl, h3⟩, h1⟩, h2⟩ := h
      refine PE.imp (pe_cmpR (cmp_ok ok.K ok.hu o) (ha.pe ok h1) (hb.pe ok h2) h3) fun σ H Q hw => ?_
      obtain ⟨w, ls, rfl, g⟩ := hw
      simp only [evE] at g
      refine ⟨w, ls, rfl, g.bind.mono ?_⟩
      rintro v H1 ⟨w1, d, rfl, x1, r1, g1⟩
      refine ⟨w1, ls, rfl, g1.bind.mono ?_⟩
      rintro u H2 ⟨w2, e, rfl, x2, r2, g2⟩
      exact g2.cmp (Rep.ext x2.toExt0 r1) r2
    · cases h
  pt := fun {sc W X ex} ok h => by
    cases ex <;> try (simp [matchE] at h; done)
    next x ops ys p =>
    simp only [matchE] at h
    split at h
    · simp only [Bool.and_eq_true, decide_eq_true_eq, Bool.not_eq_true'] at h
      obtain ⟨⟨⟨rfl, h3⟩, h1⟩, h2⟩ := h
      refine PT.imp (pt_cmpR (cmp_ok ok.K ok.hu o) (ha.pe ok h1) (hb.pe ok h2) h3) fun σ H Q hw => ?_
      obtain ⟨w, ls, rfl, g⟩ := hw
      simp only [evE, bind_assoc'] at g
      refine ⟨w, ls, rfl, g.bind.mono ?_⟩
      rintro v H1 ⟨w1, d, rfl, x1, r1, g1⟩
      refine ⟨w1, ls, rfl, g1.bind.mono ?_⟩
      rintro u H2 ⟨w2, e, rfl, x2, r2, g2⟩
      have r1 := Rep.ext x2.toExt0 r1
      obtain ⟨k, hk, g3⟩ := g2.cmp2 r1 r2
      rw [truthM_bl] at g3
      exact ⟨w2, d, e, k, rfl, g2.sim, r1, r2, hk, k, rfl, g3.ret rfl⟩
    · cases h
  pw := fun _ h => by simp [matchE] at h
  pa := fun _ h => by simp [matchA] at h
  po := fun _ h => by simp [matchP] at h
  pc := fun _ h => by simp [matchC] at h

theorem all_chn {o o' : COp} {a b c : E} (ha : All T N a) (hb : All T N b) (hc : All T N c) : All T N (.chn o o' a b c) where
  pe := fun {sc W X ex} ok h => by
    cases ex <;> try (simp [matchE] at h; done)
    next x ops ys p =>
    simp only [matchE] at h
    split at h
    · simp only [Bool.and_eq_true, decide_eq_true_eq, Bool.not_eq_true'] at h
      obtain ⟨⟨⟨⟨⟨rfl, rfl⟩, h4⟩, h1⟩, h2⟩, h3⟩ := h
      refine PE.imp (pe_chain (cmp_ok ok.K ok.hu o) (cmp_ok ok.K ok.hu o') (ha.pe ok h1) (hb.pe ok h2) (hc.pe ok h3) h4) fun σ H Q hw => ?_
      obtain ⟨w, ls, rfl, g⟩ := hw
      simp only [evE] at g
      refine ⟨w, ls, rfl, g.bind.mono ?_⟩
      rintro v H1 ⟨w1, d, rfl, x1, r1, g1⟩
      refine ⟨w1, ls, rfl, g1.bind.mono ?_⟩
      rintro u H2 ⟨w2, e, rfl, x2, r2, g2⟩
      have r1 := Rep.ext x2.toExt0 r1
      obtain ⟨k, hk, g3⟩ := g2.cmp2 r1 r2
      refine ⟨w2, d, e, k, rfl, g2.sim, r1, r2, hk, k, rfl, ?_⟩
      cases k with
      | false => exact g3.ret (.bl false)
      | true =>
        refine ⟨w2, ls, rfl, g3.bind.mono ?_⟩
        rintro t H3 ⟨w3, z, rfl, x3, r3, g4⟩
        exact g4.cmp (Rep.ext x3.toExt0 r2) r3
    · cases h
  pt := fun {sc W X ex} ok h => by
    cases ex <;> try (simp [matchE] at h; done)
    next x ops ys p =>
    simp only [matchE] at h
    split at h
    · simp only [Bool.and_eq_true, decide_eq_true_eq, Bool.not_eq_true'] at h
      obtain ⟨⟨⟨⟨⟨rfl, rfl⟩, h4⟩, h1⟩, h2⟩, h3⟩ := h
      refine PT.imp (pt_chain (cmp_ok ok.K ok.hu o) (cmp_ok ok.K ok.hu o') (ha.pe ok h1) (hb.pe ok h2) (hc.pe ok h3) h4) fun σ H Q hw => ?_
      obtain ⟨w, ls, rfl, g⟩ := hw
      simp only [evE, bind_assoc'] at g
      refine ⟨w, ls, rfl, g.bind.mono ?_⟩
      rintro v H1 ⟨w1, d, rfl, x1, r1, g1⟩
      refine ⟨w1, ls, rfl, g1.bind.mono ?_⟩
      rintro u H2 ⟨w2, e, rfl, x2, r2, g2⟩
      have r1 := Rep.ext x2.toExt0 r1
      obtain ⟨k, hk, g3⟩ := g2.cmp2 r1 r2
      refine ⟨w2, d, e, k, rfl, g2.sim, r1, r2, hk, k, rfl, ?_⟩
      cases k with
      | false =>
        have g4 : Go T.S W σ (fun _ b b' => b = b') Q ls w2 (pure false) := g3
        exact ⟨false, rfl, g4.ret rfl⟩
      | true =>
        simp only [bind_assoc'] at g3
        refine ⟨w2, ls, rfl, g3.bind.mono ?_⟩
        rintro t H3 ⟨w3, z, rfl, x3, r3, g4⟩
        have r2 := Rep.ext x3.toExt0 r2
        obtain ⟨k2, hk2, g5⟩ := g4.cmp2 r2 r3
        rw [truthM_bl] at g5
        exact ⟨w3, e, z, k2, rfl, g4.sim, r2, r3, hk2, k2, rfl, g5.ret rfl⟩
    · cases h
  pw := fun _ h => by simp [matchE] at h
  pa := fun _ h => by simp [matchA] at h
  po := fun _ h => by simp [matchP] at h
  pc := fun _ h => by simp [matchC] at h

theorem all_neg {a : E} (ha : All T N a) : All T N (.neg a) := by
  refine .plain (fun {sc W X ex} ok h => ?_) (fun sc ex h => ?_) (fun _ _ => rfl) (fun _ _ => rfl) (fun _ _ => rfl)
  · cases ex <;> try (simp [matchE] at h; done)
    next op x p =>
    cases op <;> try (simp [matchE] at h; done)
    simp only [matchE] at h
    refine PE.imp (pe_un un_neg (ha.pe ok h)) fun σ H Q hw => ?_
    obtain ⟨w, ls, rfl, g⟩ := hw
    simp only [evE] at g
    refine ⟨w, ls, rfl, g.bind.mono ?_⟩
    rintro v H1 ⟨w1, d, rfl, x1, r1, g1⟩
    cases d with
    | int i => exact ⟨i, rep_int r1, g1.ret (.int _)⟩
    | _ => exact (g1.not fun _ => rfl).elim
  · cases ex <;> try (simp [matchE] at h; done)
    next op x p => cases op <;> first | rfl | (simp [matchE] at h; done)

theorem all_not {a : E} (ha : All T N a) : All T N (.not a) where
  pe := fun {sc W X ex} ok h => by
    cases ex <;> try (simp [matchE] at h; done)
    next op x p =>
    cases op <;> try (simp [matchE] at h; done)
    simp only [matchE] at h
    refine PE.imp (pe_notT (ha.pe ok h)) fun σ H Q hw => ?_
    obtain ⟨w, ls, rfl, g⟩ := hw
    simp only [evE] at g
    refine ⟨w, ls, rfl, g.bind.mono ?_⟩
    rintro v H1 ⟨w1, d, rfl, x1, r1, g1⟩
    obtain ⟨k, hk, q⟩ := (g1.bind (R := fun _ b b' => b = b')).tru ok r1
    obtain ⟨w2, k', e2, _, rfl, g2⟩ := q
    rw [← e2]
    exact ⟨k, by rw [e2]; exact hk, g2.ret (.bl _)⟩
  pt := fun {sc W X ex} ok h => by
    cases ex <;> try (simp [matchE] at h; done)
    next op x p =>
    cases op <;> try (simp [matchE] at h; done)
    simp only [matchE] at h
    refine PT.imp (pt_not (ha.pt ok h)) fun σ H Q hw => ?_
    obtain ⟨w, ls, rfl, g⟩ := hw
    simp only [evE, bind_assoc'] at g
    have g : Go T.S W σ (fun _ b b' => b = b') Q ls w ((evE T.C T.gl a ls >>= truthM) >>= fun k => (pure (!k) : M Bool)) := by
      rw [bind_assoc']
      exact g
    refine ⟨w, ls, rfl, g.bind.mono ?_⟩
    rintro k H1 ⟨w1, k', rfl, x1, rfl, g1⟩
    exact g1.ret rfl
  pw := fun _ h => by simp [matchE] at h
  pa := fun _ h => by simp [matchA] at h
  po := fun _ h => by simp [matchP] at h
  pc := fun _ h => by simp [matchC] at h
end
end EV

/-! Expressions, the second part. -/
namespace EV
open PySem PySem.Spec PyProof.Rows L2
section
variable {T : Tx} {N : List Str} {sc : Scope} {W : Wl} {X : Cx} {ex : Expr}

/-- a value's truth at hand, with what follows -/
theorem Go.tru2 {α β : Type} {R : Wd → β → α → Prop} {Q : β → Hp → Prop} {σ : L2.St} {ls : Ls} {w : Wd} {d : D} {v : V} {f : Bool → M α} (ok : Ok T N sc W X) (g : Go T.S W σ R Q ls w (truthM d >>= f)) (r : RepW T.S w v d) :
    ∃ k, truthV (deref w.h d) = some k ∧ TruV X.K v w.H k ∧ Go T.S W σ R Q ls w (f k) := by
  have g' := g.2.2
  cases hb : truthV (deref w.h d) with
  | none =>
    have : (truthM d >>= f) w.h = Res.stk := bind_stk (by unfold truthM; rw [hb])
    rw [this] at g'
    exact g'.elim
  | some k =>
    have : (truthM d >>= f) w.h = f k w.h := bind_ok (by unfold truthM; rw [hb])
    rw [this] at g'
    exact ⟨k, rfl, tru_of ok.K g.sim r hb, g.1, g.2.1, g'⟩
theorem truthM_ok {d : D} {h : Hh} {k : Bool} (e : truthV (deref h d) = some k) : truthM d h = .ok k h := by unfold truthM; rw [e]

theorem pe_andE {a b : E} {x y : Expr} {r : List Expr} {p : Pos} (ok : Ok T N sc W X) (ha : PE X x (RE T.S W (evE T.C T.gl a))) (hb : PE X (.BoolOp .And (y :: r) p) (RE T.S W (evE T.C T.gl b))) :
    PE X (.BoolOp .And (x :: y :: r) p) (RE T.S W (evE T.C T.gl (.and a b))) := by
  refine PE.imp (pe_andT ha hb) fun σ H Q hw => ?_
  obtain ⟨w, ls, rfl, g⟩ := hw
  simp only [evE] at g
  refine ⟨w, ls, rfl, g.bind.mono ?_⟩
  rintro v H1 ⟨w1, d, rfl, x1, r1, g1⟩
  obtain ⟨k, hk, ht, g2⟩ := g1.tru2 ok r1
  refine ⟨k, ht, ?_⟩
  cases k with
  | true => exact ⟨w1, ls, rfl, g2⟩
  | false => exact g2.ret r1
theorem pe_orE {a b : E} {x y : Expr} {r : List Expr} {p : Pos} (ok : Ok T N sc W X) (ha : PE X x (RE T.S W (evE T.C T.gl a))) (hb : PE X (.BoolOp .Or (y :: r) p) (RE T.S W (evE T.C T.gl b))) :
    PE X (.BoolOp .Or (x :: y :: r) p) (RE T.S W (evE T.C T.gl (.or a b))) := by
  refine PE.imp (pe_orT ha hb) fun σ H Q hw => ?_
  obtain ⟨w, ls, rfl, g⟩ := hw
  simp only [evE] at g
  refine ⟨w, ls, rfl, g.bind.mono ?_⟩
  rintro v H1 ⟨w1, d, rfl, x1, r1, g1⟩
  obtain ⟨k, hk, ht, g2⟩ := g1.tru2 ok r1
  refine ⟨k, ht, ?_⟩
  cases k with
  | true => exact g2.ret r1
  | false => exact ⟨w1, ls, rfl, g2⟩
theorem pw_andE {a b : E} {x y : Expr} {r : List Expr} {p : Pos} (ok : Ok T N sc W X) (ha : PT X x (RT T.S W fun ls => evE T.C T.gl a ls >>= truthM)) (hb : PW X (.BoolOp .And (y :: r) p) (RT T.S W fun ls => evE T.C T.gl b ls >>= truthM)) :
    PW X (.BoolOp .And (x :: y :: r) p) (RT T.S W fun ls => evE T.C T.gl (.and a b) ls >>= truthM) := by
  refine PW.imp (pw_and ha hb) fun σ H Q hw => ?_
  obtain ⟨w, ls, rfl, g⟩ := hw
  simp only [evE, bind_assoc'] at g
  have g : Go T.S W σ (fun _ b b' => b = b') Q ls w ((evE T.C T.gl a ls >>= truthM) >>= fun k => if k = true then (evE T.C T.gl b ls >>= truthM) else pure false) := by
    rw [bind_assoc']
    refine ⟨g.1, g.2.1, ?_⟩
    have af := g.2.2
    cases e : evE T.C T.gl a ls w.h with
    | stk => rw [bind_stk e] at af; exact af.elim
    | err c d h' => rw [bind_err e] at af ⊢; exact af
    | ok d h' =>
      rw [bind_ok e] at af ⊢
      cases hb : truthV (deref h' d) with
      | none =>
        rw [bind_stk (by unfold truthM; rw [hb])] at af
        exact af.elim
      | some k =>
        rw [bind_ok (truthM_ok hb)] at af ⊢
        cases k with
        | true => exact af
        | false =>
          have a' : After T.S ((pure d >>= truthM) h') w (wx T.S W σ) (fun a w' => ∀ b, b = a → Q b w'.H) := af
          rw [pure_bind', truthM_ok hb] at a'
          exact a'
  refine ⟨w, ls, rfl, g.bind.mono ?_⟩
  rintro k H1 ⟨w1, k', rfl, x1, rfl, g1⟩
  cases k with
  | true => exact ⟨w1, ls, rfl, g1⟩
  | false => exact g1.ret rfl
theorem pw_orE {a b : E} {x y : Expr} {r : List Expr} {p : Pos} (ok : Ok T N sc W X) (ha : PT X x (RT T.S W fun ls => evE T.C T.gl a ls >>= truthM)) (hb : PW X (.BoolOp .Or (y :: r) p) (RT T.S W fun ls => evE T.C T.gl b ls >>= truthM)) :
    PW X (.BoolOp .Or (x :: y :: r) p) (RT T.S W fun ls => evE T.C T.gl (.or a b) ls >>= truthM) := by
  refine PW.imp (pw_or ha hb) fun σ H Q hw => ?_
  obtain ⟨w, ls, rfl, g⟩ := hw
  simp only [evE, bind_assoc'] at g
  have g : Go T.S W σ (fun _ b b' => b = b') Q ls w ((evE T.C T.gl a ls >>= truthM) >>= fun k => if k = true then pure true else (evE T.C T.gl b ls >>= truthM)) := by
    rw [bind_assoc']
    refine ⟨g.1, g.2.1, ?_⟩
    have af := g.2.2
    cases e : evE T.C T.gl a ls w.h with
    | stk => rw [bind_stk e] at af; exact af.elim
    | err c d h' => rw [bind_err e] at af ⊢; exact af
    | ok d h' =>
      rw [bind_ok e] at af ⊢
      cases hb : truthV (deref h' d) with
      | none =>
        rw [bind_stk (by unfold truthM; rw [hb])] at af
        exact af.elim
      | some k =>
        rw [bind_ok (truthM_ok hb)] at af ⊢
        cases k with
        | false => exact af
        | true =>
          have a' : After T.S ((pure d >>= truthM) h') w (wx T.S W σ) (fun a w' => ∀ b, b = a → Q b w'.H) := af
          rw [pure_bind', truthM_ok hb] at a'
          exact a'
  refine ⟨w, ls, rfl, g.bind.mono ?_⟩
  rintro k H1 ⟨w1, k', rfl, x1, rfl, g1⟩
  cases k with
  | false => exact ⟨w1, ls, rfl, g1⟩
  | true => exact g1.ret rfl

theorem and_cases {a b : E} (h : matchE T.toNm N (.and a b) sc ex = true) : ∃ x y r p, ex = .BoolOp .And (x :: y :: r) p ∧ matchE T.toNm N a sc x = true ∧ ((r = [] ∧ matchE T.toNm N b sc y = true) ∨ matchE T.toNm N b sc (.BoolOp .And (y :: r) p) = true) := by
  cases ex <;> try (simp [matchE] at h; done)
  next op vs p =>
  cases op <;> try (simp [matchE] at h; done)
  cases vs with
  | nil => simp [matchE] at h
  | cons x vs =>
    cases vs with
    | nil => simp [matchE] at h
    | cons y r =>
      cases r with
      | nil =>
        simp only [matchE, Bool.and_eq_true] at h
        exact ⟨x, y, [], p, rfl, h.1, .inl ⟨rfl, h.2⟩⟩
      | cons z r =>
        simp only [matchE, Bool.and_eq_true] at h
        exact ⟨x, y, z :: r, p, rfl, h.1, .inr h.2⟩
theorem or_cases {a b : E} (h : matchE T.toNm N (.or a b) sc ex = true) : ∃ x y r p, ex = .BoolOp .Or (x :: y :: r) p ∧ matchE T.toNm N a sc x = true ∧ ((r = [] ∧ matchE T.toNm N b sc y = true) ∨ matchE T.toNm N b sc (.BoolOp .Or (y :: r) p) = true) := by
  cases ex <;> try (simp [matchE] at h; done)
  next op vs p =>
  cases op <;> try (simp [matchE] at h; done)
  cases vs with
  | nil => simp [matchE] at h
  | cons x vs =>
    cases vs with
    | nil => simp [matchE] at h
    | cons y r =>
      cases r with
      | nil =>
        simp only [matchE, Bool.and_eq_true] at h
        exact ⟨x, y, [], p, rfl, h.1, .inl ⟨rfl, h.2⟩⟩
      | cons z r =>
        simp only [matchE, Bool.and_eq_true] at h
        exact ⟨x, y, z :: r, p, rfl, h.1, .inr h.2⟩
theorem and_pw {a b : E} (ha : All T N a) (hb : All T N b) {op : BoolOp} {es : List Expr} {p : Pos} (ok : Ok T N sc W X) (h : matchE T.toNm N (.and a b) sc (.BoolOp op es p) = true) :
    PW X (.BoolOp op es p) (RT T.S W fun ls => evE T.C T.gl (.and a b) ls >>= truthM) := by
  obtain ⟨x, y, r, p', e, h1, h2⟩ := and_cases h
  cases e
  rcases h2 with ⟨rfl, h2⟩ | h2
  · exact pw_andE ok (ha.pt ok h1) (pw_and1 (hb.pt ok h2))
  · exact pw_andE ok (ha.pt ok h1) (hb.pw ok h2)
theorem or_pw {a b : E} (ha : All T N a) (hb : All T N b) {op : BoolOp} {es : List Expr} {p : Pos} (ok : Ok T N sc W X) (h : matchE T.toNm N (.or a b) sc (.BoolOp op es p) = true) :
    PW X (.BoolOp op es p) (RT T.S W fun ls => evE T.C T.gl (.or a b) ls >>= truthM) := by
  obtain ⟨x, y, r, p', e, h1, h2⟩ := or_cases h
  cases e
  rcases h2 with ⟨rfl, h2⟩ | h2
  · exact pw_orE ok (ha.pt ok h1) (pw_or1 (hb.pt ok h2))
  · exact pw_orE ok (ha.pt ok h1) (hb.pw ok h2)
theorem all_and {a b : E} (ha : All T N a) (hb : All T N b) : All T N (.and a b) where
  pe := fun {sc W X ex} ok h => by
    obtain ⟨x, y, r, p', e, h1, h2⟩ := and_cases h
    cases e
    rcases h2 with ⟨rfl, h2⟩ | h2
    · exact pe_andE ok (ha.pe ok h1) (pe_one (hb.pe ok h2))
    · exact pe_andE ok (ha.pe ok h1) (hb.pe ok h2)
  pt := fun {sc W X ex} ok h => by
    obtain ⟨x, y, r, p', e, _, _⟩ := and_cases h
    cases e
    exact (and_pw ha hb ok h).pt
  pw := fun ok h => and_pw ha hb ok h
  pa := fun _ h => by simp [matchA] at h
  po := fun _ h => by simp [matchP] at h
  pc := fun _ h => by simp [matchC] at h
theorem all_or {a b : E} (ha : All T N a) (hb : All T N b) : All T N (.or a b) where
  pe := fun {sc W X ex} ok h => by
    obtain ⟨x, y, r, p', e, h1, h2⟩ := or_cases h
    cases e
    rcases h2 with ⟨rfl, h2⟩ | h2
    · exact pe_orE ok (ha.pe ok h1) (pe_one (hb.pe ok h2))
    · exact pe_orE ok (ha.pe ok h1) (hb.pe ok h2)
  pt := fun {sc W X ex} ok h => by
    obtain ⟨x, y, r, p', e, _, _⟩ := or_cases h
    cases e
    exact (or_pw ha hb ok h).pt
  pw := fun ok h => or_pw ha hb ok h
  pa := fun _ h => by simp [matchA] at h
  po := fun _ h => by simp [matchP] at h
  pc := fun _ h => by simp [matchC] at h

theorem all_ite {c a b : E} (hc : All T N c) (ha : All T N a) (hb : All T N b) : All T N (.ite c a b) where
  pe := fun {sc W X ex} ok h => by
    cases ex <;> try (simp [matchE] at h; done)
    next z x y p =>
    simp only [matchE, Bool.and_eq_true] at h
    obtain ⟨⟨h1, h2⟩, h3⟩ := h
    refine PE.imp (pe_ifExp (hc.pt ok h1) (ha.pe ok h2) (hb.pe ok h3)) fun σ H Q hw => ?_
    obtain ⟨w, ls, rfl, g⟩ := hw
    simp only [evE] at g
    rw [← bind_assoc'] at g
    refine ⟨w, ls, rfl, g.bind.mono ?_⟩
    rintro k H1 ⟨w1, k', rfl, x1, rfl, g1⟩
    cases k with
    | true => exact ⟨w1, ls, rfl, g1⟩
    | false => exact ⟨w1, ls, rfl, g1⟩
  pt := fun {sc W X ex} ok h => by
    cases ex <;> try (simp [matchE] at h; done)
    next z x y p =>
    simp only [matchE, Bool.and_eq_true] at h
    obtain ⟨⟨h1, h2⟩, h3⟩ := h
    refine ⟨fun pins s σ H Q I hw => ?_⟩
    obtain ⟨w, ls, rfl, g⟩ := hw
    simp only [evE] at g
    rw [← bind_assoc', bind_assoc'] at g
    refine isTrue_IfExp (thn ((hc.pt ok h1).run pins s σ w.H _ I ⟨w, ls, rfl, g.bind⟩) fun k s1 q => ?_)
    obtain ⟨H1, I1, w1, k', rfl, x1, rfl, g1⟩ := q
    cases k with
    | true => exact (ha.pt ok h2).run pins s1 σ w1.H Q I1 ⟨w1, ls, rfl, g1⟩
    | false => exact (hb.pt ok h3).run pins s1 σ w1.H Q I1 ⟨w1, ls, rfl, g1⟩
  pw := fun _ h => by simp [matchE] at h
  pa := fun _ h => by simp [matchA] at h
  po := fun _ h => by simp [matchP] at h
  pc := fun _ h => by simp [matchC] at h

theorem plainIx_of {y : Expr} (h : ∀ a b c p, y ≠ .Slice a b c p) : PlainIx y := by
  intro o i
  cases y with
  | Slice a b c p => exact absurd rfl (h a b c p)
  | _ => rfl
theorem all_idx {a b : E} (ha : All T N a) (hb : All T N b) : All T N (.idx a b) := by
  refine .plain (fun {sc W X ex} ok h => ?_) (fun sc ex h => ?_) (fun _ _ => rfl) (fun _ _ => rfl) (fun _ _ => rfl)
  · cases ex <;> try (simp [matchE] at h; done)
    next x y p =>
    have hy : ∀ a b c p, y ≠ .Slice a b c p := by
      rintro a b c p rfl
      simp [matchE] at h
    have h' : matchE T.toNm N a sc x = true ∧ matchE T.toNm N b sc y = true := by
      cases y <;> first | (simpa [matchE] using h) | exact absurd rfl (hy _ _ _ _)
    refine PE.imp (pe_ix (idx_ok ok.K) (ha.pe ok h'.1) (hb.pe ok h'.2) (plainIx_of hy)) fun σ H Q hw => ?_
    obtain ⟨w, ls, rfl, g⟩ := hw
    simp only [evE] at g
    refine ⟨w, ls, rfl, g.bind.mono ?_⟩
    rintro v H1 ⟨w1, d, rfl, x1, r1, g1⟩
    refine ⟨w1, ls, rfl, g1.bind.mono ?_⟩
    rintro u H2 ⟨w2, e, rfl, x2, r2, g2⟩
    obtain ⟨r, hr, f⟩ := g2.opt (o := idxV (deref w2.h d) e) (by unfold idxM; cases idxV (deref w2.h d) e <;> rfl)
    exact ⟨w2, d, e, r, rfl, g2.sim, Rep.ext x2.toExt0 r1, r2, hr, f⟩
  · cases ex <;> first | rfl | (simp [matchE] at h; done)

theorem all_slc {a lo hi : E} (ha : All T N a) (hl : All T N lo) (hh : All T N hi) : All T N (.slc a lo hi) := by
  refine .plain (fun {sc W X ex} ok h => ?_) (fun sc ex h => ?_) (fun _ _ => rfl) (fun _ _ => rfl) (fun _ _ => rfl)
  · cases ex <;> try (simp [matchE] at h; done)
    next x y p =>
    cases y <;> try (simp [matchE] at h; done)
    next l u st p2 =>
    cases st <;> try (simp [matchE] at h; done)
    simp only [matchE, Bool.and_eq_true] at h
    obtain ⟨⟨h1, h2⟩, h3⟩ := h
    refine PE.imp (pe_slice (slc_ok ok.K) (ha.pe ok h1) (hl.po ok h2) (hh.po ok h3)) fun σ H Q hw => ?_
    obtain ⟨w, ls, rfl, g⟩ := hw
    simp only [evE] at g
    refine ⟨w, ls, rfl, g.bind.mono ?_⟩
    rintro v H1 ⟨w1, d, rfl, x1, r1, g1⟩
    refine ⟨w1, ls, rfl, g1.bind.mono ?_⟩
    rintro i H2 ⟨w2, i', rfl, x2, rfl, g2⟩
    refine ⟨w2, ls, rfl, g2.bind.mono ?_⟩
    rintro j H3 ⟨w3, j', rfl, x3, rfl, g3⟩
    obtain ⟨r, hr, f⟩ := g3.opt (o := slcV (deref w3.h d) i j) (by unfold slcM; cases slcV (deref w3.h d) i j <;> rfl)
    exact ⟨w3, d, r, rfl, g3.sim, Rep.ext (x2.trans x3).toExt0 r1, hr, f⟩
  · cases ex <;> first | rfl | (simp [matchE] at h; done)

/-- a call of a def of ours, the arguments at hand -/
theorem call_run {f : Nat} (ok : Ok T N sc W X) (hh : T.hot = false) (hf : f < T.nf) {pins : List (Addr × Obj)} {s : Shared} {σ : L2.St} {H : Hp} {vs : List V} {us : List Value} {Q : VK} (I : Inv X pins σ H s) (r : Vals vs us)
    (h : ∃ w ds ls, w.H = H ∧ RepsW T.S w vs ds ∧ Go T.S W σ (RepW T.S) Q ls w (T.C f ds)) : wpAny (model X.prog X.w) X.A (call (.ref (T.S.fa f)) us) (EP X pins σ Q) X.xe s := by
  obtain ⟨w, ds, ls, rfl, rs, g⟩ := h
  obtain ⟨_, _, fd, ps, hlen, F, hb⟩ := ok.fns f hf
  refine run_fnS F ((ok.room hh).mono (Nat.le_succ _)) hb ok.tk I r ⟨?_, w, ds, rfl, g.sim, rs, g.2.2⟩
  rw [rs.length]
  apply Classical.byContradiction
  intro hn
  exact g.not fun h => hlen ds h hn
theorem all_call {f : Nat} {a : E} (ha : All T N a) : All T N (.call f a) := by
  refine .plain (fun {sc W X ex} ok h => ?_) (fun sc ex h => ?_) (fun _ _ => rfl) (fun _ _ => rfl) (fun _ _ => rfl)
  · cases hh : T.hot with
    | true =>
      simp only [matchE, hh, if_true, Bool.and_eq_true] at h
      obtain ⟨⟨h1, h2⟩, h3⟩ := h
      cases a <;> try (simp [isNil] at h3; done)
      refine PE.imp (ok.hx hh f ex (by rw [ok.sc]; exact h1)) fun σ H Q hw => ?_
      obtain ⟨w, ls, rfl, g⟩ := hw
      simp only [evE, evA] at g
      exact ⟨w, ls, rfl, g⟩
    | false =>
    simp only [matchE, hh, Bool.false_eq_true, if_false] at h
    cases ex <;> try (cases h; done)
    next fn es kw p =>
    cases fn <;> try (cases h; done)
    next x px =>
    cases kw <;> try (cases h; done)
    simp only [Bool.and_eq_true, decide_eq_true_eq] at h
    obtain ⟨⟨⟨rfl, hf⟩, hg⟩, h1⟩ := h
    obtain ⟨hm, hk, _⟩ := ok.fns f hf
    have stars := matchA_star h1
    refine PE.imp (pe_callS (r := fun σ vs H Q => ∃ w ds ls, w.H = H ∧ RepsW T.S w vs ds ∧ Go T.S W σ (RepW T.S) Q ls w (T.C f ds)) (ok.gL hg) hm hk (plainName_of (isGl_of hg).2).1 (ha.pa ok h1) ?_ ?_ ?_) fun σ H Q hw => ?_
    · rintro rfl σ H Q ⟨w, ls, rfl, g⟩
      cases a <;> try (simp [matchA] at h1; done)
      simp only [evA] at g
      exact g.ret .nil
    · rintro e r rfl
      exact ⟨star_cons (stars e List.mem_cons_self) _ _, star_plain (fun e he => stars e (List.mem_cons_of_mem _ he)) _ _⟩
    · intro pins s σ H vs us Q I r h
      exact call_run ok hh hf I r h
    · obtain ⟨w, ls, rfl, g⟩ := hw
      simp only [evE] at g
      refine ⟨w, ls, rfl, g.bind.mono ?_⟩
      rintro vs H1 ⟨w1, ds, rfl, x1, r1, g1⟩
      exact ⟨w1, ds, ls, rfl, r1, g1⟩
  · simp only [matchE] at h
    split at h
    · simp only [Bool.and_eq_true] at h
      cases ex <;> first | rfl | (simp [hotShape] at h; done)
    · cases ex <;> first | rfl | (cases h; done)

theorem blt_of {x : Str} (ok : Ok T N sc W X) (h : x ∈ bltN) : X.mg x = none := ok.blt x h
theorem pe_bifE {b : Bif} {x : Str} {px p : Pos} {e : Expr} {es : List Expr} {t : TA} {r : List V → Hp → VK → Prop} (hr : CallR X (bifVal b) r) (ok : Ok T N sc W X) (hx : x = bifName b) (hg : isGl sc x = true) (ha : PA X (e :: es) t)
    (h1 : starEach (e :: es) X.env = (false, eval e X.env) :: starEach es X.env) (h2 : (backTo p (starEach es X.env)).any (·.1) = false) : PE X (.Call (.Name x px) (e :: es) [] p) (fun σ H Q => t σ H fun vs H1 => r vs H1 Q) := by
  subst hx
  have hn := plainName_of (isGl_of hg).2
  cases b with
  | len => exact pe_callB hr (ok.gL hg) (blt_of ok (by decide)) (by decide +kernel) ha hn.2.2 hn.1 h1 h2
  | abs => exact pe_callB hr (ok.gL hg) (blt_of ok (by decide)) (by decide +kernel) ha hn.2.2 hn.1 h1 h2
  | max => exact pe_callB hr (ok.gL hg) (blt_of ok (by decide)) (by decide +kernel) ha hn.2.2 hn.1 h1 h2
  | min => exact pe_callB hr (ok.gL hg) (blt_of ok (by decide)) (by decide +kernel) ha hn.2.2 hn.1 h1 h2
  | sum => exact pe_callB hr (ok.gL hg) (blt_of ok (by decide)) (by decide +kernel) ha hn.2.2 hn.1 h1 h2
  | sorted => exact pe_callB hr (ok.gL hg) (blt_of ok (by decide)) (by decide +kernel) ha hn.2.2 hn.1 h1 h2
  | int => exact pe_callTy hr (ok.gL hg) (blt_of ok (by decide)) (by decide +kernel) ha hn.2.2 hn.1 h1 h2
  | str => exact pe_callTy hr (ok.gL hg) (blt_of ok (by decide)) (by decide +kernel) ha hn.2.2 hn.1 h1 h2
  | tuple => exact pe_callTy hr (ok.gL hg) (blt_of ok (by decide)) (by decide +kernel) ha hn.2.2 hn.1 h1 h2
  | list => exact pe_callTy hr (ok.gL hg) (blt_of ok (by decide)) (by decide +kernel) ha hn.2.2 hn.1 h1 h2
  | range => exact pe_callTy hr (ok.gL hg) (blt_of ok (by decide)) (by decide +kernel) ha hn.2.2 hn.1 h1 h2
theorem all_bif {b : Bif} {a : E} (ha : All T N a) : All T N (.bif b a) := by
  refine .plain (fun {sc W X ex} ok h => ?_) (fun sc ex h => ?_) (fun _ _ => rfl) (fun _ _ => rfl) (fun _ _ => rfl)
  · cases ex <;> try (simp [matchE] at h; done)
    next fn es kw p =>
    cases fn <;> try (simp [matchE] at h; done)
    next x px =>
    cases kw <;> try (cases es <;> simp [matchE] at h; done)
    cases es <;> try (simp [matchE] at h; done)
    next e es =>
    simp only [matchE, Bool.and_eq_true, decide_eq_true_eq, Bool.not_eq_true'] at h
    obtain ⟨⟨⟨hh, hx⟩, hg⟩, h1⟩ := h
    have stars := matchA_star h1
    refine PE.imp (pe_bifE (bif_ok ok.K (ok.calm hh) b) ok hx hg (ha.pa ok h1) (star_cons (stars e List.mem_cons_self) _ _) (star_plain (fun e he => stars e (List.mem_cons_of_mem _ he)) _ _)) fun σ H Q hw => ?_
    obtain ⟨w, ls, rfl, g⟩ := hw
    simp only [evE] at g
    refine ⟨w, ls, rfl, g.bind.mono ?_⟩
    rintro vs H1 ⟨w1, ds, rfl, x1, r1, g1⟩
    obtain ⟨r, hr, f⟩ := g1.opt (o := bifV b (ds.map (deref w1.h))) (by unfold bifM; cases bifV b (ds.map (deref w1.h)) <;> rfl)
    exact ⟨w1, ds, r, rfl, g1.sim, r1, hr, f⟩
  · cases ex <;> first | rfl | (simp [matchE] at h; done)
end
end EV

/-! isinstance; append; new lists; targets; what is walked. -/
namespace EV
open PySem PySem.Spec PyProof.Rows L2
section
variable {T : Tx} {N : List Str} {sc : Scope} {W : Wl} {X : Cx} {ex : Expr}

/-! ### isinstance -/
theorem tyN_boot (t : Ty) : bootBuiltins (tyS t) = some (.type (tyN t)) := by cases t <;> decide +kernel
theorem tyS_blt (t : Ty) : tyS t ∈ bltN := by cases t <;> decide
theorem pa_tys (ok : Ok T N sc W X) : ∀ (ts : List Ty) (es : List Expr), matchTy sc ts es = true → PA X es (fun _ H Q => Q (ts.map fun t => V.ty (tyN t)) H) ∧ ∀ e ∈ es, noStar e = true
  | [], es, h => by
    cases es with
    | nil => exact ⟨PA.imp pa_nil fun _ _ _ q => q, fun e he => by cases he⟩
    | cons e r => simp [matchTy] at h
  | t :: ts, es, h => by
    cases es with
    | nil => simp [matchTy] at h
    | cons e r =>
      cases e <;> try (simp [matchTy] at h; done)
      next x p =>
      simp only [matchTy, Bool.and_eq_true, decide_eq_true_eq] at h
      obtain ⟨⟨rfl, hg⟩, h2⟩ := h
      obtain ⟨h3, h4⟩ := pa_tys ok ts r h2
      have hn := plainName_of (isGl_of hg).2
      refine ⟨PA.imp (pa_cons (pe_bltn (v := V.ty (tyN t)) (ok.gL hg) (ok.blt _ (tyS_blt t)) (tyN_boot t) rfl hn.2.2 hn.1) h3 rfl) fun σ H Q q => q, fun e he => ?_⟩
      rcases List.mem_cons.mp he with rfl | he
      · rfl
      · exact h4 e he
theorem cls_tys : ∀ ts : List Ty, Paired ClsV (ts.map fun t => V.ty (tyN t)) (ts.map fun t => Value.type (tyN t))
  | [] => .nil
  | t :: ts => .cons (.ty _) (cls_tys ts)
/-- isinstance of a value at hand -/
theorem isi_any {w : Wd} {v : V} {d r : D} {ts : List Ty} {K : PySem.W.Frag} {h' : Hh} (hK : K = T.S.K) (sim : Sim T.S w) (rv : RepW T.S w v d) (h : isiM d ts w.h = .ok r h') : ∃ t b, TyX K w.H v (.type t) ∧ PySem.W.kitAny K (.type t) (ts.map fun t => .type (tyN t)) = some b ∧ r = .bl b ∧ h' = w.h := by
  subst hK
  have gen : ∀ d, (∀ h, isiM d ts h = (match tyOf h d with | some t => Res.ok (.bl (ts.any (isTy t))) h | none => Res.stk)) → RepW T.S w v d → isiM d ts w.h = .ok r h' → ∃ t b, TyX T.S.K w.H v (.type t) ∧ PySem.W.kitAny T.S.K (.type t) (ts.map fun t => .type (tyN t)) = some b ∧ r = .bl b ∧ h' = w.h := by
    intro d e rv h
    rw [e] at h
    cases ht : tyOf w.h d with
    | none => rw [ht] at h; cases h
    | some t =>
      rw [ht] at h
      cases h
      exact ⟨tyN t, _, ty_of sim rv ht, isiAny_ok (isTy t) (kit_tys t) ts, rfl, rfl⟩
  cases d with
  | non =>
    cases h
    cases rep_non rv
    exact ⟨"NoneType", _, .base .non, isiAny_ok (fun _ => false) kit_non ts, by simp, rfl⟩
  | bl b => exact gen _ (fun h => by unfold isiM; simp only; try (cases tyOf h (.bl b) <;> rfl)) rv h
  | int b => exact gen _ (fun h => by unfold isiM; simp only; try (cases tyOf h (.int b) <;> rfl)) rv h
  | str b => exact gen _ (fun h => by unfold isiM; simp only; try (cases tyOf h (.str b) <;> rfl)) rv h
  | tup b => exact gen _ (fun h => by unfold isiM; simp only; try (cases tyOf h (.tup b) <;> rfl)) rv h
  | lst b => exact gen _ (fun h => by unfold isiM; simp only; try (cases tyOf h (.lst b) <;> rfl)) rv h
  | ref b => exact gen _ (fun h => by unfold isiM; simp only; try (cases tyOf h (.ref b) <;> rfl)) rv h
  | fn b => exact gen _ (fun h => by unfold isiM; simp only; try (cases tyOf h (.fn b) <;> rfl)) rv h
  | exc c b => exact gen _ (fun h => by unfold isiM; simp only; try (cases tyOf h (.exc c b) <;> rfl)) rv h
theorem Go.isi {Q : VK} {σ : L2.St} {ls : Ls} {w : Wd} {d : D} {v : V} {ts : List Ty} {K : PySem.W.Frag} (hK : K = T.S.K) (g : Go T.S W σ (RepW T.S) Q ls w (isiM d ts)) (r : RepW T.S w v d) :
    ∃ t b, TyX K w.H v (.type t) ∧ PySem.W.kitAny K (.type t) (ts.map fun t => .type (tyN t)) = some b ∧ ∀ w', w'.h = w.h → Ext w w' → Sim T.S w' → Q (.bl b) w'.H := by
  have g' := g.2.2
  cases e : isiM d ts w.h with
  | stk => rw [e] at g'; exact g'.elim
  | err c x h' => exact absurd e (by
      cases d <;> (unfold isiM; simp only; first | (intro z; cases z; done) | (split <;> (intro z; cases z))))
  | ok x h' =>
    obtain ⟨t, b, h1, h2, rfl, rfl⟩ := isi_any hK g.sim r e
    rw [e] at g'
    exact ⟨t, b, h1, h2, fun w' e' x' s' => g' w' e' x' s' _ (.bl b)⟩
theorem tyx_ext {w w' : Wd} {K : PySem.W.Frag} {v : V} {t : String} {p : Addr} {u : HO} (hp : w.H p = none) (h : TyX K w.H v (.type t)) : TyX K (upd w.H p u) v (.type t) := by
  have keep : ∀ b o, w.H b = some o → upd w.H p u b = some o := fun b o e => (upd_ne (ne_of_none e hp)).trans e
  cases h with
  | base h =>
    cases h with
    | non => exact .base .non
    | bl x => exact .base (.bl x)
    | int x => exact .base (.int x)
    | str x => exact .base (.str x)
    | flt x => exact .base (.flt x)
    | lst e => exact .base (.lst (keep _ _ e))
    | frz e => exact .base (.frz (keep _ _ e))
    | tup e => exact .base (.tup (keep _ _ e))
    | dK e => exact .base (.dK (keep _ _ e))
    | dT e => exact .base (.dT (keep _ _ e))
  | byt b => exact .byt b
  | set e => exact .set (keep _ _ e)
  | kList e c => exact .kList e c
  | kTuple e c => exact .kTuple e c
  | kDict e c => exact .kDict e c
  | fTuple e => exact .fTuple (keep _ _ e)
  | fDict e => exact .fDict (keep _ _ e)
theorem all_isi {a : E} {ts : List Ty} (ha : All T N a) : All T N (.isi a ts) := by
  refine .plain (fun {sc W X ex} ok h => ?_) (fun sc ex h => ?_) (fun _ _ => rfl) (fun _ _ => rfl) (fun _ _ => rfl)
  · cases ex <;> try (simp [matchE] at h; done)
    next fn es kw p =>
    cases fn <;> try (simp [matchE] at h; done)
    next f px =>
    cases es with
    | nil => simp [matchE] at h
    | cons x es =>
    cases es with
    | nil => simp [matchE] at h
    | cons c es =>
    cases es with
    | cons _ _ => simp [matchE] at h
    | nil =>
    cases kw with
    | cons _ _ => simp [matchE] at h
    | nil =>
    simp only [matchE, Bool.and_eq_true, decide_eq_true_eq] at h
    obtain ⟨⟨⟨rfl, hg⟩, h1⟩, h2⟩ := h
    have hn := plainName_of (isGl_of hg).2
    cases c <;> try (simp [matchTy1] at h2; done)
    · next cx cp =>
      simp only [matchTy1, Bool.and_eq_true, decide_eq_true_eq] at h2
      obtain ⟨h2, h3⟩ := h2
      cases ts with
      | nil => cases h3
      | cons t0 ts =>
        cases ts with
        | cons _ _ => simp at h3
        | nil =>
          obtain ⟨h4, _⟩ := pa_tys ok [t0] [_] h2
          refine PE.imp (pe_callB call_isi (ok.gL hg) (ok.blt _ (by decide)) (by decide +kernel) (pa_cons (ha.pe ok h1) h4 (star_cons (match_noStar h1) _ _)) hn.2.2 hn.1 (star_cons (match_noStar h1) _ _) rfl) fun σ H Q hw => ?_
          obtain ⟨w, ls, rfl, g⟩ := hw
          simp only [evE] at g
          refine ⟨w, ls, rfl, g.bind.mono ?_⟩
          rintro v H1 ⟨w1, d, rfl, x1, r1, g1⟩
          obtain ⟨t, b, q1, q2, q3⟩ := g1.isi ok.K r1
          refine ⟨v, _, _, _, b, rfl, .ty _, q1, ?_, q3 w1 rfl (Ext.refl _) g1.sim⟩
          have q2 : PySem.W.kitAny X.K (.type t) [.type (tyN t0)] = some b := q2
          unfold PySem.W.kitAny at q2
          cases hk : PySem.W.kitOne X.K (.type t) (.type (tyN t0)) with
          | none => rw [hk] at q2; cases q2
          | some b' =>
            rw [hk] at q2
            cases b' with
            | true => exact q2
            | false => exact q2
    · next cs k cp =>
      simp only [matchTy1, Bool.and_eq_true, decide_eq_true_eq] at h2
      obtain ⟨h2, hlen⟩ := h2
      obtain ⟨h3, h4⟩ := pa_tys ok ts cs h2
      refine PE.imp (pe_callB call_isiT (ok.gL hg) (ok.blt _ (by decide)) (by decide +kernel) (pa_cons (ha.pe ok h1) (pa_cons (pe_tup h3) pa_nil rfl) (star_cons (match_noStar h1) _ _)) hn.2.2 hn.1 (star_cons (match_noStar h1) _ _) rfl) fun σ H Q hw => ?_
      obtain ⟨w, ls, rfl, g⟩ := hw
      simp only [evE] at g
      refine ⟨w, ls, rfl, g.bind.mono ?_⟩
      rintro v H1 ⟨w1, d, rfl, x1, r1, g1⟩
      obtain ⟨t, b, q1, q2, q3⟩ := g1.isi ok.K r1
      show _ ≤ sizeLine ∧ _
      refine ⟨?_, fun q hq => ?_⟩
      · rw [List.length_map, sizeLine_eq]
        omega
      · exact ⟨v, q, _, _, _, b, rfl, upd_same, cls_tys ts, tyx_ext (w' := w1) hq q1, q2, q3 ⟨w1.φ, w1.h, upd w1.H q (.tup _), w1.no⟩ rfl (Ext.new g1.sim hq) (g1.sim.new hq)⟩
  · cases ex <;> first | rfl | (simp [matchE] at h; done)
end
end EV

/-! append; new lists; targets; what is walked; comprehensions. -/
namespace EV
open PySem PySem.Spec PyProof.Rows L2
section
variable {T : Tx} {N : List Str} {sc : Scope} {W : Wl} {X : Cx} {ex : Expr}

/-! ### append -/
theorem All.none {e : E} (h1 : ∀ sc ex, matchE T.toNm N e sc ex = false) (ha : ∀ sc es, matchA T.toNm N e sc es = false) (ho : ∀ sc es, matchP T.toNm N e sc es = false) (hc : ∀ sc es, matchC T.toNm N e sc es = false) : All T N e where
  pe := fun _ h => by rw [h1] at h; cases h
  pt := fun _ h => by rw [h1] at h; cases h
  pw := fun _ h => by rw [h1] at h; cases h
  pa := fun _ h => by rw [ha] at h; cases h
  po := fun _ h => by rw [ho] at h; cases h
  pc := fun _ h => by rw [hc] at h; cases h
theorem chk_app {d : D} {h h' : Hh} {u : Unit} (e : chkM .append d h = .ok u h') : ∃ n l, d = .ref n ∧ h.objs[n]? = some (.lst l) ∧ h' = h := by
  cases d with
  | ref n =>
    cases q : h.objs[n]? with
    | none => simp [chkM, q] at e
    | some o =>
      cases o with
      | lst l =>
        simp only [chkM, q] at e
        cases e
        exact ⟨n, l, rfl, q, rfl⟩
      | _ => simp [chkM, q] at e
  | _ => simp [chkM] at e
theorem chk_noerr {d x : D} {c : Nat} {h h' : Hh} (e : chkM .append d h = .err c x h') : False := by
  cases d with
  | ref n =>
    cases q : h.objs[n]? with
    | none => simp [chkM, q] at e
    | some o => cases o <;> simp [chkM, q] at e
  | _ => simp [chkM] at e
theorem met_app {n : Nat} {ds : List D} {h : Hh} : metM .append (.ref n) ds h = (match ds with
    | [y] => (match h.objs[n]? with
      | some (.lst l) => if decide (l.length < sizeL) then (if okW h.los n (.lst (l ++ [y])) = true then Res.ok D.non ⟨h.objs.set n (.lst (l ++ [y])), h.los⟩ else Res.stk) else Res.stk
      | _ => Res.stk)
    | _ => Res.stk) := by
  cases ds with
  | nil => rfl
  | cons y r =>
    cases r with
    | cons _ _ => rfl
    | nil =>
      cases q : h.objs[n]? with
      | none => simp only [metM, q]
      | some o =>
        cases o with
        | lst l =>
          simp only [metM, q]
          split
          · by_cases c : okW h.los n (.lst (l ++ [y])) = true
            · rw [if_pos c, bind_ok (a := ()) (by unfold setO; rw [if_pos c])]
              rfl
            · rw [if_neg c, bind_stk (by unfold setO; rw [if_neg c])]
          · rfl
        | _ => simp only [metM, q]
theorem all_met {m : Met} {o a : E} (hO : All T N o) (hA : All T N a) : All T N (.met m o a) := by
  refine .plain (fun {sc W X ex} ok h => ?_) (fun sc ex h => ?_) (fun _ _ => rfl) (fun _ _ => rfl) (fun _ _ => rfl)
  · cases ex <;> try (simp [matchE] at h; done)
    next fn es kw p =>
    cases fn <;> try (simp [matchE] at h; done)
    next ob name ap =>
    cases es with
    | nil => simp [matchE] at h
    | cons e es =>
    cases kw with
    | cons _ _ => simp [matchE] at h
    | nil =>
    simp only [matchE, Bool.and_eq_true, decide_eq_true_eq] at h
    obtain ⟨⟨⟨⟨⟨⟨rfl, rfl⟩, hob⟩, hl⟩, h1⟩, hes⟩, h2⟩ := h
    cases ob <;> try (simp at hob; done)
    next ox op =>
    cases es with
    | cons _ _ => simp at hes
    | nil =>
    have stars := matchA_star h2
    have s1 := star_cons (stars e List.mem_cons_self) [] X.env
    refine PE.imp (pe_bm PySem.F.plainAttrs_list PySem.F.slot_list_append PySem.F.type_list_append (r := rAppend) mt_append (hO.pe ok h1) (hA.pa ok h2) rfl (by rw [s1]; rfl) hl s1 rfl) fun σ H Q hw => ?_
    obtain ⟨w, ls, rfl, g⟩ := hw
    simp only [evE] at g
    refine ⟨w, ls, rfl, g.bind.mono ?_⟩
    rintro v H1 ⟨w1, d, rfl, x1, r1, g1⟩
    have g2 := g1.2.2
    cases hc : chkM .append d w1.h with
    | stk => rw [bind_stk hc] at g2; exact g2.elim
    | err c x h' => exact (chk_noerr hc).elim
    | ok q h' =>
      rw [bind_ok hc] at g2
      obtain ⟨n, l0, rfl, hl0, rfl⟩ := chk_app hc
      cases r1 with
      | ref _ hn =>
      obtain ⟨vs0, q1, q2⟩ := g1.sim.obj n _ hl0
      have g3 : Go T.S W σ (RepW T.S) Q ls w1 (evA T.C T.gl a ls >>= fun l => metM .append (.ref n) l) := ⟨g1.1, g1.2.1, g2⟩
      refine ⟨.inl ⟨rfl, vs0, .inl (.inl q1)⟩, w1, ls, rfl, g3.bind.mono ?_⟩
      rintro vs H2 ⟨w2, ds, rfl, x2, r2, g4⟩
      have a4 := g4.2.2
      rw [met_app] at a4
      split at a4
      · next y =>
        obtain ⟨yv, rfl, ry⟩ := r2.one
        split at a4
        · next l hl =>
          split at a4
          · next hz =>
            have hz := of_decide_eq_true hz
            rw [sizeL_eq] at hz
            have hn2 : n < w2.k := Nat.lt_of_lt_of_le hn x2.len
            obtain ⟨vs1, q3, q4⟩ := g4.sim.obj n _ hl
            split at a4
            · next c =>
              have hφ := x2.phi n hn
              refine ⟨w2.φ n, vs1, yv, by rw [hφ], rfl, q3, by rw [q4.length]; exact hz, ?_⟩
              have X := Ext.put (o := .lst (l ++ [y])) (u := .lst (vs1 ++ [yv])) g4.sim hn2
              refine a4 (w2.put n (.lst (l ++ [y])) (.lst (vs1 ++ [yv]))) rfl X (g4.sim.put hn2 c ⟨vs1 ++ [yv], upd_same, ?_⟩) _ .non
              have := Reps.ext X.toExt0 (q4.append (.cons ry .nil))
              rw [RepsW, Wd.put_k] at this
              exact this
            · exact a4.elim
          · exact a4.elim
        · exact a4.elim
      · exact a4.elim
  · cases ex <;> first | rfl | (simp [matchE] at h; done)
/-! ### remove -/
theorem intsL_eq : ∀ {l : List D} {ns : List Int}, intsL l = some ns → l = ns.map D.int
  | [], ns, h => by
    cases h
    rfl
  | .int i :: r, ns, h => by
    have h : (intsL r).map (fun l => i :: l) = some ns := h
    cases e : intsL r with
    | none => rw [e] at h; cases h
    | some m =>
      rw [e] at h
      cases h
      rw [intsL_eq e]
      rfl
  | .non :: r, ns, h => by cases h
  | .bl _ :: r, ns, h => by cases h
  | .str _ :: r, ns, h => by cases h
  | .tup _ :: r, ns, h => by cases h
  | .lst _ :: r, ns, h => by cases h
  | .ref _ :: r, ns, h => by cases h
  | .fn _ :: r, ns, h => by cases h
  | .exc _ _ :: r, ns, h => by cases h
theorem reps_int {S : St0} {w : Wd} : ∀ {ns : List Int} {vs : List V}, RepsW S w vs (ns.map D.int) → vs = ns.map V.int
  | [], _, .nil => rfl
  | i :: r, _, .cons h t => by
    cases rep_int h
    rw [reps_int t]
    rfl
theorem int_reps {S : St0} {w : Wd} : ∀ ns : List Int, RepsW S w (ns.map V.int) (ns.map D.int)
  | [] => .nil
  | i :: r => .cons (.int i) (int_reps r)
theorem remM_red {n : Nat} {ds : List D} {h : Hh} : remM (.ref n) ds h = (match ds with
    | [.int k] => (match h.objs[n]? with
      | some (.lst m) => (match intsL m with
        | some ns => if decide (k ∈ ns) = true then (if okW h.los n (.lst ((ns.erase k).map D.int)) = true then Res.ok D.non ⟨h.objs.set n (.lst ((ns.erase k).map D.int)), h.los⟩ else Res.stk) else Res.stk
        | none => Res.stk)
      | _ => Res.stk)
    | _ => Res.stk) := by
  rcases ds with _ | ⟨y, _ | ⟨z, r⟩⟩
  · rfl
  · cases y <;> try rfl
    next k =>
    cases q : h.objs[n]? with
    | none => simp only [remM, q]
    | some o =>
      cases o with
      | lst m =>
        cases qi : intsL m with
        | none => simp only [remM, q, qi]
        | some ns =>
          simp only [remM, q, qi]
          split
          · by_cases c : okW h.los n (.lst ((ns.erase k).map D.int)) = true
            · rw [if_pos c, bind_ok (a := ()) (by unfold setO; rw [if_pos c])]
              rfl
            · rw [if_neg c, bind_stk (by unfold setO; rw [if_neg c])]
          · rfl
      | _ => simp only [remM, q]
  · cases y <;> rfl
theorem all_rem {o a : E} (hO : All T N o) (hA : All T N a) : All T N (.rem o a) := by
  refine .plain (fun {sc W X ex} ok h => ?_) (fun sc ex h => ?_) (fun _ _ => rfl) (fun _ _ => rfl) (fun _ _ => rfl)
  · cases ex <;> try (simp [matchE] at h; done)
    next fn es kw p =>
    cases fn <;> try (simp [matchE] at h; done)
    next ob name ap =>
    cases es with
    | nil => simp [matchE] at h
    | cons e es =>
    cases kw with
    | cons _ _ => simp [matchE] at h
    | nil =>
    simp only [matchE, Bool.and_eq_true, decide_eq_true_eq] at h
    obtain ⟨⟨⟨⟨⟨rfl, hob⟩, hl⟩, h1⟩, hes⟩, h2⟩ := h
    cases ob <;> try (simp at hob; done)
    next ox op =>
    cases es with
    | cons _ _ => simp at hes
    | nil =>
    have stars := matchA_star h2
    have s1 := star_cons (stars e List.mem_cons_self) [] X.env
    refine PE.imp (pe_bm PySem.F.plainAttrs_list PySem.F.slot_list_remove PySem.F.type_list_remove (r := rRemI) mt_remove (hO.pe ok h1) (hA.pa ok h2) rfl (by rw [s1]; rfl) hl s1 rfl) fun σ H Q hw => ?_
    obtain ⟨w, ls, rfl, g⟩ := hw
    simp only [evE] at g
    refine ⟨w, ls, rfl, g.bind.mono ?_⟩
    rintro v H1 ⟨w1, d, rfl, x1, r1, g1⟩
    have g2 := g1.2.2
    cases hc : chkM .append d w1.h with
    | stk => rw [bind_stk hc] at g2; exact g2.elim
    | err c x h' => exact (chk_noerr hc).elim
    | ok q h' =>
      rw [bind_ok hc] at g2
      obtain ⟨n, l0, rfl, hl0, rfl⟩ := chk_app hc
      cases r1 with
      | ref _ hn =>
      obtain ⟨vs0, q1, q2⟩ := g1.sim.obj n _ hl0
      have g3 : Go T.S W σ (RepW T.S) Q ls w1 (evA T.C T.gl a ls >>= fun l => remM (.ref n) l) := ⟨g1.1, g1.2.1, g2⟩
      refine ⟨.inl ⟨rfl, vs0, .inl (.inl q1)⟩, w1, ls, rfl, g3.bind.mono ?_⟩
      rintro vs H2 ⟨w2, ds, rfl, x2, r2, g4⟩
      have a4 := g4.2.2
      rw [remM_red] at a4
      split at a4
      · next k =>
        obtain ⟨yv, rfl, ry⟩ := r2.one
        cases rep_int ry
        split at a4
        · next m hm =>
          split at a4
          · next ns hi =>
            split at a4
            · next hk =>
              have hk := of_decide_eq_true hk
              have hn2 : n < w2.k := Nat.lt_of_lt_of_le hn x2.len
              obtain ⟨vs1, q3, q4⟩ := g4.sim.obj n _ hm
              rw [intsL_eq hi] at q4
              have ev := reps_int q4
              subst ev
              split at a4
              · next c =>
                have hφ := x2.phi n hn
                obtain ⟨j, j1, j2, j3, j4⟩ := L2.first_at hk
                refine ⟨w2.φ n, ns, k, j, by rw [hφ], rfl, q3, j2, j3, ?_⟩
                rw [j4]
                exact a4 (w2.put n (.lst ((ns.erase k).map D.int)) (.lst ((ns.erase k).map V.int))) rfl (Ext.put g4.sim hn2) (g4.sim.put hn2 c ⟨(ns.erase k).map V.int, upd_same, by
                  have := int_reps (S := T.S) (w := w2.put n (.lst ((ns.erase k).map D.int)) (.lst ((ns.erase k).map V.int))) (ns.erase k)
                  rw [RepsW, Wd.put_k] at this
                  exact this⟩) _ .non
              · exact a4.elim
            · exact a4.elim
          · exact a4.elim
        · exact a4.elim
      · exact a4.elim
  · cases ex <;> first | rfl | (simp [matchE] at h; done)
/-! ### index, join, a def by its name, a call of a local name -/
theorem recv_base {ob : Expr} {name : Str} {env : Env} (h : recvO ob = true) : attributeBase ob name env (eval ob env) = eval ob env := by
  cases ob <;> try (simp [recvO] at h; done)
  case Name => rfl
  case Constant => rfl
  case Call f es kw p =>
    cases f <;> try (simp [recvO] at h; done)
    case Name x px =>
      cases es <;> try (simp [recvO] at h; done)
      cases kw <;> try (simp [recvO] at h; done)
      exact abase_call (by simpa [recvO] using h)
theorem Go.chk {α β : Type} {R : Wd → β → α → Prop} {Q : β → Hp → Prop} {σ : L2.St} {ls : Ls} {w : Wd} {d : D} {v : V} {S : St0} {f : Unit → M α} (g : Go S W σ R Q ls w (strM d >>= f)) (r : RepW S w v d) : ∃ z, d = .str z ∧ v = .str (mkS z) ∧ PyData.strOk (mkS z) = true ∧ Go S W σ R Q ls w (f ()) := by
  cases d with
  | str z =>
    obtain ⟨rfl, o⟩ := rep_str r
    exact ⟨z, rfl, rfl, o, g.1, g.2.1, g.2.2⟩
  | _ => exact (g.not fun _ => rfl).elim
theorem index_occ {z : List Nat} {c k : Nat} (h : indexS c z = some k) : ∃ rest, Builtin.Str.occurrences (mkS z) (mkS [c]) 0 (mkS z).length 1 = k :: rest := by
  have at_ : ∀ {z : List Nat} {k : Nat}, indexS c z = some k → z[k]? = some c ∧ ∀ j, j < k → z[j]? ≠ some c := by
    intro z
    induction z with
    | nil => intro k h; cases h
    | cons d r ih =>
      intro k h
      unfold indexS at h
      split at h
      · next e =>
        cases h
        exact ⟨by rw [e]; rfl, fun j hj => absurd hj (by omega)⟩
      · next e =>
        rw [Option.map_eq_some_iff] at h
        obtain ⟨m, hm, rfl⟩ := h
        obtain ⟨h1, h2⟩ := ih hm
        refine ⟨h1, fun j hj => ?_⟩
        cases j with
        | zero =>
          intro y
          exact e (Option.some.inj y)
        | succ j => exact h2 j (by omega)
  obtain ⟨h1, h2⟩ := at_ h
  rcases StrLaws.occ_head (mkS z) (mkS [c]) 1 (Nat.le_refl 1) with ⟨_, no⟩ | ⟨i, rest, e, hi, no⟩
  · exact absurd ((StrLaws.subAt_one (mkS z) c k).mpr (by rw [mkS_list]; exact h1)) (no k)
  · have hi' := (StrLaws.subAt_one (mkS z) c i).mp hi
    rw [mkS_list] at hi'
    have a1 : ¬ i < k := fun lt => h2 i lt hi'
    have a2 : ¬ k < i := fun lt => no k lt ((StrLaws.subAt_one (mkS z) c k).mpr (by rw [mkS_list]; exact h1))
    have : i = k := by omega
    subst this
    exact ⟨rest, e⟩
theorem all_six {o a : E} (hO : All T N o) (hA : All T N a) : All T N (.six o a) := by
  refine .plain (fun {sc W X ex} ok h => ?_) (fun sc ex h => ?_) (fun _ _ => rfl) (fun _ _ => rfl) (fun _ _ => rfl)
  · cases ex <;> try (simp [matchE] at h; done)
    next fn es kw p =>
    cases fn <;> try (simp [matchE] at h; done)
    next ob name ap =>
    cases es with
    | nil => simp [matchE] at h
    | cons e es =>
    cases kw with
    | cons _ _ => simp [matchE] at h
    | nil =>
    simp only [matchE, Bool.and_eq_true, decide_eq_true_eq] at h
    obtain ⟨⟨⟨⟨⟨rfl, hob⟩, hl⟩, h1⟩, hes⟩, h2⟩ := h
    cases es with
    | cons _ _ => simp at hes
    | nil =>
    have stars := matchA_star h2
    have s1 := star_cons (stars e List.mem_cons_self) [] X.env
    refine PE.imp (pe_bm PySem.F.plainAttrs_str PySem.F.slot_str_index PySem.F.type_str_index mt_sindex (hO.pe ok h1) (hA.pa ok h2) (recv_base hob) (by rw [s1]; rfl) hl s1 rfl) fun σ H Q hw => ?_
    obtain ⟨w, ls, rfl, g⟩ := hw
    simp only [evE] at g
    refine ⟨w, ls, rfl, g.bind.mono ?_⟩
    rintro v H1 ⟨w1, d, rfl, x1, r1, g1⟩
    obtain ⟨z, rfl, rfl, oz, g2⟩ := g1.chk r1
    refine ⟨rfl, w1, ls, rfl, g2.bind.mono ?_⟩
    rintro vs H2 ⟨w2, ds, rfl, x2, r2, g3⟩
    obtain ⟨r, hr, f⟩ := g3.opt (o := indexV z ds) (by unfold sixM; rfl)
    unfold indexV at hr
    split at hr
    · next c =>
      rw [Option.map_eq_some_iff] at hr
      obtain ⟨k, hk, rfl⟩ := hr
      obtain ⟨yv, rfl, ry⟩ := r2.one
      obtain ⟨rfl, _⟩ := rep_str ry
      obtain ⟨rest, occ⟩ := index_occ hk
      exact ⟨_, _, k, rest, rfl, rfl, occ, f.here g3.sim (.int _)⟩
    · cases hr
  · cases ex <;> first | rfl | (simp [matchE] at h; done)
theorem joinS_ok {s : List Nat} : ∀ {ds : List D} {y : List Nat} {vs : List V} {w : Wd} {S : St0}, joinS s ds = some y → PyData.strOk (mkS s) = true → RepsW S w vs ds →
    ∃ ys : List Str, vs = ys.map V.str ∧ Txt.join (mkS s) ys = mkS y ∧ (ys.map (·.length)).sum ≤ y.length ∧ ys.length = ds.length ∧ PyData.strOk (mkS y) = true
  | [], y, vs, w, S, h, _, r => by
    cases h
    cases r
    exact ⟨[], rfl, rfl, Nat.le_refl _, rfl, strOk_iff.mpr fun c hc => nomatch hc⟩
  | [d], y, vs, w, S, h, _, r => by
    obtain ⟨v, rfl, r1⟩ := r.one
    cases d with
    | str x =>
      have ey : x = y := Option.some.inj h
      subst ey
      obtain ⟨rfl, o⟩ := rep_str r1
      refine ⟨[mkS x], rfl, ?_, ?_, rfl, o⟩
      · rw [TL.join_eq]
        rfl
      · rw [List.map_cons, List.map_nil, List.sum_cons, List.sum_nil, mkS_len]
        exact Nat.le_refl _
    | _ => cases h
  | d :: d2 :: r, y, vs, w, S, h, hs, rr => by
    cases rr with
    | cons r1 r2 =>
    cases d with
    | str x =>
      have h' : ((joinS s (d2 :: r)).map fun y => x ++ s ++ y) = some y := h
      rw [Option.map_eq_some_iff] at h'
      obtain ⟨y2, h2, rfl⟩ := h'
      obtain ⟨ys, rfl, e1, e2, e3, e4⟩ := joinS_ok h2 hs r2
      obtain ⟨rfl, o⟩ := rep_str r1
      refine ⟨mkS x :: ys, rfl, ?_, ?_, by rw [List.length_cons, e3]; rfl, ?_⟩
      · cases ys with
        | nil => cases e3
        | cons z zs =>
          rw [TL.join_eq] at e1 ⊢
          show mkS x ++ mkS s ++ Str.join (mkS s) (z :: zs) = _
          rw [e1, mkS_append, mkS_append]
      · rw [List.map_cons, List.sum_cons, mkS_len, List.length_append, List.length_append]
        omega
      · rw [strOk_iff] at o hs e4 ⊢
        intro c hc
        rcases List.mem_append.mp hc with hc | hc
        · rcases List.mem_append.mp hc with hc | hc
          · exact o c hc
          · exact hs c hc
        · exact e4 c hc
    | _ => cases h
theorem joinC_ok {s y : List Nat} {ds : List D} {vs : List V} {w : Wd} {S : St0} (h : joinC s ds = some y) (hs : PyData.strOk (mkS s) = true) (r : RepsW S w vs ds) :
    ∃ ys : List Str, vs = ys.map V.str ∧ Txt.join (mkS s) ys = mkS y ∧ (ys.map (·.length)).sum + ys.length * (mkS s).length ≤ 16777216 ∧ PyData.strOk (mkS y) = true := by
  unfold joinC at h
  split at h
  · next y' e =>
    split at h
    · next c =>
      cases h
      obtain ⟨ys, e1, e2, e3, e4, e5⟩ := joinS_ok e hs r
      have c := of_decide_eq_true c
      refine ⟨ys, e1, e2, ?_, e5⟩
      rw [e4, mkS_len]
      unfold sizeL at c
      omega
    · cases h
  · cases h
def joinA (z : List Nat) (h : Hh) : List D → Option D
  | [x] => joinV z (deref h x)
  | _ => none
theorem joinM_A {z : List Nat} {ds : List D} {h : Hh} : joinM (.str z) ds h = (match joinA z h ds with | some d => Res.ok d h | none => Res.stk) := by
  cases ds with
  | nil => rfl
  | cons x r =>
    cases r with
    | cons _ _ => rfl
    | nil => rfl
theorem all_joi {o a : E} (hO : All T N o) (hA : All T N a) : All T N (.joi o a) := by
  refine .plain (fun {sc W X ex} ok h => ?_) (fun sc ex h => ?_) (fun _ _ => rfl) (fun _ _ => rfl) (fun _ _ => rfl)
  · cases ex <;> try (simp [matchE] at h; done)
    next fn es kw p =>
    cases fn <;> try (simp [matchE] at h; done)
    next ob name ap =>
    cases es with
    | nil => simp [matchE] at h
    | cons e es =>
    cases kw with
    | cons _ _ => simp [matchE] at h
    | nil =>
    simp only [matchE, Bool.and_eq_true, decide_eq_true_eq] at h
    obtain ⟨⟨⟨⟨⟨rfl, hob⟩, hl⟩, h1⟩, hes⟩, h2⟩ := h
    cases es with
    | cons _ _ => simp at hes
    | nil =>
    have stars := matchA_star h2
    have s1 := star_cons (stars e List.mem_cons_self) [] X.env
    refine PE.imp (pe_bm PySem.F.plainAttrs_str PySem.F.slot_str_join PySem.F.type_str_join mt_join (hO.pe ok h1) (hA.pa ok h2) (recv_base hob) (by rw [s1]; rfl) hl s1 rfl) fun σ H Q hw => ?_
    obtain ⟨w, ls, rfl, g⟩ := hw
    simp only [evE] at g
    refine ⟨w, ls, rfl, g.bind.mono ?_⟩
    rintro v H1 ⟨w1, d, rfl, x1, r1, g1⟩
    obtain ⟨z, rfl, rfl, oz, g2⟩ := g1.chk r1
    refine ⟨rfl, w1, ls, rfl, g2.bind.mono ?_⟩
    rintro vs H2 ⟨w2, ds, rfl, x2, r2, g3⟩
    obtain ⟨r, hr, f⟩ := g3.opt (o := joinA z w2.h ds) joinM_A
    cases ds with
    | nil => cases hr
    | cons x rest =>
    cases rest with
    | cons _ _ => cases hr
    | nil =>
      obtain ⟨yv, rfl, ry⟩ := r2.one
      have hr : joinV z (deref w2.h x) = some r := hr
      generalize qx : deref w2.h x = dx at hr
      unfold joinV at hr
      split at hr
      · next l =>
        rw [Option.map_eq_some_iff] at hr
        obtain ⟨y, hy, rfl⟩ := hr
        obtain ⟨p, us, rfl, q1, t1⟩ := deref_lst g3.sim ry qx
        obtain ⟨ys, rfl, e2, e3, e4⟩ := joinC_ok hy oz t1
        refine ⟨_, p, ys, rfl, rfl, .inl (.inl q1), e3, ?_⟩
        rw [e2]
        exact f.here g3.sim (.str _ e4)
      · next l =>
        cases deref_nl qx fun l => nofun
        have hr : (joinC z l).map D.str = some r := hr
        rw [Option.map_eq_some_iff] at hr
        obtain ⟨y, hy, rfl⟩ := hr
        obtain ⟨p, us, rfl, q1, t1⟩ := rep_tup ry
        obtain ⟨ys, rfl, e2, e3, e4⟩ := joinC_ok hy oz t1
        refine ⟨_, p, ys, rfl, rfl, .inr (by rw [ok.K]; exact q1), e3, ?_⟩
        rw [e2]
        exact f.here g3.sim (.str _ e4)
      · cases hr
  · cases ex <;> first | rfl | (simp [matchE] at h; done)
theorem all_fnv (f : Nat) : All T N (.fnv f) := by
  refine .plain (fun {sc W X ex} ok h => ?_) (fun sc ex h => ?_) (fun _ _ => rfl) (fun _ _ => rfl) (fun _ _ => rfl)
  · cases ex <;> try (simp [matchE] at h; done)
    next x p =>
    simp only [matchE, Bool.and_eq_true, decide_eq_true_eq, Bool.not_eq_true'] at h
    obtain ⟨⟨⟨hh, rfl⟩, hf⟩, h2⟩ := h
    obtain ⟨h4, h5, _⟩ := plainName_of (isGl_of h2).2
    refine PE.imp (pe_glob (v := .ref (T.S.fa f)) (pos := p) (ok.gL h2) (ok.fns f hf).1 rfl h4) fun σ H Q hw => ?_
    obtain ⟨w, ls, rfl, g⟩ := hw
    simp only [evE] at g
    exact g.ret (.fn f)
  · cases ex <;> first | rfl | (simp [matchE] at h; done)
theorem all_clv {i n : Nat} {a : E} (hA : All T N a) : All T N (.clv i n a) := by
  refine .plain (fun {sc W X ex} ok h => ?_) (fun sc ex h => ?_) (fun _ _ => rfl) (fun _ _ => rfl) (fun _ _ => rfl)
  · cases ex <;> try (simp [matchE] at h; done)
    next fn es kw p =>
    cases fn <;> try (simp [matchE] at h; done)
    next x px =>
    cases es with
    | nil => cases kw <;> simp [matchE] at h
    | cons e es =>
    cases kw with
    | cons _ _ => simp [matchE] at h
    | nil =>
    simp only [matchE, Bool.and_eq_true, decide_eq_true_eq, Bool.not_eq_true'] at h
    obtain ⟨⟨⟨hh, rfl⟩, hl⟩, h1⟩ := h
    obtain ⟨l1, l2, l3⟩ := isLoc_of hl
    obtain ⟨h4, h5, _⟩ := plainName_of l3
    have stars := matchA_star h1
    refine ⟨fun pins s σ H Q I hw => ?_⟩
    obtain ⟨w, ls, rfl, g⟩ := hw
    simp only [evE] at g
    have hsl : ∃ f, ls[i]? = some (some (.fn f)) ∧ f < T.nf := by
      have g2 := g.2.2
      cases e1 : fnM T.nf ls[i]? w.h with
      | stk => rw [bind_stk e1] at g2; exact g2.elim
      | err c d h' =>
        unfold fnM at e1
        split at e1
        · split at e1 <;> cases e1
        · cases e1
      | ok f h' =>
        unfold fnM at e1
        split at e1
        · next f2 e2 =>
          split at e1
          · next c =>
            cases e1
            exact ⟨f, e2, of_decide_eq_true c⟩
          · cases e1
        · cases e1
    obtain ⟨f, hf, hlt⟩ := hsl
    have g : Go T.S W σ (RepW T.S) Q ls w (evA T.C T.gl a ls >>= fun l => T.C f l) := by
      refine ⟨g.1, g.2.1, ?_⟩
      have g2 := g.2.2
      rw [hf] at g2
      have e1 : fnM T.nf (some (some (.fn f))) w.h = .ok f w.h := by
        show (if decide (f < T.nf) then _ else _) = _
        rw [if_pos (decide_eq_true hlt)]
      rw [bind_ok e1] at g2
      exact g2
    obtain ⟨v, hv, rv⟩ := g.2.1.at_ i _ hf
    obtain ⟨hm, hk, _⟩ := ok.fns f hlt
    have ev : v = .ref (T.S.fa f) := by cases rv; rfl
    subst ev
    refine wpAny_Call_Name_kw (thn ((pe_var (i := i) (pos := px) (by rw [ok.hN]; exact l1) (by rw [ok.sc]; exact l2) h4 h5).run pins s σ w.H (fun v H1 => v = .ref (T.S.fa f) ∧ H1 = w.H) I ⟨_, hv, rfl, rfl⟩) fun u s1 hq => ?_)
    obtain ⟨v1, H1, I1, r1, rfl, rfl⟩ := hq
    cases r1
    refine PySem.W.callWith_K (h₀ := X.base) I.ok.mod.kin hk (thn ((hA.pa ok h1).run p pins s1 σ _ _ I1 ⟨w, ls, rfl, g.bind⟩) fun us s2 hq => ?_) (star_cons (stars e List.mem_cons_self) _ _) (star_plain (fun e he => stars e (List.mem_cons_of_mem _ he)) _ _)
    obtain ⟨vs, H2, I2, r, w2, ds, rfl, x2, r2, g2⟩ := hq
    exact ⟨I2.kIn, call_run ok hh hlt I2 r ⟨w2, ds, ls, rfl, r2, g2⟩⟩
  · cases ex <;> first | rfl | (simp [matchE] at h; done)
/-! ### list(range(n)) -/
theorem reps_rg {S : St0} {w : Wd} {i : Int} : RepsW S w (rgV 0 i) (rangeL 0 i.toNat) := by
  unfold rgV rangeL
  rw [Int.sub_zero]
  generalize List.range i.toNat = l
  induction l with
  | nil => exact .nil
  | cons a r ih => exact .cons (.int _) ih
theorem all_lrn {a : E} (hA : All T N a) : All T N (.lrn a) := by
  refine .plain (fun {sc W X ex} ok h => ?_) (fun sc ex h => ?_) (fun _ _ => rfl) (fun _ _ => rfl) (fun _ _ => rfl)
  · have h0 := h
    simp only [matchE] at h
    split at h
    · next f pf g pg y pi po =>
      simp only [Bool.and_eq_true, decide_eq_true_eq, Bool.not_eq_true'] at h
      obtain ⟨⟨⟨⟨⟨hh, rfl⟩, rfl⟩, hf⟩, hg⟩, h1⟩ := h
      have st := star_cons (match_noStar h1) [] X.env
      have inner : PRg X (.Call (.Name "range" pg) [y] [] pi) (tRg1 (RE T.S W (evE T.C T.gl a))) := prg_1 (ok.gL hg) (ok.blt _ (by decide)) (hA.pe ok h1) st
      refine PE.imp (pe_listRg (ok.calm hh) (ok.gL hf) (ok.blt _ (by decide)) inner rfl) fun σ H Q hw => ?_
      obtain ⟨w, ls, rfl, g⟩ := hw
      simp only [evE] at g
      refine ⟨w, ls, rfl, g.bind.mono ?_⟩
      rintro v H1 ⟨w1, d, rfl, x1, r1, g1⟩
      cases d with
      | int i =>
        cases rep_int r1
        have g1 : Go T.S W σ (RepW T.S) Q ls w1 (if (small62 i && decide (i.toNat ≤ sizeL)) = true then (pure (.lst (rangeL 0 i.toNat)) : M D) else stuck) := g1
        split at g1
        · next c =>
          obtain ⟨c1, c2⟩ := Bool.and_eq_true_iff.mp c
          obtain ⟨b1, b2⟩ := Bool.and_eq_true_iff.mp (show (decide (-(2 ^ 62) ≤ i) && decide (i < 2 ^ 62)) = true from c1)
          have b1 := of_decide_eq_true b1
          have b2 := of_decide_eq_true b2
          have c2 := of_decide_eq_true c2
          obtain ⟨r, e, f⟩ := g1.opt (o := some (.lst (rangeL 0 i.toNat))) rfl
          cases e
          refine ⟨i, rfl, ⟨by decide, by decide, b1, b2, ?_⟩, fun q hq => f.lst g1.sim reps_rg hq⟩
          rw [Int.sub_zero]
          unfold sizeL at c2
          omega
        · exact (g1.not fun _ => rfl).elim
      | _ => exact (g1.not fun _ => rfl).elim
    · cases h
  · simp only [matchE] at h
    split at h
    · rfl
    · cases h
end
end EV

/-! Targets; what is walked; comprehensions; new lists. -/
namespace EV
open PySem PySem.Spec PyProof.Rows L2
section
variable {T : Tx} {N : List Str} {sc : Scope} {W : Wl} {X : Cx} {ex : Expr} {S : St0}

/-! ### targets -/
def RG (W : Wl) (S : St0) (tg : E) : TG := fun v σ H Q => ∃ w ls d ls', w.H = H ∧ (∀ i v, W.slot = some (i, v) → i ∉ slotsT tg) ∧ Sim S w ∧ Locs W S w σ ls ∧ RepW S w v d ∧ bindT tg d ls = some ls' ∧
  ∀ σ', σ'.length = σ.length → (∀ i, i ∉ slotsT tg → σ'[i]? = σ[i]?) → Locs W S w σ' ls' → Q σ' H
def RGs (W : Wl) (S : St0) (tg : E) : TGs := fun vs σ H Q => ∃ w ls ds ls', w.H = H ∧ (∀ i v, W.slot = some (i, v) → i ∉ slotsT tg) ∧ Sim S w ∧ Locs W S w σ ls ∧ RepsW S w vs ds ∧ bindT.bindTs tg ds ls = some ls' ∧
  ∀ σ', σ'.length = σ.length → (∀ i, i ∉ slotsT tg → σ'[i]? = σ[i]?) → Locs W S w σ' ls' → Q σ' H
theorem Locs.set {w : Wd} {σ : L2.St} {ls : Ls} {v : V} {d : D} (l : Locs W S w σ ls) (r : RepW S w v d) (i : Nat) (hs : ∀ j v, W.slot = some (j, v) → j ≠ i) : Locs W S w (σ.set i (some v)) (ls.set i (some d)) where
  sl := fun j u e => by rw [List.getElem?_set_ne (Ne.symm (hs j u e))]; exact l.sl j u e
  inv := l.inv
  len := by rw [List.length_set, List.length_set]; exact l.len
  at_ := fun j e h => by
    by_cases hj : i = j
    · subst hj
      by_cases hi : i < ls.length
      · rw [List.getElem?_set_self hi] at h
        cases h
        exact ⟨v, List.getElem?_set_self (by rw [l.len]; exact hi), r⟩
      · rw [List.getElem?_eq_none (by rw [List.length_set]; omega)] at h
        cases h
    · rw [List.getElem?_set_ne hj] at h
      obtain ⟨v', h1, h2⟩ := l.at_ j e h
      exact ⟨v', by rw [List.getElem?_set_ne hj]; exact h1, h2⟩
theorem Locs.clear {w : Wd} {σ : L2.St} {ls : Ls} (l : Locs W S w σ ls) (i : Nat) : Locs noW S w (σ.set i none) (ls.set i none) where
  sl := fun _ _ e => nomatch e
  inv := trivial
  len := by rw [List.length_set, List.length_set]; exact l.len
  at_ := fun j e h => by
    by_cases hj : i = j
    · subst hj
      by_cases hi : i < ls.length
      · rw [List.getElem?_set_self hi] at h
        cases h
      · rw [List.getElem?_eq_none (by rw [List.length_set]; omega)] at h
        cases h
    · rw [List.getElem?_set_ne hj] at h
      obtain ⟨v', h1, h2⟩ := l.at_ j e h
      exact ⟨v', by rw [List.getElem?_set_ne hj]; exact h1, h2⟩
theorem Locs.wipe {w : Wd} {σ : L2.St} {ls : Ls} (l : Locs W S w σ ls) : ∀ vs : List Nat, Locs noW S w (L2.wipe σ vs) (wipeL ls vs)
  | [] => l.no
  | v :: vs => by
    show Locs noW S w ((L2.wipe σ vs).set v none) ((wipeL ls vs).set v none)
    exact (l.wipe vs).clear v
theorem isOwn_of {i : Nat} {x : Str} (h : isOwn N sc i x = true) : N[i]? = some x ∧ (sc.names.lookup x = some .local ∨ sc.names.lookup x = some .cell) := by
  unfold isOwn at h
  simp only [Bool.and_eq_true, decide_eq_true_eq] at h
  obtain ⟨⟨h1, h2⟩, _⟩ := h
  refine ⟨h1, ?_⟩
  split at h2 <;> first | exact .inl (by assumption) | exact .inr (by assumption) | cases h2
/-- the scope that a target's names are looked up by -/
structure TgOk (N : List Str) (sc : Scope) (X : Cx) : Prop where
  hN : X.N = N
  nd : N.Nodup
  keep : ∀ (x : Str) (k : NameKind), k ≠ .free → sc.names.lookup x = some k → X.env.scope.names.lookup x = some k
  cell : ∀ x : Str, sc.names.lookup x = some .cell → X.fn x = true
theorem pg_nameE (ok : TgOk N sc X) {i : Nat} {x : Str} {p : Pos} (h : isOwn N sc i x = true) : PG X (.Name x p) (RG W S (.loc i)) := by
  obtain ⟨h1, h2⟩ := isOwn_of h
  have hl : Loc X.env.scope x := by
    rcases h2 with h2 | h2
    · exact .inl (ok.keep x _ (by decide) h2)
    · exact .inr (ok.keep x _ (by decide) h2)
  have hf : X.fn x = true ∨ X.env.scope.names.lookup x = some .local := by
    rcases h2 with h2 | h2
    · exact .inr (ok.keep x _ (by decide) h2)
    · exact .inl (ok.cell x h2)
  refine ⟨fun pins s σ H v u Q I r hw => ?_⟩
  refine (pg_name (i := i) (x := x) (pos := p) (by rw [ok.hN]; exact ok.nd) (by rw [ok.hN]; exact h1) hl hf).run pins s σ H v u Q I r ?_
  obtain ⟨w, ls, d, ls', rfl, hsl, sim, loc, rv, hb, q⟩ := hw
  have hb : (if i < ls.length then some (ls.set i (some d)) else none) = some ls' := hb
  split at hb
  · cases hb
    refine q _ (List.length_set ..) (fun j hj => List.getElem?_set_ne ?_) (loc.set rv i fun j u e z => hsl j u e (by simp [slotsT, z]))
    intro e
    exact hj (by simp [slotsT, e])
  · cases hb
theorem pgs_E (ok : TgOk N sc X) : ∀ (t : E) (es : List Expr), matchTs N sc t es = true → PGs X es (RGs W S t) ∧ (assignEach es X.env).findIdx? (·.1) = none ∧ (assignEach es X.env).length = es.length ∧ ∀ ds ls ls', bindT.bindTs t ds ls = some ls' → ds.length = es.length
  | .nil, es, h => by
    cases es with
    | cons e r => simp [matchTs] at h
    | nil =>
      refine ⟨⟨fun pins s σ H vs us Q I r hw => ?_⟩, rfl, rfl, fun ds ls ls' hb => ?_⟩
      · obtain ⟨w, ls, ds, ls', rfl, hsl, sim, loc, rv, hb, q⟩ := hw
        cases rv with
        | nil =>
          have hb : some ls = some ls' := hb
          cases hb
          exact pgs_nil.run pins s σ w.H [] us Q I r ⟨rfl, q σ rfl (fun _ _ => rfl) loc⟩
        | cons a b => cases hb
      · cases ds with
        | nil => rfl
        | cons a b => cases hb
  | .cons a r, es, h => by
    cases a <;> try (cases es <;> simp [matchTs] at h; done)
    next i =>
    cases es with
    | nil => simp [matchTs] at h
    | cons e es =>
    cases e <;> try (simp [matchTs] at h; done)
    next x p =>
    simp only [matchTs, Bool.and_eq_true] at h
    obtain ⟨h1, h2, h3, h4⟩ := pgs_E ok r es h.2
    have hs : (assignEach (.Name x p :: es) X.env).map (·.2) = assign (.Name x p) X.env :: (assignEach es X.env).map (·.2) := rfl
    refine ⟨⟨fun pins s σ H vs us Q I rr hw => ?_⟩, ?_, ?_, fun ds ls ls' hb => ?_⟩
    · refine (pgs_cons (pg_nameE (W := W) (S := S) ok h.1) h1 hs).run pins s σ H vs us Q I rr ?_
      obtain ⟨w, ls, ds, ls', rfl, hsl, sim, loc, rv, hb, q⟩ := hw
      cases rv with
      | nil => cases hb
      | @cons v d vs ds rv rvs =>
        have hb : (if i < ls.length then bindT.bindTs r ds (ls.set i (some d)) else none) = some ls' := hb
        split at hb
        · next c =>
          refine ⟨v, vs, rfl, w, ls, d, ls.set i (some d), rfl, (fun j u e z => hsl j u e (by simp only [slotsT] at z ⊢; exact List.mem_append_left _ z)), sim, loc, rv, (if_pos c), fun σ' z1 k1 loc' => ?_⟩
          refine ⟨w, _, ds, ls', rfl, (fun j u e z => hsl j u e (by simp only [slotsT]; exact List.mem_append_right _ z)), sim, loc', rvs, hb, fun σ2 z2 k2 loc2 => q σ2 (z2.trans z1) (fun j hj => ?_) loc2⟩
          have hj1 : j ∉ slotsT (.loc i) := fun z => hj (by simp only [slotsT] at z ⊢; exact List.mem_append_left _ z)
          have hj2 : j ∉ slotsT r := fun z => hj (by simp only [slotsT]; exact List.mem_append_right _ z)
          rw [k2 j hj2, k1 j hj1]
        · cases hb
    · show List.findIdx? (·.1) ((false, assign (.Name x p) X.env) :: assignEach es X.env) = none
      rw [List.findIdx?_cons, h2]
      rfl
    · show (assignEach es X.env).length + 1 = _
      rw [h3]
      rfl
    · cases ds with
      | nil => cases hb
      | cons d ds =>
        have hb : (if i < ls.length then bindT.bindTs r ds (ls.set i (some d)) else none) = some ls' := hb
        split at hb
        · rw [List.length_cons, h4 _ _ _ hb]; rfl
        · cases hb
  | .loc _, es, h => by simp [matchTs] at h
  | .con _, es, h => by simp [matchTs] at h
  | .glo _, es, h => by simp [matchTs] at h
  | .fnv _, es, h => by simp [matchTs] at h
  | .tup _, es, h => by simp [matchTs] at h
  | .lst _, es, h => by simp [matchTs] at h
  | .mk _, es, h => by simp [matchTs] at h
  | .bin _ _ _, es, h => by simp [matchTs] at h
  | .cmp _ _ _, es, h => by simp [matchTs] at h
  | .chn _ _ _ _ _, es, h => by simp [matchTs] at h
  | .neg _, es, h => by simp [matchTs] at h
  | .not _, es, h => by simp [matchTs] at h
  | .and _ _, es, h => by simp [matchTs] at h
  | .or _ _, es, h => by simp [matchTs] at h
  | .ite _ _ _, es, h => by simp [matchTs] at h
  | .idx _ _, es, h => by simp [matchTs] at h
  | .slc _ _ _, es, h => by simp [matchTs] at h
  | .call _ _, es, h => by simp [matchTs] at h
  | .bif _ _, es, h => by simp [matchTs] at h
  | .met _ _ _, es, h => by simp [matchTs] at h
  | .six _ _, es, h => by simp [matchTs] at h
  | .joi _ _, es, h => by simp [matchTs] at h
  | .clv _ _ _, es, h => by simp [matchTs] at h
  | .lrn _, es, h => by simp [matchTs] at h
  | .rem _ _, es, h => by simp [matchTs] at h
  | .rng3 _ _ _, es, h => by simp [matchTs] at h
  | .isi _ _, es, h => by simp [matchTs] at h
  | .sq _, es, h => by simp [matchTs] at h
  | .rng1 _, es, h => by simp [matchTs] at h
  | .rng2 _ _, es, h => by simp [matchTs] at h
  | .enm _, es, h => by simp [matchTs] at h
  | .zip _ _, es, h => by simp [matchTs] at h
  | .rev _, es, h => by simp [matchTs] at h
  | .comp _ _ _ _ _, es, h => by simp [matchTs] at h
theorem pg_E (ok : TgOk N sc X) (hK : X.K = S.K) (hc : X.calm = true) {t : E} {tg : Expr} (h : matchT N sc t tg = true) : PG X tg (RG W S t) := by
  cases t <;> try (simp [matchT] at h; done)
  · next i =>
    cases tg <;> try (simp [matchT] at h; done)
    simp only [matchT] at h
    exact pg_nameE ok h
  · next t =>
    cases tg <;> try (simp [matchT] at h; done)
    next es k p =>
    simp only [matchT] at h
    obtain ⟨h1, h2, h3, h4⟩ := pgs_E (W := W) (S := S) ok t es h
    refine ⟨fun pins s σ H v u Q I r hw => ?_⟩
    refine (pg_tup (n := es.length) hc h1 h3 h2).run pins s σ H v u Q I r ?_
    obtain ⟨w, ls, d, ls', rfl, hsl, sim, loc, rv, hb, q⟩ := hw
    cases d <;> try (cases hb; done)
    next l =>
    obtain ⟨p, vs, rfl, s1, t1⟩ := rep_tup rv
    have hb : bindT.bindTs t l ls = some ls' := hb
    exact ⟨p, vs, rfl, by rw [hK]; exact s1, by rw [t1.length]; exact h4 _ _ _ hb, w, ls, l, ls', rfl, hsl, sim, loc, t1, hb, q⟩

/-! ### what is walked -/
/-- the walk yields the items of l, in every later world -/
def JOk (S : St0) (w0 : Wd) (l : List D) (J : L2.It) : Prop := ∀ w, Ext w0 w → Sim S w →
  (∀ (i : Nat) (d : D), l[i]? = some d → J.go i w.H ∧ ∀ x H', J.yld i w.H x H' → ∃ w', w'.H = H' ∧ w'.h = w.h ∧ Ext w w' ∧ Sim S w' ∧ RepW S w' x d) ∧ J.stop l.length w.H
def RI (S : St0) (W : Wl) (m : Ls → M (List D)) : TI := RM S W (fun w' (J : L2.It) l => JOk S w' l J) m
theorem jok_tup {w : Wd} {a : Addr} {vs : List V} {l : List D} {K : PySem.W.Frag} (hK : K = S.K) (q : SqT S.K w.H a vs) (r : RepsW S w vs l) : JOk S w l (Itt K a) := by
  subst hK
  intro w1 x s
  have q1 := SqT.ext x.toExt0 q
  have r1 := Reps.ext x.toExt0 r
  refine ⟨fun i d e => ?_, vs, q1, by rw [r.length]; exact Nat.le_refl _⟩
  obtain ⟨v, hv, rv⟩ := r1.get e
  refine ⟨⟨vs, v, q1, hv⟩, fun y H' hy => ?_⟩
  obtain ⟨rfl, hy⟩ := hy
  have := hy vs q1
  rw [hv] at this
  cases this
  exact ⟨w1, rfl, rfl, Ext.refl _, s, rv⟩
theorem jok_lst {w : Wd} {a : Addr} {v : V} {l : List D} {K : PySem.W.Frag} (q : RepW S w v (.lst l)) (hv : v = .ref a) : JOk S w l (Itl K a) := by
  subst hv
  intro w1 x s
  obtain ⟨a', vs, e, q1, r1⟩ := rep_lst (Rep.ext x.toExt0 q)
  cases e
  refine ⟨fun i d e => ?_, vs, .inl q1, by rw [r1.length]; exact Nat.le_refl _⟩
  obtain ⟨v, hv, rv⟩ := r1.get e
  refine ⟨⟨vs, v, .inl q1, hv⟩, fun y H' hy => ?_⟩
  obtain ⟨rfl, hy⟩ := hy
  have := hy vs (.inl q1)
  rw [hv] at this
  cases this
  exact ⟨w1, rfl, rfl, Ext.refl _, s, rv⟩
theorem rangeL_get {lo : Int} {n i : Nat} {d : D} (e : (rangeL lo n)[i]? = some d) : i < n ∧ d = .int (lo + i) := by
  unfold rangeL at e
  rw [List.getElem?_map] at e
  by_cases h : i < n
  · rw [List.getElem?_range h] at e
    exact ⟨h, (Option.some.inj e).symm⟩
  · rw [List.getElem?_eq_none (by rw [List.length_range]; omega)] at e
    cases e
theorem jok_rng {w : Wd} {lo : Int} {n : Nat} : JOk S w (rangeL lo n) (Itr lo n) := by
  intro w1 x s
  refine ⟨fun i d e => ?_, ?_⟩
  · obtain ⟨h1, rfl⟩ := rangeL_get e
    refine ⟨h1, fun y H' hy => ?_⟩
    obtain ⟨rfl, rfl⟩ := hy
    exact ⟨w1, rfl, rfl, Ext.refl _, s, .int _⟩
  · show n ≤ (rangeL lo n).length
    unfold rangeL
    rw [List.length_map, List.length_range]
    exact Nat.le_refl _
theorem jok_str {w : Wd} {x : List Nat} (o : PyData.strOk (mkS x) = true) : JOk S w (x.map fun c => .str [c]) (Its (mkS x)) := by
  intro w1 x1 s
  refine ⟨fun i d e => ?_, ?_⟩
  · rw [List.getElem?_map, Option.map_eq_some_iff] at e
    obtain ⟨c, hc, rfl⟩ := e
    have hi : i < x.length := (List.getElem?_eq_some_iff.mp hc).1
    refine ⟨by show i < _; simpa using hi, fun y H' hy => ?_⟩
    obtain ⟨rfl, c', hc', rfl⟩ := hy
    have : c' = c := by
      have hc' : (mkS x).cps[i]? = some c' := hc'
      rw [← Array.getElem?_toList, mkS_list, hc] at hc'
      exact (Option.some.inj hc').symm
    subst this
    refine ⟨w1, rfl, rfl, Ext.refl _, s, .str [c'] ?_⟩
    rw [strOk_iff] at o ⊢
    intro z hz
    cases List.mem_singleton.mp hz
    exact o _ (List.mem_of_getElem? hc)
  · show _ ≤ _
    rw [List.length_map]
    simp

theorem pie_list {pins : List (Addr × Obj)} {s : Shared} {σ : L2.St} {H : Hp} {R : L2.It → Hp → Prop} {tg : Expr} {a : Addr} {xs : List V} (I1 : Inv X pins σ H s) (hq : SqL X.K H a xs) (q : R (Itl X.K a) H) :
    wpAny (model X.prog X.w) X.A (pyIter (.ref a)) (PIE X pins σ tg R) X.xe s := by
  obtain ⟨its, rv, p, hz⟩ := I1.list hq
  refine wpAny_pyIter_list p.isList ?_
  refine ⟨s.heap.objs.size, [s.heap.objs.size], _, _, H, rfl, I1.kept (t' := s.toks) fun b o e => Heap.get?_push_of_some _ e, turn_list a _, ⟨_, Heap.get?_push_size _ rfl, rfl, rfl⟩, fun b hb => ?_, q⟩
  have e : b = s.heap.objs.size := by simpa using hb
  subst e
  exact I1.fpOk (Nat.le_refl _) (I1.hok.fresh (Nat.le_refl _))
theorem pie_tup {pins : List (Addr × Obj)} {s : Shared} {σ : L2.St} {H : Hp} {R : L2.It → Hp → Prop} {tg : Expr} {a : Addr} {xs : List V} (I1 : Inv X pins σ H s) (hq : SqT X.K H a xs) (q : R (Itt X.K a) H) :
    wpAny (model X.prog X.w) X.A (pyIter (.ref a)) (PIE X pins σ tg R) X.xe s := by
  obtain ⟨its, rv, p, hz⟩ := I1.tuple hq
  refine wpAny_pyIter_tuple (show s.heap.IsTuple a its.toArray from p) ?_
  refine ⟨s.heap.objs.size, [s.heap.objs.size], _, _, H, rfl, I1.kept (t' := s.toks) fun b o e => Heap.get?_push_of_some _ e, turn_tuple a _, ⟨_, Heap.get?_push_size _ rfl, rfl, rfl⟩, fun b hb => ?_, q⟩
  have e : b = s.heap.objs.size := by simpa using hb
  subst e
  exact I1.fpOk (Nat.le_refl _) (I1.hok.fresh (Nat.le_refl _))
theorem pie_str {pins : List (Addr × Obj)} {s : Shared} {σ : L2.St} {H : Hp} {R : L2.It → Hp → Prop} {tg : Expr} {x : Str} {t : Tok} (I1 : Inv X pins σ H s) (q : R (Its x) H) :
    wpAny (model X.prog X.w) X.A (pyIter (.str x t)) (PIE X pins σ tg R) X.xe s := by
  cases ha : x.cps.all (· < 128)
  · exact wpAny_pyIter_wide ha (pi_one (tk := s.toks) I1 _ (turn_str _ x t "str_iterator" (.inr rfl)) ⟨_, Heap.get?_push_size _ rfl, rfl, rfl⟩ q)
  · exact wpAny_pyIter_ascii ha (pi_one (tk := s.toks) I1 _ (turn_str _ x t "str_ascii_iterator" (.inl rfl)) ⟨_, Heap.get?_push_size _ rfl, rfl, rfl⟩ q)
theorem pi_sq {e : E} {tg : Expr} (ok : Ok T N sc W X) (he : PE X ex (RE T.S W (evE T.C T.gl e))) : PI X tg ex (RI T.S W (evI T.C T.gl (.sq e))) := by
  refine ⟨fun pins s σ H R I hw => ?_⟩
  obtain ⟨w, ls, rfl, g⟩ := hw
  simp only [evI] at g
  refine thn (he.run pins s σ w.H _ I ⟨w, ls, rfl, g.bind⟩) fun v s1 hq => ?_
  obtain ⟨x, H1, I1, rx, w1, d, rfl, x1, r1, g1⟩ := hq
  cases d with
  | lst l =>
    obtain ⟨a, vs, rfl, q1, t1⟩ := rep_lst r1
    cases rx
    exact pie_list I1 (.inl q1) (g1.ret (jok_lst r1 rfl))
  | tup l =>
    obtain ⟨a, vs, rfl, q1, t1⟩ := rep_tup r1
    cases rx
    exact pie_tup I1 (by rw [ok.K]; exact q1) (g1.ret (jok_tup ok.K q1 t1))
  | str z =>
    obtain ⟨rfl, o⟩ := rep_str r1
    obtain ⟨t, rfl⟩ := rx
    exact pie_str I1 (g1.ret (jok_str o))
  | _ => exact (g1.not fun _ => rfl).elim
theorem small62_of {i : Int} (h : small62 i = true) : -(2 ^ 62) ≤ i ∧ i < 2 ^ 62 := by
  obtain ⟨h1, h2⟩ := Bool.and_eq_true_iff.mp (show (decide (-(2 ^ 62) ≤ i) && decide (i < 2 ^ 62)) = true from h)
  exact ⟨of_decide_eq_true h1, of_decide_eq_true h2⟩
theorem pi_E {e : E} {tg : Expr} (h0 : ∀ a, e = .sq a → All T N a) (h1 : ∀ a, e = .rng1 a → All T N a) (h2 : ∀ a b, e = .rng2 a b → All T N a ∧ All T N b) (h3 : ∀ a, e ≠ .enm a) (h4 : ∀ a b, e ≠ .zip a b) (h5 : ∀ a, e ≠ .rev a) (h6 : ∀ a b c, e ≠ .rng3 a b c) (ok : Ok T N sc W X) (h : matchI T.toNm N e sc ex tg = true) : PI X tg ex (RI T.S W (evI T.C T.gl e)) := by
  cases e <;> try (first | exact absurd rfl (h3 _) | exact absurd rfl (h4 _ _) | exact absurd rfl (h5 _) | exact absurd rfl (h6 _ _ _) | (simp [matchI] at h; done))
  · next a =>
    have h' : matchE T.toNm N a sc ex = true := by
      cases ex <;> first | (simpa [matchI] using h) | (simp [matchI] at h)
    exact pi_sq ok ((h0 a rfl).pe ok h')
  · next a =>
    cases ex <;> try (simp [matchI] at h; done)
    next fn es kw p =>
    cases fn <;> try (simp [matchI] at h; done)
    next x px =>
    cases es with
    | nil => simp [matchI] at h
    | cons y es =>
    cases es with
    | cons _ _ => simp [matchI] at h
    | nil =>
    cases kw with
    | cons _ _ => simp [matchI] at h
    | nil =>
    simp only [matchI, Bool.and_eq_true, decide_eq_true_eq] at h
    obtain ⟨⟨rfl, hg⟩, h3⟩ := h
    have st := star_cons (match_noStar h3) [] X.env
    refine PI.imp (pi_range1 (ok.gL hg) (ok.blt _ (by decide)) (pa_cons ((h1 a rfl).pe ok h3) pa_nil st) st) fun σ H R hw => ?_
    obtain ⟨w, ls, rfl, g⟩ := hw
    simp only [evI] at g
    refine ⟨w, ls, rfl, g.bind.mono ?_⟩
    rintro v H1 ⟨w1, d, rfl, x1, r1, g1⟩
    cases d with
    | int i =>
      cases rep_int r1
      have g1 : Go T.S W σ _ _ ls w1 (if small62 i = true then (pure (rangeL 0 i.toNat) : M (List D)) else stuck) := g1
      split at g1
      · next c => exact ⟨i, rfl, (small62_of c).1, (small62_of c).2, g1.ret jok_rng⟩
      · exact (g1.not fun _ => rfl).elim
    | _ => exact (g1.not fun _ => rfl).elim
  · next a b =>
    cases ex <;> try (simp [matchI] at h; done)
    next fn es kw p =>
    cases fn <;> try (simp [matchI] at h; done)
    next x px =>
    cases es with
    | nil => simp [matchI] at h
    | cons y es =>
    cases es with
    | nil => simp [matchI] at h
    | cons z es =>
    cases es with
    | cons _ _ => simp [matchI] at h
    | nil =>
    cases kw with
    | cons _ _ => simp [matchI] at h
    | nil =>
    simp only [matchI, Bool.and_eq_true, decide_eq_true_eq] at h
    obtain ⟨⟨⟨rfl, hg⟩, h3⟩, h4⟩ := h
    have st := star_cons (match_noStar h4) [] X.env
    have st2 := star_cons (match_noStar h3) [z] X.env
    refine PI.imp (pi_range2 (ok.gL hg) (ok.blt _ (by decide)) (pa_cons ((h2 a b rfl).1.pe ok h3) (pa_cons ((h2 a b rfl).2.pe ok h4) pa_nil st) st2) (by rw [st2, st]; rfl) st) fun σ H R hw => ?_
    obtain ⟨w, ls, rfl, g⟩ := hw
    simp only [evI] at g
    refine ⟨w, ls, rfl, g.bind.mono ?_⟩
    rintro v H1 ⟨w1, d, rfl, x1, r1, g1⟩
    refine ⟨w1, ls, rfl, g1.bind.mono ?_⟩
    rintro u H2 ⟨w2, e, rfl, x2, r2, g2⟩
    have r1 := Rep.ext x2.toExt0 r1
    have key : (∃ i, d = .int i) ∧ ∃ j, e = .int j := by
      cases d with
      | int i =>
        cases e with
        | int j => exact ⟨⟨i, rfl⟩, j, rfl⟩
        | _ => exact (g2.not fun _ => rfl).elim
      | _ => exact (g2.not fun _ => rfl).elim
    obtain ⟨⟨i, rfl⟩, j, rfl⟩ := key
    cases rep_int r1
    cases rep_int r2
    have g2 : Go T.S W σ _ _ ls w2 (if (small62 i && small62 j) = true then (pure (rangeL i (j - i).toNat) : M (List D)) else stuck) := g2
    split at g2
    · next c =>
      obtain ⟨c1, c2⟩ := Bool.and_eq_true_iff.mp c
      exact ⟨i, j, rfl, ⟨(small62_of c1).1, (small62_of c1).2, (small62_of c2).1, (small62_of c2).2⟩, g2.ret jok_rng⟩
    · exact (g2.not fun _ => rfl).elim
end
end EV

/-! enumerate of a tuple; enumerate, zip as what is walked. -/
namespace EV
open PySem PySem.Spec PyProof.Rows L2
/-- enumerate(v), v told by how its iterator begins -/
theorem new_enum {v : Value} {o : Obj} {Hv : Heap → Prop} (B : Begins v o Hv) :
    Meets (Builtin.«enumerate.__new__» ⟨[.type "enumerate", v], []⟩) (fun _ R s => Hv s.heap ∧
      R (.ok (.ret (.ref (s.heap.push o).objs.size))) { s with heap := (s.heap.push o).push { cls := .type "enumerate", data := .fields #[.none, .bool false, .ref s.heap.objs.size, rawInt 0, .none, .none] } }) :=
  .of_wp fun pr wd A R s z => by
    obtain ⟨hp, ge, dr, tk, sy⟩ := s
    obtain ⟨z1, z2⟩ := z
    have own := sub_enumerate
    have start : ∀ {A' : Around} {E : Value → Shared → Prop} {Q : Value → Shared → Prop}, Q (.ref hp.objs.size) ⟨hp.push o, ge, dr, tk, sy⟩ → wpAny (model pr wd) A' (pyIter v) Q E ⟨hp, ge, dr, tk, sy⟩ := fun q => B.iter pr wd _ _ ⟨hp, ge, dr, tk, sy⟩ _ z1 q
    wp_walk
    refine wpAny_stack_any fun st => wpAny_pure ?_
    split
    · rename_i c _ _ _ _ _
      cases (c == Value.type "enumerate")
      · wp_walk using start
        exact ⟨_, rfl, z2⟩
      · wp_walk using start
        exact ⟨_, rfl, z2⟩
    · wp_walk using start
      exact ⟨_, rfl, z2⟩
theorem call_enumT {pr : Program} {wd : World} {A : Around} {E : Value → Shared → Prop} {s : Shared} {v : Value} {o : Obj} {Hv : Heap → Prop} {Q : Value → Shared → Prop} (B : Begins v o Hv) (z : Hv s.heap)
    (fin : ∀ h2, IsEnum h2 (s.heap.objs.size + 1) s.heap.objs.size 0 .none → h2.get? s.heap.objs.size = some o → (∀ b u, s.heap.get? b = some u → h2.get? b = some u) → Q (.ref (s.heap.objs.size + 1)) { s with heap := h2 }) :
    wpAny (model pr wd) A (call (.type "enumerate") [v]) Q E s := by
  refine callType_new F.called_enumerate (by decide) (F.typeCall_enumerate_1 _) (F.newCall_enumerate_1 _) (fun obj => F.args_object_init_2 obj _) F.entry_enumerate_new (new_enum B) ⟨z, ?_⟩
  have sz : (s.heap.push o).objs.size = s.heap.objs.size + 1 := Heap.size_push ..
  have en : IsEnum ((s.heap.push o).push { cls := .type "enumerate", data := .fields #[.none, .bool false, .ref s.heap.objs.size, rawInt 0, .none, .none] }) (s.heap.objs.size + 1) s.heap.objs.size 0 .none := by
    have g := Heap.get?_push_size (s.heap.push o) (o := { cls := .type "enumerate", data := .fields #[.none, .bool false, .ref s.heap.objs.size, rawInt 0, .none, .none] }) rfl
    rw [sz] at g
    exact g
  show _ ∧ _
  rw [sz]
  exact ⟨⟨_, en, rfl⟩, fin _ en (Heap.get?_push_of_some _ (Heap.get?_push_size _ B.free)) fun b u gb => Heap.get?_push_of_some _ (Heap.get?_push_of_some _ gb)⟩
/-- the tuple at a, each item in a new pair behind its place -/
def IteT (K : PySem.W.Frag) (a : Addr) : L2.It :=
  ⟨fun i H => ∃ (xs : List V) (x : V), SqT K H a xs ∧ xs[i]? = some x, fun i H v H' => ∃ T x, v = .ref T ∧ H T = none ∧ H' = upd H T (.tup [.int (i : Nat), x]) ∧ ∀ xs, SqT K H a xs → xs[i]? = some x, fun i H => ∃ xs : List V, SqT K H a xs ∧ xs.length ≤ i⟩
theorem turn_enumT {P : Program} {w : World} {K : PySem.W.Frag} {elts : List Expr} {kk : Nat} {tpos : Pos} (a e it : Addr) (his : a ≠ it) :
    Turn P w K (.Tuple elts kk tpos) (IteT K a) [e, it] e (fun i h => (∃ old, IsEnum h e it ((i : Nat) : Int) old) ∧ h.IsTupleIter it a i ∧ e ≠ it ∧ e ≠ a) where
  mem := by simp
  obj := fun i h st b hb => by
    obtain ⟨⟨old, he⟩, ⟨o, ho, hc, hd⟩, _⟩ := st
    rcases (show b = e ∨ b = it by simpa using hb) with z | z
    · subst z
      exact ⟨_, he, fun v q => nomatch q⟩
    · subst z
      exact ⟨o, ho, fun v q => by rw [hd] at q; cases q⟩
  keep := fun i h h' st k => by
    obtain ⟨⟨old, he⟩, hi, h1, h2⟩ := st
    exact ⟨⟨old, k e (by simp) _ he⟩, hi.at fun o q => k it (by simp) o q, h1, h2⟩
  item := fun X hP hw hK hc i pins s σ H E I hf st hg => by
    subst hP
    subst hw
    subst hK
    obtain ⟨⟨old, he⟩, hit, hne, hna⟩ := st
    obtain ⟨xs, x, hq, hx⟩ := hg
    obtain ⟨its, rv, p, hz⟩ := I.tuple hq
    obtain ⟨u, hu, ru⟩ := rv.get hx
    have pt : s.heap.IsTuple a its.toArray := p
    have lt : i < its.toArray.size := by
      rw [List.size_toArray]
      exact (List.getElem?_eq_some_iff.mp hu).1
    have el : e < s.heap.objs.size := Heap.lt_size he
    have il : it < s.heap.objs.size := by
      obtain ⟨_, q, _⟩ := hit
      exact Heap.lt_size q
    refine wpAny_pyNext_enum_itemD (Draws.tuple (A := X.A.in1) (I.ok.hd hc) it a his its.toArray) he ⟨hit, pt⟩ lt hne (by simp [hne, hna]) fun v h' tk hv ho st2 hT hsz hk => ?_
    have ev : v = u := by
      have h1 : its.toArray[i]? = some v := hv
      rw [show its.toArray[i]? = its[i]? by simp, hu] at h1
      exact (Option.some.inj h1).symm
    subst ev
    refine ⟨_, rfl, wpAny_letOwnedTupleGo_enum (s := { s with heap := h', toks := tk + 1 }) ho fun h2 he2 sb => ?_⟩
    have gT : h2.get? s.heap.objs.size = some { cls := .type "tuple", data := .seq #[.int i tk, v] } := (sb.2 _ (Nat.ne_of_gt el)).trans hT
    have ok : ObjOk X.prog X.w (upd H s.heap.objs.size (.tup [.int (i : Nat), x])) h2 s.heap.objs.size (.tup [.int (i : Nat), x]) :=
      ⟨by show 2 ≤ sizeLine; decide, [.int i tk, v], .cons ⟨_, rfl⟩ (.cons ru .nil), ⟨_, gT, rfl, _, rfl⟩⟩
    have I1 : Inv X pins σ (upd H s.heap.objs.size (.tup [.int (i : Nat), x])) { s with heap := h2, toks := tk + 1 } :=
      I.turnedNew (ch := [e, it]) (fun b ob nb gb => (sb.2 b fun z => nb (by simp [z])).trans (hk b ob (fun z => nb (by simp [z])) (fun z => nb (by simp [z])) gb)) hf (Nat.le_refl _) ok
    refine ⟨.ref s.heap.objs.size, _, I1, rfl, ⟨_, x, rfl, I.hok.fresh (Nat.le_refl _), rfl, fun ys hy => by rw [I.tuple_inj hy hq]; exact hx⟩, ⟨⟨v, ?_⟩, st2.1.at fun o q => (sb.2 it (Ne.symm hne)).trans q, hne, hna⟩, fun b hb => ?_⟩
    · rw [show ((i + 1 : Nat) : Int) = (i : Int) + 1 by omega]
      exact he2
    · have bl : b < s.heap.objs.size := by
        rcases (show b = e ∨ b = it by simpa using hb) with z | z
        · rw [z]
          exact el
        · rw [z]
          exact il
      rw [upd_ne (Nat.ne_of_lt bl)]
      exact (hf b hb).1
  done := fun X hP hw hK hc i pins s σ H E I hf st hg => by
    subst hP
    subst hw
    subst hK
    obtain ⟨⟨old, he⟩, hit, hne, hna⟩ := st
    obtain ⟨xs, hq, hx⟩ := hg
    obtain ⟨its, rv, p, hz⟩ := I.tuple hq
    obtain ⟨f0, f1, f2, f3, f4, f5⟩ := hf it (by simp)
    have pt : s.heap.IsTuple a its.toArray := p
    have ln := rv.length
    unfold pyNext
    have hT : s.TypeIs (.ref e) "enumerate" := ⟨_, he, rfl⟩
    refine wpAny_bind (wpAny_attempt (wpAny_callSpecial?_slot (name := Str.ofString "__next__") hT F.slot_enumerate_next (wpAny_call_entry F.slot_enumerate_next hT F.entry_enumerate_next ?_ (F.args_enumerate_next_1 _))))
    show wpAny _ _ (field (.ref e) 2 >>= _) _ _ _
    refine wpAny_bind (wpAny_field he rfl (x := .ref it) rfl (wpAny_bind (wpAny_nextOf_tuple_end (I.ok.hd hc) hit pt (by simp; omega) fun h2 x eb hx2 => ?_)))
    obtain ⟨o, ho, hcl⟩ := hx2
    exact wpAny_bind (wpAny_isInstance (T := "StopIteration") (b := true) ⟨o, ho, hcl⟩ isSubtype_stop (wpAny_pure ⟨rfl, I.turned (t' := s.toks) (fun b o hb q => eb b o hb q) f0 f1 f3 f4 f5⟩))
  self := fun A i s Q E st h => by
    obtain ⟨⟨_, he⟩, _⟩ := st
    exact wpAny_pyIter_enum he h
section
variable {X : Cx} {e : Expr} {ta : TA} {p pos tpos : Pos} {elts : List Expr} {kk : Nat}
/-- enumerate of a list, or of a tuple -/
def iEnumA (K : PySem.W.Frag) (ta : TA) : TI := fun σ H R => ta σ H fun vs H1 => ∃ a xs, vs = [.ref a] ∧ ((SqL K H1 a xs ∧ R (Ite K a) H1) ∨ (SqT K H1 a xs ∧ R (IteT K a) H1))
theorem pi_enumA (hg : Gl X "enumerate") (hm : X.mg "enumerate" = none) (ha : PA X [e] ta) (hs : starEach [e] X.env = (false, eval e X.env) :: starEach [] X.env) :
    PI X (.Tuple elts kk tpos) (.Call (.Name "enumerate" p) [e] [] pos) (iEnumA X.K ta) := by
  refine ⟨fun pins s σ H R I h => Call_ (ld_blt I hg hm boot_enumerate (PyProof.Rows.callWith_type1 (thn (ha.run pos pins s σ H _ I h) fun us s1 hq => ?_) hs rfl))⟩
  obtain ⟨vs, H1, I1, r1, a, xs, ex, q1⟩ := hq
  subst ex
  obtain ⟨u, rfl, ru⟩ := r1.one
  cases ru
  have young : ∀ b ∈ [s1.heap.objs.size + 1, s1.heap.objs.size], FpOk X pins H1 b := fun b hb => by
    have le : s1.heap.objs.size ≤ b := by
      rcases (show b = s1.heap.objs.size + 1 ∨ b = s1.heap.objs.size by simpa using hb) with z | z <;> omega
    exact I1.fpOk le (I1.hok.fresh le)
  rcases q1 with ⟨hq, q⟩ | ⟨hq, q⟩
  · obtain ⟨its, rv, p', hz⟩ := I1.list hq
    refine call_enumerate_list p'.isList fun h' he hit hsz hk => wpAny_pyIter_enum he ?_
    exact ⟨s1.heap.objs.size + 1, [s1.heap.objs.size + 1, s1.heap.objs.size], _, _, H1, rfl, I1.kept (t' := s1.toks) hk, turn_enum a (s1.heap.objs.size + 1) s1.heap.objs.size, ⟨⟨.none, he⟩, hit, Nat.succ_ne_self _⟩, young, q⟩
  · obtain ⟨its, rv, p', hz⟩ := I1.tuple hq
    have pt : s1.heap.IsTuple a its.toArray := p'
    have al : a < s1.heap.objs.size := by
      obtain ⟨o, go, _⟩ := id pt
      exact Heap.lt_size go
    refine call_enumT (begins_tuple a its.toArray) pt fun h' he hit hk => wpAny_pyIter_enum he ?_
    exact ⟨s1.heap.objs.size + 1, [s1.heap.objs.size + 1, s1.heap.objs.size], _, _, H1, rfl, I1.kept (t' := s1.toks) hk, turn_enumT a (s1.heap.objs.size + 1) s1.heap.objs.size (Nat.ne_of_lt al), ⟨⟨.none, he⟩, ⟨_, hit, rfl, rfl⟩, Nat.succ_ne_self _, Nat.ne_of_gt (Nat.lt_succ_of_lt al)⟩, young, q⟩
end
/-! ### as items -/
section
variable {S : St0} {w : Wd} {K : PySem.W.Frag}
theorem enumL_get : ∀ {l : List D} {k i : Nat} {d : D}, (enumL k l)[i]? = some d → ∃ z, l[i]? = some z ∧ d = .tup [.int ((k + i : Nat) : Int), z]
  | [], _, _, _, h => by cases h
  | z :: r, k, 0, d, h => by
    have : some (D.tup [.int (k : Nat), z]) = some d := h
    cases this
    exact ⟨z, rfl, rfl⟩
  | z :: r, k, i + 1, d, h => by
    have h' : (enumL (k + 1) r)[i]? = some d := h
    obtain ⟨y, hy, e⟩ := enumL_get h'
    exact ⟨y, hy, by rw [e, show k + 1 + i = k + (i + 1) by omega]⟩
theorem enumL_len : ∀ (l : List D) (k : Nat), (enumL k l).length = l.length
  | [], _ => rfl
  | _ :: r, k => by
    show (enumL (k + 1) r).length + 1 = r.length + 1
    rw [enumL_len r]
/-- a new pair in the world -/
theorem new_pair {T : Addr} {x y : V} {a b : D} (s : Sim S w) (hT : w.H T = none) (ra : RepW S w x a) (rb : RepW S w y b) :
    ∃ w', w'.H = upd w.H T (.tup [x, y]) ∧ w'.h = w.h ∧ Ext w w' ∧ Sim S w' ∧ RepW S w' (.ref T) (.tup [a, b]) := by
  have x0 := Ext.new (u := HO.tup [x, y]) s hT
  exact ⟨⟨w.φ, w.h, upd w.H T (.tup [x, y]), w.no⟩, rfl, rfl, x0, s.new hT, .tup (SqT.of upd_same) (.cons (Rep.ext x0.toExt0 ra) (.cons (Rep.ext x0.toExt0 rb) .nil))⟩
theorem jok_enmL {a : Addr} {v : V} {l : List D} (q : RepW S w v (.lst l)) (hv : v = .ref a) : JOk S w (enumL 0 l) (Ite K a) := by
  subst hv
  intro w1 x s
  obtain ⟨a', vs, e, q1, r1⟩ := rep_lst (Rep.ext x.toExt0 q)
  cases e
  refine ⟨fun i d e => ?_, vs, .inl q1, by rw [enumL_len, r1.length]; exact Nat.le_refl _⟩
  obtain ⟨z, hz, rfl⟩ := enumL_get e
  obtain ⟨u, hu, ru⟩ := r1.get hz
  refine ⟨⟨vs, u, .inl q1, hu⟩, fun y H' hy => ?_⟩
  obtain ⟨T, u', rfl, hT, rfl, k⟩ := hy
  have := k vs (.inl q1)
  rw [hu] at this
  cases this
  obtain ⟨w2, e1, e2, x2, s2, r2⟩ := new_pair s hT (.int ((i : Nat) : Int)) ru
  rw [Nat.zero_add]
  exact ⟨w2, e1, e2, x2, s2, r2⟩
theorem jok_enmT {a : Addr} {vs : List V} {l : List D} (hK : K = S.K) (q : SqT S.K w.H a vs) (r : RepsW S w vs l) : JOk S w (enumL 0 l) (IteT K a) := by
  subst hK
  intro w1 x s
  have q1 := SqT.ext x.toExt0 q
  have r1 := Reps.ext x.toExt0 r
  refine ⟨fun i d e => ?_, vs, q1, by rw [enumL_len, r1.length]; exact Nat.le_refl _⟩
  obtain ⟨z, hz, rfl⟩ := enumL_get e
  obtain ⟨u, hu, ru⟩ := r1.get hz
  refine ⟨⟨vs, u, q1, hu⟩, fun y H' hy => ?_⟩
  obtain ⟨T, u', rfl, hT, rfl, k⟩ := hy
  have := k vs q1
  rw [hu] at this
  cases this
  obtain ⟨w2, e1, e2, x2, s2, r2⟩ := new_pair s hT (.int ((i : Nat) : Int)) ru
  rw [Nat.zero_add]
  exact ⟨w2, e1, e2, x2, s2, r2⟩
theorem zip_get {l m : List D} {i : Nat} {d : D} (h : ((l.zip m).map fun p => D.tup [p.1, p.2])[i]? = some d) : ∃ a b, l[i]? = some a ∧ m[i]? = some b ∧ d = .tup [a, b] := by
  rw [List.getElem?_map, Option.map_eq_some_iff] at h
  obtain ⟨⟨a, b⟩, hp, rfl⟩ := h
  rw [List.getElem?_zip_eq_some] at hp
  exact ⟨a, b, hp.1, hp.2, rfl⟩
theorem zip_len {l m : List D} : ((l.zip m).map fun p => D.tup [p.1, p.2]).length = min l.length m.length := by
  rw [List.length_map, List.length_zip]
theorem jok_zipL {a b : Addr} {v u : V} {l m : List D} (q : RepW S w v (.lst l)) (q' : RepW S w u (.lst m)) (hv : v = .ref a) (hu : u = .ref b) : JOk S w ((l.zip m).map fun p => .tup [p.1, p.2]) (Itz K a b) := by
  subst hv
  subst hu
  intro w1 x s
  obtain ⟨_, vs, e, q1, r1⟩ := rep_lst (Rep.ext x.toExt0 q)
  cases e
  obtain ⟨_, us, e, q2, r2⟩ := rep_lst (Rep.ext x.toExt0 q')
  cases e
  refine ⟨fun i d e => ?_, vs, us, .inl q1, .inl q2, by rw [zip_len, r1.length, r2.length]; omega⟩
  obtain ⟨z1, z2, hz1, hz2, rfl⟩ := zip_get e
  obtain ⟨y1, hy1, ry1⟩ := r1.get hz1
  obtain ⟨y2, hy2, ry2⟩ := r2.get hz2
  refine ⟨⟨vs, us, y1, y2, .inl q1, .inl q2, hy1, hy2⟩, fun y H' hy => ?_⟩
  obtain ⟨T, u1, u2, rfl, hT, rfl, k1, k2⟩ := hy
  have e1 := k1 vs (.inl q1)
  rw [hy1] at e1
  cases e1
  have e2 := k2 us (.inl q2)
  rw [hy2] at e2
  cases e2
  exact new_pair s hT ry1 ry2
theorem jok_zipT {a b : Addr} {vs us : List V} {l m : List D} (hK : K = S.K) (q1 : SqT S.K w.H a vs) (q2 : SqT S.K w.H b us) (r1 : RepsW S w vs l) (r2 : RepsW S w us m) : JOk S w ((l.zip m).map fun p => .tup [p.1, p.2]) (RZ.ItzT K a b) := by
  subst hK
  intro w1 x s
  have q1 := SqT.ext x.toExt0 q1
  have q2 := SqT.ext x.toExt0 q2
  have r1 := Reps.ext x.toExt0 r1
  have r2 := Reps.ext x.toExt0 r2
  refine ⟨fun i d e => ?_, vs, us, q1, q2, by rw [zip_len, r1.length, r2.length]; omega⟩
  obtain ⟨z1, z2, hz1, hz2, rfl⟩ := zip_get e
  obtain ⟨y1, hy1, ry1⟩ := r1.get hz1
  obtain ⟨y2, hy2, ry2⟩ := r2.get hz2
  refine ⟨⟨vs, us, y1, y2, q1, q2, hy1, hy2⟩, fun y H' hy => ?_⟩
  obtain ⟨T, u1, u2, rfl, hT, rfl, k1, k2⟩ := hy
  have e1 := k1 vs q1
  rw [hy1] at e1
  cases e1
  have e2 := k2 us q2
  rw [hy2] at e2
  cases e2
  exact new_pair s hT ry1 ry2
end
section
variable {T : Tx} {N : List Str} {sc : Scope} {W : Wl} {X : Cx} {ex tg : Expr}
theorem pi_enmE {a : E} (hA : All T N a) (ok : Ok T N sc W X) (h : matchI T.toNm N (.enm a) sc ex tg = true) : PI X tg ex (RI T.S W (evI T.C T.gl (.enm a))) := by
  cases ex <;> try (simp [matchI] at h; done)
  next fn es kw p =>
  cases fn <;> try (simp [matchI] at h; done)
  next x px =>
  cases es with
  | nil => simp [matchI] at h
  | cons y es =>
  cases es with
  | cons _ _ => simp [matchI] at h
  | nil =>
  cases kw with
  | cons _ _ => simp [matchI] at h
  | nil =>
  simp only [matchI, Bool.and_eq_true, decide_eq_true_eq] at h
  obtain ⟨⟨⟨ht, rfl⟩, hg⟩, h3⟩ := h
  cases tg <;> try (simp [isTupT] at ht; done)
  next elts kk tpos =>
  have st := star_cons (match_noStar h3) [] X.env
  refine PI.imp (pi_enumA (ok.gL hg) (ok.blt _ (by decide)) (pa_cons (hA.pe ok h3) pa_nil st) st) fun σ H R hw => ?_
  obtain ⟨w, ls, rfl, g⟩ := hw
  simp only [evI] at g
  refine ⟨w, ls, rfl, g.bind.mono ?_⟩
  rintro v H1 ⟨w1, d, rfl, x1, r1, g1⟩
  cases d with
  | lst l =>
    obtain ⟨a, vs, rfl, q1, t1⟩ := rep_lst r1
    exact ⟨a, vs, rfl, .inl ⟨.inl q1, g1.ret (jok_enmL r1 rfl)⟩⟩
  | tup l =>
    obtain ⟨a, vs, rfl, q1, t1⟩ := rep_tup r1
    exact ⟨a, vs, rfl, .inr ⟨by rw [ok.K]; exact q1, g1.ret (jok_enmT ok.K q1 t1)⟩⟩
  | _ => exact (g1.not fun _ => rfl).elim
theorem pi_zipE {a b : E} (hA : All T N a) (hB : All T N b) (ok : Ok T N sc W X) (h : matchI T.toNm N (.zip a b) sc ex tg = true) : PI X tg ex (RI T.S W (evI T.C T.gl (.zip a b))) := by
  cases ex <;> try (simp [matchI] at h; done)
  next fn es kw p =>
  cases fn <;> try (simp [matchI] at h; done)
  next x px =>
  cases es with
  | nil => simp [matchI] at h
  | cons y es =>
  cases es with
  | nil => simp [matchI] at h
  | cons z es =>
  cases es with
  | cons _ _ => simp [matchI] at h
  | nil =>
  cases kw with
  | cons _ _ => simp [matchI] at h
  | nil =>
  simp only [matchI, Bool.and_eq_true, decide_eq_true_eq] at h
  obtain ⟨⟨⟨⟨ht, rfl⟩, hg⟩, h3⟩, h4⟩ := h
  cases tg <;> try (simp [isTupT] at ht; done)
  next elts kk tpos =>
  have st2 := star_cons (match_noStar h4) [] X.env
  have st := star_cons (match_noStar h3) [z] X.env
  have sp : (backTo p (starEach [z] X.env)).any (·.1) = false := by
    rw [st2]
    rfl
  refine PI.imp (RZ.pi_zipA (ok.gL hg) (ok.blt _ (by decide)) (pa_cons (hA.pe ok h3) (pa_cons (hB.pe ok h4) pa_nil st2) st) st sp) fun σ H R hw => ?_
  obtain ⟨w, ls, rfl, g⟩ := hw
  simp only [evI] at g
  refine ⟨w, ls, rfl, g.bind.mono ?_⟩
  rintro v H1 ⟨w1, d, rfl, x1, r1, g1⟩
  refine ⟨w1, ls, rfl, g1.bind.mono ?_⟩
  rintro u H2 ⟨w2, e, rfl, x2, r2, g2⟩
  have r1 := Rep.ext x2.toExt0 r1
  cases d with
  | lst l =>
    cases e with
    | lst m =>
      obtain ⟨a, vs, rfl, q1, t1⟩ := rep_lst r1
      obtain ⟨b, us, rfl, q2, t2⟩ := rep_lst r2
      exact ⟨a, b, vs, us, rfl, .inl ⟨.inl q1, .inl q2, g2.ret (jok_zipL r1 r2 rfl rfl)⟩⟩
    | _ => exact (g2.not fun _ => rfl).elim
  | tup l =>
    cases e with
    | tup m =>
      obtain ⟨a, vs, rfl, q1, t1⟩ := rep_tup r1
      obtain ⟨b, us, rfl, q2, t2⟩ := rep_tup r2
      exact ⟨a, b, vs, us, rfl, .inr ⟨by rw [ok.K]; exact q1, by rw [ok.K]; exact q2, g2.ret (jok_zipT ok.K q1 q2 t1 t2)⟩⟩
    | _ => exact (g2.not fun _ => rfl).elim
  | _ =>
    refine (g2.not fun _ => ?_).elim
    cases e <;> rfl
/-! ### reversed, range with a step -/
theorem get_rev {α : Type} {l : List α} {i : Nat} {d : α} (h : l.reverse[i]? = some d) : i < l.length ∧ l[l.length - 1 - i]? = some d := by
  have hi : i < l.length := by
    have := (List.getElem?_eq_some_iff.mp h).1
    rwa [List.length_reverse] at this
  rw [List.getElem?_reverse hi] at h
  exact ⟨hi, h⟩
theorem jok_revL {S : St0} {w : Wd} {K : PySem.W.Frag} {a : Addr} {v : V} {l : List D} {n : Nat} (q : RepW S w v (.lst l)) (hv : v = .ref a) (hn : n = l.length) : JOk S w l.reverse (Itv K a n) := by
  subst hv
  subst hn
  intro w1 x s
  obtain ⟨a', vs, e, q1, r1⟩ := rep_lst (Rep.ext x.toExt0 q)
  cases e
  refine ⟨fun i d e => ?_, by show l.length ≤ l.reverse.length; rw [List.length_reverse]; exact Nat.le_refl _⟩
  obtain ⟨hi, e⟩ := get_rev e
  obtain ⟨u, hu, ru⟩ := r1.get e
  refine ⟨⟨hi, vs, u, .inl q1, hu⟩, fun y H' hy => ?_⟩
  obtain ⟨rfl, hy⟩ := hy
  have := hy vs (.inl q1)
  rw [hu] at this
  cases this
  exact ⟨w1, rfl, rfl, Ext.refl _, s, ru⟩
theorem jok_revT {S : St0} {w : Wd} {K : PySem.W.Frag} {a : Addr} {vs : List V} {l : List D} {n : Nat} (hK : K = S.K) (q : SqT S.K w.H a vs) (r : RepsW S w vs l) (hn : n = l.length) : JOk S w l.reverse (RT.ItvT K a n) := by
  subst hK
  subst hn
  intro w1 x s
  have q1 := SqT.ext x.toExt0 q
  have r1 := Reps.ext x.toExt0 r
  refine ⟨fun i d e => ?_, by show l.length ≤ l.reverse.length; rw [List.length_reverse]; exact Nat.le_refl _⟩
  obtain ⟨hi, e⟩ := get_rev e
  obtain ⟨u, hu, ru⟩ := r1.get e
  refine ⟨⟨hi, vs, u, q1, hu⟩, fun y H' hy => ?_⟩
  obtain ⟨rfl, hy⟩ := hy
  have := hy vs q1
  rw [hu] at this
  cases this
  exact ⟨w1, rfl, rfl, Ext.refl _, s, ru⟩
theorem pi_revE {a : E} (hA : All T N a) (ok : Ok T N sc W X) (h : matchI T.toNm N (.rev a) sc ex tg = true) : PI X tg ex (RI T.S W (evI T.C T.gl (.rev a))) := by
  cases ex <;> try (simp [matchI] at h; done)
  next fn es kw p =>
  cases fn <;> try (simp [matchI] at h; done)
  next x px =>
  cases es with
  | nil => simp [matchI] at h
  | cons y es =>
  cases es with
  | cons _ _ => simp [matchI] at h
  | nil =>
  cases kw with
  | cons _ _ => simp [matchI] at h
  | nil =>
  simp only [matchI, Bool.and_eq_true, decide_eq_true_eq] at h
  obtain ⟨⟨rfl, hg⟩, h3⟩ := h
  have st := star_cons (match_noStar h3) [] X.env
  refine PI.imp (RT.pi_revA (ok.gL hg) (ok.blt _ (by decide)) (hA.pe ok h3) st) fun σ H R hw => ?_
  obtain ⟨w, ls, rfl, g⟩ := hw
  simp only [evI] at g
  refine ⟨w, ls, rfl, g.bind.mono ?_⟩
  rintro v H1 ⟨w1, d, rfl, x1, r1, g1⟩
  cases d with
  | lst l =>
    obtain ⟨a, vs, rfl, q1, t1⟩ := rep_lst r1
    exact ⟨a, vs, rfl, .inl ⟨.inl q1, g1.ret (jok_revL r1 rfl t1.length)⟩⟩
  | tup l =>
    obtain ⟨a, vs, rfl, q1, t1⟩ := rep_tup r1
    exact ⟨a, vs, rfl, .inr ⟨by rw [ok.K]; exact q1, g1.ret (jok_revT ok.K q1 t1 t1.length)⟩⟩
  | _ => exact (g1.not fun _ => rfl).elim
theorem jok_rngC {S : St0} {w : Wd} {lo c : Int} {n : Nat} : JOk S w (rangeC lo c n) (Itc lo c n) := by
  intro w1 x s
  refine ⟨fun i d e => ?_, ?_⟩
  · have e : ((List.range n).map fun (i : Nat) => D.int (lo + (i : Nat) * c))[i]? = some d := e
    rw [List.getElem?_map] at e
    have hi : i < n := by
      rcases Nat.lt_or_ge i n with z | z
      · exact z
      · rw [List.getElem?_eq_none (by rw [List.length_range]; exact z)] at e
        cases e
    rw [List.getElem?_range hi] at e
    cases e
    refine ⟨hi, fun y H' hy => ?_⟩
    obtain ⟨rfl, rfl⟩ := hy
    exact ⟨w1, rfl, rfl, Ext.refl _, s, .int _⟩
  · show n ≤ (rangeC lo c n).length
    unfold rangeC
    rw [List.length_map, List.length_range]
    exact Nat.le_refl _
theorem pi_rng3E {a b c : E} (hA : All T N a) (hB : All T N b) (hC : All T N c) (ok : Ok T N sc W X) (h : matchI T.toNm N (.rng3 a b c) sc ex tg = true) : PI X tg ex (RI T.S W (evI T.C T.gl (.rng3 a b c))) := by
  cases ex <;> try (simp [matchI] at h; done)
  next fn es kw p =>
  cases fn <;> try (simp [matchI] at h; done)
  next x px =>
  rcases es with _ | ⟨y, _ | ⟨z, _ | ⟨u, _ | ⟨t, es⟩⟩⟩⟩ <;> try (simp [matchI] at h; done)
  cases kw with
  | cons _ _ => simp [matchI] at h
  | nil =>
  simp only [matchI, Bool.and_eq_true, decide_eq_true_eq] at h
  obtain ⟨⟨⟨⟨rfl, hg⟩, h3⟩, h4⟩, h5⟩ := h
  have st1 := star_cons (match_noStar h5) [] X.env
  have st2 := star_cons (match_noStar h4) [u] X.env
  have st3 := star_cons (match_noStar h3) [z, u] X.env
  refine PI.imp (pi_range3 (ok.gL hg) (ok.blt _ (by decide)) (pa_cons (hA.pe ok h3) (pa_cons (hB.pe ok h4) (pa_cons (hC.pe ok h5) pa_nil st1) st2) st3) st3 (by rw [st2, st1]; rfl)) fun σ H R hw => ?_
  obtain ⟨w, ls, rfl, g⟩ := hw
  simp only [evI] at g
  refine ⟨w, ls, rfl, g.bind.mono ?_⟩
  rintro v H1 ⟨w1, d, rfl, x1, r1, g1⟩
  refine ⟨w1, ls, rfl, g1.bind.mono ?_⟩
  rintro v2 H2 ⟨w2, e, rfl, x2, r2, g2⟩
  refine ⟨w2, ls, rfl, g2.bind.mono ?_⟩
  rintro v3 H3 ⟨w3, f, rfl, x3, r3, g3⟩
  have r1 := Rep.ext (x2.trans x3).toExt0 r1
  have r2 := Rep.ext x3.toExt0 r2
  have key : (∃ i, d = .int i) ∧ (∃ j, e = .int j) ∧ ∃ k, f = .int k := by
    cases d with
    | int i =>
      cases e with
      | int j =>
        cases f with
        | int k => exact ⟨⟨i, rfl⟩, ⟨j, rfl⟩, k, rfl⟩
        | _ => exact (g3.not fun _ => rfl).elim
      | _ => exact (g3.not fun _ => rfl).elim
    | _ => exact (g3.not fun _ => rfl).elim
  obtain ⟨⟨i, rfl⟩, ⟨j, rfl⟩, k, rfl⟩ := key
  cases rep_int r1
  cases rep_int r2
  cases rep_int r3
  have g3 : Go T.S W σ _ _ ls w3 (if (decide (k ≠ 0) && decide (k.natAbs < 1073741824) && (small62 i && small62 j) && (Builtin.Range.small i j k && decide (0 ≤ Builtin.Range.rangeSize i j k))) = true then (pure (rangeC i k (Builtin.Range.rangeSize i j k).toNat) : M (List D)) else stuck) := g3
  split at g3
  · next c =>
    simp only [Bool.and_eq_true, decide_eq_true_eq] at c
    obtain ⟨⟨⟨c1, c2⟩, _⟩, c3, c4⟩ := c
    exact ⟨i, j, k, (Builtin.Range.rangeSize i j k).toNat, rfl, ⟨c1, c2, c3, (Int.toNat_of_nonneg c4).symm⟩, g3.ret jok_rngC⟩
  · exact (g3.not fun _ => rfl).elim
end
end EV

/-! Comprehensions; new lists. -/
namespace EV
open PySem PySem.Spec PyProof.Rows L2
section
variable {T : Tx} {N : List Str} {sc : Scope} {W : Wl} {X : Cx} {ex : Expr} {S : St0}

theorem After.bind0 {α β : Type} {m : M α} {f : α → M β} {h : Hh} {w : Wd} {Wx : WE} {K : β → Wd → Prop} (a : After S ((m >>= f) h) w Wx K) :
    After S (m h) w Wx fun b w1 => After S (f b w1.h) w Wx K := by
  cases e : m h with
  | stk => rw [bind_stk e] at a; exact a.elim
  | err c d h' => rw [bind_err e] at a; exact a
  | ok b h' =>
    rw [bind_ok e] at a
    intro w1 e1 x s
    rw [e1]
    exact a
theorem After.noErr {α : Type} {m : M α} {h : Hh} {w : Wd} {Wx Wx' : WE} {K : α → Wd → Prop} (a : After S (EV.noErr m h) w Wx K) : After S (m h) w Wx' K := by
  cases e : m h with
  | stk => unfold EV.noErr at a; rw [e] at a; exact a
  | err c d h' => unfold EV.noErr at a; rw [e] at a; exact a.elim
  | ok b h' => unfold EV.noErr at a; rw [e] at a; exact a

theorem wipe_get {σ : L2.St} {i : Nat} : ∀ {vs : List Nat}, (L2.wipe σ vs)[i]? = if i ∈ vs then (if i < σ.length then some none else none) else σ[i]?
  | [] => by simp [L2.wipe]
  | v :: vs => by
    show ((L2.wipe σ vs).set v none)[i]? = _
    by_cases h : v = i
    · subst h
      rw [if_pos List.mem_cons_self]
      by_cases hl : v < σ.length
      · rw [if_pos hl, List.getElem?_set_self (by rw [L2.wipe_length]; exact hl)]
      · rw [if_neg hl, List.getElem?_eq_none (by rw [List.length_set, L2.wipe_length]; omega)]
    · rw [List.getElem?_set_ne h, wipe_get]
      have : (i ∈ v :: vs) = (i ∈ vs) := by
        rw [List.mem_cons, eq_iff_iff]
        exact ⟨fun z => z.elim (fun e => absurd e.symm h) id, .inr⟩
      simp only [this]
theorem wipe_eq {σ σ2 : L2.St} {vs ts : List Nat} (hl : σ2.length = (L2.wipe σ vs).length) (hs : ∀ i ∈ ts, i ∈ vs) (h : ∀ i, i ∉ ts → σ2[i]? = (L2.wipe σ vs)[i]?) : L2.wipe σ2 vs = L2.wipe σ vs := by
  rw [L2.wipe_length] at hl
  refine List.ext_getElem? fun i => ?_
  rw [wipe_get]
  by_cases hi : i ∈ vs
  · rw [if_pos hi, wipe_get, if_pos hi, hl]
  · rw [if_neg hi]
    exact h i fun z => hi (hs i z)

abbrev Fresh (S : St0) : Wd → (Addr × List V) → D → Prop := fun w' b d => ∃ ds, d = .lst ds ∧ w'.H b.1 = none ∧ RepsW S w' b.2 ds
abbrev QF (Q : VK) : (Addr × List V) → Hp → Prop := fun b H1 => Q (.ref b.1) (upd H1 b.1 (.lst b.2))

/-! the list that grows -/
def Wd.plus (w : Wd) (D : Addr) (vs : List V) : Wd := ⟨w.φ, w.h, upd w.H D (.lst vs), fun b => decide (b = D) || w.no b⟩
def Wd.minus (w : Wd) (D : Addr) : Wd := ⟨w.φ, w.h, fun b => if b = D then none else w.H b, fun b => if b = D then false else w.no b⟩
/-- a list at D, hidden, content vs, in the later world w of w1 -/
structure Grow (S : St0) (w1 w : Wd) (D : Addr) (vs : List V) : Prop where
  sim : Sim S w
  ext : Ext w1 w
  at_ : w.H D = some (.lst vs)
  no : w.no D = true
  ne : ∀ n, n < w.k → w.φ n ≠ D
theorem ne_hid {w1 : Wd} (s1 : Sim S w1) {D b : Addr} (hD : w1.H D = none) (h : w1.no b = true) : b ≠ D := fun e => by
  subst e
  obtain ⟨u, hu⟩ := s1.nd b h
  rw [hD] at hu
  cases hu
theorem Grow.start {w1 : Wd} (s1 : Sim S w1) {D : Addr} (hD : w1.H D = none) : Grow S w1 (w1.plus D []) D [] := by
  have x : Ext w1 (w1.plus D []) := {
    len := Nat.le_refl _, phi := fun _ _ => rfl
    tup := fun b xs h => (upd_ne (ne_of_none h hD)).trans h
    frz := fun b o u' h => (upd_ne (ne_of_none h hD)).trans h
    lst := fun b xs h n => ⟨(upd_ne (ne_of_none h hD)).trans h, by show (decide (b = D) || w1.no b) = false; rw [n, decide_eq_false (ne_of_none h hD)]; rfl⟩
    xd := fun b fs h => (upd_ne (ne_of_none h hD)).trans h
    no := fun b h => by show (decide (b = D) || w1.no b) = true; rw [h, Bool.or_true]
    hid := fun b h n => ⟨upd_ne (ne_hid s1 hD h), n⟩ }
  have ne : ∀ n, n < w1.k → w1.φ n ≠ D := fun n hn e => by
    obtain ⟨u, hu, _⟩ := s1.there hn
    rw [e, hD] at hu
    cases hu
  refine ⟨⟨s1.inj, fun n o e => ?_, s1.good, s1.los, fun n hn => ?_, fun b h => ?_⟩, x, upd_same, ?_, ne⟩
  · have hn : n < w1.k := (List.getElem?_eq_some_iff.mp e).1
    exact (s1.obj n o e).move x.toExt0 (upd_ne (ne n hn))
  · exact x.no _ (s1.nf n hn)
  · rcases Bool.or_eq_true_iff.mp (show (decide (b = D) || w1.no b) = true from h) with h | h
    · exact ⟨_, by rw [of_decide_eq_true h]; exact upd_same⟩
    · obtain ⟨u, hu⟩ := s1.nd b h
      exact ⟨u, (upd_ne (ne_hid s1 hD h)).trans hu⟩
  · show (decide (D = D) || w1.no D) = true
    rw [decide_eq_true rfl]
    rfl
theorem Grow.later {w1 w w2 : Wd} {D : Addr} {vs : List V} (g : Grow S w1 w D vs) (x : Ext w w2) (s : Sim S w2) : Grow S w1 w2 D vs :=
  let ⟨h1, h2⟩ := x.hid D g.no g.ne
  ⟨s, g.ext.trans x, h1.trans g.at_, x.no D g.no, h2⟩
def Wd.app (w : Wd) (D : Addr) (vs : List V) : Wd := ⟨w.φ, w.h, upd w.H D (.lst vs), w.no⟩
theorem Grow.app0 {w1 w : Wd} {D : Addr} {vs : List V} (g : Grow S w1 w D vs) (us : List V) : Ext0 w (w.app D us) where
  len := Nat.le_refl _
  phi := fun _ _ => rfl
  tup := fun b xs h => (upd_ne fun e => by subst e; rw [g.at_] at h; cases h).trans h
  frz := fun b o u' h => (upd_ne fun e => by subst e; rw [g.at_] at h; cases h).trans h
  lst := fun b xs h n => ⟨(upd_ne fun e => by subst e; rw [g.no] at n; cases n).trans h, n⟩
  xd := fun b fs h => (upd_ne fun e => by subst e; rw [g.at_] at h; cases h).trans h
theorem Grow.app {w1 w : Wd} (s1 : Sim S w1) {D : Addr} (hD : w1.H D = none) {vs : List V} (g : Grow S w1 w D vs) (us : List V) : Grow S w1 (w.app D us) D us := by
  have x := g.app0 us
  refine ⟨⟨g.sim.inj, fun n o e => ?_, g.sim.good, g.sim.los, g.sim.nf, fun b h => ?_⟩, ⟨g.ext.toExt0.trans x, g.ext.no, fun b h n => ?_⟩, upd_same, g.no, g.ne⟩
  · have hn : n < w.k := (List.getElem?_eq_some_iff.mp e).1
    exact (g.sim.obj n o e).move x (upd_ne (g.ne n hn))
  · obtain ⟨u, hu⟩ := g.sim.nd b h
    by_cases e : b = D
    · subst e; exact ⟨_, upd_same⟩
    · exact ⟨u, (upd_ne e).trans hu⟩
  · obtain ⟨h1, h2⟩ := g.ext.hid b h n
    exact ⟨(upd_ne (ne_hid s1 hD h)).trans h1, h2⟩
theorem Grow.done0 {w1 w : Wd} {D : Addr} {vs : List V} (g : Grow S w1 w D vs) : Ext0 w (w.minus D) where
  len := Nat.le_refl _
  phi := fun _ _ => rfl
  tup := fun b xs h => (if_neg fun e => by subst e; rw [g.at_] at h; cases h).trans h
  frz := fun b o u' h => (if_neg fun e => by subst e; rw [g.at_] at h; cases h).trans h
  lst := fun b xs h n => by
    have e : b ≠ D := fun e => by subst e; rw [g.no] at n; cases n
    exact ⟨(if_neg e).trans h, (if_neg e).trans n⟩
  xd := fun b fs h => (if_neg fun e => by subst e; rw [g.at_] at h; cases h).trans h
theorem Grow.done {w1 w : Wd} (s1 : Sim S w1) {D : Addr} (hD : w1.H D = none) {vs : List V} (g : Grow S w1 w D vs) : Sim S (w.minus D) ∧ Ext w1 (w.minus D) ∧ upd (w.minus D).H D (.lst vs) = w.H := by
  have x := g.done0
  refine ⟨⟨g.sim.inj, fun n o e => ?_, g.sim.good, g.sim.los, fun n hn => (if_neg (g.ne n hn)).trans (g.sim.nf n hn), fun b h => ?_⟩, ⟨g.ext.toExt0.trans x, fun b h => (if_neg (ne_hid s1 hD h)).trans (g.ext.no b h), fun b h n => ?_⟩, ?_⟩
  · have hn : n < w.k := (List.getElem?_eq_some_iff.mp e).1
    exact (g.sim.obj n o e).move x (if_neg (g.ne n hn))
  · have h : (if b = D then false else w.no b) = true := h
    split at h
    · cases h
    · next e =>
      obtain ⟨u, hu⟩ := g.sim.nd b h
      exact ⟨u, (if_neg e).trans hu⟩
  · obtain ⟨h1, h2⟩ := g.ext.hid b h n
    exact ⟨(if_neg (ne_hid s1 hD h)).trans h1, h2⟩
  · funext b
    by_cases e : b = D
    · subst e
      rw [upd_same, g.at_]
    · rw [upd_ne e]
      exact if_neg e

theorem compL_cons {turn : D → M (Option D)} {n : Nat} {d : D} {r : List D} : compL turn n (d :: r) = (noErr (turn d) >>= fun o => match o with
    | some e => if decide (n < sizeL) then compL turn (n + 1) r >>= fun s => pure (e :: s) else stuck
    | none => compL turn n r) := rfl

theorem comp_tlc {elt tg it ifs : E} {own : List Nat} (h2 : (slotsT tg).all (own.contains ·) = true) : ∀ (σ : L2.St) (H : Hp) (Q : VK),
    (∃ w ls, w.H = H ∧ Go T.S W σ (Fresh T.S) (QF Q) ls w (evE T.C T.gl (.comp elt tg it ifs own) ls)) →
    tLc (RI T.S W (evI T.C T.gl it)) (RG noW T.S tg) (RT T.S noW (evC T.C T.gl ifs)) (RE T.S noW (evE T.C T.gl elt)) own σ H Q := by
  intro σ H Q hw
  obtain ⟨w, ls, rfl, g⟩ := hw
  simp only [evE] at g
  refine ⟨w, ls, rfl, g.bind.mono ?_⟩
  rintro J H1 ⟨w1, l, rfl, x1, jok, g1⟩ Dp hD
  have s1 := g1.sim
  have loc1 := g1.2.1
  -- the turns
  generalize ht : (fun d => match bindT tg d (wipeL ls own) with
    | some ls2 => evC T.C T.gl ifs ls2 >>= fun k => match k with
      | true => evE T.C T.gl elt ls2 >>= fun x => (pure (some x) : M (Option D))
      | false => (pure none : M (Option D))
    | none => (stuck : M (Option D))) = turn
  have a1 : After T.S ((compL turn 0 l >>= fun r => (pure (.lst r) : M D)) w1.h) w1 (wx T.S W σ) fun a w' => ∀ b, Fresh T.S w' b a → QF Q b w'.H := by
    rw [← ht]
    exact g1.2.2
  let LoopS : Nat → Hp → Prop := fun i H => ∃ w acc vs, w.H = H ∧ Grow T.S w1 w Dp vs ∧ RepsW T.S w vs acc ∧
    After T.S ((compL turn acc.length (l.drop i) >>= fun r => (pure (.lst (acc ++ r)) : M D)) w.h) w1 (wx T.S W σ) fun a w' => ∀ b, Fresh T.S w' b a → QF Q b w'.H
  refine ⟨fun i m H => m = l.length - i ∧ i ≤ l.length ∧ LoopS i H, ⟨l.length, by omega, Nat.zero_le _, w1.plus Dp [], [], [], rfl, Grow.start s1 hD, .nil, a1⟩, ?_⟩
  rintro i m H ⟨rfl, hi, w, acc, vs, rfl, gr, rs, a⟩
  obtain ⟨jgo, jstop⟩ := jok w gr.ext gr.sim
  by_cases hlt : i < l.length
  · obtain ⟨jg, jy⟩ := jgo i l[i] (List.getElem?_eq_getElem hlt)
    refine .inr ⟨jg, LoopS (i + 1), fun H' hL => ⟨l.length - (i + 1), by omega, rfl, hlt, hL⟩, fun x H' hy => ?_⟩
    obtain ⟨w2, rfl, eh, x2, s2, rx⟩ := jy x H' hy
    have gr2 := gr.later x2 s2
    rw [← eh, List.drop_eq_getElem_cons hlt, compL_cons, bind_assoc'] at a
    have a := After.bind0 a
    have a := After.noErr (Wx' := wx T.S noW σ) a
    have a := a.from gr2.ext
    rw [← ht] at a
    simp only at a
    cases hb : bindT tg l[i] (wipeL ls own) with
    | none =>
      rw [hb] at a
      exact a.elim
    | some ls2 =>
      rw [hb] at a
      simp only at a
      refine ⟨w2, wipeL ls own, l[i], ls2, rfl, (fun _ _ e => nomatch e), s2, (loc1.ext gr2.ext.toExt0).wipe own, rx, hb, fun σ2 hz hk loc2 => ⟨wipe_eq hz (fun j hj => ?_) hk, w2, ls2, rfl, s2, loc2, ?_⟩⟩
      · have := List.all_eq_true.mp h2 j hj
        simpa using this
      · have a := a.bind
        have fin : ∀ w3 acc' vs', Grow T.S w1 w3 Dp vs' → RepsW T.S w3 vs' acc' → After T.S ((compL turn acc'.length (l.drop (i + 1)) >>= fun r => (pure (.lst (acc' ++ r)) : M D)) w3.h) w1 (wx T.S W σ) (fun a w' => ∀ b, Fresh T.S w' b a → QF Q b w'.H) → LoopS (i + 1) w3.H :=
          fun w3 acc' vs' g3 r3 a3 => ⟨w3, acc', vs', rfl, g3, r3, a3⟩
        have wxs : ∀ {α : Type} {r : Res α} {w : Wd} {K : α → Wd → Prop}, After T.S r w (wx T.S noW σ) K → After T.S r w (wx T.S noW σ2) K := fun h => h
        refine (wxs a).imp ?_
        rintro k w3 x3 s3 a3 k' rfl
        cases k' with
        | false =>
          have a4 := a3 w3 rfl (Ext.refl _) s3
          have gr3 := gr2.later x3 s3
          rw [if_neg Bool.false_ne_true]
          exact fin w3 acc vs gr3 (Reps.ext (x2.trans x3).toExt0 rs) (by rw [← ht]; exact a4)
        | true =>
          rw [if_pos rfl]
          have a4 := After.bind (f := fun x => (pure (some x) : M (Option D))) a3
          refine ⟨w3, ls2, rfl, s3, loc2.ext x3.toExt0, (wxs a4).imp ?_⟩
          rintro e w4 x4 s4 a5 y ry
          have a6 := a5 w4 rfl (Ext.refl _) s4
          have gr4 := (gr2.later x3 s3).later x4 s4
          have rs4 := Reps.ext ((x2.trans x3).trans x4).toExt0 rs
          simp only at a6
          by_cases hz : acc.length < sizeL
          · rw [if_pos (decide_eq_true hz), bind_assoc'] at a6
            refine ⟨vs, gr4.at_, by rw [rs.length, ← sizeL_eq]; exact hz, ?_⟩
            have gr5 := gr4.app s1 hD (vs ++ [y])
            have x5 := gr4.app0 (vs ++ [y])
            refine fin (w4.app Dp (vs ++ [y])) (acc ++ [e]) (vs ++ [y]) gr5 ((Reps.ext x5 rs4).append (.cons (Rep.ext x5 ry) .nil)) ?_
            rw [List.length_append, List.length_singleton, ← ht]
            have e1 : (fun r => (pure (D.lst (acc ++ [e] ++ r)) : M D)) = fun r => ((pure (e :: r) : M (List D)) >>= fun s => (pure (.lst (acc ++ s)) : M D)) := by
              funext r
              rw [List.append_assoc]
              rfl
            rw [e1]
            exact a6
          · rw [if_neg (by rw [decide_eq_true_eq]; exact hz)] at a6
            exact a6.elim
  · have e : i = l.length := by omega
    subst e
    refine .inl ⟨jstop, ?_⟩
    rw [List.drop_length] at a
    obtain ⟨sf, xf, ef⟩ := gr.done s1 hD
    have a' : After T.S ((pure (.lst (acc ++ [])) : M D) w.h) w1 (wx T.S W σ) fun a w' => ∀ b, Fresh T.S w' b a → QF Q b w'.H := a
    rw [List.append_nil] at a'
    have q := a' (w.minus Dp) rfl xf sf (Dp, vs) ⟨acc, rfl, if_pos rfl, Reps.ext gr.done0 rs⟩
    have q : Q (.ref Dp) (upd (w.minus Dp).H Dp (.lst vs)) := q
    rw [ef] at q
    exact q

theorem pe_compF {elt tg it ifs : E} {own : List Nat} (hE : All T N elt) (hC : All T N ifs) (hI : ∀ {sc : Scope} {W : Wl} {X : Cx} {tg ex : Expr}, Ok T N sc W X → matchI T.toNm N it sc ex tg = true → PI X tg ex (RI T.S W (evI T.C T.gl it)))
    (ok : Ok T N sc W X) (h : matchE T.toNm N (.comp elt tg it ifs own) sc ex = true) :
    PE X ex (fun σ H Q => ∃ w ls, w.H = H ∧ Go T.S W σ (Fresh T.S) (QF Q) ls w (evE T.C T.gl (.comp elt tg it ifs own) ls)) := by
  cases ex <;> try (simp [matchE] at h; done)
  next el gs scope p =>
  rcases gs with _ | ⟨⟨t, i, fs, as⟩, _ | ⟨_, _⟩⟩
  · simp [matchE] at h
  · · simp only [matchE, Bool.and_eq_true, decide_eq_true_eq, Bool.not_eq_true'] at h
      obtain ⟨⟨⟨⟨⟨⟨⟨hh, rfl⟩, h1⟩, h2⟩, h3⟩, h4⟩, h5⟩, h6⟩ := h
      have hfs : ∀ x, foldedSetIterable i X.env x = pure x := by
        intro x
        cases i <;> first | rfl | (cases it <;> simp [matchI] at h6)
      have tgok : ∀ (s : Shared) (H : Hp) (C : Addr) (cl : List (Str × Addr)) (fp : List Addr), TgOk N scope (X.blk s H scope (compEnvC scope cl C X.env) fp) := fun s H C cl fp =>
        ⟨ok.hN, ok.nd, fun x k hk e => lookup_relS_keep hk e, fun x e => by show (scope.names.lookup x == some .cell) = true; rw [e]; rfl⟩
      refine PE.imp (pe_lc (own := own.map fun (i : Nat) => (((N[i]?).getD (Str.ofString "") : Str), i)) (te := RE T.S noW (evE T.C T.gl elt)) (tt := RT T.S noW (evC T.C T.gl ifs)) (ok.calm hh) (by rw [ok.hN]; exact ok.nd) (hI ok h6) (by rw [ok.hN, ok.sc]; exact blkOk_by h1)
        (fun s H C cl fp => pg_E (W := noW) (S := T.S) (tgok s H C cl fp) ok.K (ok.calm hh) h3) (fun s H C cl fp => hC.pc (ok.blk hh) h5) (fun s H C cl fp => hE.pe (ok.blk hh) h4) hfs) fun σ H Q hw => ?_
      have hown : (own.map fun (i : Nat) => (((N[i]?).getD (Str.ofString "") : Str), i)).map (·.2) = own := by
        rw [List.map_map]
        exact List.map_id'' (fun _ => rfl) own
      rw [hown]
      exact comp_tlc h2 σ H Q hw
  · simp [matchE] at h
end
end EV

/-! New lists; every expression. -/
namespace EV
open PySem PySem.Spec PyProof.Rows L2
section
variable {T : Tx} {N : List Str} {sc : Scope} {W : Wl} {X : Cx} {ex : Expr} {S : St0}

/-- a fresh list becomes an object of ours -/
theorem Go.alloc {Q : VK} {σ : L2.St} {ls : Ls} {w : Wd} {p : Addr} {vs : List V} {ds : List D} (g : Go S W σ (RepW S) Q ls w (EV.alloc (.lst ds))) (hp : w.H p = none) (r : RepsW S w vs ds) : Q (.ref p) (upd w.H p (.lst vs)) := by
  have keep : ∀ b u, w.H b = some u → upd w.H p (.lst vs) b = some u := fun b u h => (upd_ne (ne_of_none h hp)).trans h
  have x := Ext.push (o := .lst ds) g.sim hp keep
  have a : ∀ w', w'.h = ⟨w.h.objs ++ [.lst ds], w.h.los⟩ → Ext w w' → Sim S w' → ∀ v, RepW S w' v (.ref w.h.objs.length) → Q v w'.H := g.2.2
  have s := g.sim.push (o := .lst ds) hp keep ⟨vs, upd_same, by
    have := Reps.ext x.toExt0 r
    exact this⟩
  refine a (w.push p (.lst ds) (upd w.H p (.lst vs))) rfl x s _ ?_
  have q := Rep.ref (S := S) (φ := (w.push p (.lst ds) (upd w.H p (.lst vs))).φ) (k := (w.push p (.lst ds) (upd w.H p (.lst vs))).k) (z := (w.push p (.lst ds) (upd w.H p (.lst vs))).no) (H := upd w.H p (.lst vs)) w.k (by rw [Wd.push_k]; exact Nat.lt_succ_self _)
  rw [Wd.push_new] at q
  exact q
theorem pe_mkF {a : E} (h : PE X ex (fun σ H Q => ∃ w ls, w.H = H ∧ Go T.S W σ (Fresh T.S) (QF Q) ls w (evE T.C T.gl a ls))) : PE X ex (RE T.S W (evE T.C T.gl (.mk a))) := by
  refine PE.imp h fun σ H Q hw => ?_
  obtain ⟨w, ls, rfl, g⟩ := hw
  simp only [evE] at g
  refine ⟨w, ls, rfl, g.bind.mono ?_⟩
  rintro ⟨p, vs⟩ H1 ⟨w1, d, rfl, x1, ⟨ds, rfl, hp, r⟩, g1⟩
  exact g1.alloc hp r

structure All2 (T : Tx) (N : List Str) (e : E) : Prop where
  all : All T N e
  pi : ∀ {sc : Scope} {W : Wl} {X : Cx} {tg ex : Expr}, Ok T N sc W X → matchI T.toNm N e sc ex tg = true → PI X tg ex (RI T.S W (evI T.C T.gl e))
theorem All2.noI {e : E} (h : All T N e) (n : ∀ sc ex tg, matchI T.toNm N e sc ex tg = false) : All2 T N e := ⟨h, fun _ h' => by rw [n] at h'; cases h'⟩
theorem all_comp {elt tg it ifs : E} {own : List Nat} (hE : All T N elt) (hC : All T N ifs) (hI : ∀ {sc : Scope} {W : Wl} {X : Cx} {tg ex : Expr}, Ok T N sc W X → matchI T.toNm N it sc ex tg = true → PI X tg ex (RI T.S W (evI T.C T.gl it))) : All T N (.comp elt tg it ifs own) := by
  refine .plain (fun {sc W X ex} ok h => ?_) (fun sc ex h => ?_) (fun _ _ => rfl) (fun _ _ => rfl) (fun _ _ => rfl)
  · refine PE.imp (pe_compF hE hC hI ok h) fun σ H Q hw => ?_
    obtain ⟨w, ls, rfl, g⟩ := hw
    exact ⟨w, ls, rfl, g.lst_of⟩
  · cases ex <;> first | rfl | (simp [matchE] at h; done)
/-- what is no list is let go -/
def asL : D → M D
  | .lst l => pure (.lst l)
  | _ => stuck
theorem Go.asL {Q : VK} {σ : L2.St} {ls : Ls} {w : Wd} {m : M D} (g : Go S W σ (Fresh S) (QF Q) ls w (m >>= EV.asL)) : Go S W σ (Fresh S) (QF Q) ls w m := by
  refine ⟨g.1, g.2.1, ?_⟩
  have a := g.2.2
  cases e : m w.h with
  | stk => rw [bind_stk e] at a; exact a
  | err c d h => rw [bind_err e] at a; exact a
  | ok d h =>
    rw [bind_ok e] at a
    cases d with
    | lst l => exact a
    | _ => exact a.elim
theorem pe_mkG {a : E} (h : PE X ex (fun σ H Q => ∃ w ls, w.H = H ∧ Go T.S W σ (Fresh T.S) (QF Q) ls w (evE T.C T.gl a ls >>= asL))) : PE X ex (RE T.S W (evE T.C T.gl (.mk a))) := by
  refine PE.imp h fun σ H Q hw => ?_
  obtain ⟨w, ls, rfl, g⟩ := hw
  simp only [evE] at g
  refine ⟨w, ls, rfl, g.1, g.2.1, ?_⟩
  have a0 := g.2.2
  cases e : evE T.C T.gl a ls w.h with
  | stk => rw [bind_stk e] at a0; exact a0.elim
  | err c d h => rw [bind_err e] at a0 ⊢; exact a0
  | ok d h =>
    rw [bind_ok e] at a0 ⊢
    cases d with
    | lst l =>
      have a1 : After T.S (alloc (.lst l) h) w (wx T.S W σ) fun a w' => ∀ b, RepW T.S w' b a → Q b w'.H := a0
      show ∀ w', w'.h = h → Ext w w' → Sim T.S w' → ∀ b, Fresh T.S w' b (.lst l) → QF Q b w'.H
      intro w' e' x s b hb
      obtain ⟨ds, hd, hp, r⟩ := hb
      cases hd
      obtain ⟨p, vs⟩ := b
      subst e'
      have g1 : Go T.S W σ (RepW T.S) Q ls w' (alloc (.lst l)) := ⟨s, g.2.1.ext x.toExt0, a1.from x⟩
      exact g1.alloc hp r
    | _ => exact a0.elim
theorem bin_F {o : BOp} {d e : D} {w : Wd} {v u : V} {vv uu : Value} {pins : List (Addr × Obj)} {s : Shared} {σ : L2.St} {Q : VK} {l : List D} (hK : X.K = T.S.K) (I : Inv X pins σ w.H s) (rx : RelV v vv) (ry : RelV u uu) (sim : Sim T.S w) (hd : RepW T.S w v d) (he : RepW T.S w u e)
    (ho : mkOp o = true) (hr : binV o (deref w.h d) (deref w.h e) = some (.lst l)) (f : ∀ p vs, w.H p = none → RepsW T.S w vs l → Q (.ref p) (upd w.H p (.lst vs))) : wpAny (model X.prog X.w) X.A (binaryOp (opOf o) vv uu) (EP X pins σ Q) X.xe s := by
  generalize qd : deref w.h d = d' at hr
  generalize qe : deref w.h e = e' at hr
  unfold binV at hr
  split at hr
  · next i j =>
    rw [Option.map_eq_some_iff] at hr
    obtain ⟨k, _, hk⟩ := hr
    cases hk
  · split at hr <;> cases hr
  · split at hr
    · split at hr <;> cases hr
    · cases hr
  · split at hr
    · split at hr <;> cases hr
    · cases hr
  · next a b =>
    obtain ⟨p1, v1, rfl, s1, t1⟩ := deref_lst sim hd qd
    obtain ⟨p2, v2, rfl, s2, t2⟩ := deref_lst sim he qe
    split at hr
    · split at hr
      · next c =>
        cases hr
        have l1 := t1.length
        have l2 := t2.length
        have c := of_decide_eq_true c
        rw [sizeL_eq] at c
        exact op_catR pins s σ w.H _ _ vv uu Q I rx ry ⟨p1, p2, v1, v2, rfl, rfl, s1, s2, by omega, fun p hp => f p _ hp (t1.append t2)⟩
      · cases hr
    · cases hr
  · split at hr
    · split at hr <;> cases hr
    · cases hr
  · next a k =>
    obtain ⟨p1, v1, rfl, s1, t1⟩ := deref_lst sim hd qd
    have z2 := deref_nl qe fun l => nofun
    subst z2
    cases rep_int he
    split at hr
    · split at hr
      · next c =>
        cases hr
        have l1 := t1.length
        obtain ⟨c, c3⟩ := Bool.and_eq_true_iff.mp c
        obtain ⟨c1, c2⟩ := Bool.and_eq_true_iff.mp c
        have c1 := of_decide_eq_true c1
        have c2 := of_decide_eq_true c2
        have c3 := of_decide_eq_true c3
        rw [sizeL_eq, ← l1] at c3
        exact op_repR pins s σ w.H _ _ vv uu Q I rx ry ⟨p1, k, v1, rfl, rfl, s1, by omega, by omega, c3, fun p hp => f p _ hp (t1.flat _)⟩
      · cases hr
    · cases hr
  · cases hr
theorem pe_binF {o : BOp} {a b : E} (ha : All T N a) (hb : All T N b) (ok : Ok T N sc W X) (ho : mkOp o = true) (h : matchE T.toNm N (.bin o a b) sc ex = true) :
    PE X ex (fun σ H Q => ∃ w ls, w.H = H ∧ Go T.S W σ (Fresh T.S) (QF Q) ls w (evE T.C T.gl (.bin o a b) ls >>= asL)) := by
  cases ex <;> try (simp [matchE] at h; done)
  next x op y p =>
  simp only [matchE, Bool.and_eq_true, decide_eq_true_eq] at h
  obtain ⟨⟨rfl, h1⟩, h2⟩ := h
  refine PE.imp (pe_op (r := fun v u H Q => ∃ w d e l, w.H = H ∧ Sim T.S w ∧ RepW T.S w v d ∧ RepW T.S w u e ∧ binV o (deref w.h d) (deref w.h e) = some (.lst l) ∧ ∀ p vs, w.H p = none → RepsW T.S w vs l → Q (.ref p) (upd w.H p (.lst vs))) (fun pins s σ H v u vv uu Q I rx ry hw => by
    obtain ⟨w, d, e, l, rfl, sim, hd, he, hr, f⟩ := hw
    exact bin_F ok.K I rx ry sim hd he ho hr f) (ha.pe ok h1) (hb.pe ok h2)) fun σ H Q hw => ?_
  obtain ⟨w, ls, rfl, g⟩ := hw
  simp only [evE, bind_assoc'] at g
  refine ⟨w, ls, rfl, g.bind.mono ?_⟩
  rintro v H1 ⟨w1, d, rfl, x1, r1, g1⟩
  refine ⟨w1, ls, rfl, g1.bind.mono ?_⟩
  rintro u H2 ⟨w2, e, rfl, x2, r2, g2⟩
  have a := g2.2.2
  cases hr : binV o (deref w2.h d) (deref w2.h e) with
  | none =>
    rw [bind_stk (show binM o d e w2.h = .stk by unfold binM; rw [hr])] at a
    exact a.elim
  | some r =>
    rw [bind_ok (show binM o d e w2.h = .ok r w2.h by unfold binM; rw [hr])] at a
    cases r with
    | lst l => exact ⟨w2, d, e, l, rfl, g2.sim, Rep.ext x2.toExt0 r1, r2, hr, fun p vs hp rv => a w2 rfl (Ext.refl _) g2.sim (p, vs) ⟨l, rfl, hp, rv⟩⟩
    | _ => exact a.elim
theorem list_F {w : Wd} {xs : List V} {us : List Value} {pins : List (Addr × Obj)} {s : Shared} {σ : L2.St} {Q : VK} {ds l : List D} (hK : X.K = T.S.K) (hc : X.calm = true) (I : Inv X pins σ w.H s) (rs : Vals xs us) (sim : Sim T.S w) (hd : RepsW T.S w xs ds)
    (hr : bifV .list (ds.map (deref w.h)) = some (.lst l)) (f : ∀ p vs, w.H p = none → RepsW T.S w vs l → Q (.ref p) (upd w.H p (.lst vs))) : wpAny (model X.prog X.w) X.A (call (.type "list") us) (EP X pins σ Q) X.xe s := by
  generalize qd : ds.map (deref w.h) = dl at hr
  match dl, qd, hr with
  | [.lst a], qd, hr =>
    obtain ⟨x, d, rfl, rfl, hd, z⟩ := bif_one (Pf := fun _ => True) hd qd
    obtain ⟨p, vs, rfl, s1, t1⟩ := deref_lst sim hd z
    cases hr
    exact call_list_of pins s σ w.H _ us Q I rs ⟨p, vs, rfl, .inl (.inl s1), fun q hq => f q _ hq t1⟩
  | [.tup a], qd, hr =>
    obtain ⟨x, d, rfl, rfl, hd, z⟩ := bif_one (Pf := fun _ => True) hd qd
    cases deref_nl z fun l => nofun
    obtain ⟨p, vs, rfl, s1, t1⟩ := rep_tup hd
    cases hr
    exact call_list_of pins s σ w.H _ us Q I rs ⟨p, vs, rfl, .inr (by rw [hK]; exact s1), fun q hq => f q _ hq t1⟩
  | [.str a], qd, hr =>
    obtain ⟨x, d, rfl, rfl, hd, z⟩ := bif_one (Pf := fun _ => True) hd qd
    cases deref_nl z fun l => nofun
    obtain ⟨rfl, o⟩ := rep_str hd
    have hr : (if decide (a.length ≤ sizeL) then some (D.lst (a.map fun c => .str [c])) else none) = some (.lst l) := hr
    split at hr
    · next c =>
      cases hr
      have c := of_decide_eq_true c
      rw [sizeL_eq] at c
      exact call_list_txt hc pins s σ w.H _ us Q I rs ⟨_, rfl, by rw [mkS_len]; exact c, fun q hq => f q _ hq (reps_signs o)⟩
    · cases hr
theorem pe_bifF {a : E} (ha : All T N a) (ok : Ok T N sc W X) (h : matchE T.toNm N (.bif .list a) sc ex = true) :
    PE X ex (fun σ H Q => ∃ w ls, w.H = H ∧ Go T.S W σ (Fresh T.S) (QF Q) ls w (evE T.C T.gl (.bif .list a) ls >>= asL)) := by
  cases ex <;> try (simp [matchE] at h; done)
  next fn es kw p =>
  cases fn <;> try (simp [matchE] at h; done)
  next x px =>
  cases kw <;> try (cases es <;> simp [matchE] at h; done)
  cases es <;> try (simp [matchE] at h; done)
  next e es =>
  simp only [matchE, Bool.and_eq_true, decide_eq_true_eq, Bool.not_eq_true'] at h
  obtain ⟨⟨⟨hh, hx⟩, hg⟩, h1⟩ := h
  have stars := matchA_star h1
  refine PE.imp (pe_bifE (b := .list) (r := fun xs H Q => ∃ w ds l, w.H = H ∧ Sim T.S w ∧ RepsW T.S w xs ds ∧ bifV .list (ds.map (deref w.h)) = some (.lst l) ∧ ∀ p vs, w.H p = none → RepsW T.S w vs l → Q (.ref p) (upd w.H p (.lst vs))) (fun pins s σ H xs us Q I rs hw => by
    obtain ⟨w, ds, l, rfl, sim, hd, hr, f⟩ := hw
    exact list_F ok.K (ok.calm hh) I rs sim hd hr f) ok hx hg (ha.pa ok h1) (star_cons (stars e List.mem_cons_self) _ _) (star_plain (fun e he => stars e (List.mem_cons_of_mem _ he)) _ _)) fun σ H Q hw => ?_
  obtain ⟨w, ls, rfl, g⟩ := hw
  simp only [evE, bind_assoc'] at g
  refine ⟨w, ls, rfl, g.bind.mono ?_⟩
  rintro vs H1 ⟨w1, ds, rfl, x1, r1, g1⟩
  have a := g1.2.2
  cases hr : bifV .list (ds.map (deref w1.h)) with
  | none =>
    rw [bind_stk (show bifM .list ds w1.h = .stk by unfold bifM; rw [hr])] at a
    exact a.elim
  | some r =>
    rw [bind_ok (show bifM .list ds w1.h = .ok r w1.h by unfold bifM; rw [hr])] at a
    cases r with
    | lst l => exact ⟨w1, ds, l, rfl, g1.sim, r1, hr, fun p vs hp rv => a w1 rfl (Ext.refl _) g1.sim (p, vs) ⟨l, rfl, hp, rv⟩⟩
    | _ => exact a.elim
theorem match_mk {a : E} (h : matchE T.toNm N (.mk a) sc ex = true) : matchE T.toNm N a sc ex = true := by
  cases a <;> first | (simpa [matchE] using h) | (simp [matchE] at h; done) | (simp only [matchE, Bool.and_eq_true] at h; exact h.2)
theorem all_mk {a : E} (h1 : ∀ b, a = .lst b → All T N b) (h2 : ∀ elt tg it ifs own, a = .comp elt tg it ifs own → All T N elt ∧ All T N ifs ∧ All2 T N it) (h3 : ∀ o b c, a = .bin o b c → All T N b ∧ All T N c) (h4 : ∀ f b, a = .bif f b → All T N b) : All T N (.mk a) := by
  refine .plain (fun {sc W X ex} ok h => ?_) (fun sc ex h => ?_) (fun _ _ => rfl) (fun _ _ => rfl) (fun _ _ => rfl)
  · cases a <;> try (simp [matchE] at h; done)
    · next b => exact pe_mkF (pe_lstF (h1 b rfl) ok (match_mk h))
    · next o b c =>
      obtain ⟨k1, k2⟩ := h3 _ _ _ rfl
      have h' : mkOp o = true ∧ matchE T.toNm N (.bin o b c) sc ex = true := by
        have z : (mkOp o && matchE T.toNm N (.bin o b c) sc ex) = true := by simpa only [matchE] using h
        exact Bool.and_eq_true_iff.mp z
      exact pe_mkG (pe_binF k1 k2 ok h'.1 h'.2)
    · next f b =>
      have h' : f = .list ∧ matchE T.toNm N (.bif f b) sc ex = true := by
        have z : (decide (f = .list) && matchE T.toNm N (.bif f b) sc ex) = true := by simpa only [matchE] using h
        exact ⟨of_decide_eq_true (Bool.and_eq_true_iff.mp z).1, (Bool.and_eq_true_iff.mp z).2⟩
      obtain ⟨rfl, h'⟩ := h'
      exact pe_mkG (pe_bifF (h4 _ _ rfl) ok h')
    · next elt tg it ifs own =>
      obtain ⟨k1, k2, k3⟩ := h2 _ _ _ _ _ rfl
      exact pe_mkF (pe_compF k1 k2 k3.pi ok (match_mk h))
  · cases a <;> try (simp [matchE] at h; done)
    all_goals
      have h' := match_mk h
      cases ex <;> first | rfl | (simp [matchE] at h'; done)
theorem all2 : ∀ e : E, All2 T N e
  | .loc i => .noI (all_loc i) fun _ _ _ => by simp [matchI]
  | .con d => .noI (all_con d) fun _ _ _ => by simp [matchI]
  | .glo g => .noI (all_glo g) fun _ _ _ => by simp [matchI]
  | .fnv f => .noI (all_fnv f) fun _ _ _ => by simp [matchI]
  | .six o a => .noI (all_six (all2 o).all (all2 a).all) fun _ _ _ => by simp [matchI]
  | .joi o a => .noI (all_joi (all2 o).all (all2 a).all) fun _ _ _ => by simp [matchI]
  | .clv i n a => .noI (all_clv (all2 a).all) fun _ _ _ => by simp [matchI]
  | .lrn a => .noI (all_lrn (all2 a).all) fun _ _ _ => by simp [matchI]
  | .rem o a => .noI (all_rem (all2 o).all (all2 a).all) fun _ _ _ => by simp [matchI]
  | .nil => .noI all_nil fun _ _ _ => by simp [matchI]
  | .cons a r => .noI (all_cons (all2 a).all (all2 r).all) fun _ _ _ => by simp [matchI]
  | .tup a => .noI (all_tup (all2 a).all) fun _ _ _ => by simp [matchI]
  | .lst a => .noI (all_lst (all2 a).all) fun _ _ _ => by simp [matchI]
  | .mk a => .noI (all_mk (fun b e => (all2 b).all) (fun elt tg it ifs own e => ⟨(all2 elt).all, (all2 ifs).all, all2 it⟩) (fun o b c e => ⟨(all2 b).all, (all2 c).all⟩) fun f b e => (all2 b).all) fun _ _ _ => by simp [matchI]
  | .bin o a b => .noI (all_bin (all2 a).all (all2 b).all) fun _ _ _ => by simp [matchI]
  | .cmp o a b => .noI (all_cmp (all2 a).all (all2 b).all) fun _ _ _ => by simp [matchI]
  | .chn o o' a b c => .noI (all_chn (all2 a).all (all2 b).all (all2 c).all) fun _ _ _ => by simp [matchI]
  | .neg a => .noI (all_neg (all2 a).all) fun _ _ _ => by simp [matchI]
  | .not a => .noI (all_not (all2 a).all) fun _ _ _ => by simp [matchI]
  | .and a b => .noI (all_and (all2 a).all (all2 b).all) fun _ _ _ => by simp [matchI]
  | .or a b => .noI (all_or (all2 a).all (all2 b).all) fun _ _ _ => by simp [matchI]
  | .ite c a b => .noI (all_ite (all2 c).all (all2 a).all (all2 b).all) fun _ _ _ => by simp [matchI]
  | .idx a b => .noI (all_idx (all2 a).all (all2 b).all) fun _ _ _ => by simp [matchI]
  | .slc a b c => .noI (all_slc (all2 a).all (all2 b).all (all2 c).all) fun _ _ _ => by simp [matchI]
  | .call f a => .noI (all_call (all2 a).all) fun _ _ _ => by simp [matchI]
  | .bif b a => .noI (all_bif (all2 a).all) fun _ _ _ => by simp [matchI]
  | .met m o a => .noI (all_met (all2 o).all (all2 a).all) fun _ _ _ => by simp [matchI]
  | .isi a t => .noI (all_isi (all2 a).all) fun _ _ _ => by simp [matchI]
  | .comp elt tg it ifs own => .noI (all_comp (all2 elt).all (all2 ifs).all (all2 it).pi) fun _ _ _ => by simp [matchI]
  | .sq a => ⟨.none (fun _ _ => by simp [matchE]) (fun _ _ => by simp [matchA]) (fun _ _ => by simp [matchP]) fun _ _ => by simp [matchC], fun ok h => pi_E (fun b e => by cases e; exact (all2 a).all) (fun b e => nomatch e) (fun b c e => nomatch e) (fun b e => nomatch e) (fun b c e => nomatch e) (fun b e => nomatch e) (fun b c d e => nomatch e) ok h⟩
  | .rng1 a => ⟨.none (fun _ _ => by simp [matchE]) (fun _ _ => by simp [matchA]) (fun _ _ => by simp [matchP]) fun _ _ => by simp [matchC], fun ok h => pi_E (fun b e => nomatch e) (fun b e => by cases e; exact (all2 a).all) (fun b c e => nomatch e) (fun b e => nomatch e) (fun b c e => nomatch e) (fun b e => nomatch e) (fun b c d e => nomatch e) ok h⟩
  | .rng2 a b => ⟨.none (fun _ _ => by simp [matchE]) (fun _ _ => by simp [matchA]) (fun _ _ => by simp [matchP]) fun _ _ => by simp [matchC], fun ok h => pi_E (fun b e => nomatch e) (fun b e => nomatch e) (fun c d e => by cases e; exact ⟨(all2 a).all, (all2 b).all⟩) (fun b e => nomatch e) (fun b c e => nomatch e) (fun b e => nomatch e) (fun b c d e => nomatch e) ok h⟩
  | .enm a => ⟨.none (fun _ _ => by simp [matchE]) (fun _ _ => by simp [matchA]) (fun _ _ => by simp [matchP]) fun _ _ => by simp [matchC], fun ok h => pi_enmE (all2 a).all ok h⟩
  | .zip a b => ⟨.none (fun _ _ => by simp [matchE]) (fun _ _ => by simp [matchA]) (fun _ _ => by simp [matchP]) fun _ _ => by simp [matchC], fun ok h => pi_zipE (all2 a).all (all2 b).all ok h⟩
  | .rev a => ⟨.none (fun _ _ => by simp [matchE]) (fun _ _ => by simp [matchA]) (fun _ _ => by simp [matchP]) fun _ _ => by simp [matchC], fun ok h => pi_revE (all2 a).all ok h⟩
  | .rng3 a b c => ⟨.none (fun _ _ => by simp [matchE]) (fun _ _ => by simp [matchA]) (fun _ _ => by simp [matchP]) fun _ _ => by simp [matchC], fun ok h => pi_rng3E (all2 a).all (all2 b).all (all2 c).all ok h⟩
termination_by e => sizeOf e
decreasing_by all_goals first | (simp_wf; omega) | (subst e; simp_wf; omega) | (simp_wf; done) | (subst e; simp_wf; done)
end
end EV

/-! Statements, defs: the evaluator. -/
namespace EV
open PySem

inductive B where
  | nil | cons (s r : B)
  | asg (t e : E)
  | par (t a : E)
  | setx (o i e : E)
  | aug (i : Nat) (o : BOp) (e : E)
  | augx (o i : E) (p : BOp) (e : E)
  | unp (t e : E)
  | ex (e : E) | ret (e : E) | retN
  | ite (c : E) (a b : B)
  | whl (c : E) (b : B)
  | «for» (t it : E) (b : B)
  | forE (t a : E) (b : B)
  | brk | cnt | pas
  | rse (c : Nat) (a : E)
  | try1 (b : B) (cs : List Nat) (i : Option Nat) (h : B)

inductive SRes where
  | stk | err (c : Nat) (d : D) (ls : Ls) (h : Hh) | nx (ls : Ls) (h : Hh) | ret (d : D) (h : Hh) | bk (ls : Ls) (h : Hh) | ct (ls : Ls) (h : Hh)
abbrev SM := Hh → SRes
def onM {α : Type} (m : M α) (ls : Ls) (k : α → SM) : SM := fun h => match m h with
  | .stk => .stk
  | .err c d h' => .err c d ls h'
  | .ok a h' => k a h'
def seqS (s : SM) (k : Ls → SM) : SM := fun h => match s h with
  | .nx ls h' => k ls h'
  | .stk => .stk
  | .err c d ls h' => .err c d ls h'
  | .ret d h' => .ret d h'
  | .bk ls h' => .bk ls h'
  | .ct ls h' => .ct ls h'
/-- a loop's turn, then what follows it -/
def turnS (s : SM) (k : Ls → SM) : SM := fun h => match s h with
  | .nx ls h' => k ls h'
  | .ct ls h' => k ls h'
  | .bk ls h' => .nx ls h'
  | .stk => .stk
  | .err c d ls h' => .err c d ls h'
  | .ret d h' => .ret d h'
def stkS : SM := fun _ => .stk
def forS (body : D → Ls → SM) : List D → Ls → SM
  | [], ls => fun h => .nx ls h
  | d :: r, ls => turnS (body d ls) fun ls' => forS body r ls'
/-- a walk of a list that may change on the way, each item behind its place -/
def liveS (d : D) (body : D → Ls → SM) : Nat → Nat → Ls → SM
  | 0, _, _ => stkS
  | n + 1, i, ls => fun h => match deref h d with
    | .lst l => (match l[i]? with
      | some x => turnS (body (.tup [.int (i : Nat), x]) ls) (fun ls' => liveS d body n (i + 1) ls') h
      | none => .nx ls h)
    | _ => .stk
theorem liveS_s {d : D} {body : D → Ls → SM} {n i : Nat} {ls : Ls} {h : Hh} {l : List D} (e : deref h d = .lst l) : liveS d body (n + 1) i ls h = (match l[i]? with
    | some x => turnS (body (.tup [.int (i : Nat), x]) ls) (fun ls' => liveS d body n (i + 1) ls') h
    | none => .nx ls h) := by
  show (match deref h d with
    | .lst l => (match l[i]? with
      | some x => turnS (body (.tup [.int (i : Nat), x]) ls) (fun ls' => liveS d body n (i + 1) ls') h
      | none => SRes.nx ls h)
    | _ => .stk) = _
  rw [e]
def whlS (c : Ls → M Bool) (body : Ls → SM) : Nat → Ls → SM
  | 0, _ => stkS
  | n + 1, ls => onM (c ls) ls fun k => match k with
    | true => turnS (body ls) fun ls' => whlS c body n ls'
    | false => fun h => .nx ls h
/-- a op= b, ints -/
def augI (o : BOp) (i j : Int) : Option Int := match o with
  | .add => some (i + j)
  | .sub => some (i - j)
  | .mul => if smallI i || smallI j then some (i * j) else none
  | .fdiv => if decide (0 < j) && decide (j < 1073741824) then some (i / j) else none
  | .mod => if decide (0 < j) then some (i % j) else none
  | .band => some (Builtin.bitAnd i j)
  | .bxor => some (Builtin.bitXor i j)
  | _ => none
def augV (o : BOp) (a b : D) : Option D := match a, b with
  | .int i, .int j => (augI o i j).map .int
  | _, _ => none
def augM (o : BOp) (a b : D) : M D := fun h => match augV o a b with
  | some d => .ok d h
  | none => .stk
/-- a list unpacked -/
def unpT : E → D → Ls → Option Ls
  | .tup t, .lst l, ls => bindT.bindTs t l ls
  | _, _, _ => none
/-- o[i], o a list of ours -/
def getV (h : Hh) (o i : D) : Option D := match o, i with
  | .ref n, .int k => (match h.objs[n]? with
    | some (.lst l) => atIx l k
    | _ => none)
  | _, _ => none
def getM (o i : D) : M D := fun h => match getV h o i with
  | some d => .ok d h
  | none => .stk
/-- o[i] = v -/
def setM (o i v : D) : M Unit := fun h => match o, i with
  | .ref n, .int k => (match h.objs[n]? with
    | some (.lst l) => (match ixOf l.length k with
      | some j => setO n (.lst (l.set j v)) h
      | none => .stk)
    | _ => .stk)
  | _, _ => .stk
def optS (o : Option Ls) : SM := fun h => match o with
  | some ls => .nx ls h
  | none => .stk

section
/-- what an except suite asks of its exception: isinstance (below 1000), a field -/
def hotC (xf : Nat → List Nat) (sub : Nat → Nat → Option Bool) (c : Nat) (d : D) : Nat → List D → M D := fun f _ => if f < 1000 then liftO ((sub c f).map D.bl) else match d with
  | .tup l => liftO (((xf c).zip l).lookup (f - 1000))
  | _ => stuck
/-- does one of the classes catch it -/
def anySub (sub : Nat → Nat → Option Bool) (c : Nat) : List Nat → Option Bool
  | [] => some false
  | k :: r => match sub c k, anySub sub c r with
    | some a, some b => some (a || b)
    | _, _ => none
/-- the exception's name goes; a suite raises nothing -/
def unsetS (i : Option Nat) (s : SM) : SM := fun h => match s h with
  | .nx ls h' => .nx (match i with | some j => ls.set j none | none => ls) h'
  | .bk ls h' => .bk (match i with | some j => ls.set j none | none => ls) h'
  | .ct ls h' => .ct (match i with | some j => ls.set j none | none => ls) h'
  | .ret d h' => .ret d h'
  | .err _ _ _ _ => .stk
  | .stk => .stk
/-- the names ahead of the suite -/
def preS (i : Option Nat) (ls : Ls) : Option Ls := match i with
  | some j => if decide (j < ls.length) then some (ls.set j none) else none
  | none => some ls
variable (xf : Nat → List Nat) (gl : Nat → Option D) (X : Nat → List D → Option D) (sub : Nat → Nat → Option Bool) (fuel : Nat)
def evB : B → (Nat → List D → M D) → Ls → SM
  | .nil, C, ls => fun h => .nx ls h
  | .cons s r, C, ls => seqS (evB s C ls) fun ls' => evB r C ls'
  | .asg t e, C, ls => onM (evE C gl e ls) ls fun d => optS (bindT t d ls)
  | .par t a, C, ls => onM (evA C gl a ls) ls fun l => optS (bindT.bindTs t l ls)
  | .setx o i e, C, ls => onM (do
      let v ← evE C gl e ls
      let x ← evE C gl o ls
      let y ← evE C gl i ls
      setM x y v) ls fun _ => fun h => .nx ls h
  | .aug i o e, C, ls => (match ls[i]? with
    | some (some x) => onM (do
        let y ← evE C gl e ls
        augM o x y) ls fun d => optS (some (ls.set i (some d)))
    | _ => stkS)
  | .unp t e, C, ls => onM (evE C gl e ls) ls fun d => fun h => optS (unpT t (deref h d) ls) h
  | .augx o i p e, C, ls => onM (do
      let x ← evE C gl o ls
      let y ← evE C gl i ls
      let a ← getM x y
      let v ← evE C gl e ls
      let r ← augM p a v
      setM x y r) ls fun _ => fun h => .nx ls h
  | .ex e, C, ls => onM (evE C gl e ls) ls fun _ => fun h => .nx ls h
  | .ret e, C, ls => onM (evE C gl e ls) ls fun d => fun h => .ret d h
  | .retN, C, ls => fun h => .ret .non h
  | .ite c a b, C, ls => onM (evE C gl c ls >>= truthM) ls fun k => match k with
    | true => evB a C ls
    | false => evB b C ls
  | .whl c b, C, ls => whlS (fun ls => evE C gl c ls >>= truthM) (evB b C) fuel ls
  | .for t it b, C, ls => onM (evI C gl it ls) ls fun l => forS (fun d ls' => seqS (optS (bindT t d ls')) (evB b C)) l ls
  | .forE t a b, C, ls => onM (evE C gl a ls) ls fun x => liveS x (fun d ls' => seqS (optS (bindT t d ls')) (evB b C)) fuel 0 ls
  | .brk, C, ls => fun h => .bk ls h
  | .cnt, C, ls => fun h => .ct ls h
  | .pas, C, ls => fun h => .nx ls h
  | .rse c a, C, ls => onM (evA C gl a ls) ls fun l => fun h => match X c l with
    | some d => .err c d ls h
    | none => .stk
  | .try1 b cs i s, C, ls => fun h => match evB b C ls h with
    | .err c d ls' h' => (match anySub sub c cs with
      | some true => (match preS i ls' with
        | some ls2 => unsetS i (evB s (hotC xf sub c d) ls2) h'
        | none => .stk)
      | some false => .err c d ls' h'
      | none => .stk)
    | r => r

/-- a def: how many parameters, how many names, whether its frame is let go, its body -/
structure Fn where
  ar : Nat
  nn : Nat
  gc : Bool
  body : B
def runF (C : Nat → List D → M D) (f : Fn) (ds : List D) : M D := frame f.gc fun h =>
  if decide (ds.length = f.ar) && decide (f.ar ≤ f.nn) then (match evB xf gl X sub fuel f.body C (ds.map some ++ List.replicate (f.nn - ds.length) none) h with
    | .nx _ h' => .ok .non h'
    | .ret d h' => .ok d h'
    | .err c d _ h' => .err c d h'
    | _ => .stk) else .stk
end
/-- the defs, to a depth -/
def evF (Γ : Nat → Option Fn) (xf : Nat → List Nat) (gl : Nat → Option D) (X : Nat → List D → Option D) (sub : Nat → Nat → Option Bool) (fuel : Nat) : Nat → Nat → List D → M D
  | 0, _, _ => stuck
  | n + 1, f, ds => match Γ f with
    | some fn => runF xf gl X sub fuel (evF Γ xf gl X sub fuel n) fn ds
    | none => stuck
end EV

/-! Statements: what the evaluator reckons, the model does. -/
namespace EV
open PySem PySem.Spec PyProof.Rows L2

theorem PS.imp {X : Cx} {st : Stmt} {t t' : TS} (h : PS X st t) (i : ∀ D σ H, t' D σ H → t D σ H) : PS X st t' := ⟨fun pins s σ H D I q => h.run pins s σ H D I (i D σ H q)⟩
theorem PSs.imp {X : Cx} {st : List Stmt} {t t' : TS} (h : PSs X st t) (i : ∀ D σ H, t' D σ H → t D σ H) : PSs X st t' := ⟨fun pins s σ H D I q => h.run pins s σ H D I (i D σ H q)⟩

def AfterS (S : St0) (W : Wl) (D : Ends) (w : Wd) : SRes → Prop
  | .stk => False
  | .err c d ls h => ∀ w' σ', w'.h = h → Ext w w' → Sim S w' → Locs W S w' σ' ls → ∀ cls dd, RepX S w' cls dd c d → W.wx cls dd σ' w'.H
  | .nx ls h => ∀ w' σ', w'.h = h → Ext w w' → Sim S w' → Locs W S w' σ' ls → D.nx σ' w'.H
  | .ret d h => ∀ w', w'.h = h → Ext w w' → Sim S w' → ∀ v, RepW S w' v d → D.rt v w'.H
  | .bk ls h => ∀ w' σ', w'.h = h → Ext w w' → Sim S w' → Locs W S w' σ' ls → D.bk σ' w'.H
  | .ct ls h => ∀ w' σ', w'.h = h → Ext w w' → Sim S w' → Locs W S w' σ' ls → D.ct σ' w'.H
theorem AfterS.from {S : St0} {W : Wl} {Dd : Ends} {w w1 : Wd} {r : SRes} (x : Ext w w1) (a : AfterS S W Dd w r) : AfterS S W Dd w1 r := by
  cases r with
  | stk => exact a
  | err c d ls h => exact fun w' σ' e x' => a w' σ' e (x.trans x')
  | nx ls h => exact fun w' σ' e x' => a w' σ' e (x.trans x')
  | ret d h => exact fun w' e x' => a w' e (x.trans x')
  | bk ls h => exact fun w' σ' e x' => a w' σ' e (x.trans x')
  | ct ls h => exact fun w' σ' e x' => a w' σ' e (x.trans x')
def GoS (S : St0) (W : Wl) (Dd : Ends) (σ : L2.St) (ls : Ls) (w : Wd) (m : SM) : Prop := Sim S w ∧ Locs W S w σ ls ∧ AfterS S W Dd w (m w.h)
def RS (S : St0) (W : Wl) (m : Ls → SM) : TS := fun Dd σ H => ∃ w ls, w.H = H ∧ GoS S W Dd σ ls w (m ls)
section
variable {α β : Type} {S : St0} {W : Wl} {Dd : Ends} {σ : L2.St} {ls : Ls} {w : Wd}
theorem GoS.onM {R : Wd → β → α → Prop} {m : M α} {k : α → SM} (g : GoS S W Dd σ ls w (EV.onM m ls k)) : Go S W σ R (fun b H1 => ∃ w1 a, w1.H = H1 ∧ Ext w w1 ∧ R w1 b a ∧ GoS S W Dd σ ls w1 (k a)) ls w m := by
  refine ⟨g.1, g.2.1, ?_⟩
  have a := g.2.2
  unfold EV.onM at a
  cases e : m w.h with
  | stk => rw [e] at a; exact a
  | err c d h' =>
    rw [e] at a
    exact fun w' e' x s cls dd r => a w' σ e' x s (g.2.1.ext x.toExt0) cls dd r
  | ok b h' =>
    rw [e] at a
    intro w1 e1 x s v r
    refine ⟨w1, b, rfl, x, r, s, g.2.1.ext x.toExt0, ?_⟩
    rw [e1]
    exact a.from x
theorem GoS.seq {s : SM} {k : Ls → SM} (g : GoS S W Dd σ ls w (seqS s k)) : GoS S W { Dd with nx := fun σ' H' => ∃ w' ls', w'.H = H' ∧ GoS S W Dd σ' ls' w' (k ls') } σ ls w s := by
  refine ⟨g.1, g.2.1, ?_⟩
  have a := g.2.2
  unfold seqS at a
  cases e : s w.h with
  | stk => rw [e] at a; exact a
  | err c d ls h' => rw [e] at a; exact a
  | nx ls' h' =>
    rw [e] at a
    intro w1 σ1 e1 x s1 l1
    refine ⟨w1, ls', rfl, s1, l1, ?_⟩
    rw [e1]
    exact a.from x
  | ret d h' => rw [e] at a; exact a
  | bk ls h' => rw [e] at a; exact a
  | ct ls h' => rw [e] at a; exact a
theorem GoS.turn {s : SM} {k : Ls → SM} (g : GoS S W Dd σ ls w (turnS s k)) :
    GoS S W { Dd with nx := fun σ' H' => ∃ w' ls', w'.H = H' ∧ Ext w w' ∧ GoS S W Dd σ' ls' w' (k ls'), ct := fun σ' H' => ∃ w' ls', w'.H = H' ∧ Ext w w' ∧ GoS S W Dd σ' ls' w' (k ls'), bk := Dd.nx } σ ls w s := by
  refine ⟨g.1, g.2.1, ?_⟩
  have a := g.2.2
  unfold turnS at a
  cases e : s w.h with
  | stk => rw [e] at a; exact a
  | err c d ls h' => rw [e] at a; exact a
  | nx ls' h' =>
    rw [e] at a
    intro w1 σ1 e1 x s1 l1
    refine ⟨w1, ls', rfl, x, s1, l1, ?_⟩
    rw [e1]
    exact a.from x
  | ret d h' => rw [e] at a; exact a
  | bk ls h' => rw [e] at a; exact a
  | ct ls' h' =>
    rw [e] at a
    intro w1 σ1 e1 x s1 l1
    refine ⟨w1, ls', rfl, x, s1, l1, ?_⟩
    rw [e1]
    exact a.from x
theorem GoS.not {m : SM} (g : GoS S W Dd σ ls w m) (h : ∀ h, m h = .stk) : False := by
  have a := g.2.2
  rw [h] at a
  exact a
theorem GoS.optS {o : Option Ls} (g : GoS S W Dd σ ls w (EV.optS o)) : ∃ ls', o = some ls' ∧ ∀ σ', Locs W S w σ' ls' → Dd.nx σ' w.H := by
  cases o with
  | none => exact (g.not fun _ => rfl).elim
  | some ls' => exact ⟨ls', rfl, fun σ' l => g.2.2 w σ' rfl (Ext.refl _) g.1 l⟩
theorem GoS.nx {ls' : Ls} (g : GoS S W Dd σ ls w (fun h => .nx ls' h)) {σ' : L2.St} (l : Locs W S w σ' ls') : Dd.nx σ' w.H := g.2.2 w σ' rfl (Ext.refl _) g.1 l
end

structure LeE (D1 D2 : Ends) : Prop where
  nx : ∀ σ H, D1.nx σ H → D2.nx σ H
  rt : ∀ v H, D1.rt v H → D2.rt v H
  bk : ∀ σ H, D1.bk σ H → D2.bk σ H
  ct : ∀ σ H, D1.ct σ H → D2.ct σ H
theorem GoS.mono {S : St0} {W : Wl} {D1 D2 : Ends} {σ : L2.St} {ls : Ls} {w : Wd} {m : SM} (g : GoS S W D1 σ ls w m) (i : LeE D1 D2) : GoS S W D2 σ ls w m := by
  refine ⟨g.1, g.2.1, ?_⟩
  have a := g.2.2
  cases e : m w.h with
  | stk => rw [e] at a; exact a
  | err c d ls h => rw [e] at a; exact a
  | nx ls h => rw [e] at a; exact fun w' σ' e' x s l => i.nx _ _ (a w' σ' e' x s l)
  | ret d h => rw [e] at a; exact fun w' e' x s v r => i.rt _ _ (a w' e' x s v r)
  | bk ls h => rw [e] at a; exact fun w' σ' e' x s l => i.bk _ _ (a w' σ' e' x s l)
  | ct ls h => rw [e] at a; exact fun w' σ' e' x s l => i.ct _ _ (a w' σ' e' x s l)
/-! ### texts matched -/
def localN (sc : Scope) : Expr → Bool
  | .Name x _ => (match sc.names.lookup x with | some .local => true | _ => false)
  | _ => false
/-- is the list that a comprehension makes stored within it -/
def swB (sc : Scope) (tg v : Expr) : Bool := match tg, v with
  | .Name t pos, .ListComp _ _ s vp => decide (sc.names.lookup t = some .local) && (pos.line == vp.line) && !(s.names.any fun (n, k) => n == t && (k == .local || k == .cell))
  | _, _ => false
def nmF (sc : Scope) (line : Nat) : Expr → Option Str
  | .Name id pos => if decide (sc.names.lookup id = some .local) && pos.line == line then some id else none
  | _ => none
/-- which names are stored from the right -/
def swapD (ts vs : List Expr) (names : List Str) : Option (Option (List Str)) :=
  if !(ts.length == 2 || ts.length == 3) || vs.length != ts.length then some none else
  if vs.any (fun e => !noStar e) then some none else
  if names.length != ts.length || names.eraseDups.length != names.length then some none else
  if vs.all (foldedForSure 8) then some none else
  if vs.all (constantsAlone 8) then none else some (some names)
def swapN (sc : Scope) (ts vs : List Expr) : Option (Option (List Str)) := swapD ts vs (ts.filterMap (nmF sc ((ts.head?.map (·.pos.line)).getD 0)))
def noSwap (sc : Scope) (tg v : Expr) : Bool := match tg, v with
  | .Tuple ts _ _, .Tuple vs _ _ => (match swapN sc ts vs with | some none => true | _ => false)
  | _, _ => true
def namesOf : List Expr → List Str
  | .Name x _ :: r => x :: namesOf r
  | _ => []
def isComp : E → Bool
  | .comp _ _ _ _ _ => true
  | .mk (.comp _ _ _ _ _) => true
  | _ => false
/-- not the exception's own name -/
def offHs (T : Nm) (t : E) : Bool := match T.hs with
  | some j => !(slotsT t).contains j
  | none => true
def isLocE : E → Bool
  | .loc _ => true
  | _ => false
/-- what an except suite asks of its exception n -/
def hmF (T : Nm) (nm : Option Str) (f : Nat) (sc : Scope) (ex : Expr) : Bool := match nm with
  | none => false
  | some n => (match ex with
    | .Call (.Name g _) [.Name m _, .Name x _] [] _ => decide (f < 1000) && decide (g = "isinstance") && isGl sc g && decide (m = n) && decide (x = T.xn f) && decide (f < T.nx) && isGl sc x
    | .Attribute (.Name m _) a _ => decide (1000 ≤ f) && decide (m = n) && decide (a = T.fd (f - 1000))
    | _ => false)
def hotT (T : Nm) (nm : Option Str) (i : Option Nat) : Nm := { T with nf := 0, hot := true, hs := i, hm := hmF T nm }
def nmOk (N : List Str) (sc : Scope) (i : Option Nat) (nm : Option Str) : Bool := match i, nm with
  | some j, some n => decide (N[j]? = some n) && decide (sc.names.lookup n = some .local) && plainName n
  | none, none => true
  | _, _ => false
section Mt
variable (N : List Str)
/-- the classes of a clause -/
def clsOk (T : Nm) (sc : Scope) : List Nat → Option Str → Expr → Bool
  | [k], _, .Name x _ => decide (x = T.xn k) && decide (k < T.nx) && isGl sc x
  | [k, l], none, .Tuple [.Name x _, .Name y _] _ _ => decide (x = T.xn k) && decide (k < T.nx) && isGl sc x && decide (y = T.xn l) && decide (l < T.nx) && isGl sc y
  | _, _, _ => false
mutual
def mS : B → Nm → Scope → Stmt → Bool
  | .asg t e, T, sc, st => (match st with | .Assign [tg] v _ => (match tg with | .Name _ _ => true | .Tuple _ _ _ => true | _ => false) && (!T.hot || isLocE t) && offHs T t && matchT N sc t tg && matchE T N e sc v && noSwap sc tg v && (!swB sc tg v || isComp e) | _ => false)
  | .par t a, T, sc, st => (match st with | .Assign [.Tuple ts _ _] (.Tuple vs _ _) _ => !T.hot && decide (swapN sc ts vs = some (some (namesOf ts))) && ts.all (localN sc) && decide ((slotsT t).Nodup) && matchTs N sc t ts && matchA T N a sc vs && decide (ts.length = vs.length) | _ => false)
  | .setx o i e, T, sc, st => (match st with | .Assign [.Subscript x y _] v _ => (match y with | .Slice _ _ _ _ => false | _ => true) && matchE T N e sc v && matchE T N o sc x && matchE T N i sc y | _ => false)
  | .unp t e, T, sc, st => (match st with | .Assign [.Tuple es _ _] (.Name x px) _ => !T.hot && (match t with | .tup ts => matchTs N sc ts es | _ => false) && matchE T N e sc (.Name x px) | _ => false)
  | .augx o i p e, T, sc, st => (match st with | .AugAssign (.Subscript x y _) op v _ => !T.hot && (match y with | .Slice _ _ _ _ => false | _ => true) && decide (op = opOf p) && matchE T N o sc x && matchE T N i sc y && matchE T N e sc v | _ => false)
  | .aug i o e, T, sc, st => (match st with | .AugAssign (.Name x _) op v _ => !T.hot && decide (op = opOf o) && isOwn N sc i x && matchE T N e sc v | _ => false)
  | .ex e, T, sc, st => (match st with | .Expr v _ => matchE T N e sc v && !isComp e && (match v with | .ListComp _ _ _ _ => false | _ => true) | _ => false)
  | .ret e, T, sc, st => (match st with | .Return (some v) _ => matchE T N e sc v | _ => false)
  | .retN, T, _, st => (match st with | .Return none _ => true | _ => false)
  | .ite c a b, T, sc, st => (match st with | .If z x y _ => matchE T N c sc z && mB a T sc x && mB b T sc y | _ => false)
  | .whl c b, T, sc, st => (match st with | .While z x [] _ => !T.hot && matchE T N c sc z && mB b T sc x | _ => false)
  | .for t it b, T, sc, st => (match st with | .For tg i x [] _ => !T.hot && matchT N sc t tg && matchI T N it sc i tg && mB b T sc x | _ => false)
  | .forE t a b, T, sc, st => (match st with | .For tg (.Call (.Name x _) [y] [] _) z [] _ => !T.hot && matchT N sc t tg && isTupT tg && decide (x = "enumerate") && isGl sc x && matchE T N a sc y && mB b T sc z | _ => false)
  | .brk, T, _, st => (match st with | .Break _ => true | _ => false)
  | .cnt, T, _, st => (match st with | .Continue _ => true | _ => false)
  | .pas, T, _, st => (match st with | .Pass _ => true | .Expr (.Constant (.str _) _ _) _ => true | _ => false)
  | .try1 b cs i s, T, sc, st => (match st with | .Try body [.ExceptHandler (some tx) nm (b0 :: suite) _] [] [] _ => !T.hot && mB b T sc body && clsOk T sc cs nm tx && nmOk N sc i nm && mB s (hotT T nm i) sc (b0 :: suite) | _ => false)
  | .rse c a, T, sc, st => (match st with | .Raise (some (.Call (.Name x _) es [] _)) none _ => !T.hot && decide (x = T.xn c) && decide (c < T.nx) && isGl sc x && matchA T N a sc es | _ => false)
  | _, _, _, _ => false
def mB : B → Nm → Scope → List Stmt → Bool
  | .nil, T, _, sts => (match sts with | [] => true | _ => false)
  | .cons s r, T, sc, sts => (match sts with | st :: t => mS s T sc st && mB r T sc t | _ => false)
  | _, _, _, _ => false
end
end Mt
abbrev matchS (T : Nm) (N : List Str) (b : B) (sc : Scope) (st : Stmt) : Bool := mS N b T sc st
abbrev matchB (T : Nm) (N : List Str) (b : B) (sc : Scope) (sts : List Stmt) : Bool := mB N b T sc sts
variable {T : Tx} {N : List Str}
/-- the exception of class c with the values ds is made: what is known of it -/
def MkX (S : St0) (X2 : Nat → List D → Option D) (X : Cx) (c : Nat) : Prop := ∀ (pins : List (Addr × Obj)) (s : Shared) (σ : L2.St) (H : Hp) (vs : List V) (us : List Value) (Q : XK), Inv X pins σ H s → Vals vs us →
  (∃ w ds d, w.H = H ∧ Sim S w ∧ RepsW S w vs ds ∧ X2 c ds = some d ∧ ∀ w' dd, w'.h = w.h → Ext w w' → Sim S w' → RepX S w' (.ref (S.ca c)) dd c d → Q (.ref (S.ca c)) dd w'.H) →
  wpAny (model X.prog X.w) X.A (call (.ref (S.ca c)) us) (MkP X pins σ Q) X.xe s
structure OkB (T : Tx) (N : List Str) (X2 : Nat → List D → Option D) (sub : Nat → Nat → Option Bool) (sc : Scope) (W : Wl) (X : Cx) : Prop extends Ok T N sc W X where
  fn : ∀ x, X.fn x = true
  hs : ∀ i v, W.slot = some (i, v) → T.hs = some i
  hs0 : T.hot = false → W.slot = none ∧ ∀ w, W.inv w
  fdq : T.fd = T.S.fld
  po : T.hot = false → PassesOwn (model X.prog X.w) X.A X.env X.xe
  st : X.stack = X.env :: X.outer
  fr : X.env.frame = some X.env.locals
  kd : X.env.scope.kind = .function
  xg : ∀ c, c < T.nx → X.mg (T.xn c) = some (.ref (T.S.ca c)) ∧ PySem.W.keepIn X.K (.ref (T.S.ca c)) = true
  xm : T.hot = false → ∀ c, c < T.nx → ∀ pn xe, MkX T.S X2 (X.tr pn xe) c
  xs : ∀ c c' b, sub c c' = some b → PySem.W.exmOne X.K (.ref (T.S.ca c)) (.ref (T.S.ca c')) = some b ∧ PySem.W.kitOne X.K (.ref (T.S.ca c)) (.ref (T.S.ca c')) = some b ∧ ExcC X.K (T.S.ca c)
  xl : ∀ c f, f ∈ T.S.xf c → XfC X.K (T.S.ca c) ∧ PySem.W.findIn X.K (.ref (T.S.ca c)) (T.S.fld f) = some none ∧ ∀ g, g ∈ T.S.xf c → T.S.fld f = T.S.fld g → f = g
section
variable {X2 : Nat → List D → Option D} {sub : Nat → Nat → Option Bool}
theorem OkB.tg {sc : Scope} {W : Wl} {X : Cx} (ok : OkB T N X2 sub sc W X) : TgOk N sc X := ⟨ok.hN, ok.nd, fun x k _ e => by rw [ok.sc]; exact e, fun x _ => ok.fn x⟩
theorem OkB.bk {sc : Scope} {W : Wl} {X : Cx} (ok : OkB T N X2 sub sc W X) : X.env.blockKind = .function := by unfold Env.blockKind; rw [ok.kd]; rfl
end

structure AllS (T : Tx) (N : List Str) (X2 : Nat → List D → Option D) (sub : Nat → Nat → Option Bool) (fuel : Nat) (b : B) : Prop where
  ps : ∀ {sc : Scope} {W : Wl} {X : Cx} {st : Stmt}, OkB T N X2 sub sc W X → matchS T.toNm N b sc st = true → PS X st (RS T.S W (evB T.S.xf T.gl X2 sub fuel b T.C))
  pss : ∀ {sc : Scope} {W : Wl} {X : Cx} {sts : List Stmt}, OkB T N X2 sub sc W X → matchB T.toNm N b sc sts = true → PSs X sts (RS T.S W (evB T.S.xf T.gl X2 sub fuel b T.C))

section
variable {X2 : Nat → List D → Option D} {sub : Nat → Nat → Option Bool} {fuel : Nat} {sc : Scope} {W : Wl} {X : Cx} {st : Stmt}
theorem allS_nil : AllS T N X2 sub fuel .nil where
  ps := fun _ h => by simp [matchS, mS] at h
  pss := fun {sc W X sts} ok h => by
    cases sts with
    | cons _ _ => simp [matchB, mB] at h
    | nil =>
      refine PSs.imp pss_nil fun Dd σ H hw => ?_
      obtain ⟨w, ls, rfl, g⟩ := hw
      simp only [evB] at g
      exact g.nx g.2.1
theorem allS_cons {s r : B} (hs : AllS T N X2 sub fuel s) (hr : AllS T N X2 sub fuel r) : AllS T N X2 sub fuel (.cons s r) where
  ps := fun _ h => by simp [matchS, mS] at h
  pss := fun {sc W X sts} ok h => by
    cases sts with
    | nil => simp [matchB, mB] at h
    | cons st t =>
      simp only [matchB, mB, Bool.and_eq_true] at h
      refine PSs.imp (pss_cons (hs.ps ok h.1) (hr.pss ok h.2)) fun Dd σ H hw => ?_
      obtain ⟨w, ls, rfl, g⟩ := hw
      simp only [evB] at g
      exact ⟨w, ls, rfl, g.seq⟩
theorem AllS.one {b : B} (ps : ∀ {sc : Scope} {W : Wl} {X : Cx} {st : Stmt}, OkB T N X2 sub sc W X → matchS T.toNm N b sc st = true → PS X st (RS T.S W (evB T.S.xf T.gl X2 sub fuel b T.C))) (n : ∀ sc sts, matchB T.toNm N b sc sts = false) : AllS T N X2 sub fuel b :=
  ⟨ps, fun _ h => by rw [n] at h; cases h⟩
theorem allS_ret {e : E} : AllS T N X2 sub fuel (.ret e) := by
  refine .one (fun {sc W X st} ok h => ?_) (fun _ _ => by simp [matchB, mB])
  cases st <;> try (simp [matchS, mS] at h; done)
  next v p =>
  cases v <;> try (simp [matchS, mS] at h; done)
  simp only [matchS, mS] at h
  refine PS.imp (ps_ret ((all2 e).all.pe ok.toOk h)) fun Dd σ H hw => ?_
  obtain ⟨w, ls, rfl, g⟩ := hw
  simp only [evB] at g
  refine ⟨w, ls, rfl, g.onM.mono ?_⟩
  rintro v H1 ⟨w1, d, rfl, x, r, g1⟩
  exact g1.2.2 w1 rfl (Ext.refl _) g1.1 v r
theorem allS_retN : AllS T N X2 sub fuel .retN := by
  refine .one (fun {sc W X st} ok h => ?_) (fun _ _ => by simp [matchB, mB])
  cases st <;> try (simp [matchS, mS] at h; done)
  next v p =>
  cases v <;> try (simp [matchS, mS] at h; done)
  refine PS.imp ps_retN fun Dd σ H hw => ?_
  obtain ⟨w, ls, rfl, g⟩ := hw
  simp only [evB] at g
  exact g.2.2 w rfl (Ext.refl _) g.1 _ .non
theorem allS_brk : AllS T N X2 sub fuel .brk := by
  refine .one (fun {sc W X st} ok h => ?_) (fun _ _ => by simp [matchB, mB])
  cases st <;> try (simp [matchS, mS] at h; done)
  refine PS.imp ps_break fun Dd σ H hw => ?_
  obtain ⟨w, ls, rfl, g⟩ := hw
  simp only [evB] at g
  exact g.2.2 w σ rfl (Ext.refl _) g.1 g.2.1
theorem allS_cnt : AllS T N X2 sub fuel .cnt := by
  refine .one (fun {sc W X st} ok h => ?_) (fun _ _ => by simp [matchB, mB])
  cases st <;> try (simp [matchS, mS] at h; done)
  refine PS.imp ps_continue fun Dd σ H hw => ?_
  obtain ⟨w, ls, rfl, g⟩ := hw
  simp only [evB] at g
  exact g.2.2 w σ rfl (Ext.refl _) g.1 g.2.1
theorem allS_pas : AllS T N X2 sub fuel .pas := by
  refine .one (fun {sc W X st} ok h => ?_) (fun _ _ => by simp [matchB, mB])
  have fin : ∀ Dd σ H, RS T.S W (evB T.S.xf T.gl X2 sub fuel .pas T.C) Dd σ H → tNext Dd σ H := fun Dd σ H hw => by
    obtain ⟨w, ls, rfl, g⟩ := hw
    simp only [evB] at g
    exact g.nx g.2.1
  cases st <;> try (simp [matchS, mS] at h; done)
  · next v p =>
    cases v <;> try (simp [matchS, mS] at h; done)
    next c k p2 =>
    cases c <;> try (simp [matchS, mS] at h; done)
    exact PS.imp ps_doc fin
  · exact PS.imp ps_pass fin
theorem allS_ite {c : E} {a b : B} (ha : AllS T N X2 sub fuel a) (hb : AllS T N X2 sub fuel b) : AllS T N X2 sub fuel (.ite c a b) := by
  refine .one (fun {sc W X st} ok h => ?_) (fun _ _ => by simp [matchB, mB])
  cases st <;> try (simp [matchS, mS] at h; done)
  next z x y p =>
  simp only [matchS, mS, Bool.and_eq_true] at h
  obtain ⟨⟨h1, h2⟩, h3⟩ := h
  refine PS.imp (ps_if ((all2 c).all.pt ok.toOk h1) (ha.pss ok h2) (hb.pss ok h3)) fun Dd σ H hw => ?_
  obtain ⟨w, ls, rfl, g⟩ := hw
  simp only [evB] at g
  refine ⟨w, ls, rfl, g.onM.mono ?_⟩
  rintro k H1 ⟨w1, k', rfl, x, rfl, g1⟩
  cases k with
  | true => exact ⟨w1, ls, rfl, g1⟩
  | false => exact ⟨w1, ls, rfl, g1⟩
end
end EV

/-! Statements, the second part. -/
namespace EV
open PySem PySem.Spec PyProof.Rows L2
section
variable {T : Tx} {N : List Str} {X2 : Nat → List D → Option D} {sub : Nat → Nat → Option Bool} {fuel : Nat} {sc : Scope} {W : Wl} {X : Cx} {st : Stmt}

theorem match_noSet {e : E} {ex : Expr} (h : matchE T.toNm N e sc ex = true) : (∀ a b c p, ex ≠ .SetComp a b c p) ∧ (∀ a b c d p, ex ≠ .DictComp a b c d p) := by
  refine ⟨?_, ?_⟩
  · rintro a b c p rfl
    cases e
    case mk a => cases a <;> simp [matchE] at h
    case call f a =>
      simp only [matchE] at h
      split at h
      · simp [hotShape] at h
      · cases h
    all_goals simp [matchE] at h
  · rintro a b c d p rfl
    cases e
    case mk a => cases a <;> simp [matchE] at h
    case call f a =>
      simp only [matchE] at h
      split at h
      · simp [hotShape] at h
      · cases h
    all_goals simp [matchE] at h
theorem swaps_no {v : Expr} {t : Option Expr} {l : Nat} {env : Env} (h : ∀ a b c p, v ≠ .ListComp a b c p) (h2 : (∀ a b c p, v ≠ .SetComp a b c p) ∧ (∀ a b c d p, v ≠ .DictComp a b c d p)) : swapsWith v t l env = pure false := by
  cases v <;> first
    | rfl
    | exact absurd rfl (h _ _ _ _)
    | exact absurd rfl (h2.1 _ _ _ _)
    | exact absurd rfl (h2.2 _ _ _ _ _)
theorem swaps_lc {el : Expr} {gs : List Comprehension} {s : Scope} {vp pos : Pos} {t : Str} {l : Nat} {env : Env} (hb : env.blockKind = .function) :
    swapsWith (.ListComp el gs s vp) (some (.Name t pos)) l env = pure (decide (env.scope.names.lookup t = some .local) && (pos.line == vp.line) && !(s.names.any fun (n, k) => n == t && (k == .local || k == .cell))) := by
  unfold swapsWith
  simp only [hb]
  have e : (env.kindOf t == some .local) = decide (env.scope.names.lookup t = some .local) := by
    show (env.scope.names.lookup t == some .local) = _
    rw [Bool.eq_iff_iff, beq_iff_eq, decide_eq_true_iff]
  rw [e]
  rfl

theorem allS_ex {e : E} : AllS T N X2 sub fuel (.ex e) := by
  refine .one (fun {sc W X st} ok h => ?_) (fun _ _ => by simp [matchB, mB])
  cases st <;> try (simp [matchS, mS] at h; done)
  next v p =>
  simp only [matchS, mS, Bool.and_eq_true] at h
  obtain ⟨⟨h1, h2⟩, h3⟩ := h
  have hv : ∀ a b c p, v ≠ .ListComp a b c p := by
    rintro a b c p rfl
    simp at h3
  refine PS.imp (ps_expr ((all2 e).all.pe ok.toOk h1) (swaps_no hv (match_noSet h1))) fun Dd σ H hw => ?_
  obtain ⟨w, ls, rfl, g⟩ := hw
  simp only [evB] at g
  refine ⟨w, ls, rfl, g.onM.mono ?_⟩
  rintro v H1 ⟨w1, d, rfl, x, r, g1⟩
  exact g1.nx g1.2.1

theorem swap_off {tg v : Expr} {env : Env} (hb : env.blockKind = .function) (hs : env.scope = sc) (h : noSwap sc tg v = true) (ht : (∃ x p, tg = .Name x p) ∨ ∃ ts k p, tg = .Tuple ts k p) : swappedStores [tg] v env = pure none := by
  rcases ht with ⟨x, p, rfl⟩ | ⟨ts, k, p, rfl⟩
  · cases v <;> rfl
  · cases v <;> try rfl
    next vs k2 p2 =>
    unfold noSwap at h
    simp only at h
    subst hs
    have hb' : (env.blockKind != .function) = false := by rw [hb]; rfl
    have key : ∀ r, swapN env.scope ts vs = some r → swappedStores [.Tuple ts k p] (.Tuple vs k2 p2) env = pure r := by
      intro r
      unfold swappedStores
      simp only [hb', Bool.or_false]
      generalize hF : List.filterMap _ ts = nm
      have hF2 : ts.filterMap (nmF env.scope ((ts.head?.map (·.pos.line)).getD 0)) = nm := by
        rw [← hF]
        congr 1
        funext e
        cases e <;> try rfl
        next id pos =>
        have : (env.kindOf id == some .local) = decide (env.scope.names.lookup id = some .local) := by
          show (env.scope.names.lookup id == some .local) = _
          rw [Bool.eq_iff_iff, beq_iff_eq, decide_eq_true_iff]
        simp only [nmF, this]
      unfold swapN
      rw [hF2]
      unfold swapD
      generalize hA : (vs.any fun e => !noStar e) = c2
      generalize hB : vs.any _ = c6
      have hAB : c6 = c2 := by
        rw [← hA, ← hB]
        congr 1
        funext e
        cases e <;> rfl
      subst hAB
      generalize (!(ts.length == 2 || ts.length == 3) || vs.length != ts.length) = c1
      generalize (nm.length != ts.length || nm.eraseDups.length != nm.length) = c3
      generalize vs.all (foldedForSure 8) = c4
      generalize vs.all (constantsAlone 8) = c5
      cases c1 <;> cases c6 <;> cases c3 <;> cases c4 <;> cases c5 <;> (intro h; first | (cases h; rfl) | cases h)
    split at h
    · next e => exact key _ e
    · cases h

theorem comp_ex {e : E} {el : Expr} {gs : List Comprehension} {s : Scope} {p : Pos} (h : matchE T.toNm N e sc (.ListComp el gs s p) = true) : isComp e = true := by
  cases e
  case mk a => cases a <;> first | rfl | (simp [matchE] at h; done)
  case call f a =>
    simp only [matchE] at h
    split at h
    · simp [hotShape] at h
    · cases h
  all_goals first | rfl | (simp [matchE] at h; done)

theorem asg_fin {t e : E} {Dd : Ends} {σ : L2.St} {H : Hp} (hsl : ∀ i v, W.slot = some (i, v) → i ∉ slotsT t) (h : RS T.S W (evB T.S.xf T.gl X2 sub fuel (.asg t e) T.C) Dd σ H) : tAsg (RE T.S W (evE T.C T.gl e)) (RG W T.S t) Dd σ H := by
  obtain ⟨w, ls, rfl, g⟩ := h
  simp only [evB] at g
  refine ⟨w, ls, rfl, g.onM.mono ?_⟩
  rintro v H1 ⟨w1, d, rfl, x, r, g1⟩
  obtain ⟨ls', hb, q⟩ := g1.optS
  exact ⟨w1, ls, d, ls', rfl, hsl, g1.1, g1.2.1, r, hb, fun σ' _ _ l => q σ' l⟩
end
end EV

/-! Statements, the third part: stores, loops. -/
namespace EV
open PySem PySem.Spec PyProof.Rows L2
section
variable {T : Tx} {N : List Str} {X2 : Nat → List D → Option D} {sub : Nat → Nat → Option Bool} {fuel : Nat} {sc : Scope} {W : Wl} {X : Cx} {st : Stmt}

/-- the comprehension whose list is stored within it -/
theorem ps_setComp {elt tg it ifs : E} {own : List Nat} {i : Nat} {y : Str} {py p spos : Pos} {el : Expr} {gs : List Comprehension} {scope : Scope} (ok : OkB T N X2 sub sc W X) (h : matchE T.toNm N (.comp elt tg it ifs own) sc (.ListComp el gs scope p) = true)
    (hy : N[i]? = some y) (hyl : sc.names.lookup y = some .local) (hsw : swapsWith (.ListComp el gs scope p) (some (.Name y py)) spos.line X.env = pure true) :
    PS X (.Assign [.Name y py] (.ListComp el gs scope p) spos) (fun Dd σ H => ∃ w ls, w.H = H ∧ Go T.S W σ (Fresh T.S) (QF fun x H1 => gName i x σ H1 Dd.nx) ls w (evE T.C T.gl (.comp elt tg it ifs own) ls)) := by
  rcases gs with _ | ⟨⟨t, it', fs, as⟩, _ | ⟨_, _⟩⟩
  · simp [matchE] at h
  · simp only [matchE, Bool.and_eq_true, decide_eq_true_eq, Bool.not_eq_true'] at h
    obtain ⟨⟨⟨⟨⟨⟨⟨hh, rfl⟩, h1⟩, h2⟩, h3⟩, h4⟩, h5⟩, h6⟩ := h
    have hfs : ∀ x, foldedSetIterable it' X.env x = pure x := by
      intro x
      cases it' <;> first | rfl | (cases it <;> simp [matchI] at h6)
    have tgok : ∀ (s : Shared) (H : Hp) (C : Addr) (cl : List (Str × Addr)) (fp : List Addr), TgOk N scope (X.blk s H scope (compEnvC scope cl C X.env) fp) := fun s H C cl fp =>
      ⟨ok.hN, ok.nd, fun x k hk e => lookup_relS_keep hk e, fun x e => by show (scope.names.lookup x == some .cell) = true; rw [e]; rfl⟩
    refine PS.imp (ps_setLc (i := i) (own := own.map fun (i : Nat) => (((N[i]?).getD (Str.ofString "") : Str), i)) (te := RE T.S noW (evE T.C T.gl elt)) (tt := RT T.S noW (evC T.C T.gl ifs)) (ok.calm hh) (by rw [ok.hN]; exact ok.nd) (by rw [ok.hN]; exact hy) (by rw [ok.sc]; exact hyl) hsw
      ((all2 it).pi ok.toOk h6) (by rw [ok.hN, ok.sc]; exact blkOk_by h1) (fun s H C cl fp => pg_E (W := noW) (S := T.S) (tgok s H C cl fp) ok.K (ok.calm hh) h3) (fun s H C cl fp => (all2 ifs).all.pc (ok.toOk.blk hh) h5) (fun s H C cl fp => (all2 elt).all.pe (ok.toOk.blk hh) h4) hfs) fun Dd σ H hw => ?_
    have hown : (own.map fun (i : Nat) => (((N[i]?).getD (Str.ofString "") : Str), i)).map (·.2) = own := by
      rw [List.map_map]
      exact List.map_id'' (fun _ => rfl) own
    rw [hown]
    exact comp_tlc h2 σ H _ hw
  · simp [matchE] at h

theorem set_fin {i : Nat} {e : E} {Dd : Ends} {σ : L2.St} {H : Hp} (hsl : ∀ j v, W.slot = some (j, v) → j ≠ i) (h : RS T.S W (evB T.S.xf T.gl X2 sub fuel (.asg (.loc i) e) T.C) Dd σ H) : RE T.S W (evE T.C T.gl e) σ H (fun x H1 => gName i x σ H1 Dd.nx) := by
  obtain ⟨w, ls, rfl, g⟩ := h
  simp only [evB] at g
  refine ⟨w, ls, rfl, g.onM.mono ?_⟩
  rintro v H1 ⟨w1, d, rfl, x, r, g1⟩
  obtain ⟨ls', hb, q⟩ := g1.optS
  have hb : (if i < ls.length then some (ls.set i (some d)) else none) = some ls' := hb
  split at hb
  · cases hb
    exact q _ (g1.2.1.set r i hsl)
  · cases hb
theorem mk_fresh {a : E} {Q : VK} {σ : L2.St} {H : Hp} (h : RE T.S W (evE T.C T.gl (.mk a)) σ H Q) : ∃ w ls, w.H = H ∧ Go T.S W σ (Fresh T.S) (QF Q) ls w (evE T.C T.gl a ls) := by
  obtain ⟨w, ls, rfl, g⟩ := h
  simp only [evE] at g
  refine ⟨w, ls, rfl, g.bind.mono ?_⟩
  rintro ⟨p, vs⟩ H1 ⟨w1, d, rfl, x1, ⟨ds, rfl, hp, r⟩, g1⟩
  exact g1.alloc hp r
theorem isComp_cases {e : E} (h : isComp e = true) : (∃ a b c d l, e = .comp a b c d l) ∨ ∃ a b c d l, e = .mk (.comp a b c d l) := by
  cases e with
  | comp a b c d l => exact .inl ⟨_, _, _, _, _, rfl⟩
  | mk a =>
    cases a with
    | comp a b c d l => exact .inr ⟨_, _, _, _, _, rfl⟩
    | _ => simp [isComp] at h
  | _ => simp [isComp] at h
theorem off_of {t : E} (ok : OkB T N X2 sub sc W X) (h : offHs T.toNm t = true) : ∀ i v, W.slot = some (i, v) → i ∉ slotsT t := fun i v e z => by
  have := ok.hs i v e
  unfold offHs at h
  rw [this] at h
  simp only [Bool.not_eq_true'] at h
  have hc : (slotsT t).contains i = true := by simpa using z
  rw [hc] at h
  cases h
theorem pg_asg {t : E} {tg : Expr} (ok : OkB T N X2 sub sc W X) (h1 : matchT N sc t tg = true) (hl : (!T.hot || isLocE t) = true) : PG X tg (RG W T.S t) := by
  cases hh : T.hot with
  | false => exact pg_E (W := W) (S := T.S) ok.tg ok.K (ok.calm hh) h1
  | true =>
    rw [hh] at hl
    cases t <;> try (simp [isLocE] at hl; done)
    cases tg <;> try (simp [matchT] at h1; done)
    simp only [matchT] at h1
    exact pg_nameE (W := W) (S := T.S) ok.tg h1
theorem allS_asg {t e : E} : AllS T N X2 sub fuel (.asg t e) := by
  refine .one (fun {sc W X st} ok h => ?_) (fun _ _ => by simp [matchB, mB])
  cases st <;> try (simp [matchS, mS] at h; done)
  next tgs v p =>
  rcases tgs with _ | ⟨tg, tl⟩
  · simp [matchS, mS] at h
  cases tl with
  | cons _ _ => simp [matchS, mS] at h
  | nil =>
  simp only [matchS, mS, Bool.and_eq_true] at h
  obtain ⟨⟨⟨⟨⟨⟨h0, hlt⟩, hof⟩, h1⟩, h2⟩, h3⟩, h4⟩ := h
  have hsl := off_of ok hof
  have ht : (∃ x p, tg = .Name x p) ∨ ∃ ts k p, tg = .Tuple ts k p := by
    cases tg <;> first | exact .inl ⟨_, _, rfl⟩ | exact .inr ⟨_, _, _, rfl⟩ | (simp at h0)
  have hfor : (assignEach [tg] X.env).map (·.2) = [assign tg X.env] := by
    rcases ht with ⟨x, p, rfl⟩ | ⟨ts, k, p, rfl⟩ <;> rfl
  have hw := swap_off (sc := sc) ok.bk ok.sc h3 ht
  cases hsw : swB sc tg v with
  | false =>
    have hs : swapsWithSole [tg] v p.line X.env = pure false := by
      show swapsWith v (some tg) p.line X.env = pure false
      by_cases hv : ∃ a b c q, v = .ListComp a b c q
      · obtain ⟨a, b, c, q, rfl⟩ := hv
        rcases ht with ⟨x, p2, rfl⟩ | ⟨ts, k, p2, rfl⟩
        · rw [swaps_lc ok.bk, ok.sc]
          have : swB sc (.Name x p2) (.ListComp a b c q) = false := hsw
          exact congrArg pure this
        · rfl
      · exact swaps_no (fun a b c q e => hv ⟨a, b, c, q, e⟩) (match_noSet h2)
    exact PS.imp (ps_asg ((all2 e).all.pe ok.toOk h2) (pg_asg ok h1 hlt) hs hw hfor) fun Dd σ H q => asg_fin hsl q
  | true =>
    rw [hsw] at h4
    have h4 : isComp e = true := h4
    unfold swB at hsw
    split at hsw
    · next x pos el gs s vp =>
      simp only [Bool.and_eq_true, decide_eq_true_eq] at hsw
      have hyl := hsw.1.1
      have hsw' : swapsWith (.ListComp el gs s vp) (some (.Name x pos)) p.line X.env = pure true := by
        rw [swaps_lc ok.bk, ok.sc, decide_eq_true hyl, hsw.1.2, hsw.2]
        rfl
      cases t <;> try (simp [matchT] at h1; done)
      next i =>
      simp only [matchT] at h1
      have hy := (isOwn_of h1).1
      rcases isComp_cases h4 with ⟨ce, ct, ci, cf, co, rfl⟩ | ⟨ce, ct, ci, cf, co, rfl⟩
      · refine PS.imp (ps_setComp ok h2 hy hyl hsw') fun Dd σ H q => ?_
        obtain ⟨w, ls, rfl, g⟩ := set_fin (fun j v e z => hsl j v e (by simp [slotsT, z])) q
        exact ⟨w, ls, rfl, g.lst_of⟩
      · exact PS.imp (ps_setComp ok (match_mk h2) hy hyl hsw') fun Dd σ H q => mk_fresh (set_fin (fun j v e z => hsl j v e (by simp [slotsT, z])) q)
    · cases hsw

theorem allS_setx {o i e : E} : AllS T N X2 sub fuel (.setx o i e) := by
  refine .one (fun {sc W X st} ok h => ?_) (fun _ _ => by simp [matchB, mB])
  cases st <;> try (simp [matchS, mS] at h; done)
  next tgs v p =>
  rcases tgs with _ | ⟨tg, tl⟩
  · simp [matchS, mS] at h
  cases tl with
  | cons _ _ => cases tg <;> simp [matchS, mS] at h
  | nil =>
  cases tg <;> try (simp [matchS, mS] at h; done)
  next x y p2 =>
  simp only [matchS, mS, Bool.and_eq_true] at h
  obtain ⟨⟨⟨h0, h1⟩, h2⟩, h3⟩ := h
  have hy : ∀ a b c q, y ≠ .Slice a b c q := by
    rintro a b c q rfl
    simp at h0
  have hs : swapsWithSole [.Subscript x y p2] v p.line X.env = pure false := by
    show swapsWith v (some (.Subscript x y p2)) p.line X.env = pure false
    cases v <;> first | rfl | exact absurd rfl ((match_noSet h1).1 _ _ _ _) | exact absurd rfl ((match_noSet h1).2 _ _ _ _ _)
  have hw : swappedStores [.Subscript x y p2] v X.env = pure none := by cases v <;> rfl
  have ha : ∀ v, assign (.Subscript x y p2) X.env v = (do
      let ov ← holding [v] (eval x X.env)
      let iv ← holding [v, ov] (eval y X.env)
      standAt p2
      holding [v, ov, iv] (setItem ov iv v)
      release [v, ov, iv] []) := by
    intro v
    cases y <;> first | rfl | exact absurd rfl (hy _ _ _ _)
  refine PS.imp (ps_asg ((all2 e).all.pe ok.toOk h1) (pg_sub ((all2 o).all.pe ok.toOk h2) ((all2 i).all.pe ok.toOk h3) set_list ha) hs hw rfl) fun Dd σ H hw => ?_
  obtain ⟨w, ls, rfl, g⟩ := hw
  simp only [evB] at g
  have g := g.onM (R := fun _ (b : Unit) b' => True)
  refine ⟨w, ls, rfl, g.bind.mono ?_⟩
  rintro z H1 ⟨w1, d, rfl, x1, r1, g1⟩
  refine ⟨w1, ls, rfl, g1.bind.mono ?_⟩
  rintro ob H2 ⟨w2, od, rfl, x2, r2, g2⟩
  refine ⟨w2, ls, rfl, g2.bind.mono ?_⟩
  rintro ib H3 ⟨w3, id, rfl, x3, r3, g3⟩
  have r1 := Rep.ext (x2.trans x3).toExt0 r1
  have r2 := Rep.ext x3.toExt0 r2
  have a3 := g3.2.2
  have key : (∃ n, od = .ref n) ∧ ∃ k, id = .int k := by
    cases od with
    | ref n =>
      cases id with
      | int k => exact ⟨⟨n, rfl⟩, k, rfl⟩
      | _ => exact a3.elim
    | _ => exact a3.elim
  obtain ⟨⟨n, rfl⟩, k, rfl⟩ := key
  cases r2 with
  | ref _ hn =>
  cases rep_int r3
  have a3 : After T.S (match w3.h.objs[n]? with | some (.lst l) => (match ixOf l.length k with | some j => setO n (.lst (l.set j d)) w3.h | none => Res.stk) | _ => Res.stk) w3 (wx T.S W σ) _ := a3
  split at a3
  · next l hl =>
    split at a3
    · next j hj =>
      obtain ⟨vs, q1, q2⟩ := g3.sim.obj n _ hl
      unfold setO at a3
      split at a3
      · next c =>
        have XX := Ext.put (o := .lst (l.set j d)) (u := .lst (vs.set j z)) g3.sim hn
        have hj' : ixN vs.length k = some j := by
          rw [q2.length]
          have : ixN l.length k = ixOf l.length k := by unfold ixN ixOf; rfl
          rw [this]
          exact hj
        refine ⟨w3.φ n, vs, k, j, rfl, rfl, q1, hj', ?_⟩
        have s4 := g3.sim.put hn c (u := .lst (vs.set j z)) ⟨vs.set j z, upd_same, by
          have := Reps.ext XX.toExt0 (q2.set r1 j)
          rw [RepsW, Wd.put_k] at this
          exact this⟩
        obtain ⟨w5, a5, e5, x5, _, g5⟩ := a3 (w3.put n (.lst (l.set j d)) (.lst (vs.set j z))) rfl XX s4 () trivial
        have : Dd.nx σ w5.H := g5.nx g5.2.1
        rw [e5] at this
        exact this
      · exact a3.elim
    · exact a3.elim
  · exact a3.elim

theorem aug_ok (o : BOp) : OpR X (inplaceOp (opOf o)) (fun x y H Q => ∃ i j r, x = .int i ∧ y = .int j ∧ augI o i j = some r ∧ Q (.int r) H) := by
  intro pins s σ H x y v u Q I rx ry h
  obtain ⟨i, j, r, rfl, rfl, hr, q⟩ := h
  cases o with
  | add => cases hr; exact iop_add pins s σ H _ _ v u Q I rx ry ⟨i, j, rfl, rfl, q⟩
  | sub => cases hr; exact iop_sub pins s σ H _ _ v u Q I rx ry ⟨i, j, rfl, rfl, q⟩
  | mul =>
    have hr : (if (smallI i || smallI j) = true then some (i * j) else none) = some r := hr
    split at hr
    · next c =>
      cases hr
      rcases Bool.or_eq_true_iff.mp c with c | c
      · exact iop_mul pins s σ H _ _ v u Q I rx ry ⟨i, j, rfl, rfl, .inl (small_of c), q⟩
      · exact iop_mul pins s σ H _ _ v u Q I rx ry ⟨i, j, rfl, rfl, .inr (small_of c), q⟩
    · cases hr
  | fdiv =>
    have hr : (if (decide (0 < j) && decide (j < 1073741824)) = true then some (i / j) else none) = some r := hr
    split at hr
    · next c =>
      cases hr
      obtain ⟨c1, c2⟩ := Bool.and_eq_true_iff.mp c
      exact iop_fdiv pins s σ H _ _ v u Q I rx ry ⟨i, j, rfl, rfl, ⟨of_decide_eq_true c1, of_decide_eq_true c2⟩, q⟩
    · cases hr
  | mod =>
    have hr : (if decide (0 < j) = true then some (i % j) else none) = some r := hr
    split at hr
    · next c => cases hr; exact iop_mod pins s σ H _ _ v u Q I rx ry ⟨i, j, rfl, rfl, of_decide_eq_true c, q⟩
    · cases hr
  | pow => cases hr
  | shl => cases hr
  | shr => cases hr
  | band => cases hr; exact iop_and pins s σ H _ _ v u Q I rx ry ⟨i, j, rfl, rfl, q⟩
  | bxor => cases hr; exact iop_xor pins s σ H _ _ v u Q I rx ry ⟨i, j, rfl, rfl, q⟩
theorem allS_aug {i : Nat} {o : BOp} {e : E} : AllS T N X2 sub fuel (.aug i o e) := by
  refine .one (fun {sc W X st} ok h => ?_) (fun _ _ => by simp [matchB, mB])
  cases st <;> try (simp [matchS, mS] at h; done)
  next tg op v p =>
  cases tg <;> try (simp [matchS, mS] at h; done)
  next x px =>
  simp only [matchS, mS, Bool.and_eq_true, decide_eq_true_eq, Bool.not_eq_true'] at h
  obtain ⟨⟨⟨hh, rfl⟩, h1⟩, h2⟩ := h
  have h0 := (ok.hs0 hh).1
  obtain ⟨h3, h4⟩ := isOwn_of h1
  refine PS.imp (ps_aug (i := i) (by rw [ok.hN]; exact ok.nd) (by rw [ok.hN]; exact h3) (by rw [ok.sc]; exact h4) ((all2 e).all.pe ok.toOk h2) (aug_ok (X := X) o) (.inl (ok.fn x))) fun Dd σ H hw => ?_
  obtain ⟨w, ls, rfl, g⟩ := hw
  simp only [evB] at g
  cases hl : ls[i]? with
  | none => rw [hl] at g; exact (g.not fun _ => rfl).elim
  | some od =>
    cases od with
    | none => rw [hl] at g; exact (g.not fun _ => rfl).elim
    | some d =>
      rw [hl] at g
      obtain ⟨v, hv, rv⟩ := g.2.1.at_ i d hl
      refine ⟨v, hv, ?_⟩
      have g : GoS T.S W Dd σ ls w (onM (evE T.C T.gl e ls >>= fun y => augM o d y) ls fun d => optS (some (ls.set i (some d)))) := g
      refine ⟨w, ls, rfl, (g.onM (R := RepW T.S)).bind.mono ?_⟩
      rintro u H1 ⟨w1, d2, rfl, x1, r1, g1⟩
      obtain ⟨r, hr, f⟩ := g1.opt (o := augV o d d2) (by unfold augM; cases augV o d d2 <;> rfl)
      have key : (∃ i, d = .int i) ∧ ∃ j, d2 = .int j := by
        cases d with
        | int i =>
          cases d2 with
          | int j => exact ⟨⟨i, rfl⟩, j, rfl⟩
          | _ => cases hr
        | _ => cases hr
      obtain ⟨⟨i1, rfl⟩, j1, rfl⟩ := key
      have hr : (augI o i1 j1).map D.int = some r := hr
      rw [Option.map_eq_some_iff] at hr
      obtain ⟨k1, hc, rfl⟩ := hr
      cases rep_int rv
      cases rep_int r1
      refine ⟨i1, j1, k1, rfl, rfl, hc, ?_⟩
      obtain ⟨w2, d3, e2, x2, r2, g2⟩ := f.here g1.sim (.int k1)
      obtain ⟨ls', hb, q⟩ := g2.optS
      cases hb
      have := q _ (g2.2.1.set r2 i fun j v e => by rw [h0] at e; cases e)
      rw [e2] at this
      exact this

/-- o[i], by values -/
theorem get_lst : PGet X (rIxL X.K) := fun pins s σ H o i ov iv Q I ro ri hw => by
  obtain ⟨p, xs, k, z, e1, e2, hq, at_, q⟩ := hw
  subst e1
  subst e2
  cases ro
  obtain ⟨tk, rfl⟩ := ri
  obtain ⟨its, r, pl, _⟩ := I.list hq
  obtain ⟨j, j1, j2, j3, j4, j5⟩ := atI_get at_
  obtain ⟨u, gu, ru⟩ := r.get j2
  have ln := r.length
  have big := line63
  have zz : xs.length ≤ sizeLine := (by assumption)
  have fin : EP X pins σ Q u s := ⟨z, H, I, ru, q⟩
  by_cases nn : 0 ≤ k
  · have ej : k.toNat = j := by
      rw [seqIndex_of nn j5] at j1
      exact Option.some.inj j1
    exact wpAny_getItem_list pl.isList nn (by omega) (by rw [ej]; simpa using gu) fin
  · have ej : (k + (its.toArray.size : Int)).toNat = j := by
      rw [seqIndex_neg (by omega) j4] at j1
      rw [List.size_toArray, ← ln]
      exact Option.some.inj j1
    exact wpAny_getItem_list_neg pl.isList (by omega) (by rw [List.size_toArray]; omega) (by omega) (by rw [ej]; simpa using gu) fin
theorem allS_augx {o i e : E} {p : BOp} : AllS T N X2 sub fuel (.augx o i p e) := by
  refine .one (fun {sc W X st} ok h => ?_) (fun _ _ => by simp [matchB, mB])
  cases st <;> try (simp [matchS, mS] at h; done)
  next tg op v pp =>
  cases tg <;> try (simp [matchS, mS] at h; done)
  next x y p2 =>
  simp only [matchS, mS, Bool.and_eq_true, decide_eq_true_eq, Bool.not_eq_true'] at h
  obtain ⟨⟨⟨⟨⟨hh, hy⟩, rfl⟩, h1⟩, h2⟩, h3⟩ := h
  have hy : ∀ a b c q, y ≠ .Slice a b c q := by
    rintro a b c q rfl
    simp at hy
  refine PS.imp (ps_augS ((all2 o).all.pe ok.toOk h1) ((all2 i).all.pe ok.toOk h2) get_lst ((all2 e).all.pe ok.toOk h3) (aug_ok (X := X) p) set_list (fun ov iv new => by
    cases y <;> first | rfl | exact absurd rfl (hy _ _ _ _))) fun Dd σ H hw => ?_
  obtain ⟨w, ls, rfl, g⟩ := hw
  simp only [evB] at g
  have g := g.onM (R := fun _ (b : Unit) b' => True)
  refine ⟨w, ls, rfl, g.bind.mono ?_⟩
  rintro ob H1 ⟨w1, od, rfl, x1, r1, g1⟩
  refine ⟨w1, ls, rfl, g1.bind.mono ?_⟩
  rintro ib H2 ⟨w2, id, rfl, x2, r2, g2⟩
  have r1 := Rep.ext x2.toExt0 r1
  cases hg : getV w2.h od id with
  | none =>
    have a := g2.2.2
    rw [bind_stk (show getM od id w2.h = .stk by unfold getM; rw [hg])] at a
    exact a.elim
  | some el =>
  have g3 : Go T.S W σ (fun _ (b : Unit) (b' : Unit) => True) (fun (b : Unit) H1 => ∃ (w1 : Wd) (a : Unit), w1.H = H1 ∧ Ext w w1 ∧ True ∧ GoS T.S W Dd σ ls w1 fun h => SRes.nx ls h) ls w2 (evE T.C T.gl e ls >>= fun v => augM p el v >>= fun r => setM od id r) := ⟨g2.1, g2.2.1, by
    have a := g2.2.2
    rw [bind_ok (show getM od id w2.h = .ok el w2.h by unfold getM; rw [hg])] at a
    exact a⟩
  have key : ∃ n k l, od = .ref n ∧ id = .int k ∧ w2.h.objs[n]? = some (.lst l) ∧ atIx l k = some el := by
    cases od with
    | ref n =>
      cases id with
      | int k =>
        have hg : (match w2.h.objs[n]? with | some (.lst l) => atIx l k | _ => none) = some el := hg
        split at hg
        · next l hl => exact ⟨n, k, l, rfl, rfl, hl, hg⟩
        · cases hg
      | _ => cases hg
    | _ => cases hg
  obtain ⟨n, k, l, rfl, rfl, hl, hat⟩ := key
  cases r1 with
  | ref _ hn =>
  cases rep_int r2
  obtain ⟨vs, q1, q2⟩ := g2.sim.obj n _ hl
  have hat' : ∃ z, atI vs k = some z ∧ RepW T.S w2 z el := by
    unfold atIx at hat
    split at hat
    · next j hj =>
      obtain ⟨z, hz, rz⟩ := q2.get hat
      refine ⟨z, ?_, rz⟩
      unfold atI
      have : ixN vs.length k = some j := by
        rw [q2.length]
        have e : ixN l.length k = ixOf l.length k := by unfold ixN ixOf; rfl
        rw [e]
        exact hj
      rw [this]
      exact hz
    · cases hat
  obtain ⟨z, hz, rz⟩ := hat'
  refine ⟨w2.φ n, vs, k, z, rfl, rfl, .inl (.inl q1), hz, w2, ls, rfl, g3.bind.mono ?_⟩
  rintro vb H3 ⟨w3, vd, rfl, x3, r3, g4⟩
  have rz := Rep.ext x3.toExt0 rz
  cases hb : augV p el vd with
  | none =>
    have a := g4.2.2
    rw [bind_stk (show augM p el vd w3.h = .stk by unfold augM; rw [hb])] at a
    exact a.elim
  | some nd =>
  have g5 : Go T.S W σ (fun _ (b : Unit) (b' : Unit) => True) (fun (b : Unit) H1 => ∃ (w1 : Wd) (a : Unit), w1.H = H1 ∧ Ext w w1 ∧ True ∧ GoS T.S W Dd σ ls w1 fun h => SRes.nx ls h) ls w3 (setM (.ref n) (.int k) nd) := ⟨g4.1, g4.2.1, by
    have a := g4.2.2
    rw [bind_ok (show augM p el vd w3.h = .ok nd w3.h by unfold augM; rw [hb])] at a
    exact a⟩
  have key : (∃ i, el = .int i) ∧ ∃ j, vd = .int j := by
    cases el with
    | int i =>
      cases vd with
      | int j => exact ⟨⟨i, rfl⟩, j, rfl⟩
      | _ => cases hb
    | _ => cases hb
  obtain ⟨⟨i1, rfl⟩, j1, rfl⟩ := key
  have hb : (augI p i1 j1).map D.int = some nd := hb
  rw [Option.map_eq_some_iff] at hb
  obtain ⟨k1, hc, rfl⟩ := hb
  cases rep_int rz
  cases rep_int r3
  refine ⟨i1, j1, k1, rfl, rfl, hc, ?_⟩
  have hn3 : n < w3.k := Nat.lt_of_lt_of_le hn x3.len
  have a3 := g5.2.2
  have a3 : After T.S (match w3.h.objs[n]? with | some (.lst l) => (match ixOf l.length k with | some j => setO n (.lst (l.set j (.int k1))) w3.h | none => Res.stk) | _ => Res.stk) w3 (wx T.S W σ) _ := a3
  split at a3
  · next l3 hl3 =>
    split at a3
    · next j hj =>
      obtain ⟨us, q3, q4⟩ := g5.sim.obj n _ hl3
      unfold setO at a3
      split at a3
      · next c =>
        have XX := Ext.put (o := .lst (l3.set j (.int k1))) (u := .lst (us.set j (.int k1))) g5.sim hn3
        have hj' : ixN us.length k = some j := by
          rw [q4.length]
          have : ixN l3.length k = ixOf l3.length k := by unfold ixN ixOf; rfl
          rw [this]
          exact hj
        refine ⟨w3.φ n, us, k, j, by rw [x3.phi n hn], rfl, q3, hj', ?_⟩
        have s4 := g5.sim.put hn3 c (u := .lst (us.set j (.int k1))) ⟨us.set j (.int k1), upd_same, by
          have := Reps.ext XX.toExt0 (q4.set (.int k1) j)
          rw [RepsW, Wd.put_k] at this
          exact this⟩
        obtain ⟨w5, a5, e5, x5, _, g6⟩ := a3 (w3.put n (.lst (l3.set j (.int k1))) (.lst (us.set j (.int k1)))) rfl XX s4 () trivial
        have : Dd.nx σ w5.H := g6.nx g6.2.1
        rw [e5] at this
        exact this
      · exact a3.elim
    · exact a3.elim
  · exact a3.elim
theorem allS_unp {t e : E} : AllS T N X2 sub fuel (.unp t e) := by
  refine .one (fun {sc W X st} ok h => ?_) (fun _ _ => by simp [matchB, mB])
  simp only [matchS, mS] at h
  split at h
  · next es k tp x px p =>
    simp only [Bool.and_eq_true, Bool.not_eq_true'] at h
    obtain ⟨⟨hh, h1⟩, h2⟩ := h
    cases t <;> try (simp at h1; done)
    next ts =>
    have h0 := (ok.hs0 hh).1
    obtain ⟨k1, k2, k3, k4⟩ := pgs_E (W := W) (S := T.S) ok.tg ts es h1
    refine PS.imp (ps_asg ((all2 e).all.pe ok.toOk h2) (pg_unl (n := es.length) (ok.calm hh) k1 k3 k2) rfl rfl rfl) fun Dd σ H hw => ?_
    obtain ⟨w, ls, rfl, g⟩ := hw
    simp only [evB] at g
    refine ⟨w, ls, rfl, (g.onM (R := RepW T.S)).mono ?_⟩
    rintro v H1 ⟨w1, d, rfl, x1, r1, g1⟩
    have g2 : GoS T.S W Dd σ ls w1 (EV.optS (unpT (.tup ts) (deref w1.h d) ls)) := g1
    obtain ⟨ls', hb, q⟩ := g2.optS
    cases qd : deref w1.h d with
    | lst l =>
      rw [qd] at hb
      have hb : bindT.bindTs ts l ls = some ls' := hb
      obtain ⟨p1, vs, rfl, s1, t1⟩ := deref_lst g1.1 r1 qd
      refine ⟨p1, vs, rfl, .inl s1, ?_, w1, ls, l, ls', rfl, (fun i v e => by rw [h0] at e; cases e), g1.1, g1.2.1, t1, hb, fun σ' _ _ l => q σ' l⟩
      rw [t1.length]
      exact k4 _ _ _ hb
    | _ => rw [qd] at hb; cases hb
  · cases h
theorem allS_whl {c : E} {b : B} (hb : AllS T N X2 sub fuel b) : AllS T N X2 sub fuel (.whl c b) := by
  refine .one (fun {sc W X st} ok h => ?_) (fun _ _ => by simp [matchB, mB])
  cases st <;> try (simp [matchS, mS] at h; done)
  next z x el p =>
  cases el with
  | cons _ _ => simp [matchS, mS] at h
  | nil =>
  simp only [matchS, mS, Bool.and_eq_true, Bool.not_eq_true'] at h
  obtain ⟨⟨hh, h1⟩, h2⟩ := h
  refine PS.imp (ps_while (ok.po hh) ((all2 c).all.pt ok.toOk h1) (hb.pss ok h2)) fun Dd σ H hw => ?_
  obtain ⟨w, ls, rfl, g⟩ := hw
  simp only [evB] at g
  refine ⟨fun m σ H => ∃ w ls, w.H = H ∧ GoS T.S W Dd σ ls w (whlS (fun ls => evE T.C T.gl c ls >>= truthM) (evB T.S.xf T.gl X2 sub fuel b T.C) m ls), ⟨fuel, w, ls, rfl, g⟩, ?_⟩
  rintro m σ H ⟨w, ls, rfl, g⟩
  cases m with
  | zero => exact (g.not fun _ => rfl).elim
  | succ m =>
    unfold whlS at g
    refine ⟨w, ls, rfl, g.onM.mono ?_⟩
    rintro k H1 ⟨w1, k', rfl, x, rfl, g1⟩
    cases k with
    | false => exact g1.nx g1.2.1
    | true =>
      refine ⟨fun σ' H' => ∃ w ls, w.H = H' ∧ GoS T.S W Dd σ' ls w (whlS (fun ls => evE T.C T.gl c ls >>= truthM) (evB T.S.xf T.gl X2 sub fuel b T.C) m ls), fun σ' H' q => ⟨m, Nat.lt_succ_self _, q⟩, w1, ls, rfl, ?_⟩
      have g2 := GoS.turn g1
      refine ⟨g2.1, g2.2.1, ?_⟩
      have a := g2.2.2
      cases er : evB T.S.xf T.gl X2 sub fuel b T.C ls w1.h with
      | stk => rw [er] at a; exact a
      | err cc d ls h => rw [er] at a; exact a
      | nx ls' h' =>
        rw [er] at a
        intro w' σ' e' x' s' l'
        obtain ⟨w2, ls2, q1, _, q2⟩ := a w' σ' e' x' s' l'
        exact ⟨w2, ls2, q1, q2⟩
      | ret d h => rw [er] at a; exact a
      | bk ls h => rw [er] at a; exact a
      | ct ls' h' =>
        rw [er] at a
        intro w' σ' e' x' s' l'
        obtain ⟨w2, ls2, q1, _, q2⟩ := a w' σ' e' x' s' l'
        exact ⟨w2, ls2, q1, q2⟩

theorem allS_for {t it : E} {b : B} (hb : AllS T N X2 sub fuel b) : AllS T N X2 sub fuel (.for t it b) := by
  refine .one (fun {sc W X st} ok h => ?_) (fun _ _ => by simp [matchB, mB])
  cases st <;> try (simp [matchS, mS] at h; done)
  next tg i x el p =>
  cases el with
  | cons _ _ => simp [matchS, mS] at h
  | nil =>
  simp only [matchS, mS, Bool.and_eq_true, Bool.not_eq_true'] at h
  obtain ⟨⟨⟨hh, h1⟩, h2⟩, h3⟩ := h
  have hfs : ∀ x, foldedSetIterable i X.env x = pure x := by
    intro x
    cases i <;> first | rfl | (cases it <;> simp [matchI] at h2)
  refine PS.imp (ps_for (ok.po hh) (ok.calm hh) ((all2 it).pi ok.toOk h2) (pg_E (W := W) (S := T.S) ok.tg ok.K (ok.calm hh) h1) (hb.pss ok h3) hfs) fun Dd σ H hw => ?_
  obtain ⟨w, ls, rfl, g⟩ := hw
  simp only [evB] at g
  refine ⟨w, ls, rfl, g.onM.mono ?_⟩
  rintro J H1 ⟨w1, l, rfl, x1, jok, g1⟩
  generalize hbody : (fun (d : D) (ls' : Ls) => seqS (optS (bindT t d ls')) (evB T.S.xf T.gl X2 sub fuel b T.C)) = body at g1
  refine ⟨fun i m σ H => m = l.length - i ∧ i ≤ l.length ∧ ∃ w ls, w.H = H ∧ Ext w1 w ∧ GoS T.S W Dd σ ls w (forS body (l.drop i) ls), ⟨l.length, by omega, Nat.zero_le _, w1, ls, rfl, Ext.refl _, g1⟩, ?_⟩
  rintro i m σ H ⟨rfl, hi, w, ls, rfl, xw, g⟩
  obtain ⟨jgo, jstop⟩ := jok w xw g.1
  by_cases hlt : i < l.length
  · obtain ⟨jg, jy⟩ := jgo i l[i] (List.getElem?_eq_getElem hlt)
    refine .inr ⟨jg, fun σ' H' => ∃ w ls, w.H = H' ∧ Ext w1 w ∧ GoS T.S W Dd σ' ls w (forS body (l.drop (i + 1)) ls), fun σ' H' q => ⟨l.length - (i + 1), by omega, rfl, hlt, q⟩, fun x H' hy => ?_⟩
    obtain ⟨w2, rfl, eh, x2, s2, rx⟩ := jy x H' hy
    rw [List.drop_eq_getElem_cons hlt] at g
    have g2 : GoS T.S W Dd σ ls w2 (turnS (body l[i] ls) fun ls' => forS body (l.drop (i + 1)) ls') := by
      refine ⟨s2, g.2.1.ext x2.toExt0, ?_⟩
      rw [eh]
      exact AfterS.from x2 g.2.2
    have g3 := g2.turn
    rw [← hbody] at g3
    have g4 := GoS.seq g3
    obtain ⟨ls2, hb2, q⟩ := g4.optS
    refine ⟨w2, ls, l[i], ls2, rfl, (fun j v e => by rw [(ok.hs0 hh).1] at e; cases e), s2, g2.2.1, rx, hb2, fun σ2 _ _ loc2 => ?_⟩
    obtain ⟨w3, ls3, e3, g5⟩ := q σ2 loc2
    rw [← e3]
    refine ⟨w3, ls3, rfl, g5.mono ⟨?_, fun _ _ q => q, fun _ _ q => q, ?_⟩⟩
    · rintro σ' H' ⟨w', ls', e', x', g'⟩
      rw [hbody] at g'
      exact ⟨w', ls', e', xw.trans (x2.trans x'), g'⟩
    · rintro σ' H' ⟨w', ls', e', x', g'⟩
      rw [hbody] at g'
      exact ⟨w', ls', e', xw.trans (x2.trans x'), g'⟩
  · have e : i = l.length := by omega
    subst e
    refine .inl ⟨jstop, ?_⟩
    rw [List.drop_length] at g
    exact GoS.nx g g.2.1
/-- enumerate of a list that is ours, or stands still -/
theorem allS_forE {t a : E} {b : B} (hb : AllS T N X2 sub fuel b) : AllS T N X2 sub fuel (.forE t a b) := by
  refine .one (fun {sc W X st} ok h => ?_) (fun _ _ => by simp [matchB, mB])
  cases st <;> try (simp [matchS, mS] at h; done)
  next tg i x el p =>
  cases i <;> try (simp [matchS, mS] at h; done)
  next fn es kw p2 =>
  cases fn <;> try (simp [matchS, mS] at h; done)
  next nm pn =>
  rcases es with _ | ⟨y, _ | ⟨z, es⟩⟩ <;> try (simp [matchS, mS] at h; done)
  cases kw with
  | cons _ _ => simp [matchS, mS] at h
  | nil =>
  cases el with
  | cons _ _ => simp [matchS, mS] at h
  | nil =>
  simp only [matchS, mS, Bool.and_eq_true, Bool.not_eq_true', decide_eq_true_eq] at h
  obtain ⟨⟨⟨⟨⟨⟨hh, h1⟩, h0⟩, rfl⟩, hg⟩, h2⟩, h3⟩ := h
  have st := star_cons (match_noStar h2) [] X.env
  cases tg <;> try (simp [isTupT] at h0; done)
  next elts kk tpos =>
  refine PS.imp (ps_for (ok.po hh) (ok.calm hh) (pi_enumA (ok.toOk.gL hg) (ok.toOk.blt _ (by decide)) (pa_cons ((all2 a).all.pe ok.toOk h2) pa_nil st) st) (pg_E (W := W) (S := T.S) ok.tg ok.K (ok.calm hh) h1) (hb.pss ok h3) (fun _ => rfl)) fun Dd σ H hw => ?_
  obtain ⟨w, ls, rfl, g⟩ := hw
  simp only [evB] at g
  refine ⟨w, ls, rfl, (g.onM (R := RepW T.S)).mono ?_⟩
  rintro v H1 ⟨w1, d, rfl, x1, r1, g1⟩
  generalize hbody : (fun (d : D) (ls' : Ls) => seqS (optS (bindT t d ls')) (evB T.S.xf T.gl X2 sub fuel b T.C)) = body at g1
  have rd : ∀ {m i : Nat} {σ : L2.St} {ls : Ls} {w : Wd}, GoS T.S W Dd σ ls w (liveS d body m i ls) → ∃ m' l, m = m' + 1 ∧ deref w.h d = .lst l ∧ GoS T.S W Dd σ ls w (match l[i]? with | some x => turnS (body (.tup [.int (i : Nat), x]) ls) (fun ls' => liveS d body m' (i + 1) ls') | none => fun h => .nx ls h) := by
    intro m i σ ls w g
    cases m with
    | zero => exact (g.not fun _ => rfl).elim
    | succ m =>
      cases qd : deref w.h d with
      | lst l =>
        refine ⟨m, l, rfl, rfl, g.1, g.2.1, ?_⟩
        have a := g.2.2
        have e : liveS d body (m + 1) i ls w.h = (match l[i]? with | some x => turnS (body (.tup [.int (i : Nat), x]) ls) (fun ls' => liveS d body m (i + 1) ls') | none => fun h => .nx ls h) w.h := by
          rw [liveS_s qd]
          cases l[i]? <;> rfl
        rw [e] at a
        exact a
      | _ =>
        have a := g.2.2
        unfold liveS at a
        rw [qd] at a
        exact a.elim
  obtain ⟨_, l, _, qd, _⟩ := rd g1
  obtain ⟨p, vs, rfl, s1, t1⟩ := deref_lst g1.1 r1 qd
  refine ⟨p, vs, rfl, .inl ⟨.inl s1, fun i m σ H => ∃ w ls, w.H = H ∧ Ext w1 w ∧ GoS T.S W Dd σ ls w (liveS d body m i ls), ⟨fuel, w1, ls, rfl, Ext.refl _, g1⟩, ?_⟩⟩
  rintro i m σ H ⟨w, ls, rfl, xw, g⟩
  obtain ⟨m, l, rfl, qd, g⟩ := rd g
  obtain ⟨_, vs, e, s1, t1⟩ := deref_lst g.1 (Rep.ext xw.toExt0 r1) qd
  cases e
  cases hi : l[i]? with
  | none =>
    rw [hi] at g
    refine .inl ⟨⟨vs, .inl s1, ?_⟩, GoS.nx g g.2.1⟩
    rw [t1.length]
    exact List.getElem?_eq_none_iff.mp hi
  | some z =>
    rw [hi] at g
    have g : GoS T.S W Dd σ ls w (turnS (body (.tup [.int (i : Nat), z]) ls) (fun ls' => liveS d body m (i + 1) ls')) := g
    obtain ⟨u, hu, ru⟩ := t1.get hi
    refine .inr ⟨⟨vs, u, .inl s1, hu⟩, fun σ' H' => ∃ w ls, w.H = H' ∧ Ext w1 w ∧ GoS T.S W Dd σ' ls w (liveS d body m (i + 1) ls), fun σ' H' q => ⟨m, Nat.lt_succ_self _, q⟩, fun x H' hy => ?_⟩
    obtain ⟨A, u', rfl, hA, rfl, k⟩ := hy
    have := k vs (.inl s1)
    rw [hu] at this
    cases this
    obtain ⟨w2, e2, eh, x2, s2, rx⟩ := new_pair g.1 hA (.int ((i : Nat) : Int)) ru
    rw [← e2]
    have g2 : GoS T.S W Dd σ ls w2 (turnS (body (.tup [.int (i : Nat), z]) ls) fun ls' => liveS d body m (i + 1) ls') := by
      refine ⟨s2, g.2.1.ext x2.toExt0, ?_⟩
      rw [eh]
      exact AfterS.from x2 g.2.2
    have g3 := g2.turn
    rw [← hbody] at g3
    have g4 := GoS.seq g3
    obtain ⟨ls2, hb2, q⟩ := g4.optS
    refine ⟨w2, ls, .tup [.int (i : Nat), z], ls2, rfl, (fun j v e => by rw [(ok.hs0 hh).1] at e; cases e), s2, g2.2.1, rx, hb2, fun σ2 _ _ loc2 => ?_⟩
    obtain ⟨w3, ls3, e3, g5⟩ := q σ2 loc2
    rw [← e3]
    refine ⟨w3, ls3, rfl, g5.mono ⟨?_, fun _ _ q => q, fun _ _ q => q, ?_⟩⟩
    · rintro σ' H' ⟨w', ls', e', x', g'⟩
      rw [hbody] at g'
      exact ⟨w', ls', e', xw.trans (x2.trans x'), g'⟩
    · rintro σ' H' ⟨w', ls', e', x', g'⟩
      rw [hbody] at g'
      exact ⟨w', ls', e', xw.trans (x2.trans x'), g'⟩
end
end EV

/-! Stores from the right; every statement. -/
namespace EV
open PySem PySem.Spec PyProof.Rows L2
section
variable {T : Tx} {N : List Str} {X2 : Nat → List D → Option D} {sub : Nat → Nat → Option Bool} {fuel : Nat} {sc : Scope} {W : Wl} {X : Cx} {st : Stmt}

theorem matchTs_cons {t : E} {e : Expr} {es : List Expr} (h : matchTs N sc t (e :: es) = true) : ∃ i r x p, t = .cons (.loc i) r ∧ e = .Name x p ∧ isOwn N sc i x = true ∧ matchTs N sc r es = true := by
  cases t <;> try (simp [matchTs] at h; done)
  next a r =>
  cases a <;> try (simp [matchTs] at h; done)
  next i =>
  cases e <;> try (simp [matchTs] at h; done)
  next x p =>
  simp only [matchTs, Bool.and_eq_true] at h
  exact ⟨i, r, x, p, rfl, rfl, h.1, h.2⟩
theorem matchTs_nil {t : E} (h : matchTs N sc t [] = true) : t = .nil := by
  cases t <;> try (simp [matchTs] at h; done)
  · rfl
  · next a r => cases a <;> simp [matchTs] at h
theorem localN_of {x : Str} {p : Pos} (h : localN sc (.Name x p) = true) : sc.names.lookup x = some .local := by
  unfold localN at h
  simp only at h
  split at h
  · assumption
  · cases h
theorem swap_on {ts vs : List Expr} {k k2 : Nat} {p p2 : Pos} {names : List Str} {env : Env} (hb : env.blockKind = .function) (hs : env.scope = sc) (h : swapN sc ts vs = some (some names)) : swappedStores [.Tuple ts k p] (.Tuple vs k2 p2) env = pure (some names) := by
  subst hs
  have hb' : (env.blockKind != .function) = false := by rw [hb]; rfl
  have key : ∀ r, swapN env.scope ts vs = some r → swappedStores [.Tuple ts k p] (.Tuple vs k2 p2) env = pure r := by
    intro r
    unfold swappedStores
    simp only [hb', Bool.or_false]
    generalize hF : List.filterMap _ ts = nm
    have hF2 : ts.filterMap (nmF env.scope ((ts.head?.map (·.pos.line)).getD 0)) = nm := by
      rw [← hF]
      congr 1
      funext e
      cases e <;> try rfl
      next id pos =>
      have : (env.kindOf id == some .local) = decide (env.scope.names.lookup id = some .local) := by
        show (env.scope.names.lookup id == some .local) = _
        rw [Bool.eq_iff_iff, beq_iff_eq, decide_eq_true_iff]
      simp only [nmF, this]
    unfold swapN
    rw [hF2]
    unfold swapD
    generalize hA : (vs.any fun e => !noStar e) = c2
    generalize hB : vs.any _ = c6
    have hAB : c6 = c2 := by
      rw [← hA, ← hB]
      congr 1
      funext e
      cases e <;> rfl
    subst hAB
    generalize (!(ts.length == 2 || ts.length == 3) || vs.length != ts.length) = c1
    generalize (nm.length != ts.length || nm.eraseDups.length != nm.length) = c3
    generalize vs.all (foldedForSure 8) = c4
    generalize vs.all (constantsAlone 8) = c5
    cases c1 <;> cases c6 <;> cases c3 <;> cases c4 <;> cases c5 <;> (intro h; first | (cases h; rfl) | cases h)
  exact key _ h
theorem allS_par {t a : E} : AllS T N X2 sub fuel (.par t a) := by
  refine .one (fun {sc W X st} ok h => ?_) (fun _ _ => by simp [matchB, mB])
  cases st <;> try (simp [matchS, mS] at h; done)
  next tgs v p =>
  rcases tgs with _ | ⟨tg, tl⟩
  · simp [matchS, mS] at h
  cases tl with
  | cons _ _ => cases tg <;> simp [matchS, mS] at h
  | nil =>
  cases tg <;> try (simp [matchS, mS] at h; done)
  next ts k1 p1 =>
  cases v <;> try (simp [matchS, mS] at h; done)
  next vs k2 p2 =>
  simp only [matchS, mS, Bool.and_eq_true, decide_eq_true_eq, Bool.not_eq_true'] at h
  obtain ⟨⟨⟨⟨⟨⟨hh, h1⟩, h2⟩, h3⟩, h4⟩, h5⟩, h6⟩ := h
  have hw := swap_on (k := k1) (p := p1) (k2 := k2) (p2 := p2) ok.bk ok.sc h1
  have hN := ok.nd
  have hsl : ∀ i j v, W.slot = some (j, v) → j ≠ i := fun i j v e => by rw [(ok.hs0 hh).1] at e; cases e
  rcases ts with _ | ⟨e1, _ | ⟨e2, _ | ⟨e3, _ | ⟨e4, r⟩⟩⟩⟩
  · exact absurd h1 (by unfold swapN swapD; simp)
  · exact absurd h1 (by unfold swapN swapD; simp)
  · obtain ⟨i, r1, x, px, rfl, rfl, o1, h4⟩ := matchTs_cons h4
    obtain ⟨j, r2, y, py, rfl, rfl, o2, h4⟩ := matchTs_cons h4
    have := matchTs_nil h4
    subst this
    rcases vs with _ | ⟨v1, _ | ⟨v2, _ | ⟨v3, vr⟩⟩⟩ <;> try (simp at h6; done)
    have hx := localN_of (List.all_eq_true.mp h2 _ List.mem_cons_self)
    have hy := localN_of (List.all_eq_true.mp h2 (.Name y py) (by simp))
    have hij : i ≠ j := by
      intro e
      subst e
      simp [slotsT] at h3
    refine PS.imp (ps_par (i := i) (j := j) (ok.calm hh) (by rw [ok.hN]; exact hN) (by rw [ok.hN]; exact (isOwn_of o1).1) (by rw [ok.hN]; exact (isOwn_of o2).1) hij (by rw [ok.sc]; exact hx) (by rw [ok.sc]; exact hy) ((all2 a).all.pa ok.toOk h5) hw) fun Dd σ H hq => ?_
    obtain ⟨w, ls, rfl, g⟩ := hq
    simp only [evB] at g
    refine ⟨w, ls, rfl, g.onM.mono ?_⟩
    rintro us H1 ⟨w1, ds, rfl, xx, rs, g1⟩
    obtain ⟨ls', hb, q⟩ := g1.optS
    rcases ds with _ | ⟨d1, _ | ⟨d2, _ | ⟨d3, dr⟩⟩⟩
    · cases hb
    · have hb : (if i < ls.length then none else none) = some ls' := hb
      split at hb <;> cases hb
    · obtain ⟨u1, u2, rfl, r1, r2⟩ := rs.two
      have hb : (if i < ls.length then (if j < (ls.set i (some d1)).length then some ((ls.set i (some d1)).set j (some d2)) else none) else none) = some ls' := hb
      split at hb
      · split at hb
        · cases hb
          exact ⟨u1, u2, rfl, q _ ((g1.2.1.set r1 i (hsl _)).set r2 j (hsl _))⟩
        · cases hb
      · cases hb
    · have hb : (if i < ls.length then (if j < (ls.set i (some d1)).length then none else none) else none) = some ls' := hb
      split at hb
      · split at hb <;> cases hb
      · cases hb
  · obtain ⟨i, r1, x, px, rfl, rfl, o1, h4⟩ := matchTs_cons h4
    obtain ⟨j, r2, y, py, rfl, rfl, o2, h4⟩ := matchTs_cons h4
    obtain ⟨l, r3, z, pz, rfl, rfl, o3, h4⟩ := matchTs_cons h4
    have := matchTs_nil h4
    subst this
    rcases vs with _ | ⟨v1, _ | ⟨v2, _ | ⟨v3, _ | ⟨v4, vr⟩⟩⟩⟩ <;> try (simp at h6; done)
    have hx := localN_of (List.all_eq_true.mp h2 _ List.mem_cons_self)
    have hy := localN_of (List.all_eq_true.mp h2 (.Name y py) (by simp))
    have hz := localN_of (List.all_eq_true.mp h2 (.Name z pz) (by simp))
    have hne : i ≠ j ∧ i ≠ l ∧ j ≠ l := by
      simp [slotsT] at h3
      exact ⟨h3.1.1, h3.1.2, h3.2⟩
    refine PS.imp (ps_par3 (i := i) (j := j) (l := l) (ok.calm hh) (by rw [ok.hN]; exact hN) (by rw [ok.hN]; exact (isOwn_of o1).1) (by rw [ok.hN]; exact (isOwn_of o2).1) (by rw [ok.hN]; exact (isOwn_of o3).1) hne.1 hne.2.1 hne.2.2 (by rw [ok.sc]; exact hx) (by rw [ok.sc]; exact hy) (by rw [ok.sc]; exact hz) ((all2 a).all.pa ok.toOk h5) hw) fun Dd σ H hq => ?_
    obtain ⟨w, ls, rfl, g⟩ := hq
    simp only [evB] at g
    refine ⟨w, ls, rfl, g.onM.mono ?_⟩
    rintro us H1 ⟨w1, ds, rfl, xx, rs, g1⟩
    obtain ⟨ls', hb, q⟩ := g1.optS
    rcases ds with _ | ⟨d1, _ | ⟨d2, _ | ⟨d3, _ | ⟨d4, dr⟩⟩⟩⟩
    · cases hb
    · have hb : (if i < ls.length then none else none) = some ls' := hb
      split at hb <;> cases hb
    · have hb : (if i < ls.length then (if j < (ls.set i (some d1)).length then none else none) else none) = some ls' := hb
      split at hb
      · split at hb <;> cases hb
      · cases hb
    · cases rs with
      | cons r1 rs =>
      obtain ⟨u2, u3, rfl, r2, r3⟩ := Reps.two rs
      have hb : (if i < ls.length then (if j < (ls.set i (some d1)).length then (if l < ((ls.set i (some d1)).set j (some d2)).length then some (((ls.set i (some d1)).set j (some d2)).set l (some d3)) else none) else none) else none) = some ls' := hb
      split at hb
      · split at hb
        · split at hb
          · cases hb
            exact ⟨_, u2, u3, rfl, q _ (((g1.2.1.set r1 i (hsl _)).set r2 j (hsl _)).set r3 l (hsl _))⟩
          · cases hb
        · cases hb
      · cases hb
    · have hb : (if i < ls.length then (if j < (ls.set i (some d1)).length then (if l < ((ls.set i (some d1)).set j (some d2)).length then none else none) else none) else none) = some ls' := hb
      split at hb
      · split at hb
        · split at hb <;> cases hb
        · cases hb
      · cases hb
  · exact absurd h1 (by unfold swapN swapD; simp)
end
end EV

/-! raise. -/
namespace EV
open PySem PySem.Spec PyProof.Rows L2
section
variable {T : Tx} {N : List Str} {X2 : Nat → List D → Option D} {sub : Nat → Nat → Option Bool} {fuel : Nat} {sc : Scope} {W : Wl} {X : Cx} {st : Stmt}
/-- X(..), the class known, by what its call gives -/
theorem pmk_E {r : L2.St → List V → Hp → XK → Prop} {C : Addr} {x : Str} {p pos : Pos} {es : List Expr} {t : TA} (hg : Gl X x) (hm : X.mg x = some (.ref C)) (hk : PySem.W.keepIn X.K (.ref C) = true) (hdb : (x == ("__debug__" : Str)) = false)
    (ha : PA X es t) (h0 : es = [] → ∀ σ H Q, t σ H Q → Q [] H) (hst : ∀ e r, es = e :: r → starEach (e :: r) X.env = (false, eval e X.env) :: starEach r X.env ∧ (backTo pos (starEach r X.env)).any (·.1) = false)
    (run : ∀ (pins : List (Addr × Obj)) (s : Shared) (σ : L2.St) (H : Hp) (vs : List V) (us : List Value) (Q : XK), Inv X pins σ H s → Vals vs us → r σ vs H Q → wpAny (model X.prog X.w) X.A (call (.ref C) us) (MkP X pins σ Q) X.xe s) :
    PMk X (.Call (.Name x p) es [] pos) (fun σ H Q => t σ H fun vs H1 => r σ vs H1 Q) := by
  intro pins s σ H Q I h
  refine wpAny_Call_Name_kw (ld_glob I hg hm ?_ hdb)
  cases es with
  | nil => exact PySem.W.callWith_K0 I.kIn hk (run pins s σ H [] [] Q I .nil (h0 rfl _ _ _ h))
  | cons e es =>
    obtain ⟨h1, h2⟩ := hst e es rfl
    refine PySem.W.callWith_K (h₀ := X.base) I.ok.mod.kin hk (thn (ha.run pos pins s σ H _ I h) fun us s1 ⟨vs, H1, I1, r1, q⟩ => ⟨I1.kIn, ?_⟩) h1 h2
    exact run pins s1 σ H1 vs us Q I1 r1 q
theorem allS_rse {c : Nat} {a : E} : AllS T N X2 sub fuel (.rse c a) := by
  refine .one (fun {sc W X st} ok h => ?_) (fun _ _ => by simp [matchB, mB])
  cases st <;> try (simp [matchS, mS] at h; done)
  next e fr p =>
  cases e <;> try (simp [matchS, mS] at h; done)
  next e =>
  cases e <;> try (simp [matchS, mS] at h; done)
  next f es kw p2 =>
  cases f <;> try (simp [matchS, mS] at h; done)
  next x px =>
  cases kw <;> try (simp [matchS, mS] at h; done)
  cases fr <;> try (simp [matchS, mS] at h; done)
  simp only [matchS, mS, Bool.and_eq_true, decide_eq_true_eq, Bool.not_eq_true'] at h
  obtain ⟨⟨⟨⟨hh, rfl⟩, hc⟩, hg⟩, h1⟩ := h
  have stars := matchA_star h1
  obtain ⟨hm, hk⟩ := ok.xg c hc
  refine PS.imp (ps_raise (ok.calm hh) ok.tk (pmk_E (r := fun σ vs H Q => ∃ w ds d, w.H = H ∧ Sim T.S w ∧ RepsW T.S w vs ds ∧ X2 c ds = some d ∧ ∀ w' dd, w'.h = w.h → Ext w w' → Sim T.S w' → RepX T.S w' (.ref (T.S.ca c)) dd c d → Q (.ref (T.S.ca c)) dd w'.H)
    (ok.gL hg) hm hk (plainName_of (isGl_of hg).2).1 ((all2 a).all.pa ok.toOk h1) ?_ ?_ fun pins s σ H vs us Q I r h => ok.xm hh c hc X.pn X.xe pins s σ H vs us Q I r h)) fun Dd σ H hw => ?_
  · rintro rfl σ H Q ⟨w, ls, rfl, g⟩
    cases a <;> try (simp [matchA] at h1; done)
    simp only [evA] at g
    exact g.ret .nil
  · rintro e r rfl
    exact ⟨star_cons (stars e List.mem_cons_self) _ _, star_plain (fun e he => stars e (List.mem_cons_of_mem _ he)) _ _⟩
  · obtain ⟨w, ls, rfl, g⟩ := hw
    simp only [evB] at g
    refine ⟨w, ls, rfl, g.onM.mono ?_⟩
    rintro vs H1 ⟨w1, ds, rfl, x1, r1, g1⟩
    have a1 := g1.2.2
    cases hd : X2 c ds with
    | none => simp only [hd] at a1; exact a1.elim
    | some d =>
      simp only [hd] at a1
      exact ⟨w1, ds, d, rfl, g1.1, r1, hd, fun w' dd e' x' s' rx => a1 w' σ e' x' s' (g1.2.1.ext x'.toExt0) _ dd rx⟩
end
end EV

/-! isinstance of a caught exception, with a dict or without. -/
namespace EV
open PySem PySem.Spec PySem.W PyProof.Rows L2
section
variable {prog : Program} {wd : World} {A : Around} {E : Value → Shared → Prop} {K : Frag} {x Cl : Addr} {ox : Obj} {od : Option Obj}
theorem found_cls (c : ExcC K Cl) : findObj K Cl od "__class__" = some (.bind (.builtin "getset_descriptor.__get__") (.builtin "object.__class__")) := by
  obtain ⟨cd, hc, _⟩ := any_some c.hd
  unfold findObj
  rw [hc]
  simp [c.ha, c.hn, c.ht]
theorem cls_of_exc {s : Shared} {Q : Option Value → Shared → Prop} (c : ExcC K Cl) (k : K.In s.heap) (i : InstAt s.heap x ox Cl od) (q : Q (some (.ref Cl)) { s with toks := s.toks + 1 }) : wpAny (model prog wd) A (getAttr? (.ref x) "__class__") Q E s := by
  obtain ⟨hp, ge, dr, tk, os⟩ := s
  have ty := i.type (M := model prog wd)
  have fd := looks_find (M := model prog wd) k i (found_cls (od := od) c)
  have isB : Looks (model prog wd) hp (isInstance (.ref x) (.type "BaseException")) true := ty.andThen (looks_subIn k c.hs)
  have plain : (onTheHeap (Value.ref Cl) && Value.builtin "BaseException.__getattribute__" == Value.builtin "object.__getattribute__") = false := by
    have : (Value.builtin "BaseException.__getattribute__" == Value.builtin "object.__getattribute__") = false := by decide +kernel
    rw [this, Bool.and_false]
  unfold getAttr? getAttrBy? getAttrBy
  refine wpAny_bind (wpAny_mkText (wpAny_bind (wpAny_attempt (wpAny_holding (wpAny_bind (ty.at (wpAny_bind ((looks_findIn (M := model prog wd) k c.hg).at ?_))))))))
  show wpAny _ _ (if (onTheHeap (Value.ref Cl) && Value.builtin "BaseException.__getattribute__" == Value.builtin "object.__getattribute__") = true then _ else _) _ _ _
  rw [plain, if_neg Bool.false_ne_true]
  unfold getAttrByItsOwn hookBefore
  refine wpAny_bind ?_
  rw [if_pos (show onTheHeap (Value.ref Cl) = true from rfl)]
  refine (looks_findIn (M := model prog wd) k c.hk).at (wpAny_bind (wpAny_attempt (wpAny_holding ?_)))
  unfold callGetattribute
  rw [show (false && onTheHeap (Value.builtin "BaseException.__getattribute__")) = false from rfl, if_neg Bool.false_ne_true]
  unfold boundAndCalled
  rw [PySem.F.excAttr_ValueError.ga.bind (.ref x)]
  refine wpAny_bind (wpAny_pure ?_)
  show wpAny _ _ (call (.builtin "BaseException.__getattribute__") [.ref x, .str "__class__" tk]) _ _ _
  refine wpAny_call (codeAny_call_builtin PySem.F.excAttr_ValueError.ga.plain PySem.F.entry_bexc_ga ?_)
  refine @check_slot (model prog wd) _ _ ⟨hp, ge, dr, tk + 1, os⟩ "BaseException.__getattribute__" "BaseException" "__getattribute__" (.ref x) [.str "__class__" tk] [] _ (by decide +kernel) (by decide +kernel) isB (PySem.F.args_bexc_ga (.ref x) (.str "__class__" tk)) ?_
  unfold Builtin.«object.__getattribute__»
  refine wpAny_bind (wpAny_of_eq (a := ((Value.ref x : Value), [Value.str "__class__" tk])) (by first | rfl | (simp only [slotArgs]; rfl)) ?_)
  refine wpAny_bind (wpAny_pure (wpAny_bind (ty.at (wpAny_bind (fd.at ?_)))))
  show wpAny _ _ (holding [Value.builtin "object.__class__"] (call (.builtin "getset_descriptor.__get__") [.builtin "object.__class__", .ref x, .ref Cl]) >>= ret) _ _ _
  refine wpAny_bind (wpAny_holding (wpAny_call (class_get (s := ⟨hp, ge, dr, tk + 1, os⟩) (ox := ox) (od := od) k i c.hm ?_)))
  refine wpAny_pure ?_
  show wpAny _ _ (handedOut (.ref Cl)) _ _ _
  rw [handedOut_of (v := .ref Cl) rfl]
  first
    | exact wpAny_pure (wpAny_pure q)
    | exact wpAny_pure q
    | exact wpAny_pure (wpAny_bind (wpAny_pure (wpAny_pure q)))
theorem kit_exc (c : ExcC K Cl) : KitX K (.ref x) (.ref Cl) (fun h => ∃ od, InstAt h x ox Cl od) where
  ty := fun _ _ _ ⟨_, i⟩ => i.type
  it := fun _ _ k _ => by
    obtain ⟨cd, hc, _⟩ := any_some c.hd
    unfold clsIn at hc
    split at hc
    · next c' d' cd' sl' ho =>
      intro A' Q' E' s' kk q
      unfold isType loadHead
      exact wpAny_bind (wpAny_loadPart (kk _ _ (k _ _ ho)) (wpAny_pure q))
    · cases hc
  ne := fun h tp dd its n sl k htp => by
    obtain ⟨cd, hc, _⟩ := any_some c.hd
    cases q : (Value.ref Cl == Value.ref tp) with
    | false => rfl
    | true =>
      cases Value.ref.inj (beq_iff_eq.mp q)
      unfold clsIn at hc
      split at hc
      · next c' d' cd' sl' ho => cases (k _ _ ho).symm.trans htp
      · cases hc
  ca := fun k ⟨_, i⟩ q => cls_of_exc c k i q
end
/-- isinstance(e, c), e the exception that the suite holds -/
theorem call_isX {X : Cx} {a Cl : Addr} {dd : Option Addr} {oe : Obj} {pn : List (Addr × Obj)} (c : ExcC X.K Cl) (hz : Zc (.ref Cl) dd oe) (hf : ∃ vs, oe.data = .fields vs) :
    CallR (X.suite a ((a, oe) :: pn)) (.builtin "isinstance") (fun xs H Q => (∀ d, dd = some d → ∃ fs, H d = some (.xd fs)) ∧ rIsE X.K Cl a xs H Q) := by
  intro pins s σ H xs us Q I r ⟨hd, h⟩
  obtain ⟨k, cv, b, rfl, hcv, e, q⟩ := h
  obtain ⟨u1, u2, rfl, r1, r2⟩ := vals2 r
  cases (show u1 = Value.ref a from r1)
  cases hcv _ r2
  obtain ⟨hget, _⟩ := I.pin (a, oe) (List.mem_append_left _ List.mem_cons_self)
  obtain ⟨vs, hv⟩ := hf
  have i : ∃ od, InstAt s.heap a oe Cl od := by
    cases dd with
    | none => exact ⟨none, hget, hz.1, by unfold notCls; rw [hv] <;> rfl, by rw [hz.2]; trivial⟩
    | some d =>
      obtain ⟨fs, hx⟩ := hd d rfl
      have hx : ObjOk X.prog X.w H s.heap d (.xd fs) := I.hok d _ hx
      obtain ⟨mA, hns, hr⟩ := hx
      obtain ⟨od, ho, _⟩ := lookIn_ns hns
      exact ⟨some od, hget, hz.1, by unfold notCls; rw [hv] <;> rfl, by rw [hz.2]; exact ho⟩
  exact kia_one (kit_exc c) I.kIn i e (fun z => nomatch z) fun tk => ⟨.bl b, H, I.tok tk, rfl, q⟩
end EV

/-! try with one clause of two classes: except (A, B). -/
namespace EV
open PySem PySem.Spec PyProof.Rows L2
theorem fly_push {B h : Heap} {l : List Env} {a : Addr} {Z : Obj → Prop} (x : HandSPX.FlyingZ B l a Z h) (o : Obj) : HandSPX.FlyingZ B l a Z (h.push o) := by
  have kp : ∀ b z, h.get? b = some z → (h.push o).get? b = some z := fun b z e => Heap.get?_push_of_some _ e
  obtain ⟨x1, x2, x3, oe, vs, T, oT, ts, y1, y2, y3, y4, y5, y6, y7, y8, y9⟩ := x
  exact ⟨fun b z e => kp b z (x1 b z e), x2, x3.of_keeps fun b z e _ => ⟨z, kp b z e, rfl⟩, oe, vs, T, oT, ts, kp _ _ y1, y2, y3, y4, y5, y6, kp _ _ y7, y8, y9⟩
theorem up_push {h : Heap} (o : Obj) : h.UpToSlots (h.push o) := fun b z e _ => ⟨z.slots, Heap.get?_push_of_some _ e⟩
/-- what one clause of two classes wishes -/
def wPair (K : PySem.W.Frag) (c1 c2 : Value) (ts : Addr → Value → Option Addr → TS) (Wo : WX) (D : Ends) : WX := fun cls d σ H =>
  ∃ v, PySem.W.exmAny K cls [c1, c2] = some v ∧ match v with
    | true => ∀ a, H a = none → ts a cls d D σ H
    | false => Wo cls d σ H
section
variable {X : Cx} {x y : Str} {c1 c2 : Value} {body rest : List Stmt} {st0 : Stmt} {px py pt pc pos : Pos} {k : Nat} {tb : WX → TS} {ts : Addr → Value → Option Addr → TS} {Wo : WX}
theorem name_ev {pins : List (Addr × Obj)} {σ : L2.St} {H : Hp} {s : Shared} {a : Addr} {pn : List (Addr × Obj)} {E : Value → Shared → Prop} {Q : Value → Shared → Prop} (I : Inv (X.suite a pn) pins σ H s) (nm : Names X x c1) (q : Q c1 s) : wpAny (model X.prog X.w) (X.A.mark (some (.ref a))) (eval (.Name x px) X.env) Q E s := by
  rcases nm with ⟨g, nd, m | ⟨m, v, z⟩⟩
  · exact ld_glob (X := X.suite a pn) I g m q nd
  · exact ld_blt (X := X.suite a pn) I g m v q z nd
/-- the end of a run that came back from the body or the suite -/
theorem back_ok {pins pins' : List (Addr × Obj)} {X' : Cx} {s : Shared} {f : Flow} {Dd : Ends} (go : ∀ {σ : L2.St} {H : Hp}, Inv X' pins' σ H s → Inv X pins σ H s) (h : SP X' pins' Dd f s) : SP X pins Dd f s := by
  cases f with
  | ret u => exact h.elim fun v h => h.elim fun σ h => h.elim fun H h => ⟨v, σ, H, go h.1, h.2⟩
  | _ => exact h.elim fun σ h => h.elim fun H h => ⟨σ, H, go h.1, h.2⟩
/-- ps_try_only's like for one clause of two classes: the tuple stays behind as an object of nobody's -/
theorem ps_try_pair (hst : X.stack = X.env :: X.outer) (hfm : X.env.frame = some X.env.locals) (n1 : Names X x c1) (n2 : Names X y c2) (tk : Takes X Wo)
    (hbd : ∀ (V : WX) (pn : List (Addr × Obj)) (xq : Value → Shared → Prop), Takes (X.tr pn xq) V → PassesOwn (model X.prog X.w) X.A X.env xq → PSs (X.tr pn xq) body (tb V))
    (hst2 : ∀ (a : Addr) (ob : Obj) (cls : Value) (d : Option Addr) (pn : List (Addr × Obj)), Zc cls d ob → (∃ vs, ob.data = .fields vs) → PSs (X.suite a ((a, ob) :: pn)) (st0 :: rest) (ts a cls d)) :
    PS X (.Try body [.ExceptHandler (some (.Tuple [.Name x px, .Name y py] k pt)) none (st0 :: rest) pc] [] [] pos) (fun Dd σ H => tb (wPair X.K c1 c2 ts Wo Dd) Dd σ H) := by
  refine ⟨fun pins s σ H Dd I hw => ?_⟩
  have okX := I.ok
  have fr0 : X.A.frames = some (X.env :: X.outer) := by rw [okX.frames, hst]
  refine wpAny_Try_except (wpAny_mono ((hbd (wPair X.K c1 c2 ts Wo Dd) (X.pn ++ pins) (fun e s₁ => wpAny (model X.prog X.w) X.A (noteFrame e X.env) (fun _ s₂ => wpAny (model X.prog X.w) X.A (setFlight e none) (fun _ s₃ =>
    wpAny (model X.prog X.w) X.A (handleBy e X.env [.ExceptHandler (some (.Tuple [.Name x px, .Name y py] k pt)) none (st0 :: rest) pc]) (SP X pins Dd) X.xe s₃) X.xe s₂) X.xe s₁) (fun u st2 fell => ?_) PassesOwn.looking).run [] s σ H Dd (I.toTry _) hw) (fun f st2 hsp => ?_) (fun _ _ z => z))
  · obtain ⟨a, B, sB, _, σ1, H1, cls, d, rfl, IB, fresh, up1, inSky, free, osq, bare, wish⟩ := fell
    have IG : Inv X pins σ1 H1 sB := IB.ofTry okX
    rw [hst] at inSky
    show wpAny (model X.prog X.w) X.A (noteFrame (.ref a) X.env) _ _ _
    refine Sky.land Zc.steady fr0 hfm inSky fun g1 fly1 up2 => ?_
    -- what holds of any later heap in which the exception still flies
    have stands : ∀ g, HandSPX.FlyingZ B (X.env :: X.outer) a (Zc cls d) g → sB.heap.UpToSlots g → Inv X pins σ1 H1 { st2 with heap := g } ∧ ∃ ob, g.get? a = some ob ∧ Zc cls d ob ∧ (∃ vs, ob.data = .fields vs) ∧ Inv (X.suite a ((a, ob) :: (X.pn ++ pins))) [] σ1 H1 { st2 with heap := g } := by
      intro g fly upg
      have Ig : Inv X pins σ1 H1 { st2 with heap := g } := IG.landed fresh fly.1 upg osq bare
      obtain ⟨ob, vs, at_, zc, dt⟩ := fly.there
      have out : a ∉ frs (X.env :: X.outer) := fun mem => by
        obtain ⟨_, ob', at2, nof⟩ := fly.2.2.1.mem mem
        have := at_.symm.trans at2
        cases this
        exact nof _ dt
      refine ⟨Ig, ob, at_, zc, ⟨vs, dt⟩, Ig.suite at_ dt free (fun z => out ?_) fun mem => out ?_⟩
      · exact List.mem_filterMap.mpr ⟨X.env, .head _, by rw [hfm, ← z]⟩
      · obtain ⟨e, me, q⟩ := List.mem_filterMap.mp mem
        exact List.mem_filterMap.mpr ⟨e, .tail _ me, q⟩
    obtain ⟨I1, ob1, at1, z1, _, S1⟩ := stands g1 fly1 (up1.trans up2)
    obtain ⟨v, hany, after⟩ := wish
    refine wpAny_handleBy_cons (codeAny_handlers_test ?_) nofun
    -- the tuple of the two classes
    refine wpAny_Tuple (wpAny_items_cons (name_ev S1 n1 (wpAny_items_cons (name_ev S1 n2 (wpAny_items_nil ⟨by size_fits, ?_⟩)))))
    have kp : ∀ b o, g1.get? b = some o → (g1.push { cls := .type "tuple", data := .seq [c1, c2].toArray }).get? b = some o := fun _ _ e => Heap.get?_push_of_some _ e
    have fly2 := fly_push fly1 { cls := .type "tuple", data := .seq [c1, c2].toArray }
    have up3 := (up1.trans up2).trans (Heap.UpToSlots.of_keeps kp)
    obtain ⟨I2, ob2, at2, z2, _, S2⟩ := stands _ fly2 up3
    have LT : PySem.W.Looks (model X.prog X.w) (g1.push { cls := .type "tuple", data := .seq [c1, c2].toArray }) (typeOf (.ref a)) cls := fun A Q E s kk q => wpAny_typeOf_ref (kk _ _ at2) (by rw [z2.1]; exact q)
    refine (PySem.W.exm_tup2 (M := model X.prog X.w) I2.kIn LT (Heap.get?_push_size g1 rfl) hany).here ?_
    cases v with
    | true =>
      refine codeAny_handlers_suite (HandSPX.lands_againZ fly2 fun g3 fly3 up4 => ?_)
      obtain ⟨I3, ob3, at3, z3, dt3, S3⟩ := stands g3 fly3 (up3.trans up4)
      exact wpAny_mono ((hst2 a ob3 cls d (X.pn ++ pins) z3 dt3).run [] _ σ1 H1 Dd S3 (after a free)) (fun f s6 e => back_ok (fun J => J.unsuite okX) e) fun _ _ z => z.elim
    | false =>
      show wpAny _ X.A (handleBy (.ref a) X.env []) _ _ _
      refine wpAny_handleBy_nil ?_
      have fly2' := fly2
      obtain ⟨_, _, _, oe, vs, T, oT, tt, e1, _, e3, e4, _⟩ := fly2'
      unfold PySem.passOn
      refine wpAny_bind (wpAny_field e1 e3 e4 ?_)
      rw [if_neg (show ¬ ((Value.ref T == Value.none) = true) from by simp)]
      refine wpAny_bind ?_
      rw [hfm]
      refine HandSPX.setFlight_upZ fly2 fun g4 held up5 => wpAny_throw (tk _ _ ?_)
      exact ⟨a, B, sB, pins, σ1, H1, cls, d, rfl, IG, fresh, up3.trans up5, .inr (.inr (by rw [hst]; exact held)), free, osq, bare, after⟩
  · cases f with
    | next => exact wpAny_execs_nil (back_ok (f := .next) (fun J => J.ofTry okX) hsp)
    | _ => exact back_ok (fun J => J.ofTry okX) hsp
end
end EV

/-! try. -/
namespace EV
open PySem PySem.Spec PyProof.Rows L2
section
variable {T : Tx} {N : List Str} {X2 : Nat → List D → Option D} {sub : Nat → Nat → Option Bool} {fuel : Nat} {sc : Scope} {W : Wl} {X : Cx} {st : Stmt}
theorem RepX.ext {S : St0} {w w' : Wd} {cls : Value} {dd : Option Addr} {c : Nat} {d : D} (x : Ext0 w w') (r : RepX S w cls dd c d) : RepX S w' cls dd c d := by
  obtain ⟨h, q⟩ := r
  refine ⟨h, ?_⟩
  cases d with
  | tup l =>
    obtain ⟨dx, vs, e1, e2, e3⟩ := q
    exact ⟨dx, vs, e1, x.xd _ _ e2, Reps.ext x e3⟩
  | _ => exact q
/-- a field by number, by name -/
theorem lookup_fld {S : St0} {w : Wd} {fld : Nat → Str} {k : Nat} : ∀ {fs : List Nat} {vs : List V} {ls : List D} {d : D}, (∀ f g, f ∈ fs → g ∈ fs → fld f = fld g → f = g) → RepsW S w vs ls → (fs.zip ls).lookup k = some d →
    k ∈ fs ∧ ∃ v, ((fs.map fld).zip vs).lookup (fld k) = some v ∧ RepW S w v d
  | [], vs, ls, d, _, _, h => by simp at h
  | f :: fs, vs, ls, d, inj, r, h => by
    cases r with
    | nil => simp at h
    | @cons v e vs es rv rt =>
      rw [List.zip_cons_cons, List.lookup_cons] at h
      rw [List.map_cons, List.zip_cons_cons, List.lookup_cons]
      by_cases q : k = f
      · subst q
        rw [beq_self_eq_true] at h
        cases h
        rw [beq_self_eq_true]
        exact ⟨List.mem_cons_self, v, rfl, rv⟩
      · rw [beq_eq_false_iff_ne.mpr q] at h
        obtain ⟨h1, v', h2, h3⟩ := lookup_fld (fun f g hf hg => inj f g (List.mem_cons_of_mem _ hf) (List.mem_cons_of_mem _ hg)) rt h
        have : (fld k == fld f) = false := beq_eq_false_iff_ne.mpr fun z => q (inj k f (List.mem_cons_of_mem _ h1) List.mem_cons_self z)
        rw [this]
        exact ⟨List.mem_cons_of_mem _ h1, v', h2, h3⟩

/-- the wish within a suite: its exception stands at a -/
def suW (S : St0) (i : Option Nat) (a : Addr) (cls : Value) (d : Option Addr) (c : Nat) (dx : D) : Wl := ⟨fun _ _ _ _ => False, i.map fun j => (j, .ref a), fun w => RepX S w cls d c dx, fun _ _ x r => r.ext x⟩
theorem isNm {i : Option Nat} {n : Str} (h : nmOk N sc i (some n) = true) : ∃ j, i = some j ∧ N[j]? = some n ∧ sc.names.lookup n = some .local ∧ plainName n = true := by
  cases i with
  | none => simp [nmOk] at h
  | some j =>
    simp only [nmOk, Bool.and_eq_true, decide_eq_true_eq] at h
    exact ⟨j, rfl, h.1.1, h.1.2, h.2⟩
theorem hot_hx (ok : OkB T N X2 sub sc W X) {nm : Option Str} {i : Option Nat} (hnm : nmOk N sc i nm = true) {a : Addr} {oe : Obj} {cls : Value} {d : Option Addr} {c : Nat} {dx : D} {pn : List (Addr × Obj)} (hz : Zc cls d oe) (hf : ∃ vs, oe.data = .fields vs)
    {f : Nat} {ex : Expr} (h : hmF T.toNm nm f sc ex = true) : PE (X.suite a ((a, oe) :: pn)) ex (RE T.S (suW T.S i a cls d c dx) fun _ => hotC T.S.xf sub c dx f []) := by
  cases nm with
  | none => simp [hmF] at h
  | some n =>
  obtain ⟨j, rfl, hj, hl, hp⟩ := isNm hnm
  obtain ⟨hp1, hp2, _⟩ := plainName_of hp
  have pv : ∀ p, PE (X.suite a ((a, oe) :: pn)) (.Name n p) (tVar j) := fun p => pe_var (i := j) (by rw [show (X.suite a ((a, oe) :: pn)).N = X.N from rfl, ok.hN]; exact hj) (.inl (by rw [show (X.suite a ((a, oe) :: pn)).env = X.env from rfl, ok.sc]; exact hl)) hp1 hp2
  refine ⟨fun pins s σ H Q I hw => ?_⟩
  obtain ⟨w, ls, rfl, g⟩ := hw
  have sl : σ[j]? = some (some (.ref a)) := g.2.1.sl j _ rfl
  have rx : RepX T.S w cls d c dx := g.2.1.inv
  obtain ⟨rfl, rd⟩ := rx
  unfold hmF at h
  simp only at h
  split at h
  · next gn px m pm x px2 p =>
    simp only [Bool.and_eq_true, decide_eq_true_eq] at h
    obtain ⟨⟨⟨⟨⟨⟨h1, rfl⟩, h3⟩, rfl⟩, rfl⟩, h6⟩, h7⟩ := h
    have hC : hotC T.S.xf sub c dx f [] = liftO ((sub c f).map D.bl) := by unfold hotC; rw [if_pos h1]
    rw [hC] at g
    obtain ⟨r, hr, fin⟩ := g.opt (o := (sub c f).map D.bl) (liftO_eq _ _)
    rw [Option.map_eq_some_iff] at hr
    obtain ⟨b, hb, rfl⟩ := hr
    obtain ⟨_, hk, hE⟩ := ok.xs c f b hb
    have gl1 : Gl (X.suite a ((a, oe) :: pn)) "isinstance" := ok.gL h3
    have gl2 : Gl (X.suite a ((a, oe) :: pn)) (T.xn f) := ok.gL h7
    have pg : PE (X.suite a ((a, oe) :: pn)) (.Name (T.xn f) px2) (tC (.ref (T.S.ca f))) := pe_glob gl2 (ok.xg f h6).1 rfl (plainName_of (isGl_of h7).2).1
    refine (pe_callB (call_isX (pn := pn) hE hz hf) gl1 (ok.blt _ (by decide)) (by decide +kernel) (pa_cons (pv pm) (pa_cons pg pa_nil rfl) rfl) (by decide) (by decide) rfl rfl).run pins s σ w.H Q I ?_
    refine ⟨_, sl, fun d' e => ?_, _, _, b, rfl, fun u r => r, hk, fin.here g.sim (.bl b)⟩
    subst e
    cases dx with
    | tup l =>
      obtain ⟨dx', vs, e1, e2, _⟩ := rd
      cases e1
      exact ⟨_, e2⟩
    | _ => cases rd
  · next m pm at_ p =>
    simp only [Bool.and_eq_true, decide_eq_true_eq] at h
    obtain ⟨⟨h1, rfl⟩, rfl⟩ := h
    cases dx with
    | tup l =>
      have hC : hotC T.S.xf sub c (.tup l) f [] = liftO (((T.S.xf c).zip l).lookup (f - 1000)) := by
        unfold hotC
        rw [if_neg (by omega)]
      rw [hC] at g
      obtain ⟨r, hr, fin⟩ := g.opt (o := ((T.S.xf c).zip l).lookup (f - 1000)) (liftO_eq _ _)
      obtain ⟨dx', vs, rfl, e2, rs⟩ := rd
      obtain ⟨hm, v, hv, rv⟩ := lookup_fld (fun f' g' hf' hg' e => (ok.xl c f' hf').2.2 g' hg' e) rs hr
      obtain ⟨x1, x2, _⟩ := ok.xl c _ hm
      rw [show T.fd (f - 1000) = T.S.fld (f - 1000) from congrFun ok.fdq _]
      exact (pe_xf x1 x2 hz hf (pv pm) rfl).run pins s σ w.H Q I ⟨_, sl, rfl, rfl, dx', _, v, rfl, e2, hv, fin.here g.sim rv⟩
    | _ => exact (g.not fun _ => by unfold hotC; rw [if_neg (by omega)]; rfl).elim
  · cases h
end
end EV

/-! try, the statement. -/
namespace EV
open PySem PySem.Spec PyProof.Rows L2
section
variable {T : Tx} {N : List Str} {X2 : Nat → List D → Option D} {sub : Nat → Nat → Option Bool} {fuel : Nat} {sc : Scope} {W : Wl} {X : Cx} {st : Stmt} {S : St0}
theorem AfterS.lift {W1 W2 : Wl} {Dd : Ends} {w : Wd} {r : SRes} (hw : ∀ cls dd σ H, W1.wx cls dd σ H → W2.wx cls dd σ H) (hl : ∀ w σ ls, Locs W2 S w σ ls → Locs W1 S w σ ls) (a : AfterS S W1 Dd w r) : AfterS S W2 Dd w r := by
  cases r with
  | stk => exact a
  | err c d ls h => exact fun w' σ' e x s l cls dd r => hw _ _ _ _ (a w' σ' e x s (hl _ _ _ l) cls dd r)
  | nx ls h => exact fun w' σ' e x s l => a w' σ' e x s (hl _ _ _ l)
  | ret d h => exact a
  | bk ls h => exact fun w' σ' e x s l => a w' σ' e x s (hl _ _ _ l)
  | ct ls h => exact fun w' σ' e x s l => a w' σ' e x s (hl _ _ _ l)
/-- behind the suite the name is gone -/
def goneE (i : Option Nat) (Dd : Ends) : Ends := match i with
  | none => Dd
  | some j => { nx := fun σ' H' => Dd.nx (σ'.set j none) H', rt := Dd.rt, bk := fun σ' H' => Dd.bk (σ'.set j none) H', ct := fun σ' H' => Dd.ct (σ'.set j none) H' }
theorem AfterS.unset {i : Option Nat} {Dd : Ends} {w : Wd} {m : SM} {h : Hh} (hl : ∀ w σ ls, Locs noW S w σ ls → Locs W S w σ ls) (a : AfterS S W Dd w (unsetS i m h)) : AfterS S noW (goneE i Dd) w (m h) := by
  unfold unsetS at a
  cases e : m h with
  | stk => rw [e] at a; exact a
  | err c d ls h => rw [e] at a; exact a.elim
  | nx ls h =>
    rw [e] at a
    cases i with
    | none => exact fun w' σ' e x s l => a w' _ e x s (hl _ _ _ l)
    | some j => exact fun w' σ' e x s l => a w' _ e x s (hl _ _ _ (l.clear j))
  | ret d h =>
    rw [e] at a
    cases i with
    | none => exact a
    | some j => exact a
  | bk ls h =>
    rw [e] at a
    cases i with
    | none => exact fun w' σ' e x s l => a w' _ e x s (hl _ _ _ l)
    | some j => exact fun w' σ' e x s l => a w' _ e x s (hl _ _ _ (l.clear j))
  | ct ls h =>
    rw [e] at a
    cases i with
    | none => exact fun w' σ' e x s l => a w' _ e x s (hl _ _ _ l)
    | some j => exact fun w' σ' e x s l => a w' _ e x s (hl _ _ _ (l.clear j))
/-- a slot of the frame is taken that the evaluator does not see -/
theorem Locs.blind {w : Wd} {σ : L2.St} {ls : Ls} (l : Locs W S w σ ls) (j : Nat) (v : Option V) : Locs noW S w (σ.set j v) (ls.set j none) where
  len := by rw [List.length_set, List.length_set]; exact l.len
  sl := fun _ _ e => nomatch e
  inv := trivial
  at_ := fun i d e => by
    by_cases hj : j = i
    · subst hj
      by_cases hi : j < ls.length
      · rw [List.getElem?_set_self hi] at e
        cases e
      · rw [List.getElem?_eq_none (by rw [List.length_set]; omega)] at e
        cases e
    · rw [List.getElem?_set_ne hj] at e
      obtain ⟨v', h1, h2⟩ := l.at_ i d e
      exact ⟨v', by rw [List.getElem?_set_ne hj]; exact h1, h2⟩

/-- the suite's reading -/
def tSu (S : St0) (sub : Nat → Nat → Option Bool) (i : Option Nat) (ev : (Nat → List D → M D) → Ls → SM) (a : Addr) (cls : Value) (d : Option Addr) : TS := fun Dd σ H =>
  ∃ c dx w ls, w.H = H ∧ RepX S w cls d c dx ∧ (∀ j, i = some j → σ[j]? = some (some (.ref a))) ∧ Sim S w ∧ Locs noW S w σ ls ∧ AfterS S noW Dd w (ev (hotC S.xf sub c dx) ls w.h)
theorem suite_ok {s : B} {nm : Option Str} {i : Option Nat} (ok : OkB T N X2 sub sc W X) (hs : ∀ T', AllS T' N X2 sub fuel s) (hnm : nmOk N sc i nm = true) {b₀ : Stmt} {suite : List Stmt} (hm : mB N s (hotT T.toNm nm i) sc (b₀ :: suite) = true)
    (a : Addr) (oe : Obj) (cls : Value) (d : Option Addr) (pn : List (Addr × Obj)) (hz : Zc cls d oe) (hf : ∃ vs, oe.data = .fields vs) :
    PSs (X.suite a ((a, oe) :: pn)) (b₀ :: suite) (tSu T.S sub i (evB T.S.xf T.gl X2 sub fuel s) a cls d) := by
  refine ⟨fun pins st σ H Dd I h => ?_⟩
  obtain ⟨c, dx, w, ls, rfl, rx, hsl, sim, loc, af⟩ := h
  let T' : Tx := ⟨hotT T.toNm nm i, T.S, hotC T.S.xf sub c dx, T.gl, T.k⟩
  have ok' : OkB T' N X2 sub sc (suW T.S i a cls d c dx) (X.suite a ((a, oe) :: pn)) := {
    hN := ok.hN, nd := ok.nd, sc := ok.sc, K := ok.K, calm := (fun h => by cases h), room := (fun h => by cases h), hu := ok.hu, gl := ok.gl, blt := ok.blt, fns := (fun f hf => absurd hf (Nat.not_lt_zero _)), tk := takesF
    hx := fun _ f ex he => hot_hx ok hnm hz hf (by have e : (X.suite a ((a, oe) :: pn)).env.scope = sc := ok.sc; rw [e] at he; exact he)
    fn := ok.fn
    hs := fun j v e => by
      cases i with
      | none => cases e
      | some j' => cases e; rfl
    hs0 := fun h => by cases h
    fdq := ok.fdq, po := (fun h => by cases h), st := ok.st, fr := ok.fr, kd := ok.kd, xg := ok.xg, xm := (fun h => by cases h), xs := ok.xs, xl := ok.xl }
  refine ((hs T').pss ok' hm).run pins st σ w.H Dd I ⟨w, ls, rfl, sim, ⟨loc.len, loc.at_, fun j v e => ?_, rx⟩, af.lift (W1 := noW) (fun _ _ _ _ z => z) fun w σ ls l => l.no⟩
  cases i with
  | none => cases e
  | some j' =>
    have e : some (j', V.ref a) = some (j, v) := e
    cases e
    exact hsl _ rfl
theorem body_ok {b : B} (ok : OkB T N X2 sub sc W X) (hh : T.hot = false) (hb : AllS T N X2 sub fuel b) {body : List Stmt} (hm : mB N b T.toNm sc body = true) (W' : WX) (pn : List (Addr × Obj)) (xe : Value → Shared → Prop) (tk : Takes (X.tr pn xe) W') (po : PassesOwn (model X.prog X.w) X.A X.env xe) :
    PSs (X.tr pn xe) body (RS T.S (Wl.of W') (evB T.S.xf T.gl X2 sub fuel b T.C)) := by
  refine hb.pss (sc := sc) ?_ hm
  exact {
    hN := ok.hN, nd := ok.nd, sc := ok.sc, K := ok.K, calm := ok.calm, room := ok.room, hu := ok.hu, gl := ok.gl, blt := ok.blt, fns := ok.fns, tk := tk, hx := (fun h => by rw [hh] at h; cases h)
    fn := ok.fn, hs := (fun j v e => by cases e), hs0 := fun _ => ⟨rfl, fun _ => trivial⟩, fdq := ok.fdq, po := fun _ => po, st := ok.st, fr := ok.fr, kd := ok.kd, xg := ok.xg, xm := ok.xm, xs := ok.xs, xl := ok.xl }
/-- what the clause does with an exception of the body -/
theorem try_go {b s : B} {cs : List Nat} {i : Option Nat} (ok : OkB T N X2 sub sc W X) (hh : T.hot = false) {W' : WX} {Dd : Ends} {σ : L2.St} {H : Hp} (h : RS T.S W (evB T.S.xf T.gl X2 sub fuel (.try1 b cs i s) T.C) Dd σ H)
    (yes : ∀ w σ ls c d dd ls2, Locs W T.S w σ ls → Sim T.S w → anySub sub c cs = some true → RepX T.S w (.ref (T.S.ca c)) dd c d → preS i ls = some ls2 → AfterS T.S noW (goneE i Dd) w (evB T.S.xf T.gl X2 sub fuel s (hotC T.S.xf sub c d) ls2 w.h) → W' (.ref (T.S.ca c)) dd σ w.H)
    (no : ∀ c dd σ H, anySub sub c cs = some false → W.wx (.ref (T.S.ca c)) dd σ H → W' (.ref (T.S.ca c)) dd σ H) : RS T.S (Wl.of W') (evB T.S.xf T.gl X2 sub fuel b T.C) Dd σ H := by
  obtain ⟨w, ls, rfl, g⟩ := h
  have toW : ∀ {w σ ls} {W0 : Wl}, Locs W0 T.S w σ ls → Locs W T.S w σ ls := fun l => ⟨l.len, l.at_, (fun j v e => by rw [(ok.hs0 hh).1] at e; cases e), (ok.hs0 hh).2 _⟩
  refine ⟨w, ls, rfl, g.1, g.2.1.ofW, ?_⟩
  have a := g.2.2
  simp only [evB] at a
  cases er : evB T.S.xf T.gl X2 sub fuel b T.C ls w.h with
  | stk => rw [er] at a; exact a
  | nx ls h => rw [er] at a; exact fun w' σ' e x s l => a w' σ' e x s (toW l)
  | ret d h => rw [er] at a; exact a
  | bk ls h => rw [er] at a; exact fun w' σ' e x s l => a w' σ' e x s (toW l)
  | ct ls h => rw [er] at a; exact fun w' σ' e x s l => a w' σ' e x s (toW l)
  | err c d ls' h' =>
    rw [er] at a
    simp only at a
    rintro w' σ' rfl x s' l cls dd rx
    have hcls := rx.1
    subst hcls
    cases hb : anySub sub c cs with
    | none =>
      rw [hb] at a
      exact a.elim
    | some v =>
      rw [hb] at a
      cases v with
      | true =>
        simp only at a
        cases hp : preS i ls' with
        | none => rw [hp] at a; exact a.elim
        | some ls2 =>
          rw [hp] at a
          exact yes w' σ' ls' c d dd ls2 (toW l) s' hb rx hp (AfterS.unset (fun _ _ _ l => toW l) (AfterS.from x a))
      | false => exact no c dd σ' w'.H hb (a w' σ' rfl x s' (toW l) _ dd rx)
theorem any_1 {c k : Nat} {v : Bool} (h : anySub sub c [k] = some v) : sub c k = some v := by
  unfold anySub at h
  cases e : sub c k with
  | none => rw [e] at h; cases h
  | some v1 =>
    rw [e] at h
    have h : some (v1 || false) = some v := h
    rw [Bool.or_false] at h
    exact h
theorem any_2 {c k l : Nat} {v : Bool} (h : anySub sub c [k, l] = some v) : ∃ v1 v2, sub c k = some v1 ∧ sub c l = some v2 ∧ v = (v1 || v2) := by
  unfold anySub at h
  cases e : sub c k with
  | none => rw [e] at h; cases h
  | some v1 =>
    rw [e] at h
    cases e2 : anySub sub c [l] with
    | none => rw [e2] at h; cases h
    | some v2 =>
      rw [e2] at h
      exact ⟨v1, v2, rfl, any_1 e2, (Option.some.inj h).symm⟩
theorem allS_try {b s : B} {cs : List Nat} {i : Option Nat} (hb : AllS T N X2 sub fuel b) (hs : ∀ T', AllS T' N X2 sub fuel s) : AllS T N X2 sub fuel (.try1 b cs i s) := by
  refine .one (fun {sc W X st} ok h => ?_) (fun _ _ => by simp [matchB, mB])
  cases st <;> try (simp [matchS, mS] at h; done)
  next body hds el fin p =>
  rcases hds with _ | ⟨hd, _ | ⟨_, _⟩⟩ <;> try (simp [matchS, mS] at h; done)
  rcases hd with ⟨ty, nm, su, pos'⟩
  cases ty <;> try (simp [matchS, mS] at h; done)
  next tx =>
  cases su <;> try (simp [matchS, mS] at h; done)
  next b0 suite =>
  cases el <;> try (simp [matchS, mS] at h; done)
  cases fin <;> try (simp [matchS, mS] at h; done)
  simp only [matchS, mS, Bool.and_eq_true, Bool.not_eq_true'] at h
  obtain ⟨⟨⟨⟨hh, h1⟩, hcl⟩, hnm⟩, h2⟩ := h
  have nmT : ∀ {x : Str} {k : Nat}, x = T.xn k → k < T.nx → isGl sc x = true → Names X x (.ref (T.S.ca k)) := fun {x k} e hk hg => by
    subst e
    exact ⟨ok.gL hg, (plainName_of (isGl_of hg).2).1, .inl (ok.xg _ hk).1⟩
  unfold clsOk at hcl
  split at hcl
  rotate_left
  · -- two classes
    next k l x px y py kk pt =>
    simp only [Bool.and_eq_true, decide_eq_true_eq] at hcl
    obtain ⟨⟨⟨⟨⟨q1, q2⟩, q3⟩, q4⟩, q5⟩, q6⟩ := hcl
    have : i = none := by
      cases i with
      | none => rfl
      | some j => simp [nmOk] at hnm
    subst this
    refine PS.imp (ps_try_pair ok.st ok.fr (nmT q1 q2 q3) (nmT q4 q5 q6) ok.tk (body_ok ok hh hb h1) (suite_ok (i := none) ok hs hnm h2)) fun Dd σ H hw => ?_
    have ex2 : ∀ {c v}, anySub sub c [k, l] = some v → PySem.W.exmAny X.K (.ref (T.S.ca c)) [.ref (T.S.ca k), .ref (T.S.ca l)] = some v := fun {c v} e => by
      obtain ⟨v1, v2, e1, e2, e3⟩ := any_2 e
      have z1 : PySem.W.exmOne X.K (.ref (T.S.ca c)) (.ref (T.S.ca k)) = some v1 := (ok.xs c k v1 e1).1
      have z2 : PySem.W.exmOne X.K (.ref (T.S.ca c)) (.ref (T.S.ca l)) = some v2 := (ok.xs c l v2 e2).1
      subst e3
      simp only [PySem.W.exmAny, z1, z2, Bool.or_false]
    refine try_go ok hh hw (fun w σ ls c d dd ls2 l s' hb rx hp af => ?_) (fun c dd σ H hb hw => ?_)
    · cases hp
      exact ⟨true, ex2 hb, fun a ha => ⟨c, d, w, ls, rfl, rx, (fun j e => by cases e), s', l.no, af⟩⟩
    · exact ⟨false, ex2 hb, hw⟩
  · cases hcl
  next k x px =>
  simp only [Bool.and_eq_true, decide_eq_true_eq] at hcl
  obtain ⟨⟨ex, hk⟩, hg⟩ := hcl
  subst ex
  have names := nmT rfl hk hg
  cases nm with
  | none =>
    have : i = none := by
      cases i with
      | none => rfl
      | some j => simp [nmOk] at hnm
    subst this
    refine PS.imp (ps_try_only ok.st ok.fr names ok.tk (body_ok ok hh hb h1) (suite_ok (i := none) ok hs hnm h2)) fun Dd σ H hw => ?_
    refine try_go ok hh hw (fun w σ ls c d dd ls2 l s' hb rx hp af => ?_) (fun c dd σ H hb hw => ?_)
    · cases hp
      exact ⟨true, (ok.xs c k true (any_1 hb)).1, (fun _ a ha => ⟨c, d, w, ls, rfl, rx, (fun j e => by cases e), s', l.no, af⟩), (fun e => by cases e)⟩
    · exact ⟨false, (ok.xs c k false (any_1 hb)).1, (fun e => by cases e), fun _ => hw⟩
  | some n =>
    obtain ⟨j, rfl, hj, hl, hp⟩ := isNm hnm
    refine PS.imp (ps_try_as (i := j) ok.st ok.fr (by rw [ok.hN]; exact ok.nd) (by rw [ok.hN]; exact hj) (by have e := ok.sc; show X.env.scope.names.lookup n = some .local; rw [e]; exact hl) names ok.tk (body_ok ok hh hb h1) (suite_ok (i := some j) ok hs hnm h2)) fun Dd σ H hw => ?_
    refine try_go ok hh hw (fun w σ ls c d dd ls2 l s' hb rx hp af => ?_) (fun c dd σ H hb hw => ?_)
    · have hp : (if decide (j < ls.length) = true then some (ls.set j none) else none) = some ls2 := hp
      split at hp
      · next hlt =>
        cases hp
        have hlt := of_decide_eq_true hlt
        refine ⟨true, (ok.xs c k true (any_1 hb)).1, (fun _ a ha => ⟨c, d, w, ls.set j none, rfl, rx, (fun j' e => ?_), s', l.blind j _, af⟩), (fun e => by cases e)⟩
        cases e
        exact List.getElem?_set_self (by rw [l.len]; exact hlt)
      · cases hp
    · exact ⟨false, (ok.xs c k false (any_1 hb)).1, (fun e => by cases e), fun _ => hw⟩
end
end EV

/-! A def's frame; defs. -/
namespace EV
open PySem PySem.Spec PyProof.Rows L2
section
variable {S : St0}

/-! ### fewer hidden places -/
mutual
theorem Rep.free {φ : Nat → Addr} {k : Nat} {z z' : Addr → Bool} {H : Hp} (h : ∀ a, z a = false → z' a = false) : ∀ {v : V} {d : D}, Rep S φ k z H v d → Rep S φ k z' H v d
  | _, _, .non => .non
  | _, _, .bl b => .bl b
  | _, _, .int i => .int i
  | _, _, .str y e => .str y e
  | _, _, .tup q r => .tup q (Reps.free h r)
  | _, _, .lstH q n r => .lstH q (h _ n) (Reps.free h r)
  | _, _, .lstZ q r => .lstZ q (Reps.free h r)
  | _, _, .ref n hn => .ref n hn
  | _, _, .fn f => .fn f
theorem Reps.free {φ : Nat → Addr} {k : Nat} {z z' : Addr → Bool} {H : Hp} (h : ∀ a, z a = false → z' a = false) : ∀ {vs : List V} {ds : List D}, Reps S φ k z H vs ds → Reps S φ k z' H vs ds
  | _, _, .nil => .nil
  | _, _, .cons r t => .cons (Rep.free h r) (Reps.free h t)
end
theorem RepO.free {φ : Nat → Addr} {k : Nat} {z z' : Addr → Bool} {H : Hp} {a : Addr} {o : O} (h : ∀ a, z a = false → z' a = false) (r : RepO S φ k z H a o) : RepO S φ k z' H a o := by
  cases o with
  | lst l => obtain ⟨vs, q, r⟩ := r; exact ⟨vs, q, Reps.free h r⟩
  | dK kvs => obtain ⟨vs, q, r, s⟩ := r; exact ⟨vs, q, Reps.free h r, s⟩
  | dT kvs => obtain ⟨vs, q, r, s⟩ := r; exact ⟨vs, q, Reps.free h r, s⟩
  | ins c fs => obtain ⟨dx, vs, q, r⟩ := r; exact ⟨dx, vs, q, Reps.free h r⟩

/-! ### a frame ends -/
/-- the world at a def's entry -/
def Wd.enter (w : Wd) : Wd := ⟨w.φ, ⟨w.h.objs, w.h.objs.length :: w.h.los⟩, w.H, w.no⟩
/-- .. and behind it -/
def Wd.leave (w w' : Wd) : Wd := ⟨w'.φ, ⟨w'.h.objs.take w.h.objs.length, w.h.los⟩, w'.H, w.no⟩
theorem Ext.enter (w : Wd) : Ext w w.enter := ⟨⟨Nat.le_refl _, fun _ _ => rfl, fun _ _ h => h, fun _ _ _ h => h, fun _ _ h n => ⟨h, n⟩, fun _ _ h => h⟩, fun _ h => h, fun _ _ h => ⟨rfl, h⟩⟩
theorem Sim.enter {w : Wd} (s : Sim S w) : Sim S w.enter where
  inj := s.inj
  obj := s.obj
  good := fun lo hl n o hn e => by
    rcases List.mem_cons.mp (show lo ∈ w.h.objs.length :: w.h.los from hl) with rfl | hl
    · exact belowO_of (s.obj n o e)
    · exact s.good lo hl n o hn e
  los := fun lo hl => by
    rcases List.mem_cons.mp (show lo ∈ w.h.objs.length :: w.h.los from hl) with rfl | hl
    · exact Nat.le_refl _
    · exact s.los lo hl
  nf := s.nf
  nd := s.nd
theorem leave_k {w w' : Wd} (x : Ext w.enter w') : (w.leave w').k = w.k := by
  show (w'.h.objs.take w.h.objs.length).length = _
  rw [List.length_take]
  have : w.h.objs.length ≤ w'.h.objs.length := x.len
  show min w.h.objs.length _ = w.h.objs.length
  omega
theorem no_leave {w w' : Wd} (x : Ext w.enter w') : ∀ a, w'.no a = false → w.no a = false := fun a h => by
  cases q : w.no a with
  | false => rfl
  | true =>
    have := x.no a q
    rw [h] at this
    cases this
theorem Sim.leave {w w' : Wd} (s : Sim S w) (x : Ext w.enter w') (s' : Sim S w') (hl : w'.h.los = w.h.objs.length :: w.h.los) : Sim S (w.leave w') where
  inj := fun i j hi hj e => by
    rw [leave_k x] at hi hj
    exact s'.inj i j (Nat.lt_of_lt_of_le hi x.len) (Nat.lt_of_lt_of_le hj x.len) e
  obj := fun n o e => by
    have e : (w'.h.objs.take w.h.objs.length)[n]? = some o := e
    have hn : n < w.h.objs.length := by
      have := (List.getElem?_eq_some_iff.mp e).1
      rw [List.length_take] at this
      omega
    rw [List.getElem?_take_of_lt hn] at e
    have r := s'.obj n o e
    have b := s'.good w.h.objs.length (by rw [hl]; exact List.mem_cons_self) n o hn e
    have r2 := (r.cut (j := w.h.objs.length) x.len b).free (no_leave x)
    have hk : (w.leave w').k = w.h.objs.length := leave_k x
    rw [hk]
    exact r2
  good := fun lo hlo n o hn e => by
    have e : (w'.h.objs.take w.h.objs.length)[n]? = some o := e
    have hn2 : n < w.h.objs.length := by
      have := (List.getElem?_eq_some_iff.mp e).1
      rw [List.length_take] at this
      omega
    rw [List.getElem?_take_of_lt hn2] at e
    exact s'.good lo (by rw [hl]; exact List.mem_cons_of_mem _ hlo) n o hn e
  los := fun lo hlo => by
    rw [leave_k x]
    exact s.los lo hlo
  nf := fun n hn => by
    rw [leave_k x] at hn
    show w.no (w'.φ n) = true
    rw [x.phi n hn]
    exact s.nf n hn
  nd := fun b h => s'.nd b (x.no b h)
theorem Ext.leave {w w' : Wd} (x : Ext w.enter w') : Ext w (w.leave w') where
  len := by rw [leave_k x]; exact Nat.le_refl _
  phi := fun n hn => x.phi n hn
  tup := fun b xs h => x.tup b xs h
  frz := fun b o u h => x.frz b o u h
  lst := fun b xs h n => ⟨(x.lst b xs h n).1, n⟩
  xd := fun b fs h => x.xd b fs h
  no := fun _ h => h
  hid := fun b h n => by
    obtain ⟨h1, h2⟩ := x.hid b h n
    refine ⟨h1, fun m hm => ?_⟩
    rw [leave_k x] at hm
    exact h2 m (Nat.lt_of_lt_of_le hm x.len)
/-- a younger list's place is not hidden behind the frame -/
theorem free_leave {w w' : Wd} (s : Sim S w) (x : Ext w.enter w') (s' : Sim S w') {n : Nat} (h1 : w.h.objs.length ≤ n) (h2 : n < w'.k) : w.no (w'.φ n) = false := by
  cases q : w.no (w'.φ n) with
  | false => rfl
  | true =>
    by_cases hx : ∃ m, m < w.k ∧ w.φ m = w'.φ n
    · obtain ⟨m, hm, e⟩ := hx
      have e2 := x.phi m hm
      have : m = n := s'.inj m n (Nat.lt_of_lt_of_le hm x.len) h2 (e2.trans e)
      subst this
      exact absurd (show m < w.h.objs.length from hm) (by omega)
    · have := (x.hid (w'.φ n) q fun m hm e => hx ⟨m, hm, e⟩).2 n h2
      exact absurd rfl this
mutual
theorem frz_rep {w w' : Wd} (s : Sim S w) (x : Ext w.enter w') (s' : Sim S w') : ∀ {v : V} {d e : D}, RepW S w' v d → frz w'.h.objs w.h.objs.length d = some e → RepW S (w.leave w') v e
  | _, _, _, .non, h => by simp only [frz] at h; cases h; exact .non
  | _, _, _, .bl b, h => by simp only [frz] at h; cases h; exact .bl b
  | _, _, _, .int i, h => by simp only [frz] at h; cases h; exact .int i
  | _, _, _, .str y e, h => by simp only [frz] at h; cases h; exact .str y e
  | _, _, _, .tup q r, h => by
    simp only [frz] at h
    rw [Option.map_eq_some_iff] at h
    obtain ⟨l, hl, rfl⟩ := h
    exact .tup q (frz_reps s x s' r hl)
  | _, _, _, .lstH q n r, h => by
    simp only [frz] at h
    rw [Option.map_eq_some_iff] at h
    obtain ⟨l, hl, rfl⟩ := h
    exact .lstH q (no_leave x _ n) (frz_reps s x s' r hl)
  | _, _, _, .lstZ q r, h => by
    simp only [frz] at h
    rw [Option.map_eq_some_iff] at h
    obtain ⟨l, hl, rfl⟩ := h
    exact .lstZ q (frz_reps s x s' r hl)
  | _, _, _, .fn f, h => by simp only [frz] at h; cases h; exact .fn f
  | _, _, _, .ref n hn, h => by
    simp only [frz] at h
    split at h
    · next c =>
      cases h
      have : n < (w.leave w').k := by rw [leave_k x]; exact c
      exact Rep.ref (φ := (w.leave w').φ) n this
    · next c =>
      split at h
      · next l hl =>
        split at h
        · next b =>
          cases h
          obtain ⟨vs, q1, q2⟩ := s'.obj n _ hl
          have q3 := (q2.cut (j := w.h.objs.length) x.len b).free (no_leave x)
          refine .lstH q1 (free_leave s x s' (by omega) hn) ?_
          have hk : (w.leave w').k = w.h.objs.length := leave_k x
          show Reps S (w.leave w').φ (w.leave w').k (w.leave w').no (w.leave w').H _ _
          rw [hk]
          exact q3
        · cases h
      · cases h
theorem frz_reps {w w' : Wd} (s : Sim S w) (x : Ext w.enter w') (s' : Sim S w') : ∀ {vs : List V} {ds es : List D}, RepsW S w' vs ds → frzL w'.h.objs w.h.objs.length ds = some es → RepsW S (w.leave w') vs es
  | _, _, _, .nil, h => by simp only [frzL] at h; cases h; exact .nil
  | _, _, _, .cons r t, h => by
    simp only [frzL] at h
    split at h
    · next e1 h1 =>
      split at h
      · next s1 h2 =>
        cases h
        exact .cons (frz_rep s x s' r h1) (frz_reps s x s' t h2)
      · cases h
    · cases h
end
/-- the frame, taken off -/
theorem frame_ok {gc : Bool} {m : M D} {w : Wd} {E : XK} {Q : VK} (s : Sim S w) (a : After S (frame gc m w.h) w (fun c d w' => ∀ cls dd, RepX S w' cls dd c d → E cls dd w'.H) fun d w' => ∀ v, RepW S w' v d → Q v w'.H) :
    ∃ w1, w1.H = w.H ∧ Sim S w1 ∧ Ext w w1 ∧ After S (m w1.h) w1 (fun c d w' => ∀ cls dd, RepX S w' cls dd c d → E cls dd w'.H) fun d w' => ∀ v, RepW S w' v d → Q v w'.H := by
  cases gc with
  | false => exact ⟨w, rfl, s, Ext.refl _, a⟩
  | true =>
    refine ⟨w.enter, rfl, s.enter, Ext.enter w, ?_⟩
    have e : frame true m w.h = (match m w.enter.h with
      | .stk => .stk
      | .err c d h' => if decide (h'.los = w.h.objs.length :: w.h.los) then (match frz h'.objs w.h.objs.length d with
        | some e => .err c e ⟨h'.objs.take w.h.objs.length, w.h.los⟩
        | none => .stk) else .stk
      | .ok d h' => if decide (h'.los = w.h.objs.length :: w.h.los) then (match frz h'.objs w.h.objs.length d with
        | some e => .ok e ⟨h'.objs.take w.h.objs.length, w.h.los⟩
        | none => .stk) else .stk) := rfl
    rw [e] at a
    cases er : m w.enter.h with
    | stk => rw [er] at a; exact a
    | err c d h' =>
      rw [er] at a
      simp only at a
      split at a
      · next hc =>
        have hc := of_decide_eq_true hc
        split at a
        · next d2 hd =>
          rintro w' rfl x s' cls dd ⟨rx, rd⟩
          refine a (w.leave w') rfl (Ext.leave x) (s.leave x s' hc) cls dd ⟨rx, ?_⟩
          cases d with
          | tup l =>
            simp only [frz] at hd
            rw [Option.map_eq_some_iff] at hd
            obtain ⟨l2, hl, rfl⟩ := hd
            obtain ⟨dx, vs, q1, q2, q3⟩ := rd
            exact ⟨dx, vs, q1, q2, frz_reps s x s' q3 hl⟩
          | ref n =>
            simp only [frz] at hd
            split at hd
            · cases hd; exact rd
            · split at hd
              · split at hd
                · cases hd; exact rd
                · cases hd
              · cases hd
          | lst l =>
            simp only [frz] at hd
            rw [Option.map_eq_some_iff] at hd
            obtain ⟨l2, hl, rfl⟩ := hd
            exact rd
          | exc c d => simp only [frz] at hd; cases hd
          | _ => simp only [frz] at hd; cases hd; exact rd
        · exact a.elim
      · exact a.elim
    | ok d h' =>
      rw [er] at a
      simp only at a
      split at a
      · next hc =>
        have hc := of_decide_eq_true hc
        split at a
        · next d2 hd =>
          rintro w' rfl x s' v r
          exact a (w.leave w') rfl (Ext.leave x) (s.leave x s' hc) v (frz_rep s x s' r hd)
        · exact a.elim
      · exact a.elim
end
end EV

/-! Defs: what the evaluator reckons, the model does. -/
namespace EV
open PySem PySem.Spec PyProof.Rows L2
section
variable {N : List Str} {X2 : Nat → List D → Option D} {sub : Nat → Nat → Option Bool} {fuel : Nat}
theorem allS : ∀ (b : B) (T : Tx), AllS T N X2 sub fuel b
  | .nil, _ => allS_nil
  | .cons s r, T => allS_cons (allS s T) (allS r T)
  | .asg t e, _ => allS_asg
  | .par t a, _ => allS_par
  | .setx o i e, _ => allS_setx
  | .aug i o e, _ => allS_aug
  | .augx o i p e, _ => allS_augx
  | .unp t e, _ => allS_unp
  | .ex e, _ => allS_ex
  | .ret e, _ => allS_ret
  | .retN, _ => allS_retN
  | .ite c a b, T => allS_ite (allS a T) (allS b T)
  | .whl c b, T => allS_whl (allS b T)
  | .for t it b, T => allS_for (allS b T)
  | .forE t a b, T => allS_forE (allS b T)
  | .brk, _ => allS_brk
  | .cnt, _ => allS_cnt
  | .pas, _ => allS_pas
  | .rse c a, _ => allS_rse
  | .try1 b cs i h, T => allS_try (allS b T) fun T' => allS h T'
end

theorem Reps.len_eq {S : St0} {w : Wd} {vs : List V} {ds : List D} (h : RepsW S w vs ds) : vs.length = ds.length := h.length
/-- the names' values at the entry -/
theorem Locs.start {W : WX} {S : St0} {w : Wd} {N : List Str} {vs : List V} {ds : List D} (h : RepsW S w vs ds) : Locs (Wl.of W) S w (start N vs) (ds.map some ++ List.replicate (N.length - ds.length) none) where
  len := by
    unfold L2.start
    rw [List.length_append, List.length_append, List.length_map, List.length_map, List.length_replicate, List.length_replicate, h.length]
  sl := (fun _ _ e => nomatch e)
  inv := trivial
  at_ := fun i d e => by
    have hi : i < ds.length := by
      by_cases hi : i < ds.length
      · exact hi
      · rw [List.getElem?_append_right (by simpa using hi), List.getElem?_replicate] at e
        split at e <;> cases e
    rw [List.getElem?_append_left (by simpa using hi), List.getElem?_map, Option.map_eq_some_iff] at e
    obtain ⟨d', hd, e2⟩ := e
    cases e2
    obtain ⟨v, hv, r⟩ := h.get hd
    have hv' : i < vs.length := by rw [h.length]; exact hi
    refine ⟨v, ?_, r⟩
    unfold L2.start
    rw [List.getElem?_append_left (by simpa using hv'), List.getElem?_map, hv]
    rfl

/-- the module's facts that hold through a law -/
structure Facts (S : St0) (mg : Str → Option Value) (gl : Nat → Option D) (gn : Nat → Str) : Prop where
  gl : ∀ g d, gl g = some d → ∃ v u, mg (gn g) = some u ∧ RelV v u ∧ ∀ φ k z H, Rep S φ k z H v d
  blt : ∀ x ∈ bltN, mg x = none
/-- .. of the exceptions' classes -/
structure XcF (S : St0) (P : Program) (w : World) (mg : Str → Option Value) (X2 : Nat → List D → Option D) (sub : Nat → Nat → Option Bool) (xn : Nat → Str) (nx : Nat) : Prop where
  xg : ∀ c, c < nx → mg (xn c) = some (.ref (S.ca c)) ∧ PySem.W.keepIn S.K (.ref (S.ca c)) = true
  xm : ∀ c, c < nx → ∀ X : Cx, X.K = S.K → X.mg = mg → X.prog = P → X.w = w → X.calm = true → Room 1 X.A → MkX S X2 X c
  xs : ∀ c c' b, sub c c' = some b → PySem.W.exmOne S.K (.ref (S.ca c)) (.ref (S.ca c')) = some b ∧ PySem.W.kitOne S.K (.ref (S.ca c)) (.ref (S.ca c')) = some b ∧ ExcC S.K (S.ca c)
  xl : ∀ c f, f ∈ S.xf c → XfC S.K (S.ca c) ∧ PySem.W.findIn S.K (.ref (S.ca c)) (S.fld f) = some none ∧ ∀ g, g ∈ S.xf c → S.fld f = S.fld g → f = g
/-- a def as the text and the top have it -/
structure FnF (S : St0) (mg : Str → Option Value) (gl : Nat → Option D) (gn fn : Nat → Str) (nf : Nat) (xn : Nat → Str) (nx : Nat) (Γ : Nat → Option Fn) (f : Nat) (fd : FuncData) (ps : List Str) : Prop where
  glo : mg (fn f) = some (.ref (S.fa f))
  kp : PySem.W.keepIn S.K (.ref (S.fa f)) = true
  bd : Binds S.K fd ps []
  tx : ∀ F, Γ f = some F → F.ar = ps.length ∧ ∃ (x qual : Str) (params : Arguments) (body : List Stmt) (scope : Scope) (N : List Str), FunD S.K x qual params body scope [] [] (S.fa f) fd ∧ FnScope N ps scope ∧ F.nn = N.length ∧
    matchB ⟨gn, fn, nf, false, fun _ _ _ => false, none, S.fld, xn, nx⟩ N F.body scope body = true
section
variable {S : St0} {P : Program} {w : World} {mg : Str → Option Value} {base : Heap} {gl : Nat → Option D} {gn fn : Nat → Str} {nf : Nat} {xn : Nat → Str} {nx : Nat} {Γ : Nat → Option Fn} {X2 : Nat → List D → Option D} {sub : Nat → Nat → Option Bool} {fuel : Nat} {fds : Nat → FuncData} {pss : Nat → List Str}

theorem evF_len (fx : ∀ f, f < nf → FnF S mg gl gn fn nf xn nx Γ f (fds f) (pss f)) : ∀ n f, f < nf → ∀ ds h, ds.length ≠ (pss f).length → evF Γ S.xf gl X2 sub fuel n f ds h = .stk := by
  intro n f hf ds h hl
  cases n with
  | zero => rfl
  | succ n =>
    unfold evF
    cases e : Γ f with
    | none => rfl
    | some F =>
      obtain ⟨ha, _⟩ := (fx f hf).tx F e
      have hc : (decide (ds.length = F.ar) && decide (F.ar ≤ F.nn)) = false := by
        rw [decide_eq_false (fun z => hl (z.trans ha))]
        rfl
      show runF S.xf gl X2 sub fuel (evF Γ S.xf gl X2 sub fuel n) F ds h = .stk
      unfold runF frame
      simp only [hc]
      cases F.gc <;> rfl
theorem fn_all (G : Facts S mg gl gn) (xc : XcF S P w mg X2 sub xn nx) (fx : ∀ f, f < nf → FnF S mg gl gn fn nf xn nx Γ f (fds f) (pss f)) :
    ∀ n f, f < nf → FnOk P w S.K mg base (CX P w) (2 * n) (S.fa f) (fds f) (pss f) (spC S (evF Γ S.xf gl X2 sub fuel n f) (pss f).length) := by
  intro n
  induction n with
  | zero =>
    intro f hf
    refine ⟨fun vs H Q E h => h.1, fun A outer s H args us vs Q E _ _ _ _ h => ?_⟩
    obtain ⟨_, w', ds, _, _, _, a⟩ := h
    exact a.elim
  | succ n ih =>
    intro f hf
    have X := fx f hf
    cases e : Γ f with
    | none =>
      refine ⟨fun vs H Q E h => h.1, fun A outer s H args us vs Q E _ _ _ _ h => ?_⟩
      obtain ⟨_, w', ds, _, _, _, a⟩ := h
      have : evF Γ S.xf gl X2 sub fuel (n + 1) f ds w'.h = .stk := by unfold evF; rw [e]; rfl
      rw [this] at a
      exact a.elim
    | some F =>
      obtain ⟨ha, x, qual, params, body, scope, N, FD, FS, hn, hm⟩ := X.tx F e
      have lvl : 2 * (n + 1) = (2 * n + 1) + 1 := by omega
      rw [lvl]
      refine FD.ok FS (fun vs H Q E h => h.1) fun cdv A outer s H vs Q E hr hsp => ?_
      let T : Tx := ⟨⟨gn, fn, nf, false, fun _ _ _ => false, none, S.fld, xn, nx⟩, S, evF Γ S.xf gl X2 sub fuel n, gl, 2 * n⟩
      have ok : OkB T N X2 sub scope (Wl.of fun cls d _ H => E cls d H) (cxOf (CX P w) P w S.K mg base N qual scope (S.fa f) cdv A outer s H E) := {
        hN := rfl, nd := FS.nd, sc := rfl, K := rfl, calm := fun _ => rfl, room := fun _ => hr, hu := (by have := hr.un; show (A.deeper (envOfC qual scope s.heap.objs.size (S.fa f) cdv)).units + 65 < cLine; omega), hx := (fun h => by cases h), gl := G.gl, blt := G.blt
        fns := fun g hg => ⟨(fx g hg).glo, (fx g hg).kp, fds g, pss g, evF_len fx n g hg, ih g hg, (fx g hg).bd⟩
        tk := takes_of rfl rfl rfl rfl
        fn := fun _ => rfl
        hs := (fun i v e => by cases e), hs0 := fun _ => ⟨rfl, fun _ => trivial⟩, fdq := rfl, xg := xc.xg, xs := xc.xs, xl := xc.xl
        xm := fun _ c hc pn xe => xc.xm c hc _ rfl rfl rfl rfl rfl (Room.mono hr (by omega))
        po := fun _ => passes_of rfl
        st := rfl
        fr := rfl
        kd := FS.kind }
      refine ⟨_, (allS F.body T).pss (X2 := X2) (sub := sub) (fuel := fuel) ok hm, ?_⟩
      obtain ⟨hl, w', ds, rfl, sim, rs, a⟩ := hsp
      have hev : evF Γ S.xf gl X2 sub fuel (n + 1) f ds = runF S.xf gl X2 sub fuel (evF Γ S.xf gl X2 sub fuel n) F ds := by unfold evF; rw [e]
      rw [hev] at a
      obtain ⟨w1, e1, s1, x1, a1⟩ := frame_ok sim a
      have hdl : ds.length = F.ar := by rw [← rs.length, hl, ha]
      by_cases hc : F.ar ≤ F.nn
      · rw [if_pos (by rw [decide_eq_true hdl, decide_eq_true hc]; rfl)] at a1
        refine ⟨w1, ds.map some ++ List.replicate (F.nn - ds.length) none, e1, s1, ?_, ?_⟩
        · rw [hn]
          exact Locs.start (Reps.ext x1.toExt0 rs)
        · show AfterS S _ _ w1 (evB S.xf gl X2 sub fuel F.body (evF Γ S.xf gl X2 sub fuel n) (ds.map some ++ List.replicate (F.nn - ds.length) none) w1.h)
          cases er : evB S.xf gl X2 sub fuel F.body (evF Γ S.xf gl X2 sub fuel n) (ds.map some ++ List.replicate (F.nn - ds.length) none) w1.h with
          | stk => rw [er] at a1; exact a1
          | err c d ls h => rw [er] at a1; exact fun w2 σ' e2 x2 s2 l2 cls dd r => a1 w2 e2 x2 s2 cls dd r
          | nx ls h => rw [er] at a1; exact fun w2 σ' e2 x2 s2 l2 => a1 w2 e2 x2 s2 .non .non
          | ret d h => rw [er] at a1; exact fun w2 e2 x2 s2 v r => a1 w2 e2 x2 s2 v r
          | bk ls h => rw [er] at a1; exact a1.elim
          | ct ls h => rw [er] at a1; exact a1.elim
      · rw [if_neg (by rw [Bool.and_eq_true, decide_eq_true_eq, decide_eq_true_eq]; exact fun z => hc z.2)] at a1
        exact a1.elim
end
end EV

/-! The making of an exception of a class without an own __init__. -/
namespace EV
open PySem PySem.Spec PyProof.Rows L2
/-- what the written part says of such a class -/
def plainX (K : PySem.W.Frag) (C : Addr) : Bool := PySem.W.excIn K C PySem.HandSPX.veTail "ValueError.__new__" && decide (PySem.W.subIn K (.ref C) (.type "BaseException") = some true) && decide (PySem.W.typeIn K (.ref C) = some (.type "type"))
theorem mkx_plain {S : St0} {X2 : Nat → List D → Option D} {X : Cx} {c : Nat} (hK : X.K = S.K) (h : plainX S.K (S.ca c) = true) (h2 : ∀ ds d, X2 c ds = some d → ds = [] ∧ d = .non) : MkX S X2 X c := by
  unfold plainX at h
  simp only [Bool.and_eq_true, decide_eq_true_eq] at h
  obtain ⟨⟨h1, h3⟩, h4⟩ := h
  intro pins s σ H vs us Q I r ⟨w, ds, d, e, sim, rs, hd, q⟩
  subst e
  obtain ⟨rfl, rfl⟩ := h2 ds d hd
  cases rs
  cases r
  rw [← hK] at h1 h3 h4
  obtain ⟨bm, N, nm, qn, bs, hdct, sn, sb, ab, col, dd, k0, k1, k2, k3, k5, mN, hC, hN, hni, tl⟩ := exc_obj I.kIn h1
  exact wpAny_call_exc_subT F.excBase_ValueError tl hC hN hni (fun h' e hm => mk_of I hm (raises_own h3 h4) (q w none rfl (Ext.refl _) sim ⟨rfl, rfl⟩) (I.hok.gone hm.new)) (Nat.zero_le _)
end EV

/-! The making of an exception whose __init__ says super().__init__(f); self.f = f. -/
namespace EV
open PySem PySem.Spec PySem.W PySem.Calls PyProof.Rows
theorem isMw : (Value.type "method-wrapper" == Value.type "method" || Value.type "method-wrapper" == Value.type "builtin_function_or_method" || Value.type "method-wrapper" == Value.type "method-wrapper") = true := by decide
/-- the built-in __init__, bound to the new exception, is called: the exception's args are laid anew -/
theorem call_mw {pr : Program} {wd : World} {Ar : Around} {Er Q : Value → Shared → Prop} {hp : Heap} {ge : Array GenState} {dr : Drawn} {tk : Nat} {sy : OsState} {nm q : Str} {C N : Addr} {bs bm : List Value} {hdct : Bool} {sn : List Str} {sub : List Value} {ab : Bool} {col : Option Bool} {dd : Option Addr} {k0 k1 k2 k3 k5 : Option Value}
    {mw x t0 : Addr} {args : List Value} (hC : hp.get? C = some (excClassObj nm q C N bs bm hdct sn sub ab col dd k0 k1 k2 k3 k5 "ValueError.__new__")) (hx : hp.get? x = some (HandSPX.excO C t0)) (hw : hp.get? mw = some (kxs_mw "ValueError.__init__" x)) (few : args.length ≤ sizeLine)
    (fin : ∀ h2 t1, (∀ b o, b ≠ x → hp.get? b = some o → h2.get? b = some o) → h2.get? x = some (HandSPX.excO C t1) → Q .none ⟨h2, ge, dr, tk, sy⟩) : wpAny (model pr wd) Ar (call (.ref mw) args) Q Er ⟨hp, ge, dr, tk, sy⟩ := by
  have keep : ∀ (o2 : Obj) (o3 : Obj → Obj) (b : Addr) (o : Obj), b ≠ x → hp.get? b = some o → ((hp.push o2).update x o3).get? b = some o := fun o2 o3 b o nb gb => (Heap.get?_update_other _ _ (Ne.symm nb)).trans (Heap.get?_push_of_some _ gb)
  refine wpAny_call (codeAny_of_tree (show wpAny _ Ar.in1 (callAny (.ref mw) ⟨args, []⟩) _ _ _ from ?_))
  unfold callAny
  refine wpAny_bind (wpAny_load hw ?_)
  simp only [kxs_mw, isMw, if_true]
  refine KFB.if_so (by decide) (wpAny_bind (ESX.check_bound F.excBase_ValueError hC hx rfl (wpAny_bind (wpAny_pure (wpAny_pure ⟨Code.quiet_builtin _ (by decide +kernel), codeAny_builtin F.excBase_ValueError.initEntry ?_⟩)))))
  rw [Around.under_plainId F.excBase_ValueError.init.plain _]
  wp_walk
  refine fin _ hp.objs.size (keep _ _) ?_
  rw [Heap.get?_update_self _ (Heap.get?_push_of_some _ hx) rfl]
  rfl
/-- what the written part says of such a class and its __init__ -/
structure InitW (K : Frag) (P : Program) (C fI : Addr) (fld : Str) (fd : FuncData) : Prop where
  ex : ∃ (oc ccl cl ct dV kV doc pm : Value) (od cdd cld an : Option Addr) (osl ccs csl : Array (Option Value)) (nme qual file sf fn : Str) (params : Arguments) (body : List Stmt) (scope : Scope) (cda cc : Addr) (vs : Array Value) (tf : Tok) (ar : Arg) (p0 p1 p2 p3 p4 p5 p6 p7 p8 ap : Pos),
    fd = ksFn nme qual params body scope dV kV doc pm an (.ref cda) ct cc ∧ K.lookup fI = some ⟨oc, od, .func fd, osl⟩ ∧ codeIn K (.ref cda) qual = true ∧
    K.lookup cda = some ⟨ccl, cdd, .fields vs, ccs⟩ ∧ vs[2]? = some (.str file tf) ∧ ((P.main.file : Str) == file) = true ∧ K.lookup cc = some ⟨cl, cld, .cell (some (.ref C)), csl⟩ ∧
    scope.kind = .function ∧ scope.isCoroutine = false ∧ scope.isGenerator = false ∧ scope.names.lookup ("super" : Str) = some .globalImplicit ∧ scope.names.lookup ("__class__" : Str) = some .free ∧ scope.names.lookup sf = some .local ∧ scope.names.lookup fn = some .local ∧ (∀ x ∈ scope.names, x.2 ≠ .cell) ∧
    (params.posonlyargs ++ params.args).head? = some ar ∧ ar.arg = sf ∧ (sf == ("__debug__" : Str)) = false ∧ (fn == ("__debug__" : Str)) = false ∧ sf ≠ fn ∧ (ap.endLine == p3.line) = true ∧ (fn == ("super" : Str)) = false ∧ (∀ a b : Value, bindArgs fd ⟨[a, b], []⟩ = pure [(sf, a), (fn, b)]) ∧
    body = [.Expr (.Call (.Attribute (.Call (.Name "super" p0) [] [] p1) "__init__" ap) [.Name fn p2] [] p3) p4, .Assign [.Attribute (.Name sf p5) fld p6] (.Name fn p7) p8]
theorem wpAt_mc {prog : Program} {w : World} {A : Around} {E : Value → Shared → Prop} {s : Shared} {c : Code} {env : Env} {o : Expr} {name : Str} {apos pos : Pos} {x : Str} {px : Pos} {Q : Value → Shared → Prop} (hline : (apos.endLine == pos.line) = true)
    (h : PySem.wpAt (model prog w) A c (attributeBase o name env (eval o env)) (fun ov s₁ => ∀ pl, wpAny (model prog w) A (getMethod ov name pl) (fun fx s₂ => wpAny (model prog w) A (callWith pos fx.1 fx.2 [(false, eval (.Name x px) env)] []) Q E s₂) E s₁) E s) :
    PySem.wpAt (model prog w) A c (eval (.Call (.Attribute o name apos) [.Name x px] [] pos) env) Q E s := by
  rw [arm_eval_Call]
  refine PySem.wpAt_bind (PySem.wpAt_mono h (fun ov s₁ h₁ => PySem.wpAt_of_wpAny (wpAny_bind (wpAny_standAt ?_))) fun _ _ x => x)
  have hform : methodCallForm (([Expr.Name x px]).length + ([] : List Keyword).length) (backTo pos (starEach [Expr.Name x px] env)) (backToKw pos (keywordEach [] env)) = true := rfl
  have hpos : methodCallPos true o env apos pos = pure pos := by unfold methodCallPos; simp [hline]
  unfold methodCall
  rw [hform]
  refine wpAny_bind (wpAny_holding (wpAny_mono (h₁ _) (fun fx s₂ h₂ => ?_) fun _ _ x => x))
  exact wpAny_bind (wpAny_of_eq hpos h₂)
section
variable {P : Program} {w : World} {A : Around} {R : Result → Shared → Prop} {h : Heap} {g : Array GenState} {d : Drawn} {t : Nat} {os : OsState} {K : Frag} {C fI e t0 : Addr} {fld : Str} {fd : FuncData} {u : Value} {mg mb : Str → Option Value}
variable {nm q : Str} {N : Addr} {bs bm : List Value} {sn : List Str} {sub : List Value} {ab : Bool} {col : Option Bool} {dd : Option Addr} {k0 k1 k2 k3 k5 : Option Value}
theorem init_walk (I : InitW K P C fI fld fd) (X : K.In h) (lim : h.NoLimit) (G : h.Ns mainGlobals mg) (gs : mg "super" = none) (Bt : h.Ns builtinsNs mb) (bs' : mb "super" = some (.type "super"))
    (lC : K.lookup C = some (excClassObj nm q C N bs bm true sn sub ab col dd k0 k1 k2 k3 k5 "ValueError.__new__")) (hbm : HandSPX.refsVE bm = true) (al : alongIn K "__init__" bm = some (some (.builtin "ValueError.__init__"))) (sVE : subIn K (.ref C) (.type "ValueError") = some true) (op : nsIn K cStatics "thirdparty.any" = some none)
    (sa : findIn K (.ref C) "__setattr__" = some (some (.builtin "object.__setattr__"))) (fno : findIn K (.ref C) fld = some none) (htop : (P.main.scope.names.lookup ("super" : Str)).isSome = false) (mroC : mroIn K C (.ref C) = some true)
    (he : h.get? e = some (HandSPX.excO C t0)) (heK : K.lookup e = none) (hroom : A.depth < recursionLimit)
    (hq : ∀ h' tk' dx t1, (∀ b o, b ≠ e → h.get? b = some o → h'.get? b = some o) → h.objs.size ≤ dx → dx ≠ e → h'.get? e = some { cls := .ref C, dict := some dx, data := .fields #[.ref t1, .none, .none, .none, .bool false, .none] } → h'.Ns1 dx (fun y => if y = fld then some u else none) → R (.ok (.ret .none)) ⟨h', g, d, tk', os⟩) :
    codeAny (model P w) A (.call (.ref fI) ⟨[.ref e, u], []⟩) R ⟨h, g, d, t, os⟩ := by
  obtain ⟨oc, ccl, cl, ct, dV, kV, doc, pm, od, cdd, cld, an, osl, ccs, csl, nme, qual, file, sf, fn, params, body, scope, cda, cc, vs, tf, ar, p0, p1, p2, p3, p4, p5, p6, p7, p8, ap, rfl, lf, hcd, lcd, hvs, hfile, lcc, hk, hco, hgen, n1, n2, n3, n4, hcell, hp1, rfl, d1, d2, nsf, hline, nsu, bind, rfl⟩ := I.ex
  refine ks_codeAny_call_defAt hroom (X _ _ lf) rfl lim (codeRec_of X hcd) rfl (.of_eq (bind _ _)) hcell (fun y hy => ?_) (fun h₀ hns kk => ?_) hco hgen hk
  · rcases List.mem_cons.mp hy with rfl | hy
    · exact n3
    · cases List.mem_singleton.mp hy
      exact n4
  have X0 : K.In h₀ := X.keeps kk
  have hcl : clsIn K C = some { name := nm, bases := bs, mro := .ref C :: bm, ns := N, qualname := q, hasDict := true, slotNames := sn, subclasses := sub, abstract := ab, collection := col, hasDel := false } := by unfold clsIn; rw [lC] <;> rfl
  have v1 : ([(ar.arg, Value.ref e), (fn, u)] : List (Str × Value)).reverse.lookup ar.arg = some (.ref e) := by
    show List.lookup ar.arg [(fn, u), (ar.arg, Value.ref e)] = _
    rw [List.lookup_cons, beq_eq_false_iff_ne.mpr nsf, List.lookup_cons, beq_self_eq_true]
  have v2 : ([(ar.arg, Value.ref e), (fn, u)] : List (Str × Value)).reverse.lookup fn = some u := by
    show List.lookup fn [(fn, u), (ar.arg, Value.ref e)] = _
    rw [List.lookup_cons, beq_self_eq_true]
  have hni : ∀ fd : FuncData, fd.scope.kind = .function → ∀ L a, interactive (callEnv fd L a) = false := fun fd z L a => by
    show (fd.scope.kind == ScopeKind.module && _) = false
    rw [z] <;> rfl
  have hLe : h.objs.size ≠ e := Ne.symm (Nat.ne_of_lt (Heap.lt_size he))
  refine ks_wpAt_execs_cons (ks_wpAt_Expr_any (wpAt_mc hline ?_) (hni _ hk _ _) (by rfl))
  refine ks_wpAt_super_base n1 n2 (by decide) rfl (X0 _ _ lf) rfl hp1 rfl (X0 _ _ lcd) rfl hvs hfile htop ?_
  refine ks_loadName_global hk n1 (loadGlobal_builtin (G.keeps kk) gs (Bt.keeps kk) bs' ⟨rfl, ?_⟩)
  refine wpAny_loadName_free hk n2 rfl ⟨_, X0 _ _ lcc, rfl⟩ ?_
  refine wpAny_loadName_local hk n3 hns v1 ?_
  refine ks_wpAny_isType_cls (X0 _ _ lC) rfl ⟨rfl, ?_⟩
  refine ks_wpAny_call_super (X0 _ _ lC) rfl (kk _ _ he) rfl (fun c z => by cases z) (looks_mroIn X0 mroC) fun h1 e1 kk1 pl => ?_
  have X1 : K.In h1 := X0.keeps kk1
  have he1 : h1.get? e = some (HandSPX.excO C t0) := kk1 _ _ (kk _ _ he)
  have i1 : InstAt h1 e (HandSPX.excO C t0) C none := ⟨he1, rfl, rfl, trivial⟩
  refine kxs_getMethod kxs_ValueError e1 (looks_opaque X1 op) (l₀ := .ref C :: bm) (fun A Q E s k q => wpAny_bind ((looks_clsIn X1 hcl) A _ E s k (wpAny_pure q))) (ESX.drop_own C bm) X1 al (i1.type.andThen (looks_subIn X1 sVE)) (ks_ne X1 i1 hcl) (by decide) ?_
  refine kxs_callWith (i := "ValueError.__init__") (x := e) rfl (evalArgs_plain (spliced_cons ?_))
  have kk2 : ∀ b o, h1.get? b = some o → (h1.push (kxs_mw "ValueError.__init__" e)).get? b = some o := fun b o z => Heap.get?_push_of_some _ z
  refine ldc hk n4 ((hns.keeps kk1).keeps kk2) v2 ?_ d2
  refine spliced_nil ⟨by show Heap.get? _ _ = _; heap_get, ?_⟩
  refine call_mw (X0.keeps kk1 |>.keeps kk2 _ _ lC) (kk2 _ _ he1) (mw := h1.objs.size) (by heap_get) (by rw [sizeLine_eq]; show 1 ≤ 16777216; omega) fun h2 t1 k2 he2 => ?_
  have hLs : h2.Ns h.objs.size (fun y => ([(ar.arg, Value.ref e), (fn, u)] : List (Str × Value)).reverse.lookup y) := ((hns.keeps kk1).keeps kk2).at fun o z => k2 _ o hLe z
  refine ks_wpAt_execs_cons (wpAt_of_wpAny (plainObj_wpAny_Assign_Attribute ?_ (swaps_no (fun _ _ _ _ z => by cases z) ⟨fun _ _ _ _ z => (by cases z), fun _ _ _ _ _ z => (by cases z)⟩)))
  refine ldc hk n4 hLs v2 ?_ d2
  refine ldc hk n3 hLs v1 ?_ d1
  have X2 : K.In h2 := fun b o z => k2 b o (fun hb => by
    rw [hb, heK] at z
    cases z) ((X1.keeps kk2) b o z)
  refine set_plain X2 (ox := HandSPX.excO C t1) (od := none) ⟨he2, rfl, rfl, trivial⟩ sa ?_
  refine HandSPX.exc_osa X2 he2 hcl (show HandSPX.refsVE (.ref C :: bm) = true from hbm) rfl fno (fun h3 tk3 dx k3 dn dne hx hn => ?_)
  refine PySem.wpAt_of_wpAny (wpAny_pure ?_)
  refine hq h3 _ dx t1 (fun b o hb z => k3 b o hb (k2 b o hb (kk2 _ _ (kk1 _ _ (kk _ _ z))))) (Nat.le_of_lt (Nat.lt_of_lt_of_le hLs.lt dn)) dne hx hn
end
end EV

/-! The making of an exception of a class with such an __init__, told in D. -/
namespace EV
open PySem PySem.Spec PyProof.Rows L2
section
variable {X : Cx} {pins : List (Addr × Obj)} {σ : L2.St} {H : Hp} {hp h' : Heap} {g : Array GenState} {dr : Drawn} {t : Nat} {os : OsState} {a C dx t1 : Addr} {f : Str} {y : V} {u : Value}
theorem init_un (I : Inv X pins σ H ⟨hp, g, dr, t, os⟩) (e : H a = some (exo a C none)) (ry : RelV y u) (k : ∀ b o, b ≠ a → hp.get? b = some o → h'.get? b = some o) (dn : hp.objs.size ≤ dx) (dne : dx ≠ a)
    (hx : h'.get? a = some { cls := .ref C, dict := some dx, data := .fields #[.ref t1, .none, .none, .none, .bool false, .none] }) (hn : h'.Ns1 dx (fun z => if z = f then some u else none)) :
    Un (frs X.stack) [] H (upd (upd H dx (exd dx [(f, y)])) a (exo a C (some dx))) hp h' ∧ HOk X.prog X.w (upd (upd H dx (exd dx [(f, y)])) a (exo a C (some dx))) h' := by
  have fresh : H dx = none := I.hok.fresh dn
  have apart : ∀ c w, hp.get? c = some w → c ≠ dx := fun c w z eq => Nat.lt_irrefl _ (Nat.lt_of_lt_of_le (eq ▸ Heap.lt_size z) dn)
  have told : ∀ c w, H c = some w → c ≠ dx := fun c w z => ne_of_none z fresh
  have other : ∀ c w, H c = some w → exo a C none ≠ w → c ≠ a := fun c w z => at_ne e z
  have blank : ∀ c, H c = none → c ≠ a := fun c z eq => nomatch (eq ▸ z).symm.trans e
  have same : ∀ c, c ≠ a → c ≠ dx → (upd (upd H dx (exd dx [(f, y)])) a (exo a C (some dx))) c = H c := fun c p q => (upd_ne p).trans (upd_ne q)
  constructor
  · constructor
    · intro c w z1 z2 _ _
      exact k c w (blank c z2) z1
    · intro c w z1 z2 _ _
      exact ⟨_, k c w (blank c z2) z1⟩
    · intro c w z1 z2 _
      exact (same c (blank c z2) (apart c w z1)).trans z2
    · intro c w z1 _
      rcases Decidable.em (c = a) with eq | ne
      · exact ⟨_, eq ▸ hx⟩
      · exact ⟨w, k c w ne z1⟩
    · intro c l z1
      exact (same c (other c _ z1 exo_tup) (told c _ z1)).trans z1
    · intro c w v z1
      exact (same c (other c _ z1 exo_frz) (told c _ z1)).trans z1
    · intro c l z1
      refine ⟨#[], (same c (other c _ z1 exo_tbl) (told c _ z1)).trans (z1.trans ?_)⟩
      simp
  · intro c w z1
    rcases Decidable.em (c = a) with rfl | ne
    · obtain rfl : exo c C (some dx) = w := Option.some.inj (upd_same.symm.trans z1)
      exact exo_ok hx
    rcases Decidable.em (c = dx) with rfl | ne2
    · obtain rfl : exd c [(f, y)] = w := Option.some.inj (upd_same.symm.trans ((upd_ne ne).symm.trans z1))
      exact exd_ok hn (relO_put (fs := []) ry fun _ => trivial)
    have z2 := (same c ne ne2).symm.trans z1
    refine (I.hok c w z2).stay (fun c2 v q z => k c2 v ?_ z) (fun c2 z => ?_) (fun c2 l z => ?_)
    · rcases q with q | q
      · exact q ▸ ne
      · exact other c2 _ q exo_own
    · exact (same c2 (other c2 _ z exo_own) (told c2 _ z)).trans z
    · exact (same c2 (other c2 _ z exo_tup) (told c2 _ z)).trans z
end
/-- what the written part says of such a class -/
structure InitX (K : PySem.W.Frag) (P : Program) (C : Addr) (fld : Str) : Prop where
  fn : ∃ fI fd, InitW K P C fI fld fd ∧ PySem.W.findIn K (.ref C) "__init__" = some (some (.ref fI)) ∧ PySem.W.typeIn K (.ref fI) = some (.type "function")
  cls : ∃ nm q N bs bm sn sub ab col dd k0 k1 k2 k3 k5, K.lookup C = some (excClassObj nm q C N bs bm true sn sub ab col dd k0 k1 k2 k3 k5 "ValueError.__new__") ∧ PySem.HandSPX.refsVE bm = true ∧ PySem.W.alongIn K "__init__" bm = some (some (.builtin "ValueError.__init__"))
  sVE : PySem.W.subIn K (.ref C) (.type "ValueError") = some true
  op : PySem.W.nsIn K cStatics "thirdparty.any" = some none
  sa : PySem.W.findIn K (.ref C) "__setattr__" = some (some (.builtin "object.__setattr__"))
  fno : PySem.W.findIn K (.ref C) fld = some none
  mro : PySem.W.mroIn K C (.ref C) = some true
  exC : PySem.W.subIn K (.ref C) (.type "BaseException") = some true
  tyC : PySem.W.typeIn K (.ref C) = some (.type "type")
theorem mkx_init {S : St0} {X2 : Nat → List D → Option D} {X : Cx} {c n : Nat} (hK : X.K = S.K) (T : InitX S.K X.prog (S.ca c) (S.fld n)) (hx : S.xf c = [n]) (h2 : ∀ ds d, X2 c ds = some d → ∃ x, ds = [x] ∧ d = .tup [x]) (gs : X.mg "super" = none)
    (htop : (X.prog.main.scope.names.lookup ("super" : Str)).isSome = false) (hr : Room 1 X.A) : MkX S X2 X c := by
  obtain ⟨⟨fI, fd, W, iC, tI⟩, ⟨nm, q, N, bs, bm, sn, sub, ab, col, dd, k0, k1, k2, k3, k5, hC, hbm, al⟩, sVE, op, sa, fno, mro, exC, tyC⟩ := T
  intro pins s σ H vs us Q I r ⟨w, ds, d, e, sim, rs, hd, hq⟩
  subst e
  obtain ⟨x, rfl, rfl⟩ := h2 ds d hd
  obtain ⟨hp, g, dr, tk, os⟩ := s
  cases rs with
  | @cons y _ _ _ rx rs0 => ?_
  cases rs0
  cases r with
  | @cons _ u _ _ ry r0 => ?_
  cases r0
  rw [← hK] at W iC tI hC al sVE op sa fno mro exC tyC
  have hsz : hp.objs.size ≤ hp.objs.size + 1 := Nat.le_succ _
  have kk : ∀ b o, hp.get? b = some o → ((hp.push (PySem.W.kdv_tup [u])).push (PySem.HandSPX.excO (S.ca c) hp.objs.size)).get? b = some o := fun b o e => Heap.get?_push_of_some _ (Heap.get?_push_of_some _ e)
  have hget : ((hp.push (PySem.W.kdv_tup [u])).push (PySem.HandSPX.excO (S.ca c) hp.objs.size)).get? (hp.objs.size + 1) = some (PySem.HandSPX.excO (S.ca c) hp.objs.size) := by heap_get
  have I2 : Inv X pins σ (upd w.H (hp.objs.size + 1) (exo (hp.objs.size + 1) (S.ca c) none)) ⟨(hp.push (PySem.W.kdv_tup [u])).push (PySem.HandSPX.excO (S.ca c) hp.objs.size), g, dr, tk, os⟩ :=
    I.laid (t' := tk) (a := hp.objs.size + 1) (o := exo (hp.objs.size + 1) (S.ca c) none) (h' := (hp.push (PySem.W.kdv_tup [u])).push (PySem.HandSPX.excO (S.ca c) hp.objs.size)) kk hsz (exo_ok hget)
  have e0 := I2.env0
  have kb : ∀ b o, X.base.get? b = some o → ((hp.push (PySem.W.kdv_tup [u])).push (PySem.HandSPX.excO (S.ca c) hp.objs.size)).get? b = some o := fun b o z => (e0.bs b o z).1
  obtain ⟨mb, B1, B2⟩ := e0.mod.blt
  have heK : X.K.lookup (hp.objs.size + 1) = none := by
    cases z : X.K.lookup (hp.objs.size + 1) with
    | none => rfl
    | some o => exact absurd (Heap.lt_size (I.kIn _ _ z)) (by show ¬ (hp.objs.size + 1 < hp.objs.size); omega)
  refine wpAny_call (PySem.HandSPX.call_own F.excBase_ValueError (fun Y => PySem.HandSPX.refsVE_contains Y bm hbm) (I.kIn _ _ hC) (PySem.W.looks_findIn I.kIn iC) (fun self => PySem.W.bind_fn I.kIn self tI) (by rw [sizeLine_eq]; show 1 ≤ 16777216; omega)
    (init_walk W I2.kIn I2.nolimit (e0.mod.glob.keeps kb) gs (B1.keeps kb) ((B2 _ (by decide)).trans PyProof.Rows.Boot.«super») hC hbm al sVE op sa fno htop mro hget heK ((hr.make (S.ca c) [u] []).depth) ?_))
  intro h3 tk3 dx t1 k3 dn dne hx3 hn3
  refine ⟨rfl, ?_⟩
  have ea : upd w.H (hp.objs.size + 1) (exo (hp.objs.size + 1) (S.ca c) none) (hp.objs.size + 1) = some (exo (hp.objs.size + 1) (S.ca c) none) := upd_same
  obtain ⟨un, hok⟩ := init_un I2 ea ry k3 dn dne hx3 hn3
  have hnd : w.H dx = none := by
    have := I2.hok.fresh dn
    rw [upd_ne dne] at this
    exact this
  refine mk_end (raises_own exC tyC) I hsz kk un hok rfl I.bare upd_same (by rw [upd_ne dne, upd_same]) hnd ?_
  have han : w.H (hp.objs.size + 1) = none := I.hok.fresh hsz
  have eu : upd (del (upd (upd (upd w.H (hp.objs.size + 1) (exo (hp.objs.size + 1) (S.ca c) none)) dx (exd dx [(S.fld n, y)])) (hp.objs.size + 1) (exo (hp.objs.size + 1) (S.ca c) (some dx))) (hp.objs.size + 1)) dx (.xd [(S.fld n, y)]) = upd w.H dx (.xd [(S.fld n, y)]) := by
    funext b
    by_cases hb : b = dx
    · rw [hb, upd_same, upd_same]
    · rw [upd_ne hb, upd_ne hb]
      by_cases ha : b = hp.objs.size + 1
      · rw [ha, del_same, han]
      · rw [del_ne ha, upd_ne ha, upd_ne hb, upd_ne ha]
  rw [eu]
  have ext := Ext.new (u := .xd [(S.fld n, y)]) sim hnd
  refine hq ⟨w.φ, w.h, upd w.H dx (.xd [(S.fld n, y)]), w.no⟩ (some dx) rfl ext (Sim.new sim hnd) ⟨rfl, dx, [y], rfl, ?_, .cons (Rep.ext ext.toExt0 rx) .nil⟩
  rw [hx]
  exact upd_same
end EV

/-! The head's Hook: defs, names, and words of one's own about the written part. -/
namespace EV
open PySem PySem.Spec PyProof.Rows L2
/-- a class and its __init__: the class's name, the def's qualified name, parameters, body, scope -/
structure WiD where
  cls : Str
  nme : Str
  qual : Str
  params : Arguments
  body : List Stmt
  scope : Scope
abbrev FnI : Type := Option (Str × Str × Arguments × FuncBody × Scope × Addr × List Str × Addr)
def fnI (K : PySem.W.Frag) (x : Str) : FnI := match K.lookup (He.fAd K (x, some "__init__")) with
  | some ⟨_, _, .func fd, _⟩ => some (fd.name, fd.qualname, fd.params, fd.body, fd.scope, fd.globals, fd.closure.map (·.1), fd.builtins)
  | _ => none
def WiD.val (d : WiD) : FnI := some (d.nme, d.qual, d.params, .stmts d.body, d.scope, mainGlobals, ["__class__"], builtinsNs)
abbrev AlX : Type := Bool × List FnI × He.AlD
def obsX (fa : List He.Fa) (fn : List He.DefD) (wi : List WiD) (good : PySem.W.Frag → Bool) (K : PySem.W.Frag) : AlX := (good K, wi.map fun d => fnI K d.cls, He.obsD fa fn K)
def obsXG (n : Nat) (fa : List He.Fa) (fn : List He.DefD) (wi : List WiD) (good : PySem.W.Frag → Bool) (g : Addr → Option Obj) : AlX := obsX fa fn wi good (He.frG g (He.asD g n ++ [cStatics]))
def hookX (n : Nat) (fa : List He.Fa) (fn : List He.DefD) (wi : List WiD) (good : PySem.W.Frag → Bool) : PySem.W.Hook where
  α := AlX
  obs := fun s => obsXG n fa fn wi good s.heap.get?
  val := fun _ => (true, wi.map WiD.val, He.valD fn)
  says := fun _ h => ∃ K : PySem.W.Frag, K.In h ∧ He.SaysD fa fn K ∧ good K = true ∧ (wi.map fun d => fnI K d.cls) = wi.map WiD.val
  of := fun _ _ e => ⟨_, He.frG_in, congrArg (fun z : AlX => z.2.2) e, congrArg (fun z : AlX => z.1) e, congrArg (fun z : AlX => z.2.1) e⟩
  keeps := fun _ _ _ ⟨K, hK, c⟩ k => ⟨K, PySem.W.Frag.In.keeps hK k, c⟩
theorem obsXG_eq {n : Nat} {fa : List He.Fa} {fn : List He.DefD} {wi : List WiD} {good : PySem.W.Frag → Bool} {g : Addr → Option Obj} {s : Shared} (h : ∀ a, g a = s.heap.get? a) : obsXG n fa fn wi good g = (hookX n fa fn wi good).obs s := by
  have e : g = s.heap.get? := funext h
  rw [e] <;> rfl

/-! ### words about the exceptions' classes -/
def excCB (K : PySem.W.Frag) (C : Addr) : Bool := decide (PySem.W.findIn K (.ref C) "__getattribute__" = some (some (.builtin "BaseException.__getattribute__"))) && decide (PySem.W.findIn K (.ref C) "__getattr__" = some none) &&
  decide (PySem.W.subIn K (.ref C) (.type "BaseException") = some true) && PySem.W.hasDictIn K C && decide (PySem.W.findIn K (.ref C) "__class__" = some (some (.builtin "object.__class__"))) &&
  decide (PySem.W.specialIn K (.builtin "object.__class__") "__get__" = some (some (.builtin "getset_descriptor.__get__"))) && decide (PySem.W.takesIn K (.builtin "object.__class__") = some true) && decide (PySem.W.mroIn K C (.type "object") = some true)
theorem excCB_ok {K : PySem.W.Frag} {C : Addr} (h : excCB K C = true) : ExcC K C := by
  unfold excCB at h
  simp only [Bool.and_eq_true, decide_eq_true_eq] at h
  obtain ⟨⟨⟨⟨⟨⟨⟨h1, h2⟩, h3⟩, h4⟩, h5⟩, h6⟩, h7⟩, h8⟩ := h
  exact ⟨h1, h2, h3, h4, h5, h6, h7, h8⟩
/-- who catches whom -/
def subB (K : PySem.W.Frag) (ca : Nat → Addr) (c c' : Nat) (b : Bool) : Bool := decide (PySem.W.exmOne K (.ref (ca c)) (.ref (ca c')) = some b) && decide (PySem.W.kitOne K (.ref (ca c)) (.ref (ca c')) = some b)
/-! ### words about a class with an __init__ of that kind -/
def wiF (K : PySem.W.Frag) (F : Str) (C : Addr) (fI : Addr) : Bool := match K.lookup fI with
  | some ⟨_, _, .func fd, _⟩ => (match fd.closure with
    | [(_, cc)] => (match K.lookup cc with
      | some ⟨_, _, .cell (some (.ref C')), _⟩ => C' == C
      | _ => false)
    | _ => false) && (match fd.defaults, fd.kwdefaults with
    | .none, .none => true
    | _, _ => false) && (match fd.code with
    | .ref cda => PySem.W.codeIn K (.ref cda) fd.qualname && (match K.lookup cda with
      | some ⟨_, _, .fields vs, _⟩ => (match (vs[2]? : Option Value) with
        | some (Value.str file _) => F == file
        | _ => false)
      | _ => false)
    | _ => false)
  | _ => false
/-- the class itself: made as ValueError is, own fields, no __del__ -/
def wiC (K : PySem.W.Frag) (C : Addr) : Bool := match K.lookup C with
  | some ⟨.type t, _, .cls c, ⟨[_, _, _, _, some (.builtin mk), _]⟩⟩ => (match c.mro with
    | .ref own :: up => ((decide (t = "type") && decide (own = C)) && (decide (mk = "ValueError.__new__") && decide (c.hasDel = false))) && ((decide (c.hasDict = true) && PySem.HandSPX.refsVE up) && decide (PySem.W.alongIn K "__init__" up = some (some (.builtin "ValueError.__init__"))))
    | _ => false)
  | _ => false
def wiB (K : PySem.W.Frag) (F : Str) (x : Str) (fld : Str) : Bool :=
  wiF K F (He.ga K x) (He.fAd K (x, some "__init__")) && wiC K (He.ga K x) && decide (PySem.W.findIn K (.ref (He.ga K x)) "__init__" = some (some (.ref (He.fAd K (x, some "__init__"))))) && decide (PySem.W.typeIn K (.ref (He.fAd K (x, some "__init__"))) = some (.type "function")) &&
  decide (PySem.W.subIn K (.ref (He.ga K x)) (.type "ValueError") = some true) && decide (PySem.W.nsIn K cStatics "thirdparty.any" = some none) && decide (PySem.W.findIn K (.ref (He.ga K x)) "__setattr__" = some (some (.builtin "object.__setattr__"))) &&
  decide (PySem.W.findIn K (.ref (He.ga K x)) fld = some none) && decide (PySem.W.mroIn K (He.ga K x) (.ref (He.ga K x)) = some true) && decide (PySem.W.subIn K (.ref (He.ga K x)) (.type "BaseException") = some true) && decide (PySem.W.typeIn K (.ref (He.ga K x)) = some (.type "type"))
theorem wiC_ok {K : PySem.W.Frag} {C : Addr} (z : wiC K C = true) : ∃ nm q N bs bm sn sub ab col dd k0 k1 k2 k3 k5, K.lookup C = some (excClassObj nm q C N bs bm true sn sub ab col dd k0 k1 k2 k3 k5 "ValueError.__new__") ∧ PySem.HandSPX.refsVE bm = true ∧ PySem.W.alongIn K "__init__" bm = some (some (.builtin "ValueError.__init__")) := by
  unfold wiC at z
  split at z
  · next t d0 c a0 a1 a2 a3 mk a5 look =>
    cases c with
    | mk f1 f2 f3 f4 f5 f6 f7 f8 f9 f10 f11 =>
      split at z
      · next own up hm =>
        obtain ⟨z1, z2⟩ := He.ba z
        obtain ⟨z3, z4⟩ := He.ba z1
        obtain ⟨z5, z6⟩ := He.ba z3
        obtain ⟨z7, z8⟩ := He.ba z4
        obtain ⟨z9, y1⟩ := He.ba z2
        obtain ⟨y2, y3⟩ := He.ba z9
        cases of_decide_eq_true z5
        cases of_decide_eq_true z6
        cases of_decide_eq_true z7
        have y4 := of_decide_eq_true z8
        have y5 := of_decide_eq_true y2
        dsimp only at hm y4 y5
        subst hm
        subst y4
        subst y5
        exact ⟨_, _, _, _, up, _, _, _, _, _, _, _, _, _, _, look, y3, of_decide_eq_true y1⟩
      · cases z
  · cases z
/-- what the text of such an __init__ is -/
structure WiT (d : WiD) (fld : Str) : Prop where
  ex : ∃ (sf fn : Str) (ar : Arg) (p0 p1 p2 p3 p4 p5 p6 p7 p8 ap : Pos),
    d.scope.kind = .function ∧ d.scope.isCoroutine = false ∧ d.scope.isGenerator = false ∧ d.scope.names.lookup ("super" : Str) = some .globalImplicit ∧ d.scope.names.lookup ("__class__" : Str) = some .free ∧ d.scope.names.lookup sf = some .local ∧ d.scope.names.lookup fn = some .local ∧ (∀ x ∈ d.scope.names, x.2 ≠ .cell) ∧
    (d.params.posonlyargs ++ d.params.args).head? = some ar ∧ ar.arg = sf ∧ (sf == ("__debug__" : Str)) = false ∧ (fn == ("__debug__" : Str)) = false ∧ sf ≠ fn ∧ (ap.endLine == p3.line) = true ∧ (fn == ("super" : Str)) = false ∧
    (∀ (doc pm : Value) (an : Option Addr) (cda : Value) (ct : Value) (cc : Addr) (a b : Value), bindArgs (PySem.W.ksFn d.nme d.qual d.params d.body d.scope .none .none doc pm an cda ct cc) ⟨[a, b], []⟩ = pure [(sf, a), (fn, b)]) ∧
    d.body = [.Expr (.Call (.Attribute (.Call (.Name "super" p0) [] [] p1) "__init__" ap) [.Name fn p2] [] p3) p4, .Assign [.Attribute (.Name sf p5) fld p6] (.Name fn p7) p8]
theorem wi_ok {K : PySem.W.Frag} {P : Program} {d : WiD} {fld : Str} (T : WiT d fld) (e : fnI K d.cls = d.val) (q : wiB K P.main.file d.cls fld = true) : InitX K P (He.ga K d.cls) fld := by
  unfold wiB at q
  simp only [Bool.and_eq_true, decide_eq_true_eq] at q
  obtain ⟨⟨⟨⟨⟨⟨⟨⟨⟨⟨q1, q2⟩, q3⟩, q4⟩, q5⟩, q6⟩, q7⟩, q8⟩, q9⟩, q10⟩, q11⟩ := q
  refine ⟨?_, wiC_ok q2, q5, q6, q7, q8, q9, q10, q11⟩
  refine ⟨He.fAd K (d.cls, some "__init__"), ?_⟩
  unfold fnI at e
  unfold wiF at q1
  cases z : K.lookup (He.fAd K (d.cls, some "__init__")) with
  | none =>
    rw [z] at e
    cases e
  | some o =>
    obtain ⟨oc, od, dt, osl⟩ := o
    rw [z] at q1 e
    cases dt with
    | func fd =>
      rcases fd with ⟨n1, n2, n3, n4, n5, n6, n7, n8, n9, n10, n11, n12, n13, n14, n15⟩
      have e2 : (some (n1, n2, n3, n4, n5, n6, n7.map (·.1), n15) : FnI) = some (d.nme, d.qual, d.params, FuncBody.stmts d.body, d.scope, mainGlobals, [("__class__" : Str)], builtinsNs) := e
      simp only [Option.some.injEq, Prod.mk.injEq] at e2
      obtain ⟨h1, h2, h3, h4, h5, h6, h7, h8⟩ := e2
      subst h1 h2 h3 h4 h5 h6 h8
      dsimp only at q1
      obtain ⟨c0, c2⟩ := He.ba q1
      obtain ⟨c1, c9⟩ := He.ba c0
      have hdk : n8 = .none ∧ n9 = .none := by
        split at c9
        · exact ⟨rfl, rfl⟩
        · cases c9
      obtain ⟨rfl, rfl⟩ := hdk
      split at c1
      · rename_i ccn cc
        split at c1
        · rename_i cl cld C' csl hcc
          split at c2
          · rename_i cda
            obtain ⟨c3, c4⟩ := He.ba c2
            split at c4
            · rename_i ccl cdd vs ccs hcd
              split at c4
              · rename_i file tf hvs
                have hC : C' = He.ga K d.cls := by simpa using c1
                subst hC
                have hn : ccn = "__class__" := by simpa using h7
                subst hn
                obtain ⟨sf, fn, ar, p0, p1, p2, p3, p4, p5, p6, p7, p8, ap, t1, t2, t3, t4, t5, t6, t7, t8, t9, t10, t11, t12, t13, t14, t15, t16, t17⟩ := T.ex
                exact ⟨_, ⟨oc, ccl, cl, _, _, _, _, _, od, cdd, cld, _, osl, ccs, csl, _, _, file, sf, fn, _, _, _, cda, cc, vs, tf, ar, p0, p1, p2, p3, p4, p5, p6, p7, p8, ap, rfl, z, c3, hcd, hvs, c4, hcc, t1, t2, t3, t4, t5, t6, t7, t8, t9, t10, t11, t12, t13, t14, t15, fun a b => t16 _ _ _ _ _ _ a b, t17⟩, q3, q4⟩
              · cases c4
            · cases c4
          · cases c2
        · cases c1
      · cases c1
    | _ => cases e
def clsS (s : Stmt) (j : Nat) : Stmt := match s with
  | .ClassDef _ _ _ b _ _ _ _ _ _ _ => b.getD j s
  | s => s
end EV

/-! What the head says of the exceptions' classes, put together. -/
namespace EV
open PySem PySem.Spec PyProof.Rows L2
def x2T (xf : Nat → List Nat) (c : Nat) (l : List D) : Option D := match xf c, l with
  | [], [] => some .non
  | [_], [d] => some (.tup [d])
  | _, _ => none
def subT (L : List (List Bool)) (c c2 : Nat) : Option Bool := (L.getD c [])[c2]?
def goodC (F : Str) (xn fd : Nat → Str) (xf : Nat → List Nat) (L : List (List Bool)) (nx : Nat) (K : PySem.W.Frag) : Bool := (List.range nx).all fun c =>
  (excCB K (He.ga K (xn c)) && PySem.W.keepIn K (.ref (He.ga K (xn c)))) && (((List.range nx).all fun c2 => subB K (fun c => He.ga K (xn c)) c c2 ((L.getD c []).getD c2 false)) &&
  (match xf c with
    | [] => plainX K (He.ga K (xn c))
    | f :: _ => xfB K (He.ga K (xn c)) && (decide (PySem.W.findIn K (.ref (He.ga K (xn c))) (fd f) = some none) && wiB K F (xn c) (fd f))))
theorem sub_in {L : List (List Bool)} {n c c2 : Nat} {b : Bool} (hl : L.length = n) (hr : ∀ r ∈ L, r.length = n) (h : subT L c c2 = some b) : c < n ∧ c2 < n ∧ (L.getD c []).getD c2 false = b := by
  unfold subT at h
  by_cases hc : c < L.length
  · have e : L.getD c [] = L[c] := by rw [List.getD_eq_getElem?_getD, List.getElem?_eq_getElem hc] <;> rfl
    have hm := hr _ (List.getElem_mem hc)
    refine ⟨hl ▸ hc, ?_, ?_⟩
    · have := (List.getElem?_eq_some_iff.mp h).1
      rw [e, hm] at this
      exact this
    · rw [List.getD_eq_getElem?_getD, h] <;> rfl
  · have e : L.getD c [] = [] := by rw [List.getD_eq_getElem?_getD, List.getElem?_eq_none (Nat.le_of_not_lt hc)] <;> rfl
    rw [e] at h
    cases h
section
variable {K : PySem.W.Frag} {h : Heap} {mg : Str → Option Value} {P : Program} {w : World} {fa : Nat → Addr} {xn fd : Nat → Str} {xf : Nat → List Nat} {L : List (List Bool)} {nx : Nat}
theorem good_at (g : goodC P.main.file xn fd xf L nx K = true) {c : Nat} (hc : c < nx) : ExcC K (He.ga K (xn c)) ∧ PySem.W.keepIn K (.ref (He.ga K (xn c))) = true ∧ (∀ c2, c2 < nx → subB K (fun c => He.ga K (xn c)) c c2 ((L.getD c []).getD c2 false) = true) ∧
    (xf c = [] → plainX K (He.ga K (xn c)) = true) ∧ ∀ f r, xf c = f :: r → XfC K (He.ga K (xn c)) ∧ PySem.W.findIn K (.ref (He.ga K (xn c))) (fd f) = some none ∧ wiB K P.main.file (xn c) (fd f) = true := by
  obtain ⟨g1, g2⟩ := He.ba (List.all_eq_true.mp g c (List.mem_range.mpr hc))
  obtain ⟨g1, g3⟩ := He.ba g1
  obtain ⟨g4, g5⟩ := He.ba g2
  refine ⟨excCB_ok g1, g3, fun c2 h2 => List.all_eq_true.mp g4 c2 (List.mem_range.mpr h2), fun e => ?_, fun f r e => ?_⟩
  · rw [e] at g5
    exact g5
  · rw [e] at g5
    obtain ⟨x1, x2⟩ := He.ba g5
    obtain ⟨x3, x4⟩ := He.ba x2
    exact ⟨xfB_ok x1, of_decide_eq_true x3, x4⟩
theorem xcT (hg : ∀ c, c < nx → mg (xn c) = some (.ref (He.ga K (xn c)))) (g : goodC P.main.file xn fd xf L nx K = true) (hl : L.length = nx) (hr : ∀ r ∈ L, r.length = nx) (h1 : ∀ c, (xf c).length ≤ 1) (hb : ∀ c, nx ≤ c → xf c = [])
    (wi : ∀ c, c < nx → ∀ n, xf c = [n] → ∃ d : WiD, d.cls = xn c ∧ WiT d (fd n) ∧ fnI K d.cls = d.val) (gs : mg "super" = none) (htop : (P.main.scope.names.lookup ("super" : Str)).isSome = false) :
    XcF ⟨K, fa, fun c => He.ga K (xn c), fd, xf⟩ P w mg (x2T xf) (subT L) xn nx where
  xg := fun c hc => ⟨hg c hc, (good_at g hc).2.1⟩
  xm := fun c hc X hK hm hP hw hca room => by
    have gc := good_at g hc
    cases e : xf c with
    | nil =>
      refine mkx_plain hK (gc.2.2.2.1 e) fun ds d q => ?_
      unfold x2T at q
      rw [e] at q
      cases ds with
      | nil =>
        cases q
        exact ⟨rfl, rfl⟩
      | cons a b => cases q
    | cons n r =>
      have hn : r = [] := by
        have := h1 c
        rw [e] at this
        cases r with
        | nil => rfl
        | cons a b => simp at this
      subst hn
      obtain ⟨d, hd, T, hv⟩ := wi c hc n e
      have W := wi_ok (P := X.prog) T hv (by rw [hP, hd]; exact (gc.2.2.2.2 n [] e).2.2)
      rw [hd] at W
      refine mkx_init (n := n) hK W e (fun ds d q => ?_) (hm ▸ gs) (by rw [hP]; exact htop) room
      unfold x2T at q
      rw [e] at q
      cases ds with
      | nil => cases q
      | cons a b =>
        cases b with
        | nil =>
          cases q
          exact ⟨a, rfl, rfl⟩
        | cons a2 b2 => cases q
  xs := fun c c' b hs => by
    obtain ⟨i1, i2, i3⟩ := sub_in hl hr hs
    have gc := good_at g i1
    have s := gc.2.2.1 c' i2
    rw [i3] at s
    unfold subB at s
    obtain ⟨s1, s2⟩ := He.ba s
    exact ⟨of_decide_eq_true s1, of_decide_eq_true s2, gc.1⟩
  xl := fun c f hf => by
    have hf' : f ∈ xf c := hf
    have hc : c < nx := by
      by_cases z : c < nx
      · exact z
      · rw [hb c (Nat.le_of_not_lt z)] at hf'
        cases hf'
    have one : ∃ n, xf c = [n] := by
      have := h1 c
      cases e : xf c with
      | nil =>
        rw [e] at hf'
        cases hf'
      | cons n r =>
        rw [e] at this
        cases r with
        | nil => exact ⟨n, rfl⟩
        | cons a b => simp at this
    obtain ⟨n, e⟩ := one
    have gc := (good_at g hc).2.2.2.2 n [] e
    rw [e] at hf'
    cases List.mem_singleton.mp hf'
    refine ⟨gc.1, gc.2.1, fun g2 hg2 _ => ?_⟩
    have hg2' : g2 ∈ xf c := hg2
    rw [e] at hg2'
    exact (List.mem_singleton.mp hg2').symm
end
end EV

/-! The script as the law's argument, told in D. -/
namespace EV
open PySem PySem.Spec PyProof.Rows L2
def noLst (K : PySem.W.Frag) : Bool := K.all fun p => match p.2.cls with
  | .type c => decide (c ≠ "list")
  | _ => true
theorem noLst_ok : ∀ {K : PySem.W.Frag}, noLst K = true → ∀ {a : Addr} {o : Obj}, K.lookup a = some o → o.cls ≠ .type "list" := by
  intro K h a o e z
  have hm : (a, o) ∈ K := by
    clear h
    induction K with
    | nil => cases e
    | cons p r ih =>
      obtain ⟨b, u⟩ := p
      rw [List.lookup_cons] at e
      split at e
      · next q =>
        cases e
        have : a = b := by simpa using q
        subst this
        exact List.mem_cons_self ..
      · exact List.mem_cons_of_mem _ (ih e)
  have := List.all_eq_true.mp h _ hm
  simp only [z] at this
  simp at this
theorem reps_ints {S : St0} {φ : Nat → Addr} {k : Nat} {z : Addr → Bool} {H : Hp} : ∀ ns : List Int, Reps S φ k z H (ns.map V.int) (ns.map D.int)
  | [] => .nil
  | n :: r => .cons (.int n) (reps_ints r)
theorem sim_nil (S : St0) (H : Hp) : Sim S ⟨fun _ => 0, ⟨[], []⟩, H, fun _ => false⟩ where
  inj := fun i j hi => absurd hi (Nat.not_lt_zero i)
  obj := fun n o e => by cases e
  good := fun lo h => by cases h
  los := fun lo h => by cases h
  nf := fun n hn => absurd hn (Nat.not_lt_zero n)
  nd := fun b h => by cases h
theorem rep_script {S : St0} {H : Hp} {a : Addr} {ns : List Int} (hK : noLst S.K = true) (h : SqL S.K H a (ns.map V.int)) : RepW S ⟨fun _ => 0, ⟨[], []⟩, H, fun _ => false⟩ (.ref a) (.lst (ns.map D.int)) := by
  rcases h with (h | ⟨o, h⟩) | ⟨o, its, n, h, hc, _⟩
  · exact .lstH h rfl (reps_ints ns)
  · exact .lstZ h (reps_ints ns)
  · exact absurd hc (noLst_ok hK h)
theorem sp_script {S : St0} {m : List D → M D} {H : Hp} {a : Addr} {ns : List Int} (hK : noLst S.K = true) (h : SqL S.K H a (ns.map V.int)) (e : ∃ h', m [.lst (ns.map D.int)] ⟨[], []⟩ = .ok (.bl true) h') :
    spC S m 1 [.ref a] H (fun v _ => v = .bl true) fun _ _ _ => False := by
  obtain ⟨h', e⟩ := e
  refine ⟨rfl, ⟨fun _ => 0, ⟨[], []⟩, H, fun _ => false⟩, [.lst (ns.map D.int)], rfl, sim_nil S H, .cons (rep_script hK h) .nil, ?_⟩
  show After S (m [.lst (ns.map D.int)] ⟨[], []⟩) _ _ _
  rw [e]
  intro w' _ _ _ v r
  cases r
  rfl
/-! ### tuples of natural numbers at the top -/
/-- a natural number -/
def dn (o : Nat) : D := .int o
def natsEq : List Value → List Nat → Bool
  | [], [] => true
  | .int i _ :: vs, n :: ns => decide (i = (n : Int)) && natsEq vs ns
  | _, _ => false
def tupB (K : PySem.W.Frag) (x : Str) (ns : List Nat) : Bool := match PySem.W.nsIn K mainGlobals x with
  | some (some (.ref a)) => (match K.lookup a with
    | some ⟨.type c, _, .seq its _, _⟩ => decide (c = "tuple") && (decide (its.size ≤ 16777216) && natsEq its.toList ns)
    | _ => false)
  | _ => false
theorem natsEq_ok : ∀ {us : List Value} {ns : List Nat}, natsEq us ns = true → Vals (ns.map fun (n : Nat) => V.int (n : Int)) us
  | [], [], _ => .nil
  | [], _ :: _, h => by cases h
  | u :: us, [], h => by cases u <;> cases h
  | u :: us, n :: ns, h => by
    cases u with
    | int i t =>
      obtain ⟨h1, h2⟩ := Bool.and_eq_true_iff.mp (show (decide (i = (n : Int)) && natsEq us ns) = true from h)
      rw [of_decide_eq_true h1]
      exact .cons ⟨t, rfl⟩ (natsEq_ok h2)
    | _ => cases h
theorem reps_dn {S : St0} {φ : Nat → Addr} {k : Nat} {z : Addr → Bool} {H : Hp} : ∀ ns : List Nat, Reps S φ k z H (ns.map fun (n : Nat) => V.int (n : Int)) (ns.map dn)
  | [] => .nil
  | n :: r => .cons (.int (n : Int)) (reps_dn r)
theorem tup_ok {S : St0} {h : Heap} {mg : Str → Option Value} {x : Str} {ns : List Nat} (X : S.K.In h) (G : h.Ns mainGlobals mg) (c : tupB S.K x ns = true) :
    ∃ v u, mg x = some u ∧ RelV v u ∧ ∀ φ k z H, Rep S φ k z H v (.tup (ns.map dn)) := by
  unfold tupB at c
  split at c
  · next a e =>
    split at c
    · next cl dd its n sl e2 =>
      obtain ⟨c1, c2⟩ := Bool.and_eq_true_iff.mp c
      obtain ⟨c2, c3⟩ := Bool.and_eq_true_iff.mp c2
      refine ⟨.ref a, .ref a, PySem.W.mg_of X G e, rfl, fun φ k z H => .tup (vs := ns.map fun (n : Nat) => V.int (n : Int)) (.inr ⟨_, its, n, e2, by rw [of_decide_eq_true c1], rfl, of_decide_eq_true c2, natsEq_ok c3⟩) (reps_dn ns)⟩
    · cases c
  · cases c
end EV

/-! The law's end: what the evaluator answers, as the statement asks it. -/
namespace EV
open PySem PySem.Spec PyProof.Rows L2
def okInt (k : Int) : Prop := Builtin.Int.intBits k ≤ 1048576
theorem cx_none {P : Program} {w : World} {H : Hp} {s : Shared} {e : Value} {s' : Shared} (h : CX P w [] H s (fun _ _ _ => False) e s') : False := by
  obtain ⟨_, _, _, _, _, _, _, _, _, _, _, _, h⟩ := h
  exact h
theorem end_law {l : PySem.W.OpenLaw} {k : Nat} {q loose XP YP d x} (h1 : l.most = some 63) (h2 : d.params.defaults = []) (h3 : Room k callerA)
    (F : ∀ w mg fa h, YP w h → h.Ns mainGlobals mg → mg d.name = some (.ref fa) → ∃ (K : PySem.W.Frag) (fd : FuncData) (sp : Sp), K.In h ∧ (∀ (s : Shared) (u : Value), BindsTo s fd ⟨[u], []⟩ [(x, u)]) ∧
      (∀ (H : Hp) (a : Addr) (ns : List Int), ns.length ≤ 63 → (∀ z ∈ ns, okInt z) → SqL K H a (ns.map V.int) → sp [.ref a] H (fun v _ => v = .bl true) fun _ _ _ => False) ∧
      ∀ base : Heap, K.In base → base.Ns mainGlobals mg → FnOk l.prog w K mg base (CX l.prog w) k fa fd [x] sp) :
    PySem.W.WalkO q loose XP YP l.row.toRowW d [] (fun f vs => PySem.call f vs) :=
  Att.attach_callB h1 h2 fun w _ _ mg _ fa _ _ _ _ _ _ ns G Y _ _ _ hmg hobj hints hlen hbits hgens =>
    let ⟨_, _, _, KX, bnd, hsp, hF⟩ := F w mg fa _ Y G.T.g hmg
    law_call KX G.T.g G.T.b G.T.builtins G.T.nolimit hgens hobj hints (Nat.le_trans hlen (by decide)) h3 hF bnd (fun H _ hS => hsp H _ ns hlen hbits hS) fun _ _ _ => cx_none
end EV

namespace EV

open PySem PySem.Spec PyProof.Rows L2
def topS (i : Nat) : Stmt := PySem.Challenge.pw_meetstores_k06_whole_polynomials.main.body.getD i (.Pass ⟨0, 0, 0, 0⟩)
def gnL : List Str := ["PRIME", "MOST_DEGREE"]
def glL : List D := [D.int 2305843009213693951, D.int 60]
def fnL : List Str := ["is_in", "power", "inverse", "is_poly", "need_poly", "trimmed", "value_in", "by_roots", "divided", "common_in", "common", "value_at", "_law_prime", "_law_taken", "_law_pick", "_law_alike", "_law_from_roots", "_law_at", "_law_power", "law"]

def xnL : List Str := ["StoreError", "BadPoly", "BadRoots"]
def xnF (n : Nat) : Str := xnL.getD n ""
def fdL : List Str := []
def fdF (n : Nat) : Str := fdL.getD n ""
def gnF (n : Nat) : Str := gnL.getD n ""
def glF (n : Nat) : Option D := glL[n]?
def fnF (n : Nat) : Str := fnL.getD n ""
def nmT : Nm := ⟨gnF, fnF, 20, false, fun _ _ _ => false, none, fdF, xnF, 3⟩

def N_0 : List Str := ["value", "least", "most"]
def B_0 : B := (.cons (.ret (.and (.isi (.loc 0) [.int]) (.and (.not (.isi (.loc 0) [.bool])) (.chn .le .le (.loc 1) (.loc 0) (.loc 2))))) .nil)
theorem m_0 : matchB nmT N_0 B_0 (defScope (topS 5)) (defBody (topS 5)) = true := by kernel_rfl
theorem s_0 : FnScope N_0 (N_0.take 3) (defScope (topS 5)) := ⟨by kernel_rfl, by kernel_rfl, by kernel_rfl, by decide +kernel, by kernel_rfl, by decide +kernel, by decide +kernel⟩
def N_1 : List Str := ["number", "many", "found", "square"]
def c_1_0 : E := (.cmp .gt (.loc 1) (.con (D.int 0)))
def b_1_1 : B := (.cons (.ite (.cmp .eq (.bin .mod (.loc 1) (.con (D.int 2))) (.con (D.int 1))) (.cons (.asg (.loc 2) (.bin .mod (.bin .mul (.loc 2) (.loc 3)) (.glo 0))) .nil) .nil) (.cons (.par (.cons (.loc 3) (.cons (.loc 1) .nil)) (.cons (.bin .mod (.bin .mul (.loc 3) (.loc 3)) (.glo 0)) (.cons (.bin .fdiv (.loc 1) (.con (D.int 2))) .nil))) .nil))
def k_1_2 : B := (.cons (.ret (.loc 2)) .nil)
def B_1 : B := (.cons (.par (.cons (.loc 2) (.cons (.loc 3) .nil)) (.cons (.con (D.int 1)) (.cons (.bin .mod (.loc 0) (.glo 0)) .nil))) (.cons (.whl c_1_0 b_1_1) k_1_2))
theorem m_1 : matchB nmT N_1 B_1 (defScope (topS 9)) (defBody (topS 9)) = true := by kernel_rfl
theorem s_1 : FnScope N_1 (N_1.take 2) (defScope (topS 9)) := ⟨by kernel_rfl, by kernel_rfl, by kernel_rfl, by decide +kernel, by kernel_rfl, by decide +kernel, by decide +kernel⟩
def N_2 : List Str := ["number"]
def B_2 : B := (.cons (.ret (.call 1 (.cons (.loc 0) (.cons (.bin .sub (.glo 0) (.con (D.int 2))) .nil)))) .nil)
theorem m_2 : matchB nmT N_2 B_2 (defScope (topS 10)) (defBody (topS 10)) = true := by kernel_rfl
theorem s_2 : FnScope N_2 (N_2.take 1) (defScope (topS 10)) := ⟨by kernel_rfl, by kernel_rfl, by kernel_rfl, by decide +kernel, by kernel_rfl, by decide +kernel, by decide +kernel⟩
def N_3 : List Str := ["value", "number"]
def f_3_0 : E := (.cons (.not (.call 0 (.cons (.loc 1) (.cons (.con (D.int 0)) (.cons (.bin .sub (.glo 0) (.con (D.int 1))) .nil))))) .nil)
def e_3_1 : E := (.loc 1)
def B_3 : B := (.cons (.ite (.or (.not (.isi (.loc 0) [.tuple])) (.cmp .gt (.bif .len (.cons (.loc 0) .nil)) (.bin .add (.glo 1) (.con (D.int 1))))) (.cons (.ret (.con (D.bl false))) .nil) .nil) (.cons (.ite (.cmp .ne (.comp e_3_1 (.loc 1) (.sq (.loc 0)) f_3_0 [1]) (.lst .nil)) (.cons (.ret (.con (D.bl false))) .nil) .nil) (.cons (.ret (.or (.cmp .eq (.loc 0) (.tup .nil)) (.cmp .ne (.idx (.loc 0) (.neg (.con (D.int 1)))) (.con (D.int 0))))) .nil)))
theorem m_3 : matchB nmT N_3 B_3 (defScope (topS 11)) (defBody (topS 11)) = true := by kernel_rfl
theorem s_3 : FnScope N_3 (N_3.take 1) (defScope (topS 11)) := ⟨by kernel_rfl, by kernel_rfl, by kernel_rfl, by decide +kernel, by kernel_rfl, by decide +kernel, by decide +kernel⟩
def N_4 : List Str := ["poly"]
def B_4 : B := (.cons (.ite (.not (.call 3 (.cons (.loc 0) .nil))) (.cons (.rse 1 .nil) .nil) .nil) .nil)
theorem m_4 : matchB nmT N_4 B_4 (defScope (topS 12)) (defBody (topS 12)) = true := by kernel_rfl
theorem s_4 : FnScope N_4 (N_4.take 1) (defScope (topS 12)) := ⟨by kernel_rfl, by kernel_rfl, by kernel_rfl, by decide +kernel, by kernel_rfl, by decide +kernel, by decide +kernel⟩
def N_5 : List Str := ["numbers", "many"]
def c_5_0 : E := (.and (.cmp .gt (.loc 1) (.con (D.int 0))) (.cmp .eq (.idx (.loc 0) (.bin .sub (.loc 1) (.con (D.int 1)))) (.con (D.int 0))))
def b_5_1 : B := (.cons (.aug 1 .sub (.con (D.int 1))) .nil)
def k_5_2 : B := (.cons (.ret (.bif .tuple (.cons (.slc (.loc 0) .nil (.cons (.loc 1) .nil)) .nil))) .nil)
def B_5 : B := (.cons (.asg (.loc 1) (.bif .len (.cons (.loc 0) .nil))) (.cons (.whl c_5_0 b_5_1) k_5_2))
theorem m_5 : matchB nmT N_5 B_5 (defScope (topS 13)) (defBody (topS 13)) = true := by kernel_rfl
theorem s_5 : FnScope N_5 (N_5.take 1) (defScope (topS 13)) := ⟨by kernel_rfl, by kernel_rfl, by kernel_rfl, by decide +kernel, by kernel_rfl, by decide +kernel, by decide +kernel⟩
def N_6 : List Str := ["poly", "place", "found", "number"]
def b_6_0 : B := (.cons (.asg (.loc 2) (.bin .mod (.bin .add (.bin .mul (.loc 2) (.loc 1)) (.loc 3)) (.glo 0))) .nil)
def k_6_1 : B := (.cons (.ret (.loc 2)) .nil)
def B_6 : B := (.cons (.asg (.loc 2) (.con (D.int 0))) (.cons (.for (.loc 3) (.rev (.loc 0)) b_6_0) k_6_1))
theorem m_6 : matchB nmT N_6 B_6 (defScope (topS 14)) (defBody (topS 14)) = true := by kernel_rfl
theorem s_6 : FnScope N_6 (N_6.take 2) (defScope (topS 14)) := ⟨by kernel_rfl, by kernel_rfl, by kernel_rfl, by decide +kernel, by kernel_rfl, by decide +kernel, by decide +kernel⟩
def N_7 : List Str := ["roots", "root", "found", "shifted", "place", "number"]
def f_7_0 : E := (.cons (.not (.call 0 (.cons (.loc 1) (.cons (.con (D.int 0)) (.cons (.bin .sub (.glo 0) (.con (D.int 1))) .nil))))) .nil)
def e_7_1 : E := (.loc 1)
def b_7_2 : B := (.cons (.setx (.loc 3) (.loc 4) (.bin .mod (.bin .sub (.idx (.loc 3) (.loc 4)) (.bin .mul (.loc 1) (.loc 5))) (.glo 0))) .nil)
def k_7_3 : B := (.cons (.asg (.loc 2) (.loc 3)) .nil)
def b_7_4 : B := (.cons (.asg (.loc 3) (.mk (.bin .add (.lst (.cons (.con (D.int 0)) .nil)) (.loc 2)))) (.cons (.forE (.tup (.cons (.loc 4) (.cons (.loc 5) .nil))) (.loc 2) b_7_2) k_7_3))
def k_7_5 : B := (.cons (.ret (.bif .tuple (.cons (.loc 2) .nil))) .nil)
def B_7 : B := (.cons (.ite (.or (.not (.isi (.loc 0) [.tuple])) (.cmp .gt (.bif .len (.cons (.loc 0) .nil)) (.glo 1))) (.cons (.rse 2 .nil) .nil) .nil) (.cons (.ite (.cmp .ne (.comp e_7_1 (.loc 1) (.sq (.loc 0)) f_7_0 [1]) (.lst .nil)) (.cons (.rse 2 .nil) .nil) .nil) (.cons (.asg (.loc 2) (.lst (.cons (.con (D.int 1)) .nil))) (.cons (.for (.loc 1) (.sq (.loc 0)) b_7_4) k_7_5))))
theorem m_7 : matchB nmT N_7 B_7 (defScope (topS 15)) (defBody (topS 15)) = true := by kernel_rfl
theorem s_7 : FnScope N_7 (N_7.take 1) (defScope (topS 15)) := ⟨by kernel_rfl, by kernel_rfl, by kernel_rfl, by decide +kernel, by kernel_rfl, by decide +kernel, by decide +kernel⟩
def N_8 : List Str := ["poly", "other", "rest", "lead", "quotient", "place", "factor", "step", "number"]
def b_8_0 : B := (.cons (.setx (.loc 2) (.bin .add (.loc 5) (.loc 7)) (.bin .mod (.bin .sub (.idx (.loc 2) (.bin .add (.loc 5) (.loc 7))) (.bin .mul (.loc 6) (.loc 8))) (.glo 0))) .nil)
def b_8_1 : B := (.cons (.asg (.loc 6) (.bin .mod (.bin .mul (.idx (.loc 2) (.bin .sub (.bin .add (.loc 5) (.bif .len (.cons (.loc 1) .nil))) (.con (D.int 1)))) (.loc 3)) (.glo 0))) (.cons (.setx (.loc 4) (.loc 5) (.loc 6)) (.cons (.for (.tup (.cons (.loc 7) (.cons (.loc 8) .nil))) (.enm (.loc 1)) b_8_0) .nil)))
def k_8_2 : B := (.cons (.ret (.tup (.cons (.call 5 (.cons (.loc 4) .nil)) (.cons (.call 5 (.cons (.loc 2) .nil)) .nil)))) .nil)
def B_8 : B := (.cons (.par (.cons (.loc 2) (.cons (.loc 3) .nil)) (.cons (.mk (.bif .list (.cons (.loc 0) .nil))) (.cons (.call 2 (.cons (.idx (.loc 1) (.neg (.con (D.int 1)))) .nil)) .nil))) (.cons (.asg (.loc 4) (.mk (.bin .mul (.lst (.cons (.con (D.int 0)) .nil)) (.bif .max (.cons (.con (D.int 0)) (.cons (.bin .add (.bin .sub (.bif .len (.cons (.loc 0) .nil)) (.bif .len (.cons (.loc 1) .nil))) (.con (D.int 1))) .nil)))))) (.cons (.for (.loc 5) (.rng3 (.bin .sub (.bif .len (.cons (.loc 4) .nil)) (.con (D.int 1))) (.neg (.con (D.int 1))) (.neg (.con (D.int 1)))) b_8_1) k_8_2)))
theorem m_8 : matchB nmT N_8 B_8 (defScope (topS 16)) (defBody (topS 16)) = true := by kernel_rfl
theorem s_8 : FnScope N_8 (N_8.take 2) (defScope (topS 16)) := ⟨by kernel_rfl, by kernel_rfl, by kernel_rfl, by decide +kernel, by kernel_rfl, by decide +kernel, by decide +kernel⟩
def N_9 : List Str := ["poly", "other", "lead", "number"]
def c_9_0 : E := (.cmp .ne (.loc 1) (.tup .nil))
def b_9_1 : B := (.cons (.par (.cons (.loc 0) (.cons (.loc 1) .nil)) (.cons (.loc 1) (.cons (.idx (.call 8 (.cons (.loc 0) (.cons (.loc 1) .nil))) (.con (D.int 1))) .nil))) .nil)
def e_9_2 : E := (.bin .mod (.bin .mul (.loc 3) (.loc 2)) (.glo 0))
def k_9_3 : B := (.cons (.asg (.loc 2) (.call 2 (.cons (.idx (.loc 0) (.neg (.con (D.int 1)))) .nil))) (.cons (.ret (.bif .tuple (.cons (.comp e_9_2 (.loc 3) (.sq (.loc 0)) .nil [3]) .nil))) .nil))
def B_9 : B := (.cons (.whl c_9_0 b_9_1) k_9_3)
theorem m_9 : matchB nmT N_9 B_9 (defScope (topS 17)) (defBody (topS 17)) = true := by kernel_rfl
theorem s_9 : FnScope N_9 (N_9.take 2) (defScope (topS 17)) := ⟨by kernel_rfl, by kernel_rfl, by kernel_rfl, by decide +kernel, by kernel_rfl, by decide +kernel, by decide +kernel⟩
def N_10 : List Str := ["poly", "other"]
def B_10 : B := (.cons (.ex (.call 4 (.cons (.loc 0) .nil))) (.cons (.ex (.call 4 (.cons (.loc 1) .nil))) (.cons (.ret (.ite (.and (.cmp .eq (.loc 0) (.tup .nil)) (.cmp .eq (.loc 1) (.tup .nil))) (.tup .nil) (.call 9 (.cons (.loc 0) (.cons (.loc 1) .nil))))) .nil)))
theorem m_10 : matchB nmT N_10 B_10 (defScope (topS 18)) (defBody (topS 18)) = true := by kernel_rfl
theorem s_10 : FnScope N_10 (N_10.take 2) (defScope (topS 18)) := ⟨by kernel_rfl, by kernel_rfl, by kernel_rfl, by decide +kernel, by kernel_rfl, by decide +kernel, by decide +kernel⟩
def N_11 : List Str := ["poly", "place"]
def B_11 : B := (.cons (.ex (.call 4 (.cons (.loc 0) .nil))) (.cons (.ite (.not (.call 0 (.cons (.loc 1) (.cons (.con (D.int 0)) (.cons (.bin .sub (.glo 0) (.con (D.int 1))) .nil))))) (.cons (.rse 2 .nil) .nil) .nil) (.cons (.ret (.call 6 (.cons (.loc 0) (.cons (.loc 1) .nil)))) .nil)))
theorem m_11 : matchB nmT N_11 B_11 (defScope (topS 19)) (defBody (topS 19)) = true := by kernel_rfl
theorem s_11 : FnScope N_11 (N_11.take 2) (defScope (topS 19)) := ⟨by kernel_rfl, by kernel_rfl, by kernel_rfl, by decide +kernel, by kernel_rfl, by decide +kernel, by decide +kernel⟩
def N_12 : List Str := []
def B_12 : B := (.cons (.ret (.con (D.int 2305843009213693951))) .nil)
theorem m_12 : matchB nmT N_12 B_12 (defScope (topS 21)) (defBody (topS 21)) = true := by kernel_rfl
theorem s_12 : FnScope N_12 (N_12.take 0) (defScope (topS 21)) := ⟨by kernel_rfl, by kernel_rfl, by kernel_rfl, by decide +kernel, by kernel_rfl, by decide +kernel, by decide +kernel⟩
def N_13 : List Str := ["_law_row", "_law_many", "_law_found", "_law_cell"]
def B_13 : B := (.cons (.ite (.cmp .gt (.idx (.loc 0) (.con (D.int 3))) (.con (D.int 0))) (.cons (.asg (.loc 2) (.bin .mod (.bif .int (.cons (.idx (.loc 0) (.con (D.int 3))) .nil)) (.loc 1))) (.cons (.setx (.loc 0) (.con (D.int 3)) (.bin .fdiv (.idx (.loc 0) (.con (D.int 3))) (.loc 1))) (.cons (.ret (.loc 2)) .nil))) .nil) (.cons (.setx (.loc 0) (.con (D.int 1)) (.bin .add (.idx (.loc 0) (.con (D.int 1))) (.con (D.int 1)))) (.cons (.ite (.cmp .gt (.idx (.loc 0) (.con (D.int 1))) (.bif .len (.cons (.idx (.loc 0) (.con (D.int 0))) .nil))) (.cons (.setx (.loc 0) (.con (D.int 2)) (.bin .mod (.bif .int (.cons (.bin .add (.bin .mul (.idx (.loc 0) (.con (D.int 2))) (.con (D.int 48271))) (.con (D.int 11))) .nil)) (.con (D.int 2147483647)))) (.cons (.ret (.bin .mod (.bif .int (.cons (.bin .fdiv (.idx (.loc 0) (.con (D.int 2))) (.con (D.int 7))) .nil)) (.loc 1))) .nil)) .nil) (.cons (.asg (.loc 3) (.idx (.idx (.loc 0) (.con (D.int 0))) (.bin .sub (.idx (.loc 0) (.con (D.int 1))) (.con (D.int 1))))) (.cons (.setx (.loc 0) (.con (D.int 2)) (.bin .mod (.bif .int (.cons (.bin .add (.bin .add (.bin .mul (.idx (.loc 0) (.con (D.int 2))) (.con (D.int 48271))) (.loc 3)) (.con (D.int 11))) .nil)) (.con (D.int 2147483647)))) (.cons (.ite (.cmp .ge (.loc 3) (.bin .pow (.con (D.int 10)) (.con (D.int 18)))) (.cons (.setx (.loc 0) (.con (D.int 3)) (.bin .fdiv (.loc 3) (.loc 1))) .nil) .nil) (.cons (.ret (.bin .mod (.bif .int (.cons (.loc 3) .nil)) (.loc 1))) .nil)))))))
theorem m_13 : matchB nmT N_13 B_13 (defScope (topS 22)) (defBody (topS 22)) = true := by kernel_rfl
theorem s_13 : FnScope N_13 (N_13.take 2) (defScope (topS 22)) := ⟨by kernel_rfl, by kernel_rfl, by kernel_rfl, by decide +kernel, by kernel_rfl, by decide +kernel, by decide +kernel⟩
def N_14 : List Str := ["_law_row", "_law_things"]
def B_14 : B := (.cons (.ret (.idx (.loc 1) (.call 13 (.cons (.loc 0) (.cons (.bif .len (.cons (.loc 1) .nil)) .nil))))) .nil)
theorem m_14 : matchB nmT N_14 B_14 (defScope (topS 23)) (defBody (topS 23)) = true := by kernel_rfl
theorem s_14 : FnScope N_14 (N_14.take 2) (defScope (topS 23)) := ⟨by kernel_rfl, by kernel_rfl, by kernel_rfl, by decide +kernel, by kernel_rfl, by decide +kernel, by decide +kernel⟩
def N_15 : List Str := ["_law_found", "_law_due", "_law_k"]
def f_15_0 : E := (.cons (.not (.call 15 (.cons (.idx (.loc 0) (.loc 2)) (.cons (.idx (.loc 1) (.loc 2)) .nil)))) .nil)
def e_15_1 : E := (.loc 2)
def B_15 : B := (.cons (.ite (.isi (.loc 1) [.tuple, .list]) (.cons (.ite (.or (.not (.isi (.loc 0) [.tuple, .list])) (.cmp .ne (.isi (.loc 0) [.list]) (.isi (.loc 1) [.list]))) (.cons (.ret (.con (D.bl false))) .nil) .nil) (.cons (.ite (.cmp .ne (.bif .len (.cons (.loc 0) .nil)) (.bif .len (.cons (.loc 1) .nil))) (.cons (.ret (.con (D.bl false))) .nil) .nil) (.cons (.ret (.cmp .eq (.comp e_15_1 (.loc 2) (.rng1 (.bif .len (.cons (.loc 1) .nil))) f_15_0 [2]) (.lst .nil))) .nil))) .nil) (.cons (.ite (.or (.cmp .is (.loc 1) (.con (D.non))) (.isi (.loc 1) [.str])) (.cons (.ret (.and (.cmp .eq (.loc 0) (.loc 1)) (.cmp .eq (.isi (.loc 0) [.str]) (.isi (.loc 1) [.str])))) .nil) .nil) (.cons (.ret (.and (.isi (.loc 0) [.int]) (.and (.cmp .eq (.isi (.loc 0) [.bool]) (.isi (.loc 1) [.bool])) (.cmp .eq (.loc 0) (.loc 1))))) .nil)))
theorem m_15 : matchB nmT N_15 B_15 (defScope (topS 24)) (defBody (topS 24)) = true := by kernel_rfl
theorem s_15 : FnScope N_15 (N_15.take 2) (defScope (topS 24)) := ⟨by kernel_rfl, by kernel_rfl, by kernel_rfl, by decide +kernel, by kernel_rfl, by decide +kernel, by decide +kernel⟩
def N_16 : List Str := ["_law_points", "_law_found", "_law_root", "_law_k"]
def e_16_0 : E := (.bin .mod (.bif .int (.cons (.bin .sub (.ite (.cmp .gt (.loc 3) (.con (D.int 0))) (.idx (.loc 1) (.bin .sub (.loc 3) (.con (D.int 1)))) (.con (D.int 0))) (.bin .mul (.loc 2) (.ite (.cmp .lt (.loc 3) (.bif .len (.cons (.loc 1) .nil))) (.idx (.loc 1) (.loc 3)) (.con (D.int 0))))) .nil)) (.call 12 .nil))
def b_16_1 : B := (.cons (.asg (.loc 1) (.comp e_16_0 (.loc 3) (.rng1 (.bin .add (.bif .len (.cons (.loc 1) .nil)) (.con (D.int 1)))) .nil [3])) .nil)
def k_16_2 : B := (.cons (.ret (.bif .tuple (.cons (.loc 1) .nil))) .nil)
def B_16 : B := (.cons (.asg (.loc 1) (.lst (.cons (.con (D.int 1)) .nil))) (.cons (.for (.loc 2) (.sq (.loc 0)) b_16_1) k_16_2))
theorem m_16 : matchB nmT N_16 B_16 (defScope (topS 25)) (defBody (topS 25)) = true := by kernel_rfl
theorem s_16 : FnScope N_16 (N_16.take 1) (defScope (topS 25)) := ⟨by kernel_rfl, by kernel_rfl, by kernel_rfl, by decide +kernel, by kernel_rfl, by decide +kernel, by decide +kernel⟩
def N_17 : List Str := ["_law_poly", "_law_place", "_law_found", "_law_power_here", "_law_number"]
def b_17_0 : B := (.cons (.par (.cons (.loc 2) (.cons (.loc 3) .nil)) (.cons (.bin .mod (.bif .int (.cons (.bin .add (.loc 2) (.bin .mul (.loc 4) (.loc 3))) .nil)) (.call 12 .nil)) (.cons (.bin .mod (.bif .int (.cons (.bin .mul (.loc 3) (.loc 1)) .nil)) (.call 12 .nil)) .nil))) .nil)
def k_17_1 : B := (.cons (.ret (.loc 2)) .nil)
def B_17 : B := (.cons (.asg (.tup (.cons (.loc 2) (.cons (.loc 3) .nil))) (.tup (.cons (.con (D.int 0)) (.cons (.con (D.int 1)) .nil)))) (.cons (.for (.loc 4) (.sq (.loc 0)) b_17_0) k_17_1))
theorem m_17 : matchB nmT N_17 B_17 (defScope (topS 26)) (defBody (topS 26)) = true := by kernel_rfl
theorem s_17 : FnScope N_17 (N_17.take 2) (defScope (topS 26)) := ⟨by kernel_rfl, by kernel_rfl, by kernel_rfl, by decide +kernel, by kernel_rfl, by decide +kernel, by decide +kernel⟩
def N_18 : List Str := ["_law_number", "_law_many", "_law_found", "_law_bit"]
def b_18_0 : B := (.cons (.ite (.cmp .eq (.bin .band (.bin .shr (.loc 1) (.loc 3)) (.con (D.int 1))) (.con (D.int 1))) (.cons (.asg (.loc 2) (.bin .mod (.bif .int (.cons (.bin .mul (.loc 2) (.loc 0)) .nil)) (.call 12 .nil))) .nil) .nil) (.cons (.asg (.loc 0) (.bin .mod (.bif .int (.cons (.bin .mul (.loc 0) (.loc 0)) .nil)) (.call 12 .nil))) .nil))
def k_18_1 : B := (.cons (.ret (.loc 2)) .nil)
def B_18 : B := (.cons (.asg (.loc 2) (.con (D.int 1))) (.cons (.for (.loc 3) (.rng1 (.con (D.int 64))) b_18_0) k_18_1))
theorem m_18 : matchB nmT N_18 B_18 (defScope (topS 27)) (defBody (topS 27)) = true := by kernel_rfl
theorem s_18 : FnScope N_18 (N_18.take 2) (defScope (topS 27)) := ⟨by kernel_rfl, by kernel_rfl, by kernel_rfl, by decide +kernel, by kernel_rfl, by decide +kernel, by decide +kernel⟩
def N_19 : List Str := ["_law_script", "_law_row", "_law_pool", "_law_k", "_law_one", "_law_two", "_law_poly", "_law_place", "_law_both", "_law_left", "_law_root", "_law_lead", "_law_number"]
def e_19_0 : E := (.call 13 (.cons (.loc 1) (.cons (.call 12 .nil) .nil)))
def e_19_1 : E := (.call 14 (.cons (.loc 1) (.cons (.loc 2) .nil)))
def e_19_2 : E := (.call 14 (.cons (.loc 1) (.cons (.loc 2) .nil)))
def e_19_3 : E := (.call 13 (.cons (.loc 1) (.cons (.call 12 .nil) .nil)))
def b_19_4 : B := (.cons (.ite (.cmp .mem (.loc 10) (.loc 9)) (.cons (.asg (.loc 8) (.bin .add (.loc 8) (.lst (.cons (.loc 10) .nil)))) (.cons (.ex (.rem (.loc 9) (.cons (.loc 10) .nil))) .nil)) .nil) .nil)
def e_19_5 : E := (.bin .mod (.bif .int (.cons (.bin .mul (.loc 12) (.loc 11)) .nil)) (.call 12 .nil))
def k_19_6 : B := (.cons (.ite (.not (.call 15 (.cons (.call 10 (.cons (.call 16 (.cons (.loc 4) .nil)) (.cons (.call 16 (.cons (.loc 5) .nil)) .nil))) (.cons (.call 16 (.cons (.bif .sorted (.cons (.loc 8) .nil)) .nil)) .nil)))) (.cons (.ret (.con (D.bl false))) .nil) .nil) (.cons (.asg (.loc 11) (.call 18 (.cons (.idx (.loc 6) (.neg (.con (D.int 1)))) (.cons (.bin .sub (.call 12 .nil) (.con (D.int 2))) .nil)))) (.cons (.ret (.and (.cmp .eq (.call 10 (.cons (.tup .nil) (.cons (.tup .nil) .nil))) (.tup .nil)) (.cmp .eq (.call 10 (.cons (.loc 6) (.cons (.tup .nil) .nil))) (.bif .tuple (.cons (.comp e_19_5 (.loc 12) (.sq (.loc 6)) .nil [12]) .nil))))) .nil)))
def B_19 : B := (.cons (.asg (.loc 1) (.mk (.lst (.cons (.loc 0) (.cons (.con (D.int 0)) (.cons (.con (D.int 10706)) (.cons (.con (D.int 0)) .nil))))))) (.cons (.asg (.loc 2) (.bin .add (.lst (.cons (.con (D.int 0)) (.cons (.con (D.int 1)) (.cons (.bin .sub (.call 12 .nil) (.con (D.int 1))) .nil)))) (.comp e_19_0 (.loc 3) (.rng1 (.con (D.int 6))) .nil [3]))) (.cons (.asg (.loc 4) (.comp e_19_1 (.loc 3) (.rng1 (.call 13 (.cons (.loc 1) (.cons (.con (D.int 9)) .nil)))) .nil [3])) (.cons (.asg (.loc 5) (.comp e_19_2 (.loc 3) (.rng1 (.call 13 (.cons (.loc 1) (.cons (.con (D.int 9)) .nil)))) .nil [3])) (.cons (.ite (.not (.call 15 (.cons (.lst (.cons (.call 7 (.cons (.bif .tuple (.cons (.loc 4) .nil)) .nil)) (.cons (.call 7 (.cons (.bif .tuple (.cons (.loc 5) .nil)) .nil)) .nil))) (.cons (.lst (.cons (.call 16 (.cons (.loc 4) .nil)) (.cons (.call 16 (.cons (.loc 5) .nil)) .nil))) .nil)))) (.cons (.ret (.con (D.bl false))) .nil) .nil) (.cons (.asg (.loc 6) (.bif .tuple (.cons (.bin .add (.comp e_19_3 (.loc 3) (.rng1 (.call 13 (.cons (.loc 1) (.cons (.con (D.int 12)) .nil)))) .nil [3]) (.lst (.cons (.bin .add (.con (D.int 1)) (.call 13 (.cons (.loc 1) (.cons (.bin .sub (.call 12 .nil) (.con (D.int 1))) .nil)))) .nil))) .nil))) (.cons (.asg (.loc 7) (.call 14 (.cons (.loc 1) (.cons (.loc 2) .nil)))) (.cons (.ite (.not (.call 15 (.cons (.lst (.cons (.call 11 (.cons (.loc 6) (.cons (.loc 7) .nil))) (.cons (.call 11 (.cons (.tup .nil) (.cons (.loc 7) .nil))) .nil))) (.cons (.lst (.cons (.call 17 (.cons (.loc 6) (.cons (.loc 7) .nil))) (.cons (.con (D.int 0)) .nil))) .nil)))) (.cons (.ret (.con (D.bl false))) .nil) .nil) (.cons (.par (.cons (.loc 8) (.cons (.loc 9) .nil)) (.cons (.lst .nil) (.cons (.mk (.bif .list (.cons (.loc 5) .nil))) .nil))) (.cons (.for (.loc 10) (.sq (.loc 4)) b_19_4) k_19_6))))))))))
theorem m_19 : matchB nmT N_19 B_19 (defScope (topS 28)) (defBody (topS 28)) = true := by kernel_rfl
theorem s_19 : FnScope N_19 (N_19.take 1) (defScope (topS 28)) := ⟨by kernel_rfl, by kernel_rfl, by kernel_rfl, by decide +kernel, by kernel_rfl, by decide +kernel, by decide +kernel⟩
end EV

namespace EV
open PySem PySem.Spec PyProof.Rows L2
def xfL : List (List Nat) := [[], [], []]
def xfF (n : Nat) : List Nat := xfL.getD n []
def subL : List (List Bool) := [[true, false, false], [true, true, false], [true, false, true]]
abbrev subF : Nat → Nat → Option Bool := subT subL
abbrev X2F : Nat → List D → Option D := x2T xfF
def SF (K : PySem.W.Frag) : St0 := ⟨K, fun f => He.ga K (fnF f), fun c => He.ga K (xnF c), fdF, xfF⟩
def faL : List He.Fa := fnL.map He.Fa.glo ++ (xnL.map He.Fa.glo ++ ([.int "PRIME" 2305843009213693951, .int "MOST_DEGREE" 60] ++ bltN.map He.Fa.free)) ++ [.free "super"]
def D_0 : He.DefD := ⟨("is_in", none), "is_in", "is_in", defArgs (topS 5), defBody (topS 5), defScope (topS 5), [], []⟩
def D_1 : He.DefD := ⟨("power", none), "power", "power", defArgs (topS 9), defBody (topS 9), defScope (topS 9), [], []⟩
def D_2 : He.DefD := ⟨("inverse", none), "inverse", "inverse", defArgs (topS 10), defBody (topS 10), defScope (topS 10), [], []⟩
def D_3 : He.DefD := ⟨("is_poly", none), "is_poly", "is_poly", defArgs (topS 11), defBody (topS 11), defScope (topS 11), [], []⟩
def D_4 : He.DefD := ⟨("need_poly", none), "need_poly", "need_poly", defArgs (topS 12), defBody (topS 12), defScope (topS 12), [], []⟩
def D_5 : He.DefD := ⟨("trimmed", none), "trimmed", "trimmed", defArgs (topS 13), defBody (topS 13), defScope (topS 13), [], []⟩
def D_6 : He.DefD := ⟨("value_in", none), "value_in", "value_in", defArgs (topS 14), defBody (topS 14), defScope (topS 14), [], []⟩
def D_7 : He.DefD := ⟨("by_roots", none), "by_roots", "by_roots", defArgs (topS 15), defBody (topS 15), defScope (topS 15), [], []⟩
def D_8 : He.DefD := ⟨("divided", none), "divided", "divided", defArgs (topS 16), defBody (topS 16), defScope (topS 16), [], []⟩
def D_9 : He.DefD := ⟨("common_in", none), "common_in", "common_in", defArgs (topS 17), defBody (topS 17), defScope (topS 17), [], []⟩
def D_10 : He.DefD := ⟨("common", none), "common", "common", defArgs (topS 18), defBody (topS 18), defScope (topS 18), [], []⟩
def D_11 : He.DefD := ⟨("value_at", none), "value_at", "value_at", defArgs (topS 19), defBody (topS 19), defScope (topS 19), [], []⟩
def D_12 : He.DefD := ⟨("_law_prime", none), "_law_prime", "_law_prime", defArgs (topS 21), defBody (topS 21), defScope (topS 21), [], []⟩
def D_13 : He.DefD := ⟨("_law_taken", none), "_law_taken", "_law_taken", defArgs (topS 22), defBody (topS 22), defScope (topS 22), [], []⟩
def D_14 : He.DefD := ⟨("_law_pick", none), "_law_pick", "_law_pick", defArgs (topS 23), defBody (topS 23), defScope (topS 23), [], []⟩
def D_15 : He.DefD := ⟨("_law_alike", none), "_law_alike", "_law_alike", defArgs (topS 24), defBody (topS 24), defScope (topS 24), [], []⟩
def D_16 : He.DefD := ⟨("_law_from_roots", none), "_law_from_roots", "_law_from_roots", defArgs (topS 25), defBody (topS 25), defScope (topS 25), [], []⟩
def D_17 : He.DefD := ⟨("_law_at", none), "_law_at", "_law_at", defArgs (topS 26), defBody (topS 26), defScope (topS 26), [], []⟩
def D_18 : He.DefD := ⟨("_law_power", none), "_law_power", "_law_power", defArgs (topS 27), defBody (topS 27), defScope (topS 27), [], []⟩
def D_19 : He.DefD := ⟨("law", none), "law", "law", defArgs (topS 28), defBody (topS 28), defScope (topS 28), [], []⟩
def dfL : List He.DefD := [D_0, D_1, D_2, D_3, D_4, D_5, D_6, D_7, D_8, D_9, D_10, D_11, D_12, D_13, D_14, D_15, D_16, D_17, D_18, D_19]
def wiL : List WiD := []
def tupsB (K : PySem.W.Frag) : Bool := true
def goodX (K : PySem.W.Frag) : Bool := goodC PySem.Challenge.pw_meetstores_k06_whole_polynomials.main.file xnF fdF xfF subL 3 K && (noLst K && tupsB K)
def nmL0 : List PySem.Str := ["StoreError", "BadPoly", "BadRoots", "is_in", "PRIME", "MOST_DEGREE", "power", "inverse", "is_poly", "need_poly", "trimmed", "value_in", "by_roots", "divided", "common_in", "common", "value_at", "_law_prime", "_law_taken", "_law_pick", "_law_alike", "_law_from_roots", "_law_at", "_law_power"]
def nmL : List PySem.Str := nmL0
abbrev RR : PySem.W.OpenRow := PySem.W.OpenLaw.row PySem.Challenge.rw_meetstores_k06_whole_polynomials
abbrev hkR : PySem.W.Hook := hookX 4 faL dfL wiL goodX
def obR (s : PySem.W.SharedT) : AlX := obsXG 4 faL dfL wiL goodX (HandSHeadRun.getT s)
theorem obR_eq (s : PySem.W.SharedT) : obR s = hkR.obs s.abs := obsXG_eq (HandSHeadRun.getT_eq s)
theorem runR (w : World) : HandSHeadRun.RunEq RR (PySem.W.view RR.prog [28]) hkR obR 6000 nmL w := by
  intro os
  kernel_rfl
end EV

namespace EV
open PySem PySem.Spec PyProof.Rows L2
def GF (n : Nat) : Option Fn := ([some ⟨3, N_0.length, true, B_0⟩, some ⟨2, N_1.length, true, B_1⟩, some ⟨1, N_2.length, true, B_2⟩, some ⟨1, N_3.length, true, B_3⟩, some ⟨1, N_4.length, true, B_4⟩, some ⟨1, N_5.length, true, B_5⟩, some ⟨2, N_6.length, true, B_6⟩, some ⟨1, N_7.length, true, B_7⟩, some ⟨2, N_8.length, true, B_8⟩, some ⟨2, N_9.length, true, B_9⟩, some ⟨2, N_10.length, true, B_10⟩, some ⟨2, N_11.length, true, B_11⟩, some ⟨0, N_12.length, true, B_12⟩, some ⟨2, N_13.length, true, B_13⟩, some ⟨2, N_14.length, true, B_14⟩, some ⟨2, N_15.length, true, B_15⟩, some ⟨1, N_16.length, true, B_16⟩, some ⟨2, N_17.length, true, B_17⟩, some ⟨2, N_18.length, true, B_18⟩, some ⟨1, N_19.length, true, B_19⟩] : List (Option Fn)).getD n none
def psF (n : Nat) : List Str := ([N_0.take 3, N_1.take 2, N_2.take 1, N_3.take 1, N_4.take 1, N_5.take 1, N_6.take 2, N_7.take 1, N_8.take 2, N_9.take 2, N_10.take 2, N_11.take 2, N_12.take 0, N_13.take 2, N_14.take 2, N_15.take 2, N_16.take 1, N_17.take 2, N_18.take 2, N_19.take 1] : List (List Str)).getD n []
section
variable {K : PySem.W.Frag} {h : Heap} {mg : Str → Option Value}
theorem fx_0 (X : K.In h) (G : h.Ns mainGlobals mg) (c : He.SaysD faL dfL K) : ∃ fd, FnF (SF K) mg glF gnF fnF 20 xnF 3 GF 0 fd (psF 0) := by
  obtain ⟨fd, FD⟩ := c.def_ 0 (d := D_0) rfl
  exact ⟨fd, { glo := He.glo_ok X G (c.fact 0 (f := .glo "is_in") rfl), kp := FD.kp, bd := FD.bindsN fun _ _ _ _ _ _ us hl => match us, hl with | [_, _, _], _ => rfl
               tx := fun F e => by cases e; exact ⟨rfl, _, _, _, _, _, N_0, FD, s_0, rfl, m_0⟩ }⟩
theorem fx_1 (X : K.In h) (G : h.Ns mainGlobals mg) (c : He.SaysD faL dfL K) : ∃ fd, FnF (SF K) mg glF gnF fnF 20 xnF 3 GF 1 fd (psF 1) := by
  obtain ⟨fd, FD⟩ := c.def_ 1 (d := D_1) rfl
  exact ⟨fd, { glo := He.glo_ok X G (c.fact 1 (f := .glo "power") rfl), kp := FD.kp, bd := FD.bindsN fun _ _ _ _ _ _ us hl => match us, hl with | [_, _], _ => rfl
               tx := fun F e => by cases e; exact ⟨rfl, _, _, _, _, _, N_1, FD, s_1, rfl, m_1⟩ }⟩
theorem fx_2 (X : K.In h) (G : h.Ns mainGlobals mg) (c : He.SaysD faL dfL K) : ∃ fd, FnF (SF K) mg glF gnF fnF 20 xnF 3 GF 2 fd (psF 2) := by
  obtain ⟨fd, FD⟩ := c.def_ 2 (d := D_2) rfl
  exact ⟨fd, { glo := He.glo_ok X G (c.fact 2 (f := .glo "inverse") rfl), kp := FD.kp, bd := FD.bindsN fun _ _ _ _ _ _ us hl => match us, hl with | [_], _ => rfl
               tx := fun F e => by cases e; exact ⟨rfl, _, _, _, _, _, N_2, FD, s_2, rfl, m_2⟩ }⟩
theorem fx_3 (X : K.In h) (G : h.Ns mainGlobals mg) (c : He.SaysD faL dfL K) : ∃ fd, FnF (SF K) mg glF gnF fnF 20 xnF 3 GF 3 fd (psF 3) := by
  obtain ⟨fd, FD⟩ := c.def_ 3 (d := D_3) rfl
  exact ⟨fd, { glo := He.glo_ok X G (c.fact 3 (f := .glo "is_poly") rfl), kp := FD.kp, bd := FD.bindsN fun _ _ _ _ _ _ us hl => match us, hl with | [_], _ => rfl
               tx := fun F e => by cases e; exact ⟨rfl, _, _, _, _, _, N_3, FD, s_3, rfl, m_3⟩ }⟩
theorem fx_4 (X : K.In h) (G : h.Ns mainGlobals mg) (c : He.SaysD faL dfL K) : ∃ fd, FnF (SF K) mg glF gnF fnF 20 xnF 3 GF 4 fd (psF 4) := by
  obtain ⟨fd, FD⟩ := c.def_ 4 (d := D_4) rfl
  exact ⟨fd, { glo := He.glo_ok X G (c.fact 4 (f := .glo "need_poly") rfl), kp := FD.kp, bd := FD.bindsN fun _ _ _ _ _ _ us hl => match us, hl with | [_], _ => rfl
               tx := fun F e => by cases e; exact ⟨rfl, _, _, _, _, _, N_4, FD, s_4, rfl, m_4⟩ }⟩
theorem fx_5 (X : K.In h) (G : h.Ns mainGlobals mg) (c : He.SaysD faL dfL K) : ∃ fd, FnF (SF K) mg glF gnF fnF 20 xnF 3 GF 5 fd (psF 5) := by
  obtain ⟨fd, FD⟩ := c.def_ 5 (d := D_5) rfl
  exact ⟨fd, { glo := He.glo_ok X G (c.fact 5 (f := .glo "trimmed") rfl), kp := FD.kp, bd := FD.bindsN fun _ _ _ _ _ _ us hl => match us, hl with | [_], _ => rfl
               tx := fun F e => by cases e; exact ⟨rfl, _, _, _, _, _, N_5, FD, s_5, rfl, m_5⟩ }⟩
theorem fx_6 (X : K.In h) (G : h.Ns mainGlobals mg) (c : He.SaysD faL dfL K) : ∃ fd, FnF (SF K) mg glF gnF fnF 20 xnF 3 GF 6 fd (psF 6) := by
  obtain ⟨fd, FD⟩ := c.def_ 6 (d := D_6) rfl
  exact ⟨fd, { glo := He.glo_ok X G (c.fact 6 (f := .glo "value_in") rfl), kp := FD.kp, bd := FD.bindsN fun _ _ _ _ _ _ us hl => match us, hl with | [_, _], _ => rfl
               tx := fun F e => by cases e; exact ⟨rfl, _, _, _, _, _, N_6, FD, s_6, rfl, m_6⟩ }⟩
theorem fx_7 (X : K.In h) (G : h.Ns mainGlobals mg) (c : He.SaysD faL dfL K) : ∃ fd, FnF (SF K) mg glF gnF fnF 20 xnF 3 GF 7 fd (psF 7) := by
  obtain ⟨fd, FD⟩ := c.def_ 7 (d := D_7) rfl
  exact ⟨fd, { glo := He.glo_ok X G (c.fact 7 (f := .glo "by_roots") rfl), kp := FD.kp, bd := FD.bindsN fun _ _ _ _ _ _ us hl => match us, hl with | [_], _ => rfl
               tx := fun F e => by cases e; exact ⟨rfl, _, _, _, _, _, N_7, FD, s_7, rfl, m_7⟩ }⟩
theorem fx_8 (X : K.In h) (G : h.Ns mainGlobals mg) (c : He.SaysD faL dfL K) : ∃ fd, FnF (SF K) mg glF gnF fnF 20 xnF 3 GF 8 fd (psF 8) := by
  obtain ⟨fd, FD⟩ := c.def_ 8 (d := D_8) rfl
  exact ⟨fd, { glo := He.glo_ok X G (c.fact 8 (f := .glo "divided") rfl), kp := FD.kp, bd := FD.bindsN fun _ _ _ _ _ _ us hl => match us, hl with | [_, _], _ => rfl
               tx := fun F e => by cases e; exact ⟨rfl, _, _, _, _, _, N_8, FD, s_8, rfl, m_8⟩ }⟩
theorem fx_9 (X : K.In h) (G : h.Ns mainGlobals mg) (c : He.SaysD faL dfL K) : ∃ fd, FnF (SF K) mg glF gnF fnF 20 xnF 3 GF 9 fd (psF 9) := by
  obtain ⟨fd, FD⟩ := c.def_ 9 (d := D_9) rfl
  exact ⟨fd, { glo := He.glo_ok X G (c.fact 9 (f := .glo "common_in") rfl), kp := FD.kp, bd := FD.bindsN fun _ _ _ _ _ _ us hl => match us, hl with | [_, _], _ => rfl
               tx := fun F e => by cases e; exact ⟨rfl, _, _, _, _, _, N_9, FD, s_9, rfl, m_9⟩ }⟩
theorem fx_10 (X : K.In h) (G : h.Ns mainGlobals mg) (c : He.SaysD faL dfL K) : ∃ fd, FnF (SF K) mg glF gnF fnF 20 xnF 3 GF 10 fd (psF 10) := by
  obtain ⟨fd, FD⟩ := c.def_ 10 (d := D_10) rfl
  exact ⟨fd, { glo := He.glo_ok X G (c.fact 10 (f := .glo "common") rfl), kp := FD.kp, bd := FD.bindsN fun _ _ _ _ _ _ us hl => match us, hl with | [_, _], _ => rfl
               tx := fun F e => by cases e; exact ⟨rfl, _, _, _, _, _, N_10, FD, s_10, rfl, m_10⟩ }⟩
theorem fx_11 (X : K.In h) (G : h.Ns mainGlobals mg) (c : He.SaysD faL dfL K) : ∃ fd, FnF (SF K) mg glF gnF fnF 20 xnF 3 GF 11 fd (psF 11) := by
  obtain ⟨fd, FD⟩ := c.def_ 11 (d := D_11) rfl
  exact ⟨fd, { glo := He.glo_ok X G (c.fact 11 (f := .glo "value_at") rfl), kp := FD.kp, bd := FD.bindsN fun _ _ _ _ _ _ us hl => match us, hl with | [_, _], _ => rfl
               tx := fun F e => by cases e; exact ⟨rfl, _, _, _, _, _, N_11, FD, s_11, rfl, m_11⟩ }⟩
theorem fx_12 (X : K.In h) (G : h.Ns mainGlobals mg) (c : He.SaysD faL dfL K) : ∃ fd, FnF (SF K) mg glF gnF fnF 20 xnF 3 GF 12 fd (psF 12) := by
  obtain ⟨fd, FD⟩ := c.def_ 12 (d := D_12) rfl
  exact ⟨fd, { glo := He.glo_ok X G (c.fact 12 (f := .glo "_law_prime") rfl), kp := FD.kp, bd := FD.bindsN fun _ _ _ _ _ _ us hl => match us, hl with | [], _ => rfl
               tx := fun F e => by cases e; exact ⟨rfl, _, _, _, _, _, N_12, FD, s_12, rfl, m_12⟩ }⟩
theorem fx_13 (X : K.In h) (G : h.Ns mainGlobals mg) (c : He.SaysD faL dfL K) : ∃ fd, FnF (SF K) mg glF gnF fnF 20 xnF 3 GF 13 fd (psF 13) := by
  obtain ⟨fd, FD⟩ := c.def_ 13 (d := D_13) rfl
  exact ⟨fd, { glo := He.glo_ok X G (c.fact 13 (f := .glo "_law_taken") rfl), kp := FD.kp, bd := FD.bindsN fun _ _ _ _ _ _ us hl => match us, hl with | [_, _], _ => rfl
               tx := fun F e => by cases e; exact ⟨rfl, _, _, _, _, _, N_13, FD, s_13, rfl, m_13⟩ }⟩
theorem fx_14 (X : K.In h) (G : h.Ns mainGlobals mg) (c : He.SaysD faL dfL K) : ∃ fd, FnF (SF K) mg glF gnF fnF 20 xnF 3 GF 14 fd (psF 14) := by
  obtain ⟨fd, FD⟩ := c.def_ 14 (d := D_14) rfl
  exact ⟨fd, { glo := He.glo_ok X G (c.fact 14 (f := .glo "_law_pick") rfl), kp := FD.kp, bd := FD.bindsN fun _ _ _ _ _ _ us hl => match us, hl with | [_, _], _ => rfl
               tx := fun F e => by cases e; exact ⟨rfl, _, _, _, _, _, N_14, FD, s_14, rfl, m_14⟩ }⟩
theorem fx_15 (X : K.In h) (G : h.Ns mainGlobals mg) (c : He.SaysD faL dfL K) : ∃ fd, FnF (SF K) mg glF gnF fnF 20 xnF 3 GF 15 fd (psF 15) := by
  obtain ⟨fd, FD⟩ := c.def_ 15 (d := D_15) rfl
  exact ⟨fd, { glo := He.glo_ok X G (c.fact 15 (f := .glo "_law_alike") rfl), kp := FD.kp, bd := FD.bindsN fun _ _ _ _ _ _ us hl => match us, hl with | [_, _], _ => rfl
               tx := fun F e => by cases e; exact ⟨rfl, _, _, _, _, _, N_15, FD, s_15, rfl, m_15⟩ }⟩
theorem fx_16 (X : K.In h) (G : h.Ns mainGlobals mg) (c : He.SaysD faL dfL K) : ∃ fd, FnF (SF K) mg glF gnF fnF 20 xnF 3 GF 16 fd (psF 16) := by
  obtain ⟨fd, FD⟩ := c.def_ 16 (d := D_16) rfl
  exact ⟨fd, { glo := He.glo_ok X G (c.fact 16 (f := .glo "_law_from_roots") rfl), kp := FD.kp, bd := FD.bindsN fun _ _ _ _ _ _ us hl => match us, hl with | [_], _ => rfl
               tx := fun F e => by cases e; exact ⟨rfl, _, _, _, _, _, N_16, FD, s_16, rfl, m_16⟩ }⟩
theorem fx_17 (X : K.In h) (G : h.Ns mainGlobals mg) (c : He.SaysD faL dfL K) : ∃ fd, FnF (SF K) mg glF gnF fnF 20 xnF 3 GF 17 fd (psF 17) := by
  obtain ⟨fd, FD⟩ := c.def_ 17 (d := D_17) rfl
  exact ⟨fd, { glo := He.glo_ok X G (c.fact 17 (f := .glo "_law_at") rfl), kp := FD.kp, bd := FD.bindsN fun _ _ _ _ _ _ us hl => match us, hl with | [_, _], _ => rfl
               tx := fun F e => by cases e; exact ⟨rfl, _, _, _, _, _, N_17, FD, s_17, rfl, m_17⟩ }⟩
theorem fx_18 (X : K.In h) (G : h.Ns mainGlobals mg) (c : He.SaysD faL dfL K) : ∃ fd, FnF (SF K) mg glF gnF fnF 20 xnF 3 GF 18 fd (psF 18) := by
  obtain ⟨fd, FD⟩ := c.def_ 18 (d := D_18) rfl
  exact ⟨fd, { glo := He.glo_ok X G (c.fact 18 (f := .glo "_law_power") rfl), kp := FD.kp, bd := FD.bindsN fun _ _ _ _ _ _ us hl => match us, hl with | [_, _], _ => rfl
               tx := fun F e => by cases e; exact ⟨rfl, _, _, _, _, _, N_18, FD, s_18, rfl, m_18⟩ }⟩
theorem fx_19 (X : K.In h) (G : h.Ns mainGlobals mg) (c : He.SaysD faL dfL K) : ∃ fd, FnF (SF K) mg glF gnF fnF 20 xnF 3 GF 19 fd (psF 19) := by
  obtain ⟨fd, FD⟩ := c.def_ 19 (d := D_19) rfl
  exact ⟨fd, { glo := He.glo_ok X G (c.fact 19 (f := .glo "law") rfl), kp := FD.kp, bd := FD.bindsN fun _ _ _ _ _ _ us hl => match us, hl with | [_], _ => rfl
               tx := fun F e => by cases e; exact ⟨rfl, _, _, _, _, _, N_19, FD, s_19, rfl, m_19⟩ }⟩
theorem fx_law (X : K.In h) (G : h.Ns mainGlobals mg) (c : He.SaysD faL dfL K) : ∃ fd, FnF (SF K) mg glF gnF fnF 20 xnF 3 GF 19 fd (psF 19) ∧ ∀ (s : Shared) (u : Value), BindsTo s fd ⟨[u], []⟩ [("_law_script", u)] := by
  obtain ⟨fd, FD⟩ := c.def_ 19 (d := D_19) rfl
  have b := FunD.bindsA (ps := ["_law_script"]) FD fun _ _ _ _ _ _ us hl => match us, hl with | [_], _ => rfl
  exact ⟨fd, { glo := He.glo_ok X G (c.fact 19 (f := .glo "law") rfl), kp := FD.kp, bd := FD.bindsN fun _ _ _ _ _ _ us hl => match us, hl with | [_], _ => rfl
               tx := fun F e => by cases e; exact ⟨rfl, _, _, _, _, _, N_19, FD, s_19, rfl, m_19⟩ }, fun s u => b s [u] rfl⟩
theorem fx_all (X : K.In h) (G : h.Ns mainGlobals mg) (c : He.SaysD faL dfL K) : ∀ f, f < 20 → ∃ fd, FnF (SF K) mg glF gnF fnF 20 xnF 3 GF f fd (psF f)
  | 0, _ => fx_0 X G c
  | 1, _ => fx_1 X G c
  | 2, _ => fx_2 X G c
  | 3, _ => fx_3 X G c
  | 4, _ => fx_4 X G c
  | 5, _ => fx_5 X G c
  | 6, _ => fx_6 X G c
  | 7, _ => fx_7 X G c
  | 8, _ => fx_8 X G c
  | 9, _ => fx_9 X G c
  | 10, _ => fx_10 X G c
  | 11, _ => fx_11 X G c
  | 12, _ => fx_12 X G c
  | 13, _ => fx_13 X G c
  | 14, _ => fx_14 X G c
  | 15, _ => fx_15 X G c
  | 16, _ => fx_16 X G c
  | 17, _ => fx_17 X G c
  | 18, _ => fx_18 X G c
  | 19, _ => fx_19 X G c
  | n + 20, hn => absurd hn (by omega)
end
end EV

namespace EV
open PySem PySem.Spec PyProof.Rows L2
section
variable {K : PySem.W.Frag} {h : Heap} {mg : Str → Option Value} {P : Program} {w : World}
theorem xg_all (X : K.In h) (G : h.Ns mainGlobals mg) (c : He.SaysD faL dfL K) : ∀ n, n < 3 → mg (xnF n) = some (.ref (He.ga K (xnF n)))
  | 0, _ => He.glo_ok X G (c.fact 20 (f := .glo "StoreError") rfl)
  | 1, _ => He.glo_ok X G (c.fact 21 (f := .glo "BadPoly") rfl)
  | 2, _ => He.glo_ok X G (c.fact 22 (f := .glo "BadRoots") rfl)
  | n + 3, hn => absurd hn (by omega)
theorem gl_all (X : K.In h) (G : h.Ns mainGlobals mg) (c : He.SaysD faL dfL K) (ct : tupsB K = true) : Facts (SF K) mg glF gnF where
  gl := fun g d e => by
    match g, e with
    | 0, e =>
      cases e
      obtain ⟨t, ht⟩ := He.int_ok X G (c.fact 23 (f := .int "PRIME" 2305843009213693951) rfl)
      exact ⟨.int 2305843009213693951, _, ht, ⟨t, rfl⟩, fun _ _ _ _ => .int _⟩
    | 1, e =>
      cases e
      obtain ⟨t, ht⟩ := He.int_ok X G (c.fact 24 (f := .int "MOST_DEGREE" 60) rfl)
      exact ⟨.int 60, _, ht, ⟨t, rfl⟩, fun _ _ _ _ => .int _⟩
    | n + 2, e => exact nomatch e
  blt := fun x hx => He.free_ok X G (c.facts (f := .free x) (List.mem_append_left _ (List.mem_append_right _ (List.mem_append_right _ (List.mem_append_right _ (List.mem_map_of_mem hx))))))
theorem wi_all (c : (wiL.map fun d => fnI K d.cls) = wiL.map WiD.val) : ∀ n, n < 3 → ∀ f, xfF n = [f] → ∃ d : WiD, d.cls = xnF n ∧ WiT d (fdF f) ∧ fnI K d.cls = d.val
  | 0, _, _, e => by cases e
  | 1, _, _, e => by cases e
  | 2, _, _, e => by cases e
  | n + 3, hn, _, _ => absurd hn (by omega)
end
theorem law_F {fuel n : Nat} {w : World} {mg : Str → Option Value} {fa : Addr} {h : Heap} (hlaw : ∀ ns : List Int, ns.length ≤ 63 → (∀ z ∈ ns, okInt z) → ∃ h', evF GF xfF glF X2F subF fuel n 19 [.lst (ns.map D.int)] ⟨[], []⟩ = .ok (.bl true) h')
    (Y : hkR.says w h) (G : h.Ns mainGlobals mg) (hmg : mg ("law" : Str) = some (.ref fa)) : ∃ (K : PySem.W.Frag) (fd : FuncData) (sp : Sp), K.In h ∧ (∀ (s : Shared) (u : Value), BindsTo s fd ⟨[u], []⟩ [("_law_script", u)]) ∧
      (∀ (H : Hp) (a : Addr) (ns : List Int), ns.length ≤ 63 → (∀ z ∈ ns, okInt z) → SqL K H a (ns.map V.int) → sp [.ref a] H (fun v _ => v = .bl true) fun _ _ _ => False) ∧
      ∀ base : Heap, K.In base → base.Ns mainGlobals mg → FnOk (PySem.Challenge.rw_meetstores_k06_whole_polynomials).prog w K mg base (CX (PySem.Challenge.rw_meetstores_k06_whole_polynomials).prog w) (2 * n) fa fd ["_law_script"] sp := by
  obtain ⟨K, X, c, g, wi⟩ := Y
  obtain ⟨g1, g23⟩ := He.ba g
  obtain ⟨g2, g3⟩ := He.ba g23
  have FX := fx_all X G c
  obtain ⟨fdL, lw, lb⟩ := fx_law X G c
  have FX' : ∀ f, ∃ fd, f < 20 → FnF (SF K) mg glF gnF fnF 20 xnF 3 GF f fd (psF f) ∧ (f = 19 → ∀ (s : Shared) (u : Value), BindsTo s fd ⟨[u], []⟩ [("_law_script", u)]) := fun f => by
    by_cases hl : f = 19
    · subst hl
      exact ⟨fdL, fun _ => ⟨lw, fun _ => lb⟩⟩
    by_cases hf : f < 20
    · obtain ⟨fd, z⟩ := FX f hf
      exact ⟨fd, fun _ => ⟨z, fun y => absurd y hl⟩⟩
    · exact ⟨default, fun z => absurd z hf⟩
  let fds : Nat → FuncData := fun f => Classical.choose (FX' f)
  have fx : ∀ f, f < 20 → FnF (SF K) mg glF gnF fnF 20 xnF 3 GF f (fds f) (psF f) := fun f hf => (Classical.choose_spec (FX' f) hf).1
  have xc : XcF (SF K) (PySem.Challenge.rw_meetstores_k06_whole_polynomials).prog w mg X2F subF xnF 3 := xcT (xg_all X G c) g1 rfl (by decide) (fun c => by
      match c with
      | 0 => decide
      | 1 => decide
      | 2 => decide
      | n + 3 => exact Nat.zero_le _) (fun c hc => by
      match c, hc with
      | 0, hc => exact absurd hc (by decide)
      | 1, hc => exact absurd hc (by decide)
      | 2, hc => exact absurd hc (by decide)
      | n + 3, _ => rfl) (wi_all wi) (He.free_ok X G (c.facts (f := .free "super") (List.mem_append_right _ (List.mem_singleton.mpr rfl)))) (by kernel_rfl)
  have all := fun base => fn_all (base := base) (fuel := fuel) (gl_all X G c g3) xc fx
  have eg := (fx 19 (by decide)).glo
  have e : fa = He.ga K (fnF 19) := by
    have := hmg.symm.trans eg
    cases this
    rfl
  subst e
  exact ⟨K, fds 19, spC (SF K) (evF GF xfF glF X2F subF fuel n 19) 1, X, fun s u => (Classical.choose_spec (FX' 19) (by decide)).2 rfl s u, fun H a ns hl hb hS => sp_script (S := SF K) g2 hS (hlaw ns hl hb), fun base _ _ => all base n 19 (by decide)⟩
end EV

/-! Equations by which simp runs the evaluator. -/
namespace EV
open PySem
/-- keeps simp out of a continuation -/
structure Tg {γ : Type} (k : γ) : Type where
section
variable {α β : Type}
def Res.an (r : Res α) (k : α → Hh → Res β) (_ : Tg k) : Res β := match r with
  | .stk => .stk
  | .err c d h => .err c d h
  | .ok a h => k a h
theorem an_ok {a : α} {h : Hh} {k : α → Hh → Res β} {g : Tg k} : (Res.ok a h).an k g = k a h := rfl
theorem an_err {c : Nat} {d : D} {h : Hh} {k : α → Hh → Res β} {g : Tg k} : (Res.err c d h : Res α).an k g = .err c d h := rfl
theorem an_stk {k : α → Hh → Res β} {g : Tg k} : (Res.stk : Res α).an k g = .stk := rfl
def Res.aS (r : Res α) (ls : Ls) (k : α → Hh → SRes) (_ : Tg k) : SRes := match r with
  | .stk => .stk
  | .err c d h => .err c d ls h
  | .ok a h => k a h
theorem aS_ok {a : α} {h : Hh} {ls : Ls} {k : α → Hh → SRes} {g : Tg k} : (Res.ok a h).aS ls k g = k a h := rfl
theorem aS_err {c : Nat} {d : D} {h : Hh} {ls : Ls} {k : α → Hh → SRes} {g : Tg k} : (Res.err c d h : Res α).aS ls k g = .err c d ls h := rfl
theorem aS_stk {ls : Ls} {k : α → Hh → SRes} {g : Tg k} : (Res.stk : Res α).aS ls k g = .stk := rfl
def SRes.sq (r : SRes) (k : Ls → Hh → SRes) (_ : Tg k) : SRes := match r with
  | .nx ls h => k ls h
  | .stk => .stk
  | .err c d ls h => .err c d ls h
  | .ret d h => .ret d h
  | .bk ls h => .bk ls h
  | .ct ls h => .ct ls h
section
variable {ls : Ls} {h : Hh} {c : Nat} {d : D} {k : Ls → Hh → SRes} {g : Tg k}
theorem sq_nx : (SRes.nx ls h).sq k g = k ls h := rfl
theorem sq_stk : SRes.stk.sq k g = .stk := rfl
theorem sq_err : (SRes.err c d ls h).sq k g = .err c d ls h := rfl
theorem sq_ret : (SRes.ret d h).sq k g = .ret d h := rfl
theorem sq_bk : (SRes.bk ls h).sq k g = .bk ls h := rfl
theorem sq_ct : (SRes.ct ls h).sq k g = .ct ls h := rfl
end
def SRes.tn (r : SRes) (k : Ls → Hh → SRes) (_ : Tg k) : SRes := match r with
  | .nx ls h => k ls h
  | .ct ls h => k ls h
  | .bk ls h => .nx ls h
  | .stk => .stk
  | .err c d ls h => .err c d ls h
  | .ret d h => .ret d h
section
variable {ls : Ls} {h : Hh} {c : Nat} {d : D} {k : Ls → Hh → SRes} {g : Tg k}
theorem tn_nx : (SRes.nx ls h).tn k g = k ls h := rfl
theorem tn_stk : SRes.stk.tn k g = .stk := rfl
theorem tn_err : (SRes.err c d ls h).tn k g = .err c d ls h := rfl
theorem tn_ret : (SRes.ret d h).tn k g = .ret d h := rfl
theorem tn_bk : (SRes.bk ls h).tn k g = .nx ls h := rfl
theorem tn_ct : (SRes.ct ls h).tn k g = k ls h := rfl
end
/-- a branch on a Bool; simp looks at the test alone -/
def cnd (b : Bool) (x y : α) (_ : Tg (x, y)) : α := match b with
  | true => x
  | false => y
theorem cnd_t {x y : α} {g : Tg (x, y)} : cnd true x y g = x := rfl
theorem cnd_f {x y : α} {g : Tg (x, y)} : cnd false x y g = y := rfl
def ofO (m : Option α) (h : Hh) : Res α := match m with
  | some a => .ok a h
  | none => .stk
theorem ofO_some {a : α} {h : Hh} : ofO (some a) h = .ok a h := rfl
/-- where a list's length is known to be small -/
def chkL (l : List D) (x : D) (h : Hh) : Res D := if decide (l.length ≤ sizeL) then .ok x h else .stk
theorem chkL_le {l : List D} {x : D} {h : Hh} (e : l.length ≤ sizeL) : chkL l x h = .ok x h := by
  unfold chkL
  rw [if_pos (decide_eq_true e)]

theorem chkL_0 {x : D} {h : Hh} : chkL [] x h = .ok x h := rfl
theorem chkL_1 {a0 : D} {x : D} {h : Hh} : chkL [a0] x h = .ok x h := rfl
theorem chkL_2 {a0 a1 : D} {x : D} {h : Hh} : chkL [a0, a1] x h = .ok x h := rfl
theorem chkL_3 {a0 a1 a2 : D} {x : D} {h : Hh} : chkL [a0, a1, a2] x h = .ok x h := rfl
theorem chkL_4 {a0 a1 a2 a3 : D} {x : D} {h : Hh} : chkL [a0, a1, a2, a3] x h = .ok x h := rfl
theorem chkL_5 {a0 a1 a2 a3 a4 : D} {x : D} {h : Hh} : chkL [a0, a1, a2, a3, a4] x h = .ok x h := rfl
theorem chkL_6 {a0 a1 a2 a3 a4 a5 : D} {x : D} {h : Hh} : chkL [a0, a1, a2, a3, a4, a5] x h = .ok x h := rfl
theorem chkL_7 {a0 a1 a2 a3 a4 a5 a6 : D} {x : D} {h : Hh} : chkL [a0, a1, a2, a3, a4, a5, a6] x h = .ok x h := rfl
theorem chkL_8 {a0 a1 a2 a3 a4 a5 a6 a7 : D} {x : D} {h : Hh} : chkL [a0, a1, a2, a3, a4, a5, a6, a7] x h = .ok x h := rfl
theorem chkL_9 {a0 a1 a2 a3 a4 a5 a6 a7 a8 : D} {x : D} {h : Hh} : chkL [a0, a1, a2, a3, a4, a5, a6, a7, a8] x h = .ok x h := rfl
theorem chkL_10 {a0 a1 a2 a3 a4 a5 a6 a7 a8 a9 : D} {x : D} {h : Hh} : chkL [a0, a1, a2, a3, a4, a5, a6, a7, a8, a9] x h = .ok x h := rfl
theorem chkL_11 {a0 a1 a2 a3 a4 a5 a6 a7 a8 a9 a10 : D} {x : D} {h : Hh} : chkL [a0, a1, a2, a3, a4, a5, a6, a7, a8, a9, a10] x h = .ok x h := rfl
theorem chkL_12 {a0 a1 a2 a3 a4 a5 a6 a7 a8 a9 a10 a11 : D} {x : D} {h : Hh} : chkL [a0, a1, a2, a3, a4, a5, a6, a7, a8, a9, a10, a11] x h = .ok x h := rfl
theorem chkL_13 {a0 a1 a2 a3 a4 a5 a6 a7 a8 a9 a10 a11 a12 : D} {x : D} {h : Hh} : chkL [a0, a1, a2, a3, a4, a5, a6, a7, a8, a9, a10, a11, a12] x h = .ok x h := rfl
theorem chkL_14 {a0 a1 a2 a3 a4 a5 a6 a7 a8 a9 a10 a11 a12 a13 : D} {x : D} {h : Hh} : chkL [a0, a1, a2, a3, a4, a5, a6, a7, a8, a9, a10, a11, a12, a13] x h = .ok x h := rfl
theorem chkL_15 {a0 a1 a2 a3 a4 a5 a6 a7 a8 a9 a10 a11 a12 a13 a14 : D} {x : D} {h : Hh} : chkL [a0, a1, a2, a3, a4, a5, a6, a7, a8, a9, a10, a11, a12, a13, a14] x h = .ok x h := rfl
theorem chkL_16 {a0 a1 a2 a3 a4 a5 a6 a7 a8 a9 a10 a11 a12 a13 a14 a15 : D} {x : D} {h : Hh} : chkL [a0, a1, a2, a3, a4, a5, a6, a7, a8, a9, a10, a11, a12, a13, a14, a15] x h = .ok x h := rfl
theorem chkL_17 {a0 a1 a2 a3 a4 a5 a6 a7 a8 a9 a10 a11 a12 a13 a14 a15 a16 : D} {x : D} {h : Hh} : chkL [a0, a1, a2, a3, a4, a5, a6, a7, a8, a9, a10, a11, a12, a13, a14, a15, a16] x h = .ok x h := rfl
theorem chkL_18 {a0 a1 a2 a3 a4 a5 a6 a7 a8 a9 a10 a11 a12 a13 a14 a15 a16 a17 : D} {x : D} {h : Hh} : chkL [a0, a1, a2, a3, a4, a5, a6, a7, a8, a9, a10, a11, a12, a13, a14, a15, a16, a17] x h = .ok x h := rfl
theorem chkL_19 {a0 a1 a2 a3 a4 a5 a6 a7 a8 a9 a10 a11 a12 a13 a14 a15 a16 a17 a18 : D} {x : D} {h : Hh} : chkL [a0, a1, a2, a3, a4, a5, a6, a7, a8, a9, a10, a11, a12, a13, a14, a15, a16, a17, a18] x h = .ok x h := rfl
theorem chkL_20 {a0 a1 a2 a3 a4 a5 a6 a7 a8 a9 a10 a11 a12 a13 a14 a15 a16 a17 a18 a19 : D} {x : D} {h : Hh} : chkL [a0, a1, a2, a3, a4, a5, a6, a7, a8, a9, a10, a11, a12, a13, a14, a15, a16, a17, a18, a19] x h = .ok x h := rfl
end
section
variable {α β : Type} {h : Hh} {ls : Ls}
theorem bx {m : M α} {f : α → M β} {k : α → Hh → Res β} (e : ∀ a h, f a h = k a h) : M.bind m f h = (m h).an k ⟨⟩ := by
  unfold M.bind Res.an
  cases m h with
  | ok a h2 => exact e a h2
  | _ => rfl
theorem bq {m : M α} {r : Res α} {f : α → M β} {k : α → Hh → Res β} (e0 : m h = r) (e : ∀ a h, f a h = k a h) : M.bind m f h = r.an k ⟨⟩ := by
  subst e0
  exact bx e
theorem binM_r {o : BOp} {x y : D} : binM o x y h = ofO (binV o (deref h x) (deref h y)) h := by
  unfold binM ofO
  cases binV o (deref h x) (deref h y) <;> rfl
theorem idxM_r {x y : D} : idxM x y h = ofO (idxV (deref h x) y) h := by
  unfold idxM ofO
  cases idxV (deref h x) y <;> rfl
theorem slcM_r {x : D} {i j : Option Int} : slcM x i j h = ofO (slcV (deref h x) i j) h := by
  unfold slcM ofO
  cases slcV (deref h x) i j <;> rfl
theorem bifM_r {b : Bif} {l : List D} : bifM b l h = ofO (bifV b (l.map (deref h))) h := by
  unfold bifM ofO
  cases bifV b (l.map (deref h)) <;> rfl
theorem truthM_r {x : D} : truthM x h = ofO (truthV (deref h x)) h := by
  unfold truthM ofO
  cases truthV (deref h x) <;> rfl
theorem augM_r {o : BOp} {x y : D} : augM o x y h = ofO (augV o x y) h := by
  unfold augM ofO
  cases augV o x y <;> rfl
theorem getM_r {x y : D} : getM x y h = ofO (getV h x y) h := by
  unfold getM ofO
  cases getV h x y <;> rfl
theorem sx {s : SM} {f : Ls → SM} {k : Ls → Hh → SRes} (e : ∀ ls h, f ls h = k ls h) : seqS s f h = (s h).sq k ⟨⟩ := by
  unfold seqS SRes.sq
  cases s h with
  | nx ls h2 => exact e ls h2
  | _ => rfl
theorem tx {s : SM} {f : Ls → SM} {k : Ls → Hh → SRes} (e : ∀ ls h, f ls h = k ls h) : turnS s f h = (s h).tn k ⟨⟩ := by
  unfold turnS SRes.tn
  cases s h with
  | nx ls h2 => exact e ls h2
  | ct ls h2 => exact e ls h2
  | _ => rfl
theorem ox {m : M α} {f : α → SM} {r : Res α} {k : α → Hh → SRes} (e1 : m h = r) (e : ∀ a h, f a h = k a h) : onM m ls f h = r.aS ls k ⟨⟩ := by
  subst e1
  unfold onM Res.aS
  cases m h with
  | ok a h2 => exact e a h2
  | _ => rfl
end
section
variable {C : Nat → List D → M D} {gl : Nat → Option D} {ls : Ls} {h : Hh}

theorem x_loc0 {d : D} : evE C gl (.loc 0) (some d :: ls) h = .ok d h := rfl
theorem x_loc1 {a0 : Option D} {d : D} : evE C gl (.loc 1) (a0 :: some d :: ls) h = .ok d h := rfl
theorem x_loc2 {a0 a1 : Option D} {d : D} : evE C gl (.loc 2) (a0 :: a1 :: some d :: ls) h = .ok d h := rfl
theorem x_loc3 {a0 a1 a2 : Option D} {d : D} : evE C gl (.loc 3) (a0 :: a1 :: a2 :: some d :: ls) h = .ok d h := rfl
theorem x_loc4 {a0 a1 a2 a3 : Option D} {d : D} : evE C gl (.loc 4) (a0 :: a1 :: a2 :: a3 :: some d :: ls) h = .ok d h := rfl
theorem x_loc5 {a0 a1 a2 a3 a4 : Option D} {d : D} : evE C gl (.loc 5) (a0 :: a1 :: a2 :: a3 :: a4 :: some d :: ls) h = .ok d h := rfl
theorem x_loc6 {a0 a1 a2 a3 a4 a5 : Option D} {d : D} : evE C gl (.loc 6) (a0 :: a1 :: a2 :: a3 :: a4 :: a5 :: some d :: ls) h = .ok d h := rfl
theorem x_loc7 {a0 a1 a2 a3 a4 a5 a6 : Option D} {d : D} : evE C gl (.loc 7) (a0 :: a1 :: a2 :: a3 :: a4 :: a5 :: a6 :: some d :: ls) h = .ok d h := rfl
theorem x_loc8 {a0 a1 a2 a3 a4 a5 a6 a7 : Option D} {d : D} : evE C gl (.loc 8) (a0 :: a1 :: a2 :: a3 :: a4 :: a5 :: a6 :: a7 :: some d :: ls) h = .ok d h := rfl
theorem x_loc9 {a0 a1 a2 a3 a4 a5 a6 a7 a8 : Option D} {d : D} : evE C gl (.loc 9) (a0 :: a1 :: a2 :: a3 :: a4 :: a5 :: a6 :: a7 :: a8 :: some d :: ls) h = .ok d h := rfl
theorem x_loc10 {a0 a1 a2 a3 a4 a5 a6 a7 a8 a9 : Option D} {d : D} : evE C gl (.loc 10) (a0 :: a1 :: a2 :: a3 :: a4 :: a5 :: a6 :: a7 :: a8 :: a9 :: some d :: ls) h = .ok d h := rfl
theorem x_loc11 {a0 a1 a2 a3 a4 a5 a6 a7 a8 a9 a10 : Option D} {d : D} : evE C gl (.loc 11) (a0 :: a1 :: a2 :: a3 :: a4 :: a5 :: a6 :: a7 :: a8 :: a9 :: a10 :: some d :: ls) h = .ok d h := rfl
theorem x_loc12 {a0 a1 a2 a3 a4 a5 a6 a7 a8 a9 a10 a11 : Option D} {d : D} : evE C gl (.loc 12) (a0 :: a1 :: a2 :: a3 :: a4 :: a5 :: a6 :: a7 :: a8 :: a9 :: a10 :: a11 :: some d :: ls) h = .ok d h := rfl
theorem x_loc13 {a0 a1 a2 a3 a4 a5 a6 a7 a8 a9 a10 a11 a12 : Option D} {d : D} : evE C gl (.loc 13) (a0 :: a1 :: a2 :: a3 :: a4 :: a5 :: a6 :: a7 :: a8 :: a9 :: a10 :: a11 :: a12 :: some d :: ls) h = .ok d h := rfl
theorem x_loc14 {a0 a1 a2 a3 a4 a5 a6 a7 a8 a9 a10 a11 a12 a13 : Option D} {d : D} : evE C gl (.loc 14) (a0 :: a1 :: a2 :: a3 :: a4 :: a5 :: a6 :: a7 :: a8 :: a9 :: a10 :: a11 :: a12 :: a13 :: some d :: ls) h = .ok d h := rfl
theorem x_loc15 {a0 a1 a2 a3 a4 a5 a6 a7 a8 a9 a10 a11 a12 a13 a14 : Option D} {d : D} : evE C gl (.loc 15) (a0 :: a1 :: a2 :: a3 :: a4 :: a5 :: a6 :: a7 :: a8 :: a9 :: a10 :: a11 :: a12 :: a13 :: a14 :: some d :: ls) h = .ok d h := rfl
theorem x_loc16 {a0 a1 a2 a3 a4 a5 a6 a7 a8 a9 a10 a11 a12 a13 a14 a15 : Option D} {d : D} : evE C gl (.loc 16) (a0 :: a1 :: a2 :: a3 :: a4 :: a5 :: a6 :: a7 :: a8 :: a9 :: a10 :: a11 :: a12 :: a13 :: a14 :: a15 :: some d :: ls) h = .ok d h := rfl
theorem x_loc17 {a0 a1 a2 a3 a4 a5 a6 a7 a8 a9 a10 a11 a12 a13 a14 a15 a16 : Option D} {d : D} : evE C gl (.loc 17) (a0 :: a1 :: a2 :: a3 :: a4 :: a5 :: a6 :: a7 :: a8 :: a9 :: a10 :: a11 :: a12 :: a13 :: a14 :: a15 :: a16 :: some d :: ls) h = .ok d h := rfl
theorem x_loc18 {a0 a1 a2 a3 a4 a5 a6 a7 a8 a9 a10 a11 a12 a13 a14 a15 a16 a17 : Option D} {d : D} : evE C gl (.loc 18) (a0 :: a1 :: a2 :: a3 :: a4 :: a5 :: a6 :: a7 :: a8 :: a9 :: a10 :: a11 :: a12 :: a13 :: a14 :: a15 :: a16 :: a17 :: some d :: ls) h = .ok d h := rfl
theorem x_loc19 {a0 a1 a2 a3 a4 a5 a6 a7 a8 a9 a10 a11 a12 a13 a14 a15 a16 a17 a18 : Option D} {d : D} : evE C gl (.loc 19) (a0 :: a1 :: a2 :: a3 :: a4 :: a5 :: a6 :: a7 :: a8 :: a9 :: a10 :: a11 :: a12 :: a13 :: a14 :: a15 :: a16 :: a17 :: a18 :: some d :: ls) h = .ok d h := rfl
theorem x_loc20 {a0 a1 a2 a3 a4 a5 a6 a7 a8 a9 a10 a11 a12 a13 a14 a15 a16 a17 a18 a19 : Option D} {d : D} : evE C gl (.loc 20) (a0 :: a1 :: a2 :: a3 :: a4 :: a5 :: a6 :: a7 :: a8 :: a9 :: a10 :: a11 :: a12 :: a13 :: a14 :: a15 :: a16 :: a17 :: a18 :: a19 :: some d :: ls) h = .ok d h := rfl
theorem x_loc21 {a0 a1 a2 a3 a4 a5 a6 a7 a8 a9 a10 a11 a12 a13 a14 a15 a16 a17 a18 a19 a20 : Option D} {d : D} : evE C gl (.loc 21) (a0 :: a1 :: a2 :: a3 :: a4 :: a5 :: a6 :: a7 :: a8 :: a9 :: a10 :: a11 :: a12 :: a13 :: a14 :: a15 :: a16 :: a17 :: a18 :: a19 :: a20 :: some d :: ls) h = .ok d h := rfl
theorem x_loc22 {a0 a1 a2 a3 a4 a5 a6 a7 a8 a9 a10 a11 a12 a13 a14 a15 a16 a17 a18 a19 a20 a21 : Option D} {d : D} : evE C gl (.loc 22) (a0 :: a1 :: a2 :: a3 :: a4 :: a5 :: a6 :: a7 :: a8 :: a9 :: a10 :: a11 :: a12 :: a13 :: a14 :: a15 :: a16 :: a17 :: a18 :: a19 :: a20 :: a21 :: some d :: ls) h = .ok d h := rfl
theorem x_loc23 {a0 a1 a2 a3 a4 a5 a6 a7 a8 a9 a10 a11 a12 a13 a14 a15 a16 a17 a18 a19 a20 a21 a22 : Option D} {d : D} : evE C gl (.loc 23) (a0 :: a1 :: a2 :: a3 :: a4 :: a5 :: a6 :: a7 :: a8 :: a9 :: a10 :: a11 :: a12 :: a13 :: a14 :: a15 :: a16 :: a17 :: a18 :: a19 :: a20 :: a21 :: a22 :: some d :: ls) h = .ok d h := rfl
theorem x_loc24 {a0 a1 a2 a3 a4 a5 a6 a7 a8 a9 a10 a11 a12 a13 a14 a15 a16 a17 a18 a19 a20 a21 a22 a23 : Option D} {d : D} : evE C gl (.loc 24) (a0 :: a1 :: a2 :: a3 :: a4 :: a5 :: a6 :: a7 :: a8 :: a9 :: a10 :: a11 :: a12 :: a13 :: a14 :: a15 :: a16 :: a17 :: a18 :: a19 :: a20 :: a21 :: a22 :: a23 :: some d :: ls) h = .ok d h := rfl
theorem x_loc25 {a0 a1 a2 a3 a4 a5 a6 a7 a8 a9 a10 a11 a12 a13 a14 a15 a16 a17 a18 a19 a20 a21 a22 a23 a24 : Option D} {d : D} : evE C gl (.loc 25) (a0 :: a1 :: a2 :: a3 :: a4 :: a5 :: a6 :: a7 :: a8 :: a9 :: a10 :: a11 :: a12 :: a13 :: a14 :: a15 :: a16 :: a17 :: a18 :: a19 :: a20 :: a21 :: a22 :: a23 :: a24 :: some d :: ls) h = .ok d h := rfl
theorem x_loc26 {a0 a1 a2 a3 a4 a5 a6 a7 a8 a9 a10 a11 a12 a13 a14 a15 a16 a17 a18 a19 a20 a21 a22 a23 a24 a25 : Option D} {d : D} : evE C gl (.loc 26) (a0 :: a1 :: a2 :: a3 :: a4 :: a5 :: a6 :: a7 :: a8 :: a9 :: a10 :: a11 :: a12 :: a13 :: a14 :: a15 :: a16 :: a17 :: a18 :: a19 :: a20 :: a21 :: a22 :: a23 :: a24 :: a25 :: some d :: ls) h = .ok d h := rfl
theorem x_loc27 {a0 a1 a2 a3 a4 a5 a6 a7 a8 a9 a10 a11 a12 a13 a14 a15 a16 a17 a18 a19 a20 a21 a22 a23 a24 a25 a26 : Option D} {d : D} : evE C gl (.loc 27) (a0 :: a1 :: a2 :: a3 :: a4 :: a5 :: a6 :: a7 :: a8 :: a9 :: a10 :: a11 :: a12 :: a13 :: a14 :: a15 :: a16 :: a17 :: a18 :: a19 :: a20 :: a21 :: a22 :: a23 :: a24 :: a25 :: a26 :: some d :: ls) h = .ok d h := rfl
theorem x_loc28 {a0 a1 a2 a3 a4 a5 a6 a7 a8 a9 a10 a11 a12 a13 a14 a15 a16 a17 a18 a19 a20 a21 a22 a23 a24 a25 a26 a27 : Option D} {d : D} : evE C gl (.loc 28) (a0 :: a1 :: a2 :: a3 :: a4 :: a5 :: a6 :: a7 :: a8 :: a9 :: a10 :: a11 :: a12 :: a13 :: a14 :: a15 :: a16 :: a17 :: a18 :: a19 :: a20 :: a21 :: a22 :: a23 :: a24 :: a25 :: a26 :: a27 :: some d :: ls) h = .ok d h := rfl
theorem x_loc29 {a0 a1 a2 a3 a4 a5 a6 a7 a8 a9 a10 a11 a12 a13 a14 a15 a16 a17 a18 a19 a20 a21 a22 a23 a24 a25 a26 a27 a28 : Option D} {d : D} : evE C gl (.loc 29) (a0 :: a1 :: a2 :: a3 :: a4 :: a5 :: a6 :: a7 :: a8 :: a9 :: a10 :: a11 :: a12 :: a13 :: a14 :: a15 :: a16 :: a17 :: a18 :: a19 :: a20 :: a21 :: a22 :: a23 :: a24 :: a25 :: a26 :: a27 :: a28 :: some d :: ls) h = .ok d h := rfl
theorem x_loc30 {a0 a1 a2 a3 a4 a5 a6 a7 a8 a9 a10 a11 a12 a13 a14 a15 a16 a17 a18 a19 a20 a21 a22 a23 a24 a25 a26 a27 a28 a29 : Option D} {d : D} : evE C gl (.loc 30) (a0 :: a1 :: a2 :: a3 :: a4 :: a5 :: a6 :: a7 :: a8 :: a9 :: a10 :: a11 :: a12 :: a13 :: a14 :: a15 :: a16 :: a17 :: a18 :: a19 :: a20 :: a21 :: a22 :: a23 :: a24 :: a25 :: a26 :: a27 :: a28 :: a29 :: some d :: ls) h = .ok d h := rfl
theorem x_loc31 {a0 a1 a2 a3 a4 a5 a6 a7 a8 a9 a10 a11 a12 a13 a14 a15 a16 a17 a18 a19 a20 a21 a22 a23 a24 a25 a26 a27 a28 a29 a30 : Option D} {d : D} : evE C gl (.loc 31) (a0 :: a1 :: a2 :: a3 :: a4 :: a5 :: a6 :: a7 :: a8 :: a9 :: a10 :: a11 :: a12 :: a13 :: a14 :: a15 :: a16 :: a17 :: a18 :: a19 :: a20 :: a21 :: a22 :: a23 :: a24 :: a25 :: a26 :: a27 :: a28 :: a29 :: a30 :: some d :: ls) h = .ok d h := rfl
theorem x_loc32 {a0 a1 a2 a3 a4 a5 a6 a7 a8 a9 a10 a11 a12 a13 a14 a15 a16 a17 a18 a19 a20 a21 a22 a23 a24 a25 a26 a27 a28 a29 a30 a31 : Option D} {d : D} : evE C gl (.loc 32) (a0 :: a1 :: a2 :: a3 :: a4 :: a5 :: a6 :: a7 :: a8 :: a9 :: a10 :: a11 :: a12 :: a13 :: a14 :: a15 :: a16 :: a17 :: a18 :: a19 :: a20 :: a21 :: a22 :: a23 :: a24 :: a25 :: a26 :: a27 :: a28 :: a29 :: a30 :: a31 :: some d :: ls) h = .ok d h := rfl
theorem x_loc33 {a0 a1 a2 a3 a4 a5 a6 a7 a8 a9 a10 a11 a12 a13 a14 a15 a16 a17 a18 a19 a20 a21 a22 a23 a24 a25 a26 a27 a28 a29 a30 a31 a32 : Option D} {d : D} : evE C gl (.loc 33) (a0 :: a1 :: a2 :: a3 :: a4 :: a5 :: a6 :: a7 :: a8 :: a9 :: a10 :: a11 :: a12 :: a13 :: a14 :: a15 :: a16 :: a17 :: a18 :: a19 :: a20 :: a21 :: a22 :: a23 :: a24 :: a25 :: a26 :: a27 :: a28 :: a29 :: a30 :: a31 :: a32 :: some d :: ls) h = .ok d h := rfl
theorem x_loc34 {a0 a1 a2 a3 a4 a5 a6 a7 a8 a9 a10 a11 a12 a13 a14 a15 a16 a17 a18 a19 a20 a21 a22 a23 a24 a25 a26 a27 a28 a29 a30 a31 a32 a33 : Option D} {d : D} : evE C gl (.loc 34) (a0 :: a1 :: a2 :: a3 :: a4 :: a5 :: a6 :: a7 :: a8 :: a9 :: a10 :: a11 :: a12 :: a13 :: a14 :: a15 :: a16 :: a17 :: a18 :: a19 :: a20 :: a21 :: a22 :: a23 :: a24 :: a25 :: a26 :: a27 :: a28 :: a29 :: a30 :: a31 :: a32 :: a33 :: some d :: ls) h = .ok d h := rfl
theorem x_loc35 {a0 a1 a2 a3 a4 a5 a6 a7 a8 a9 a10 a11 a12 a13 a14 a15 a16 a17 a18 a19 a20 a21 a22 a23 a24 a25 a26 a27 a28 a29 a30 a31 a32 a33 a34 : Option D} {d : D} : evE C gl (.loc 35) (a0 :: a1 :: a2 :: a3 :: a4 :: a5 :: a6 :: a7 :: a8 :: a9 :: a10 :: a11 :: a12 :: a13 :: a14 :: a15 :: a16 :: a17 :: a18 :: a19 :: a20 :: a21 :: a22 :: a23 :: a24 :: a25 :: a26 :: a27 :: a28 :: a29 :: a30 :: a31 :: a32 :: a33 :: a34 :: some d :: ls) h = .ok d h := rfl
theorem x_loc36 {a0 a1 a2 a3 a4 a5 a6 a7 a8 a9 a10 a11 a12 a13 a14 a15 a16 a17 a18 a19 a20 a21 a22 a23 a24 a25 a26 a27 a28 a29 a30 a31 a32 a33 a34 a35 : Option D} {d : D} : evE C gl (.loc 36) (a0 :: a1 :: a2 :: a3 :: a4 :: a5 :: a6 :: a7 :: a8 :: a9 :: a10 :: a11 :: a12 :: a13 :: a14 :: a15 :: a16 :: a17 :: a18 :: a19 :: a20 :: a21 :: a22 :: a23 :: a24 :: a25 :: a26 :: a27 :: a28 :: a29 :: a30 :: a31 :: a32 :: a33 :: a34 :: a35 :: some d :: ls) h = .ok d h := rfl
theorem x_loc37 {a0 a1 a2 a3 a4 a5 a6 a7 a8 a9 a10 a11 a12 a13 a14 a15 a16 a17 a18 a19 a20 a21 a22 a23 a24 a25 a26 a27 a28 a29 a30 a31 a32 a33 a34 a35 a36 : Option D} {d : D} : evE C gl (.loc 37) (a0 :: a1 :: a2 :: a3 :: a4 :: a5 :: a6 :: a7 :: a8 :: a9 :: a10 :: a11 :: a12 :: a13 :: a14 :: a15 :: a16 :: a17 :: a18 :: a19 :: a20 :: a21 :: a22 :: a23 :: a24 :: a25 :: a26 :: a27 :: a28 :: a29 :: a30 :: a31 :: a32 :: a33 :: a34 :: a35 :: a36 :: some d :: ls) h = .ok d h := rfl
theorem x_loc38 {a0 a1 a2 a3 a4 a5 a6 a7 a8 a9 a10 a11 a12 a13 a14 a15 a16 a17 a18 a19 a20 a21 a22 a23 a24 a25 a26 a27 a28 a29 a30 a31 a32 a33 a34 a35 a36 a37 : Option D} {d : D} : evE C gl (.loc 38) (a0 :: a1 :: a2 :: a3 :: a4 :: a5 :: a6 :: a7 :: a8 :: a9 :: a10 :: a11 :: a12 :: a13 :: a14 :: a15 :: a16 :: a17 :: a18 :: a19 :: a20 :: a21 :: a22 :: a23 :: a24 :: a25 :: a26 :: a27 :: a28 :: a29 :: a30 :: a31 :: a32 :: a33 :: a34 :: a35 :: a36 :: a37 :: some d :: ls) h = .ok d h := rfl
theorem x_loc39 {a0 a1 a2 a3 a4 a5 a6 a7 a8 a9 a10 a11 a12 a13 a14 a15 a16 a17 a18 a19 a20 a21 a22 a23 a24 a25 a26 a27 a28 a29 a30 a31 a32 a33 a34 a35 a36 a37 a38 : Option D} {d : D} : evE C gl (.loc 39) (a0 :: a1 :: a2 :: a3 :: a4 :: a5 :: a6 :: a7 :: a8 :: a9 :: a10 :: a11 :: a12 :: a13 :: a14 :: a15 :: a16 :: a17 :: a18 :: a19 :: a20 :: a21 :: a22 :: a23 :: a24 :: a25 :: a26 :: a27 :: a28 :: a29 :: a30 :: a31 :: a32 :: a33 :: a34 :: a35 :: a36 :: a37 :: a38 :: some d :: ls) h = .ok d h := rfl
theorem x_loc40 {a0 a1 a2 a3 a4 a5 a6 a7 a8 a9 a10 a11 a12 a13 a14 a15 a16 a17 a18 a19 a20 a21 a22 a23 a24 a25 a26 a27 a28 a29 a30 a31 a32 a33 a34 a35 a36 a37 a38 a39 : Option D} {d : D} : evE C gl (.loc 40) (a0 :: a1 :: a2 :: a3 :: a4 :: a5 :: a6 :: a7 :: a8 :: a9 :: a10 :: a11 :: a12 :: a13 :: a14 :: a15 :: a16 :: a17 :: a18 :: a19 :: a20 :: a21 :: a22 :: a23 :: a24 :: a25 :: a26 :: a27 :: a28 :: a29 :: a30 :: a31 :: a32 :: a33 :: a34 :: a35 :: a36 :: a37 :: a38 :: a39 :: some d :: ls) h = .ok d h := rfl
theorem x_loc41 {a0 a1 a2 a3 a4 a5 a6 a7 a8 a9 a10 a11 a12 a13 a14 a15 a16 a17 a18 a19 a20 a21 a22 a23 a24 a25 a26 a27 a28 a29 a30 a31 a32 a33 a34 a35 a36 a37 a38 a39 a40 : Option D} {d : D} : evE C gl (.loc 41) (a0 :: a1 :: a2 :: a3 :: a4 :: a5 :: a6 :: a7 :: a8 :: a9 :: a10 :: a11 :: a12 :: a13 :: a14 :: a15 :: a16 :: a17 :: a18 :: a19 :: a20 :: a21 :: a22 :: a23 :: a24 :: a25 :: a26 :: a27 :: a28 :: a29 :: a30 :: a31 :: a32 :: a33 :: a34 :: a35 :: a36 :: a37 :: a38 :: a39 :: a40 :: some d :: ls) h = .ok d h := rfl
theorem x_loc42 {a0 a1 a2 a3 a4 a5 a6 a7 a8 a9 a10 a11 a12 a13 a14 a15 a16 a17 a18 a19 a20 a21 a22 a23 a24 a25 a26 a27 a28 a29 a30 a31 a32 a33 a34 a35 a36 a37 a38 a39 a40 a41 : Option D} {d : D} : evE C gl (.loc 42) (a0 :: a1 :: a2 :: a3 :: a4 :: a5 :: a6 :: a7 :: a8 :: a9 :: a10 :: a11 :: a12 :: a13 :: a14 :: a15 :: a16 :: a17 :: a18 :: a19 :: a20 :: a21 :: a22 :: a23 :: a24 :: a25 :: a26 :: a27 :: a28 :: a29 :: a30 :: a31 :: a32 :: a33 :: a34 :: a35 :: a36 :: a37 :: a38 :: a39 :: a40 :: a41 :: some d :: ls) h = .ok d h := rfl
theorem x_loc43 {a0 a1 a2 a3 a4 a5 a6 a7 a8 a9 a10 a11 a12 a13 a14 a15 a16 a17 a18 a19 a20 a21 a22 a23 a24 a25 a26 a27 a28 a29 a30 a31 a32 a33 a34 a35 a36 a37 a38 a39 a40 a41 a42 : Option D} {d : D} : evE C gl (.loc 43) (a0 :: a1 :: a2 :: a3 :: a4 :: a5 :: a6 :: a7 :: a8 :: a9 :: a10 :: a11 :: a12 :: a13 :: a14 :: a15 :: a16 :: a17 :: a18 :: a19 :: a20 :: a21 :: a22 :: a23 :: a24 :: a25 :: a26 :: a27 :: a28 :: a29 :: a30 :: a31 :: a32 :: a33 :: a34 :: a35 :: a36 :: a37 :: a38 :: a39 :: a40 :: a41 :: a42 :: some d :: ls) h = .ok d h := rfl
theorem x_con {d : D} : evE C gl (.con d) ls h = .ok d h := rfl
theorem x_fnv {f : Nat} : evE C gl (.fnv f) ls h = .ok (.fn f) h := rfl
theorem x_glo {g : Nat} {d : D} (e : gl g = some d) : evE C gl (.glo g) ls h = .ok d h := by
  show liftO (gl g) h = _
  rw [e]
  rfl
theorem x_nil : evA C gl .nil ls h = .ok [] h := rfl
theorem x_cons {a r : E} : evA C gl (.cons a r) ls h = (evE C gl a ls h).an (fun x h => (evA C gl r ls h).an (fun l h => .ok (x :: l) h) ⟨⟩) ⟨⟩ := by
  show M.bind (evE C gl a ls) _ h = _
  exact bx fun x h => bx fun l h => rfl
theorem x_tup {a : E} : evE C gl (.tup a) ls h = (evA C gl a ls h).an (fun l h => chkL l (.tup l) h) ⟨⟩ := by
  show M.bind (evA C gl a ls) _ h = _
  refine bx fun l h => ?_
  show (if decide (l.length ≤ sizeL) then (pure _ : M D) else stuck) h = _
  unfold chkL
  split <;> rfl
theorem x_lst {a : E} : evE C gl (.lst a) ls h = (evA C gl a ls h).an (fun l h => chkL l (.lst l) h) ⟨⟩ := by
  show M.bind (evA C gl a ls) _ h = _
  refine bx fun l h => ?_
  show (if decide (l.length ≤ sizeL) then (pure _ : M D) else stuck) h = _
  unfold chkL
  split <;> rfl
def mkR (d : D) (h : Hh) : Res D := match d with
  | .lst l => .ok (.ref h.objs.length) ⟨h.objs ++ [.lst l], h.los⟩
  | _ => .stk
theorem mkR_lst {l : List D} {h : Hh} : mkR (.lst l) h = .ok (.ref h.objs.length) ⟨h.objs ++ [.lst l], h.los⟩ := rfl
theorem x_mk {a : E} : evE C gl (.mk a) ls h = (evE C gl a ls h).an (fun d h => mkR d h) ⟨⟩ := by
  show M.bind (evE C gl a ls) _ h = _
  exact bx fun d h => by cases d <;> rfl
theorem x_bin {o : BOp} {a b : E} : evE C gl (.bin o a b) ls h = (evE C gl a ls h).an (fun x h => (evE C gl b ls h).an (fun y h => ofO (binV o (deref h x) (deref h y)) h) ⟨⟩) ⟨⟩ := by
  show M.bind (evE C gl a ls) _ h = _
  exact bx fun x h => bx fun y h => binM_r
def cmR (m : Option Bool) (h : Hh) : Res D := match m with
  | some k => .ok (.bl k) h
  | none => .stk
theorem cmR_some {k : Bool} {h : Hh} : cmR (some k) h = .ok (.bl k) h := rfl
theorem x_cmp {o : COp} {a b : E} : evE C gl (.cmp o a b) ls h = (evE C gl a ls h).an (fun x h => (evE C gl b ls h).an (fun y h => cmR (cmpV o (deref h x) (deref h y)) h) ⟨⟩) ⟨⟩ := by
  show M.bind (evE C gl a ls) _ h = _
  exact bx fun x h => bx fun y h => rfl
def isT (d : D) (x y : Res D) (_ : Tg (x, y)) : Res D := match d with
  | .bl true => x
  | _ => y
theorem isT_t {b : Bool} {x y : Res D} {g : Tg (x, y)} : isT (.bl b) x y g = cnd b x y g := by cases b <;> rfl
theorem x_chn {o o' : COp} {a b c : E} : evE C gl (.chn o o' a b c) ls h = (evE C gl a ls h).an (fun x h => (evE C gl b ls h).an (fun y h => (cmR (cmpV o (deref h x) (deref h y)) h).an (fun k h => isT k ((evE C gl c ls h).an (fun z h => cmR (cmpV o' (deref h y) (deref h z)) h) ⟨⟩) (.ok (.bl false) h) ⟨⟩) ⟨⟩) ⟨⟩) ⟨⟩ := by
  show M.bind (evE C gl a ls) _ h = _
  refine bx fun x h => bx fun y h => bx fun k h => ?_
  unfold isT
  split
  · exact bx fun z h => rfl
  · first
      | rfl
      | (split
         · exact absurd rfl (by assumption)
         · rfl)
def ngR (d : D) (h : Hh) : Res D := match d with
  | .int i => .ok (.int (-i)) h
  | _ => .stk
theorem ngR_int {i : Int} {h : Hh} : ngR (.int i) h = .ok (.int (-i)) h := rfl
theorem x_neg {a : E} : evE C gl (.neg a) ls h = (evE C gl a ls h).an (fun x h => ngR x h) ⟨⟩ := by
  show M.bind (evE C gl a ls) _ h = _
  exact bx fun d h => by cases d <;> rfl
theorem x_not {a : E} : evE C gl (.not a) ls h = (evE C gl a ls h).an (fun x h => (ofO (truthV (deref h x)) h).an (fun k h => .ok (.bl (!k)) h) ⟨⟩) ⟨⟩ := by
  show M.bind (evE C gl a ls) _ h = _
  exact bx fun x h => bq truthM_r fun k h => rfl
theorem x_and {a b : E} : evE C gl (.and a b) ls h = (evE C gl a ls h).an (fun x h => (ofO (truthV (deref h x)) h).an (fun k h => cnd k (evE C gl b ls h) (.ok x h) ⟨⟩) ⟨⟩) ⟨⟩ := by
  show M.bind (evE C gl a ls) _ h = _
  exact bx fun x h => bq truthM_r fun k h => by cases k <;> rfl
theorem x_or {a b : E} : evE C gl (.or a b) ls h = (evE C gl a ls h).an (fun x h => (ofO (truthV (deref h x)) h).an (fun k h => cnd k (.ok x h) (evE C gl b ls h) ⟨⟩) ⟨⟩) ⟨⟩ := by
  show M.bind (evE C gl a ls) _ h = _
  exact bx fun x h => bq truthM_r fun k h => by cases k <;> rfl
theorem x_ite {c a b : E} : evE C gl (.ite c a b) ls h = (evE C gl c ls h).an (fun x h => (ofO (truthV (deref h x)) h).an (fun k h => cnd k (evE C gl a ls h) (evE C gl b ls h) ⟨⟩) ⟨⟩) ⟨⟩ := by
  show M.bind (evE C gl c ls) _ h = _
  exact bx fun x h => bq truthM_r fun k h => by cases k <;> rfl
theorem x_idx {a b : E} : evE C gl (.idx a b) ls h = (evE C gl a ls h).an (fun x h => (evE C gl b ls h).an (fun y h => ofO (idxV (deref h x) y) h) ⟨⟩) ⟨⟩ := by
  show M.bind (evE C gl a ls) _ h = _
  exact bx fun x h => bx fun y h => idxM_r
theorem x_pnil : evP C gl .nil ls h = .ok none h := rfl
def inR (d : D) (h : Hh) : Res (Option Int) := match d with
  | .int i => .ok (some i) h
  | _ => .stk
theorem inR_int {i : Int} {h : Hh} : inR (.int i) h = .ok (some i) h := rfl
theorem x_pcons {a : E} : evP C gl (.cons a .nil) ls h = (evE C gl a ls h).an (fun x h => inR x h) ⟨⟩ := by
  show M.bind (evE C gl a ls) _ h = _
  exact bx fun d h => by cases d <;> rfl
theorem x_slc {a lo hi : E} : evE C gl (.slc a lo hi) ls h = (evE C gl a ls h).an (fun x h => (evP C gl lo ls h).an (fun i h => (evP C gl hi ls h).an (fun j h => ofO (slcV (deref h x) i j) h) ⟨⟩) ⟨⟩) ⟨⟩ := by
  show M.bind (evE C gl a ls) _ h = _
  exact bx fun x h => bx fun i h => bx fun j h => slcM_r
theorem x_call {f : Nat} {a : E} : evE C gl (.call f a) ls h = (evA C gl a ls h).an (fun l h => C f l h) ⟨⟩ := by
  show M.bind (evA C gl a ls) _ h = _
  exact bx fun l h => rfl
theorem x_bif {b : Bif} {a : E} : evE C gl (.bif b a) ls h = (evA C gl a ls h).an (fun l h => ofO (bifV b (l.map (deref h))) h) ⟨⟩ := by
  show M.bind (evA C gl a ls) _ h = _
  exact bx fun l h => bifM_r
theorem x_met {m : Met} {a b : E} : evE C gl (.met m a b) ls h = (evE C gl a ls h).an (fun x h => (chkM m x h).an (fun _ h => (evA C gl b ls h).an (fun l h => metM m x l h) ⟨⟩) ⟨⟩) ⟨⟩ := by
  show M.bind (evE C gl a ls) _ h = _
  exact bx fun x h => bx fun _ h => bx fun l h => rfl
theorem x_isi {a : E} {t : List Ty} : evE C gl (.isi a t) ls h = (evE C gl a ls h).an (fun x h => isiM x t h) ⟨⟩ := by
  show M.bind (evE C gl a ls) _ h = _
  exact bx fun x h => rfl
theorem x_rem {a b : E} : evE C gl (.rem a b) ls h = (evE C gl a ls h).an (fun x h => (chkM .append x h).an (fun _ h => (evA C gl b ls h).an (fun l h => remM x l h) ⟨⟩) ⟨⟩) ⟨⟩ := by
  show M.bind (evE C gl a ls) _ h = _
  exact bx fun x h => bx fun _ h => bx fun l h => rfl
theorem x_six {a b : E} : evE C gl (.six a b) ls h = (evE C gl a ls h).an (fun x h => (strM x h).an (fun _ h => (evA C gl b ls h).an (fun l h => sixM x l h) ⟨⟩) ⟨⟩) ⟨⟩ := by
  show M.bind (evE C gl a ls) _ h = _
  exact bx fun x h => bx fun _ h => bx fun l h => rfl
theorem x_joi {a b : E} : evE C gl (.joi a b) ls h = (evE C gl a ls h).an (fun x h => (strM x h).an (fun _ h => (evA C gl b ls h).an (fun l h => joinM x l h) ⟨⟩) ⟨⟩) ⟨⟩ := by
  show M.bind (evE C gl a ls) _ h = _
  exact bx fun x h => bx fun _ h => bx fun l h => rfl
theorem strM_s {z : List Nat} : strM (.str z) h = .ok () h := rfl
theorem sixM_s {z : List Nat} {c : Nat} : sixM (.str z) [.str [c]] h = ofO ((indexS c z).map fun (k : Nat) => D.int k) h := by
  show (match (indexS c z).map fun (k : Nat) => D.int k with | some d => Res.ok d h | none => Res.stk) = _
  unfold ofO
  cases (indexS c z).map fun (k : Nat) => D.int k <;> rfl
theorem joinM_s {z : List Nat} {x : D} : joinM (.str z) [x] h = ofO (joinV z (deref h x)) h := by
  show (match joinV z (deref h x) with | some d => Res.ok d h | none => Res.stk) = _
  unfold ofO
  cases joinV z (deref h x) <;> rfl
theorem joinV_l {z : List Nat} {l : List D} : joinV z (.lst l) = (joinC z l).map .str := rfl
theorem joinV_t {z : List Nat} {l : List D} : joinV z (.tup l) = (joinC z l).map .str := rfl
theorem mpO_s {α β : Type} {f : α → β} {a : α} : (some a).map f = some (f a) := rfl
theorem clv_eq {i n f : Nat} {a : E} (hl : ls[i]? = some (some (.fn f))) : evE C gl (.clv i n a) ls h = cnd (decide (f < n)) ((evA C gl a ls h).an (fun l h => C f l h) ⟨⟩) .stk ⟨⟩ := by
  show M.bind (fnM n ls[i]?) _ h = _
  rw [hl]
  by_cases c : f < n
  · have e : fnM n (some (some (.fn f))) h = .ok f h := by
      unfold fnM
      simp only [c, decide_true, if_true]
    rw [decide_eq_true c]
    refine (bind_ok e).trans ?_
    show M.bind (evA C gl a ls) _ h = _
    exact bx fun l h => rfl
  · have e : fnM n (some (some (.fn f))) h = .stk := by
      unfold fnM
      simp only [c, decide_false, Bool.false_eq_true, if_false]
    rw [decide_eq_false c]
    exact bind_stk e
/-- a comprehension's turn -/
def ctn (C : Nat → List D → M D) (gl : Nat → Option D) (elt tg ifs : E) (own : List Nat) (ls : Ls) (d : D) : M (Option D) := match bindT tg d (wipeL ls own) with
      | some ls2 => do
        let k ← evC C gl ifs ls2
        match k with
        | true => do
          let x ← evE C gl elt ls2
          pure (some x)
        | false => pure none
      | none => stuck
def cmpr (C : Nat → List D → M D) (gl : Nat → Option D) (elt tg ifs : E) (own : List Nat) (ls : Ls) (l : List D) (h : Hh) : Res (List D) := compL (ctn C gl elt tg ifs own ls) 0 l h
theorem x_comp {elt tg it ifs : E} {own : List Nat} : evE C gl (.comp elt tg it ifs own) ls h = (evI C gl it ls h).an (fun l h => (cmpr C gl elt tg ifs own ls l h).an (fun r h => .ok (.lst r) h) ⟨⟩) ⟨⟩ := by
  show M.bind (evI C gl it ls) _ h = _
  exact bx fun l h => bx fun r h => rfl
def lsT (o : Option Ls) (k : Ls → Res α) (_ : Tg k) : Res α := match o with
  | some l => k l
  | none => .stk
theorem lsT_some {l : Ls} {k : Ls → Res α} {g : Tg k} : lsT (some l) k g = k l := rfl
theorem ctn_eq {elt tg ifs : E} {own : List Nat} {d : D} : ctn C gl elt tg ifs own ls d h = lsT (bindT tg d (wipeL ls own)) (fun ls2 => (evC C gl ifs ls2 h).an (fun k h => cnd k ((evE C gl elt ls2 h).an (fun x h => .ok (some x) h) ⟨⟩) (.ok none h) ⟨⟩) ⟨⟩) ⟨⟩ := by
  unfold ctn lsT
  cases bindT tg d (wipeL ls own) with
  | none => rfl
  | some ls2 =>
    show M.bind (evC C gl ifs ls2) _ h = _
    refine bx fun k h => ?_
    cases k with
    | false => rfl
    | true => exact bx fun x h => rfl
theorem x_cnil : evC C gl .nil ls h = .ok true h := rfl
theorem x_ccons {a : E} : evC C gl (.cons a .nil) ls h = (evE C gl a ls h).an (fun x h => ofO (truthV (deref h x)) h) ⟨⟩ := by
  show M.bind (evE C gl a ls) _ h = _
  exact bx fun x h => truthM_r
def lrnR (d : D) (h : Hh) : Res D := match d with
  | .int i => if small62 i && decide (i.toNat ≤ sizeL) then .ok (.lst (rangeL 0 i.toNat)) h else .stk
  | _ => .stk
theorem lrn_int {i : Int} {h : Hh} (e : small62 i = true) (e2 : i.toNat ≤ sizeL) : lrnR (.int i) h = .ok (.lst (rangeL 0 i.toNat)) h := by
  show (if small62 i && decide (i.toNat ≤ sizeL) then _ else _) = _
  rw [e, decide_eq_true e2]
  rfl
theorem x_lrn {a : E} : evE C gl (.lrn a) ls h = (evE C gl a ls h).an (fun x h => lrnR x h) ⟨⟩ := by
  show M.bind (evE C gl a ls) _ h = _
  exact bx fun d h => by
    cases d with
    | int i =>
      show (if small62 i && decide (i.toNat ≤ sizeL) then (pure (.lst (rangeL 0 i.toNat)) : M D) else stuck) h = (if small62 i && decide (i.toNat ≤ sizeL) then _ else _)
      split <;> rfl
    | _ => rfl
theorem wipe_nil : wipeL ls [] = ls := rfl
def rgR (d : D) (h : Hh) : Res (List D) := match d with
  | .int i => if small62 i then .ok (rangeL 0 i.toNat) h else .stk
  | _ => .stk
theorem rgR_int {i : Int} {h : Hh} (e : small62 i = true) : rgR (.int i) h = .ok (rangeL 0 i.toNat) h := by
  show (if small62 i then _ else _) = _
  rw [if_pos e]
theorem x_rng1 {a : E} : evI C gl (.rng1 a) ls h = (evE C gl a ls h).an (fun x h => rgR x h) ⟨⟩ := by
  show M.bind (evE C gl a ls) _ h = _
  exact bx fun d h => by
    cases d with
    | int i =>
      show (if small62 i then (pure (rangeL 0 i.toNat) : M (List D)) else stuck) h = (if small62 i then _ else _)
      split <;> rfl
    | _ => rfl
def rg2R (x y : D) (h : Hh) : Res (List D) := match x, y with
  | .int i, .int j => if small62 i && small62 j then .ok (rangeL i (j - i).toNat) h else .stk
  | _, _ => .stk
theorem rg2R_int {i j : Int} {h : Hh} (e : small62 i = true) (f : small62 j = true) : rg2R (.int i) (.int j) h = .ok (rangeL i (j - i).toNat) h := by
  show (if small62 i && small62 j then _ else _) = _
  rw [e, f]
  rfl
theorem x_rng2 {a b : E} : evI C gl (.rng2 a b) ls h = (evE C gl a ls h).an (fun x h => (evE C gl b ls h).an (fun y h => rg2R x y h) ⟨⟩) ⟨⟩ := by
  show M.bind (evE C gl a ls) _ h = _
  refine bx fun d h => bx fun e h => ?_
  cases d with
  | int i =>
    cases e with
    | int j =>
      show (if small62 i && small62 j then (pure (rangeL i (j - i).toNat) : M (List D)) else stuck) h = (if small62 i && small62 j then _ else _)
      split <;> rfl
    | _ => rfl
  | _ => rfl
def rg3R (d e f : D) (h : Hh) : Res (List D) := match d, e, f with
  | .int i, .int j, .int k => if decide (k ≠ 0) && decide (k.natAbs < 1073741824) && (small62 i && small62 j) && (Builtin.Range.small i j k && decide (0 ≤ Builtin.Range.rangeSize i j k)) then .ok (rangeC i k (Builtin.Range.rangeSize i j k).toNat) h else .stk
  | _, _, _ => .stk
theorem rg3R_down {i j : Int} {h : Hh} (e : small62 i = true) (f : small62 j = true) : rg3R (.int i) (.int j) (.int (-1)) h = .ok (rangeC i (-1) (i - j).toNat) h := by
  obtain ⟨a1, a2⟩ := Bool.and_eq_true_iff.mp (show (decide (-(2 ^ 62) ≤ i) && decide (i < 2 ^ 62)) = true from e)
  obtain ⟨b1, b2⟩ := Bool.and_eq_true_iff.mp (show (decide (-(2 ^ 62) ≤ j) && decide (j < 2 ^ 62)) = true from f)
  have z1 := PySem.W.small_down (of_decide_eq_true a1) (of_decide_eq_true a2) (of_decide_eq_true b1) (of_decide_eq_true b2)
  have z2 := PySem.W.rangeSize_downNat i j
  show (if decide ((-1 : Int) ≠ 0) && decide ((-1 : Int).natAbs < 1073741824) && (small62 i && small62 j) && (Builtin.Range.small i j (-1) && decide (0 ≤ Builtin.Range.rangeSize i j (-1))) then _ else _) = _
  rw [e, f, z1, z2, decide_eq_true (Int.natCast_nonneg _)]
  rfl
theorem x_rng3 {a b c : E} : evI C gl (.rng3 a b c) ls h = (evE C gl a ls h).an (fun x h => (evE C gl b ls h).an (fun y h => (evE C gl c ls h).an (fun z h => rg3R x y z h) ⟨⟩) ⟨⟩) ⟨⟩ := by
  show M.bind (evE C gl a ls) _ h = _
  refine bx fun d h => bx fun e h => bx fun f h => ?_
  cases d with
  | int i =>
    cases e with
    | int j =>
      cases f with
      | int k =>
        show (if decide (k ≠ 0) && decide (k.natAbs < 1073741824) && (small62 i && small62 j) && (Builtin.Range.small i j k && decide (0 ≤ Builtin.Range.rangeSize i j k)) then (pure (rangeC i k (Builtin.Range.rangeSize i j k).toNat) : M (List D)) else stuck) h = (if _ then _ else _)
        split <;> rfl
      | _ => rfl
    | _ => cases f <;> rfl
  | _ => cases e <;> cases f <;> rfl
def reR (d : D) (h : Hh) : Res (List D) := match d with
  | .lst l => .ok l.reverse h
  | .tup l => .ok l.reverse h
  | _ => .stk
theorem reR_l {l : List D} {h : Hh} : reR (.lst l) h = .ok l.reverse h := rfl
theorem reR_t {l : List D} {h : Hh} : reR (.tup l) h = .ok l.reverse h := rfl
theorem x_rev {a : E} : evI C gl (.rev a) ls h = (evE C gl a ls h).an (fun x h => reR x h) ⟨⟩ := by
  show M.bind (evE C gl a ls) _ h = _
  exact bx fun d h => by cases d <;> rfl
def enR (d : D) (h : Hh) : Res (List D) := match d with
  | .lst l => .ok (enumL 0 l) h
  | .tup l => .ok (enumL 0 l) h
  | _ => .stk
theorem enR_l {l : List D} {h : Hh} : enR (.lst l) h = .ok (enumL 0 l) h := rfl
theorem enR_t {l : List D} {h : Hh} : enR (.tup l) h = .ok (enumL 0 l) h := rfl
theorem x_enm {a : E} : evI C gl (.enm a) ls h = (evE C gl a ls h).an (fun x h => enR x h) ⟨⟩ := by
  show M.bind (evE C gl a ls) _ h = _
  exact bx fun d h => by cases d <;> rfl
def zpR (d e : D) (h : Hh) : Res (List D) := match d, e with
  | .lst l, .lst m => .ok ((l.zip m).map fun p => .tup [p.1, p.2]) h
  | .tup l, .tup m => .ok ((l.zip m).map fun p => .tup [p.1, p.2]) h
  | _, _ => .stk
theorem zpR_l {l m : List D} {h : Hh} : zpR (.lst l) (.lst m) h = .ok ((l.zip m).map fun p => .tup [p.1, p.2]) h := rfl
theorem zpR_t {l m : List D} {h : Hh} : zpR (.tup l) (.tup m) h = .ok ((l.zip m).map fun p => .tup [p.1, p.2]) h := rfl
theorem x_zip {a b : E} : evI C gl (.zip a b) ls h = (evE C gl a ls h).an (fun x h => (evE C gl b ls h).an (fun y h => zpR x y h) ⟨⟩) ⟨⟩ := by
  show M.bind (evE C gl a ls) _ h = _
  exact bx fun d h => bx fun e h => by cases d <;> cases e <;> rfl
def sqR (d : D) (h : Hh) : Res (List D) := match d with
  | .lst l => .ok l h
  | .tup l => .ok l h
  | .str x => .ok (x.map fun c => .str [c]) h
  | _ => .stk
theorem sqR_lst {l : List D} {h : Hh} : sqR (.lst l) h = .ok l h := rfl
theorem sqR_tup {l : List D} {h : Hh} : sqR (.tup l) h = .ok l h := rfl
theorem sqR_str {x : List Nat} {h : Hh} : sqR (.str x) h = .ok (x.map fun c => .str [c]) h := rfl
theorem x_sq {a : E} : evI C gl (.sq a) ls h = (evE C gl a ls h).an (fun x h => sqR x h) ⟨⟩ := by
  show M.bind (evE C gl a ls) _ h = _
  exact bx fun d h => by cases d <;> rfl
end
/-! operations -/
section
variable {h : Hh} {i j : Int} {l m : List D} {b : Bool} {x y : List Nat}
theorem der_non : deref h .non = .non := rfl
theorem der_bl : deref h (.bl b) = .bl b := rfl
theorem der_int : deref h (.int i) = .int i := rfl
theorem der_str : deref h (.str x) = .str x := rfl
theorem der_tup : deref h (.tup l) = .tup l := rfl
theorem der_lst : deref h (.lst l) = .lst l := rfl
theorem der_0 {r : List O} {los : List Nat} : deref ⟨.lst l :: r, los⟩ (.ref 0) = .lst l := rfl
theorem der_ref {n : Nat} (e : h.objs[n]? = some (.lst l)) : deref h (.ref n) = .lst l := by
  show (match h.objs[n]? with | some (.lst l) => D.lst l | _ => D.ref n) = _
  rw [e]
theorem v_add : binV .add (.int i) (.int j) = some (.int (i + j)) := rfl
theorem v_bxor : binV .bxor (.int i) (.int j) = some (.int (Builtin.bitXor i j)) := rfl
theorem v_band : binV .band (.int i) (.int j) = some (.int (Builtin.bitAnd i j)) := rfl
theorem v_sub : binV .sub (.int i) (.int j) = some (.int (i - j)) := rfl
theorem v_mul (e : (smallI i || smallI j || decide (bits i + bits j ≤ 900000)) = true) : binV .mul (.int i) (.int j) = some (.int (i * j)) := by
  show ((if smallI i || smallI j || decide (bits i + bits j ≤ 900000) then some (i * j) else none).map D.int) = _
  rw [e]
  rfl
theorem smallI_of (h1 : -18446744073709551616 < i) (h2 : i < 18446744073709551616) : smallI i = true := by
  unfold smallI
  rw [Bool.and_eq_true]
  exact ⟨decide_eq_true h1, decide_eq_true h2⟩
theorem v_mulL (h1 : -18446744073709551616 < i) (h2 : i < 18446744073709551616) : binV .mul (.int i) (.int j) = some (.int (i * j)) := v_mul (by rw [smallI_of h1 h2]; rfl)
theorem v_mulR (h1 : -18446744073709551616 < j) (h2 : j < 18446744073709551616) : binV .mul (.int i) (.int j) = some (.int (i * j)) := v_mul (by rw [smallI_of h1 h2, Bool.or_true]; rfl)
theorem v_fdiv (h1 : 0 < j) (h2 : decide (bits j ≤ 8000) = true) : binV .fdiv (.int i) (.int j) = some (.int (i / j)) := by
  show ((if decide (0 < j) && decide (bits j ≤ 8000) then some (i / j) else none).map D.int) = _
  rw [h2, decide_eq_true h1]
  rfl
theorem v_mod (h1 : 0 < j) : binV .mod (.int i) (.int j) = some (.int (i % j)) := by
  show ((if decide (0 < j) then some (i % j) else none).map D.int) = _
  rw [decide_eq_true h1]
  rfl
theorem v_shr (h1 : 0 ≤ j) : binV .shr (.int i) (.int j) = some (.int (i / 2 ^ j.toNat)) := by
  show ((if decide (0 ≤ j) then some (i / 2 ^ j.toNat) else none).map D.int) = _
  rw [decide_eq_true h1]
  rfl
theorem v_shl (h1 : 0 ≤ j) (h2 : j ≤ 1000000) (h3 : i.natAbs < 2 ^ 64) : binV .shl (.int i) (.int j) = some (.int (i * 2 ^ j.toNat)) := by
  show ((if decide (0 ≤ j) && decide (j ≤ 1000000) && decide (i.natAbs < 2 ^ 64) then some (i * 2 ^ j.toNat) else none).map D.int) = _
  rw [decide_eq_true h1, decide_eq_true h2, decide_eq_true h3]
  rfl
theorem v_pow (h1 : 0 ≤ j) (h2 : j ≤ 1000000) (h3 : i.natAbs < 2 ^ 64) : binV .pow (.int i) (.int j) = some (.int (i ^ j.toNat)) := by
  show ((if decide (0 ≤ j) && decide (j ≤ 1000000) && decide (i.natAbs < 2 ^ 64) then some (i ^ j.toNat) else none).map D.int) = _
  rw [decide_eq_true h1, decide_eq_true h2, decide_eq_true h3]
  rfl
theorem v_addT (e : l.length + m.length ≤ sizeL) : binV .add (.tup l) (.tup m) = some (.tup (l ++ m)) := by
  show (if decide (l.length + m.length ≤ sizeL) then some (D.tup (l ++ m)) else none) = _
  rw [if_pos (decide_eq_true e)]
theorem v_addL (e : l.length + m.length ≤ sizeL) : binV .add (.lst l) (.lst m) = some (.lst (l ++ m)) := by
  show (if decide (l.length + m.length ≤ sizeL) then some (D.lst (l ++ m)) else none) = _
  rw [if_pos (decide_eq_true e)]
theorem v_addS (e : x.length + y.length ≤ sizeL) : binV .add (.str x) (.str y) = some (.str (x ++ y)) := by
  show (if decide (x.length + y.length ≤ sizeL) then some (D.str (x ++ y)) else none) = _
  rw [if_pos (decide_eq_true e)]
theorem c_eq : cmpV .eq (.int i) (.int j) = some (decide (i = j)) := rfl
theorem c_ne : cmpV .ne (.int i) (.int j) = some (!decide (i = j)) := rfl
theorem c_lt : cmpV .lt (.int i) (.int j) = some (decide (i < j)) := rfl
theorem c_le : cmpV .le (.int i) (.int j) = some (decide (i ≤ j)) := rfl
theorem c_gt : cmpV .gt (.int i) (.int j) = some (decide (j < i)) := rfl
theorem c_ge : cmpV .ge (.int i) (.int j) = some (decide (j ≤ i)) := rfl
theorem c_eqS : cmpV .eq (.str x) (.str y) = some (decide (x = y)) := rfl
theorem c_neS : cmpV .ne (.str x) (.str y) = some (!decide (x = y)) := rfl
theorem c_eqB {c : Bool} : cmpV .eq (.bl b) (.bl c) = some (b == c) := rfl
theorem c_neB {c : Bool} : cmpV .ne (.bl b) (.bl c) = some (!(b == c)) := rfl
theorem c_eqD {a b : D} (h1 : datD a = true) (h2 : datD b = true) (e : eqV a b = if datD a && datD b then some (eqD a b) else none) : cmpV .eq a b = some (eqD a b) := by
  show eqV a b = _
  rw [e, h1, h2]
  rfl
theorem c_eqL (h1 : datD (.lst l) = true) (h2 : datD (.lst m) = true) : cmpV .eq (.lst l) (.lst m) = some (eqL l m) := c_eqD h1 h2 rfl
theorem c_eqT (h1 : datD (.tup l) = true) (h2 : datD (.tup m) = true) : cmpV .eq (.tup l) (.tup m) = some (eqL l m) := c_eqD h1 h2 rfl
theorem eqL_nn : eqL [] [] = true := rfl
theorem eqL_cn {d : D} : eqL (d :: l) [] = false := rfl
theorem c_isN {d : D} : cmpV .is d .non = some (match d with | .non => true | _ => false) := rfl
theorem c_isnN {d : D} : cmpV .isn d .non = some (match d with | .non => false | _ => true) := rfl
theorem tr_bl : truthV (.bl b) = some b := rfl
theorem tr_int : truthV (.int i) = some (i != 0) := rfl
theorem tr_tup : truthV (.tup l) = some (!l.isEmpty) := rfl
theorem tr_lst : truthV (.lst l) = some (!l.isEmpty) := rfl
theorem tr_non : truthV .non = some false := rfl
theorem ix_tup : idxV (.tup l) (.int i) = atIx l i := rfl
theorem ix_lst : idxV (.lst l) (.int i) = atIx l i := rfl
theorem sl_tup {lo hi : Option Int} : slcV (.tup l) lo hi = some (.tup (cut l lo hi)) := rfl
theorem sl_lst {lo hi : Option Int} : slcV (.lst l) lo hi = some (.lst (cut l lo hi)) := rfl
theorem at_nat {α : Type} {l : List α} {i : Int} {k : Nat} (e : i = (k : Int)) (hk : k < l.length) : atIx l i = l[k]? := by
  subst e
  unfold atIx ixOf
  rw [if_pos (Int.natCast_nonneg k), if_pos (by omega)]
  rfl
theorem mp_nil {α β : Type} {f : α → β} : ([] : List α).map f = [] := rfl
theorem mp_cons {α β : Type} {f : α → β} {a : α} {r : List α} : (a :: r).map f = f a :: r.map f := rfl
theorem b_lenT : bifV .len [.tup l] = some (.int l.length) := rfl
theorem b_lenL : bifV .len [.lst l] = some (.int l.length) := rfl
theorem b_lenS (e : x.length ≤ sizeL) : bifV .len [.str x] = some (.int x.length) := by
  show (if decide (x.length ≤ sizeL) then some (D.int x.length) else none) = _
  rw [if_pos (decide_eq_true e)]
theorem b_int : bifV .int [.int i] = some (.int i) := rfl
theorem b_intB : bifV .int [.bl b] = some (.int (if b then 1 else 0)) := rfl
theorem b_abs : bifV .abs [.int i] = some (.int (if i < 0 then -i else i)) := rfl
theorem b_max : bifV .max [.int i, .int j] = some (.int (if j > i then j else i)) := rfl
theorem b_min : bifV .min [.int i, .int j] = some (.int (if j < i then j else i)) := rfl
theorem b_tupL : bifV .tuple [.lst l] = some (.tup l) := rfl
theorem b_tupT : bifV .tuple [.tup l] = some (.tup l) := rfl
theorem b_lstL : bifV .list [.lst l] = some (.lst l) := rfl
theorem b_lstS (e : x.length ≤ sizeL) : bifV .list [.str x] = some (.lst (x.map fun c => .str [c])) := by
  show (if decide (x.length ≤ sizeL) then some (D.lst (x.map fun c => D.str [c])) else none) = _
  rw [if_pos (decide_eq_true e)]
theorem b_lstT : bifV .list [.tup l] = some (.lst l) := rfl
theorem is_int {t : List Ty} : isiM (.int i) t h = .ok (.bl (t.any (isTy .int))) h := rfl
theorem is_bl {t : List Ty} : isiM (.bl b) t h = .ok (.bl (t.any (isTy .bool))) h := rfl
theorem is_str {t : List Ty} : isiM (.str x) t h = .ok (.bl (t.any (isTy .str))) h := rfl
theorem is_tup {t : List Ty} : isiM (.tup l) t h = .ok (.bl (t.any (isTy .tuple))) h := rfl
theorem is_lst {t : List Ty} : isiM (.lst l) t h = .ok (.bl (t.any (isTy .list))) h := rfl
theorem is_non {t : List Ty} : isiM .non t h = .ok (.bl false) h := rfl

theorem ty_int_int : [Ty.int].any (isTy .int) = true := rfl
theorem ty_bool_int : [Ty.bool].any (isTy .int) = false := rfl
theorem ty_str_int : [Ty.str].any (isTy .int) = false := rfl
theorem ty_tuple_int : [Ty.tuple].any (isTy .int) = false := rfl
theorem ty_list_int : [Ty.list].any (isTy .int) = false := rfl
theorem ty_dict_int : [Ty.dict].any (isTy .int) = false := rfl
theorem ty_int_bool : [Ty.int].any (isTy .bool) = true := rfl
theorem ty_bool_bool : [Ty.bool].any (isTy .bool) = true := rfl
theorem ty_str_bool : [Ty.str].any (isTy .bool) = false := rfl
theorem ty_tuple_bool : [Ty.tuple].any (isTy .bool) = false := rfl
theorem ty_list_bool : [Ty.list].any (isTy .bool) = false := rfl
theorem ty_dict_bool : [Ty.dict].any (isTy .bool) = false := rfl
theorem ty_int_str : [Ty.int].any (isTy .str) = false := rfl
theorem ty_bool_str : [Ty.bool].any (isTy .str) = false := rfl
theorem ty_str_str : [Ty.str].any (isTy .str) = true := rfl
theorem ty_tuple_str : [Ty.tuple].any (isTy .str) = false := rfl
theorem ty_list_str : [Ty.list].any (isTy .str) = false := rfl
theorem ty_dict_str : [Ty.dict].any (isTy .str) = false := rfl
theorem ty_int_tuple : [Ty.int].any (isTy .tuple) = false := rfl
theorem ty_bool_tuple : [Ty.bool].any (isTy .tuple) = false := rfl
theorem ty_str_tuple : [Ty.str].any (isTy .tuple) = false := rfl
theorem ty_tuple_tuple : [Ty.tuple].any (isTy .tuple) = true := rfl
theorem ty_list_tuple : [Ty.list].any (isTy .tuple) = false := rfl
theorem ty_dict_tuple : [Ty.dict].any (isTy .tuple) = false := rfl
theorem ty_int_list : [Ty.int].any (isTy .list) = false := rfl
theorem ty_bool_list : [Ty.bool].any (isTy .list) = false := rfl
theorem ty_str_list : [Ty.str].any (isTy .list) = false := rfl
theorem ty_tuple_list : [Ty.tuple].any (isTy .list) = false := rfl
theorem ty_list_list : [Ty.list].any (isTy .list) = true := rfl
theorem ty_dict_list : [Ty.dict].any (isTy .list) = false := rfl
theorem ty_int_dict : [Ty.int].any (isTy .dict) = false := rfl
theorem ty_bool_dict : [Ty.bool].any (isTy .dict) = false := rfl
theorem ty_str_dict : [Ty.str].any (isTy .dict) = false := rfl
theorem ty_tuple_dict : [Ty.tuple].any (isTy .dict) = false := rfl
theorem ty_list_dict : [Ty.list].any (isTy .dict) = false := rfl
theorem ty_dict_dict : [Ty.dict].any (isTy .dict) = true := rfl
theorem ty_tl_int : [Ty.tuple, Ty.list].any (isTy .int) = false := rfl
theorem ty_tl_bool : [Ty.tuple, Ty.list].any (isTy .bool) = false := rfl
theorem ty_tl_str : [Ty.tuple, Ty.list].any (isTy .str) = false := rfl
theorem ty_tl_tuple : [Ty.tuple, Ty.list].any (isTy .tuple) = true := rfl
theorem ty_tl_list : [Ty.tuple, Ty.list].any (isTy .list) = true := rfl
theorem ty_tl_dict : [Ty.tuple, Ty.list].any (isTy .dict) = false := rfl
end
/-! statements -/
section
variable {xf : Nat → List Nat} {gl : Nat → Option D} {X : Nat → List D → Option D} {sub : Nat → Nat → Option Bool} {fuel : Nat} {C : Nat → List D → M D} {ls : Ls} {h : Hh}
theorem s_nil : evB xf gl X sub fuel .nil C ls h = .nx ls h := rfl
theorem s_cons {s r : B} : evB xf gl X sub fuel (.cons s r) C ls h = (evB xf gl X sub fuel s C ls h).sq (fun ls h => evB xf gl X sub fuel r C ls h) ⟨⟩ := by
  show seqS (evB xf gl X sub fuel s C ls) _ h = _
  exact sx fun ls h => rfl
/-- a target -/
def bdR (o : Option Ls) (h : Hh) : SRes := match o with
  | some ls => .nx ls h
  | none => .stk
theorem bdR_some : bdR (some ls) h = .nx ls h := rfl
theorem s_asg {t e : E} : evB xf gl X sub fuel (.asg t e) C ls h = (evE C gl e ls h).aS ls (fun d h => bdR (bindT t d ls) h) ⟨⟩ := by
  show onM (evE C gl e ls) ls _ h = _
  exact ox rfl fun d h => rfl
theorem s_par {t a : E} : evB xf gl X sub fuel (.par t a) C ls h = (evA C gl a ls h).aS ls (fun l h => bdR (bindT.bindTs t l ls) h) ⟨⟩ := by
  show onM (evA C gl a ls) ls _ h = _
  exact ox rfl fun d h => rfl
theorem t_tup {t : E} {l : List D} : bindT (.tup t) (.tup l) ls = bindT.bindTs t l ls := by
  unfold bindT
  rfl
theorem t_nil : bindT.bindTs .nil [] ls = some ls := by
  rw [bindT.bindTs]
theorem s_setx {a i e : E} : evB xf gl X sub fuel (.setx a i e) C ls h = ((evE C gl e ls h).an (fun v h => (evE C gl a ls h).an (fun x h => (evE C gl i ls h).an (fun y h => setM x y v h) ⟨⟩) ⟨⟩) ⟨⟩).aS ls (fun _ h => .nx ls h) ⟨⟩ := by
  show onM (M.bind (evE C gl e ls) _) ls _ h = _
  exact ox (bx fun v h => bx fun x h => bx fun y h => rfl) fun d h => rfl
theorem s_augx {a i e : E} {p : BOp} : evB xf gl X sub fuel (.augx a i p e) C ls h = ((evE C gl a ls h).an (fun x h => (evE C gl i ls h).an (fun y h => (ofO (getV h x y) h).an (fun w h => (evE C gl e ls h).an (fun v h => (ofO (augV p w v) h).an (fun r h => setM x y r h) ⟨⟩) ⟨⟩) ⟨⟩) ⟨⟩) ⟨⟩).aS ls (fun _ h => .nx ls h) ⟨⟩ := by
  show onM (M.bind (evE C gl a ls) _) ls _ h = _
  exact ox (bx fun x h => bx fun y h => bq getM_r fun w h => bx fun v h => bq augM_r fun r h => rfl) fun d h => rfl
theorem s_unp {t e : E} : evB xf gl X sub fuel (.unp t e) C ls h = (evE C gl e ls h).aS ls (fun d h => bdR (unpT t (deref h d) ls) h) ⟨⟩ := by
  show onM (evE C gl e ls) ls _ h = _
  exact ox rfl fun d h => rfl
theorem unp_lst {t : E} {l : List D} : unpT (.tup t) (.lst l) ls = bindT.bindTs t l ls := rfl
theorem s_ex {e : E} : evB xf gl X sub fuel (.ex e) C ls h = (evE C gl e ls h).aS ls (fun _ h => .nx ls h) ⟨⟩ := by
  show onM (evE C gl e ls) ls _ h = _
  exact ox rfl fun d h => rfl
theorem s_ret {e : E} : evB xf gl X sub fuel (.ret e) C ls h = (evE C gl e ls h).aS ls (fun d h => .ret d h) ⟨⟩ := by
  show onM (evE C gl e ls) ls _ h = _
  exact ox rfl fun d h => rfl
theorem s_retN : evB xf gl X sub fuel .retN C ls h = .ret .non h := rfl
theorem s_ite {c : E} {a b : B} : evB xf gl X sub fuel (.ite c a b) C ls h = ((evE C gl c ls h).an (fun x h => ofO (truthV (deref h x)) h) ⟨⟩).aS ls (fun k h => cnd k (evB xf gl X sub fuel a C ls h) (evB xf gl X sub fuel b C ls h) ⟨⟩) ⟨⟩ := by
  show onM (evE C gl c ls >>= truthM) ls _ h = _
  exact ox (bx fun x h => truthM_r) fun k h => by cases k <;> rfl
/-- a while loop's rest -/
def whl (xf : Nat → List Nat) (gl : Nat → Option D) (X : Nat → List D → Option D) (sub : Nat → Nat → Option Bool) (fuel : Nat) (c : E) (b : B) (C : Nat → List D → M D) (n : Nat) (ls : Ls) (h : Hh) : SRes :=
  whlS (fun ls => evE C gl c ls >>= truthM) (evB xf gl X sub fuel b C) n ls h
theorem s_whl {c : E} {b : B} : evB xf gl X sub fuel (.whl c b) C ls h = whl xf gl X sub fuel c b C fuel ls h := rfl
theorem whl_s {c : E} {b : B} {n : Nat} : whl xf gl X sub fuel c b C (n + 1) ls h = ((evE C gl c ls h).an (fun x h => ofO (truthV (deref h x)) h) ⟨⟩).aS ls (fun k h => cnd k ((evB xf gl X sub fuel b C ls h).tn (fun ls h => whl xf gl X sub fuel c b C n ls h) ⟨⟩) (.nx ls h) ⟨⟩) ⟨⟩ := by
  show onM (evE C gl c ls >>= truthM) ls _ h = _
  refine ox (bx fun x h => truthM_r) fun k h => ?_
  cases k with
  | false => rfl
  | true => exact tx fun ls h => rfl
/-- a for loop's rest -/
def forL (xf : Nat → List Nat) (gl : Nat → Option D) (X : Nat → List D → Option D) (sub : Nat → Nat → Option Bool) (fuel : Nat) (t : E) (b : B) (C : Nat → List D → M D) (l : List D) (ls : Ls) (h : Hh) : SRes :=
  forS (fun d ls' => seqS (optS (bindT t d ls')) (evB xf gl X sub fuel b C)) l ls h
theorem s_for {t it : E} {b : B} : evB xf gl X sub fuel (.for t it b) C ls h = (evI C gl it ls h).aS ls (fun l h => forL xf gl X sub fuel t b C l ls h) ⟨⟩ := by
  show onM (evI C gl it ls) ls _ h = _
  exact ox rfl fun d h => rfl
theorem for_nil {t : E} {b : B} : forL xf gl X sub fuel t b C [] ls h = .nx ls h := rfl
theorem for_cons {t : E} {b : B} {d : D} {l : List D} : forL xf gl X sub fuel t b C (d :: l) ls h = ((bdR (bindT t d ls) h).sq (fun ls h => evB xf gl X sub fuel b C ls h) ⟨⟩).tn (fun ls h => forL xf gl X sub fuel t b C l ls h) ⟨⟩ := by
  show turnS (seqS (optS (bindT t d ls)) (evB xf gl X sub fuel b C)) _ h = _
  refine (tx fun ls h => rfl).trans ?_
  rw [show seqS (optS (bindT t d ls)) (evB xf gl X sub fuel b C) h = ((bdR (bindT t d ls) h).sq (fun ls h => evB xf gl X sub fuel b C ls h) ⟨⟩) from sx fun ls h => rfl]
  rfl
/-- a live walk's rest -/
def livL (xf : Nat → List Nat) (gl : Nat → Option D) (X : Nat → List D → Option D) (sub : Nat → Nat → Option Bool) (fuel : Nat) (t : E) (b : B) (C : Nat → List D → M D) (d : D) (n i : Nat) (ls : Ls) (h : Hh) : SRes :=
  liveS d (fun d ls' => seqS (optS (bindT t d ls')) (evB xf gl X sub fuel b C)) n i ls h
theorem s_forE {t a : E} {b : B} : evB xf gl X sub fuel (.forE t a b) C ls h = (evE C gl a ls h).aS ls (fun d h => livL xf gl X sub fuel t b C d fuel 0 ls h) ⟨⟩ := by
  show onM (evE C gl a ls) ls _ h = _
  exact ox rfl fun d h => rfl
theorem liv_nil {t : E} {b : B} {d : D} {l : List D} {n i : Nat} (e : deref h d = .lst l) (hi : l[i]? = none) : livL xf gl X sub fuel t b C d (n + 1) i ls h = .nx ls h := by
  unfold livL
  rw [liveS_s e, hi]
theorem liv_cons {t : E} {b : B} {d : D} {l : List D} {x : D} {n i : Nat} (e : deref h d = .lst l) (hi : l[i]? = some x) : livL xf gl X sub fuel t b C d (n + 1) i ls h = ((bdR (bindT t (.tup [.int (i : Nat), x]) ls) h).sq (fun ls h => evB xf gl X sub fuel b C ls h) ⟨⟩).tn (fun ls h => livL xf gl X sub fuel t b C d n (i + 1) ls h) ⟨⟩ := by
  have z : livL xf gl X sub fuel t b C d (n + 1) i ls h = turnS (seqS (optS (bindT t (.tup [.int (i : Nat), x]) ls)) (evB xf gl X sub fuel b C)) (fun ls' => livL xf gl X sub fuel t b C d n (i + 1) ls') h := by
    show liveS d _ (n + 1) i ls h = _
    rw [liveS_s e, hi]
    rfl
  rw [z]
  refine (tx fun ls h => rfl).trans ?_
  rw [show seqS (optS (bindT t (.tup [.int (i : Nat), x]) ls)) (evB xf gl X sub fuel b C) h = ((bdR (bindT t (.tup [.int (i : Nat), x]) ls) h).sq (fun ls h => evB xf gl X sub fuel b C ls h) ⟨⟩) from sx fun ls h => rfl]
theorem s_brk : evB xf gl X sub fuel .brk C ls h = .bk ls h := rfl
theorem s_cnt : evB xf gl X sub fuel .cnt C ls h = .ct ls h := rfl
theorem s_pas : evB xf gl X sub fuel .pas C ls h = .nx ls h := rfl
def rsR (m : Option D) (c : Nat) (ls : Ls) (h : Hh) : SRes := match m with
  | some d => .err c d ls h
  | none => .stk
theorem rsR_some {d : D} {c : Nat} : rsR (some d) c ls h = .err c d ls h := rfl
theorem s_rse {c : Nat} {a : E} : evB xf gl X sub fuel (.rse c a) C ls h = (evA C gl a ls h).aS ls (fun l h => rsR (X c l) c ls h) ⟨⟩ := by
  show onM (evA C gl a ls) ls _ h = _
  exact ox rfl fun d h => by
    show (match X c d with | some d => SRes.err c d ls h | none => .stk) = _
    unfold rsR
    cases X c d <;> rfl
def SRes.tr (r : SRes) (k : Nat → D → Ls → Hh → SRes) (_ : Tg k) : SRes := match r with
  | .err c d ls h => k c d ls h
  | r => r
section
variable {c : Nat} {d : D} {k : Nat → D → Ls → Hh → SRes} {g : Tg k}
theorem tr_nx : (SRes.nx ls h).tr k g = .nx ls h := rfl
theorem tr_stk : SRes.stk.tr k g = .stk := rfl
theorem tr_err : (SRes.err c d ls h).tr k g = k c d ls h := rfl
theorem tr_ret : (SRes.ret d h).tr k g = .ret d h := rfl
theorem tr_bk : (SRes.bk ls h).tr k g = .bk ls h := rfl
theorem tr_ct : (SRes.ct ls h).tr k g = .ct ls h := rfl
end
def SRes.us (r : SRes) (i : Option Nat) : SRes := match r with
  | .nx ls h' => .nx (match i with | some j => ls.set j none | none => ls) h'
  | .bk ls h' => .bk (match i with | some j => ls.set j none | none => ls) h'
  | .ct ls h' => .ct (match i with | some j => ls.set j none | none => ls) h'
  | .ret d h' => .ret d h'
  | .err _ _ _ _ => .stk
  | .stk => .stk
theorem us_nx {j : Nat} : (SRes.nx ls h).us (some j) = .nx (ls.set j none) h := rfl
theorem us_nx0 : (SRes.nx ls h).us none = .nx ls h := rfl
theorem us_ret {i : Option Nat} {d : D} : (SRes.ret d h).us i = .ret d h := rfl
def prR (o : Option Ls) (k : Ls → SRes) (_ : Tg k) : SRes := match o with
  | some l => k l
  | none => .stk
theorem prR_some {l : Ls} {k : Ls → SRes} {g : Tg k} : prR (some l) k g = k l := rfl
theorem pre_none : preS none ls = some ls := rfl
def cat3 (m : Option Bool) (x y : SRes) (_ : Tg (x, y)) : SRes := match m with
  | some true => x
  | some false => y
  | none => .stk
theorem cat3_t {x y : SRes} {g : Tg (x, y)} : cat3 (some true) x y g = x := rfl
theorem cat3_f {x y : SRes} {g : Tg (x, y)} : cat3 (some false) x y g = y := rfl
theorem s_try {b s : B} {cs : List Nat} {i : Option Nat} : evB xf gl X sub fuel (.try1 b cs i s) C ls h = (evB xf gl X sub fuel b C ls h).tr (fun c d ls' h' =>
    cat3 (anySub sub c cs) (prR (preS i ls') (fun ls2 => (evB xf gl X sub fuel s (hotC xf sub c d) ls2 h').us i) ⟨⟩) (.err c d ls' h') ⟨⟩) ⟨⟩ := by
  show (match evB xf gl X sub fuel b C ls h with | .err c d ls' h' => _ | r => r) = _
  unfold SRes.tr
  cases evB xf gl X sub fuel b C ls h with
  | err c d ls' h' =>
    show (match anySub sub c cs with | some true => _ | some false => _ | none => _) = cat3 _ (prR _ _ _) _ _
    unfold cat3 prR
    cases anySub sub c cs with
    | none => rfl
    | some k =>
      cases k with
      | false => rfl
      | true =>
        show (match preS i ls' with | some ls2 => unsetS i (evB xf gl X sub fuel s (hotC xf sub c d) ls2) h' | none => SRes.stk) = (match preS i ls' with | some ls2 => (evB xf gl X sub fuel s (hotC xf sub c d) ls2 h').us i | none => SRes.stk)
        cases preS i ls' with
        | none => rfl
        | some ls2 =>
          show unsetS i (evB xf gl X sub fuel s (hotC xf sub c d) ls2) h' = (evB xf gl X sub fuel s (hotC xf sub c d) ls2 h').us i
          unfold unsetS SRes.us
          cases evB xf gl X sub fuel s (hotC xf sub c d) ls2 h' <;> rfl
  | _ => rfl

theorem bt_loc {i : Nat} {d : D} (e : i < ls.length) : bindT (.loc i) d ls = some (ls.set i (some d)) := by
  rw [bindT]
  rw [if_pos e]
theorem bt_cons {i : Nat} {d : D} {t : E} {l : List D} (e : i < ls.length) : bindT.bindTs (.cons (.loc i) t) (d :: l) ls = bindT.bindTs t l (ls.set i (some d)) := by
  rw [bindT.bindTs]
  rw [if_pos e]
theorem sa_loc {i : Nat} {d : D} {a : BOp} {e : E} (hl : ls[i]? = some (some d)) : evB xf gl X sub fuel (.aug i a e) C ls h = ((evE C gl e ls h).an (fun y h => ofO (augV a d y) h) ⟨⟩).aS ls (fun v h => .nx (ls.set i (some v)) h) ⟨⟩ := by
  show (match ls[i]? with | some (some x) => onM (evE C gl e ls >>= fun y => augM a x y) ls (fun d => optS (some (ls.set i (some d)))) | _ => stkS) h = _
  rw [hl]
  exact ox (bx fun y h => augM_r) fun d h => rfl
theorem pre_loc {i : Nat} (e : i < ls.length) : preS (some i) ls = some (ls.set i none) := by
  show (if decide (i < ls.length) then some _ else none) = _
  rw [if_pos (decide_eq_true e)]
theorem t_loc0 {e0 : Option D} {d : D} : bindT (.loc 0) d (e0 :: ls) = some (some d :: ls) := bt_loc (by simp only [List.length_cons]; omega)
theorem t_cons0 {e0 : Option D} {d : D} {t : E} {l : List D} : bindT.bindTs (.cons (.loc 0) t) (d :: l) (e0 :: ls) = bindT.bindTs t l (some d :: ls) := bt_cons (by simp only [List.length_cons]; omega)
theorem x_clv0 {f n : Nat} {a : E} : evE C gl (.clv 0 n a) (some (.fn f) :: ls) h = cnd (decide (f < n)) ((evA C gl a (some (.fn f) :: ls) h).an (fun l h => C f l h) ⟨⟩) .stk ⟨⟩ := clv_eq rfl
theorem s_aug0 {d : D} {o : BOp} {e : E} : evB xf gl X sub fuel (.aug 0 o e) C (some d :: ls) h = ((evE C gl e (some d :: ls) h).an (fun y h => ofO (augV o d y) h) ⟨⟩).aS (some d :: ls) (fun v h => .nx (some v :: ls) h) ⟨⟩ := sa_loc rfl
theorem pre0 {e0 : Option D} : preS (some 0) (e0 :: ls) = some (none :: ls) := pre_loc (by simp only [List.length_cons]; omega)
theorem set0 {e0 : Option D} {e1 : Option D} : List.set (e0 :: ls) 0 e1 = e1 :: ls := rfl
theorem t_loc1 {a0 e0 : Option D} {d : D} : bindT (.loc 1) d (a0 :: e0 :: ls) = some (a0 :: some d :: ls) := bt_loc (by simp only [List.length_cons]; omega)
theorem t_cons1 {a0 e0 : Option D} {d : D} {t : E} {l : List D} : bindT.bindTs (.cons (.loc 1) t) (d :: l) (a0 :: e0 :: ls) = bindT.bindTs t l (a0 :: some d :: ls) := bt_cons (by simp only [List.length_cons]; omega)
theorem x_clv1 {a0 : Option D} {f n : Nat} {a : E} : evE C gl (.clv 1 n a) (a0 :: some (.fn f) :: ls) h = cnd (decide (f < n)) ((evA C gl a (a0 :: some (.fn f) :: ls) h).an (fun l h => C f l h) ⟨⟩) .stk ⟨⟩ := clv_eq rfl
theorem s_aug1 {a0 : Option D} {d : D} {o : BOp} {e : E} : evB xf gl X sub fuel (.aug 1 o e) C (a0 :: some d :: ls) h = ((evE C gl e (a0 :: some d :: ls) h).an (fun y h => ofO (augV o d y) h) ⟨⟩).aS (a0 :: some d :: ls) (fun v h => .nx (a0 :: some v :: ls) h) ⟨⟩ := sa_loc rfl
theorem pre1 {a0 e0 : Option D} : preS (some 1) (a0 :: e0 :: ls) = some (a0 :: none :: ls) := pre_loc (by simp only [List.length_cons]; omega)
theorem set1 {a0 e0 : Option D} {e1 : Option D} : List.set (a0 :: e0 :: ls) 1 e1 = a0 :: e1 :: ls := rfl
theorem t_loc2 {a0 a1 e0 : Option D} {d : D} : bindT (.loc 2) d (a0 :: a1 :: e0 :: ls) = some (a0 :: a1 :: some d :: ls) := bt_loc (by simp only [List.length_cons]; omega)
theorem t_cons2 {a0 a1 e0 : Option D} {d : D} {t : E} {l : List D} : bindT.bindTs (.cons (.loc 2) t) (d :: l) (a0 :: a1 :: e0 :: ls) = bindT.bindTs t l (a0 :: a1 :: some d :: ls) := bt_cons (by simp only [List.length_cons]; omega)
theorem x_clv2 {a0 a1 : Option D} {f n : Nat} {a : E} : evE C gl (.clv 2 n a) (a0 :: a1 :: some (.fn f) :: ls) h = cnd (decide (f < n)) ((evA C gl a (a0 :: a1 :: some (.fn f) :: ls) h).an (fun l h => C f l h) ⟨⟩) .stk ⟨⟩ := clv_eq rfl
theorem s_aug2 {a0 a1 : Option D} {d : D} {o : BOp} {e : E} : evB xf gl X sub fuel (.aug 2 o e) C (a0 :: a1 :: some d :: ls) h = ((evE C gl e (a0 :: a1 :: some d :: ls) h).an (fun y h => ofO (augV o d y) h) ⟨⟩).aS (a0 :: a1 :: some d :: ls) (fun v h => .nx (a0 :: a1 :: some v :: ls) h) ⟨⟩ := sa_loc rfl
theorem pre2 {a0 a1 e0 : Option D} : preS (some 2) (a0 :: a1 :: e0 :: ls) = some (a0 :: a1 :: none :: ls) := pre_loc (by simp only [List.length_cons]; omega)
theorem set2 {a0 a1 e0 : Option D} {e1 : Option D} : List.set (a0 :: a1 :: e0 :: ls) 2 e1 = a0 :: a1 :: e1 :: ls := rfl
theorem t_loc3 {a0 a1 a2 e0 : Option D} {d : D} : bindT (.loc 3) d (a0 :: a1 :: a2 :: e0 :: ls) = some (a0 :: a1 :: a2 :: some d :: ls) := bt_loc (by simp only [List.length_cons]; omega)
theorem t_cons3 {a0 a1 a2 e0 : Option D} {d : D} {t : E} {l : List D} : bindT.bindTs (.cons (.loc 3) t) (d :: l) (a0 :: a1 :: a2 :: e0 :: ls) = bindT.bindTs t l (a0 :: a1 :: a2 :: some d :: ls) := bt_cons (by simp only [List.length_cons]; omega)
theorem x_clv3 {a0 a1 a2 : Option D} {f n : Nat} {a : E} : evE C gl (.clv 3 n a) (a0 :: a1 :: a2 :: some (.fn f) :: ls) h = cnd (decide (f < n)) ((evA C gl a (a0 :: a1 :: a2 :: some (.fn f) :: ls) h).an (fun l h => C f l h) ⟨⟩) .stk ⟨⟩ := clv_eq rfl
theorem s_aug3 {a0 a1 a2 : Option D} {d : D} {o : BOp} {e : E} : evB xf gl X sub fuel (.aug 3 o e) C (a0 :: a1 :: a2 :: some d :: ls) h = ((evE C gl e (a0 :: a1 :: a2 :: some d :: ls) h).an (fun y h => ofO (augV o d y) h) ⟨⟩).aS (a0 :: a1 :: a2 :: some d :: ls) (fun v h => .nx (a0 :: a1 :: a2 :: some v :: ls) h) ⟨⟩ := sa_loc rfl
theorem pre3 {a0 a1 a2 e0 : Option D} : preS (some 3) (a0 :: a1 :: a2 :: e0 :: ls) = some (a0 :: a1 :: a2 :: none :: ls) := pre_loc (by simp only [List.length_cons]; omega)
theorem set3 {a0 a1 a2 e0 : Option D} {e1 : Option D} : List.set (a0 :: a1 :: a2 :: e0 :: ls) 3 e1 = a0 :: a1 :: a2 :: e1 :: ls := rfl
theorem t_loc4 {a0 a1 a2 a3 e0 : Option D} {d : D} : bindT (.loc 4) d (a0 :: a1 :: a2 :: a3 :: e0 :: ls) = some (a0 :: a1 :: a2 :: a3 :: some d :: ls) := bt_loc (by simp only [List.length_cons]; omega)
theorem t_cons4 {a0 a1 a2 a3 e0 : Option D} {d : D} {t : E} {l : List D} : bindT.bindTs (.cons (.loc 4) t) (d :: l) (a0 :: a1 :: a2 :: a3 :: e0 :: ls) = bindT.bindTs t l (a0 :: a1 :: a2 :: a3 :: some d :: ls) := bt_cons (by simp only [List.length_cons]; omega)
theorem x_clv4 {a0 a1 a2 a3 : Option D} {f n : Nat} {a : E} : evE C gl (.clv 4 n a) (a0 :: a1 :: a2 :: a3 :: some (.fn f) :: ls) h = cnd (decide (f < n)) ((evA C gl a (a0 :: a1 :: a2 :: a3 :: some (.fn f) :: ls) h).an (fun l h => C f l h) ⟨⟩) .stk ⟨⟩ := clv_eq rfl
theorem s_aug4 {a0 a1 a2 a3 : Option D} {d : D} {o : BOp} {e : E} : evB xf gl X sub fuel (.aug 4 o e) C (a0 :: a1 :: a2 :: a3 :: some d :: ls) h = ((evE C gl e (a0 :: a1 :: a2 :: a3 :: some d :: ls) h).an (fun y h => ofO (augV o d y) h) ⟨⟩).aS (a0 :: a1 :: a2 :: a3 :: some d :: ls) (fun v h => .nx (a0 :: a1 :: a2 :: a3 :: some v :: ls) h) ⟨⟩ := sa_loc rfl
theorem pre4 {a0 a1 a2 a3 e0 : Option D} : preS (some 4) (a0 :: a1 :: a2 :: a3 :: e0 :: ls) = some (a0 :: a1 :: a2 :: a3 :: none :: ls) := pre_loc (by simp only [List.length_cons]; omega)
theorem set4 {a0 a1 a2 a3 e0 : Option D} {e1 : Option D} : List.set (a0 :: a1 :: a2 :: a3 :: e0 :: ls) 4 e1 = a0 :: a1 :: a2 :: a3 :: e1 :: ls := rfl
theorem t_loc5 {a0 a1 a2 a3 a4 e0 : Option D} {d : D} : bindT (.loc 5) d (a0 :: a1 :: a2 :: a3 :: a4 :: e0 :: ls) = some (a0 :: a1 :: a2 :: a3 :: a4 :: some d :: ls) := bt_loc (by simp only [List.length_cons]; omega)
theorem t_cons5 {a0 a1 a2 a3 a4 e0 : Option D} {d : D} {t : E} {l : List D} : bindT.bindTs (.cons (.loc 5) t) (d :: l) (a0 :: a1 :: a2 :: a3 :: a4 :: e0 :: ls) = bindT.bindTs t l (a0 :: a1 :: a2 :: a3 :: a4 :: some d :: ls) := bt_cons (by simp only [List.length_cons]; omega)
theorem x_clv5 {a0 a1 a2 a3 a4 : Option D} {f n : Nat} {a : E} : evE C gl (.clv 5 n a) (a0 :: a1 :: a2 :: a3 :: a4 :: some (.fn f) :: ls) h = cnd (decide (f < n)) ((evA C gl a (a0 :: a1 :: a2 :: a3 :: a4 :: some (.fn f) :: ls) h).an (fun l h => C f l h) ⟨⟩) .stk ⟨⟩ := clv_eq rfl
theorem s_aug5 {a0 a1 a2 a3 a4 : Option D} {d : D} {o : BOp} {e : E} : evB xf gl X sub fuel (.aug 5 o e) C (a0 :: a1 :: a2 :: a3 :: a4 :: some d :: ls) h = ((evE C gl e (a0 :: a1 :: a2 :: a3 :: a4 :: some d :: ls) h).an (fun y h => ofO (augV o d y) h) ⟨⟩).aS (a0 :: a1 :: a2 :: a3 :: a4 :: some d :: ls) (fun v h => .nx (a0 :: a1 :: a2 :: a3 :: a4 :: some v :: ls) h) ⟨⟩ := sa_loc rfl
theorem pre5 {a0 a1 a2 a3 a4 e0 : Option D} : preS (some 5) (a0 :: a1 :: a2 :: a3 :: a4 :: e0 :: ls) = some (a0 :: a1 :: a2 :: a3 :: a4 :: none :: ls) := pre_loc (by simp only [List.length_cons]; omega)
theorem set5 {a0 a1 a2 a3 a4 e0 : Option D} {e1 : Option D} : List.set (a0 :: a1 :: a2 :: a3 :: a4 :: e0 :: ls) 5 e1 = a0 :: a1 :: a2 :: a3 :: a4 :: e1 :: ls := rfl
theorem t_loc6 {a0 a1 a2 a3 a4 a5 e0 : Option D} {d : D} : bindT (.loc 6) d (a0 :: a1 :: a2 :: a3 :: a4 :: a5 :: e0 :: ls) = some (a0 :: a1 :: a2 :: a3 :: a4 :: a5 :: some d :: ls) := bt_loc (by simp only [List.length_cons]; omega)
theorem t_cons6 {a0 a1 a2 a3 a4 a5 e0 : Option D} {d : D} {t : E} {l : List D} : bindT.bindTs (.cons (.loc 6) t) (d :: l) (a0 :: a1 :: a2 :: a3 :: a4 :: a5 :: e0 :: ls) = bindT.bindTs t l (a0 :: a1 :: a2 :: a3 :: a4 :: a5 :: some d :: ls) := bt_cons (by simp only [List.length_cons]; omega)
theorem x_clv6 {a0 a1 a2 a3 a4 a5 : Option D} {f n : Nat} {a : E} : evE C gl (.clv 6 n a) (a0 :: a1 :: a2 :: a3 :: a4 :: a5 :: some (.fn f) :: ls) h = cnd (decide (f < n)) ((evA C gl a (a0 :: a1 :: a2 :: a3 :: a4 :: a5 :: some (.fn f) :: ls) h).an (fun l h => C f l h) ⟨⟩) .stk ⟨⟩ := clv_eq rfl
theorem s_aug6 {a0 a1 a2 a3 a4 a5 : Option D} {d : D} {o : BOp} {e : E} : evB xf gl X sub fuel (.aug 6 o e) C (a0 :: a1 :: a2 :: a3 :: a4 :: a5 :: some d :: ls) h = ((evE C gl e (a0 :: a1 :: a2 :: a3 :: a4 :: a5 :: some d :: ls) h).an (fun y h => ofO (augV o d y) h) ⟨⟩).aS (a0 :: a1 :: a2 :: a3 :: a4 :: a5 :: some d :: ls) (fun v h => .nx (a0 :: a1 :: a2 :: a3 :: a4 :: a5 :: some v :: ls) h) ⟨⟩ := sa_loc rfl
theorem pre6 {a0 a1 a2 a3 a4 a5 e0 : Option D} : preS (some 6) (a0 :: a1 :: a2 :: a3 :: a4 :: a5 :: e0 :: ls) = some (a0 :: a1 :: a2 :: a3 :: a4 :: a5 :: none :: ls) := pre_loc (by simp only [List.length_cons]; omega)
theorem set6 {a0 a1 a2 a3 a4 a5 e0 : Option D} {e1 : Option D} : List.set (a0 :: a1 :: a2 :: a3 :: a4 :: a5 :: e0 :: ls) 6 e1 = a0 :: a1 :: a2 :: a3 :: a4 :: a5 :: e1 :: ls := rfl
theorem t_loc7 {a0 a1 a2 a3 a4 a5 a6 e0 : Option D} {d : D} : bindT (.loc 7) d (a0 :: a1 :: a2 :: a3 :: a4 :: a5 :: a6 :: e0 :: ls) = some (a0 :: a1 :: a2 :: a3 :: a4 :: a5 :: a6 :: some d :: ls) := bt_loc (by simp only [List.length_cons]; omega)
theorem t_cons7 {a0 a1 a2 a3 a4 a5 a6 e0 : Option D} {d : D} {t : E} {l : List D} : bindT.bindTs (.cons (.loc 7) t) (d :: l) (a0 :: a1 :: a2 :: a3 :: a4 :: a5 :: a6 :: e0 :: ls) = bindT.bindTs t l (a0 :: a1 :: a2 :: a3 :: a4 :: a5 :: a6 :: some d :: ls) := bt_cons (by simp only [List.length_cons]; omega)
theorem x_clv7 {a0 a1 a2 a3 a4 a5 a6 : Option D} {f n : Nat} {a : E} : evE C gl (.clv 7 n a) (a0 :: a1 :: a2 :: a3 :: a4 :: a5 :: a6 :: some (.fn f) :: ls) h = cnd (decide (f < n)) ((evA C gl a (a0 :: a1 :: a2 :: a3 :: a4 :: a5 :: a6 :: some (.fn f) :: ls) h).an (fun l h => C f l h) ⟨⟩) .stk ⟨⟩ := clv_eq rfl
theorem s_aug7 {a0 a1 a2 a3 a4 a5 a6 : Option D} {d : D} {o : BOp} {e : E} : evB xf gl X sub fuel (.aug 7 o e) C (a0 :: a1 :: a2 :: a3 :: a4 :: a5 :: a6 :: some d :: ls) h = ((evE C gl e (a0 :: a1 :: a2 :: a3 :: a4 :: a5 :: a6 :: some d :: ls) h).an (fun y h => ofO (augV o d y) h) ⟨⟩).aS (a0 :: a1 :: a2 :: a3 :: a4 :: a5 :: a6 :: some d :: ls) (fun v h => .nx (a0 :: a1 :: a2 :: a3 :: a4 :: a5 :: a6 :: some v :: ls) h) ⟨⟩ := sa_loc rfl
theorem pre7 {a0 a1 a2 a3 a4 a5 a6 e0 : Option D} : preS (some 7) (a0 :: a1 :: a2 :: a3 :: a4 :: a5 :: a6 :: e0 :: ls) = some (a0 :: a1 :: a2 :: a3 :: a4 :: a5 :: a6 :: none :: ls) := pre_loc (by simp only [List.length_cons]; omega)
theorem set7 {a0 a1 a2 a3 a4 a5 a6 e0 : Option D} {e1 : Option D} : List.set (a0 :: a1 :: a2 :: a3 :: a4 :: a5 :: a6 :: e0 :: ls) 7 e1 = a0 :: a1 :: a2 :: a3 :: a4 :: a5 :: a6 :: e1 :: ls := rfl
theorem t_loc8 {a0 a1 a2 a3 a4 a5 a6 a7 e0 : Option D} {d : D} : bindT (.loc 8) d (a0 :: a1 :: a2 :: a3 :: a4 :: a5 :: a6 :: a7 :: e0 :: ls) = some (a0 :: a1 :: a2 :: a3 :: a4 :: a5 :: a6 :: a7 :: some d :: ls) := bt_loc (by simp only [List.length_cons]; omega)
theorem t_cons8 {a0 a1 a2 a3 a4 a5 a6 a7 e0 : Option D} {d : D} {t : E} {l : List D} : bindT.bindTs (.cons (.loc 8) t) (d :: l) (a0 :: a1 :: a2 :: a3 :: a4 :: a5 :: a6 :: a7 :: e0 :: ls) = bindT.bindTs t l (a0 :: a1 :: a2 :: a3 :: a4 :: a5 :: a6 :: a7 :: some d :: ls) := bt_cons (by simp only [List.length_cons]; omega)
theorem x_clv8 {a0 a1 a2 a3 a4 a5 a6 a7 : Option D} {f n : Nat} {a : E} : evE C gl (.clv 8 n a) (a0 :: a1 :: a2 :: a3 :: a4 :: a5 :: a6 :: a7 :: some (.fn f) :: ls) h = cnd (decide (f < n)) ((evA C gl a (a0 :: a1 :: a2 :: a3 :: a4 :: a5 :: a6 :: a7 :: some (.fn f) :: ls) h).an (fun l h => C f l h) ⟨⟩) .stk ⟨⟩ := clv_eq rfl
theorem s_aug8 {a0 a1 a2 a3 a4 a5 a6 a7 : Option D} {d : D} {o : BOp} {e : E} : evB xf gl X sub fuel (.aug 8 o e) C (a0 :: a1 :: a2 :: a3 :: a4 :: a5 :: a6 :: a7 :: some d :: ls) h = ((evE C gl e (a0 :: a1 :: a2 :: a3 :: a4 :: a5 :: a6 :: a7 :: some d :: ls) h).an (fun y h => ofO (augV o d y) h) ⟨⟩).aS (a0 :: a1 :: a2 :: a3 :: a4 :: a5 :: a6 :: a7 :: some d :: ls) (fun v h => .nx (a0 :: a1 :: a2 :: a3 :: a4 :: a5 :: a6 :: a7 :: some v :: ls) h) ⟨⟩ := sa_loc rfl
theorem pre8 {a0 a1 a2 a3 a4 a5 a6 a7 e0 : Option D} : preS (some 8) (a0 :: a1 :: a2 :: a3 :: a4 :: a5 :: a6 :: a7 :: e0 :: ls) = some (a0 :: a1 :: a2 :: a3 :: a4 :: a5 :: a6 :: a7 :: none :: ls) := pre_loc (by simp only [List.length_cons]; omega)
theorem set8 {a0 a1 a2 a3 a4 a5 a6 a7 e0 : Option D} {e1 : Option D} : List.set (a0 :: a1 :: a2 :: a3 :: a4 :: a5 :: a6 :: a7 :: e0 :: ls) 8 e1 = a0 :: a1 :: a2 :: a3 :: a4 :: a5 :: a6 :: a7 :: e1 :: ls := rfl
theorem t_loc9 {a0 a1 a2 a3 a4 a5 a6 a7 a8 e0 : Option D} {d : D} : bindT (.loc 9) d (a0 :: a1 :: a2 :: a3 :: a4 :: a5 :: a6 :: a7 :: a8 :: e0 :: ls) = some (a0 :: a1 :: a2 :: a3 :: a4 :: a5 :: a6 :: a7 :: a8 :: some d :: ls) := bt_loc (by simp only [List.length_cons]; omega)
theorem t_cons9 {a0 a1 a2 a3 a4 a5 a6 a7 a8 e0 : Option D} {d : D} {t : E} {l : List D} : bindT.bindTs (.cons (.loc 9) t) (d :: l) (a0 :: a1 :: a2 :: a3 :: a4 :: a5 :: a6 :: a7 :: a8 :: e0 :: ls) = bindT.bindTs t l (a0 :: a1 :: a2 :: a3 :: a4 :: a5 :: a6 :: a7 :: a8 :: some d :: ls) := bt_cons (by simp only [List.length_cons]; omega)
theorem x_clv9 {a0 a1 a2 a3 a4 a5 a6 a7 a8 : Option D} {f n : Nat} {a : E} : evE C gl (.clv 9 n a) (a0 :: a1 :: a2 :: a3 :: a4 :: a5 :: a6 :: a7 :: a8 :: some (.fn f) :: ls) h = cnd (decide (f < n)) ((evA C gl a (a0 :: a1 :: a2 :: a3 :: a4 :: a5 :: a6 :: a7 :: a8 :: some (.fn f) :: ls) h).an (fun l h => C f l h) ⟨⟩) .stk ⟨⟩ := clv_eq rfl
theorem s_aug9 {a0 a1 a2 a3 a4 a5 a6 a7 a8 : Option D} {d : D} {o : BOp} {e : E} : evB xf gl X sub fuel (.aug 9 o e) C (a0 :: a1 :: a2 :: a3 :: a4 :: a5 :: a6 :: a7 :: a8 :: some d :: ls) h = ((evE C gl e (a0 :: a1 :: a2 :: a3 :: a4 :: a5 :: a6 :: a7 :: a8 :: some d :: ls) h).an (fun y h => ofO (augV o d y) h) ⟨⟩).aS (a0 :: a1 :: a2 :: a3 :: a4 :: a5 :: a6 :: a7 :: a8 :: some d :: ls) (fun v h => .nx (a0 :: a1 :: a2 :: a3 :: a4 :: a5 :: a6 :: a7 :: a8 :: some v :: ls) h) ⟨⟩ := sa_loc rfl
theorem pre9 {a0 a1 a2 a3 a4 a5 a6 a7 a8 e0 : Option D} : preS (some 9) (a0 :: a1 :: a2 :: a3 :: a4 :: a5 :: a6 :: a7 :: a8 :: e0 :: ls) = some (a0 :: a1 :: a2 :: a3 :: a4 :: a5 :: a6 :: a7 :: a8 :: none :: ls) := pre_loc (by simp only [List.length_cons]; omega)
theorem set9 {a0 a1 a2 a3 a4 a5 a6 a7 a8 e0 : Option D} {e1 : Option D} : List.set (a0 :: a1 :: a2 :: a3 :: a4 :: a5 :: a6 :: a7 :: a8 :: e0 :: ls) 9 e1 = a0 :: a1 :: a2 :: a3 :: a4 :: a5 :: a6 :: a7 :: a8 :: e1 :: ls := rfl
theorem t_loc10 {a0 a1 a2 a3 a4 a5 a6 a7 a8 a9 e0 : Option D} {d : D} : bindT (.loc 10) d (a0 :: a1 :: a2 :: a3 :: a4 :: a5 :: a6 :: a7 :: a8 :: a9 :: e0 :: ls) = some (a0 :: a1 :: a2 :: a3 :: a4 :: a5 :: a6 :: a7 :: a8 :: a9 :: some d :: ls) := bt_loc (by simp only [List.length_cons]; omega)
theorem t_cons10 {a0 a1 a2 a3 a4 a5 a6 a7 a8 a9 e0 : Option D} {d : D} {t : E} {l : List D} : bindT.bindTs (.cons (.loc 10) t) (d :: l) (a0 :: a1 :: a2 :: a3 :: a4 :: a5 :: a6 :: a7 :: a8 :: a9 :: e0 :: ls) = bindT.bindTs t l (a0 :: a1 :: a2 :: a3 :: a4 :: a5 :: a6 :: a7 :: a8 :: a9 :: some d :: ls) := bt_cons (by simp only [List.length_cons]; omega)
theorem x_clv10 {a0 a1 a2 a3 a4 a5 a6 a7 a8 a9 : Option D} {f n : Nat} {a : E} : evE C gl (.clv 10 n a) (a0 :: a1 :: a2 :: a3 :: a4 :: a5 :: a6 :: a7 :: a8 :: a9 :: some (.fn f) :: ls) h = cnd (decide (f < n)) ((evA C gl a (a0 :: a1 :: a2 :: a3 :: a4 :: a5 :: a6 :: a7 :: a8 :: a9 :: some (.fn f) :: ls) h).an (fun l h => C f l h) ⟨⟩) .stk ⟨⟩ := clv_eq rfl
theorem s_aug10 {a0 a1 a2 a3 a4 a5 a6 a7 a8 a9 : Option D} {d : D} {o : BOp} {e : E} : evB xf gl X sub fuel (.aug 10 o e) C (a0 :: a1 :: a2 :: a3 :: a4 :: a5 :: a6 :: a7 :: a8 :: a9 :: some d :: ls) h = ((evE C gl e (a0 :: a1 :: a2 :: a3 :: a4 :: a5 :: a6 :: a7 :: a8 :: a9 :: some d :: ls) h).an (fun y h => ofO (augV o d y) h) ⟨⟩).aS (a0 :: a1 :: a2 :: a3 :: a4 :: a5 :: a6 :: a7 :: a8 :: a9 :: some d :: ls) (fun v h => .nx (a0 :: a1 :: a2 :: a3 :: a4 :: a5 :: a6 :: a7 :: a8 :: a9 :: some v :: ls) h) ⟨⟩ := sa_loc rfl
theorem pre10 {a0 a1 a2 a3 a4 a5 a6 a7 a8 a9 e0 : Option D} : preS (some 10) (a0 :: a1 :: a2 :: a3 :: a4 :: a5 :: a6 :: a7 :: a8 :: a9 :: e0 :: ls) = some (a0 :: a1 :: a2 :: a3 :: a4 :: a5 :: a6 :: a7 :: a8 :: a9 :: none :: ls) := pre_loc (by simp only [List.length_cons]; omega)
theorem set10 {a0 a1 a2 a3 a4 a5 a6 a7 a8 a9 e0 : Option D} {e1 : Option D} : List.set (a0 :: a1 :: a2 :: a3 :: a4 :: a5 :: a6 :: a7 :: a8 :: a9 :: e0 :: ls) 10 e1 = a0 :: a1 :: a2 :: a3 :: a4 :: a5 :: a6 :: a7 :: a8 :: a9 :: e1 :: ls := rfl
theorem t_loc11 {a0 a1 a2 a3 a4 a5 a6 a7 a8 a9 a10 e0 : Option D} {d : D} : bindT (.loc 11) d (a0 :: a1 :: a2 :: a3 :: a4 :: a5 :: a6 :: a7 :: a8 :: a9 :: a10 :: e0 :: ls) = some (a0 :: a1 :: a2 :: a3 :: a4 :: a5 :: a6 :: a7 :: a8 :: a9 :: a10 :: some d :: ls) := bt_loc (by simp only [List.length_cons]; omega)
theorem t_cons11 {a0 a1 a2 a3 a4 a5 a6 a7 a8 a9 a10 e0 : Option D} {d : D} {t : E} {l : List D} : bindT.bindTs (.cons (.loc 11) t) (d :: l) (a0 :: a1 :: a2 :: a3 :: a4 :: a5 :: a6 :: a7 :: a8 :: a9 :: a10 :: e0 :: ls) = bindT.bindTs t l (a0 :: a1 :: a2 :: a3 :: a4 :: a5 :: a6 :: a7 :: a8 :: a9 :: a10 :: some d :: ls) := bt_cons (by simp only [List.length_cons]; omega)
theorem x_clv11 {a0 a1 a2 a3 a4 a5 a6 a7 a8 a9 a10 : Option D} {f n : Nat} {a : E} : evE C gl (.clv 11 n a) (a0 :: a1 :: a2 :: a3 :: a4 :: a5 :: a6 :: a7 :: a8 :: a9 :: a10 :: some (.fn f) :: ls) h = cnd (decide (f < n)) ((evA C gl a (a0 :: a1 :: a2 :: a3 :: a4 :: a5 :: a6 :: a7 :: a8 :: a9 :: a10 :: some (.fn f) :: ls) h).an (fun l h => C f l h) ⟨⟩) .stk ⟨⟩ := clv_eq rfl
theorem s_aug11 {a0 a1 a2 a3 a4 a5 a6 a7 a8 a9 a10 : Option D} {d : D} {o : BOp} {e : E} : evB xf gl X sub fuel (.aug 11 o e) C (a0 :: a1 :: a2 :: a3 :: a4 :: a5 :: a6 :: a7 :: a8 :: a9 :: a10 :: some d :: ls) h = ((evE C gl e (a0 :: a1 :: a2 :: a3 :: a4 :: a5 :: a6 :: a7 :: a8 :: a9 :: a10 :: some d :: ls) h).an (fun y h => ofO (augV o d y) h) ⟨⟩).aS (a0 :: a1 :: a2 :: a3 :: a4 :: a5 :: a6 :: a7 :: a8 :: a9 :: a10 :: some d :: ls) (fun v h => .nx (a0 :: a1 :: a2 :: a3 :: a4 :: a5 :: a6 :: a7 :: a8 :: a9 :: a10 :: some v :: ls) h) ⟨⟩ := sa_loc rfl
theorem pre11 {a0 a1 a2 a3 a4 a5 a6 a7 a8 a9 a10 e0 : Option D} : preS (some 11) (a0 :: a1 :: a2 :: a3 :: a4 :: a5 :: a6 :: a7 :: a8 :: a9 :: a10 :: e0 :: ls) = some (a0 :: a1 :: a2 :: a3 :: a4 :: a5 :: a6 :: a7 :: a8 :: a9 :: a10 :: none :: ls) := pre_loc (by simp only [List.length_cons]; omega)
theorem set11 {a0 a1 a2 a3 a4 a5 a6 a7 a8 a9 a10 e0 : Option D} {e1 : Option D} : List.set (a0 :: a1 :: a2 :: a3 :: a4 :: a5 :: a6 :: a7 :: a8 :: a9 :: a10 :: e0 :: ls) 11 e1 = a0 :: a1 :: a2 :: a3 :: a4 :: a5 :: a6 :: a7 :: a8 :: a9 :: a10 :: e1 :: ls := rfl
theorem t_loc12 {a0 a1 a2 a3 a4 a5 a6 a7 a8 a9 a10 a11 e0 : Option D} {d : D} : bindT (.loc 12) d (a0 :: a1 :: a2 :: a3 :: a4 :: a5 :: a6 :: a7 :: a8 :: a9 :: a10 :: a11 :: e0 :: ls) = some (a0 :: a1 :: a2 :: a3 :: a4 :: a5 :: a6 :: a7 :: a8 :: a9 :: a10 :: a11 :: some d :: ls) := bt_loc (by simp only [List.length_cons]; omega)
theorem t_cons12 {a0 a1 a2 a3 a4 a5 a6 a7 a8 a9 a10 a11 e0 : Option D} {d : D} {t : E} {l : List D} : bindT.bindTs (.cons (.loc 12) t) (d :: l) (a0 :: a1 :: a2 :: a3 :: a4 :: a5 :: a6 :: a7 :: a8 :: a9 :: a10 :: a11 :: e0 :: ls) = bindT.bindTs t l (a0 :: a1 :: a2 :: a3 :: a4 :: a5 :: a6 :: a7 :: a8 :: a9 :: a10 :: a11 :: some d :: ls) := bt_cons (by simp only [List.length_cons]; omega)
theorem x_clv12 {a0 a1 a2 a3 a4 a5 a6 a7 a8 a9 a10 a11 : Option D} {f n : Nat} {a : E} : evE C gl (.clv 12 n a) (a0 :: a1 :: a2 :: a3 :: a4 :: a5 :: a6 :: a7 :: a8 :: a9 :: a10 :: a11 :: some (.fn f) :: ls) h = cnd (decide (f < n)) ((evA C gl a (a0 :: a1 :: a2 :: a3 :: a4 :: a5 :: a6 :: a7 :: a8 :: a9 :: a10 :: a11 :: some (.fn f) :: ls) h).an (fun l h => C f l h) ⟨⟩) .stk ⟨⟩ := clv_eq rfl
theorem s_aug12 {a0 a1 a2 a3 a4 a5 a6 a7 a8 a9 a10 a11 : Option D} {d : D} {o : BOp} {e : E} : evB xf gl X sub fuel (.aug 12 o e) C (a0 :: a1 :: a2 :: a3 :: a4 :: a5 :: a6 :: a7 :: a8 :: a9 :: a10 :: a11 :: some d :: ls) h = ((evE C gl e (a0 :: a1 :: a2 :: a3 :: a4 :: a5 :: a6 :: a7 :: a8 :: a9 :: a10 :: a11 :: some d :: ls) h).an (fun y h => ofO (augV o d y) h) ⟨⟩).aS (a0 :: a1 :: a2 :: a3 :: a4 :: a5 :: a6 :: a7 :: a8 :: a9 :: a10 :: a11 :: some d :: ls) (fun v h => .nx (a0 :: a1 :: a2 :: a3 :: a4 :: a5 :: a6 :: a7 :: a8 :: a9 :: a10 :: a11 :: some v :: ls) h) ⟨⟩ := sa_loc rfl
theorem pre12 {a0 a1 a2 a3 a4 a5 a6 a7 a8 a9 a10 a11 e0 : Option D} : preS (some 12) (a0 :: a1 :: a2 :: a3 :: a4 :: a5 :: a6 :: a7 :: a8 :: a9 :: a10 :: a11 :: e0 :: ls) = some (a0 :: a1 :: a2 :: a3 :: a4 :: a5 :: a6 :: a7 :: a8 :: a9 :: a10 :: a11 :: none :: ls) := pre_loc (by simp only [List.length_cons]; omega)
theorem set12 {a0 a1 a2 a3 a4 a5 a6 a7 a8 a9 a10 a11 e0 : Option D} {e1 : Option D} : List.set (a0 :: a1 :: a2 :: a3 :: a4 :: a5 :: a6 :: a7 :: a8 :: a9 :: a10 :: a11 :: e0 :: ls) 12 e1 = a0 :: a1 :: a2 :: a3 :: a4 :: a5 :: a6 :: a7 :: a8 :: a9 :: a10 :: a11 :: e1 :: ls := rfl
theorem t_loc13 {a0 a1 a2 a3 a4 a5 a6 a7 a8 a9 a10 a11 a12 e0 : Option D} {d : D} : bindT (.loc 13) d (a0 :: a1 :: a2 :: a3 :: a4 :: a5 :: a6 :: a7 :: a8 :: a9 :: a10 :: a11 :: a12 :: e0 :: ls) = some (a0 :: a1 :: a2 :: a3 :: a4 :: a5 :: a6 :: a7 :: a8 :: a9 :: a10 :: a11 :: a12 :: some d :: ls) := bt_loc (by simp only [List.length_cons]; omega)
theorem t_cons13 {a0 a1 a2 a3 a4 a5 a6 a7 a8 a9 a10 a11 a12 e0 : Option D} {d : D} {t : E} {l : List D} : bindT.bindTs (.cons (.loc 13) t) (d :: l) (a0 :: a1 :: a2 :: a3 :: a4 :: a5 :: a6 :: a7 :: a8 :: a9 :: a10 :: a11 :: a12 :: e0 :: ls) = bindT.bindTs t l (a0 :: a1 :: a2 :: a3 :: a4 :: a5 :: a6 :: a7 :: a8 :: a9 :: a10 :: a11 :: a12 :: some d :: ls) := bt_cons (by simp only [List.length_cons]; omega)
theorem x_clv13 {a0 a1 a2 a3 a4 a5 a6 a7 a8 a9 a10 a11 a12 : Option D} {f n : Nat} {a : E} : evE C gl (.clv 13 n a) (a0 :: a1 :: a2 :: a3 :: a4 :: a5 :: a6 :: a7 :: a8 :: a9 :: a10 :: a11 :: a12 :: some (.fn f) :: ls) h = cnd (decide (f < n)) ((evA C gl a (a0 :: a1 :: a2 :: a3 :: a4 :: a5 :: a6 :: a7 :: a8 :: a9 :: a10 :: a11 :: a12 :: some (.fn f) :: ls) h).an (fun l h => C f l h) ⟨⟩) .stk ⟨⟩ := clv_eq rfl
theorem s_aug13 {a0 a1 a2 a3 a4 a5 a6 a7 a8 a9 a10 a11 a12 : Option D} {d : D} {o : BOp} {e : E} : evB xf gl X sub fuel (.aug 13 o e) C (a0 :: a1 :: a2 :: a3 :: a4 :: a5 :: a6 :: a7 :: a8 :: a9 :: a10 :: a11 :: a12 :: some d :: ls) h = ((evE C gl e (a0 :: a1 :: a2 :: a3 :: a4 :: a5 :: a6 :: a7 :: a8 :: a9 :: a10 :: a11 :: a12 :: some d :: ls) h).an (fun y h => ofO (augV o d y) h) ⟨⟩).aS (a0 :: a1 :: a2 :: a3 :: a4 :: a5 :: a6 :: a7 :: a8 :: a9 :: a10 :: a11 :: a12 :: some d :: ls) (fun v h => .nx (a0 :: a1 :: a2 :: a3 :: a4 :: a5 :: a6 :: a7 :: a8 :: a9 :: a10 :: a11 :: a12 :: some v :: ls) h) ⟨⟩ := sa_loc rfl
theorem pre13 {a0 a1 a2 a3 a4 a5 a6 a7 a8 a9 a10 a11 a12 e0 : Option D} : preS (some 13) (a0 :: a1 :: a2 :: a3 :: a4 :: a5 :: a6 :: a7 :: a8 :: a9 :: a10 :: a11 :: a12 :: e0 :: ls) = some (a0 :: a1 :: a2 :: a3 :: a4 :: a5 :: a6 :: a7 :: a8 :: a9 :: a10 :: a11 :: a12 :: none :: ls) := pre_loc (by simp only [List.length_cons]; omega)
theorem set13 {a0 a1 a2 a3 a4 a5 a6 a7 a8 a9 a10 a11 a12 e0 : Option D} {e1 : Option D} : List.set (a0 :: a1 :: a2 :: a3 :: a4 :: a5 :: a6 :: a7 :: a8 :: a9 :: a10 :: a11 :: a12 :: e0 :: ls) 13 e1 = a0 :: a1 :: a2 :: a3 :: a4 :: a5 :: a6 :: a7 :: a8 :: a9 :: a10 :: a11 :: a12 :: e1 :: ls := rfl
theorem t_loc14 {a0 a1 a2 a3 a4 a5 a6 a7 a8 a9 a10 a11 a12 a13 e0 : Option D} {d : D} : bindT (.loc 14) d (a0 :: a1 :: a2 :: a3 :: a4 :: a5 :: a6 :: a7 :: a8 :: a9 :: a10 :: a11 :: a12 :: a13 :: e0 :: ls) = some (a0 :: a1 :: a2 :: a3 :: a4 :: a5 :: a6 :: a7 :: a8 :: a9 :: a10 :: a11 :: a12 :: a13 :: some d :: ls) := bt_loc (by simp only [List.length_cons]; omega)
theorem t_cons14 {a0 a1 a2 a3 a4 a5 a6 a7 a8 a9 a10 a11 a12 a13 e0 : Option D} {d : D} {t : E} {l : List D} : bindT.bindTs (.cons (.loc 14) t) (d :: l) (a0 :: a1 :: a2 :: a3 :: a4 :: a5 :: a6 :: a7 :: a8 :: a9 :: a10 :: a11 :: a12 :: a13 :: e0 :: ls) = bindT.bindTs t l (a0 :: a1 :: a2 :: a3 :: a4 :: a5 :: a6 :: a7 :: a8 :: a9 :: a10 :: a11 :: a12 :: a13 :: some d :: ls) := bt_cons (by simp only [List.length_cons]; omega)
theorem x_clv14 {a0 a1 a2 a3 a4 a5 a6 a7 a8 a9 a10 a11 a12 a13 : Option D} {f n : Nat} {a : E} : evE C gl (.clv 14 n a) (a0 :: a1 :: a2 :: a3 :: a4 :: a5 :: a6 :: a7 :: a8 :: a9 :: a10 :: a11 :: a12 :: a13 :: some (.fn f) :: ls) h = cnd (decide (f < n)) ((evA C gl a (a0 :: a1 :: a2 :: a3 :: a4 :: a5 :: a6 :: a7 :: a8 :: a9 :: a10 :: a11 :: a12 :: a13 :: some (.fn f) :: ls) h).an (fun l h => C f l h) ⟨⟩) .stk ⟨⟩ := clv_eq rfl
theorem s_aug14 {a0 a1 a2 a3 a4 a5 a6 a7 a8 a9 a10 a11 a12 a13 : Option D} {d : D} {o : BOp} {e : E} : evB xf gl X sub fuel (.aug 14 o e) C (a0 :: a1 :: a2 :: a3 :: a4 :: a5 :: a6 :: a7 :: a8 :: a9 :: a10 :: a11 :: a12 :: a13 :: some d :: ls) h = ((evE C gl e (a0 :: a1 :: a2 :: a3 :: a4 :: a5 :: a6 :: a7 :: a8 :: a9 :: a10 :: a11 :: a12 :: a13 :: some d :: ls) h).an (fun y h => ofO (augV o d y) h) ⟨⟩).aS (a0 :: a1 :: a2 :: a3 :: a4 :: a5 :: a6 :: a7 :: a8 :: a9 :: a10 :: a11 :: a12 :: a13 :: some d :: ls) (fun v h => .nx (a0 :: a1 :: a2 :: a3 :: a4 :: a5 :: a6 :: a7 :: a8 :: a9 :: a10 :: a11 :: a12 :: a13 :: some v :: ls) h) ⟨⟩ := sa_loc rfl
theorem pre14 {a0 a1 a2 a3 a4 a5 a6 a7 a8 a9 a10 a11 a12 a13 e0 : Option D} : preS (some 14) (a0 :: a1 :: a2 :: a3 :: a4 :: a5 :: a6 :: a7 :: a8 :: a9 :: a10 :: a11 :: a12 :: a13 :: e0 :: ls) = some (a0 :: a1 :: a2 :: a3 :: a4 :: a5 :: a6 :: a7 :: a8 :: a9 :: a10 :: a11 :: a12 :: a13 :: none :: ls) := pre_loc (by simp only [List.length_cons]; omega)
theorem set14 {a0 a1 a2 a3 a4 a5 a6 a7 a8 a9 a10 a11 a12 a13 e0 : Option D} {e1 : Option D} : List.set (a0 :: a1 :: a2 :: a3 :: a4 :: a5 :: a6 :: a7 :: a8 :: a9 :: a10 :: a11 :: a12 :: a13 :: e0 :: ls) 14 e1 = a0 :: a1 :: a2 :: a3 :: a4 :: a5 :: a6 :: a7 :: a8 :: a9 :: a10 :: a11 :: a12 :: a13 :: e1 :: ls := rfl
theorem t_loc15 {a0 a1 a2 a3 a4 a5 a6 a7 a8 a9 a10 a11 a12 a13 a14 e0 : Option D} {d : D} : bindT (.loc 15) d (a0 :: a1 :: a2 :: a3 :: a4 :: a5 :: a6 :: a7 :: a8 :: a9 :: a10 :: a11 :: a12 :: a13 :: a14 :: e0 :: ls) = some (a0 :: a1 :: a2 :: a3 :: a4 :: a5 :: a6 :: a7 :: a8 :: a9 :: a10 :: a11 :: a12 :: a13 :: a14 :: some d :: ls) := bt_loc (by simp only [List.length_cons]; omega)
theorem t_cons15 {a0 a1 a2 a3 a4 a5 a6 a7 a8 a9 a10 a11 a12 a13 a14 e0 : Option D} {d : D} {t : E} {l : List D} : bindT.bindTs (.cons (.loc 15) t) (d :: l) (a0 :: a1 :: a2 :: a3 :: a4 :: a5 :: a6 :: a7 :: a8 :: a9 :: a10 :: a11 :: a12 :: a13 :: a14 :: e0 :: ls) = bindT.bindTs t l (a0 :: a1 :: a2 :: a3 :: a4 :: a5 :: a6 :: a7 :: a8 :: a9 :: a10 :: a11 :: a12 :: a13 :: a14 :: some d :: ls) := bt_cons (by simp only [List.length_cons]; omega)
theorem x_clv15 {a0 a1 a2 a3 a4 a5 a6 a7 a8 a9 a10 a11 a12 a13 a14 : Option D} {f n : Nat} {a : E} : evE C gl (.clv 15 n a) (a0 :: a1 :: a2 :: a3 :: a4 :: a5 :: a6 :: a7 :: a8 :: a9 :: a10 :: a11 :: a12 :: a13 :: a14 :: some (.fn f) :: ls) h = cnd (decide (f < n)) ((evA C gl a (a0 :: a1 :: a2 :: a3 :: a4 :: a5 :: a6 :: a7 :: a8 :: a9 :: a10 :: a11 :: a12 :: a13 :: a14 :: some (.fn f) :: ls) h).an (fun l h => C f l h) ⟨⟩) .stk ⟨⟩ := clv_eq rfl
theorem s_aug15 {a0 a1 a2 a3 a4 a5 a6 a7 a8 a9 a10 a11 a12 a13 a14 : Option D} {d : D} {o : BOp} {e : E} : evB xf gl X sub fuel (.aug 15 o e) C (a0 :: a1 :: a2 :: a3 :: a4 :: a5 :: a6 :: a7 :: a8 :: a9 :: a10 :: a11 :: a12 :: a13 :: a14 :: some d :: ls) h = ((evE C gl e (a0 :: a1 :: a2 :: a3 :: a4 :: a5 :: a6 :: a7 :: a8 :: a9 :: a10 :: a11 :: a12 :: a13 :: a14 :: some d :: ls) h).an (fun y h => ofO (augV o d y) h) ⟨⟩).aS (a0 :: a1 :: a2 :: a3 :: a4 :: a5 :: a6 :: a7 :: a8 :: a9 :: a10 :: a11 :: a12 :: a13 :: a14 :: some d :: ls) (fun v h => .nx (a0 :: a1 :: a2 :: a3 :: a4 :: a5 :: a6 :: a7 :: a8 :: a9 :: a10 :: a11 :: a12 :: a13 :: a14 :: some v :: ls) h) ⟨⟩ := sa_loc rfl
theorem pre15 {a0 a1 a2 a3 a4 a5 a6 a7 a8 a9 a10 a11 a12 a13 a14 e0 : Option D} : preS (some 15) (a0 :: a1 :: a2 :: a3 :: a4 :: a5 :: a6 :: a7 :: a8 :: a9 :: a10 :: a11 :: a12 :: a13 :: a14 :: e0 :: ls) = some (a0 :: a1 :: a2 :: a3 :: a4 :: a5 :: a6 :: a7 :: a8 :: a9 :: a10 :: a11 :: a12 :: a13 :: a14 :: none :: ls) := pre_loc (by simp only [List.length_cons]; omega)
theorem set15 {a0 a1 a2 a3 a4 a5 a6 a7 a8 a9 a10 a11 a12 a13 a14 e0 : Option D} {e1 : Option D} : List.set (a0 :: a1 :: a2 :: a3 :: a4 :: a5 :: a6 :: a7 :: a8 :: a9 :: a10 :: a11 :: a12 :: a13 :: a14 :: e0 :: ls) 15 e1 = a0 :: a1 :: a2 :: a3 :: a4 :: a5 :: a6 :: a7 :: a8 :: a9 :: a10 :: a11 :: a12 :: a13 :: a14 :: e1 :: ls := rfl
theorem t_loc16 {a0 a1 a2 a3 a4 a5 a6 a7 a8 a9 a10 a11 a12 a13 a14 a15 e0 : Option D} {d : D} : bindT (.loc 16) d (a0 :: a1 :: a2 :: a3 :: a4 :: a5 :: a6 :: a7 :: a8 :: a9 :: a10 :: a11 :: a12 :: a13 :: a14 :: a15 :: e0 :: ls) = some (a0 :: a1 :: a2 :: a3 :: a4 :: a5 :: a6 :: a7 :: a8 :: a9 :: a10 :: a11 :: a12 :: a13 :: a14 :: a15 :: some d :: ls) := bt_loc (by simp only [List.length_cons]; omega)
theorem t_cons16 {a0 a1 a2 a3 a4 a5 a6 a7 a8 a9 a10 a11 a12 a13 a14 a15 e0 : Option D} {d : D} {t : E} {l : List D} : bindT.bindTs (.cons (.loc 16) t) (d :: l) (a0 :: a1 :: a2 :: a3 :: a4 :: a5 :: a6 :: a7 :: a8 :: a9 :: a10 :: a11 :: a12 :: a13 :: a14 :: a15 :: e0 :: ls) = bindT.bindTs t l (a0 :: a1 :: a2 :: a3 :: a4 :: a5 :: a6 :: a7 :: a8 :: a9 :: a10 :: a11 :: a12 :: a13 :: a14 :: a15 :: some d :: ls) := bt_cons (by simp only [List.length_cons]; omega)
theorem x_clv16 {a0 a1 a2 a3 a4 a5 a6 a7 a8 a9 a10 a11 a12 a13 a14 a15 : Option D} {f n : Nat} {a : E} : evE C gl (.clv 16 n a) (a0 :: a1 :: a2 :: a3 :: a4 :: a5 :: a6 :: a7 :: a8 :: a9 :: a10 :: a11 :: a12 :: a13 :: a14 :: a15 :: some (.fn f) :: ls) h = cnd (decide (f < n)) ((evA C gl a (a0 :: a1 :: a2 :: a3 :: a4 :: a5 :: a6 :: a7 :: a8 :: a9 :: a10 :: a11 :: a12 :: a13 :: a14 :: a15 :: some (.fn f) :: ls) h).an (fun l h => C f l h) ⟨⟩) .stk ⟨⟩ := clv_eq rfl
theorem s_aug16 {a0 a1 a2 a3 a4 a5 a6 a7 a8 a9 a10 a11 a12 a13 a14 a15 : Option D} {d : D} {o : BOp} {e : E} : evB xf gl X sub fuel (.aug 16 o e) C (a0 :: a1 :: a2 :: a3 :: a4 :: a5 :: a6 :: a7 :: a8 :: a9 :: a10 :: a11 :: a12 :: a13 :: a14 :: a15 :: some d :: ls) h = ((evE C gl e (a0 :: a1 :: a2 :: a3 :: a4 :: a5 :: a6 :: a7 :: a8 :: a9 :: a10 :: a11 :: a12 :: a13 :: a14 :: a15 :: some d :: ls) h).an (fun y h => ofO (augV o d y) h) ⟨⟩).aS (a0 :: a1 :: a2 :: a3 :: a4 :: a5 :: a6 :: a7 :: a8 :: a9 :: a10 :: a11 :: a12 :: a13 :: a14 :: a15 :: some d :: ls) (fun v h => .nx (a0 :: a1 :: a2 :: a3 :: a4 :: a5 :: a6 :: a7 :: a8 :: a9 :: a10 :: a11 :: a12 :: a13 :: a14 :: a15 :: some v :: ls) h) ⟨⟩ := sa_loc rfl
theorem pre16 {a0 a1 a2 a3 a4 a5 a6 a7 a8 a9 a10 a11 a12 a13 a14 a15 e0 : Option D} : preS (some 16) (a0 :: a1 :: a2 :: a3 :: a4 :: a5 :: a6 :: a7 :: a8 :: a9 :: a10 :: a11 :: a12 :: a13 :: a14 :: a15 :: e0 :: ls) = some (a0 :: a1 :: a2 :: a3 :: a4 :: a5 :: a6 :: a7 :: a8 :: a9 :: a10 :: a11 :: a12 :: a13 :: a14 :: a15 :: none :: ls) := pre_loc (by simp only [List.length_cons]; omega)
theorem set16 {a0 a1 a2 a3 a4 a5 a6 a7 a8 a9 a10 a11 a12 a13 a14 a15 e0 : Option D} {e1 : Option D} : List.set (a0 :: a1 :: a2 :: a3 :: a4 :: a5 :: a6 :: a7 :: a8 :: a9 :: a10 :: a11 :: a12 :: a13 :: a14 :: a15 :: e0 :: ls) 16 e1 = a0 :: a1 :: a2 :: a3 :: a4 :: a5 :: a6 :: a7 :: a8 :: a9 :: a10 :: a11 :: a12 :: a13 :: a14 :: a15 :: e1 :: ls := rfl
theorem t_loc17 {a0 a1 a2 a3 a4 a5 a6 a7 a8 a9 a10 a11 a12 a13 a14 a15 a16 e0 : Option D} {d : D} : bindT (.loc 17) d (a0 :: a1 :: a2 :: a3 :: a4 :: a5 :: a6 :: a7 :: a8 :: a9 :: a10 :: a11 :: a12 :: a13 :: a14 :: a15 :: a16 :: e0 :: ls) = some (a0 :: a1 :: a2 :: a3 :: a4 :: a5 :: a6 :: a7 :: a8 :: a9 :: a10 :: a11 :: a12 :: a13 :: a14 :: a15 :: a16 :: some d :: ls) := bt_loc (by simp only [List.length_cons]; omega)
theorem t_cons17 {a0 a1 a2 a3 a4 a5 a6 a7 a8 a9 a10 a11 a12 a13 a14 a15 a16 e0 : Option D} {d : D} {t : E} {l : List D} : bindT.bindTs (.cons (.loc 17) t) (d :: l) (a0 :: a1 :: a2 :: a3 :: a4 :: a5 :: a6 :: a7 :: a8 :: a9 :: a10 :: a11 :: a12 :: a13 :: a14 :: a15 :: a16 :: e0 :: ls) = bindT.bindTs t l (a0 :: a1 :: a2 :: a3 :: a4 :: a5 :: a6 :: a7 :: a8 :: a9 :: a10 :: a11 :: a12 :: a13 :: a14 :: a15 :: a16 :: some d :: ls) := bt_cons (by simp only [List.length_cons]; omega)
theorem x_clv17 {a0 a1 a2 a3 a4 a5 a6 a7 a8 a9 a10 a11 a12 a13 a14 a15 a16 : Option D} {f n : Nat} {a : E} : evE C gl (.clv 17 n a) (a0 :: a1 :: a2 :: a3 :: a4 :: a5 :: a6 :: a7 :: a8 :: a9 :: a10 :: a11 :: a12 :: a13 :: a14 :: a15 :: a16 :: some (.fn f) :: ls) h = cnd (decide (f < n)) ((evA C gl a (a0 :: a1 :: a2 :: a3 :: a4 :: a5 :: a6 :: a7 :: a8 :: a9 :: a10 :: a11 :: a12 :: a13 :: a14 :: a15 :: a16 :: some (.fn f) :: ls) h).an (fun l h => C f l h) ⟨⟩) .stk ⟨⟩ := clv_eq rfl
theorem s_aug17 {a0 a1 a2 a3 a4 a5 a6 a7 a8 a9 a10 a11 a12 a13 a14 a15 a16 : Option D} {d : D} {o : BOp} {e : E} : evB xf gl X sub fuel (.aug 17 o e) C (a0 :: a1 :: a2 :: a3 :: a4 :: a5 :: a6 :: a7 :: a8 :: a9 :: a10 :: a11 :: a12 :: a13 :: a14 :: a15 :: a16 :: some d :: ls) h = ((evE C gl e (a0 :: a1 :: a2 :: a3 :: a4 :: a5 :: a6 :: a7 :: a8 :: a9 :: a10 :: a11 :: a12 :: a13 :: a14 :: a15 :: a16 :: some d :: ls) h).an (fun y h => ofO (augV o d y) h) ⟨⟩).aS (a0 :: a1 :: a2 :: a3 :: a4 :: a5 :: a6 :: a7 :: a8 :: a9 :: a10 :: a11 :: a12 :: a13 :: a14 :: a15 :: a16 :: some d :: ls) (fun v h => .nx (a0 :: a1 :: a2 :: a3 :: a4 :: a5 :: a6 :: a7 :: a8 :: a9 :: a10 :: a11 :: a12 :: a13 :: a14 :: a15 :: a16 :: some v :: ls) h) ⟨⟩ := sa_loc rfl
theorem pre17 {a0 a1 a2 a3 a4 a5 a6 a7 a8 a9 a10 a11 a12 a13 a14 a15 a16 e0 : Option D} : preS (some 17) (a0 :: a1 :: a2 :: a3 :: a4 :: a5 :: a6 :: a7 :: a8 :: a9 :: a10 :: a11 :: a12 :: a13 :: a14 :: a15 :: a16 :: e0 :: ls) = some (a0 :: a1 :: a2 :: a3 :: a4 :: a5 :: a6 :: a7 :: a8 :: a9 :: a10 :: a11 :: a12 :: a13 :: a14 :: a15 :: a16 :: none :: ls) := pre_loc (by simp only [List.length_cons]; omega)
theorem set17 {a0 a1 a2 a3 a4 a5 a6 a7 a8 a9 a10 a11 a12 a13 a14 a15 a16 e0 : Option D} {e1 : Option D} : List.set (a0 :: a1 :: a2 :: a3 :: a4 :: a5 :: a6 :: a7 :: a8 :: a9 :: a10 :: a11 :: a12 :: a13 :: a14 :: a15 :: a16 :: e0 :: ls) 17 e1 = a0 :: a1 :: a2 :: a3 :: a4 :: a5 :: a6 :: a7 :: a8 :: a9 :: a10 :: a11 :: a12 :: a13 :: a14 :: a15 :: a16 :: e1 :: ls := rfl
theorem t_loc18 {a0 a1 a2 a3 a4 a5 a6 a7 a8 a9 a10 a11 a12 a13 a14 a15 a16 a17 e0 : Option D} {d : D} : bindT (.loc 18) d (a0 :: a1 :: a2 :: a3 :: a4 :: a5 :: a6 :: a7 :: a8 :: a9 :: a10 :: a11 :: a12 :: a13 :: a14 :: a15 :: a16 :: a17 :: e0 :: ls) = some (a0 :: a1 :: a2 :: a3 :: a4 :: a5 :: a6 :: a7 :: a8 :: a9 :: a10 :: a11 :: a12 :: a13 :: a14 :: a15 :: a16 :: a17 :: some d :: ls) := bt_loc (by simp only [List.length_cons]; omega)
theorem t_cons18 {a0 a1 a2 a3 a4 a5 a6 a7 a8 a9 a10 a11 a12 a13 a14 a15 a16 a17 e0 : Option D} {d : D} {t : E} {l : List D} : bindT.bindTs (.cons (.loc 18) t) (d :: l) (a0 :: a1 :: a2 :: a3 :: a4 :: a5 :: a6 :: a7 :: a8 :: a9 :: a10 :: a11 :: a12 :: a13 :: a14 :: a15 :: a16 :: a17 :: e0 :: ls) = bindT.bindTs t l (a0 :: a1 :: a2 :: a3 :: a4 :: a5 :: a6 :: a7 :: a8 :: a9 :: a10 :: a11 :: a12 :: a13 :: a14 :: a15 :: a16 :: a17 :: some d :: ls) := bt_cons (by simp only [List.length_cons]; omega)
theorem x_clv18 {a0 a1 a2 a3 a4 a5 a6 a7 a8 a9 a10 a11 a12 a13 a14 a15 a16 a17 : Option D} {f n : Nat} {a : E} : evE C gl (.clv 18 n a) (a0 :: a1 :: a2 :: a3 :: a4 :: a5 :: a6 :: a7 :: a8 :: a9 :: a10 :: a11 :: a12 :: a13 :: a14 :: a15 :: a16 :: a17 :: some (.fn f) :: ls) h = cnd (decide (f < n)) ((evA C gl a (a0 :: a1 :: a2 :: a3 :: a4 :: a5 :: a6 :: a7 :: a8 :: a9 :: a10 :: a11 :: a12 :: a13 :: a14 :: a15 :: a16 :: a17 :: some (.fn f) :: ls) h).an (fun l h => C f l h) ⟨⟩) .stk ⟨⟩ := clv_eq rfl
theorem s_aug18 {a0 a1 a2 a3 a4 a5 a6 a7 a8 a9 a10 a11 a12 a13 a14 a15 a16 a17 : Option D} {d : D} {o : BOp} {e : E} : evB xf gl X sub fuel (.aug 18 o e) C (a0 :: a1 :: a2 :: a3 :: a4 :: a5 :: a6 :: a7 :: a8 :: a9 :: a10 :: a11 :: a12 :: a13 :: a14 :: a15 :: a16 :: a17 :: some d :: ls) h = ((evE C gl e (a0 :: a1 :: a2 :: a3 :: a4 :: a5 :: a6 :: a7 :: a8 :: a9 :: a10 :: a11 :: a12 :: a13 :: a14 :: a15 :: a16 :: a17 :: some d :: ls) h).an (fun y h => ofO (augV o d y) h) ⟨⟩).aS (a0 :: a1 :: a2 :: a3 :: a4 :: a5 :: a6 :: a7 :: a8 :: a9 :: a10 :: a11 :: a12 :: a13 :: a14 :: a15 :: a16 :: a17 :: some d :: ls) (fun v h => .nx (a0 :: a1 :: a2 :: a3 :: a4 :: a5 :: a6 :: a7 :: a8 :: a9 :: a10 :: a11 :: a12 :: a13 :: a14 :: a15 :: a16 :: a17 :: some v :: ls) h) ⟨⟩ := sa_loc rfl
theorem pre18 {a0 a1 a2 a3 a4 a5 a6 a7 a8 a9 a10 a11 a12 a13 a14 a15 a16 a17 e0 : Option D} : preS (some 18) (a0 :: a1 :: a2 :: a3 :: a4 :: a5 :: a6 :: a7 :: a8 :: a9 :: a10 :: a11 :: a12 :: a13 :: a14 :: a15 :: a16 :: a17 :: e0 :: ls) = some (a0 :: a1 :: a2 :: a3 :: a4 :: a5 :: a6 :: a7 :: a8 :: a9 :: a10 :: a11 :: a12 :: a13 :: a14 :: a15 :: a16 :: a17 :: none :: ls) := pre_loc (by simp only [List.length_cons]; omega)
theorem set18 {a0 a1 a2 a3 a4 a5 a6 a7 a8 a9 a10 a11 a12 a13 a14 a15 a16 a17 e0 : Option D} {e1 : Option D} : List.set (a0 :: a1 :: a2 :: a3 :: a4 :: a5 :: a6 :: a7 :: a8 :: a9 :: a10 :: a11 :: a12 :: a13 :: a14 :: a15 :: a16 :: a17 :: e0 :: ls) 18 e1 = a0 :: a1 :: a2 :: a3 :: a4 :: a5 :: a6 :: a7 :: a8 :: a9 :: a10 :: a11 :: a12 :: a13 :: a14 :: a15 :: a16 :: a17 :: e1 :: ls := rfl
theorem t_loc19 {a0 a1 a2 a3 a4 a5 a6 a7 a8 a9 a10 a11 a12 a13 a14 a15 a16 a17 a18 e0 : Option D} {d : D} : bindT (.loc 19) d (a0 :: a1 :: a2 :: a3 :: a4 :: a5 :: a6 :: a7 :: a8 :: a9 :: a10 :: a11 :: a12 :: a13 :: a14 :: a15 :: a16 :: a17 :: a18 :: e0 :: ls) = some (a0 :: a1 :: a2 :: a3 :: a4 :: a5 :: a6 :: a7 :: a8 :: a9 :: a10 :: a11 :: a12 :: a13 :: a14 :: a15 :: a16 :: a17 :: a18 :: some d :: ls) := bt_loc (by simp only [List.length_cons]; omega)
theorem t_cons19 {a0 a1 a2 a3 a4 a5 a6 a7 a8 a9 a10 a11 a12 a13 a14 a15 a16 a17 a18 e0 : Option D} {d : D} {t : E} {l : List D} : bindT.bindTs (.cons (.loc 19) t) (d :: l) (a0 :: a1 :: a2 :: a3 :: a4 :: a5 :: a6 :: a7 :: a8 :: a9 :: a10 :: a11 :: a12 :: a13 :: a14 :: a15 :: a16 :: a17 :: a18 :: e0 :: ls) = bindT.bindTs t l (a0 :: a1 :: a2 :: a3 :: a4 :: a5 :: a6 :: a7 :: a8 :: a9 :: a10 :: a11 :: a12 :: a13 :: a14 :: a15 :: a16 :: a17 :: a18 :: some d :: ls) := bt_cons (by simp only [List.length_cons]; omega)
theorem x_clv19 {a0 a1 a2 a3 a4 a5 a6 a7 a8 a9 a10 a11 a12 a13 a14 a15 a16 a17 a18 : Option D} {f n : Nat} {a : E} : evE C gl (.clv 19 n a) (a0 :: a1 :: a2 :: a3 :: a4 :: a5 :: a6 :: a7 :: a8 :: a9 :: a10 :: a11 :: a12 :: a13 :: a14 :: a15 :: a16 :: a17 :: a18 :: some (.fn f) :: ls) h = cnd (decide (f < n)) ((evA C gl a (a0 :: a1 :: a2 :: a3 :: a4 :: a5 :: a6 :: a7 :: a8 :: a9 :: a10 :: a11 :: a12 :: a13 :: a14 :: a15 :: a16 :: a17 :: a18 :: some (.fn f) :: ls) h).an (fun l h => C f l h) ⟨⟩) .stk ⟨⟩ := clv_eq rfl
theorem s_aug19 {a0 a1 a2 a3 a4 a5 a6 a7 a8 a9 a10 a11 a12 a13 a14 a15 a16 a17 a18 : Option D} {d : D} {o : BOp} {e : E} : evB xf gl X sub fuel (.aug 19 o e) C (a0 :: a1 :: a2 :: a3 :: a4 :: a5 :: a6 :: a7 :: a8 :: a9 :: a10 :: a11 :: a12 :: a13 :: a14 :: a15 :: a16 :: a17 :: a18 :: some d :: ls) h = ((evE C gl e (a0 :: a1 :: a2 :: a3 :: a4 :: a5 :: a6 :: a7 :: a8 :: a9 :: a10 :: a11 :: a12 :: a13 :: a14 :: a15 :: a16 :: a17 :: a18 :: some d :: ls) h).an (fun y h => ofO (augV o d y) h) ⟨⟩).aS (a0 :: a1 :: a2 :: a3 :: a4 :: a5 :: a6 :: a7 :: a8 :: a9 :: a10 :: a11 :: a12 :: a13 :: a14 :: a15 :: a16 :: a17 :: a18 :: some d :: ls) (fun v h => .nx (a0 :: a1 :: a2 :: a3 :: a4 :: a5 :: a6 :: a7 :: a8 :: a9 :: a10 :: a11 :: a12 :: a13 :: a14 :: a15 :: a16 :: a17 :: a18 :: some v :: ls) h) ⟨⟩ := sa_loc rfl
theorem pre19 {a0 a1 a2 a3 a4 a5 a6 a7 a8 a9 a10 a11 a12 a13 a14 a15 a16 a17 a18 e0 : Option D} : preS (some 19) (a0 :: a1 :: a2 :: a3 :: a4 :: a5 :: a6 :: a7 :: a8 :: a9 :: a10 :: a11 :: a12 :: a13 :: a14 :: a15 :: a16 :: a17 :: a18 :: e0 :: ls) = some (a0 :: a1 :: a2 :: a3 :: a4 :: a5 :: a6 :: a7 :: a8 :: a9 :: a10 :: a11 :: a12 :: a13 :: a14 :: a15 :: a16 :: a17 :: a18 :: none :: ls) := pre_loc (by simp only [List.length_cons]; omega)
theorem set19 {a0 a1 a2 a3 a4 a5 a6 a7 a8 a9 a10 a11 a12 a13 a14 a15 a16 a17 a18 e0 : Option D} {e1 : Option D} : List.set (a0 :: a1 :: a2 :: a3 :: a4 :: a5 :: a6 :: a7 :: a8 :: a9 :: a10 :: a11 :: a12 :: a13 :: a14 :: a15 :: a16 :: a17 :: a18 :: e0 :: ls) 19 e1 = a0 :: a1 :: a2 :: a3 :: a4 :: a5 :: a6 :: a7 :: a8 :: a9 :: a10 :: a11 :: a12 :: a13 :: a14 :: a15 :: a16 :: a17 :: a18 :: e1 :: ls := rfl
theorem t_loc20 {a0 a1 a2 a3 a4 a5 a6 a7 a8 a9 a10 a11 a12 a13 a14 a15 a16 a17 a18 a19 e0 : Option D} {d : D} : bindT (.loc 20) d (a0 :: a1 :: a2 :: a3 :: a4 :: a5 :: a6 :: a7 :: a8 :: a9 :: a10 :: a11 :: a12 :: a13 :: a14 :: a15 :: a16 :: a17 :: a18 :: a19 :: e0 :: ls) = some (a0 :: a1 :: a2 :: a3 :: a4 :: a5 :: a6 :: a7 :: a8 :: a9 :: a10 :: a11 :: a12 :: a13 :: a14 :: a15 :: a16 :: a17 :: a18 :: a19 :: some d :: ls) := bt_loc (by simp only [List.length_cons]; omega)
theorem t_cons20 {a0 a1 a2 a3 a4 a5 a6 a7 a8 a9 a10 a11 a12 a13 a14 a15 a16 a17 a18 a19 e0 : Option D} {d : D} {t : E} {l : List D} : bindT.bindTs (.cons (.loc 20) t) (d :: l) (a0 :: a1 :: a2 :: a3 :: a4 :: a5 :: a6 :: a7 :: a8 :: a9 :: a10 :: a11 :: a12 :: a13 :: a14 :: a15 :: a16 :: a17 :: a18 :: a19 :: e0 :: ls) = bindT.bindTs t l (a0 :: a1 :: a2 :: a3 :: a4 :: a5 :: a6 :: a7 :: a8 :: a9 :: a10 :: a11 :: a12 :: a13 :: a14 :: a15 :: a16 :: a17 :: a18 :: a19 :: some d :: ls) := bt_cons (by simp only [List.length_cons]; omega)
theorem x_clv20 {a0 a1 a2 a3 a4 a5 a6 a7 a8 a9 a10 a11 a12 a13 a14 a15 a16 a17 a18 a19 : Option D} {f n : Nat} {a : E} : evE C gl (.clv 20 n a) (a0 :: a1 :: a2 :: a3 :: a4 :: a5 :: a6 :: a7 :: a8 :: a9 :: a10 :: a11 :: a12 :: a13 :: a14 :: a15 :: a16 :: a17 :: a18 :: a19 :: some (.fn f) :: ls) h = cnd (decide (f < n)) ((evA C gl a (a0 :: a1 :: a2 :: a3 :: a4 :: a5 :: a6 :: a7 :: a8 :: a9 :: a10 :: a11 :: a12 :: a13 :: a14 :: a15 :: a16 :: a17 :: a18 :: a19 :: some (.fn f) :: ls) h).an (fun l h => C f l h) ⟨⟩) .stk ⟨⟩ := clv_eq rfl
theorem s_aug20 {a0 a1 a2 a3 a4 a5 a6 a7 a8 a9 a10 a11 a12 a13 a14 a15 a16 a17 a18 a19 : Option D} {d : D} {o : BOp} {e : E} : evB xf gl X sub fuel (.aug 20 o e) C (a0 :: a1 :: a2 :: a3 :: a4 :: a5 :: a6 :: a7 :: a8 :: a9 :: a10 :: a11 :: a12 :: a13 :: a14 :: a15 :: a16 :: a17 :: a18 :: a19 :: some d :: ls) h = ((evE C gl e (a0 :: a1 :: a2 :: a3 :: a4 :: a5 :: a6 :: a7 :: a8 :: a9 :: a10 :: a11 :: a12 :: a13 :: a14 :: a15 :: a16 :: a17 :: a18 :: a19 :: some d :: ls) h).an (fun y h => ofO (augV o d y) h) ⟨⟩).aS (a0 :: a1 :: a2 :: a3 :: a4 :: a5 :: a6 :: a7 :: a8 :: a9 :: a10 :: a11 :: a12 :: a13 :: a14 :: a15 :: a16 :: a17 :: a18 :: a19 :: some d :: ls) (fun v h => .nx (a0 :: a1 :: a2 :: a3 :: a4 :: a5 :: a6 :: a7 :: a8 :: a9 :: a10 :: a11 :: a12 :: a13 :: a14 :: a15 :: a16 :: a17 :: a18 :: a19 :: some v :: ls) h) ⟨⟩ := sa_loc rfl
theorem pre20 {a0 a1 a2 a3 a4 a5 a6 a7 a8 a9 a10 a11 a12 a13 a14 a15 a16 a17 a18 a19 e0 : Option D} : preS (some 20) (a0 :: a1 :: a2 :: a3 :: a4 :: a5 :: a6 :: a7 :: a8 :: a9 :: a10 :: a11 :: a12 :: a13 :: a14 :: a15 :: a16 :: a17 :: a18 :: a19 :: e0 :: ls) = some (a0 :: a1 :: a2 :: a3 :: a4 :: a5 :: a6 :: a7 :: a8 :: a9 :: a10 :: a11 :: a12 :: a13 :: a14 :: a15 :: a16 :: a17 :: a18 :: a19 :: none :: ls) := pre_loc (by simp only [List.length_cons]; omega)
theorem set20 {a0 a1 a2 a3 a4 a5 a6 a7 a8 a9 a10 a11 a12 a13 a14 a15 a16 a17 a18 a19 e0 : Option D} {e1 : Option D} : List.set (a0 :: a1 :: a2 :: a3 :: a4 :: a5 :: a6 :: a7 :: a8 :: a9 :: a10 :: a11 :: a12 :: a13 :: a14 :: a15 :: a16 :: a17 :: a18 :: a19 :: e0 :: ls) 20 e1 = a0 :: a1 :: a2 :: a3 :: a4 :: a5 :: a6 :: a7 :: a8 :: a9 :: a10 :: a11 :: a12 :: a13 :: a14 :: a15 :: a16 :: a17 :: a18 :: a19 :: e1 :: ls := rfl
theorem t_loc21 {a0 a1 a2 a3 a4 a5 a6 a7 a8 a9 a10 a11 a12 a13 a14 a15 a16 a17 a18 a19 a20 e0 : Option D} {d : D} : bindT (.loc 21) d (a0 :: a1 :: a2 :: a3 :: a4 :: a5 :: a6 :: a7 :: a8 :: a9 :: a10 :: a11 :: a12 :: a13 :: a14 :: a15 :: a16 :: a17 :: a18 :: a19 :: a20 :: e0 :: ls) = some (a0 :: a1 :: a2 :: a3 :: a4 :: a5 :: a6 :: a7 :: a8 :: a9 :: a10 :: a11 :: a12 :: a13 :: a14 :: a15 :: a16 :: a17 :: a18 :: a19 :: a20 :: some d :: ls) := bt_loc (by simp only [List.length_cons]; omega)
theorem t_cons21 {a0 a1 a2 a3 a4 a5 a6 a7 a8 a9 a10 a11 a12 a13 a14 a15 a16 a17 a18 a19 a20 e0 : Option D} {d : D} {t : E} {l : List D} : bindT.bindTs (.cons (.loc 21) t) (d :: l) (a0 :: a1 :: a2 :: a3 :: a4 :: a5 :: a6 :: a7 :: a8 :: a9 :: a10 :: a11 :: a12 :: a13 :: a14 :: a15 :: a16 :: a17 :: a18 :: a19 :: a20 :: e0 :: ls) = bindT.bindTs t l (a0 :: a1 :: a2 :: a3 :: a4 :: a5 :: a6 :: a7 :: a8 :: a9 :: a10 :: a11 :: a12 :: a13 :: a14 :: a15 :: a16 :: a17 :: a18 :: a19 :: a20 :: some d :: ls) := bt_cons (by simp only [List.length_cons]; omega)
theorem x_clv21 {a0 a1 a2 a3 a4 a5 a6 a7 a8 a9 a10 a11 a12 a13 a14 a15 a16 a17 a18 a19 a20 : Option D} {f n : Nat} {a : E} : evE C gl (.clv 21 n a) (a0 :: a1 :: a2 :: a3 :: a4 :: a5 :: a6 :: a7 :: a8 :: a9 :: a10 :: a11 :: a12 :: a13 :: a14 :: a15 :: a16 :: a17 :: a18 :: a19 :: a20 :: some (.fn f) :: ls) h = cnd (decide (f < n)) ((evA C gl a (a0 :: a1 :: a2 :: a3 :: a4 :: a5 :: a6 :: a7 :: a8 :: a9 :: a10 :: a11 :: a12 :: a13 :: a14 :: a15 :: a16 :: a17 :: a18 :: a19 :: a20 :: some (.fn f) :: ls) h).an (fun l h => C f l h) ⟨⟩) .stk ⟨⟩ := clv_eq rfl
theorem s_aug21 {a0 a1 a2 a3 a4 a5 a6 a7 a8 a9 a10 a11 a12 a13 a14 a15 a16 a17 a18 a19 a20 : Option D} {d : D} {o : BOp} {e : E} : evB xf gl X sub fuel (.aug 21 o e) C (a0 :: a1 :: a2 :: a3 :: a4 :: a5 :: a6 :: a7 :: a8 :: a9 :: a10 :: a11 :: a12 :: a13 :: a14 :: a15 :: a16 :: a17 :: a18 :: a19 :: a20 :: some d :: ls) h = ((evE C gl e (a0 :: a1 :: a2 :: a3 :: a4 :: a5 :: a6 :: a7 :: a8 :: a9 :: a10 :: a11 :: a12 :: a13 :: a14 :: a15 :: a16 :: a17 :: a18 :: a19 :: a20 :: some d :: ls) h).an (fun y h => ofO (augV o d y) h) ⟨⟩).aS (a0 :: a1 :: a2 :: a3 :: a4 :: a5 :: a6 :: a7 :: a8 :: a9 :: a10 :: a11 :: a12 :: a13 :: a14 :: a15 :: a16 :: a17 :: a18 :: a19 :: a20 :: some d :: ls) (fun v h => .nx (a0 :: a1 :: a2 :: a3 :: a4 :: a5 :: a6 :: a7 :: a8 :: a9 :: a10 :: a11 :: a12 :: a13 :: a14 :: a15 :: a16 :: a17 :: a18 :: a19 :: a20 :: some v :: ls) h) ⟨⟩ := sa_loc rfl
theorem pre21 {a0 a1 a2 a3 a4 a5 a6 a7 a8 a9 a10 a11 a12 a13 a14 a15 a16 a17 a18 a19 a20 e0 : Option D} : preS (some 21) (a0 :: a1 :: a2 :: a3 :: a4 :: a5 :: a6 :: a7 :: a8 :: a9 :: a10 :: a11 :: a12 :: a13 :: a14 :: a15 :: a16 :: a17 :: a18 :: a19 :: a20 :: e0 :: ls) = some (a0 :: a1 :: a2 :: a3 :: a4 :: a5 :: a6 :: a7 :: a8 :: a9 :: a10 :: a11 :: a12 :: a13 :: a14 :: a15 :: a16 :: a17 :: a18 :: a19 :: a20 :: none :: ls) := pre_loc (by simp only [List.length_cons]; omega)
theorem set21 {a0 a1 a2 a3 a4 a5 a6 a7 a8 a9 a10 a11 a12 a13 a14 a15 a16 a17 a18 a19 a20 e0 : Option D} {e1 : Option D} : List.set (a0 :: a1 :: a2 :: a3 :: a4 :: a5 :: a6 :: a7 :: a8 :: a9 :: a10 :: a11 :: a12 :: a13 :: a14 :: a15 :: a16 :: a17 :: a18 :: a19 :: a20 :: e0 :: ls) 21 e1 = a0 :: a1 :: a2 :: a3 :: a4 :: a5 :: a6 :: a7 :: a8 :: a9 :: a10 :: a11 :: a12 :: a13 :: a14 :: a15 :: a16 :: a17 :: a18 :: a19 :: a20 :: e1 :: ls := rfl
theorem t_loc22 {a0 a1 a2 a3 a4 a5 a6 a7 a8 a9 a10 a11 a12 a13 a14 a15 a16 a17 a18 a19 a20 a21 e0 : Option D} {d : D} : bindT (.loc 22) d (a0 :: a1 :: a2 :: a3 :: a4 :: a5 :: a6 :: a7 :: a8 :: a9 :: a10 :: a11 :: a12 :: a13 :: a14 :: a15 :: a16 :: a17 :: a18 :: a19 :: a20 :: a21 :: e0 :: ls) = some (a0 :: a1 :: a2 :: a3 :: a4 :: a5 :: a6 :: a7 :: a8 :: a9 :: a10 :: a11 :: a12 :: a13 :: a14 :: a15 :: a16 :: a17 :: a18 :: a19 :: a20 :: a21 :: some d :: ls) := bt_loc (by simp only [List.length_cons]; omega)
theorem t_cons22 {a0 a1 a2 a3 a4 a5 a6 a7 a8 a9 a10 a11 a12 a13 a14 a15 a16 a17 a18 a19 a20 a21 e0 : Option D} {d : D} {t : E} {l : List D} : bindT.bindTs (.cons (.loc 22) t) (d :: l) (a0 :: a1 :: a2 :: a3 :: a4 :: a5 :: a6 :: a7 :: a8 :: a9 :: a10 :: a11 :: a12 :: a13 :: a14 :: a15 :: a16 :: a17 :: a18 :: a19 :: a20 :: a21 :: e0 :: ls) = bindT.bindTs t l (a0 :: a1 :: a2 :: a3 :: a4 :: a5 :: a6 :: a7 :: a8 :: a9 :: a10 :: a11 :: a12 :: a13 :: a14 :: a15 :: a16 :: a17 :: a18 :: a19 :: a20 :: a21 :: some d :: ls) := bt_cons (by simp only [List.length_cons]; omega)
theorem x_clv22 {a0 a1 a2 a3 a4 a5 a6 a7 a8 a9 a10 a11 a12 a13 a14 a15 a16 a17 a18 a19 a20 a21 : Option D} {f n : Nat} {a : E} : evE C gl (.clv 22 n a) (a0 :: a1 :: a2 :: a3 :: a4 :: a5 :: a6 :: a7 :: a8 :: a9 :: a10 :: a11 :: a12 :: a13 :: a14 :: a15 :: a16 :: a17 :: a18 :: a19 :: a20 :: a21 :: some (.fn f) :: ls) h = cnd (decide (f < n)) ((evA C gl a (a0 :: a1 :: a2 :: a3 :: a4 :: a5 :: a6 :: a7 :: a8 :: a9 :: a10 :: a11 :: a12 :: a13 :: a14 :: a15 :: a16 :: a17 :: a18 :: a19 :: a20 :: a21 :: some (.fn f) :: ls) h).an (fun l h => C f l h) ⟨⟩) .stk ⟨⟩ := clv_eq rfl
theorem s_aug22 {a0 a1 a2 a3 a4 a5 a6 a7 a8 a9 a10 a11 a12 a13 a14 a15 a16 a17 a18 a19 a20 a21 : Option D} {d : D} {o : BOp} {e : E} : evB xf gl X sub fuel (.aug 22 o e) C (a0 :: a1 :: a2 :: a3 :: a4 :: a5 :: a6 :: a7 :: a8 :: a9 :: a10 :: a11 :: a12 :: a13 :: a14 :: a15 :: a16 :: a17 :: a18 :: a19 :: a20 :: a21 :: some d :: ls) h = ((evE C gl e (a0 :: a1 :: a2 :: a3 :: a4 :: a5 :: a6 :: a7 :: a8 :: a9 :: a10 :: a11 :: a12 :: a13 :: a14 :: a15 :: a16 :: a17 :: a18 :: a19 :: a20 :: a21 :: some d :: ls) h).an (fun y h => ofO (augV o d y) h) ⟨⟩).aS (a0 :: a1 :: a2 :: a3 :: a4 :: a5 :: a6 :: a7 :: a8 :: a9 :: a10 :: a11 :: a12 :: a13 :: a14 :: a15 :: a16 :: a17 :: a18 :: a19 :: a20 :: a21 :: some d :: ls) (fun v h => .nx (a0 :: a1 :: a2 :: a3 :: a4 :: a5 :: a6 :: a7 :: a8 :: a9 :: a10 :: a11 :: a12 :: a13 :: a14 :: a15 :: a16 :: a17 :: a18 :: a19 :: a20 :: a21 :: some v :: ls) h) ⟨⟩ := sa_loc rfl
theorem pre22 {a0 a1 a2 a3 a4 a5 a6 a7 a8 a9 a10 a11 a12 a13 a14 a15 a16 a17 a18 a19 a20 a21 e0 : Option D} : preS (some 22) (a0 :: a1 :: a2 :: a3 :: a4 :: a5 :: a6 :: a7 :: a8 :: a9 :: a10 :: a11 :: a12 :: a13 :: a14 :: a15 :: a16 :: a17 :: a18 :: a19 :: a20 :: a21 :: e0 :: ls) = some (a0 :: a1 :: a2 :: a3 :: a4 :: a5 :: a6 :: a7 :: a8 :: a9 :: a10 :: a11 :: a12 :: a13 :: a14 :: a15 :: a16 :: a17 :: a18 :: a19 :: a20 :: a21 :: none :: ls) := pre_loc (by simp only [List.length_cons]; omega)
theorem set22 {a0 a1 a2 a3 a4 a5 a6 a7 a8 a9 a10 a11 a12 a13 a14 a15 a16 a17 a18 a19 a20 a21 e0 : Option D} {e1 : Option D} : List.set (a0 :: a1 :: a2 :: a3 :: a4 :: a5 :: a6 :: a7 :: a8 :: a9 :: a10 :: a11 :: a12 :: a13 :: a14 :: a15 :: a16 :: a17 :: a18 :: a19 :: a20 :: a21 :: e0 :: ls) 22 e1 = a0 :: a1 :: a2 :: a3 :: a4 :: a5 :: a6 :: a7 :: a8 :: a9 :: a10 :: a11 :: a12 :: a13 :: a14 :: a15 :: a16 :: a17 :: a18 :: a19 :: a20 :: a21 :: e1 :: ls := rfl
theorem t_loc23 {a0 a1 a2 a3 a4 a5 a6 a7 a8 a9 a10 a11 a12 a13 a14 a15 a16 a17 a18 a19 a20 a21 a22 e0 : Option D} {d : D} : bindT (.loc 23) d (a0 :: a1 :: a2 :: a3 :: a4 :: a5 :: a6 :: a7 :: a8 :: a9 :: a10 :: a11 :: a12 :: a13 :: a14 :: a15 :: a16 :: a17 :: a18 :: a19 :: a20 :: a21 :: a22 :: e0 :: ls) = some (a0 :: a1 :: a2 :: a3 :: a4 :: a5 :: a6 :: a7 :: a8 :: a9 :: a10 :: a11 :: a12 :: a13 :: a14 :: a15 :: a16 :: a17 :: a18 :: a19 :: a20 :: a21 :: a22 :: some d :: ls) := bt_loc (by simp only [List.length_cons]; omega)
theorem t_cons23 {a0 a1 a2 a3 a4 a5 a6 a7 a8 a9 a10 a11 a12 a13 a14 a15 a16 a17 a18 a19 a20 a21 a22 e0 : Option D} {d : D} {t : E} {l : List D} : bindT.bindTs (.cons (.loc 23) t) (d :: l) (a0 :: a1 :: a2 :: a3 :: a4 :: a5 :: a6 :: a7 :: a8 :: a9 :: a10 :: a11 :: a12 :: a13 :: a14 :: a15 :: a16 :: a17 :: a18 :: a19 :: a20 :: a21 :: a22 :: e0 :: ls) = bindT.bindTs t l (a0 :: a1 :: a2 :: a3 :: a4 :: a5 :: a6 :: a7 :: a8 :: a9 :: a10 :: a11 :: a12 :: a13 :: a14 :: a15 :: a16 :: a17 :: a18 :: a19 :: a20 :: a21 :: a22 :: some d :: ls) := bt_cons (by simp only [List.length_cons]; omega)
theorem x_clv23 {a0 a1 a2 a3 a4 a5 a6 a7 a8 a9 a10 a11 a12 a13 a14 a15 a16 a17 a18 a19 a20 a21 a22 : Option D} {f n : Nat} {a : E} : evE C gl (.clv 23 n a) (a0 :: a1 :: a2 :: a3 :: a4 :: a5 :: a6 :: a7 :: a8 :: a9 :: a10 :: a11 :: a12 :: a13 :: a14 :: a15 :: a16 :: a17 :: a18 :: a19 :: a20 :: a21 :: a22 :: some (.fn f) :: ls) h = cnd (decide (f < n)) ((evA C gl a (a0 :: a1 :: a2 :: a3 :: a4 :: a5 :: a6 :: a7 :: a8 :: a9 :: a10 :: a11 :: a12 :: a13 :: a14 :: a15 :: a16 :: a17 :: a18 :: a19 :: a20 :: a21 :: a22 :: some (.fn f) :: ls) h).an (fun l h => C f l h) ⟨⟩) .stk ⟨⟩ := clv_eq rfl
theorem s_aug23 {a0 a1 a2 a3 a4 a5 a6 a7 a8 a9 a10 a11 a12 a13 a14 a15 a16 a17 a18 a19 a20 a21 a22 : Option D} {d : D} {o : BOp} {e : E} : evB xf gl X sub fuel (.aug 23 o e) C (a0 :: a1 :: a2 :: a3 :: a4 :: a5 :: a6 :: a7 :: a8 :: a9 :: a10 :: a11 :: a12 :: a13 :: a14 :: a15 :: a16 :: a17 :: a18 :: a19 :: a20 :: a21 :: a22 :: some d :: ls) h = ((evE C gl e (a0 :: a1 :: a2 :: a3 :: a4 :: a5 :: a6 :: a7 :: a8 :: a9 :: a10 :: a11 :: a12 :: a13 :: a14 :: a15 :: a16 :: a17 :: a18 :: a19 :: a20 :: a21 :: a22 :: some d :: ls) h).an (fun y h => ofO (augV o d y) h) ⟨⟩).aS (a0 :: a1 :: a2 :: a3 :: a4 :: a5 :: a6 :: a7 :: a8 :: a9 :: a10 :: a11 :: a12 :: a13 :: a14 :: a15 :: a16 :: a17 :: a18 :: a19 :: a20 :: a21 :: a22 :: some d :: ls) (fun v h => .nx (a0 :: a1 :: a2 :: a3 :: a4 :: a5 :: a6 :: a7 :: a8 :: a9 :: a10 :: a11 :: a12 :: a13 :: a14 :: a15 :: a16 :: a17 :: a18 :: a19 :: a20 :: a21 :: a22 :: some v :: ls) h) ⟨⟩ := sa_loc rfl
theorem pre23 {a0 a1 a2 a3 a4 a5 a6 a7 a8 a9 a10 a11 a12 a13 a14 a15 a16 a17 a18 a19 a20 a21 a22 e0 : Option D} : preS (some 23) (a0 :: a1 :: a2 :: a3 :: a4 :: a5 :: a6 :: a7 :: a8 :: a9 :: a10 :: a11 :: a12 :: a13 :: a14 :: a15 :: a16 :: a17 :: a18 :: a19 :: a20 :: a21 :: a22 :: e0 :: ls) = some (a0 :: a1 :: a2 :: a3 :: a4 :: a5 :: a6 :: a7 :: a8 :: a9 :: a10 :: a11 :: a12 :: a13 :: a14 :: a15 :: a16 :: a17 :: a18 :: a19 :: a20 :: a21 :: a22 :: none :: ls) := pre_loc (by simp only [List.length_cons]; omega)
theorem set23 {a0 a1 a2 a3 a4 a5 a6 a7 a8 a9 a10 a11 a12 a13 a14 a15 a16 a17 a18 a19 a20 a21 a22 e0 : Option D} {e1 : Option D} : List.set (a0 :: a1 :: a2 :: a3 :: a4 :: a5 :: a6 :: a7 :: a8 :: a9 :: a10 :: a11 :: a12 :: a13 :: a14 :: a15 :: a16 :: a17 :: a18 :: a19 :: a20 :: a21 :: a22 :: e0 :: ls) 23 e1 = a0 :: a1 :: a2 :: a3 :: a4 :: a5 :: a6 :: a7 :: a8 :: a9 :: a10 :: a11 :: a12 :: a13 :: a14 :: a15 :: a16 :: a17 :: a18 :: a19 :: a20 :: a21 :: a22 :: e1 :: ls := rfl
theorem t_loc24 {a0 a1 a2 a3 a4 a5 a6 a7 a8 a9 a10 a11 a12 a13 a14 a15 a16 a17 a18 a19 a20 a21 a22 a23 e0 : Option D} {d : D} : bindT (.loc 24) d (a0 :: a1 :: a2 :: a3 :: a4 :: a5 :: a6 :: a7 :: a8 :: a9 :: a10 :: a11 :: a12 :: a13 :: a14 :: a15 :: a16 :: a17 :: a18 :: a19 :: a20 :: a21 :: a22 :: a23 :: e0 :: ls) = some (a0 :: a1 :: a2 :: a3 :: a4 :: a5 :: a6 :: a7 :: a8 :: a9 :: a10 :: a11 :: a12 :: a13 :: a14 :: a15 :: a16 :: a17 :: a18 :: a19 :: a20 :: a21 :: a22 :: a23 :: some d :: ls) := bt_loc (by simp only [List.length_cons]; omega)
theorem t_cons24 {a0 a1 a2 a3 a4 a5 a6 a7 a8 a9 a10 a11 a12 a13 a14 a15 a16 a17 a18 a19 a20 a21 a22 a23 e0 : Option D} {d : D} {t : E} {l : List D} : bindT.bindTs (.cons (.loc 24) t) (d :: l) (a0 :: a1 :: a2 :: a3 :: a4 :: a5 :: a6 :: a7 :: a8 :: a9 :: a10 :: a11 :: a12 :: a13 :: a14 :: a15 :: a16 :: a17 :: a18 :: a19 :: a20 :: a21 :: a22 :: a23 :: e0 :: ls) = bindT.bindTs t l (a0 :: a1 :: a2 :: a3 :: a4 :: a5 :: a6 :: a7 :: a8 :: a9 :: a10 :: a11 :: a12 :: a13 :: a14 :: a15 :: a16 :: a17 :: a18 :: a19 :: a20 :: a21 :: a22 :: a23 :: some d :: ls) := bt_cons (by simp only [List.length_cons]; omega)
theorem x_clv24 {a0 a1 a2 a3 a4 a5 a6 a7 a8 a9 a10 a11 a12 a13 a14 a15 a16 a17 a18 a19 a20 a21 a22 a23 : Option D} {f n : Nat} {a : E} : evE C gl (.clv 24 n a) (a0 :: a1 :: a2 :: a3 :: a4 :: a5 :: a6 :: a7 :: a8 :: a9 :: a10 :: a11 :: a12 :: a13 :: a14 :: a15 :: a16 :: a17 :: a18 :: a19 :: a20 :: a21 :: a22 :: a23 :: some (.fn f) :: ls) h = cnd (decide (f < n)) ((evA C gl a (a0 :: a1 :: a2 :: a3 :: a4 :: a5 :: a6 :: a7 :: a8 :: a9 :: a10 :: a11 :: a12 :: a13 :: a14 :: a15 :: a16 :: a17 :: a18 :: a19 :: a20 :: a21 :: a22 :: a23 :: some (.fn f) :: ls) h).an (fun l h => C f l h) ⟨⟩) .stk ⟨⟩ := clv_eq rfl
theorem s_aug24 {a0 a1 a2 a3 a4 a5 a6 a7 a8 a9 a10 a11 a12 a13 a14 a15 a16 a17 a18 a19 a20 a21 a22 a23 : Option D} {d : D} {o : BOp} {e : E} : evB xf gl X sub fuel (.aug 24 o e) C (a0 :: a1 :: a2 :: a3 :: a4 :: a5 :: a6 :: a7 :: a8 :: a9 :: a10 :: a11 :: a12 :: a13 :: a14 :: a15 :: a16 :: a17 :: a18 :: a19 :: a20 :: a21 :: a22 :: a23 :: some d :: ls) h = ((evE C gl e (a0 :: a1 :: a2 :: a3 :: a4 :: a5 :: a6 :: a7 :: a8 :: a9 :: a10 :: a11 :: a12 :: a13 :: a14 :: a15 :: a16 :: a17 :: a18 :: a19 :: a20 :: a21 :: a22 :: a23 :: some d :: ls) h).an (fun y h => ofO (augV o d y) h) ⟨⟩).aS (a0 :: a1 :: a2 :: a3 :: a4 :: a5 :: a6 :: a7 :: a8 :: a9 :: a10 :: a11 :: a12 :: a13 :: a14 :: a15 :: a16 :: a17 :: a18 :: a19 :: a20 :: a21 :: a22 :: a23 :: some d :: ls) (fun v h => .nx (a0 :: a1 :: a2 :: a3 :: a4 :: a5 :: a6 :: a7 :: a8 :: a9 :: a10 :: a11 :: a12 :: a13 :: a14 :: a15 :: a16 :: a17 :: a18 :: a19 :: a20 :: a21 :: a22 :: a23 :: some v :: ls) h) ⟨⟩ := sa_loc rfl
theorem pre24 {a0 a1 a2 a3 a4 a5 a6 a7 a8 a9 a10 a11 a12 a13 a14 a15 a16 a17 a18 a19 a20 a21 a22 a23 e0 : Option D} : preS (some 24) (a0 :: a1 :: a2 :: a3 :: a4 :: a5 :: a6 :: a7 :: a8 :: a9 :: a10 :: a11 :: a12 :: a13 :: a14 :: a15 :: a16 :: a17 :: a18 :: a19 :: a20 :: a21 :: a22 :: a23 :: e0 :: ls) = some (a0 :: a1 :: a2 :: a3 :: a4 :: a5 :: a6 :: a7 :: a8 :: a9 :: a10 :: a11 :: a12 :: a13 :: a14 :: a15 :: a16 :: a17 :: a18 :: a19 :: a20 :: a21 :: a22 :: a23 :: none :: ls) := pre_loc (by simp only [List.length_cons]; omega)
theorem set24 {a0 a1 a2 a3 a4 a5 a6 a7 a8 a9 a10 a11 a12 a13 a14 a15 a16 a17 a18 a19 a20 a21 a22 a23 e0 : Option D} {e1 : Option D} : List.set (a0 :: a1 :: a2 :: a3 :: a4 :: a5 :: a6 :: a7 :: a8 :: a9 :: a10 :: a11 :: a12 :: a13 :: a14 :: a15 :: a16 :: a17 :: a18 :: a19 :: a20 :: a21 :: a22 :: a23 :: e0 :: ls) 24 e1 = a0 :: a1 :: a2 :: a3 :: a4 :: a5 :: a6 :: a7 :: a8 :: a9 :: a10 :: a11 :: a12 :: a13 :: a14 :: a15 :: a16 :: a17 :: a18 :: a19 :: a20 :: a21 :: a22 :: a23 :: e1 :: ls := rfl
theorem t_loc25 {a0 a1 a2 a3 a4 a5 a6 a7 a8 a9 a10 a11 a12 a13 a14 a15 a16 a17 a18 a19 a20 a21 a22 a23 a24 e0 : Option D} {d : D} : bindT (.loc 25) d (a0 :: a1 :: a2 :: a3 :: a4 :: a5 :: a6 :: a7 :: a8 :: a9 :: a10 :: a11 :: a12 :: a13 :: a14 :: a15 :: a16 :: a17 :: a18 :: a19 :: a20 :: a21 :: a22 :: a23 :: a24 :: e0 :: ls) = some (a0 :: a1 :: a2 :: a3 :: a4 :: a5 :: a6 :: a7 :: a8 :: a9 :: a10 :: a11 :: a12 :: a13 :: a14 :: a15 :: a16 :: a17 :: a18 :: a19 :: a20 :: a21 :: a22 :: a23 :: a24 :: some d :: ls) := bt_loc (by simp only [List.length_cons]; omega)
theorem t_cons25 {a0 a1 a2 a3 a4 a5 a6 a7 a8 a9 a10 a11 a12 a13 a14 a15 a16 a17 a18 a19 a20 a21 a22 a23 a24 e0 : Option D} {d : D} {t : E} {l : List D} : bindT.bindTs (.cons (.loc 25) t) (d :: l) (a0 :: a1 :: a2 :: a3 :: a4 :: a5 :: a6 :: a7 :: a8 :: a9 :: a10 :: a11 :: a12 :: a13 :: a14 :: a15 :: a16 :: a17 :: a18 :: a19 :: a20 :: a21 :: a22 :: a23 :: a24 :: e0 :: ls) = bindT.bindTs t l (a0 :: a1 :: a2 :: a3 :: a4 :: a5 :: a6 :: a7 :: a8 :: a9 :: a10 :: a11 :: a12 :: a13 :: a14 :: a15 :: a16 :: a17 :: a18 :: a19 :: a20 :: a21 :: a22 :: a23 :: a24 :: some d :: ls) := bt_cons (by simp only [List.length_cons]; omega)
theorem x_clv25 {a0 a1 a2 a3 a4 a5 a6 a7 a8 a9 a10 a11 a12 a13 a14 a15 a16 a17 a18 a19 a20 a21 a22 a23 a24 : Option D} {f n : Nat} {a : E} : evE C gl (.clv 25 n a) (a0 :: a1 :: a2 :: a3 :: a4 :: a5 :: a6 :: a7 :: a8 :: a9 :: a10 :: a11 :: a12 :: a13 :: a14 :: a15 :: a16 :: a17 :: a18 :: a19 :: a20 :: a21 :: a22 :: a23 :: a24 :: some (.fn f) :: ls) h = cnd (decide (f < n)) ((evA C gl a (a0 :: a1 :: a2 :: a3 :: a4 :: a5 :: a6 :: a7 :: a8 :: a9 :: a10 :: a11 :: a12 :: a13 :: a14 :: a15 :: a16 :: a17 :: a18 :: a19 :: a20 :: a21 :: a22 :: a23 :: a24 :: some (.fn f) :: ls) h).an (fun l h => C f l h) ⟨⟩) .stk ⟨⟩ := clv_eq rfl
theorem s_aug25 {a0 a1 a2 a3 a4 a5 a6 a7 a8 a9 a10 a11 a12 a13 a14 a15 a16 a17 a18 a19 a20 a21 a22 a23 a24 : Option D} {d : D} {o : BOp} {e : E} : evB xf gl X sub fuel (.aug 25 o e) C (a0 :: a1 :: a2 :: a3 :: a4 :: a5 :: a6 :: a7 :: a8 :: a9 :: a10 :: a11 :: a12 :: a13 :: a14 :: a15 :: a16 :: a17 :: a18 :: a19 :: a20 :: a21 :: a22 :: a23 :: a24 :: some d :: ls) h = ((evE C gl e (a0 :: a1 :: a2 :: a3 :: a4 :: a5 :: a6 :: a7 :: a8 :: a9 :: a10 :: a11 :: a12 :: a13 :: a14 :: a15 :: a16 :: a17 :: a18 :: a19 :: a20 :: a21 :: a22 :: a23 :: a24 :: some d :: ls) h).an (fun y h => ofO (augV o d y) h) ⟨⟩).aS (a0 :: a1 :: a2 :: a3 :: a4 :: a5 :: a6 :: a7 :: a8 :: a9 :: a10 :: a11 :: a12 :: a13 :: a14 :: a15 :: a16 :: a17 :: a18 :: a19 :: a20 :: a21 :: a22 :: a23 :: a24 :: some d :: ls) (fun v h => .nx (a0 :: a1 :: a2 :: a3 :: a4 :: a5 :: a6 :: a7 :: a8 :: a9 :: a10 :: a11 :: a12 :: a13 :: a14 :: a15 :: a16 :: a17 :: a18 :: a19 :: a20 :: a21 :: a22 :: a23 :: a24 :: some v :: ls) h) ⟨⟩ := sa_loc rfl
theorem pre25 {a0 a1 a2 a3 a4 a5 a6 a7 a8 a9 a10 a11 a12 a13 a14 a15 a16 a17 a18 a19 a20 a21 a22 a23 a24 e0 : Option D} : preS (some 25) (a0 :: a1 :: a2 :: a3 :: a4 :: a5 :: a6 :: a7 :: a8 :: a9 :: a10 :: a11 :: a12 :: a13 :: a14 :: a15 :: a16 :: a17 :: a18 :: a19 :: a20 :: a21 :: a22 :: a23 :: a24 :: e0 :: ls) = some (a0 :: a1 :: a2 :: a3 :: a4 :: a5 :: a6 :: a7 :: a8 :: a9 :: a10 :: a11 :: a12 :: a13 :: a14 :: a15 :: a16 :: a17 :: a18 :: a19 :: a20 :: a21 :: a22 :: a23 :: a24 :: none :: ls) := pre_loc (by simp only [List.length_cons]; omega)
theorem set25 {a0 a1 a2 a3 a4 a5 a6 a7 a8 a9 a10 a11 a12 a13 a14 a15 a16 a17 a18 a19 a20 a21 a22 a23 a24 e0 : Option D} {e1 : Option D} : List.set (a0 :: a1 :: a2 :: a3 :: a4 :: a5 :: a6 :: a7 :: a8 :: a9 :: a10 :: a11 :: a12 :: a13 :: a14 :: a15 :: a16 :: a17 :: a18 :: a19 :: a20 :: a21 :: a22 :: a23 :: a24 :: e0 :: ls) 25 e1 = a0 :: a1 :: a2 :: a3 :: a4 :: a5 :: a6 :: a7 :: a8 :: a9 :: a10 :: a11 :: a12 :: a13 :: a14 :: a15 :: a16 :: a17 :: a18 :: a19 :: a20 :: a21 :: a22 :: a23 :: a24 :: e1 :: ls := rfl
theorem t_loc26 {a0 a1 a2 a3 a4 a5 a6 a7 a8 a9 a10 a11 a12 a13 a14 a15 a16 a17 a18 a19 a20 a21 a22 a23 a24 a25 e0 : Option D} {d : D} : bindT (.loc 26) d (a0 :: a1 :: a2 :: a3 :: a4 :: a5 :: a6 :: a7 :: a8 :: a9 :: a10 :: a11 :: a12 :: a13 :: a14 :: a15 :: a16 :: a17 :: a18 :: a19 :: a20 :: a21 :: a22 :: a23 :: a24 :: a25 :: e0 :: ls) = some (a0 :: a1 :: a2 :: a3 :: a4 :: a5 :: a6 :: a7 :: a8 :: a9 :: a10 :: a11 :: a12 :: a13 :: a14 :: a15 :: a16 :: a17 :: a18 :: a19 :: a20 :: a21 :: a22 :: a23 :: a24 :: a25 :: some d :: ls) := bt_loc (by simp only [List.length_cons]; omega)
theorem t_cons26 {a0 a1 a2 a3 a4 a5 a6 a7 a8 a9 a10 a11 a12 a13 a14 a15 a16 a17 a18 a19 a20 a21 a22 a23 a24 a25 e0 : Option D} {d : D} {t : E} {l : List D} : bindT.bindTs (.cons (.loc 26) t) (d :: l) (a0 :: a1 :: a2 :: a3 :: a4 :: a5 :: a6 :: a7 :: a8 :: a9 :: a10 :: a11 :: a12 :: a13 :: a14 :: a15 :: a16 :: a17 :: a18 :: a19 :: a20 :: a21 :: a22 :: a23 :: a24 :: a25 :: e0 :: ls) = bindT.bindTs t l (a0 :: a1 :: a2 :: a3 :: a4 :: a5 :: a6 :: a7 :: a8 :: a9 :: a10 :: a11 :: a12 :: a13 :: a14 :: a15 :: a16 :: a17 :: a18 :: a19 :: a20 :: a21 :: a22 :: a23 :: a24 :: a25 :: some d :: ls) := bt_cons (by simp only [List.length_cons]; omega)
theorem x_clv26 {a0 a1 a2 a3 a4 a5 a6 a7 a8 a9 a10 a11 a12 a13 a14 a15 a16 a17 a18 a19 a20 a21 a22 a23 a24 a25 : Option D} {f n : Nat} {a : E} : evE C gl (.clv 26 n a) (a0 :: a1 :: a2 :: a3 :: a4 :: a5 :: a6 :: a7 :: a8 :: a9 :: a10 :: a11 :: a12 :: a13 :: a14 :: a15 :: a16 :: a17 :: a18 :: a19 :: a20 :: a21 :: a22 :: a23 :: a24 :: a25 :: some (.fn f) :: ls) h = cnd (decide (f < n)) ((evA C gl a (a0 :: a1 :: a2 :: a3 :: a4 :: a5 :: a6 :: a7 :: a8 :: a9 :: a10 :: a11 :: a12 :: a13 :: a14 :: a15 :: a16 :: a17 :: a18 :: a19 :: a20 :: a21 :: a22 :: a23 :: a24 :: a25 :: some (.fn f) :: ls) h).an (fun l h => C f l h) ⟨⟩) .stk ⟨⟩ := clv_eq rfl
theorem s_aug26 {a0 a1 a2 a3 a4 a5 a6 a7 a8 a9 a10 a11 a12 a13 a14 a15 a16 a17 a18 a19 a20 a21 a22 a23 a24 a25 : Option D} {d : D} {o : BOp} {e : E} : evB xf gl X sub fuel (.aug 26 o e) C (a0 :: a1 :: a2 :: a3 :: a4 :: a5 :: a6 :: a7 :: a8 :: a9 :: a10 :: a11 :: a12 :: a13 :: a14 :: a15 :: a16 :: a17 :: a18 :: a19 :: a20 :: a21 :: a22 :: a23 :: a24 :: a25 :: some d :: ls) h = ((evE C gl e (a0 :: a1 :: a2 :: a3 :: a4 :: a5 :: a6 :: a7 :: a8 :: a9 :: a10 :: a11 :: a12 :: a13 :: a14 :: a15 :: a16 :: a17 :: a18 :: a19 :: a20 :: a21 :: a22 :: a23 :: a24 :: a25 :: some d :: ls) h).an (fun y h => ofO (augV o d y) h) ⟨⟩).aS (a0 :: a1 :: a2 :: a3 :: a4 :: a5 :: a6 :: a7 :: a8 :: a9 :: a10 :: a11 :: a12 :: a13 :: a14 :: a15 :: a16 :: a17 :: a18 :: a19 :: a20 :: a21 :: a22 :: a23 :: a24 :: a25 :: some d :: ls) (fun v h => .nx (a0 :: a1 :: a2 :: a3 :: a4 :: a5 :: a6 :: a7 :: a8 :: a9 :: a10 :: a11 :: a12 :: a13 :: a14 :: a15 :: a16 :: a17 :: a18 :: a19 :: a20 :: a21 :: a22 :: a23 :: a24 :: a25 :: some v :: ls) h) ⟨⟩ := sa_loc rfl
theorem pre26 {a0 a1 a2 a3 a4 a5 a6 a7 a8 a9 a10 a11 a12 a13 a14 a15 a16 a17 a18 a19 a20 a21 a22 a23 a24 a25 e0 : Option D} : preS (some 26) (a0 :: a1 :: a2 :: a3 :: a4 :: a5 :: a6 :: a7 :: a8 :: a9 :: a10 :: a11 :: a12 :: a13 :: a14 :: a15 :: a16 :: a17 :: a18 :: a19 :: a20 :: a21 :: a22 :: a23 :: a24 :: a25 :: e0 :: ls) = some (a0 :: a1 :: a2 :: a3 :: a4 :: a5 :: a6 :: a7 :: a8 :: a9 :: a10 :: a11 :: a12 :: a13 :: a14 :: a15 :: a16 :: a17 :: a18 :: a19 :: a20 :: a21 :: a22 :: a23 :: a24 :: a25 :: none :: ls) := pre_loc (by simp only [List.length_cons]; omega)
theorem set26 {a0 a1 a2 a3 a4 a5 a6 a7 a8 a9 a10 a11 a12 a13 a14 a15 a16 a17 a18 a19 a20 a21 a22 a23 a24 a25 e0 : Option D} {e1 : Option D} : List.set (a0 :: a1 :: a2 :: a3 :: a4 :: a5 :: a6 :: a7 :: a8 :: a9 :: a10 :: a11 :: a12 :: a13 :: a14 :: a15 :: a16 :: a17 :: a18 :: a19 :: a20 :: a21 :: a22 :: a23 :: a24 :: a25 :: e0 :: ls) 26 e1 = a0 :: a1 :: a2 :: a3 :: a4 :: a5 :: a6 :: a7 :: a8 :: a9 :: a10 :: a11 :: a12 :: a13 :: a14 :: a15 :: a16 :: a17 :: a18 :: a19 :: a20 :: a21 :: a22 :: a23 :: a24 :: a25 :: e1 :: ls := rfl
theorem t_loc27 {a0 a1 a2 a3 a4 a5 a6 a7 a8 a9 a10 a11 a12 a13 a14 a15 a16 a17 a18 a19 a20 a21 a22 a23 a24 a25 a26 e0 : Option D} {d : D} : bindT (.loc 27) d (a0 :: a1 :: a2 :: a3 :: a4 :: a5 :: a6 :: a7 :: a8 :: a9 :: a10 :: a11 :: a12 :: a13 :: a14 :: a15 :: a16 :: a17 :: a18 :: a19 :: a20 :: a21 :: a22 :: a23 :: a24 :: a25 :: a26 :: e0 :: ls) = some (a0 :: a1 :: a2 :: a3 :: a4 :: a5 :: a6 :: a7 :: a8 :: a9 :: a10 :: a11 :: a12 :: a13 :: a14 :: a15 :: a16 :: a17 :: a18 :: a19 :: a20 :: a21 :: a22 :: a23 :: a24 :: a25 :: a26 :: some d :: ls) := bt_loc (by simp only [List.length_cons]; omega)
theorem t_cons27 {a0 a1 a2 a3 a4 a5 a6 a7 a8 a9 a10 a11 a12 a13 a14 a15 a16 a17 a18 a19 a20 a21 a22 a23 a24 a25 a26 e0 : Option D} {d : D} {t : E} {l : List D} : bindT.bindTs (.cons (.loc 27) t) (d :: l) (a0 :: a1 :: a2 :: a3 :: a4 :: a5 :: a6 :: a7 :: a8 :: a9 :: a10 :: a11 :: a12 :: a13 :: a14 :: a15 :: a16 :: a17 :: a18 :: a19 :: a20 :: a21 :: a22 :: a23 :: a24 :: a25 :: a26 :: e0 :: ls) = bindT.bindTs t l (a0 :: a1 :: a2 :: a3 :: a4 :: a5 :: a6 :: a7 :: a8 :: a9 :: a10 :: a11 :: a12 :: a13 :: a14 :: a15 :: a16 :: a17 :: a18 :: a19 :: a20 :: a21 :: a22 :: a23 :: a24 :: a25 :: a26 :: some d :: ls) := bt_cons (by simp only [List.length_cons]; omega)
theorem x_clv27 {a0 a1 a2 a3 a4 a5 a6 a7 a8 a9 a10 a11 a12 a13 a14 a15 a16 a17 a18 a19 a20 a21 a22 a23 a24 a25 a26 : Option D} {f n : Nat} {a : E} : evE C gl (.clv 27 n a) (a0 :: a1 :: a2 :: a3 :: a4 :: a5 :: a6 :: a7 :: a8 :: a9 :: a10 :: a11 :: a12 :: a13 :: a14 :: a15 :: a16 :: a17 :: a18 :: a19 :: a20 :: a21 :: a22 :: a23 :: a24 :: a25 :: a26 :: some (.fn f) :: ls) h = cnd (decide (f < n)) ((evA C gl a (a0 :: a1 :: a2 :: a3 :: a4 :: a5 :: a6 :: a7 :: a8 :: a9 :: a10 :: a11 :: a12 :: a13 :: a14 :: a15 :: a16 :: a17 :: a18 :: a19 :: a20 :: a21 :: a22 :: a23 :: a24 :: a25 :: a26 :: some (.fn f) :: ls) h).an (fun l h => C f l h) ⟨⟩) .stk ⟨⟩ := clv_eq rfl
theorem s_aug27 {a0 a1 a2 a3 a4 a5 a6 a7 a8 a9 a10 a11 a12 a13 a14 a15 a16 a17 a18 a19 a20 a21 a22 a23 a24 a25 a26 : Option D} {d : D} {o : BOp} {e : E} : evB xf gl X sub fuel (.aug 27 o e) C (a0 :: a1 :: a2 :: a3 :: a4 :: a5 :: a6 :: a7 :: a8 :: a9 :: a10 :: a11 :: a12 :: a13 :: a14 :: a15 :: a16 :: a17 :: a18 :: a19 :: a20 :: a21 :: a22 :: a23 :: a24 :: a25 :: a26 :: some d :: ls) h = ((evE C gl e (a0 :: a1 :: a2 :: a3 :: a4 :: a5 :: a6 :: a7 :: a8 :: a9 :: a10 :: a11 :: a12 :: a13 :: a14 :: a15 :: a16 :: a17 :: a18 :: a19 :: a20 :: a21 :: a22 :: a23 :: a24 :: a25 :: a26 :: some d :: ls) h).an (fun y h => ofO (augV o d y) h) ⟨⟩).aS (a0 :: a1 :: a2 :: a3 :: a4 :: a5 :: a6 :: a7 :: a8 :: a9 :: a10 :: a11 :: a12 :: a13 :: a14 :: a15 :: a16 :: a17 :: a18 :: a19 :: a20 :: a21 :: a22 :: a23 :: a24 :: a25 :: a26 :: some d :: ls) (fun v h => .nx (a0 :: a1 :: a2 :: a3 :: a4 :: a5 :: a6 :: a7 :: a8 :: a9 :: a10 :: a11 :: a12 :: a13 :: a14 :: a15 :: a16 :: a17 :: a18 :: a19 :: a20 :: a21 :: a22 :: a23 :: a24 :: a25 :: a26 :: some v :: ls) h) ⟨⟩ := sa_loc rfl
theorem pre27 {a0 a1 a2 a3 a4 a5 a6 a7 a8 a9 a10 a11 a12 a13 a14 a15 a16 a17 a18 a19 a20 a21 a22 a23 a24 a25 a26 e0 : Option D} : preS (some 27) (a0 :: a1 :: a2 :: a3 :: a4 :: a5 :: a6 :: a7 :: a8 :: a9 :: a10 :: a11 :: a12 :: a13 :: a14 :: a15 :: a16 :: a17 :: a18 :: a19 :: a20 :: a21 :: a22 :: a23 :: a24 :: a25 :: a26 :: e0 :: ls) = some (a0 :: a1 :: a2 :: a3 :: a4 :: a5 :: a6 :: a7 :: a8 :: a9 :: a10 :: a11 :: a12 :: a13 :: a14 :: a15 :: a16 :: a17 :: a18 :: a19 :: a20 :: a21 :: a22 :: a23 :: a24 :: a25 :: a26 :: none :: ls) := pre_loc (by simp only [List.length_cons]; omega)
theorem set27 {a0 a1 a2 a3 a4 a5 a6 a7 a8 a9 a10 a11 a12 a13 a14 a15 a16 a17 a18 a19 a20 a21 a22 a23 a24 a25 a26 e0 : Option D} {e1 : Option D} : List.set (a0 :: a1 :: a2 :: a3 :: a4 :: a5 :: a6 :: a7 :: a8 :: a9 :: a10 :: a11 :: a12 :: a13 :: a14 :: a15 :: a16 :: a17 :: a18 :: a19 :: a20 :: a21 :: a22 :: a23 :: a24 :: a25 :: a26 :: e0 :: ls) 27 e1 = a0 :: a1 :: a2 :: a3 :: a4 :: a5 :: a6 :: a7 :: a8 :: a9 :: a10 :: a11 :: a12 :: a13 :: a14 :: a15 :: a16 :: a17 :: a18 :: a19 :: a20 :: a21 :: a22 :: a23 :: a24 :: a25 :: a26 :: e1 :: ls := rfl
theorem t_loc28 {a0 a1 a2 a3 a4 a5 a6 a7 a8 a9 a10 a11 a12 a13 a14 a15 a16 a17 a18 a19 a20 a21 a22 a23 a24 a25 a26 a27 e0 : Option D} {d : D} : bindT (.loc 28) d (a0 :: a1 :: a2 :: a3 :: a4 :: a5 :: a6 :: a7 :: a8 :: a9 :: a10 :: a11 :: a12 :: a13 :: a14 :: a15 :: a16 :: a17 :: a18 :: a19 :: a20 :: a21 :: a22 :: a23 :: a24 :: a25 :: a26 :: a27 :: e0 :: ls) = some (a0 :: a1 :: a2 :: a3 :: a4 :: a5 :: a6 :: a7 :: a8 :: a9 :: a10 :: a11 :: a12 :: a13 :: a14 :: a15 :: a16 :: a17 :: a18 :: a19 :: a20 :: a21 :: a22 :: a23 :: a24 :: a25 :: a26 :: a27 :: some d :: ls) := bt_loc (by simp only [List.length_cons]; omega)
theorem t_cons28 {a0 a1 a2 a3 a4 a5 a6 a7 a8 a9 a10 a11 a12 a13 a14 a15 a16 a17 a18 a19 a20 a21 a22 a23 a24 a25 a26 a27 e0 : Option D} {d : D} {t : E} {l : List D} : bindT.bindTs (.cons (.loc 28) t) (d :: l) (a0 :: a1 :: a2 :: a3 :: a4 :: a5 :: a6 :: a7 :: a8 :: a9 :: a10 :: a11 :: a12 :: a13 :: a14 :: a15 :: a16 :: a17 :: a18 :: a19 :: a20 :: a21 :: a22 :: a23 :: a24 :: a25 :: a26 :: a27 :: e0 :: ls) = bindT.bindTs t l (a0 :: a1 :: a2 :: a3 :: a4 :: a5 :: a6 :: a7 :: a8 :: a9 :: a10 :: a11 :: a12 :: a13 :: a14 :: a15 :: a16 :: a17 :: a18 :: a19 :: a20 :: a21 :: a22 :: a23 :: a24 :: a25 :: a26 :: a27 :: some d :: ls) := bt_cons (by simp only [List.length_cons]; omega)
theorem x_clv28 {a0 a1 a2 a3 a4 a5 a6 a7 a8 a9 a10 a11 a12 a13 a14 a15 a16 a17 a18 a19 a20 a21 a22 a23 a24 a25 a26 a27 : Option D} {f n : Nat} {a : E} : evE C gl (.clv 28 n a) (a0 :: a1 :: a2 :: a3 :: a4 :: a5 :: a6 :: a7 :: a8 :: a9 :: a10 :: a11 :: a12 :: a13 :: a14 :: a15 :: a16 :: a17 :: a18 :: a19 :: a20 :: a21 :: a22 :: a23 :: a24 :: a25 :: a26 :: a27 :: some (.fn f) :: ls) h = cnd (decide (f < n)) ((evA C gl a (a0 :: a1 :: a2 :: a3 :: a4 :: a5 :: a6 :: a7 :: a8 :: a9 :: a10 :: a11 :: a12 :: a13 :: a14 :: a15 :: a16 :: a17 :: a18 :: a19 :: a20 :: a21 :: a22 :: a23 :: a24 :: a25 :: a26 :: a27 :: some (.fn f) :: ls) h).an (fun l h => C f l h) ⟨⟩) .stk ⟨⟩ := clv_eq rfl
theorem s_aug28 {a0 a1 a2 a3 a4 a5 a6 a7 a8 a9 a10 a11 a12 a13 a14 a15 a16 a17 a18 a19 a20 a21 a22 a23 a24 a25 a26 a27 : Option D} {d : D} {o : BOp} {e : E} : evB xf gl X sub fuel (.aug 28 o e) C (a0 :: a1 :: a2 :: a3 :: a4 :: a5 :: a6 :: a7 :: a8 :: a9 :: a10 :: a11 :: a12 :: a13 :: a14 :: a15 :: a16 :: a17 :: a18 :: a19 :: a20 :: a21 :: a22 :: a23 :: a24 :: a25 :: a26 :: a27 :: some d :: ls) h = ((evE C gl e (a0 :: a1 :: a2 :: a3 :: a4 :: a5 :: a6 :: a7 :: a8 :: a9 :: a10 :: a11 :: a12 :: a13 :: a14 :: a15 :: a16 :: a17 :: a18 :: a19 :: a20 :: a21 :: a22 :: a23 :: a24 :: a25 :: a26 :: a27 :: some d :: ls) h).an (fun y h => ofO (augV o d y) h) ⟨⟩).aS (a0 :: a1 :: a2 :: a3 :: a4 :: a5 :: a6 :: a7 :: a8 :: a9 :: a10 :: a11 :: a12 :: a13 :: a14 :: a15 :: a16 :: a17 :: a18 :: a19 :: a20 :: a21 :: a22 :: a23 :: a24 :: a25 :: a26 :: a27 :: some d :: ls) (fun v h => .nx (a0 :: a1 :: a2 :: a3 :: a4 :: a5 :: a6 :: a7 :: a8 :: a9 :: a10 :: a11 :: a12 :: a13 :: a14 :: a15 :: a16 :: a17 :: a18 :: a19 :: a20 :: a21 :: a22 :: a23 :: a24 :: a25 :: a26 :: a27 :: some v :: ls) h) ⟨⟩ := sa_loc rfl
theorem pre28 {a0 a1 a2 a3 a4 a5 a6 a7 a8 a9 a10 a11 a12 a13 a14 a15 a16 a17 a18 a19 a20 a21 a22 a23 a24 a25 a26 a27 e0 : Option D} : preS (some 28) (a0 :: a1 :: a2 :: a3 :: a4 :: a5 :: a6 :: a7 :: a8 :: a9 :: a10 :: a11 :: a12 :: a13 :: a14 :: a15 :: a16 :: a17 :: a18 :: a19 :: a20 :: a21 :: a22 :: a23 :: a24 :: a25 :: a26 :: a27 :: e0 :: ls) = some (a0 :: a1 :: a2 :: a3 :: a4 :: a5 :: a6 :: a7 :: a8 :: a9 :: a10 :: a11 :: a12 :: a13 :: a14 :: a15 :: a16 :: a17 :: a18 :: a19 :: a20 :: a21 :: a22 :: a23 :: a24 :: a25 :: a26 :: a27 :: none :: ls) := pre_loc (by simp only [List.length_cons]; omega)
theorem set28 {a0 a1 a2 a3 a4 a5 a6 a7 a8 a9 a10 a11 a12 a13 a14 a15 a16 a17 a18 a19 a20 a21 a22 a23 a24 a25 a26 a27 e0 : Option D} {e1 : Option D} : List.set (a0 :: a1 :: a2 :: a3 :: a4 :: a5 :: a6 :: a7 :: a8 :: a9 :: a10 :: a11 :: a12 :: a13 :: a14 :: a15 :: a16 :: a17 :: a18 :: a19 :: a20 :: a21 :: a22 :: a23 :: a24 :: a25 :: a26 :: a27 :: e0 :: ls) 28 e1 = a0 :: a1 :: a2 :: a3 :: a4 :: a5 :: a6 :: a7 :: a8 :: a9 :: a10 :: a11 :: a12 :: a13 :: a14 :: a15 :: a16 :: a17 :: a18 :: a19 :: a20 :: a21 :: a22 :: a23 :: a24 :: a25 :: a26 :: a27 :: e1 :: ls := rfl
theorem t_loc29 {a0 a1 a2 a3 a4 a5 a6 a7 a8 a9 a10 a11 a12 a13 a14 a15 a16 a17 a18 a19 a20 a21 a22 a23 a24 a25 a26 a27 a28 e0 : Option D} {d : D} : bindT (.loc 29) d (a0 :: a1 :: a2 :: a3 :: a4 :: a5 :: a6 :: a7 :: a8 :: a9 :: a10 :: a11 :: a12 :: a13 :: a14 :: a15 :: a16 :: a17 :: a18 :: a19 :: a20 :: a21 :: a22 :: a23 :: a24 :: a25 :: a26 :: a27 :: a28 :: e0 :: ls) = some (a0 :: a1 :: a2 :: a3 :: a4 :: a5 :: a6 :: a7 :: a8 :: a9 :: a10 :: a11 :: a12 :: a13 :: a14 :: a15 :: a16 :: a17 :: a18 :: a19 :: a20 :: a21 :: a22 :: a23 :: a24 :: a25 :: a26 :: a27 :: a28 :: some d :: ls) := bt_loc (by simp only [List.length_cons]; omega)
theorem t_cons29 {a0 a1 a2 a3 a4 a5 a6 a7 a8 a9 a10 a11 a12 a13 a14 a15 a16 a17 a18 a19 a20 a21 a22 a23 a24 a25 a26 a27 a28 e0 : Option D} {d : D} {t : E} {l : List D} : bindT.bindTs (.cons (.loc 29) t) (d :: l) (a0 :: a1 :: a2 :: a3 :: a4 :: a5 :: a6 :: a7 :: a8 :: a9 :: a10 :: a11 :: a12 :: a13 :: a14 :: a15 :: a16 :: a17 :: a18 :: a19 :: a20 :: a21 :: a22 :: a23 :: a24 :: a25 :: a26 :: a27 :: a28 :: e0 :: ls) = bindT.bindTs t l (a0 :: a1 :: a2 :: a3 :: a4 :: a5 :: a6 :: a7 :: a8 :: a9 :: a10 :: a11 :: a12 :: a13 :: a14 :: a15 :: a16 :: a17 :: a18 :: a19 :: a20 :: a21 :: a22 :: a23 :: a24 :: a25 :: a26 :: a27 :: a28 :: some d :: ls) := bt_cons (by simp only [List.length_cons]; omega)
theorem x_clv29 {a0 a1 a2 a3 a4 a5 a6 a7 a8 a9 a10 a11 a12 a13 a14 a15 a16 a17 a18 a19 a20 a21 a22 a23 a24 a25 a26 a27 a28 : Option D} {f n : Nat} {a : E} : evE C gl (.clv 29 n a) (a0 :: a1 :: a2 :: a3 :: a4 :: a5 :: a6 :: a7 :: a8 :: a9 :: a10 :: a11 :: a12 :: a13 :: a14 :: a15 :: a16 :: a17 :: a18 :: a19 :: a20 :: a21 :: a22 :: a23 :: a24 :: a25 :: a26 :: a27 :: a28 :: some (.fn f) :: ls) h = cnd (decide (f < n)) ((evA C gl a (a0 :: a1 :: a2 :: a3 :: a4 :: a5 :: a6 :: a7 :: a8 :: a9 :: a10 :: a11 :: a12 :: a13 :: a14 :: a15 :: a16 :: a17 :: a18 :: a19 :: a20 :: a21 :: a22 :: a23 :: a24 :: a25 :: a26 :: a27 :: a28 :: some (.fn f) :: ls) h).an (fun l h => C f l h) ⟨⟩) .stk ⟨⟩ := clv_eq rfl
theorem s_aug29 {a0 a1 a2 a3 a4 a5 a6 a7 a8 a9 a10 a11 a12 a13 a14 a15 a16 a17 a18 a19 a20 a21 a22 a23 a24 a25 a26 a27 a28 : Option D} {d : D} {o : BOp} {e : E} : evB xf gl X sub fuel (.aug 29 o e) C (a0 :: a1 :: a2 :: a3 :: a4 :: a5 :: a6 :: a7 :: a8 :: a9 :: a10 :: a11 :: a12 :: a13 :: a14 :: a15 :: a16 :: a17 :: a18 :: a19 :: a20 :: a21 :: a22 :: a23 :: a24 :: a25 :: a26 :: a27 :: a28 :: some d :: ls) h = ((evE C gl e (a0 :: a1 :: a2 :: a3 :: a4 :: a5 :: a6 :: a7 :: a8 :: a9 :: a10 :: a11 :: a12 :: a13 :: a14 :: a15 :: a16 :: a17 :: a18 :: a19 :: a20 :: a21 :: a22 :: a23 :: a24 :: a25 :: a26 :: a27 :: a28 :: some d :: ls) h).an (fun y h => ofO (augV o d y) h) ⟨⟩).aS (a0 :: a1 :: a2 :: a3 :: a4 :: a5 :: a6 :: a7 :: a8 :: a9 :: a10 :: a11 :: a12 :: a13 :: a14 :: a15 :: a16 :: a17 :: a18 :: a19 :: a20 :: a21 :: a22 :: a23 :: a24 :: a25 :: a26 :: a27 :: a28 :: some d :: ls) (fun v h => .nx (a0 :: a1 :: a2 :: a3 :: a4 :: a5 :: a6 :: a7 :: a8 :: a9 :: a10 :: a11 :: a12 :: a13 :: a14 :: a15 :: a16 :: a17 :: a18 :: a19 :: a20 :: a21 :: a22 :: a23 :: a24 :: a25 :: a26 :: a27 :: a28 :: some v :: ls) h) ⟨⟩ := sa_loc rfl
theorem pre29 {a0 a1 a2 a3 a4 a5 a6 a7 a8 a9 a10 a11 a12 a13 a14 a15 a16 a17 a18 a19 a20 a21 a22 a23 a24 a25 a26 a27 a28 e0 : Option D} : preS (some 29) (a0 :: a1 :: a2 :: a3 :: a4 :: a5 :: a6 :: a7 :: a8 :: a9 :: a10 :: a11 :: a12 :: a13 :: a14 :: a15 :: a16 :: a17 :: a18 :: a19 :: a20 :: a21 :: a22 :: a23 :: a24 :: a25 :: a26 :: a27 :: a28 :: e0 :: ls) = some (a0 :: a1 :: a2 :: a3 :: a4 :: a5 :: a6 :: a7 :: a8 :: a9 :: a10 :: a11 :: a12 :: a13 :: a14 :: a15 :: a16 :: a17 :: a18 :: a19 :: a20 :: a21 :: a22 :: a23 :: a24 :: a25 :: a26 :: a27 :: a28 :: none :: ls) := pre_loc (by simp only [List.length_cons]; omega)
theorem set29 {a0 a1 a2 a3 a4 a5 a6 a7 a8 a9 a10 a11 a12 a13 a14 a15 a16 a17 a18 a19 a20 a21 a22 a23 a24 a25 a26 a27 a28 e0 : Option D} {e1 : Option D} : List.set (a0 :: a1 :: a2 :: a3 :: a4 :: a5 :: a6 :: a7 :: a8 :: a9 :: a10 :: a11 :: a12 :: a13 :: a14 :: a15 :: a16 :: a17 :: a18 :: a19 :: a20 :: a21 :: a22 :: a23 :: a24 :: a25 :: a26 :: a27 :: a28 :: e0 :: ls) 29 e1 = a0 :: a1 :: a2 :: a3 :: a4 :: a5 :: a6 :: a7 :: a8 :: a9 :: a10 :: a11 :: a12 :: a13 :: a14 :: a15 :: a16 :: a17 :: a18 :: a19 :: a20 :: a21 :: a22 :: a23 :: a24 :: a25 :: a26 :: a27 :: a28 :: e1 :: ls := rfl
theorem t_loc30 {a0 a1 a2 a3 a4 a5 a6 a7 a8 a9 a10 a11 a12 a13 a14 a15 a16 a17 a18 a19 a20 a21 a22 a23 a24 a25 a26 a27 a28 a29 e0 : Option D} {d : D} : bindT (.loc 30) d (a0 :: a1 :: a2 :: a3 :: a4 :: a5 :: a6 :: a7 :: a8 :: a9 :: a10 :: a11 :: a12 :: a13 :: a14 :: a15 :: a16 :: a17 :: a18 :: a19 :: a20 :: a21 :: a22 :: a23 :: a24 :: a25 :: a26 :: a27 :: a28 :: a29 :: e0 :: ls) = some (a0 :: a1 :: a2 :: a3 :: a4 :: a5 :: a6 :: a7 :: a8 :: a9 :: a10 :: a11 :: a12 :: a13 :: a14 :: a15 :: a16 :: a17 :: a18 :: a19 :: a20 :: a21 :: a22 :: a23 :: a24 :: a25 :: a26 :: a27 :: a28 :: a29 :: some d :: ls) := bt_loc (by simp only [List.length_cons]; omega)
theorem t_cons30 {a0 a1 a2 a3 a4 a5 a6 a7 a8 a9 a10 a11 a12 a13 a14 a15 a16 a17 a18 a19 a20 a21 a22 a23 a24 a25 a26 a27 a28 a29 e0 : Option D} {d : D} {t : E} {l : List D} : bindT.bindTs (.cons (.loc 30) t) (d :: l) (a0 :: a1 :: a2 :: a3 :: a4 :: a5 :: a6 :: a7 :: a8 :: a9 :: a10 :: a11 :: a12 :: a13 :: a14 :: a15 :: a16 :: a17 :: a18 :: a19 :: a20 :: a21 :: a22 :: a23 :: a24 :: a25 :: a26 :: a27 :: a28 :: a29 :: e0 :: ls) = bindT.bindTs t l (a0 :: a1 :: a2 :: a3 :: a4 :: a5 :: a6 :: a7 :: a8 :: a9 :: a10 :: a11 :: a12 :: a13 :: a14 :: a15 :: a16 :: a17 :: a18 :: a19 :: a20 :: a21 :: a22 :: a23 :: a24 :: a25 :: a26 :: a27 :: a28 :: a29 :: some d :: ls) := bt_cons (by simp only [List.length_cons]; omega)
theorem x_clv30 {a0 a1 a2 a3 a4 a5 a6 a7 a8 a9 a10 a11 a12 a13 a14 a15 a16 a17 a18 a19 a20 a21 a22 a23 a24 a25 a26 a27 a28 a29 : Option D} {f n : Nat} {a : E} : evE C gl (.clv 30 n a) (a0 :: a1 :: a2 :: a3 :: a4 :: a5 :: a6 :: a7 :: a8 :: a9 :: a10 :: a11 :: a12 :: a13 :: a14 :: a15 :: a16 :: a17 :: a18 :: a19 :: a20 :: a21 :: a22 :: a23 :: a24 :: a25 :: a26 :: a27 :: a28 :: a29 :: some (.fn f) :: ls) h = cnd (decide (f < n)) ((evA C gl a (a0 :: a1 :: a2 :: a3 :: a4 :: a5 :: a6 :: a7 :: a8 :: a9 :: a10 :: a11 :: a12 :: a13 :: a14 :: a15 :: a16 :: a17 :: a18 :: a19 :: a20 :: a21 :: a22 :: a23 :: a24 :: a25 :: a26 :: a27 :: a28 :: a29 :: some (.fn f) :: ls) h).an (fun l h => C f l h) ⟨⟩) .stk ⟨⟩ := clv_eq rfl
theorem s_aug30 {a0 a1 a2 a3 a4 a5 a6 a7 a8 a9 a10 a11 a12 a13 a14 a15 a16 a17 a18 a19 a20 a21 a22 a23 a24 a25 a26 a27 a28 a29 : Option D} {d : D} {o : BOp} {e : E} : evB xf gl X sub fuel (.aug 30 o e) C (a0 :: a1 :: a2 :: a3 :: a4 :: a5 :: a6 :: a7 :: a8 :: a9 :: a10 :: a11 :: a12 :: a13 :: a14 :: a15 :: a16 :: a17 :: a18 :: a19 :: a20 :: a21 :: a22 :: a23 :: a24 :: a25 :: a26 :: a27 :: a28 :: a29 :: some d :: ls) h = ((evE C gl e (a0 :: a1 :: a2 :: a3 :: a4 :: a5 :: a6 :: a7 :: a8 :: a9 :: a10 :: a11 :: a12 :: a13 :: a14 :: a15 :: a16 :: a17 :: a18 :: a19 :: a20 :: a21 :: a22 :: a23 :: a24 :: a25 :: a26 :: a27 :: a28 :: a29 :: some d :: ls) h).an (fun y h => ofO (augV o d y) h) ⟨⟩).aS (a0 :: a1 :: a2 :: a3 :: a4 :: a5 :: a6 :: a7 :: a8 :: a9 :: a10 :: a11 :: a12 :: a13 :: a14 :: a15 :: a16 :: a17 :: a18 :: a19 :: a20 :: a21 :: a22 :: a23 :: a24 :: a25 :: a26 :: a27 :: a28 :: a29 :: some d :: ls) (fun v h => .nx (a0 :: a1 :: a2 :: a3 :: a4 :: a5 :: a6 :: a7 :: a8 :: a9 :: a10 :: a11 :: a12 :: a13 :: a14 :: a15 :: a16 :: a17 :: a18 :: a19 :: a20 :: a21 :: a22 :: a23 :: a24 :: a25 :: a26 :: a27 :: a28 :: a29 :: some v :: ls) h) ⟨⟩ := sa_loc rfl
theorem pre30 {a0 a1 a2 a3 a4 a5 a6 a7 a8 a9 a10 a11 a12 a13 a14 a15 a16 a17 a18 a19 a20 a21 a22 a23 a24 a25 a26 a27 a28 a29 e0 : Option D} : preS (some 30) (a0 :: a1 :: a2 :: a3 :: a4 :: a5 :: a6 :: a7 :: a8 :: a9 :: a10 :: a11 :: a12 :: a13 :: a14 :: a15 :: a16 :: a17 :: a18 :: a19 :: a20 :: a21 :: a22 :: a23 :: a24 :: a25 :: a26 :: a27 :: a28 :: a29 :: e0 :: ls) = some (a0 :: a1 :: a2 :: a3 :: a4 :: a5 :: a6 :: a7 :: a8 :: a9 :: a10 :: a11 :: a12 :: a13 :: a14 :: a15 :: a16 :: a17 :: a18 :: a19 :: a20 :: a21 :: a22 :: a23 :: a24 :: a25 :: a26 :: a27 :: a28 :: a29 :: none :: ls) := pre_loc (by simp only [List.length_cons]; omega)
theorem set30 {a0 a1 a2 a3 a4 a5 a6 a7 a8 a9 a10 a11 a12 a13 a14 a15 a16 a17 a18 a19 a20 a21 a22 a23 a24 a25 a26 a27 a28 a29 e0 : Option D} {e1 : Option D} : List.set (a0 :: a1 :: a2 :: a3 :: a4 :: a5 :: a6 :: a7 :: a8 :: a9 :: a10 :: a11 :: a12 :: a13 :: a14 :: a15 :: a16 :: a17 :: a18 :: a19 :: a20 :: a21 :: a22 :: a23 :: a24 :: a25 :: a26 :: a27 :: a28 :: a29 :: e0 :: ls) 30 e1 = a0 :: a1 :: a2 :: a3 :: a4 :: a5 :: a6 :: a7 :: a8 :: a9 :: a10 :: a11 :: a12 :: a13 :: a14 :: a15 :: a16 :: a17 :: a18 :: a19 :: a20 :: a21 :: a22 :: a23 :: a24 :: a25 :: a26 :: a27 :: a28 :: a29 :: e1 :: ls := rfl
theorem t_loc31 {a0 a1 a2 a3 a4 a5 a6 a7 a8 a9 a10 a11 a12 a13 a14 a15 a16 a17 a18 a19 a20 a21 a22 a23 a24 a25 a26 a27 a28 a29 a30 e0 : Option D} {d : D} : bindT (.loc 31) d (a0 :: a1 :: a2 :: a3 :: a4 :: a5 :: a6 :: a7 :: a8 :: a9 :: a10 :: a11 :: a12 :: a13 :: a14 :: a15 :: a16 :: a17 :: a18 :: a19 :: a20 :: a21 :: a22 :: a23 :: a24 :: a25 :: a26 :: a27 :: a28 :: a29 :: a30 :: e0 :: ls) = some (a0 :: a1 :: a2 :: a3 :: a4 :: a5 :: a6 :: a7 :: a8 :: a9 :: a10 :: a11 :: a12 :: a13 :: a14 :: a15 :: a16 :: a17 :: a18 :: a19 :: a20 :: a21 :: a22 :: a23 :: a24 :: a25 :: a26 :: a27 :: a28 :: a29 :: a30 :: some d :: ls) := bt_loc (by simp only [List.length_cons]; omega)
theorem t_cons31 {a0 a1 a2 a3 a4 a5 a6 a7 a8 a9 a10 a11 a12 a13 a14 a15 a16 a17 a18 a19 a20 a21 a22 a23 a24 a25 a26 a27 a28 a29 a30 e0 : Option D} {d : D} {t : E} {l : List D} : bindT.bindTs (.cons (.loc 31) t) (d :: l) (a0 :: a1 :: a2 :: a3 :: a4 :: a5 :: a6 :: a7 :: a8 :: a9 :: a10 :: a11 :: a12 :: a13 :: a14 :: a15 :: a16 :: a17 :: a18 :: a19 :: a20 :: a21 :: a22 :: a23 :: a24 :: a25 :: a26 :: a27 :: a28 :: a29 :: a30 :: e0 :: ls) = bindT.bindTs t l (a0 :: a1 :: a2 :: a3 :: a4 :: a5 :: a6 :: a7 :: a8 :: a9 :: a10 :: a11 :: a12 :: a13 :: a14 :: a15 :: a16 :: a17 :: a18 :: a19 :: a20 :: a21 :: a22 :: a23 :: a24 :: a25 :: a26 :: a27 :: a28 :: a29 :: a30 :: some d :: ls) := bt_cons (by simp only [List.length_cons]; omega)
theorem x_clv31 {a0 a1 a2 a3 a4 a5 a6 a7 a8 a9 a10 a11 a12 a13 a14 a15 a16 a17 a18 a19 a20 a21 a22 a23 a24 a25 a26 a27 a28 a29 a30 : Option D} {f n : Nat} {a : E} : evE C gl (.clv 31 n a) (a0 :: a1 :: a2 :: a3 :: a4 :: a5 :: a6 :: a7 :: a8 :: a9 :: a10 :: a11 :: a12 :: a13 :: a14 :: a15 :: a16 :: a17 :: a18 :: a19 :: a20 :: a21 :: a22 :: a23 :: a24 :: a25 :: a26 :: a27 :: a28 :: a29 :: a30 :: some (.fn f) :: ls) h = cnd (decide (f < n)) ((evA C gl a (a0 :: a1 :: a2 :: a3 :: a4 :: a5 :: a6 :: a7 :: a8 :: a9 :: a10 :: a11 :: a12 :: a13 :: a14 :: a15 :: a16 :: a17 :: a18 :: a19 :: a20 :: a21 :: a22 :: a23 :: a24 :: a25 :: a26 :: a27 :: a28 :: a29 :: a30 :: some (.fn f) :: ls) h).an (fun l h => C f l h) ⟨⟩) .stk ⟨⟩ := clv_eq rfl
theorem s_aug31 {a0 a1 a2 a3 a4 a5 a6 a7 a8 a9 a10 a11 a12 a13 a14 a15 a16 a17 a18 a19 a20 a21 a22 a23 a24 a25 a26 a27 a28 a29 a30 : Option D} {d : D} {o : BOp} {e : E} : evB xf gl X sub fuel (.aug 31 o e) C (a0 :: a1 :: a2 :: a3 :: a4 :: a5 :: a6 :: a7 :: a8 :: a9 :: a10 :: a11 :: a12 :: a13 :: a14 :: a15 :: a16 :: a17 :: a18 :: a19 :: a20 :: a21 :: a22 :: a23 :: a24 :: a25 :: a26 :: a27 :: a28 :: a29 :: a30 :: some d :: ls) h = ((evE C gl e (a0 :: a1 :: a2 :: a3 :: a4 :: a5 :: a6 :: a7 :: a8 :: a9 :: a10 :: a11 :: a12 :: a13 :: a14 :: a15 :: a16 :: a17 :: a18 :: a19 :: a20 :: a21 :: a22 :: a23 :: a24 :: a25 :: a26 :: a27 :: a28 :: a29 :: a30 :: some d :: ls) h).an (fun y h => ofO (augV o d y) h) ⟨⟩).aS (a0 :: a1 :: a2 :: a3 :: a4 :: a5 :: a6 :: a7 :: a8 :: a9 :: a10 :: a11 :: a12 :: a13 :: a14 :: a15 :: a16 :: a17 :: a18 :: a19 :: a20 :: a21 :: a22 :: a23 :: a24 :: a25 :: a26 :: a27 :: a28 :: a29 :: a30 :: some d :: ls) (fun v h => .nx (a0 :: a1 :: a2 :: a3 :: a4 :: a5 :: a6 :: a7 :: a8 :: a9 :: a10 :: a11 :: a12 :: a13 :: a14 :: a15 :: a16 :: a17 :: a18 :: a19 :: a20 :: a21 :: a22 :: a23 :: a24 :: a25 :: a26 :: a27 :: a28 :: a29 :: a30 :: some v :: ls) h) ⟨⟩ := sa_loc rfl
theorem pre31 {a0 a1 a2 a3 a4 a5 a6 a7 a8 a9 a10 a11 a12 a13 a14 a15 a16 a17 a18 a19 a20 a21 a22 a23 a24 a25 a26 a27 a28 a29 a30 e0 : Option D} : preS (some 31) (a0 :: a1 :: a2 :: a3 :: a4 :: a5 :: a6 :: a7 :: a8 :: a9 :: a10 :: a11 :: a12 :: a13 :: a14 :: a15 :: a16 :: a17 :: a18 :: a19 :: a20 :: a21 :: a22 :: a23 :: a24 :: a25 :: a26 :: a27 :: a28 :: a29 :: a30 :: e0 :: ls) = some (a0 :: a1 :: a2 :: a3 :: a4 :: a5 :: a6 :: a7 :: a8 :: a9 :: a10 :: a11 :: a12 :: a13 :: a14 :: a15 :: a16 :: a17 :: a18 :: a19 :: a20 :: a21 :: a22 :: a23 :: a24 :: a25 :: a26 :: a27 :: a28 :: a29 :: a30 :: none :: ls) := pre_loc (by simp only [List.length_cons]; omega)
theorem set31 {a0 a1 a2 a3 a4 a5 a6 a7 a8 a9 a10 a11 a12 a13 a14 a15 a16 a17 a18 a19 a20 a21 a22 a23 a24 a25 a26 a27 a28 a29 a30 e0 : Option D} {e1 : Option D} : List.set (a0 :: a1 :: a2 :: a3 :: a4 :: a5 :: a6 :: a7 :: a8 :: a9 :: a10 :: a11 :: a12 :: a13 :: a14 :: a15 :: a16 :: a17 :: a18 :: a19 :: a20 :: a21 :: a22 :: a23 :: a24 :: a25 :: a26 :: a27 :: a28 :: a29 :: a30 :: e0 :: ls) 31 e1 = a0 :: a1 :: a2 :: a3 :: a4 :: a5 :: a6 :: a7 :: a8 :: a9 :: a10 :: a11 :: a12 :: a13 :: a14 :: a15 :: a16 :: a17 :: a18 :: a19 :: a20 :: a21 :: a22 :: a23 :: a24 :: a25 :: a26 :: a27 :: a28 :: a29 :: a30 :: e1 :: ls := rfl
theorem t_loc32 {a0 a1 a2 a3 a4 a5 a6 a7 a8 a9 a10 a11 a12 a13 a14 a15 a16 a17 a18 a19 a20 a21 a22 a23 a24 a25 a26 a27 a28 a29 a30 a31 e0 : Option D} {d : D} : bindT (.loc 32) d (a0 :: a1 :: a2 :: a3 :: a4 :: a5 :: a6 :: a7 :: a8 :: a9 :: a10 :: a11 :: a12 :: a13 :: a14 :: a15 :: a16 :: a17 :: a18 :: a19 :: a20 :: a21 :: a22 :: a23 :: a24 :: a25 :: a26 :: a27 :: a28 :: a29 :: a30 :: a31 :: e0 :: ls) = some (a0 :: a1 :: a2 :: a3 :: a4 :: a5 :: a6 :: a7 :: a8 :: a9 :: a10 :: a11 :: a12 :: a13 :: a14 :: a15 :: a16 :: a17 :: a18 :: a19 :: a20 :: a21 :: a22 :: a23 :: a24 :: a25 :: a26 :: a27 :: a28 :: a29 :: a30 :: a31 :: some d :: ls) := bt_loc (by simp only [List.length_cons]; omega)
theorem t_cons32 {a0 a1 a2 a3 a4 a5 a6 a7 a8 a9 a10 a11 a12 a13 a14 a15 a16 a17 a18 a19 a20 a21 a22 a23 a24 a25 a26 a27 a28 a29 a30 a31 e0 : Option D} {d : D} {t : E} {l : List D} : bindT.bindTs (.cons (.loc 32) t) (d :: l) (a0 :: a1 :: a2 :: a3 :: a4 :: a5 :: a6 :: a7 :: a8 :: a9 :: a10 :: a11 :: a12 :: a13 :: a14 :: a15 :: a16 :: a17 :: a18 :: a19 :: a20 :: a21 :: a22 :: a23 :: a24 :: a25 :: a26 :: a27 :: a28 :: a29 :: a30 :: a31 :: e0 :: ls) = bindT.bindTs t l (a0 :: a1 :: a2 :: a3 :: a4 :: a5 :: a6 :: a7 :: a8 :: a9 :: a10 :: a11 :: a12 :: a13 :: a14 :: a15 :: a16 :: a17 :: a18 :: a19 :: a20 :: a21 :: a22 :: a23 :: a24 :: a25 :: a26 :: a27 :: a28 :: a29 :: a30 :: a31 :: some d :: ls) := bt_cons (by simp only [List.length_cons]; omega)
theorem x_clv32 {a0 a1 a2 a3 a4 a5 a6 a7 a8 a9 a10 a11 a12 a13 a14 a15 a16 a17 a18 a19 a20 a21 a22 a23 a24 a25 a26 a27 a28 a29 a30 a31 : Option D} {f n : Nat} {a : E} : evE C gl (.clv 32 n a) (a0 :: a1 :: a2 :: a3 :: a4 :: a5 :: a6 :: a7 :: a8 :: a9 :: a10 :: a11 :: a12 :: a13 :: a14 :: a15 :: a16 :: a17 :: a18 :: a19 :: a20 :: a21 :: a22 :: a23 :: a24 :: a25 :: a26 :: a27 :: a28 :: a29 :: a30 :: a31 :: some (.fn f) :: ls) h = cnd (decide (f < n)) ((evA C gl a (a0 :: a1 :: a2 :: a3 :: a4 :: a5 :: a6 :: a7 :: a8 :: a9 :: a10 :: a11 :: a12 :: a13 :: a14 :: a15 :: a16 :: a17 :: a18 :: a19 :: a20 :: a21 :: a22 :: a23 :: a24 :: a25 :: a26 :: a27 :: a28 :: a29 :: a30 :: a31 :: some (.fn f) :: ls) h).an (fun l h => C f l h) ⟨⟩) .stk ⟨⟩ := clv_eq rfl
theorem s_aug32 {a0 a1 a2 a3 a4 a5 a6 a7 a8 a9 a10 a11 a12 a13 a14 a15 a16 a17 a18 a19 a20 a21 a22 a23 a24 a25 a26 a27 a28 a29 a30 a31 : Option D} {d : D} {o : BOp} {e : E} : evB xf gl X sub fuel (.aug 32 o e) C (a0 :: a1 :: a2 :: a3 :: a4 :: a5 :: a6 :: a7 :: a8 :: a9 :: a10 :: a11 :: a12 :: a13 :: a14 :: a15 :: a16 :: a17 :: a18 :: a19 :: a20 :: a21 :: a22 :: a23 :: a24 :: a25 :: a26 :: a27 :: a28 :: a29 :: a30 :: a31 :: some d :: ls) h = ((evE C gl e (a0 :: a1 :: a2 :: a3 :: a4 :: a5 :: a6 :: a7 :: a8 :: a9 :: a10 :: a11 :: a12 :: a13 :: a14 :: a15 :: a16 :: a17 :: a18 :: a19 :: a20 :: a21 :: a22 :: a23 :: a24 :: a25 :: a26 :: a27 :: a28 :: a29 :: a30 :: a31 :: some d :: ls) h).an (fun y h => ofO (augV o d y) h) ⟨⟩).aS (a0 :: a1 :: a2 :: a3 :: a4 :: a5 :: a6 :: a7 :: a8 :: a9 :: a10 :: a11 :: a12 :: a13 :: a14 :: a15 :: a16 :: a17 :: a18 :: a19 :: a20 :: a21 :: a22 :: a23 :: a24 :: a25 :: a26 :: a27 :: a28 :: a29 :: a30 :: a31 :: some d :: ls) (fun v h => .nx (a0 :: a1 :: a2 :: a3 :: a4 :: a5 :: a6 :: a7 :: a8 :: a9 :: a10 :: a11 :: a12 :: a13 :: a14 :: a15 :: a16 :: a17 :: a18 :: a19 :: a20 :: a21 :: a22 :: a23 :: a24 :: a25 :: a26 :: a27 :: a28 :: a29 :: a30 :: a31 :: some v :: ls) h) ⟨⟩ := sa_loc rfl
theorem pre32 {a0 a1 a2 a3 a4 a5 a6 a7 a8 a9 a10 a11 a12 a13 a14 a15 a16 a17 a18 a19 a20 a21 a22 a23 a24 a25 a26 a27 a28 a29 a30 a31 e0 : Option D} : preS (some 32) (a0 :: a1 :: a2 :: a3 :: a4 :: a5 :: a6 :: a7 :: a8 :: a9 :: a10 :: a11 :: a12 :: a13 :: a14 :: a15 :: a16 :: a17 :: a18 :: a19 :: a20 :: a21 :: a22 :: a23 :: a24 :: a25 :: a26 :: a27 :: a28 :: a29 :: a30 :: a31 :: e0 :: ls) = some (a0 :: a1 :: a2 :: a3 :: a4 :: a5 :: a6 :: a7 :: a8 :: a9 :: a10 :: a11 :: a12 :: a13 :: a14 :: a15 :: a16 :: a17 :: a18 :: a19 :: a20 :: a21 :: a22 :: a23 :: a24 :: a25 :: a26 :: a27 :: a28 :: a29 :: a30 :: a31 :: none :: ls) := pre_loc (by simp only [List.length_cons]; omega)
theorem set32 {a0 a1 a2 a3 a4 a5 a6 a7 a8 a9 a10 a11 a12 a13 a14 a15 a16 a17 a18 a19 a20 a21 a22 a23 a24 a25 a26 a27 a28 a29 a30 a31 e0 : Option D} {e1 : Option D} : List.set (a0 :: a1 :: a2 :: a3 :: a4 :: a5 :: a6 :: a7 :: a8 :: a9 :: a10 :: a11 :: a12 :: a13 :: a14 :: a15 :: a16 :: a17 :: a18 :: a19 :: a20 :: a21 :: a22 :: a23 :: a24 :: a25 :: a26 :: a27 :: a28 :: a29 :: a30 :: a31 :: e0 :: ls) 32 e1 = a0 :: a1 :: a2 :: a3 :: a4 :: a5 :: a6 :: a7 :: a8 :: a9 :: a10 :: a11 :: a12 :: a13 :: a14 :: a15 :: a16 :: a17 :: a18 :: a19 :: a20 :: a21 :: a22 :: a23 :: a24 :: a25 :: a26 :: a27 :: a28 :: a29 :: a30 :: a31 :: e1 :: ls := rfl
theorem t_loc33 {a0 a1 a2 a3 a4 a5 a6 a7 a8 a9 a10 a11 a12 a13 a14 a15 a16 a17 a18 a19 a20 a21 a22 a23 a24 a25 a26 a27 a28 a29 a30 a31 a32 e0 : Option D} {d : D} : bindT (.loc 33) d (a0 :: a1 :: a2 :: a3 :: a4 :: a5 :: a6 :: a7 :: a8 :: a9 :: a10 :: a11 :: a12 :: a13 :: a14 :: a15 :: a16 :: a17 :: a18 :: a19 :: a20 :: a21 :: a22 :: a23 :: a24 :: a25 :: a26 :: a27 :: a28 :: a29 :: a30 :: a31 :: a32 :: e0 :: ls) = some (a0 :: a1 :: a2 :: a3 :: a4 :: a5 :: a6 :: a7 :: a8 :: a9 :: a10 :: a11 :: a12 :: a13 :: a14 :: a15 :: a16 :: a17 :: a18 :: a19 :: a20 :: a21 :: a22 :: a23 :: a24 :: a25 :: a26 :: a27 :: a28 :: a29 :: a30 :: a31 :: a32 :: some d :: ls) := bt_loc (by simp only [List.length_cons]; omega)
theorem t_cons33 {a0 a1 a2 a3 a4 a5 a6 a7 a8 a9 a10 a11 a12 a13 a14 a15 a16 a17 a18 a19 a20 a21 a22 a23 a24 a25 a26 a27 a28 a29 a30 a31 a32 e0 : Option D} {d : D} {t : E} {l : List D} : bindT.bindTs (.cons (.loc 33) t) (d :: l) (a0 :: a1 :: a2 :: a3 :: a4 :: a5 :: a6 :: a7 :: a8 :: a9 :: a10 :: a11 :: a12 :: a13 :: a14 :: a15 :: a16 :: a17 :: a18 :: a19 :: a20 :: a21 :: a22 :: a23 :: a24 :: a25 :: a26 :: a27 :: a28 :: a29 :: a30 :: a31 :: a32 :: e0 :: ls) = bindT.bindTs t l (a0 :: a1 :: a2 :: a3 :: a4 :: a5 :: a6 :: a7 :: a8 :: a9 :: a10 :: a11 :: a12 :: a13 :: a14 :: a15 :: a16 :: a17 :: a18 :: a19 :: a20 :: a21 :: a22 :: a23 :: a24 :: a25 :: a26 :: a27 :: a28 :: a29 :: a30 :: a31 :: a32 :: some d :: ls) := bt_cons (by simp only [List.length_cons]; omega)
theorem x_clv33 {a0 a1 a2 a3 a4 a5 a6 a7 a8 a9 a10 a11 a12 a13 a14 a15 a16 a17 a18 a19 a20 a21 a22 a23 a24 a25 a26 a27 a28 a29 a30 a31 a32 : Option D} {f n : Nat} {a : E} : evE C gl (.clv 33 n a) (a0 :: a1 :: a2 :: a3 :: a4 :: a5 :: a6 :: a7 :: a8 :: a9 :: a10 :: a11 :: a12 :: a13 :: a14 :: a15 :: a16 :: a17 :: a18 :: a19 :: a20 :: a21 :: a22 :: a23 :: a24 :: a25 :: a26 :: a27 :: a28 :: a29 :: a30 :: a31 :: a32 :: some (.fn f) :: ls) h = cnd (decide (f < n)) ((evA C gl a (a0 :: a1 :: a2 :: a3 :: a4 :: a5 :: a6 :: a7 :: a8 :: a9 :: a10 :: a11 :: a12 :: a13 :: a14 :: a15 :: a16 :: a17 :: a18 :: a19 :: a20 :: a21 :: a22 :: a23 :: a24 :: a25 :: a26 :: a27 :: a28 :: a29 :: a30 :: a31 :: a32 :: some (.fn f) :: ls) h).an (fun l h => C f l h) ⟨⟩) .stk ⟨⟩ := clv_eq rfl
theorem s_aug33 {a0 a1 a2 a3 a4 a5 a6 a7 a8 a9 a10 a11 a12 a13 a14 a15 a16 a17 a18 a19 a20 a21 a22 a23 a24 a25 a26 a27 a28 a29 a30 a31 a32 : Option D} {d : D} {o : BOp} {e : E} : evB xf gl X sub fuel (.aug 33 o e) C (a0 :: a1 :: a2 :: a3 :: a4 :: a5 :: a6 :: a7 :: a8 :: a9 :: a10 :: a11 :: a12 :: a13 :: a14 :: a15 :: a16 :: a17 :: a18 :: a19 :: a20 :: a21 :: a22 :: a23 :: a24 :: a25 :: a26 :: a27 :: a28 :: a29 :: a30 :: a31 :: a32 :: some d :: ls) h = ((evE C gl e (a0 :: a1 :: a2 :: a3 :: a4 :: a5 :: a6 :: a7 :: a8 :: a9 :: a10 :: a11 :: a12 :: a13 :: a14 :: a15 :: a16 :: a17 :: a18 :: a19 :: a20 :: a21 :: a22 :: a23 :: a24 :: a25 :: a26 :: a27 :: a28 :: a29 :: a30 :: a31 :: a32 :: some d :: ls) h).an (fun y h => ofO (augV o d y) h) ⟨⟩).aS (a0 :: a1 :: a2 :: a3 :: a4 :: a5 :: a6 :: a7 :: a8 :: a9 :: a10 :: a11 :: a12 :: a13 :: a14 :: a15 :: a16 :: a17 :: a18 :: a19 :: a20 :: a21 :: a22 :: a23 :: a24 :: a25 :: a26 :: a27 :: a28 :: a29 :: a30 :: a31 :: a32 :: some d :: ls) (fun v h => .nx (a0 :: a1 :: a2 :: a3 :: a4 :: a5 :: a6 :: a7 :: a8 :: a9 :: a10 :: a11 :: a12 :: a13 :: a14 :: a15 :: a16 :: a17 :: a18 :: a19 :: a20 :: a21 :: a22 :: a23 :: a24 :: a25 :: a26 :: a27 :: a28 :: a29 :: a30 :: a31 :: a32 :: some v :: ls) h) ⟨⟩ := sa_loc rfl
theorem pre33 {a0 a1 a2 a3 a4 a5 a6 a7 a8 a9 a10 a11 a12 a13 a14 a15 a16 a17 a18 a19 a20 a21 a22 a23 a24 a25 a26 a27 a28 a29 a30 a31 a32 e0 : Option D} : preS (some 33) (a0 :: a1 :: a2 :: a3 :: a4 :: a5 :: a6 :: a7 :: a8 :: a9 :: a10 :: a11 :: a12 :: a13 :: a14 :: a15 :: a16 :: a17 :: a18 :: a19 :: a20 :: a21 :: a22 :: a23 :: a24 :: a25 :: a26 :: a27 :: a28 :: a29 :: a30 :: a31 :: a32 :: e0 :: ls) = some (a0 :: a1 :: a2 :: a3 :: a4 :: a5 :: a6 :: a7 :: a8 :: a9 :: a10 :: a11 :: a12 :: a13 :: a14 :: a15 :: a16 :: a17 :: a18 :: a19 :: a20 :: a21 :: a22 :: a23 :: a24 :: a25 :: a26 :: a27 :: a28 :: a29 :: a30 :: a31 :: a32 :: none :: ls) := pre_loc (by simp only [List.length_cons]; omega)
theorem set33 {a0 a1 a2 a3 a4 a5 a6 a7 a8 a9 a10 a11 a12 a13 a14 a15 a16 a17 a18 a19 a20 a21 a22 a23 a24 a25 a26 a27 a28 a29 a30 a31 a32 e0 : Option D} {e1 : Option D} : List.set (a0 :: a1 :: a2 :: a3 :: a4 :: a5 :: a6 :: a7 :: a8 :: a9 :: a10 :: a11 :: a12 :: a13 :: a14 :: a15 :: a16 :: a17 :: a18 :: a19 :: a20 :: a21 :: a22 :: a23 :: a24 :: a25 :: a26 :: a27 :: a28 :: a29 :: a30 :: a31 :: a32 :: e0 :: ls) 33 e1 = a0 :: a1 :: a2 :: a3 :: a4 :: a5 :: a6 :: a7 :: a8 :: a9 :: a10 :: a11 :: a12 :: a13 :: a14 :: a15 :: a16 :: a17 :: a18 :: a19 :: a20 :: a21 :: a22 :: a23 :: a24 :: a25 :: a26 :: a27 :: a28 :: a29 :: a30 :: a31 :: a32 :: e1 :: ls := rfl
theorem t_loc34 {a0 a1 a2 a3 a4 a5 a6 a7 a8 a9 a10 a11 a12 a13 a14 a15 a16 a17 a18 a19 a20 a21 a22 a23 a24 a25 a26 a27 a28 a29 a30 a31 a32 a33 e0 : Option D} {d : D} : bindT (.loc 34) d (a0 :: a1 :: a2 :: a3 :: a4 :: a5 :: a6 :: a7 :: a8 :: a9 :: a10 :: a11 :: a12 :: a13 :: a14 :: a15 :: a16 :: a17 :: a18 :: a19 :: a20 :: a21 :: a22 :: a23 :: a24 :: a25 :: a26 :: a27 :: a28 :: a29 :: a30 :: a31 :: a32 :: a33 :: e0 :: ls) = some (a0 :: a1 :: a2 :: a3 :: a4 :: a5 :: a6 :: a7 :: a8 :: a9 :: a10 :: a11 :: a12 :: a13 :: a14 :: a15 :: a16 :: a17 :: a18 :: a19 :: a20 :: a21 :: a22 :: a23 :: a24 :: a25 :: a26 :: a27 :: a28 :: a29 :: a30 :: a31 :: a32 :: a33 :: some d :: ls) := bt_loc (by simp only [List.length_cons]; omega)
theorem t_cons34 {a0 a1 a2 a3 a4 a5 a6 a7 a8 a9 a10 a11 a12 a13 a14 a15 a16 a17 a18 a19 a20 a21 a22 a23 a24 a25 a26 a27 a28 a29 a30 a31 a32 a33 e0 : Option D} {d : D} {t : E} {l : List D} : bindT.bindTs (.cons (.loc 34) t) (d :: l) (a0 :: a1 :: a2 :: a3 :: a4 :: a5 :: a6 :: a7 :: a8 :: a9 :: a10 :: a11 :: a12 :: a13 :: a14 :: a15 :: a16 :: a17 :: a18 :: a19 :: a20 :: a21 :: a22 :: a23 :: a24 :: a25 :: a26 :: a27 :: a28 :: a29 :: a30 :: a31 :: a32 :: a33 :: e0 :: ls) = bindT.bindTs t l (a0 :: a1 :: a2 :: a3 :: a4 :: a5 :: a6 :: a7 :: a8 :: a9 :: a10 :: a11 :: a12 :: a13 :: a14 :: a15 :: a16 :: a17 :: a18 :: a19 :: a20 :: a21 :: a22 :: a23 :: a24 :: a25 :: a26 :: a27 :: a28 :: a29 :: a30 :: a31 :: a32 :: a33 :: some d :: ls) := bt_cons (by simp only [List.length_cons]; omega)
theorem x_clv34 {a0 a1 a2 a3 a4 a5 a6 a7 a8 a9 a10 a11 a12 a13 a14 a15 a16 a17 a18 a19 a20 a21 a22 a23 a24 a25 a26 a27 a28 a29 a30 a31 a32 a33 : Option D} {f n : Nat} {a : E} : evE C gl (.clv 34 n a) (a0 :: a1 :: a2 :: a3 :: a4 :: a5 :: a6 :: a7 :: a8 :: a9 :: a10 :: a11 :: a12 :: a13 :: a14 :: a15 :: a16 :: a17 :: a18 :: a19 :: a20 :: a21 :: a22 :: a23 :: a24 :: a25 :: a26 :: a27 :: a28 :: a29 :: a30 :: a31 :: a32 :: a33 :: some (.fn f) :: ls) h = cnd (decide (f < n)) ((evA C gl a (a0 :: a1 :: a2 :: a3 :: a4 :: a5 :: a6 :: a7 :: a8 :: a9 :: a10 :: a11 :: a12 :: a13 :: a14 :: a15 :: a16 :: a17 :: a18 :: a19 :: a20 :: a21 :: a22 :: a23 :: a24 :: a25 :: a26 :: a27 :: a28 :: a29 :: a30 :: a31 :: a32 :: a33 :: some (.fn f) :: ls) h).an (fun l h => C f l h) ⟨⟩) .stk ⟨⟩ := clv_eq rfl
theorem s_aug34 {a0 a1 a2 a3 a4 a5 a6 a7 a8 a9 a10 a11 a12 a13 a14 a15 a16 a17 a18 a19 a20 a21 a22 a23 a24 a25 a26 a27 a28 a29 a30 a31 a32 a33 : Option D} {d : D} {o : BOp} {e : E} : evB xf gl X sub fuel (.aug 34 o e) C (a0 :: a1 :: a2 :: a3 :: a4 :: a5 :: a6 :: a7 :: a8 :: a9 :: a10 :: a11 :: a12 :: a13 :: a14 :: a15 :: a16 :: a17 :: a18 :: a19 :: a20 :: a21 :: a22 :: a23 :: a24 :: a25 :: a26 :: a27 :: a28 :: a29 :: a30 :: a31 :: a32 :: a33 :: some d :: ls) h = ((evE C gl e (a0 :: a1 :: a2 :: a3 :: a4 :: a5 :: a6 :: a7 :: a8 :: a9 :: a10 :: a11 :: a12 :: a13 :: a14 :: a15 :: a16 :: a17 :: a18 :: a19 :: a20 :: a21 :: a22 :: a23 :: a24 :: a25 :: a26 :: a27 :: a28 :: a29 :: a30 :: a31 :: a32 :: a33 :: some d :: ls) h).an (fun y h => ofO (augV o d y) h) ⟨⟩).aS (a0 :: a1 :: a2 :: a3 :: a4 :: a5 :: a6 :: a7 :: a8 :: a9 :: a10 :: a11 :: a12 :: a13 :: a14 :: a15 :: a16 :: a17 :: a18 :: a19 :: a20 :: a21 :: a22 :: a23 :: a24 :: a25 :: a26 :: a27 :: a28 :: a29 :: a30 :: a31 :: a32 :: a33 :: some d :: ls) (fun v h => .nx (a0 :: a1 :: a2 :: a3 :: a4 :: a5 :: a6 :: a7 :: a8 :: a9 :: a10 :: a11 :: a12 :: a13 :: a14 :: a15 :: a16 :: a17 :: a18 :: a19 :: a20 :: a21 :: a22 :: a23 :: a24 :: a25 :: a26 :: a27 :: a28 :: a29 :: a30 :: a31 :: a32 :: a33 :: some v :: ls) h) ⟨⟩ := sa_loc rfl
theorem pre34 {a0 a1 a2 a3 a4 a5 a6 a7 a8 a9 a10 a11 a12 a13 a14 a15 a16 a17 a18 a19 a20 a21 a22 a23 a24 a25 a26 a27 a28 a29 a30 a31 a32 a33 e0 : Option D} : preS (some 34) (a0 :: a1 :: a2 :: a3 :: a4 :: a5 :: a6 :: a7 :: a8 :: a9 :: a10 :: a11 :: a12 :: a13 :: a14 :: a15 :: a16 :: a17 :: a18 :: a19 :: a20 :: a21 :: a22 :: a23 :: a24 :: a25 :: a26 :: a27 :: a28 :: a29 :: a30 :: a31 :: a32 :: a33 :: e0 :: ls) = some (a0 :: a1 :: a2 :: a3 :: a4 :: a5 :: a6 :: a7 :: a8 :: a9 :: a10 :: a11 :: a12 :: a13 :: a14 :: a15 :: a16 :: a17 :: a18 :: a19 :: a20 :: a21 :: a22 :: a23 :: a24 :: a25 :: a26 :: a27 :: a28 :: a29 :: a30 :: a31 :: a32 :: a33 :: none :: ls) := pre_loc (by simp only [List.length_cons]; omega)
theorem set34 {a0 a1 a2 a3 a4 a5 a6 a7 a8 a9 a10 a11 a12 a13 a14 a15 a16 a17 a18 a19 a20 a21 a22 a23 a24 a25 a26 a27 a28 a29 a30 a31 a32 a33 e0 : Option D} {e1 : Option D} : List.set (a0 :: a1 :: a2 :: a3 :: a4 :: a5 :: a6 :: a7 :: a8 :: a9 :: a10 :: a11 :: a12 :: a13 :: a14 :: a15 :: a16 :: a17 :: a18 :: a19 :: a20 :: a21 :: a22 :: a23 :: a24 :: a25 :: a26 :: a27 :: a28 :: a29 :: a30 :: a31 :: a32 :: a33 :: e0 :: ls) 34 e1 = a0 :: a1 :: a2 :: a3 :: a4 :: a5 :: a6 :: a7 :: a8 :: a9 :: a10 :: a11 :: a12 :: a13 :: a14 :: a15 :: a16 :: a17 :: a18 :: a19 :: a20 :: a21 :: a22 :: a23 :: a24 :: a25 :: a26 :: a27 :: a28 :: a29 :: a30 :: a31 :: a32 :: a33 :: e1 :: ls := rfl
theorem t_loc35 {a0 a1 a2 a3 a4 a5 a6 a7 a8 a9 a10 a11 a12 a13 a14 a15 a16 a17 a18 a19 a20 a21 a22 a23 a24 a25 a26 a27 a28 a29 a30 a31 a32 a33 a34 e0 : Option D} {d : D} : bindT (.loc 35) d (a0 :: a1 :: a2 :: a3 :: a4 :: a5 :: a6 :: a7 :: a8 :: a9 :: a10 :: a11 :: a12 :: a13 :: a14 :: a15 :: a16 :: a17 :: a18 :: a19 :: a20 :: a21 :: a22 :: a23 :: a24 :: a25 :: a26 :: a27 :: a28 :: a29 :: a30 :: a31 :: a32 :: a33 :: a34 :: e0 :: ls) = some (a0 :: a1 :: a2 :: a3 :: a4 :: a5 :: a6 :: a7 :: a8 :: a9 :: a10 :: a11 :: a12 :: a13 :: a14 :: a15 :: a16 :: a17 :: a18 :: a19 :: a20 :: a21 :: a22 :: a23 :: a24 :: a25 :: a26 :: a27 :: a28 :: a29 :: a30 :: a31 :: a32 :: a33 :: a34 :: some d :: ls) := bt_loc (by simp only [List.length_cons]; omega)
theorem t_cons35 {a0 a1 a2 a3 a4 a5 a6 a7 a8 a9 a10 a11 a12 a13 a14 a15 a16 a17 a18 a19 a20 a21 a22 a23 a24 a25 a26 a27 a28 a29 a30 a31 a32 a33 a34 e0 : Option D} {d : D} {t : E} {l : List D} : bindT.bindTs (.cons (.loc 35) t) (d :: l) (a0 :: a1 :: a2 :: a3 :: a4 :: a5 :: a6 :: a7 :: a8 :: a9 :: a10 :: a11 :: a12 :: a13 :: a14 :: a15 :: a16 :: a17 :: a18 :: a19 :: a20 :: a21 :: a22 :: a23 :: a24 :: a25 :: a26 :: a27 :: a28 :: a29 :: a30 :: a31 :: a32 :: a33 :: a34 :: e0 :: ls) = bindT.bindTs t l (a0 :: a1 :: a2 :: a3 :: a4 :: a5 :: a6 :: a7 :: a8 :: a9 :: a10 :: a11 :: a12 :: a13 :: a14 :: a15 :: a16 :: a17 :: a18 :: a19 :: a20 :: a21 :: a22 :: a23 :: a24 :: a25 :: a26 :: a27 :: a28 :: a29 :: a30 :: a31 :: a32 :: a33 :: a34 :: some d :: ls) := bt_cons (by simp only [List.length_cons]; omega)
theorem x_clv35 {a0 a1 a2 a3 a4 a5 a6 a7 a8 a9 a10 a11 a12 a13 a14 a15 a16 a17 a18 a19 a20 a21 a22 a23 a24 a25 a26 a27 a28 a29 a30 a31 a32 a33 a34 : Option D} {f n : Nat} {a : E} : evE C gl (.clv 35 n a) (a0 :: a1 :: a2 :: a3 :: a4 :: a5 :: a6 :: a7 :: a8 :: a9 :: a10 :: a11 :: a12 :: a13 :: a14 :: a15 :: a16 :: a17 :: a18 :: a19 :: a20 :: a21 :: a22 :: a23 :: a24 :: a25 :: a26 :: a27 :: a28 :: a29 :: a30 :: a31 :: a32 :: a33 :: a34 :: some (.fn f) :: ls) h = cnd (decide (f < n)) ((evA C gl a (a0 :: a1 :: a2 :: a3 :: a4 :: a5 :: a6 :: a7 :: a8 :: a9 :: a10 :: a11 :: a12 :: a13 :: a14 :: a15 :: a16 :: a17 :: a18 :: a19 :: a20 :: a21 :: a22 :: a23 :: a24 :: a25 :: a26 :: a27 :: a28 :: a29 :: a30 :: a31 :: a32 :: a33 :: a34 :: some (.fn f) :: ls) h).an (fun l h => C f l h) ⟨⟩) .stk ⟨⟩ := clv_eq rfl
theorem s_aug35 {a0 a1 a2 a3 a4 a5 a6 a7 a8 a9 a10 a11 a12 a13 a14 a15 a16 a17 a18 a19 a20 a21 a22 a23 a24 a25 a26 a27 a28 a29 a30 a31 a32 a33 a34 : Option D} {d : D} {o : BOp} {e : E} : evB xf gl X sub fuel (.aug 35 o e) C (a0 :: a1 :: a2 :: a3 :: a4 :: a5 :: a6 :: a7 :: a8 :: a9 :: a10 :: a11 :: a12 :: a13 :: a14 :: a15 :: a16 :: a17 :: a18 :: a19 :: a20 :: a21 :: a22 :: a23 :: a24 :: a25 :: a26 :: a27 :: a28 :: a29 :: a30 :: a31 :: a32 :: a33 :: a34 :: some d :: ls) h = ((evE C gl e (a0 :: a1 :: a2 :: a3 :: a4 :: a5 :: a6 :: a7 :: a8 :: a9 :: a10 :: a11 :: a12 :: a13 :: a14 :: a15 :: a16 :: a17 :: a18 :: a19 :: a20 :: a21 :: a22 :: a23 :: a24 :: a25 :: a26 :: a27 :: a28 :: a29 :: a30 :: a31 :: a32 :: a33 :: a34 :: some d :: ls) h).an (fun y h => ofO (augV o d y) h) ⟨⟩).aS (a0 :: a1 :: a2 :: a3 :: a4 :: a5 :: a6 :: a7 :: a8 :: a9 :: a10 :: a11 :: a12 :: a13 :: a14 :: a15 :: a16 :: a17 :: a18 :: a19 :: a20 :: a21 :: a22 :: a23 :: a24 :: a25 :: a26 :: a27 :: a28 :: a29 :: a30 :: a31 :: a32 :: a33 :: a34 :: some d :: ls) (fun v h => .nx (a0 :: a1 :: a2 :: a3 :: a4 :: a5 :: a6 :: a7 :: a8 :: a9 :: a10 :: a11 :: a12 :: a13 :: a14 :: a15 :: a16 :: a17 :: a18 :: a19 :: a20 :: a21 :: a22 :: a23 :: a24 :: a25 :: a26 :: a27 :: a28 :: a29 :: a30 :: a31 :: a32 :: a33 :: a34 :: some v :: ls) h) ⟨⟩ := sa_loc rfl
theorem pre35 {a0 a1 a2 a3 a4 a5 a6 a7 a8 a9 a10 a11 a12 a13 a14 a15 a16 a17 a18 a19 a20 a21 a22 a23 a24 a25 a26 a27 a28 a29 a30 a31 a32 a33 a34 e0 : Option D} : preS (some 35) (a0 :: a1 :: a2 :: a3 :: a4 :: a5 :: a6 :: a7 :: a8 :: a9 :: a10 :: a11 :: a12 :: a13 :: a14 :: a15 :: a16 :: a17 :: a18 :: a19 :: a20 :: a21 :: a22 :: a23 :: a24 :: a25 :: a26 :: a27 :: a28 :: a29 :: a30 :: a31 :: a32 :: a33 :: a34 :: e0 :: ls) = some (a0 :: a1 :: a2 :: a3 :: a4 :: a5 :: a6 :: a7 :: a8 :: a9 :: a10 :: a11 :: a12 :: a13 :: a14 :: a15 :: a16 :: a17 :: a18 :: a19 :: a20 :: a21 :: a22 :: a23 :: a24 :: a25 :: a26 :: a27 :: a28 :: a29 :: a30 :: a31 :: a32 :: a33 :: a34 :: none :: ls) := pre_loc (by simp only [List.length_cons]; omega)
theorem set35 {a0 a1 a2 a3 a4 a5 a6 a7 a8 a9 a10 a11 a12 a13 a14 a15 a16 a17 a18 a19 a20 a21 a22 a23 a24 a25 a26 a27 a28 a29 a30 a31 a32 a33 a34 e0 : Option D} {e1 : Option D} : List.set (a0 :: a1 :: a2 :: a3 :: a4 :: a5 :: a6 :: a7 :: a8 :: a9 :: a10 :: a11 :: a12 :: a13 :: a14 :: a15 :: a16 :: a17 :: a18 :: a19 :: a20 :: a21 :: a22 :: a23 :: a24 :: a25 :: a26 :: a27 :: a28 :: a29 :: a30 :: a31 :: a32 :: a33 :: a34 :: e0 :: ls) 35 e1 = a0 :: a1 :: a2 :: a3 :: a4 :: a5 :: a6 :: a7 :: a8 :: a9 :: a10 :: a11 :: a12 :: a13 :: a14 :: a15 :: a16 :: a17 :: a18 :: a19 :: a20 :: a21 :: a22 :: a23 :: a24 :: a25 :: a26 :: a27 :: a28 :: a29 :: a30 :: a31 :: a32 :: a33 :: a34 :: e1 :: ls := rfl
theorem t_loc36 {a0 a1 a2 a3 a4 a5 a6 a7 a8 a9 a10 a11 a12 a13 a14 a15 a16 a17 a18 a19 a20 a21 a22 a23 a24 a25 a26 a27 a28 a29 a30 a31 a32 a33 a34 a35 e0 : Option D} {d : D} : bindT (.loc 36) d (a0 :: a1 :: a2 :: a3 :: a4 :: a5 :: a6 :: a7 :: a8 :: a9 :: a10 :: a11 :: a12 :: a13 :: a14 :: a15 :: a16 :: a17 :: a18 :: a19 :: a20 :: a21 :: a22 :: a23 :: a24 :: a25 :: a26 :: a27 :: a28 :: a29 :: a30 :: a31 :: a32 :: a33 :: a34 :: a35 :: e0 :: ls) = some (a0 :: a1 :: a2 :: a3 :: a4 :: a5 :: a6 :: a7 :: a8 :: a9 :: a10 :: a11 :: a12 :: a13 :: a14 :: a15 :: a16 :: a17 :: a18 :: a19 :: a20 :: a21 :: a22 :: a23 :: a24 :: a25 :: a26 :: a27 :: a28 :: a29 :: a30 :: a31 :: a32 :: a33 :: a34 :: a35 :: some d :: ls) := bt_loc (by simp only [List.length_cons]; omega)
theorem t_cons36 {a0 a1 a2 a3 a4 a5 a6 a7 a8 a9 a10 a11 a12 a13 a14 a15 a16 a17 a18 a19 a20 a21 a22 a23 a24 a25 a26 a27 a28 a29 a30 a31 a32 a33 a34 a35 e0 : Option D} {d : D} {t : E} {l : List D} : bindT.bindTs (.cons (.loc 36) t) (d :: l) (a0 :: a1 :: a2 :: a3 :: a4 :: a5 :: a6 :: a7 :: a8 :: a9 :: a10 :: a11 :: a12 :: a13 :: a14 :: a15 :: a16 :: a17 :: a18 :: a19 :: a20 :: a21 :: a22 :: a23 :: a24 :: a25 :: a26 :: a27 :: a28 :: a29 :: a30 :: a31 :: a32 :: a33 :: a34 :: a35 :: e0 :: ls) = bindT.bindTs t l (a0 :: a1 :: a2 :: a3 :: a4 :: a5 :: a6 :: a7 :: a8 :: a9 :: a10 :: a11 :: a12 :: a13 :: a14 :: a15 :: a16 :: a17 :: a18 :: a19 :: a20 :: a21 :: a22 :: a23 :: a24 :: a25 :: a26 :: a27 :: a28 :: a29 :: a30 :: a31 :: a32 :: a33 :: a34 :: a35 :: some d :: ls) := bt_cons (by simp only [List.length_cons]; omega)
theorem x_clv36 {a0 a1 a2 a3 a4 a5 a6 a7 a8 a9 a10 a11 a12 a13 a14 a15 a16 a17 a18 a19 a20 a21 a22 a23 a24 a25 a26 a27 a28 a29 a30 a31 a32 a33 a34 a35 : Option D} {f n : Nat} {a : E} : evE C gl (.clv 36 n a) (a0 :: a1 :: a2 :: a3 :: a4 :: a5 :: a6 :: a7 :: a8 :: a9 :: a10 :: a11 :: a12 :: a13 :: a14 :: a15 :: a16 :: a17 :: a18 :: a19 :: a20 :: a21 :: a22 :: a23 :: a24 :: a25 :: a26 :: a27 :: a28 :: a29 :: a30 :: a31 :: a32 :: a33 :: a34 :: a35 :: some (.fn f) :: ls) h = cnd (decide (f < n)) ((evA C gl a (a0 :: a1 :: a2 :: a3 :: a4 :: a5 :: a6 :: a7 :: a8 :: a9 :: a10 :: a11 :: a12 :: a13 :: a14 :: a15 :: a16 :: a17 :: a18 :: a19 :: a20 :: a21 :: a22 :: a23 :: a24 :: a25 :: a26 :: a27 :: a28 :: a29 :: a30 :: a31 :: a32 :: a33 :: a34 :: a35 :: some (.fn f) :: ls) h).an (fun l h => C f l h) ⟨⟩) .stk ⟨⟩ := clv_eq rfl
theorem s_aug36 {a0 a1 a2 a3 a4 a5 a6 a7 a8 a9 a10 a11 a12 a13 a14 a15 a16 a17 a18 a19 a20 a21 a22 a23 a24 a25 a26 a27 a28 a29 a30 a31 a32 a33 a34 a35 : Option D} {d : D} {o : BOp} {e : E} : evB xf gl X sub fuel (.aug 36 o e) C (a0 :: a1 :: a2 :: a3 :: a4 :: a5 :: a6 :: a7 :: a8 :: a9 :: a10 :: a11 :: a12 :: a13 :: a14 :: a15 :: a16 :: a17 :: a18 :: a19 :: a20 :: a21 :: a22 :: a23 :: a24 :: a25 :: a26 :: a27 :: a28 :: a29 :: a30 :: a31 :: a32 :: a33 :: a34 :: a35 :: some d :: ls) h = ((evE C gl e (a0 :: a1 :: a2 :: a3 :: a4 :: a5 :: a6 :: a7 :: a8 :: a9 :: a10 :: a11 :: a12 :: a13 :: a14 :: a15 :: a16 :: a17 :: a18 :: a19 :: a20 :: a21 :: a22 :: a23 :: a24 :: a25 :: a26 :: a27 :: a28 :: a29 :: a30 :: a31 :: a32 :: a33 :: a34 :: a35 :: some d :: ls) h).an (fun y h => ofO (augV o d y) h) ⟨⟩).aS (a0 :: a1 :: a2 :: a3 :: a4 :: a5 :: a6 :: a7 :: a8 :: a9 :: a10 :: a11 :: a12 :: a13 :: a14 :: a15 :: a16 :: a17 :: a18 :: a19 :: a20 :: a21 :: a22 :: a23 :: a24 :: a25 :: a26 :: a27 :: a28 :: a29 :: a30 :: a31 :: a32 :: a33 :: a34 :: a35 :: some d :: ls) (fun v h => .nx (a0 :: a1 :: a2 :: a3 :: a4 :: a5 :: a6 :: a7 :: a8 :: a9 :: a10 :: a11 :: a12 :: a13 :: a14 :: a15 :: a16 :: a17 :: a18 :: a19 :: a20 :: a21 :: a22 :: a23 :: a24 :: a25 :: a26 :: a27 :: a28 :: a29 :: a30 :: a31 :: a32 :: a33 :: a34 :: a35 :: some v :: ls) h) ⟨⟩ := sa_loc rfl
theorem pre36 {a0 a1 a2 a3 a4 a5 a6 a7 a8 a9 a10 a11 a12 a13 a14 a15 a16 a17 a18 a19 a20 a21 a22 a23 a24 a25 a26 a27 a28 a29 a30 a31 a32 a33 a34 a35 e0 : Option D} : preS (some 36) (a0 :: a1 :: a2 :: a3 :: a4 :: a5 :: a6 :: a7 :: a8 :: a9 :: a10 :: a11 :: a12 :: a13 :: a14 :: a15 :: a16 :: a17 :: a18 :: a19 :: a20 :: a21 :: a22 :: a23 :: a24 :: a25 :: a26 :: a27 :: a28 :: a29 :: a30 :: a31 :: a32 :: a33 :: a34 :: a35 :: e0 :: ls) = some (a0 :: a1 :: a2 :: a3 :: a4 :: a5 :: a6 :: a7 :: a8 :: a9 :: a10 :: a11 :: a12 :: a13 :: a14 :: a15 :: a16 :: a17 :: a18 :: a19 :: a20 :: a21 :: a22 :: a23 :: a24 :: a25 :: a26 :: a27 :: a28 :: a29 :: a30 :: a31 :: a32 :: a33 :: a34 :: a35 :: none :: ls) := pre_loc (by simp only [List.length_cons]; omega)
theorem set36 {a0 a1 a2 a3 a4 a5 a6 a7 a8 a9 a10 a11 a12 a13 a14 a15 a16 a17 a18 a19 a20 a21 a22 a23 a24 a25 a26 a27 a28 a29 a30 a31 a32 a33 a34 a35 e0 : Option D} {e1 : Option D} : List.set (a0 :: a1 :: a2 :: a3 :: a4 :: a5 :: a6 :: a7 :: a8 :: a9 :: a10 :: a11 :: a12 :: a13 :: a14 :: a15 :: a16 :: a17 :: a18 :: a19 :: a20 :: a21 :: a22 :: a23 :: a24 :: a25 :: a26 :: a27 :: a28 :: a29 :: a30 :: a31 :: a32 :: a33 :: a34 :: a35 :: e0 :: ls) 36 e1 = a0 :: a1 :: a2 :: a3 :: a4 :: a5 :: a6 :: a7 :: a8 :: a9 :: a10 :: a11 :: a12 :: a13 :: a14 :: a15 :: a16 :: a17 :: a18 :: a19 :: a20 :: a21 :: a22 :: a23 :: a24 :: a25 :: a26 :: a27 :: a28 :: a29 :: a30 :: a31 :: a32 :: a33 :: a34 :: a35 :: e1 :: ls := rfl
theorem t_loc37 {a0 a1 a2 a3 a4 a5 a6 a7 a8 a9 a10 a11 a12 a13 a14 a15 a16 a17 a18 a19 a20 a21 a22 a23 a24 a25 a26 a27 a28 a29 a30 a31 a32 a33 a34 a35 a36 e0 : Option D} {d : D} : bindT (.loc 37) d (a0 :: a1 :: a2 :: a3 :: a4 :: a5 :: a6 :: a7 :: a8 :: a9 :: a10 :: a11 :: a12 :: a13 :: a14 :: a15 :: a16 :: a17 :: a18 :: a19 :: a20 :: a21 :: a22 :: a23 :: a24 :: a25 :: a26 :: a27 :: a28 :: a29 :: a30 :: a31 :: a32 :: a33 :: a34 :: a35 :: a36 :: e0 :: ls) = some (a0 :: a1 :: a2 :: a3 :: a4 :: a5 :: a6 :: a7 :: a8 :: a9 :: a10 :: a11 :: a12 :: a13 :: a14 :: a15 :: a16 :: a17 :: a18 :: a19 :: a20 :: a21 :: a22 :: a23 :: a24 :: a25 :: a26 :: a27 :: a28 :: a29 :: a30 :: a31 :: a32 :: a33 :: a34 :: a35 :: a36 :: some d :: ls) := bt_loc (by simp only [List.length_cons]; omega)
theorem t_cons37 {a0 a1 a2 a3 a4 a5 a6 a7 a8 a9 a10 a11 a12 a13 a14 a15 a16 a17 a18 a19 a20 a21 a22 a23 a24 a25 a26 a27 a28 a29 a30 a31 a32 a33 a34 a35 a36 e0 : Option D} {d : D} {t : E} {l : List D} : bindT.bindTs (.cons (.loc 37) t) (d :: l) (a0 :: a1 :: a2 :: a3 :: a4 :: a5 :: a6 :: a7 :: a8 :: a9 :: a10 :: a11 :: a12 :: a13 :: a14 :: a15 :: a16 :: a17 :: a18 :: a19 :: a20 :: a21 :: a22 :: a23 :: a24 :: a25 :: a26 :: a27 :: a28 :: a29 :: a30 :: a31 :: a32 :: a33 :: a34 :: a35 :: a36 :: e0 :: ls) = bindT.bindTs t l (a0 :: a1 :: a2 :: a3 :: a4 :: a5 :: a6 :: a7 :: a8 :: a9 :: a10 :: a11 :: a12 :: a13 :: a14 :: a15 :: a16 :: a17 :: a18 :: a19 :: a20 :: a21 :: a22 :: a23 :: a24 :: a25 :: a26 :: a27 :: a28 :: a29 :: a30 :: a31 :: a32 :: a33 :: a34 :: a35 :: a36 :: some d :: ls) := bt_cons (by simp only [List.length_cons]; omega)
theorem x_clv37 {a0 a1 a2 a3 a4 a5 a6 a7 a8 a9 a10 a11 a12 a13 a14 a15 a16 a17 a18 a19 a20 a21 a22 a23 a24 a25 a26 a27 a28 a29 a30 a31 a32 a33 a34 a35 a36 : Option D} {f n : Nat} {a : E} : evE C gl (.clv 37 n a) (a0 :: a1 :: a2 :: a3 :: a4 :: a5 :: a6 :: a7 :: a8 :: a9 :: a10 :: a11 :: a12 :: a13 :: a14 :: a15 :: a16 :: a17 :: a18 :: a19 :: a20 :: a21 :: a22 :: a23 :: a24 :: a25 :: a26 :: a27 :: a28 :: a29 :: a30 :: a31 :: a32 :: a33 :: a34 :: a35 :: a36 :: some (.fn f) :: ls) h = cnd (decide (f < n)) ((evA C gl a (a0 :: a1 :: a2 :: a3 :: a4 :: a5 :: a6 :: a7 :: a8 :: a9 :: a10 :: a11 :: a12 :: a13 :: a14 :: a15 :: a16 :: a17 :: a18 :: a19 :: a20 :: a21 :: a22 :: a23 :: a24 :: a25 :: a26 :: a27 :: a28 :: a29 :: a30 :: a31 :: a32 :: a33 :: a34 :: a35 :: a36 :: some (.fn f) :: ls) h).an (fun l h => C f l h) ⟨⟩) .stk ⟨⟩ := clv_eq rfl
theorem s_aug37 {a0 a1 a2 a3 a4 a5 a6 a7 a8 a9 a10 a11 a12 a13 a14 a15 a16 a17 a18 a19 a20 a21 a22 a23 a24 a25 a26 a27 a28 a29 a30 a31 a32 a33 a34 a35 a36 : Option D} {d : D} {o : BOp} {e : E} : evB xf gl X sub fuel (.aug 37 o e) C (a0 :: a1 :: a2 :: a3 :: a4 :: a5 :: a6 :: a7 :: a8 :: a9 :: a10 :: a11 :: a12 :: a13 :: a14 :: a15 :: a16 :: a17 :: a18 :: a19 :: a20 :: a21 :: a22 :: a23 :: a24 :: a25 :: a26 :: a27 :: a28 :: a29 :: a30 :: a31 :: a32 :: a33 :: a34 :: a35 :: a36 :: some d :: ls) h = ((evE C gl e (a0 :: a1 :: a2 :: a3 :: a4 :: a5 :: a6 :: a7 :: a8 :: a9 :: a10 :: a11 :: a12 :: a13 :: a14 :: a15 :: a16 :: a17 :: a18 :: a19 :: a20 :: a21 :: a22 :: a23 :: a24 :: a25 :: a26 :: a27 :: a28 :: a29 :: a30 :: a31 :: a32 :: a33 :: a34 :: a35 :: a36 :: some d :: ls) h).an (fun y h => ofO (augV o d y) h) ⟨⟩).aS (a0 :: a1 :: a2 :: a3 :: a4 :: a5 :: a6 :: a7 :: a8 :: a9 :: a10 :: a11 :: a12 :: a13 :: a14 :: a15 :: a16 :: a17 :: a18 :: a19 :: a20 :: a21 :: a22 :: a23 :: a24 :: a25 :: a26 :: a27 :: a28 :: a29 :: a30 :: a31 :: a32 :: a33 :: a34 :: a35 :: a36 :: some d :: ls) (fun v h => .nx (a0 :: a1 :: a2 :: a3 :: a4 :: a5 :: a6 :: a7 :: a8 :: a9 :: a10 :: a11 :: a12 :: a13 :: a14 :: a15 :: a16 :: a17 :: a18 :: a19 :: a20 :: a21 :: a22 :: a23 :: a24 :: a25 :: a26 :: a27 :: a28 :: a29 :: a30 :: a31 :: a32 :: a33 :: a34 :: a35 :: a36 :: some v :: ls) h) ⟨⟩ := sa_loc rfl
theorem pre37 {a0 a1 a2 a3 a4 a5 a6 a7 a8 a9 a10 a11 a12 a13 a14 a15 a16 a17 a18 a19 a20 a21 a22 a23 a24 a25 a26 a27 a28 a29 a30 a31 a32 a33 a34 a35 a36 e0 : Option D} : preS (some 37) (a0 :: a1 :: a2 :: a3 :: a4 :: a5 :: a6 :: a7 :: a8 :: a9 :: a10 :: a11 :: a12 :: a13 :: a14 :: a15 :: a16 :: a17 :: a18 :: a19 :: a20 :: a21 :: a22 :: a23 :: a24 :: a25 :: a26 :: a27 :: a28 :: a29 :: a30 :: a31 :: a32 :: a33 :: a34 :: a35 :: a36 :: e0 :: ls) = some (a0 :: a1 :: a2 :: a3 :: a4 :: a5 :: a6 :: a7 :: a8 :: a9 :: a10 :: a11 :: a12 :: a13 :: a14 :: a15 :: a16 :: a17 :: a18 :: a19 :: a20 :: a21 :: a22 :: a23 :: a24 :: a25 :: a26 :: a27 :: a28 :: a29 :: a30 :: a31 :: a32 :: a33 :: a34 :: a35 :: a36 :: none :: ls) := pre_loc (by simp only [List.length_cons]; omega)
theorem set37 {a0 a1 a2 a3 a4 a5 a6 a7 a8 a9 a10 a11 a12 a13 a14 a15 a16 a17 a18 a19 a20 a21 a22 a23 a24 a25 a26 a27 a28 a29 a30 a31 a32 a33 a34 a35 a36 e0 : Option D} {e1 : Option D} : List.set (a0 :: a1 :: a2 :: a3 :: a4 :: a5 :: a6 :: a7 :: a8 :: a9 :: a10 :: a11 :: a12 :: a13 :: a14 :: a15 :: a16 :: a17 :: a18 :: a19 :: a20 :: a21 :: a22 :: a23 :: a24 :: a25 :: a26 :: a27 :: a28 :: a29 :: a30 :: a31 :: a32 :: a33 :: a34 :: a35 :: a36 :: e0 :: ls) 37 e1 = a0 :: a1 :: a2 :: a3 :: a4 :: a5 :: a6 :: a7 :: a8 :: a9 :: a10 :: a11 :: a12 :: a13 :: a14 :: a15 :: a16 :: a17 :: a18 :: a19 :: a20 :: a21 :: a22 :: a23 :: a24 :: a25 :: a26 :: a27 :: a28 :: a29 :: a30 :: a31 :: a32 :: a33 :: a34 :: a35 :: a36 :: e1 :: ls := rfl
theorem t_loc38 {a0 a1 a2 a3 a4 a5 a6 a7 a8 a9 a10 a11 a12 a13 a14 a15 a16 a17 a18 a19 a20 a21 a22 a23 a24 a25 a26 a27 a28 a29 a30 a31 a32 a33 a34 a35 a36 a37 e0 : Option D} {d : D} : bindT (.loc 38) d (a0 :: a1 :: a2 :: a3 :: a4 :: a5 :: a6 :: a7 :: a8 :: a9 :: a10 :: a11 :: a12 :: a13 :: a14 :: a15 :: a16 :: a17 :: a18 :: a19 :: a20 :: a21 :: a22 :: a23 :: a24 :: a25 :: a26 :: a27 :: a28 :: a29 :: a30 :: a31 :: a32 :: a33 :: a34 :: a35 :: a36 :: a37 :: e0 :: ls) = some (a0 :: a1 :: a2 :: a3 :: a4 :: a5 :: a6 :: a7 :: a8 :: a9 :: a10 :: a11 :: a12 :: a13 :: a14 :: a15 :: a16 :: a17 :: a18 :: a19 :: a20 :: a21 :: a22 :: a23 :: a24 :: a25 :: a26 :: a27 :: a28 :: a29 :: a30 :: a31 :: a32 :: a33 :: a34 :: a35 :: a36 :: a37 :: some d :: ls) := bt_loc (by simp only [List.length_cons]; omega)
theorem t_cons38 {a0 a1 a2 a3 a4 a5 a6 a7 a8 a9 a10 a11 a12 a13 a14 a15 a16 a17 a18 a19 a20 a21 a22 a23 a24 a25 a26 a27 a28 a29 a30 a31 a32 a33 a34 a35 a36 a37 e0 : Option D} {d : D} {t : E} {l : List D} : bindT.bindTs (.cons (.loc 38) t) (d :: l) (a0 :: a1 :: a2 :: a3 :: a4 :: a5 :: a6 :: a7 :: a8 :: a9 :: a10 :: a11 :: a12 :: a13 :: a14 :: a15 :: a16 :: a17 :: a18 :: a19 :: a20 :: a21 :: a22 :: a23 :: a24 :: a25 :: a26 :: a27 :: a28 :: a29 :: a30 :: a31 :: a32 :: a33 :: a34 :: a35 :: a36 :: a37 :: e0 :: ls) = bindT.bindTs t l (a0 :: a1 :: a2 :: a3 :: a4 :: a5 :: a6 :: a7 :: a8 :: a9 :: a10 :: a11 :: a12 :: a13 :: a14 :: a15 :: a16 :: a17 :: a18 :: a19 :: a20 :: a21 :: a22 :: a23 :: a24 :: a25 :: a26 :: a27 :: a28 :: a29 :: a30 :: a31 :: a32 :: a33 :: a34 :: a35 :: a36 :: a37 :: some d :: ls) := bt_cons (by simp only [List.length_cons]; omega)
theorem x_clv38 {a0 a1 a2 a3 a4 a5 a6 a7 a8 a9 a10 a11 a12 a13 a14 a15 a16 a17 a18 a19 a20 a21 a22 a23 a24 a25 a26 a27 a28 a29 a30 a31 a32 a33 a34 a35 a36 a37 : Option D} {f n : Nat} {a : E} : evE C gl (.clv 38 n a) (a0 :: a1 :: a2 :: a3 :: a4 :: a5 :: a6 :: a7 :: a8 :: a9 :: a10 :: a11 :: a12 :: a13 :: a14 :: a15 :: a16 :: a17 :: a18 :: a19 :: a20 :: a21 :: a22 :: a23 :: a24 :: a25 :: a26 :: a27 :: a28 :: a29 :: a30 :: a31 :: a32 :: a33 :: a34 :: a35 :: a36 :: a37 :: some (.fn f) :: ls) h = cnd (decide (f < n)) ((evA C gl a (a0 :: a1 :: a2 :: a3 :: a4 :: a5 :: a6 :: a7 :: a8 :: a9 :: a10 :: a11 :: a12 :: a13 :: a14 :: a15 :: a16 :: a17 :: a18 :: a19 :: a20 :: a21 :: a22 :: a23 :: a24 :: a25 :: a26 :: a27 :: a28 :: a29 :: a30 :: a31 :: a32 :: a33 :: a34 :: a35 :: a36 :: a37 :: some (.fn f) :: ls) h).an (fun l h => C f l h) ⟨⟩) .stk ⟨⟩ := clv_eq rfl
theorem s_aug38 {a0 a1 a2 a3 a4 a5 a6 a7 a8 a9 a10 a11 a12 a13 a14 a15 a16 a17 a18 a19 a20 a21 a22 a23 a24 a25 a26 a27 a28 a29 a30 a31 a32 a33 a34 a35 a36 a37 : Option D} {d : D} {o : BOp} {e : E} : evB xf gl X sub fuel (.aug 38 o e) C (a0 :: a1 :: a2 :: a3 :: a4 :: a5 :: a6 :: a7 :: a8 :: a9 :: a10 :: a11 :: a12 :: a13 :: a14 :: a15 :: a16 :: a17 :: a18 :: a19 :: a20 :: a21 :: a22 :: a23 :: a24 :: a25 :: a26 :: a27 :: a28 :: a29 :: a30 :: a31 :: a32 :: a33 :: a34 :: a35 :: a36 :: a37 :: some d :: ls) h = ((evE C gl e (a0 :: a1 :: a2 :: a3 :: a4 :: a5 :: a6 :: a7 :: a8 :: a9 :: a10 :: a11 :: a12 :: a13 :: a14 :: a15 :: a16 :: a17 :: a18 :: a19 :: a20 :: a21 :: a22 :: a23 :: a24 :: a25 :: a26 :: a27 :: a28 :: a29 :: a30 :: a31 :: a32 :: a33 :: a34 :: a35 :: a36 :: a37 :: some d :: ls) h).an (fun y h => ofO (augV o d y) h) ⟨⟩).aS (a0 :: a1 :: a2 :: a3 :: a4 :: a5 :: a6 :: a7 :: a8 :: a9 :: a10 :: a11 :: a12 :: a13 :: a14 :: a15 :: a16 :: a17 :: a18 :: a19 :: a20 :: a21 :: a22 :: a23 :: a24 :: a25 :: a26 :: a27 :: a28 :: a29 :: a30 :: a31 :: a32 :: a33 :: a34 :: a35 :: a36 :: a37 :: some d :: ls) (fun v h => .nx (a0 :: a1 :: a2 :: a3 :: a4 :: a5 :: a6 :: a7 :: a8 :: a9 :: a10 :: a11 :: a12 :: a13 :: a14 :: a15 :: a16 :: a17 :: a18 :: a19 :: a20 :: a21 :: a22 :: a23 :: a24 :: a25 :: a26 :: a27 :: a28 :: a29 :: a30 :: a31 :: a32 :: a33 :: a34 :: a35 :: a36 :: a37 :: some v :: ls) h) ⟨⟩ := sa_loc rfl
theorem pre38 {a0 a1 a2 a3 a4 a5 a6 a7 a8 a9 a10 a11 a12 a13 a14 a15 a16 a17 a18 a19 a20 a21 a22 a23 a24 a25 a26 a27 a28 a29 a30 a31 a32 a33 a34 a35 a36 a37 e0 : Option D} : preS (some 38) (a0 :: a1 :: a2 :: a3 :: a4 :: a5 :: a6 :: a7 :: a8 :: a9 :: a10 :: a11 :: a12 :: a13 :: a14 :: a15 :: a16 :: a17 :: a18 :: a19 :: a20 :: a21 :: a22 :: a23 :: a24 :: a25 :: a26 :: a27 :: a28 :: a29 :: a30 :: a31 :: a32 :: a33 :: a34 :: a35 :: a36 :: a37 :: e0 :: ls) = some (a0 :: a1 :: a2 :: a3 :: a4 :: a5 :: a6 :: a7 :: a8 :: a9 :: a10 :: a11 :: a12 :: a13 :: a14 :: a15 :: a16 :: a17 :: a18 :: a19 :: a20 :: a21 :: a22 :: a23 :: a24 :: a25 :: a26 :: a27 :: a28 :: a29 :: a30 :: a31 :: a32 :: a33 :: a34 :: a35 :: a36 :: a37 :: none :: ls) := pre_loc (by simp only [List.length_cons]; omega)
theorem set38 {a0 a1 a2 a3 a4 a5 a6 a7 a8 a9 a10 a11 a12 a13 a14 a15 a16 a17 a18 a19 a20 a21 a22 a23 a24 a25 a26 a27 a28 a29 a30 a31 a32 a33 a34 a35 a36 a37 e0 : Option D} {e1 : Option D} : List.set (a0 :: a1 :: a2 :: a3 :: a4 :: a5 :: a6 :: a7 :: a8 :: a9 :: a10 :: a11 :: a12 :: a13 :: a14 :: a15 :: a16 :: a17 :: a18 :: a19 :: a20 :: a21 :: a22 :: a23 :: a24 :: a25 :: a26 :: a27 :: a28 :: a29 :: a30 :: a31 :: a32 :: a33 :: a34 :: a35 :: a36 :: a37 :: e0 :: ls) 38 e1 = a0 :: a1 :: a2 :: a3 :: a4 :: a5 :: a6 :: a7 :: a8 :: a9 :: a10 :: a11 :: a12 :: a13 :: a14 :: a15 :: a16 :: a17 :: a18 :: a19 :: a20 :: a21 :: a22 :: a23 :: a24 :: a25 :: a26 :: a27 :: a28 :: a29 :: a30 :: a31 :: a32 :: a33 :: a34 :: a35 :: a36 :: a37 :: e1 :: ls := rfl
theorem t_loc39 {a0 a1 a2 a3 a4 a5 a6 a7 a8 a9 a10 a11 a12 a13 a14 a15 a16 a17 a18 a19 a20 a21 a22 a23 a24 a25 a26 a27 a28 a29 a30 a31 a32 a33 a34 a35 a36 a37 a38 e0 : Option D} {d : D} : bindT (.loc 39) d (a0 :: a1 :: a2 :: a3 :: a4 :: a5 :: a6 :: a7 :: a8 :: a9 :: a10 :: a11 :: a12 :: a13 :: a14 :: a15 :: a16 :: a17 :: a18 :: a19 :: a20 :: a21 :: a22 :: a23 :: a24 :: a25 :: a26 :: a27 :: a28 :: a29 :: a30 :: a31 :: a32 :: a33 :: a34 :: a35 :: a36 :: a37 :: a38 :: e0 :: ls) = some (a0 :: a1 :: a2 :: a3 :: a4 :: a5 :: a6 :: a7 :: a8 :: a9 :: a10 :: a11 :: a12 :: a13 :: a14 :: a15 :: a16 :: a17 :: a18 :: a19 :: a20 :: a21 :: a22 :: a23 :: a24 :: a25 :: a26 :: a27 :: a28 :: a29 :: a30 :: a31 :: a32 :: a33 :: a34 :: a35 :: a36 :: a37 :: a38 :: some d :: ls) := bt_loc (by simp only [List.length_cons]; omega)
theorem t_cons39 {a0 a1 a2 a3 a4 a5 a6 a7 a8 a9 a10 a11 a12 a13 a14 a15 a16 a17 a18 a19 a20 a21 a22 a23 a24 a25 a26 a27 a28 a29 a30 a31 a32 a33 a34 a35 a36 a37 a38 e0 : Option D} {d : D} {t : E} {l : List D} : bindT.bindTs (.cons (.loc 39) t) (d :: l) (a0 :: a1 :: a2 :: a3 :: a4 :: a5 :: a6 :: a7 :: a8 :: a9 :: a10 :: a11 :: a12 :: a13 :: a14 :: a15 :: a16 :: a17 :: a18 :: a19 :: a20 :: a21 :: a22 :: a23 :: a24 :: a25 :: a26 :: a27 :: a28 :: a29 :: a30 :: a31 :: a32 :: a33 :: a34 :: a35 :: a36 :: a37 :: a38 :: e0 :: ls) = bindT.bindTs t l (a0 :: a1 :: a2 :: a3 :: a4 :: a5 :: a6 :: a7 :: a8 :: a9 :: a10 :: a11 :: a12 :: a13 :: a14 :: a15 :: a16 :: a17 :: a18 :: a19 :: a20 :: a21 :: a22 :: a23 :: a24 :: a25 :: a26 :: a27 :: a28 :: a29 :: a30 :: a31 :: a32 :: a33 :: a34 :: a35 :: a36 :: a37 :: a38 :: some d :: ls) := bt_cons (by simp only [List.length_cons]; omega)
theorem x_clv39 {a0 a1 a2 a3 a4 a5 a6 a7 a8 a9 a10 a11 a12 a13 a14 a15 a16 a17 a18 a19 a20 a21 a22 a23 a24 a25 a26 a27 a28 a29 a30 a31 a32 a33 a34 a35 a36 a37 a38 : Option D} {f n : Nat} {a : E} : evE C gl (.clv 39 n a) (a0 :: a1 :: a2 :: a3 :: a4 :: a5 :: a6 :: a7 :: a8 :: a9 :: a10 :: a11 :: a12 :: a13 :: a14 :: a15 :: a16 :: a17 :: a18 :: a19 :: a20 :: a21 :: a22 :: a23 :: a24 :: a25 :: a26 :: a27 :: a28 :: a29 :: a30 :: a31 :: a32 :: a33 :: a34 :: a35 :: a36 :: a37 :: a38 :: some (.fn f) :: ls) h = cnd (decide (f < n)) ((evA C gl a (a0 :: a1 :: a2 :: a3 :: a4 :: a5 :: a6 :: a7 :: a8 :: a9 :: a10 :: a11 :: a12 :: a13 :: a14 :: a15 :: a16 :: a17 :: a18 :: a19 :: a20 :: a21 :: a22 :: a23 :: a24 :: a25 :: a26 :: a27 :: a28 :: a29 :: a30 :: a31 :: a32 :: a33 :: a34 :: a35 :: a36 :: a37 :: a38 :: some (.fn f) :: ls) h).an (fun l h => C f l h) ⟨⟩) .stk ⟨⟩ := clv_eq rfl
theorem s_aug39 {a0 a1 a2 a3 a4 a5 a6 a7 a8 a9 a10 a11 a12 a13 a14 a15 a16 a17 a18 a19 a20 a21 a22 a23 a24 a25 a26 a27 a28 a29 a30 a31 a32 a33 a34 a35 a36 a37 a38 : Option D} {d : D} {o : BOp} {e : E} : evB xf gl X sub fuel (.aug 39 o e) C (a0 :: a1 :: a2 :: a3 :: a4 :: a5 :: a6 :: a7 :: a8 :: a9 :: a10 :: a11 :: a12 :: a13 :: a14 :: a15 :: a16 :: a17 :: a18 :: a19 :: a20 :: a21 :: a22 :: a23 :: a24 :: a25 :: a26 :: a27 :: a28 :: a29 :: a30 :: a31 :: a32 :: a33 :: a34 :: a35 :: a36 :: a37 :: a38 :: some d :: ls) h = ((evE C gl e (a0 :: a1 :: a2 :: a3 :: a4 :: a5 :: a6 :: a7 :: a8 :: a9 :: a10 :: a11 :: a12 :: a13 :: a14 :: a15 :: a16 :: a17 :: a18 :: a19 :: a20 :: a21 :: a22 :: a23 :: a24 :: a25 :: a26 :: a27 :: a28 :: a29 :: a30 :: a31 :: a32 :: a33 :: a34 :: a35 :: a36 :: a37 :: a38 :: some d :: ls) h).an (fun y h => ofO (augV o d y) h) ⟨⟩).aS (a0 :: a1 :: a2 :: a3 :: a4 :: a5 :: a6 :: a7 :: a8 :: a9 :: a10 :: a11 :: a12 :: a13 :: a14 :: a15 :: a16 :: a17 :: a18 :: a19 :: a20 :: a21 :: a22 :: a23 :: a24 :: a25 :: a26 :: a27 :: a28 :: a29 :: a30 :: a31 :: a32 :: a33 :: a34 :: a35 :: a36 :: a37 :: a38 :: some d :: ls) (fun v h => .nx (a0 :: a1 :: a2 :: a3 :: a4 :: a5 :: a6 :: a7 :: a8 :: a9 :: a10 :: a11 :: a12 :: a13 :: a14 :: a15 :: a16 :: a17 :: a18 :: a19 :: a20 :: a21 :: a22 :: a23 :: a24 :: a25 :: a26 :: a27 :: a28 :: a29 :: a30 :: a31 :: a32 :: a33 :: a34 :: a35 :: a36 :: a37 :: a38 :: some v :: ls) h) ⟨⟩ := sa_loc rfl
theorem pre39 {a0 a1 a2 a3 a4 a5 a6 a7 a8 a9 a10 a11 a12 a13 a14 a15 a16 a17 a18 a19 a20 a21 a22 a23 a24 a25 a26 a27 a28 a29 a30 a31 a32 a33 a34 a35 a36 a37 a38 e0 : Option D} : preS (some 39) (a0 :: a1 :: a2 :: a3 :: a4 :: a5 :: a6 :: a7 :: a8 :: a9 :: a10 :: a11 :: a12 :: a13 :: a14 :: a15 :: a16 :: a17 :: a18 :: a19 :: a20 :: a21 :: a22 :: a23 :: a24 :: a25 :: a26 :: a27 :: a28 :: a29 :: a30 :: a31 :: a32 :: a33 :: a34 :: a35 :: a36 :: a37 :: a38 :: e0 :: ls) = some (a0 :: a1 :: a2 :: a3 :: a4 :: a5 :: a6 :: a7 :: a8 :: a9 :: a10 :: a11 :: a12 :: a13 :: a14 :: a15 :: a16 :: a17 :: a18 :: a19 :: a20 :: a21 :: a22 :: a23 :: a24 :: a25 :: a26 :: a27 :: a28 :: a29 :: a30 :: a31 :: a32 :: a33 :: a34 :: a35 :: a36 :: a37 :: a38 :: none :: ls) := pre_loc (by simp only [List.length_cons]; omega)
theorem set39 {a0 a1 a2 a3 a4 a5 a6 a7 a8 a9 a10 a11 a12 a13 a14 a15 a16 a17 a18 a19 a20 a21 a22 a23 a24 a25 a26 a27 a28 a29 a30 a31 a32 a33 a34 a35 a36 a37 a38 e0 : Option D} {e1 : Option D} : List.set (a0 :: a1 :: a2 :: a3 :: a4 :: a5 :: a6 :: a7 :: a8 :: a9 :: a10 :: a11 :: a12 :: a13 :: a14 :: a15 :: a16 :: a17 :: a18 :: a19 :: a20 :: a21 :: a22 :: a23 :: a24 :: a25 :: a26 :: a27 :: a28 :: a29 :: a30 :: a31 :: a32 :: a33 :: a34 :: a35 :: a36 :: a37 :: a38 :: e0 :: ls) 39 e1 = a0 :: a1 :: a2 :: a3 :: a4 :: a5 :: a6 :: a7 :: a8 :: a9 :: a10 :: a11 :: a12 :: a13 :: a14 :: a15 :: a16 :: a17 :: a18 :: a19 :: a20 :: a21 :: a22 :: a23 :: a24 :: a25 :: a26 :: a27 :: a28 :: a29 :: a30 :: a31 :: a32 :: a33 :: a34 :: a35 :: a36 :: a37 :: a38 :: e1 :: ls := rfl
theorem t_loc40 {a0 a1 a2 a3 a4 a5 a6 a7 a8 a9 a10 a11 a12 a13 a14 a15 a16 a17 a18 a19 a20 a21 a22 a23 a24 a25 a26 a27 a28 a29 a30 a31 a32 a33 a34 a35 a36 a37 a38 a39 e0 : Option D} {d : D} : bindT (.loc 40) d (a0 :: a1 :: a2 :: a3 :: a4 :: a5 :: a6 :: a7 :: a8 :: a9 :: a10 :: a11 :: a12 :: a13 :: a14 :: a15 :: a16 :: a17 :: a18 :: a19 :: a20 :: a21 :: a22 :: a23 :: a24 :: a25 :: a26 :: a27 :: a28 :: a29 :: a30 :: a31 :: a32 :: a33 :: a34 :: a35 :: a36 :: a37 :: a38 :: a39 :: e0 :: ls) = some (a0 :: a1 :: a2 :: a3 :: a4 :: a5 :: a6 :: a7 :: a8 :: a9 :: a10 :: a11 :: a12 :: a13 :: a14 :: a15 :: a16 :: a17 :: a18 :: a19 :: a20 :: a21 :: a22 :: a23 :: a24 :: a25 :: a26 :: a27 :: a28 :: a29 :: a30 :: a31 :: a32 :: a33 :: a34 :: a35 :: a36 :: a37 :: a38 :: a39 :: some d :: ls) := bt_loc (by simp only [List.length_cons]; omega)
theorem t_cons40 {a0 a1 a2 a3 a4 a5 a6 a7 a8 a9 a10 a11 a12 a13 a14 a15 a16 a17 a18 a19 a20 a21 a22 a23 a24 a25 a26 a27 a28 a29 a30 a31 a32 a33 a34 a35 a36 a37 a38 a39 e0 : Option D} {d : D} {t : E} {l : List D} : bindT.bindTs (.cons (.loc 40) t) (d :: l) (a0 :: a1 :: a2 :: a3 :: a4 :: a5 :: a6 :: a7 :: a8 :: a9 :: a10 :: a11 :: a12 :: a13 :: a14 :: a15 :: a16 :: a17 :: a18 :: a19 :: a20 :: a21 :: a22 :: a23 :: a24 :: a25 :: a26 :: a27 :: a28 :: a29 :: a30 :: a31 :: a32 :: a33 :: a34 :: a35 :: a36 :: a37 :: a38 :: a39 :: e0 :: ls) = bindT.bindTs t l (a0 :: a1 :: a2 :: a3 :: a4 :: a5 :: a6 :: a7 :: a8 :: a9 :: a10 :: a11 :: a12 :: a13 :: a14 :: a15 :: a16 :: a17 :: a18 :: a19 :: a20 :: a21 :: a22 :: a23 :: a24 :: a25 :: a26 :: a27 :: a28 :: a29 :: a30 :: a31 :: a32 :: a33 :: a34 :: a35 :: a36 :: a37 :: a38 :: a39 :: some d :: ls) := bt_cons (by simp only [List.length_cons]; omega)
theorem x_clv40 {a0 a1 a2 a3 a4 a5 a6 a7 a8 a9 a10 a11 a12 a13 a14 a15 a16 a17 a18 a19 a20 a21 a22 a23 a24 a25 a26 a27 a28 a29 a30 a31 a32 a33 a34 a35 a36 a37 a38 a39 : Option D} {f n : Nat} {a : E} : evE C gl (.clv 40 n a) (a0 :: a1 :: a2 :: a3 :: a4 :: a5 :: a6 :: a7 :: a8 :: a9 :: a10 :: a11 :: a12 :: a13 :: a14 :: a15 :: a16 :: a17 :: a18 :: a19 :: a20 :: a21 :: a22 :: a23 :: a24 :: a25 :: a26 :: a27 :: a28 :: a29 :: a30 :: a31 :: a32 :: a33 :: a34 :: a35 :: a36 :: a37 :: a38 :: a39 :: some (.fn f) :: ls) h = cnd (decide (f < n)) ((evA C gl a (a0 :: a1 :: a2 :: a3 :: a4 :: a5 :: a6 :: a7 :: a8 :: a9 :: a10 :: a11 :: a12 :: a13 :: a14 :: a15 :: a16 :: a17 :: a18 :: a19 :: a20 :: a21 :: a22 :: a23 :: a24 :: a25 :: a26 :: a27 :: a28 :: a29 :: a30 :: a31 :: a32 :: a33 :: a34 :: a35 :: a36 :: a37 :: a38 :: a39 :: some (.fn f) :: ls) h).an (fun l h => C f l h) ⟨⟩) .stk ⟨⟩ := clv_eq rfl
theorem s_aug40 {a0 a1 a2 a3 a4 a5 a6 a7 a8 a9 a10 a11 a12 a13 a14 a15 a16 a17 a18 a19 a20 a21 a22 a23 a24 a25 a26 a27 a28 a29 a30 a31 a32 a33 a34 a35 a36 a37 a38 a39 : Option D} {d : D} {o : BOp} {e : E} : evB xf gl X sub fuel (.aug 40 o e) C (a0 :: a1 :: a2 :: a3 :: a4 :: a5 :: a6 :: a7 :: a8 :: a9 :: a10 :: a11 :: a12 :: a13 :: a14 :: a15 :: a16 :: a17 :: a18 :: a19 :: a20 :: a21 :: a22 :: a23 :: a24 :: a25 :: a26 :: a27 :: a28 :: a29 :: a30 :: a31 :: a32 :: a33 :: a34 :: a35 :: a36 :: a37 :: a38 :: a39 :: some d :: ls) h = ((evE C gl e (a0 :: a1 :: a2 :: a3 :: a4 :: a5 :: a6 :: a7 :: a8 :: a9 :: a10 :: a11 :: a12 :: a13 :: a14 :: a15 :: a16 :: a17 :: a18 :: a19 :: a20 :: a21 :: a22 :: a23 :: a24 :: a25 :: a26 :: a27 :: a28 :: a29 :: a30 :: a31 :: a32 :: a33 :: a34 :: a35 :: a36 :: a37 :: a38 :: a39 :: some d :: ls) h).an (fun y h => ofO (augV o d y) h) ⟨⟩).aS (a0 :: a1 :: a2 :: a3 :: a4 :: a5 :: a6 :: a7 :: a8 :: a9 :: a10 :: a11 :: a12 :: a13 :: a14 :: a15 :: a16 :: a17 :: a18 :: a19 :: a20 :: a21 :: a22 :: a23 :: a24 :: a25 :: a26 :: a27 :: a28 :: a29 :: a30 :: a31 :: a32 :: a33 :: a34 :: a35 :: a36 :: a37 :: a38 :: a39 :: some d :: ls) (fun v h => .nx (a0 :: a1 :: a2 :: a3 :: a4 :: a5 :: a6 :: a7 :: a8 :: a9 :: a10 :: a11 :: a12 :: a13 :: a14 :: a15 :: a16 :: a17 :: a18 :: a19 :: a20 :: a21 :: a22 :: a23 :: a24 :: a25 :: a26 :: a27 :: a28 :: a29 :: a30 :: a31 :: a32 :: a33 :: a34 :: a35 :: a36 :: a37 :: a38 :: a39 :: some v :: ls) h) ⟨⟩ := sa_loc rfl
theorem pre40 {a0 a1 a2 a3 a4 a5 a6 a7 a8 a9 a10 a11 a12 a13 a14 a15 a16 a17 a18 a19 a20 a21 a22 a23 a24 a25 a26 a27 a28 a29 a30 a31 a32 a33 a34 a35 a36 a37 a38 a39 e0 : Option D} : preS (some 40) (a0 :: a1 :: a2 :: a3 :: a4 :: a5 :: a6 :: a7 :: a8 :: a9 :: a10 :: a11 :: a12 :: a13 :: a14 :: a15 :: a16 :: a17 :: a18 :: a19 :: a20 :: a21 :: a22 :: a23 :: a24 :: a25 :: a26 :: a27 :: a28 :: a29 :: a30 :: a31 :: a32 :: a33 :: a34 :: a35 :: a36 :: a37 :: a38 :: a39 :: e0 :: ls) = some (a0 :: a1 :: a2 :: a3 :: a4 :: a5 :: a6 :: a7 :: a8 :: a9 :: a10 :: a11 :: a12 :: a13 :: a14 :: a15 :: a16 :: a17 :: a18 :: a19 :: a20 :: a21 :: a22 :: a23 :: a24 :: a25 :: a26 :: a27 :: a28 :: a29 :: a30 :: a31 :: a32 :: a33 :: a34 :: a35 :: a36 :: a37 :: a38 :: a39 :: none :: ls) := pre_loc (by simp only [List.length_cons]; omega)
theorem set40 {a0 a1 a2 a3 a4 a5 a6 a7 a8 a9 a10 a11 a12 a13 a14 a15 a16 a17 a18 a19 a20 a21 a22 a23 a24 a25 a26 a27 a28 a29 a30 a31 a32 a33 a34 a35 a36 a37 a38 a39 e0 : Option D} {e1 : Option D} : List.set (a0 :: a1 :: a2 :: a3 :: a4 :: a5 :: a6 :: a7 :: a8 :: a9 :: a10 :: a11 :: a12 :: a13 :: a14 :: a15 :: a16 :: a17 :: a18 :: a19 :: a20 :: a21 :: a22 :: a23 :: a24 :: a25 :: a26 :: a27 :: a28 :: a29 :: a30 :: a31 :: a32 :: a33 :: a34 :: a35 :: a36 :: a37 :: a38 :: a39 :: e0 :: ls) 40 e1 = a0 :: a1 :: a2 :: a3 :: a4 :: a5 :: a6 :: a7 :: a8 :: a9 :: a10 :: a11 :: a12 :: a13 :: a14 :: a15 :: a16 :: a17 :: a18 :: a19 :: a20 :: a21 :: a22 :: a23 :: a24 :: a25 :: a26 :: a27 :: a28 :: a29 :: a30 :: a31 :: a32 :: a33 :: a34 :: a35 :: a36 :: a37 :: a38 :: a39 :: e1 :: ls := rfl
theorem t_loc41 {a0 a1 a2 a3 a4 a5 a6 a7 a8 a9 a10 a11 a12 a13 a14 a15 a16 a17 a18 a19 a20 a21 a22 a23 a24 a25 a26 a27 a28 a29 a30 a31 a32 a33 a34 a35 a36 a37 a38 a39 a40 e0 : Option D} {d : D} : bindT (.loc 41) d (a0 :: a1 :: a2 :: a3 :: a4 :: a5 :: a6 :: a7 :: a8 :: a9 :: a10 :: a11 :: a12 :: a13 :: a14 :: a15 :: a16 :: a17 :: a18 :: a19 :: a20 :: a21 :: a22 :: a23 :: a24 :: a25 :: a26 :: a27 :: a28 :: a29 :: a30 :: a31 :: a32 :: a33 :: a34 :: a35 :: a36 :: a37 :: a38 :: a39 :: a40 :: e0 :: ls) = some (a0 :: a1 :: a2 :: a3 :: a4 :: a5 :: a6 :: a7 :: a8 :: a9 :: a10 :: a11 :: a12 :: a13 :: a14 :: a15 :: a16 :: a17 :: a18 :: a19 :: a20 :: a21 :: a22 :: a23 :: a24 :: a25 :: a26 :: a27 :: a28 :: a29 :: a30 :: a31 :: a32 :: a33 :: a34 :: a35 :: a36 :: a37 :: a38 :: a39 :: a40 :: some d :: ls) := bt_loc (by simp only [List.length_cons]; omega)
theorem t_cons41 {a0 a1 a2 a3 a4 a5 a6 a7 a8 a9 a10 a11 a12 a13 a14 a15 a16 a17 a18 a19 a20 a21 a22 a23 a24 a25 a26 a27 a28 a29 a30 a31 a32 a33 a34 a35 a36 a37 a38 a39 a40 e0 : Option D} {d : D} {t : E} {l : List D} : bindT.bindTs (.cons (.loc 41) t) (d :: l) (a0 :: a1 :: a2 :: a3 :: a4 :: a5 :: a6 :: a7 :: a8 :: a9 :: a10 :: a11 :: a12 :: a13 :: a14 :: a15 :: a16 :: a17 :: a18 :: a19 :: a20 :: a21 :: a22 :: a23 :: a24 :: a25 :: a26 :: a27 :: a28 :: a29 :: a30 :: a31 :: a32 :: a33 :: a34 :: a35 :: a36 :: a37 :: a38 :: a39 :: a40 :: e0 :: ls) = bindT.bindTs t l (a0 :: a1 :: a2 :: a3 :: a4 :: a5 :: a6 :: a7 :: a8 :: a9 :: a10 :: a11 :: a12 :: a13 :: a14 :: a15 :: a16 :: a17 :: a18 :: a19 :: a20 :: a21 :: a22 :: a23 :: a24 :: a25 :: a26 :: a27 :: a28 :: a29 :: a30 :: a31 :: a32 :: a33 :: a34 :: a35 :: a36 :: a37 :: a38 :: a39 :: a40 :: some d :: ls) := bt_cons (by simp only [List.length_cons]; omega)
theorem x_clv41 {a0 a1 a2 a3 a4 a5 a6 a7 a8 a9 a10 a11 a12 a13 a14 a15 a16 a17 a18 a19 a20 a21 a22 a23 a24 a25 a26 a27 a28 a29 a30 a31 a32 a33 a34 a35 a36 a37 a38 a39 a40 : Option D} {f n : Nat} {a : E} : evE C gl (.clv 41 n a) (a0 :: a1 :: a2 :: a3 :: a4 :: a5 :: a6 :: a7 :: a8 :: a9 :: a10 :: a11 :: a12 :: a13 :: a14 :: a15 :: a16 :: a17 :: a18 :: a19 :: a20 :: a21 :: a22 :: a23 :: a24 :: a25 :: a26 :: a27 :: a28 :: a29 :: a30 :: a31 :: a32 :: a33 :: a34 :: a35 :: a36 :: a37 :: a38 :: a39 :: a40 :: some (.fn f) :: ls) h = cnd (decide (f < n)) ((evA C gl a (a0 :: a1 :: a2 :: a3 :: a4 :: a5 :: a6 :: a7 :: a8 :: a9 :: a10 :: a11 :: a12 :: a13 :: a14 :: a15 :: a16 :: a17 :: a18 :: a19 :: a20 :: a21 :: a22 :: a23 :: a24 :: a25 :: a26 :: a27 :: a28 :: a29 :: a30 :: a31 :: a32 :: a33 :: a34 :: a35 :: a36 :: a37 :: a38 :: a39 :: a40 :: some (.fn f) :: ls) h).an (fun l h => C f l h) ⟨⟩) .stk ⟨⟩ := clv_eq rfl
theorem s_aug41 {a0 a1 a2 a3 a4 a5 a6 a7 a8 a9 a10 a11 a12 a13 a14 a15 a16 a17 a18 a19 a20 a21 a22 a23 a24 a25 a26 a27 a28 a29 a30 a31 a32 a33 a34 a35 a36 a37 a38 a39 a40 : Option D} {d : D} {o : BOp} {e : E} : evB xf gl X sub fuel (.aug 41 o e) C (a0 :: a1 :: a2 :: a3 :: a4 :: a5 :: a6 :: a7 :: a8 :: a9 :: a10 :: a11 :: a12 :: a13 :: a14 :: a15 :: a16 :: a17 :: a18 :: a19 :: a20 :: a21 :: a22 :: a23 :: a24 :: a25 :: a26 :: a27 :: a28 :: a29 :: a30 :: a31 :: a32 :: a33 :: a34 :: a35 :: a36 :: a37 :: a38 :: a39 :: a40 :: some d :: ls) h = ((evE C gl e (a0 :: a1 :: a2 :: a3 :: a4 :: a5 :: a6 :: a7 :: a8 :: a9 :: a10 :: a11 :: a12 :: a13 :: a14 :: a15 :: a16 :: a17 :: a18 :: a19 :: a20 :: a21 :: a22 :: a23 :: a24 :: a25 :: a26 :: a27 :: a28 :: a29 :: a30 :: a31 :: a32 :: a33 :: a34 :: a35 :: a36 :: a37 :: a38 :: a39 :: a40 :: some d :: ls) h).an (fun y h => ofO (augV o d y) h) ⟨⟩).aS (a0 :: a1 :: a2 :: a3 :: a4 :: a5 :: a6 :: a7 :: a8 :: a9 :: a10 :: a11 :: a12 :: a13 :: a14 :: a15 :: a16 :: a17 :: a18 :: a19 :: a20 :: a21 :: a22 :: a23 :: a24 :: a25 :: a26 :: a27 :: a28 :: a29 :: a30 :: a31 :: a32 :: a33 :: a34 :: a35 :: a36 :: a37 :: a38 :: a39 :: a40 :: some d :: ls) (fun v h => .nx (a0 :: a1 :: a2 :: a3 :: a4 :: a5 :: a6 :: a7 :: a8 :: a9 :: a10 :: a11 :: a12 :: a13 :: a14 :: a15 :: a16 :: a17 :: a18 :: a19 :: a20 :: a21 :: a22 :: a23 :: a24 :: a25 :: a26 :: a27 :: a28 :: a29 :: a30 :: a31 :: a32 :: a33 :: a34 :: a35 :: a36 :: a37 :: a38 :: a39 :: a40 :: some v :: ls) h) ⟨⟩ := sa_loc rfl
theorem pre41 {a0 a1 a2 a3 a4 a5 a6 a7 a8 a9 a10 a11 a12 a13 a14 a15 a16 a17 a18 a19 a20 a21 a22 a23 a24 a25 a26 a27 a28 a29 a30 a31 a32 a33 a34 a35 a36 a37 a38 a39 a40 e0 : Option D} : preS (some 41) (a0 :: a1 :: a2 :: a3 :: a4 :: a5 :: a6 :: a7 :: a8 :: a9 :: a10 :: a11 :: a12 :: a13 :: a14 :: a15 :: a16 :: a17 :: a18 :: a19 :: a20 :: a21 :: a22 :: a23 :: a24 :: a25 :: a26 :: a27 :: a28 :: a29 :: a30 :: a31 :: a32 :: a33 :: a34 :: a35 :: a36 :: a37 :: a38 :: a39 :: a40 :: e0 :: ls) = some (a0 :: a1 :: a2 :: a3 :: a4 :: a5 :: a6 :: a7 :: a8 :: a9 :: a10 :: a11 :: a12 :: a13 :: a14 :: a15 :: a16 :: a17 :: a18 :: a19 :: a20 :: a21 :: a22 :: a23 :: a24 :: a25 :: a26 :: a27 :: a28 :: a29 :: a30 :: a31 :: a32 :: a33 :: a34 :: a35 :: a36 :: a37 :: a38 :: a39 :: a40 :: none :: ls) := pre_loc (by simp only [List.length_cons]; omega)
theorem set41 {a0 a1 a2 a3 a4 a5 a6 a7 a8 a9 a10 a11 a12 a13 a14 a15 a16 a17 a18 a19 a20 a21 a22 a23 a24 a25 a26 a27 a28 a29 a30 a31 a32 a33 a34 a35 a36 a37 a38 a39 a40 e0 : Option D} {e1 : Option D} : List.set (a0 :: a1 :: a2 :: a3 :: a4 :: a5 :: a6 :: a7 :: a8 :: a9 :: a10 :: a11 :: a12 :: a13 :: a14 :: a15 :: a16 :: a17 :: a18 :: a19 :: a20 :: a21 :: a22 :: a23 :: a24 :: a25 :: a26 :: a27 :: a28 :: a29 :: a30 :: a31 :: a32 :: a33 :: a34 :: a35 :: a36 :: a37 :: a38 :: a39 :: a40 :: e0 :: ls) 41 e1 = a0 :: a1 :: a2 :: a3 :: a4 :: a5 :: a6 :: a7 :: a8 :: a9 :: a10 :: a11 :: a12 :: a13 :: a14 :: a15 :: a16 :: a17 :: a18 :: a19 :: a20 :: a21 :: a22 :: a23 :: a24 :: a25 :: a26 :: a27 :: a28 :: a29 :: a30 :: a31 :: a32 :: a33 :: a34 :: a35 :: a36 :: a37 :: a38 :: a39 :: a40 :: e1 :: ls := rfl
theorem t_loc42 {a0 a1 a2 a3 a4 a5 a6 a7 a8 a9 a10 a11 a12 a13 a14 a15 a16 a17 a18 a19 a20 a21 a22 a23 a24 a25 a26 a27 a28 a29 a30 a31 a32 a33 a34 a35 a36 a37 a38 a39 a40 a41 e0 : Option D} {d : D} : bindT (.loc 42) d (a0 :: a1 :: a2 :: a3 :: a4 :: a5 :: a6 :: a7 :: a8 :: a9 :: a10 :: a11 :: a12 :: a13 :: a14 :: a15 :: a16 :: a17 :: a18 :: a19 :: a20 :: a21 :: a22 :: a23 :: a24 :: a25 :: a26 :: a27 :: a28 :: a29 :: a30 :: a31 :: a32 :: a33 :: a34 :: a35 :: a36 :: a37 :: a38 :: a39 :: a40 :: a41 :: e0 :: ls) = some (a0 :: a1 :: a2 :: a3 :: a4 :: a5 :: a6 :: a7 :: a8 :: a9 :: a10 :: a11 :: a12 :: a13 :: a14 :: a15 :: a16 :: a17 :: a18 :: a19 :: a20 :: a21 :: a22 :: a23 :: a24 :: a25 :: a26 :: a27 :: a28 :: a29 :: a30 :: a31 :: a32 :: a33 :: a34 :: a35 :: a36 :: a37 :: a38 :: a39 :: a40 :: a41 :: some d :: ls) := bt_loc (by simp only [List.length_cons]; omega)
theorem t_cons42 {a0 a1 a2 a3 a4 a5 a6 a7 a8 a9 a10 a11 a12 a13 a14 a15 a16 a17 a18 a19 a20 a21 a22 a23 a24 a25 a26 a27 a28 a29 a30 a31 a32 a33 a34 a35 a36 a37 a38 a39 a40 a41 e0 : Option D} {d : D} {t : E} {l : List D} : bindT.bindTs (.cons (.loc 42) t) (d :: l) (a0 :: a1 :: a2 :: a3 :: a4 :: a5 :: a6 :: a7 :: a8 :: a9 :: a10 :: a11 :: a12 :: a13 :: a14 :: a15 :: a16 :: a17 :: a18 :: a19 :: a20 :: a21 :: a22 :: a23 :: a24 :: a25 :: a26 :: a27 :: a28 :: a29 :: a30 :: a31 :: a32 :: a33 :: a34 :: a35 :: a36 :: a37 :: a38 :: a39 :: a40 :: a41 :: e0 :: ls) = bindT.bindTs t l (a0 :: a1 :: a2 :: a3 :: a4 :: a5 :: a6 :: a7 :: a8 :: a9 :: a10 :: a11 :: a12 :: a13 :: a14 :: a15 :: a16 :: a17 :: a18 :: a19 :: a20 :: a21 :: a22 :: a23 :: a24 :: a25 :: a26 :: a27 :: a28 :: a29 :: a30 :: a31 :: a32 :: a33 :: a34 :: a35 :: a36 :: a37 :: a38 :: a39 :: a40 :: a41 :: some d :: ls) := bt_cons (by simp only [List.length_cons]; omega)
theorem x_clv42 {a0 a1 a2 a3 a4 a5 a6 a7 a8 a9 a10 a11 a12 a13 a14 a15 a16 a17 a18 a19 a20 a21 a22 a23 a24 a25 a26 a27 a28 a29 a30 a31 a32 a33 a34 a35 a36 a37 a38 a39 a40 a41 : Option D} {f n : Nat} {a : E} : evE C gl (.clv 42 n a) (a0 :: a1 :: a2 :: a3 :: a4 :: a5 :: a6 :: a7 :: a8 :: a9 :: a10 :: a11 :: a12 :: a13 :: a14 :: a15 :: a16 :: a17 :: a18 :: a19 :: a20 :: a21 :: a22 :: a23 :: a24 :: a25 :: a26 :: a27 :: a28 :: a29 :: a30 :: a31 :: a32 :: a33 :: a34 :: a35 :: a36 :: a37 :: a38 :: a39 :: a40 :: a41 :: some (.fn f) :: ls) h = cnd (decide (f < n)) ((evA C gl a (a0 :: a1 :: a2 :: a3 :: a4 :: a5 :: a6 :: a7 :: a8 :: a9 :: a10 :: a11 :: a12 :: a13 :: a14 :: a15 :: a16 :: a17 :: a18 :: a19 :: a20 :: a21 :: a22 :: a23 :: a24 :: a25 :: a26 :: a27 :: a28 :: a29 :: a30 :: a31 :: a32 :: a33 :: a34 :: a35 :: a36 :: a37 :: a38 :: a39 :: a40 :: a41 :: some (.fn f) :: ls) h).an (fun l h => C f l h) ⟨⟩) .stk ⟨⟩ := clv_eq rfl
theorem s_aug42 {a0 a1 a2 a3 a4 a5 a6 a7 a8 a9 a10 a11 a12 a13 a14 a15 a16 a17 a18 a19 a20 a21 a22 a23 a24 a25 a26 a27 a28 a29 a30 a31 a32 a33 a34 a35 a36 a37 a38 a39 a40 a41 : Option D} {d : D} {o : BOp} {e : E} : evB xf gl X sub fuel (.aug 42 o e) C (a0 :: a1 :: a2 :: a3 :: a4 :: a5 :: a6 :: a7 :: a8 :: a9 :: a10 :: a11 :: a12 :: a13 :: a14 :: a15 :: a16 :: a17 :: a18 :: a19 :: a20 :: a21 :: a22 :: a23 :: a24 :: a25 :: a26 :: a27 :: a28 :: a29 :: a30 :: a31 :: a32 :: a33 :: a34 :: a35 :: a36 :: a37 :: a38 :: a39 :: a40 :: a41 :: some d :: ls) h = ((evE C gl e (a0 :: a1 :: a2 :: a3 :: a4 :: a5 :: a6 :: a7 :: a8 :: a9 :: a10 :: a11 :: a12 :: a13 :: a14 :: a15 :: a16 :: a17 :: a18 :: a19 :: a20 :: a21 :: a22 :: a23 :: a24 :: a25 :: a26 :: a27 :: a28 :: a29 :: a30 :: a31 :: a32 :: a33 :: a34 :: a35 :: a36 :: a37 :: a38 :: a39 :: a40 :: a41 :: some d :: ls) h).an (fun y h => ofO (augV o d y) h) ⟨⟩).aS (a0 :: a1 :: a2 :: a3 :: a4 :: a5 :: a6 :: a7 :: a8 :: a9 :: a10 :: a11 :: a12 :: a13 :: a14 :: a15 :: a16 :: a17 :: a18 :: a19 :: a20 :: a21 :: a22 :: a23 :: a24 :: a25 :: a26 :: a27 :: a28 :: a29 :: a30 :: a31 :: a32 :: a33 :: a34 :: a35 :: a36 :: a37 :: a38 :: a39 :: a40 :: a41 :: some d :: ls) (fun v h => .nx (a0 :: a1 :: a2 :: a3 :: a4 :: a5 :: a6 :: a7 :: a8 :: a9 :: a10 :: a11 :: a12 :: a13 :: a14 :: a15 :: a16 :: a17 :: a18 :: a19 :: a20 :: a21 :: a22 :: a23 :: a24 :: a25 :: a26 :: a27 :: a28 :: a29 :: a30 :: a31 :: a32 :: a33 :: a34 :: a35 :: a36 :: a37 :: a38 :: a39 :: a40 :: a41 :: some v :: ls) h) ⟨⟩ := sa_loc rfl
theorem pre42 {a0 a1 a2 a3 a4 a5 a6 a7 a8 a9 a10 a11 a12 a13 a14 a15 a16 a17 a18 a19 a20 a21 a22 a23 a24 a25 a26 a27 a28 a29 a30 a31 a32 a33 a34 a35 a36 a37 a38 a39 a40 a41 e0 : Option D} : preS (some 42) (a0 :: a1 :: a2 :: a3 :: a4 :: a5 :: a6 :: a7 :: a8 :: a9 :: a10 :: a11 :: a12 :: a13 :: a14 :: a15 :: a16 :: a17 :: a18 :: a19 :: a20 :: a21 :: a22 :: a23 :: a24 :: a25 :: a26 :: a27 :: a28 :: a29 :: a30 :: a31 :: a32 :: a33 :: a34 :: a35 :: a36 :: a37 :: a38 :: a39 :: a40 :: a41 :: e0 :: ls) = some (a0 :: a1 :: a2 :: a3 :: a4 :: a5 :: a6 :: a7 :: a8 :: a9 :: a10 :: a11 :: a12 :: a13 :: a14 :: a15 :: a16 :: a17 :: a18 :: a19 :: a20 :: a21 :: a22 :: a23 :: a24 :: a25 :: a26 :: a27 :: a28 :: a29 :: a30 :: a31 :: a32 :: a33 :: a34 :: a35 :: a36 :: a37 :: a38 :: a39 :: a40 :: a41 :: none :: ls) := pre_loc (by simp only [List.length_cons]; omega)
theorem set42 {a0 a1 a2 a3 a4 a5 a6 a7 a8 a9 a10 a11 a12 a13 a14 a15 a16 a17 a18 a19 a20 a21 a22 a23 a24 a25 a26 a27 a28 a29 a30 a31 a32 a33 a34 a35 a36 a37 a38 a39 a40 a41 e0 : Option D} {e1 : Option D} : List.set (a0 :: a1 :: a2 :: a3 :: a4 :: a5 :: a6 :: a7 :: a8 :: a9 :: a10 :: a11 :: a12 :: a13 :: a14 :: a15 :: a16 :: a17 :: a18 :: a19 :: a20 :: a21 :: a22 :: a23 :: a24 :: a25 :: a26 :: a27 :: a28 :: a29 :: a30 :: a31 :: a32 :: a33 :: a34 :: a35 :: a36 :: a37 :: a38 :: a39 :: a40 :: a41 :: e0 :: ls) 42 e1 = a0 :: a1 :: a2 :: a3 :: a4 :: a5 :: a6 :: a7 :: a8 :: a9 :: a10 :: a11 :: a12 :: a13 :: a14 :: a15 :: a16 :: a17 :: a18 :: a19 :: a20 :: a21 :: a22 :: a23 :: a24 :: a25 :: a26 :: a27 :: a28 :: a29 :: a30 :: a31 :: a32 :: a33 :: a34 :: a35 :: a36 :: a37 :: a38 :: a39 :: a40 :: a41 :: e1 :: ls := rfl
theorem t_loc43 {a0 a1 a2 a3 a4 a5 a6 a7 a8 a9 a10 a11 a12 a13 a14 a15 a16 a17 a18 a19 a20 a21 a22 a23 a24 a25 a26 a27 a28 a29 a30 a31 a32 a33 a34 a35 a36 a37 a38 a39 a40 a41 a42 e0 : Option D} {d : D} : bindT (.loc 43) d (a0 :: a1 :: a2 :: a3 :: a4 :: a5 :: a6 :: a7 :: a8 :: a9 :: a10 :: a11 :: a12 :: a13 :: a14 :: a15 :: a16 :: a17 :: a18 :: a19 :: a20 :: a21 :: a22 :: a23 :: a24 :: a25 :: a26 :: a27 :: a28 :: a29 :: a30 :: a31 :: a32 :: a33 :: a34 :: a35 :: a36 :: a37 :: a38 :: a39 :: a40 :: a41 :: a42 :: e0 :: ls) = some (a0 :: a1 :: a2 :: a3 :: a4 :: a5 :: a6 :: a7 :: a8 :: a9 :: a10 :: a11 :: a12 :: a13 :: a14 :: a15 :: a16 :: a17 :: a18 :: a19 :: a20 :: a21 :: a22 :: a23 :: a24 :: a25 :: a26 :: a27 :: a28 :: a29 :: a30 :: a31 :: a32 :: a33 :: a34 :: a35 :: a36 :: a37 :: a38 :: a39 :: a40 :: a41 :: a42 :: some d :: ls) := bt_loc (by simp only [List.length_cons]; omega)
theorem t_cons43 {a0 a1 a2 a3 a4 a5 a6 a7 a8 a9 a10 a11 a12 a13 a14 a15 a16 a17 a18 a19 a20 a21 a22 a23 a24 a25 a26 a27 a28 a29 a30 a31 a32 a33 a34 a35 a36 a37 a38 a39 a40 a41 a42 e0 : Option D} {d : D} {t : E} {l : List D} : bindT.bindTs (.cons (.loc 43) t) (d :: l) (a0 :: a1 :: a2 :: a3 :: a4 :: a5 :: a6 :: a7 :: a8 :: a9 :: a10 :: a11 :: a12 :: a13 :: a14 :: a15 :: a16 :: a17 :: a18 :: a19 :: a20 :: a21 :: a22 :: a23 :: a24 :: a25 :: a26 :: a27 :: a28 :: a29 :: a30 :: a31 :: a32 :: a33 :: a34 :: a35 :: a36 :: a37 :: a38 :: a39 :: a40 :: a41 :: a42 :: e0 :: ls) = bindT.bindTs t l (a0 :: a1 :: a2 :: a3 :: a4 :: a5 :: a6 :: a7 :: a8 :: a9 :: a10 :: a11 :: a12 :: a13 :: a14 :: a15 :: a16 :: a17 :: a18 :: a19 :: a20 :: a21 :: a22 :: a23 :: a24 :: a25 :: a26 :: a27 :: a28 :: a29 :: a30 :: a31 :: a32 :: a33 :: a34 :: a35 :: a36 :: a37 :: a38 :: a39 :: a40 :: a41 :: a42 :: some d :: ls) := bt_cons (by simp only [List.length_cons]; omega)
theorem x_clv43 {a0 a1 a2 a3 a4 a5 a6 a7 a8 a9 a10 a11 a12 a13 a14 a15 a16 a17 a18 a19 a20 a21 a22 a23 a24 a25 a26 a27 a28 a29 a30 a31 a32 a33 a34 a35 a36 a37 a38 a39 a40 a41 a42 : Option D} {f n : Nat} {a : E} : evE C gl (.clv 43 n a) (a0 :: a1 :: a2 :: a3 :: a4 :: a5 :: a6 :: a7 :: a8 :: a9 :: a10 :: a11 :: a12 :: a13 :: a14 :: a15 :: a16 :: a17 :: a18 :: a19 :: a20 :: a21 :: a22 :: a23 :: a24 :: a25 :: a26 :: a27 :: a28 :: a29 :: a30 :: a31 :: a32 :: a33 :: a34 :: a35 :: a36 :: a37 :: a38 :: a39 :: a40 :: a41 :: a42 :: some (.fn f) :: ls) h = cnd (decide (f < n)) ((evA C gl a (a0 :: a1 :: a2 :: a3 :: a4 :: a5 :: a6 :: a7 :: a8 :: a9 :: a10 :: a11 :: a12 :: a13 :: a14 :: a15 :: a16 :: a17 :: a18 :: a19 :: a20 :: a21 :: a22 :: a23 :: a24 :: a25 :: a26 :: a27 :: a28 :: a29 :: a30 :: a31 :: a32 :: a33 :: a34 :: a35 :: a36 :: a37 :: a38 :: a39 :: a40 :: a41 :: a42 :: some (.fn f) :: ls) h).an (fun l h => C f l h) ⟨⟩) .stk ⟨⟩ := clv_eq rfl
theorem s_aug43 {a0 a1 a2 a3 a4 a5 a6 a7 a8 a9 a10 a11 a12 a13 a14 a15 a16 a17 a18 a19 a20 a21 a22 a23 a24 a25 a26 a27 a28 a29 a30 a31 a32 a33 a34 a35 a36 a37 a38 a39 a40 a41 a42 : Option D} {d : D} {o : BOp} {e : E} : evB xf gl X sub fuel (.aug 43 o e) C (a0 :: a1 :: a2 :: a3 :: a4 :: a5 :: a6 :: a7 :: a8 :: a9 :: a10 :: a11 :: a12 :: a13 :: a14 :: a15 :: a16 :: a17 :: a18 :: a19 :: a20 :: a21 :: a22 :: a23 :: a24 :: a25 :: a26 :: a27 :: a28 :: a29 :: a30 :: a31 :: a32 :: a33 :: a34 :: a35 :: a36 :: a37 :: a38 :: a39 :: a40 :: a41 :: a42 :: some d :: ls) h = ((evE C gl e (a0 :: a1 :: a2 :: a3 :: a4 :: a5 :: a6 :: a7 :: a8 :: a9 :: a10 :: a11 :: a12 :: a13 :: a14 :: a15 :: a16 :: a17 :: a18 :: a19 :: a20 :: a21 :: a22 :: a23 :: a24 :: a25 :: a26 :: a27 :: a28 :: a29 :: a30 :: a31 :: a32 :: a33 :: a34 :: a35 :: a36 :: a37 :: a38 :: a39 :: a40 :: a41 :: a42 :: some d :: ls) h).an (fun y h => ofO (augV o d y) h) ⟨⟩).aS (a0 :: a1 :: a2 :: a3 :: a4 :: a5 :: a6 :: a7 :: a8 :: a9 :: a10 :: a11 :: a12 :: a13 :: a14 :: a15 :: a16 :: a17 :: a18 :: a19 :: a20 :: a21 :: a22 :: a23 :: a24 :: a25 :: a26 :: a27 :: a28 :: a29 :: a30 :: a31 :: a32 :: a33 :: a34 :: a35 :: a36 :: a37 :: a38 :: a39 :: a40 :: a41 :: a42 :: some d :: ls) (fun v h => .nx (a0 :: a1 :: a2 :: a3 :: a4 :: a5 :: a6 :: a7 :: a8 :: a9 :: a10 :: a11 :: a12 :: a13 :: a14 :: a15 :: a16 :: a17 :: a18 :: a19 :: a20 :: a21 :: a22 :: a23 :: a24 :: a25 :: a26 :: a27 :: a28 :: a29 :: a30 :: a31 :: a32 :: a33 :: a34 :: a35 :: a36 :: a37 :: a38 :: a39 :: a40 :: a41 :: a42 :: some v :: ls) h) ⟨⟩ := sa_loc rfl
theorem pre43 {a0 a1 a2 a3 a4 a5 a6 a7 a8 a9 a10 a11 a12 a13 a14 a15 a16 a17 a18 a19 a20 a21 a22 a23 a24 a25 a26 a27 a28 a29 a30 a31 a32 a33 a34 a35 a36 a37 a38 a39 a40 a41 a42 e0 : Option D} : preS (some 43) (a0 :: a1 :: a2 :: a3 :: a4 :: a5 :: a6 :: a7 :: a8 :: a9 :: a10 :: a11 :: a12 :: a13 :: a14 :: a15 :: a16 :: a17 :: a18 :: a19 :: a20 :: a21 :: a22 :: a23 :: a24 :: a25 :: a26 :: a27 :: a28 :: a29 :: a30 :: a31 :: a32 :: a33 :: a34 :: a35 :: a36 :: a37 :: a38 :: a39 :: a40 :: a41 :: a42 :: e0 :: ls) = some (a0 :: a1 :: a2 :: a3 :: a4 :: a5 :: a6 :: a7 :: a8 :: a9 :: a10 :: a11 :: a12 :: a13 :: a14 :: a15 :: a16 :: a17 :: a18 :: a19 :: a20 :: a21 :: a22 :: a23 :: a24 :: a25 :: a26 :: a27 :: a28 :: a29 :: a30 :: a31 :: a32 :: a33 :: a34 :: a35 :: a36 :: a37 :: a38 :: a39 :: a40 :: a41 :: a42 :: none :: ls) := pre_loc (by simp only [List.length_cons]; omega)
theorem set43 {a0 a1 a2 a3 a4 a5 a6 a7 a8 a9 a10 a11 a12 a13 a14 a15 a16 a17 a18 a19 a20 a21 a22 a23 a24 a25 a26 a27 a28 a29 a30 a31 a32 a33 a34 a35 a36 a37 a38 a39 a40 a41 a42 e0 : Option D} {e1 : Option D} : List.set (a0 :: a1 :: a2 :: a3 :: a4 :: a5 :: a6 :: a7 :: a8 :: a9 :: a10 :: a11 :: a12 :: a13 :: a14 :: a15 :: a16 :: a17 :: a18 :: a19 :: a20 :: a21 :: a22 :: a23 :: a24 :: a25 :: a26 :: a27 :: a28 :: a29 :: a30 :: a31 :: a32 :: a33 :: a34 :: a35 :: a36 :: a37 :: a38 :: a39 :: a40 :: a41 :: a42 :: e0 :: ls) 43 e1 = a0 :: a1 :: a2 :: a3 :: a4 :: a5 :: a6 :: a7 :: a8 :: a9 :: a10 :: a11 :: a12 :: a13 :: a14 :: a15 :: a16 :: a17 :: a18 :: a19 :: a20 :: a21 :: a22 :: a23 :: a24 :: a25 :: a26 :: a27 :: a28 :: a29 :: a30 :: a31 :: a32 :: a33 :: a34 :: a35 :: a36 :: a37 :: a38 :: a39 :: a40 :: a41 :: a42 :: e1 :: ls := rfl
end
/-! int op= int -/
section
variable {i j : Int}
theorem g_add : augV .add (.int i) (.int j) = some (.int (i + j)) := rfl
theorem g_bxor : augV .bxor (.int i) (.int j) = some (.int (Builtin.bitXor i j)) := rfl
theorem g_band : augV .band (.int i) (.int j) = some (.int (Builtin.bitAnd i j)) := rfl
theorem g_sub : augV .sub (.int i) (.int j) = some (.int (i - j)) := rfl
theorem g_mul (e : (smallI i || smallI j) = true) : augV .mul (.int i) (.int j) = some (.int (i * j)) := by
  show ((if smallI i || smallI j then some (i * j) else none).map D.int) = _
  rw [e]
  rfl
theorem g_fdiv (h1 : 0 < j) (h2 : j < 1073741824) : augV .fdiv (.int i) (.int j) = some (.int (i / j)) := by
  show ((if decide (0 < j) && decide (j < 1073741824) then some (i / j) else none).map D.int) = _
  rw [decide_eq_true h1, decide_eq_true h2]
  rfl
theorem g_mod (h1 : 0 < j) : augV .mod (.int i) (.int j) = some (.int (i % j)) := by
  show ((if decide (0 < j) then some (i % j) else none).map D.int) = _
  rw [decide_eq_true h1]
  rfl
end
/-! defs -/
section
variable {Γ : Nat → Option Fn} {xf : Nat → List Nat} {gl : Nat → Option D} {X : Nat → List D → Option D} {sub : Nat → Nat → Option Bool} {fuel : Nat}
/-- a frame's end -/
def SRes.fin (r : SRes) (h : Hh) : Res D := match r with
  | .nx _ h' => if decide (h'.los = h.objs.length :: h.los) then .ok .non ⟨h'.objs.take h.objs.length, h.los⟩ else .stk
  | .ret d h' => if decide (h'.los = h.objs.length :: h.los) then (match frz h'.objs h.objs.length d with
    | some e => .ok e ⟨h'.objs.take h.objs.length, h.los⟩
    | none => .stk) else .stk
  | .err c d _ h' => if decide (h'.los = h.objs.length :: h.los) then (match frz h'.objs h.objs.length d with
    | some e => .err c e ⟨h'.objs.take h.objs.length, h.los⟩
    | none => .stk) else .stk
  | _ => .stk
mutual
theorem frz_dat {objs : List O} {k : Nat} : ∀ {d : D}, okD d = true → frz objs k d = some d
  | .tup l, e => by
    show (frzL objs k l).map D.tup = _
    rw [frzL_dat (l := l) e]
    rfl
  | .lst l, e => by
    show (frzL objs k l).map D.lst = _
    rw [frzL_dat (l := l) e]
    rfl
  | .ref _, e => nomatch e
  | .fn _, e => nomatch e
  | .exc _ _, e => nomatch e
  | .non, _ => rfl
  | .bl _, _ => rfl
  | .int _, _ => rfl
  | .str _, _ => rfl
theorem frzL_dat {objs : List O} {k : Nat} : ∀ {l : List D}, okL l = true → frzL objs k l = some l
  | [], _ => rfl
  | d :: r, e => by
    have e2 : okD d = true ∧ okL r = true := by
      have : (okD d && okL r) = true := e
      rwa [Bool.and_eq_true] at this
    show (match frz objs k d with
      | some e => (match frzL objs k r with
        | some s => some (e :: s)
        | none => none)
      | none => none) = _
    rw [frz_dat e2.1, frzL_dat e2.2]
end
theorem fin_ret {d : D} {objs objs' : List O} {los : List Nat} (hd : okD d = true) : (SRes.ret d ⟨objs', objs.length :: los⟩).fin ⟨objs, los⟩ = .ok d ⟨objs'.take objs.length, los⟩ := by
  show (if decide (objs.length :: los = objs.length :: los) then (match frz objs' objs.length d with | some e => Res.ok e _ | none => .stk) else .stk) = _
  rw [if_pos (decide_eq_true rfl), frz_dat hd]
theorem fin_err {c : Nat} {d : D} {ls : Ls} {objs objs' : List O} {los : List Nat} (hd : okD d = true) : (SRes.err c d ls ⟨objs', objs.length :: los⟩).fin ⟨objs, los⟩ = .err c d ⟨objs'.take objs.length, los⟩ := by
  show (if decide (objs.length :: los = objs.length :: los) then (match frz objs' objs.length d with | some e => Res.err c e _ | none => .stk) else .stk) = _
  rw [if_pos (decide_eq_true rfl), frz_dat hd]
theorem fin_nx {ls : Ls} {objs objs' : List O} {los : List Nat} : (SRes.nx ls ⟨objs', objs.length :: los⟩).fin ⟨objs, los⟩ = .ok .non ⟨objs'.take objs.length, los⟩ := by
  show (if decide (objs.length :: los = objs.length :: los) then Res.ok D.non _ else .stk) = _
  rw [if_pos (decide_eq_true rfl)]
theorem run_eq {n f : Nat} {ds : List D} {h : Hh} {ar nn : Nat} {b : B} (e : Γ f = some ⟨ar, nn, true, b⟩) (h1 : ds.length = ar) (h2 : ar ≤ nn) :
    evF Γ xf gl X sub fuel (n + 1) f ds h = (evB xf gl X sub fuel b (evF Γ xf gl X sub fuel n) (ds.map some ++ List.replicate (nn - ds.length) none) ⟨h.objs, h.objs.length :: h.los⟩).fin h := by
  show (match Γ f with | some fn => runF xf gl X sub fuel (evF Γ xf gl X sub fuel n) fn ds | none => stuck) h = _
  rw [e]
  show frame true _ h = _
  unfold frame SRes.fin
  simp only [decide_eq_true h1, decide_eq_true h2, Bool.and_self, if_true]
  cases evB xf gl X sub fuel b (evF Γ xf gl X sub fuel n) (ds.map some ++ List.replicate (nn - ds.length) none) ⟨h.objs, h.objs.length :: h.los⟩ with
  | nx ls h' => rfl
  | ret d h' => rfl
  | err c d ls h' => rfl
  | _ => rfl
end
/-! comprehensions, loops -/
theorem rangeL_z (i : Int) : rangeL i 0 = [] := rfl
theorem rangeL_s (i : Int) (n : Nat) : rangeL i (n + 1) = .int i :: rangeL (i + 1) n := by
  unfold rangeL
  rw [List.range_succ_eq_map, List.map_cons, List.map_map]
  congr 1
  · simp
  · apply List.map_congr_left
    intro a _
    show D.int (i + ((a + 1 : Nat) : Int)) = D.int (i + 1 + (a : Int))
    congr 1
    omega
theorem rangeL_len (i : Int) (n : Nat) : (rangeL i n).length = n := by
  unfold rangeL
  simp
theorem compL_nil {t : D → M (Option D)} {n : Nat} {h : Hh} : compL t n [] h = .ok [] h := rfl
theorem compL_some {t : D → M (Option D)} {n : Nat} {d e : D} {r : List D} {h h' : Hh} (e1 : t d h = .ok (some e) h') (hn : n < sizeL) : compL t n (d :: r) h = (compL t (n + 1) r h').an (fun s h => .ok (e :: s) h) ⟨⟩ := by
  show M.bind (noErr (t d)) _ h = _
  unfold M.bind noErr
  rw [e1]
  show (if decide (n < sizeL) then compL t (n + 1) r >>= fun s => pure (e :: s) else stuck) h' = _
  rw [if_pos (decide_eq_true hn)]
  rfl
theorem compL_none {t : D → M (Option D)} {n : Nat} {d : D} {r : List D} {h h' : Hh} (e1 : t d h = .ok none h') : compL t n (d :: r) h = compL t n r h' := by
  show M.bind (noErr (t d)) _ h = _
  unfold M.bind noErr
  rw [e1]
/-- nothing in the heap changes: a filter and a map -/
theorem compL_pure {t : D → M (Option D)} {f : D → Option D} {h : Hh} : ∀ {l : List D} {n : Nat}, (∀ d ∈ l, t d h = .ok (f d) h) → n + l.length ≤ sizeL → compL t n l h = .ok (l.filterMap f) h
  | [], _, _, _ => rfl
  | d :: r, n, e, hn => by
    have e1 := e d (List.mem_cons_self ..)
    have e2 : ∀ d ∈ r, t d h = .ok (f d) h := fun d hd => e d (List.mem_cons_of_mem _ hd)
    rw [List.length_cons] at hn
    cases q : f d with
    | none =>
      rw [q] at e1
      rw [compL_none e1, compL_pure e2 (by omega), List.filterMap_cons_none q]
    | some v =>
      rw [q] at e1
      rw [compL_some e1 (by omega), compL_pure e2 (by omega), List.filterMap_cons_some q]
      rfl
/-- a for loop that comes to its end -/
theorem for_inv {xf : Nat → List Nat} {gl : Nat → Option D} {X : Nat → List D → Option D} {sub : Nat → Nat → Option Bool} {fuel : Nat} {C : Nat → List D → M D} {t : E} {b : B} (I : Ls → Hh → Prop) :
    ∀ {l : List D} {ls : Ls} {h : Hh}, (∀ d ∈ l, ∀ ls h, I ls h → ∃ ls' h', ((bdR (bindT t d ls) h).sq (fun ls h => evB xf gl X sub fuel b C ls h) ⟨⟩) = .nx ls' h' ∧ I ls' h') → I ls h →
      ∃ ls' h', forL xf gl X sub fuel t b C l ls h = .nx ls' h' ∧ I ls' h'
  | [], ls, h, _, i => ⟨ls, h, rfl, i⟩
  | d :: r, ls, h, e, i => by
    obtain ⟨ls1, h1, e1, i1⟩ := e d (List.mem_cons_self ..) ls h i
    obtain ⟨ls2, h2, e2, i2⟩ := for_inv I (l := r) (fun d hd => e d (List.mem_cons_of_mem _ hd)) i1
    refine ⟨ls2, h2, ?_, i2⟩
    rw [for_cons, e1, tn_nx, e2]
theorem okL_map {α : Type} {f : α → D} (hf : ∀ a, okD (f a) = true) : ∀ l : List α, okL (l.map f) = true
  | [] => rfl
  | a :: r => by
    show (okD (f a) && okL (r.map f)) = true
    rw [hf a, okL_map hf r]
    rfl
end EV

/-! The law's row: the script, how far it was read, a seed, what is left of a great number. -/
namespace EV
open PySem
mutual
theorem below_dat {k : Nat} : ∀ {d : D}, okD d = true → below k d = true
  | .tup l, e => belowL_dat (l := l) e
  | .lst l, e => belowL_dat (l := l) e
  | .ref _, e => nomatch e
  | .fn _, e => nomatch e
  | .exc _ _, e => nomatch e
  | .non, _ => rfl
  | .bl _, _ => rfl
  | .int _, _ => rfl
  | .str _, _ => rfl
theorem belowL_dat {k : Nat} : ∀ {l : List D}, okL l = true → belowL k l = true
  | [], _ => rfl
  | d :: r, e => by
    have e2 : okD d = true ∧ okL r = true := by
      have : (okD d && okL r) = true := e
      rwa [Bool.and_eq_true] at this
    show (below k d && belowL k r) = true
    rw [below_dat e2.1, belowL_dat e2.2]
    rfl
end
theorem setO_dat {n : Nat} {l : List D} {h : Hh} (e : okL l = true) : setO n (.lst l) h = .ok () ⟨h.objs.set n (.lst l), h.los⟩ := by
  show (if okW h.los n (.lst l) then _ else _) = _
  rw [if_pos ?_]
  unfold okW
  rw [show belowO (n + 1) (.lst l) = true from belowL_dat e]
  rfl
theorem setM_dat {n j : Nat} {k : Int} {l : List D} {v : D} {h : Hh} (e : h.objs[n]? = some (.lst l)) (hj : ixOf l.length k = some j) (ho : okL (l.set j v) = true) : setM (.ref n) (.int k) v h = .ok () ⟨h.objs.set n (.lst (l.set j v)), h.los⟩ := by
  show (match h.objs[n]? with | some (.lst l) => _ | _ => _) = _
  rw [e]
  show (match ixOf l.length k with | some j => setO n (.lst (l.set j v)) h | none => .stk) = _
  rw [hj]
  exact setO_dat ho
theorem okL_ints : ∀ ns : List Int, okL (ns.map D.int) = true := okL_map fun _ => rfl
/-- the row -/
structure Rw where
  ns : List Int
  ix : Int
  sd : Int
  mo : Int
def rowD (r : Rw) : List D := [.lst (r.ns.map D.int), .int r.ix, .int r.sd, .int r.mo]
def rowO (r : Rw) : O := .lst (rowD r)
theorem okL_row (r : Rw) : okL (rowD r) = true := by
  show (okL (r.ns.map D.int) && true) = true
  rw [okL_ints]
  rfl
section
variable {r : Rw} {R : List O} {los : List Nat} {v : Int} {h : Hh}
theorem der_row : deref ⟨rowO r :: R, los⟩ (.ref 0) = .lst (rowD r) := rfl
theorem row_0 : atIx (rowD r) 0 = some (.lst (r.ns.map D.int)) := rfl
theorem row_1 : atIx (rowD r) 1 = some (.int r.ix) := rfl
theorem row_2 : atIx (rowD r) 2 = some (.int r.sd) := rfl
theorem row_3 : atIx (rowD r) 3 = some (.int r.mo) := rfl
theorem row_s1 : setM (.ref 0) (.int 1) (.int v) ⟨rowO r :: R, los⟩ = .ok () ⟨rowO { r with ix := v } :: R, los⟩ := setM_dat (l := rowD r) (j := 1) rfl rfl (okL_row { r with ix := v })
theorem row_s2 : setM (.ref 0) (.int 2) (.int v) ⟨rowO r :: R, los⟩ = .ok () ⟨rowO { r with sd := v } :: R, los⟩ := setM_dat (l := rowD r) (j := 2) rfl rfl (okL_row { r with sd := v })
theorem row_s3 : setM (.ref 0) (.int 3) (.int v) ⟨rowO r :: R, los⟩ = .ok () ⟨rowO { r with mo := v } :: R, los⟩ := setM_dat (l := rowD r) (j := 3) rfl rfl (okL_row { r with mo := v })
end
/-- the row's place -/
def cellA (r : Rw) : Int := r.ns.getD r.ix.toNat 0
/-- _law_taken -/
def taken (r : Rw) (m : Int) : Int × Rw :=
  if 0 < r.mo then (r.mo % m, { r with mo := r.mo / m })
  else if (r.ns.length : Int) < r.ix + 1 then ((r.sd * 48271 + 11) % 2147483647 / 7 % m, { r with ix := r.ix + 1, sd := (r.sd * 48271 + 11) % 2147483647 })
  else (cellA r % m, { r with ix := r.ix + 1, sd := (r.sd * 48271 + cellA r + 11) % 2147483647, mo := if 1000000000000000000 ≤ cellA r then cellA r / m else r.mo })
theorem taken_ix {r : Rw} {m : Int} (h : 0 ≤ r.ix) : 0 ≤ (taken r m).2.ix := by
  unfold taken
  split
  · exact h
  · split
    · show 0 ≤ r.ix + 1
      omega
    · show 0 ≤ r.ix + 1
      omega
theorem taken_lo {r : Rw} {m : Int} (h : 0 < m) : 0 ≤ (taken r m).1 := by
  unfold taken
  split
  · exact Int.emod_nonneg _ (by omega)
  · split <;> exact Int.emod_nonneg _ (by omega)
theorem taken_hi {r : Rw} {m : Int} (h : 0 < m) : (taken r m).1 < m := by
  unfold taken
  split
  · exact Int.emod_lt_of_pos _ h
  · split <;> exact Int.emod_lt_of_pos _ h
theorem at_cell {r : Rw} (h : 0 ≤ r.ix) (h2 : ¬ (r.ns.length : Int) < r.ix + 1) : atIx (r.ns.map D.int) r.ix = some (.int (cellA r)) := by
  have hk : r.ix.toNat < r.ns.length := by omega
  rw [at_nat (k := r.ix.toNat) (by omega) (by rw [List.length_map]; exact hk), List.getElem?_map, List.getElem?_eq_getElem hk]
  unfold cellA
  rw [List.getD_eq_getElem?_getD, List.getElem?_eq_getElem hk]
  rfl
theorem bits_lt {j : Int} (h0 : 0 < j) (h : j < 18446744073709551616) : decide (bits j ≤ 8000) = true := by
  refine decide_eq_true ?_
  unfold bits
  have : j.natAbs < 2 ^ 64 := by omega
  have := (Nat.log2_lt (by omega)).mpr this
  omega
theorem take_self {a b : O} {R : List O} : (a :: R).take (b :: R).length = a :: R := by
  rw [List.length_cons, List.take_succ_cons, List.take_length]
/-! a list at the heap's end -/
section
variable {P : List O} {l : List D} {x : D} {los : List Nat}
theorem tl_der : deref ⟨P ++ [.lst l], los⟩ (.ref P.length) = .lst l := der_ref (h := ⟨P ++ [.lst l], los⟩) (by
  show (P ++ [O.lst l])[P.length]? = _
  simp)
theorem tl_chk : chkM .append (.ref P.length) ⟨P ++ [.lst l], los⟩ = .ok () ⟨P ++ [.lst l], los⟩ := by
  show (match (P ++ [O.lst l])[P.length]? with | some (O.lst _) => Res.ok () _ | _ => Res.stk) = _
  rw [show (P ++ [O.lst l])[P.length]? = some (.lst l) by simp]
theorem q_app (hl : l.length < sizeL) (ho : okL (l ++ [x]) = true) : metM .append (.ref P.length) [x] ⟨P ++ [.lst l], los⟩ = .ok .non ⟨P ++ [.lst (l ++ [x])], los⟩ := by
  show (match (P ++ [O.lst l])[P.length]? with | some (O.lst m) => (if decide (m.length < sizeL) then (setO P.length (O.lst (m ++ [x])) >>= fun _ => pure D.non) ⟨P ++ [O.lst l], los⟩ else Res.stk) | _ => Res.stk) = _
  rw [show (P ++ [O.lst l])[P.length]? = some (.lst l) by simp]
  show (if decide (l.length < sizeL) then (setO P.length (O.lst (l ++ [x])) >>= fun _ => pure D.non) ⟨P ++ [O.lst l], los⟩ else Res.stk) = _
  rw [if_pos (decide_eq_true hl), bind_ok (setO_dat ho)]
  show Res.ok D.non ⟨(P ++ [O.lst l]).set P.length (.lst (l ++ [x])), los⟩ = _
  rw [show (P ++ [O.lst l]).set P.length (.lst (l ++ [x])) = P ++ [.lst (l ++ [x])] by simp]
end
theorem okL_app : forall {a b : List D}, okL a = true → okL b = true → okL (a ++ b) = true
  | [], _, _, h => h
  | d :: r, b, h, h2 => by
    have e2 : okD d = true ∧ okL r = true := by
      have : (okD d && okL r) = true := h
      rwa [Bool.and_eq_true] at this
    show (okD d && okL (r ++ b)) = true
    rw [e2.1, okL_app e2.2 h2]
    rfl
/-- a comprehension whose turns change the heap -/
theorem q_comp {t : D → M (Option D)} (I : Hh → Prop) (P : D → Prop) : ∀ {l : List D} {n : Nat} {h : Hh}, (∀ d ∈ l, ∀ h, I h → ∃ e h', t d h = .ok (some e) h' ∧ P e ∧ I h') → I h → n + l.length ≤ sizeL →
    ∃ r h', compL t n l h = .ok r h' ∧ (∀ e ∈ r, P e) ∧ r.length = l.length ∧ I h'
  | [], _, h, _, i, _ => ⟨[], h, rfl, fun _ z => (nomatch z), rfl, i⟩
  | d :: r, n, h, e, i, hn => by
    rw [List.length_cons] at hn
    obtain ⟨v, h1, e1, p1, i1⟩ := e d (List.mem_cons_self ..) h i
    obtain ⟨s, h2, e2, p2, l2, i2⟩ := q_comp I P (l := r) (n := n + 1) (fun d hd => e d (List.mem_cons_of_mem _ hd)) i1 (by omega)
    refine ⟨v :: s, h2, ?_, ?_, by rw [List.length_cons, List.length_cons, l2], i2⟩
    · rw [compL_some e1 (by omega), e2]
      rfl
    · intro z hz
      rcases List.mem_cons.mp hz with hz | hz
      · exact hz ▸ p1
      · exact p2 z hz
theorem q_ints {Q : Int → Prop} : ∀ {l : List D}, (∀ d ∈ l, ∃ v, d = .int v ∧ Q v) → ∃ ns : List Int, l = ns.map D.int ∧ ∀ v ∈ ns, Q v
  | [], _ => ⟨[], rfl, fun _ z => (nomatch z)⟩
  | d :: r, e => by
    obtain ⟨v, hv, q⟩ := e d (List.mem_cons_self ..)
    obtain ⟨ns, hn, q2⟩ := q_ints (l := r) fun d hd => e d (List.mem_cons_of_mem _ hd)
    refine ⟨v :: ns, by rw [hv, hn]; rfl, fun z hz => ?_⟩
    rcases List.mem_cons.mp hz with hz | hz
    · exact hz ▸ q
    · exact q2 z hz
theorem q_cmap {α : Type} {t : D → M (Option D)} {g f : α → D} {h : Hh} : ∀ {l : List α} {n : Nat}, (∀ a ∈ l, t (g a) h = .ok (some (f a)) h) → n + l.length ≤ sizeL → compL t n (l.map g) h = .ok (l.map f) h
  | [], _, _, _ => rfl
  | a :: r, n, e, hn => by
    rw [List.length_cons] at hn
    rw [List.map_cons, compL_some (e a (List.mem_cons_self ..)) (by omega), q_cmap (fun a ha => e a (List.mem_cons_of_mem _ ha)) (by omega)]
    rfl
theorem q_cnone {t : D → M (Option D)} {h : Hh} : ∀ {l : List D} {n : Nat}, (∀ d ∈ l, t d h = .ok none h) → compL t n l h = .ok [] h
  | [], _, _ => rfl
  | a :: r, n, e => by
    rw [compL_none (e a (List.mem_cons_self ..)), q_cnone fun d hd => e d (List.mem_cons_of_mem _ hd)]
theorem q_range {lo : Int} {m : Nat} {d : D} (h : d ∈ rangeL lo m) : ∃ k : Nat, k < m ∧ d = .int (lo + k) := by
  unfold rangeL at h
  obtain ⟨k, hk, e⟩ := List.mem_map.mp h
  exact ⟨k, List.mem_range.mp hk, e.symm⟩
theorem okL_dn : ∀ os : List Nat, okL (os.map dn) = true := okL_map fun _ => rfl
theorem okT_dn (os : List Nat) : okD (.tup (os.map dn)) = true := okL_dn os
theorem at_dn {os : List Nat} {i : Int} {k o : Nat} (e : i = (k : Int)) (h : os[k]? = some o) : atIx (os.map dn) i = some (.int o) := by
  have hk := (List.getElem?_eq_some_iff.mp h).1
  rw [at_nat e (by rw [List.length_map]; exact hk), List.getElem?_map, h]
  rfl
theorem cut_to {α : Type} {l : List α} {i : Int} {k : Nat} (e : i = (k : Int)) (h : k ≤ l.length) : cut l none (some i) = l.take k := by
  subst e
  unfold cut
  show (l.drop 0).take (adjIx l.length l.length (some (k : Int)) - 0) = _
  rw [List.drop_zero, Nat.sub_zero]
  rw [show adjIx l.length l.length (some (k : Int)) = k from ?_]
  simp only [adjIx]
  rw [if_neg (by omega)]
  split
  · omega
  · omega
theorem tl_get {P : List O} {l : List D} {los : List Nat} {k : Int} : getV ⟨P ++ [.lst l], los⟩ (.ref P.length) (.int k) = atIx l k := by
  show (match (P ++ [O.lst l])[P.length]? with | some (O.lst m) => atIx m k | _ => none) = _
  rw [show (P ++ [O.lst l])[P.length]? = some (.lst l) by simp]
theorem q_setT {P : List O} {l : List D} {los : List Nat} {i : Int} {k : Nat} {v : D} (e : i = (k : Int)) (hk : k < l.length) (ho : okL (l.set k v) = true) : setM (.ref P.length) (.int i) v ⟨P ++ [.lst l], los⟩ = .ok () ⟨P ++ [.lst (l.set k v)], los⟩ := by
  subst e
  rw [setM_dat (l := l) (j := k) (by simp) (by unfold ixOf; rw [if_pos (Int.natCast_nonneg k), if_pos (by omega)]; rfl) ho]
  show Res.ok () ⟨(P ++ [O.lst l]).set P.length (.lst (l.set k v)), los⟩ = _
  rw [show (P ++ [O.lst l]).set P.length (.lst (l.set k v)) = P ++ [.lst (l.set k v)] by simp]
theorem q_finT {P : List O} {l : List D} {los : List Nat} (h : okL l = true) : (SRes.ret (.ref P.length) ⟨P ++ [.lst l], P.length :: los⟩).fin ⟨P, los⟩ = .ok (.lst l) ⟨P, los⟩ := by
  show (if decide (P.length :: los = P.length :: los) then (match frz (P ++ [.lst l]) P.length (.ref P.length) with | some e => Res.ok e ⟨(P ++ [O.lst l]).take P.length, los⟩ | none => .stk) else .stk) = _
  rw [if_pos (decide_eq_true rfl)]
  have e : frz (P ++ [.lst l]) P.length (.ref P.length) = some (.lst l) := by
    show (if P.length < P.length then _ else match (P ++ [O.lst l])[P.length]? with | some (O.lst l) => if belowL P.length l then some (D.lst l) else none | _ => none) = _
    rw [if_neg (Nat.lt_irrefl _), show (P ++ [O.lst l])[P.length]? = some (.lst l) by simp]
    show (if belowL P.length l then some (D.lst l) else none) = _
    rw [if_pos (belowL_dat h)]
  rw [e, List.take_left]
end EV

namespace EV
/-! polynomials, as rows of numbers without an end, told up to a modulus -/
abbrev Sr := Nat → Int
def sm : Nat → (Nat → Int) → Int
  | 0, _ => 0
  | n + 1, h => sm n h + h n
theorem sm_s (n : Nat) (h : Nat → Int) : sm (n + 1) h = sm n h + h n := rfl
theorem sm_congr {h g : Nat → Int} : ∀ {n : Nat}, (∀ j, j < n → h j = g j) → sm n h = sm n g
  | 0, _ => rfl
  | n + 1, e => by rw [sm_s, sm_s, sm_congr (n := n) fun j hj => e j (by omega), e n (by omega)]
theorem sm_add (h g : Nat → Int) : ∀ n, sm n (fun j => h j + g j) = sm n h + sm n g
  | 0 => rfl
  | n + 1 => by rw [sm_s, sm_s, sm_s, sm_add h g n]; omega
theorem sm_sub (h g : Nat → Int) : ∀ n, sm n (fun j => h j - g j) = sm n h - sm n g
  | 0 => rfl
  | n + 1 => by rw [sm_s, sm_s, sm_s, sm_sub h g n]; omega
theorem sm_mul (c : Int) (h : Nat → Int) : ∀ n, sm n (fun j => c * h j) = c * sm n h
  | 0 => (Int.mul_zero c).symm
  | n + 1 => by rw [sm_s, sm_s, sm_mul c h n, Int.mul_add]
theorem sm_left (h : Nat → Int) : ∀ n, sm (n + 1) h = h 0 + sm n (fun j => h (j + 1))
  | 0 => by show 0 + h 0 = h 0 + 0; omega
  | n + 1 => by rw [sm_s, sm_left h n, sm_s]; omega
theorem sm_z {h : Nat → Int} : ∀ {n : Nat}, (∀ j, j < n → h j = 0) → sm n h = 0
  | 0, _ => rfl
  | n + 1, e => by rw [sm_s, sm_z (n := n) fun j hj => e j (by omega), e n (by omega)]; rfl
theorem sm_dvd {P : Int} {h : Nat → Int} : ∀ {n : Nat}, (∀ j, j < n → P ∣ h j) → P ∣ sm n h
  | 0, _ => Int.dvd_zero P
  | n + 1, e => Int.dvd_add (sm_dvd (n := n) fun j hj => e j (by omega)) (e n (by omega))
theorem sm_one {P : Int} {h : Nat → Int} {m : Nat} : ∀ {n : Nat}, m < n → (∀ j, j < n → j ≠ m → P ∣ h j) → P ∣ sm n h - h m
  | 0, hm, _ => absurd hm (by omega)
  | n + 1, hm, e => by
    rw [sm_s]
    by_cases c : m = n
    · subst c
      have h1 := sm_dvd (P := P) (h := h) (n := m) fun j hj => e j (by omega) (by omega)
      rwa [show sm m h + h m - h m = sm m h by omega]
    · have h1 := sm_one (P := P) (h := h) (m := m) (n := n) (by omega) fun j hj hj2 => e j (by omega) hj2
      have h2 := e n (by omega) (by omega)
      rw [show sm n h + h n - h m = (sm n h - h m) + h n by omega]
      exact Int.dvd_add h1 h2
def xm (a : Int) (f : Sr) : Sr := fun k => (if k = 0 then 0 else f (k - 1)) - a * f k
def d0 : Sr := fun k => if k = 0 then 1 else 0
def lin : List Int → Sr
  | [] => d0
  | a :: r => xm a (lin r)
def cm (c : Int) (f : Sr) : Sr := fun k => c * f k
def ad (f g : Sr) : Sr := fun k => f k + g k
def conv (q f : Sr) : Sr := fun k => sm (k + 1) fun j => q j * f (k - j)
theorem xm_0 (a : Int) (f : Sr) : xm a f 0 = - (a * f 0) := by show 0 - _ = _; omega
theorem xm_s (a : Int) (f : Sr) (k : Nat) : xm a f (k + 1) = f k - a * f (k + 1) := by show (if k + 1 = 0 then 0 else f (k + 1 - 1)) - _ = _; rw [if_neg (by omega)]; rfl
theorem xm_comm (a b : Int) (f : Sr) : xm a (xm b f) = xm b (xm a f) := by
  funext k
  match k with
  | 0 => rw [xm_0, xm_0, xm_0, xm_0]; grind
  | 1 => rw [xm_s, xm_s, xm_s, xm_s, xm_0, xm_0]; grind
  | k + 2 => rw [xm_s, xm_s, xm_s, xm_s, xm_s, xm_s]; grind
theorem xm_ad (a : Int) (f g : Sr) : xm a (ad f g) = ad (xm a f) (xm a g) := by
  funext k
  match k with
  | 0 => show _ = xm a f 0 + xm a g 0; rw [xm_0, xm_0, xm_0]; show -(a * (f 0 + g 0)) = _; grind
  | k + 1 => show _ = xm a f (k + 1) + xm a g (k + 1); rw [xm_s, xm_s, xm_s]; show f k + g k - a * (f (k + 1) + g (k + 1)) = _; grind
theorem xm_cm (a c : Int) (f : Sr) : xm a (cm c f) = cm c (xm a f) := by
  funext k
  match k with
  | 0 => show _ = c * xm a f 0; rw [xm_0, xm_0]; show -(a * (c * f 0)) = _; grind
  | k + 1 => show _ = c * xm a f (k + 1); rw [xm_s, xm_s]; show c * f k - a * (c * f (k + 1)) = _; grind
theorem conv_xl (a : Int) (q f : Sr) : conv (xm a q) f = xm a (conv q f) := by
  funext k
  have e : ∀ n k, sm n (fun j => xm a q j * f (k - j)) = sm n (fun j => (if j = 0 then 0 else q (j - 1)) * f (k - j)) - a * sm n (fun j => q j * f (k - j)) := fun n k => by
    rw [← sm_mul, ← sm_sub]
    exact sm_congr fun j _ => by show ((if j = 0 then 0 else q (j - 1)) - a * q j) * f (k - j) = _; grind
  show sm (k + 1) _ = _
  rw [e, sm_left]
  match k with
  | 0 => rw [xm_0]; show 0 * f 0 + 0 - a * sm 1 _ = -(a * sm 1 _); omega
  | k + 1 =>
    rw [xm_s]
    show 0 * f (k + 1 - 0) + sm (k + 1) _ - a * sm (k + 1 + 1) _ = sm (k + 1) _ - a * sm (k + 1 + 1) _
    rw [sm_congr (n := k + 1) (h := fun j => (if j + 1 = 0 then 0 else q (j + 1 - 1)) * f (k + 1 - (j + 1))) (g := fun j => q j * f (k - j)) fun j _ => by
      show (if j + 1 = 0 then 0 else q (j + 1 - 1)) * f (k + 1 - (j + 1)) = _
      rw [if_neg (by omega), show j + 1 - 1 = j by omega, show k + 1 - (j + 1) = k - j by omega]]
    omega
theorem conv_xr (a : Int) (q f : Sr) : conv q (xm a f) = xm a (conv q f) := by
  funext k
  have e : ∀ n k, sm n (fun j => q j * xm a f (k - j)) = sm n (fun j => q j * (if k - j = 0 then 0 else f (k - j - 1))) - a * sm n (fun j => q j * f (k - j)) := fun n k => by
    rw [← sm_mul, ← sm_sub]
    exact sm_congr fun j _ => by show q j * ((if k - j = 0 then 0 else f (k - j - 1)) - a * f (k - j)) = _; grind
  show sm (k + 1) _ = _
  rw [e, sm_s]
  match k with
  | 0 => rw [xm_0]; show 0 + q 0 * 0 - a * sm 1 _ = -(a * sm 1 _); omega
  | k + 1 =>
    rw [xm_s]
    show sm (k + 1) _ + q (k + 1) * (if k + 1 - (k + 1) = 0 then 0 else _) - a * sm (k + 1 + 1) _ = sm (k + 1) _ - a * sm (k + 1 + 1) _
    rw [sm_congr (n := k + 1) (h := fun j => q j * (if k + 1 - j = 0 then 0 else f (k + 1 - j - 1))) (g := fun j => q j * f (k - j)) fun j hj => by
      show q j * (if k + 1 - j = 0 then 0 else f (k + 1 - j - 1)) = _
      rw [if_neg (by omega), show k + 1 - j - 1 = k - j by omega], if_pos (by omega)]
    omega
theorem conv_al (q r f : Sr) : conv (ad q r) f = ad (conv q f) (conv r f) := by
  funext k
  show sm (k + 1) _ = sm (k + 1) _ + sm (k + 1) _
  rw [← sm_add]
  exact sm_congr fun j _ => Int.add_mul ..
theorem conv_cl (c : Int) (q f : Sr) : conv (cm c q) f = cm c (conv q f) := by
  funext k
  show sm (k + 1) _ = c * sm (k + 1) _
  rw [← sm_mul]
  exact sm_congr fun j _ => Int.mul_assoc ..
theorem conv_d0 (f : Sr) : conv d0 f = f := by
  funext k
  show sm (k + 1) _ = _
  rw [sm_left, sm_z fun j _ => by show (if j + 1 = 0 then 1 else 0) * _ = (0 : Int); rw [if_neg (by omega), Int.zero_mul]]
  show 1 * f (k - 0) + 0 = f k
  rw [Nat.sub_zero]
  omega
theorem conv_lin : ∀ (A B : List Int), conv (lin A) (lin B) = lin (A ++ B)
  | [], B => conv_d0 _
  | a :: A, B => by
    show conv (xm a (lin A)) _ = xm a (lin (A ++ B))
    rw [conv_xl, conv_lin A B]
theorem lin_perm {A B : List Int} (h : A.Perm B) : lin A = lin B := by
  induction h with
  | nil => rfl
  | cons a _ ih => show xm a _ = xm a _; rw [ih]
  | swap a b l => exact xm_comm ..
  | trans _ _ h1 h2 => exact h1.trans h2
theorem lin_hi : ∀ (A : List Int) (k : Nat), A.length < k → lin A k = 0
  | [], k, h => if_neg (by simpa using Nat.ne_of_gt h)
  | a :: A, k, h => by
    rw [List.length_cons] at h
    match k with
    | 0 => omega
    | k + 1 =>
      show xm a (lin A) (k + 1) = 0
      rw [xm_s, lin_hi A k (by omega), lin_hi A (k + 1) (by omega)]
      omega
theorem lin_top : ∀ A : List Int, lin A A.length = 1
  | [] => rfl
  | a :: A => by
    show xm a (lin A) (A.length + 1) = 1
    rw [xm_s, lin_top A, lin_hi A _ (Nat.lt_succ_self _)]
    omega
/-! up to the modulus -/
def eqs (P : Int) (f g : Sr) : Prop := ∀ k, P ∣ f k - g k
def bd (P : Int) (n : Nat) (f : Sr) : Prop := ∀ k, n ≤ k → P ∣ f k
def Bd (P : Int) (f : Sr) : Prop := ∃ n, bd P n f
section
variable {P : Int} {f g h q r : Sr} {a c w : Int}
theorem eqs.rfl : eqs P f f := fun k => by rw [Int.sub_self]; exact Int.dvd_zero P
theorem eqs.of (e : f = g) : eqs P f g := e ▸ eqs.rfl
theorem eqs.symm (x : eqs P f g) : eqs P g f := fun k => by
  rw [show g k - f k = -(f k - g k) by omega]
  exact Int.dvd_neg.mpr (x k)
theorem eqs.trans (x : eqs P f g) (y : eqs P g h) : eqs P f h := fun k => by
  rw [show f k - h k = (f k - g k) + (g k - h k) by omega]
  exact Int.dvd_add (x k) (y k)
theorem eqs.bd (x : eqs P f g) {n : Nat} (b : bd P n g) : EV.bd P n f := fun k hk => by
  rw [show f k = (f k - g k) + g k by omega]
  exact Int.dvd_add (x k) (b k hk)
theorem eqs.cm (x : eqs P f g) : eqs P (cm c f) (cm c g) := fun k => by
  show P ∣ c * f k - c * g k
  rw [← Int.mul_sub]
  exact Int.dvd_mul_of_dvd_right (x k)
theorem eqs.ad {f' g' : Sr} (x : eqs P f g) (y : eqs P f' g') : eqs P (ad f f') (ad g g') := fun k => by
  show P ∣ f k + f' k - (g k + g' k)
  rw [show f k + f' k - (g k + g' k) = (f k - g k) + (f' k - g' k) by omega]
  exact Int.dvd_add (x k) (y k)
theorem eqs.xm (x : eqs P f g) : eqs P (xm a f) (xm a g) := fun k => by
  match k with
  | 0 =>
    rw [xm_0, xm_0, show -(a * f 0) - -(a * g 0) = -(a * (f 0 - g 0)) by grind]
    exact Int.dvd_neg.mpr (Int.dvd_mul_of_dvd_right (x 0))
  | k + 1 =>
    rw [xm_s, xm_s, show f k - a * f (k + 1) - (g k - a * g (k + 1)) = (f k - g k) - a * (f (k + 1) - g (k + 1)) by grind]
    exact Int.dvd_sub (x k) (Int.dvd_mul_of_dvd_right (x (k + 1)))
theorem eqs.cr (x : eqs P f g) : eqs P (conv q f) (conv q g) := fun k => by
  show P ∣ sm (k + 1) _ - sm (k + 1) _
  rw [← sm_sub]
  refine sm_dvd fun j _ => ?_
  rw [← Int.mul_sub]
  exact Int.dvd_mul_of_dvd_right (x _)
theorem eqs.cl (x : eqs P q r) : eqs P (conv q f) (conv r f) := fun k => by
  show P ∣ sm (k + 1) _ - sm (k + 1) _
  rw [← sm_sub]
  refine sm_dvd fun j _ => ?_
  rw [← Int.sub_mul]
  exact Int.dvd_mul_of_dvd_left (x _)
theorem bd.conv {m n : Nat} (x : bd P m q) (y : bd P n f) : bd P (m + n) (conv q f) := fun k hk => sm_dvd fun j hj => by
  by_cases z : m ≤ j
  · exact Int.dvd_mul_of_dvd_left (x j z)
  · exact Int.dvd_mul_of_dvd_right (y _ (by omega))
theorem bd.cm {n : Nat} (x : bd P n f) : bd P n (cm c f) := fun k hk => Int.dvd_mul_of_dvd_right (x k hk)
theorem bd.mono {m n : Nat} (x : bd P m f) (h : m ≤ n) : bd P n f := fun k hk => x k (by omega)
theorem bd_lin (A : List Int) : bd P (A.length + 1) (lin A) := fun k hk => by
  rw [lin_hi A k hk]
  exact Int.dvd_zero P
theorem Bd.cm (x : Bd P f) : Bd P (cm c f) := let ⟨n, h⟩ := x; ⟨n, h.cm⟩
theorem Bd.conv (x : Bd P q) (y : Bd P f) : Bd P (conv q f) := let ⟨m, h⟩ := x; let ⟨n, h'⟩ := y; ⟨m + n, h.conv h'⟩
theorem Bd.ad (x : Bd P f) (y : Bd P g) : Bd P (ad f g) := let ⟨m, h⟩ := x; let ⟨n, h'⟩ := y; ⟨m + n, fun k hk => Int.dvd_add (h k (by omega)) (h' k (by omega))⟩
theorem Bd.xm (x : Bd P f) : Bd P (xm a f) := let ⟨m, h⟩ := x; ⟨m + 1, fun k hk => by
  match k with
  | 0 => omega
  | k + 1 =>
    rw [xm_s]
    exact Int.dvd_sub (h k (by omega)) (Int.dvd_mul_of_dvd_right (h _ (by omega)))⟩
theorem Bd.d0 : Bd P d0 := ⟨1, fun k hk => by
  show P ∣ (if k = 0 then 1 else 0)
  rw [if_neg (by omega)]
  exact Int.dvd_zero P⟩
theorem Bd.lin (A : List Int) : Bd P (lin A) := ⟨_, bd_lin A⟩
/-- a number of the row, and what is behind it, by x - a -/
theorem factor (a : Int) : ∀ (n : Nat) (f : Sr), bd P n f → ∃ (g : Sr) (v : Int), bd P n g ∧ eqs P f (ad (xm a g) (cm v d0))
  | 0, f, hf => ⟨fun _ => 0, 0, fun _ _ => Int.dvd_zero P, fun k => by
    show P ∣ f k - (((if k = 0 then 0 else 0) - a * 0) + 0 * d0 k)
    rw [show f k - (((if k = 0 then 0 else 0) - a * 0) + 0 * d0 k) = f k by split <;> omega]
    exact hf k (Nat.zero_le k)⟩
  | n + 1, f, hf => by
    obtain ⟨t, u, ht, e⟩ := factor a n (fun k => f (k + 1)) (fun k hk => hf (k + 1) (by omega))
    refine ⟨fun k => if k = 0 then u else t (k - 1), f 0 + a * u, fun k hk => ?_, fun k => ?_⟩
    · show P ∣ (if k = 0 then u else t (k - 1))
      rw [if_neg (by omega)]
      exact ht _ (by omega)
    · show P ∣ f k - (xm a (fun k => if k = 0 then u else t (k - 1)) k + (f 0 + a * u) * d0 k)
      match k with
      | 0 =>
        rw [xm_0]
        show P ∣ f 0 - (-(a * u) + (f 0 + a * u) * 1)
        rw [show f 0 - (-(a * u) + (f 0 + a * u) * 1) = 0 by grind]
        exact Int.dvd_zero P
      | 1 =>
        rw [xm_s]
        show P ∣ f 1 - (u - a * t 0 + (f 0 + a * u) * 0)
        have e0 : P ∣ f 1 - (xm a t 0 + u * 1) := e 0
        rw [xm_0] at e0
        rw [show f 1 - (u - a * t 0 + (f 0 + a * u) * 0) = f 1 - (-(a * t 0) + u * 1) by grind]
        exact e0
      | k + 2 =>
        rw [xm_s]
        show P ∣ f (k + 2) - (t k - a * t (k + 1) + (f 0 + a * u) * 0)
        have e0 : P ∣ f (k + 2) - (xm a t (k + 1) + u * 0) := e (k + 1)
        rw [xm_s] at e0
        rw [show f (k + 2) - (t k - a * t (k + 1) + (f 0 + a * u) * 0) = f (k + 2) - (t k - a * t (k + 1) + u * 0) by grind]
        exact e0
theorem cancel0 (x : eqs P (xm a f) (cm w d0)) : ∀ n, bd P n f → ∀ k, P ∣ f k
  | 0, b, k => b k (Nat.zero_le k)
  | n + 1, b, k => cancel0 x n (fun j hj => by
    by_cases z : j = n
    · subst z
      have e : P ∣ xm a f (j + 1) - w * 0 := x (j + 1)
      rw [xm_s] at e
      have h2 : P ∣ a * f (j + 1) := Int.dvd_mul_of_dvd_right (b (j + 1) (Nat.le_refl _))
      rw [show f j = (f j - a * f (j + 1) - w * 0) + a * f (j + 1) by grind]
      exact Int.dvd_add e h2
    · exact b j (by omega)) k
theorem cancel (b : Bd P f) (x : eqs P (xm a f) (cm w d0)) : P ∣ w ∧ ∀ k, P ∣ f k := by
  obtain ⟨n, b⟩ := b
  have h := cancel0 x n b
  refine ⟨?_, h⟩
  have e : P ∣ xm a f 0 - w * 1 := x 0
  rw [xm_0] at e
  have h2 : P ∣ a * f 0 := Int.dvd_mul_of_dvd_right (h 0)
  rw [show w = -((-(a * f 0) - w * 1) + a * f 0) by grind]
  exact Int.dvd_neg.mpr (Int.dvd_add e h2)
/-- x - a taken off both -/
theorem off (bf : Bd P f) (bg : Bd P g) (x : eqs P (xm a f) (xm a g)) : eqs P f g := by
  have y : eqs P (xm a (ad f (cm (-1) g))) (cm 0 d0) := by
    rw [xm_ad, xm_cm]
    intro k
    show P ∣ xm a f k + -1 * xm a g k - 0 * d0 k
    rw [show xm a f k + -1 * xm a g k - 0 * d0 k = xm a f k - xm a g k by grind]
    exact x k
  intro k
  have := (cancel (bf.ad bg.cm) y).2 k
  rwa [show ad f (cm (-1) g) k = f k - g k by show f k + -1 * g k = _; omega] at this
/-- the highest place -/
theorem top : ∀ n, bd P n f → (∀ k, P ∣ f k) ∨ ∃ m, ¬ P ∣ f m ∧ ∀ j, m < j → P ∣ f j
  | 0, b => .inl fun k => b k (Nat.zero_le k)
  | n + 1, b => by
    by_cases c : P ∣ f n
    · exact top n fun k hk => by
        by_cases z : k = n
        · exact z ▸ c
        · exact b k (by omega)
    · exact .inr ⟨n, c, fun j hj => b j hj⟩
end
section
variable {P : Int} (dom : ∀ x y : Int, P ∣ x * y → P ∣ x ∨ P ∣ y) (h1 : ¬ P ∣ 1)
include dom h1
/-- what divides a product of linear ones is one -/
theorem splits : ∀ (A : List Int) (c : Int) (q E : Sr), ¬ P ∣ c → Bd P q → Bd P E → eqs P (conv q E) (cm c (lin A)) → ∃ (R C : List Int) (e : Int), A.Perm (R ++ C) ∧ ¬ P ∣ e ∧ eqs P E (cm e (lin R))
  | [], c, q, E, hc, ⟨n1, b1⟩, ⟨n2, b2⟩, x => by
    have z0 : ¬ (∀ k, P ∣ conv q E k) := fun z => by
      have e : P ∣ conv q E 0 - c * 1 := x 0
      have := Int.dvd_sub (z 0) e
      rw [show conv q E 0 - (conv q E 0 - c * 1) = c by omega] at this
      exact hc this
    rcases top n1 b1 with t1 | ⟨m, m1, m2⟩
    · exact (z0 fun k => sm_dvd fun j _ => Int.dvd_mul_of_dvd_left (t1 j)).elim
    · rcases top n2 b2 with t2 | ⟨d, d1, d2⟩
      · exact (z0 fun k => sm_dvd fun j _ => Int.dvd_mul_of_dvd_right (t2 _)).elim
      · have e1 : P ∣ conv q E (m + d) - q m * E (m + d - m) := sm_one (h := fun j => q j * E (m + d - j)) (m := m) (by omega) fun j hj hne => by
          by_cases z : m < j
          · exact Int.dvd_mul_of_dvd_left (m2 j z)
          · exact Int.dvd_mul_of_dvd_right (d2 _ (by omega))
        rw [show m + d - m = d by omega] at e1
        have hd : d = 0 := Classical.byContradiction fun z => by
          have e2 : P ∣ conv q E (m + d) - c * (if m + d = 0 then 1 else 0) := x (m + d)
          rw [if_neg (by omega)] at e2
          have := Int.dvd_sub e2 e1
          rw [show conv q E (m + d) - c * 0 - (conv q E (m + d) - q m * E d) = q m * E d by omega] at this
          exact (dom _ _ this).elim m1 d1
        subst hd
        refine ⟨[], [], E 0, .refl _, d1, fun k => ?_⟩
        show P ∣ E k - E 0 * (if k = 0 then 1 else 0)
        by_cases z : k = 0
        · subst z
          rw [if_pos rfl, Int.mul_one, Int.sub_self]
          exact Int.dvd_zero P
        · rw [if_neg z, Int.mul_zero, Int.sub_zero]
          exact d2 k (by omega)
  | a :: A, c, q, E, hc, ⟨n1, b1⟩, ⟨n2, b2⟩, x => by
    obtain ⟨q', w, bq, eq⟩ := factor a n1 q b1
    obtain ⟨E', v, bE, eE⟩ := factor a n2 E b2
    have bl : Bd P (lin A) := ⟨_, bd_lin A⟩
    have e1 : eqs P (conv q E) (ad (xm a (ad (conv q' E) (cm w E'))) (cm (w * v) d0)) := by
      refine (eq.cl).trans ?_
      rw [conv_al, conv_xl, conv_cl, conv_d0]
      refine (eqs.ad .rfl eE.cm).trans (.of ?_)
      funext k
      rw [xm_ad, xm_cm]
      show xm a (conv q' E) k + w * (xm a E' k + v * d0 k) = xm a (conv q' E) k + w * xm a E' k + w * v * d0 k
      grind
    have e2 : eqs P (xm a (ad (cm c (lin A)) (cm (-1) (ad (conv q' E) (cm w E'))))) (cm (w * v) d0) := by
      have e3 := e1.symm.trans x
      rw [xm_ad, xm_cm, xm_cm]
      intro k
      have e4 : P ∣ xm a (ad (conv q' E) (cm w E')) k + w * v * d0 k - c * xm a (lin A) k := e3 k
      show P ∣ c * xm a (lin A) k + -1 * xm a (ad (conv q' E) (cm w E')) k - w * v * d0 k
      rw [show c * xm a (lin A) k + -1 * xm a (ad (conv q' E) (cm w E')) k - w * v * d0 k = -(xm a (ad (conv q' E) (cm w E')) k + w * v * d0 k - c * xm a (lin A) k) by grind]
      exact Int.dvd_neg.mpr e4
    obtain ⟨e5, e6⟩ := cancel (bl.cm.ad (((Bd.conv ⟨_, bq⟩ ⟨_, b2⟩).ad (Bd.cm ⟨_, bE⟩)).cm)) e2
    rcases dom _ _ e5 with z | z
    · have e7 : eqs P (conv q' E) (cm c (lin A)) := fun k => by
        have e8 : P ∣ c * lin A k + -1 * (conv q' E k + w * E' k) := e6 k
        have e9 : P ∣ w * E' k := Int.dvd_mul_of_dvd_left z
        show P ∣ conv q' E k - c * lin A k
        rw [show conv q' E k - c * lin A k = -((c * lin A k + -1 * (conv q' E k + w * E' k)) + w * E' k) by grind]
        exact Int.dvd_neg.mpr (Int.dvd_add e8 e9)
      obtain ⟨R, C, e, h2, h3, h4⟩ := splits A c q' E hc ⟨_, bq⟩ ⟨_, b2⟩ e7
      exact ⟨R, a :: C, e, (h2.cons a).trans List.perm_middle.symm, h3, h4⟩
    · have e7 : eqs P E (xm a E') := eE.trans fun k => by
        show P ∣ xm a E' k + v * d0 k - xm a E' k
        rw [show xm a E' k + v * d0 k - xm a E' k = v * d0 k by omega]
        exact Int.dvd_mul_of_dvd_left z
      have e8 : eqs P (conv q E') (cm c (lin A)) := by
        refine off (a := a) (Bd.conv ⟨_, b1⟩ ⟨_, bE⟩) bl.cm ?_
        rw [← conv_xr, xm_cm]
        exact e7.symm.cr.trans x
      obtain ⟨R, C, e, h2, h3, h4⟩ := splits A c q E' hc ⟨_, b1⟩ ⟨_, bE⟩ e8
      refine ⟨a :: R, C, e, h2.cons a, h3, e7.trans ?_⟩
      have := h4.xm (a := a)
      rw [xm_cm] at this
      exact this
theorem rooted {a : Int} : ∀ (R : List Int) (e : Int) (G : Sr), ¬ P ∣ e → Bd P G → eqs P (xm a G) (cm e (lin R)) → ∃ b, b ∈ R ∧ P ∣ a - b
  | [], e, G, he, bG, x => (he (cancel bG x).1).elim
  | b :: R, e, G, he, bG, x => by
    by_cases c : P ∣ a - b
    · exact ⟨b, List.mem_cons_self .., c⟩
    · obtain ⟨L, u, bL, eL⟩ := factor (P := P) a _ (lin R) (bd_lin R)
      have bL : Bd P L := ⟨_, bL⟩
      have e1 : eqs P (xm a (ad G (cm (-1) (ad (cm e (xm b L)) (cm (e * u) d0))))) (cm (e * u * (a - b)) d0) := by
        have e2 : eqs P (xm a G) (cm e (xm b (ad (xm a L) (cm u d0)))) := x.trans (eL.xm.cm)
        intro k
        have e3 : P ∣ xm a G k - e * xm b (ad (xm a L) (cm u d0)) k := e2 k
        have e4 : xm b (ad (xm a L) (cm u d0)) k = xm a (xm b L) k + u * xm b d0 k := by
          rw [xm_ad, xm_cm, xm_comm]
          rfl
        have e5 : xm b d0 k = xm a d0 k + (a - b) * d0 k := by
          show (_ : Int) - b * d0 k = _ - a * d0 k + (a - b) * d0 k
          grind
        rw [e4, e5] at e3
        rw [xm_ad, xm_cm, xm_ad, xm_cm, xm_cm]
        show P ∣ xm a G k + -1 * (e * xm a (xm b L) k + e * u * xm a d0 k) - e * u * (a - b) * d0 k
        rw [show xm a G k + -1 * (e * xm a (xm b L) k + e * u * xm a d0 k) - e * u * (a - b) * d0 k = xm a G k - e * (xm a (xm b L) k + u * (xm a d0 k + (a - b) * d0 k)) by grind]
        exact e3
      have e2 := (cancel (bG.ad ((bL.xm.cm.ad Bd.d0.cm).cm)) e1).1
      rcases dom _ _ e2 with e2 | e2
      · rcases dom _ _ e2 with e2 | e2
        · exact (he e2).elim
        · have e3 : eqs P (lin R) (xm a L) := eL.trans fun k => by
            show P ∣ xm a L k + u * d0 k - xm a L k
            rw [show xm a L k + u * d0 k - xm a L k = u * d0 k by omega]
            exact Int.dvd_mul_of_dvd_left e2
          obtain ⟨b', h2, h3⟩ := rooted (a := a) R e (cm e L) he bL.cm (by
            rw [xm_cm]
            exact e3.symm.cm)
          exact ⟨b', List.mem_cons_of_mem _ h2, h3⟩
      · exact (c e2).elim
/-- the roots are told by the numbers -/
theorem unique : ∀ (R S : List Int) (e e' : Int), (∀ x ∈ R, 0 ≤ x ∧ x < P) → (∀ x ∈ S, 0 ≤ x ∧ x < P) → ¬ P ∣ e → ¬ P ∣ e' → eqs P (cm e (lin R)) (cm e' (lin S)) → R.Perm S
  | [], S, e, e', _, _, he, he', x => by
    match S with
    | [] => exact .refl _
    | b :: S =>
      have h2 : P ∣ e * d0 (b :: S).length - e' * lin (b :: S) (b :: S).length := x (b :: S).length
      rw [show d0 (b :: S).length = 0 from if_neg (by simp)] at h2
      rw [lin_top, Int.mul_zero, Int.zero_sub, Int.mul_one] at h2
      exact (he' (Int.dvd_neg.mp h2)).elim
  | a :: R, S, e, e', hR, hS, he, he', x => by
    have bl : Bd P (lin R) := ⟨_, bd_lin R⟩
    have x : eqs P (cm e (xm a (lin R))) (cm e' (lin S)) := x
    obtain ⟨b, h2, h3⟩ := rooted dom h1 (a := a) S e' (cm e (lin R)) he' bl.cm (by
      rw [xm_cm]
      exact x)
    have r1 := hR a (List.mem_cons_self ..)
    have r2 := hS b h2
    have hab : a = b := by
      obtain ⟨t, ht⟩ := h3
      have : t = 0 := by
        rcases Int.lt_trichotomy t 0 with z | z | z
        · have : P * t ≤ P * (-1) := Int.mul_le_mul_of_nonneg_left (by omega) (by omega)
          omega
        · exact z
        · have : P * 1 ≤ P * t := Int.mul_le_mul_of_nonneg_left (by omega) (by omega)
          omega
      subst this
      omega
    subst hab
    have p := List.perm_cons_erase h2
    rw [lin_perm p] at x
    have x : eqs P (cm e (xm a (lin R))) (cm e' (xm a (lin (S.erase a)))) := x
    rw [← xm_cm, ← xm_cm] at x
    have bs : Bd P (lin (S.erase a)) := ⟨_, bd_lin _⟩
    exact ((unique R (S.erase a) e e' (fun y hy => hR y (List.mem_cons_of_mem _ hy)) (fun y hy => hS y (List.mem_of_mem_erase hy)) he he' (off bl.cm bs.cm x)).cons a).trans p.symm
def Dv (P : Int) (E F : Sr) : Prop := ∃ q, Bd P q ∧ eqs P (conv q E) F
/-- the greatest common divisor has the roots that both have -/
theorem gcd_lin {A B I A' B' : List Int} {D : Sr} (hA : ∀ x ∈ A, 0 ≤ x ∧ x < P) (hB : ∀ x ∈ B, 0 ≤ x ∧ x < P) (pA : A.Perm (I ++ A')) (pB : B.Perm (I ++ B')) (hd : ∀ x ∈ A', x ∉ B') (bD : Bd P D)
    (dA : Dv P D (lin A)) (dB : Dv P D (lin B)) (hI : Dv P (lin I) D) : ∃ e, ¬ P ∣ e ∧ eqs P D (cm e (lin I)) := by
  obtain ⟨qa, ba, ea⟩ := dA
  obtain ⟨qb, bb, eb⟩ := dB
  obtain ⟨qi, bi, ei⟩ := hI
  have c1 : ∀ f : Sr, cm 1 f = f := fun f => by
    funext k
    exact Int.one_mul _
  obtain ⟨R, C1, e, r1, r2, r3⟩ := splits dom h1 A 1 qa D h1 ba bD (by rw [c1]; exact ea)
  obtain ⟨S, C2, e', s1, s2, s3⟩ := splits dom h1 B 1 qb D h1 bb bD (by rw [c1]; exact eb)
  have hR : ∀ x ∈ R, 0 ≤ x ∧ x < P := fun x hx => hA x (r1.mem_iff.mpr (List.mem_append_left _ hx))
  have hS : ∀ x ∈ S, 0 ≤ x ∧ x < P := fun x hx => hB x (s1.mem_iff.mpr (List.mem_append_left _ hx))
  have hIr : ∀ x ∈ I, 0 ≤ x ∧ x < P := fun x hx => hA x (pA.mem_iff.mpr (List.mem_append_left _ hx))
  have rs : R.Perm S := unique dom h1 R S e e' hR hS r2 s2 (r3.symm.trans s3)
  obtain ⟨T, C, e2, t1, t2, t3⟩ := splits dom h1 R e qi (lin I) r2 bi (Bd.lin I) (ei.trans r3)
  have hT : ∀ x ∈ T, 0 ≤ x ∧ x < P := fun x hx => hR x (t1.mem_iff.mpr (List.mem_append_left _ hx))
  have it : I.Perm T := unique dom h1 I T 1 e2 hIr hT h1 t2 (by rw [c1]; exact t3)
  have ri : R.Perm (I ++ C) := t1.trans (it.symm.append_right C)
  have ra : A'.Perm (C ++ C1) := by
    have : (I ++ A').Perm (I ++ (C ++ C1)) := pA.symm.trans (r1.trans ((ri.append_right C1).trans (by rw [List.append_assoc])))
    exact (List.perm_append_left_iff I).mp this
  have rb : B'.Perm (C ++ C2) := by
    have : (I ++ B').Perm (I ++ (C ++ C2)) := pB.symm.trans (s1.trans (((rs.symm.trans ri).append_right C2).trans (by rw [List.append_assoc])))
    exact (List.perm_append_left_iff I).mp this
  have hC : C = [] := by
    match C, ra, rb with
    | [], _, _ => rfl
    | c :: C, ra, rb => exact (hd c (ra.mem_iff.mpr (List.mem_append_left _ (List.mem_cons_self ..))) (rb.mem_iff.mpr (List.mem_append_left _ (List.mem_cons_self ..)))).elim
  subst hC
  rw [List.append_nil] at ri
  exact ⟨e, r2, by rw [← lin_perm ri]; exact r3⟩
end
end EV

namespace EV
/-! the prime 2^61 - 1: each number but 0 has an inverse -/
def pp : Nat := 2305843009213693951
/-- a power up to a modulus, by squares -/
def pm (m a : Nat) : Nat → Nat → Nat
  | 0, _ => 1 % m
  | f + 1, n => if n = 0 then 1 % m else if n % 2 = 1 then pm m (a * a % m) f (n / 2) * a % m else pm m (a * a % m) f (n / 2)
theorem pm_eq (m : Nat) : ∀ (f a n : Nat), n < 2 ^ f → pm m a f n = a ^ n % m
  | 0, a, n, h => by
    have : n = 0 := by simpa using h
    subst this
    rfl
  | f + 1, a, n, h => by
    rw [pm]
    by_cases c : n = 0
    · subst c
      rfl
    · rw [if_neg c]
      have h2 : n / 2 < 2 ^ f := by
        rw [Nat.pow_succ] at h
        omega
      have ih := pm_eq m f (a * a % m) (n / 2) h2
      have e : (a * a % m) ^ (n / 2) % m = a ^ (2 * (n / 2)) % m := by
        rw [← Nat.pow_mod, Nat.pow_mul, Nat.pow_two]
      by_cases d : n % 2 = 1
      · rw [if_pos d, ih, e, Nat.mod_mul_mod, ← Nat.pow_succ, show (2 * (n / 2)).succ = n by omega]
      · rw [if_neg d, ih, e, show 2 * (n / 2) = n by omega]
def qs : List Nat := [2, 3, 3, 5, 5, 7, 11, 13, 31, 41, 61, 151, 331, 1321]
def prodL : List Nat → Nat
  | [] => 1
  | q :: r => q * prodL r
theorem qs_prod : prodL qs = pp - 1 := by decide
def isPr (q : Nat) : Bool := (List.range (q + 1)).all fun d => !decide (q % d = 0) || (decide (d = 1) || decide (d = q))
theorem qs_pr : (qs.all fun q => decide (1 < q) && isPr q) = true := by decide +kernel
theorem pr_of {q d : Nat} (h : isPr q = true) (h1 : 0 < q) (hd : d ∣ q) : d = 1 ∨ d = q := by
  have h2 := List.all_eq_true.mp h d (List.mem_range.mpr (Nat.lt_succ_of_le (Nat.le_of_dvd h1 hd)))
  rw [decide_eq_true (Nat.mod_eq_zero_of_dvd hd), Bool.not_true, Bool.false_or, Bool.or_eq_true] at h2
  exact h2.imp of_decide_eq_true of_decide_eq_true
theorem some_pr : ∀ (l : List Nat) (f : Nat), (∀ q ∈ l, 0 < q ∧ isPr q = true) → 1 < f → f ∣ prodL l → ∃ q, q ∈ l ∧ q ∣ f
  | [], f, _, h1, hf => absurd (Nat.le_of_dvd (by decide) hf) (by show ¬ f ≤ 1; omega)
  | q :: r, f, hl, h1, hf => by
    have hq := hl q (List.mem_cons_self ..)
    rcases pr_of hq.2 hq.1 (Nat.gcd_dvd_right f q) with e | e
    · obtain ⟨q', h2, h3⟩ := some_pr r f (fun x hx => hl x (List.mem_cons_of_mem _ hx)) h1 (Nat.Coprime.dvd_of_dvd_mul_left e hf)
      exact ⟨q', List.mem_cons_of_mem _ h2, h3⟩
    · exact ⟨q, List.mem_cons_self .., e ▸ Nat.gcd_dvd_left f q⟩
theorem dvd_prod : ∀ {l : List Nat} {q : Nat}, q ∈ l → q ∣ prodL l
  | a :: r, q, h => by
    rcases List.mem_cons.mp h with h | h
    · exact h ▸ Nat.dvd_mul_right ..
    · exact Nat.dvd_mul_left_of_dvd (dvd_prod h) _
theorem root_1 : 37 ^ (pp - 1) % pp = 1 := by
  rw [← pm_eq pp 61 37 (pp - 1) (by decide)]
  decide +kernel
theorem root_q : (qs.all fun q => !decide (pm pp 37 61 ((pp - 1) / q) = 1)) = true := by decide +kernel
theorem pow_gcd {m g : Nat} : ∀ (b a : Nat), g ^ a % m = 1 % m → g ^ b % m = 1 % m → g ^ (Nat.gcd b a) % m = 1 % m := by
  intro b
  induction b using Nat.strongRecOn with
  | _ b ih =>
    intro a ha hb
    by_cases c : b = 0
    · subst c
      rwa [Nat.gcd_zero_left]
    · rw [Nat.gcd_rec]
      refine ih (a % b) (Nat.mod_lt _ (by omega)) b hb ?_
      have h1 : g ^ a % m = g ^ (a % b) % m := by
        conv => lhs; rw [← Nat.div_add_mod a b, Nat.pow_add, Nat.pow_mul, Nat.mul_mod, Nat.pow_mod, hb, ← Nat.pow_mod, Nat.one_pow, ← Nat.mul_mod, Nat.one_mul]
      rw [← h1]
      exact ha
/-- the powers of 37 are unlike -/
theorem ord37 {d : Nat} (h0 : 0 < d) (h1 : d < pp - 1) : ¬ 37 ^ d % pp = 1 := by
  intro h
  have hg := pow_gcd (m := pp) (g := 37) d (pp - 1) root_1 h
  have e1 : Nat.gcd d (pp - 1) ∣ pp - 1 := Nat.gcd_dvd_right ..
  have e2 : Nat.gcd d (pp - 1) ≤ d := Nat.le_of_dvd h0 (Nat.gcd_dvd_left ..)
  generalize Nat.gcd d (pp - 1) = e at hg e1 e2
  obtain ⟨f, hf⟩ := e1
  have f1 : 1 < f := by
    rcases Nat.lt_or_ge 1 f with z | z
    · exact z
    · have : e * f ≤ e * 1 := Nat.mul_le_mul_left e z
      omega
  have he : 0 < e := by
    rcases Nat.eq_zero_or_pos e with z | z
    · rw [z, Nat.zero_mul] at hf
      cases hf
    · exact z
  obtain ⟨q, q1, q2⟩ := some_pr qs f (fun q hq => by
    have := List.all_eq_true.mp qs_pr q hq
    rw [Bool.and_eq_true] at this
    exact ⟨by have := of_decide_eq_true this.1; omega, this.2⟩) f1 (by rw [qs_prod, hf]; exact Nat.dvd_mul_left ..)
  obtain ⟨t, ht⟩ := q2
  have hq0 : 0 < q := by
    rcases Nat.eq_zero_or_pos q with z | z
    · rw [z, Nat.zero_mul] at ht
      omega
    · exact z
  have h3 : (pp - 1) / q = e * t := by
    rw [hf, ht, Nat.mul_comm q t, ← Nat.mul_assoc, Nat.mul_div_cancel _ hq0]
  have h4 := List.all_eq_true.mp root_q q q1
  rw [pm_eq pp 61 37 _ (Nat.lt_of_le_of_lt (Nat.div_le_self ..) (by decide)), h3, Nat.pow_mul, Nat.pow_mod, hg, ← Nat.pow_mod, Nat.one_pow] at h4
  revert h4
  decide
theorem inj37 {i j : Nat} (h : i < j) (hj : j < pp - 1) : 37 ^ i % pp ≠ 37 ^ j % pp := by
  intro e
  refine ord37 (d := j - i) (by omega) (by omega) ?_
  have h1 : 37 ^ (pp - 1 - i) * 37 ^ i % pp = 37 ^ (pp - 1 - i) * 37 ^ j % pp := by
    rw [Nat.mul_mod, e, ← Nat.mul_mod]
  rw [← Nat.pow_add, ← Nat.pow_add, show pp - 1 - i + i = pp - 1 by omega, show pp - 1 - i + j = (pp - 1) + (j - i) by omega, Nat.pow_add, root_1, Nat.mul_mod, root_1, Nat.one_mul, Nat.mod_mod] at h1
  exact h1.symm
/-- as many unlike values as there are: all -/
theorem pigeon : ∀ (n : Nat) (f : Nat → Nat), (∀ i, i < n → f i < n) → (∀ i j, i < j → j < n → f i ≠ f j) → ∀ y, y < n → ∃ i, i < n ∧ f i = y
  | 0, _, _, _, y, hy => absurd hy (by omega)
  | n + 1, f, h1, h2, y, hy => by
    by_cases c : f n = y
    · exact ⟨n, by omega, c⟩
    · let v : Nat → Nat := fun x => if x = n then f n else x
      have hv : ∀ i, i < n → f i ≠ f n := fun i hi => h2 i n hi (by omega)
      have hn := h1 n (by omega)
      obtain ⟨i, i1, i2⟩ := pigeon n (fun i => v (f i)) (fun i hi => by
        show (if f i = n then f n else f i) < n
        have a1 := h1 i (by omega)
        have a2 := hv i hi
        split <;> omega) (fun i j hij hj => by
        show (if f i = n then f n else f i) ≠ (if f j = n then f n else f j)
        have a1 := h2 i j hij (by omega)
        have a2 := hv i (by omega)
        have a3 := hv j hj
        split <;> split <;> omega) (v y) (by
        show (if y = n then f n else y) < n
        split <;> omega)
      refine ⟨i, by omega, ?_⟩
      have i2 : (if f i = n then f n else f i) = (if y = n then f n else y) := i2
      have a2 := hv i i1
      split at i2 <;> split at i2 <;> omega
theorem pos37 (i : Nat) : 0 < 37 ^ i % pp := by
  rcases Nat.eq_zero_or_pos (37 ^ i % pp) with z | z
  · have h1 : 37 ^ (i * (pp - 1)) % pp = 1 := by
      rw [Nat.mul_comm, Nat.pow_mul, Nat.pow_mod, root_1, Nat.one_pow]
      rfl
    have h2 : i * (pp - 1) = i + i * (pp - 2) := by
      rw [show pp - 1 = 1 + (pp - 2) by decide, Nat.mul_add, Nat.mul_one]
    rw [h2, Nat.pow_add, Nat.mul_mod, z, Nat.zero_mul] at h1
    cases h1
  · exact z
/-- each number but 0 is a power of 37 -/
theorem gen37 {a : Nat} (h0 : 0 < a) (h1 : a < pp) : ∃ i, 37 ^ i % pp = a := by
  obtain ⟨i, _, h⟩ := pigeon (pp - 1) (fun i => 37 ^ i % pp - 1) (fun i _ => by
    have := Nat.mod_lt (37 ^ i) (show 0 < pp by decide)
    have := pos37 i
    show 37 ^ i % pp - 1 < pp - 1
    omega) (fun i j hij hj => by
    have := inj37 hij hj
    have := pos37 i
    have := pos37 j
    show 37 ^ i % pp - 1 ≠ 37 ^ j % pp - 1
    omega) (a - 1) (by omega)
  refine ⟨i, ?_⟩
  have h : 37 ^ i % pp - 1 = a - 1 := h
  have := pos37 i
  omega
theorem fermat {a : Nat} (h0 : 0 < a) (h1 : a < pp) : a * a ^ (pp - 2) % pp = 1 := by
  obtain ⟨i, h⟩ := gen37 h0 h1
  rw [← Nat.pow_succ', show (pp - 2).succ = pp - 1 by decide, ← h, ← Nat.pow_mod, ← Nat.pow_mul, Nat.mul_comm, Nat.pow_mul, Nat.pow_mod, root_1, Nat.one_pow]
  rfl
theorem inv_at {a : Nat} (h : ¬ pp ∣ a) : a * a ^ (pp - 2) % pp = 1 := by
  have h0 : 0 < a % pp := Nat.pos_of_ne_zero fun z => h (Nat.dvd_of_mod_eq_zero z)
  have := fermat h0 (Nat.mod_lt a (by decide))
  rwa [← Nat.pow_succ', ← Nat.pow_mod, Nat.pow_succ'] at this
theorem pdom (x y : Int) (h : (pp : Int) ∣ x * y) : (pp : Int) ∣ x ∨ (pp : Int) ∣ y := by
  by_cases c : (pp : Int) ∣ x
  · exact .inl c
  · refine .inr ?_
    have c' : ¬ pp ∣ x.natAbs := fun z => c (Int.ofNat_dvd_left.mpr z)
    have hx := inv_at c'
    have h' : pp ∣ x.natAbs * y.natAbs := by
      rw [← Int.natAbs_mul]
      exact Int.ofNat_dvd_left.mp h
    refine Int.ofNat_dvd_left.mpr ?_
    have h2 : pp ∣ x.natAbs ^ (pp - 2) * (x.natAbs * y.natAbs) := Nat.dvd_mul_left_of_dvd h' _
    rw [← Nat.mul_assoc, Nat.mul_comm (x.natAbs ^ (pp - 2))] at h2
    have h3 := Nat.mod_eq_zero_of_dvd h2
    rw [Nat.mul_mod, hx, Nat.one_mul, Nat.mod_mod] at h3
    exact Nat.dvd_of_mod_eq_zero h3
theorem pone : ¬ (pp : Int) ∣ 1 := by decide
end EV

namespace EV
/-! lists of numbers below the prime, as polynomials -/
abbrev PZ : Int := (pp : Int)
def sr (l : List Nat) : Sr := fun k => ((l.getD k 0 : Nat) : Int)
def lo (l : List Nat) : Prop := ∀ o ∈ l, o < pp
theorem sr_hi {l : List Nat} {k : Nat} (h : l.length ≤ k) : sr l k = 0 := by
  show ((l.getD k 0 : Nat) : Int) = 0
  rw [List.getD_eq_getElem?_getD, List.getElem?_eq_none h]
  rfl
theorem sr_at {l : List Nat} {k : Nat} (h : k < l.length) : sr l k = (l[k] : Nat) := by
  show ((l.getD k 0 : Nat) : Int) = _
  rw [List.getD_eq_getElem?_getD, List.getElem?_eq_getElem h]
  rfl
theorem sr_lo {l : List Nat} (h : lo l) (k : Nat) : 0 ≤ sr l k ∧ sr l k < PZ := by
  by_cases c : k < l.length
  · rw [sr_at c]
    have := h _ (List.getElem_mem c)
    show (0 : Int) ≤ _ ∧ _ < ((pp : Nat) : Int)
    omega
  · rw [sr_hi (by omega)]
    exact ⟨Int.le_refl 0, by decide⟩
theorem bd_sr (l : List Nat) : bd PZ l.length (sr l) := fun k hk => by
  rw [sr_hi hk]
  exact Int.dvd_zero _
theorem Bd.sr (l : List Nat) : Bd PZ (sr l) := ⟨_, bd_sr l⟩
theorem same {x y : Int} (h0 : 0 ≤ x) (h1 : x < PZ) (h2 : 0 ≤ y) (h3 : y < PZ) (h : PZ ∣ x - y) : x = y := by
  obtain ⟨t, ht⟩ := h
  have h1 : x < 2305843009213693951 := h1
  have h3 : y < 2305843009213693951 := h3
  have ht : x - y = 2305843009213693951 * t := ht
  omega
theorem sr_eq {l m : List Nat} (hl : lo l) (hm : lo m) (h : eqs PZ (sr l) (sr m)) : sr l = sr m := by
  funext k
  exact same (sr_lo hl k).1 (sr_lo hl k).2 (sr_lo hm k).1 (sr_lo hm k).2 (h k)
theorem list_eq {l m : List Nat} (hn : l.length = m.length) (hl : lo l) (hm : lo m) (h : eqs PZ (sr l) (sr m)) : l = m := by
  have e := sr_eq hl hm h
  refine List.ext_getElem hn fun k h1 h2 => ?_
  have := congrFun e k
  rw [sr_at h1, sr_at h2] at this
  exact Int.ofNat.inj this
theorem modn {x : Int} {v : Nat} (h : (v : Int) = x % PZ) : v < pp ∧ PZ ∣ (v : Int) - x := by
  have h1 := Int.emod_lt_of_pos x (show (0 : Int) < PZ by decide)
  have h2 : PZ ∣ x % PZ - x := by
    refine ⟨-(x / PZ), ?_⟩
    have := Int.emod_add_mul_ediv x PZ
    grind
  rw [h]
  refine ⟨?_, h2⟩
  have h1 : x % PZ < ((pp : Nat) : Int) := h1
  omega
/-- a whole number's rest, as a natural number -/
def md (x : Int) : Nat := (x % PZ).toNat
theorem md_eq (x : Int) : ((md x : Nat) : Int) = x % PZ := Int.toNat_of_nonneg (Int.emod_nonneg x (by decide))
theorem md_lt (x : Int) : md x < pp := (modn (md_eq x)).1
theorem md_dvd (x : Int) : PZ ∣ (md x : Int) - x := (modn (md_eq x)).2
/-! by roots -/
def lx (r : Nat) (l : List Nat) : List Nat := (List.range (l.length + 1)).map fun k => md (xm r (sr l) k)
theorem lx_len (r : Nat) (l : List Nat) : (lx r l).length = l.length + 1 := by rw [lx, List.length_map, List.length_range]
theorem lx_lo (r : Nat) (l : List Nat) : lo (lx r l) := fun o ho => by
  obtain ⟨k, _, rfl⟩ := List.mem_map.mp ho
  exact md_lt _
theorem lx_sr (r : Nat) (l : List Nat) : eqs PZ (sr (lx r l)) (xm r (sr l)) := fun k => by
  by_cases c : k < l.length + 1
  · rw [sr_at (by rw [lx_len]; exact c)]
    have e : (lx r l)[k]'(by rw [lx_len]; exact c) = md (xm r (sr l) k) := by
      simp only [lx, List.getElem_map, List.getElem_range]
    rw [e]
    exact md_dvd _
  · rw [sr_hi (by rw [lx_len]; omega)]
    have e : xm r (sr l) k = 0 := by
      match k with
      | 0 => omega
      | k + 1 =>
        rw [xm_s, sr_hi (by omega), sr_hi (by omega)]
        omega
    rw [e]
    exact Int.dvd_zero _
def flin (l : List Nat) (rs : List Nat) : List Nat := rs.foldl (fun l r => lx r l) l
theorem flin_len : ∀ (rs l : List Nat), (flin l rs).length = l.length + rs.length
  | [], l => rfl
  | r :: rs, l => by
    show (flin (lx r l) rs).length = _
    rw [flin_len rs, lx_len, List.length_cons]
    omega
theorem flin_lo : ∀ (rs l : List Nat), lo l → lo (flin l rs)
  | [], l, h => h
  | r :: rs, l, h => flin_lo rs (lx r l) (lx_lo r l)
def zL (l : List Nat) : List Int := l.map fun n : Nat => (n : Int)
theorem flin_sr : ∀ (rs l : List Nat) (A : List Int), eqs PZ (sr l) (lin A) → eqs PZ (sr (flin l rs)) (lin ((zL rs).reverse ++ A))
  | [], l, A, h => h
  | r :: rs, l, A, h => by
    have := flin_sr rs (lx r l) ((r : Int) :: A) ((lx_sr r l).trans h.xm)
    rw [show (zL (r :: rs)).reverse ++ A = (zL rs).reverse ++ ((r : Int) :: A) by
      show ((r : Int) :: zL rs).reverse ++ A = _
      rw [List.reverse_cons, List.append_assoc]
      rfl]
    exact this
theorem one_sr : eqs PZ (sr [1]) (lin []) := fun k => by
  match k with
  | 0 => exact ⟨0, rfl⟩
  | k + 1 =>
    rw [sr_hi (by simp)]
    show PZ ∣ 0 - (if k + 1 = 0 then 1 else 0)
    rw [if_neg (by omega)]
    exact ⟨0, rfl⟩
abbrev fl (rs : List Nat) : List Nat := flin [1] rs
theorem fl_lo (rs : List Nat) : lo (fl rs) := flin_lo rs [1] (fun o ho => by
  rw [List.mem_singleton] at ho
  subst ho
  decide)
theorem fl_len (rs : List Nat) : (fl rs).length = rs.length + 1 := by
  rw [fl, flin_len, List.length_singleton]
  omega
theorem fl_sr (rs : List Nat) : eqs PZ (sr (fl rs)) (lin (zL rs)) := by
  have := flin_sr rs [1] [] one_sr
  rw [List.append_nil, lin_perm (List.reverse_perm _)] at this
  exact this
theorem zL_len (l : List Nat) : (zL l).length = l.length := List.length_map ..
theorem fl_last (rs : List Nat) : (fl rs).getD rs.length 0 = 1 := by
  have h := fl_sr rs rs.length
  have e := lin_top (zL rs)
  rw [zL_len] at e
  rw [e] at h
  have b := sr_lo (fl_lo rs) rs.length
  have := same b.1 b.2 (by decide) (by decide) h
  exact Int.ofNat.inj this
/-! what is left of a division -/
def sh (i : Nat) (g : Sr) : Sr := fun k => if k < i then 0 else g (k - i)
theorem sh_s (i : Nat) (g : Sr) : sh (i + 1) g = xm 0 (sh i g) := by
  funext k
  match k with
  | 0 =>
    rw [xm_0]
    show (if 0 < i + 1 then 0 else _) = _
    rw [if_pos (by omega), Int.zero_mul]
    rfl
  | k + 1 =>
    rw [xm_s, Int.zero_mul, Int.sub_zero]
    show (if k + 1 < i + 1 then 0 else g (k + 1 - (i + 1))) = if k < i then 0 else g (k - i)
    by_cases c : k < i
    · rw [if_pos (by omega), if_pos c]
    · rw [if_neg (by omega), if_neg c, show k + 1 - (i + 1) = k - i by omega]
section
variable {P : Int} {E F G : Sr}
theorem Dv.congr (h : Dv P E F) (e : eqs P F G) : Dv P E G := let ⟨q, b, x⟩ := h; ⟨q, b, x.trans e⟩
theorem Dv.self : Dv P E E := ⟨d0, Bd.d0, .of (conv_d0 E)⟩
theorem Dv.zero (h : ∀ k, P ∣ F k) : Dv P E F := ⟨cm 0 d0, Bd.d0.cm, by
  rw [conv_cl]
  intro k
  show P ∣ 0 * _ - F k
  rw [Int.zero_mul, Int.zero_sub]
  exact Int.dvd_neg.mpr (h k)⟩
theorem Dv.cm {c : Int} (h : Dv P E F) : Dv P E (cm c F) := let ⟨q, b, x⟩ := h; ⟨_, b.cm (c := c), by
  rw [conv_cl]
  exact x.cm⟩
theorem Dv.ad (h : Dv P E F) (h' : Dv P E G) : Dv P E (ad F G) := let ⟨q, b, x⟩ := h; let ⟨r, c, y⟩ := h'; ⟨_, b.ad c, by
  rw [conv_al]
  exact x.ad y⟩
theorem Dv.xm {a : Int} (h : Dv P E F) : Dv P E (xm a F) := let ⟨q, b, x⟩ := h; ⟨_, b.xm (a := a), by
  rw [conv_xl]
  exact x.xm⟩
theorem Dv.sh (h : Dv P E F) : ∀ i, Dv P E (sh i F)
  | 0 => h.congr (.of (by
    funext k
    show F k = if k < 0 then 0 else F (k - 0)
    rw [if_neg (by omega)]
    rfl))
  | i + 1 => by
    rw [sh_s]
    exact (h.sh i).xm
theorem Dv.lin {A I A' : List Int} (p : A.Perm (I ++ A')) : Dv P (EV.lin I) (EV.lin A) := ⟨EV.lin A', Bd.lin A', .of (by rw [conv_lin]; exact (lin_perm (p.trans List.perm_append_comm)).symm)⟩
end
/-- other times f taken from the places i, i + 1, .. -/
def sbl (f : Nat) : Nat → List Nat → List Nat → List Nat
  | _, [], r => r
  | i, n :: q, r => sbl f (i + 1) q (r.set i (md (sr r i - f * n)))
theorem sbl_len (f : Nat) : ∀ (q : List Nat) (i : Nat) (r : List Nat), (sbl f i q r).length = r.length
  | [], _, _ => rfl
  | n :: q, i, r => by
    show (sbl f (i + 1) q (r.set i _)).length = _
    rw [sbl_len f q, List.length_set]
theorem lo_set {r : List Nat} (h : lo r) (i : Nat) (x : Int) : lo (r.set i (md x)) := fun o ho => by
  rcases List.mem_or_eq_of_mem_set ho with z | z
  · exact h o z
  · exact z ▸ md_lt x
theorem sbl_lo (f : Nat) : ∀ (q : List Nat) (i : Nat) (r : List Nat), lo r → lo (sbl f i q r)
  | [], _, _, h => h
  | n :: q, i, r, h => sbl_lo f q (i + 1) _ (lo_set h i _)
theorem sr_set {r : List Nat} {i : Nat} (h : i < r.length) (v k : Nat) : sr (r.set i v) k = if k = i then (v : Int) else sr r k := by
  show (((r.set i v).getD k 0 : Nat) : Int) = _
  rw [List.getD_eq_getElem?_getD, List.getElem?_set]
  by_cases c : k = i
  · subst c
    rw [if_pos rfl, if_pos rfl, if_pos h]
    rfl
  · rw [if_neg (fun z => c z.symm), if_neg c]
    show (((r[k]?).getD 0 : Nat) : Int) = ((r.getD k 0 : Nat) : Int)
    rw [List.getD_eq_getElem?_getD]
theorem sr_cons (n : Nat) (q : List Nat) (k : Nat) : sr (n :: q) k = if k = 0 then (n : Int) else sr q (k - 1) := by
  match k with
  | 0 => rfl
  | k + 1 => rfl
theorem sbl_sr (f : Nat) : ∀ (q : List Nat) (i : Nat) (r : List Nat), i + q.length ≤ r.length → eqs PZ (sr (sbl f i q r)) (ad (sr r) (cm (-f) (sh i (sr q))))
  | [], i, r, _ => fun k => by
    show PZ ∣ sr r k - (sr r k + -(f : Int) * (if k < i then 0 else sr [] (k - i)))
    rw [sr_hi (l := []) (k := k - i) (Nat.zero_le _)]
    exact ⟨0, by split <;> grind⟩
  | n :: q, i, r, h => fun k => by
    rw [List.length_cons] at h
    have hi : i < r.length := by omega
    have e := sbl_sr f q (i + 1) (r.set i (md (sr r i - f * n))) (by rw [List.length_set]; omega) k
    have e : PZ ∣ sr (sbl f i (n :: q) r) k - (sr (r.set i (md (sr r i - f * n))) k + -(f : Int) * (if k < i + 1 then 0 else sr q (k - (i + 1)))) := e
    show PZ ∣ sr (sbl f i (n :: q) r) k - (sr r k + -(f : Int) * (if k < i then 0 else sr (n :: q) (k - i)))
    rw [sr_set hi] at e
    rcases Nat.lt_trichotomy k i with c | c | c
    · rw [if_pos c]
      rw [if_neg (by omega), if_pos (by omega)] at e
      exact e
    · subst c
      rw [if_pos rfl, if_pos (by omega)] at e
      rw [if_neg (by omega), Nat.sub_self, sr_cons, if_pos rfl]
      have h2 := Int.dvd_add e (md_dvd (sr r k - f * n))
      rw [show sr (sbl f k (n :: q) r) k - (sr r k + -(f : Int) * (n : Int)) = sr (sbl f k (n :: q) r) k - ((md (sr r k - f * n) : Int) + -(f : Int) * 0) + ((md (sr r k - f * n) : Int) - (sr r k - f * n)) by grind]
      exact h2
    · rw [if_neg (by omega), if_neg (by omega)] at e
      rw [if_neg (by omega), sr_cons, if_neg (by omega), show k - i - 1 = k - (i + 1) by omega]
      exact e
def inv (a : Nat) : Nat := a ^ (pp - 2) % pp
def fac (Q r : List Nat) (m : Nat) : Nat := md (sr r (m + Q.length - 1) * (inv (Q.getD (Q.length - 1) 0) : Nat))
def dvl (Q : List Nat) : Nat → List Nat → List Nat
  | 0, r => r
  | m + 1, r => dvl Q m (sbl (fac Q r m) m Q r)
def tmn (l : List Nat) : Nat → Nat
  | 0 => 0
  | m + 1 => if l.getD m 0 = 0 then tmn l m else m + 1
def trm (l : List Nat) : List Nat := l.take (tmn l l.length)
def rmd (P Q : List Nat) : List Nat := trm (dvl Q (P.length + 1 - Q.length) P)
theorem dvl_len (Q : List Nat) : ∀ (m : Nat) (r : List Nat), (dvl Q m r).length = r.length
  | 0, _ => rfl
  | m + 1, r => by
    show (dvl Q m _).length = _
    rw [dvl_len Q m, sbl_len]
theorem dvl_lo (Q : List Nat) : ∀ (m : Nat) (r : List Nat), lo r → lo (dvl Q m r)
  | 0, _, h => h
  | m + 1, r, h => dvl_lo Q m _ (sbl_lo _ Q m r h)
theorem dvl_dv {Q : List Nat} {E : Sr} (hE : Dv PZ E (sr Q)) : ∀ (m : Nat) (r : List Nat), m + Q.length ≤ r.length + 1 → (Dv PZ E (sr r) ↔ Dv PZ E (sr (dvl Q m r)))
  | 0, _, _ => Iff.rfl
  | m + 1, r, h => by
    have e := sbl_sr (fac Q r m) Q m r (by omega)
    refine Iff.trans ?_ (dvl_dv hE m (sbl (fac Q r m) m Q r) (by rw [sbl_len]; omega))
    constructor
    · exact fun x => (x.ad ((hE.sh m).cm)).congr e.symm
    · intro x
      refine (x.ad ((hE.sh m).cm (c := (fac Q r m : Int)))).congr ?_
      refine (e.ad .rfl).trans fun k => ?_
      show PZ ∣ sr r k + -(fac Q r m : Int) * sh m (sr Q) k + (fac Q r m : Int) * sh m (sr Q) k - sr r k
      exact ⟨0, by grind⟩
/-- the last number is not 0 -/
def ntr (Q : List Nat) : Prop := 0 < Q.length ∧ Q.getD (Q.length - 1) 0 ≠ 0
theorem inv_mul {a : Nat} (h0 : a ≠ 0) (h1 : a < pp) : PZ ∣ (a : Int) * (inv a : Nat) - 1 := by
  have h := fermat (Nat.pos_of_ne_zero h0) h1
  have h2 : a * inv a % pp = 1 := by
    rw [inv, Nat.mul_mod_mod]
    exact h
  have h3 : ((a * inv a : Nat) : Int) % PZ = 1 := by
    rw [← Int.natCast_emod, h2]
    rfl
  have h4 := Int.emod_add_mul_ediv ((a * inv a : Nat) : Int) PZ
  rw [h3, Int.natCast_mul] at h4
  exact ⟨((a : Int) * (inv a : Nat)) / PZ, by grind⟩
theorem dvl_z {Q : List Nat} (hQ : lo Q) (hn : ntr Q) : ∀ (m : Nat) (r : List Nat), lo r → m + Q.length ≤ r.length + 1 → (∀ k, m + Q.length - 1 ≤ k → sr r k = 0) → ∀ k, Q.length - 1 ≤ k → sr (dvl Q m r) k = 0
  | 0, r, _, _, h, k, hk => h k (by omega)
  | m + 1, r, hr, hl, h, k, hk => by
    obtain ⟨n0, n1⟩ := hn
    refine dvl_z hQ ⟨n0, n1⟩ m (sbl (fac Q r m) m Q r) (sbl_lo _ Q m r hr) (by rw [sbl_len]; omega) (fun j hj => ?_) k hk
    have e : PZ ∣ sr (sbl (fac Q r m) m Q r) j - (sr r j + -(fac Q r m : Int) * (if j < m then 0 else sr Q (j - m))) := sbl_sr (fac Q r m) Q m r (by omega) j
    rw [if_neg (by omega)] at e
    have b := sr_lo (sbl_lo (fac Q r m) Q m r hr) j
    refine same b.1 b.2 (Int.le_refl 0) (by decide) ?_
    rw [Int.sub_zero]
    by_cases c : j = m + Q.length - 1
    · subst c
      have e1 : sr Q (m + Q.length - 1 - m) = (Q.getD (Q.length - 1) 0 : Nat) := by rw [show m + Q.length - 1 - m = Q.length - 1 by omega]; rfl
      rw [e1] at e
      have hq : Q.getD (Q.length - 1) 0 < pp := by
        rw [List.getD_eq_getElem?_getD, List.getElem?_eq_getElem (by omega)]
        exact hQ _ (List.getElem_mem _)
      have i1 := inv_mul n1 hq
      have f1 := md_dvd (sr r (m + Q.length - 1) * (inv (Q.getD (Q.length - 1) 0) : Nat))
      have f1 : PZ ∣ (fac Q r m : Int) - sr r (m + Q.length - 1) * (inv (Q.getD (Q.length - 1) 0) : Nat) := f1
      generalize sr (sbl (fac Q r m) m Q r) (m + Q.length - 1) = s at e ⊢
      generalize sr r (m + Q.length - 1) = x at e f1
      generalize (fac Q r m : Int) = f at e f1
      generalize ((inv (Q.getD (Q.length - 1) 0) : Nat) : Int) = v at i1 f1
      generalize ((Q.getD (Q.length - 1) 0 : Nat) : Int) = y at e i1
      obtain ⟨t1, h1⟩ := e
      obtain ⟨t2, h2⟩ := i1
      obtain ⟨t3, h3⟩ := f1
      exact ⟨t1 - x * t2 - y * t3, by grind⟩
    · rw [h j (by omega), sr_hi (l := Q) (k := j - m) (by omega)] at e
      rw [show sr (sbl (fac Q r m) m Q r) j = sr (sbl (fac Q r m) m Q r) j - (0 + -(fac Q r m : Int) * 0) by grind]
      exact e
theorem tmn_le (l : List Nat) : ∀ m, tmn l m ≤ m
  | 0 => Nat.le_refl 0
  | m + 1 => by
    rw [tmn]
    split
    · exact Nat.le_trans (tmn_le l m) (by omega)
    · exact Nat.le_refl _
theorem tmn_z (l : List Nat) : ∀ (m k : Nat), tmn l m ≤ k → k < m → l.getD k 0 = 0
  | 0, k, _, h => absurd h (by omega)
  | m + 1, k, h1, h2 => by
    rw [tmn] at h1
    split at h1
    · next c =>
      by_cases z : k = m
      · exact z ▸ c
      · exact tmn_z l m k h1 (by omega)
    · omega
theorem tmn_n (l : List Nat) : ∀ (m : Nat), 0 < tmn l m → l.getD (tmn l m - 1) 0 ≠ 0
  | 0, h => absurd h (by show ¬ 0 < 0; omega)
  | m + 1, h => by
    rw [tmn] at h ⊢
    split
    · next c =>
      rw [if_pos c] at h
      exact tmn_n l m h
    · next c => exact c
theorem tmn_up (l : List Nat) : ∀ (m n : Nat), (∀ k, n ≤ k → l.getD k 0 = 0) → tmn l m ≤ n
  | 0, n, _ => Nat.zero_le n
  | m + 1, n, h => by
    rw [tmn]
    split
    · exact tmn_up l m n h
    · next c =>
      rcases Nat.lt_or_ge m n with z | z
      · exact z
      · exact (c (h m z)).elim
theorem getD_take (l : List Nat) (n k : Nat) : (l.take n).getD k 0 = if k < n then l.getD k 0 else 0 := by
  rw [List.getD_eq_getElem?_getD, List.getD_eq_getElem?_getD, List.getElem?_take]
  split <;> rfl
theorem trm_sr (l : List Nat) : sr (trm l) = sr l := by
  funext k
  show (((l.take (tmn l l.length)).getD k 0 : Nat) : Int) = ((l.getD k 0 : Nat) : Int)
  rw [getD_take]
  split
  · rfl
  · next c =>
    by_cases z : k < l.length
    · rw [tmn_z l l.length k (by omega) z]
    · rw [List.getD_eq_getElem?_getD, List.getElem?_eq_none (by omega)]
      rfl
theorem trm_len (l : List Nat) : (trm l).length = tmn l l.length := by
  have := tmn_le l l.length
  rw [trm, List.length_take]
  omega
theorem trm_n (l : List Nat) (h : trm l ≠ []) : ntr (trm l) := by
  have h0 : 0 < (trm l).length := List.length_pos_iff.mpr h
  refine ⟨h0, ?_⟩
  rw [trm_len] at h0 ⊢
  show (l.take (tmn l l.length)).getD (tmn l l.length - 1) 0 ≠ 0
  rw [getD_take, if_pos (by omega)]
  exact tmn_n l _ h0
theorem trm_lo {l : List Nat} (h : lo l) : lo (trm l) := fun o ho => h o (List.mem_of_mem_take ho)
theorem rmd_lo {P : List Nat} (Q : List Nat) (h : lo P) : lo (rmd P Q) := trm_lo (dvl_lo Q _ P h)
theorem rmd_dv {P Q : List Nat} {E : Sr} (hE : Dv PZ E (sr Q)) : Dv PZ E (sr P) ↔ Dv PZ E (sr (rmd P Q)) := by
  rw [rmd, trm_sr]
  by_cases c : Q.length ≤ P.length + 1
  · exact dvl_dv hE _ P (by omega)
  · rw [show P.length + 1 - Q.length = 0 by omega]
    exact Iff.rfl
theorem rmd_len {P Q : List Nat} (hP : lo P) (hQ : lo Q) (hn : ntr Q) : (rmd P Q).length < Q.length := by
  have h0 := hn.1
  rw [rmd, trm_len]
  have : tmn (dvl Q (P.length + 1 - Q.length) P) (dvl Q (P.length + 1 - Q.length) P).length ≤ Q.length - 1 := tmn_up _ _ _ fun k hk => by
    have e : sr (dvl Q (P.length + 1 - Q.length) P) k = 0 := by
      by_cases c : Q.length ≤ P.length + 1
      · exact dvl_z hQ hn _ P hP (by omega) (fun j hj => sr_hi (by omega)) k hk
      · rw [show P.length + 1 - Q.length = 0 by omega]
        show sr P k = 0
        exact sr_hi (by omega)
    exact Int.ofNat.inj e
  omega
/-- the greatest common divisor, not yet with leading number 1 -/
def cg : Nat → List Nat → List Nat → List Nat
  | 0, P, _ => P
  | n + 1, P, Q => if Q = [] then P else cg n Q (rmd P Q)
theorem cg_ok : ∀ (n : Nat) (P Q : List Nat), Q.length < n → lo P → lo Q → ntr P → (Q ≠ [] → ntr Q) → lo (cg n P Q) ∧ ntr (cg n P Q) ∧ (cg n P Q).length ≤ max P.length Q.length ∧ ∀ E, (Dv PZ E (sr P) ∧ Dv PZ E (sr Q)) ↔ Dv PZ E (sr (cg n P Q))
  | 0, _, _, h, _, _, _, _ => absurd h (by omega)
  | n + 1, P, Q, h, hP, hQ, nP, nQ => by
    rw [cg]
    by_cases c : Q = []
    · rw [if_pos c]
      refine ⟨hP, nP, by omega, fun E => ⟨fun x => x.1, fun x => ⟨x, .zero fun k => ?_⟩⟩⟩
      rw [c, sr_hi (Nat.zero_le _)]
      exact Int.dvd_zero _
    · rw [if_neg c]
      have hl := rmd_len hP hQ (nQ c)
      obtain ⟨h1, h2, h4, h3⟩ := cg_ok n Q (rmd P Q) (by omega) hQ (rmd_lo Q hP) (nQ c) (fun z => trm_n _ z)
      refine ⟨h1, h2, by omega, fun E => Iff.trans ⟨fun x => ⟨x.2, (rmd_dv x.2).mp x.1⟩, fun x => ⟨(rmd_dv x.1).mpr x.2, x.1⟩⟩ (h3 E)⟩
/-- the leading number made 1 -/
def mon (D : List Nat) : List Nat := D.map fun n : Nat => md ((n : Int) * (inv (D.getD (D.length - 1) 0) : Nat))
theorem mon_lo (D : List Nat) : lo (mon D) := fun o ho => by
  obtain ⟨k, _, rfl⟩ := List.mem_map.mp ho
  exact md_lt _
theorem mon_sr (D : List Nat) : eqs PZ (sr (mon D)) (cm (inv (D.getD (D.length - 1) 0) : Nat) (sr D)) := fun k => by
  show PZ ∣ sr (mon D) k - (inv (D.getD (D.length - 1) 0) : Nat) * sr D k
  by_cases c : k < D.length
  · rw [sr_at (show k < (mon D).length by rw [mon, List.length_map]; exact c), sr_at c]
    have e : (mon D)[k]'(by rw [mon, List.length_map]; exact c) = md ((D[k] : Int) * (inv (D.getD (D.length - 1) 0) : Nat)) := by
      simp only [mon, List.getElem_map]
    rw [e, Int.mul_comm ((inv (D.getD (D.length - 1) 0) : Nat) : Int)]
    exact md_dvd _
  · rw [sr_hi (show (mon D).length ≤ k by rw [mon, List.length_map]; omega), sr_hi (show D.length ≤ k by omega), Int.mul_zero, Int.sub_zero]
    exact Int.dvd_zero _
theorem zL_in {l : List Nat} (h : lo l) : ∀ x ∈ zL l, 0 ≤ x ∧ x < PZ := fun x hx => by
  obtain ⟨n, hn, rfl⟩ := List.mem_map.mp hx
  have := h n hn
  show (0 : Int) ≤ (n : Int) ∧ (n : Int) < ((pp : Nat) : Int)
  omega
theorem fl_ntr (rs : List Nat) : ntr (fl rs) := by
  refine ⟨by rw [fl_len]; omega, ?_⟩
  rw [fl_len, show rs.length + 1 - 1 = rs.length by omega, fl_last]
  decide
/-- the common divisor of two products of linear ones -/
theorem common_fl {A B I A' B' : List Nat} {n : Nat} (hA : lo A) (hB : lo B) (pA : A.Perm (I ++ A')) (pB : B.Perm (I ++ B')) (hd : ∀ x ∈ A', x ∉ B') (hn : B.length + 1 < n) : mon (cg n (fl A) (fl B)) = fl I := by
  obtain ⟨h1, h2, _, h3⟩ := cg_ok n (fl A) (fl B) (by rw [fl_len]; exact hn) (fl_lo A) (fl_lo B) (fl_ntr A) (fun _ => fl_ntr B)
  generalize cg n (fl A) (fl B) = D at h1 h2 h3
  have zp : ∀ {x y z : List Nat}, x.Perm (y ++ z) → (zL x).Perm (zL y ++ zL z) := fun p => by
    have := p.map fun n : Nat => (n : Int)
    rwa [List.map_append] at this
  have dD := (h3 (sr D)).mpr .self
  have dI := (h3 (lin (zL I))).mp ⟨(Dv.lin (zp pA)).congr (fl_sr A).symm, (Dv.lin (zp pB)).congr (fl_sr B).symm⟩
  obtain ⟨e, he, hD⟩ := gcd_lin pdom pone (zL_in hA) (zL_in hB) (zp pA) (zp pB) (fun x hx hx2 => by
    obtain ⟨a, ha, rfl⟩ := List.mem_map.mp hx
    obtain ⟨b, hb, hab⟩ := List.mem_map.mp hx2
    have : b = a := by omega
    exact hd a ha (this ▸ hb)) (Bd.sr D) (dD.1.congr (fl_sr A)) (dD.2.congr (fl_sr B)) dI
  obtain ⟨n0, n1⟩ := h2
  have hlen : D.length = I.length + 1 := by
    have t1 : PZ ∣ sr D I.length - e * lin (zL I) I.length := hD _
    have e1 := lin_top (zL I)
    rw [zL_len] at e1
    rw [e1, Int.mul_one] at t1
    rcases Nat.lt_trichotomy D.length (I.length + 1) with c | c | c
    · rw [sr_hi (by omega), Int.zero_sub] at t1
      exact (he (Int.dvd_neg.mp t1)).elim
    · exact c
    · have t2 : PZ ∣ sr D (D.length - 1) - e * lin (zL I) (D.length - 1) := hD _
      rw [lin_hi _ _ (by rw [zL_len]; omega), Int.mul_zero] at t2
      have b := sr_lo h1 (D.length - 1)
      have := same b.1 b.2 (Int.le_refl 0) (by decide) t2
      exact (n1 (Int.ofNat.inj this)).elim
  have hl : D.getD (D.length - 1) 0 < pp := by
    rw [List.getD_eq_getElem?_getD, List.getElem?_eq_getElem (by omega)]
    exact h1 _ (List.getElem_mem _)
  refine list_eq (by rw [fl_len, mon, List.length_map, hlen]) (mon_lo D) (fl_lo I) ?_
  refine (mon_sr D).trans (eqs.trans ?_ (fl_sr I).symm)
  refine (hD.cm).trans fun k => ?_
  show PZ ∣ (inv (D.getD (D.length - 1) 0) : Nat) * (e * lin (zL I) k) - lin (zL I) k
  have i1 := inv_mul n1 hl
  have e1 : PZ ∣ (D.getD (D.length - 1) 0 : Nat) - e := by
    have t1 : PZ ∣ sr D (D.length - 1) - e * lin (zL I) (D.length - 1) := hD _
    have e1 := lin_top (zL I)
    rw [zL_len] at e1
    rw [show D.length - 1 = I.length by omega, e1, Int.mul_one] at t1
    rw [show D.length - 1 = I.length by omega]
    exact t1
  generalize ((inv (D.getD (D.length - 1) 0) : Nat) : Int) = v at i1 ⊢
  generalize ((D.getD (D.length - 1) 0 : Nat) : Int) = y at e1 i1
  generalize lin (zL I) k = x
  obtain ⟨t1, h1⟩ := i1
  obtain ⟨t2, h2⟩ := e1
  exact ⟨x * t1 - v * x * t2, by grind⟩
end EV

namespace EV
open PySem
section
variable {C : Nat → List D → M D} {ls : Ls} {h : Hh} {fuel n : Nat}
theorem xg_0 : evE C glF (.glo 0) ls h = .ok (D.int 2305843009213693951) h := rfl
theorem xg_1 : evE C glF (.glo 1) ls h = .ok (D.int 60) h := rfl
-- 0: is_in(value, least, most)
theorem r_0 {a0 a1 a2 : D} : evF GF xfF glF X2F subF fuel (n + 1) 0 [a0, a1, a2] h = (evB xfF glF X2F subF fuel B_0 (evF GF xfF glF X2F subF fuel n) [some a0, some a1, some a2] ⟨h.objs, h.objs.length :: h.los⟩).fin h := run_eq (ar := 3) (nn := 3) (b := B_0) rfl rfl (by decide)
-- 1: power(number, many)
theorem r_1 {a0 a1 : D} : evF GF xfF glF X2F subF fuel (n + 1) 1 [a0, a1] h = (evB xfF glF X2F subF fuel B_1 (evF GF xfF glF X2F subF fuel n) [some a0, some a1, none, none] ⟨h.objs, h.objs.length :: h.los⟩).fin h := run_eq (ar := 2) (nn := 4) (b := B_1) rfl rfl (by decide)
-- 2: inverse(number)
theorem r_2 {a0 : D} : evF GF xfF glF X2F subF fuel (n + 1) 2 [a0] h = (evB xfF glF X2F subF fuel B_2 (evF GF xfF glF X2F subF fuel n) [some a0] ⟨h.objs, h.objs.length :: h.los⟩).fin h := run_eq (ar := 1) (nn := 1) (b := B_2) rfl rfl (by decide)
-- 3: is_poly(value)
theorem r_3 {a0 : D} : evF GF xfF glF X2F subF fuel (n + 1) 3 [a0] h = (evB xfF glF X2F subF fuel B_3 (evF GF xfF glF X2F subF fuel n) [some a0, none] ⟨h.objs, h.objs.length :: h.los⟩).fin h := run_eq (ar := 1) (nn := 2) (b := B_3) rfl rfl (by decide)
-- 4: need_poly(poly)
theorem r_4 {a0 : D} : evF GF xfF glF X2F subF fuel (n + 1) 4 [a0] h = (evB xfF glF X2F subF fuel B_4 (evF GF xfF glF X2F subF fuel n) [some a0] ⟨h.objs, h.objs.length :: h.los⟩).fin h := run_eq (ar := 1) (nn := 1) (b := B_4) rfl rfl (by decide)
-- 5: trimmed(numbers)
theorem r_5 {a0 : D} : evF GF xfF glF X2F subF fuel (n + 1) 5 [a0] h = (evB xfF glF X2F subF fuel B_5 (evF GF xfF glF X2F subF fuel n) [some a0, none] ⟨h.objs, h.objs.length :: h.los⟩).fin h := run_eq (ar := 1) (nn := 2) (b := B_5) rfl rfl (by decide)
-- 6: value_in(poly, place)
theorem r_6 {a0 a1 : D} : evF GF xfF glF X2F subF fuel (n + 1) 6 [a0, a1] h = (evB xfF glF X2F subF fuel B_6 (evF GF xfF glF X2F subF fuel n) [some a0, some a1, none, none] ⟨h.objs, h.objs.length :: h.los⟩).fin h := run_eq (ar := 2) (nn := 4) (b := B_6) rfl rfl (by decide)
-- 7: by_roots(roots)
theorem r_7 {a0 : D} : evF GF xfF glF X2F subF fuel (n + 1) 7 [a0] h = (evB xfF glF X2F subF fuel B_7 (evF GF xfF glF X2F subF fuel n) [some a0, none, none, none, none, none] ⟨h.objs, h.objs.length :: h.los⟩).fin h := run_eq (ar := 1) (nn := 6) (b := B_7) rfl rfl (by decide)
-- 8: divided(poly, other)
theorem r_8 {a0 a1 : D} : evF GF xfF glF X2F subF fuel (n + 1) 8 [a0, a1] h = (evB xfF glF X2F subF fuel B_8 (evF GF xfF glF X2F subF fuel n) [some a0, some a1, none, none, none, none, none, none, none] ⟨h.objs, h.objs.length :: h.los⟩).fin h := run_eq (ar := 2) (nn := 9) (b := B_8) rfl rfl (by decide)
-- 9: common_in(poly, other)
theorem r_9 {a0 a1 : D} : evF GF xfF glF X2F subF fuel (n + 1) 9 [a0, a1] h = (evB xfF glF X2F subF fuel B_9 (evF GF xfF glF X2F subF fuel n) [some a0, some a1, none, none] ⟨h.objs, h.objs.length :: h.los⟩).fin h := run_eq (ar := 2) (nn := 4) (b := B_9) rfl rfl (by decide)
-- 10: common(poly, other)
theorem r_10 {a0 a1 : D} : evF GF xfF glF X2F subF fuel (n + 1) 10 [a0, a1] h = (evB xfF glF X2F subF fuel B_10 (evF GF xfF glF X2F subF fuel n) [some a0, some a1] ⟨h.objs, h.objs.length :: h.los⟩).fin h := run_eq (ar := 2) (nn := 2) (b := B_10) rfl rfl (by decide)
-- 11: value_at(poly, place)
theorem r_11 {a0 a1 : D} : evF GF xfF glF X2F subF fuel (n + 1) 11 [a0, a1] h = (evB xfF glF X2F subF fuel B_11 (evF GF xfF glF X2F subF fuel n) [some a0, some a1] ⟨h.objs, h.objs.length :: h.los⟩).fin h := run_eq (ar := 2) (nn := 2) (b := B_11) rfl rfl (by decide)
-- 12: _law_prime()
theorem r_12 : evF GF xfF glF X2F subF fuel (n + 1) 12 [] h = (evB xfF glF X2F subF fuel B_12 (evF GF xfF glF X2F subF fuel n) [] ⟨h.objs, h.objs.length :: h.los⟩).fin h := run_eq (ar := 0) (nn := 0) (b := B_12) rfl rfl (by decide)
-- 13: _law_taken(_law_row, _law_many)
theorem r_13 {a0 a1 : D} : evF GF xfF glF X2F subF fuel (n + 1) 13 [a0, a1] h = (evB xfF glF X2F subF fuel B_13 (evF GF xfF glF X2F subF fuel n) [some a0, some a1, none, none] ⟨h.objs, h.objs.length :: h.los⟩).fin h := run_eq (ar := 2) (nn := 4) (b := B_13) rfl rfl (by decide)
-- 14: _law_pick(_law_row, _law_things)
theorem r_14 {a0 a1 : D} : evF GF xfF glF X2F subF fuel (n + 1) 14 [a0, a1] h = (evB xfF glF X2F subF fuel B_14 (evF GF xfF glF X2F subF fuel n) [some a0, some a1] ⟨h.objs, h.objs.length :: h.los⟩).fin h := run_eq (ar := 2) (nn := 2) (b := B_14) rfl rfl (by decide)
-- 15: _law_alike(_law_found, _law_due)
theorem r_15 {a0 a1 : D} : evF GF xfF glF X2F subF fuel (n + 1) 15 [a0, a1] h = (evB xfF glF X2F subF fuel B_15 (evF GF xfF glF X2F subF fuel n) [some a0, some a1, none] ⟨h.objs, h.objs.length :: h.los⟩).fin h := run_eq (ar := 2) (nn := 3) (b := B_15) rfl rfl (by decide)
-- 16: _law_from_roots(_law_points)
theorem r_16 {a0 : D} : evF GF xfF glF X2F subF fuel (n + 1) 16 [a0] h = (evB xfF glF X2F subF fuel B_16 (evF GF xfF glF X2F subF fuel n) [some a0, none, none, none] ⟨h.objs, h.objs.length :: h.los⟩).fin h := run_eq (ar := 1) (nn := 4) (b := B_16) rfl rfl (by decide)
-- 17: _law_at(_law_poly, _law_place)
theorem r_17 {a0 a1 : D} : evF GF xfF glF X2F subF fuel (n + 1) 17 [a0, a1] h = (evB xfF glF X2F subF fuel B_17 (evF GF xfF glF X2F subF fuel n) [some a0, some a1, none, none, none] ⟨h.objs, h.objs.length :: h.los⟩).fin h := run_eq (ar := 2) (nn := 5) (b := B_17) rfl rfl (by decide)
-- 18: _law_power(_law_number, _law_many)
theorem r_18 {a0 a1 : D} : evF GF xfF glF X2F subF fuel (n + 1) 18 [a0, a1] h = (evB xfF glF X2F subF fuel B_18 (evF GF xfF glF X2F subF fuel n) [some a0, some a1, none, none] ⟨h.objs, h.objs.length :: h.los⟩).fin h := run_eq (ar := 2) (nn := 4) (b := B_18) rfl rfl (by decide)
-- 19: law(_law_script)
theorem r_19 {a0 : D} : evF GF xfF glF X2F subF fuel (n + 1) 19 [a0] h = (evB xfF glF X2F subF fuel B_19 (evF GF xfF glF X2F subF fuel n) [some a0, none, none, none, none, none, none, none, none, none, none, none, none] ⟨h.objs, h.objs.length :: h.los⟩).fin h := run_eq (ar := 1) (nn := 13) (b := B_19) rfl rfl (by decide)
end
section
variable {C : Nat → List D → M D} {ls : Ls} {h : Hh} {fuel : Nat} {gl : Nat → Option D} {xf : Nat → List Nat} {X : Nat → List D → Option D} {sub : Nat → Nat → Option Bool}
theorem u_B_0 : evB xf gl X sub fuel B_0 C ls h = evB xf gl X sub fuel (.cons (.ret (.and (.isi (.loc 0) [.int]) (.and (.not (.isi (.loc 0) [.bool])) (.chn .le .le (.loc 1) (.loc 0) (.loc 2))))) .nil) C ls h := rfl
theorem u_c_1_0 : evE C gl c_1_0 ls h = evE C gl (.cmp .gt (.loc 1) (.con (D.int 0))) ls h := rfl
theorem u_b_1_1 : evB xf gl X sub fuel b_1_1 C ls h = evB xf gl X sub fuel (.cons (.ite (.cmp .eq (.bin .mod (.loc 1) (.con (D.int 2))) (.con (D.int 1))) (.cons (.asg (.loc 2) (.bin .mod (.bin .mul (.loc 2) (.loc 3)) (.glo 0))) .nil) .nil) (.cons (.par (.cons (.loc 3) (.cons (.loc 1) .nil)) (.cons (.bin .mod (.bin .mul (.loc 3) (.loc 3)) (.glo 0)) (.cons (.bin .fdiv (.loc 1) (.con (D.int 2))) .nil))) .nil)) C ls h := rfl
theorem u_k_1_2 : evB xf gl X sub fuel k_1_2 C ls h = evB xf gl X sub fuel (.cons (.ret (.loc 2)) .nil) C ls h := rfl
theorem u_B_1 : evB xf gl X sub fuel B_1 C ls h = evB xf gl X sub fuel (.cons (.par (.cons (.loc 2) (.cons (.loc 3) .nil)) (.cons (.con (D.int 1)) (.cons (.bin .mod (.loc 0) (.glo 0)) .nil))) (.cons (.whl c_1_0 b_1_1) k_1_2)) C ls h := rfl
theorem u_B_2 : evB xf gl X sub fuel B_2 C ls h = evB xf gl X sub fuel (.cons (.ret (.call 1 (.cons (.loc 0) (.cons (.bin .sub (.glo 0) (.con (D.int 2))) .nil)))) .nil) C ls h := rfl
theorem u_f_3_0 : evC C gl f_3_0 ls h = evC C gl (.cons (.not (.call 0 (.cons (.loc 1) (.cons (.con (D.int 0)) (.cons (.bin .sub (.glo 0) (.con (D.int 1))) .nil))))) .nil) ls h := rfl
theorem u_e_3_1 : evE C gl e_3_1 ls h = evE C gl (.loc 1) ls h := rfl
theorem u_B_3 : evB xf gl X sub fuel B_3 C ls h = evB xf gl X sub fuel (.cons (.ite (.or (.not (.isi (.loc 0) [.tuple])) (.cmp .gt (.bif .len (.cons (.loc 0) .nil)) (.bin .add (.glo 1) (.con (D.int 1))))) (.cons (.ret (.con (D.bl false))) .nil) .nil) (.cons (.ite (.cmp .ne (.comp e_3_1 (.loc 1) (.sq (.loc 0)) f_3_0 [1]) (.lst .nil)) (.cons (.ret (.con (D.bl false))) .nil) .nil) (.cons (.ret (.or (.cmp .eq (.loc 0) (.tup .nil)) (.cmp .ne (.idx (.loc 0) (.neg (.con (D.int 1)))) (.con (D.int 0))))) .nil))) C ls h := rfl
theorem u_B_4 : evB xf gl X sub fuel B_4 C ls h = evB xf gl X sub fuel (.cons (.ite (.not (.call 3 (.cons (.loc 0) .nil))) (.cons (.rse 1 .nil) .nil) .nil) .nil) C ls h := rfl
theorem u_c_5_0 : evE C gl c_5_0 ls h = evE C gl (.and (.cmp .gt (.loc 1) (.con (D.int 0))) (.cmp .eq (.idx (.loc 0) (.bin .sub (.loc 1) (.con (D.int 1)))) (.con (D.int 0)))) ls h := rfl
theorem u_b_5_1 : evB xf gl X sub fuel b_5_1 C ls h = evB xf gl X sub fuel (.cons (.aug 1 .sub (.con (D.int 1))) .nil) C ls h := rfl
theorem u_k_5_2 : evB xf gl X sub fuel k_5_2 C ls h = evB xf gl X sub fuel (.cons (.ret (.bif .tuple (.cons (.slc (.loc 0) .nil (.cons (.loc 1) .nil)) .nil))) .nil) C ls h := rfl
theorem u_B_5 : evB xf gl X sub fuel B_5 C ls h = evB xf gl X sub fuel (.cons (.asg (.loc 1) (.bif .len (.cons (.loc 0) .nil))) (.cons (.whl c_5_0 b_5_1) k_5_2)) C ls h := rfl
theorem u_b_6_0 : evB xf gl X sub fuel b_6_0 C ls h = evB xf gl X sub fuel (.cons (.asg (.loc 2) (.bin .mod (.bin .add (.bin .mul (.loc 2) (.loc 1)) (.loc 3)) (.glo 0))) .nil) C ls h := rfl
theorem u_k_6_1 : evB xf gl X sub fuel k_6_1 C ls h = evB xf gl X sub fuel (.cons (.ret (.loc 2)) .nil) C ls h := rfl
theorem u_B_6 : evB xf gl X sub fuel B_6 C ls h = evB xf gl X sub fuel (.cons (.asg (.loc 2) (.con (D.int 0))) (.cons (.for (.loc 3) (.rev (.loc 0)) b_6_0) k_6_1)) C ls h := rfl
theorem u_f_7_0 : evC C gl f_7_0 ls h = evC C gl (.cons (.not (.call 0 (.cons (.loc 1) (.cons (.con (D.int 0)) (.cons (.bin .sub (.glo 0) (.con (D.int 1))) .nil))))) .nil) ls h := rfl
theorem u_e_7_1 : evE C gl e_7_1 ls h = evE C gl (.loc 1) ls h := rfl
theorem u_b_7_2 : evB xf gl X sub fuel b_7_2 C ls h = evB xf gl X sub fuel (.cons (.setx (.loc 3) (.loc 4) (.bin .mod (.bin .sub (.idx (.loc 3) (.loc 4)) (.bin .mul (.loc 1) (.loc 5))) (.glo 0))) .nil) C ls h := rfl
theorem u_k_7_3 : evB xf gl X sub fuel k_7_3 C ls h = evB xf gl X sub fuel (.cons (.asg (.loc 2) (.loc 3)) .nil) C ls h := rfl
theorem u_b_7_4 : evB xf gl X sub fuel b_7_4 C ls h = evB xf gl X sub fuel (.cons (.asg (.loc 3) (.mk (.bin .add (.lst (.cons (.con (D.int 0)) .nil)) (.loc 2)))) (.cons (.forE (.tup (.cons (.loc 4) (.cons (.loc 5) .nil))) (.loc 2) b_7_2) k_7_3)) C ls h := rfl
theorem u_k_7_5 : evB xf gl X sub fuel k_7_5 C ls h = evB xf gl X sub fuel (.cons (.ret (.bif .tuple (.cons (.loc 2) .nil))) .nil) C ls h := rfl
theorem u_B_7 : evB xf gl X sub fuel B_7 C ls h = evB xf gl X sub fuel (.cons (.ite (.or (.not (.isi (.loc 0) [.tuple])) (.cmp .gt (.bif .len (.cons (.loc 0) .nil)) (.glo 1))) (.cons (.rse 2 .nil) .nil) .nil) (.cons (.ite (.cmp .ne (.comp e_7_1 (.loc 1) (.sq (.loc 0)) f_7_0 [1]) (.lst .nil)) (.cons (.rse 2 .nil) .nil) .nil) (.cons (.asg (.loc 2) (.lst (.cons (.con (D.int 1)) .nil))) (.cons (.for (.loc 1) (.sq (.loc 0)) b_7_4) k_7_5)))) C ls h := rfl
theorem u_b_8_0 : evB xf gl X sub fuel b_8_0 C ls h = evB xf gl X sub fuel (.cons (.setx (.loc 2) (.bin .add (.loc 5) (.loc 7)) (.bin .mod (.bin .sub (.idx (.loc 2) (.bin .add (.loc 5) (.loc 7))) (.bin .mul (.loc 6) (.loc 8))) (.glo 0))) .nil) C ls h := rfl
theorem u_b_8_1 : evB xf gl X sub fuel b_8_1 C ls h = evB xf gl X sub fuel (.cons (.asg (.loc 6) (.bin .mod (.bin .mul (.idx (.loc 2) (.bin .sub (.bin .add (.loc 5) (.bif .len (.cons (.loc 1) .nil))) (.con (D.int 1)))) (.loc 3)) (.glo 0))) (.cons (.setx (.loc 4) (.loc 5) (.loc 6)) (.cons (.for (.tup (.cons (.loc 7) (.cons (.loc 8) .nil))) (.enm (.loc 1)) b_8_0) .nil))) C ls h := rfl
theorem u_k_8_2 : evB xf gl X sub fuel k_8_2 C ls h = evB xf gl X sub fuel (.cons (.ret (.tup (.cons (.call 5 (.cons (.loc 4) .nil)) (.cons (.call 5 (.cons (.loc 2) .nil)) .nil)))) .nil) C ls h := rfl
theorem u_B_8 : evB xf gl X sub fuel B_8 C ls h = evB xf gl X sub fuel (.cons (.par (.cons (.loc 2) (.cons (.loc 3) .nil)) (.cons (.mk (.bif .list (.cons (.loc 0) .nil))) (.cons (.call 2 (.cons (.idx (.loc 1) (.neg (.con (D.int 1)))) .nil)) .nil))) (.cons (.asg (.loc 4) (.mk (.bin .mul (.lst (.cons (.con (D.int 0)) .nil)) (.bif .max (.cons (.con (D.int 0)) (.cons (.bin .add (.bin .sub (.bif .len (.cons (.loc 0) .nil)) (.bif .len (.cons (.loc 1) .nil))) (.con (D.int 1))) .nil)))))) (.cons (.for (.loc 5) (.rng3 (.bin .sub (.bif .len (.cons (.loc 4) .nil)) (.con (D.int 1))) (.neg (.con (D.int 1))) (.neg (.con (D.int 1)))) b_8_1) k_8_2))) C ls h := rfl
theorem u_c_9_0 : evE C gl c_9_0 ls h = evE C gl (.cmp .ne (.loc 1) (.tup .nil)) ls h := rfl
theorem u_b_9_1 : evB xf gl X sub fuel b_9_1 C ls h = evB xf gl X sub fuel (.cons (.par (.cons (.loc 0) (.cons (.loc 1) .nil)) (.cons (.loc 1) (.cons (.idx (.call 8 (.cons (.loc 0) (.cons (.loc 1) .nil))) (.con (D.int 1))) .nil))) .nil) C ls h := rfl
theorem u_e_9_2 : evE C gl e_9_2 ls h = evE C gl (.bin .mod (.bin .mul (.loc 3) (.loc 2)) (.glo 0)) ls h := rfl
theorem u_k_9_3 : evB xf gl X sub fuel k_9_3 C ls h = evB xf gl X sub fuel (.cons (.asg (.loc 2) (.call 2 (.cons (.idx (.loc 0) (.neg (.con (D.int 1)))) .nil))) (.cons (.ret (.bif .tuple (.cons (.comp e_9_2 (.loc 3) (.sq (.loc 0)) .nil [3]) .nil))) .nil)) C ls h := rfl
theorem u_B_9 : evB xf gl X sub fuel B_9 C ls h = evB xf gl X sub fuel (.cons (.whl c_9_0 b_9_1) k_9_3) C ls h := rfl
theorem u_B_10 : evB xf gl X sub fuel B_10 C ls h = evB xf gl X sub fuel (.cons (.ex (.call 4 (.cons (.loc 0) .nil))) (.cons (.ex (.call 4 (.cons (.loc 1) .nil))) (.cons (.ret (.ite (.and (.cmp .eq (.loc 0) (.tup .nil)) (.cmp .eq (.loc 1) (.tup .nil))) (.tup .nil) (.call 9 (.cons (.loc 0) (.cons (.loc 1) .nil))))) .nil))) C ls h := rfl
theorem u_B_11 : evB xf gl X sub fuel B_11 C ls h = evB xf gl X sub fuel (.cons (.ex (.call 4 (.cons (.loc 0) .nil))) (.cons (.ite (.not (.call 0 (.cons (.loc 1) (.cons (.con (D.int 0)) (.cons (.bin .sub (.glo 0) (.con (D.int 1))) .nil))))) (.cons (.rse 2 .nil) .nil) .nil) (.cons (.ret (.call 6 (.cons (.loc 0) (.cons (.loc 1) .nil)))) .nil))) C ls h := rfl
theorem u_B_12 : evB xf gl X sub fuel B_12 C ls h = evB xf gl X sub fuel (.cons (.ret (.con (D.int 2305843009213693951))) .nil) C ls h := rfl
theorem u_B_13 : evB xf gl X sub fuel B_13 C ls h = evB xf gl X sub fuel (.cons (.ite (.cmp .gt (.idx (.loc 0) (.con (D.int 3))) (.con (D.int 0))) (.cons (.asg (.loc 2) (.bin .mod (.bif .int (.cons (.idx (.loc 0) (.con (D.int 3))) .nil)) (.loc 1))) (.cons (.setx (.loc 0) (.con (D.int 3)) (.bin .fdiv (.idx (.loc 0) (.con (D.int 3))) (.loc 1))) (.cons (.ret (.loc 2)) .nil))) .nil) (.cons (.setx (.loc 0) (.con (D.int 1)) (.bin .add (.idx (.loc 0) (.con (D.int 1))) (.con (D.int 1)))) (.cons (.ite (.cmp .gt (.idx (.loc 0) (.con (D.int 1))) (.bif .len (.cons (.idx (.loc 0) (.con (D.int 0))) .nil))) (.cons (.setx (.loc 0) (.con (D.int 2)) (.bin .mod (.bif .int (.cons (.bin .add (.bin .mul (.idx (.loc 0) (.con (D.int 2))) (.con (D.int 48271))) (.con (D.int 11))) .nil)) (.con (D.int 2147483647)))) (.cons (.ret (.bin .mod (.bif .int (.cons (.bin .fdiv (.idx (.loc 0) (.con (D.int 2))) (.con (D.int 7))) .nil)) (.loc 1))) .nil)) .nil) (.cons (.asg (.loc 3) (.idx (.idx (.loc 0) (.con (D.int 0))) (.bin .sub (.idx (.loc 0) (.con (D.int 1))) (.con (D.int 1))))) (.cons (.setx (.loc 0) (.con (D.int 2)) (.bin .mod (.bif .int (.cons (.bin .add (.bin .add (.bin .mul (.idx (.loc 0) (.con (D.int 2))) (.con (D.int 48271))) (.loc 3)) (.con (D.int 11))) .nil)) (.con (D.int 2147483647)))) (.cons (.ite (.cmp .ge (.loc 3) (.bin .pow (.con (D.int 10)) (.con (D.int 18)))) (.cons (.setx (.loc 0) (.con (D.int 3)) (.bin .fdiv (.loc 3) (.loc 1))) .nil) .nil) (.cons (.ret (.bin .mod (.bif .int (.cons (.loc 3) .nil)) (.loc 1))) .nil))))))) C ls h := rfl
theorem u_B_14 : evB xf gl X sub fuel B_14 C ls h = evB xf gl X sub fuel (.cons (.ret (.idx (.loc 1) (.call 13 (.cons (.loc 0) (.cons (.bif .len (.cons (.loc 1) .nil)) .nil))))) .nil) C ls h := rfl
theorem u_f_15_0 : evC C gl f_15_0 ls h = evC C gl (.cons (.not (.call 15 (.cons (.idx (.loc 0) (.loc 2)) (.cons (.idx (.loc 1) (.loc 2)) .nil)))) .nil) ls h := rfl
theorem u_e_15_1 : evE C gl e_15_1 ls h = evE C gl (.loc 2) ls h := rfl
theorem u_B_15 : evB xf gl X sub fuel B_15 C ls h = evB xf gl X sub fuel (.cons (.ite (.isi (.loc 1) [.tuple, .list]) (.cons (.ite (.or (.not (.isi (.loc 0) [.tuple, .list])) (.cmp .ne (.isi (.loc 0) [.list]) (.isi (.loc 1) [.list]))) (.cons (.ret (.con (D.bl false))) .nil) .nil) (.cons (.ite (.cmp .ne (.bif .len (.cons (.loc 0) .nil)) (.bif .len (.cons (.loc 1) .nil))) (.cons (.ret (.con (D.bl false))) .nil) .nil) (.cons (.ret (.cmp .eq (.comp e_15_1 (.loc 2) (.rng1 (.bif .len (.cons (.loc 1) .nil))) f_15_0 [2]) (.lst .nil))) .nil))) .nil) (.cons (.ite (.or (.cmp .is (.loc 1) (.con (D.non))) (.isi (.loc 1) [.str])) (.cons (.ret (.and (.cmp .eq (.loc 0) (.loc 1)) (.cmp .eq (.isi (.loc 0) [.str]) (.isi (.loc 1) [.str])))) .nil) .nil) (.cons (.ret (.and (.isi (.loc 0) [.int]) (.and (.cmp .eq (.isi (.loc 0) [.bool]) (.isi (.loc 1) [.bool])) (.cmp .eq (.loc 0) (.loc 1))))) .nil))) C ls h := rfl
theorem u_e_16_0 : evE C gl e_16_0 ls h = evE C gl (.bin .mod (.bif .int (.cons (.bin .sub (.ite (.cmp .gt (.loc 3) (.con (D.int 0))) (.idx (.loc 1) (.bin .sub (.loc 3) (.con (D.int 1)))) (.con (D.int 0))) (.bin .mul (.loc 2) (.ite (.cmp .lt (.loc 3) (.bif .len (.cons (.loc 1) .nil))) (.idx (.loc 1) (.loc 3)) (.con (D.int 0))))) .nil)) (.call 12 .nil)) ls h := rfl
theorem u_b_16_1 : evB xf gl X sub fuel b_16_1 C ls h = evB xf gl X sub fuel (.cons (.asg (.loc 1) (.comp e_16_0 (.loc 3) (.rng1 (.bin .add (.bif .len (.cons (.loc 1) .nil)) (.con (D.int 1)))) .nil [3])) .nil) C ls h := rfl
theorem u_k_16_2 : evB xf gl X sub fuel k_16_2 C ls h = evB xf gl X sub fuel (.cons (.ret (.bif .tuple (.cons (.loc 1) .nil))) .nil) C ls h := rfl
theorem u_B_16 : evB xf gl X sub fuel B_16 C ls h = evB xf gl X sub fuel (.cons (.asg (.loc 1) (.lst (.cons (.con (D.int 1)) .nil))) (.cons (.for (.loc 2) (.sq (.loc 0)) b_16_1) k_16_2)) C ls h := rfl
theorem u_b_17_0 : evB xf gl X sub fuel b_17_0 C ls h = evB xf gl X sub fuel (.cons (.par (.cons (.loc 2) (.cons (.loc 3) .nil)) (.cons (.bin .mod (.bif .int (.cons (.bin .add (.loc 2) (.bin .mul (.loc 4) (.loc 3))) .nil)) (.call 12 .nil)) (.cons (.bin .mod (.bif .int (.cons (.bin .mul (.loc 3) (.loc 1)) .nil)) (.call 12 .nil)) .nil))) .nil) C ls h := rfl
theorem u_k_17_1 : evB xf gl X sub fuel k_17_1 C ls h = evB xf gl X sub fuel (.cons (.ret (.loc 2)) .nil) C ls h := rfl
theorem u_B_17 : evB xf gl X sub fuel B_17 C ls h = evB xf gl X sub fuel (.cons (.asg (.tup (.cons (.loc 2) (.cons (.loc 3) .nil))) (.tup (.cons (.con (D.int 0)) (.cons (.con (D.int 1)) .nil)))) (.cons (.for (.loc 4) (.sq (.loc 0)) b_17_0) k_17_1)) C ls h := rfl
theorem u_b_18_0 : evB xf gl X sub fuel b_18_0 C ls h = evB xf gl X sub fuel (.cons (.ite (.cmp .eq (.bin .band (.bin .shr (.loc 1) (.loc 3)) (.con (D.int 1))) (.con (D.int 1))) (.cons (.asg (.loc 2) (.bin .mod (.bif .int (.cons (.bin .mul (.loc 2) (.loc 0)) .nil)) (.call 12 .nil))) .nil) .nil) (.cons (.asg (.loc 0) (.bin .mod (.bif .int (.cons (.bin .mul (.loc 0) (.loc 0)) .nil)) (.call 12 .nil))) .nil)) C ls h := rfl
theorem u_k_18_1 : evB xf gl X sub fuel k_18_1 C ls h = evB xf gl X sub fuel (.cons (.ret (.loc 2)) .nil) C ls h := rfl
theorem u_B_18 : evB xf gl X sub fuel B_18 C ls h = evB xf gl X sub fuel (.cons (.asg (.loc 2) (.con (D.int 1))) (.cons (.for (.loc 3) (.rng1 (.con (D.int 64))) b_18_0) k_18_1)) C ls h := rfl
theorem u_e_19_0 : evE C gl e_19_0 ls h = evE C gl (.call 13 (.cons (.loc 1) (.cons (.call 12 .nil) .nil))) ls h := rfl
theorem u_e_19_1 : evE C gl e_19_1 ls h = evE C gl (.call 14 (.cons (.loc 1) (.cons (.loc 2) .nil))) ls h := rfl
theorem u_e_19_2 : evE C gl e_19_2 ls h = evE C gl (.call 14 (.cons (.loc 1) (.cons (.loc 2) .nil))) ls h := rfl
theorem u_e_19_3 : evE C gl e_19_3 ls h = evE C gl (.call 13 (.cons (.loc 1) (.cons (.call 12 .nil) .nil))) ls h := rfl
theorem u_b_19_4 : evB xf gl X sub fuel b_19_4 C ls h = evB xf gl X sub fuel (.cons (.ite (.cmp .mem (.loc 10) (.loc 9)) (.cons (.asg (.loc 8) (.bin .add (.loc 8) (.lst (.cons (.loc 10) .nil)))) (.cons (.ex (.rem (.loc 9) (.cons (.loc 10) .nil))) .nil)) .nil) .nil) C ls h := rfl
theorem u_e_19_5 : evE C gl e_19_5 ls h = evE C gl (.bin .mod (.bif .int (.cons (.bin .mul (.loc 12) (.loc 11)) .nil)) (.call 12 .nil)) ls h := rfl
theorem u_k_19_6 : evB xf gl X sub fuel k_19_6 C ls h = evB xf gl X sub fuel (.cons (.ite (.not (.call 15 (.cons (.call 10 (.cons (.call 16 (.cons (.loc 4) .nil)) (.cons (.call 16 (.cons (.loc 5) .nil)) .nil))) (.cons (.call 16 (.cons (.bif .sorted (.cons (.loc 8) .nil)) .nil)) .nil)))) (.cons (.ret (.con (D.bl false))) .nil) .nil) (.cons (.asg (.loc 11) (.call 18 (.cons (.idx (.loc 6) (.neg (.con (D.int 1)))) (.cons (.bin .sub (.call 12 .nil) (.con (D.int 2))) .nil)))) (.cons (.ret (.and (.cmp .eq (.call 10 (.cons (.tup .nil) (.cons (.tup .nil) .nil))) (.tup .nil)) (.cmp .eq (.call 10 (.cons (.loc 6) (.cons (.tup .nil) .nil))) (.bif .tuple (.cons (.comp e_19_5 (.loc 12) (.sq (.loc 6)) .nil [12]) .nil))))) .nil))) C ls h := rfl
theorem u_B_19 : evB xf gl X sub fuel B_19 C ls h = evB xf gl X sub fuel (.cons (.asg (.loc 1) (.mk (.lst (.cons (.loc 0) (.cons (.con (D.int 0)) (.cons (.con (D.int 10706)) (.cons (.con (D.int 0)) .nil))))))) (.cons (.asg (.loc 2) (.bin .add (.lst (.cons (.con (D.int 0)) (.cons (.con (D.int 1)) (.cons (.bin .sub (.call 12 .nil) (.con (D.int 1))) .nil)))) (.comp e_19_0 (.loc 3) (.rng1 (.con (D.int 6))) .nil [3]))) (.cons (.asg (.loc 4) (.comp e_19_1 (.loc 3) (.rng1 (.call 13 (.cons (.loc 1) (.cons (.con (D.int 9)) .nil)))) .nil [3])) (.cons (.asg (.loc 5) (.comp e_19_2 (.loc 3) (.rng1 (.call 13 (.cons (.loc 1) (.cons (.con (D.int 9)) .nil)))) .nil [3])) (.cons (.ite (.not (.call 15 (.cons (.lst (.cons (.call 7 (.cons (.bif .tuple (.cons (.loc 4) .nil)) .nil)) (.cons (.call 7 (.cons (.bif .tuple (.cons (.loc 5) .nil)) .nil)) .nil))) (.cons (.lst (.cons (.call 16 (.cons (.loc 4) .nil)) (.cons (.call 16 (.cons (.loc 5) .nil)) .nil))) .nil)))) (.cons (.ret (.con (D.bl false))) .nil) .nil) (.cons (.asg (.loc 6) (.bif .tuple (.cons (.bin .add (.comp e_19_3 (.loc 3) (.rng1 (.call 13 (.cons (.loc 1) (.cons (.con (D.int 12)) .nil)))) .nil [3]) (.lst (.cons (.bin .add (.con (D.int 1)) (.call 13 (.cons (.loc 1) (.cons (.bin .sub (.call 12 .nil) (.con (D.int 1))) .nil)))) .nil))) .nil))) (.cons (.asg (.loc 7) (.call 14 (.cons (.loc 1) (.cons (.loc 2) .nil)))) (.cons (.ite (.not (.call 15 (.cons (.lst (.cons (.call 11 (.cons (.loc 6) (.cons (.loc 7) .nil))) (.cons (.call 11 (.cons (.tup .nil) (.cons (.loc 7) .nil))) .nil))) (.cons (.lst (.cons (.call 17 (.cons (.loc 6) (.cons (.loc 7) .nil))) (.cons (.con (D.int 0)) .nil))) .nil)))) (.cons (.ret (.con (D.bl false))) .nil) .nil) (.cons (.par (.cons (.loc 8) (.cons (.loc 9) .nil)) (.cons (.lst .nil) (.cons (.mk (.bif .list (.cons (.loc 5) .nil))) .nil))) (.cons (.for (.loc 10) (.sq (.loc 4)) b_19_4) k_19_6)))))))))) C ls h := rfl
theorem xx_0 : X2F 0 [] = some .non := rfl
theorem xs_0_0 : anySub subF 0 [0] = some true := rfl
theorem xh_0_0 {d : D} : hotC xfF subF 0 d 0 [] h = .ok (.bl true) h := rfl
theorem xs_0_1 : anySub subF 0 [1] = some false := rfl
theorem xh_0_1 {d : D} : hotC xfF subF 0 d 1 [] h = .ok (.bl false) h := rfl
theorem xs_0_2 : anySub subF 0 [2] = some false := rfl
theorem xh_0_2 {d : D} : hotC xfF subF 0 d 2 [] h = .ok (.bl false) h := rfl
theorem xx_1 : X2F 1 [] = some .non := rfl
theorem xs_1_0 : anySub subF 1 [0] = some true := rfl
theorem xh_1_0 {d : D} : hotC xfF subF 1 d 0 [] h = .ok (.bl true) h := rfl
theorem xs_1_1 : anySub subF 1 [1] = some true := rfl
theorem xh_1_1 {d : D} : hotC xfF subF 1 d 1 [] h = .ok (.bl true) h := rfl
theorem xs_1_2 : anySub subF 1 [2] = some false := rfl
theorem xh_1_2 {d : D} : hotC xfF subF 1 d 2 [] h = .ok (.bl false) h := rfl
theorem xx_2 : X2F 2 [] = some .non := rfl
theorem xs_2_0 : anySub subF 2 [0] = some true := rfl
theorem xh_2_0 {d : D} : hotC xfF subF 2 d 0 [] h = .ok (.bl true) h := rfl
theorem xs_2_1 : anySub subF 2 [1] = some false := rfl
theorem xh_2_1 {d : D} : hotC xfF subF 2 d 1 [] h = .ok (.bl false) h := rfl
theorem xs_2_2 : anySub subF 2 [2] = some true := rfl
theorem xh_2_2 {d : D} : hotC xfF subF 2 d 2 [] h = .ok (.bl true) h := rfl
end
end EV

namespace EV
open PySem
local macro_rules
  | `(tactic| push_cast [$xs,*]) => `(tactic| simp -implicitDefEqProofs only [$xs,*, an_ok, an_err, an_stk, aS_ok, aS_err, aS_stk, sq_nx, sq_stk, sq_err, sq_ret, sq_bk, sq_ct, tn_nx, tn_stk, tn_err, tn_ret, tn_bk, tn_ct, cnd_t, cnd_f, ofO_some, chkL_0, chkL_1, chkL_2, chkL_3, chkL_4, chkL_5, chkL_6, chkL_7, chkL_8, chkL_9, chkL_10, chkL_11, chkL_12, chkL_13, chkL_14, chkL_15, chkL_16, chkL_17, chkL_18, chkL_19, chkL_20, x_loc0, x_loc1, x_loc2, x_loc3, x_loc4, x_loc5, x_loc6, x_loc7, x_loc8, x_loc9, x_loc10, x_loc11, x_loc12, x_con, x_fnv, x_nil, x_cons, x_tup, x_lst, mkR_lst, x_mk, x_bin, cmR_some, x_cmp, isT_t, x_chn, ngR_int, x_neg, x_not, x_and, x_or, x_ite, x_idx, x_pnil, inR_int, x_pcons, x_slc, x_call, x_bif, x_met, x_isi, x_rem, x_six, x_joi, strM_s, sixM_s, joinM_s, joinV_l, joinV_t, mpO_s, x_comp, lsT_some, x_cnil, x_ccons, x_lrn, wipe_nil, x_rng1, x_rng2, x_rng3, reR_l, reR_t, x_rev, enR_l, enR_t, x_enm, zpR_l, zpR_t, x_zip, sqR_lst, sqR_tup, sqR_str, x_sq, der_non, der_bl, der_int, der_str, der_tup, der_lst, der_0, v_add, v_bxor, v_band, v_sub, c_eq, c_ne, c_lt, c_le, c_gt, c_ge, c_eqS, c_neS, c_eqB, c_neB, eqL_nn, eqL_cn, c_isN, c_isnN, tr_bl, tr_int, tr_tup, tr_lst, tr_non, ix_tup, ix_lst, sl_tup, sl_lst, mp_nil, mp_cons, b_lenT, b_lenL, b_int, b_intB, b_abs, b_max, b_min, b_tupL, b_tupT, b_lstL, b_lstT, is_int, is_bl, is_str, is_tup, is_lst, is_non, ty_int_int, ty_bool_int, ty_str_int, ty_tuple_int, ty_list_int, ty_dict_int, ty_int_bool, ty_bool_bool, ty_str_bool, ty_tuple_bool, ty_list_bool, ty_dict_bool, ty_int_str, ty_bool_str, ty_str_str, ty_tuple_str, ty_list_str, ty_dict_str, ty_int_tuple, ty_bool_tuple, ty_str_tuple, ty_tuple_tuple, ty_list_tuple, ty_dict_tuple, ty_int_list, ty_bool_list, ty_str_list, ty_tuple_list, ty_list_list, ty_dict_list, ty_int_dict, ty_bool_dict, ty_str_dict, ty_tuple_dict, ty_list_dict, ty_dict_dict, ty_tl_int, ty_tl_bool, ty_tl_str, ty_tl_tuple, ty_tl_list, ty_tl_dict, s_nil, s_cons, bdR_some, s_asg, s_par, t_tup, t_nil, s_setx, s_augx, s_unp, unp_lst, s_ex, s_ret, s_retN, s_ite, s_whl, s_for, for_nil, s_forE, s_brk, s_cnt, s_pas, rsR_some, s_rse, tr_nx, tr_stk, tr_err, tr_ret, tr_bk, tr_ct, us_nx, us_nx0, us_ret, prR_some, pre_none, cat3_t, cat3_f, s_try, t_loc0, t_cons0, x_clv0, s_aug0, pre0, set0, t_loc1, t_cons1, x_clv1, s_aug1, pre1, set1, t_loc2, t_cons2, x_clv2, s_aug2, pre2, set2, t_loc3, t_cons3, x_clv3, s_aug3, pre3, set3, t_loc4, t_cons4, x_clv4, s_aug4, pre4, set4, t_loc5, t_cons5, x_clv5, s_aug5, pre5, set5, t_loc6, t_cons6, x_clv6, s_aug6, pre6, set6, t_loc7, t_cons7, x_clv7, s_aug7, pre7, set7, t_loc8, t_cons8, x_clv8, s_aug8, pre8, set8, t_loc9, t_cons9, x_clv9, s_aug9, pre9, set9, t_loc10, t_cons10, x_clv10, s_aug10, pre10, set10, t_loc11, t_cons11, x_clv11, s_aug11, pre11, set11, t_loc12, t_cons12, x_clv12, s_aug12, pre12, set12, g_add, g_bxor, g_band, g_sub, der_row, row_0, row_1, row_2, row_3, row_s1, row_s2, row_s3, tl_der, tl_chk, tl_get, xg_0, xg_1, u_B_0, u_c_1_0, u_b_1_1, u_k_1_2, u_B_1, u_B_2, u_f_3_0, u_e_3_1, u_B_3, u_B_4, u_c_5_0, u_b_5_1, u_k_5_2, u_B_5, u_b_6_0, u_k_6_1, u_B_6, u_f_7_0, u_e_7_1, u_b_7_2, u_k_7_3, u_b_7_4, u_k_7_5, u_B_7, u_b_8_0, u_b_8_1, u_k_8_2, u_B_8, u_c_9_0, u_b_9_1, u_e_9_2, u_k_9_3, u_B_9, u_B_10, u_B_11, u_B_12, u_B_13, u_B_14, u_f_15_0, u_e_15_1, u_B_15, u_e_16_0, u_b_16_1, u_k_16_2, u_B_16, u_b_17_0, u_k_17_1, u_B_17, u_b_18_0, u_k_18_1, u_B_18, u_e_19_0, u_e_19_1, u_e_19_2, u_e_19_3, u_b_19_4, u_e_19_5, u_k_19_6, u_B_19, xx_0, xs_0_0, xh_0_0, xs_0_1, xh_0_1, xs_0_2, xh_0_2, xx_1, xs_1_0, xh_1_0, xs_1_1, xh_1_1, xs_1_2, xh_1_2, xx_2, xs_2_0, xh_2_0, xs_2_1, xh_2_1, xs_2_2, xh_2_2, decide_true, decide_false, Bool.not_true, Bool.not_false, beq_self_eq_true, eq_self, List.length_map])
section
variable {fuel n : Nat} {r : Rw} {R : List O} {los : List Nat} {m : Int}
variable {P : List O}
theorem v10_18 : binV .pow (.int 10) (.int 18) = some (.int 1000000000000000000) := by rfl
theorem t_13 (h0 : 0 < m) (h1 : m < 18446744073709551616) (hr : 0 ≤ r.ix) : evF GF xfF glF X2F subF fuel (n + 1) 13 [.ref 0, .int m] ⟨rowO r :: R, los⟩ = .ok (.int (taken r m).1) ⟨rowO (taken r m).2 :: R, los⟩ := by
  rw [r_13]
  have hf : ∀ i, binV .fdiv (.int i) (.int m) = some (.int (i / m)) := fun i => v_fdiv h0 (bits_lt h0 h1)
  have hm : ∀ i, binV .mod (.int i) (.int m) = some (.int (i % m)) := fun i => v_mod h0
  have h7 : ∀ i, binV .fdiv (.int i) (.int 7) = some (.int (i / 7)) := fun i => v_fdiv (by decide) (by decide)
  have hp : ∀ i, binV .mod (.int i) (.int 2147483647) = some (.int (i % 2147483647)) := fun i => v_mod (by decide)
  have hx : ∀ i, binV .mul (.int i) (.int 48271) = some (.int (i * 48271)) := fun i => v_mulR (by decide) (by decide)
  by_cases c1 : 0 < r.mo
  · push_cast [c1, decide_true, hm, hf]
    rw [fin_ret rfl, take_self]
    unfold taken
    rw [if_pos c1]
  · by_cases c2 : (r.ns.length : Int) < r.ix + 1
    · push_cast [c1, c2, decide_true, decide_false, hm, h7, hp, hx, List.length_map]
      rw [fin_ret rfl, take_self]
      unfold taken
      rw [if_neg c1, if_pos c2]
    · have hc := at_cell hr c2
      by_cases c3 : 1000000000000000000 ≤ cellA r
      · push_cast [c1, c2, c3, decide_true, decide_false, hm, hf, hp, hx, List.length_map, Int.add_sub_cancel, hc, v10_18]
        rw [fin_ret rfl, take_self]
        unfold taken
        rw [if_neg c1, if_neg c2, if_pos c3]
      · push_cast [c1, c2, c3, decide_true, decide_false, hm, hf, hp, hx, List.length_map, Int.add_sub_cancel, hc, v10_18]
        rw [fin_ret rfl, take_self]
        unfold taken
        rw [if_neg c1, if_neg c2, if_neg c3]
theorem t_13e (h0 : 0 < m) (h1 : m < 18446744073709551616) (hr : 0 ≤ r.ix) : ∃ v r', evF GF xfF glF X2F subF fuel (n + 1) 13 [.ref 0, .int m] ⟨rowO r :: R, los⟩ = .ok (.int v) ⟨rowO r' :: R, los⟩ ∧ 0 ≤ v ∧ v < m ∧ 0 ≤ r'.ix :=
  ⟨_, _, t_13 h0 h1 hr, taken_lo h0, taken_hi h0, taken_ix hr⟩
theorem small_nat {b : Int} (h0 : 0 ≤ b) (h1 : b < 1000000) : small62 b = true := by
  unfold small62
  rw [Bool.and_eq_true]
  exact ⟨decide_eq_true (by omega), decide_eq_true (by omega)⟩
theorem t_14 {l : List D} {Q : D → Prop} (hl : 0 < l.length) (hl2 : l.length < 1000000) (hq : ∀ d ∈ l, okD d = true ∧ Q d) (hr : 0 ≤ r.ix) : ∃ d r', evF GF xfF glF X2F subF fuel (n + 2) 14 [.ref 0, .lst l] ⟨rowO r :: R, los⟩ = .ok d ⟨rowO r' :: R, los⟩ ∧ Q d ∧ 0 ≤ r'.ix := by
  obtain ⟨a, r1, e1, a0, a1, q1⟩ := t_13e (fuel := fuel) (n := n) (r := r) (R := R) (los := (rowO r :: R).length :: los) (m := l.length) (by omega) (by omega) hr
  rw [r_14]
  have ha : a.toNat < l.length := by omega
  have hm := List.getElem_mem ha
  push_cast [e1, at_nat (l := l) (i := a) (k := a.toNat) (by omega) ha, List.getElem?_eq_getElem ha]
  refine ⟨_, r1, by rw [fin_ret (hq _ hm).1, take_self], (hq _ hm).2, q1⟩
def Oct (d : D) : Prop := ∃ v : Int, d = .int v ∧ 0 ≤ v ∧ v ≤ 255
end
end EV

namespace EV
open PySem
local macro_rules
  | `(tactic| push_cast [$xs,*]) => `(tactic| simp -implicitDefEqProofs only [$xs,*, an_ok, an_err, an_stk, aS_ok, aS_err, aS_stk, sq_nx, sq_stk, sq_err, sq_ret, sq_bk, sq_ct, tn_nx, tn_stk, tn_err, tn_ret, tn_bk, tn_ct, cnd_t, cnd_f, ofO_some, chkL_0, chkL_1, chkL_2, chkL_3, chkL_4, chkL_5, chkL_6, chkL_7, chkL_8, chkL_9, chkL_10, chkL_11, chkL_12, chkL_13, chkL_14, chkL_15, chkL_16, chkL_17, chkL_18, chkL_19, chkL_20, x_loc0, x_loc1, x_loc2, x_loc3, x_loc4, x_loc5, x_loc6, x_loc7, x_loc8, x_loc9, x_loc10, x_loc11, x_loc12, x_con, x_fnv, x_nil, x_cons, x_tup, x_lst, mkR_lst, x_mk, x_bin, cmR_some, x_cmp, isT_t, x_chn, ngR_int, x_neg, x_not, x_and, x_or, x_ite, x_idx, x_pnil, inR_int, x_pcons, x_slc, x_call, x_bif, x_met, x_isi, x_rem, x_six, x_joi, strM_s, sixM_s, joinM_s, joinV_l, joinV_t, mpO_s, x_comp, lsT_some, x_cnil, x_ccons, x_lrn, wipe_nil, x_rng1, x_rng2, x_rng3, reR_l, reR_t, x_rev, enR_l, enR_t, x_enm, zpR_l, zpR_t, x_zip, sqR_lst, sqR_tup, sqR_str, x_sq, der_non, der_bl, der_int, der_str, der_tup, der_lst, der_0, v_add, v_bxor, v_band, v_sub, c_eq, c_ne, c_lt, c_le, c_gt, c_ge, c_eqS, c_neS, c_eqB, c_neB, eqL_nn, eqL_cn, c_isN, c_isnN, tr_bl, tr_int, tr_tup, tr_lst, tr_non, ix_tup, ix_lst, sl_tup, sl_lst, mp_nil, mp_cons, b_lenT, b_lenL, b_int, b_intB, b_abs, b_max, b_min, b_tupL, b_tupT, b_lstL, b_lstT, is_int, is_bl, is_str, is_tup, is_lst, is_non, ty_int_int, ty_bool_int, ty_str_int, ty_tuple_int, ty_list_int, ty_dict_int, ty_int_bool, ty_bool_bool, ty_str_bool, ty_tuple_bool, ty_list_bool, ty_dict_bool, ty_int_str, ty_bool_str, ty_str_str, ty_tuple_str, ty_list_str, ty_dict_str, ty_int_tuple, ty_bool_tuple, ty_str_tuple, ty_tuple_tuple, ty_list_tuple, ty_dict_tuple, ty_int_list, ty_bool_list, ty_str_list, ty_tuple_list, ty_list_list, ty_dict_list, ty_int_dict, ty_bool_dict, ty_str_dict, ty_tuple_dict, ty_list_dict, ty_dict_dict, ty_tl_int, ty_tl_bool, ty_tl_str, ty_tl_tuple, ty_tl_list, ty_tl_dict, s_nil, s_cons, bdR_some, s_asg, s_par, t_tup, t_nil, s_setx, s_augx, s_unp, unp_lst, s_ex, s_ret, s_retN, s_ite, s_whl, s_for, for_nil, s_forE, s_brk, s_cnt, s_pas, rsR_some, s_rse, tr_nx, tr_stk, tr_err, tr_ret, tr_bk, tr_ct, us_nx, us_nx0, us_ret, prR_some, pre_none, cat3_t, cat3_f, s_try, t_loc0, t_cons0, x_clv0, s_aug0, pre0, set0, t_loc1, t_cons1, x_clv1, s_aug1, pre1, set1, t_loc2, t_cons2, x_clv2, s_aug2, pre2, set2, t_loc3, t_cons3, x_clv3, s_aug3, pre3, set3, t_loc4, t_cons4, x_clv4, s_aug4, pre4, set4, t_loc5, t_cons5, x_clv5, s_aug5, pre5, set5, t_loc6, t_cons6, x_clv6, s_aug6, pre6, set6, t_loc7, t_cons7, x_clv7, s_aug7, pre7, set7, t_loc8, t_cons8, x_clv8, s_aug8, pre8, set8, t_loc9, t_cons9, x_clv9, s_aug9, pre9, set9, t_loc10, t_cons10, x_clv10, s_aug10, pre10, set10, t_loc11, t_cons11, x_clv11, s_aug11, pre11, set11, t_loc12, t_cons12, x_clv12, s_aug12, pre12, set12, g_add, g_bxor, g_band, g_sub, der_row, row_0, row_1, row_2, row_3, row_s1, row_s2, row_s3, tl_der, tl_chk, tl_get, xg_0, xg_1, u_B_0, u_c_1_0, u_b_1_1, u_k_1_2, u_B_1, u_B_2, u_f_3_0, u_e_3_1, u_B_3, u_B_4, u_c_5_0, u_b_5_1, u_k_5_2, u_B_5, u_b_6_0, u_k_6_1, u_B_6, u_f_7_0, u_e_7_1, u_b_7_2, u_k_7_3, u_b_7_4, u_k_7_5, u_B_7, u_b_8_0, u_b_8_1, u_k_8_2, u_B_8, u_c_9_0, u_b_9_1, u_e_9_2, u_k_9_3, u_B_9, u_B_10, u_B_11, u_B_12, u_B_13, u_B_14, u_f_15_0, u_e_15_1, u_B_15, u_e_16_0, u_b_16_1, u_k_16_2, u_B_16, u_b_17_0, u_k_17_1, u_B_17, u_b_18_0, u_k_18_1, u_B_18, u_e_19_0, u_e_19_1, u_e_19_2, u_e_19_3, u_b_19_4, u_e_19_5, u_k_19_6, u_B_19, xx_0, xs_0_0, xh_0_0, xs_0_1, xh_0_1, xs_0_2, xh_0_2, xx_1, xs_1_0, xh_1_0, xs_1_1, xh_1_1, xs_1_2, xh_1_2, xx_2, xs_2_0, xh_2_0, xs_2_1, xh_2_1, xs_2_2, xh_2_2, decide_true, decide_false, Bool.not_true, Bool.not_false, beq_self_eq_true, eq_self, List.length_map])
section
variable {fuel n : Nat} {P : List O} {los : List Nat}
def AL (fuel n : Nat) (d : D) : Prop := ∀ (P : List O) (los : List Nat), evF GF xfF glF X2F subF fuel n 15 [d, d] ⟨P, los⟩ = .ok (.bl true) ⟨P, los⟩
theorem al_int (i : Int) : AL fuel (n + 1) (.int i) := fun P los => by
  rw [r_15]
  push_cast [an_ok]
  rw [fin_ret rfl, List.take_length]
theorem al_str (x : List Nat) : AL fuel (n + 1) (.str x) := fun P los => by
  rw [r_15]
  push_cast [an_ok]
  rw [fin_ret rfl, List.take_length]
theorem al_tup {l : List D} (hl : ∀ d ∈ l, AL fuel n d) (hs : l.length < 1000000) : AL fuel (n + 1) (.tup l) := fun P los => by
  rw [r_15]
  push_cast [rgR_int (small_nat (b := (l.length : Int)) (by omega) (by omega))]
  unfold cmpr
  rw [q_cnone fun d hd => ?_]
  · push_cast [c_eqL (l := []) (m := []) rfl rfl]
    rw [fin_ret rfl, List.take_length]
  · obtain ⟨k, hk, rfl⟩ := q_range hd
    have hk' : k < l.length := by omega
    rw [ctn_eq]
    push_cast [wipeL, Int.zero_add, at_nat (l := l) (i := (k : Int)) rfl hk', List.getElem?_eq_getElem hk', hl _ (List.getElem_mem hk') P (P.length :: los)]
theorem al_ns {os : List Nat} (h : os.length < 1000000) : AL fuel (n + 2) (.tup (os.map dn)) := al_tup (fun d hd => by
  obtain ⟨o, _, rfl⟩ := List.mem_map.mp hd
  exact al_int _) (by rw [List.length_map]; exact h)
theorem t_0 {v a b : Int} : evF GF xfF glF X2F subF fuel (n + 1) 0 [.int v, .int a, .int b] ⟨P, los⟩ = .ok (.bl (decide (a ≤ v) && decide (v ≤ b))) ⟨P, los⟩ := by
  rw [r_0]
  by_cases c1 : a ≤ v
  · push_cast [c1, Bool.true_and]
    rw [fin_ret rfl, List.take_length]
  · push_cast [c1, Bool.false_and]
    rw [fin_ret rfl, List.take_length]
end
end EV

namespace EV
open PySem
local macro_rules
  | `(tactic| push_cast [$xs,*]) => `(tactic| simp -implicitDefEqProofs only [$xs,*, an_ok, an_err, an_stk, aS_ok, aS_err, aS_stk, sq_nx, sq_stk, sq_err, sq_ret, sq_bk, sq_ct, tn_nx, tn_stk, tn_err, tn_ret, tn_bk, tn_ct, cnd_t, cnd_f, ofO_some, chkL_0, chkL_1, chkL_2, chkL_3, chkL_4, chkL_5, chkL_6, chkL_7, chkL_8, chkL_9, chkL_10, chkL_11, chkL_12, chkL_13, chkL_14, chkL_15, chkL_16, chkL_17, chkL_18, chkL_19, chkL_20, x_loc0, x_loc1, x_loc2, x_loc3, x_loc4, x_loc5, x_loc6, x_loc7, x_loc8, x_loc9, x_loc10, x_loc11, x_loc12, x_con, x_fnv, x_nil, x_cons, x_tup, x_lst, mkR_lst, x_mk, x_bin, cmR_some, x_cmp, isT_t, x_chn, ngR_int, x_neg, x_not, x_and, x_or, x_ite, x_idx, x_pnil, inR_int, x_pcons, x_slc, x_call, x_bif, x_met, x_isi, x_rem, x_six, x_joi, strM_s, sixM_s, joinM_s, joinV_l, joinV_t, mpO_s, x_comp, lsT_some, x_cnil, x_ccons, x_lrn, wipe_nil, x_rng1, x_rng2, x_rng3, reR_l, reR_t, x_rev, enR_l, enR_t, x_enm, zpR_l, zpR_t, x_zip, sqR_lst, sqR_tup, sqR_str, x_sq, der_non, der_bl, der_int, der_str, der_tup, der_lst, der_0, v_add, v_bxor, v_band, v_sub, c_eq, c_ne, c_lt, c_le, c_gt, c_ge, c_eqS, c_neS, c_eqB, c_neB, eqL_nn, eqL_cn, c_isN, c_isnN, tr_bl, tr_int, tr_tup, tr_lst, tr_non, ix_tup, ix_lst, sl_tup, sl_lst, mp_nil, mp_cons, b_lenT, b_lenL, b_int, b_intB, b_abs, b_max, b_min, b_tupL, b_tupT, b_lstL, b_lstT, is_int, is_bl, is_str, is_tup, is_lst, is_non, ty_int_int, ty_bool_int, ty_str_int, ty_tuple_int, ty_list_int, ty_dict_int, ty_int_bool, ty_bool_bool, ty_str_bool, ty_tuple_bool, ty_list_bool, ty_dict_bool, ty_int_str, ty_bool_str, ty_str_str, ty_tuple_str, ty_list_str, ty_dict_str, ty_int_tuple, ty_bool_tuple, ty_str_tuple, ty_tuple_tuple, ty_list_tuple, ty_dict_tuple, ty_int_list, ty_bool_list, ty_str_list, ty_tuple_list, ty_list_list, ty_dict_list, ty_int_dict, ty_bool_dict, ty_str_dict, ty_tuple_dict, ty_list_dict, ty_dict_dict, ty_tl_int, ty_tl_bool, ty_tl_str, ty_tl_tuple, ty_tl_list, ty_tl_dict, s_nil, s_cons, bdR_some, s_asg, s_par, t_tup, t_nil, s_setx, s_augx, s_unp, unp_lst, s_ex, s_ret, s_retN, s_ite, s_whl, s_for, for_nil, s_forE, s_brk, s_cnt, s_pas, rsR_some, s_rse, tr_nx, tr_stk, tr_err, tr_ret, tr_bk, tr_ct, us_nx, us_nx0, us_ret, prR_some, pre_none, cat3_t, cat3_f, s_try, t_loc0, t_cons0, x_clv0, s_aug0, pre0, set0, t_loc1, t_cons1, x_clv1, s_aug1, pre1, set1, t_loc2, t_cons2, x_clv2, s_aug2, pre2, set2, t_loc3, t_cons3, x_clv3, s_aug3, pre3, set3, t_loc4, t_cons4, x_clv4, s_aug4, pre4, set4, t_loc5, t_cons5, x_clv5, s_aug5, pre5, set5, t_loc6, t_cons6, x_clv6, s_aug6, pre6, set6, t_loc7, t_cons7, x_clv7, s_aug7, pre7, set7, t_loc8, t_cons8, x_clv8, s_aug8, pre8, set8, t_loc9, t_cons9, x_clv9, s_aug9, pre9, set9, t_loc10, t_cons10, x_clv10, s_aug10, pre10, set10, t_loc11, t_cons11, x_clv11, s_aug11, pre11, set11, t_loc12, t_cons12, x_clv12, s_aug12, pre12, set12, g_add, g_bxor, g_band, g_sub, der_row, row_0, row_1, row_2, row_3, row_s1, row_s2, row_s3, tl_der, tl_chk, tl_get, xg_0, xg_1, u_B_0, u_c_1_0, u_b_1_1, u_k_1_2, u_B_1, u_B_2, u_f_3_0, u_e_3_1, u_B_3, u_B_4, u_c_5_0, u_b_5_1, u_k_5_2, u_B_5, u_b_6_0, u_k_6_1, u_B_6, u_f_7_0, u_e_7_1, u_b_7_2, u_k_7_3, u_b_7_4, u_k_7_5, u_B_7, u_b_8_0, u_b_8_1, u_k_8_2, u_B_8, u_c_9_0, u_b_9_1, u_e_9_2, u_k_9_3, u_B_9, u_B_10, u_B_11, u_B_12, u_B_13, u_B_14, u_f_15_0, u_e_15_1, u_B_15, u_e_16_0, u_b_16_1, u_k_16_2, u_B_16, u_b_17_0, u_k_17_1, u_B_17, u_b_18_0, u_k_18_1, u_B_18, u_e_19_0, u_e_19_1, u_e_19_2, u_e_19_3, u_b_19_4, u_e_19_5, u_k_19_6, u_B_19, xx_0, xs_0_0, xh_0_0, xs_0_1, xh_0_1, xs_0_2, xh_0_2, xx_1, xs_1_0, xh_1_0, xs_1_1, xh_1_1, xs_1_2, xh_1_2, xx_2, xs_2_0, xh_2_0, xs_2_1, xh_2_1, xs_2_2, xh_2_2, decide_true, decide_false, Bool.not_true, Bool.not_false, beq_self_eq_true, eq_self, List.length_map])
theorem set_mid {A B : List Nat} {b v : Nat} : ((A ++ b :: B).map dn).set A.length (.int v) = ((A ++ v :: B).map dn) := by
  rw [List.map_append, List.set_append_right _ _ (by rw [List.length_map]; exact Nat.le_refl _), List.length_map, Nat.sub_self, List.map_append]
  rfl
theorem at_mid {A B : List Nat} {b : Nat} {i : Int} (e : i = (A.length : Int)) : atIx ((A ++ b :: B).map dn) i = some (.int b) := at_dn e (by
  rw [List.getElem?_append_right (Nat.le_refl _), Nat.sub_self]
  rfl)
theorem depL_dn : ∀ l : List Nat, depL (l.map dn) = 0
  | [] => rfl
  | a :: r => by
    show Nat.max 0 (depL (r.map dn)) = 0
    rw [depL_dn r]
    rfl
theorem dat_dn (l : List Nat) : datD (.lst (l.map dn)) = true := by
  show (okL (l.map dn) && decide (depL (l.map dn) + 1 ≤ 60)) = true
  rw [okL_dn, depL_dn]
  rfl
theorem datT_dn (l : List Nat) : datD (.tup (l.map dn)) = true := by
  show (okL (l.map dn) && decide (depL (l.map dn) + 1 ≤ 60)) = true
  rw [okL_dn, depL_dn]
  rfl
theorem eqL_dn : ∀ a b : List Nat, eqL (a.map dn) (b.map dn) = decide (a = b)
  | [], [] => rfl
  | [], _ :: _ => rfl
  | _ :: _, [] => rfl
  | x :: a, y :: b => by
    show (eqD (.int x) (.int y) && eqL (a.map dn) (b.map dn)) = _
    rw [eqL_dn a b]
    show (((x : Int) == (y : Int)) && decide (a = b)) = _
    by_cases c : x = y
    · subst c
      by_cases c2 : a = b
      · subst c2
        simp
      · rw [decide_eq_false c2, decide_eq_false (fun z => c2 (List.cons.inj z).2), Bool.and_false]
    · rw [decide_eq_false (fun z => c (List.cons.inj z).1)]
      have : ((x : Int) == (y : Int)) = false := by
        rw [beq_eq_false_iff_ne]
        omega
      rw [this]
      rfl
theorem c_eqN {a b : List Nat} : cmpV .eq (.lst (a.map dn)) (.lst (b.map dn)) = some (decide (a = b)) := by
  rw [c_eqL (dat_dn a) (dat_dn b), eqL_dn]
theorem c_neN {a b : List Nat} : cmpV .ne (.lst (a.map dn)) (.lst (b.map dn)) = some (!decide (a = b)) := by
  show (cmpV .eq (.lst (a.map dn)) (.lst (b.map dn))).map not = _
  rw [c_eqN]
  rfl
theorem c_neNT {a b : List Nat} : cmpV .ne (.tup (a.map dn)) (.tup (b.map dn)) = some (!decide (a = b)) := by
  show (cmpV .eq (.tup (a.map dn)) (.tup (b.map dn))).map not = _
  rw [c_eqT (datT_dn a) (datT_dn b), eqL_dn]
  rfl
theorem v_addN {a b : List Nat} (h : a.length + b.length ≤ sizeL) : binV .add (.tup (a.map dn)) (.tup (b.map dn)) = some (.tup ((a ++ b).map dn)) := by
  rw [v_addT (by rw [List.length_map, List.length_map]; exact h), List.map_append]
theorem v_addNL {a b : List Nat} (h : a.length + b.length ≤ sizeL) : binV .add (.lst (a.map dn)) (.lst (b.map dn)) = some (.lst ((a ++ b).map dn)) := by
  rw [v_addL (by rw [List.length_map, List.length_map]; exact h), List.map_append]
theorem v_add1 {a : List Nat} {z : Nat} (h : a.length < sizeL) : binV .add (.tup (a.map dn)) (.tup [.int z]) = some (.tup ((a ++ [z]).map dn)) := v_addN (b := [z]) h
theorem cut_fr {os : List Nat} {i : Int} {k : Nat} (e : i = (k : Int)) (h : k ≤ os.length) : cut (os.map dn) (some i) none = (os.drop k).map dn := by
  subst e
  unfold cut
  rw [show adjIx (os.map dn).length (os.map dn).length none = (os.map dn).length from rfl, List.map_drop]
  have ha : adjIx (os.map dn).length 0 (some (k : Int)) = k := by
    simp only [adjIx, List.length_map]
    rw [if_neg (by omega)]
    split <;> omega
  rw [ha, List.take_of_length_le (by rw [List.length_drop]; exact Nat.le_refl _)]
section
variable {fuel n : Nat} {P : List O} {los : List Nat}
def Nt (d : D) : Prop := ∃ v : Nat, d = .int v ∧ v < 256
theorem nt_ints : ∀ {l : List D}, (∀ d ∈ l, Nt d) → ∃ ns : List Nat, l = ns.map dn ∧ ∀ v ∈ ns, v < 256
  | [], _ => ⟨[], rfl, fun _ z => (nomatch z)⟩
  | d :: r, e => by
    obtain ⟨v, hv, q⟩ := e d (List.mem_cons_self ..)
    obtain ⟨ns, hn, q2⟩ := nt_ints (l := r) fun d hd => e d (List.mem_cons_of_mem _ hd)
    refine ⟨v :: ns, by rw [hv, hn]; rfl, fun z hz => ?_⟩
    rcases List.mem_cons.mp hz with hz | hz
    · exact hz ▸ q
    · exact q2 z hz
theorem t_13N {r : Rw} {R : List O} (hr : 0 ≤ r.ix) : ∃ (v : Nat) (r' : Rw), evF GF xfF glF X2F subF fuel (n + 1) 13 [.ref 0, .int 256] ⟨rowO r :: R, los⟩ = .ok (.int v) ⟨rowO r' :: R, los⟩ ∧ v < 256 ∧ 0 ≤ r'.ix := by
  obtain ⟨v, r', e, v0, v1, q⟩ := t_13e (fuel := fuel) (n := n) (r := r) (R := R) (los := los) (m := 256) (by decide) (by decide) hr
  obtain ⟨k, rfl⟩ := Int.eq_ofNat_of_zero_le v0
  exact ⟨k, r', e, by omega, q⟩
end
end EV

namespace EV
open PySem
local macro_rules
  | `(tactic| push_cast [$xs,*]) => `(tactic| simp -implicitDefEqProofs only [$xs,*, an_ok, an_err, an_stk, aS_ok, aS_err, aS_stk, sq_nx, sq_stk, sq_err, sq_ret, sq_bk, sq_ct, tn_nx, tn_stk, tn_err, tn_ret, tn_bk, tn_ct, cnd_t, cnd_f, ofO_some, chkL_0, chkL_1, chkL_2, chkL_3, chkL_4, chkL_5, chkL_6, chkL_7, chkL_8, chkL_9, chkL_10, chkL_11, chkL_12, chkL_13, chkL_14, chkL_15, chkL_16, chkL_17, chkL_18, chkL_19, chkL_20, x_loc0, x_loc1, x_loc2, x_loc3, x_loc4, x_loc5, x_loc6, x_loc7, x_loc8, x_loc9, x_loc10, x_loc11, x_loc12, x_con, x_fnv, x_nil, x_cons, x_tup, x_lst, mkR_lst, x_mk, x_bin, cmR_some, x_cmp, isT_t, x_chn, ngR_int, x_neg, x_not, x_and, x_or, x_ite, x_idx, x_pnil, inR_int, x_pcons, x_slc, x_call, x_bif, x_met, x_isi, x_rem, x_six, x_joi, strM_s, sixM_s, joinM_s, joinV_l, joinV_t, mpO_s, x_comp, lsT_some, x_cnil, x_ccons, x_lrn, wipe_nil, x_rng1, x_rng2, x_rng3, reR_l, reR_t, x_rev, enR_l, enR_t, x_enm, zpR_l, zpR_t, x_zip, sqR_lst, sqR_tup, sqR_str, x_sq, der_non, der_bl, der_int, der_str, der_tup, der_lst, der_0, v_add, v_bxor, v_band, v_sub, c_eq, c_ne, c_lt, c_le, c_gt, c_ge, c_eqS, c_neS, c_eqB, c_neB, eqL_nn, eqL_cn, c_isN, c_isnN, tr_bl, tr_int, tr_tup, tr_lst, tr_non, ix_tup, ix_lst, sl_tup, sl_lst, mp_nil, mp_cons, b_lenT, b_lenL, b_int, b_intB, b_abs, b_max, b_min, b_tupL, b_tupT, b_lstL, b_lstT, is_int, is_bl, is_str, is_tup, is_lst, is_non, ty_int_int, ty_bool_int, ty_str_int, ty_tuple_int, ty_list_int, ty_dict_int, ty_int_bool, ty_bool_bool, ty_str_bool, ty_tuple_bool, ty_list_bool, ty_dict_bool, ty_int_str, ty_bool_str, ty_str_str, ty_tuple_str, ty_list_str, ty_dict_str, ty_int_tuple, ty_bool_tuple, ty_str_tuple, ty_tuple_tuple, ty_list_tuple, ty_dict_tuple, ty_int_list, ty_bool_list, ty_str_list, ty_tuple_list, ty_list_list, ty_dict_list, ty_int_dict, ty_bool_dict, ty_str_dict, ty_tuple_dict, ty_list_dict, ty_dict_dict, ty_tl_int, ty_tl_bool, ty_tl_str, ty_tl_tuple, ty_tl_list, ty_tl_dict, s_nil, s_cons, bdR_some, s_asg, s_par, t_tup, t_nil, s_setx, s_augx, s_unp, unp_lst, s_ex, s_ret, s_retN, s_ite, s_whl, s_for, for_nil, s_forE, s_brk, s_cnt, s_pas, rsR_some, s_rse, tr_nx, tr_stk, tr_err, tr_ret, tr_bk, tr_ct, us_nx, us_nx0, us_ret, prR_some, pre_none, cat3_t, cat3_f, s_try, t_loc0, t_cons0, x_clv0, s_aug0, pre0, set0, t_loc1, t_cons1, x_clv1, s_aug1, pre1, set1, t_loc2, t_cons2, x_clv2, s_aug2, pre2, set2, t_loc3, t_cons3, x_clv3, s_aug3, pre3, set3, t_loc4, t_cons4, x_clv4, s_aug4, pre4, set4, t_loc5, t_cons5, x_clv5, s_aug5, pre5, set5, t_loc6, t_cons6, x_clv6, s_aug6, pre6, set6, t_loc7, t_cons7, x_clv7, s_aug7, pre7, set7, t_loc8, t_cons8, x_clv8, s_aug8, pre8, set8, t_loc9, t_cons9, x_clv9, s_aug9, pre9, set9, t_loc10, t_cons10, x_clv10, s_aug10, pre10, set10, t_loc11, t_cons11, x_clv11, s_aug11, pre11, set11, t_loc12, t_cons12, x_clv12, s_aug12, pre12, set12, g_add, g_bxor, g_band, g_sub, der_row, row_0, row_1, row_2, row_3, row_s1, row_s2, row_s3, tl_der, tl_chk, tl_get, xg_0, xg_1, u_B_0, u_c_1_0, u_b_1_1, u_k_1_2, u_B_1, u_B_2, u_f_3_0, u_e_3_1, u_B_3, u_B_4, u_c_5_0, u_b_5_1, u_k_5_2, u_B_5, u_b_6_0, u_k_6_1, u_B_6, u_f_7_0, u_e_7_1, u_b_7_2, u_k_7_3, u_b_7_4, u_k_7_5, u_B_7, u_b_8_0, u_b_8_1, u_k_8_2, u_B_8, u_c_9_0, u_b_9_1, u_e_9_2, u_k_9_3, u_B_9, u_B_10, u_B_11, u_B_12, u_B_13, u_B_14, u_f_15_0, u_e_15_1, u_B_15, u_e_16_0, u_b_16_1, u_k_16_2, u_B_16, u_b_17_0, u_k_17_1, u_B_17, u_b_18_0, u_k_18_1, u_B_18, u_e_19_0, u_e_19_1, u_e_19_2, u_e_19_3, u_b_19_4, u_e_19_5, u_k_19_6, u_B_19, xx_0, xs_0_0, xh_0_0, xs_0_1, xh_0_1, xs_0_2, xh_0_2, xx_1, xs_1_0, xh_1_0, xs_1_1, xh_1_1, xs_1_2, xh_1_2, xx_2, xs_2_0, xh_2_0, xs_2_1, xh_2_1, xs_2_2, xh_2_2, decide_true, decide_false, Bool.not_true, Bool.not_false, beq_self_eq_true, eq_self, List.length_map])
theorem range_dn (m : Nat) : rangeL 0 m = (List.range m).map dn := by
  unfold rangeL
  apply List.map_congr_left
  intro k _
  show D.int (0 + (k : Int)) = D.int (k : Nat)
  rw [Int.zero_add]
theorem bitN (b k : Nat) : decide (Builtin.bitAnd ((b : Int) / 2 ^ ((k : Int)).toNat) 1 = 1) = b.testBit k := by
  rw [PyProof.Rows.bitAnd_m1, Int.toNat_natCast, Nat.testBit_eq_decide_div_mod_eq]
  have e : (b : Int) / 2 ^ k % 2 = ((b / 2 ^ k % 2 : Nat) : Int) := by
    rw [Int.natCast_emod, Int.natCast_ediv, Int.natCast_pow]
    rfl
  rw [e]
  congr 1
  exact propext ⟨fun z => by omega, fun z => by omega⟩
theorem c_eqNT {a b : List Nat} : cmpV .eq (.tup (a.map dn)) (.tup (b.map dn)) = some (decide (a = b)) := by
  rw [c_eqT (datT_dn a) (datT_dn b), eqL_dn]
theorem c_eqE {a : List Nat} : cmpV .eq (.tup (a.map dn)) (.tup []) = some (decide (a = [])) := c_eqNT (b := [])
theorem c_neE {a : List Nat} : cmpV .ne (.tup (a.map dn)) (.tup []) = some (!decide (a = [])) := c_neNT (b := [])
theorem getD_some {os : List Nat} {k : Nat} (h : k < os.length) : os[k]? = some (os.getD k 0) := by
  rw [List.getD_eq_getElem?_getD, List.getElem?_eq_getElem h]
  rfl
theorem at_last {os : List Nat} (h : 0 < os.length) : atIx (os.map dn) (-1) = some (.int (os.getD (os.length - 1) 0 : Nat)) := by
  have hk : ixOf (os.map dn).length (-1) = some (os.length - 1) := by
    unfold ixOf
    rw [if_neg (by decide), List.length_map, if_pos (by omega)]
    congr 1
    omega
  unfold atIx
  rw [hk]
  show (os.map dn)[os.length - 1]? = _
  rw [List.getElem?_map, getD_some (by omega)]
  rfl
theorem mdl (i : Int) : i % 2305843009213693951 = ((md i : Nat) : Int) := (md_eq i).symm
theorem v_md {i : Int} : binV .mod (.int i) (.int 2305843009213693951) = some (.int (md i : Nat)) := by
  rw [v_mod (by decide), mdl]
theorem mdn (x : Nat) : md (x : Int) = x % pp := by
  have h := md_eq (x : Int)
  have h2 : (x : Int) % PZ = ((x % pp : Nat) : Int) := (Int.natCast_emod x pp).symm
  rw [h2] at h
  exact Int.ofNat.inj h
theorem mdm (a b : Nat) : md ((a : Int) * (b : Int)) = a * b % pp := by
  rw [← Int.natCast_mul, mdn]
theorem v_mm {a b : Nat} (ha : a < pp) : binV .mul (.int a) (.int b) = some (.int ((a : Int) * (b : Int))) := v_mulL (by omega) (by
  have : a < 2305843009213693951 := ha
  omega)
theorem mod_lt' (x : Nat) : x % pp < pp := Nat.mod_lt x (by decide)
theorem mdn_lt {x : Nat} (h : x < pp) : md (x : Int) = x := by rw [mdn, Nat.mod_eq_of_lt h]
section
variable {fuel n : Nat} {P : List O} {los : List Nat}
theorem l_1 {a : Option D} {h : Hh} {C : Nat → List D → M D} : ∀ (F k m f s : Nat), k < F → m < 2 ^ k → f < pp → s < pp → ∃ w : Option D,
    whl xfF glF X2F subF fuel c_1_0 b_1_1 C F [a, some (.int (m : Nat)), some (.int (f : Nat)), some (.int (s : Nat))] h = .nx [a, some (.int 0), some (.int (f * s ^ m % pp : Nat)), w] h
  | 0, k, m, f, s, hk, _, _, _ => absurd hk (by omega)
  | F + 1, k, m, f, s, hk, hm, hf, hs => by
    rw [whl_s]
    by_cases c : m = 0
    · subst c
      refine ⟨some (.int (s : Nat)), ?_⟩
      push_cast [show ((0 : Nat) : Int) = 0 from rfl, decide_eq_false (show ¬ (0 : Int) < 0 by decide)]
      rw [Nat.pow_zero, Nat.mul_one, Nat.mod_eq_of_lt hf]
    · have hk0 : 0 < k := by
        rcases Nat.eq_zero_or_pos k with z | z
        · rw [z] at hm
          omega
        · exact z
      obtain ⟨j, rfl⟩ : ∃ j, k = j + 1 := ⟨k - 1, by omega⟩
      have hm2 : m / 2 < 2 ^ j := by
        rw [Nat.pow_succ] at hm
        omega
      have e2 : (m : Int) / 2 = ((m / 2 : Nat) : Int) := by omega
      have hs2 : s * s % pp < pp := mod_lt' _
      have es : s ^ m % pp = (if m % 2 = 1 then s * (s * s) ^ (m / 2) else (s * s) ^ (m / 2)) % pp := by
        rw [show s * s = s ^ 2 from (Nat.pow_two s).symm, ← Nat.pow_mul]
        split
        · next z => rw [← Nat.pow_succ', show (2 * (m / 2)).succ = m by omega]
        · next z => rw [show 2 * (m / 2) = m by omega]
      by_cases d : m % 2 = 1
      · obtain ⟨w, e⟩ := l_1 (a := a) (h := h) (C := C) F j (m / 2) (f * s % pp) (s * s % pp) (by omega) hm2 (mod_lt' _) hs2
        refine ⟨w, ?_⟩
        push_cast [decide_eq_true (show (0 : Int) < (m : Int) by omega), v_mod (i := (m : Int)) (j := 2) (by decide), decide_eq_true (show (m : Int) % 2 = 1 by omega), v_mm (a := f) (b := s) hf, v_mm (a := s) (b := s) hs, v_md, mdm, v_fdiv (i := (m : Int)) (j := 2) (by decide) (by decide), e2, bdR_some]
        rw [e, Nat.mul_mod f (s ^ m), es, if_pos d, Nat.mul_mod (f * s % pp), ← Nat.pow_mod, Nat.mod_mod, ← Nat.mul_mod, ← Nat.mul_mod, Nat.mul_assoc]
      · obtain ⟨w, e⟩ := l_1 (a := a) (h := h) (C := C) F j (m / 2) f (s * s % pp) (by omega) hm2 hf hs2
        refine ⟨w, ?_⟩
        push_cast [decide_eq_true (show (0 : Int) < (m : Int) by omega), v_mod (i := (m : Int)) (j := 2) (by decide), decide_eq_false (show ¬ (m : Int) % 2 = 1 by omega), v_mm (a := s) (b := s) hs, v_md, mdm, v_fdiv (i := (m : Int)) (j := 2) (by decide) (by decide), e2, bdR_some]
        rw [e, Nat.mul_mod f (s ^ m), es, if_neg d, Nat.mul_mod f, ← Nat.pow_mod]
theorem t_1 {a m : Nat} (ha : a < pp) (hm : m < 2 ^ 64) (hF : 70 ≤ fuel) : evF GF xfF glF X2F subF fuel (n + 1) 1 [.int (a : Nat), .int (m : Nat)] ⟨P, los⟩ = .ok (.int (a ^ m % pp : Nat)) ⟨P, los⟩ := by
  obtain ⟨w, e⟩ := l_1 (fuel := fuel) (a := some (.int (a : Nat))) (h := ⟨P, P.length :: los⟩) (C := evF GF xfF glF X2F subF fuel n) fuel 64 m 1 a (by omega) hm (by decide) ha
  rw [Nat.one_mul] at e
  have e : whl xfF glF X2F subF fuel c_1_0 b_1_1 (evF GF xfF glF X2F subF fuel n) fuel [some (.int (a : Nat)), some (.int (m : Nat)), some (.int 1), some (.int (a : Nat))] ⟨P, P.length :: los⟩ = .nx [some (.int (a : Nat)), some (.int 0), some (.int (a ^ m % pp : Nat)), w] ⟨P, P.length :: los⟩ := e
  rw [r_1]
  push_cast [v_md, mdn_lt ha, bdR_some, e]
  rw [fin_ret rfl, List.take_length]
theorem t_2 {a : Nat} (ha : a < pp) (hF : 70 ≤ fuel) : evF GF xfF glF X2F subF fuel (n + 2) 2 [.int (a : Nat)] ⟨P, los⟩ = .ok (.int (inv a : Nat)) ⟨P, los⟩ := by
  have e := t_1 (fuel := fuel) (n := n) (P := P) (los := P.length :: los) (a := a) (m := pp - 2) ha (by decide) hF
  rw [show (((pp - 2 : Nat) : Nat) : Int) = 2305843009213693951 - 2 by decide] at e
  rw [r_2]
  push_cast [e]
  rw [fin_ret rfl, List.take_length]
  rfl
theorem l_18 {m : Option D} {mv : Nat} {h : Hh} {a : Nat} {C : Nat → List D → M D} (hm : m = some (.int (mv : Nat))) (h12 : C 12 [] h = .ok (.int 2305843009213693951) h) : ∀ (j k : Nat) (w : Option D), ∃ w' : Option D,
    forL xfF glF X2F subF fuel (.loc 3) b_18_0 C (rangeL k j) [some (.int (a ^ 2 ^ k % pp : Nat)), m, some (.int (a ^ (mv % 2 ^ k) % pp : Nat)), w] h = .nx [some (.int (a ^ 2 ^ (k + j) % pp : Nat)), m, some (.int (a ^ (mv % 2 ^ (k + j)) % pp : Nat)), w'] h
  | 0, k, w => ⟨w, rfl⟩
  | j + 1, k, w => by
    obtain ⟨w', e⟩ := l_18 (a := a) hm h12 j (k + 1) (some (.int (k : Nat)))
    refine ⟨w', ?_⟩
    have hb := bitN mv k
    have e1 : a ^ 2 ^ (k + 1) % pp = (a ^ 2 ^ k % pp) * (a ^ 2 ^ k % pp) % pp := by
      rw [← Nat.mul_mod, ← Nat.pow_add, Nat.pow_succ, Nat.mul_two]
    have e2 : a ^ (mv % 2 ^ (k + 1)) % pp = if mv.testBit k then (a ^ (mv % 2 ^ k) % pp) * (a ^ 2 ^ k % pp) % pp else a ^ (mv % 2 ^ k) % pp := by
      rw [Nat.mod_pow_succ, Nat.testBit_eq_decide_div_mod_eq]
      by_cases z : mv / 2 ^ k % 2 = 1
      · rw [decide_eq_true z, if_pos rfl, ← Nat.mul_mod, ← Nat.pow_add, z, Nat.mul_one]
      · rw [decide_eq_false z, if_neg (by decide), show mv / 2 ^ k % 2 = 0 by omega, Nat.mul_zero, Nat.add_zero]
    subst hm
    rw [rangeL_s, for_cons]
    rw [show k + (j + 1) = k + 1 + j by omega, ← e]
    rw [e1, e2]
    have hx : a ^ 2 ^ k % pp < pp := mod_lt' _
    have hy : a ^ (mv % 2 ^ k) % pp < pp := mod_lt' _
    generalize a ^ 2 ^ k % pp = x at hx
    generalize a ^ (mv % 2 ^ k) % pp = y at hy
    cases ht : mv.testBit k with
    | true =>
      rw [ht] at hb
      push_cast [v_shr (i := (mv : Int)) (j := (k : Int)) (by omega), hb, h12, v_mm (a := y) (b := x) hy, v_mm (a := x) (b := x) hx, v_md, mdm]
      rw [if_pos trivial]
      rfl
    | false =>
      rw [ht] at hb
      push_cast [v_shr (i := (mv : Int)) (j := (k : Int)) (by omega), hb, h12, v_mm (a := x) (b := x) hx, v_md, mdm]
      rw [if_neg (by decide)]
      rfl
theorem t_12 : evF GF xfF glF X2F subF fuel (n + 1) 12 [] ⟨P, los⟩ = .ok (.int 2305843009213693951) ⟨P, los⟩ := by
  rw [r_12]
  push_cast [an_ok]
  rw [fin_ret rfl, List.take_length]
theorem t_18 {a m : Nat} (ha : a < pp) (hm : m < 2 ^ 64) : evF GF xfF glF X2F subF fuel (n + 2) 18 [.int (a : Nat), .int (m : Nat)] ⟨P, los⟩ = .ok (.int (a ^ m % pp : Nat)) ⟨P, los⟩ := by
  obtain ⟨w, e⟩ := l_18 (fuel := fuel) (m := some (.int (m : Nat))) (mv := m) (h := ⟨P, P.length :: los⟩) (a := a) (C := evF GF xfF glF X2F subF fuel (n + 1)) rfl t_12 64 0 none
  rw [Nat.zero_add, Nat.pow_zero, Nat.pow_one, Nat.mod_eq_of_lt ha, Nat.mod_one, Nat.pow_zero, Nat.mod_eq_of_lt hm] at e
  have e : forL xfF glF X2F subF fuel (.loc 3) b_18_0 (evF GF xfF glF X2F subF fuel (n + 1)) (rangeL 0 (64 : Int).toNat) [some (.int (a : Nat)), some (.int (m : Nat)), some (.int 1), none] ⟨P, P.length :: los⟩ = .nx [some (.int (a ^ 2 ^ 64 % pp : Nat)), some (.int (m : Nat)), some (.int (a ^ m % pp : Nat)), w] ⟨P, P.length :: los⟩ := e
  rw [r_18]
  push_cast [rgR_int (i := 64) (by decide), e]
  rw [fin_ret rfl, List.take_length]
/-- numbers below the prime, not too many, the last one not 0 -/
def ply (l : List Nat) : Prop := lo l ∧ l.length ≤ 61 ∧ (l ≠ [] → ntr l)
theorem t_3 {l : List Nat} (h : ply l) : evF GF xfF glF X2F subF fuel (n + 2) 3 [.tup (l.map dn)] ⟨P, los⟩ = .ok (.bl true) ⟨P, los⟩ := by
  obtain ⟨h1, h2, h3⟩ := h
  rw [r_3]
  have ec : cmpr (evF GF xfF glF X2F subF fuel (n + 1)) glF e_3_1 (.loc 1) f_3_0 [1] [some (.tup (l.map dn)), none] (l.map dn) ⟨P, P.length :: los⟩ = .ok [] ⟨P, P.length :: los⟩ := by
    unfold cmpr
    refine q_cnone fun d hd => ?_
    obtain ⟨o, ho, rfl⟩ := List.mem_map.mp hd
    have := h1 o ho
    have : o < 2305843009213693951 := this
    rw [ctn_eq]
    push_cast [wipeL, dn, t_0, Int.natCast_nonneg, (show (o : Int) ≤ 2305843009213693951 - 1 by omega), Bool.and_self]
  have f1 : ¬ (60 : Int) + 1 < (l.length : Int) := by omega
  have f2 : cmpV .ne (.lst []) (.lst []) = some false := rfl
  by_cases c : l = []
  · push_cast [f1, f2, ec, c_eqE, decide_eq_true c]
    rw [fin_ret rfl, List.take_length]
  · obtain ⟨n0, n1⟩ := h3 c
    have f3 : ¬ ((l.getD (l.length - 1) 0 : Nat) : Int) = 0 := by omega
    push_cast [f1, f2, ec, c_eqE, decide_eq_false c, at_last n0, f3]
    rw [fin_ret rfl, List.take_length]
theorem t_4 {l : List Nat} (h : ply l) : evF GF xfF glF X2F subF fuel (n + 3) 4 [.tup (l.map dn)] ⟨P, los⟩ = .ok .non ⟨P, los⟩ := by
  rw [r_4]
  push_cast [t_3 (fuel := fuel) (n := n) (P := P) (los := P.length :: los) h]
  rw [fin_nx, List.take_length]
theorem cut_take {os : List Nat} {j : Int} {b : Nat} (e : j = (b : Int)) (h : b ≤ os.length) : cut (os.map dn) none (some j) = (os.take b).map dn := by
  rw [cut_to e (by rw [List.length_map]; exact h), List.map_take]
theorem l_5 {v : D} {l : List Nat} {h : Hh} {C : Nat → List D → M D} (hv : deref h v = .lst (l.map dn)) : ∀ (m F : Nat), m < F → m ≤ l.length →
    whl xfF glF X2F subF fuel c_5_0 b_5_1 C F [some v, some (.int (m : Nat))] h = .nx [some v, some (.int (tmn l m : Nat))] h
  | _, 0, hF, _ => absurd hF (by omega)
  | 0, F + 1, hF, hl => by
    rw [whl_s]
    push_cast [decide_eq_false (show ¬ (0 : Int) < ((0 : Nat) : Int) by decide)]
    rfl
  | m + 1, F + 1, hF, hl => by
    rw [whl_s]
    have e1 := at_dn (os := l) (i := ((m + 1 : Nat) : Int) - 1) (k := m) (by omega) (getD_some (by omega))
    have ih := l_5 (C := C) hv m F (by omega) (by omega)
    by_cases c : l.getD m 0 = 0
    · have e2 : ((m + 1 : Nat) : Int) - 1 = ((m : Nat) : Int) := by omega
      rw [show tmn l (m + 1) = tmn l m from if_pos c, ← ih]
      push_cast [decide_eq_true (show (0 : Int) < ((m + 1 : Nat) : Int) by omega), hv, e1, decide_eq_true (show ((l.getD m 0 : Nat) : Int) = 0 by omega), g_sub]
      rw [e2]
    · rw [show tmn l (m + 1) = m + 1 from if_neg c]
      push_cast [decide_eq_true (show (0 : Int) < ((m + 1 : Nat) : Int) by omega), hv, e1, decide_eq_false (show ¬ ((l.getD m 0 : Nat) : Int) = 0 by omega)]
theorem t_5 {v : D} {l : List Nat} (hv : deref ⟨P, P.length :: los⟩ v = .lst (l.map dn)) (hl : l.length ≤ 65) (hF : 70 ≤ fuel) : evF GF xfF glF X2F subF fuel (n + 1) 5 [v] ⟨P, los⟩ = .ok (.tup ((trm l).map dn)) ⟨P, los⟩ := by
  have e := l_5 (fuel := fuel) (C := evF GF xfF glF X2F subF fuel n) hv l.length fuel (by omega) (Nat.le_refl _)
  rw [r_5]
  push_cast [hv, e, cut_take (os := l) (j := (tmn l l.length : Nat)) rfl (tmn_le l _)]
  exact (fin_ret (okT_dn _)).trans (by rw [List.take_length]; rfl)
/-- the value at a place, from the top -/
def vl (a : Nat) : List Nat → Nat
  | [] => 0
  | n :: r => md ((vl a r : Int) * a + n)
theorem vl_lt (a : Nat) : ∀ l, vl a l < pp
  | [] => by
    show 0 < pp
    decide
  | n :: r => md_lt _
theorem l_6 {p : Option D} {a : Nat} {h : Hh} {C : Nat → List D → M D} : ∀ (l : List Nat) (f : List Nat) (w : Option D), ∃ w' : Option D,
    forL xfF glF X2F subF fuel (.loc 3) b_6_0 C (l.map dn) [p, some (.int (a : Nat)), some (.int (vl a f : Nat)), w] h = .nx [p, some (.int (a : Nat)), some (.int (vl a (l.reverse ++ f) : Nat)), w'] h
  | [], f, w => ⟨w, rfl⟩
  | x :: l, f, w => by
    obtain ⟨w', e⟩ := l_6 (p := p) (a := a) (h := h) (C := C) l (x :: f) (some (.int (x : Nat)))
    refine ⟨w', ?_⟩
    rw [List.map_cons, for_cons, List.reverse_cons, List.append_assoc]
    rw [show [x] ++ f = x :: f from rfl, ← e]
    push_cast [dn, v_mm (a := vl a f) (b := a) (vl_lt a f), v_md]
    rfl
theorem t_6 {l : List Nat} {a : Nat} : evF GF xfF glF X2F subF fuel (n + 1) 6 [.tup (l.map dn), .int (a : Nat)] ⟨P, los⟩ = .ok (.int (vl a l : Nat)) ⟨P, los⟩ := by
  obtain ⟨w, e⟩ := l_6 (fuel := fuel) (p := some (.tup (l.map dn))) (a := a) (h := ⟨P, P.length :: los⟩) (C := evF GF xfF glF X2F subF fuel n) l.reverse [] none
  rw [List.reverse_reverse, List.append_nil, List.map_reverse] at e
  have e : forL xfF glF X2F subF fuel (.loc 3) b_6_0 (evF GF xfF glF X2F subF fuel n) (l.map dn).reverse [some (.tup (l.map dn)), some (.int (a : Nat)), some (.int 0), none] ⟨P, P.length :: los⟩ = .nx [some (.tup (l.map dn)), some (.int (a : Nat)), some (.int (vl a l : Nat)), w] ⟨P, P.length :: los⟩ := e
  rw [r_6]
  push_cast [e]
  rw [fin_ret rfl, List.take_length]
theorem t_11 {l : List Nat} {a : Nat} (h : ply l) (ha : a < pp) : evF GF xfF glF X2F subF fuel (n + 4) 11 [.tup (l.map dn), .int (a : Nat)] ⟨P, los⟩ = .ok (.int (vl a l : Nat)) ⟨P, los⟩ := by
  have e4 := t_4 (fuel := fuel) (n := n) (P := P) (los := P.length :: los) h
  have e0 := t_0 (fuel := fuel) (n := n + 2) (P := P) (los := P.length :: los) (v := (a : Int)) (a := 0) (b := 2305843009213693951 - 1)
  have : a < 2305843009213693951 := ha
  rw [decide_eq_true (by omega), decide_eq_true (by omega)] at e0
  have e6 := t_6 (fuel := fuel) (n := n + 2) (P := P) (los := P.length :: los) (l := l) (a := a)
  rw [r_11]
  push_cast [e4, e0, e6, Bool.and_self]
  rw [fin_ret rfl, List.take_length]
/-- the value as a sum -/
def sv (a : Int) : List Nat → Int
  | [] => 0
  | n :: r => (n : Int) + a * sv a r
theorem vl_sv (a : Nat) : ∀ l, PZ ∣ (vl a l : Int) - sv a l
  | [] => ⟨0, rfl⟩
  | n :: r => by
    have h1 := md_dvd ((vl a r : Int) * a + n)
    have h2 := vl_sv a r
    show PZ ∣ (md ((vl a r : Int) * a + n) : Int) - ((n : Int) + (a : Int) * sv a r)
    generalize ((md ((vl a r : Int) * a + n) : Nat) : Int) = x at h1 ⊢
    obtain ⟨t1, h1⟩ := h1
    obtain ⟨t2, h2⟩ := h2
    exact ⟨t1 + a * t2, by grind⟩
theorem l_17 {p : Option D} {a : Nat} (ha : a < pp) {h : Hh} {C : Nat → List D → M D} (h12 : C 12 [] h = .ok (.int 2305843009213693951) h) : ∀ (l : List Nat) (f w : Nat) (z : Option D), lo l → f < pp → w < pp → ∃ (f' : Nat) (w' z' : Option D),
    forL xfF glF X2F subF fuel (.loc 4) b_17_0 C (l.map dn) [p, some (.int (a : Nat)), some (.int (f : Nat)), some (.int (w : Nat)), z] h = .nx [p, some (.int (a : Nat)), some (.int (f' : Nat)), w', z'] h ∧ f' < pp ∧ PZ ∣ (f' : Int) - ((f : Int) + w * sv a l)
  | [], f, w, z, _, hf, hw => ⟨f, _, _, rfl, hf, ⟨0, by show (f : Int) - (f + w * 0) = _; grind⟩⟩
  | x :: l, f, w, z, hl, hf, hw => by
    obtain ⟨f', w', z', e, h1, h2⟩ := l_17 (p := p) ha h12 l (md ((f : Int) + (x : Int) * (w : Int))) (md ((w : Int) * (a : Int))) (some (.int (x : Nat))) (fun o ho => hl o (List.mem_cons_of_mem _ ho)) (md_lt _) (md_lt _)
    refine ⟨f', w', z', ?_, h1, ?_⟩
    · rw [List.map_cons, for_cons]
      push_cast [dn, v_mm (a := x) (b := w) (hl x (List.mem_cons_self ..)), v_mm (a := w) (b := a) hw, h12, v_md, bdR_some]
      exact e
    · have m1 := md_dvd ((f : Int) + (x : Int) * (w : Int))
      have m2 := md_dvd ((w : Int) * (a : Int))
      show PZ ∣ (f' : Int) - ((f : Int) + w * ((x : Int) + a * sv a l))
      generalize ((md ((f : Int) + (x : Int) * (w : Int)) : Nat) : Int) = y1 at h2 m1
      generalize ((md ((w : Int) * (a : Int)) : Nat) : Int) = y2 at h2 m2
      obtain ⟨t1, h2⟩ := h2
      obtain ⟨t2, m1⟩ := m1
      obtain ⟨t3, m2⟩ := m2
      exact ⟨t1 + t2 + t3 * sv a l, by grind⟩
theorem t_17 {l : List Nat} {a : Nat} (hl : lo l) (ha : a < pp) : evF GF xfF glF X2F subF fuel (n + 2) 17 [.tup (l.map dn), .int (a : Nat)] ⟨P, los⟩ = .ok (.int (vl a l : Nat)) ⟨P, los⟩ := by
  obtain ⟨f, w, z, e, h1, h2⟩ := l_17 (fuel := fuel) (p := some (.tup (l.map dn))) ha (h := ⟨P, P.length :: los⟩) (C := evF GF xfF glF X2F subF fuel (n + 1)) t_12 l 0 1 none hl (by decide) (by decide)
  have ef : f = vl a l := by
    have h3 := vl_sv a l
    have v1 := vl_lt a l
    have : (f : Int) = (vl a l : Int) := same (by omega) (by show (f : Int) < ((pp : Nat) : Int); omega) (by omega) (by show (vl a l : Int) < ((pp : Nat) : Int); omega) (by
      rw [show (f : Int) - (vl a l : Int) = ((f : Int) - (((0 : Nat) : Int) + ((1 : Nat) : Int) * sv a l)) - ((vl a l : Int) - sv a l) by show _ = (f : Int) - (0 + 1 * sv a l) - _; grind]
      exact Int.dvd_sub h2 h3)
    omega
  subst ef
  have e : forL xfF glF X2F subF fuel (.loc 4) b_17_0 (evF GF xfF glF X2F subF fuel (n + 1)) (l.map dn) [some (.tup (l.map dn)), some (.int (a : Nat)), some (.int 0), some (.int 1), none] ⟨P, P.length :: los⟩ = .nx [some (.tup (l.map dn)), some (.int (a : Nat)), some (.int (vl a l : Nat)), w, z] ⟨P, P.length :: los⟩ := e
  rw [r_17]
  push_cast [bdR_some, e]
  rw [fin_ret rfl, List.take_length]
end
end EV

namespace EV
open PySem
local macro_rules
  | `(tactic| push_cast [$xs,*]) => `(tactic| simp -implicitDefEqProofs only [$xs,*, an_ok, an_err, an_stk, aS_ok, aS_err, aS_stk, sq_nx, sq_stk, sq_err, sq_ret, sq_bk, sq_ct, tn_nx, tn_stk, tn_err, tn_ret, tn_bk, tn_ct, cnd_t, cnd_f, ofO_some, chkL_0, chkL_1, chkL_2, chkL_3, chkL_4, chkL_5, chkL_6, chkL_7, chkL_8, chkL_9, chkL_10, chkL_11, chkL_12, chkL_13, chkL_14, chkL_15, chkL_16, chkL_17, chkL_18, chkL_19, chkL_20, x_loc0, x_loc1, x_loc2, x_loc3, x_loc4, x_loc5, x_loc6, x_loc7, x_loc8, x_loc9, x_loc10, x_loc11, x_loc12, x_con, x_fnv, x_nil, x_cons, x_tup, x_lst, mkR_lst, x_mk, x_bin, cmR_some, x_cmp, isT_t, x_chn, ngR_int, x_neg, x_not, x_and, x_or, x_ite, x_idx, x_pnil, inR_int, x_pcons, x_slc, x_call, x_bif, x_met, x_isi, x_rem, x_six, x_joi, strM_s, sixM_s, joinM_s, joinV_l, joinV_t, mpO_s, x_comp, lsT_some, x_cnil, x_ccons, x_lrn, wipe_nil, x_rng1, x_rng2, x_rng3, reR_l, reR_t, x_rev, enR_l, enR_t, x_enm, zpR_l, zpR_t, x_zip, sqR_lst, sqR_tup, sqR_str, x_sq, der_non, der_bl, der_int, der_str, der_tup, der_lst, der_0, v_add, v_bxor, v_band, v_sub, c_eq, c_ne, c_lt, c_le, c_gt, c_ge, c_eqS, c_neS, c_eqB, c_neB, eqL_nn, eqL_cn, c_isN, c_isnN, tr_bl, tr_int, tr_tup, tr_lst, tr_non, ix_tup, ix_lst, sl_tup, sl_lst, mp_nil, mp_cons, b_lenT, b_lenL, b_int, b_intB, b_abs, b_max, b_min, b_tupL, b_tupT, b_lstL, b_lstT, is_int, is_bl, is_str, is_tup, is_lst, is_non, ty_int_int, ty_bool_int, ty_str_int, ty_tuple_int, ty_list_int, ty_dict_int, ty_int_bool, ty_bool_bool, ty_str_bool, ty_tuple_bool, ty_list_bool, ty_dict_bool, ty_int_str, ty_bool_str, ty_str_str, ty_tuple_str, ty_list_str, ty_dict_str, ty_int_tuple, ty_bool_tuple, ty_str_tuple, ty_tuple_tuple, ty_list_tuple, ty_dict_tuple, ty_int_list, ty_bool_list, ty_str_list, ty_tuple_list, ty_list_list, ty_dict_list, ty_int_dict, ty_bool_dict, ty_str_dict, ty_tuple_dict, ty_list_dict, ty_dict_dict, ty_tl_int, ty_tl_bool, ty_tl_str, ty_tl_tuple, ty_tl_list, ty_tl_dict, s_nil, s_cons, bdR_some, s_asg, s_par, t_tup, t_nil, s_setx, s_augx, s_unp, unp_lst, s_ex, s_ret, s_retN, s_ite, s_whl, s_for, for_nil, s_forE, s_brk, s_cnt, s_pas, rsR_some, s_rse, tr_nx, tr_stk, tr_err, tr_ret, tr_bk, tr_ct, us_nx, us_nx0, us_ret, prR_some, pre_none, cat3_t, cat3_f, s_try, t_loc0, t_cons0, x_clv0, s_aug0, pre0, set0, t_loc1, t_cons1, x_clv1, s_aug1, pre1, set1, t_loc2, t_cons2, x_clv2, s_aug2, pre2, set2, t_loc3, t_cons3, x_clv3, s_aug3, pre3, set3, t_loc4, t_cons4, x_clv4, s_aug4, pre4, set4, t_loc5, t_cons5, x_clv5, s_aug5, pre5, set5, t_loc6, t_cons6, x_clv6, s_aug6, pre6, set6, t_loc7, t_cons7, x_clv7, s_aug7, pre7, set7, t_loc8, t_cons8, x_clv8, s_aug8, pre8, set8, t_loc9, t_cons9, x_clv9, s_aug9, pre9, set9, t_loc10, t_cons10, x_clv10, s_aug10, pre10, set10, t_loc11, t_cons11, x_clv11, s_aug11, pre11, set11, t_loc12, t_cons12, x_clv12, s_aug12, pre12, set12, g_add, g_bxor, g_band, g_sub, der_row, row_0, row_1, row_2, row_3, row_s1, row_s2, row_s3, tl_der, tl_chk, tl_get, xg_0, xg_1, u_B_0, u_c_1_0, u_b_1_1, u_k_1_2, u_B_1, u_B_2, u_f_3_0, u_e_3_1, u_B_3, u_B_4, u_c_5_0, u_b_5_1, u_k_5_2, u_B_5, u_b_6_0, u_k_6_1, u_B_6, u_f_7_0, u_e_7_1, u_b_7_2, u_k_7_3, u_b_7_4, u_k_7_5, u_B_7, u_b_8_0, u_b_8_1, u_k_8_2, u_B_8, u_c_9_0, u_b_9_1, u_e_9_2, u_k_9_3, u_B_9, u_B_10, u_B_11, u_B_12, u_B_13, u_B_14, u_f_15_0, u_e_15_1, u_B_15, u_e_16_0, u_b_16_1, u_k_16_2, u_B_16, u_b_17_0, u_k_17_1, u_B_17, u_b_18_0, u_k_18_1, u_B_18, u_e_19_0, u_e_19_1, u_e_19_2, u_e_19_3, u_b_19_4, u_e_19_5, u_k_19_6, u_B_19, xx_0, xs_0_0, xh_0_0, xs_0_1, xh_0_1, xs_0_2, xh_0_2, xx_1, xs_1_0, xh_1_0, xs_1_1, xh_1_1, xs_1_2, xh_1_2, xx_2, xs_2_0, xh_2_0, xs_2_1, xh_2_1, xs_2_2, xh_2_2, decide_true, decide_false, Bool.not_true, Bool.not_false, beq_self_eq_true, eq_self, List.length_map])
/-! by roots -/
def prv (l : List Nat) (k : Nat) : Nat := if k = 0 then 0 else l.getD (k - 1) 0
/-- how far the walk has come -/
def cur (r : Nat) (l : List Nat) (i : Nat) : List Nat := (List.range (l.length + 1)).map fun k => if k < i then md (xm r (sr l) k) else prv l k
theorem cur_len (r : Nat) (l : List Nat) (i : Nat) : (cur r l i).length = l.length + 1 := by rw [cur, List.length_map, List.length_range]
theorem cur_at (r : Nat) (l : List Nat) (i : Nat) {k : Nat} (h : k < l.length + 1) : (cur r l i)[k]? = some (if k < i then md (xm r (sr l) k) else prv l k) := by
  rw [cur, List.getElem?_map, List.getElem?_range h]
  rfl
theorem cur_0 (r : Nat) (l : List Nat) : cur r l 0 = 0 :: l := by
  refine List.ext_getElem? fun k => ?_
  rcases Nat.lt_or_ge k (l.length + 1) with h | h
  · rw [cur_at r l 0 h, if_neg (by omega)]
    match k with
    | 0 => rfl
    | k + 1 =>
      show some (l.getD (k + 1 - 1) 0) = l[k]?
      rw [show k + 1 - 1 = k by omega, getD_some (by omega)]
  · rw [List.getElem?_eq_none (by rw [cur_len]; exact h), List.getElem?_eq_none (by rw [List.length_cons]; exact h)]
theorem cur_s (r : Nat) (l : List Nat) {i : Nat} (h : i < l.length + 1) : (cur r l i).set i (md (xm r (sr l) i)) = cur r l (i + 1) := by
  refine List.ext_getElem? fun k => ?_
  rcases Nat.lt_or_ge k (l.length + 1) with hk | hk
  · rw [List.getElem?_set, cur_at r l _ hk, cur_at r l _ hk]
    by_cases c : i = k
    · subst c
      rw [if_pos rfl, if_pos (by rw [cur_len]; exact hk), if_pos (by omega)]
    · rw [if_neg c]
      congr 1
      by_cases d : k < i
      · rw [if_pos d, if_pos (by omega)]
      · rw [if_neg d, if_neg (by omega)]
  · rw [List.getElem?_eq_none (by rw [List.length_set, cur_len]; exact hk), List.getElem?_eq_none (by rw [cur_len]; exact hk)]
theorem xm_prv (r : Nat) (l : List Nat) (k : Nat) : xm r (sr l) k = (prv l k : Int) - (r : Int) * (l.getD k 0 : Nat) := by
  unfold prv
  match k with
  | 0 => rfl
  | k + 1 =>
    rw [if_neg (by omega), show k + 1 - 1 = k by omega]
    rfl
theorem cur_end (r : Nat) {l : List Nat} (h : lo l) : cur r l l.length = lx r l := by
  refine List.ext_getElem? fun k => ?_
  rcases Nat.lt_or_ge k (l.length + 1) with hk | hk
  · rw [cur_at r l _ hk]
    have e : (lx r l)[k]? = some (md (xm r (sr l) k)) := by
      rw [lx, List.getElem?_map, List.getElem?_range hk]
      rfl
    rw [e]
    congr 1
    by_cases c : k < l.length
    · rw [if_pos c]
    · rw [if_neg c]
      have ek : k = l.length := by omega
      subst ek
      rw [xm_prv, List.getD_eq_getElem?_getD, List.getElem?_eq_none (Nat.le_refl _)]
      show prv l l.length = md ((prv l l.length : Int) - (r : Int) * ((0 : Nat) : Int))
      rw [show (prv l l.length : Int) - (r : Int) * ((0 : Nat) : Int) = (prv l l.length : Int) by simp]
      rw [mdn_lt]
      unfold prv
      split
      · decide
      · next z =>
        rw [List.getD_eq_getElem?_getD, List.getElem?_eq_getElem (by omega)]
        exact h _ (List.getElem_mem _)
  · rw [List.getElem?_eq_none (by rw [cur_len]; exact hk), List.getElem?_eq_none (by rw [lx_len]; exact hk)]
/-- found: a list of its own, or one that stands in the heap -/
def FV (Q : List O) (v : D) (l : List Nat) : Prop := v = .lst (l.map dn) ∨ ∃ n, v = .ref n ∧ Q[n]? = some (.lst (l.map dn))
theorem FV.der {Q X : List O} {v : D} {l : List Nat} {los : List Nat} (h : FV Q v l) : deref ⟨Q ++ X, los⟩ v = .lst (l.map dn) := by
  rcases h with h | ⟨n, h, e⟩
  · subst h
    rfl
  · subst h
    have hn : n < Q.length := (List.getElem?_eq_some_iff.mp e).1
    exact der_ref (h := ⟨Q ++ X, los⟩) (by
      show (Q ++ X)[n]? = _
      rw [List.getElem?_append_left hn, e])
theorem FV.der0 {Q : List O} {v : D} {l : List Nat} {los : List Nat} (h : FV Q v l) : deref ⟨Q, los⟩ v = .lst (l.map dn) := by
  have := h.der (X := []) (los := los)
  rwa [List.append_nil] at this
theorem FV.new (Q : List O) (m : List Nat) : FV (Q ++ [.lst (m.map dn)]) (.ref Q.length) m := .inr ⟨_, rfl, by simp⟩
theorem map_set' (B : List Nat) (p v : Nat) : (B.map dn).set p (.int (v : Nat)) = (B.set p v).map dn := by
  rw [List.map_set]
  rfl
section
variable {fuel n : Nat} {P : List O} {los : List Nat}
theorem l_7a {T : Option D} {r : Nat} (hr : r < pp) {v : D} {l : List Nat} (hl : lo l) {C : Nat → List D → M D} {Q : List O} (hv : FV Q v l) : ∀ (j i F : Nat) (w4 w5 : Option D), i + j = l.length → j < F → ∃ x4 x5,
    livL xfF glF X2F subF fuel (.tup (.cons (.loc 4) (.cons (.loc 5) .nil))) b_7_2 C v F i [T, some (.int (r : Nat)), some v, some (.ref Q.length), w4, w5] ⟨Q ++ [.lst ((cur r l i).map dn)], los⟩ =
    .nx [T, some (.int (r : Nat)), some v, some (.ref Q.length), x4, x5] ⟨Q ++ [.lst ((cur r l l.length).map dn)], los⟩
  | _, _, 0, _, _, _, hF => absurd hF (by omega)
  | 0, i, F + 1, w4, w5, hi, hF => by
    have e : i = l.length := by omega
    subst e
    refine ⟨w4, w5, ?_⟩
    rw [liv_nil hv.der (by rw [List.getElem?_eq_none]; rw [List.length_map]; exact Nat.le_refl _)]
  | j + 1, i, F + 1, w4, w5, hi, hF => by
    have hil : i < l.length := by omega
    obtain ⟨x4, x5, e⟩ := l_7a hr hl hv (C := C) (T := T) j (i + 1) F (some (.int (i : Nat))) (some (.int (l.getD i 0 : Nat))) (by omega) (by omega)
    refine ⟨x4, x5, ?_⟩
    rw [liv_cons (x := .int (l.getD i 0 : Nat)) hv.der (by rw [List.getElem?_map, getD_some hil]; rfl), ← e]
    have hc := cur_at r l i (k := i) (by omega)
    rw [if_neg (by omega)] at hc
    have hx : ((prv l i : Nat) : Int) - (r : Int) * ((l.getD i 0 : Nat) : Int) = xm r (sr l) i := (xm_prv r l i).symm
    push_cast [at_dn (os := cur r l i) (i := (i : Int)) rfl hc, v_mm (a := r) (b := l.getD i 0) hr, hx, v_md,
      q_setT (P := Q) (l := (cur r l i).map dn) (los := los) (i := (i : Int)) (k := i) (v := .int (md (xm r (sr l) i) : Nat)) rfl (by rw [List.length_map, cur_len]; omega) (by rw [map_set']; exact okL_dn _), map_set', cur_s r l (i := i) (by omega)]
theorem v_add0 {l : List Nat} (h : l.length < 1000000) : binV .add (.lst [.int 0]) (.lst (l.map dn)) = some (.lst ((0 :: l).map dn)) := v_addNL (a := [0]) (b := l) (by rw [List.length_singleton]; unfold sizeL; omega)
theorem l_7 {T : Option D} {C : Nat → List D → M D} (hF : 200 ≤ fuel) : ∀ (rs l : List Nat) (Q : List O) (v : D) (w1 w3 w4 w5 : Option D), lo rs → lo l → l.length + rs.length ≤ 100 → P.length ≤ Q.length → Q.take P.length = P → FV Q v l → ∃ (x1 x3 x4 x5 : Option D) (v' : D) (Q' : List O),
    forL xfF glF X2F subF fuel (.loc 1) b_7_4 C (rs.map dn) [T, w1, some v, w3, w4, w5] ⟨Q, los⟩ = .nx [T, x1, some v', x3, x4, x5] ⟨Q', los⟩ ∧ FV Q' v' (flin l rs) ∧ P.length ≤ Q'.length ∧ Q'.take P.length = P
  | [], l, Q, v, w1, w3, w4, w5, _, _, _, h1, h2, hv => ⟨w1, w3, w4, w5, v, Q, rfl, hv, h1, h2⟩
  | r :: rs, l, Q, v, w1, w3, w4, w5, hrs, hl, hz, h1, h2, hv => by
    rw [List.length_cons] at hz
    have hr := hrs r (List.mem_cons_self ..)
    obtain ⟨x4, x5, e⟩ := l_7a (fuel := fuel) (los := los) (T := T) hr hl hv (C := C) l.length 0 fuel w4 w5 (Nat.zero_add _) (by omega)
    rw [cur_0, cur_end r hl, List.map_cons, show dn 0 = D.int ((0 : Nat) : Int) from rfl] at e
    obtain ⟨y1, y3, y4, y5, v', Q', e2, g1, g2, g3⟩ := l_7 (T := T) (C := C) hF rs (lx r l) (Q ++ [.lst ((lx r l).map dn)]) (.ref Q.length) (some (.int (r : Nat))) (some (.ref Q.length)) x4 x5 (fun o ho => hrs o (List.mem_cons_of_mem _ ho)) (lx_lo r l) (by rw [lx_len]; omega) (by rw [List.length_append]; omega) (by rw [List.take_append_of_le_length h1, h2]) (FV.new Q _)
    refine ⟨y1, y3, y4, y5, v', Q', ?_, g1, g2, g3⟩
    rw [List.map_cons, for_cons]
    push_cast [dn, hv.der0, v_add0 (l := l) (by omega), e]
    exact e2
theorem t_7 {rs : List Nat} (hrs : lo rs) (hl : rs.length ≤ 60) (hF : 200 ≤ fuel) : evF GF xfF glF X2F subF fuel (n + 2) 7 [.tup (rs.map dn)] ⟨P, los⟩ = .ok (.tup ((fl rs).map dn)) ⟨P, los⟩ := by
  obtain ⟨x1, x3, x4, x5, v, Q, e, g1, g2, g3⟩ := l_7 (fuel := fuel) (P := P) (los := P.length :: los) (T := some (.tup (rs.map dn))) (C := evF GF xfF glF X2F subF fuel (n + 1)) hF rs [1] P (.lst [.int 1]) none none none none hrs (fun o ho => by
    rw [List.mem_singleton] at ho
    subst ho
    decide) (by rw [List.length_singleton]; omega) (Nat.le_refl _) List.take_length (.inl rfl)
  rw [r_7]
  have ec : cmpr (evF GF xfF glF X2F subF fuel (n + 1)) glF e_7_1 (.loc 1) f_7_0 [1] [some (.tup (rs.map dn)), none, none, none, none, none] (rs.map dn) ⟨P, P.length :: los⟩ = .ok [] ⟨P, P.length :: los⟩ := by
    unfold cmpr
    refine q_cnone fun d hd => ?_
    obtain ⟨o, ho, rfl⟩ := List.mem_map.mp hd
    have := hrs o ho
    have : o < 2305843009213693951 := this
    rw [ctn_eq]
    push_cast [wipeL, dn, t_0, Int.natCast_nonneg, (show (o : Int) ≤ 2305843009213693951 - 1 by omega), Bool.and_self]
  have f1 : ¬ (60 : Int) < (rs.length : Int) := by omega
  have f2 : cmpV .ne (.lst []) (.lst []) = some false := rfl
  push_cast [f1, f2, ec, e, g1.der0]
  exact (fin_ret (okT_dn _)).trans (by rw [g3])
theorem l_16 {T : Option D} {h : Hh} {C : Nat → List D → M D} (h12 : C 12 [] h = .ok (.int 2305843009213693951) h) : ∀ (rs l : List Nat) (w2 : Option D), lo rs → l.length + rs.length ≤ 100 → ∃ (x2 : Option D),
    forL xfF glF X2F subF fuel (.loc 2) b_16_1 C (rs.map dn) [T, some (.lst (l.map dn)), w2, none] h = .nx [T, some (.lst ((flin l rs).map dn)), x2, none] h
  | [], l, w2, _, _ => ⟨w2, rfl⟩
  | r :: rs, l, w2, hrs, hz => by
    rw [List.length_cons] at hz
    have hr := hrs r (List.mem_cons_self ..)
    obtain ⟨x2, e⟩ := l_16 (T := T) h12 rs (lx r l) (some (.int (r : Nat))) (fun o ho => hrs o (List.mem_cons_of_mem _ ho)) (by rw [lx_len]; omega)
    refine ⟨x2, ?_⟩
    have ec : cmpr C glF e_16_0 (.loc 3) .nil [3] [T, some (.lst (l.map dn)), some (.int (r : Nat)), none] (rangeL 0 ((l.length : Int) + 1).toNat) h = .ok ((lx r l).map dn) h := by
      unfold cmpr
      rw [show ((l.length : Int) + 1).toNat = l.length + 1 by omega, range_dn, lx, List.map_map]
      refine q_cmap (f := fun k => dn (md (xm r (sr l) k))) (fun k hk => ?_) (by rw [List.length_range]; unfold sizeL; omega)
      have hk := List.mem_range.mp hk
      have hx := xm_prv r l k
      rw [ctn_eq]
      match k, hk with
      | 0, hk =>
        by_cases c : 0 < l.length
        · have h0 := at_dn (os := l) (i := ((0 : Nat) : Int)) rfl (getD_some c)
          push_cast [wipeL, dn, decide_eq_false (show ¬ (0 : Int) < ((0 : Nat) : Int) by decide), decide_eq_true (show ((0 : Nat) : Int) < (l.length : Int) by omega), h0, v_mm (a := r) (b := l.getD 0 0) hr, h12, v_md]
          rw [hx]
          rfl
        · have e0 : l.getD 0 0 = 0 := by
            rw [List.getD_eq_getElem?_getD, List.getElem?_eq_none (by omega)]
            rfl
          rw [e0] at hx
          push_cast [wipeL, dn, decide_eq_false (show ¬ (0 : Int) < ((0 : Nat) : Int) by decide), decide_eq_false (show ¬ ((0 : Nat) : Int) < (l.length : Int) by omega), v_mulR (i := (r : Int)) (j := 0) (by decide) (by decide), h12, v_md]
          rw [hx]
          rfl
      | k + 1, hk =>
        have hp : prv l (k + 1) = l.getD k 0 := by
          unfold prv
          rw [if_neg (by omega), show k + 1 - 1 = k by omega]
        rw [hp] at hx
        have h1 := at_dn (os := l) (i := ((k + 1 : Nat) : Int) - 1) (k := k) (by omega) (getD_some (by omega))
        by_cases c : k + 1 < l.length
        · have h0 := at_dn (os := l) (i := ((k + 1 : Nat) : Int)) rfl (getD_some c)
          push_cast [wipeL, dn, decide_eq_true (show (0 : Int) < ((k + 1 : Nat) : Int) by omega), h1, decide_eq_true (show ((k + 1 : Nat) : Int) < (l.length : Int) by omega), h0, v_mm (a := r) (b := l.getD (k + 1) 0) hr, h12, v_md]
          rw [hx]
        · have e0 : l.getD (k + 1) 0 = 0 := by
            rw [List.getD_eq_getElem?_getD, List.getElem?_eq_none (by omega)]
            rfl
          rw [e0] at hx
          push_cast [wipeL, dn, decide_eq_true (show (0 : Int) < ((k + 1 : Nat) : Int) by omega), h1, decide_eq_false (show ¬ ((k + 1 : Nat) : Int) < (l.length : Int) by omega), v_mulR (i := (r : Int)) (j := 0) (by decide) (by decide), h12, v_md]
          rw [hx]
          rfl
    rw [List.map_cons, for_cons]
    push_cast [dn, rgR_int (i := (l.length : Int) + 1) (small_nat (by omega) (by omega)), ec]
    exact e
theorem t_16 {rs : List Nat} (hrs : lo rs) (hl : rs.length ≤ 60) : evF GF xfF glF X2F subF fuel (n + 2) 16 [.lst (rs.map dn)] ⟨P, los⟩ = .ok (.tup ((fl rs).map dn)) ⟨P, los⟩ := by
  obtain ⟨x2, e⟩ := l_16 (fuel := fuel) (T := some (.lst (rs.map dn))) (h := ⟨P, P.length :: los⟩) (C := evF GF xfF glF X2F subF fuel (n + 1)) t_12 rs [1] none hrs (by rw [List.length_singleton]; omega)
  have e : forL xfF glF X2F subF fuel (.loc 2) b_16_1 (evF GF xfF glF X2F subF fuel (n + 1)) (rs.map dn) [some (.lst (rs.map dn)), some (.lst [.int 1]), none, none] ⟨P, P.length :: los⟩ = .nx [some (.lst (rs.map dn)), some (.lst ((fl rs).map dn)), x2, none] ⟨P, P.length :: los⟩ := e
  rw [r_16]
  push_cast [e]
  rw [fin_ret (okT_dn _), List.take_length]
end
end EV

namespace EV
open PySem
local macro_rules
  | `(tactic| push_cast [$xs,*]) => `(tactic| simp -implicitDefEqProofs only [$xs,*, an_ok, an_err, an_stk, aS_ok, aS_err, aS_stk, sq_nx, sq_stk, sq_err, sq_ret, sq_bk, sq_ct, tn_nx, tn_stk, tn_err, tn_ret, tn_bk, tn_ct, cnd_t, cnd_f, ofO_some, chkL_0, chkL_1, chkL_2, chkL_3, chkL_4, chkL_5, chkL_6, chkL_7, chkL_8, chkL_9, chkL_10, chkL_11, chkL_12, chkL_13, chkL_14, chkL_15, chkL_16, chkL_17, chkL_18, chkL_19, chkL_20, x_loc0, x_loc1, x_loc2, x_loc3, x_loc4, x_loc5, x_loc6, x_loc7, x_loc8, x_loc9, x_loc10, x_loc11, x_loc12, x_con, x_fnv, x_nil, x_cons, x_tup, x_lst, mkR_lst, x_mk, x_bin, cmR_some, x_cmp, isT_t, x_chn, ngR_int, x_neg, x_not, x_and, x_or, x_ite, x_idx, x_pnil, inR_int, x_pcons, x_slc, x_call, x_bif, x_met, x_isi, x_rem, x_six, x_joi, strM_s, sixM_s, joinM_s, joinV_l, joinV_t, mpO_s, x_comp, lsT_some, x_cnil, x_ccons, x_lrn, wipe_nil, x_rng1, x_rng2, x_rng3, reR_l, reR_t, x_rev, enR_l, enR_t, x_enm, zpR_l, zpR_t, x_zip, sqR_lst, sqR_tup, sqR_str, x_sq, der_non, der_bl, der_int, der_str, der_tup, der_lst, der_0, v_add, v_bxor, v_band, v_sub, c_eq, c_ne, c_lt, c_le, c_gt, c_ge, c_eqS, c_neS, c_eqB, c_neB, eqL_nn, eqL_cn, c_isN, c_isnN, tr_bl, tr_int, tr_tup, tr_lst, tr_non, ix_tup, ix_lst, sl_tup, sl_lst, mp_nil, mp_cons, b_lenT, b_lenL, b_int, b_intB, b_abs, b_max, b_min, b_tupL, b_tupT, b_lstL, b_lstT, is_int, is_bl, is_str, is_tup, is_lst, is_non, ty_int_int, ty_bool_int, ty_str_int, ty_tuple_int, ty_list_int, ty_dict_int, ty_int_bool, ty_bool_bool, ty_str_bool, ty_tuple_bool, ty_list_bool, ty_dict_bool, ty_int_str, ty_bool_str, ty_str_str, ty_tuple_str, ty_list_str, ty_dict_str, ty_int_tuple, ty_bool_tuple, ty_str_tuple, ty_tuple_tuple, ty_list_tuple, ty_dict_tuple, ty_int_list, ty_bool_list, ty_str_list, ty_tuple_list, ty_list_list, ty_dict_list, ty_int_dict, ty_bool_dict, ty_str_dict, ty_tuple_dict, ty_list_dict, ty_dict_dict, ty_tl_int, ty_tl_bool, ty_tl_str, ty_tl_tuple, ty_tl_list, ty_tl_dict, s_nil, s_cons, bdR_some, s_asg, s_par, t_tup, t_nil, s_setx, s_augx, s_unp, unp_lst, s_ex, s_ret, s_retN, s_ite, s_whl, s_for, for_nil, s_forE, s_brk, s_cnt, s_pas, rsR_some, s_rse, tr_nx, tr_stk, tr_err, tr_ret, tr_bk, tr_ct, us_nx, us_nx0, us_ret, prR_some, pre_none, cat3_t, cat3_f, s_try, t_loc0, t_cons0, x_clv0, s_aug0, pre0, set0, t_loc1, t_cons1, x_clv1, s_aug1, pre1, set1, t_loc2, t_cons2, x_clv2, s_aug2, pre2, set2, t_loc3, t_cons3, x_clv3, s_aug3, pre3, set3, t_loc4, t_cons4, x_clv4, s_aug4, pre4, set4, t_loc5, t_cons5, x_clv5, s_aug5, pre5, set5, t_loc6, t_cons6, x_clv6, s_aug6, pre6, set6, t_loc7, t_cons7, x_clv7, s_aug7, pre7, set7, t_loc8, t_cons8, x_clv8, s_aug8, pre8, set8, t_loc9, t_cons9, x_clv9, s_aug9, pre9, set9, t_loc10, t_cons10, x_clv10, s_aug10, pre10, set10, t_loc11, t_cons11, x_clv11, s_aug11, pre11, set11, t_loc12, t_cons12, x_clv12, s_aug12, pre12, set12, g_add, g_bxor, g_band, g_sub, der_row, row_0, row_1, row_2, row_3, row_s1, row_s2, row_s3, tl_der, tl_chk, tl_get, xg_0, xg_1, u_B_0, u_c_1_0, u_b_1_1, u_k_1_2, u_B_1, u_B_2, u_f_3_0, u_e_3_1, u_B_3, u_B_4, u_c_5_0, u_b_5_1, u_k_5_2, u_B_5, u_b_6_0, u_k_6_1, u_B_6, u_f_7_0, u_e_7_1, u_b_7_2, u_k_7_3, u_b_7_4, u_k_7_5, u_B_7, u_b_8_0, u_b_8_1, u_k_8_2, u_B_8, u_c_9_0, u_b_9_1, u_e_9_2, u_k_9_3, u_B_9, u_B_10, u_B_11, u_B_12, u_B_13, u_B_14, u_f_15_0, u_e_15_1, u_B_15, u_e_16_0, u_b_16_1, u_k_16_2, u_B_16, u_b_17_0, u_k_17_1, u_B_17, u_b_18_0, u_k_18_1, u_B_18, u_e_19_0, u_e_19_1, u_e_19_2, u_e_19_3, u_b_19_4, u_e_19_5, u_k_19_6, u_B_19, xx_0, xs_0_0, xh_0_0, xs_0_1, xh_0_1, xs_0_2, xh_0_2, xx_1, xs_1_0, xh_1_0, xs_1_1, xh_1_1, xs_1_2, xh_1_2, xx_2, xs_2_0, xh_2_0, xs_2_1, xh_2_1, xs_2_2, xh_2_2, decide_true, decide_false, Bool.not_true, Bool.not_false, beq_self_eq_true, eq_self, List.length_map])
/-! division -/
theorem rgC_0 (lo c : Int) : rangeC lo c 0 = [] := rfl
theorem rgC_s (lo c : Int) (n : Nat) : rangeC lo c (n + 1) = .int lo :: rangeC (lo + c) c n := by
  unfold rangeC
  rw [List.range_succ_eq_map, List.map_cons, List.map_map]
  congr 1
  · show D.int (lo + ((0 : Nat) : Int) * c) = _
    rw [show lo + ((0 : Nat) : Int) * c = lo by simp]
  · apply List.map_congr_left
    intro k _
    show D.int (lo + ((k + 1 : Nat) : Int) * c) = D.int (lo + c + (k : Nat) * c)
    congr 1
    rw [Int.natCast_add, Int.add_mul]
    show lo + (_ + 1 * c) = _
    omega
theorem st2a {P : List O} {a b c : O} : (P ++ [a, b]).set P.length c = P ++ [c, b] := by
  rw [List.set_append_right _ _ (Nat.le_refl _), Nat.sub_self]
  rfl
theorem st2b {P : List O} {a b c : O} : (P ++ [a, b]).set (P.length + 1) c = P ++ [a, c] := by
  rw [List.set_append_right _ _ (by omega), show P.length + 1 - P.length = 1 by omega]
  rfl
theorem gt2a {P : List O} {a b : O} : (P ++ [a, b])[P.length]? = some a := by
  rw [List.getElem?_append_right (Nat.le_refl _), Nat.sub_self]
  rfl
theorem gt2b {P : List O} {a b : O} : (P ++ [a, b])[P.length + 1]? = some b := by
  rw [List.getElem?_append_right (by omega), show P.length + 1 - P.length = 1 by omega]
  rfl
theorem der2a {P : List O} {l : List D} {b : O} {los : List Nat} : deref ⟨P ++ [.lst l, b], los⟩ (.ref P.length) = .lst l := der_ref (h := ⟨P ++ [.lst l, b], los⟩) gt2a
theorem der2b {P : List O} {l : List D} {a : O} {los : List Nat} : deref ⟨P ++ [a, .lst l], los⟩ (.ref (P.length + 1)) = .lst l := der_ref (h := ⟨P ++ [a, .lst l], los⟩) gt2b
theorem set2a {P : List O} {r : List Nat} {b : O} {los : List Nat} {i : Int} {k v : Nat} (e : i = (k : Int)) (hk : k < r.length) : setM (.ref P.length) (.int i) (.int (v : Nat)) ⟨P ++ [.lst (r.map dn), b], los⟩ = .ok () ⟨P ++ [.lst ((r.set k v).map dn), b], los⟩ := by
  subst e
  rw [setM_dat (l := r.map dn) (j := k) gt2a (by unfold ixOf; rw [if_pos (Int.natCast_nonneg k), List.length_map, if_pos (by omega)]; rfl) (by rw [map_set']; exact okL_dn _), map_set']
  show Res.ok () ⟨(P ++ [O.lst (r.map dn), b]).set P.length _, los⟩ = _
  rw [st2a]
theorem set2b {P : List O} {r : List Nat} {a : O} {los : List Nat} {i : Int} {k v : Nat} (e : i = (k : Int)) (hk : k < r.length) : setM (.ref (P.length + 1)) (.int i) (.int (v : Nat)) ⟨P ++ [a, .lst (r.map dn)], los⟩ = .ok () ⟨P ++ [a, .lst ((r.set k v).map dn)], los⟩ := by
  subst e
  rw [setM_dat (l := r.map dn) (j := k) gt2b (by unfold ixOf; rw [if_pos (Int.natCast_nonneg k), List.length_map, if_pos (by omega)]; rfl) (by rw [map_set']; exact okL_dn _), map_set']
  show Res.ok () ⟨(P ++ [a, O.lst (r.map dn)]).set (P.length + 1) _, los⟩ = _
  rw [st2b]
theorem binV_ml {x : List D} {k : Int} : binV .mul (.lst x) (.int k) = if (decide (k < 2 ^ 32) && decide (-(2 ^ 32) < k) && decide (x.length * k.toNat ≤ sizeL)) = true then some (.lst (rep x k)) else none := rfl
theorem mulZ {k : Nat} (h : k < 1000000) : binV .mul (.lst [.int 0]) (.int (k : Nat)) = some (.lst ((List.replicate k 0).map dn)) := by
  have e : rep [D.int 0] (k : Int) = (List.replicate k 0).map dn := by
    unfold rep
    rw [List.map_replicate, Int.toNat_natCast]
    exact List.flatten_replicate_singleton
  have c : (decide ((k : Int) < 2 ^ 32) && decide (-(2 ^ 32) < (k : Int)) && decide ([D.int 0].length * (k : Int).toNat ≤ sizeL)) = true := by
    rw [Bool.and_eq_true, Bool.and_eq_true]
    refine ⟨⟨decide_eq_true (by omega), decide_eq_true (by omega)⟩, decide_eq_true ?_⟩
    rw [Int.toNat_natCast]
    show 1 * k ≤ _
    unfold sizeL
    omega
  rw [← e, binV_ml, if_pos c]
section
variable {fuel n : Nat} {P : List O} {los : List Nat}
theorem l_8a {a0 a1 a3 a4 : Option D} {p f : Nat} (hf : f < pp) {C : Nat → List D → M D} {b : O} : ∀ (q : List Nat) (s : Nat) (r : List Nat) (w7 w8 : Option D), lo q → p + s + q.length ≤ r.length → ∃ x7 x8,
    forL xfF glF X2F subF fuel (.tup (.cons (.loc 7) (.cons (.loc 8) .nil))) b_8_0 C (enumL s (q.map dn)) [a0, a1, some (.ref P.length), a3, a4, some (.int (p : Nat)), some (.int (f : Nat)), w7, w8] ⟨P ++ [.lst (r.map dn), b], los⟩ =
    .nx [a0, a1, some (.ref P.length), a3, a4, some (.int (p : Nat)), some (.int (f : Nat)), x7, x8] ⟨P ++ [.lst ((sbl f (p + s) q r).map dn), b], los⟩
  | [], s, r, w7, w8, _, _ => ⟨w7, w8, rfl⟩
  | x :: q, s, r, w7, w8, hq, hl => by
    rw [List.length_cons] at hl
    obtain ⟨x7, x8, e⟩ := l_8a (a0 := a0) (a1 := a1) (a3 := a3) (a4 := a4) (p := p) hf (C := C) (b := b) q (s + 1) (r.set (p + s) (md (sr r (p + s) - f * x))) (some (.int (s : Nat))) (some (.int (x : Nat))) (fun o ho => hq o (List.mem_cons_of_mem _ ho)) (by rw [List.length_set]; omega)
    refine ⟨x7, x8, ?_⟩
    have ei : (p : Int) + (s : Int) = ((p + s : Nat) : Int) := by omega
    have hg := at_dn (os := r) (i := (p : Int) + (s : Int)) (k := p + s) ei (getD_some (by omega))
    have hs : ((r.getD (p + s) 0 : Nat) : Int) - (f : Int) * (x : Int) = sr r (p + s) - f * x := rfl
    show forL _ _ _ _ _ _ _ _ (.tup [.int (s : Nat), .int (x : Nat)] :: enumL (s + 1) (q.map dn)) _ _ = _
    rw [for_cons, show sbl f (p + s) (x :: q) r = sbl f (p + (s + 1)) q (r.set (p + s) (md (sr r (p + s) - f * x))) from rfl, ← e]
    push_cast [der2a, hg, v_mm (a := f) (b := x) hf, hs, v_md, set2a (P := P) (r := r) (b := b) (los := los) (i := (p : Int) + (s : Int)) (k := p + s) (v := md (sr r (p + s) - f * x)) ei (by omega)]
theorem l_8b {Q : List Nat} (hQ : lo Q) (hn : ntr Q) {a0 : Option D} {C : Nat → List D → M D} : ∀ (m : Nat) (r q : List Nat) (w5 w6 w7 w8 : Option D), (m = 0 ∨ m + Q.length ≤ r.length + 1) → m ≤ q.length → ∃ (x5 x6 x7 x8 : Option D) (q' : List Nat),
    forL xfF glF X2F subF fuel (.loc 5) b_8_1 C (rangeC ((m : Int) - 1) (-1) m) [a0, some (.tup (Q.map dn)), some (.ref P.length), some (.int (inv (Q.getD (Q.length - 1) 0) : Nat)), some (.ref (P.length + 1)), w5, w6, w7, w8] ⟨P ++ [.lst (r.map dn), .lst (q.map dn)], los⟩ =
    .nx [a0, some (.tup (Q.map dn)), some (.ref P.length), some (.int (inv (Q.getD (Q.length - 1) 0) : Nat)), some (.ref (P.length + 1)), x5, x6, x7, x8] ⟨P ++ [.lst ((dvl Q m r).map dn), .lst (q'.map dn)], los⟩ ∧ q'.length = q.length
  | 0, r, q, w5, w6, w7, w8, _, _ => ⟨w5, w6, w7, w8, q, rfl, rfl⟩
  | m + 1, r, q, w5, w6, w7, w8, h1, h2 => by
    have n0 := hn.1
    have h1 : m + 1 + Q.length ≤ r.length + 1 := h1.resolve_left (by omega)
    obtain ⟨y7, y8, e1⟩ := l_8a (fuel := fuel) (P := P) (los := los) (a0 := a0) (a1 := some (.tup (Q.map dn))) (a3 := some (.int (inv (Q.getD (Q.length - 1) 0) : Nat))) (a4 := some (.ref (P.length + 1))) (p := m) (f := fac Q r m) (md_lt _) (C := C) (b := .lst ((q.set m (fac Q r m)).map dn)) Q 0 r w7 w8 hQ (by omega)
    obtain ⟨x5, x6, x7, x8, q', e2, hq⟩ := l_8b hQ hn (a0 := a0) (C := C) m (sbl (fac Q r m) m Q r) (q.set m (fac Q r m)) (some (.int (m : Nat))) (some (.int (fac Q r m : Nat))) y7 y8 (.inr (by rw [sbl_len]; omega)) (by rw [List.length_set]; omega)
    refine ⟨x5, x6, x7, x8, q', ?_, by rw [hq, List.length_set]⟩
    have ei : (m : Int) + (Q.length : Int) - 1 = ((m + Q.length - 1 : Nat) : Int) := by omega
    have hg := at_dn (os := r) (i := (m : Int) + (Q.length : Int) - 1) (k := m + Q.length - 1) ei (getD_some (by omega))
    have hi : inv (Q.getD (Q.length - 1) 0) < pp := mod_lt' _
    have hx : md (((r.getD (m + Q.length - 1) 0 : Nat) : Int) * ((inv (Q.getD (Q.length - 1) 0) : Nat) : Int)) = fac Q r m := rfl
    rw [rgC_s, for_cons, show ((m + 1 : Nat) : Int) - 1 = (m : Int) by omega]
    push_cast [der2a, hg, v_mulR (i := ((r.getD (m + Q.length - 1) 0 : Nat) : Int)) (j := ((inv (Q.getD (Q.length - 1) 0) : Nat) : Int)) (by omega) (by have : inv (Q.getD (Q.length - 1) 0) < 2305843009213693951 := hi; omega), v_md, hx, set2b (P := P) (r := q) (a := .lst (r.map dn)) (los := los) (i := (m : Int)) (k := m) (v := fac Q r m) rfl (by omega), e1]
    exact e2
theorem t_8 {A Q : List Nat} (hA : lo A) (hQ : lo Q) (hn : ntr Q) (l1 : A.length ≤ 61) (l2 : Q.length ≤ 61) (hF : 200 ≤ fuel) : ∃ q : List Nat, evF GF xfF glF X2F subF fuel (n + 3) 8 [.tup (A.map dn), .tup (Q.map dn)] ⟨P, los⟩ = .ok (.tup [.tup (q.map dn), .tup ((rmd A Q).map dn)]) ⟨P, los⟩ := by
  obtain ⟨n0, n1⟩ := hn
  have hlast : Q.getD (Q.length - 1) 0 < pp := by
    rw [List.getD_eq_getElem?_getD, List.getElem?_eq_getElem (by omega)]
    exact hQ _ (List.getElem_mem _)
  have e2 := t_2 (fuel := fuel) (n := n) (P := P ++ [.lst (A.map dn)]) (los := P.length :: los) hlast (by omega)
  obtain ⟨x5, x6, x7, x8, q, e8, hq⟩ := l_8b (fuel := fuel) (P := P) (los := P.length :: los) hQ ⟨n0, n1⟩ (a0 := some (.tup (A.map dn))) (C := evF GF xfF glF X2F subF fuel (n + 2)) (A.length + 1 - Q.length) A (List.replicate (A.length + 1 - Q.length) 0) none none none none (by omega) (by rw [List.length_replicate]; exact Nat.le_refl _)
  rw [List.length_replicate] at hq
  have hmax : (if (A.length : Int) - (Q.length : Int) + 1 > 0 then (A.length : Int) - (Q.length : Int) + 1 else 0) = ((A.length + 1 - Q.length : Nat) : Int) := by
    split <;> omega
  have t1 := t_5 (fuel := fuel) (n := n + 1) (P := P ++ [.lst ((dvl Q (A.length + 1 - Q.length) A).map dn), .lst (q.map dn)]) (los := P.length :: los) (v := .ref (P.length + 1)) (l := q) der2b (by omega) (by omega)
  have t2 := t_5 (fuel := fuel) (n := n + 1) (P := P ++ [.lst ((dvl Q (A.length + 1 - Q.length) A).map dn), .lst (q.map dn)]) (los := P.length :: los) (v := .ref P.length) (l := dvl Q (A.length + 1 - Q.length) A) der2a (by rw [dvl_len]; omega) (by omega)
  have hs : (P ++ [O.lst (A.map dn)]).length = P.length + 1 := by rw [List.length_append]; rfl
  have ha : ∀ x : O, (P ++ [O.lst (A.map dn)]) ++ [x] = P ++ [.lst (A.map dn), x] := fun x => by rw [List.append_assoc]; rfl
  have hc : ((A.length + 1 - Q.length : Nat) : Int) - 1 - -1 = ((A.length + 1 - Q.length : Nat) : Int) := by omega
  refine ⟨trm q, ?_⟩
  rw [r_8]
  push_cast [at_last n0, e2, hmax, mulZ (k := A.length + 1 - Q.length) (by omega), hs, ha, der2b, List.length_replicate, rg3R_down (i := ((A.length + 1 - Q.length : Nat) : Int) - 1) (j := -1) (by unfold small62; rw [decide_eq_true (by omega), decide_eq_true (by omega)]; rfl) (by decide), hc, Int.toNat_natCast, e8, t1, t2]
  refine (fin_ret ?_).trans ?_
  · show (okD (.tup _) && (okD (.tup _) && okL [])) = true
    rw [okT_dn, okT_dn]
    rfl
  · rw [List.take_left]
    rfl
end
end EV

namespace EV
open PySem
local macro_rules
  | `(tactic| push_cast [$xs,*]) => `(tactic| simp -implicitDefEqProofs only [$xs,*, an_ok, an_err, an_stk, aS_ok, aS_err, aS_stk, sq_nx, sq_stk, sq_err, sq_ret, sq_bk, sq_ct, tn_nx, tn_stk, tn_err, tn_ret, tn_bk, tn_ct, cnd_t, cnd_f, ofO_some, chkL_0, chkL_1, chkL_2, chkL_3, chkL_4, chkL_5, chkL_6, chkL_7, chkL_8, chkL_9, chkL_10, chkL_11, chkL_12, chkL_13, chkL_14, chkL_15, chkL_16, chkL_17, chkL_18, chkL_19, chkL_20, x_loc0, x_loc1, x_loc2, x_loc3, x_loc4, x_loc5, x_loc6, x_loc7, x_loc8, x_loc9, x_loc10, x_loc11, x_loc12, x_con, x_fnv, x_nil, x_cons, x_tup, x_lst, mkR_lst, x_mk, x_bin, cmR_some, x_cmp, isT_t, x_chn, ngR_int, x_neg, x_not, x_and, x_or, x_ite, x_idx, x_pnil, inR_int, x_pcons, x_slc, x_call, x_bif, x_met, x_isi, x_rem, x_six, x_joi, strM_s, sixM_s, joinM_s, joinV_l, joinV_t, mpO_s, x_comp, lsT_some, x_cnil, x_ccons, x_lrn, wipe_nil, x_rng1, x_rng2, x_rng3, reR_l, reR_t, x_rev, enR_l, enR_t, x_enm, zpR_l, zpR_t, x_zip, sqR_lst, sqR_tup, sqR_str, x_sq, der_non, der_bl, der_int, der_str, der_tup, der_lst, der_0, v_add, v_bxor, v_band, v_sub, c_eq, c_ne, c_lt, c_le, c_gt, c_ge, c_eqS, c_neS, c_eqB, c_neB, eqL_nn, eqL_cn, c_isN, c_isnN, tr_bl, tr_int, tr_tup, tr_lst, tr_non, ix_tup, ix_lst, sl_tup, sl_lst, mp_nil, mp_cons, b_lenT, b_lenL, b_int, b_intB, b_abs, b_max, b_min, b_tupL, b_tupT, b_lstL, b_lstT, is_int, is_bl, is_str, is_tup, is_lst, is_non, ty_int_int, ty_bool_int, ty_str_int, ty_tuple_int, ty_list_int, ty_dict_int, ty_int_bool, ty_bool_bool, ty_str_bool, ty_tuple_bool, ty_list_bool, ty_dict_bool, ty_int_str, ty_bool_str, ty_str_str, ty_tuple_str, ty_list_str, ty_dict_str, ty_int_tuple, ty_bool_tuple, ty_str_tuple, ty_tuple_tuple, ty_list_tuple, ty_dict_tuple, ty_int_list, ty_bool_list, ty_str_list, ty_tuple_list, ty_list_list, ty_dict_list, ty_int_dict, ty_bool_dict, ty_str_dict, ty_tuple_dict, ty_list_dict, ty_dict_dict, ty_tl_int, ty_tl_bool, ty_tl_str, ty_tl_tuple, ty_tl_list, ty_tl_dict, s_nil, s_cons, bdR_some, s_asg, s_par, t_tup, t_nil, s_setx, s_augx, s_unp, unp_lst, s_ex, s_ret, s_retN, s_ite, s_whl, s_for, for_nil, s_forE, s_brk, s_cnt, s_pas, rsR_some, s_rse, tr_nx, tr_stk, tr_err, tr_ret, tr_bk, tr_ct, us_nx, us_nx0, us_ret, prR_some, pre_none, cat3_t, cat3_f, s_try, t_loc0, t_cons0, x_clv0, s_aug0, pre0, set0, t_loc1, t_cons1, x_clv1, s_aug1, pre1, set1, t_loc2, t_cons2, x_clv2, s_aug2, pre2, set2, t_loc3, t_cons3, x_clv3, s_aug3, pre3, set3, t_loc4, t_cons4, x_clv4, s_aug4, pre4, set4, t_loc5, t_cons5, x_clv5, s_aug5, pre5, set5, t_loc6, t_cons6, x_clv6, s_aug6, pre6, set6, t_loc7, t_cons7, x_clv7, s_aug7, pre7, set7, t_loc8, t_cons8, x_clv8, s_aug8, pre8, set8, t_loc9, t_cons9, x_clv9, s_aug9, pre9, set9, t_loc10, t_cons10, x_clv10, s_aug10, pre10, set10, t_loc11, t_cons11, x_clv11, s_aug11, pre11, set11, t_loc12, t_cons12, x_clv12, s_aug12, pre12, set12, g_add, g_bxor, g_band, g_sub, der_row, row_0, row_1, row_2, row_3, row_s1, row_s2, row_s3, tl_der, tl_chk, tl_get, xg_0, xg_1, u_B_0, u_c_1_0, u_b_1_1, u_k_1_2, u_B_1, u_B_2, u_f_3_0, u_e_3_1, u_B_3, u_B_4, u_c_5_0, u_b_5_1, u_k_5_2, u_B_5, u_b_6_0, u_k_6_1, u_B_6, u_f_7_0, u_e_7_1, u_b_7_2, u_k_7_3, u_b_7_4, u_k_7_5, u_B_7, u_b_8_0, u_b_8_1, u_k_8_2, u_B_8, u_c_9_0, u_b_9_1, u_e_9_2, u_k_9_3, u_B_9, u_B_10, u_B_11, u_B_12, u_B_13, u_B_14, u_f_15_0, u_e_15_1, u_B_15, u_e_16_0, u_b_16_1, u_k_16_2, u_B_16, u_b_17_0, u_k_17_1, u_B_17, u_b_18_0, u_k_18_1, u_B_18, u_e_19_0, u_e_19_1, u_e_19_2, u_e_19_3, u_b_19_4, u_e_19_5, u_k_19_6, u_B_19, xx_0, xs_0_0, xh_0_0, xs_0_1, xh_0_1, xs_0_2, xh_0_2, xx_1, xs_1_0, xh_1_0, xs_1_1, xh_1_1, xs_1_2, xh_1_2, xx_2, xs_2_0, xh_2_0, xs_2_1, xh_2_1, xs_2_2, xh_2_2, decide_true, decide_false, Bool.not_true, Bool.not_false, beq_self_eq_true, eq_self, List.length_map])
/-! the greatest common divisor -/
theorem at2_1 {x y : D} : atIx [x, y] 1 = some y := rfl
section
variable {fuel n : Nat} {P : List O} {los : List Nat}
theorem l_9 (hF : 200 ≤ fuel) : ∀ (k F : Nat) (A Q : List Nat), Q.length < k → k ≤ F → lo A → lo Q → ntr A → (Q ≠ [] → ntr Q) → A.length ≤ 61 → Q.length ≤ 61 →
    whl xfF glF X2F subF fuel c_9_0 b_9_1 (evF GF xfF glF X2F subF fuel (n + 3)) F [some (.tup (A.map dn)), some (.tup (Q.map dn)), none, none] ⟨P, los⟩ = .nx [some (.tup ((cg k A Q).map dn)), some (.tup []), none, none] ⟨P, los⟩
  | 0, _, _, _, h, _, _, _, _, _, _, _ => absurd h (by omega)
  | k + 1, 0, _, _, _, h, _, _, _, _, _, _ => absurd h (by omega)
  | k + 1, F + 1, A, Q, h1, h2, hA, hQ, nA, nQ, l1, l2 => by
    rw [whl_s, cg]
    by_cases c : Q = []
    · subst c
      push_cast [c_neE (a := []), List.map_nil, decide_eq_true (show ([] : List Nat) = [] from rfl), show cmpV .ne (.tup []) (.tup []) = some false from rfl]
      rw [if_pos trivial]
    · obtain ⟨q, e8⟩ := t_8 (fuel := fuel) (n := n) (P := P) (los := los) hA hQ (nQ c) l1 l2 hF
      have hl := rmd_len hA hQ (nQ c)
      have ih := l_9 hF k F Q (rmd A Q) (by omega) (by omega) hQ (rmd_lo Q hA) (nQ c) (fun z => trm_n _ z) l2 (by omega)
      rw [if_neg c, ← ih]
      push_cast [c_neE, decide_eq_false c, e8, at2_1, bdR_some]
theorem t_9 {A Q : List Nat} (hA : lo A) (hQ : lo Q) (nA : ntr A) (nQ : Q ≠ [] → ntr Q) (l1 : A.length ≤ 61) (l2 : Q.length ≤ 61) (hF : 200 ≤ fuel) : evF GF xfF glF X2F subF fuel (n + 4) 9 [.tup (A.map dn), .tup (Q.map dn)] ⟨P, los⟩ = .ok (.tup ((mon (cg 64 A Q)).map dn)) ⟨P, los⟩ := by
  obtain ⟨h1, h2, h3, _⟩ := cg_ok 64 A Q (by omega) hA hQ nA nQ
  have e := l_9 (fuel := fuel) (n := n) (P := P) (los := P.length :: los) hF 64 fuel A Q (by omega) (by omega) hA hQ nA nQ l1 l2
  generalize cg 64 A Q = Dd at h1 h2 h3 e
  have hlast : Dd.getD (Dd.length - 1) 0 < pp := by
    have := h2.1
    rw [List.getD_eq_getElem?_getD, List.getElem?_eq_getElem (by omega)]
    exact h1 _ (List.getElem_mem _)
  have e2 := t_2 (fuel := fuel) (n := n + 1) (P := P) (los := P.length :: los) hlast (by omega)
  have hi : inv (Dd.getD (Dd.length - 1) 0) < pp := mod_lt' _
  have ec : cmpr (evF GF xfF glF X2F subF fuel (n + 3)) glF e_9_2 (.loc 3) .nil [3] [some (.tup (Dd.map dn)), some (.tup []), some (.int (inv (Dd.getD (Dd.length - 1) 0) : Nat)), none] (Dd.map dn) ⟨P, P.length :: los⟩ = .ok ((mon Dd).map dn) ⟨P, P.length :: los⟩ := by
    unfold cmpr
    rw [mon, List.map_map]
    refine q_cmap (f := fun x : Nat => dn (md ((x : Int) * (inv (Dd.getD (Dd.length - 1) 0) : Nat)))) (fun x hx => ?_) (by unfold sizeL; omega)
    rw [ctn_eq]
    push_cast [wipeL, dn, v_mm (a := x) (b := inv (Dd.getD (Dd.length - 1) 0)) (h1 x hx), v_md]
  rw [r_9]
  push_cast [e, at_last h2.1, e2, ec]
  rw [fin_ret (okT_dn _), List.take_length]
theorem t_10 {A Q : List Nat} (hA : ply A) (hQ : ply Q) (c : A ≠ []) (hF : 200 ≤ fuel) : evF GF xfF glF X2F subF fuel (n + 5) 10 [.tup (A.map dn), .tup (Q.map dn)] ⟨P, los⟩ = .ok (.tup ((mon (cg 64 A Q)).map dn)) ⟨P, los⟩ := by
  have e1 := t_4 (fuel := fuel) (n := n + 1) (P := P) (los := P.length :: los) hA
  have e2 := t_4 (fuel := fuel) (n := n + 1) (P := P) (los := P.length :: los) hQ
  have e9 := t_9 (fuel := fuel) (n := n) (P := P) (los := P.length :: los) hA.1 hQ.1 (hA.2.2 c) hQ.2.2 hA.2.1 hQ.2.1 hF
  rw [r_10]
  push_cast [e1, e2, c_eqE, decide_eq_false c, e9]
  rw [fin_ret (okT_dn _), List.take_length]
theorem t_10z : evF GF xfF glF X2F subF fuel (n + 5) 10 [.tup [], .tup []] ⟨P, los⟩ = .ok (.tup []) ⟨P, los⟩ := by
  have e1 : evF GF xfF glF X2F subF fuel (n + 4) 4 [.tup []] ⟨P, P.length :: los⟩ = .ok .non ⟨P, P.length :: los⟩ := t_4 (n := n + 1) (l := []) ⟨(fun o ho => nomatch ho), Nat.zero_le _, fun z => absurd rfl z⟩
  rw [r_10]
  push_cast [e1, show cmpV .eq (.tup []) (.tup []) = some true from rfl]
  rw [fin_ret rfl, List.take_length]
end
end EV

namespace EV
open PySem
local macro_rules
  | `(tactic| push_cast [$xs,*]) => `(tactic| simp -implicitDefEqProofs only [$xs,*, an_ok, an_err, an_stk, aS_ok, aS_err, aS_stk, sq_nx, sq_stk, sq_err, sq_ret, sq_bk, sq_ct, tn_nx, tn_stk, tn_err, tn_ret, tn_bk, tn_ct, cnd_t, cnd_f, ofO_some, chkL_0, chkL_1, chkL_2, chkL_3, chkL_4, chkL_5, chkL_6, chkL_7, chkL_8, chkL_9, chkL_10, chkL_11, chkL_12, chkL_13, chkL_14, chkL_15, chkL_16, chkL_17, chkL_18, chkL_19, chkL_20, x_loc0, x_loc1, x_loc2, x_loc3, x_loc4, x_loc5, x_loc6, x_loc7, x_loc8, x_loc9, x_loc10, x_loc11, x_loc12, x_con, x_fnv, x_nil, x_cons, x_tup, x_lst, mkR_lst, x_mk, x_bin, cmR_some, x_cmp, isT_t, x_chn, ngR_int, x_neg, x_not, x_and, x_or, x_ite, x_idx, x_pnil, inR_int, x_pcons, x_slc, x_call, x_bif, x_met, x_isi, x_rem, x_six, x_joi, strM_s, sixM_s, joinM_s, joinV_l, joinV_t, mpO_s, x_comp, lsT_some, x_cnil, x_ccons, x_lrn, wipe_nil, x_rng1, x_rng2, x_rng3, reR_l, reR_t, x_rev, enR_l, enR_t, x_enm, zpR_l, zpR_t, x_zip, sqR_lst, sqR_tup, sqR_str, x_sq, der_non, der_bl, der_int, der_str, der_tup, der_lst, der_0, v_add, v_bxor, v_band, v_sub, c_eq, c_ne, c_lt, c_le, c_gt, c_ge, c_eqS, c_neS, c_eqB, c_neB, eqL_nn, eqL_cn, c_isN, c_isnN, tr_bl, tr_int, tr_tup, tr_lst, tr_non, ix_tup, ix_lst, sl_tup, sl_lst, mp_nil, mp_cons, b_lenT, b_lenL, b_int, b_intB, b_abs, b_max, b_min, b_tupL, b_tupT, b_lstL, b_lstT, is_int, is_bl, is_str, is_tup, is_lst, is_non, ty_int_int, ty_bool_int, ty_str_int, ty_tuple_int, ty_list_int, ty_dict_int, ty_int_bool, ty_bool_bool, ty_str_bool, ty_tuple_bool, ty_list_bool, ty_dict_bool, ty_int_str, ty_bool_str, ty_str_str, ty_tuple_str, ty_list_str, ty_dict_str, ty_int_tuple, ty_bool_tuple, ty_str_tuple, ty_tuple_tuple, ty_list_tuple, ty_dict_tuple, ty_int_list, ty_bool_list, ty_str_list, ty_tuple_list, ty_list_list, ty_dict_list, ty_int_dict, ty_bool_dict, ty_str_dict, ty_tuple_dict, ty_list_dict, ty_dict_dict, ty_tl_int, ty_tl_bool, ty_tl_str, ty_tl_tuple, ty_tl_list, ty_tl_dict, s_nil, s_cons, bdR_some, s_asg, s_par, t_tup, t_nil, s_setx, s_augx, s_unp, unp_lst, s_ex, s_ret, s_retN, s_ite, s_whl, s_for, for_nil, s_forE, s_brk, s_cnt, s_pas, rsR_some, s_rse, tr_nx, tr_stk, tr_err, tr_ret, tr_bk, tr_ct, us_nx, us_nx0, us_ret, prR_some, pre_none, cat3_t, cat3_f, s_try, t_loc0, t_cons0, x_clv0, s_aug0, pre0, set0, t_loc1, t_cons1, x_clv1, s_aug1, pre1, set1, t_loc2, t_cons2, x_clv2, s_aug2, pre2, set2, t_loc3, t_cons3, x_clv3, s_aug3, pre3, set3, t_loc4, t_cons4, x_clv4, s_aug4, pre4, set4, t_loc5, t_cons5, x_clv5, s_aug5, pre5, set5, t_loc6, t_cons6, x_clv6, s_aug6, pre6, set6, t_loc7, t_cons7, x_clv7, s_aug7, pre7, set7, t_loc8, t_cons8, x_clv8, s_aug8, pre8, set8, t_loc9, t_cons9, x_clv9, s_aug9, pre9, set9, t_loc10, t_cons10, x_clv10, s_aug10, pre10, set10, t_loc11, t_cons11, x_clv11, s_aug11, pre11, set11, t_loc12, t_cons12, x_clv12, s_aug12, pre12, set12, g_add, g_bxor, g_band, g_sub, der_row, row_0, row_1, row_2, row_3, row_s1, row_s2, row_s3, tl_der, tl_chk, tl_get, xg_0, xg_1, u_B_0, u_c_1_0, u_b_1_1, u_k_1_2, u_B_1, u_B_2, u_f_3_0, u_e_3_1, u_B_3, u_B_4, u_c_5_0, u_b_5_1, u_k_5_2, u_B_5, u_b_6_0, u_k_6_1, u_B_6, u_f_7_0, u_e_7_1, u_b_7_2, u_k_7_3, u_b_7_4, u_k_7_5, u_B_7, u_b_8_0, u_b_8_1, u_k_8_2, u_B_8, u_c_9_0, u_b_9_1, u_e_9_2, u_k_9_3, u_B_9, u_B_10, u_B_11, u_B_12, u_B_13, u_B_14, u_f_15_0, u_e_15_1, u_B_15, u_e_16_0, u_b_16_1, u_k_16_2, u_B_16, u_b_17_0, u_k_17_1, u_B_17, u_b_18_0, u_k_18_1, u_B_18, u_e_19_0, u_e_19_1, u_e_19_2, u_e_19_3, u_b_19_4, u_e_19_5, u_k_19_6, u_B_19, xx_0, xs_0_0, xh_0_0, xs_0_1, xh_0_1, xs_0_2, xh_0_2, xx_1, xs_1_0, xh_1_0, xs_1_1, xh_1_1, xs_1_2, xh_1_2, xx_2, xs_2_0, xh_2_0, xs_2_1, xh_2_1, xs_2_2, xh_2_2, decide_true, decide_false, Bool.not_true, Bool.not_false, beq_self_eq_true, eq_self, List.length_map])
/-! the law -/
theorem eqN_int (r : Nat) : ∀ l : List Nat, ((l.map dn).any fun z => eqD z (.int (r : Nat))) = decide (r ∈ l)
  | [] => rfl
  | a :: l => by
    rw [List.map_cons, List.any_cons, eqN_int r l]
    show (decide ((a : Int) = (r : Int)) || decide (r ∈ l)) = _
    rw [← Bool.decide_or]
    apply decide_eq_decide.mpr
    constructor
    · rintro (z | z)
      · exact List.mem_cons.mpr (.inl (by omega))
      · exact List.mem_cons_of_mem _ z
    · intro z
      rcases List.mem_cons.mp z with z | z
      · exact .inl (by omega)
      · exact .inr z
theorem c_memN (r : Nat) (l : List Nat) : cmpV .mem (.int (r : Nat)) (.lst (l.map dn)) = some (decide (r ∈ l)) := by
  show memL (.int (r : Nat)) (l.map dn) = _
  unfold memL
  rw [dat_dn, if_pos (by rfl), eqN_int]
theorem intsL_dn : ∀ l : List Nat, intsL (l.map dn) = some (zL l)
  | [] => rfl
  | a :: l => by
    show (intsL (l.map dn)).map (fun m => (a : Int) :: m) = _
    rw [intsL_dn l]
    rfl
theorem zL_erase (r : Nat) : ∀ l : List Nat, ((zL l).erase (r : Int)).map D.int = (l.erase r).map dn
  | [] => rfl
  | a :: l => by
    show (((a : Int) :: zL l).erase (r : Int)).map D.int = _
    rw [List.erase_cons, List.erase_cons]
    by_cases c : a = r
    · rw [if_pos (by rw [c]; exact beq_self_eq_true _), if_pos (by rw [c]; exact beq_self_eq_true _)]
      unfold zL
      rw [List.map_map]
      rfl
    · rw [if_neg (by intro z; exact c (by have := eq_of_beq z; omega)), if_neg (by intro z; exact c (eq_of_beq z)), List.map_cons, zL_erase r l]
      rfl
theorem rem_N {P : List O} {l : List Nat} {los : List Nat} {r : Nat} (h : r ∈ l) : remM (.ref P.length) [.int (r : Nat)] ⟨P ++ [.lst (l.map dn)], los⟩ = .ok .non ⟨P ++ [.lst ((l.erase r).map dn)], los⟩ := by
  have hz : (r : Int) ∈ zL l := List.mem_map.mpr ⟨r, h, rfl⟩
  show (match (P ++ [O.lst (l.map dn)])[P.length]? with
    | some (O.lst m) => (match intsL m with
      | some ns => if decide ((r : Int) ∈ ns) then (setO P.length (O.lst ((ns.erase (r : Int)).map D.int)) >>= fun _ => pure D.non) (Hh.mk (P ++ [O.lst (l.map dn)]) los) else Res.stk
      | none => Res.stk)
    | _ => Res.stk) = _
  rw [show (P ++ [O.lst (l.map dn)])[P.length]? = some (O.lst (l.map dn)) by simp]
  show (match intsL (l.map dn) with
      | some ns => if decide ((r : Int) ∈ ns) then (setO P.length (O.lst ((ns.erase (r : Int)).map D.int)) >>= fun _ => pure D.non) (Hh.mk (P ++ [O.lst (l.map dn)]) los) else Res.stk
      | none => Res.stk) = _
  rw [intsL_dn]
  show (if decide ((r : Int) ∈ zL l) then (setO P.length (O.lst (((zL l).erase (r : Int)).map D.int)) >>= fun _ => pure D.non) (Hh.mk (P ++ [O.lst (l.map dn)]) los) else Res.stk) = _
  rw [if_pos (decide_eq_true hz), zL_erase, bind_ok (setO_dat (okL_dn _))]
  have e : (P ++ [O.lst (l.map dn)]).set P.length (O.lst ((l.erase r).map dn)) = P ++ [O.lst ((l.erase r).map dn)] := by simp
  show Res.ok D.non ⟨(P ++ [O.lst (l.map dn)]).set P.length (O.lst ((l.erase r).map dn)), los⟩ = _
  rw [e]
/-- the numbers, ascending -/
def srtN (l : List Nat) : List Nat := (sortI (zL l)).map Int.toNat
theorem srt_nn (l : List Nat) : ∀ x ∈ sortI (zL l), 0 ≤ x := fun x hx => by
  obtain ⟨n, _, rfl⟩ := List.mem_map.mp ((sortI_perm (zL l)).mem_iff.mp hx)
  exact Int.natCast_nonneg n
theorem srtN_dn (l : List Nat) : (sortI (zL l)).map D.int = (srtN l).map dn := by
  unfold srtN
  rw [List.map_map]
  apply List.map_congr_left
  intro x hx
  show D.int x = D.int (x.toNat : Int)
  rw [Int.toNat_of_nonneg (srt_nn l x hx)]
theorem srtN_perm (l : List Nat) : (srtN l).Perm l := by
  have h := (sortI_perm (zL l)).map Int.toNat
  have e : (zL l).map Int.toNat = l := by
    unfold zL
    rw [List.map_map]
    exact (List.map_congr_left fun x _ => Int.toNat_natCast x).trans (List.map_id' l)
  rw [e] at h
  exact h
theorem intsOf_dn : ∀ l : List Nat, intsOf (l.map dn) = some (zL l)
  | [] => rfl
  | a :: l => by
    show (intsOf (l.map dn)).map ((a : Int) :: ·) = _
    rw [intsOf_dn l]
    rfl
theorem b_srt (l : List Nat) : bifV .sorted [.lst (l.map dn)] = some (.lst ((srtN l).map dn)) := by
  show (intsOf (l.map dn)).map (fun ns => D.lst ((sortI ns).map .int)) = _
  rw [intsOf_dn]
  show some (D.lst ((sortI (zL l)).map .int)) = _
  rw [srtN_dn]
theorem fl_perm {a b : List Nat} (h : a.Perm b) : fl a = fl b := by
  refine list_eq (by rw [fl_len, fl_len, h.length_eq]) (fl_lo a) (fl_lo b) ?_
  refine (fl_sr a).trans (eqs.trans ?_ (fl_sr b).symm)
  exact .of (lin_perm (h.map fun n : Nat => (n : Int)))
def NP (d : D) : Prop := ∃ v : Nat, d = .int v ∧ v < pp
theorem np_ints : ∀ {l : List D}, (∀ d ∈ l, NP d) → ∃ ns : List Nat, l = ns.map dn ∧ lo ns
  | [], _ => ⟨[], rfl, fun o ho => nomatch ho⟩
  | d :: l, h => by
    obtain ⟨v, rfl, hv⟩ := h d (List.mem_cons_self ..)
    obtain ⟨ns, rfl, hn⟩ := np_ints fun d hd => h d (List.mem_cons_of_mem _ hd)
    refine ⟨v :: ns, rfl, fun o ho => ?_⟩
    rcases List.mem_cons.mp ho with z | z
    · exact z ▸ hv
    · exact hn o z
section
variable {fuel n : Nat} {P : List O} {los : List Nat}
theorem al_lst {l : List D} (hl : ∀ d ∈ l, AL fuel n d) (hs : l.length < 1000000) : AL fuel (n + 1) (.lst l) := fun P los => by
  rw [r_15]
  push_cast [rgR_int (small_nat (b := (l.length : Int)) (by omega) (by omega))]
  unfold cmpr
  rw [q_cnone fun d hd => ?_]
  · push_cast [c_eqL (l := []) (m := []) rfl rfl]
    rw [fin_ret rfl, List.take_length]
  · obtain ⟨k, hk, rfl⟩ := q_range hd
    have hk' : k < l.length := by omega
    rw [ctn_eq]
    push_cast [wipeL, Int.zero_add, at_nat (l := l) (i := (k : Int)) rfl hk', List.getElem?_eq_getElem hk', hl _ (List.getElem_mem hk') P (P.length :: los)]
theorem al_two {a b : D} (h1 : AL fuel n a) (h2 : AL fuel n b) : AL fuel (n + 1) (.lst [a, b]) := al_lst (fun d hd => by
  rcases List.mem_cons.mp hd with z | z
  · exact z ▸ h1
  · rw [List.mem_singleton] at z
    exact z ▸ h2) (by show 2 < 1000000; decide)
theorem t_13P {r : Rw} {R : List O} (hr : 0 ≤ r.ix) : ∃ (v : Nat) (r' : Rw), evF GF xfF glF X2F subF fuel (n + 1) 13 [.ref 0, .int 2305843009213693951] ⟨rowO r :: R, los⟩ = .ok (.int (v : Nat)) ⟨rowO r' :: R, los⟩ ∧ v < pp ∧ 0 ≤ r'.ix := by
  obtain ⟨v, r', e, v0, v1, q⟩ := t_13e (fuel := fuel) (n := n) (r := r) (R := R) (los := los) (m := 2305843009213693951) (by decide) (by decide) hr
  obtain ⟨v, rfl⟩ := Int.eq_ofNat_of_zero_le v0
  refine ⟨v, r', e, ?_, q⟩
  show v < 2305843009213693951
  omega
theorem t_13k {r : Rw} {R : List O} {m : Int} (h0 : 0 < m) (h1 : m < 18446744073709551616) (hr : 0 ≤ r.ix) : ∃ (v : Nat) (r' : Rw), evF GF xfF glF X2F subF fuel (n + 1) 13 [.ref 0, .int m] ⟨rowO r :: R, los⟩ = .ok (.int (v : Nat)) ⟨rowO r' :: R, los⟩ ∧ (v : Int) < m ∧ 0 ≤ r'.ix := by
  obtain ⟨v, r', e, v0, v1, q⟩ := t_13e (fuel := fuel) (n := n) (r := r) (R := R) (los := los) h0 h1 hr
  obtain ⟨v, rfl⟩ := Int.eq_ofNat_of_zero_le v0
  exact ⟨v, r', e, v1, q⟩
/-- the common roots, with what is left -/
theorem l_19 {r0 : O} {two : List Nat} {a0 a2 a4 a5 a6 a7 a11 a12 : Option D} {C : Nat → List D → M D} : ∀ (rs both left skip : List Nat) (w10 : Option D), two.Perm (both ++ left) → (∀ x ∈ skip, x ∉ left) → both.length + rs.length < 1000 → ∃ (both' left' skip' : List Nat) (x10 : Option D),
    forL xfF glF X2F subF fuel (.loc 10) b_19_4 C (rs.map dn) [a0, some (.ref 0), a2, none, a4, a5, a6, a7, some (.lst (both.map dn)), some (.ref 1), w10, a11, a12] ⟨[r0, .lst (left.map dn)], los⟩ =
    .nx [a0, some (.ref 0), a2, none, a4, a5, a6, a7, some (.lst (both'.map dn)), some (.ref 1), x10, a11, a12] ⟨[r0, .lst (left'.map dn)], los⟩ ∧ two.Perm (both' ++ left') ∧ (∀ x ∈ skip', x ∉ left') ∧ (both ++ skip ++ rs).Perm (both' ++ skip') ∧ both'.length < 1000
  | [], both, left, skip, w10, h1, h2, h3 => ⟨both, left, skip, w10, rfl, h1, h2, by rw [List.append_nil], by rw [List.length_nil] at h3; omega⟩
  | x :: rs, both, left, skip, w10, h1, h2, h3 => by
    rw [List.length_cons] at h3
    by_cases c : x ∈ left
    · have pe := List.perm_cons_erase c
      obtain ⟨b', l', s', x10, e, g1, g2, g3, g4⟩ := l_19 (r0 := r0) (two := two) (a0 := a0) (a2 := a2) (a4 := a4) (a5 := a5) (a6 := a6) (a7 := a7) (a11 := a11) (a12 := a12) (C := C) rs (both ++ [x]) (left.erase x) skip (some (.int (x : Nat))) (h1.trans (by
        rw [List.append_assoc]
        exact pe.append_left both)) (fun y hy z => h2 y hy (List.mem_of_mem_erase z)) (by rw [List.length_append, List.length_singleton]; omega)
      refine ⟨b', l', s', x10, ?_, g1, g2, ?_, g4⟩
      · have hd : deref ⟨[r0, .lst (left.map dn)], los⟩ (.ref 1) = .lst (left.map dn) := tl_der (P := [r0])
        have hc : chkM .append (.ref 1) ⟨[r0, .lst (left.map dn)], los⟩ = .ok () ⟨[r0, .lst (left.map dn)], los⟩ := tl_chk (P := [r0])
        have hr : remM (.ref 1) [.int (x : Nat)] ⟨[r0, .lst (left.map dn)], los⟩ = .ok .non ⟨[r0, .lst ((left.erase x).map dn)], los⟩ := rem_N (P := [r0]) c
        have ha : binV .add (.lst (both.map dn)) (.lst [.int (x : Nat)]) = some (.lst ((both ++ [x]).map dn)) := v_addNL (b := [x]) (by rw [List.length_singleton]; unfold sizeL; omega)
        rw [List.map_cons, for_cons]
        push_cast [dn, hd, c_memN, decide_eq_true c, ha, hc, hr]
        exact e
      · refine List.Perm.trans ?_ g3
        rw [List.append_assoc both [x] skip, List.append_assoc, List.append_assoc]
        refine List.Perm.append_left both ?_
        exact List.perm_middle
    · obtain ⟨b', l', s', x10, e, g1, g2, g3, g4⟩ := l_19 (r0 := r0) (two := two) (a0 := a0) (a2 := a2) (a4 := a4) (a5 := a5) (a6 := a6) (a7 := a7) (a11 := a11) (a12 := a12) (C := C) rs both left (x :: skip) (some (.int (x : Nat))) h1 (fun y hy => by
        rcases List.mem_cons.mp hy with z | z
        · exact z ▸ c
        · exact h2 y z) (by omega)
      refine ⟨b', l', s', x10, ?_, g1, g2, ?_, g4⟩
      · have hd : deref ⟨[r0, .lst (left.map dn)], los⟩ (.ref 1) = .lst (left.map dn) := tl_der (P := [r0])
        rw [List.map_cons, for_cons]
        push_cast [dn, hd, c_memN, decide_eq_false c]
        exact e
      · refine List.Perm.trans ?_ g3
        rw [List.append_assoc, List.append_assoc]
        refine List.Perm.append_left both ?_
        exact List.perm_middle
theorem row_6 {ns : List Int} : (O.lst [.lst (ns.map D.int), .int 0, .int 10706, .int 0]) = rowO ⟨ns, 0, 10706, 0⟩ := rfl
theorem ok_np {l : List Nat} (h : lo l) : ∀ d ∈ l.map dn, okD d = true ∧ NP d := fun d hd => by
  obtain ⟨o, ho, rfl⟩ := List.mem_map.mp hd
  exact ⟨rfl, o, rfl, h o ho⟩
/-- draws of numbers below the prime -/
theorem draws {ls : Ls} {r : Rw} {m : Nat} (h0 : 0 ≤ r.ix) (hm : m < 1000) (t : E) (own : List Nat) (e : E) (h : ∀ (d : D) (r : Rw), 0 ≤ r.ix → ∃ (v : Nat) (r' : Rw), ctn (evF GF xfF glF X2F subF fuel (n + 5)) glF e t .nil own ls d ⟨[rowO r], [0]⟩ = .ok (some (.int (v : Nat))) ⟨[rowO r'], [0]⟩ ∧ v < pp ∧ 0 ≤ r'.ix) :
    ∃ (ns : List Nat) (r' : Rw), cmpr (evF GF xfF glF X2F subF fuel (n + 5)) glF e t .nil own ls (rangeL 0 m) ⟨[rowO r], [0]⟩ = .ok (ns.map dn) ⟨[rowO r'], [0]⟩ ∧ lo ns ∧ ns.length = m ∧ 0 ≤ r'.ix := by
  obtain ⟨l, h', e1, p, hl, r', i1, q⟩ := q_comp (t := ctn (evF GF xfF glF X2F subF fuel (n + 5)) glF e t .nil own ls) (fun h => ∃ r' : Rw, h = ⟨[rowO r'], [0]⟩ ∧ 0 ≤ r'.ix) NP (l := rangeL 0 m) (n := 0) (h := ⟨[rowO r], [0]⟩) (fun d _ h' i => by
    obtain ⟨r1, i1, q1⟩ := i
    subst i1
    obtain ⟨v, r2, e2, v1, q2⟩ := h d r1 q1
    exact ⟨_, _, e2, ⟨v, rfl, v1⟩, r2, rfl, q2⟩) ⟨r, rfl, h0⟩ (by rw [rangeL_len]; unfold sizeL; omega)
  subst i1
  obtain ⟨ns, hn, hlo⟩ := np_ints p
  subst hn
  rw [List.length_map, rangeL_len] at hl
  exact ⟨ns, r', e1, hlo, hl, q⟩
theorem t_19 (hF : 200 ≤ fuel) (ns : List Int) : ∃ h', evF GF xfF glF X2F subF fuel (n + 6) 19 [.lst (ns.map D.int)] ⟨[], []⟩ = .ok (.bl true) h' := by
  have e12 : ∀ h : Hh, evF GF xfF glF X2F subF fuel (n + 5) 12 [] h = .ok (.int 2305843009213693951) h := fun h => t_12 (P := h.objs) (los := h.los)
  obtain ⟨ps, r1, c0, p1, p2, q1⟩ := draws (fuel := fuel) (n := n) (ls := [some (.lst (ns.map D.int)), some (.ref 0), none, none, none, none, none, none, none, none, none, none, none]) (r := ⟨ns, 0, 10706, 0⟩) (m := 6) (Int.le_refl 0) (by decide) (.loc 3) [3] e_19_0 (fun d r hr => by
    obtain ⟨v, r', e, v1, q⟩ := t_13P (fuel := fuel) (n := n + 4) (R := []) (los := [0]) hr
    refine ⟨v, r', ?_, v1, q⟩
    rw [ctn_eq]
    push_cast [wipeL, e12, e])
  have c0 : cmpr (evF GF xfF glF X2F subF fuel (n + 5)) glF e_19_0 (.loc 3) .nil [3] [some (.lst (ns.map D.int)), some (.ref 0), none, none, none, none, none, none, none, none, none, none, none] (rangeL 0 (6 : Int).toNat) ⟨[rowO ⟨ns, 0, 10706, 0⟩], [0]⟩ = .ok (ps.map dn) ⟨[rowO r1], [0]⟩ := c0
  have hpool : binV .add (.lst [.int 0, .int 1, .int (2305843009213693951 - 1)]) (.lst (ps.map dn)) = some (.lst (([0, 1, pp - 1] ++ ps).map dn)) := v_addNL (a := [0, 1, pp - 1]) (b := ps) (by show 3 + _ ≤ _; unfold sizeL; omega)
  have lpool : lo ([0, 1, pp - 1] ++ ps) := fun o ho => by
    rcases List.mem_append.mp ho with ho | ho
    · have : ∀ o ∈ [0, 1, pp - 1], o < pp := by decide
      exact this o ho
    · exact p1 o ho
  have kpool : ([0, 1, pp - 1] ++ ps).length = 9 := by rw [List.length_append, p2]; rfl
  generalize [0, 1, pp - 1] ++ ps = pool at hpool lpool kpool
  have pick : ∀ (r : Rw), 0 ≤ r.ix → ∃ (v : Nat) (r' : Rw), evF GF xfF glF X2F subF fuel (n + 5) 14 [.ref 0, .lst (pool.map dn)] ⟨[rowO r], [0]⟩ = .ok (.int (v : Nat)) ⟨[rowO r'], [0]⟩ ∧ v < pp ∧ 0 ≤ r'.ix := fun r hr => by
    obtain ⟨d, r', e, ⟨v, hd, hv⟩, q⟩ := t_14 (fuel := fuel) (n := n + 3) (r := r) (R := []) (los := [0]) (l := pool.map dn) (Q := NP) (by rw [List.length_map]; omega) (by rw [List.length_map]; omega) (ok_np lpool) hr
    subst hd
    exact ⟨v, r', e, hv, q⟩
  obtain ⟨m1, r2, e1, b1, q2⟩ := t_13k (fuel := fuel) (n := n + 4) (r := r1) (R := []) (los := [0]) (m := 9) (by decide) (by decide) q1
  obtain ⟨one, r3, c1, o1, o2, q3⟩ := draws (fuel := fuel) (n := n) (ls := [some (.lst (ns.map D.int)), some (.ref 0), some (.lst (pool.map dn)), none, none, none, none, none, none, none, none, none, none]) (r := r2) (m := m1) q2 (by omega) (.loc 3) [3] e_19_1 (fun d r hr => by
    obtain ⟨v, r', e, v1, q⟩ := pick r hr
    refine ⟨v, r', ?_, v1, q⟩
    rw [ctn_eq]
    push_cast [wipeL, e])
  obtain ⟨m2, r4, e2, b2, q4⟩ := t_13k (fuel := fuel) (n := n + 4) (r := r3) (R := []) (los := [0]) (m := 9) (by decide) (by decide) q3
  obtain ⟨two, r5, c2, w1, w2, q5⟩ := draws (fuel := fuel) (n := n) (ls := [some (.lst (ns.map D.int)), some (.ref 0), some (.lst (pool.map dn)), none, some (.lst (one.map dn)), none, none, none, none, none, none, none, none]) (r := r4) (m := m2) q4 (by omega) (.loc 3) [3] e_19_2 (fun d r hr => by
    obtain ⟨v, r', e, v1, q⟩ := pick r hr
    refine ⟨v, r', ?_, v1, q⟩
    rw [ctn_eq]
    push_cast [wipeL, e])
  have f1 := t_7 (fuel := fuel) (n := n + 3) (P := [rowO r5]) (los := [0]) o1 (by omega) hF
  have f2 := t_7 (fuel := fuel) (n := n + 3) (P := [rowO r5]) (los := [0]) w1 (by omega) hF
  have g1 := t_16 (fuel := fuel) (n := n + 3) (P := [rowO r5]) (los := [0]) o1 (by omega)
  have g2 := t_16 (fuel := fuel) (n := n + 3) (P := [rowO r5]) (los := [0]) w1 (by omega)
  have a1 := al_two (al_ns (fuel := fuel) (n := n + 2) (os := fl one) (by rw [fl_len]; omega)) (al_ns (fuel := fuel) (n := n + 2) (os := fl two) (by rw [fl_len]; omega)) [rowO r5] [0]
  obtain ⟨m3, r6, e3, b3, q6⟩ := t_13k (fuel := fuel) (n := n + 4) (r := r5) (R := []) (los := [0]) (m := 12) (by decide) (by decide) q5
  obtain ⟨py, r7, c3, y1, y2, q7⟩ := draws (fuel := fuel) (n := n) (ls := [some (.lst (ns.map D.int)), some (.ref 0), some (.lst (pool.map dn)), none, some (.lst (one.map dn)), some (.lst (two.map dn)), none, none, none, none, none, none, none]) (r := r6) (m := m3) q6 (by omega) (.loc 3) [3] e_19_3 (fun d r hr => by
    obtain ⟨v, r', e, v1, q⟩ := t_13P (fuel := fuel) (n := n + 4) (R := []) (los := [0]) hr
    refine ⟨v, r', ?_, v1, q⟩
    rw [ctn_eq]
    push_cast [wipeL, e12, e])
  obtain ⟨v, r8, e4, v1, q8⟩ := t_13k (fuel := fuel) (n := n + 4) (r := r7) (R := []) (los := [0]) (m := 2305843009213693951 - 1) (by decide) (by decide) q7
  have hpy : binV .add (.lst (py.map dn)) (.lst [.int (1 + (v : Int))]) = some (.lst ((py ++ [1 + v]).map dn)) := by
    have := v_addNL (a := py) (b := [1 + v]) (by rw [List.length_singleton]; unfold sizeL; omega)
    rw [← this]
    show _ = binV .add _ (.lst [.int ((1 + v : Nat) : Int)])
    rw [show ((1 + v : Nat) : Int) = 1 + (v : Int) by omega]
  have hlast : (py ++ [1 + v]).getD ((py ++ [1 + v]).length - 1) 0 = 1 + v := by
    rw [List.getD_eq_getElem?_getD, List.length_append, List.length_singleton, show py.length + 1 - 1 = py.length by omega, List.getElem?_append_right (Nat.le_refl _), Nat.sub_self]
    rfl
  have hpl : (py ++ [1 + v]).length = py.length + 1 := by rw [List.length_append, List.length_singleton]
  have hv : 1 + v < pp := by
    show 1 + v < 2305843009213693951
    omega
  have ppoly : ply (py ++ [1 + v]) := by
    refine ⟨fun o ho => ?_, by omega, fun _ => ⟨by omega, by rw [hlast]; omega⟩⟩
    rcases List.mem_append.mp ho with ho | ho
    · exact y1 o ho
    · rw [List.mem_singleton] at ho
      rw [ho]
      exact hv
  generalize hpp : py ++ [1 + v] = poly at hpy hlast hpl ppoly
  have hne : poly ≠ [] := fun z => by
    rw [z] at hpl
    cases hpl
  obtain ⟨pl, r9, e5, pl1, q9⟩ := pick r8 q8
  have f3 := t_11 (fuel := fuel) (n := n + 1) (P := [rowO r9]) (los := [0]) ppoly pl1
  have f4 : evF GF xfF glF X2F subF fuel (n + 5) 11 [.tup [], .int (pl : Nat)] ⟨[rowO r9], [0]⟩ = .ok (.int 0) ⟨[rowO r9], [0]⟩ := t_11 (n := n + 1) (l := []) ⟨(fun o ho => nomatch ho), Nat.zero_le _, fun z => absurd rfl z⟩ pl1
  have g3 := t_17 (fuel := fuel) (n := n + 3) (P := [rowO r9]) (los := [0]) ppoly.1 pl1
  have a2 := al_two (al_int (fuel := fuel) (n := n + 3) (vl pl poly : Nat)) (al_int (fuel := fuel) (n := n + 3) 0) [rowO r9] [0]
  obtain ⟨both, left, skip, x10, e6, h1, h2, h3, h4⟩ := l_19 (fuel := fuel) (los := [0]) (r0 := rowO r9) (two := two) (a0 := some (.lst (ns.map D.int))) (a2 := some (.lst (pool.map dn))) (a4 := some (.lst (one.map dn))) (a5 := some (.lst (two.map dn))) (a6 := some (.tup (poly.map dn))) (a7 := some (.int (pl : Nat))) (a11 := none) (a12 := none) (C := evF GF xfF glF X2F subF fuel (n + 5)) one [] two [] none (.refl _) (fun x hx => nomatch hx) (by rw [List.length_nil]; omega)
  have pone : one.Perm (both ++ skip) := h3
  have lb : lo both := fun o ho => o1 o (pone.mem_iff.mpr (List.mem_append_left _ ho))
  have lz : both.length ≤ 9 := by
    have := pone.length_eq
    rw [List.length_append] at this
    omega
  have hsp := srtN_perm both
  have lsr : lo (srtN both) := fun o ho => lb o (hsp.mem_iff.mp ho)
  have lsl : (srtN both).length ≤ 9 := by
    rw [hsp.length_eq]
    exact lz
  have i1 := t_16 (fuel := fuel) (n := n + 3) (P := [rowO r9, .lst (left.map dn)]) (los := [0]) o1 (by omega)
  have i2 := t_16 (fuel := fuel) (n := n + 3) (P := [rowO r9, .lst (left.map dn)]) (los := [0]) w1 (by omega)
  have i3 := t_16 (fuel := fuel) (n := n + 3) (P := [rowO r9, .lst (left.map dn)]) (los := [0]) lsr (by omega)
  have pfl : ∀ {l : List Nat}, l.length ≤ 9 → ply (fl l) := fun hl => ⟨fl_lo _, by rw [fl_len]; omega, fun _ => fl_ntr _⟩
  have i4 := t_10 (fuel := fuel) (n := n) (P := [rowO r9, .lst (left.map dn)]) (los := [0]) (A := fl one) (Q := fl two) (pfl (by omega)) (pfl (by omega)) (fun z => by
    have := fl_len one
    rw [z] at this
    cases this) hF
  rw [common_fl o1 w1 pone h1 h2 (by omega), ← fl_perm hsp] at i4
  have a3 := al_ns (fuel := fuel) (n := n + 3) (os := fl (srtN both)) (by rw [fl_len]; omega) [rowO r9, .lst (left.map dn)] [0]
  have i5 := t_18 (fuel := fuel) (n := n + 3) (P := [rowO r9, .lst (left.map dn)]) (los := [0]) (a := 1 + v) (m := pp - 2) hv (by decide)
  rw [show (((pp - 2 : Nat) : Nat) : Int) = 2305843009213693951 - 2 by decide] at i5
  have i5 : evF GF xfF glF X2F subF fuel (n + 5) 18 [.int (1 + v : Nat), .int (2305843009213693951 - 2)] ⟨[rowO r9, .lst (left.map dn)], [0]⟩ = .ok (.int (inv (1 + v) : Nat)) ⟨[rowO r9, .lst (left.map dn)], [0]⟩ := i5
  have i6 := t_10z (fuel := fuel) (n := n) (P := [rowO r9, .lst (left.map dn)]) (los := [0])
  have i7 : evF GF xfF glF X2F subF fuel (n + 5) 10 [.tup (poly.map dn), .tup []] ⟨[rowO r9, .lst (left.map dn)], [0]⟩ = .ok (.tup ((mon poly).map dn)) ⟨[rowO r9, .lst (left.map dn)], [0]⟩ := t_10 (Q := []) ppoly ⟨(fun o ho => nomatch ho), Nat.zero_le _, fun z => absurd rfl z⟩ hne hF
  have hi : inv (1 + v) < pp := mod_lt' _
  have c4 : cmpr (evF GF xfF glF X2F subF fuel (n + 5)) glF e_19_5 (.loc 12) .nil [12] [some (.lst (ns.map D.int)), some (.ref 0), some (.lst (pool.map dn)), none, some (.lst (one.map dn)), some (.lst (two.map dn)), some (.tup (poly.map dn)), some (.int (pl : Nat)), some (.lst (both.map dn)), some (.ref 1), x10, some (.int (inv (1 + v) : Nat)), none] (poly.map dn) ⟨[rowO r9, .lst (left.map dn)], [0]⟩ = .ok ((mon poly).map dn) ⟨[rowO r9, .lst (left.map dn)], [0]⟩ := by
    unfold cmpr
    rw [mon, List.map_map]
    refine q_cmap (f := fun x : Nat => dn (md ((x : Int) * (inv (poly.getD (poly.length - 1) 0) : Nat)))) (fun x hx => ?_) (by have := ppoly.2.1; unfold sizeL; omega)
    rw [ctn_eq, hlast]
    push_cast [wipeL, dn, v_mm (a := x) (b := inv (1 + v)) (ppoly.1 x hx), e12, v_md]
  have hl0 := at_last (os := poly) (by omega)
  rw [hlast] at hl0
  refine ⟨⟨[], []⟩, ?_⟩
  rw [r_19]
  push_cast [List.length_nil, List.nil_append, row_6, e12, rgR_int (i := 6) (by decide), c0, hpool, e1, rgR_int (i := (m1 : Int)) (small_nat (by omega) (by omega)), Int.toNat_natCast, c1, e2, rgR_int (i := (m2 : Int)) (small_nat (by omega) (by omega)), c2, f1, f2, g1, g2, a1, e3, rgR_int (i := (m3 : Int)) (small_nat (by omega) (by omega)), c3, e4, hpy, e5, f3, f4, g3, a2]
  have e6 : forL xfF glF X2F subF fuel (.loc 10) b_19_4 (evF GF xfF glF X2F subF fuel (n + 5)) (one.map dn) [some (.lst (ns.map D.int)), some (.ref 0), some (.lst (pool.map dn)), none, some (.lst (one.map dn)), some (.lst (two.map dn)), some (.tup (poly.map dn)), some (.int (pl : Nat)), some (.lst []), some (.ref [rowO r9].length), none, none, none] ⟨[rowO r9] ++ [.lst (two.map dn)], [0]⟩ =
    .nx [some (.lst (ns.map D.int)), some (.ref 0), some (.lst (pool.map dn)), none, some (.lst (one.map dn)), some (.lst (two.map dn)), some (.tup (poly.map dn)), some (.int (pl : Nat)), some (.lst (both.map dn)), some (.ref 1), x10, none, none] ⟨[rowO r9, .lst (left.map dn)], [0]⟩ := e6
  push_cast [e6, i1, i2, b_srt, i3, i4, a3, hl0, e12, i5, i6, show cmpV .eq (.tup []) (.tup []) = some true from rfl, i7, c4, c_eqNT]
  exact fin_ret (objs := []) (objs' := [rowO r9, .lst (left.map dn)]) (los := []) rfl
end
end EV

open PySem PySem.Spec PySem.W PySem.Calls PyProof.Rows L2
namespace EV
abbrev RQ := view (OpenLaw.row PySem.Challenge.rw_meetstores_k06_whole_polynomials).prog [28]
abbrev RD := HandSHeadRun.topDef (OpenLaw.row PySem.Challenge.rw_meetstores_k06_whole_polynomials).prog 28
theorem z1 : opening RR.prog = plainProg RR.prog.main.scope.names := by kernel_rfl
theorem z2 : ∀ s, fenceModules? RR.prog s = some s := fun s => by kernel_rfl
theorem z3 : W.defOf RQ RR.name = some (RD, []) := by kernel_rfl
theorem z4 : RR.prog.theDef RR.name = some (RD.params, RD.body, RD.scope) := by kernel_rfl
theorem z5 : W.kwWritten? RD.params.kwonlyargs RD.params.kw_defaults = some [] := by kernel_rfl
theorem z6 : (!RR.writes || RR.records.isEmpty) = true := by kernel_rfl
theorem z7 : RR.wellSaid = true := by decide +kernel
theorem z8 : (chainsOk RQ && opensWell RR.prog && (frees RR.toRowW && RR.within.isEmpty)) = true := by decide +kernel
theorem z9 : RR.prog.bare := ⟨rfl, rfl, rfl, rfl, rfl, by decide +kernel⟩
theorem RHold (hw : RR.toRowW.promised) (hc : WalkO RQ nmL (XL RQ []) hkR.says RR.toRowW RD [] fun f vs => PySem.call f vs) : RR.Holds :=
  HandSHeadRun.head_any (r := RR) (q := RQ) (H := hkR) (ob := obR) (M := 6000) (loose := nmL) (d := RD) (kwd := []) obR_eq z1 z2 runR z3 z4 z5 z6 z7 z8 z9 hw hc
theorem RN : RD.name = "law" := by kernel_rfl
theorem RP : RD.params.defaults = [] := by kernel_rfl
theorem RC : WalkO RQ nmL (XL RQ []) hkR.says RR.toRowW RD [] fun f vs => PySem.call f vs := by
  refine end_law (l := PySem.Challenge.rw_meetstores_k06_whole_polynomials) (k := 2 * 6) (x := "_law_script") rfl RP ⟨rfl, by decide, by decide⟩ ?F
  intro w mg fa h Y G hmg
  rw [RN] at hmg
  exact law_F (fuel := 200) (n := 6) (fun ns _ _ => t_19 (n := 0) (by decide) ns) Y G hmg
theorem RHolds : RR.Holds := RHold (by w_witness2) RC
end EV
theorem PySem.Challenge.cw_meetstores_k06_whole_polynomials_holds : PySem.Challenge.rw_meetstores_k06_whole_polynomials.Holds := by
  w_on
  o_law
  exact EV.RHolds

