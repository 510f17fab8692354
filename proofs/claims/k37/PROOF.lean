import PyProof.Rows.All
import Wide.All
import OpenK.AllK
import Wide.FinOn
import HandS.ForMost
import HandS.Flow
import HandS.Style
import HandS.IsInst
import HandS.Wide
import HandS.WideBits
import HandS.Conv
import HandS.Deep
import HandS.Zip
import HandS.ForExc
import HandS.CallSlots
import HandS.Defaults
import HandS.HeadHook1
import HandS.HeadHook2
import HandS.HeadEnd
import HandS.HeadWalk
import HandS.Head0
import HandS.Head1
import HandS.Head2
import Lean
import KE.KStateDown
import PySem.Challenge.RW_weavestore_k37_whole_lives_of_rings
set_option Elab.async false
set_option linter.all false
set_option maxRecDepth 100000
set_option maxHeartbeats 0
/-! A small machine of our own: Python's values as trees over a list of changeable objects; codes that it runs. -/
namespace AM
open PySem L2

inductive Ty where | tl | tt | td | ti | tb | ts
inductive Vl where
  | non | bl (b : Bool) | int (i : Int) | str (s : Str) | tup (xs : List Vl) | rol (xs : List Vl) | ref (i : Nat) | ty (t : Ty)
inductive Ob where
  | lst (xs : List Vl) | dct (kvs : List (Key × Vl))
abbrev SH := List Ob
inductive Rs (α : Type) where
  | ok (a : α) (h : SH) | ex (c : Nat) (v : Vl) (h : SH) | no
abbrev M (α : Type) := SH → Rs α
abbrev En := List (Option Vl)
def ret {α : Type} (a : α) : M α := fun h => .ok a h
def fail {α : Type} : M α := fun _ => .no
def bind {α β : Type} (m : M α) (f : α → M β) : M β := fun h => match m h with
  | .ok a h' => f a h'
  | .ex c v h' => .ex c v h'
  | .no => .no
theorem bind_ok {α β : Type} {m : M α} {f : α → M β} {h h' : SH} {a : α} (e : m h = .ok a h') : bind m f h = f a h' := by unfold bind; rw [e]
theorem bind_ex {α β : Type} {m : M α} {f : α → M β} {h h' : SH} {c : Nat} {v : Vl} (e : m h = .ex c v h') : bind m f h = .ex c v h' := by unfold bind; rw [e]
theorem bind_no {α β : Type} {m : M α} {f : α → M β} {h : SH} (e : m h = .no) : bind m f h = .no := by unfold bind; rw [e]
def alloc (o : Ob) : M Vl := fun h => .ok (.ref h.length) (h ++ [o])
def lim : Nat := 100000
inductive Fl where
  | nx (σ : En) | rt (v : Vl) | bk (σ : En) | ct (σ : En) | xc (c : Nat) (v : Vl) (σ : En)
/-- an expression within a statement -/
def lift {α : Type} (σ : En) (m : M α) (f : α → M Fl) : M Fl := fun h => match m h with
  | .ok a h' => f a h'
  | .ex c v h' => .ok (.xc c v σ) h'
  | .no => .no
/-- what may not raise -/
def noEx {α : Type} (m : M α) : M α := fun h => match m h with
  | .ok a h' => .ok a h'
  | _ => .no
def andThen (m : M Fl) (f : En → M Fl) : M Fl := fun h => match m h with
  | .ok (.nx σ) h' => f σ h'
  | r => r

inductive Bop where | add | sub | mul | mod | fdv | pow
inductive Cop where | eq | ne | lt | le | gt | ge | inn | nin
inductive Bi where | len | isi | intc | sum | max | min | lst | all | any | tupc
inductive Mt where | append | bits | count
mutual
inductive E where
  | var (i : Nat) | non | bl (b : Bool) | int (i : Int) | str (s : Str) | ty (t : Ty)
  | tup (es : List E) | lst (es : List E) | dct0
  | bin (op : Bop) (a b : E) | neg (a : E) | not (a : E) | and (a b : E) | or (a b : E)
  | cmp (op : Cop) (a b : E) | isN (a : E) | ntN (a : E) | isB (a : E) (b : Bool) | ntB (a : E) (b : Bool) | cmp2 (op op2 : Cop) (a b c : E)
  | ife (c a b : E) | call (g : Nat) (es : List E) | bi (b : Bi) (es : List E) | mt (m : Mt) (o : E) (es : List E)
  | idx (a b : E) | slc (a : E) (lo hi : Option E)
  | lc (own : List Nat) (g : Tg) (it : It) (c : Option E) (e : E)
  | lrng (a b : E)
inductive It where
  | seq (e : E) | rng1 (a : E) | rng2 (a b : E) | enum (e : E) | zip (a b : E)
inductive Tg where
  | nm (i : Nat) | tup (ts : List Tg) | sub (o i : E)
end
mutual
def tgIx : Tg → List Nat
  | .nm i => [i]
  | .tup ts => tgIxs ts
  | .sub _ _ => []
def tgIxs : List Tg → List Nat
  | [] => []
  | t :: ts => tgIx t ++ tgIxs ts
end
inductive S where
  | asg (t : Tg) (e : E) | asg2 (t u : Tg) (e : E) | asg3 (t u w : Tg) (e : E) | par2 (i j : Nat) (a b : E) | par3 (i j k : Nat) (a b c : E)
  | aug (i : Nat) (op : Bop) (e : E) | expr (e : E) | ret (e : E) | retN | iff (c : E) (a b : List S)
  | for_ (g : Tg) (it : It) (b : List S) | while_ (c : E) (b : List S) | pass | brk | cnt | never

/-! ### what operations do -/
instance (i j : Int) : Decidable (CMul i j) := by unfold CMul; infer_instance
instance (i j : Int) : Decidable (CMulX i j) := by unfold CMulX; infer_instance
instance (i j : Int) : Decidable (CDiv i j) := by unfold CDiv; infer_instance
instance (i j : Int) : Decidable (CDivW i j) := by unfold CDivW; infer_instance
def addV : Vl → Vl → M Vl
  | .int i, .int j => ret (.int (i + j))
  | .str a, .str b => if a.length + b.length ≤ lim then ret (.str (a ++ b)) else fail
  | .ref i, .ref j => fun h => match h[i]?, h[j]? with
    | some (.lst xs), some (.lst ys) => if xs.length + ys.length ≤ lim then alloc (.lst (xs ++ ys)) h else .no
    | _, _ => .no
  | _, _ => fail
def subV : Vl → Vl → M Vl
  | .int i, .int j => ret (.int (i - j))
  | _, _ => fail
def mulV : Vl → Vl → M Vl
  | .int i, .int j => if CMul i j ∨ CMulX i j then ret (.int (i * j)) else fail
  | .ref i, .int k => fun h => match h[i]? with
    | some (.lst xs) => if -(2 ^ 63) ≤ k ∧ k < 2 ^ 63 ∧ xs.length * k.toNat ≤ lim then alloc (.lst (List.replicate k.toNat xs).flatten) h else .no
    | _ => .no
  | _, _ => fail
def modV : Vl → Vl → M Vl
  | .int i, .int j => if 0 < j then ret (.int (i % j)) else fail
  | _, _ => fail
def fdvV : Vl → Vl → M Vl
  | .int i, .int j => if CDiv i j ∨ CDivW i j then ret (.int (i / j)) else fail
  | _, _ => fail
def CPw (i j : Int) : Prop := 0 ≤ j ∧ (Builtin.Int.intBits i : Int) * j ≤ 2 ^ 27
instance (i j : Int) : Decidable (CPw i j) := by unfold CPw; infer_instance
def powV : Vl → Vl → M Vl
  | .int i, .int j => if CPw i j then ret (.int (i ^ j.toNat)) else fail
  | _, _ => fail
def bopV : Bop → Vl → Vl → M Vl
  | .add => addV | .sub => subV | .mul => mulV | .mod => modV | .fdv => fdvV | .pow => powV
mutual
/-- a value as data -/
def data (h : SH) : Nat → Vl → Option PyData
  | _, .non => some .none
  | _, .bl b => some (.bool b)
  | _, .int i => some (.int i)
  | _, .str s => some (.str s)
  | 0, _ => none
  | n + 1, .tup xs => (datas h n xs).map .tuple
  | n + 1, .rol xs => (datas h n xs).map .list
  | n + 1, .ref i => match h[i]? with
    | some (.lst xs) => (datas h n xs).map .list
    | _ => none
  | _ + 1, .ty _ => none
def datas (h : SH) : Nat → List Vl → Option (List PyData)
  | _, [] => some []
  | 0, _ :: _ => none
  | n + 1, x :: xs => match data h n x, datas h n xs with
    | some d, some ds => some (d :: ds)
    | _, _ => none
end
def eqD (h : SH) (a b : Vl) : Option Bool := match data h lim a, data h lim b with
  | some d, some e => if SeqAt.shaped d = true ∧ SeqAt.shaped e = true then some (PyData.eqv d e) else none
  | _, _ => none
def flatL : Vl → Bool
  | .non => true | .bl _ => true | .int _ => true | .str _ => true | _ => false
def eqL : Vl → Vl → Bool
  | .non, .non => true
  | .bl a, .bl b => a == b
  | .bl a, .int b => (if a then 1 else 0) == b
  | .int a, .bl b => a == (if b then 1 else 0)
  | .int a, .int b => a == b
  | .str a, .str b => a == b
  | _, _ => false
def keyOf : Vl → Option Key
  | .int i => some (.inl i)
  | .str s => some (.inr s)
  | _ => none
def valL (kvs : List (Key × Vl)) (k : Key) : Option Vl := (kvs.find? fun kv => decide (kv.1 = k)).map (·.2)
def putL (kvs : List (Key × Vl)) (k : Key) (v : Vl) : List (Key × Vl) :=
  if (kvs.any fun kv => decide (kv.1 = k)) = true then kvs.map fun kv => if kv.1 = k then (kv.1, v) else kv else kvs ++ [(k, v)]
/-- x in o -/
def hasV (x o : Vl) : M Bool := fun h => match o with
  | .tup xs => if flatL x = true ∧ xs.all flatL = true then .ok (xs.any fun y => eqL y x) h else .no
  | .rol xs => if flatL x = true ∧ xs.all flatL = true then .ok (xs.any fun y => eqL y x) h else .no
  | .ref i => match h[i]? with
    | some (.lst xs) => if flatL x = true ∧ xs.all flatL = true then .ok (xs.any fun y => eqL y x) h else .no
    | some (.dct kvs) => match keyOf x with
      | some k => .ok (valL kvs k).isSome h
      | none => .no
    | none => .no
  | _ => .no
def copV : Cop → Vl → Vl → M Bool
  | .eq, a, b => fun h => match eqD h a b with
    | some r => .ok r h
    | none => .no
  | .ne, a, b => fun h => match eqD h a b with
    | some r => .ok (!r) h
    | none => .no
  | .lt, .int i, .int j => ret (decide (i < j))
  | .le, .int i, .int j => ret (decide (i ≤ j))
  | .gt, .int i, .int j => ret (decide (j < i))
  | .ge, .int i, .int j => ret (decide (j ≤ i))
  | .inn, a, b => hasV a b
  | .nin, a, b => bind (hasV a b) fun r => ret (!r)
  | _, _, _ => fail
def truth : Vl → M Bool
  | .non => ret false
  | .bl b => ret b
  | .int i => ret (i != 0)
  | .str s => if s.length ≤ lim then ret ((s.length : Int) != 0) else fail
  | .tup xs => ret (!xs.isEmpty)
  | .rol xs => ret (!xs.isEmpty)
  | .ref i => fun h => match h[i]? with
    | some (.lst xs) => .ok (!xs.isEmpty) h
    | some (.dct kvs) => .ok (!kvs.isEmpty) h
    | none => .no
  | _ => fail
/-- the items of a list -/
def litems (h : SH) : Vl → Option (List Vl)
  | .rol xs => some xs
  | .ref i => match h[i]? with
    | some (.lst xs) => some xs
    | _ => none
  | _ => none
/-- the items of a list or tuple -/
def items (h : SH) : Vl → Option (List Vl)
  | .tup xs => some xs
  | .rol xs => some xs
  | .ref i => match h[i]? with
    | some (.lst xs) => some xs
    | _ => none
  | _ => none
def idxV (o i : Vl) : M Vl := fun h => match i with
  | .int k => match items h o with
    | some xs => match atI xs k with
      | some v => .ok v h
      | none => .no
    | none => match o with
      | .ref a => match h[a]? with
        | some (.dct kvs) => match valL kvs (.inl k) with
          | some v => .ok v h
          | none => .no
        | _ => .no
      | _ => .no
  | .str k => match o with
    | .ref a => match h[a]? with
      | some (.dct kvs) => match valL kvs (.inr k) with
        | some v => .ok v h
        | none => .no
      | _ => .no
    | _ => .no
  | _ => .no
def cutL (xs : List Vl) (lo hi : Option Int) : List Vl := (xs.drop (HT.sIx xs.length 0 lo)).take (HT.sIx xs.length xs.length hi - HT.sIx xs.length 0 lo)
def slcV (o : Vl) (lo hi : Option Int) : M Vl := fun h => match o with
  | .tup xs => if HT.sIx xs.length 0 lo = 0 ∧ HT.sIx xs.length xs.length hi = xs.length then .no else .ok (.tup (cutL xs lo hi)) h
  | .rol xs => alloc (.lst (cutL xs lo hi)) h
  | .ref i => match h[i]? with
    | some (.lst xs) => alloc (.lst (cutL xs lo hi)) h
    | _ => .no
  | _ => .no
def intL : Vl → Option Int
  | .int i => some i
  | _ => none
def blL : Vl → Option Bool
  | .bl i => some i
  | _ => none
def tyOf (h : SH) : Vl → Option Ty
  | .bl _ => some .tb
  | .int _ => some .ti
  | .str _ => some .ts
  | .tup _ => some .tt
  | .rol _ => some .tl
  | .ref i => match h[i]? with
    | some (.lst _) => some .tl
    | some (.dct _) => some .td
    | none => none
  | _ => none
def tyIs : Ty → Ty → Bool
  | .tl, .tl => true | .tt, .tt => true | .td, .td => true | .ti, .ti => true | .tb, .tb => true | .ts, .ts => true | .tb, .ti => true
  | _, _ => false
def isiV (h : SH) (x : Vl) (t : Ty) : Option Bool := match x with
  | .non => some false
  | x => (tyOf h x).map fun u => tyIs u t
def maxL : List Int → Int
  | [] => 0
  | x :: xs => xs.foldl (fun a b => if a < b then b else a) x
def minL : List Int → Int
  | [] => 0
  | x :: xs => xs.foldl (fun a b => if b < a then b else a) x
def kVl : Key → Vl
  | .inl i => .int i
  | .inr s => .str s
def rngL (lo : Int) (n : Nat) : List Vl := (List.range n).map fun k : Nat => Vl.int (lo + (k : Int))
def on1 (f : Vl → M Vl) : List Vl → M Vl
  | [x] => f x
  | _ => fail
def on2 (f : Vl → Vl → M Vl) : List Vl → M Vl
  | [x, y] => f x y
  | _ => fail
def lenB (w : Vl) : M Vl := match w with
  | .str s => if s.length ≤ lim then ret (.int s.length) else fail
  | .tup xs => ret (.int xs.length)
  | .rol xs => ret (.int xs.length)
  | .ref i => fun h => match h[i]? with
    | some (.lst xs) => .ok (.int xs.length) h
    | some (.dct kvs) => .ok (.int kvs.length) h
    | none => .no
  | _ => fail
def isiB (x t : Vl) : M Vl := match t with
  | .ty t => fun h => match isiV h x t with
    | some b => .ok (.bl b) h
    | none => .no
  | .tup ts => match ts with
    | [.ty t, .ty u] => fun h => match isiV h x t, isiV h x u with
      | some b, some c => .ok (.bl (b || c)) h
      | _, _ => .no
    | _ => fail
  | _ => fail
def intB (w : Vl) : M Vl := match w with
  | .int i => ret (.int i)
  | .bl b => ret (.int (if b then 1 else 0))
  | _ => fail
def sumB (w : Vl) : M Vl := fun h => match litems h w with
  | some xs => match xs.mapM intL with
    | some ns => .ok (.int ns.sum) h
    | none => .no
  | none => .no
def mmB (two : Int → Int → Int) (all : List Int → Int) : List Vl → M Vl
  | [] => fail
  | [w] => fun h => match litems h w with
    | some xs => match xs.mapM intL with
      | some ns => if 0 < ns.length then .ok (.int (all ns)) h else .no
      | none => .no
    | none => .no
  | [.int i, .int j] => ret (.int (two i j))
  | _ => fail
def lstB (w : Vl) : M Vl := fun h => match items h w with
  | some xs => alloc (.lst xs) h
  | none => match w with
    | .ref i => match h[i]? with
      | some (.dct kvs) => alloc (.lst (kvs.map fun kv => kVl kv.1)) h
      | _ => .no
    | _ => .no
def tupB (w : Vl) : M Vl := fun h => match items h w with
  | some xs => .ok (.tup xs) h
  | none => .no
def bsB (f : List Bool → Bool) (w : Vl) : M Vl := fun h => match litems h w with
  | some xs => match xs.mapM blL with
    | some bs => .ok (.bl (f bs)) h
    | none => .no
  | none => .no
def biV : Bi → List Vl → M Vl
  | .len => on1 lenB | .isi => on2 isiB | .intc => on1 intB | .sum => on1 sumB
  | .max => mmB (fun i j => if j > i then j else i) maxL | .min => mmB (fun i j => if j < i then j else i) minL
  | .lst => on1 lstB | .tupc => on1 tupB | .all => on1 (bsB fun bs => bs.all id) | .any => on1 (bsB fun bs => bs.any id)
def appM (o x : Vl) : M Vl := match o with
  | .ref i => fun h => match h[i]? with
    | some (.lst xs) => if xs.length < lim then .ok .non (h.set i (.lst (xs ++ [x]))) else .no
    | _ => .no
  | _ => fail
def bitM (o : Vl) : M Vl := match o with
  | .int i => ret (.int (Builtin.Int.intBits i : Nat))
  | _ => fail
def cntM (o x : Vl) : M Vl := fun h => match data h lim o, data h lim x with
  | some (.list ds), some d => if SeqAt.shaped (.list ds) = true ∧ SeqAt.shaped d = true then .ok (.int (ds.countP (fun z => PyData.eqv z d) : Nat)) h else .no
  | _, _ => .no
def mtV (m : Mt) (o : Vl) (vs : List Vl) : M Vl := match m with
  | .append => on1 (appM o) vs
  | .count => on1 (cntM o) vs
  | .bits => match vs with
    | [] => bitM o
    | _ => fail
/-- a method's receiver -/
def chkM (m : Mt) (x : Vl) : M Unit := fun h => match m with
  | .bits => match x with
    | .int _ => .ok () h
    | _ => .no
  | .append => match x with
    | .ref i => match h[i]? with
      | some (.lst _) => .ok () h
      | _ => .no
    | _ => .no
  | .count => match litems h x with
    | some _ => .ok () h
    | none => .no
/-- o[i] = v -/
def setV (o i v : Vl) : M Unit := fun h => match o with
  | .ref a => match h[a]? with
    | some (.lst xs) => match i with
      | .int k => match ixN xs.length k with
        | some j => .ok () (h.set a (.lst (xs.set j v)))
        | none => .no
      | _ => .no
    | some (.dct kvs) => match keyOf i with
      | some k => if kvs.length < lim then .ok () (h.set a (.dct (putL kvs k v))) else .no
      | none => .no
    | none => .no
  | _ => .no
def wipeE (σ : En) : List Nat → En
  | [] => σ
  | v :: vs => (wipeE σ vs).set v none

/-! ### what is walked: a list by place, or things told -/
inductive Src where
  | cell (i : Nat) | told (xs : List Vl) | enum (i : Nat) | enumT (xs : List Vl) | zip (a b : Vl) | zipT (xs ys : List Vl)
def itemS (h : SH) (k : Nat) : Src → Option (Option Vl)
  | .cell i => match h[i]? with
    | some (.lst xs) => some xs[k]?
    | _ => none
  | .told xs => some xs[k]?
  | .enum i => match h[i]? with
    | some (.lst xs) => some (xs[k]?.map fun x => .tup [.int (k : Int), x])
    | _ => none
  | .enumT xs => some (xs[k]?.map fun x => .tup [.int (k : Int), x])
  | .zip a b => match litems h a, litems h b with
    | some xs, some ys => match xs[k]?, ys[k]? with
      | some x, some y => some (some (.tup [x, y]))
      | _, _ => some none
    | _, _ => none
  | .zipT xs ys => match xs[k]?, ys[k]? with
    | some x, some y => some (some (.tup [x, y]))
    | _, _ => some none
def sizeS (h : SH) : Src → Nat
  | .zipT xs _ => xs.length
  | .cell i => match h[i]? with
    | some (.lst xs) => xs.length
    | _ => 0
  | .told xs => xs.length
  | .enum i => match h[i]? with
    | some (.lst xs) => xs.length
    | _ => 0
  | .enumT xs => xs.length
  | .zip a b => match litems h a with
    | some xs => xs.length
    | _ => 0
/-- a for loop over it -/
def loopS (src : Src) (step : Vl → En → M Fl) : Nat → Nat → En → M Fl
  | 0, _, _ => fail
  | n + 1, k, σ => fun h => match itemS h k src with
    | none => .no
    | some none => .ok (.nx σ) h
    | some (some x) => match step x σ h with
      | .ok (.nx σ') h' => loopS src step n (k + 1) σ' h'
      | .ok (.ct σ') h' => loopS src step n (k + 1) σ' h'
      | .ok (.bk σ') h' => .ok (.nx σ') h'
      | r => r
/-- a comprehension's -/
def loopC (src : Src) (step : Vl → M (Option Vl)) : Nat → Nat → List Vl → M Vl
  | 0, _, _ => fail
  | n + 1, k, acc => fun h => match itemS h k src with
    | none => .no
    | some none => alloc (.lst acc) h
    | some (some x) => match step x h with
      | .ok none h' => loopC src step n (k + 1) acc h'
      | .ok (some y) h' => if acc.length < lim then loopC src step n (k + 1) (acc ++ [y]) h' else .no
      | .ex _ _ _ => .no
      | .no => .no
def loopW (c : En → M Bool) (step : En → M Fl) : Nat → En → M Fl
  | 0, _ => fail
  | n + 1, σ => lift σ (c σ) fun b => if b = true then fun h => match step σ h with
      | .ok (.nx σ') h' => loopW c step n σ' h'
      | .ok (.ct σ') h' => loopW c step n σ' h'
      | .ok (.bk σ') h' => .ok (.nx σ') h'
      | r => r
    else ret (.nx σ)

/-! ### codes run -/
section
variable (call : Nat → List Vl → M Vl)
mutual
def ev (σ : En) : E → M Vl
  | .var i => match σ[i]? with
    | some (some v) => ret v
    | _ => fail
  | .non => ret .non
  | .bl b => ret (.bl b)
  | .int i => ret (.int i)
  | .str s => ret (.str s)
  | .ty t => ret (.ty t)
  | .tup es => bind (evs σ es) fun vs => if vs.length ≤ lim then ret (.tup vs) else fail
  | .lst es => bind (evs σ es) fun vs => if vs.length ≤ lim then alloc (.lst vs) else fail
  | .dct0 => alloc (.dct [])
  | .bin op a b => bind (ev σ a) fun x => bind (ev σ b) fun y => bopV op x y
  | .neg a => bind (ev σ a) fun x => match x with
    | .int i => ret (.int (-i))
    | _ => fail
  | .not a => bind (ev σ a) fun x => match x with
    | .bl b => ret (.bl (!b))
    | _ => fail
  | .and a b => bind (ev σ a) fun x => match x with
    | .bl true => ev σ b
    | .bl false => ret (.bl false)
    | _ => fail
  | .or a b => bind (ev σ a) fun x => match x with
    | .bl true => ret (.bl true)
    | .bl false => ev σ b
    | _ => fail
  | .cmp op a b => bind (ev σ a) fun x => bind (ev σ b) fun y => bind (copV op x y) fun r => ret (.bl r)
  | .cmp2 op op2 a b c => bind (ev σ a) fun x => bind (ev σ b) fun y => bind (copV op x y) fun r => if r = true then bind (ev σ c) fun z => bind (copV op2 y z) fun r2 => ret (.bl r2) else ret (.bl false)
  | .isN a => bind (ev σ a) fun x => match x with
    | .non => ret (.bl true)
    | _ => ret (.bl false)
  | .ntN a => bind (ev σ a) fun x => match x with
    | .non => ret (.bl false)
    | _ => ret (.bl true)
  | .isB a b => bind (ev σ a) fun x => match x with
    | .bl c => ret (.bl (decide (c = b)))
    | _ => fail
  | .ntB a b => bind (ev σ a) fun x => match x with
    | .bl c => ret (.bl (!decide (c = b)))
    | _ => fail
  | .ife c a b => bind (evt σ c) fun r => if r = true then ev σ a else ev σ b
  | .call g es => bind (evs σ es) fun vs => call g vs
  | .bi b es => bind (evs σ es) fun vs => biV b vs
  | .mt m o es => bind (ev σ o) fun x => bind (chkM m x) fun _ => bind (evs σ es) fun vs => mtV m x vs
  | .idx a b => bind (ev σ a) fun x => bind (ev σ b) fun y => idxV x y
  | .slc a lo hi => bind (ev σ a) fun x => bind (evo σ lo) fun l => bind (evo σ hi) fun u => slcV x l u
  | .lc own g it c e => bind (evi σ it) fun src => fun h => loopC src (fun x => bind (evg (wipeE σ own) g x) fun σ1 => bind (evc σ1 c) fun r => if r = true then bind (ev σ1 e) fun y => ret (some y) else ret none) (sizeS h src + 1) 0 [] h
  | .lrng a b => bind (ev σ a) fun x => bind (ev σ b) fun y => match x, y with
    | .int i, .int j => if -(2 ^ 62) ≤ i ∧ i < 2 ^ 62 ∧ -(2 ^ 62) ≤ j ∧ j < 2 ^ 62 ∧ (j - i).toNat ≤ lim then alloc (.lst (rngL i (j - i).toNat)) else fail
    | _, _ => fail
def evs (σ : En) : List E → M (List Vl)
  | [] => ret []
  | e :: es => bind (ev σ e) fun x => bind (evs σ es) fun xs => ret (x :: xs)
/-- a slice's end -/
def evo (σ : En) : Option E → M (Option Int)
  | none => ret none
  | some e => bind (ev σ e) fun x => match x with
    | .int i => ret (some i)
    | _ => fail
/-- a comprehension's test -/
def evc (σ : En) : Option E → M Bool
  | none => ret true
  | some e => evt σ e
/-- an expression as a test -/
def evt (σ : En) : E → M Bool
  | .not a => bind (evt σ a) fun r => ret (!r)
  | .and a b => bind (evt σ a) fun r => if r = true then evt σ b else ret false
  | .or a b => bind (evt σ a) fun r => if r = true then ret true else evt σ b
  | .var i => bind (match σ[i]? with
    | some (some v) => ret v
    | _ => fail) truth
  | .cmp op a b => bind (ev σ a) fun x => bind (ev σ b) fun y => copV op x y
  | .cmp2 op op2 a b c => bind (ev σ a) fun x => bind (ev σ b) fun y => bind (copV op x y) fun r => if r = true then bind (ev σ c) fun z => copV op2 y z else ret false
  | .isN a => bind (ev σ a) fun x => match x with
    | .non => ret true
    | _ => ret false
  | .ntN a => bind (ev σ a) fun x => match x with
    | .non => ret false
    | _ => ret true
  | .isB a b => bind (ev σ a) fun x => match x with
    | .bl c => ret (decide (c = b))
    | _ => fail
  | .ntB a b => bind (ev σ a) fun x => match x with
    | .bl c => ret (!decide (c = b))
    | _ => fail
  | .call g es => bind (bind (evs σ es) fun vs => call g vs) truth
  | .bi b es => bind (bind (evs σ es) fun vs => biV b vs) truth
  | .idx a b => bind (bind (ev σ a) fun x => bind (ev σ b) fun y => idxV x y) truth
  | _ => fail
/-- what a loop walks -/
def evi (σ : En) : It → M Src
  | .seq e => bind (ev σ e) fun x => match x with
    | .tup xs => ret (.told xs)
    | .rol xs => ret (.told xs)
    | .ref i => fun h => match h[i]? with
      | some (.lst _) => .ok (.cell i) h
      | _ => .no
    | _ => fail
  | .rng1 a => bind (ev σ a) fun x => match x with
    | .int j => if -(2 ^ 62) ≤ j ∧ j < 2 ^ 62 then ret (.told (rngL 0 j.toNat)) else fail
    | _ => fail
  | .rng2 a b => bind (ev σ a) fun x => bind (ev σ b) fun y => match x, y with
    | .int i, .int j => if -(2 ^ 62) ≤ i ∧ i < 2 ^ 62 ∧ -(2 ^ 62) ≤ j ∧ j < 2 ^ 62 then ret (.told (rngL i (j - i).toNat)) else fail
    | _, _ => fail
  | .enum e => bind (ev σ e) fun x => match x with
    | .rol xs => ret (.enumT xs)
    | .ref i => fun h => match h[i]? with
      | some (.lst _) => .ok (.enum i) h
      | _ => .no
    | _ => fail
  | .zip a b => bind (ev σ a) fun x => bind (ev σ b) fun y => match x, y with
    | .tup xs, .tup ys => ret (.zipT xs ys)
    | x, y => fun h => match litems h x, litems h y with
      | some _, some _ => .ok (.zip x y) h
      | _, _ => .no
/-- a target takes a value -/
def evg (σ : En) : Tg → Vl → M En
  | .nm i, v => ret (σ.set i (some v))
  | .tup ts, v => match v with
    | .tup vs => if vs.length = ts.length then evgs σ ts vs else fail
    | _ => fail
  | .sub o i, v => bind (ev σ o) fun x => bind (ev σ i) fun y => bind (setV x y v) fun _ => ret σ
def evgs (σ : En) : List Tg → List Vl → M En
  | [], vs => match vs with
    | [] => ret σ
    | _ :: _ => fail
  | t :: ts, vs => match vs with
    | v :: vs => bind (evg σ t v) fun σ1 => evgs σ1 ts vs
    | [] => fail
end
/-- x op= y -/
def ibopV (op : Bop) (x y : Vl) : M Vl := match op, x, y with
  | .add, .ref i, .ref j => fun h => match h[i]?, h[j]? with
    | some (.lst xs), some (.lst ys) => if xs.length + ys.length ≤ lim then .ok (.ref i) (h.set i (.lst (xs ++ ys))) else .no
    | _, _ => .no
  | .add, x, y => addV x y
  | .sub, x, y => subV x y
  | _, _, _ => fail
variable (wf : Nat)
mutual
def exS (σ : En) : S → M Fl
  | .asg t e => lift σ (ev call σ e) fun v => lift σ (noEx (evg call σ t v)) fun σ1 => ret (.nx σ1)
  | .asg2 t u e => lift σ (ev call σ e) fun v => lift σ (noEx (evg call σ t v)) fun σ1 => lift σ1 (noEx (evg call σ1 u v)) fun σ2 => ret (.nx σ2)
  | .asg3 t u w e => lift σ (ev call σ e) fun v => lift σ (noEx (evg call σ t v)) fun σ1 => lift σ1 (noEx (evg call σ1 u v)) fun σ2 => lift σ2 (noEx (evg call σ2 w v)) fun σ3 => ret (.nx σ3)
  | .par2 i j a b => lift σ (ev call σ a) fun x => lift σ (ev call σ b) fun y => ret (.nx ((σ.set i (some x)).set j (some y)))
  | .par3 i j k a b c => lift σ (ev call σ a) fun x => lift σ (ev call σ b) fun y => lift σ (ev call σ c) fun z => ret (.nx (((σ.set i (some x)).set j (some y)).set k (some z)))
  | .aug i op e => match σ[i]? with
    | some (some x) => lift σ (ev call σ e) fun y => lift σ (ibopV op x y) fun z => ret (.nx (σ.set i (some z)))
    | _ => fail
  | .expr e => lift σ (ev call σ e) fun _ => ret (.nx σ)
  | .ret e => lift σ (ev call σ e) fun v => ret (.rt v)
  | .retN => ret (.rt .non)
  | .iff c a b => lift σ (evt call σ c) fun r => if r = true then exSs σ a else exSs σ b
  | .for_ g it b => lift σ (evi call σ it) fun src => fun h => loopS src (fun x σ1 => lift σ1 (noEx (evg call σ1 g x)) fun σ2 => exSs σ2 b) (sizeS h src + 1) 0 σ h
  | .while_ c b => loopW (fun σ1 => evt call σ1 c) (fun σ1 => exSs σ1 b) wf σ
  | .pass => ret (.nx σ)
  | .brk => ret (.bk σ)
  | .cnt => ret (.ct σ)
  | .never => fail
def exSs (σ : En) : List S → M Fl
  | [] => ret (.nx σ)
  | s :: ss => andThen (exS σ s) fun σ1 => exSs σ1 ss
end
end
structure Fn where
  np : Nat
  ns : Nat
  dv : List Vl := []
  body : List S
def startE (f : Fn) (vs : List Vl) : En := vs.map some ++ List.replicate (f.ns - vs.length) none
/-- with its defaults -/
def fillF (f : Fn) (us : List Vl) : List Vl := us ++ f.dv.drop (f.dv.length - (f.np - us.length))
def endF (r : Rs Fl) : Rs Vl := match r with
  | .ok (.rt v) h => .ok v h
  | .ok (.nx _) h => .ok .non h
  | .ok (.xc c v _) h => .ex c v h
  | _ => .no
def callD (fns : List Fn) (wf : Nat) : Nat → Nat → List Vl → M Vl
  | 0, _, _ => fail
  | d + 1, g, us => match fns[g]? with
    | some f => if (fillF f us).length = f.np then fun h => endF (exSs (callD fns wf d) wf (startE f (fillF f us)) f.body h) else fail
    | none => fail
end AM

namespace AM
open PySem L2 PyProof.Rows

def Ty.name : Ty → String
  | .tl => "list" | .tt => "tuple" | .td => "dict" | .ti => "int" | .tb => "bool" | .ts => "str"
/-- a list that nothing changes -/
def RoL (K : PySem.W.Frag) (H : Hp) (a : Addr) (xs : List V) : Prop :=
  (∃ o, H a = some (.frz o (.lst xs))) ∨
    ∃ (o : Obj) (its : Array Value) (n : Nat), K.lookup a = some o ∧ o.cls = .type "list" ∧ o.dict = none ∧ o.data = .seq its n ∧ its.size ≤ sizeLine ∧ Vals xs its.toList
theorem RoL.seq {K : PySem.W.Frag} {H : Hp} {a : Addr} {xs : List V} (h : RoL K H a xs) : SqL K H a xs := h.elim (fun ⟨o, e⟩ => .inl (.inr ⟨o, e⟩)) .inr
/-- a tuple -/
def TuL (K : PySem.W.Frag) (H : Hp) (a : Addr) (xs : List V) : Prop :=
  H a = some (.tup xs) ∨
    ∃ (o : Obj) (its : Array Value) (n : Nat), K.lookup a = some o ∧ o.cls = .type "tuple" ∧ o.data = .seq its n ∧ its.size ≤ sizeLine ∧ Vals xs its.toList
theorem TuL.seq {K : PySem.W.Frag} {H : Hp} {a : Addr} {xs : List V} (h : TuL K H a xs) : SqT K H a xs := h.elim (fun e => .inl (.inl e)) .inr
mutual
inductive Rl (K : PySem.W.Frag) (H : Hp) (ι : List Addr) : Vl → V → Prop
  | non : Rl K H ι .non .non
  | bl (b : Bool) : Rl K H ι (.bl b) (.bl b)
  | int (i : Int) : Rl K H ι (.int i) (.int i)
  | str (s : Str) : Rl K H ι (.str s) (.str s)
  | tup {xs : List Vl} {vs : List V} {p : Addr} : TuL K H p vs → RlA K H ι xs vs → Rl K H ι (.tup xs) (.ref p)
  | rol {xs : List Vl} {vs : List V} {p : Addr} : RoL K H p vs → RlA K H ι xs vs → Rl K H ι (.rol xs) (.ref p)
  | ref {i : Nat} {a : Addr} : ι[i]? = some a → Rl K H ι (.ref i) (.ref a)
  | ty (t : Ty) : Rl K H ι (.ty t) (.ty t.name)
inductive RlA (K : PySem.W.Frag) (H : Hp) (ι : List Addr) : List Vl → List V → Prop
  | nil : RlA K H ι [] []
  | cons {x : Vl} {v : V} {xs : List Vl} {vs : List V} : Rl K H ι x v → RlA K H ι xs vs → RlA K H ι (x :: xs) (v :: vs)
end
inductive KvA (K : PySem.W.Frag) (H : Hp) (ι : List Addr) : List (Key × Vl) → List (Key × V) → Prop
  | nil : KvA K H ι [] []
  | cons {k : Key} {x : Vl} {v : V} {xs : List (Key × Vl)} {vs : List (Key × V)} : Rl K H ι x v → KvA K H ι xs vs → KvA K H ι ((k, x) :: xs) ((k, v) :: vs)
def OR (K : PySem.W.Frag) (H : Hp) (ι : List Addr) (a : Addr) : Ob → Prop
  | .lst xs => ∃ vs, H a = some (.lst vs) ∧ RlA K H ι xs vs
  | .dct kvs => ∃ vs, H a = some (.dK vs) ∧ KvA K H ι kvs vs
structure Rep (K : PySem.W.Frag) (H : Hp) (ι : List Addr) (h : SH) : Prop where
  len : ι.length = h.length
  nd : ι.Nodup
  ok : ∀ (i : Nat) (o : Ob), h[i]? = some o → ∃ a, ι[i]? = some a ∧ OR K H ι a o
structure Step (ι : List Addr) (H : Hp) (ι' : List Addr) (H' : Hp) : Prop where
  pre : ι <+: ι'
  keep : ∀ a o, H a = some o → a ∉ ι → H' a = some o
  new : ∀ a ∈ ι', a ∉ ι → H a = none
theorem Step.refl (ι : List Addr) (H : Hp) : Step ι H ι H := ⟨List.prefix_refl _, fun _ _ h _ => h, fun _ h n => absurd h n⟩
theorem Step.trans {ι ι1 ι2 : List Addr} {H H1 H2 : Hp} (a : Step ι H ι1 H1) (b : Step ι1 H1 ι2 H2) : Step ι H ι2 H2 := by
  refine ⟨a.pre.trans b.pre, fun x o h n => ?_, fun x h n => ?_⟩
  · refine b.keep x o (a.keep x o h n) fun z => ?_
    rw [a.new x z n] at h; cases h
  · by_cases z : x ∈ ι1
    · exact a.new x z n
    · cases q : H x with
      | none => rfl
      | some o =>
        have e := b.new x h z
        rw [a.keep x o q n] at e; cases e
theorem get_prefix {α : Type} {l l' : List α} {i : Nat} {x : α} (p : l <+: l') (h : l[i]? = some x) : l'[i]? = some x := by
  obtain ⟨r, rfl⟩ := p
  rw [List.getElem?_append_left (List.getElem?_eq_some_iff.mp h).1]; exact h
section
variable {K : PySem.W.Frag} {H H' : Hp} {ι ι' : List Addr} {h h' : SH}
theorem Rep.mut (r : Rep K H ι h) {a : Addr} (m : a ∈ ι) : (∃ xs, H a = some (.lst xs)) ∨ ∃ kvs, H a = some (.dK kvs) := by
  obtain ⟨i, hi, e⟩ := List.mem_iff_getElem.mp m
  have hl : i < h.length := by rw [← r.len]; exact hi
  obtain ⟨b, eb, ob⟩ := r.ok i h[i] (List.getElem?_eq_getElem hl)
  have ab : b = a := by
    rw [List.getElem?_eq_getElem hi, e] at eb
    exact (Option.some.inj eb).symm
  subst ab
  generalize h[i] = o at ob
  cases o with
  | lst xs => obtain ⟨vs, e, _⟩ := ob; exact .inl ⟨vs, e⟩
  | dct kvs => obtain ⟨vs, e, _⟩ := ob; exact .inr ⟨vs, e⟩
theorem Rep.fresh (r : Rep K H ι h) {p : Addr} (n : H p = none) : p ∉ ι := fun m => by
  rcases r.mut m with ⟨_, e⟩ | ⟨_, e⟩ <;> (rw [e] at n; cases n)
theorem Rep.notTup (r : Rep K H ι h) {p : Addr} {vs : List V} (e : H p = some (.tup vs)) : p ∉ ι := fun m => by
  rcases r.mut m with ⟨_, q⟩ | ⟨_, q⟩ <;> (rw [e] at q; cases q)
theorem Rep.notFrz (r : Rep K H ι h) {p : Addr} {o : Obj} {u : HO} (e : H p = some (.frz o u)) : p ∉ ι := fun m => by
  rcases r.mut m with ⟨_, q⟩ | ⟨_, q⟩ <;> (rw [e] at q; cases q)
theorem TuL.step (r : Rep K H ι h) (s : Step ι H ι' H') {p : Addr} {vs : List V} (q : TuL K H p vs) : TuL K H' p vs := by
  rcases q with q | q
  · exact .inl (s.keep _ _ q (r.notTup q))
  · exact .inr q
theorem RoL.step (r : Rep K H ι h) (s : Step ι H ι' H') {p : Addr} {vs : List V} (q : RoL K H p vs) : RoL K H' p vs := by
  rcases q with ⟨o, q⟩ | q
  · exact .inl ⟨o, s.keep _ _ q (r.notFrz q)⟩
  · exact .inr q
mutual
theorem Rl.step (r : Rep K H ι h) (s : Step ι H ι' H') : ∀ {w : Vl} {v : V}, Rl K H ι w v → Rl K H' ι' w v
  | _, _, .non => .non
  | _, _, .bl b => .bl b
  | _, _, .int i => .int i
  | _, _, .str x => .str x
  | _, _, .tup a b => .tup (TuL.step r s a) (RlA.step r s b)
  | _, _, .rol a b => .rol (RoL.step r s a) (RlA.step r s b)
  | _, _, .ref a => .ref (get_prefix s.pre a)
  | _, _, .ty t => .ty t
theorem RlA.step (r : Rep K H ι h) (s : Step ι H ι' H') : ∀ {w : List Vl} {v : List V}, RlA K H ι w v → RlA K H' ι' w v
  | _, _, .nil => .nil
  | _, _, .cons a b => .cons (Rl.step r s a) (RlA.step r s b)
end
theorem KvA.step (r : Rep K H ι h) (s : Step ι H ι' H') {w : List (Key × Vl)} {v : List (Key × V)} (q : KvA K H ι w v) : KvA K H' ι' w v := by
  induction q with
  | nil => exact .nil
  | cons a _ ih => exact .cons (a.step r s) ih
theorem RlA.length {w : List Vl} {v : List V} (q : RlA K H ι w v) : w.length = v.length := by
  induction w generalizing v with
  | nil => cases q; rfl
  | cons x xs ih => cases q with | cons a b => simp [ih b]
theorem RlA.get {w : List Vl} {v : List V} (q : RlA K H ι w v) {i : Nat} {x : Vl} (e : w[i]? = some x) : ∃ y, v[i]? = some y ∧ Rl K H ι x y := by
  induction w generalizing v i with
  | nil => simp at e
  | cons a r ih =>
    cases q with
    | cons r1 r2 =>
      cases i with
      | zero => simp at e; subst e; exact ⟨_, rfl, r1⟩
      | succ i => simp at e; obtain ⟨y, e1, e2⟩ := ih r2 e; exact ⟨y, by simpa using e1, e2⟩
theorem RlA.append {w w' : List Vl} {v v' : List V} (q : RlA K H ι w v) (q' : RlA K H ι w' v') : RlA K H ι (w ++ w') (v ++ v') := by
  induction w generalizing v with
  | nil => cases q; exact q'
  | cons a r ih => cases q with | cons r1 r2 => exact .cons r1 (ih r2)
theorem RlA.take {w : List Vl} {v : List V} (n : Nat) (q : RlA K H ι w v) : RlA K H ι (w.take n) (v.take n) := by
  induction w generalizing v n with
  | nil => cases q; simp; exact .nil
  | cons a r ih => cases q with | cons r1 r2 => cases n with
    | zero => simp; exact .nil
    | succ n => simp; exact .cons r1 (ih n r2)
theorem RlA.drop {w : List Vl} {v : List V} (n : Nat) (q : RlA K H ι w v) : RlA K H ι (w.drop n) (v.drop n) := by
  induction w generalizing v n with
  | nil => cases q; simp; exact .nil
  | cons a r ih => cases q with | cons r1 r2 => cases n with
    | zero => exact .cons r1 r2
    | succ n => simp; exact ih n r2
theorem RlA.set {w : List Vl} {v : List V} {x : Vl} {y : V} (n : Nat) (q : RlA K H ι w v) (r : Rl K H ι x y) : RlA K H ι (w.set n x) (v.set n y) := by
  induction w generalizing v n with
  | nil => cases q; simp; exact .nil
  | cons a t ih => cases q with | cons r1 r2 => cases n with
    | zero => exact .cons r r2
    | succ n => exact .cons r1 (ih n r2)
theorem RlA.rep {w : List Vl} {v : List V} (q : RlA K H ι w v) : ∀ k : Nat, RlA K H ι (List.replicate k w).flatten (List.replicate k v).flatten
  | 0 => .nil
  | k + 1 => by rw [List.replicate_succ, List.replicate_succ, List.flatten_cons, List.flatten_cons]; exact q.append (q.rep k)
/-- a new object is laid -/
theorem Rep.laid (r : Rep K H ι h) {p : Addr} {o : HO} {ob : Ob} (n : H p = none) (new : ∀ {ι' : List Addr}, Step ι H ι' (upd H p o) → OR K (upd H p o) ι' p ob) (mo : ¬ (o = .own p)) :
    Step ι H (ι ++ [p]) (upd H p o) ∧ Rep K (upd H p o) (ι ++ [p]) (h ++ [ob]) := by
  have nf := r.fresh n
  have st : Step ι H (ι ++ [p]) (upd H p o) := ⟨List.prefix_append _ _, fun a u e _ => by rw [upd_ne (ne_of_none e n)]; exact e, fun a m k => by
    rcases List.mem_append.mp m with z | z
    · exact absurd z k
    · rw [List.mem_singleton.mp z]; exact n⟩
  refine ⟨st, by simp [r.len], ?_, fun i u e => ?_⟩
  · rw [List.nodup_append]
    refine ⟨r.nd, by simp, fun a ha b hb z => ?_⟩
    rw [List.mem_singleton.mp hb] at z
    exact nf (z ▸ ha)
  · by_cases hi : i < h.length
    · rw [List.getElem?_append_left hi] at e
      obtain ⟨a, ea, oa⟩ := r.ok i u e
      have hi' : i < ι.length := by rw [r.len]; exact hi
      refine ⟨a, by rw [List.getElem?_append_left hi']; exact ea, ?_⟩
      have am : a ∈ ι := List.mem_of_getElem? ea
      have ap : a ≠ p := fun z => nf (z ▸ am)
      cases u with
      | lst xs => obtain ⟨vs, e1, e2⟩ := oa; exact ⟨vs, by rw [upd_ne ap]; exact e1, e2.step r st⟩
      | dct xs => obtain ⟨vs, e1, e2⟩ := oa; exact ⟨vs, by rw [upd_ne ap]; exact e1, e2.step r st⟩
    · rw [List.getElem?_append_right (by omega)] at e
      have h0 : i - h.length = 0 := by
        have := (List.getElem?_eq_some_iff.mp e).1
        simp at this; omega
      rw [h0] at e
      simp at e; subst e
      refine ⟨p, ?_, new st⟩
      have : i = ι.length := by rw [r.len]; omega
      rw [this]; simp
/-- an object is changed -/
theorem Rep.write (r : Rep K H ι h) {i : Nat} {p : Addr} {o : HO} {ob : Ob} (ep : ι[i]? = some p) (new : Step ι H ι (upd H p o) → OR K (upd H p o) ι p ob) :
    Step ι H ι (upd H p o) ∧ Rep K (upd H p o) ι (h.set i ob) := by
  have pm : p ∈ ι := List.mem_of_getElem? ep
  have st : Step ι H ι (upd H p o) := ⟨List.prefix_refl _, fun a u e n => by rw [upd_ne (show a ≠ p from fun z => n (by rw [z]; exact pm))]; exact e, fun a m k => absurd m k⟩
  refine ⟨st, by simp [r.len], r.nd, fun j u e => ?_⟩
  by_cases hj : i = j
  · subst hj
    have hi : i < h.length := by rw [← r.len]; exact (List.getElem?_eq_some_iff.mp ep).1
    rw [List.getElem?_set_self hi] at e
    cases e
    exact ⟨p, ep, new st⟩
  · rw [List.getElem?_set_ne hj] at e
    obtain ⟨a, ea, oa⟩ := r.ok j u e
    refine ⟨a, ea, ?_⟩
    have ap : a ≠ p := fun z => by
      subst z
      obtain ⟨h1, e1⟩ := List.getElem?_eq_some_iff.mp ep
      obtain ⟨h2, e2⟩ := List.getElem?_eq_some_iff.mp ea
      exact hj ((List.getElem_inj r.nd).mp (e1.trans e2.symm))
    cases u with
    | lst xs => obtain ⟨vs, e1, e2⟩ := oa; exact ⟨vs, by rw [upd_ne ap]; exact e1, e2.step r st⟩
    | dct xs => obtain ⟨vs, e1, e2⟩ := oa; exact ⟨vs, by rw [upd_ne ap]; exact e1, e2.step r st⟩
/-- a thing outside is laid (a tuple) -/
theorem Rep.aside (r : Rep K H ι h) {p : Addr} {o : HO} (n : H p = none) : Step ι H ι (upd H p o) ∧ Rep K (upd H p o) ι h := by
  have nf := r.fresh n
  have st : Step ι H ι (upd H p o) := ⟨List.prefix_refl _, fun a u e _ => by rw [upd_ne (ne_of_none e n)]; exact e, fun a m k => absurd m k⟩
  refine ⟨st, r.len, r.nd, fun i u e => ?_⟩
  obtain ⟨a, ea, oa⟩ := r.ok i u e
  have ap : a ≠ p := fun z => nf (z ▸ List.mem_of_getElem? ea)
  refine ⟨a, ea, ?_⟩
  cases u with
  | lst xs => obtain ⟨vs, e1, e2⟩ := oa; exact ⟨vs, by rw [upd_ne ap]; exact e1, e2.step r st⟩
  | dct xs => obtain ⟨vs, e1, e2⟩ := oa; exact ⟨vs, by rw [upd_ne ap]; exact e1, e2.step r st⟩
/-- what stands at a reference -/
theorem Rep.lst (r : Rep K H ι h) {i : Nat} {a : Addr} {xs : List Vl} (e : ι[i]? = some a) (q : h[i]? = some (.lst xs)) : ∃ vs, H a = some (.lst vs) ∧ RlA K H ι xs vs := by
  obtain ⟨b, eb, ob⟩ := r.ok i _ q
  rw [e] at eb; cases eb
  exact ob
theorem Rep.dct (r : Rep K H ι h) {i : Nat} {a : Addr} {xs : List (Key × Vl)} (e : ι[i]? = some a) (q : h[i]? = some (.dct xs)) : ∃ vs, H a = some (.dK vs) ∧ KvA K H ι xs vs := by
  obtain ⟨b, eb, ob⟩ := r.ok i _ q
  rw [e] at eb; cases eb
  exact ob
end

/-! ### what is wanted behind -/
abbrev Wh := Nat → V → Hp → Prop
def Post {α β : Type} (K : PySem.W.Frag) (R : Hp → List Addr → α → β → Prop) (Wx : Wh) (ι : List Addr) (H : Hp) (Q : β → Hp → Prop) : Rs α → Prop
  | .ok a h' => ∀ ι' H' b, Step ι H ι' H' → Rep K H' ι' h' → R H' ι' a b → Q b H'
  | .ex c w h' => ∀ ι' H' v, Step ι H ι' H' → Rep K H' ι' h' → Rl K H' ι' w v → Wx c v H'
  | .no => False
section
variable {K : PySem.W.Frag} {H H' : Hp} {ι ι' : List Addr} {h h' : SH} {α β α' β' : Type} {R : Hp → List Addr → α → β → Prop} {R' : Hp → List Addr → α' → β' → Prop} {Wx : Wh} {Q : β → Hp → Prop} {Q' : β' → Hp → Prop}
theorem Post.from (s : Step ι H ι' H') {r : Rs α} (p : Post K R Wx ι H Q r) : Post K R Wx ι' H' Q r := by
  cases r with
  | ok a h => exact fun ι2 H2 b s2 => p ι2 H2 b (s.trans s2)
  | ex c w h => exact fun ι2 H2 b s2 => p ι2 H2 b (s.trans s2)
  | no => exact p
theorem Post.mono {Q2 : β → Hp → Prop} {r : Rs α} (p : Post K R Wx ι H Q r) (f : ∀ b H, Q b H → Q2 b H) : Post K R Wx ι H Q2 r := by
  cases r with
  | ok a h => exact fun ι2 H2 b s2 r2 x => f _ _ (p ι2 H2 b s2 r2 x)
  | ex c w h => exact p
  | no => exact p
theorem Post.seq {m : M α} {f : α → M α'} (p : Post K R' Wx ι H Q' (bind m f h)) :
    Post K R Wx ι H (fun b H1 => ∃ a ι1 h1, Step ι H ι1 H1 ∧ Rep K H1 ι1 h1 ∧ R H1 ι1 a b ∧ Post K R' Wx ι1 H1 Q' (f a h1)) (m h) := by
  unfold bind at p
  cases e : m h with
  | ok a h1 => rw [e] at p; exact fun ι1 H1 b s r x => ⟨a, ι1, h1, s, r, x, p.from s⟩
  | ex c w h1 => rw [e] at p; exact p
  | no => rw [e] at p; exact p
/-- at a value -/
theorem Post.here {a : α} {b : β} (p : Post K R Wx ι H Q (.ok a h)) (r : Rep K H ι h) (x : R H ι a b) : Q b H := p ι H b (Step.refl _ _) r x
theorem Post.ret {a : α} {b : β} (p : Post K R Wx ι H Q (ret a h)) (r : Rep K H ι h) (x : R H ι a b) : Q b H := p ι H b (Step.refl _ _) r x
theorem Post.to {a : α} {b : β} (p : Post K R Wx ι H Q (.ok a h')) (s : Step ι H ι' H') (r : Rep K H' ι' h') (x : R H' ι' a b) : Q b H' := p ι' H' b s r x
theorem Post.fail (p : Post K R Wx ι H Q (fail h)) {P : Prop} : P := False.elim p
end
/-- the slots -/
structure EnvR (K : PySem.W.Frag) (H : Hp) (ι : List Addr) (e : En) (σ : L2.St) : Prop where
  len : e.length = σ.length
  at_ : ∀ (i : Nat) (w : Vl), e[i]? = some (some w) → ∃ v, σ[i]? = some (some v) ∧ Rl K H ι w v
section
variable {K : PySem.W.Frag} {H H' : Hp} {ι ι' : List Addr} {h h' : SH} {e : En} {σ : L2.St}
theorem EnvR.step (r : Rep K H ι h) (s : Step ι H ι' H') (q : EnvR K H ι e σ) : EnvR K H' ι' e σ := ⟨q.len, fun i w z => let ⟨v, a, b⟩ := q.at_ i w z; ⟨v, a, b.step r s⟩⟩
theorem EnvR.set {w : Vl} {v : V} (q : EnvR K H ι e σ) (i : Nat) (r : Rl K H ι w v) : EnvR K H ι (e.set i (some w)) (σ.set i (some v)) := by
  refine ⟨by simp [q.len], fun j u z => ?_⟩
  by_cases hj : i = j
  · subst hj
    by_cases hi : i < e.length
    · rw [List.getElem?_set_self hi] at z
      cases z
      exact ⟨v, by rw [List.getElem?_set_self (by rw [← q.len]; exact hi)], r⟩
    · rw [List.getElem?_eq_none (by simpa using hi)] at z; cases z
  · rw [List.getElem?_set_ne hj] at z
    obtain ⟨v', a, b⟩ := q.at_ j u z
    exact ⟨v', by rw [List.getElem?_set_ne hj]; exact a, b⟩
theorem EnvR.none (q : EnvR K H ι e σ) (i : Nat) : EnvR K H ι (e.set i none) (σ.set i none) := by
  refine ⟨by simp [q.len], fun j u z => ?_⟩
  by_cases hj : i = j
  · subst hj
    by_cases hi : i < e.length
    · rw [List.getElem?_set_self hi] at z; cases z
    · rw [List.getElem?_eq_none (by simpa using hi)] at z; cases z
  · rw [List.getElem?_set_ne hj] at z
    obtain ⟨v', a, b⟩ := q.at_ j u z
    exact ⟨v', by rw [List.getElem?_set_ne hj]; exact a, b⟩
theorem EnvR.wipe (q : EnvR K H ι e σ) : ∀ own : List Nat, EnvR K H ι (wipeE e own) (wipe σ own)
  | [] => q
  | i :: r => (EnvR.wipe q r).none i
end
/-- a machine's step as a reading -/
def tG {α β : Type} (K : PySem.W.Frag) (R : Hp → List Addr → α → β → Prop) (Wx : L2.St → Wh) (c : En → M α) : L2.St → Hp → (β → Hp → Prop) → Prop := fun σ H Q =>
  ∃ ι h e, Rep K H ι h ∧ EnvR K H ι e σ ∧ Post K R (Wx σ) ι H Q (c e h)
def RB : Hp → List Addr → Bool → Bool → Prop := fun _ _ a b => a = b
def RO : Hp → List Addr → Option Int → Option Int → Prop := fun _ _ a b => a = b
abbrev tE (K : PySem.W.Frag) (Wx : L2.St → Wh) (c : En → M Vl) : TE := tG K (Rl K) Wx c
abbrev tT (K : PySem.W.Frag) (Wx : L2.St → Wh) (c : En → M Bool) : TT := tG K RB Wx c
abbrev tA (K : PySem.W.Frag) (Wx : L2.St → Wh) (c : En → M (List Vl)) : TA := tG K (RlA K) Wx c
abbrev tO (K : PySem.W.Frag) (Wx : L2.St → Wh) (c : En → M (Option Int)) : TO := tG K RO Wx c
theorem PE.con {X : Cx} {e : Expr} {t t' : TE} (p : PE X e t) (f : ∀ σ H Q, t' σ H Q → t σ H Q) : PE X e t' := ⟨fun pins s σ H Q I h => p.run pins s σ H Q I (f _ _ _ h)⟩
theorem PT.con {X : Cx} {e : Expr} {t t' : TT} (p : PT X e t) (f : ∀ σ H Q, t' σ H Q → t σ H Q) : PT X e t' := ⟨fun pins s σ H Q I h => p.run pins s σ H Q I (f _ _ _ h)⟩
theorem PW.con {X : Cx} {e : Expr} {t t' : TT} (p : PW X e t) (f : ∀ σ H Q, t' σ H Q → t σ H Q) : PW X e t' := ⟨fun wh pins s σ H Q I h => p.run wh pins s σ H Q I (f _ _ _ h)⟩
theorem PA.con {X : Cx} {e : List Expr} {t t' : TA} (p : PA X e t) (f : ∀ σ H Q, t' σ H Q → t σ H Q) : PA X e t' := ⟨fun pos pins s σ H Q I h => p.run pos pins s σ H Q I (f _ _ _ h)⟩
theorem PO.con {X : Cx} {e : Option Expr} {t t' : TO} (p : PO X e t) (f : ∀ σ H Q, t' σ H Q → t σ H Q) : PO X e t' := ⟨fun pins s σ H Q I h => p.run pins s σ H Q I (f _ _ _ h)⟩
theorem PS.con {X : Cx} {e : Stmt} {t t' : TS} (p : PS X e t) (f : ∀ D σ H, t' D σ H → t D σ H) : PS X e t' := ⟨fun pins s σ H D I h => p.run pins s σ H D I (f _ _ _ h)⟩
theorem PSs.con {X : Cx} {e : List Stmt} {t t' : TS} (p : PSs X e t) (f : ∀ D σ H, t' D σ H → t D σ H) : PSs X e t' := ⟨fun pins s σ H D I h => p.run pins s σ H D I (f _ _ _ h)⟩
end AM

namespace AM
open PySem L2 PyProof.Rows

theorem lim_line {n : Nat} (h : n ≤ lim) : n ≤ sizeLine := Nat.le_trans h (by rw [sizeLine_eq]; decide)
theorem lim_lt {n : Nat} (h : n < lim) : n < sizeLine := Nat.lt_of_lt_of_le h (by rw [sizeLine_eq]; decide)
def BinOk (K : PySem.W.Frag) (r : R2) (f : Vl → Vl → M Vl) : Prop := ∀ (Wx : Wh) (ι : List Addr) (H : Hp) (h : SH) (a b : Vl) (x y : V) (Q : VK), Rep K H ι h → Rl K H ι a x → Rl K H ι b y → Post K (Rl K) Wx ι H Q (f a b h) → r x y H Q
def CmpOk (K : PySem.W.Frag) (r : R2) (f : Vl → Vl → M Bool) : Prop := ∀ (Wx : Wh) (ι : List Addr) (H : Hp) (h : SH) (a b : Vl) (x y : V) (Q : Bool → Hp → Prop), Rep K H ι h → Rl K H ι a x → Rl K H ι b y → Post K RB Wx ι H Q (f a b h) → r x y H (fun v H' => ∃ k, v = .bl k ∧ Q k H')
section
variable {K : PySem.W.Frag} {H : Hp} {ι : List Addr} {h : SH} {Wx : Wh} {Q : VK}
/-- a new list -/
theorem laid_lst {xs : List Vl} {vs : List V} (r : Rep K H ι h) (q : RlA K H ι xs vs) (p : Post K (Rl K) Wx ι H Q (alloc (.lst xs) h)) : ∀ a, H a = none → Q (.ref a) (upd H a (.lst vs)) := fun a n => by
  obtain ⟨st, r2⟩ := r.laid (ob := .lst xs) (o := .lst vs) n (fun st => ⟨vs, upd_same, q.step r st⟩) (by intro z; cases z)
  exact Post.to p st r2 (.ref (by rw [← r.len]; simp))
theorem laid_dct (r : Rep K H ι h) (p : Post K (Rl K) Wx ι H Q (alloc (.dct []) h)) : ∀ a, H a = none → Q (.ref a) (upd H a (.dK [])) := fun a n => by
  obtain ⟨st, r2⟩ := r.laid (ob := .dct []) (o := .dK []) n (fun st => ⟨[], upd_same, .nil⟩) (by intro z; cases z)
  exact Post.to p st r2 (.ref (by rw [← r.len]; simp))
theorem laid_tup {xs : List Vl} {vs : List V} (r : Rep K H ι h) (q : RlA K H ι xs vs) (p : Post K (Rl K) Wx ι H Q (.ok (.tup xs) h)) : ∀ a, H a = none → Q (.ref a) (upd H a (.tup vs)) := fun a n => by
  obtain ⟨st, r2⟩ := r.aside (o := .tup vs) n
  exact Post.to p st r2 (.tup (.inl upd_same) (q.step r st))
/-- a changed list -/
theorem put_lst {i : Nat} {a : Addr} {xs : List Vl} {vs : List V} (r : Rep K H ι h) (e : ι[i]? = some a) (q : RlA K H ι xs vs) : Step ι H ι (upd H a (.lst vs)) ∧ Rep K (upd H a (.lst vs)) ι (h.set i (.lst xs)) :=
  r.write e fun st => ⟨vs, upd_same, q.step r st⟩
theorem put_dct {i : Nat} {a : Addr} {xs : List (Key × Vl)} {vs : List (Key × V)} (r : Rep K H ι h) (e : ι[i]? = some a) (q : KvA K H ι xs vs) : Step ι H ι (upd H a (.dK vs)) ∧ Rep K (upd H a (.dK vs)) ι (h.set i (.dct xs)) :=
  r.write e fun st => ⟨vs, upd_same, q.step r st⟩
end
/-! ### arithmetic -/
def rAdd : R2 := fun x y H Q => rI0 (fun i j => .int (i + j)) x y H Q ∨ (∃ i j, x = .str i ∧ y = .str j ∧ i.length + j.length ≤ sizeLine ∧ Q (.str (i ++ j)) H) ∨ rCat x y H Q
theorem o_add {X : Cx} : OpR X (binaryOp .Add) rAdd := op_add.or (op_add_str.or op_cat)
theorem b_add {K : PySem.W.Frag} : BinOk K rAdd addV := fun Wx ι H h a b x y Q r ha hb p => by
  cases ha with
  | int i => cases hb with
    | int j => exact .inl ⟨i, j, rfl, rfl, p.ret r (.int _)⟩
    | _ => exact False.elim p
  | str s => cases hb with
    | str u =>
      refine .inr (.inl ⟨s, u, rfl, rfl, ?_⟩)
      unfold addV at p
      dsimp only at p
      split at p
      · rename_i q; exact ⟨lim_line q, p.ret r (.str _)⟩
      · exact False.elim p
    | _ => exact False.elim p
  | @ref i a ea => cases hb with
    | @ref j b eb =>
      unfold addV at p
      dsimp only at p
      split at p
      · rename_i xs ys e1 e2
        split at p
        · rename_i q
          obtain ⟨vs, q1, q2⟩ := r.lst ea e1
          obtain ⟨ws, q3, q4⟩ := r.lst eb e2
          exact .inr (.inr ⟨_, _, vs, ws, rfl, rfl, q1, q3, by rw [← q2.length, ← q4.length]; exact lim_line q, laid_lst r (q2.append q4) p⟩)
        · exact False.elim p
      · exact False.elim p
    | _ => exact False.elim p
  | _ => exact False.elim p
theorem b_sub {K : PySem.W.Frag} : BinOk K (rI0 fun i j => .int (i - j)) subV := fun Wx ι H h a b x y Q r ha hb p => by
  cases ha with
  | int i => cases hb with
    | int j => exact ⟨i, j, rfl, rfl, p.ret r (.int _)⟩
    | _ => exact False.elim p
  | _ => exact False.elim p
def rMul : R2 := fun x y H Q => rI CMul (fun i j => .int (i * j)) x y H Q ∨ rI CMulX (fun i j => .int (i * j)) x y H Q ∨ rRep x y H Q
theorem o_mul {X : Cx} : OpR X (binaryOp .Mult) rMul := op_mul.or (op_mulX.or op_rep)
theorem b_mul {K : PySem.W.Frag} : BinOk K rMul mulV := fun Wx ι H h a b x y Q r ha hb p => by
  cases ha with
  | int i => cases hb with
    | int j =>
      unfold mulV at p
      dsimp only at p
      split at p
      · rename_i q
        rcases q with q | q
        · exact .inl ⟨i, j, rfl, rfl, q, p.ret r (.int _)⟩
        · exact .inr (.inl ⟨i, j, rfl, rfl, q, p.ret r (.int _)⟩)
      · exact False.elim p
    | _ => exact False.elim p
  | @ref i a ea => cases hb with
    | int k =>
      unfold mulV at p
      dsimp only at p
      split at p
      · rename_i xs e1
        split at p
        · rename_i q
          obtain ⟨vs, q1, q2⟩ := r.lst ea e1
          refine .inr (.inr ⟨_, k, vs, rfl, rfl, q1, q.1, q.2.1, by rw [← q2.length]; exact lim_line q.2.2, laid_lst r (q2.rep _) p⟩)
        · exact False.elim p
      · exact False.elim p
    | _ => exact False.elim p
  | _ => exact False.elim p
theorem b_mod {K : PySem.W.Frag} : BinOk K (rI (fun _ j => 0 < j) fun i j => .int (i % j)) modV := fun Wx ι H h a b x y Q r ha hb p => by
  cases ha with
  | int i => cases hb with
    | int j =>
      unfold modV at p
      dsimp only at p
      split at p
      · rename_i q; exact ⟨i, j, rfl, rfl, q, p.ret r (.int _)⟩
      · exact False.elim p
    | _ => exact False.elim p
  | _ => exact False.elim p
def rFdv : R2 := fun x y H Q => rI CDiv (fun i j => .int (i / j)) x y H Q ∨ rI CDivW (fun i j => .int (i / j)) x y H Q
theorem o_fdv {X : Cx} : OpR X (binaryOp .FloorDiv) rFdv := op_fdiv.or op_fdivW
theorem b_fdv {K : PySem.W.Frag} : BinOk K rFdv fdvV := fun Wx ι H h a b x y Q r ha hb p => by
  cases ha with
  | int i => cases hb with
    | int j =>
      unfold fdvV at p
      dsimp only at p
      split at p
      · rename_i q
        rcases q with q | q
        · exact .inl ⟨i, j, rfl, rfl, q, p.ret r (.int _)⟩
        · exact .inr ⟨i, j, rfl, rfl, q, p.ret r (.int _)⟩
      · exact False.elim p
    | _ => exact False.elim p
  | _ => exact False.elim p
theorem o_pow {X : Cx} : OpR X (binaryOp .Pow) (rI CPw fun i j => .int (i ^ j.toNat)) := opI fun _ _ _ _ _ _ _ hc q => PyProof.Rows.pow_int hc.1 hc.2 q
theorem b_pow {K : PySem.W.Frag} : BinOk K (rI CPw fun i j => .int (i ^ j.toNat)) powV := fun Wx ι H h a b x y Q r ha hb p => by
  cases ha with
  | int i => cases hb with
    | int j =>
      unfold powV at p
      dsimp only at p
      split at p
      · rename_i q; exact ⟨i, j, rfl, rfl, q, p.ret r (.int _)⟩
      · exact False.elim p
    | _ => exact False.elim p
  | _ => exact False.elim p
def Bop.op : Bop → Operator
  | .add => .Add | .sub => .Sub | .mul => .Mult | .mod => .Mod | .fdv => .FloorDiv | .pow => .Pow
def bopR : Bop → R2
  | .add => rAdd | .sub => rI0 fun i j => .int (i - j) | .mul => rMul | .mod => rI (fun _ j => 0 < j) fun i j => .int (i % j) | .fdv => rFdv | .pow => rI CPw fun i j => .int (i ^ j.toNat)
theorem o_bop {X : Cx} (op : Bop) : OpR X (binaryOp op.op) (bopR op) := by
  cases op
  · exact o_add
  · exact op_sub
  · exact o_mul
  · exact op_mod
  · exact o_fdv
  · exact o_pow
theorem b_bop {K : PySem.W.Frag} (op : Bop) : BinOk K (bopR op) (bopV op) := by
  cases op
  · exact b_add
  · exact b_sub
  · exact b_mul
  · exact b_mod
  · exact b_fdv
  · exact b_pow
/-! ### data, == -/
mutual
theorem data_dp {K : PySem.W.Frag} {H : Hp} {ι : List Addr} {h : SH} (r : Rep K H ι h) : ∀ (n : Nat) (w : Vl) (v : V) (d : PyData), Rl K H ι w v → data h n w = some d → Dp K H v d
  | n, .non, v, d, q, e => by cases q; simp only [data, Option.some.injEq] at e; subst e; exact .non
  | n, .bl b, v, d, q, e => by cases q; simp only [data, Option.some.injEq] at e; subst e; exact .bl b
  | n, .int i, v, d, q, e => by cases q; simp only [data, Option.some.injEq] at e; subst e; exact .int i
  | n, .str s, v, d, q, e => by cases q; simp only [data, Option.some.injEq] at e; subst e; exact .str s
  | 0, .tup xs, v, d, q, e => by simp [data] at e
  | 0, .rol xs, v, d, q, e => by simp [data] at e
  | 0, .ref i, v, d, q, e => by simp [data] at e
  | 0, .ty t, v, d, q, e => by simp [data] at e
  | n + 1, .tup xs, v, d, q, e => by
    cases q with
    | tup a b =>
      simp only [data, Option.map_eq_some_iff] at e
      obtain ⟨ds, e1, rfl⟩ := e
      exact .tup a.seq (datas_dp r n _ _ _ b e1)
  | n + 1, .rol xs, v, d, q, e => by
    cases q with
    | rol a b =>
      simp only [data, Option.map_eq_some_iff] at e
      obtain ⟨ds, e1, rfl⟩ := e
      exact .lst a.seq (datas_dp r n _ _ _ b e1)
  | n + 1, .ref i, v, d, q, e => by
    cases q with
    | ref ea =>
      simp only [data] at e
      split at e
      · rename_i xs e2
        simp only [Option.map_eq_some_iff] at e
        obtain ⟨ds, e1, rfl⟩ := e
        obtain ⟨vs, q1, q2⟩ := r.lst ea e2
        exact .lst (SqL.of q1) (datas_dp r n _ _ _ q2 e1)
      · cases e
  | n + 1, .ty t, v, d, q, e => by simp [data] at e
theorem datas_dp {K : PySem.W.Frag} {H : Hp} {ι : List Addr} {h : SH} (r : Rep K H ι h) : ∀ (n : Nat) (w : List Vl) (v : List V) (d : List PyData), RlA K H ι w v → datas h n w = some d → DpAll K H v d
  | n, [], v, d, q, e => by cases q; simp only [datas, Option.some.injEq] at e; subst e; exact .nil
  | 0, x :: xs, v, d, q, e => by simp [datas] at e
  | n + 1, x :: xs, v, d, q, e => by
    cases q with
    | cons a b =>
      simp only [datas] at e
      split at e
      · rename_i d1 ds e1 e2
        cases e
        exact .cons (data_dp r n _ _ _ a e1) (datas_dp r n _ _ _ b e2)
      · cases e
end
theorem c_eq {K : PySem.W.Frag} : CmpOk K (rEqD K) (copV .eq) := fun Wx ι H h a b x y Q r ha hb p => by
  unfold copV at p
  dsimp only at p
  split at p
  · rename_i k e
    unfold eqD at e
    split at e
    · rename_i d1 d2 e1 e2
      split at e
      · rename_i q
        cases e
        exact ⟨d1, d2, data_dp r _ _ _ _ ha e1, data_dp r _ _ _ _ hb e2, q.1, q.2, _, rfl, p.here r rfl⟩
      · cases e
    · cases e
  · exact False.elim p
theorem c_ne {K : PySem.W.Frag} : CmpOk K (rNeD K) (copV .ne) := fun Wx ι H h a b x y Q r ha hb p => by
  unfold copV at p
  dsimp only at p
  split at p
  · rename_i k e
    unfold eqD at e
    split at e
    · rename_i d1 d2 e1 e2
      split at e
      · rename_i q
        cases e
        exact ⟨d1, d2, data_dp r _ _ _ _ ha e1, data_dp r _ _ _ _ hb e2, q.1, q.2, _, rfl, p.here r rfl⟩
      · cases e
    · cases e
  · exact False.elim p
def IsI (op : Cop) (f : Int → Int → Bool) : Prop := ∀ a b h, copV op a b h = match a, b with | .int i, .int j => Rs.ok (f i j) h | _, _ => .no
theorem c_int {K : PySem.W.Frag} {op : Cop} {f : Int → Int → Bool} (e : IsI op f) : CmpOk K (rI0 fun i j => .bl (f i j)) (copV op) := fun Wx ι H h a b x y Q r ha hb p => by
  rw [e] at p
  cases ha with
  | int i => cases hb with
    | int j => exact ⟨i, j, rfl, rfl, _, rfl, p.here r rfl⟩
    | _ => exact False.elim p
  | _ => exact False.elim p
theorem i_lt : IsI .lt fun i j => decide (i < j) := fun a b h => by cases a <;> cases b <;> rfl
theorem i_le : IsI .le fun i j => decide (i ≤ j) := fun a b h => by cases a <;> cases b <;> rfl
theorem i_gt : IsI .gt fun i j => decide (j < i) := fun a b h => by cases a <;> cases b <;> rfl
theorem i_ge : IsI .ge fun i j => decide (j ≤ i) := fun a b h => by cases a <;> cases b <;> rfl
theorem flat_of {K : PySem.W.Frag} {H : Hp} {ι : List Addr} {w : Vl} {v : V} (q : Rl K H ι w v) (f : flatL w = true) : flatV v = true := by cases q <;> first | rfl | (simp [flatL] at f)
theorem eqL_of {K : PySem.W.Frag} {H : Hp} {ι : List Addr} {w u : Vl} {v x : V} (q : Rl K H ι w v) (q2 : Rl K H ι u x) (f : flatL w = true) (f2 : flatL u = true) : eqV v x = eqL w u := by
  cases q <;> first | (simp [flatL] at f; done) | (cases q2 <;> first | rfl | (simp [flatL] at f2))
theorem any_of {K : PySem.W.Frag} {H : Hp} {ι : List Addr} {u : Vl} {x : V} (q2 : Rl K H ι u x) (f2 : flatL u = true) : ∀ {ws : List Vl} {vs : List V}, RlA K H ι ws vs → ws.all flatL = true → vs.all flatV = true ∧ L2.inV x vs = ws.any fun y => eqL y u
  | _, _, .nil, _ => ⟨rfl, rfl⟩
  | w :: ws, _, .cons a b, f => by
    rw [List.all_cons, Bool.and_eq_true] at f
    obtain ⟨h1, h2⟩ := any_of q2 f2 b f.2
    refine ⟨by rw [List.all_cons, flat_of a f.1, h1]; rfl, ?_⟩
    unfold L2.inV at h2 ⊢
    rw [List.any_cons, List.any_cons, eqL_of a q2 f.1 f2, h2]
theorem key_of {K : PySem.W.Frag} {H : Hp} {ι : List Addr} {w : Vl} {v : V} {k : Key} (q : Rl K H ι w v) (e : keyOf w = some k) : v = kV k := by
  cases q <;> first | (cases e; rfl) | (cases e)
theorem val_of {K : PySem.W.Frag} {H : Hp} {ι : List Addr} (k : Key) : ∀ {ws : List (Key × Vl)} {vs : List (Key × V)}, KvA K H ι ws vs → (∀ w, valL ws k = some w → ∃ v, valV vs k = some v ∧ Rl K H ι w v) ∧ (valL ws k = none → valV vs k = none)
  | _, _, .nil => ⟨fun w e => (by cases e), fun _ => rfl⟩
  | _, _, .cons (k := k1) (x := x) (v := v) a b => by
    obtain ⟨h1, h2⟩ := val_of k b
    by_cases e : k1 = k
    · subst e
      refine ⟨fun w q => ⟨v, valV_pos (p := (k1, v)) (r := _) rfl, ?_⟩, fun q => ?_⟩
      · simp [valL] at q; subst q; exact a
      · simp [valL] at q
    · have e1 : ∀ vs : List (Key × V), valV ((k1, v) :: vs) k = valV vs k := fun vs => valV_neg (p := (k1, v)) (r := vs) e
      have e2 : ∀ ws : List (Key × Vl), valL ((k1, x) :: ws) k = valL ws k := fun ws => by simp [valL, e]
      rw [e1, e2]
      exact ⟨h1, h2⟩
theorem val_some {K : PySem.W.Frag} {H : Hp} {ι : List Addr} (k : Key) {ws : List (Key × Vl)} {vs : List (Key × V)} (q : KvA K H ι ws vs) : (valL ws k).isSome = (valV vs k).isSome := by
  obtain ⟨h1, h2⟩ := val_of k q
  cases e : valL ws k with
  | none => rw [h2 e]; rfl
  | some w => obtain ⟨v, e2, _⟩ := h1 w e; rw [e2]; rfl
theorem any_key {K : PySem.W.Frag} {H : Hp} {ι : List Addr} (k : Key) : ∀ {ws : List (Key × Vl)} {vs : List (Key × V)}, KvA K H ι ws vs → (ws.any fun kv => decide (kv.1 = k)) = (vs.any fun kv => decide (kv.1 = k))
  | _, _, .nil => rfl
  | _, _, .cons a b => by rw [List.any_cons, List.any_cons, any_key k b]
theorem KvA.length {K : PySem.W.Frag} {H : Hp} {ι : List Addr} : ∀ {ws : List (Key × Vl)} {vs : List (Key × V)}, KvA K H ι ws vs → ws.length = vs.length
  | _, _, .nil => rfl
  | _, _, .cons a b => by rw [List.length_cons, List.length_cons, KvA.length b]
theorem KvA.snoc {K : PySem.W.Frag} {H : Hp} {ι : List Addr} {k : Key} {w : Vl} {v : V} (r : Rl K H ι w v) : ∀ {ws : List (Key × Vl)} {vs : List (Key × V)}, KvA K H ι ws vs → KvA K H ι (ws ++ [(k, w)]) (vs ++ [(k, v)])
  | _, _, .nil => .cons r .nil
  | _, _, .cons a b => .cons a (KvA.snoc r b)
theorem KvA.map {K : PySem.W.Frag} {H : Hp} {ι : List Addr} {k : Key} {w : Vl} {v : V} (r : Rl K H ι w v) : ∀ {ws : List (Key × Vl)} {vs : List (Key × V)}, KvA K H ι ws vs → KvA K H ι (ws.map fun kv => if kv.1 = k then (kv.1, w) else kv) (vs.map fun kv => if kv.1 = k then (kv.1, v) else kv)
  | _, _, .nil => .nil
  | _, _, .cons (k := k1) a b => by
    rw [List.map_cons, List.map_cons]
    by_cases e : k1 = k
    · rw [if_pos e, if_pos e]; exact .cons r (KvA.map r b)
    · rw [if_neg e, if_neg e]; exact .cons a (KvA.map r b)
theorem KvA.put {K : PySem.W.Frag} {H : Hp} {ι : List Addr} {k : Key} {w : Vl} {v : V} (r : Rl K H ι w v) {ws : List (Key × Vl)} {vs : List (Key × V)} (q : KvA K H ι ws vs) : KvA K H ι (putL ws k w) (putK vs k v) := by
  unfold putL putK
  rw [any_key k q]
  by_cases e : (vs.any fun kv => decide (kv.1 = k)) = true
  · rw [if_pos e, if_pos e]; exact q.map r
  · rw [if_neg e, if_neg e]; exact q.snoc r
end AM

namespace AM
open PySem L2 PyProof.Rows

section
variable {K : PySem.W.Frag} {H : Hp} {ι : List Addr} {h : SH} {Wx : Wh} {Q : VK}
/-- a list's or a tuple's items -/
theorem items_of (r : Rep K H ι h) {w : Vl} {v : V} {xs : List Vl} (q : Rl K H ι w v) (e : items h w = some xs) : ∃ p vs, v = .ref p ∧ (SqL K H p vs ∨ SqT K H p vs) ∧ RlA K H ι xs vs := by
  cases q with
  | tup a b => cases e; exact ⟨_, _, rfl, .inr a.seq, b⟩
  | rol a b => cases e; exact ⟨_, _, rfl, .inl a.seq, b⟩
  | ref ea =>
    simp only [items] at e
    split at e
    · rename_i ys e2
      cases e
      obtain ⟨vs, q1, q2⟩ := r.lst ea e2
      exact ⟨_, vs, rfl, .inl (SqL.of q1), q2⟩
    · cases e
  | _ => cases e
theorem litems_of (r : Rep K H ι h) {w : Vl} {v : V} {xs : List Vl} (q : Rl K H ι w v) (e : litems h w = some xs) : ∃ p vs, v = .ref p ∧ SqL K H p vs ∧ RlA K H ι xs vs := by
  cases q with
  | rol a b => cases e; exact ⟨_, _, rfl, a.seq, b⟩
  | ref ea =>
    simp only [litems] at e
    split at e
    · rename_i ys e2
      cases e
      obtain ⟨vs, q1, q2⟩ := r.lst ea e2
      exact ⟨_, vs, rfl, SqL.of q1, q2⟩
    · cases e
  | _ => cases e
end
/-! ### in -/
def rDin (neg : Bool) : R2 := fun x y H Q => ∃ a kvs k, y = .ref a ∧ x = kV k ∧ H a = some (.dK kvs) ∧ Q (.bl (if neg then !(valV kvs k).isSome else (valV kvs k).isSome)) H
def rHas (K : PySem.W.Frag) (neg : Bool) : R2 := fun x y H Q => rIn K neg x y H Q ∨ rDin neg x y H Q
theorem h_has {K : PySem.W.Frag} {neg : Bool} (Wx : Wh) (ι : List Addr) (H : Hp) (h : SH) (a b : Vl) (x y : V) (Q : Bool → Hp → Prop) (r : Rep K H ι h) (ha : Rl K H ι a x) (hb : Rl K H ι b y) (p : Post K RB Wx ι H (fun k H' => Q (if neg then !k else k) H') (hasV a b h)) :
    rHas K neg x y H (fun v H' => ∃ k, v = .bl k ∧ Q k H') := by
  have seq : ∀ (xs : List Vl) (vs : List V) (q : Addr), y = .ref q → (SqL K H q vs ∨ SqT K H q vs) → RlA K H ι xs vs → Post K RB Wx ι H (fun k H' => Q (if neg then !k else k) H') (if flatL a = true ∧ xs.all flatL = true then .ok (xs.any fun y => eqL y a) h else .no) → rHas K neg x y H (fun v H' => ∃ k, v = .bl k ∧ Q k H') := by
    intro xs vs q ey hs hv p
    by_cases c : flatL a = true ∧ xs.all flatL = true
    · rw [if_pos c] at p
      obtain ⟨h1, h2⟩ := any_of ha c.1 hv c.2
      refine .inl ⟨q, vs, ey, hs, flat_of ha c.1, h1, _, rfl, ?_⟩
      have := p.here r rfl
      rw [← h2] at this
      exact this
    · rw [if_neg c] at p
      exact False.elim p
  unfold hasV at p
  cases hb with
  | tup t1 t2 => exact seq _ _ _ rfl (.inr t1.seq) t2 p
  | rol t1 t2 => exact seq _ _ _ rfl (.inl t1.seq) t2 p
  | @ref i z eb =>
    dsimp only at p
    cases e : h[i]? with
    | none => rw [e] at p; exact False.elim p
    | some o => cases o with
      | lst xs =>
        rw [e] at p
        obtain ⟨vs, q1, q2⟩ := r.lst eb e
        exact seq _ _ _ rfl (.inl (SqL.of q1)) q2 p
      | dct kvs =>
        rw [e] at p
        obtain ⟨vs, q1, q2⟩ := r.dct eb e
        dsimp only at p
        cases ek : keyOf a with
        | none => rw [ek] at p; exact False.elim p
        | some k =>
          rw [ek] at p
          refine .inr ⟨_, vs, k, rfl, key_of ha ek, q1, _, rfl, ?_⟩
          have := p.here r rfl
          rw [val_some k q2] at this
          exact this
  | _ => exact False.elim p
theorem o_din {X : Cx} (hu : X.A.units + 1 < cLine) : OpR X (compareOp .In) (rDin false) := by
  intro pins s σ H x y v u Q I rx ry q
  obtain ⟨a, kvs, k, rfl, rfl, e, q⟩ := q
  obtain rfl : u = Value.ref a := ry
  exact d_in hu I (DGet.k e) rx fun s3 I3 => ⟨.bl (valV kvs k).isSome, H, I3, rfl, q⟩
theorem o_dnin {X : Cx} (hu : X.A.units + 1 < cLine) : OpR X (compareOp .NotIn) (rDin true) := by
  intro pins s σ H x y v u Q I rx ry q
  obtain ⟨a, kvs, k, rfl, rfl, e, q⟩ := q
  obtain rfl : u = Value.ref a := ry
  exact d_notIn hu I (DGet.k e) rx fun s3 I3 => ⟨.bl (!(valV kvs k).isSome), H, I3, rfl, q⟩
def Cop.op : Cop → CmpOp
  | .eq => .Eq | .ne => .NotEq | .lt => .Lt | .le => .LtE | .gt => .Gt | .ge => .GtE | .inn => .In | .nin => .NotIn
def copR (K : PySem.W.Frag) : Cop → R2
  | .eq => rEqD K | .ne => rNeD K | .lt => rI0 fun i j => .bl (decide (i < j)) | .le => rI0 fun i j => .bl (decide (i ≤ j)) | .gt => rI0 fun i j => .bl (decide (j < i)) | .ge => rI0 fun i j => .bl (decide (j ≤ i))
  | .inn => rHas K false | .nin => rHas K true
theorem o_cop {X : Cx} (hu : X.A.units + 64 < cLine) (op : Cop) : OpR X (compareOp op.op) (copR X.K op) := by
  have h1 : X.A.units + 1 < cLine := by omega
  cases op
  · exact op_eqD hu
  · exact op_neD hu
  · exact op_lt
  · exact op_le
  · exact op_gt
  · exact op_ge
  · exact op_in_seq.or (o_din h1)
  · exact op_notIn_seq.or (o_dnin h1)
theorem c_cop {K : PySem.W.Frag} (op : Cop) : CmpOk K (copR K op) (copV op) := by
  cases op
  · exact c_eq
  · exact c_ne
  · exact c_int i_lt
  · exact c_int i_le
  · exact c_int i_gt
  · exact c_int i_ge
  · exact fun Wx ι H h a b x y Q r ha hb p => h_has (neg := false) Wx ι H h a b x y Q r ha hb p
  · intro Wx ι H h a b x y Q r ha hb p
    refine h_has (neg := true) Wx ι H h a b x y Q r ha hb ?_
    have p' : Post K RB Wx ι H Q (bind (hasV a b) (fun r => ret (!r)) h) := p
    exact (p'.seq (R := RB)).mono fun k H1 ⟨k', ι1, h1, st, r1, e, q⟩ => by
      cases e
      exact q.ret r1 rfl
/-! ### truth, items, slices, stores -/
theorem tru_of {K : PySem.W.Frag} {Wx : Wh} {ι : List Addr} {H : Hp} {h : SH} {w : Vl} {v : V} {Q : Bool → Hp → Prop} (r : Rep K H ι h) (q : Rl K H ι w v) (p : Post K RB Wx ι H Q (truth w h)) : ∃ k, TruV K v H k ∧ Q k H := by
  cases q with
  | non => exact ⟨false, rfl, p.ret r rfl⟩
  | bl b => exact ⟨b, rfl, p.ret r rfl⟩
  | int i => exact ⟨_, rfl, p.ret r rfl⟩
  | str s =>
    unfold truth at p
    dsimp only at p
    by_cases c : s.length ≤ lim
    · rw [if_pos c] at p; exact ⟨_, ⟨lim_line c, rfl⟩, p.ret r rfl⟩
    · rw [if_neg c] at p; exact False.elim p
  | @tup xs vs a t1 t2 =>
    refine ⟨!vs.isEmpty, .inr (.inl ⟨vs, t1.seq, rfl⟩), ?_⟩
    have e : xs.isEmpty = vs.isEmpty := by cases t2 <;> rfl
    have := p.ret r (b := !xs.isEmpty) rfl
    rw [e] at this; exact this
  | @rol xs vs a t1 t2 =>
    refine ⟨!vs.isEmpty, .inl ⟨vs, t1.seq, rfl⟩, ?_⟩
    have e : xs.isEmpty = vs.isEmpty := by cases t2 <;> rfl
    have := p.ret r (b := !xs.isEmpty) rfl
    rw [e] at this; exact this
  | @ref i a ea =>
    unfold truth at p
    dsimp only at p
    cases e : h[i]? with
    | none => rw [e] at p; exact False.elim p
    | some o => cases o with
      | lst xs =>
        rw [e] at p
        obtain ⟨vs, q1, q2⟩ := r.lst ea e
        refine ⟨!vs.isEmpty, .inl ⟨vs, SqL.of q1, rfl⟩, ?_⟩
        have e : xs.isEmpty = vs.isEmpty := by cases q2 <;> rfl
        have := p.here r (b := !xs.isEmpty) rfl
        rw [e] at this; exact this
      | dct xs =>
        rw [e] at p
        obtain ⟨vs, q1, q2⟩ := r.dct ea e
        refine ⟨!vs.isEmpty, .inr (.inr ⟨vs, q1, rfl⟩), ?_⟩
        have e : xs.isEmpty = vs.isEmpty := by cases q2 <;> rfl
        have := p.here r (b := !xs.isEmpty) rfl
        rw [e] at this; exact this
  | ty t => exact False.elim p
def rIxD : R2 := fun x y H Q => ∃ a kvs k v, x = .ref a ∧ y = kV k ∧ H a = some (.dK kvs) ∧ valV kvs k = some v ∧ Q v H
def rIdx (K : PySem.W.Frag) : R2 := fun x y H Q => rIxL K x y H Q ∨ rIxT K x y H Q ∨ rIxD x y H Q
theorem ix_dct {X : Cx} (hu : X.A.units + 1 < cLine) : IxR X rIxD := by
  intro value slice pins s σ H x y v u Q I rx ry q hs
  obtain ⟨a, kvs, k, z, rfl, rfl, e, ez, q⟩ := q
  obtain rfl : v = Value.ref a := rx
  have g : DGet H a (kV k) (some z) := by rw [← ez]; exact DGet.k e
  exact PyProof.Rows.tail_any (dict_typeIs I g) PySem.F.slot_dict_getitem.lookup (d_getItem hu I g ry fun w' s3 I3 rw' => ⟨z, H, I3, rw', q⟩) hs
theorem o_idx {X : Cx} (hu : X.A.units + 1 < cLine) : IxR X (rIdx X.K) := ix_list.or (ix_tup.or (ix_dct hu))
theorem at_of {K : PySem.W.Frag} {H : Hp} {ι : List Addr} {xs : List Vl} {vs : List V} {k : Int} {w : Vl} (q : RlA K H ι xs vs) (e : atI xs k = some w) : ∃ v, atI vs k = some v ∧ Rl K H ι w v := by
  unfold atI at e ⊢
  rw [← q.length]
  cases e2 : ixN xs.length k with
  | none => rw [e2] at e; cases e
  | some j =>
    rw [e2] at e
    obtain ⟨y, e3, r⟩ := q.get (show xs[j]? = some w from e)
    exact ⟨y, e3, r⟩
theorem b_idx {K : PySem.W.Frag} : BinOk K (rIdx K) idxV := fun Wx ι H h a b x y Q r ha hb p => by
  have dct : ∀ (k : Key) (i : Nat) (z : Addr) (kvs : List (Key × Vl)), a = .ref i → x = .ref z → ι[i]? = some z → h[i]? = some (.dct kvs) → y = kV k → Post K (Rl K) Wx ι H Q (match valL kvs k with | some v => .ok v h | none => .no) → rIdx K x y H Q := by
    intro k i z kvs ea ex ez e ey p
    obtain ⟨vs, q1, q2⟩ := r.dct ez e
    cases e3 : valL kvs k with
    | none => rw [e3] at p; exact False.elim p
    | some w =>
      rw [e3] at p
      obtain ⟨v, e4, rv⟩ := (val_of k q2).1 w e3
      exact .inr (.inr ⟨z, vs, k, v, ex, ey, q1, e4, p.here r rv⟩)
  unfold idxV at p
  cases hb with
  | int k =>
    dsimp only at p
    cases e : items h a with
    | some xs =>
      rw [e] at p
      dsimp only at p
      obtain ⟨z, vs, ex, hs, hv⟩ := items_of r ha e
      cases e3 : atI xs k with
      | none => rw [e3] at p; exact False.elim p
      | some w =>
        rw [e3] at p
        obtain ⟨v, e4, rv⟩ := at_of hv e3
        rcases hs with hs | hs
        · exact .inl ⟨z, vs, k, v, ex, rfl, hs, e4, p.here r rv⟩
        · exact .inr (.inl ⟨z, vs, k, v, ex, rfl, hs, e4, p.here r rv⟩)
    | none =>
      rw [e] at p
      dsimp only at p
      cases ha with
      | @ref i z ez =>
        dsimp only at p
        cases e2 : h[i]? with
        | none => rw [e2] at p; exact False.elim p
        | some o => cases o with
          | lst xs => rw [e2] at p; exact False.elim p
          | dct kvs => rw [e2] at p; exact dct (.inl k) i z kvs rfl rfl ez e2 rfl p
      | _ => exact False.elim p
  | str k =>
    dsimp only at p
    cases ha with
    | @ref i z ez =>
      dsimp only at p
      cases e2 : h[i]? with
      | none => rw [e2] at p; exact False.elim p
      | some o => cases o with
        | lst xs => rw [e2] at p; exact False.elim p
        | dct kvs => rw [e2] at p; exact dct (.inr k) i z kvs rfl rfl ez e2 rfl p
    | _ => exact False.elim p
  | _ => exact False.elim p
def rSlc (K : PySem.W.Frag) : V → Option Int → Option Int → Hp → VK → Prop := fun x lo hi H Q => rSlL K x lo hi H Q ∨ rSlT K x lo hi H Q
theorem o_slc {X : Cx} : SlR X (rSlc X.K) := sl_list.or sl_tup
theorem cut_of {K : PySem.W.Frag} {H : Hp} {ι : List Addr} {xs : List Vl} {vs : List V} (q : RlA K H ι xs vs) (lo hi : Option Int) : RlA K H ι (cutL xs lo hi) (cutV vs lo hi) := by
  unfold cutL cutV
  rw [← q.length]
  exact (q.drop _).take _
theorem s_slc {K : PySem.W.Frag} {Wx : Wh} {ι : List Addr} {H : Hp} {h : SH} {w : Vl} {v : V} {lo hi : Option Int} {Q : VK} (r : Rep K H ι h) (q : Rl K H ι w v) (p : Post K (Rl K) Wx ι H Q (slcV w lo hi h)) : rSlc K v lo hi H Q := by
  unfold slcV at p
  cases q with
  | @tup xs vs a t1 t2 =>
    dsimp only at p
    by_cases c : HT.sIx xs.length 0 lo = 0 ∧ HT.sIx xs.length xs.length hi = xs.length
    · rw [if_pos c] at p; exact False.elim p
    · rw [if_neg c] at p
      refine .inr ⟨a, vs, rfl, t1.seq, by rw [← t2.length]; exact c, laid_tup r (cut_of t2 lo hi) p⟩
  | @rol xs vs a t1 t2 => exact .inl ⟨a, vs, rfl, t1.seq, laid_lst r (cut_of t2 lo hi) p⟩
  | @ref i a ea =>
    dsimp only at p
    cases e : h[i]? with
    | none => rw [e] at p; exact False.elim p
    | some o => cases o with
      | lst xs =>
        rw [e] at p
        obtain ⟨vs, q1, q2⟩ := r.lst ea e
        exact .inl ⟨a, vs, rfl, SqL.of q1, laid_lst r (cut_of q2 lo hi) p⟩
      | dct xs => rw [e] at p; exact False.elim p
  | _ => exact False.elim p
def rSetD : TSet := fun o i v H Q => ∃ a kvs k, o = .ref a ∧ i = kV k ∧ H a = some (.dK kvs) ∧ kvs.length < sizeLine ∧ Q (upd H a (.dK (putK kvs k v)))
def rSet : TSet := fun o i v H Q => rSetL o i v H Q ∨ rSetD o i v H Q
theorem set_dct {X : Cx} (hu : X.A.units + 1 < cLine) : PSet X rSetD := by
  intro pins s σ H o i v ov iv u Q I ro ri rv q
  obtain ⟨a, kvs, k, rfl, rfl, e, hl, q⟩ := q
  obtain rfl : ov = Value.ref a := ro
  exact d_setItem hu I (DPut.k e hl) ri rv fun s4 I4 => ⟨_, I4, q⟩
theorem o_set {X : Cx} (hu : X.A.units + 1 < cLine) : PSet X rSet := by
  intro pins s σ H o i v ov iv u Q I ro ri rv q
  rcases q with q | q
  · exact set_list pins s σ H o i v ov iv u Q I ro ri rv q
  · exact set_dct hu pins s σ H o i v ov iv u Q I ro ri rv q
def RU (_ : Hp) (_ : List Addr) (_ _ : Unit) : Prop := True
theorem s_set {K : PySem.W.Frag} {Wx : Wh} {ι : List Addr} {H : Hp} {h : SH} {a b c : Vl} {o i v : V} {Q : Unit → Hp → Prop} (r : Rep K H ι h) (ha : Rl K H ι a o) (hb : Rl K H ι b i) (hc : Rl K H ι c v) (p : Post K RU Wx ι H Q (setV a b c h)) : rSet o i v H (Q ()) := by
  unfold setV at p
  cases ha with
  | @ref j z ez =>
    dsimp only at p
    cases e : h[j]? with
    | none => rw [e] at p; exact False.elim p
    | some ob => cases ob with
      | lst xs =>
        rw [e] at p
        obtain ⟨vs, q1, q2⟩ := r.lst ez e
        dsimp only at p
        cases hb with
        | int k =>
          dsimp only at p
          cases e2 : ixN xs.length k with
          | none => rw [e2] at p; exact False.elim p
          | some m =>
            rw [e2] at p
            obtain ⟨st, r2⟩ := put_lst r ez (q2.set m hc)
            exact .inl ⟨z, vs, k, m, rfl, rfl, q1, by rw [← q2.length]; exact e2, Post.to p st r2 (b := ()) trivial⟩
        | _ => exact False.elim p
      | dct kvs =>
        rw [e] at p
        obtain ⟨vs, q1, q2⟩ := r.dct ez e
        dsimp only at p
        cases e2 : keyOf b with
        | none => rw [e2] at p; exact False.elim p
        | some k =>
          rw [e2] at p
          dsimp only at p
          by_cases c : kvs.length < lim
          · rw [if_pos c] at p
            obtain ⟨st, r2⟩ := put_dct r ez (q2.put (k := k) hc)
            exact .inr ⟨z, vs, k, rfl, key_of hb e2, q1, by rw [← q2.length]; exact lim_lt c, Post.to p st r2 (b := ()) trivial⟩
          · rw [if_neg c] at p; exact False.elim p
  | _ => exact False.elim p
end AM

namespace AM
open PySem L2 PyProof.Rows

def Bi.name : Bi → Str
  | .len => "len" | .isi => "isinstance" | .intc => "int" | .sum => "sum" | .max => "max" | .min => "min" | .lst => "list" | .all => "all" | .any => "any" | .tupc => "tuple"
def Bi.val : Bi → Value
  | .len => .builtin "len" | .isi => .builtin "isinstance" | .intc => .type "int" | .sum => .builtin "sum" | .max => .builtin "max" | .min => .builtin "min" | .lst => .type "list" | .all => .builtin "all" | .any => .builtin "any" | .tupc => .type "tuple"
abbrev RCl := List V → Hp → VK → Prop
def CalOk (K : PySem.W.Frag) (r : RCl) (f : List Vl → M Vl) : Prop := ∀ (Wx : Wh) (ι : List Addr) (H : Hp) (h : SH) (ws : List Vl) (vs : List V) (Q : VK), Rep K H ι h → RlA K H ι ws vs → Post K (Rl K) Wx ι H Q (f ws h) → r vs H Q
theorem RlA.one {K : PySem.W.Frag} {H : Hp} {ι : List Addr} {w : Vl} {vs : List V} (q : RlA K H ι [w] vs) : ∃ v, vs = [v] ∧ Rl K H ι w v := by
  cases q with | cons a b => cases b; exact ⟨_, rfl, a⟩
theorem RlA.two {K : PySem.W.Frag} {H : Hp} {ι : List Addr} {w u : Vl} {vs : List V} (q : RlA K H ι [w, u] vs) : ∃ v x, vs = [v, x] ∧ Rl K H ι w v ∧ Rl K H ι u x := by
  cases q with | cons a b => cases b with | cons c d => cases d; exact ⟨_, _, rfl, a, c⟩
/-! ### len -/
def Cal1 (K : PySem.W.Frag) (r : V → Hp → VK → Prop) (f : Vl → M Vl) : Prop := ∀ (Wx : Wh) (ι : List Addr) (H : Hp) (h : SH) (w : Vl) (v : V) (Q : VK), Rep K H ι h → Rl K H ι w v → Post K (Rl K) Wx ι H Q (f w h) → r v H Q
theorem cal1 {K : PySem.W.Frag} {r : V → Hp → VK → Prop} {r2 : RCl} {f : Vl → M Vl} (c : Cal1 K r f) (e : ∀ v H Q, r v H Q → r2 [v] H Q) : CalOk K r2 (on1 f) := fun Wx ι H h ws vs Q r1 q p => by
  match ws, q, p with
  | [], q, p => exact False.elim p
  | _ :: _ :: _, q, p => exact False.elim p
  | [w], q, p =>
    obtain ⟨v, rfl, q1⟩ := q.one
    exact e _ _ _ (c Wx ι H h w v Q r1 q1 p)
def rLenA (K : PySem.W.Frag) : RCl := fun xs H Q => (∃ x n, xs = [x] ∧ LenV K x H n ∧ Q (.int n) H) ∨ (∃ a kvs, xs = [.ref a] ∧ H a = some (.dK kvs) ∧ Q (.int (kvs.length : Nat)) H)
theorem lenA {K : PySem.W.Frag} : CalOk K (rLenA K) (biV .len) := cal1 (r := fun v H Q => rLenA K [v] H Q) (fun Wx ι H h w v Q r q p => by
    cases q with
    | str s =>
      simp only [lenB] at p
      by_cases c : s.length ≤ lim
      · rw [if_pos c] at p; exact .inl ⟨_, _, rfl, ⟨lim_line c, rfl⟩, p.ret r (.int _)⟩
      · rw [if_neg c] at p; exact False.elim p
    | @ref i a ea =>
      simp only [lenB] at p
      cases e : h[i]? with
      | none => rw [e] at p; exact False.elim p
      | some o => cases o with
        | lst xs =>
          rw [e] at p
          obtain ⟨vs, q1, q2⟩ := r.lst ea e
          have p2 := p.here r (.int _)
          rw [q2.length] at p2
          exact .inl ⟨_, vs.length, rfl, .inl ⟨vs, SqL.of q1, rfl⟩, p2⟩
        | dct kvs =>
          rw [e] at p
          obtain ⟨vs, q1, q2⟩ := r.dct ea e
          have p2 := p.here r (.int _)
          rw [q2.length] at p2
          exact .inr ⟨a, vs, rfl, q1, p2⟩
    | @tup xs vs a t1 t2 =>
      have p2 := p.ret r (.int _)
      rw [t2.length] at p2
      exact .inl ⟨_, vs.length, rfl, .inr ⟨vs, t1.seq, rfl⟩, p2⟩
    | @rol xs vs a t1 t2 =>
      have p2 := p.ret r (.int _)
      rw [t2.length] at p2
      exact .inl ⟨_, vs.length, rfl, .inl ⟨vs, t1.seq, rfl⟩, p2⟩
    | _ => exact False.elim p) fun _ _ _ z => z
/-! ### isinstance -/
def rIsA (K : PySem.W.Frag) : RCl := fun xs H Q => rIsi K xs H Q ∨ rIsiT K xs H Q ∨ rIsiK K xs H Q
def Ty.full (t : Ty) : String := t.name
theorem kit_tyIs (K : PySem.W.Frag) : ∀ t u : Ty, PySem.W.kitOne K (.type t.name) (.type u.name) = some (tyIs t u) := fun t u => by
  cases t <;> cases u <;> exact kit_ty (by decide +kernel)
theorem kit_none (K : PySem.W.Frag) : ∀ u : Ty, PySem.W.kitOne K (.type "NoneType") (.type u.name) = some false := fun u => by
  cases u <;> exact kit_ty (by decide +kernel)
theorem isi_of {K : PySem.W.Frag} {ι : List Addr} {H : Hp} {h : SH} {w : Vl} {v : V} (r : Rep K H ι h) (q : Rl K H ι w v) {t0 : Ty} {b0 : Bool} (e0 : isiV h w t0 = some b0) : ∃ u, TyX K H v u ∧ ∀ t b, isiV h w t = some b → PySem.W.kitOne K u (.type t.name) = some b := by
  have fin : ∀ u : Ty, TyX K H v (.type u.name) → (∀ t, isiV h w t = some (tyIs u t)) → ∃ u, TyX K H v u ∧ ∀ t b, isiV h w t = some b → PySem.W.kitOne K u (.type t.name) = some b := fun u h1 h2 => ⟨_, h1, fun t b e => by
    rw [h2] at e; cases e; exact kit_tyIs K u t⟩
  cases q with
  | non => exact ⟨_, .base .non, fun t b e => by cases e; exact kit_none K t⟩
  | bl x => exact fin .tb (.base (.bl x)) fun _ => rfl
  | int x => exact fin .ti (.base (.int x)) fun _ => rfl
  | str x => exact fin .ts (.base (.str x)) fun _ => rfl
  | tup a c =>
    rcases a with a | ⟨o, its, n, a1, a2, _⟩
    · exact fin .tt (.base (.tup a)) fun _ => rfl
    · exact fin .tt (.kTuple a1 a2) fun _ => rfl
  | rol a c =>
    rcases a with ⟨o, a⟩ | ⟨o, its, n, a1, a2, _⟩
    · exact fin .tl (.base (.frz a)) fun _ => rfl
    · exact fin .tl (.kList a1 a2) fun _ => rfl
  | @ref i a ea =>
    cases e2 : h[i]? with
    | none => simp only [isiV, tyOf] at e0; rw [e2] at e0; cases e0
    | some o => cases o with
      | lst xs =>
        obtain ⟨vs, q1, q2⟩ := r.lst ea e2
        exact fin .tl (.base (.lst q1)) fun t => by simp only [isiV, tyOf]; rw [e2]; rfl
      | dct kvs =>
        obtain ⟨vs, q1, q2⟩ := r.dct ea e2
        exact fin .td (.base (.dK q1)) fun t => by simp only [isiV, tyOf]; rw [e2]; rfl
  | ty x => simp [isiV, tyOf] at e0
theorem isA {K : PySem.W.Frag} : CalOk K (rIsA K) (biV .isi) := fun Wx ι H h ws vs Q r1 q p => by
  match ws, q, p with
  | [], q, p => exact False.elim p
  | [_], q, p => exact False.elim p
  | _ :: _ :: _ :: _, q, p => exact False.elim p
  | [w, t], q, p =>
    obtain ⟨v, x, rfl, q1, q2⟩ := q.two
    have p : Post K (Rl K) Wx ι H Q (isiB w t h) := p
    cases q2 with
    | ty t =>
      simp only [isiB] at p
      cases e : isiV h w t with
      | none => rw [e] at p; exact False.elim p
      | some b =>
        rw [e] at p
        obtain ⟨u, h1, h2⟩ := isi_of r1 q1 e
        exact .inl ⟨v, _, u, _, b, rfl, .ty _, h1, h2 _ _ e, p.here r1 (.bl _)⟩
    | @tup ts vs a t1 t2 =>
      have key : ∀ (t u : Ty), ts = [.ty t, .ty u] → rIsA K [v, V.ref a] H Q := fun t u et => by
        subst et
        obtain ⟨x, y, rfl, q3, q4⟩ := t2.two
        cases q3
        cases q4
        simp only [isiB] at p
        cases e : isiV h w t with
        | none => rw [e] at p; exact False.elim p
        | some b =>
          cases e' : isiV h w u with
          | none => rw [e, e'] at p; exact False.elim p
          | some c =>
            rw [e, e'] at p
            obtain ⟨z, h1, h2⟩ := isi_of r1 q1 e
            have hk : PySem.W.kitAny K z [.type t.name, .type u.name] = some (b || c) := kitAny_cons (h2 _ _ e) (fun eb => by rw [eb]; exact kitAny_cons (h2 _ _ e') (fun ec => by rw [ec]; exact kitAny_nil) fun ec => by rw [ec]; rfl) fun eb => by rw [eb]; rfl
            rcases t1 with t1 | ⟨o, its, n, a1, a2, a3, _, a4⟩
            · exact .inr (.inl ⟨v, a, _, z, _, _, rfl, t1, .cons (.ty _) (.cons (.ty _) .nil), h1, hk, p.here r1 (.bl _)⟩)
            · have ei : its.toList = [.type t.name, .type u.name] := by
                generalize its.toList = l at a4
                cases a4 with
                | cons b1 b2 => cases b2 with
                  | cons b3 b4 =>
                    cases b4
                    have b1 : _ = Value.type t.name := b1
                    have b3 : _ = Value.type u.name := b3
                    rw [b1, b3]
              obtain ⟨oc, od, odt, osl⟩ := o
              simp only at a2 a3
              subst a2
              subst a3
              have : its = (its.toList).toArray := by simp
              rw [this, ei] at a1
              exact .inr (.inr ⟨v, a, od, _, n, osl, z, _, rfl, a1, h1, hk, p.here r1 (.bl _)⟩)
      simp only [isiB] at p
      split at p
      · exact key _ _ rfl
      · exact False.elim p
    | _ => exact False.elim p
/-! ### the others -/
def rIntA : RCl := fun xs H Q => (∃ i, xs = [.int i] ∧ Q (.int i) H) ∨ ∃ k, xs = [.bl k] ∧ Q (.int (if k then 1 else 0)) H
theorem intA {K : PySem.W.Frag} : CalOk K rIntA (biV .intc) := cal1 (r := fun v H Q => rIntA [v] H Q) (fun Wx ι H h w v Q r q p => by
  cases q with
  | int i => exact .inl ⟨i, rfl, p.ret r (.int _)⟩
  | bl b => exact .inr ⟨b, rfl, p.ret r (.int _)⟩
  | _ => exact False.elim p) fun _ _ _ z => z
theorem ints_of {K : PySem.W.Frag} {H : Hp} {ι : List Addr} : ∀ {xs : List Vl} {vs : List V} {ns : List Int}, RlA K H ι xs vs → xs.mapM intL = some ns → vs = ns.map V.int
  | [], _, _, q, e => by cases q; simp at e; subst e; rfl
  | x :: xs, _, _, .cons a b, e => by
    simp only [List.mapM_cons] at e
    cases e1 : intL x with
    | none => rw [e1] at e; cases e
    | some n =>
      rw [e1] at e
      cases e2 : xs.mapM intL with
      | none => rw [e2] at e; cases e
      | some ms =>
        rw [e2] at e
        cases e
        rw [ints_of b e2]
        cases x <;> first | (cases e1; cases a; rfl) | cases e1
theorem bls_of {K : PySem.W.Frag} {H : Hp} {ι : List Addr} : ∀ {xs : List Vl} {vs : List V} {ns : List Bool}, RlA K H ι xs vs → xs.mapM blL = some ns → vs = ns.map V.bl
  | [], _, _, q, e => by cases q; simp at e; subst e; rfl
  | x :: xs, _, _, .cons a b, e => by
    simp only [List.mapM_cons] at e
    cases e1 : blL x with
    | none => rw [e1] at e; cases e
    | some n =>
      rw [e1] at e
      cases e2 : xs.mapM blL with
      | none => rw [e2] at e; cases e
      | some ms =>
        rw [e2] at e
        cases e
        rw [bls_of b e2]
        cases x <;> first | (cases e1; cases a; rfl) | cases e1
theorem sumA {K : PySem.W.Frag} : CalOk K (rSum K) (biV .sum) := cal1 (r := fun v H Q => rSum K [v] H Q) (fun Wx ι H h w v Q r q p => by
  simp only [sumB] at p
  cases e : litems h w with
  | none => rw [e] at p; exact False.elim p
  | some xs =>
    rw [e] at p
    obtain ⟨a, vs, rfl, hs, hv⟩ := litems_of r q e
    dsimp only at p
    cases e2 : xs.mapM intL with
    | none => rw [e2] at p; exact False.elim p
    | some ns =>
      rw [e2] at p
      have := ints_of hv e2
      subst this
      exact ⟨a, ns, rfl, hs, p.here r (.int _)⟩) fun _ _ _ z => z
theorem allA {K : PySem.W.Frag} : CalOk K (rAll K) (biV .all) := cal1 (r := fun v H Q => rAll K [v] H Q) (fun Wx ι H h w v Q r q p => by
  simp only [bsB] at p
  cases e : litems h w with
  | none => rw [e] at p; exact False.elim p
  | some xs =>
    rw [e] at p
    obtain ⟨a, vs, rfl, hs, hv⟩ := litems_of r q e
    dsimp only at p
    cases e2 : xs.mapM blL with
    | none => rw [e2] at p; exact False.elim p
    | some ns =>
      rw [e2] at p
      have := bls_of hv e2
      subst this
      exact ⟨a, ns, rfl, hs, p.here r (.bl _)⟩) fun _ _ _ z => z
theorem anyA {K : PySem.W.Frag} : CalOk K (rAny K) (biV .any) := cal1 (r := fun v H Q => rAny K [v] H Q) (fun Wx ι H h w v Q r q p => by
  simp only [bsB] at p
  cases e : litems h w with
  | none => rw [e] at p; exact False.elim p
  | some xs =>
    rw [e] at p
    obtain ⟨a, vs, rfl, hs, hv⟩ := litems_of r q e
    dsimp only at p
    cases e2 : xs.mapM blL with
    | none => rw [e2] at p; exact False.elim p
    | some ns =>
      rw [e2] at p
      have := bls_of hv e2
      subst this
      exact ⟨a, ns, rfl, hs, p.here r (.bl _)⟩) fun _ _ _ z => z
theorem maxL_spec : ∀ (ns : List Int) (m : Int), m ∈ ns → (∀ y, y ∈ ns → y ≤ m) → m = maxL ns
  | [], m, h, _ => by cases h
  | x :: xs, m, h, g => by
    have key : ∀ (l : List Int) (x : Int), (l.foldl (fun a b => if a < b then b else a) x = x ∨ l.foldl (fun a b => if a < b then b else a) x ∈ l) ∧ x ≤ l.foldl (fun a b => if a < b then b else a) x ∧ ∀ y ∈ l, y ≤ l.foldl (fun a b => if a < b then b else a) x := by
      intro l
      induction l with
      | nil => intro x; exact ⟨.inl rfl, Int.le_refl _, fun y hy => by cases hy⟩
      | cons z l ih =>
        intro x
        simp only [List.foldl_cons]
        obtain ⟨h1, h2, h3⟩ := ih (if x < z then z else x)
        refine ⟨?_, ?_, fun y hy => ?_⟩
        · rcases h1 with h1 | h1
          · rw [h1]; split
            · exact .inr (by simp)
            · exact .inl rfl
          · exact .inr (List.mem_cons_of_mem _ h1)
        · refine Int.le_trans ?_ h2; split <;> omega
        · rcases List.mem_cons.mp hy with rfl | hy
          · refine Int.le_trans ?_ h2; split <;> omega
          · exact h3 y hy
    obtain ⟨h1, h2, h3⟩ := key xs x
    show m = xs.foldl _ x
    have a1 : xs.foldl (fun a b => if a < b then b else a) x ≤ m := by
      rcases h1 with h1 | h1
      · rw [h1]; exact g x (by simp)
      · exact g _ (List.mem_cons_of_mem _ h1)
    have a2 : m ≤ xs.foldl (fun a b => if a < b then b else a) x := by
      rcases List.mem_cons.mp h with rfl | h
      · exact h2
      · exact h3 m h
    omega
theorem minL_spec : ∀ (ns : List Int) (m : Int), m ∈ ns → (∀ y, y ∈ ns → m ≤ y) → m = minL ns
  | [], m, h, _ => by cases h
  | x :: xs, m, h, g => by
    have key : ∀ (l : List Int) (x : Int), (l.foldl (fun a b => if b < a then b else a) x = x ∨ l.foldl (fun a b => if b < a then b else a) x ∈ l) ∧ l.foldl (fun a b => if b < a then b else a) x ≤ x ∧ ∀ y ∈ l, l.foldl (fun a b => if b < a then b else a) x ≤ y := by
      intro l
      induction l with
      | nil => intro x; exact ⟨.inl rfl, Int.le_refl _, fun y hy => by cases hy⟩
      | cons z l ih =>
        intro x
        simp only [List.foldl_cons]
        obtain ⟨h1, h2, h3⟩ := ih (if z < x then z else x)
        refine ⟨?_, ?_, fun y hy => ?_⟩
        · rcases h1 with h1 | h1
          · rw [h1]; split
            · exact .inr (by simp)
            · exact .inl rfl
          · exact .inr (List.mem_cons_of_mem _ h1)
        · refine Int.le_trans h2 ?_; split <;> omega
        · rcases List.mem_cons.mp hy with rfl | hy
          · refine Int.le_trans h2 ?_; split <;> omega
          · exact h3 y hy
    obtain ⟨h1, h2, h3⟩ := key xs x
    show m = xs.foldl _ x
    have a1 : m ≤ xs.foldl (fun a b => if b < a then b else a) x := by
      rcases h1 with h1 | h1
      · rw [h1]; exact g x (by simp)
      · exact g _ (List.mem_cons_of_mem _ h1)
    have a2 : xs.foldl (fun a b => if b < a then b else a) x ≤ m := by
      rcases List.mem_cons.mp h with rfl | h
      · exact h2
      · exact h3 m h
    omega
def rMxA (K : PySem.W.Frag) : RCl := fun xs H Q => (∃ i j, xs = [.int i, .int j] ∧ Q (.int (if j > i then j else i)) H) ∨ rMax K xs H Q
def rMnA (K : PySem.W.Frag) : RCl := fun xs H Q => (∃ i j, xs = [.int i, .int j] ∧ Q (.int (if j < i then j else i)) H) ∨ rMin K xs H Q
theorem mmA {K : PySem.W.Frag} {R2 : RCl} {two : Int → Int → Int} {all : List Int → Int} (h1 : ∀ i j H Q, Q (.int (two i j)) H → R2 [.int i, .int j] H Q)
    (h2 : ∀ (a : Addr) (ns : List Int) (H : Hp) (Q : VK), SqL K H a (ns.map V.int) → 0 < ns.length → Q (.int (all ns)) H → R2 [.ref a] H Q) : CalOk K R2 (mmB two all) := fun Wx ι H h ws vs Q r q p => by
  unfold mmB at p
  split at p
  · exact False.elim p
  · rename_i w
    obtain ⟨v, rfl, q1⟩ := q.one
    cases e : litems h w with
    | none => rw [e] at p; exact False.elim p
    | some xs =>
      rw [e] at p
      obtain ⟨a, vs, rfl, hs, hv⟩ := litems_of r q1 e
      dsimp only at p
      cases e2 : xs.mapM intL with
      | none => rw [e2] at p; exact False.elim p
      | some ns =>
        rw [e2] at p
        have := ints_of hv e2
        subst this
        dsimp only at p
        by_cases c : 0 < ns.length
        · rw [if_pos c] at p; exact h2 a ns H Q hs c (p.here r (.int _))
        · rw [if_neg c] at p; exact False.elim p
  · obtain ⟨v, x, rfl, q1, q2⟩ := q.two
    cases q1; cases q2
    exact h1 _ _ _ _ (p.ret r (.int _))
  · exact False.elim p
theorem maxA {K : PySem.W.Frag} : CalOk K (rMxA K) (biV .max) := mmA (fun i j H Q q => .inl ⟨i, j, rfl, q⟩) fun a ns H Q hs c q => .inr ⟨a, ns, rfl, hs, c, fun m h1 h2 => by rw [maxL_spec ns m h1 h2]; exact q⟩
theorem minA {K : PySem.W.Frag} : CalOk K (rMnA K) (biV .min) := mmA (fun i j H Q q => .inl ⟨i, j, rfl, q⟩) fun a ns H Q hs c q => .inr ⟨a, ns, rfl, hs, c, fun m h1 h2 => by rw [minL_spec ns m h1 h2]; exact q⟩
def rLsA (K : PySem.W.Frag) : RCl := fun xs H Q => (∃ p ys, xs = [.ref p] ∧ (SqL K H p ys ∨ SqT K H p ys) ∧ ∀ l, H l = none → Q (.ref l) (upd H l (.lst ys))) ∨ rListD xs H Q
theorem keys_rl {K : PySem.W.Frag} {H : Hp} {ι : List Addr} : ∀ {ws : List (Key × Vl)} {vs : List (Key × V)}, KvA K H ι ws vs → RlA K H ι (ws.map fun kv => kVl kv.1) (vs.map fun kv => kV kv.1)
  | _, _, .nil => .nil
  | _, _, .cons (k := k) a b => .cons (by cases k; exact .int _; exact .str _) (keys_rl b)
theorem lstA {K : PySem.W.Frag} : CalOk K (rLsA K) (biV .lst) := cal1 (r := fun v H Q => rLsA K [v] H Q) (fun Wx ι H h w v Q r q p => by
  simp only [lstB] at p
  cases e : items h w with
  | some xs =>
    rw [e] at p
    obtain ⟨a, vs, rfl, hs, hv⟩ := items_of r q e
    exact .inl ⟨a, vs, rfl, hs, laid_lst r hv p⟩
  | none =>
    rw [e] at p
    cases q with
    | @ref i a ea =>
      dsimp only at p
      cases e2 : h[i]? with
      | none => rw [e2] at p; exact False.elim p
      | some o => cases o with
        | lst xs => rw [e2] at p; exact False.elim p
        | dct kvs =>
          rw [e2] at p
          obtain ⟨vs, q1, q2⟩ := r.dct ea e2
          exact .inr ⟨a, vs, rfl, q1, laid_lst r (keys_rl q2) p⟩
    | _ => exact False.elim p) fun _ _ _ z => z
def rTpA (K : PySem.W.Frag) : RCl := fun xs H Q => ∃ a ys, xs = [.ref a] ∧ ((SqL K H a ys ∧ ∀ l, H l = none → Q (.ref l) (upd H l (.tup ys))) ∨ (SqT K H a ys ∧ Q (.ref a) H))
theorem tupA {K : PySem.W.Frag} : CalOk K (rTpA K) (biV .tupc) := cal1 (r := fun v H Q => rTpA K [v] H Q) (fun Wx ι H h w v Q r q p => by
  simp only [tupB] at p
  cases e : items h w with
  | none => rw [e] at p; exact False.elim p
  | some xs =>
    rw [e] at p
    have p : Post K (Rl K) Wx ι H Q (.ok (.tup xs) h) := p
    cases q with
    | tup a b => cases e; exact ⟨_, _, rfl, .inr ⟨a.seq, p.here r (.tup a b)⟩⟩
    | rol a b => cases e; exact ⟨_, _, rfl, .inl ⟨a.seq, laid_tup r b p⟩⟩
    | @ref i a ea =>
      simp only [items] at e
      split at e
      · rename_i ys e2
        cases e
        obtain ⟨vs, q1, q2⟩ := r.lst ea e2
        exact ⟨_, vs, rfl, .inl ⟨SqL.of q1, laid_tup r q2 p⟩⟩
      · cases e
    | _ => cases e) fun _ _ _ z => z
def biR (K : PySem.W.Frag) : Bi → RCl
  | .len => rLenA K | .isi => rIsA K | .intc => rIntA | .sum => rSum K | .max => rMxA K | .min => rMnA K | .lst => rLsA K | .all => rAll K | .any => rAny K | .tupc => rTpA K
theorem c_bi {K : PySem.W.Frag} (b : Bi) : CalOk K (biR K b) (biV b) := by
  cases b
  · exact lenA
  · exact isA
  · exact intA
  · exact sumA
  · exact maxA
  · exact minA
  · exact lstA
  · exact allA
  · exact anyA
  · exact tupA
theorem call_lenK {X : Cx} : CallR X (.builtin "len") (fun xs H Q => ∃ a kvs, xs = [.ref a] ∧ H a = some (.dK kvs) ∧ Q (.int (kvs.length : Nat)) H) := by
  intro pins s σ H xs us Q I r q
  obtain ⟨a, kvs, rfl, e, q⟩ := q
  exact call_lenD pins s σ H _ us Q I r ⟨a, kvs, rfl, e, q⟩
theorem o_bi {X : Cx} (hc : X.calm = true) (b : Bi) : CallR X b.val (biR X.K b) := by
  cases b
  · exact call_len.or call_lenK
  · exact call_isi.or (call_isiT.or call_isiK)
  · exact call_int1
  · exact cr_sum hc
  · exact (call_max2 hc).or (cr_max hc)
  · exact (call_min2 hc).or (cr_min hc)
  · exact call_list_of.or (call_list_dK hc)
  · exact cr_all hc
  · exact cr_any hc
  · exact call_tuple_of
/-! ### methods -/
def Met1 (K : PySem.W.Frag) (r : V → V → Hp → VK → Prop) (f : Vl → Vl → M Vl) : Prop := BinOk K r f
def rAppA : V → V → Hp → VK → Prop := fun x y H Q => ∃ l xs, x = .ref l ∧ H l = some (.lst xs) ∧ xs.length < sizeLine ∧ Q .non (upd H l (.lst (xs ++ [y])))
theorem appA {K : PySem.W.Frag} : BinOk K rAppA appM := fun Wx ι H h a b x y Q r ha hb p => by
  unfold appM at p
  cases ha with
  | @ref i z ez =>
    dsimp only at p
    cases e : h[i]? with
    | none => rw [e] at p; exact False.elim p
    | some o => cases o with
      | lst xs =>
        rw [e] at p
        obtain ⟨vs, q1, q2⟩ := r.lst ez e
        dsimp only at p
        by_cases c : xs.length < lim
        · rw [if_pos c] at p
          obtain ⟨st, r2⟩ := put_lst r ez (q2.append (.cons hb .nil))
          exact ⟨z, vs, rfl, q1, by rw [← q2.length]; exact lim_lt c, Post.to p st r2 .non⟩
        · rw [if_neg c] at p; exact False.elim p
      | dct kvs => rw [e] at p; exact False.elim p
  | _ => exact False.elim p
theorem m_app {X : Cx} : MtR X "list.append" (fun x vs H Q => ∃ y, vs = [y] ∧ rAppA x y H Q) := by
  intro pins s σ H x xs v us Q I rx rxs h
  obtain ⟨y, rfl, l, ys, rfl, e, hz, q⟩ := h
  exact mt_append pins s σ H _ _ v us Q I rx rxs ⟨l, ys, y, rfl, rfl, e, hz, q⟩
def rCntD (K : PySem.W.Frag) : V → V → Hp → VK → Prop := fun x y H Q => ∃ (a : Addr) (d : PyData) (ds : List PyData), x = V.ref a ∧ Dp K H (V.ref a) (.list ds) ∧ Dp K H y d ∧
  SeqAt.shaped (.list ds) = true ∧ SeqAt.shaped d = true ∧ Q (.int (ds.countP fun z => PyData.eqv z d : Nat)) H
theorem countP_map {α β : Type} (p : β → Bool) (f : α → β) : ∀ l : List α, (l.map f).countP p = l.countP fun x => p (f x)
  | [] => rfl
  | x :: l => by rw [List.map_cons, List.countP_cons, List.countP_cons, countP_map p f l]
theorem m_cnt {X : Cx} (hu : X.A.units + 65 < cLine) : MtR X "list.count" (fun x vs H Q => ∃ y, vs = [y] ∧ rCntD X.K x y H Q) := by
  intro pins s σ H x xs v us Q I rx rxs h
  obtain ⟨y, rfl, a, d, ds, rfl, hl, hy, sl, sd, q⟩ := h
  cases rx
  cases rxs with
  | cons ry rt =>
    rename_i uy ut
    cases rt
    obtain ⟨bs, r1⟩ := Dp.reads I d y uy hy ry
    have hxs : PyData.canLayAll0 ds = true := SeqAt.canLay_of_shaped sl
    have hroom : X.A.units + 1 + min (PyData.depthAll ds) d.depth < cLine := room_in_shaped sd hu
    cases hl with
    | lst hs ha =>
      obtain ⟨its, rv, ⟨⟨cls, dd, dat, sls⟩, n, ho, hc, hdn, hdt⟩, hlen⟩ := I.list hs
      simp only at hc hdt
      subst hc hdt
      obtain ⟨as, h4⟩ := Dp.readsAll I ds _ its ha rv
      have hmap : its.map (SeqAt.readOf s.heap) = ds := SeqAt.readsAll_map ds its as hxs h4
      refine call_meets PySem.F.slot_list_count ⟨_, ho, rfl⟩ PySem.F.entry_list_count (PySem.F.args_list_count_2 _ _)
        (SeqAt.list_countAt a its.toArray n dd sls uy (fun u => PyData.eqv (SeqAt.readOf s.heap u) d)) ⟨ho, SeqAt.items_eqAt (vs := its.toArray) (show ReadsAll s.heap its.toArray.toList ds as from h4) r1 hxs (SeqAt.canLay_of_shaped sd) hroom, ?_⟩
      have ec : its.toArray.toList.countP (fun u => PyData.eqv (SeqAt.readOf s.heap u) d) = ds.countP fun z => PyData.eqv z d := by
        rw [← hmap, countP_map]
      refine ⟨.int (ds.countP fun z => PyData.eqv z d : Nat), H, I.tok _, ⟨s.toks, ?_⟩, q⟩
      rw [ec]
theorem cntA {K : PySem.W.Frag} : BinOk K (rCntD K) cntM := fun Wx ι H h a b x y Q r ha hb p => by
  unfold cntM at p
  cases e : data h lim a with
  | none => rw [e] at p; exact False.elim p
  | some da =>
    have d1 := data_dp r _ _ _ _ ha e
    cases e2 : data h lim b with
    | none => rw [e, e2] at p; cases da <;> exact False.elim p
    | some db =>
      have d2 := data_dp r _ _ _ _ hb e2
      rw [e, e2] at p
      cases da with
      | list ds =>
        dsimp only at p
        by_cases c : SeqAt.shaped (.list ds) = true ∧ SeqAt.shaped db = true
        · rw [if_pos c] at p
          cases d1 with
          | lst hs hd => exact ⟨_, db, ds, rfl, .lst hs hd, d2, c.1, c.2, p.here r (.int _)⟩
        · rw [if_neg c] at p; exact False.elim p
      | _ => exact False.elim p
end AM

namespace AM
open PySem L2 PyProof.Rows

structure Ct where
  N : List Str
  sc : Scope
  blk : Option Scope
  fns : List (Str × Nat × Nat)
  free : List Str
def StoreD (C : Ct) (x : Str) : Prop := C.sc.names.lookup x = some .local ∨ (C.sc.names.lookup x = some .cell ∧ ∀ s, C.blk = some s → s.names.lookup x = some .cell)
def GlD (sc : Scope) (x : Str) : Prop := sc.names.lookup x = some .globalImplicit
def okName (x : Str) : Bool := !(x == ("__debug__" : Str)) && !(x == ("__classdict__" : Str)) && !(x == ("__name__" : Str))
theorem okA {x : Str} (h : okName x = true) : (x == ("__debug__" : Str)) = false := by
  unfold okName at h; simp only [Bool.and_eq_true, Bool.not_eq_true'] at h; exact h.1.1
theorem okB {x : Str} (h : okName x = true) : (x == ("__classdict__" : Str)) = false := by
  unfold okName at h; simp only [Bool.and_eq_true, Bool.not_eq_true'] at h; exact h.1.2
theorem okC {x : Str} (h : okName x = true) : x ≠ ("__name__" : Str) := by
  unfold okName at h; simp only [Bool.and_eq_true, Bool.not_eq_true'] at h; exact fun e => by rw [e] at h; simp at h
def noStar : Expr → Bool
  | .Starred _ _ => false
  | _ => true
def noSlice : Expr → Bool
  | .Slice _ _ _ _ => false
  | _ => true
def noCall : Expr → Bool
  | .Call _ _ _ _ => false
  | _ => true
def noSetE : Expr → Bool
  | .Set _ _ _ => false
  | _ => true
def noComp : Expr → Bool
  | .ListComp _ _ _ _ => false
  | .SetComp _ _ _ _ => false
  | .DictComp _ _ _ _ _ => false
  | _ => true
def noTest : Expr → Bool
  | .UnaryOp .Not _ _ => false
  | .BoolOp _ _ _ => false
  | .IfExp _ _ _ _ => false
  | .Compare _ _ _ _ => false
  | _ => true
def Ty.nm (t : Ty) : Str := t.name
def isTup : Expr → Bool
  | .Tuple _ _ _ => true
  | _ => false
def Ct.blkC (C : Ct) (s : Scope) : Ct := { C with sc := relS s C.sc, blk := some s }
mutual
inductive TrE : Ct → Expr → E → Prop
  | var {C i x pos} : C.N[i]? = some x → Vis C.sc x → okName x = true → TrE C (.Name x pos) (.var i)
  | non {C j pos} : TrE C (.Constant .none j pos) .non
  | bl {C b j pos} : TrE C (.Constant (.bool b) j pos) (.bl b)
  | int {C i j pos} : TrE C (.Constant (.int i) j pos) (.int i)
  | str {C s j pos} : TrE C (.Constant (.str s) j pos) (.str s)
  | ty {C t pos} : GlD C.sc t.nm → t.nm ∈ C.free → TrE C (.Name t.nm pos) (.ty t)
  | tup {C es cs k pos} : TrEs C es cs → TrE C (.Tuple es k pos) (.tup cs)
  | lst {C es cs pos} : TrEs C es cs → TrE C (.List es pos) (.lst cs)
  | dct0 {C pos} : TrE C (.Dict [] [] pos) .dct0
  | bin {C op a b ca cb pos} : TrE C a ca → TrE C b cb → TrE C (.BinOp a (Bop.op op) b pos) (.bin op ca cb)
  | neg {C a ca pos} : TrE C a ca → TrE C (.UnaryOp .USub a pos) (.neg ca)
  | not {C a ca pos} : TrE C a ca → TrE C (.UnaryOp .Not a pos) (.not ca)
  | one {C op a ca pos} : TrE C a ca → TrE C (.BoolOp op [a] pos) ca
  | and {C a ca b rest cb pos} : TrE C a ca → TrE C (.BoolOp .And (b :: rest) pos) cb → TrE C (.BoolOp .And (a :: b :: rest) pos) (.and ca cb)
  | or {C a ca b rest cb pos} : TrE C a ca → TrE C (.BoolOp .Or (b :: rest) pos) cb → TrE C (.BoolOp .Or (a :: b :: rest) pos) (.or ca cb)
  | cmp {C op a b ca cb pos} : TrE C a ca → TrE C b cb → noSetE b = true → TrE C (.Compare a [Cop.op op] [b] pos) (.cmp op ca cb)
  | cmp2 {C op op2 a b c ca cb cc pos} : TrE C a ca → TrE C b cb → TrE C c cc → noSetE c = true → TrE C (.Compare a [Cop.op op, Cop.op op2] [b, c] pos) (.cmp2 op op2 ca cb cc)
  | isN {C a ca j p pos} : TrE C a ca → TrE C (.Compare a [.Is] [.Constant .none j p] pos) (.isN ca)
  | ntN {C a ca j p pos} : TrE C a ca → TrE C (.Compare a [.IsNot] [.Constant .none j p] pos) (.ntN ca)
  | isB {C a ca b j p pos} : TrE C a ca → TrE C (.Compare a [.Is] [.Constant (.bool b) j p] pos) (.isB ca b)
  | ntB {C a ca b j p pos} : TrE C a ca → TrE C (.Compare a [.IsNot] [.Constant (.bool b) j p] pos) (.ntB ca b)
  | ife {C c a b cc ca cb pos} : TrT C c cc → TrE C a ca → TrE C b cb → TrE C (.IfExp c a b pos) (.ife cc ca cb)
  | call {C g x np nd e es cs p pos} : C.fns[g]? = some (x, np, nd) → GlD C.sc x → okName x = true → cs.length ≤ np → np ≤ cs.length + nd → TrEs C (e :: es) cs → TrE C (.Call (.Name x p) (e :: es) [] pos) (.call g cs)
  | bi {C b e es cs p pos} : GlD C.sc (Bi.name b) → Bi.name b ∈ C.free → TrEs C (e :: es) cs → TrE C (.Call (.Name (Bi.name b) p) (e :: es) [] pos) (.bi b cs)
  | app {C o e co ce apos pos} : TrE C o co → TrE C e ce → noCall o = true → (apos.endLine == pos.line) = true → TrE C (.Call (.Attribute o "append" apos) [e] [] pos) (.mt .append co [ce])
  | cnt {C o e co ce apos pos} : TrE C o co → TrE C e ce → noCall o = true → (apos.endLine == pos.line) = true → TrE C (.Call (.Attribute o "count" apos) [e] [] pos) (.mt .count co [ce])
  | bits {C o co apos pos} : TrE C o co → noCall o = true → (apos.endLine == pos.line) = true → TrE C (.Call (.Attribute o "bit_length" apos) [] [] pos) (.mt .bits co [])
  | idx {C a b ca cb pos} : TrE C a ca → TrE C b cb → noSlice b = true → TrE C (.Subscript a b pos) (.idx ca cb)
  | slc {C a lo hi ca cl ch p pos} : TrE C a ca → TrO C lo cl → TrO C hi ch → TrE C (.Subscript a (.Slice lo hi none p) pos) (.slc ca cl ch)
  | lc {C} {s : Scope} {own : List (Str × Nat)} {tg iter ifs elt g it c e pos} : L2.blkC C.N C.sc s own = true → (tgIx g).all (fun j => (own.map (·.2)).contains j) = true → TrI C tg iter it → TrG (C.blkC s) tg g → TrC (C.blkC s) ifs c → TrE (C.blkC s) elt e → noSetE iter = true →
      TrE C (.ListComp elt [⟨tg, iter, ifs, 0⟩] s pos) (.lc (own.map (·.2)) g it c e)
  | lrng {C a b ca cb p p2 p3 pos} : GlD C.sc "list" → (("list" : Str) ∈ C.free) → GlD C.sc "range" → (("range" : Str) ∈ C.free) → TrE C a ca → TrE C b cb → TrE C (.Call (.Name "list" p) [.Call (.Name "range" p2) [a, b] [] p3] [] pos) (.lrng ca cb)
inductive TrEs : Ct → List Expr → List E → Prop
  | nil {C} : TrEs C [] []
  | cons {C e es c cs} : TrE C e c → TrEs C es cs → TrEs C (e :: es) (c :: cs)
inductive TrO : Ct → Option Expr → Option E → Prop
  | none {C} : TrO C none none
  | some {C e c} : TrE C e c → TrO C (some e) (some c)
inductive TrC : Ct → List Expr → Option E → Prop
  | none {C} : TrC C [] none
  | some {C e c} : TrT C e c → TrC C [e] (some c)
inductive TrT : Ct → Expr → E → Prop
  | not {C a ca pos} : TrT C a ca → TrT C (.UnaryOp .Not a pos) (.not ca)
  | bool {C op es pos c} : TrB C op es c → TrT C (.BoolOp op es pos) c
  | cmp {C op a b ca cb pos} : TrE C a ca → TrE C b cb → noSetE b = true → TrT C (.Compare a [Cop.op op] [b] pos) (.cmp op ca cb)
  | isN {C a ca j p pos} : TrE C a ca → TrT C (.Compare a [.Is] [.Constant .none j p] pos) (.isN ca)
  | ntN {C a ca j p pos} : TrE C a ca → TrT C (.Compare a [.IsNot] [.Constant .none j p] pos) (.ntN ca)
  | isB {C a ca b j p pos} : TrE C a ca → TrT C (.Compare a [.Is] [.Constant (.bool b) j p] pos) (.isB ca b)
  | ntB {C a ca b j p pos} : TrE C a ca → TrT C (.Compare a [.IsNot] [.Constant (.bool b) j p] pos) (.ntB ca b)
  | cmp2 {C op op2 a b c ca cb cc pos} : TrE C a ca → TrE C b cb → TrE C c cc → noSetE c = true → TrT C (.Compare a [Cop.op op, Cop.op op2] [b, c] pos) (.cmp2 op op2 ca cb cc)
  | var {C e i} : TrE C e (.var i) → noTest e = true → TrT C e (.var i)
  | call {C e g cs} : TrE C e (.call g cs) → noTest e = true → TrT C e (.call g cs)
  | bi {C e b cs} : TrE C e (.bi b cs) → noTest e = true → TrT C e (.bi b cs)
  | idx {C e a b} : TrE C e (.idx a b) → noTest e = true → TrT C e (.idx a b)
inductive TrB : Ct → BoolOp → List Expr → E → Prop
  | one {C op a ca} : TrT C a ca → TrB C op [a] ca
  | and {C a b rest ca cb} : TrT C a ca → TrB C .And (b :: rest) cb → TrB C .And (a :: b :: rest) (.and ca cb)
  | or {C a b rest ca cb} : TrT C a ca → TrB C .Or (b :: rest) cb → TrB C .Or (a :: b :: rest) (.or ca cb)
inductive TrI : Ct → Expr → Expr → It → Prop
  | seq {C tg e c} : TrE C e c → TrI C tg e (.seq c)
  | rng1 {C tg a ca p pos} : GlD C.sc "range" → (("range" : Str) ∈ C.free) → TrE C a ca → TrI C tg (.Call (.Name "range" p) [a] [] pos) (.rng1 ca)
  | rng2 {C tg a b ca cb p pos} : GlD C.sc "range" → (("range" : Str) ∈ C.free) → TrE C a ca → TrE C b cb → TrI C tg (.Call (.Name "range" p) [a, b] [] pos) (.rng2 ca cb)
  | enum {C es kk tpos a ca p pos} : GlD C.sc "enumerate" → (("enumerate" : Str) ∈ C.free) → TrE C a ca → TrI C (.Tuple es kk tpos) (.Call (.Name "enumerate" p) [a] [] pos) (.enum ca)
  | zip {C es kk tpos a b ca cb p pos} : GlD C.sc "zip" → (("zip" : Str) ∈ C.free) → TrE C a ca → TrE C b cb → TrI C (.Tuple es kk tpos) (.Call (.Name "zip" p) [a, b] [] pos) (.zip ca cb)
inductive TrG : Ct → Expr → Tg → Prop
  | nm {C i x pos} : C.N[i]? = some x → StoreD C x → TrG C (.Name x pos) (.nm i)
  | tup {C es k pos ts} : TrGs C es ts → TrG C (.Tuple es k pos) (.tup ts)
  | sub {C o i co ci pos} : TrE C o co → TrE C i ci → noSlice i = true → TrG C (.Subscript o i pos) (.sub co ci)
inductive TrGs : Ct → List Expr → List Tg → Prop
  | nil {C} : TrGs C [] []
  | cons {C e es t ts} : TrG C e t → TrGs C es ts → noStar e = true → TrGs C (e :: es) (t :: ts)
end
theorem TrE.noStar {C : Ct} {e : Expr} {c : E} (h : TrE C e c) : AM.noStar e = true := by
  cases e <;> first | rfl | (cases h)
end AM

namespace AM
open PySem L2 PyProof.Rows

/-- an error's wish as the machine has it -/
def XW (cl : Nat → Addr) (W : WX) : L2.St → Wh := fun σ c v H => ∀ d, H d = some (.xd [(("value" : Str), v)]) → W (.ref (cl c)) (some d) σ H
def NoW : L2.St → Wh := fun _ _ _ _ => False
theorem xw_no {cl : Nat → Addr} {σ : L2.St} {c : Nat} {v : V} {H : Hp} (h : XW cl (fun _ _ _ _ => False) σ c v H) (d : Addr) (e : H d = some (.xd [(("value" : Str), v)])) : False := h d e
def EW (cl : Nat → Addr) (E : XK) : Wh := fun c v H => ∀ d, H d = some (.xd [(("value" : Str), v)]) → E (.ref (cl c)) (some d) H
structure Pgm where
  fns : List Fn
  wf : Nat
/-- a def's promise: what the machine's run of it gives -/
def spG (p : Pgm) (cl : Nat → Addr) (K : PySem.W.Frag) (d g np : Nat) : Sp := fun vs H Q E => vs.length = np ∧ ∃ ι h ws, Rep K H ι h ∧ RlA K H ι ws vs ∧ Post K (Rl K) (EW cl E) ι H Q (callD p.fns p.wf d g ws h)
structure FnI (p : Pgm) (cl : Nat → Addr) (d : Nat) (X : Cx) (g : Nat) (x : Str) (np nd : Nat) : Prop where
  ex : ∃ (f : Addr) (fd : FuncData) (ps : List Str) (fn : Fn) (dvs : List V), X.mg x = some (.ref f) ∧ PySem.W.keepIn X.K (.ref f) = true ∧ p.fns[g]? = some fn ∧ fn.np = np ∧ fn.dv.length = nd ∧ (∀ H ι, RlA X.K H ι fn.dv dvs) ∧
    FnOk X.prog X.w X.K X.mg X.base (L2.CX X.prog X.w) d f fd ps (spG p cl X.K d g np) ∧ ∀ k, k ≤ nd → ∃ ds, Binds X.K fd ps ds ∧ Vals (dvs.drop k) ds
structure XOk (p : Pgm) (cl : Nat → Addr) (d : Nat) (C : Ct) (X : Cx) (W : WX) : Prop where
  N : X.N = C.N
  sc : X.env.scope = C.sc
  nd : C.N.Nodup
  calm : X.calm = true
  fn0 : C.blk = none → X.fn = fun _ => true
  fn1 : ∀ s, C.blk = some s → X.fn = fun x => s.names.lookup x == some .cell
  room : Room d X.A
  tk : Takes X W
  free : ∀ x ∈ C.free, X.mg x = none
  fns : ∀ g x np nd, C.fns[g]? = some (x, np, nd) → FnI p cl d X g x np nd
section
variable {K : PySem.W.Frag} {α β : Type} {R : Hp → List Addr → α → β → Prop} {Wx Wx' : Wh} {ι : List Addr} {H : Hp} {Q : β → Hp → Prop}
theorem Post.wish {r : Rs α} (p : Post K R Wx ι H Q r) (f : ∀ c v H, Wx c v H → Wx' c v H) : Post K R Wx' ι H Q r := by
  cases r with
  | ok a h => exact p
  | ex c w h => exact fun ι2 H2 v s2 r2 x => f _ _ _ (p ι2 H2 v s2 r2 x)
  | no => exact p
theorem Post.noEx {m : M α} {h : SH} (p : Post K R Wx ι H Q (noEx m h)) : Post K R Wx' ι H Q (m h) := by
  unfold AM.noEx at p
  cases e : m h with
  | ok a h => rw [e] at p; exact p
  | ex c w h => rw [e] at p; exact False.elim p
  | no => rw [e] at p; exact p
end
theorem isTrue_plain {e : Expr} (h : noTest e = true) (env : Env) (whole : Sem Value) : isTrue e env whole = (do let v ← whole; standAt e.pos; holding [v] (truthy v)) := by
  cases e with
  | UnaryOp op a pos => cases op <;> first | rfl | cases h
  | BoolOp => cases h
  | IfExp => cases h
  | Compare => cases h
  | _ => rfl
theorem star_of {e : Expr} (h : noStar e = true) (es : List Expr) (env : Env) : starEach (e :: es) env = (false, eval e env) :: starEach es env := by
  cases e <;> first | rfl | cases h
theorem stars_of {C : Ct} : ∀ {es : List Expr} {cs : List E}, TrEs C es cs → ∀ (env : Env) (pos : Pos), (backTo pos (starEach es env)).any (·.1) = false
  | _, _, .nil, _, _ => rfl
  | _, _, .cons a b, env, pos => by
    rw [star_of a.noStar]
    have := stars_of b env pos
    unfold backTo at this ⊢
    rw [List.map_cons, List.any_cons, this]
    rfl
theorem base_of {o : Expr} (h : noCall o = true) (a : Str) (env : Env) (w : Sem Value) : attributeBase o a env w = w := by
  cases o <;> first | rfl | cases h
theorem nosub_of {b : Expr} (h : noSlice b = true) : PlainIx b := fun o i => by
  cases b <;> first | rfl | cases h
theorem nomarks {b : Expr} (h : noSetE b = true) (op : CmpOp) : behindInMarks op b = false := by
  cases b <;> first | rfl | cases h
theorem lastmarks {b c : Expr} (h : noSetE c = true) (op op2 : CmpOp) : lastMarks [op, op2] [b, c] = false := nomarks h op2
theorem nofold {e : Expr} (h : noSetE e = true) (env : Env) (x : Value) : foldedSetIterable e env x = pure x := by
  cases e <;> first | rfl | cases h
theorem boot_ty (t : Ty) : bootBuiltins t.nm = some (.type t.name) := by cases t <;> decide +kernel
theorem name_ty (t : Ty) : t.nm ≠ ("__name__" : Str) ∧ (t.nm == ("__debug__" : Str)) = false := by cases t <;> decide +kernel
theorem boot_bi (b : Bi) : bootBuiltins b.name = some b.val := by cases b <;> decide +kernel
theorem name_bi (b : Bi) : b.name ≠ ("__name__" : Str) ∧ (b.name == ("__debug__" : Str)) = false := by cases b <;> decide +kernel
/-! ### one step each -/
section
variable {K : PySem.W.Frag} {Wx : L2.St → Wh} {σ : L2.St} {H : Hp}
theorem g_var {i : Nat} {Q : VK} (h : tE K Wx (fun e => match e[i]? with | some (some v) => ret v | _ => fail) σ H Q) : tVar i σ H Q := by
  obtain ⟨ι, s, e, r, env, p⟩ := h
  dsimp only at p
  cases q : e[i]? with
  | none => rw [q] at p; exact False.elim p
  | some o => cases o with
    | none => rw [q] at p; exact False.elim p
    | some w =>
      rw [q] at p
      obtain ⟨v, e1, r1⟩ := env.at_ i w q
      exact ⟨v, e1, p.ret r r1⟩
/-- two in a row -/
theorem g_seq {α β α' β' : Type} {R : Hp → List Addr → α → β → Prop} {R' : Hp → List Addr → α' → β' → Prop} {ca : En → M α} {f : En → α → M α'} {Q : β' → Hp → Prop} (h : tG K R' Wx (fun e => bind (ca e) (f e)) σ H Q) :
    tG K R Wx ca σ H (fun b H1 => ∃ a ι h e, Rep K H1 ι h ∧ EnvR K H1 ι e σ ∧ R H1 ι a b ∧ Post K R' (Wx σ) ι H1 Q (f e a h)) := by
  obtain ⟨ι, s, e, r, env, p⟩ := h
  exact ⟨ι, s, e, r, env, p.seq.mono fun b H1 ⟨a, ι1, h1, st, r1, x, q⟩ => ⟨a, ι1, h1, e, r1, env.step r st, x, q⟩⟩
theorem g_mono {α β : Type} {R : Hp → List Addr → α → β → Prop} {c : En → M α} {Q Q' : β → Hp → Prop} (h : tG K R Wx c σ H Q) (f : ∀ b H, Q b H → Q' b H) : tG K R Wx c σ H Q' := by
  obtain ⟨ι, s, e, r, env, p⟩ := h
  exact ⟨ι, s, e, r, env, p.mono f⟩
/-- two, the first's value carried over the second -/
theorem g_two {α' β' : Type} {R' : Hp → List Addr → α' → β' → Prop} {ca cb : En → M Vl} {f : En → Vl → Vl → M α'} {Q : β' → Hp → Prop} (h : tG K R' Wx (fun e => bind (ca e) fun x => bind (cb e) fun y => f e x y) σ H Q) :
    tE K Wx ca σ H fun v H1 => tE K Wx cb σ H1 fun u H2 => ∃ a b ι h e, Rep K H2 ι h ∧ EnvR K H2 ι e σ ∧ Rl K H2 ι a v ∧ Rl K H2 ι b u ∧ Post K R' (Wx σ) ι H2 Q (f e a b h) := by
  refine g_mono (g_seq (R := Rl K) h) fun v H1 ⟨a, ι1, h1, e, r1, env1, x1, p1⟩ => ?_
  exact ⟨ι1, h1, e, r1, env1, p1.seq.mono fun u H2 ⟨b, ι2, h2, st, r2, x2, p2⟩ => ⟨a, b, ι2, h2, e, r2, env1.step r1 st, x1.step r1 st, x2, p2⟩⟩
end
end AM

namespace AM
open PySem L2 PyProof.Rows
section
variable {X : Cx} {Wx : L2.St → Wh} {pos : Pos}
theorem e_var {i : Nat} {x : Str} (hN : X.N[i]? = some x) (hv : Vis X.env.scope x) (ok : okName x = true) : PE X (.Name x pos) (tE X.K Wx (fun e => match e[i]? with | some (some v) => ret v | _ => fail)) :=
  PE.con (pe_var hN hv (okA ok) (okB ok)) fun σ H Q q => g_var q
theorem e_c {ex : Expr} {v : V} {w : Vl} (h : PE X ex (tC v)) (r : ∀ H ι, Rl X.K H ι w v) : PE X ex (tE X.K Wx fun _ => ret w) :=
  PE.con h fun σ H Q ⟨ι, s, e, rp, env, p⟩ => p.ret rp (r H ι)
theorem e_tup {es : List Expr} {cs : En → M (List Vl)} {k : Nat} (h : PA X es (tA X.K Wx cs)) : PE X (.Tuple es k pos) (tE X.K Wx fun e => bind (cs e) fun vs => if vs.length ≤ lim then ret (.tup vs) else fail) :=
  PE.con (pe_tup h) fun σ H Q q => g_mono (g_seq q) fun vs H1 ⟨ws, ι, s, e, r, env, x, p⟩ => by
    by_cases c : ws.length ≤ lim
    · rw [if_pos c] at p; exact ⟨by rw [← x.length]; exact lim_line c, laid_tup r x p⟩
    · rw [if_neg c] at p; exact False.elim p
theorem e_lst {es : List Expr} {cs : En → M (List Vl)} (h : PA X es (tA X.K Wx cs)) : PE X (.List es pos) (tE X.K Wx fun e => bind (cs e) fun vs => if vs.length ≤ lim then alloc (.lst vs) else fail) :=
  PE.con (pe_lst h) fun σ H Q q => g_mono (g_seq q) fun vs H1 ⟨ws, ι, s, e, r, env, x, p⟩ => by
    by_cases c : ws.length ≤ lim
    · rw [if_pos c] at p; exact ⟨by rw [← x.length]; exact lim_line c, laid_lst r x p⟩
    · rw [if_neg c] at p; exact False.elim p
theorem e_dct : PE X (.Dict [] [] pos) (tE X.K Wx fun _ => alloc (.dct [])) :=
  PE.con pe_dnewK fun σ H Q ⟨ι, s, e, r, env, p⟩ => laid_dct r p
theorem a_nil : PA X [] (tA X.K Wx fun _ => ret []) := PA.con pa_nil fun σ H Q ⟨ι, s, e, r, env, p⟩ => p.ret r .nil
theorem a_cons {x : Expr} {xs : List Expr} {c : En → M Vl} {cs : En → M (List Vl)} (h : PE X x (tE X.K Wx c)) (t : PA X xs (tA X.K Wx cs)) (ns : noStar x = true) : PA X (x :: xs) (tA X.K Wx fun e => bind (c e) fun v => bind (cs e) fun vs => ret (v :: vs)) :=
  PA.con (pa_cons h t (star_of ns _ _)) fun σ H Q q => g_mono (g_seq (R := Rl X.K) q) fun v H1 ⟨w, ι, s, e, r, env, y, p⟩ =>
    ⟨ι, s, e, r, env, p.seq.mono fun vs H2 ⟨ws, ι2, s2, st, r2, z, p2⟩ => p2.ret r2 (.cons (y.step r st) z)⟩
theorem e_bin {a b : Expr} {ca cb : En → M Vl} (op : Bop) (ha : PE X a (tE X.K Wx ca)) (hb : PE X b (tE X.K Wx cb)) : PE X (.BinOp a op.op b pos) (tE X.K Wx fun e => bind (ca e) fun x => bind (cb e) fun y => bopV op x y) :=
  PE.con (pe_op (o_bop op) ha hb) fun σ H Q q => g_mono (g_two q) fun v H1 z => g_mono z fun u H2 ⟨a, b, ι, s, e, r, env, x, y, p⟩ => b_bop op _ _ _ _ _ _ _ _ _ r x y p
theorem e_neg {a : Expr} {ca : En → M Vl} (ha : PE X a (tE X.K Wx ca)) : PE X (.UnaryOp .USub a pos) (tE X.K Wx fun e => bind (ca e) fun x => match x with | .int i => ret (.int (-i)) | _ => fail) :=
  PE.con (pe_un un_neg ha) fun σ H Q q => g_mono (g_seq (R := Rl X.K) q) fun v H1 ⟨a, ι, s, e, r, env, x, p⟩ => by
    cases x with
    | int i => exact ⟨i, rfl, p.ret r (.int _)⟩
    | _ => exact False.elim p
theorem e_not {a : Expr} {ca : En → M Vl} (ha : PE X a (tE X.K Wx ca)) : PE X (.UnaryOp .Not a pos) (tE X.K Wx fun e => bind (ca e) fun x => match x with | .bl b => ret (.bl (!b)) | _ => fail) :=
  PE.con (pe_not ha) fun σ H Q q => g_mono (g_seq (R := Rl X.K) q) fun v H1 ⟨a, ι, s, e, r, env, x, p⟩ => by
    cases x with
    | bl i => exact ⟨i, rfl, p.ret r (.bl _)⟩
    | _ => exact False.elim p
theorem e_and {a b : Expr} {rest : List Expr} {ca cb : En → M Vl} (ha : PE X a (tE X.K Wx ca)) (hb : PE X (.BoolOp .And (b :: rest) pos) (tE X.K Wx cb)) : PE X (.BoolOp .And (a :: b :: rest) pos) (tE X.K Wx fun e => bind (ca e) fun x => match x with | .bl true => cb e | .bl false => ret (.bl false) | _ => fail) :=
  PE.con (pe_and ha hb) fun σ H Q q => g_mono (g_seq (R := Rl X.K) q) fun v H1 ⟨a, ι, s, e, r, env, x, p⟩ => by
    cases x with
    | bl i =>
      refine ⟨i, rfl, ?_⟩
      cases i with
      | true => exact iteT ⟨ι, s, e, r, env, p⟩
      | false => exact iteF (p.ret r (.bl _))
    | _ => exact False.elim p
theorem e_or {a b : Expr} {rest : List Expr} {ca cb : En → M Vl} (ha : PE X a (tE X.K Wx ca)) (hb : PE X (.BoolOp .Or (b :: rest) pos) (tE X.K Wx cb)) : PE X (.BoolOp .Or (a :: b :: rest) pos) (tE X.K Wx fun e => bind (ca e) fun x => match x with | .bl true => ret (.bl true) | .bl false => cb e | _ => fail) :=
  PE.con (pe_or ha hb) fun σ H Q q => g_mono (g_seq (R := Rl X.K) q) fun v H1 ⟨a, ι, s, e, r, env, x, p⟩ => by
    cases x with
    | bl i =>
      refine ⟨i, rfl, ?_⟩
      cases i with
      | true => exact iteT (p.ret r (.bl _))
      | false => exact iteF ⟨ι, s, e, r, env, p⟩
    | _ => exact False.elim p
theorem cmp_in {op : Cop} {ι : List Addr} {H : Hp} {h : SH} {a b : Vl} {x y : V} {Q : Bool → Hp → Prop} {Wx : Wh} {K : PySem.W.Frag} (r : Rep K H ι h) (ha : Rl K H ι a x) (hb : Rl K H ι b y) (p : Post K RB Wx ι H Q (copV op a b h)) : copR K op x y H fun v H' => ∃ k, v = .bl k ∧ Q k H' := c_cop op _ _ _ _ _ _ _ _ _ r ha hb p
theorem r2_mono {op : Cop} {x y : V} {H : Hp} {Q Q' : VK} {K : PySem.W.Frag} (h : copR K op x y H Q) (f : ∀ v H, Q v H → Q' v H) : copR K op x y H Q' := by
  cases op
  · obtain ⟨d, e, h1, h2, h3, h4, q⟩ := h; exact ⟨d, e, h1, h2, h3, h4, f _ _ q⟩
  · obtain ⟨d, e, h1, h2, h3, h4, q⟩ := h; exact ⟨d, e, h1, h2, h3, h4, f _ _ q⟩
  · obtain ⟨i, j, h1, h2, q⟩ := h; exact ⟨i, j, h1, h2, f _ _ q⟩
  · obtain ⟨i, j, h1, h2, q⟩ := h; exact ⟨i, j, h1, h2, f _ _ q⟩
  · obtain ⟨i, j, h1, h2, q⟩ := h; exact ⟨i, j, h1, h2, f _ _ q⟩
  · obtain ⟨i, j, h1, h2, q⟩ := h; exact ⟨i, j, h1, h2, f _ _ q⟩
  · rcases h with ⟨p, xs, h1, h2, h3, h4, q⟩ | ⟨a, kvs, k, h1, h2, h3, q⟩
    · exact .inl ⟨p, xs, h1, h2, h3, h4, f _ _ q⟩
    · exact .inr ⟨a, kvs, k, h1, h2, h3, f _ _ q⟩
  · rcases h with ⟨p, xs, h1, h2, h3, h4, q⟩ | ⟨a, kvs, k, h1, h2, h3, q⟩
    · exact .inl ⟨p, xs, h1, h2, h3, h4, f _ _ q⟩
    · exact .inr ⟨a, kvs, k, h1, h2, h3, f _ _ q⟩
theorem e_cmp {a b : Expr} {ca cb : En → M Vl} (hu : X.A.units + 64 < cLine) (op : Cop) (ha : PE X a (tE X.K Wx ca)) (hb : PE X b (tE X.K Wx cb)) (ns : noSetE b = true) : PE X (.Compare a [op.op] [b] pos) (tE X.K Wx fun e => bind (ca e) fun x => bind (cb e) fun y => bind (copV op x y) fun r => ret (.bl r)) :=
  PE.con (pe_cmpR (o_cop hu op) ha hb (nomarks ns _)) fun σ H Q q => g_mono (g_two q) fun v H1 z => g_mono z fun u H2 ⟨a, b, ι, s, e, r, env, x, y, p⟩ =>
    r2_mono (cmp_in r x y (p.seq (R := RB))) fun v' H3 ⟨k, ek, k', ι1, h1, st, r1, e1, p1⟩ => by
      subst ek
      cases e1
      exact p1.ret r1 (.bl _)
theorem t_cmp {a b : Expr} {ca cb : En → M Vl} (hu : X.A.units + 64 < cLine) (op : Cop) (ha : PE X a (tE X.K Wx ca)) (hb : PE X b (tE X.K Wx cb)) (ns : noSetE b = true) : PT X (.Compare a [op.op] [b] pos) (tT X.K Wx fun e => bind (ca e) fun x => bind (cb e) fun y => copV op x y) :=
  PT.con (pt_cmpR (o_cop hu op) ha hb (nomarks ns _)) fun σ H Q q => g_mono (g_two q) fun v H1 z => g_mono z fun u H2 ⟨a, b, ι, s, e, r, env, x, y, p⟩ => cmp_in r x y p
theorem chain_in {op op2 : Cop} {a b c : Expr} {ca cb cc : En → M Vl} {σ : L2.St} {H : Hp} {α : Type} {β : Type} {R : Hp → List Addr → α → β → Prop} {Q : β → Hp → Prop} {Qv : VK} {fin : Bool → M α}
    (q : tG X.K R Wx (fun e => bind (ca e) fun x => bind (cb e) fun y => bind (copV op x y) fun r => if r = true then bind (cc e) fun z => bind (copV op2 y z) fin else fin false) σ H Q)
    (f : ∀ (k : Bool) (ι : List Addr) (H : Hp) (s : SH), Rep X.K H ι s → Post X.K R (Wx σ) ι H Q (fin k s) → Qv (.bl k) H) :
    tChain (copR X.K op) (copR X.K op2) (tE X.K Wx ca) (tE X.K Wx cb) (tE X.K Wx cc) σ H Qv :=
  g_mono (g_two q) fun v H1 z => g_mono z fun u H2 ⟨a, b, ι, s, e, r, env, x, y, p⟩ =>
    r2_mono (cmp_in r x y (p.seq (R := RB))) fun v' H3 ⟨k, ek, k', ι1, h1, st, r1, e1, p1⟩ => by
      subst ek
      obtain rfl : k' = k := e1
      refine ⟨k', rfl, ?_⟩
      cases k' with
      | false => exact iteF (f _ _ _ _ r1 p1)
      | true =>
        refine iteT ⟨ι1, h1, e, r1, env.step r st, p1.seq.mono fun w H4 ⟨c, ι2, h2, st2, r2, x2, p2⟩ => ?_⟩
        exact r2_mono (cmp_in r2 ((y.step r st).step r1 st2) x2 (p2.seq (R := RB))) fun v5 H5 ⟨k5, ek5, k6, ι6, h6, st6, r6, e6, p6⟩ => by
          subst ek5
          obtain rfl : k6 = k5 := e6
          exact f _ _ _ _ r6 p6
theorem e_cmp2 {a b c : Expr} {ca cb cc : En → M Vl} (hu : X.A.units + 64 < cLine) (op op2 : Cop) (ha : PE X a (tE X.K Wx ca)) (hb : PE X b (tE X.K Wx cb)) (hc : PE X c (tE X.K Wx cc)) (ns : noSetE c = true) :
    PE X (.Compare a [op.op, op2.op] [b, c] pos) (tE X.K Wx fun e => bind (ca e) fun x => bind (cb e) fun y => bind (copV op x y) fun r => if r = true then bind (cc e) fun z => bind (copV op2 y z) fun r2 => ret (.bl r2) else ret (.bl false)) :=
  PE.con (pe_chain (o_cop hu op) (o_cop hu op2) ha hb hc (lastmarks ns _ _)) fun σ H Q q => chain_in (fin := fun r => ret (Vl.bl r)) (R := Rl X.K) (Q := Q) (a := a) (b := b) (c := c) q fun k ι H s r p => p.ret r (Rl.bl _)
theorem t_cmp2 {a b c : Expr} {ca cb cc : En → M Vl} (hu : X.A.units + 64 < cLine) (op op2 : Cop) (ha : PE X a (tE X.K Wx ca)) (hb : PE X b (tE X.K Wx cb)) (hc : PE X c (tE X.K Wx cc)) (ns : noSetE c = true) :
    PT X (.Compare a [op.op, op2.op] [b, c] pos) (tT X.K Wx fun e => bind (ca e) fun x => bind (cb e) fun y => bind (copV op x y) fun r => if r = true then bind (cc e) fun z => copV op2 y z else ret false) := by
  have bp : ∀ (m : M Bool), bind m (fun r => ret r) = m := fun m => by
    funext h
    unfold bind
    cases m h <;> rfl
  refine PT.con (pt_chain (o_cop hu op) (o_cop hu op2) ha hb hc (lastmarks ns _ _)) fun σ H Q q => ?_
  refine chain_in (fin := fun r => ret r) (R := RB) (Q := Q) (a := a) (b := b) (c := c) ?_ fun k ι H s r p => ⟨k, rfl, p.ret r rfl⟩
  simp only [bp]
  exact q
theorem none_of {K : PySem.W.Frag} {H : Hp} {ι : List Addr} {w : Vl} {v : V} (q : Rl K H ι w v) : decide (v = .non) = (match w with | .non => true | _ => false) := by
  cases q <;> first | rfl | exact decide_eq_false (fun z => nomatch z)
theorem isn_in {σ : L2.St} {H : Hp} {ca : En → M Vl} {Q : VK} (g : Bool → Vl) (hg : ∀ b, g b = .bl b ∨ g b = .bl (!b)) (q : tE X.K Wx (fun e => bind (ca e) fun x => match x with | .non => ret (g true) | _ => ret (g false)) σ H Q) :
    tE X.K Wx ca σ H fun x H1 => Q (match g (decide (x = .non)) with | .bl b => .bl b | _ => .non) H1 :=
  g_mono (g_seq (R := Rl X.K) q) fun v H1 ⟨a, ι, s, e, r, env, x, p⟩ => by
    rw [none_of x]
    have rl : ∀ b, Rl X.K H1 ι (g b) (match g b with | .bl b => .bl b | _ => .non) := fun b => by
      rcases hg b with z | z <;> (rw [z]; exact .bl _)
    cases a <;> exact p.ret r (rl _)
theorem e_isN {a : Expr} {ca : En → M Vl} {j p} (ha : PE X a (tE X.K Wx ca)) : PE X (.Compare a [.Is] [.Constant .none j p] pos) (tE X.K Wx fun e => bind (ca e) fun x => match x with | .non => ret (.bl true) | _ => ret (.bl false)) :=
  PE.con (pe_cmp (pc_isN ha) rfl) fun σ H Q q => isn_in (fun b => .bl b) (fun _ => .inl rfl) q
theorem e_ntN {a : Expr} {ca : En → M Vl} {j p} (ha : PE X a (tE X.K Wx ca)) : PE X (.Compare a [.IsNot] [.Constant .none j p] pos) (tE X.K Wx fun e => bind (ca e) fun x => match x with | .non => ret (.bl false) | _ => ret (.bl true)) :=
  PE.con (pe_cmp (pc_notN ha) rfl) fun σ H Q q => isn_in (fun b => .bl (!b)) (fun _ => .inr rfl) q
theorem isn_t {σ : L2.St} {H : Hp} {ca : En → M Vl} {Q : Bool → Hp → Prop} (g : Bool → Bool) (q : tT X.K Wx (fun e => bind (ca e) fun x => match x with | .non => ret (g true) | _ => ret (g false)) σ H Q) :
    tE X.K Wx ca σ H fun x H1 => Q (g (decide (x = .non))) H1 :=
  g_mono (g_seq (R := Rl X.K) q) fun v H1 ⟨a, ι, s, e, r, env, x, p⟩ => by
    rw [none_of x]
    cases a <;> exact p.ret r rfl
theorem t_isN {a : Expr} {ca : En → M Vl} {j p} (ha : PE X a (tE X.K Wx ca)) : PT X (.Compare a [.Is] [.Constant .none j p] pos) (tT X.K Wx fun e => bind (ca e) fun x => match x with | .non => ret true | _ => ret false) :=
  PT.con (pt_cmp (pc_isN ha) rfl) fun σ H Q q => g_mono (isn_t (fun b => b) q) fun x H1 z => ⟨_, rfl, z⟩
theorem t_ntN {a : Expr} {ca : En → M Vl} {j p} (ha : PE X a (tE X.K Wx ca)) : PT X (.Compare a [.IsNot] [.Constant .none j p] pos) (tT X.K Wx fun e => bind (ca e) fun x => match x with | .non => ret false | _ => ret true) :=
  PT.con (pt_cmp (pc_notN ha) rfl) fun σ H Q q => g_mono (isn_t (fun b => !b) q) fun x H1 z => ⟨_, rfl, z⟩
theorem e_isB {a : Expr} {ca : En → M Vl} {b : Bool} {j p} (ha : PE X a (tE X.K Wx ca)) : PE X (.Compare a [.Is] [.Constant (.bool b) j p] pos) (tE X.K Wx fun e => bind (ca e) fun x => match x with | .bl c => ret (.bl (decide (c = b))) | _ => fail) :=
  PE.con (pe_cmpR op_isBl ha pe_bl (nomark _)) fun σ H Q q => g_mono (g_seq (R := Rl X.K) q) fun v H1 ⟨a, ι, s, e, r, env, x, p⟩ => by
    cases x with
    | bl c => exact ⟨c, b, rfl, rfl, p.ret r (.bl _)⟩
    | _ => exact False.elim p
theorem e_ntB {a : Expr} {ca : En → M Vl} {b : Bool} {j p} (ha : PE X a (tE X.K Wx ca)) : PE X (.Compare a [.IsNot] [.Constant (.bool b) j p] pos) (tE X.K Wx fun e => bind (ca e) fun x => match x with | .bl c => ret (.bl (!decide (c = b))) | _ => fail) :=
  PE.con (pe_cmpR op_notBl ha pe_bl (nomark _)) fun σ H Q q => g_mono (g_seq (R := Rl X.K) q) fun v H1 ⟨a, ι, s, e, r, env, x, p⟩ => by
    cases x with
    | bl c => exact ⟨c, b, rfl, rfl, p.ret r (.bl _)⟩
    | _ => exact False.elim p
theorem t_isB {a : Expr} {ca : En → M Vl} {b : Bool} {j p} (ha : PE X a (tE X.K Wx ca)) : PT X (.Compare a [.Is] [.Constant (.bool b) j p] pos) (tT X.K Wx fun e => bind (ca e) fun x => match x with | .bl c => ret (decide (c = b)) | _ => fail) :=
  PT.con (pt_cmpR op_isBl ha pe_bl (nomark _)) fun σ H Q q => g_mono (g_seq (R := Rl X.K) q) fun v H1 ⟨a, ι, s, e, r, env, x, p⟩ => by
    cases x with
    | bl c => exact ⟨c, b, rfl, rfl, _, rfl, p.ret r rfl⟩
    | _ => exact False.elim p
theorem t_ntB {a : Expr} {ca : En → M Vl} {b : Bool} {j p} (ha : PE X a (tE X.K Wx ca)) : PT X (.Compare a [.IsNot] [.Constant (.bool b) j p] pos) (tT X.K Wx fun e => bind (ca e) fun x => match x with | .bl c => ret (!decide (c = b)) | _ => fail) :=
  PT.con (pt_cmpR op_notBl ha pe_bl (nomark _)) fun σ H Q q => g_mono (g_seq (R := Rl X.K) q) fun v H1 ⟨a, ι, s, e, r, env, x, p⟩ => by
    cases x with
    | bl c => exact ⟨c, b, rfl, rfl, _, rfl, p.ret r rfl⟩
    | _ => exact False.elim p
theorem e_ife {c a b : Expr} {cc : En → M Bool} {ca cb : En → M Vl} (hc : PT X c (tT X.K Wx cc)) (ha : PE X a (tE X.K Wx ca)) (hb : PE X b (tE X.K Wx cb)) : PE X (.IfExp c a b pos) (tE X.K Wx fun e => bind (cc e) fun r => if r = true then ca e else cb e) :=
  PE.con (pe_ifExp hc ha hb) fun σ H Q q => g_mono (g_seq (R := RB) q) fun k H1 ⟨k', ι, s, e, r, env, x, p⟩ => by
    obtain rfl : k' = k := x
    cases k' with
    | true => exact iteT ⟨ι, s, e, r, env, p⟩
    | false => exact iteF ⟨ι, s, e, r, env, p⟩
/-! ### tests -/
theorem t_val {a : Expr} {ca : En → M Vl} (ha : PE X a (tE X.K Wx ca)) (nt : noTest a = true) : PT X a (tT X.K Wx fun e => bind (ca e) truth) :=
  PT.con (pt_truth ha (isTrue_plain nt _)) fun σ H Q q => g_mono (g_seq (R := Rl X.K) q) fun v H1 ⟨w, ι, s, e, r, env, x, p⟩ => tru_of r x p
theorem t_not {a : Expr} {ca : En → M Bool} (ha : PT X a (tT X.K Wx ca)) : PT X (.UnaryOp .Not a pos) (tT X.K Wx fun e => bind (ca e) fun r => ret (!r)) :=
  PT.con (pt_not ha) fun σ H Q q => g_mono (g_seq (R := RB) q) fun k H1 ⟨k', ι, s, e, r, env, x, p⟩ => by
    obtain rfl : k' = k := x
    exact p.ret r rfl
theorem w_one {op : BoolOp} {a : Expr} {ca : En → M Bool} (ha : PT X a (tT X.K Wx ca)) : PW X (.BoolOp op [a] pos) (tT X.K Wx ca) := by
  cases op
  · exact pw_and1 ha
  · exact pw_or1 ha
theorem w_and {a b : Expr} {rest : List Expr} {ca cb : En → M Bool} (ha : PT X a (tT X.K Wx ca)) (hb : PW X (.BoolOp .And (b :: rest) pos) (tT X.K Wx cb)) : PW X (.BoolOp .And (a :: b :: rest) pos) (tT X.K Wx fun e => bind (ca e) fun r => if r = true then cb e else ret false) :=
  PW.con (pw_and ha hb) fun σ H Q q => g_mono (g_seq (R := RB) q) fun k H1 ⟨k', ι, s, e, r, env, x, p⟩ => by
    obtain rfl : k' = k := x
    cases k' with
    | true => exact iteT ⟨ι, s, e, r, env, p⟩
    | false => exact iteF (p.ret r rfl)
theorem w_or {a b : Expr} {rest : List Expr} {ca cb : En → M Bool} (ha : PT X a (tT X.K Wx ca)) (hb : PW X (.BoolOp .Or (b :: rest) pos) (tT X.K Wx cb)) : PW X (.BoolOp .Or (a :: b :: rest) pos) (tT X.K Wx fun e => bind (ca e) fun r => if r = true then ret true else cb e) :=
  PW.con (pw_or ha hb) fun σ H Q q => g_mono (g_seq (R := RB) q) fun k H1 ⟨k', ι, s, e, r, env, x, p⟩ => by
    obtain rfl : k' = k := x
    cases k' with
    | true => exact iteT (p.ret r rfl)
    | false => exact iteF ⟨ι, s, e, r, env, p⟩
/-! ### calls of built-ins, methods, subscripts -/
theorem e_bi {b : Bi} {e1 : Expr} {es : List Expr} {cs : En → M (List Vl)} {p : Pos} (hg : Gl X b.name) (hm : X.mg b.name = none) (hc : X.calm = true) (ha : PA X (e1 :: es) (tA X.K Wx cs)) (h1 : starEach (e1 :: es) X.env = (false, eval e1 X.env) :: starEach es X.env) (h2 : (backTo pos (starEach es X.env)).any (·.1) = false) :
    PE X (.Call (.Name b.name p) (e1 :: es) [] pos) (tE X.K Wx fun e => bind (cs e) fun vs => biV b vs) := by
  have fin : ∀ {t : TE}, PE X (.Call (.Name b.name p) (e1 :: es) [] pos) (tCB (biR X.K b) (tA X.K Wx cs)) → PE X (.Call (.Name b.name p) (e1 :: es) [] pos) (tE X.K Wx fun e => bind (cs e) fun vs => biV b vs) := fun h =>
    PE.con h fun σ H Q q => g_mono (g_seq (R := RlA X.K) q) fun v H1 ⟨w, ι, s, e, r, env, x, p⟩ => c_bi b _ _ _ _ _ _ _ r x p
  have hv := boot_bi b
  obtain ⟨n1, n2⟩ := name_bi b
  have hb := o_bi (X := X) hc b
  refine fin (t := tC .non) ?_
  generalize Bi.name b = nm at *
  cases b
  · exact pe_callB hb hg hm hv ha n1 n2 h1 h2
  · exact pe_callB hb hg hm hv ha n1 n2 h1 h2
  · exact pe_callTy hb hg hm hv ha n1 n2 h1 h2
  · exact pe_callB hb hg hm hv ha n1 n2 h1 h2
  · exact pe_callB hb hg hm hv ha n1 n2 h1 h2
  · exact pe_callB hb hg hm hv ha n1 n2 h1 h2
  · exact pe_callTy hb hg hm hv ha n1 n2 h1 h2
  · exact pe_callB hb hg hm hv ha n1 n2 h1 h2
  · exact pe_callB hb hg hm hv ha n1 n2 h1 h2
  · exact pe_callTy hb hg hm hv ha n1 n2 h1 h2
theorem lst_ty {K : PySem.W.Frag} {H : Hp} {p : Addr} {xs : List V} (h : SqL K H p xs) : tyV K "list" (.ref p) H := .inl ⟨rfl, xs, h⟩
/-- a method of a list with one argument -/
theorem met_in {σ : L2.St} {H : Hp} {m : Mt} {co ce : En → M Vl} {r1 : V → V → Hp → VK → Prop} {f : Vl → Vl → M Vl} {Q : VK} (hf : ∀ x vs, mtV m x vs = on1 (f x) vs) (b : BinOk X.K r1 f)
    (ty : ∀ (ι : List Addr) (H : Hp) (s : SH) (a : Vl) (x : V), Rep X.K H ι s → Rl X.K H ι a x → (∃ s', chkM m a s = .ok () s') → tyV X.K "list" x H) (un : ∀ a s s', chkM m a s = .ok () s' → s' = s) (nx : ∀ a s c w s', chkM m a s ≠ .ex c w s')
    (q : tE X.K Wx (fun e => bind (co e) fun x => bind (chkM m x) fun _ => bind (bind (ce e) fun v => bind (ret ([] : List Vl)) fun vs => ret (v :: vs)) fun vs => mtV m x vs) σ H Q) :
    tBM X.K "list" (fun x vs H Q => ∃ y, vs = [y] ∧ r1 x y H Q) (tE X.K Wx co) (tCons (tE X.K Wx ce) tNil) σ H Q :=
  g_mono (g_seq (R := Rl X.K) q) fun v H1 ⟨a, ι, s, e, r, env, x, p⟩ => by
    cases ck : chkM m a s with
    | no => rw [bind_no ck] at p; exact False.elim p
    | ex c w s' => exact absurd ck (nx _ _ _ _ _)
    | ok u s' =>
      rw [bind_ok ck] at p
      have es := un _ _ _ ck
      subst es
      refine ⟨ty ι H1 s' a v r x ⟨s', ck⟩, ι, s', e, r, env, ?_⟩
      have p2 : Post X.K (Rl X.K) (Wx σ) ι H1 Q (bind (ce e) (fun v => mtV m a [v]) s') := by
        cases z : ce e s' with
        | ok w s2 =>
          rw [bind_ok z]
          rw [bind_ok (h' := s2) (a := [w]) (by rw [bind_ok z]; rfl)] at p
          exact p
        | ex c w s2 => rw [bind_ex z]; rw [bind_ex (bind_ex z)] at p; exact p
        | no => rw [bind_no z]; rw [bind_no (bind_no z)] at p; exact p
      exact p2.seq.mono fun u H2 ⟨w, ι2, s2, st, r2, y, p3⟩ => ⟨u, rfl, b _ _ _ _ _ _ _ _ _ r2 (x.step r st) y (by rw [hf] at p3; exact p3)⟩
theorem few1 {o e1 : Expr} (ns : noStar e1 = true) (pos : Pos) (env : Env) : ((backTo pos (starEach (e1 :: []) env)).all (fun x => !x.1) && (backToKw pos (keywordEach [] env)).all (fun x => x.1.isSome) && decide ((e1 :: ([] : List Expr)).length + ([] : List Keyword).length + (if ([] : List Keyword).isEmpty then 0 else 1) < 30)) = true := by
  rw [star_of ns]; rfl
theorem chk_un : ∀ (m : Mt) (a : Vl) (s s' : SH), chkM m a s = .ok () s' → s' = s := fun m a s s' e => by
  unfold chkM at e
  cases m with
  | append => cases a with
    | ref i => dsimp only at e; split at e <;> first | (cases e; rfl) | cases e
    | _ => cases e
  | bits => cases a <;> first | (cases e; rfl) | cases e
  | count => dsimp only at e; split at e <;> first | (cases e; rfl) | cases e
theorem chk_nx : ∀ (m : Mt) (a : Vl) (s : SH) (c : Nat) (w : Vl) (s' : SH), chkM m a s ≠ .ex c w s' := fun m a s c w s' e => by
  unfold chkM at e
  cases m with
  | append => cases a with
    | ref i => dsimp only at e; split at e <;> cases e
    | _ => cases e
  | bits => cases a <;> cases e
  | count => dsimp only at e; split at e <;> cases e
theorem e_app {o e1 : Expr} {co ce : En → M Vl} {apos : Pos} (ho : PE X o (tE X.K Wx co)) (he : PE X e1 (tE X.K Wx ce)) (nc : noCall o = true) (ns : noStar e1 = true) (hl : (apos.endLine == pos.line) = true) :
    PE X (.Call (.Attribute o "append" apos) [e1] [] pos) (tE X.K Wx fun e => bind (co e) fun x => bind (chkM .append x) fun _ => bind (bind (ce e) fun v => bind (ret ([] : List Vl)) fun vs => ret (v :: vs)) fun vs => mtV .append x vs) :=
  PE.con (pe_bm PySem.F.plainAttrs_list PySem.F.slot_list_append PySem.F.type_list_append m_app ho (pa_cons he pa_nil (star_of ns _ _)) (base_of nc _ _ _) (few1 (o := o) ns _ _) hl (star_of ns _ _) rfl) fun σ H Q q =>
    met_in (fun x vs => rfl) appA (fun ι H s a x r rl ⟨s', ck⟩ => by
      unfold chkM at ck
      cases rl with
      | @ref i z ez =>
        dsimp only at ck
        split at ck
        · rename_i xs e
          obtain ⟨vs, q1, q2⟩ := r.lst ez e
          exact lst_ty (SqL.of q1)
        · cases ck
      | _ => cases ck) (chk_un _) (chk_nx _) q
theorem e_cnt {o e1 : Expr} {co ce : En → M Vl} {apos : Pos} (hu : X.A.units + 65 < cLine) (ho : PE X o (tE X.K Wx co)) (he : PE X e1 (tE X.K Wx ce)) (nc : noCall o = true) (ns : noStar e1 = true) (hl : (apos.endLine == pos.line) = true) :
    PE X (.Call (.Attribute o "count" apos) [e1] [] pos) (tE X.K Wx fun e => bind (co e) fun x => bind (chkM .count x) fun _ => bind (bind (ce e) fun v => bind (ret ([] : List Vl)) fun vs => ret (v :: vs)) fun vs => mtV .count x vs) :=
  PE.con (pe_bm PySem.F.plainAttrs_list PySem.F.slot_list_count PySem.F.type_list_count (m_cnt hu) ho (pa_cons he pa_nil (star_of ns _ _)) (base_of nc _ _ _) (few1 (o := o) ns _ _) hl (star_of ns _ _) rfl) fun σ H Q q =>
    met_in (fun x vs => rfl) cntA (fun ι H s a x r rl ⟨s', ck⟩ => by
      unfold chkM at ck
      dsimp only at ck
      split at ck
      · rename_i xs e
        obtain ⟨p, vs, rfl, hs, _⟩ := litems_of r rl e
        exact lst_ty hs
      · cases ck) (chk_un _) (chk_nx _) q
theorem e_bits {o : Expr} {co : En → M Vl} {apos : Pos} (ho : PE X o (tE X.K Wx co)) (nc : noCall o = true) (hl : (apos.endLine == pos.line) = true) :
    PE X (.Call (.Attribute o "bit_length" apos) [] [] pos) (tE X.K Wx fun e => bind (co e) fun x => bind (chkM .bits x) fun _ => bind (ret ([] : List Vl)) fun vs => mtV .bits x vs) :=
  PE.con (pe_bits ho (base_of nc _ _ _) hl) fun σ H Q q => g_mono (g_seq (R := Rl X.K) q) fun v H1 ⟨a, ι, s, e, r, env, x, p⟩ => by
    cases x with
    | int i => exact ⟨i, rfl, p.here r (.int _)⟩
    | _ => exact False.elim p
theorem e_idx {a b : Expr} {ca cb : En → M Vl} (hu : X.A.units + 1 < cLine) (ha : PE X a (tE X.K Wx ca)) (hb : PE X b (tE X.K Wx cb)) (ns : noSlice b = true) : PE X (.Subscript a b pos) (tE X.K Wx fun e => bind (ca e) fun x => bind (cb e) fun y => idxV x y) :=
  PE.con (pe_ix (o_idx hu) ha hb (nosub_of ns)) fun σ H Q q => g_mono (g_two q) fun v H1 z => g_mono z fun u H2 ⟨a, b, ι, s, e, r, env, x, y, p⟩ => b_idx _ _ _ _ _ _ _ _ _ r x y p
theorem o_none : PO X none (tO X.K Wx fun _ => ret none) := PO.con po_none fun σ H Q ⟨ι, s, e, r, env, p⟩ => p.ret r rfl
theorem o_some {a : Expr} {ca : En → M Vl} (ha : PE X a (tE X.K Wx ca)) : PO X (some a) (tO X.K Wx fun e => bind (ca e) fun x => match x with | .int i => ret (some i) | _ => fail) :=
  PO.con (po_some ha) fun σ H Q q => g_mono (g_seq (R := Rl X.K) q) fun v H1 ⟨a, ι, s, e, r, env, x, p⟩ => by
    cases x with
    | int i => exact ⟨i, rfl, p.ret r rfl⟩
    | _ => exact False.elim p
theorem e_slc {a : Expr} {lo hi : Option Expr} {ca : En → M Vl} {cl ch : En → M (Option Int)} {p2 : Pos} (ha : PE X a (tE X.K Wx ca)) (hl : PO X lo (tO X.K Wx cl)) (hh : PO X hi (tO X.K Wx ch)) :
    PE X (.Subscript a (.Slice lo hi none p2) pos) (tE X.K Wx fun e => bind (ca e) fun x => bind (cl e) fun l => bind (ch e) fun u => slcV x l u) :=
  PE.con (pe_slice o_slc ha hl hh) fun σ H Q q => g_mono (g_seq (R := Rl X.K) q) fun v H1 ⟨a, ι, s, e, r, env, x, p⟩ =>
    ⟨ι, s, e, r, env, p.seq.mono fun l H2 ⟨l', ι2, s2, st, r2, y, p2⟩ => by
      obtain rfl : l' = l := y
      exact ⟨ι2, s2, e, r2, env.step r st, p2.seq.mono fun u H3 ⟨u', ι3, s3, st3, r3, y3, p3⟩ => by
        obtain rfl : u' = u := y3
        exact s_slc r3 ((x.step r st).step r2 st3) p3⟩⟩
theorem rng_rl {K : PySem.W.Frag} {H : Hp} {ι : List Addr} (lo : Int) : ∀ n : Nat, RlA K H ι (rngL lo n) ((List.range n).map fun i => V.int (lo + (i : Nat))) := fun n => by
  unfold rngL
  generalize List.range n = l
  induction l with
  | nil => exact .nil
  | cons a l ih => exact .cons (.int _) ih
theorem e_lrng {a b : Expr} {ca cb : En → M Vl} {p p2 p3 : Pos} (hg : Gl X "list") (hm : X.mg "list" = none) (hg2 : Gl X "range") (hm2 : X.mg "range" = none) (hc : X.calm = true) (ha : PE X a (tE X.K Wx ca)) (hb : PE X b (tE X.K Wx cb)) (na : noStar a = true) (nb : noStar b = true) :
    PE X (.Call (.Name "list" p) [.Call (.Name "range" p2) [a, b] [] p3] [] pos) (tE X.K Wx fun e => bind (ca e) fun x => bind (cb e) fun y => match x, y with
      | .int i, .int j => if -(2 ^ 62) ≤ i ∧ i < 2 ^ 62 ∧ -(2 ^ 62) ≤ j ∧ j < 2 ^ 62 ∧ (j - i).toNat ≤ lim then alloc (.lst (rngL i (j - i).toNat)) else fail
      | _, _ => fail) :=
  PE.con (pe_listRg hc hg hm (prg_2 hg2 hm2 ha hb (star_of na _ _) (star_of nb _ _) (by rw [star_of nb]; rfl)) rfl) fun σ H Q q => g_mono (g_two q) fun v H1 z => g_mono z fun u H2 ⟨a, b, ι, s, e, r, env, x, y, p⟩ => by
    cases x with
    | int i => cases y with
      | int j =>
        dsimp only at p
        by_cases c : -(2 ^ 62) ≤ i ∧ i < 2 ^ 62 ∧ -(2 ^ 62) ≤ j ∧ j < 2 ^ 62 ∧ (j - i).toNat ≤ lim
        · rw [if_pos c] at p
          exact ⟨i, j, rfl, rfl, ⟨c.1, c.2.1, c.2.2.1, c.2.2.2.1, Nat.le_trans c.2.2.2.2 (by decide)⟩, laid_lst r (rng_rl i _) p⟩
        · rw [if_neg c] at p; exact False.elim p
      | _ => exact False.elim p
    | _ => exact False.elim p
end
end AM

namespace AM
open PySem L2 PyProof.Rows
/-! ### what is walked -/
def IsLi : Vl → Prop
  | .ref _ => True
  | .rol _ => True
  | _ => False
inductive SrcJ (K : PySem.W.Frag) (H : Hp) (ι : List Addr) : Src → L2.It → Prop
  | cell {i a} : ι[i]? = some a → SrcJ K H ι (.cell i) (Itl K a)
  | toldT {xs vs p} : TuL K H p vs → RlA K H ι xs vs → SrcJ K H ι (.told xs) (Itt K p)
  | toldL {xs vs p} : RoL K H p vs → RlA K H ι xs vs → SrcJ K H ι (.told xs) (Itl K p)
  | toldR {lo n} : SrcJ K H ι (.told (rngL lo n)) (Itr lo n)
  | enum {i a} : ι[i]? = some a → SrcJ K H ι (.enum i) (Ite K a)
  | enumT {xs vs p} : RoL K H p vs → RlA K H ι xs vs → SrcJ K H ι (.enumT xs) (Ite K p)
  | zip {a b p q} : Rl K H ι a (.ref p) → Rl K H ι b (.ref q) → SrcJ K H ι (.zip a b) (Itz K p q)
  | zipT {xs ys vs us p q} : TuL K H p vs → RlA K H ι xs vs → TuL K H q us → RlA K H ι ys us → SrcJ K H ι (.zipT xs ys) (RZ.ItzT K p q)
section
variable {K : PySem.W.Frag} {H H' : Hp} {ι ι' : List Addr} {h h' : SH} {src : Src} {J : L2.It}
theorem SrcJ.step (r : Rep K H ι h) (s : Step ι H ι' H') (q : SrcJ K H ι src J) : SrcJ K H' ι' src J := by
  cases q with
  | cell a => exact .cell (get_prefix s.pre a)
  | toldT a b => exact .toldT (a.step r s) (b.step r s)
  | toldL a b => exact .toldL (a.step r s) (b.step r s)
  | toldR => exact .toldR
  | enum a => exact .enum (get_prefix s.pre a)
  | enumT a b => exact .enumT (a.step r s) (b.step r s)
  | zip a b => exact .zip (a.step r s) (b.step r s)
  | zipT a b c d => exact .zipT (a.step r s) (b.step r s) (c.step r s) (d.step r s)
theorem nth_none {xs : List Vl} {vs : List V} {k : Nat} (q : RlA K H ι xs vs) (e : xs[k]? = none) : vs.length ≤ k := by
  rw [← q.length]; exact List.getElem?_eq_none_iff.mp e
theorem SrcJ.stop (r : Rep K H ι h) (q : SrcJ K H ι src J) {k : Nat} (e : itemS h k src = some none) : J.stop k H := by
  cases q with
  | @cell i a ea =>
    simp only [itemS] at e
    cases e2 : h[i]? with
    | none => rw [e2] at e; cases e
    | some o => cases o with
      | lst xs =>
        rw [e2] at e
        obtain ⟨vs, q1, q2⟩ := r.lst ea e2
        exact ⟨vs, SqL.of q1, nth_none q2 (Option.some.inj e)⟩
      | dct kvs => rw [e2] at e; cases e
  | @toldT xs vs p a b => exact ⟨vs, a.seq, nth_none b (Option.some.inj e)⟩
  | @toldL xs vs p a b => exact ⟨vs, a.seq, nth_none b (Option.some.inj e)⟩
  | @toldR lo n =>
    have z : (rngL lo n)[k]? = none := Option.some.inj e
    have := List.getElem?_eq_none_iff.mp z
    unfold rngL at this
    show n ≤ k
    simpa using this
  | @enum i a ea =>
    simp only [itemS] at e
    cases e2 : h[i]? with
    | none => rw [e2] at e; cases e
    | some o => cases o with
      | lst xs =>
        rw [e2] at e
        obtain ⟨vs, q1, q2⟩ := r.lst ea e2
        exact ⟨vs, SqL.of q1, nth_none q2 (Option.map_eq_none_iff.mp (Option.some.inj e))⟩
      | dct kvs => rw [e2] at e; cases e
  | @enumT xs vs p a b => exact ⟨vs, a.seq, nth_none b (Option.map_eq_none_iff.mp (Option.some.inj e))⟩
  | @zip a b p q ra rb =>
    simp only [itemS] at e
    cases e1 : litems h a with
    | none => rw [e1] at e; cases e
    | some xs =>
      cases e2 : litems h b with
      | none => rw [e1, e2] at e; cases e
      | some ys =>
        rw [e1, e2] at e
        obtain ⟨p', vs, ep, q1, q2⟩ := litems_of r ra e1
        obtain ⟨q', us, eq, q3, q4⟩ := litems_of r rb e2
        cases ep; cases eq
        refine ⟨vs, us, q1, q3, ?_⟩
        dsimp only at e
        cases e3 : xs[k]? with
        | none => exact .inl (nth_none q2 e3)
        | some x =>
          cases e4 : ys[k]? with
          | none => exact .inr (nth_none q4 e4)
          | some y => rw [e3, e4] at e; cases e
  | @zipT xs ys vs us p q a b c d =>
    simp only [itemS] at e
    refine ⟨vs, us, a.seq, c.seq, ?_⟩
    cases e3 : xs[k]? with
    | none => exact .inl (nth_none b e3)
    | some x =>
      cases e4 : ys[k]? with
      | none => exact .inr (nth_none d e4)
      | some y => rw [e3, e4] at e; cases e
theorem SrcJ.go (r : Rep K H ι h) (q : SrcJ K H ι src J) {k : Nat} {w : Vl} (e : itemS h k src = some (some w)) : J.go k H ∧ ∀ x H', J.yld k H x H' → Step ι H ι H' ∧ Rep K H' ι h ∧ Rl K H' ι w x := by
  have same : ∀ {x : V} {v : V} {H' : Hp}, H' = H → Rl K H ι w v → v = x → Step ι H ι H' ∧ Rep K H' ι h ∧ Rl K H' ι w x := fun e1 e2 e3 => by
    subst e1; subst e3; exact ⟨Step.refl _ _, r, e2⟩
  cases q with
  | @cell i a ea =>
    simp only [itemS] at e
    cases e2 : h[i]? with
    | none => rw [e2] at e; cases e
    | some o => cases o with
      | lst xs =>
        rw [e2] at e
        obtain ⟨vs, q1, q2⟩ := r.lst ea e2
        obtain ⟨v, e3, rv⟩ := q2.get (Option.some.inj e)
        exact ⟨⟨vs, v, SqL.of q1, e3⟩, fun x H' ⟨y1, y2⟩ => same y1 rv (Option.some.inj (e3.symm.trans (y2 vs (SqL.of q1))))⟩
      | dct kvs => rw [e2] at e; cases e
  | @toldT xs vs p a b =>
    obtain ⟨v, e3, rv⟩ := b.get (Option.some.inj e)
    exact ⟨⟨vs, v, a.seq, e3⟩, fun x H' ⟨y1, y2⟩ => same y1 rv (Option.some.inj (e3.symm.trans (y2 vs a.seq)))⟩
  | @toldL xs vs p a b =>
    obtain ⟨v, e3, rv⟩ := b.get (Option.some.inj e)
    exact ⟨⟨vs, v, a.seq, e3⟩, fun x H' ⟨y1, y2⟩ => same y1 rv (Option.some.inj (e3.symm.trans (y2 vs a.seq)))⟩
  | @toldR lo n =>
    have z : (rngL lo n)[k]? = some w := Option.some.inj e
    unfold rngL at z
    rw [List.getElem?_map] at z
    obtain ⟨j, e1, e2⟩ := Option.map_eq_some_iff.mp z
    obtain ⟨hk, e3⟩ := List.getElem?_eq_some_iff.mp e1
    have hk' : k < n := by simpa using hk
    have ej : j = k := by rw [← e3]; simp
    subst ej
    subst e2
    exact ⟨hk', fun x H' ⟨y1, y2⟩ => same y1 (.int _) y2.symm⟩
  | @enum i a ea =>
    simp only [itemS] at e
    cases e2 : h[i]? with
    | none => rw [e2] at e; cases e
    | some o => cases o with
      | lst xs =>
        rw [e2] at e
        obtain ⟨vs, q1, q2⟩ := r.lst ea e2
        obtain ⟨u, e4, e5⟩ := Option.map_eq_some_iff.mp (Option.some.inj e)
        obtain ⟨v, e3, rv⟩ := q2.get e4
        refine ⟨⟨vs, v, SqL.of q1, e3⟩, ?_⟩
        rintro x H' ⟨T, y, rfl, hT, rfl, y2⟩
        have ey : y = v := Option.some.inj ((y2 vs (SqL.of q1)).symm.trans e3)
        subst ey
        obtain ⟨st, r2⟩ := r.aside (o := .tup [.int (k : Nat), y]) hT
        subst e5
        exact ⟨st, r2, .tup (.inl upd_same) (.cons (.int _) (.cons (rv.step r st) .nil))⟩
      | dct kvs => rw [e2] at e; cases e
  | @enumT xs vs p a b =>
    obtain ⟨u, e4, e5⟩ := Option.map_eq_some_iff.mp (Option.some.inj e)
    obtain ⟨v, e3, rv⟩ := b.get e4
    refine ⟨⟨vs, v, a.seq, e3⟩, ?_⟩
    rintro x H' ⟨T, y, rfl, hT, rfl, y2⟩
    have ey : y = v := Option.some.inj ((y2 vs a.seq).symm.trans e3)
    subst ey
    obtain ⟨st, r2⟩ := r.aside (o := .tup [.int (k : Nat), y]) hT
    subst e5
    exact ⟨st, r2, .tup (.inl upd_same) (.cons (.int _) (.cons (rv.step r st) .nil))⟩
  | @zip a b p q ra rb =>
    simp only [itemS] at e
    cases e1 : litems h a with
    | none => rw [e1] at e; cases e
    | some xs =>
      cases e2 : litems h b with
      | none => rw [e1, e2] at e; cases e
      | some ys =>
        rw [e1, e2] at e
        obtain ⟨p', vs, ep, q1, q2⟩ := litems_of r ra e1
        obtain ⟨q', us, eq, q3, q4⟩ := litems_of r rb e2
        cases ep; cases eq
        dsimp only at e
        cases e3 : xs[k]? with
        | none => rw [e3] at e; cases e
        | some x =>
          cases e4 : ys[k]? with
          | none => rw [e3, e4] at e; cases e
          | some y =>
            rw [e3, e4] at e
            have e := Option.some.inj (Option.some.inj e)
            subst e
            obtain ⟨v, e5, rv⟩ := q2.get e3
            obtain ⟨u, e6, ru⟩ := q4.get e4
            refine ⟨⟨vs, us, v, u, q1, q3, e5, e6⟩, ?_⟩
            rintro x1 H' ⟨T, x2, y2, rfl, hT, rfl, z1, z2⟩
            have ex : x2 = v := Option.some.inj ((z1 vs q1).symm.trans e5)
            have ey : y2 = u := Option.some.inj ((z2 us q3).symm.trans e6)
            subst ex
            subst ey
            obtain ⟨st, r2⟩ := r.aside (o := .tup [x2, y2]) hT
            exact ⟨st, r2, .tup (.inl upd_same) (.cons (rv.step r st) (.cons (ru.step r st) .nil))⟩
  | @zipT xs ys vs us p q a b c d =>
    simp only [itemS] at e
    cases e3 : xs[k]? with
    | none => rw [e3] at e; cases e
    | some x =>
      cases e4 : ys[k]? with
      | none => rw [e3, e4] at e; cases e
      | some y =>
        rw [e3, e4] at e
        have e := Option.some.inj (Option.some.inj e)
        subst e
        obtain ⟨v, e5, rv⟩ := b.get e3
        obtain ⟨u, e6, ru⟩ := d.get e4
        refine ⟨⟨vs, us, v, u, a.seq, c.seq, e5, e6⟩, ?_⟩
        rintro x1 H' ⟨T, x2, y2, rfl, hT, rfl, z1, z2⟩
        have ex : x2 = v := Option.some.inj ((z1 vs a.seq).symm.trans e5)
        have ey : y2 = u := Option.some.inj ((z2 us c.seq).symm.trans e6)
        subst ex
        subst ey
        obtain ⟨st, r2⟩ := r.aside (o := .tup [x2, y2]) hT
        exact ⟨st, r2, .tup (.inl upd_same) (.cons (rv.step r st) (.cons (ru.step r st) .nil))⟩
end
abbrev tI (K : PySem.W.Frag) (Wx : L2.St → Wh) (c : En → M Src) : TI := tG K (SrcJ K) Wx c
theorem PI.con {X : Cx} {tg e : Expr} {t t' : TI} (p : PI X tg e t) (f : ∀ σ H Q, t' σ H Q → t σ H Q) : PI X tg e t' := ⟨fun pins s σ H Q I h => p.run pins s σ H Q I (f _ _ _ h)⟩
section
variable {X : Cx} {Wx : L2.St → Wh} {pos : Pos} {tg : Expr}
theorem pi_either {l : Expr} {tl : TE} (hl : PE X l tl) : PI X tg l (fun σ H R => tl σ H fun x H1 => (∃ a, x = .ref a ∧ (∃ xs, SqL X.K H1 a xs) ∧ R (Itl X.K a) H1) ∨ (∃ a, x = .ref a ∧ (∃ xs, SqT X.K H1 a xs) ∧ R (Itt X.K a) H1)) := by
  refine ⟨fun pins s σ H R I h => ?_⟩
  refine thn (hl.run pins s σ H _ I h) fun v s1 ⟨x, H1, I1, r1, q1⟩ => ?_
  rcases q1 with ⟨a, e, ⟨xs, hq⟩, q⟩ | ⟨a, e, ⟨xs, hq⟩, q⟩
  · subst e
    cases r1
    obtain ⟨its, rv, p, hz⟩ := I1.list hq
    refine wpAny_pyIter_list p.isList ?_
    refine ⟨s1.heap.objs.size, [s1.heap.objs.size], _, _, H1, rfl, I1.kept (t' := s1.toks) fun b o e => Heap.get?_push_of_some _ e, turn_list a _, ⟨_, Heap.get?_push_size _ rfl, rfl, rfl⟩, fun b hb => ?_, q⟩
    have e : b = s1.heap.objs.size := by simpa using hb
    subst e
    exact I1.fpOk (Nat.le_refl _) (I1.hok.fresh (Nat.le_refl _))
  · subst e
    cases r1
    obtain ⟨its, rv, p, hz⟩ := I1.tuple hq
    refine wpAny_pyIter_tuple (show s1.heap.IsTuple a its.toArray from p) ?_
    refine ⟨s1.heap.objs.size, [s1.heap.objs.size], _, _, H1, rfl, I1.kept (t' := s1.toks) fun b o e => Heap.get?_push_of_some _ e, turn_tuple a _, ⟨_, Heap.get?_push_size _ rfl, rfl, rfl⟩, fun b hb => ?_, q⟩
    have e : b = s1.heap.objs.size := by simpa using hb
    subst e
    exact I1.fpOk (Nat.le_refl _) (I1.hok.fresh (Nat.le_refl _))
theorem i_seq {a : Expr} {ca : En → M Vl} (ha : PE X a (tE X.K Wx ca)) : PI X tg a (tI X.K Wx fun e => bind (ca e) fun x => match x with
    | .tup xs => ret (.told xs)
    | .rol xs => ret (.told xs)
    | .ref i => fun h => match h[i]? with
      | some (.lst _) => .ok (.cell i) h
      | _ => .no
    | _ => fail) :=
  PI.con (pi_either ha) fun σ H Q q => g_mono (g_seq (R := Rl X.K) q) fun v H1 ⟨a, ι, s, e, r, env, x, p⟩ => by
    cases x with
    | tup a b => exact .inr ⟨_, rfl, ⟨_, a.seq⟩, p.ret r (.toldT a b)⟩
    | rol a b => exact .inl ⟨_, rfl, ⟨_, a.seq⟩, p.ret r (.toldL a b)⟩
    | @ref i z ez =>
      dsimp only at p
      cases e2 : s[i]? with
      | none => rw [e2] at p; exact False.elim p
      | some o => cases o with
        | lst xs =>
          rw [e2] at p
          obtain ⟨vs, q1, q2⟩ := r.lst ez e2
          exact .inl ⟨z, rfl, ⟨vs, SqL.of q1⟩, p.here r (.cell ez)⟩
        | dct kvs => rw [e2] at p; exact False.elim p
    | _ => exact False.elim p
theorem i_rng1 {a : Expr} {ca : En → M Vl} {p : Pos} (hg : Gl X "range") (hm : X.mg "range" = none) (ha : PE X a (tE X.K Wx ca)) (ns : noStar a = true) : PI X tg (.Call (.Name "range" p) [a] [] pos) (tI X.K Wx fun e => bind (ca e) fun x => match x with
    | .int j => if -(2 ^ 62) ≤ j ∧ j < 2 ^ 62 then ret (.told (rngL 0 j.toNat)) else fail
    | _ => fail) :=
  PI.con (pi_range1 hg hm (pa_cons ha pa_nil (star_of ns _ _)) (star_of ns _ _)) fun σ H Q q => g_mono (g_seq (R := Rl X.K) q) fun v H1 ⟨a, ι, s, e, r, env, x, p⟩ => by
    cases x with
    | int j =>
      dsimp only at p
      by_cases c : -(2 ^ 62) ≤ j ∧ j < 2 ^ 62
      · rw [if_pos c] at p; exact ⟨j, rfl, c.1, c.2, p.ret r .toldR⟩
      · rw [if_neg c] at p; exact False.elim p
    | _ => exact False.elim p
theorem i_rng2 {a b : Expr} {ca cb : En → M Vl} {p : Pos} (hg : Gl X "range") (hm : X.mg "range" = none) (ha : PE X a (tE X.K Wx ca)) (hb : PE X b (tE X.K Wx cb)) (na : noStar a = true) (nb : noStar b = true) : PI X tg (.Call (.Name "range" p) [a, b] [] pos) (tI X.K Wx fun e => bind (ca e) fun x => bind (cb e) fun y => match x, y with
    | .int i, .int j => if -(2 ^ 62) ≤ i ∧ i < 2 ^ 62 ∧ -(2 ^ 62) ≤ j ∧ j < 2 ^ 62 then ret (.told (rngL i (j - i).toNat)) else fail
    | _, _ => fail) :=
  PI.con (pi_range2 hg hm (pa_cons ha (pa_cons hb pa_nil (star_of nb _ _)) (star_of na _ _)) (by rw [star_of na, star_of nb]; rfl) (star_of nb _ _)) fun σ H Q q => g_mono (g_two q) fun v H1 z => g_mono z fun u H2 ⟨a, b, ι, s, e, r, env, x, y, p⟩ => by
    cases x with
    | int i => cases y with
      | int j =>
        dsimp only at p
        by_cases c : -(2 ^ 62) ≤ i ∧ i < 2 ^ 62 ∧ -(2 ^ 62) ≤ j ∧ j < 2 ^ 62
        · rw [if_pos c] at p; exact ⟨i, j, rfl, c, p.ret r .toldR⟩
        · rw [if_neg c] at p; exact False.elim p
      | _ => exact False.elim p
    | _ => exact False.elim p
theorem i_enum {es : List Expr} {kk : Nat} {tpos : Pos} {a : Expr} {ca : En → M Vl} {p : Pos} (hg : Gl X "enumerate") (hm : X.mg "enumerate" = none) (ha : PE X a (tE X.K Wx ca)) (ns : noStar a = true) : PI X (.Tuple es kk tpos) (.Call (.Name "enumerate" p) [a] [] pos) (tI X.K Wx fun e => bind (ca e) fun x => match x with
    | .rol xs => ret (.enumT xs)
    | .ref i => fun h => match h[i]? with
      | some (.lst _) => .ok (.enum i) h
      | _ => .no
    | _ => fail) :=
  PI.con (pi_enum hg hm (pa_cons ha pa_nil (star_of ns _ _)) (star_of ns _ _)) fun σ H Q q => g_mono (g_seq (R := Rl X.K) q) fun v H1 ⟨a, ι, s, e, r, env, x, p⟩ => by
    cases x with
    | rol a b => exact ⟨_, _, rfl, a.seq, p.ret r (.enumT a b)⟩
    | @ref i z ez =>
      dsimp only at p
      cases e2 : s[i]? with
      | none => rw [e2] at p; exact False.elim p
      | some o => cases o with
        | lst xs =>
          rw [e2] at p
          obtain ⟨vs, q1, q2⟩ := r.lst ez e2
          exact ⟨z, vs, rfl, SqL.of q1, p.here r (.enum ez)⟩
        | dct kvs => rw [e2] at p; exact False.elim p
    | _ => exact False.elim p
theorem i_zip {es : List Expr} {kk : Nat} {tpos : Pos} {a b : Expr} {ca cb : En → M Vl} {p : Pos} (hg : Gl X "zip") (hm : X.mg "zip" = none) (ha : PE X a (tE X.K Wx ca)) (hb : PE X b (tE X.K Wx cb)) (na : noStar a = true) (nb : noStar b = true) : PI X (.Tuple es kk tpos) (.Call (.Name "zip" p) [a, b] [] pos) (tI X.K Wx fun e => bind (ca e) fun x => bind (cb e) fun y => match x, y with
    | .tup xs, .tup ys => ret (.zipT xs ys)
    | x, y => fun h => match litems h x, litems h y with
      | some _, some _ => .ok (.zip x y) h
      | _, _ => .no) :=
  PI.con (RZ.pi_zipA hg hm (pa_cons ha (pa_cons hb pa_nil (star_of nb _ _)) (star_of na _ _)) (star_of na _ _) (by rw [star_of nb]; rfl)) fun σ H Q q => g_mono (g_two q) fun v H1 z => g_mono z fun u H2 ⟨a, b, ι, s, e, r, env, x, y, p⟩ => by
    have lists : Post X.K (SrcJ X.K) (Wx σ) ι H2 Q (match litems s a, litems s b with | some _, some _ => (Rs.ok (Src.zip a b) s) | _, _ => .no) → ∃ a b xs ys, [v, u] = [V.ref a, V.ref b] ∧ ((SqL X.K H2 a xs ∧ SqL X.K H2 b ys ∧ Q (Itz X.K a b) H2) ∨ (SqT X.K H2 a xs ∧ SqT X.K H2 b ys ∧ Q (RZ.ItzT X.K a b) H2)) := fun p => by
      cases e1 : litems s a with
      | none => rw [e1] at p; exact False.elim p
      | some xs => cases e2 : litems s b with
        | none => rw [e1, e2] at p; exact False.elim p
        | some ys =>
          rw [e1, e2] at p
          obtain ⟨p', vs, rfl, q1, q2⟩ := litems_of r x e1
          obtain ⟨q', us, rfl, q3, q4⟩ := litems_of r y e2
          exact ⟨p', q', vs, us, rfl, .inl ⟨q1, q3, p.here r (.zip x y)⟩⟩
    cases x with
    | tup a1 b1 =>
      cases y with
      | tup a2 b2 => exact ⟨_, _, _, _, rfl, .inr ⟨a1.seq, a2.seq, p.ret r (.zipT a1 b1 a2 b2)⟩⟩
      | _ => exact lists p
    | _ => exact lists p
end
end AM

namespace AM
open PySem L2 PyProof.Rows
/-! ### targets -/
def SameBut (own : List Nat) (σ σ2 : L2.St) : Prop := σ2.length = σ.length ∧ ∀ j : Nat, j ∉ own → σ2[j]? = σ[j]?
theorem SameBut.refl (own : List Nat) (σ : L2.St) : SameBut own σ σ := ⟨rfl, fun _ _ => rfl⟩
theorem SameBut.trans {a b : List Nat} {σ σ1 σ2 : L2.St} (x : SameBut a σ σ1) (y : SameBut b σ1 σ2) : SameBut (a ++ b) σ σ2 :=
  ⟨y.1.trans x.1, fun j h => (y.2 j fun z => h (List.mem_append_right _ z)).trans (x.2 j fun z => h (List.mem_append_left _ z))⟩
theorem SameBut.set (i : Nat) (σ : L2.St) (v : V) : SameBut [i] σ (σ.set i (some v)) := ⟨by simp, fun j h => by
  rw [List.getElem?_set_ne (fun z => h (by simp [z]))]⟩
def RG (K : PySem.W.Frag) (own : List Nat) (σ : L2.St) : Hp → List Addr → En → L2.St → Prop := fun H ι e2 σ2 => EnvR K H ι e2 σ2 ∧ SameBut own σ σ2
abbrev F0 : Wh := fun _ _ _ => False
def tGt (K : PySem.W.Frag) (own : List Nat) (f : En → Vl → M En) : TG := fun v σ H Q => ∃ ι h e w, Rep K H ι h ∧ EnvR K H ι e σ ∧ Rl K H ι w v ∧ Post K (RG K own σ) F0 ι H Q (f e w h)
def tGts (K : PySem.W.Frag) (own : List Nat) (f : En → List Vl → M En) : TGs := fun v σ H Q => ∃ ι h e w, Rep K H ι h ∧ EnvR K H ι e σ ∧ RlA K H ι w v ∧ Post K (RG K own σ) F0 ι H Q (f e w h)
theorem PG.con {X : Cx} {e : Expr} {t t' : TG} (p : PG X e t) (f : ∀ v σ H Q, t' v σ H Q → t v σ H Q) : PG X e t' := ⟨fun pins s σ H v u Q I r h => p.run pins s σ H v u Q I r (f _ _ _ _ h)⟩
theorem PGs.con {X : Cx} {e : List Expr} {t t' : TGs} (p : PGs X e t) (f : ∀ v σ H Q, t' v σ H Q → t v σ H Q) : PGs X e t' := ⟨fun pins s σ H v u Q I r h => p.run pins s σ H v u Q I r (f _ _ _ _ h)⟩
theorem Post.seq0 {K : PySem.W.Frag} {H : Hp} {ι : List Addr} {h : SH} {α β α' β' : Type} {R : Hp → List Addr → α → β → Prop} {R' : Hp → List Addr → α' → β' → Prop} {Wy : Wh} {Q' : β' → Hp → Prop} {m : M α} {f : α → M α'} (p : Post K R' F0 ι H Q' (bind m f h)) :
    Post K R Wy ι H (fun b H1 => ∃ a ι1 h1, Step ι H ι1 H1 ∧ Rep K H1 ι1 h1 ∧ R H1 ι1 a b ∧ Post K R' F0 ι1 H1 Q' (f a h1)) (m h) :=
  (p.seq (R := R)).wish fun _ _ _ z => False.elim z
section
variable {X : Cx} {pos : Pos}
theorem g_nm {i : Nat} {x : Str} (hN : X.N.Nodup) (hi : X.N[i]? = some x) (hx : Loc X.env.scope x) (hf : X.fn x = true ∨ X.env.scope.names.lookup x = some .local) : PG X (.Name x pos) (tGt X.K [i] fun e v => ret (e.set i (some v))) :=
  PG.con (pg_name hN hi hx hf) fun v σ H Q ⟨ι, s, e, w, r, env, rl, p⟩ => p.ret r ⟨env.set i rl, SameBut.set i σ v⟩
theorem g_nil : PGs X [] (tGts X.K [] fun e _ => ret e) → True := fun _ => trivial
theorem asg_of {e : Expr} (h : noStar e = true) (es : List Expr) (env : Env) : (assignEach (e :: es) env).map (·.2) = assign e env :: (assignEach es env).map (·.2) := by
  cases e <;> first | rfl | cases h
theorem asg_len {C : Ct} : ∀ {es : List Expr} {ts : List Tg}, TrGs C es ts → ∀ env : Env, (assignEach es env).length = ts.length ∧ (assignEach es env).findIdx? (·.1) = none
  | _, _, .nil, _ => ⟨rfl, rfl⟩
  | _, _, .cons (e := e) (es := es) a b ns, env => by
    obtain ⟨h1, h2⟩ := asg_len b env
    have z : assignEach (e :: es) env = (false, assign e env) :: assignEach es env := by
      cases e <;> first | rfl | cases ns
    rw [z]
    refine ⟨by simp [h1], ?_⟩
    rw [List.findIdx?_cons, h2]
    rfl
theorem g_tup {es : List Expr} {k n : Nat} {own : List Nat} {f : En → List Vl → M En} (hc : X.calm = true) (h : PGs X es (tGts X.K own f)) (hn : (assignEach es X.env).length = n) (hst : (assignEach es X.env).findIdx? (·.1) = none) :
    PG X (.Tuple es k pos) (tGt X.K own fun e v => match v with | .tup vs => if vs.length = n then f e vs else fail | _ => fail) :=
  PG.con (pg_tup hc h hn hst) fun v σ H Q ⟨ι, s, e, w, r, env, rl, p⟩ => by
    cases rl with
    | @tup xs vs a t1 t2 =>
      dsimp only at p
      by_cases c : xs.length = n
      · rw [if_pos c] at p; exact ⟨a, vs, rfl, t1.seq, by rw [← t2.length]; exact c, ι, s, e, xs, r, env, t2, p⟩
      · rw [if_neg c] at p; exact False.elim p
    | _ => exact False.elim p
theorem gs_nil {f : En → List Vl → M En} (hf : ∀ e h, f e [] h = .ok e h) (hn : ∀ e v vs h, f e (v :: vs) h = .no) : PGs X [] (tGts X.K [] f) :=
  PGs.con pgs_nil fun v σ H Q ⟨ι, s, e, w, r, env, rl, p⟩ => by
    cases rl with
    | nil => rw [hf] at p; exact ⟨rfl, p.here r ⟨env, SameBut.refl _ _⟩⟩
    | cons a b => rw [hn] at p; exact False.elim p
theorem gs_cons {e1 : Expr} {es : List Expr} {o1 o2 : List Nat} {f1 : En → Vl → M En} {f2 : En → List Vl → M En} (h1 : PG X e1 (tGt X.K o1 f1)) (h2 : PGs X es (tGts X.K o2 f2)) (ns : noStar e1 = true) :
    PGs X (e1 :: es) (tGts X.K (o1 ++ o2) fun e vs => match vs with | v :: vs => bind (f1 e v) fun e1 => f2 e1 vs | [] => fail) :=
  PGs.con (pgs_cons h1 h2 (asg_of ns _ _)) fun vs σ H Q ⟨ι, s, e, ws, r, env, rl, p⟩ => by
    cases rl with
    | nil => exact False.elim p
    | @cons w v ws vs a b =>
      refine ⟨v, vs, rfl, ι, s, e, w, r, env, a, (p.seq0 (R := RG X.K o1 σ)).mono fun σ1 H1 ⟨e1, ι1, s1, st, r1, ⟨env1, sb⟩, p1⟩ => ?_⟩
      refine ⟨ι1, s1, e1, ws, r1, env1, b.step r st, ?_⟩
      cases z : f2 e1 ws s1 with
      | no => rw [z] at p1; exact p1
      | ex c v h => rw [z] at p1; exact p1
      | ok e2 s2 =>
        rw [z] at p1
        exact fun ι2 H2 σ2 st2 r2 ⟨env2, sb2⟩ => p1 ι2 H2 σ2 st2 r2 ⟨env2, sb.trans sb2⟩
theorem sub_asg {o i : Expr} (ns : noSlice i = true) (env : Env) (v : Value) : assign (.Subscript o i pos) env v = (do
    let ov ← holding [v] (eval o env)
    let iv ← holding [v, ov] (eval i env)
    standAt pos
    holding [v, ov, iv] (setItem ov iv v)
    release [v, ov, iv] []) := by
  cases i <;> first | rfl | cases ns
theorem g_sub {o i : Expr} {co ci : En → M Vl} (hu : X.A.units + 1 < cLine) (ho : PE X o (tE X.K NoW co)) (hi : PE X i (tE X.K NoW ci)) (ns : noSlice i = true) : PG X (.Subscript o i pos) (tGt X.K [] fun e v => bind (co e) fun x => bind (ci e) fun y => bind (setV x y v) fun _ => ret e) :=
  PG.con (pg_sub ho hi (o_set hu) (sub_asg ns X.env)) fun v σ H Q ⟨ι, s, e, w, r, env, rl, p⟩ =>
    ⟨ι, s, e, r, env, (p.seq (R := Rl X.K)).mono fun o H1 ⟨a, ι1, s1, st1, r1, x, p1⟩ =>
      ⟨ι1, s1, e, r1, env.step r st1, (p1.seq (R := Rl X.K)).mono fun i H2 ⟨b, ι2, s2, st2, r2, y, p2⟩ =>
        s_set (Q := fun _ H3 => Q σ H3) r2 (x.step r1 st2) y ((rl.step r st1).step r1 st2) ((p2.seq (R := RU)).mono fun _ H3 ⟨_, ι3, s3, st3, r3, _, p3⟩ => p3.ret r3 ⟨((env.step r st1).step r1 st2).step r2 st3, SameBut.refl _ _⟩)⟩⟩
/-! ### a call of a def -/
theorem callD_fill {fns : List Fn} {wf d g : Nat} {fn : Fn} {ws : List Vl} (e : fns[g]? = some fn) (h1 : ws.length ≤ fn.np) (h2 : fn.np ≤ ws.length + fn.dv.length) : callD fns wf d g (ws ++ fn.dv.drop (fn.dv.length - (fn.np - ws.length))) = callD fns wf d g ws := by
  cases d with
  | zero => rfl
  | succ d =>
    have hl : (ws ++ fn.dv.drop (fn.dv.length - (fn.np - ws.length))).length = fn.np := by
      rw [List.length_append, List.length_drop]; omega
    have h3 : fillF fn (ws ++ fn.dv.drop (fn.dv.length - (fn.np - ws.length))) = fillF fn ws := by
      unfold fillF
      rw [hl, Nat.sub_self, Nat.sub_zero, List.drop_length, List.append_nil]
    unfold callD
    rw [e]
    dsimp only
    rw [h3]
theorem e_call {p : Pgm} {cl : Nat → Addr} {d g np nd : Nat} {x : Str} {W : WX} {e1 : Expr} {es : List Expr} {cs : En → M (List Vl)} {n : Nat} {p' : Pos} (fi : FnI p cl d X g x np nd) (hr : Room d X.A) (tk : Takes X W) (hg : Gl X x) (hd : (x == ("__debug__" : Str)) = false)
    (l1 : n ≤ np) (l2 : np ≤ n + nd) (ln : ∀ e h ws h', cs e h = .ok ws h' → ws.length = n) (ha : PA X (e1 :: es) (tA X.K (XW cl W) cs)) (h1 : starEach (e1 :: es) X.env = (false, eval e1 X.env) :: starEach es X.env) (h2 : (backTo pos (starEach es X.env)).any (·.1) = false) :
    PE X (.Call (.Name x p') (e1 :: es) [] pos) (tE X.K (XW cl W) fun e => bind (cs e) fun vs => callD p.fns p.wf d g vs) := by
  obtain ⟨f, fd, ps, fn, dvs, hm, hk, hf, enp, end_, hdv, F, hb⟩ := fi.ex
  obtain ⟨ds, hb1, hb2⟩ := hb (nd - (np - n)) (by omega)
  refine PE.con (pe_callSD (E := WE W) F hr hg hm hk hb1 hb2 (fun σ => passAt tk σ) ha hd h1 h2) fun σ H Q q => ?_
  obtain ⟨ι, s, e, r, env, pp⟩ := q
  have pp : Post X.K (Rl X.K) (XW cl W σ) ι H Q (bind (cs e) (fun vs => callD p.fns p.wf d g vs) s) := pp
  refine ⟨ι, s, e, r, env, ?_⟩
  cases z : cs e s with
  | no => rw [bind_no z] at pp; exact pp
  | ex c v h => rw [bind_ex z] at pp; exact pp
  | ok ws s1 =>
    rw [bind_ok z] at pp
    have lw := ln _ _ _ _ z
    intro ι1 H1 vs st r1 x
    have xl := x.length
    have xd := hdv H1 ι1
    have xdl := xd.length
    refine ⟨by rw [List.length_append, List.length_drop]; omega, ι1, s1, ws ++ fn.dv.drop (nd - (np - n)), r1, x.append (xd.drop _), ?_⟩
    have e3 : fn.dv.drop (nd - (np - n)) = fn.dv.drop (fn.dv.length - (fn.np - ws.length)) := by rw [end_, enp, lw]
    rw [e3, callD_fill hf (by omega) (by omega)]
    exact pp.from st
end
/-! ### comprehensions -/
theorem wipe_len (σ : L2.St) (own : List Nat) : (wipe σ own).length = σ.length := wipe_length σ own
theorem wipe_get (σ : L2.St) (j : Nat) : ∀ own : List Nat, (wipe σ own)[j]? = if j ∈ own ∧ j < σ.length then some none else σ[j]?
  | [] => by simp [wipe]
  | i :: own => by
    have ih := wipe_get σ j own
    show ((wipe σ own).set i none)[j]? = _
    by_cases hj : i = j
    · subst hj
      by_cases hl : i < σ.length
      · rw [List.getElem?_set_self (by rw [wipe_len]; exact hl), if_pos ⟨by simp, hl⟩]
      · rw [List.getElem?_eq_none (by simp [wipe_len]; omega), if_neg (fun z => hl z.2), List.getElem?_eq_none (by omega)]
    · rw [List.getElem?_set_ne hj, ih]
      have : (j ∈ i :: own ∧ j < σ.length) ↔ (j ∈ own ∧ j < σ.length) := by
        constructor
        · rintro ⟨h1, h2⟩
          rcases List.mem_cons.mp h1 with z | z
          · exact absurd z.symm hj
          · exact ⟨z, h2⟩
        · rintro ⟨h1, h2⟩; exact ⟨List.mem_cons_of_mem _ h1, h2⟩
      by_cases c : j ∈ own ∧ j < σ.length
      · rw [if_pos c, if_pos (this.mpr c)]
      · rw [if_neg c, if_neg (fun z => c (this.mp z))]
theorem wipe_same {own o2 : List Nat} {σ σ2 : L2.St} (sb : SameBut o2 (wipe σ own) σ2) (hs : ∀ j ∈ o2, j ∈ own) : wipe σ2 own = wipe σ own := by
  refine List.ext_getElem? fun j => ?_
  have hl : σ2.length = σ.length := sb.1.trans (wipe_len _ _)
  rw [wipe_get, wipe_get, hl]
  by_cases c : j ∈ own ∧ j < σ.length
  · rw [if_pos c, if_pos c]
  · rw [if_neg c, if_neg c]
    by_cases c2 : j ∈ own
    · have : σ.length ≤ j := by
        apply Nat.le_of_not_lt; exact fun z => c ⟨c2, z⟩
      rw [List.getElem?_eq_none (by omega), List.getElem?_eq_none this]
    · rw [sb.2 j (fun z => c2 (hs j z)), wipe_get, if_neg c]
def bindN {α β : Type} (m : M α) (f : α → M β) : M β := fun h => match m h with
  | .ok a h' => f a h'
  | _ => .no
theorem Post.seqB {K : PySem.W.Frag} {ι1 ι : List Addr} {H1 H : Hp} {h : SH} {α β α' β' : Type} {R : Hp → List Addr → α → β → Prop} {R' : Hp → List Addr → α' → β' → Prop} {Wx : Wh} {Q' : β' → Hp → Prop} {m : M α} {f : α → M α'} (p : Post K R' Wx ι1 H1 Q' (bindN m f h)) :
    Post K R F0 ι H (fun b H2 => ∃ a ι2 h2, Step ι H ι2 H2 ∧ Rep K H2 ι2 h2 ∧ R H2 ι2 a b ∧ Post K R' Wx ι1 H1 Q' (f a h2)) (m h) := by
  unfold bindN at p
  cases e : m h with
  | ok a h1 => rw [e] at p; exact fun ι2 H2 b s r x => ⟨a, ι2, h1, s, r, x, p⟩
  | ex c w h1 => rw [e] at p; exact False.elim p
  | no => rw [e] at p; exact p
theorem loopC_eq (src : Src) (step : Vl → M (Option Vl)) (n k : Nat) (acc : List Vl) (h : SH) : loopC src step (n + 1) k acc h = match itemS h k src with
    | none => .no
    | some none => alloc (.lst acc) h
    | some (some x) => bindN (step x) (fun o => match o with
      | none => loopC src step n (k + 1) acc
      | some y => if acc.length < lim then loopC src step n (k + 1) (acc ++ [y]) else fail) h := by
  show (match itemS h k src with | none => _ | some none => _ | some (some x) => _) = _
  cases itemS h k src with
  | none => rfl
  | some o => cases o with
    | none => rfl
    | some x =>
      unfold bindN
      dsimp only
      cases step x h with
      | ok o h' => cases o with
        | none => rfl
        | some y =>
          dsimp only
          by_cases c : acc.length < lim
          · rw [if_pos c, if_pos c]
          · rw [if_neg c, if_neg c]; rfl
      | ex c w h' => rfl
      | no => rfl
section
variable {K : PySem.W.Frag} {H : Hp} {ι ι' : List Addr} {h : SH}
mutual
theorem Rl.pre (p : ι <+: ι') : ∀ {w : Vl} {v : V}, Rl K H ι w v → Rl K H ι' w v
  | _, _, .non => .non
  | _, _, .bl b => .bl b
  | _, _, .int i => .int i
  | _, _, .str x => .str x
  | _, _, .tup a b => .tup a (RlA.pre p b)
  | _, _, .rol a b => .rol a (RlA.pre p b)
  | _, _, .ref a => .ref (get_prefix p a)
  | _, _, .ty t => .ty t
theorem RlA.pre (p : ι <+: ι') : ∀ {w : List Vl} {v : List V}, RlA K H ι w v → RlA K H ι' w v
  | _, _, .nil => .nil
  | _, _, .cons a b => .cons (Rl.pre p a) (RlA.pre p b)
end
theorem KvA.pre (p : ι <+: ι') {w : List (Key × Vl)} {v : List (Key × V)} (q : KvA K H ι w v) : KvA K H ι' w v := by
  induction q with
  | nil => exact .nil
  | cons a _ ih => exact .cons (a.pre p) ih
theorem TuL.updL {p D : Addr} {vs l l' : List V} (e : H D = some (.lst l)) (q : TuL K H p vs) : TuL K (upd H D (.lst l')) p vs := by
  rcases q with q | q
  · refine .inl ?_
    have : p ≠ D := fun z => by rw [z, e] at q; cases q
    rw [upd_ne this]; exact q
  · exact .inr q
theorem RoL.updL {p D : Addr} {vs l l' : List V} (e : H D = some (.lst l)) (q : RoL K H p vs) : RoL K (upd H D (.lst l')) p vs := by
  rcases q with ⟨o, q⟩ | q
  · refine .inl ⟨o, ?_⟩
    have : p ≠ D := fun z => by rw [z, e] at q; cases q
    rw [upd_ne this]; exact q
  · exact .inr q
mutual
theorem Rl.updL {D : Addr} {l l' : List V} (e : H D = some (.lst l)) : ∀ {w : Vl} {v : V}, Rl K H ι w v → Rl K (upd H D (.lst l')) ι w v
  | _, _, .non => .non
  | _, _, .bl b => .bl b
  | _, _, .int i => .int i
  | _, _, .str x => .str x
  | _, _, .tup a b => .tup (a.updL e) (RlA.updL e b)
  | _, _, .rol a b => .rol (a.updL e) (RlA.updL e b)
  | _, _, .ref a => .ref a
  | _, _, .ty t => .ty t
theorem RlA.updL {D : Addr} {l l' : List V} (e : H D = some (.lst l)) : ∀ {w : List Vl} {v : List V}, RlA K H ι w v → RlA K (upd H D (.lst l')) ι w v
  | _, _, .nil => .nil
  | _, _, .cons a b => .cons (Rl.updL e a) (RlA.updL e b)
end
theorem KvA.updL {D : Addr} {l l' : List V} (e : H D = some (.lst l)) {w : List (Key × Vl)} {v : List (Key × V)} (q : KvA K H ι w v) : KvA K (upd H D (.lst l')) ι w v := by
  induction q with
  | nil => exact .nil
  | cons a _ ih => exact .cons (a.updL e) ih
theorem SrcJ.updL {D : Addr} {l l' : List V} {src : Src} {J : L2.It} (e : H D = some (.lst l)) (q : SrcJ K H ι src J) : SrcJ K (upd H D (.lst l')) ι src J := by
  cases q with
  | cell a => exact .cell a
  | toldT a b => exact .toldT (a.updL e) (b.updL e)
  | toldL a b => exact .toldL (a.updL e) (b.updL e)
  | toldR => exact .toldR
  | enum a => exact .enum a
  | enumT a b => exact .enumT (a.updL e) (b.updL e)
  | zip a b => exact .zip (a.updL e) (b.updL e)
  | zipT a b c d => exact .zipT (a.updL e) (b.updL e) (c.updL e) (d.updL e)
theorem EnvR.updL {D : Addr} {l l' : List V} {e0 : En} {σ : L2.St} (e : H D = some (.lst l)) (q : EnvR K H ι e0 σ) : EnvR K (upd H D (.lst l')) ι e0 σ :=
  ⟨q.len, fun i w z => let ⟨v, a, b⟩ := q.at_ i w z; ⟨v, a, b.updL e⟩⟩
theorem Rep.updL (r : Rep K H ι h) {D : Addr} {l l' : List V} (e : H D = some (.lst l)) (nD : D ∉ ι) : Rep K (upd H D (.lst l')) ι h := by
  refine ⟨r.len, r.nd, fun i o eo => ?_⟩
  obtain ⟨a, ea, oa⟩ := r.ok i o eo
  have ap : a ≠ D := fun z => nD (z ▸ List.mem_of_getElem? ea)
  refine ⟨a, ea, ?_⟩
  cases o with
  | lst xs => obtain ⟨vs, e1, e2⟩ := oa; exact ⟨vs, by rw [upd_ne ap]; exact e1, e2.updL e⟩
  | dct xs => obtain ⟨vs, e1, e2⟩ := oa; exact ⟨vs, by rw [upd_ne ap]; exact e1, e2.updL e⟩
theorem Rep.adopt (r : Rep K H ι h) {D : Addr} {l : List V} {acc : List Vl} (e : H D = some (.lst l)) (nD : D ∉ ι) (q : RlA K H ι acc l) : Rep K H (ι ++ [D]) (h ++ [.lst acc]) := by
  have pp : ι <+: ι ++ [D] := List.prefix_append _ _
  refine ⟨by simp [r.len], ?_, fun i u eu => ?_⟩
  · rw [List.nodup_append]
    refine ⟨r.nd, by simp, fun a ha b hb z => ?_⟩
    rw [List.mem_singleton.mp hb] at z
    exact nD (z ▸ ha)
  · by_cases hi : i < h.length
    · rw [List.getElem?_append_left hi] at eu
      obtain ⟨a, ea, oa⟩ := r.ok i u eu
      refine ⟨a, get_prefix pp ea, ?_⟩
      cases u with
      | lst xs => obtain ⟨vs, e1, e2⟩ := oa; exact ⟨vs, e1, e2.pre pp⟩
      | dct xs => obtain ⟨vs, e1, e2⟩ := oa; exact ⟨vs, e1, e2.pre pp⟩
    · rw [List.getElem?_append_right (by omega)] at eu
      have h0 : i - h.length = 0 := by
        have := (List.getElem?_eq_some_iff.mp eu).1
        simp at this; omega
      rw [h0] at eu
      simp at eu; subst eu
      refine ⟨D, ?_, l, e, q.pre pp⟩
      have : i = ι.length := by rw [r.len]; omega
      rw [this]; simp
end
/-- what a turn makes: something, or nothing -/
def RT (K : PySem.W.Frag) : Hp → List Addr → Option Vl → Option V → Prop := fun H ι a b => match a, b with
  | none, none => True
  | some w, some v => Rl K H ι w v
  | _, _ => False
theorem lc_read {K : PySem.W.Frag} {Wx : L2.St → Wh} {own o2 : List Nat} {ci : En → M Src} {cg : En → Vl → M En} {cc : En → M Bool} {ce : En → M Vl} {σ : L2.St} {H : Hp} {Q : VK} (hs : ∀ j ∈ o2, j ∈ own)
    (q : tE K Wx (fun e => bind (ci e) fun src => fun h => loopC src (fun x => bind (cg (wipeE e own) x) fun σ1 => bind (cc σ1) fun r => if r = true then bind (ce σ1) fun y => ret (some y) else ret none) (sizeS h src + 1) 0 [] h) σ H Q) :
    tLc (tI K Wx ci) (tGt K o2 cg) (tT K NoW cc) (tE K NoW ce) own σ H Q :=
  g_mono (g_seq (R := SrcJ K) q) fun J H1 ⟨src, ι1, h1, e, r1, env, sj, p⟩ => by
    intro D hD
    generalize sizeS h1 src + 1 = m0 at p
    generalize hst : (fun x => bind (cg (wipeE e own) x) fun σ1 => bind (cc σ1) fun r => if r = true then bind (ce σ1) fun y => ret (some y) else ret none) = step at p
    refine ⟨fun i m H2 => ∃ ι h acc vacc, Step ι1 H1 ι H2 ∧ Rep K H2 ι h ∧ D ∉ ι ∧ H2 D = some (.lst vacc) ∧ RlA K H2 ι acc vacc ∧ EnvR K H2 ι e σ ∧ SrcJ K H2 ι src J ∧
      Post K (Rl K) (Wx σ) ι1 H1 Q (loopC src step m i acc h), ⟨m0, ?_⟩, ?_⟩
    · obtain ⟨st, r2⟩ := r1.aside (o := .lst []) hD
      exact ⟨ι1, h1, [], [], st, r2, r1.fresh hD, upd_same, .nil, env.step r1 st, sj.step r1 st, p⟩
    · rintro i m H2 ⟨ι, h, acc, vacc, st, r, nD, eD, ra, env2, sj2, p⟩
      cases m with
      | zero => exact False.elim p
      | succ m =>
        rw [loopC_eq] at p
        cases ei : itemS h i src with
        | none => rw [ei] at p; exact False.elim p
        | some o =>
          rw [ei] at p
          cases o with
          | none =>
            refine .inl ⟨sj2.stop r ei, ?_⟩
            have rep3 := r.adopt eD nD ra
            have st3 : Step ι1 H1 (ι ++ [D]) H2 := ⟨st.pre.trans (List.prefix_append _ _), st.keep, fun a ma na => by
              rcases List.mem_append.mp ma with z | z
              · exact st.new a z na
              · rw [List.mem_singleton.mp z]; exact hD⟩
            exact p (ι ++ [D]) H2 (.ref D) st3 rep3 (.ref (by rw [← r.len]; simp))
          | some w =>
            dsimp only at p
            obtain ⟨go, yld⟩ := sj2.go r ei
            refine .inr ⟨go, fun H3 => ∃ m', m' < m + 1 ∧ ∃ ι h acc vacc, Step ι1 H1 ι H3 ∧ Rep K H3 ι h ∧ D ∉ ι ∧ H3 D = some (.lst vacc) ∧ RlA K H3 ι acc vacc ∧ EnvR K H3 ι e σ ∧ SrcJ K H3 ι src J ∧
              Post K (Rl K) (Wx σ) ι1 H1 Q (loopC src step m' (i + 1) acc h), fun H3 z => z, fun x H3 y => ?_⟩
            obtain ⟨st3, r3, rw3⟩ := yld x H3 y
            have pb := Post.seqB (R := RT K) (ι := ι) (H := H3) p
            rw [← hst] at pb
            rw [hst] at pb
            have pb2 : Post K (RT K) F0 ι H3 (fun b H2 => ∃ a ι2 h2, Step ι H3 ι2 H2 ∧ Rep K H2 ι2 h2 ∧ RT K H2 ι2 a b ∧ Post K (Rl K) (Wx σ) ι1 H1 Q ((match a with | none => loopC src step m (i + 1) acc | some y => if acc.length < lim then loopC src step m (i + 1) (acc ++ [y]) else fail) h2)) (bind (cg (wipeE e own) w) (fun σ1 => bind (cc σ1) fun r => if r = true then bind (ce σ1) fun y => ret (some y) else ret none) h) := by
              have := congrFun hst w
              rw [show bind (cg (wipeE e own) w) (fun σ1 => bind (cc σ1) fun r => if r = true then bind (ce σ1) fun y => ret (some y) else ret none) = step w from this]
              exact pb
            -- what stands at D behind a step
            have keepD : ∀ {ι7 H7}, Step ι H3 ι7 H7 → D ∉ ι7 ∧ H7 D = some (.lst vacc) := fun {ι7 H7} s7 => by
              have e3 : H3 D = some (.lst vacc) := st3.keep D _ eD nD
              refine ⟨fun z => ?_, s7.keep D _ e3 nD⟩
              have := s7.new D z nD
              rw [e3] at this; cases this
            refine ⟨ι, h, wipeE e own, w, r3, (env2.step r st3).wipe own, rw3, (pb2.seq0 (R := RG K o2 (wipe σ own))).mono fun σ2 H4 ⟨e2, ι2, h2, st2, r2, ⟨env4, sb⟩, p3⟩ => ⟨wipe_same sb hs, ?_⟩⟩
            refine ⟨ι2, h2, e2, r2, env4, (p3.seq0 (R := RB)).mono fun b H5 ⟨b', ι5, h5, st5, r5, eb, p5⟩ => ?_⟩
            obtain rfl : b' = b := eb
            cases b' with
            | false =>
              refine iteF ?_
              obtain ⟨o7, ι7, h7, s7, r7, rt, p7⟩ := p5.ret r5 (b := none) trivial
              cases o7 with
              | some z => exact False.elim rt
              | none =>
                obtain ⟨nD7, eD7⟩ := keepD s7
                have s23 := st3.trans s7
                exact ⟨m, Nat.lt_succ_self m, ι7, h7, acc, vacc, st.trans s23, r7, nD7, eD7, (ra.step r s23), env2.step r s23, sj2.step r s23, p7⟩
            | true =>
              refine iteT ⟨ι5, h5, e2, r5, env4.step r2 st5, (p5.seq0 (R := Rl K)).mono fun y6 H6 ⟨w6, ι6, h6, st6, r6, x6, p6⟩ => ?_⟩
              obtain ⟨o7, ι7, h7, s7, r7, rt, p7⟩ := p6.ret r6 (b := some y6) x6
              cases o7 with
              | none => exact False.elim rt
              | some w7 =>
                obtain ⟨nD7, eD7⟩ := keepD s7
                have s23 := st3.trans s7
                dsimp only at p7
                by_cases c : acc.length < lim
                · rw [if_pos c] at p7
                  have ra7 := ra.step r s23
                  refine ⟨vacc, eD7, by rw [← ra.length]; exact lim_lt c, m, Nat.lt_succ_self m, ι7, h7, acc ++ [w7], vacc ++ [y6], ?_, r7.updL eD7 nD7, nD7, upd_same, (ra7.updL eD7).append (.cons (Rl.updL eD7 rt) .nil), (env2.step r s23).updL eD7, (sj2.step r s23).updL eD7, p7⟩
                  have s17 := st.trans s23
                  refine ⟨s17.pre, fun a o ea na => ?_, s17.new⟩
                  have : a ≠ D := fun z => by rw [z, hD] at ea; cases ea
                  rw [upd_ne this]
                  exact s17.keep a o ea na
                · rw [if_neg c] at p7; exact False.elim p7
end AM

namespace AM
open PySem L2 PyProof.Rows
section
variable {p : Pgm} {cl : Nat → Addr} {d : Nat} {C : Ct} {X : Cx} {W : WX}
theorem XOk.gl (o : XOk p cl d C X W) {x : Str} (h : GlD C.sc x) : Gl X x := by
  show X.env.scope.names.lookup x = some .globalImplicit
  rw [o.sc]; exact h
theorem XOk.vis (o : XOk p cl d C X W) {x : Str} (h : Vis C.sc x) : Vis X.env.scope x := by rw [o.sc]; exact h
theorem XOk.nn (o : XOk p cl d C X W) {i : Nat} {x : Str} (h : C.N[i]? = some x) : X.N[i]? = some x := by rw [o.N]; exact h
theorem XOk.nodup (o : XOk p cl d C X W) : X.N.Nodup := by rw [o.N]; exact o.nd
theorem XOk.u64 (o : XOk p cl d C X W) : X.A.units + 64 < cLine := o.room.units
theorem XOk.u65 (o : XOk p cl d C X W) : X.A.units + 65 < cLine := by have := o.room.un; omega
theorem XOk.u1 (o : XOk p cl d C X W) : X.A.units + 1 < cLine := hu_of o.room
theorem XOk.store (o : XOk p cl d C X W) {x : Str} (h : StoreD C x) : Loc X.env.scope x ∧ (X.fn x = true ∨ X.env.scope.names.lookup x = some .local) := by
  rw [o.sc]
  rcases h with h | ⟨h, g⟩
  · exact ⟨.inl h, .inr h⟩
  · refine ⟨.inr h, .inl ?_⟩
    cases e : C.blk with
    | none => rw [o.fn0 e]
    | some s =>
      rw [o.fn1 s e]
      show (s.names.lookup x == some .cell) = true
      rw [g s e]; rfl
theorem XOk.wish (o : XOk p cl d C X W) : XOk p cl d C X (fun _ _ _ _ => False) := ⟨o.N, o.sc, o.nd, o.calm, o.fn0, o.fn1, o.room, takes0, o.free, o.fns⟩
theorem XOk.block (o : XOk p cl d C X W) (s : Shared) (H : Hp) (sc : Scope) (cells : List (Str × Addr)) (a : Addr) (fp : List Addr) : XOk p cl d (C.blkC sc) (X.blk s H sc (compEnvC sc cells a X.env) fp) (fun _ _ _ _ => False) where
  N := o.N
  sc := by
    show relS sc X.env.scope = relS sc C.sc
    rw [o.sc]
  nd := o.nd
  calm := o.calm
  fn0 := fun e => by cases e
  fn1 := fun s' e => by
    have : s' = sc := (Option.some.inj e).symm
    subst this
    rfl
  room := o.room
  tk := takes0
  free := o.free
  fns := fun g x np nd e => ⟨(o.fns g x np nd e).ex⟩
end
theorem evs_len (call : Nat → List Vl → M Vl) (σ : En) : ∀ (cs : List E) (h : SH) (ws : List Vl) (h' : SH), evs call σ cs h = .ok ws h' → ws.length = cs.length
  | [], h, ws, h', e => by
    rw [evs] at e
    cases e; rfl
  | c :: cs, h, ws, h', e => by
    rw [evs] at e
    cases e1 : ev call σ c h with
    | no => rw [bind_no e1] at e; cases e
    | ex a b s => rw [bind_ex e1] at e; cases e
    | ok v h1 =>
      rw [bind_ok e1] at e
      cases e2 : evs call σ cs h1 with
      | no => rw [bind_no e2] at e; cases e
      | ex a b s => rw [bind_ex e2] at e; cases e
      | ok vs h2 =>
        rw [bind_ok e2] at e
        cases e
        rw [List.length_cons, List.length_cons, evs_len call σ cs h1 vs h' e2]
theorem TrEs.len {C : Ct} : ∀ {es : List Expr} {cs : List E}, TrEs C es cs → es.length = cs.length
  | _, _, .nil => rfl
  | _, _, .cons _ b => by rw [List.length_cons, List.length_cons, b.len]
section
variable {p : Pgm} {cl : Nat → Addr} {d : Nat}
theorem to_no {X : Cx} {e : Expr} {c : En → M Vl} (h : PE X e (tE X.K (XW cl fun _ _ _ _ => False) c)) : PE X e (tE X.K NoW c) :=
  PE.con h fun σ H Q ⟨ι, s, e, r, env, q⟩ => ⟨ι, s, e, r, env, q.wish fun _ _ _ z => False.elim z⟩
theorem to_noT {X : Cx} {e : Expr} {c : En → M Bool} (h : PT X e (tT X.K (XW cl fun _ _ _ _ => False) c)) : PT X e (tT X.K NoW c) :=
  PT.con h fun σ H Q ⟨ι, s, e, r, env, q⟩ => ⟨ι, s, e, r, env, q.wish fun _ _ _ z => False.elim z⟩
theorem PTs.con {X : Cx} {e : List Expr} {t t' : TT} (p : PTs X e t) (f : ∀ σ H Q, t' σ H Q → t σ H Q) : PTs X e t' := ⟨fun pins s σ H Q I h => p.run pins s σ H Q I (f _ _ _ h)⟩
theorem to_noC {X : Cx} {e : List Expr} {c : En → M Bool} (h : PTs X e (tT X.K (XW cl fun _ _ _ _ => False) c)) : PTs X e (tT X.K NoW c) :=
  PTs.con h fun σ H Q ⟨ι, s, e, r, env, q⟩ => ⟨ι, s, e, r, env, q.wish fun _ _ _ z => False.elim z⟩
mutual
theorem sE : ∀ {C : Ct} {e : Expr} {c : E}, TrE C e c → ∀ {X : Cx} {W : WX}, XOk p cl d C X W → PE X e (tE X.K (XW cl W) fun σ => ev (callD (Pgm.fns p) (Pgm.wf p) d) σ c)
  | _, _, _, .var h1 h2 h3, X, W, o => e_var (o.nn h1) (o.vis h2) h3
  | _, _, _, .non, X, W, o => e_c pe_non fun _ _ => .non
  | _, _, _, .bl, X, W, o => e_c pe_bl fun _ _ => .bl _
  | _, _, _, .int, X, W, o => e_c pe_int fun _ _ => .int _
  | _, _, _, .str, X, W, o => e_c pe_str fun _ _ => .str _
  | _, _, _, .ty (t := t) h1 h2, X, W, o => e_c (v := .ty t.name) (pe_bltn (o.gl h1) (o.free _ h2) (boot_ty t) rfl (name_ty t).1 (name_ty t).2) fun _ _ => .ty _
  | _, _, _, .tup h, X, W, o => e_tup (sEs h o)
  | _, _, _, .lst h, X, W, o => e_lst (sEs h o)
  | _, _, _, .dct0, X, W, o => e_dct
  | _, _, _, .bin h1 h2, X, W, o => e_bin _ (sE h1 o) (sE h2 o)
  | _, _, _, .neg h, X, W, o => e_neg (sE h o)
  | _, _, _, .not h, X, W, o => e_not (sE h o)
  | _, _, _, .one h, X, W, o => pe_one (sE h o)
  | _, _, _, .and h1 h2, X, W, o => e_and (sE h1 o) (sE h2 o)
  | _, _, _, .or h1 h2, X, W, o => e_or (sE h1 o) (sE h2 o)
  | _, _, _, .cmp h1 h2 h3, X, W, o => e_cmp o.u64 _ (sE h1 o) (sE h2 o) h3
  | _, _, _, .cmp2 h1 h2 h3 h4, X, W, o => e_cmp2 o.u64 _ _ (sE h1 o) (sE h2 o) (sE h3 o) h4
  | _, _, _, .isN h, X, W, o => e_isN (sE h o)
  | _, _, _, .ntN h, X, W, o => e_ntN (sE h o)
  | _, _, _, .isB h, X, W, o => e_isB (sE h o)
  | _, _, _, .ntB h, X, W, o => e_ntB (sE h o)
  | _, _, _, .ife h1 h2 h3, X, W, o => e_ife (sT h1 o) (sE h2 o) (sE h3 o)
  | _, _, _, .call (cs := cs) h1 h2 h3 h4 h5 h6, X, W, o => by
    have ha := sEs h6 o
    cases h6 with
    | cons a b => exact e_call (o.fns _ _ _ _ h1) o.room o.tk (o.gl h2) (okA h3) h4 h5 (fun e h ws h' z => evs_len _ _ _ _ _ _ z) ha (star_of a.noStar _ _) (stars_of b _ _)
  | _, _, _, .bi h1 h2 h3, X, W, o => by
    have ha := sEs h3 o
    cases h3 with
    | cons a b => exact e_bi (o.gl h1) (o.free _ h2) o.calm ha (star_of a.noStar _ _) (stars_of b _ _)
  | _, _, _, .app h1 h2 h3 h4, X, W, o => e_app (sE h1 o) (sE h2 o) h3 h2.noStar h4
  | _, _, _, .cnt h1 h2 h3 h4, X, W, o => e_cnt o.u65 (sE h1 o) (sE h2 o) h3 h2.noStar h4
  | _, _, _, .bits h1 h2 h3, X, W, o => e_bits (sE h1 o) h2 h3
  | _, _, _, .idx h1 h2 h3, X, W, o => e_idx o.u1 (sE h1 o) (sE h2 o) h3
  | _, _, _, .slc h1 h2 h3, X, W, o => e_slc (sE h1 o) (sO h2 o) (sO h3 o)
  | _, _, _, .lc (s := s) (own := own) (g := g) (it := it) (c := c) (e := e) h1 h0 h2 h3 h4 h5 h6, X, W, o =>
    PE.con (pe_lc o.calm o.nodup (sI h2 o) (blkOk_by (by rw [o.N, o.sc]; exact h1)) (fun s' H' a cells fp => sG h3 (o.block s' H' s cells a fp)) (fun s' H' a cells fp => to_noC (cl := cl) (sC h4 (o.block s' H' s cells a fp))) (fun s' H' a cells fp => to_no (cl := cl) (sE h5 (o.block s' H' s cells a fp))) (fun x => nofold h6 _ x))
      fun σ H Q q => lc_read (ci := fun σ => evi (callD (Pgm.fns p) (Pgm.wf p) d) σ it) (cg := fun σ v => evg (callD (Pgm.fns p) (Pgm.wf p) d) σ g v) (cc := fun σ => evc (callD (Pgm.fns p) (Pgm.wf p) d) σ c) (ce := fun σ => ev (callD (Pgm.fns p) (Pgm.wf p) d) σ e) (fun j hj => by
        have := List.all_eq_true.mp h0 j hj
        simpa using this) q
  | _, _, _, .lrng h1 h2 h3 h4 h5 h6, X, W, o => e_lrng (o.gl h1) (o.free _ h2) (o.gl h3) (o.free _ h4) o.calm (sE h5 o) (sE h6 o) h5.noStar h6.noStar
theorem sEs : ∀ {C : Ct} {e : List Expr} {c : List E}, TrEs C e c → ∀ {X : Cx} {W : WX}, XOk p cl d C X W → PA X e (tA X.K (XW cl W) fun σ => evs (callD (Pgm.fns p) (Pgm.wf p) d) σ c)
  | _, _, _, .nil, X, W, o => a_nil
  | _, _, _, .cons h1 h2, X, W, o => a_cons (sE h1 o) (sEs h2 o) h1.noStar
theorem sO : ∀ {C : Ct} {e : Option Expr} {c : Option E}, TrO C e c → ∀ {X : Cx} {W : WX}, XOk p cl d C X W → PO X e (tO X.K (XW cl W) fun σ => evo (callD (Pgm.fns p) (Pgm.wf p) d) σ c)
  | _, _, _, .none, X, W, o => o_none
  | _, _, _, .some h, X, W, o => o_some (sE h o)
theorem sC : ∀ {C : Ct} {e : List Expr} {c : Option E}, TrC C e c → ∀ {X : Cx} {W : WX}, XOk p cl d C X W → PTs X e (tT X.K (XW cl W) fun σ => evc (callD (Pgm.fns p) (Pgm.wf p) d) σ c)
  | _, _, _, .none, X, W, o => PTs.con pts_nil fun σ H Q ⟨ι, s, e, r, env, q⟩ => q.ret r rfl
  | _, _, _, .some h, X, W, o => pts_one (sT h o)
theorem sT : ∀ {C : Ct} {e : Expr} {c : E}, TrT C e c → ∀ {X : Cx} {W : WX}, XOk p cl d C X W → PT X e (tT X.K (XW cl W) fun σ => evt (callD (Pgm.fns p) (Pgm.wf p) d) σ c)
  | _, _, _, .not h, X, W, o => t_not (sT h o)
  | _, _, _, .bool h, X, W, o => (sB h o _).pt
  | _, _, _, .cmp h1 h2 h3, X, W, o => t_cmp o.u64 _ (sE h1 o) (sE h2 o) h3
  | _, _, _, .isN h, X, W, o => t_isN (sE h o)
  | _, _, _, .ntN h, X, W, o => t_ntN (sE h o)
  | _, _, _, .isB h, X, W, o => t_isB (sE h o)
  | _, _, _, .ntB h, X, W, o => t_ntB (sE h o)
  | _, _, _, .cmp2 h1 h2 h3 h4, X, W, o => t_cmp2 o.u64 _ _ (sE h1 o) (sE h2 o) (sE h3 o) h4
  | _, _, _, .var h1 h2, X, W, o => t_val (sE h1 o) h2
  | _, _, _, .call h1 h2, X, W, o => t_val (sE h1 o) h2
  | _, _, _, .bi h1 h2, X, W, o => t_val (sE h1 o) h2
  | _, _, _, .idx h1 h2, X, W, o => t_val (sE h1 o) h2
theorem sB : ∀ {C : Ct} {op : BoolOp} {es : List Expr} {c : E}, TrB C op es c → ∀ {X : Cx} {W : WX}, XOk p cl d C X W → ∀ pos : Pos, PW X (.BoolOp op es pos) (tT X.K (XW cl W) fun σ => evt (callD (Pgm.fns p) (Pgm.wf p) d) σ c)
  | _, _, _, _, .one h, X, W, o, pos => w_one (sT h o)
  | _, _, _, _, .and h1 h2, X, W, o, pos => w_and (sT h1 o) (sB h2 o _)
  | _, _, _, _, .or h1 h2, X, W, o, pos => w_or (sT h1 o) (sB h2 o _)
theorem sI : ∀ {C : Ct} {tg e : Expr} {c : It}, TrI C tg e c → ∀ {X : Cx} {W : WX}, XOk p cl d C X W → PI X tg e (tI X.K (XW cl W) fun σ => evi (callD (Pgm.fns p) (Pgm.wf p) d) σ c)
  | _, _, _, _, .seq h, X, W, o => i_seq (sE h o)
  | _, _, _, _, .rng1 h1 h2 h3, X, W, o => i_rng1 (o.gl h1) (o.free _ h2) (sE h3 o) h3.noStar
  | _, _, _, _, .rng2 h1 h2 h3 h4, X, W, o => i_rng2 (o.gl h1) (o.free _ h2) (sE h3 o) (sE h4 o) h3.noStar h4.noStar
  | _, _, _, _, .enum h1 h2 h3, X, W, o => i_enum (o.gl h1) (o.free _ h2) (sE h3 o) h3.noStar
  | _, _, _, _, .zip h1 h2 h3 h4, X, W, o => i_zip (o.gl h1) (o.free _ h2) (sE h3 o) (sE h4 o) h3.noStar h4.noStar
theorem sG : ∀ {C : Ct} {e : Expr} {t : Tg}, TrG C e t → ∀ {X : Cx} {W : WX}, XOk p cl d C X W → PG X e (tGt X.K (tgIx t) fun σ v => evg (callD (Pgm.fns p) (Pgm.wf p) d) σ t v)
  | _, _, _, .nm h1 h2, X, W, o => g_nm o.nodup (o.nn h1) (o.store h2).1 (o.store h2).2
  | _, _, _, .tup h, X, W, o => g_tup o.calm (sGs h o) (asg_len h _).1 (asg_len h _).2
  | _, _, _, .sub h1 h2 h3, X, W, o => g_sub o.u1 (to_no (cl := cl) (sE h1 o.wish)) (to_no (cl := cl) (sE h2 o.wish)) h3
theorem sGs : ∀ {C : Ct} {e : List Expr} {t : List Tg}, TrGs C e t → ∀ {X : Cx} {W : WX}, XOk p cl d C X W → PGs X e (tGts X.K (tgIxs t) fun σ v => evgs (callD (Pgm.fns p) (Pgm.wf p) d) σ t v)
  | _, _, _, .nil, X, W, o => gs_nil (fun _ _ => rfl) (fun _ _ _ _ => rfl)
  | _, _, _, .cons h1 h2 h3, X, W, o => gs_cons (sG h1 o) (sGs h2 o) h3
end
end
end AM

namespace AM
open PySem L2 PyProof.Rows
/-! ### in place -/
def rIad : R2 := fun x y H Q => rI0 (fun i j => .int (i + j)) x y H Q ∨ (∃ i j, x = .str i ∧ y = .str j ∧ i.length + j.length ≤ sizeLine ∧ Q (.str (i ++ j)) H) ∨ rExt2 x y H Q
def ibopR : Bop → R2
  | .add => rIad
  | .sub => rI0 fun i j => .int (i - j)
  | _ => fun _ _ _ _ => False
theorem o_ibop {X : Cx} (op : Bop) : OpR X (inplaceOp op.op) (ibopR op) := by
  cases op
  · exact iop_add.or (iop_add_str.or iop_ext)
  · exact iop_sub
  all_goals exact fun _ _ _ _ _ _ _ _ _ _ _ _ z => False.elim z
theorem b_iad {K : PySem.W.Frag} : BinOk K rIad (ibopV .add) := fun Wx ι H h a b x y Q r ha hb p => by
  cases ha with
  | int i => cases hb with
    | int j => exact .inl ⟨i, j, rfl, rfl, p.ret r (.int _)⟩
    | _ => exact False.elim p
  | str s => cases hb with
    | str u =>
      refine .inr (.inl ⟨s, u, rfl, rfl, ?_⟩)
      have p : Post K (Rl K) Wx ι H Q (addV (.str s) (.str u) h) := p
      unfold addV at p
      dsimp only at p
      split at p
      · rename_i q; exact ⟨lim_line q, p.ret r (.str _)⟩
      · exact False.elim p
    | _ => exact False.elim p
  | @ref i a ea => cases hb with
    | @ref j b eb =>
      unfold ibopV at p
      dsimp only at p
      split at p
      · rename_i xs ys e1 e2
        split at p
        · rename_i q
          obtain ⟨vs, q1, q2⟩ := r.lst ea e1
          obtain ⟨ws, q3, q4⟩ := r.lst eb e2
          obtain ⟨st, r2⟩ := put_lst r ea (q2.append q4)
          exact .inr (.inr ⟨_, _, vs, ws, rfl, rfl, q1, q3, by rw [← q2.length, ← q4.length]; exact lim_line q, Post.to p st r2 (.ref ea)⟩)
        · exact False.elim p
      · exact False.elim p
    | _ => exact False.elim p
  | _ => exact False.elim p
theorem b_ibop {K : PySem.W.Frag} (op : Bop) : BinOk K (ibopR op) (ibopV op) := by
  cases op
  · exact b_iad
  · exact fun Wx ι H h a b x y Q r ha hb p => b_sub Wx ι H h a b x y Q r ha hb (by cases a <;> cases b <;> exact p)
  all_goals exact fun Wx ι H h a b x y Q r ha hb p => (by cases a <;> cases b <;> exact False.elim p)
/-! ### statements' codes -/
def noTupE : Expr → Bool
  | .Tuple _ _ _ => false
  | .List _ _ => false
  | _ => true
def noNameE : Expr → Bool
  | .Name _ _ => false
  | _ => true
/-- a local's name -/
def locE (sc : Scope) : Expr → Bool
  | .Name x _ => decide (sc.names.lookup x = some .local)
  | _ => false
mutual
inductive TrS : Ct → Stmt → S → Prop
  | asg {C t e g c pos} : TrG C t g → TrE C e c → (noTupE t || noTupE e) = true → (noComp e || noNameE t) = true → TrS C (.Assign [t] e pos) (.asg g c)
  | asg4 {C ts k p vs k2 p2 g c pos} : TrG C (.Tuple ts k p) g → TrE C (.Tuple vs k2 p2) c → 4 ≤ ts.length → TrS C (.Assign [.Tuple ts k p] (.Tuple vs k2 p2) pos) (.asg g c)
  | asgK {C ts k p vs k2 p2 g c pos} : TrG C (.Tuple ts k p) g → TrE C (.Tuple vs k2 p2) c → vs.all (foldedForSure 8) = true → TrS C (.Assign [.Tuple ts k p] (.Tuple vs k2 p2) pos) (.asg g c)
  | asgN {C ts k p vs k2 p2 g c pos} : TrG C (.Tuple ts k p) g → TrE C (.Tuple vs k2 p2) c → ts.all (locE C.sc) = false → TrS C (.Assign [.Tuple ts k p] (.Tuple vs k2 p2) pos) (.asg g c)
  | asgC {C i y py elt gs s cp c pos} : C.N[i]? = some y → C.sc.names.lookup y = some .local → (py.line == cp.line) = true → (s.names.any fun (n, k) => n == y && (k == .local || k == .cell)) = false → TrE C (.ListComp elt gs s cp) c → TrS C (.Assign [.Name y py] (.ListComp elt gs s cp) pos) (.asg (.nm i) c)
  | asg2 {C t u e g1 g2 c pos} : TrG C t g1 → TrG C u g2 → TrE C e c → noStar t = true → noStar u = true → TrS C (.Assign [t, u] e pos) (.asg2 g1 g2 c)
  | asg3 {C t u w e g1 g2 g3 c pos} : TrG C t g1 → TrG C u g2 → TrG C w g3 → TrE C e c → noStar t = true → noStar u = true → noStar w = true → TrS C (.Assign [t, u, w] e pos) (.asg3 g1 g2 g3 c)
  | par2 {C i j x y a b ca cb px py pt kt k2 pt2 pos} : C.N[i]? = some x → C.N[j]? = some y → i ≠ j → x ≠ y → C.sc.names.lookup x = some .local → C.sc.names.lookup y = some .local → (py.line == px.line) = true → TrE C a ca → TrE C b cb →
      (foldedForSure 8 a && foldedForSure 8 b) = false → (constantsAlone 8 a && constantsAlone 8 b) = false → TrS C (.Assign [.Tuple [.Name x px, .Name y py] kt pt] (.Tuple [a, b] k2 pt2) pos) (.par2 i j ca cb)
  | par3 {C i j l x y z a b c ca cb cc px py pz pt kt k2 pt2 pos} : C.N[i]? = some x → C.N[j]? = some y → C.N[l]? = some z → i ≠ j → i ≠ l → j ≠ l → x ≠ y → x ≠ z → y ≠ z → C.sc.names.lookup x = some .local → C.sc.names.lookup y = some .local → C.sc.names.lookup z = some .local →
      (py.line == px.line) = true → (pz.line == px.line) = true → TrE C a ca → TrE C b cb → TrE C c cc → (foldedForSure 8 a && (foldedForSure 8 b && foldedForSure 8 c)) = false → (constantsAlone 8 a && (constantsAlone 8 b && constantsAlone 8 c)) = false →
      TrS C (.Assign [.Tuple [.Name x px, .Name y py, .Name z pz] kt pt] (.Tuple [a, b, c] k2 pt2) pos) (.par3 i j l ca cb cc)
  | aug {C i x op e c px pos} : C.N[i]? = some x → StoreD C x → TrE C e c → TrS C (.AugAssign (.Name x px) (Bop.op op) e pos) (.aug i op c)
  | expr {C e c pos} : TrE C e c → noComp e = true → TrS C (.Expr e pos) (.expr c)
  | ret {C e c pos} : TrE C e c → TrS C (.Return (some e) pos) (.ret c)
  | retN {C pos} : TrS C (.Return none pos) .retN
  | iff {C c a b cc ca cb pos} : TrT C c cc → TrSs C a ca → TrSs C b cb → TrS C (.If c a b pos) (.iff cc ca cb)
  | for_ {C tg it body g i b pos} : TrI C tg it i → TrG C tg g → TrSs C body b → noSetE it = true → TrS C (.For tg it body [] pos) (.for_ g i b)
  | while_ {C c body cc b pos} : TrT C c cc → TrSs C body b → TrS C (.While c body [] pos) (.while_ cc b)
  | pass {C pos} : TrS C (.Pass pos) .pass
  | brk {C pos} : TrS C (.Break pos) .brk
  | cnt {C pos} : TrS C (.Continue pos) .cnt
  | never {C s} : TrS C s .never
inductive TrSs : Ct → List Stmt → List S → Prop
  | nil {C} : TrSs C [] []
  | cons {C s ss c cs} : TrS C s c → TrSs C ss cs → TrSs C (s :: ss) (c :: cs)
end
/-! ### what is wanted behind a statement -/
def PostS (K : PySem.W.Frag) (Wx : L2.St → Wh) (ι : List Addr) (H : Hp) (D : Ends) : Rs Fl → Prop
  | .ok (.nx e') h' => ∀ ι' H' σ', Step ι H ι' H' → Rep K H' ι' h' → EnvR K H' ι' e' σ' → D.nx σ' H'
  | .ok (.rt w) h' => ∀ ι' H' v, Step ι H ι' H' → Rep K H' ι' h' → Rl K H' ι' w v → D.rt v H'
  | .ok (.bk e') h' => ∀ ι' H' σ', Step ι H ι' H' → Rep K H' ι' h' → EnvR K H' ι' e' σ' → D.bk σ' H'
  | .ok (.ct e') h' => ∀ ι' H' σ', Step ι H ι' H' → Rep K H' ι' h' → EnvR K H' ι' e' σ' → D.ct σ' H'
  | .ok (.xc c w e') h' => ∀ ι' H' σ' v, Step ι H ι' H' → Rep K H' ι' h' → EnvR K H' ι' e' σ' → Rl K H' ι' w v → Wx σ' c v H'
  | .ex _ _ _ => False
  | .no => False
def tS (K : PySem.W.Frag) (Wx : L2.St → Wh) (c : En → M Fl) : TS := fun D σ H => ∃ ι h e, Rep K H ι h ∧ EnvR K H ι e σ ∧ PostS K Wx ι H D (c e h)
section
variable {K : PySem.W.Frag} {H H' : Hp} {ι ι' : List Addr} {h h' : SH} {Wx : L2.St → Wh} {D : Ends} {σ : L2.St}
theorem PostS.from (s : Step ι H ι' H') {r : Rs Fl} (p : PostS K Wx ι H D r) : PostS K Wx ι' H' D r := by
  cases r with
  | ok f h => cases f with
    | nx e => exact fun a b c x => p a b c (s.trans x)
    | rt e => exact fun a b c x => p a b c (s.trans x)
    | bk e => exact fun a b c x => p a b c (s.trans x)
    | ct e => exact fun a b c x => p a b c (s.trans x)
    | xc c v e => exact fun a b c v x => p a b c v (s.trans x)
  | ex c w h => exact p
  | no => exact p
/-- an expression within -/
theorem PostS.lift {α β : Type} {R : Hp → List Addr → α → β → Prop} {e : En} {m : M α} {f : α → M Fl} (r : Rep K H ι h) (env : EnvR K H ι e σ) (p : PostS K Wx ι H D (lift e m f h)) :
    Post K R (Wx σ) ι H (fun b H1 => ∃ a ι1 h1, Step ι H ι1 H1 ∧ Rep K H1 ι1 h1 ∧ R H1 ι1 a b ∧ PostS K Wx ι1 H1 D (f a h1)) (m h) := by
  unfold AM.lift at p
  cases z : m h with
  | ok a h1 => rw [z] at p; exact fun ι1 H1 b s r x => ⟨a, ι1, h1, s, r, x, p.from s⟩
  | ex c w h1 =>
    rw [z] at p
    exact fun ι1 H1 v s r2 x => p ι1 H1 σ v s r2 (env.step r s) x
  | no => rw [z] at p; exact False.elim p
theorem PostS.liftN {α β : Type} {R : Hp → List Addr → α → β → Prop} {e : En} {m : M α} {f : α → M Fl} (p : PostS K Wx ι H D (AM.lift e (noEx m) f h)) :
    Post K R F0 ι H (fun b H1 => ∃ a ι1 h1, Step ι H ι1 H1 ∧ Rep K H1 ι1 h1 ∧ R H1 ι1 a b ∧ PostS K Wx ι1 H1 D (f a h1)) (m h) := by
  unfold AM.lift noEx at p
  cases z : m h with
  | ok a h1 => rw [z] at p; exact fun ι1 H1 b s r x => ⟨a, ι1, h1, s, r, x, p.from s⟩
  | ex c w h1 => rw [z] at p; exact False.elim p
  | no => rw [z] at p; exact False.elim p
theorem PostS.nx {e : En} (p : PostS K Wx ι H D (AM.ret (.nx e) h)) (r : Rep K H ι h) (env : EnvR K H ι e σ) : D.nx σ H := p ι H σ (Step.refl _ _) r env
/-- with other ends -/
theorem PostS.then {D2 : Ends} {m : M Fl} {f : En → M Fl} (p : PostS K Wx ι H D (andThen m f h)) (hr : D2.rt = D.rt) (hb : D2.bk = D.bk) (hc : D2.ct = D.ct)
    (hn : ∀ ι' H' σ' e' h', Step ι H ι' H' → Rep K H' ι' h' → EnvR K H' ι' e' σ' → PostS K Wx ι' H' D (f e' h') → D2.nx σ' H') : PostS K Wx ι H D2 (m h) := by
  unfold andThen at p
  cases z : m h with
  | ok fl h1 =>
    rw [z] at p
    cases fl with
    | nx e => exact fun ι1 H1 σ1 s r env => hn ι1 H1 σ1 e h1 s r env (p.from s)
    | rt e => exact fun a b c x y w => by rw [hr]; exact p a b c x y w
    | bk e => exact fun a b c x y w => by rw [hb]; exact p a b c x y w
    | ct e => exact fun a b c x y w => by rw [hc]; exact p a b c x y w
    | xc c v e => exact p
  | ex c w h1 => rw [z] at p; exact p
  | no => rw [z] at p; exact p
end
/-! ### stores at once -/
theorem sw_tgt {t e : Expr} (h : (noTupE t || noTupE e) = true) (env : Env) : swappedStores [t] e env = pure none := by
  cases t <;> first | rfl | (cases e <;> first | rfl | cases h)
theorem sw_len {ts vs : List Expr} {k k2 : Nat} {p p2 : Pos} (h : 4 ≤ ts.length) (env : Env) : swappedStores [.Tuple ts k p] (.Tuple vs k2 p2) env = pure none := by
  have e1 : (ts.length == 2) = false := by simp; omega
  have e2 : (ts.length == 3) = false := by simp; omega
  unfold swappedStores
  simp only [e1, e2, Bool.or_false, Bool.not_false, Bool.true_or, if_true]
theorem filterMap_short {α β : Type} {f : α → Option β} {p : α → Bool} (hp : ∀ a, p a = false → f a = none) : ∀ {l : List α}, l.all p = false → (l.filterMap f).length < l.length
  | [], h => by cases h
  | a :: l, h => by
    cases e : p a with
    | false =>
      rw [List.filterMap_cons_none (hp a e)]
      exact Nat.lt_succ_of_le (List.length_filterMap_le _ _)
    | true =>
      rw [List.all_cons, e, Bool.true_and] at h
      have := filterMap_short hp h
      cases z : f a with
      | none => rw [List.filterMap_cons_none z]; exact Nat.lt_succ_of_lt this
      | some b => rw [List.filterMap_cons_some z]; exact Nat.succ_lt_succ this
theorem sw_non {ts vs : List Expr} {k k2 : Nat} {p p2 : Pos} {env : Env} (h : ts.all (locE env.scope) = false) : swappedStores [.Tuple ts k p] (.Tuple vs k2 p2) env = pure none := by
  have key : ∀ (f : Expr → Option Str), (∀ a, locE env.scope a = false → f a = none) → ((ts.filterMap f).length != ts.length) = true := fun f hf => by
    have := filterMap_short hf h
    exact bne_iff_ne.mpr (Nat.ne_of_lt this)
  unfold swappedStores
  dsimp only
  rw [key _ (fun a ha => by
    cases a with
    | Name x pos =>
      have : ¬ env.kindOf x = some .local := of_decide_eq_false ha
      have e : (env.kindOf x == some .local) = false := by simpa using this
      simp [e]
    | _ => rfl)]
  simp only [Bool.true_or, if_true]
  repeat' split
  all_goals rfl
theorem sw_fold {ts vs : List Expr} {k k2 : Nat} {p p2 : Pos} (h : vs.all (foldedForSure 8) = true) (env : Env) : swappedStores [.Tuple ts k p] (.Tuple vs k2 p2) env = pure none := by
  unfold swappedStores
  dsimp only
  rw [h]
  simp only [if_true]
  repeat' split
  all_goals rfl
theorem sw_comp {t e : Expr} (h : (noComp e || noNameE t) = true) (l : Nat) (env : Env) : swapsWith e (some t) l env = pure false := by
  cases e <;> first | rfl | (cases t <;> first | rfl | cases h)
theorem sw_drop {e : Expr} (h : noComp e = true) (l : Nat) (env : Env) : swapsWith e none l env = pure false := by
  cases e <;> first | rfl | cases h
def isStar : Expr → Bool
  | .Starred .. => true
  | _ => false
theorem isStar_of {e : Expr} (h : noStar e = true) : isStar e = false := by
  cases e with
  | Starred => cases h
  | _ => rfl
theorem two_dups {x y : Str} (h : x ≠ y) : ([x, y] : List Str).eraseDups = [x, y] := by
  have : (y == x) = false := by simpa using fun z : y = x => h z.symm
  simp [List.eraseDups, List.eraseDupsBy, List.eraseDupsBy.loop, this]
theorem three_dups {x y z : Str} (h : x ≠ y) (h2 : x ≠ z) (h3 : y ≠ z) : ([x, y, z] : List Str).eraseDups = [x, y, z] := by
  have e1 : (y == x) = false := by simpa using fun w : y = x => h w.symm
  have e2 : (z == x) = false := by simpa using fun w : z = x => h2 w.symm
  have e3 : (z == y) = false := by simpa using fun w : z = y => h3 w.symm
  simp [List.eraseDups, List.eraseDupsBy, List.eraseDupsBy.loop, e1, e2, e3]
theorem sw_par2 {x y : Str} {a b : Expr} {px py pt : Pos} {kt k2 : Nat} {pt2 : Pos} {env : Env} (hk : env.scope.kind = .function) (hx : env.scope.names.lookup x = some .local) (hy : env.scope.names.lookup y = some .local) (hxy : x ≠ y) (hl : (py.line == px.line) = true)
    (sa : noStar a = true) (sb : noStar b = true) (hf : (foldedForSure 8 a && foldedForSure 8 b) = false) (hc : (constantsAlone 8 a && constantsAlone 8 b) = false) :
    swappedStores [.Tuple [.Name x px, .Name y py] kt pt] (.Tuple [a, b] k2 pt2) env = pure (some [x, y]) := by
  have kx : env.kindOf x = some .local := hx
  have ky : env.kindOf y = some .local := hy
  have hb : env.blockKind = .function := by unfold Env.blockKind; rw [hk]; rfl
  have hs : [a, b].any isStar = false := by simp [isStar_of sa, isStar_of sb]
  have hf' : [a, b].all (foldedForSure 8) = false := by simpa using hf
  have hc' : [a, b].all (constantsAlone 8) = false := by simpa using hc
  have hll : py.line = px.line := by simpa using hl
  unfold swappedStores
  dsimp only
  rw [hf', hc', hb]
  have hs2 : ∀ f : Expr → Bool, (∀ e, f e = isStar e) → ([a, b]).any f = false := fun f h => by
    rw [show f = isStar from funext h]; exact hs
  rw [hs2 _ (fun e => by cases e <;> rfl)]
  simp [kx, ky, Expr.pos, hll, two_dups hxy]
theorem sw_par3 {x y z : Str} {a b c : Expr} {px py pz pt : Pos} {kt k2 : Nat} {pt2 : Pos} {env : Env} (hk : env.scope.kind = .function) (hx : env.scope.names.lookup x = some .local) (hy : env.scope.names.lookup y = some .local) (hz : env.scope.names.lookup z = some .local)
    (hxy : x ≠ y) (hxz : x ≠ z) (hyz : y ≠ z) (hl : (py.line == px.line) = true) (hl2 : (pz.line == px.line) = true)
    (sa : noStar a = true) (sb : noStar b = true) (sc : noStar c = true) (hf : (foldedForSure 8 a && (foldedForSure 8 b && foldedForSure 8 c)) = false) (hc : (constantsAlone 8 a && (constantsAlone 8 b && constantsAlone 8 c)) = false) :
    swappedStores [.Tuple [.Name x px, .Name y py, .Name z pz] kt pt] (.Tuple [a, b, c] k2 pt2) env = pure (some [x, y, z]) := by
  have kx : env.kindOf x = some .local := hx
  have ky : env.kindOf y = some .local := hy
  have kz : env.kindOf z = some .local := hz
  have hb : env.blockKind = .function := by unfold Env.blockKind; rw [hk]; rfl
  have hs : [a, b, c].any isStar = false := by simp [isStar_of sa, isStar_of sb, isStar_of sc]
  have hf' : [a, b, c].all (foldedForSure 8) = false := by simpa using hf
  have hc' : [a, b, c].all (constantsAlone 8) = false := by simpa using hc
  have hll : py.line = px.line := by simpa using hl
  have hll2 : pz.line = px.line := by simpa using hl2
  unfold swappedStores
  dsimp only
  rw [hf', hc', hb]
  have hs2 : ∀ f : Expr → Bool, (∀ e, f e = isStar e) → ([a, b, c]).any f = false := fun f h => by
    rw [show f = isStar from funext h]; exact hs
  rw [hs2 _ (fun e => by cases e <;> rfl)]
  simp [kx, ky, kz, Expr.pos, hll, hll2, three_dups hxy hxz hyz]
end AM

namespace AM
open PySem L2 PyProof.Rows
section
variable {X : Cx} {Wx : L2.St → Wh} {pos : Pos}
/-- a value, then a target -/
theorem asg_in {σ : L2.St} {H : Hp} {D : Ends} {own : List Nat} {ce : En → M Vl} {cg : En → Vl → M En} {k : En → M Fl} {D' : L2.St → Hp → Prop}
    (q : tS X.K Wx (fun e => lift e (ce e) fun v => lift e (noEx (cg e v)) k) D σ H) (f : ∀ ι H h e σ', Rep X.K H ι h → EnvR X.K H ι e σ' → PostS X.K Wx ι H D (k e h) → D' σ' H) : tE X.K Wx ce σ H fun x H1 => tGt X.K own cg x σ H1 D' := by
  obtain ⟨ι, h, e, r, env, p⟩ := q
  exact ⟨ι, h, e, r, env, (p.lift r env).mono fun v H1 ⟨w, ι1, h1, st, r1, x, p1⟩ => ⟨ι1, h1, e, w, r1, env.step r st, x, p1.liftN.mono fun σ2 H2 ⟨e2, ι2, h2, st2, r2, ⟨env2, _⟩, p2⟩ => f _ _ _ _ _ r2 env2 p2⟩⟩
theorem s_asg {t e : Expr} {own : List Nat} {ce : En → M Vl} {cg : En → Vl → M En} (he : PE X e (tE X.K Wx ce)) (hg : PG X t (tGt X.K own cg)) (hs : swapsWithSole [t] e pos.line X.env = pure false) (hw : swappedStores [t] e X.env = pure none) (ns : noStar t = true) :
    PS X (.Assign [t] e pos) (tS X.K Wx fun e => lift e (ce e) fun v => lift e (noEx (cg e v)) fun e1 => ret (.nx e1)) :=
  PS.con (ps_asg he hg hs hw (asg_of ns _ _)) fun D σ H q => asg_in q fun ι H h e σ' r env p => p.nx r env
theorem s_asg2 {t u e : Expr} {o1 o2 : List Nat} {ce : En → M Vl} {c1 c2 : En → Vl → M En} (he : PE X e (tE X.K Wx ce)) (h1 : PG X t (tGt X.K o1 c1)) (h2 : PG X u (tGt X.K o2 c2)) (hw : swappedStores [t, u] e X.env = pure none) (n1 : noStar t = true) (n2 : noStar u = true) :
    PS X (.Assign [t, u] e pos) (tS X.K Wx fun e => lift e (ce e) fun v => lift e (noEx (c1 e v)) fun e1 => lift e1 (noEx (c2 e1 v)) fun e2 => ret (.nx e2)) :=
  PS.con (ps_asg2 he h1 h2 (by rw [asg_of n1, asg_of n2]; rfl) hw) fun D σ H q => by
    obtain ⟨ι, h, e, r, env, p⟩ := q
    refine ⟨ι, h, e, r, env, (p.lift r env).mono fun v H1 ⟨w, ι1, h1, st, r1, x, p1⟩ => ⟨ι1, h1, e, w, r1, env.step r st, x, p1.liftN.mono fun σ2 H2 ⟨e2, ι2, h2, st2, r2, ⟨env2, _⟩, p2⟩ => ?_⟩⟩
    exact ⟨ι2, h2, e2, w, r2, env2, x.step r1 st2, p2.liftN.mono fun σ3 H3 ⟨e3, ι3, h3, st3, r3, ⟨env3, _⟩, p3⟩ => p3.nx r3 env3⟩
theorem s_asg3 {t u y e : Expr} {o1 o2 o3 : List Nat} {ce : En → M Vl} {c1 c2 c3 : En → Vl → M En} (he : PE X e (tE X.K Wx ce)) (h1 : PG X t (tGt X.K o1 c1)) (h2 : PG X u (tGt X.K o2 c2)) (h3 : PG X y (tGt X.K o3 c3)) (hw : swappedStores [t, u, y] e X.env = pure none) (n1 : noStar t = true) (n2 : noStar u = true) (n3 : noStar y = true) :
    PS X (.Assign [t, u, y] e pos) (tS X.K Wx fun e => lift e (ce e) fun v => lift e (noEx (c1 e v)) fun e1 => lift e1 (noEx (c2 e1 v)) fun e2 => lift e2 (noEx (c3 e2 v)) fun e3 => ret (.nx e3)) :=
  PS.con (ps_asg3 he h1 h2 h3 (by rw [asg_of n1, asg_of n2, asg_of n3]; rfl) hw) fun D σ H q => by
    obtain ⟨ι, h, e, r, env, p⟩ := q
    refine ⟨ι, h, e, r, env, (p.lift r env).mono fun v H1 ⟨w, ι1, h1, st, r1, x, p1⟩ => ⟨ι1, h1, e, w, r1, env.step r st, x, p1.liftN.mono fun σ2 H2 ⟨e2, ι2, h2, st2, r2, ⟨env2, _⟩, p2⟩ => ?_⟩⟩
    refine ⟨ι2, h2, e2, w, r2, env2, x.step r1 st2, p2.liftN.mono fun σ3 H3 ⟨e3, ι3, h3, st3, r3, ⟨env3, _⟩, p3⟩ => ?_⟩
    exact ⟨ι3, h3, e3, w, r3, env3, (x.step r1 st2).step r2 st3, p3.liftN.mono fun σ4 H4 ⟨e4, ι4, h4, st4, r4, ⟨env4, _⟩, p4⟩ => p4.nx r4 env4⟩
theorem s_par2 {i j : Nat} {x y : Str} {a b : Expr} {ca cb : En → M Vl} {px py pt : Pos} {kt k2 pt2} (hc : X.calm = true) (hN : X.N.Nodup) (hi : X.N[i]? = some x) (hj : X.N[j]? = some y) (hij : i ≠ j) (hx : X.env.scope.names.lookup x = some .local) (hy : X.env.scope.names.lookup y = some .local)
    (ha : PE X a (tE X.K Wx ca)) (hb : PE X b (tE X.K Wx cb)) (na : noStar a = true) (nb : noStar b = true) (hw : swappedStores [.Tuple [.Name x px, .Name y py] kt pt] (.Tuple [a, b] k2 pt2) X.env = pure (some [x, y])) :
    PS X (.Assign [.Tuple [.Name x px, .Name y py] kt pt] (.Tuple [a, b] k2 pt2) pos) (tS X.K Wx fun e => lift e (ca e) fun v => lift e (cb e) fun u => ret (.nx ((e.set i (some v)).set j (some u)))) :=
  PS.con (ps_par hc hN hi hj hij hx hy (pa_cons ha (pa_cons hb pa_nil (star_of nb _ _)) (star_of na _ _)) hw rfl) fun D σ H q => by
    obtain ⟨ι, h, e, r, env, p⟩ := q
    refine ⟨ι, h, e, r, env, (p.lift r env).mono fun v H1 ⟨w, ι1, h1, st, r1, x, p1⟩ => ?_⟩
    refine ⟨ι1, h1, e, r1, env.step r st, (p1.lift r1 (env.step r st)).mono fun u H2 ⟨w2, ι2, h2, st2, r2, x2, p2⟩ => ?_⟩
    exact ⟨v, u, rfl, p2.nx r2 ((((env.step r st).step r1 st2).set i (x.step r1 st2)).set j x2)⟩
theorem s_par3 {i j l : Nat} {x y z : Str} {a b c : Expr} {ca cb cc : En → M Vl} {px py pz pt : Pos} {kt k2 pt2} (hc : X.calm = true) (hN : X.N.Nodup) (hi : X.N[i]? = some x) (hj : X.N[j]? = some y) (hl : X.N[l]? = some z) (hij : i ≠ j) (hil : i ≠ l) (hjl : j ≠ l)
    (hx : X.env.scope.names.lookup x = some .local) (hy : X.env.scope.names.lookup y = some .local) (hz : X.env.scope.names.lookup z = some .local)
    (ha : PE X a (tE X.K Wx ca)) (hb : PE X b (tE X.K Wx cb)) (hcc : PE X c (tE X.K Wx cc)) (na : noStar a = true) (nb : noStar b = true) (nc : noStar c = true) (hw : swappedStores [.Tuple [.Name x px, .Name y py, .Name z pz] kt pt] (.Tuple [a, b, c] k2 pt2) X.env = pure (some [x, y, z])) :
    PS X (.Assign [.Tuple [.Name x px, .Name y py, .Name z pz] kt pt] (.Tuple [a, b, c] k2 pt2) pos) (tS X.K Wx fun e => lift e (ca e) fun v => lift e (cb e) fun u => lift e (cc e) fun w => ret (.nx (((e.set i (some v)).set j (some u)).set l (some w)))) :=
  PS.con (ps_par3 hc hN hi hj hl hij hil hjl hx hy hz (pa_cons ha (pa_cons hb (pa_cons hcc pa_nil (star_of nc _ _)) (star_of nb _ _)) (star_of na _ _)) hw rfl) fun D σ H q => by
    obtain ⟨ι, h, e, r, env, p⟩ := q
    refine ⟨ι, h, e, r, env, (p.lift r env).mono fun v H1 ⟨w, ι1, h1, st, r1, x, p1⟩ => ?_⟩
    refine ⟨ι1, h1, e, r1, env.step r st, (p1.lift r1 (env.step r st)).mono fun u H2 ⟨w2, ι2, h2, st2, r2, x2, p2⟩ => ?_⟩
    refine ⟨ι2, h2, e, r2, (env.step r st).step r1 st2, (p2.lift r2 ((env.step r st).step r1 st2)).mono fun z H3 ⟨w3, ι3, h3, st3, r3, x3, p3⟩ => ?_⟩
    exact ⟨v, u, z, rfl, p3.nx r3 ((((((env.step r st).step r1 st2).step r2 st3).set i ((x.step r1 st2).step r2 st3)).set j (x2.step r2 st3)).set l x3)⟩
theorem s_aug {i : Nat} {x : Str} {e : Expr} {px : Pos} {ce : En → M Vl} (op : Bop) (hN : X.N.Nodup) (hi : X.N[i]? = some x) (hx : Loc X.env.scope x) (hf : X.fn x = true ∨ X.env.scope.names.lookup x = some .local) (he : PE X e (tE X.K Wx ce)) :
    PS X (.AugAssign (.Name x px) op.op e pos) (tS X.K Wx fun e => match e[i]? with | some (some x) => lift e (ce e) fun y => lift e (ibopV op x y) fun z => ret (.nx (e.set i (some z))) | _ => fail) :=
  PS.con (ps_aug hN hi hx he (fun pins s σ H x y v u Q I rx ry q => o_ibop op pins s σ H x y v u Q I rx ry q) hf) fun D σ H q => by
    obtain ⟨ι, h, e, r, env, p⟩ := q
    dsimp only at p
    cases z : e[i]? with
    | none => rw [z] at p; exact False.elim p
    | some o => cases o with
      | none => rw [z] at p; exact False.elim p
      | some w =>
        rw [z] at p
        obtain ⟨v, ev, rv⟩ := env.at_ i w z
        refine ⟨v, ev, ι, h, e, r, env, (p.lift r env).mono fun u H1 ⟨w1, ι1, h1, st, r1, x1, p1⟩ => ?_⟩
        exact b_ibop op _ _ _ _ _ _ _ _ _ r1 (rv.step r st) x1 ((p1.lift (R := Rl X.K) r1 (env.step r st)).mono fun z2 H2 ⟨w2, ι2, h2, st2, r2, x2, p2⟩ => p2.nx r2 (((env.step r st).step r1 st2).set i x2))
theorem s_expr {e : Expr} {ce : En → M Vl} (he : PE X e (tE X.K Wx ce)) (nc : noComp e = true) : PS X (.Expr e pos) (tS X.K Wx fun e => lift e (ce e) fun _ => ret (.nx e)) :=
  PS.con (ps_expr he (sw_drop nc _ _)) fun D σ H q => by
    obtain ⟨ι, h, e, r, env, p⟩ := q
    exact ⟨ι, h, e, r, env, (p.lift r env).mono fun v H1 ⟨w, ι1, h1, st, r1, x, p1⟩ => p1.nx r1 (env.step r st)⟩
theorem s_ret {e : Expr} {ce : En → M Vl} (he : PE X e (tE X.K Wx ce)) : PS X (.Return (some e) pos) (tS X.K Wx fun e => lift e (ce e) fun v => ret (.rt v)) :=
  PS.con (ps_ret he) fun D σ H q => by
    obtain ⟨ι, h, e, r, env, p⟩ := q
    exact ⟨ι, h, e, r, env, (p.lift r env).mono fun v H1 ⟨w, ι1, h1, st, r1, x, p1⟩ => p1 ι1 H1 v (Step.refl _ _) r1 x⟩
theorem s_retN : PS X (.Return none pos) (tS X.K Wx fun e => ret (.rt .non)) :=
  PS.con ps_retN fun D σ H q => by
    obtain ⟨ι, h, e, r, env, p⟩ := q
    exact p ι H .non (Step.refl _ _) r .non
theorem s_iff {c : Expr} {a b : List Stmt} {cc : En → M Bool} {ca cb : En → M Fl} (hc : PT X c (tT X.K Wx cc)) (ha : PSs X a (tS X.K Wx ca)) (hb : PSs X b (tS X.K Wx cb)) : PS X (.If c a b pos) (tS X.K Wx fun e => lift e (cc e) fun r => if r = true then ca e else cb e) :=
  PS.con (ps_if hc ha hb) fun D σ H q => by
    obtain ⟨ι, h, e, r, env, p⟩ := q
    refine ⟨ι, h, e, r, env, (p.lift r env).mono fun k H1 ⟨k', ι1, h1, st, r1, x, p1⟩ => ?_⟩
    obtain rfl : k' = k := x
    cases k' with
    | true => exact iteT ⟨ι1, h1, e, r1, env.step r st, p1⟩
    | false => exact iteF ⟨ι1, h1, e, r1, env.step r st, p1⟩
theorem s_pass : PS X (.Pass pos) (tS X.K Wx fun e => ret (.nx e)) := PS.con ps_pass fun D σ H ⟨ι, h, e, r, env, p⟩ => p.nx r env
theorem s_brk : PS X (.Break pos) (tS X.K Wx fun e => ret (.bk e)) := PS.con ps_break fun D σ H ⟨ι, h, e, r, env, p⟩ => p ι H σ (Step.refl _ _) r env
theorem s_cnt : PS X (.Continue pos) (tS X.K Wx fun e => ret (.ct e)) := PS.con ps_continue fun D σ H ⟨ι, h, e, r, env, p⟩ => p ι H σ (Step.refl _ _) r env
theorem s_nil : PSs X [] (tS X.K Wx fun e => ret (.nx e)) := PSs.con pss_nil fun D σ H ⟨ι, h, e, r, env, p⟩ => p.nx r env
theorem s_cons {s : Stmt} {ss : List Stmt} {c cs : En → M Fl} (h1 : PS X s (tS X.K Wx c)) (h2 : PSs X ss (tS X.K Wx cs)) : PSs X (s :: ss) (tS X.K Wx fun e => andThen (c e) cs) :=
  PSs.con (pss_cons h1 h2) fun D σ H ⟨ι, h, e, r, env, p⟩ => ⟨ι, h, e, r, env, p.then rfl rfl rfl fun ι1 H1 σ1 e1 h1 st r1 env1 p1 => ⟨ι1, h1, e1, r1, env1, p1⟩⟩
/-! ### loops -/
theorem s_for {tg it : Expr} {body : List Stmt} {own : List Nat} {ci : En → M Src} {cg : En → Vl → M En} {cb : En → M Fl} (hp : PassesOwn (model X.prog X.w) X.A X.env X.xe) (hc : X.calm = true) (hi : PI X tg it (tI X.K Wx ci)) (hg : PG X tg (tGt X.K own cg)) (hb : PSs X body (tS X.K Wx cb)) (ns : noSetE it = true) :
    PS X (.For tg it body [] pos) (tS X.K Wx fun e => lift e (ci e) fun src => fun h => loopS src (fun x e1 => lift e1 (noEx (cg e1 x)) cb) (sizeS h src + 1) 0 e h) :=
  PS.con (ps_for hp hc hi hg hb (nofold ns _)) fun D σ H q => by
    obtain ⟨ι, h, e, r, env, p⟩ := q
    refine ⟨ι, h, e, r, env, (p.lift r env).mono fun J H1 ⟨src, ι1, h1, st, r1, sj, p1⟩ => ?_⟩
    generalize sizeS h1 src + 1 = m0 at p1
    refine ⟨fun i m σ H => ∃ ι h e, Rep X.K H ι h ∧ EnvR X.K H ι e σ ∧ SrcJ X.K H ι src J ∧ PostS X.K Wx ι H D (loopS src (fun x e1 => lift e1 (noEx (cg e1 x)) cb) m i e h), ⟨m0, ι1, h1, e, r1, env.step r st, sj, p1⟩, ?_⟩
    rintro i m σ2 H2 ⟨ι2, h2, e2, r2, env2, sj2, p2⟩
    cases m with
    | zero => exact False.elim p2
    | succ m =>
      unfold loopS at p2
      cases ei : itemS h2 i src with
      | none => rw [ei] at p2; exact False.elim p2
      | some o =>
        rw [ei] at p2
        cases o with
        | none => exact .inl ⟨sj2.stop r2 ei, p2 ι2 H2 σ2 (Step.refl _ _) r2 env2⟩
        | some w =>
          dsimp only at p2
          obtain ⟨go, yld⟩ := sj2.go r2 ei
          refine .inr ⟨go, fun σ' H' => ∃ m', m' < m + 1 ∧ ∃ ι h e, Rep X.K H' ι h ∧ EnvR X.K H' ι e σ' ∧ SrcJ X.K H' ι src J ∧ PostS X.K Wx ι H' D (loopS src (fun x e1 => lift e1 (noEx (cg e1 x)) cb) m' (i + 1) e h), fun _ _ z => z, fun x H3 y => ?_⟩
          obtain ⟨st3, r3, rw3⟩ := yld x H3 y
          refine ⟨ι2, h2, e2, w, r3, env2.step r2 st3, rw3, ?_⟩
          unfold AM.lift noEx at p2
          cases z : cg e2 w h2 with
          | no => rw [z] at p2; exact False.elim p2
          | ex c v h' => rw [z] at p2; exact False.elim p2
          | ok e4 h4 =>
            rw [z] at p2
            dsimp only at p2
            intro ι4 H4 σ4 st4 r4 ⟨env4, _⟩
            have s24 := st3.trans st4
            refine ⟨ι4, h4, e4, r4, env4, ?_⟩
            cases z5 : cb e4 h4 with
            | no => rw [z5] at p2; exact p2
            | ex c v h' => rw [z5] at p2; exact p2
            | ok fl h5 =>
              rw [z5] at p2
              cases fl with
              | nx e5 => exact fun ι5 H5 σ5 st5 r5 env5 => ⟨m, Nat.lt_succ_self m, ι5, h5, e5, r5, env5, (sj2.step r2 s24).step r4 st5, p2.from (s24.trans st5)⟩
              | ct e5 => exact fun ι5 H5 σ5 st5 r5 env5 => ⟨m, Nat.lt_succ_self m, ι5, h5, e5, r5, env5, (sj2.step r2 s24).step r4 st5, p2.from (s24.trans st5)⟩
              | bk e5 => exact fun ι5 H5 σ5 st5 r5 env5 => p2 ι5 H5 σ5 (s24.trans st5) r5 env5
              | rt v5 => exact fun ι5 H5 v st5 r5 x5 => p2 ι5 H5 v (s24.trans st5) r5 x5
              | xc c v e5 => exact fun ι5 H5 σ5 v st5 r5 env5 x5 => p2 ι5 H5 σ5 v (s24.trans st5) r5 env5 x5
theorem s_while {c : Expr} {body : List Stmt} {cc : En → M Bool} {cb : En → M Fl} (wf : Nat) (hp : PassesOwn (model X.prog X.w) X.A X.env X.xe) (hc : PT X c (tT X.K Wx cc)) (hb : PSs X body (tS X.K Wx cb)) :
    PS X (.While c body [] pos) (tS X.K Wx fun e => loopW cc cb wf e) :=
  PS.con (ps_while hp hc hb) fun D σ H q => by
    obtain ⟨ι, h, e, r, env, p⟩ := q
    refine ⟨fun m σ H => ∃ ι h e, Rep X.K H ι h ∧ EnvR X.K H ι e σ ∧ PostS X.K Wx ι H D (loopW cc cb m e h), ⟨wf, ι, h, e, r, env, p⟩, ?_⟩
    rintro m σ2 H2 ⟨ι2, h2, e2, r2, env2, p2⟩
    cases m with
    | zero => exact False.elim p2
    | succ m =>
      unfold loopW at p2
      refine ⟨ι2, h2, e2, r2, env2, (p2.lift r2 env2).mono fun k H3 ⟨k', ι3, h3, st3, r3, x, p3⟩ => ?_⟩
      obtain rfl : k' = k := x
      have env3 := env2.step r2 st3
      cases k' with
      | false => exact iteF (p3.nx r3 env3)
      | true =>
        refine iteT ⟨fun σ' H' => ∃ m', m' < m + 1 ∧ ∃ ι h e, Rep X.K H' ι h ∧ EnvR X.K H' ι e σ' ∧ PostS X.K Wx ι H' D (loopW cc cb m' e h), fun _ _ z => z, ι3, h3, e2, r3, env3, ?_⟩
        simp only [if_true] at p3
        cases z5 : cb e2 h3 with
        | no => rw [z5] at p3; exact p3
        | ex c v h' => rw [z5] at p3; exact p3
        | ok fl h5 =>
          rw [z5] at p3
          cases fl with
          | nx e5 => exact fun ι5 H5 σ5 st5 r5 env5 => ⟨m, Nat.lt_succ_self m, ι5, h5, e5, r5, env5, p3.from st5⟩
          | ct e5 => exact fun ι5 H5 σ5 st5 r5 env5 => ⟨m, Nat.lt_succ_self m, ι5, h5, e5, r5, env5, p3.from st5⟩
          | bk e5 => exact fun ι5 H5 σ5 st5 r5 env5 => p3 ι5 H5 σ5 st5 r5 env5
          | rt v5 => exact fun ι5 H5 v st5 r5 x5 => p3 ι5 H5 v st5 r5 x5
          | xc c v e5 => exact fun ι5 H5 σ5 v st5 r5 env5 x5 => p3 ι5 H5 σ5 v st5 r5 env5 x5
end
theorem sw_more (t u : Expr) (r : List Expr) (e : Expr) (env : Env) : swappedStores (t :: u :: r) e env = pure none := by
  cases t <;> rfl
theorem lc_parts {C : Ct} {elt : Expr} {gs : List Comprehension} {s : Scope} {cp : Pos} {c : E} (h : TrE C (.ListComp elt gs s cp) c) :
    ∃ (own : List (Str × Nat)) (tg iter : Expr) (ifs : List Expr) (g : Tg) (it : It) (cc : Option E) (ce : E), gs = [⟨tg, iter, ifs, 0⟩] ∧ c = .lc (own.map (·.2)) g it cc ce ∧ L2.blkC C.N C.sc s own = true ∧ (tgIx g).all (fun j => (own.map (·.2)).contains j) = true ∧
      TrI C tg iter it ∧ TrG (C.blkC s) tg g ∧ TrC (C.blkC s) ifs cc ∧ TrE (C.blkC s) elt ce ∧ noSetE iter = true := by
  cases h with
  | lc h1 h0 h2 h3 h4 h5 h6 => exact ⟨_, _, _, _, _, _, _, _, rfl, rfl, h1, h0, h2, h3, h4, h5, h6⟩
theorem TrG.noStar {C : Ct} {e : Expr} {t : Tg} (h : TrG C e t) : AM.noStar e = true := by
  cases e <;> first | rfl | (cases h)
section
variable {p : Pgm} {cl : Nat → Addr} {d : Nat}
mutual
theorem sS : ∀ {C : Ct} {s : Stmt} {c : S}, TrS C s c → ∀ {X : Cx} {W : WX}, XOk p cl d C X W → X.env.scope.kind = .function → PassesOwn (model X.prog X.w) X.A X.env X.xe → PS X s (tS X.K (XW cl W) fun σ => exS (callD (Pgm.fns p) (Pgm.wf p) d) p.wf σ c)
  | _, _, _, .asg h1 h2 h3 h4, X, W, o, k, hp => s_asg (sE h2 o) (sG h1 o) (sw_comp h4 _ _) (sw_tgt h3 _) h1.noStar
  | _, _, _, .asg4 h1 h2 h3, X, W, o, k, hp => s_asg (sE h2 o) (sG h1 o) rfl (sw_len h3 _) rfl
  | _, _, _, .asgK h1 h2 h3, X, W, o, k, hp => s_asg (sE h2 o) (sG h1 o) rfl (sw_fold h3 _) rfl
  | _, _, _, .asgN h1 h2 h3, X, W, o, k, hp => s_asg (sE h2 o) (sG h1 o) rfl (sw_non (by rw [o.sc]; exact h3)) rfl
  | _, _, _, .asgC (i := i) (c := c) h1 h2 h3 h4 h5, X, W, o, k, hp => by
    obtain ⟨own, tg, iter, ifs, g, it, cc, e, rfl, rfl, h1', h0, h2', h3', h4', h5', h6'⟩ := lc_parts h5
    · refine PS.con (ps_setLc (te := tE X.K NoW fun σ => ev (callD (Pgm.fns p) (Pgm.wf p) d) σ e) (tt := tT X.K NoW fun σ => evc (callD (Pgm.fns p) (Pgm.wf p) d) σ cc) (g := tGt X.K (tgIx g) fun σ v => evg (callD (Pgm.fns p) (Pgm.wf p) d) σ g v) o.calm o.nodup (o.nn h1) (by rw [o.sc]; exact h2) (sw_true k (by rw [o.sc]; exact h2) h3 h4) (sI h2' o) (blkOk_by (by rw [o.N, o.sc]; exact h1')) (fun s' H' a cells fp => sG h3' (o.block s' H' _ cells a fp)) (fun s' H' a cells fp => to_noC (cl := cl) (sC h4' (o.block s' H' _ cells a fp))) (fun s' H' a cells fp => to_no (cl := cl) (sE h5' (o.block s' H' _ cells a fp))) (fun x => nofold h6' _ x)) fun D σ H q => ?_
      refine lc_read (Wx := XW cl W) (ci := fun σ => evi (callD (Pgm.fns p) (Pgm.wf p) d) σ it) (cg := fun σ v => evg (callD (Pgm.fns p) (Pgm.wf p) d) σ g v) (cc := fun σ => evc (callD (Pgm.fns p) (Pgm.wf p) d) σ cc) (ce := fun σ => ev (callD (Pgm.fns p) (Pgm.wf p) d) σ e) (fun j hj => by
        have := List.all_eq_true.mp h0 j hj
        simpa using this) ?_
      obtain ⟨ι, h, e0, r, env, pp⟩ := q
      exact ⟨ι, h, e0, r, env, (PostS.lift (R := Rl X.K) r env pp).mono fun v H1 ⟨w, ι1, h1, st, r1, x, p1⟩ => p1.nx r1 ((env.step r st).set i x)⟩
  | _, _, _, .asg2 h1 h2 h3 n1 n2, X, W, o, k, hp => s_asg2 (sE h3 o) (sG h1 o) (sG h2 o) (sw_more _ _ _ _ _) n1 n2
  | _, _, _, .asg3 h1 h2 h3 h4 n1 n2 n3, X, W, o, k, hp => s_asg3 (sE h4 o) (sG h1 o) (sG h2 o) (sG h3 o) (sw_more _ _ _ _ _) n1 n2 n3
  | _, _, _, .par2 h1 h2 h3 h4 h5 h6 h7 h8 h9 h10 h11, X, W, o, k, hp => s_par2 o.calm o.nodup (o.nn h1) (o.nn h2) h3 (by rw [o.sc]; exact h5) (by rw [o.sc]; exact h6) (sE h8 o) (sE h9 o) h8.noStar h9.noStar (sw_par2 k (by rw [o.sc]; exact h5) (by rw [o.sc]; exact h6) h4 h7 h8.noStar h9.noStar h10 h11)
  | _, _, _, .par3 h1 h2 h3 e1 e2 e3 f1 f2 f3 l1 l2 l3 q1 q2 ha hb hc h10 h11, X, W, o, k, hp => s_par3 o.calm o.nodup (o.nn h1) (o.nn h2) (o.nn h3) e1 e2 e3 (by rw [o.sc]; exact l1) (by rw [o.sc]; exact l2) (by rw [o.sc]; exact l3) (sE ha o) (sE hb o) (sE hc o) ha.noStar hb.noStar hc.noStar
      (sw_par3 k (by rw [o.sc]; exact l1) (by rw [o.sc]; exact l2) (by rw [o.sc]; exact l3) f1 f2 f3 q1 q2 ha.noStar hb.noStar hc.noStar h10 h11)
  | _, _, _, .aug h1 h2 h3, X, W, o, k, hp => s_aug _ o.nodup (o.nn h1) (o.store h2).1 (o.store h2).2 (sE h3 o)
  | _, _, _, .expr h1 h2, X, W, o, k, hp => s_expr (sE h1 o) h2
  | _, _, _, .ret h, X, W, o, k, hp => s_ret (sE h o)
  | _, _, _, .retN, X, W, o, k, hp => s_retN
  | _, _, _, .iff h1 h2 h3, X, W, o, k, hp => s_iff (sT h1 o) (sSs h2 o k hp) (sSs h3 o k hp)
  | _, _, _, .for_ h1 h2 h3 h4, X, W, o, k, hp => s_for hp o.calm (sI h1 o) (sG h2 o) (sSs h3 o k hp) h4
  | _, _, _, .while_ h1 h2, X, W, o, k, hp => s_while p.wf hp (sT h1 o) (sSs h2 o k hp)
  | _, _, _, .pass, X, W, o, k, hp => s_pass
  | _, _, _, .brk, X, W, o, k, hp => s_brk
  | _, _, _, .cnt, X, W, o, k, hp => s_cnt
  | _, _, _, .never, X, W, o, k, hp => PS.con ps_never fun D σ H ⟨ι, h, e, r, env, q⟩ => q
theorem sSs : ∀ {C : Ct} {s : List Stmt} {c : List S}, TrSs C s c → ∀ {X : Cx} {W : WX}, XOk p cl d C X W → X.env.scope.kind = .function → PassesOwn (model X.prog X.w) X.A X.env X.xe → PSs X s (tS X.K (XW cl W) fun σ => exSs (callD (Pgm.fns p) (Pgm.wf p) d) p.wf σ c)
  | _, _, _, .nil, X, W, o, k, hp => s_nil
  | _, _, _, .cons h1 h2, X, W, o, k, hp => s_cons (sS h1 o k hp) (sSs h2 o k hp)
end
end
end AM

namespace AM
open PySem L2 PyProof.Rows
/-! ### is a code that of a text? -/
abbrev Ck (p : Prop) : Type := Option (PLift p)
def ck {p : Prop} (h : p) : Ck p := some ⟨h⟩
def ckM {p q : Prop} (a : Ck p) (f : p → Ck q) : Ck q := match a with
  | some h => f h.down
  | none => none
def ckIf {p q : Prop} [Decidable p] (f : p → q) : Ck q := if h : p then some ⟨f h⟩ else none
instance (sc : Scope) (x : Str) : Decidable (Vis sc x) := by unfold Vis; infer_instance
instance (sc : Scope) (x : Str) : Decidable (GlD sc x) := by unfold GlD; infer_instance
def storeB (C : Ct) (x : Str) : Bool := decide (C.sc.names.lookup x = some .local) || (decide (C.sc.names.lookup x = some .cell) && match C.blk with
  | none => true
  | some s => decide (s.names.lookup x = some .cell))
theorem storeB_ok {C : Ct} {x : Str} (h : storeB C x = true) : StoreD C x := by
  unfold storeB at h
  rw [Bool.or_eq_true, Bool.and_eq_true] at h
  rcases h with h | ⟨h, g⟩
  · exact .inl (of_decide_eq_true h)
  · refine .inr ⟨of_decide_eq_true h, fun s e => ?_⟩
    rw [e] at g
    exact of_decide_eq_true g
def ownOf (N : List Str) (o : List Nat) : List (Str × Nat) := o.map fun i => (N.getD i "", i)
theorem ownOf_snd (N : List Str) (o : List Nat) : (ownOf N o).map (·.2) = o := by
  unfold ownOf
  rw [List.map_map]
  induction o with
  | nil => rfl
  | cons a l ih => rw [List.map_cons, ih]; rfl
mutual
def ckE : Nat → (C : Ct) → (c : E) → (e : Expr) → Ck (TrE C e c)
  | 0, _, _, _ => none
  | fu + 1, C, .var i, e => match e with
    | .Name x pos => ckIf (p := C.N[i]? = some x ∧ Vis C.sc x ∧ okName x = true) fun h => .var h.1 h.2.1 h.2.2
    | _ => none
  | fu + 1, C, .non, e => match e with
    | .Constant .none j pos => ck .non
    | _ => none
  | fu + 1, C, .bl b, e => match e with
    | .Constant (.bool b') j pos => ckIf (p := b' = b) fun h => by subst h; exact .bl
    | _ => none
  | fu + 1, C, .int i, e => match e with
    | .Constant (.int i') j pos => ckIf (p := i' = i) fun h => by subst h; exact .int
    | _ => none
  | fu + 1, C, .str s, e => match e with
    | .Constant (.str s') j pos => ckIf (p := s' = s) fun h => by subst h; exact .str
    | _ => none
  | fu + 1, C, .ty t, e => match e with
    | .Name x pos => ckIf (p := x = t.nm ∧ GlD C.sc t.nm ∧ t.nm ∈ C.free) fun h => by rw [h.1]; exact .ty h.2.1 h.2.2
    | _ => none
  | fu + 1, C, .tup cs, e => match e with
    | .Tuple es k pos => ckM (ckEs fu C cs es) fun a => ck (.tup a)
    | _ => none
  | fu + 1, C, .lst cs, e => match e with
    | .List es pos => ckM (ckEs fu C cs es) fun a => ck (.lst a)
    | _ => none
  | fu + 1, C, .dct0, e => match e with
    | .Dict [] [] pos => ck .dct0
    | _ => none
  | fu + 1, C, .bin op ca cb, e => match e with
    | .BinOp a o b pos =>
      ckM (ckE fu C ca a) fun x =>
      ckM (ckE fu C cb b) fun y =>
      ckIf (p := o = op.op) fun h => by subst h; exact .bin x y
    | _ => none
  | fu + 1, C, .neg ca, e => match e with
    | .UnaryOp .USub a pos => ckM (ckE fu C ca a) fun x => ck (.neg x)
    | _ => none
  | fu + 1, C, .not ca, e => match e with
    | .UnaryOp .Not a pos => ckM (ckE fu C ca a) fun x => ck (.not x)
    | _ => none
  | fu + 1, C, .and ca cb, e => match e with
    | .BoolOp .And (a :: b :: rest) pos =>
      ckM (ckE fu C ca a) fun x =>
      ckM (ckB fu C .And cb (b :: rest) pos) fun y =>
      ck (.and x y)
    | _ => none
  | fu + 1, C, .or ca cb, e => match e with
    | .BoolOp .Or (a :: b :: rest) pos =>
      ckM (ckE fu C ca a) fun x =>
      ckM (ckB fu C .Or cb (b :: rest) pos) fun y =>
      ck (.or x y)
    | _ => none
  | fu + 1, C, .cmp op ca cb, e => match e with
    | .Compare a [o] [b] pos =>
      ckM (ckE fu C ca a) fun x =>
      ckM (ckE fu C cb b) fun y =>
      ckIf (p := o = op.op ∧ noSetE b = true) fun h => by rw [h.1]; exact .cmp x y h.2
    | _ => none
  | fu + 1, C, .cmp2 op op2 ca cb cc, e => match e with
    | .Compare a [o, o2] [b, c] pos =>
      ckM (ckE fu C ca a) fun x =>
      ckM (ckE fu C cb b) fun y =>
      ckM (ckE fu C cc c) fun z =>
      ckIf (p := o = op.op ∧ o2 = op2.op ∧ noSetE c = true) fun h => by rw [h.1, h.2.1]; exact .cmp2 x y z h.2.2
    | _ => none
  | fu + 1, C, .isN ca, e => match e with
    | .Compare a [.Is] [.Constant .none j p] pos => ckM (ckE fu C ca a) fun x => ck (.isN x)
    | _ => none
  | fu + 1, C, .ntN ca, e => match e with
    | .Compare a [.IsNot] [.Constant .none j p] pos => ckM (ckE fu C ca a) fun x => ck (.ntN x)
    | _ => none
  | fu + 1, C, .isB ca b, e => match e with
    | .Compare a [.Is] [.Constant (.bool b') j p] pos =>
      ckM (ckE fu C ca a) fun x =>
      ckIf (p := b' = b) fun h => by subst h; exact .isB x
    | _ => none
  | fu + 1, C, .ntB ca b, e => match e with
    | .Compare a [.IsNot] [.Constant (.bool b') j p] pos =>
      ckM (ckE fu C ca a) fun x =>
      ckIf (p := b' = b) fun h => by subst h; exact .ntB x
    | _ => none
  | fu + 1, C, .ife cc ca cb, e => match e with
    | .IfExp c a b pos =>
      ckM (ckT fu C cc c) fun z =>
      ckM (ckE fu C ca a) fun x =>
      ckM (ckE fu C cb b) fun y =>
      ck (.ife z x y)
    | _ => none
  | fu + 1, C, .call g cs, e => match e with
    | .Call (.Name x p) (e1 :: es) [] pos =>
      ckM (ckEs fu C cs (e1 :: es)) fun a =>
      match hf : C.fns[g]? with
      | some (y, np, nd) => ckIf (p := x = y ∧ GlD C.sc y ∧ okName y = true ∧ cs.length ≤ np ∧ np ≤ cs.length + nd) fun h => by
          rw [h.1]; exact .call hf h.2.1 h.2.2.1 h.2.2.2.1 h.2.2.2.2 a
      | none => none
    | _ => none
  | fu + 1, C, .bi b cs, e => match e with
    | .Call (.Name x p) (e1 :: es) [] pos =>
      ckM (ckEs fu C cs (e1 :: es)) fun a =>
      ckIf (p := x = b.name ∧ GlD C.sc b.name ∧ b.name ∈ C.free) fun h => by rw [h.1]; exact .bi h.2.1 h.2.2 a
    | _ => none
  | fu + 1, C, .mt m co cs, e => match m, cs with
    | .append, [ce] => match e with
      | .Call (.Attribute o n apos) [e1] [] pos =>
        ckM (ckE fu C co o) fun x =>
        ckM (ckE fu C ce e1) fun y =>
        ckIf (p := n = ("append" : Str) ∧ noCall o = true ∧ (apos.endLine == pos.line) = true) fun h => by rw [h.1]; exact .app x y h.2.1 h.2.2
      | _ => none
    | .count, [ce] => match e with
      | .Call (.Attribute o n apos) [e1] [] pos =>
        ckM (ckE fu C co o) fun x =>
        ckM (ckE fu C ce e1) fun y =>
        ckIf (p := n = ("count" : Str) ∧ noCall o = true ∧ (apos.endLine == pos.line) = true) fun h => by rw [h.1]; exact .cnt x y h.2.1 h.2.2
      | _ => none
    | .bits, [] => match e with
      | .Call (.Attribute o n apos) [] [] pos =>
        ckM (ckE fu C co o) fun x =>
        ckIf (p := n = ("bit_length" : Str) ∧ noCall o = true ∧ (apos.endLine == pos.line) = true) fun h => by rw [h.1]; exact .bits x h.2.1 h.2.2
      | _ => none
    | _, _ => none
  | fu + 1, C, .idx ca cb, e => match e with
    | .Subscript a b pos =>
      ckM (ckE fu C ca a) fun x =>
      ckM (ckE fu C cb b) fun y =>
      ckIf (p := noSlice b = true) fun h => .idx x y h
    | _ => none
  | fu + 1, C, .slc ca cl ch, e => match e with
    | .Subscript a (.Slice lo hi none p) pos =>
      ckM (ckE fu C ca a) fun x =>
      ckM (ckO fu C cl lo) fun y =>
      ckM (ckO fu C ch hi) fun z =>
      ck (.slc x y z)
    | _ => none
  | fu + 1, C, .lc own g it c ce, e => match e with
    | .ListComp elt [⟨tg, iter, ifs, 0⟩] s pos =>
      ckM (ckI fu C it tg iter) fun a =>
      ckM (ckG fu (C.blkC s) g tg) fun b =>
      ckM (ckC fu (C.blkC s) c ifs) fun d =>
      ckM (ckE fu (C.blkC s) ce elt) fun f =>
      ckIf (p := L2.blkC C.N C.sc s (ownOf C.N own) = true ∧ (tgIx g).all (fun j => ((ownOf C.N own).map (·.2)).contains j) = true ∧ noSetE iter = true) fun h => by
        have := TrE.lc (pos := pos) h.1 h.2.1 a b d f h.2.2
        rw [ownOf_snd] at this
        exact this
    | _ => none
  | fu + 1, C, .lrng ca cb, e => match e with
    | .Call (.Name n p) [.Call (.Name n2 p2) [a, b] [] p3] [] pos =>
      ckM (ckE fu C ca a) fun x =>
      ckM (ckE fu C cb b) fun y =>
      ckIf (p := n = ("list" : Str) ∧ n2 = ("range" : Str) ∧ GlD C.sc "list" ∧ (("list" : Str) ∈ C.free) ∧ GlD C.sc "range" ∧ (("range" : Str) ∈ C.free)) fun h => by
        rw [h.1, h.2.1]; exact .lrng h.2.2.1 h.2.2.2.1 h.2.2.2.2.1 h.2.2.2.2.2 x y
    | _ => none
def ckB : Nat → (C : Ct) → (op : BoolOp) → (c : E) → (es : List Expr) → (pos : Pos) → Ck (TrE C (.BoolOp op es pos) c)
  | 0, _, _, _, _, _ => none
  | fu + 1, C, op, .and ca cb, es, pos => match op, es with
    | .And, a :: b :: rest =>
      ckM (ckE fu C ca a) fun x =>
      ckM (ckB fu C .And cb (b :: rest) pos) fun y =>
      ck (.and x y)
    | _, [a] => ckM (ckE fu C (.and ca cb) a) fun x => ck (.one x)
    | _, _ => none
  | fu + 1, C, op, .or ca cb, es, pos => match op, es with
    | .Or, a :: b :: rest =>
      ckM (ckE fu C ca a) fun x =>
      ckM (ckB fu C .Or cb (b :: rest) pos) fun y =>
      ck (.or x y)
    | _, [a] => ckM (ckE fu C (.or ca cb) a) fun x => ck (.one x)
    | _, _ => none
  | fu + 1, C, op, c, es, pos => match es with
    | [a] => ckM (ckE fu C c a) fun x => ck (.one x)
    | _ => none
def ckEs : Nat → (C : Ct) → (cs : List E) → (es : List Expr) → Ck (TrEs C es cs)
  | 0, _, _, _ => none
  | fu + 1, C, [], es => match es with
    | [] => ck .nil
    | _ :: _ => none
  | fu + 1, C, c :: cs, es => match es with
    | e :: es => ckM (ckE fu C c e) fun a => ckM (ckEs fu C cs es) fun b => ck (.cons a b)
    | [] => none
def ckO : Nat → (C : Ct) → (c : Option E) → (e : Option Expr) → Ck (TrO C e c)
  | 0, _, _, _ => none
  | fu + 1, C, none, e => match e with
    | none => ck .none
    | some _ => none
  | fu + 1, C, some c, e => match e with
    | some e => ckM (ckE fu C c e) fun a => ck (.some a)
    | none => none
def ckC : Nat → (C : Ct) → (c : Option E) → (es : List Expr) → Ck (TrC C es c)
  | 0, _, _, _ => none
  | fu + 1, C, none, es => match es with
    | [] => ck .none
    | _ :: _ => none
  | fu + 1, C, some c, es => match es with
    | [e] => ckM (ckT fu C c e) fun a => ck (.some a)
    | _ => none
def ckT : Nat → (C : Ct) → (c : E) → (e : Expr) → Ck (TrT C e c)
  | 0, _, _, _ => none
  | fu + 1, C, .not ca, e => match e with
    | .UnaryOp .Not a pos => ckM (ckT fu C ca a) fun x => ck (.not x)
    | _ => none
  | fu + 1, C, .and ca cb, e => match e with
    | .BoolOp .And (a :: b :: rest) pos =>
      ckM (ckT fu C ca a) fun x =>
      ckM (ckW fu C .And cb (b :: rest)) fun y =>
      ck (.bool (.and x y))
    | _ => none
  | fu + 1, C, .or ca cb, e => match e with
    | .BoolOp .Or (a :: b :: rest) pos =>
      ckM (ckT fu C ca a) fun x =>
      ckM (ckW fu C .Or cb (b :: rest)) fun y =>
      ck (.bool (.or x y))
    | _ => none
  | fu + 1, C, .cmp op ca cb, e => match e with
    | .Compare a [o] [b] pos =>
      ckM (ckE fu C ca a) fun x =>
      ckM (ckE fu C cb b) fun y =>
      ckIf (p := o = op.op ∧ noSetE b = true) fun h => by rw [h.1]; exact .cmp x y h.2
    | _ => none
  | fu + 1, C, .cmp2 op op2 ca cb cc, e => match e with
    | .Compare a [o, o2] [b, c] pos =>
      ckM (ckE fu C ca a) fun x =>
      ckM (ckE fu C cb b) fun y =>
      ckM (ckE fu C cc c) fun z =>
      ckIf (p := o = op.op ∧ o2 = op2.op ∧ noSetE c = true) fun h => by rw [h.1, h.2.1]; exact .cmp2 x y z h.2.2
    | _ => none
  | fu + 1, C, .isN ca, e => match e with
    | .Compare a [.Is] [.Constant .none j p] pos => ckM (ckE fu C ca a) fun x => ck (.isN x)
    | _ => none
  | fu + 1, C, .ntN ca, e => match e with
    | .Compare a [.IsNot] [.Constant .none j p] pos => ckM (ckE fu C ca a) fun x => ck (.ntN x)
    | _ => none
  | fu + 1, C, .isB ca b, e => match e with
    | .Compare a [.Is] [.Constant (.bool b') j p] pos =>
      ckM (ckE fu C ca a) fun x =>
      ckIf (p := b' = b) fun h => by subst h; exact .isB x
    | _ => none
  | fu + 1, C, .ntB ca b, e => match e with
    | .Compare a [.IsNot] [.Constant (.bool b') j p] pos =>
      ckM (ckE fu C ca a) fun x =>
      ckIf (p := b' = b) fun h => by subst h; exact .ntB x
    | _ => none
  | fu + 1, C, .var i, e => match e with
    | .Name x pos => ckIf (p := C.N[i]? = some x ∧ Vis C.sc x ∧ okName x = true) fun h => .var (.var h.1 h.2.1 h.2.2) rfl
    | _ => none
  | fu + 1, C, .call g cs, e => match e with
    | .Call (.Name x p) (e1 :: es) [] pos =>
      ckM (ckEs fu C cs (e1 :: es)) fun a =>
      match hf : C.fns[g]? with
      | some (y, np, nd) => ckIf (p := x = y ∧ GlD C.sc y ∧ okName y = true ∧ cs.length ≤ np ∧ np ≤ cs.length + nd) fun h => by
          rw [h.1]; exact .call (.call hf h.2.1 h.2.2.1 h.2.2.2.1 h.2.2.2.2 a) rfl
      | none => none
    | _ => none
  | fu + 1, C, .bi b cs, e => match e with
    | .Call (.Name x p) (e1 :: es) [] pos =>
      ckM (ckEs fu C cs (e1 :: es)) fun a =>
      ckIf (p := x = b.name ∧ GlD C.sc b.name ∧ b.name ∈ C.free) fun h => by rw [h.1]; exact .bi (.bi h.2.1 h.2.2 a) rfl
    | _ => none
  | fu + 1, C, .idx ca cb, e => match e with
    | .Subscript a b pos =>
      ckM (ckE fu C ca a) fun x =>
      ckM (ckE fu C cb b) fun y =>
      ckIf (p := noSlice b = true) fun h => .idx (.idx x y h) rfl
    | _ => none
  | fu + 1, C, _, _ => none
def ckW : Nat → (C : Ct) → (op : BoolOp) → (c : E) → (es : List Expr) → Ck (TrB C op es c)
  | 0, _, _, _, _ => none
  | fu + 1, C, op, .and ca cb, es => match op, es with
    | .And, a :: b :: rest =>
      ckM (ckT fu C ca a) fun x =>
      ckM (ckW fu C .And cb (b :: rest)) fun y =>
      ck (.and x y)
    | _, [a] => ckM (ckT fu C (.and ca cb) a) fun x => ck (.one x)
    | _, _ => none
  | fu + 1, C, op, .or ca cb, es => match op, es with
    | .Or, a :: b :: rest =>
      ckM (ckT fu C ca a) fun x =>
      ckM (ckW fu C .Or cb (b :: rest)) fun y =>
      ck (.or x y)
    | _, [a] => ckM (ckT fu C (.or ca cb) a) fun x => ck (.one x)
    | _, _ => none
  | fu + 1, C, op, c, es => match es with
    | [a] => ckM (ckT fu C c a) fun x => ck (.one x)
    | _ => none
def ckI : Nat → (C : Ct) → (c : It) → (tg e : Expr) → Ck (TrI C tg e c)
  | 0, _, _, _, _ => none
  | fu + 1, C, .seq c, tg, e => ckM (ckE fu C c e) fun a => ck (.seq a)
  | fu + 1, C, .rng1 ca, tg, e => match e with
    | .Call (.Name n p) [a] [] pos =>
      ckM (ckE fu C ca a) fun x =>
      ckIf (p := n = ("range" : Str) ∧ GlD C.sc "range" ∧ (("range" : Str) ∈ C.free)) fun h => by rw [h.1]; exact .rng1 h.2.1 h.2.2 x
    | _ => none
  | fu + 1, C, .rng2 ca cb, tg, e => match e with
    | .Call (.Name n p) [a, b] [] pos =>
      ckM (ckE fu C ca a) fun x =>
      ckM (ckE fu C cb b) fun y =>
      ckIf (p := n = ("range" : Str) ∧ GlD C.sc "range" ∧ (("range" : Str) ∈ C.free)) fun h => by rw [h.1]; exact .rng2 h.2.1 h.2.2 x y
    | _ => none
  | fu + 1, C, .enum ca, tg, e => match tg, e with
    | .Tuple es kk tpos, .Call (.Name n p) [a] [] pos =>
      ckM (ckE fu C ca a) fun x =>
      ckIf (p := n = ("enumerate" : Str) ∧ GlD C.sc "enumerate" ∧ (("enumerate" : Str) ∈ C.free)) fun h => by rw [h.1]; exact .enum h.2.1 h.2.2 x
    | _, _ => none
  | fu + 1, C, .zip ca cb, tg, e => match tg, e with
    | .Tuple es kk tpos, .Call (.Name n p) [a, b] [] pos =>
      ckM (ckE fu C ca a) fun x =>
      ckM (ckE fu C cb b) fun y =>
      ckIf (p := n = ("zip" : Str) ∧ GlD C.sc "zip" ∧ (("zip" : Str) ∈ C.free)) fun h => by rw [h.1]; exact .zip h.2.1 h.2.2 x y
    | _, _ => none
def ckG : Nat → (C : Ct) → (t : Tg) → (e : Expr) → Ck (TrG C e t)
  | 0, _, _, _ => none
  | fu + 1, C, .nm i, e => match e with
    | .Name x pos => ckIf (p := C.N[i]? = some x ∧ storeB C x = true) fun h => .nm h.1 (storeB_ok h.2)
    | _ => none
  | fu + 1, C, .tup ts, e => match e with
    | .Tuple es k pos => ckM (ckGs fu C ts es) fun a => ck (.tup a)
    | _ => none
  | fu + 1, C, .sub co ci, e => match e with
    | .Subscript o i pos =>
      ckM (ckE fu C co o) fun x =>
      ckM (ckE fu C ci i) fun y =>
      ckIf (p := noSlice i = true) fun h => .sub x y h
    | _ => none
def ckGs : Nat → (C : Ct) → (ts : List Tg) → (es : List Expr) → Ck (TrGs C es ts)
  | 0, _, _, _ => none
  | fu + 1, C, [], es => match es with
    | [] => ck .nil
    | _ :: _ => none
  | fu + 1, C, t :: ts, es => match es with
    | e :: es =>
      ckM (ckG fu C t e) fun a =>
      ckM (ckGs fu C ts es) fun b =>
      ckIf (p := noStar e = true) fun h => .cons a b h
    | [] => none
end
theorem par2_ok {C : Ct} {i j : Nat} {x y : Str} {a b : Expr} {ca cb : E} {px py pt : Pos} {kt k2 pt2 pos} (x1 : TrE C a ca) (x2 : TrE C b cb) (h : C.N[i]? = some x ∧ C.N[j]? = some y ∧ i ≠ j ∧ x ≠ y ∧ C.sc.names.lookup x = some .local ∧ C.sc.names.lookup y = some .local ∧ (py.line == px.line) = true ∧
      (foldedForSure 8 a && foldedForSure 8 b) = false ∧ (constantsAlone 8 a && constantsAlone 8 b) = false) : TrS C (.Assign [.Tuple [.Name x px, .Name y py] kt pt] (.Tuple [a, b] k2 pt2) pos) (.par2 i j ca cb) := by
  obtain ⟨h1, h2, h3, h4, h5, h6, h7, h8, h9⟩ := h
  exact .par2 h1 h2 h3 h4 h5 h6 h7 x1 x2 h8 h9
theorem par3_ok {C : Ct} {i j l : Nat} {x y z : Str} {a b c : Expr} {ca cb cc : E} {px py pz pt : Pos} {kt k2 pt2 pos} (x1 : TrE C a ca) (x2 : TrE C b cb) (x3 : TrE C c cc) (h : C.N[i]? = some x ∧ C.N[j]? = some y ∧ C.N[l]? = some z ∧ i ≠ j ∧ i ≠ l ∧ j ≠ l ∧ x ≠ y ∧ x ≠ z ∧ y ≠ z ∧ C.sc.names.lookup x = some .local ∧ C.sc.names.lookup y = some .local ∧ C.sc.names.lookup z = some .local ∧
      (py.line == px.line) = true ∧ (pz.line == px.line) = true ∧ (foldedForSure 8 a && (foldedForSure 8 b && foldedForSure 8 c)) = false ∧ (constantsAlone 8 a && (constantsAlone 8 b && constantsAlone 8 c)) = false) :
      TrS C (.Assign [.Tuple [.Name x px, .Name y py, .Name z pz] kt pt] (.Tuple [a, b, c] k2 pt2) pos) (.par3 i j l ca cb cc) := by
  obtain ⟨h1, h2, h3, h4, h5, h6, h7, h8, h9, h10, h11, h12, h13, h14, h15, h16⟩ := h
  exact .par3 h1 h2 h3 h4 h5 h6 h7 h8 h9 h10 h11 h12 h13 h14 x1 x2 x3 h15 h16
mutual
def ckS : Nat → (C : Ct) → (c : S) → (s : Stmt) → Ck (TrS C s c)
  | 0, _, _, _ => none
  | fu + 1, C, .asg g c, s => match g, s with
    | .nm i, .Assign [.Name y py] (.ListComp elt gs sc cp) pos =>
      ckM (ckE fu C c (.ListComp elt gs sc cp)) fun a =>
      ckIf (p := C.N[i]? = some y ∧ C.sc.names.lookup y = some .local ∧ (py.line == cp.line) = true ∧ (sc.names.any fun (n, k) => n == y && (k == .local || k == .cell)) = false) fun h => .asgC h.1 h.2.1 h.2.2.1 h.2.2.2 a
    | g, .Assign [t] e pos =>
      ckM (ckG fu C g t) fun a =>
      ckM (ckE fu C c e) fun b =>
      if h : (noTupE t || noTupE e) = true ∧ (noComp e || noNameE t) = true then ck (.asg a b h.1 h.2) else
      match t, e, a, b with
      | .Tuple ts k p, .Tuple vs k2 p2, a, b => if h : 4 ≤ ts.length then ck (.asg4 a b h) else if h : ts.all (locE C.sc) = false then ck (.asgN a b h) else ckIf (p := vs.all (foldedForSure 8) = true) fun h => .asgK a b h
      | _, _, _, _ => none
    | _, _ => none
  | fu + 1, C, .asg2 g1 g2 c, s => match s with
    | .Assign [t, u] e pos =>
      ckM (ckG fu C g1 t) fun x =>
      ckM (ckG fu C g2 u) fun y =>
      ckM (ckE fu C c e) fun z =>
      ckIf (p := noStar t = true ∧ noStar u = true) fun h => .asg2 x y z h.1 h.2
    | _ => none
  | fu + 1, C, .asg3 g1 g2 g3 c, s => match s with
    | .Assign [t, u, w] e pos =>
      ckM (ckG fu C g1 t) fun x =>
      ckM (ckG fu C g2 u) fun y =>
      ckM (ckG fu C g3 w) fun y2 =>
      ckM (ckE fu C c e) fun z =>
      ckIf (p := noStar t = true ∧ noStar u = true ∧ noStar w = true) fun h => .asg3 x y y2 z h.1 h.2.1 h.2.2
    | _ => none
  | fu + 1, C, .par2 i j ca cb, s => match s with
    | .Assign [.Tuple [.Name x px, .Name y py] kt pt] (.Tuple [a, b] k2 pt2) pos =>
      ckM (ckE fu C ca a) fun u =>
      ckM (ckE fu C cb b) fun v =>
      ckIf (par2_ok u v)
    | _ => none
  | fu + 1, C, .par3 i j l ca cb cc, s => match s with
    | .Assign [.Tuple [.Name x px, .Name y py, .Name z pz] kt pt] (.Tuple [a, b, c] k2 pt2) pos =>
      ckM (ckE fu C ca a) fun u =>
      ckM (ckE fu C cb b) fun v =>
      ckM (ckE fu C cc c) fun w =>
      ckIf (par3_ok u v w)
    | _ => none
  | fu + 1, C, .aug i op c, s => match s with
    | .AugAssign (.Name x px) o e pos =>
      ckM (ckE fu C c e) fun a =>
      ckIf (p := o = op.op ∧ C.N[i]? = some x ∧ storeB C x = true) fun h => by rw [h.1]; exact .aug h.2.1 (storeB_ok h.2.2) a
    | _ => none
  | fu + 1, C, .expr c, s => match s with
    | .Expr e pos => ckM (ckE fu C c e) fun a => ckIf (p := noComp e = true) fun h => .expr a h
    | _ => none
  | fu + 1, C, .ret c, s => match s with
    | .Return (some e) pos => ckM (ckE fu C c e) fun a => ck (.ret a)
    | _ => none
  | fu + 1, C, .retN, s => match s with
    | .Return none pos => ck .retN
    | _ => none
  | fu + 1, C, .iff cc ca cb, s => match s with
    | .If c a b pos =>
      ckM (ckT fu C cc c) fun x =>
      ckM (ckSs fu C ca a) fun y =>
      ckM (ckSs fu C cb b) fun z =>
      ck (.iff x y z)
    | _ => none
  | fu + 1, C, .for_ g i b, s => match s with
    | .For tg it body [] pos =>
      ckM (ckI fu C i tg it) fun x =>
      ckM (ckG fu C g tg) fun y =>
      ckM (ckSs fu C b body) fun z =>
      ckIf (p := noSetE it = true) fun h => .for_ x y z h
    | _ => none
  | fu + 1, C, .while_ cc b, s => match s with
    | .While c body [] pos =>
      ckM (ckT fu C cc c) fun x =>
      ckM (ckSs fu C b body) fun z =>
      ck (.while_ x z)
    | _ => none
  | fu + 1, C, .pass, s => match s with
    | .Pass pos => ck .pass
    | _ => none
  | fu + 1, C, .brk, s => match s with
    | .Break pos => ck .brk
    | _ => none
  | fu + 1, C, .cnt, s => match s with
    | .Continue pos => ck .cnt
    | _ => none
  | fu + 1, C, .never, s => ck .never
def ckSs : Nat → (C : Ct) → (cs : List S) → (ss : List Stmt) → Ck (TrSs C ss cs)
  | 0, _, _, _ => none
  | fu + 1, C, [], ss => match ss with
    | [] => ck .nil
    | _ :: _ => none
  | fu + 1, C, c :: cs, ss => match ss with
    | s :: ss => ckM (ckS fu C c s) fun a => ckM (ckSs fu C cs ss) fun b => ck (.cons a b)
    | [] => none
end
theorem ck_ok {p : Prop} {a : Ck p} (h : a.isSome = true) : p := by
  cases a with
  | none => cases h
  | some a => exact a.down
end AM

namespace AM
open PySem L2 PyProof.Rows
/-! ### a program: its defs and their codes -/
structure DD where
  x : Str
  ps : List Str
  N : List Str
  params : Arguments
  body : List Stmt
  scope : Scope
  dfl : List He.Dv := []
  fn : Fn
def DD.dvs (D : DD) (K : PySem.W.Frag) : List V := D.dfl.map (He.Dv.v K)
def DD.fun_ (D : DD) (K : PySem.W.Frag) (f : Addr) (fd : FuncData) : Prop := FunD K D.x D.x D.params D.body D.scope (D.dvs K) [] f fd
def DD.def_ (D : DD) : He.DefD := ⟨(D.x, none), D.x, D.x, D.params, D.body, D.scope, D.dfl, []⟩
def DD.sig (D : DD) : Str × Nat × Nat := (D.x, D.ps.length, D.dfl.length)
def sigs (Ds : List DD) : List (Str × Nat × Nat) := Ds.map DD.sig
/-- the defaults' values as the machine has them -/
def dvB : List Vl → List He.Dv → Bool
  | [], [] => true
  | .non :: xs, .non :: ds => dvB xs ds
  | .bl b :: xs, .bl c :: ds => b == c && dvB xs ds
  | .int b :: xs, .int c :: ds => decide (b = c) && dvB xs ds
  | .str b :: xs, .str c :: ds => decide (b = c) && dvB xs ds
  | _, _ => false
theorem dvB_ok {K : PySem.W.Frag} {H : Hp} {ι : List Addr} : ∀ {xs : List Vl} {ds : List He.Dv}, dvB xs ds = true → RlA K H ι xs (ds.map (He.Dv.v K))
  | [], [], _ => .nil
  | .non :: xs, .non :: ds, h => .cons .non (dvB_ok (show dvB xs ds = true from h))
  | .bl b :: xs, .bl c :: ds, h => by
    obtain ⟨h1, h2⟩ := Bool.and_eq_true_iff.mp (show (b == c && dvB xs ds) = true from h)
    cases eq_of_beq h1
    exact .cons (.bl _) (dvB_ok h2)
  | .int b :: xs, .int c :: ds, h => by
    obtain ⟨h1, h2⟩ := Bool.and_eq_true_iff.mp (show (decide (b = c) && dvB xs ds) = true from h)
    cases of_decide_eq_true h1
    exact .cons (.int _) (dvB_ok h2)
  | .str b :: xs, .str c :: ds, h => by
    obtain ⟨h1, h2⟩ := Bool.and_eq_true_iff.mp (show (decide (b = c) && dvB xs ds) = true from h)
    cases of_decide_eq_true h1
    exact .cons (.str _) (dvB_ok h2)
  | [], _ :: _, h => by cases h
  | .non :: _, [], h => by cases h
  | .bl _ :: _, [], h => by cases h
  | .int _ :: _, [], h => by cases h
  | .str _ :: _, [], h => by cases h
structure DOk (fl : List (Str × Nat × Nat)) (free : List Str) (D : DD) : Prop where
  sc : FnScope D.N D.ps D.scope
  np : D.fn.np = D.ps.length
  ns : D.fn.ns = D.N.length
  tr : TrSs ⟨D.N, D.scope, none, fl, free⟩ D.body D.fn.body
  dv : dvB D.fn.dv D.dfl = true
  bn : ∀ (K : PySem.W.Frag) (f : Addr) (fd : FuncData), D.fun_ K f fd → ∀ k, k ≤ D.dfl.length → ∃ ds, Binds K fd D.ps ds ∧ Vals ((D.dvs K).drop k) ds
def dokB (fl : List (Str × Nat × Nat)) (free : List Str) (D : DD) : Bool :=
  decide (D.scope.kind = .function) && (!D.scope.isCoroutine && (!D.scope.isGenerator && (decide D.N.Nodup && (decide (D.N.take D.ps.length = D.ps) && ((D.ps.all fun x => decide (D.scope.names.lookup x = some .local ∨ D.scope.names.lookup x = some .cell)) && ((D.scope.names.all fun y => decide (y.2 ≠ .free)) &&
    (decide (D.fn.np = D.ps.length) && (decide (D.fn.ns = D.N.length) && ((ckSs 300 ⟨D.N, D.scope, none, fl, free⟩ D.fn.body D.body).isSome && dvB D.fn.dv D.dfl)))))))))
theorem dokB_ok {fl : List (Str × Nat × Nat)} {free : List Str} {D : DD} (h : dokB fl free D = true)
    (bn : ∀ (K : PySem.W.Frag) (f : Addr) (fd : FuncData), D.fun_ K f fd → ∀ k, k ≤ D.dfl.length → ∃ ds, Binds K fd D.ps ds ∧ Vals ((D.dvs K).drop k) ds) : DOk fl free D := by
  unfold dokB at h
  simp only [Bool.and_eq_true] at h
  obtain ⟨h1, h2, h3, h4, h5, h6, h7, h8, h9, h10, h11⟩ := h
  refine ⟨⟨of_decide_eq_true h1, by simpa using h2, by simpa using h3, of_decide_eq_true h4, of_decide_eq_true h5, fun x hx => ?_, fun y hy => ?_⟩, of_decide_eq_true h8, of_decide_eq_true h9, ck_ok h10, h11, bn⟩
  · exact of_decide_eq_true (List.all_eq_true.mp h6 x hx)
  · exact of_decide_eq_true (List.all_eq_true.mp h7 y hy)
theorem map_ge {α β : Type} {f : α → β} {l : List α} {g : Nat} {y : β} (h : (l.map f)[g]? = some y) : ∃ x, l[g]? = some x ∧ f x = y := by
  rw [List.getElem?_map] at h
  cases e : l[g]? with
  | none => rw [e] at h; cases h
  | some x => rw [e] at h; exact ⟨x, rfl, Option.some.inj h⟩
theorem RlA.len {K : PySem.W.Frag} {H : Hp} {ι : List Addr} : ∀ {xs : List Vl} {vs : List V}, RlA K H ι xs vs → xs.length = vs.length
  | _, _, .nil => rfl
  | _, _, .cons _ h => congrArg Nat.succ h.len
theorem RlA.ge {K : PySem.W.Frag} {H : Hp} {ι : List Addr} : ∀ {xs : List Vl} {vs : List V} {i : Nat} {x : Vl}, RlA K H ι xs vs → xs[i]? = some x → ∃ v, vs[i]? = some v ∧ Rl K H ι x v
  | _, _, _, _, .nil, h => by simp at h
  | _, _, 0, _, .cons a _, h => by
    simp at h; subst h
    exact ⟨_, rfl, a⟩
  | _, _, i + 1, _, .cons _ b, h => b.ge (i := i) (by simpa using h)
theorem start_env {K : PySem.W.Frag} {H : Hp} {ι : List Addr} {ws : List Vl} {vs : List V} {N : List Str} {fn : Fn} (r : RlA K H ι ws vs) (hn : fn.ns = N.length) : EnvR K H ι (startE fn ws) (L2.start N vs) := by
  refine ⟨by simp [startE, L2.start, r.len, hn], fun i w h => ?_⟩
  unfold startE at h
  by_cases hi : i < ws.length
  · rw [List.getElem?_append_left (by simpa using hi), List.getElem?_map] at h
    cases e : ws[i]? with
    | none => rw [e] at h; cases h
    | some x =>
      rw [e] at h
      cases h
      obtain ⟨v, e2, r2⟩ := r.ge e
      refine ⟨v, ?_, r2⟩
      unfold L2.start
      rw [List.getElem?_append_left (by simpa [← r.len] using hi), List.getElem?_map, e2]
      rfl
  · rw [List.getElem?_append_right (by simpa using hi), List.getElem?_replicate] at h
    split at h <;> cases h
section
variable {p : Pgm} {cl : Nat → Addr} {Ds : List DD} {free : List Str} {P : Program} {w : World} {K : PySem.W.Frag} {mg : Str → Option Value} {base : Heap}
theorem pgOk (hp : p.fns = Ds.map (·.fn)) (hD : ∀ D ∈ Ds, DOk (sigs Ds) free D) (hf : ∀ x ∈ free, mg x = none) (hF : ∀ D ∈ Ds, ∃ f fd, mg D.x = some (.ref f) ∧ D.fun_ K f fd) :
    ∀ (d g : Nat) (D : DD) (f : Addr) (fd : FuncData), Ds[g]? = some D → D.fun_ K f fd → FnOk P w K mg base (L2.CX P w) d f fd D.ps (spG p cl K d g D.ps.length)
  | 0, g, D, f, fd, _, _ => ⟨fun _ _ _ _ h => h.1, fun A outer s H args us vs Q E hr e0 hb r hsp => by
      obtain ⟨_, ι, h, ws, _, _, q⟩ := hsp
      exact False.elim q⟩
  | d + 1, g, D, f, fd, hg, F => by
    have hm := List.mem_of_getElem? hg
    have O := hD D hm
    refine FunD.ok F O.sc (fun _ _ _ _ h => h.1) fun cdv A outer s H vs Q E hr hsp => ?_
    obtain ⟨hl, ι, h, ws, r, rv, q⟩ := hsp
    have hX : XOk p cl d ⟨D.N, D.scope, none, sigs Ds, free⟩ (cxOf (L2.CX P w) P w K mg base D.N D.x D.scope f cdv A outer s H E) (fun cls d _ H => E cls d H) := by
      refine ⟨rfl, rfl, O.sc.nd, rfl, fun _ => rfl, fun s h => (by cases h), hr, L2.takes_of (X := cxOf (L2.CX P w) P w K mg base D.N D.x D.scope f cdv A outer s H E) rfl rfl rfl rfl, hf, fun g' x np nd e => ?_⟩
      obtain ⟨D', e1, e2⟩ := map_ge e
      have hm' := List.mem_of_getElem? e1
      obtain ⟨f', fd', m', F'⟩ := hF D' hm'
      cases e2
      have O' := hD D' hm'
      exact ⟨f', fd', D'.ps, D'.fn, D'.dvs K, m', FunD.kp F', by rw [hp, List.getElem?_map, e1]; rfl, O'.np, (dvB_ok (K := K) (H := H) (ι := []) O'.dv).len.trans (by simp [DD.dvs]), fun H ι => dvB_ok O'.dv, pgOk hp hD hf hF d g' D' f' fd' e1 F', O'.bn K f' fd' F'⟩
    refine ⟨_, sSs O.tr hX O.sc.kind (L2.passes_of rfl), ι, h, startE D.fn ws, r, start_env rv O.ns, ?_⟩
    unfold callD at q
    rw [hp, List.getElem?_map, hg] at q
    have hws : ws.length = D.fn.np := rv.len.trans (hl.trans O.np.symm)
    have ef : fillF D.fn ws = ws := by unfold fillF; rw [hws]; simp
    simp only [Option.map_some, ef, hws, if_true] at q
    rw [← hp] at q
    show PostS K (XW cl fun cls d _ H => E cls d H) ι H _ (exSs (callD p.fns p.wf d) p.wf (startE D.fn ws) D.fn.body h)
    cases z : exSs (callD p.fns p.wf d) p.wf (startE D.fn ws) D.fn.body h with
    | no => rw [z] at q; exact False.elim q
    | ex c v h' => rw [z] at q; exact False.elim q
    | ok fl h5 =>
      rw [z] at q
      cases fl with
      | nx e5 => exact fun ι5 H5 σ5 st5 r5 env5 => q ι5 H5 .non st5 r5 .non
      | rt v5 => exact fun ι5 H5 v st5 r5 x5 => q ι5 H5 v st5 r5 x5
      | bk e5 => exact False.elim q
      | ct e5 => exact False.elim q
      | xc c v e5 => exact fun ι5 H5 σ5 v st5 r5 env5 x5 => q ι5 H5 v st5 r5 x5
end
/-- at the law's call: nothing is written yet -/
theorem sp_start {p : Pgm} {cl : Nat → Addr} {K : PySem.W.Frag} {d g : Nat} {H : Hp} {a : Addr} {ns : List Int} {Q : VK} {E : XK} (hO : Only H) (hS : SqL K H a (ns.map V.int)) (hz : ns.length ≤ sizeLine)
    (h : ∃ h', callD p.fns p.wf d g [.rol (ns.map .int)] [] = .ok (.bl true) h') (q : ∀ H', Q (.bl true) H') : spG p cl K d g 1 [.ref a] H Q E := by
  obtain ⟨h', e⟩ := h
  have rl : ∀ ns : List Int, RlA K H [] (ns.map .int) (ns.map V.int) := fun ns => by
    induction ns with
    | nil => exact .nil
    | cons n l ih => exact .cons (.int n) ih
  refine ⟨rfl, [], [], [.rol (ns.map .int)], ⟨rfl, List.nodup_nil, fun i o z => by simp at z⟩, .cons (.rol ?_ (rl ns)) .nil, ?_⟩
  · rcases hS with (e | ⟨o, e⟩) | e
    · rcases hO a with z | ⟨o, xs, z⟩ <;> rw [z] at e <;> cases e
    · exact .inl ⟨o, e⟩
    · exact .inr e
  · rw [e]
    intro ι2 H2 v st r x
    cases x
    exact q H2
end AM

namespace AM
open PySem PySem.Spec PyProof.Rows L2
/-- the end, exceptions' wish hanging on the world -/
theorem walk_ofW {l : PySem.W.OpenLaw} {n k : Nat} {q : Program} {loose : List Str} {XP : (Str → Option Value) → Heap → Prop} {YP : World → Heap → Prop} {d : DefRec} {CX : World → CXT} {x : Str}
    (hn : l.most = some n) (hn2 : n ≤ sizeLine) (hdf : d.params.defaults = []) (hr : Room k callerA)
    (F : ∀ (w : World) (mg : Str → Option Value) (fa : Addr) (h : Heap), YP w h → h.Ns mainGlobals mg → mg d.name = some (.ref fa) →
      ∃ (K : PySem.W.Frag) (fd : FuncData) (sp : Sp), K.In h ∧ (∀ (s : Shared) (u : Value), BindsTo s fd ⟨[u], []⟩ [(x, u)]) ∧
        (∀ (H : Hp) (a : Addr) (ns : List Int), ns.length ≤ n → Only H → SqL K H a (ns.map V.int) → sp [.ref a] H (fun v _ => v = .bl true) fun _ _ _ => False) ∧
        ∀ base : Heap, K.In base → base.Ns mainGlobals mg → FnOk l.prog w K mg base (CX w) k fa fd [x] sp)
    (hCX : ∀ (w : World) (H : Hp) (s : Shared) (e : Value) (s' : Shared), CX w [] H s (fun _ _ _ => False) e s' → False) :
    PySem.W.WalkO q loose XP YP l.row.toRowW d [] (fun f vs => PySem.call f vs) := by
  refine Att.attach_call hn hdf fun w s₀ s₁ mg mb fa o pm cd doc a vs ns G Y ho hd hcd hmg hobj hints hlen hg => ?_
  obtain ⟨K, fd, sp, KX, hb, hsp, hF⟩ := F w mg fa _ Y G.T.g hmg
  exact law_call KX G.T.g G.T.b G.T.builtins G.T.nolimit hg hobj hints (Nat.le_trans hlen hn2) hr hF hb (fun H hO hS => hsp H a ns hlen hO hS) fun H e s' => hCX w H s₁ e s'
theorem cx_none {P : Program} {w : World} {outer : List Env} {H : Hp} {s : Shared} {u : Value} {s' : Shared} (h : L2.CX P w outer H s (fun _ _ _ => False) u s') : False := by
  obtain ⟨a, B, H', cls, d, _, _, _, _, _, _, _, e⟩ := h
  exact e
end AM

namespace AM
open PySem L2
/-! ### what a run ends with -/
/-- keeps rewriting out of what comes behind -/
inductive Dum {α : Type} (Q : α → SH → Prop) (X : Nat → Vl → SH → Prop) : Type where
  | mk
def wp {α : Type} (r : Rs α) (Q : α → SH → Prop) (X : Nat → Vl → SH → Prop) (_ : Dum Q X := .mk) : Prop := match r with
  | .ok a h => Q a h
  | .ex c v h => X c v h
  | .no => False
def thn (P : En → SH → Prop) (Q : Fl → SH → Prop) : Fl → SH → Prop
  | .nx σ, h => P σ h
  | .rt v, h => Q (.rt v) h
  | .bk σ, h => Q (.bk σ) h
  | .ct σ, h => Q (.ct σ) h
  | .xc c v σ, h => Q (.xc c v σ) h
def endP (Q : Vl → SH → Prop) (X : Nat → Vl → SH → Prop) : Fl → SH → Prop
  | .rt v, h => Q v h
  | .nx _, h => Q .non h
  | .xc c v _, h => X c v h
  | .bk _, _ => False
  | .ct _, _ => False
def NoX : Nat → Vl → SH → Prop := fun _ _ _ => False
/-- behind a loop's turn: on | out -/
def lpP (I : En → SH → Prop) (Q : Fl → SH → Prop) : Fl → SH → Prop
  | .nx σ, h => I σ h
  | .ct σ, h => I σ h
  | .bk σ, h => Q (.nx σ) h
  | .rt v, h => Q (.rt v) h
  | .xc c v σ, h => Q (.xc c v σ) h
section
variable {α β : Type} {Q : α → SH → Prop} {QF : Fl → SH → Prop} {X : Nat → Vl → SH → Prop} {h : SH} {P : En → SH → Prop} {QV : Vl → SH → Prop}
theorem wp_ok {a : α} : wp (.ok a h) Q X = Q a h := rfl
theorem wp_exn {c : Nat} {v : Vl} : wp (.ex c v h : Rs α) Q X = X c v h := rfl
theorem wp_no : wp (.no : Rs α) Q X = False := rfl
theorem wp_ret {a : α} : wp (ret a h) Q X = Q a h := rfl
theorem wp_fail : wp ((fail : M α) h) Q X = False := rfl
theorem wp_bind {m : M β} {f : β → M α} : wp (bind m f h) Q X = wp (m h) (fun a h1 => wp (f a h1) Q X) X := by unfold bind; cases m h <;> rfl
theorem wp_lift {m : M β} {f : β → M Fl} {σ : En} : wp (lift σ m f h) QF X = wp (m h) (fun a h1 => wp (f a h1) QF X) (fun c v h1 => QF (.xc c v σ) h1) := by unfold lift; cases m h <;> rfl
theorem wp_noEx {m : M α} : wp (noEx m h) Q X = wp (m h) Q NoX := by unfold noEx; cases m h <;> rfl
theorem wp_then {m : M Fl} {f : En → M Fl} : wp (andThen m f h) QF X = wp (m h) (thn (fun σ h1 => wp (f σ h1) QF X) QF) X := by
  unfold andThen
  cases m h with
  | ok fl h1 => cases fl <;> rfl
  | _ => rfl
theorem wp_end {r : Rs Fl} : wp (endF r) QV X = wp r (endP QV X) NoX := by
  cases r with
  | ok fl h1 => cases fl <;> rfl
  | _ => rfl
theorem wp_alloc {o : Ob} : wp (alloc o h) QV X = QV (.ref h.length) (h ++ [o]) := rfl
theorem wp_ite {c : Prop} [Decidable c] {a b : M α} : wp ((if c then a else b) h) Q X = if c then wp (a h) Q X else wp (b h) Q X := by split <;> rfl
theorem wp_iteR {c : Prop} [Decidable c] {a b : Rs α} : wp (if c then a else b) Q X = if c then wp a Q X else wp b Q X := by split <;> rfl
theorem wpQ {r : Rs α} {Q' : α → SH → Prop} (e : ∀ a h, Q a h = Q' a h) : wp r Q X = wp r Q' X := by
  have : Q = Q' := funext fun a => funext fun h => e a h
  subst this
  rfl
theorem wpX {r : Rs α} {Q' : α → SH → Prop} {X' : Nat → Vl → SH → Prop} (e : ∀ a h, Q a h = Q' a h) (x : X = X') : wp r Q X = wp r Q' X' := by
  subst x
  exact wpQ e
theorem wp_mono {r : Rs α} {Q' : α → SH → Prop} {X' : Nat → Vl → SH → Prop} (w : wp r Q X) (q : ∀ a h, Q a h → Q' a h) (x : ∀ c v h, X c v h → X' c v h) : wp r Q' X' := by
  cases r with
  | ok a h => exact q _ _ w
  | ex c v h => exact x _ _ _ w
  | no => exact w
theorem wp_q {r : Rs α} {Q' : α → SH → Prop} (w : wp r Q NoX) (q : ∀ a h, Q a h → Q' a h) : wp r Q' X := wp_mono w q fun _ _ _ z => False.elim z
theorem wp_out {r : Rs α} {P : α → Prop} (w : wp r (fun a _ => P a) NoX) : ∃ a h, r = .ok a h ∧ P a := by
  cases r with
  | ok a h => exact ⟨a, h, rfl, w⟩
  | ex c v h => exact False.elim w
  | no => exact False.elim w
theorem thn_nx {σ : En} : thn P QF (.nx σ) h = P σ h := rfl
theorem thn_rt {v : Vl} : thn P QF (.rt v) h = QF (.rt v) h := rfl
theorem thn_bk {σ : En} : thn P QF (.bk σ) h = QF (.bk σ) h := rfl
theorem thn_ct {σ : En} : thn P QF (.ct σ) h = QF (.ct σ) h := rfl
theorem thn_xc {c : Nat} {v : Vl} {σ : En} : thn P QF (.xc c v σ) h = QF (.xc c v σ) h := rfl
theorem endP_nx {σ : En} : endP QV X (.nx σ) h = QV .non h := rfl
theorem endP_rt {v : Vl} : endP QV X (.rt v) h = QV v h := rfl
theorem endP_xc {c : Nat} {v : Vl} {σ : En} : endP QV X (.xc c v σ) h = X c v h := rfl
theorem lpP_nx {σ : En} : lpP P QF (.nx σ) h = P σ h := rfl
theorem lpP_ct {σ : En} : lpP P QF (.ct σ) h = P σ h := rfl
theorem lpP_bk {σ : En} : lpP P QF (.bk σ) h = QF (.nx σ) h := rfl
theorem lpP_rt {v : Vl} : lpP P QF (.rt v) h = QF (.rt v) h := rfl
theorem lpP_xc {c : Nat} {v : Vl} {σ : En} : lpP P QF (.xc c v σ) h = QF (.xc c v σ) h := rfl
theorem noX {c : Nat} {v : Vl} : NoX c v h = False := rfl
/-! ### loops -/
theorem wp_loopS {src : Src} {step : Vl → En → M Fl} (I : Nat → En → SH → Prop) (n : Nat)
    (go : ∀ k σ h, k < n → I k σ h → ∃ x, itemS h k src = some (some x) ∧ wp (step x σ h) (lpP (I (k + 1)) QF) X)
    (stop : ∀ σ h, I n σ h → itemS h n src = some none ∧ QF (.nx σ) h) : ∀ (m k : Nat) (σ : En) (h : SH), k ≤ n → n < m + k → I k σ h → wp (loopS src step m k σ h) QF X
  | 0, k, σ, h, h1, h2, _ => by omega
  | m + 1, k, σ, h, h1, h2, i => by
    unfold loopS
    by_cases hk : k = n
    · subst hk
      obtain ⟨e, q⟩ := stop σ h i
      rw [e]
      exact q
    · obtain ⟨x, e, w⟩ := go k σ h (by omega) i
      rw [e]
      dsimp only
      cases z : step x σ h with
      | no => rw [z] at w; exact w
      | ex c v h' => rw [z] at w; exact w
      | ok fl h' =>
        rw [z] at w
        cases fl with
        | nx σ' => exact wp_loopS I n go stop m (k + 1) σ' h' (by omega) (by omega) w
        | ct σ' => exact wp_loopS I n go stop m (k + 1) σ' h' (by omega) (by omega) w
        | bk σ' => exact w
        | rt v => exact w
        | xc c v σ' => exact w
theorem wp_loopC {src : Src} {step : Vl → M (Option Vl)} (I : Nat → List Vl → SH → Prop) (n : Nat)
    (go : ∀ k acc h, k < n → I k acc h → ∃ x, itemS h k src = some (some x) ∧ wp (step x h) (fun o h1 => match o with
      | none => I (k + 1) acc h1
      | some y => acc.length < lim ∧ I (k + 1) (acc ++ [y]) h1) NoX)
    (stop : ∀ acc h, I n acc h → itemS h n src = some none ∧ QV (.ref h.length) (h ++ [.lst acc])) : ∀ (m k : Nat) (acc : List Vl) (h : SH), k ≤ n → n < m + k → I k acc h → wp (loopC src step m k acc h) QV X
  | 0, k, acc, h, h1, h2, _ => by omega
  | m + 1, k, acc, h, h1, h2, i => by
    unfold loopC
    by_cases hk : k = n
    · subst hk
      obtain ⟨e, q⟩ := stop acc h i
      rw [e]
      exact q
    · obtain ⟨x, e, w⟩ := go k acc h (by omega) i
      rw [e]
      dsimp only
      cases z : step x h with
      | no => rw [z] at w; exact w
      | ex c v h' => rw [z] at w; exact False.elim w
      | ok fl h' =>
        rw [z] at w
        cases fl with
        | none => exact wp_loopC I n go stop m (k + 1) acc h' (by omega) (by omega) w
        | some y =>
          dsimp only [wp] at w
          dsimp only
          rw [if_pos w.1]
          exact wp_loopC I n go stop m (k + 1) _ h' (by omega) (by omega) w.2
end
/-! ### what stays -/
/-- all that stands stands on, but the objects rs -/
structure Fr (rs : List Nat) (h h' : SH) : Prop where
  len : h.length ≤ h'.length
  at_ : ∀ i o, i ∉ rs → h[i]? = some o → h'[i]? = some o
section
variable {rs rs' : List Nat} {h h1 h2 : SH}
theorem Fr.refl : Fr rs h h := ⟨Nat.le_refl _, fun _ _ _ e => e⟩
theorem Fr.trans (a : Fr rs h h1) (b : Fr rs h1 h2) : Fr rs h h2 := ⟨Nat.le_trans a.len b.len, fun i o n e => b.at_ i o n (a.at_ i o n e)⟩
theorem Fr.mono (a : Fr rs h h1) (s : ∀ i ∈ rs, i ∈ rs') : Fr rs' h h1 := ⟨a.len, fun i o n e => a.at_ i o (fun z => n (s i z)) e⟩
theorem Fr.nil (a : Fr [] h h1) : Fr rs h h1 := a.mono fun i z => by cases z
theorem Fr.alloc (o : Ob) : Fr rs h (h ++ [o]) := ⟨by simp, fun i u _ e => by
  have := (List.getElem?_eq_some_iff.mp e).1
  rw [List.getElem?_append_left this]; exact e⟩
theorem Fr.put {r : Nat} (m : r ∈ rs) (o : Ob) : Fr rs h (h.set r o) := ⟨by simp, fun i u n e => by
  rw [List.getElem?_set_ne (fun z => n (by rw [← z]; exact m))]; exact e⟩
/-- what was made since is left alone -/
theorem Fr.cut (a : Fr rs h h1) (s : ∀ i ∈ rs, i < h.length → i ∈ rs') : Fr rs' h h1 := ⟨a.len, fun i o n e => a.at_ i o (fun z => n (s i z (List.getElem?_eq_some_iff.mp e).1)) e⟩
theorem Fr.get (a : Fr [] h h1) {i : Nat} {o : Ob} (e : h[i]? = some o) : h1[i]? = some o := a.at_ i o (by simp) e
theorem get_new {o : Ob} : (h ++ [o])[h.length]? = some o := by simp
theorem get_lt {i : Nat} {o : Ob} (e : h[i]? = some o) : i < h.length := (List.getElem?_eq_some_iff.mp e).1
theorem get_put {i : Nat} {o u : Ob} (e : h[i]? = some u) : (h.set i o)[i]? = some o := by
  rw [List.getElem?_set_self (get_lt e)]
end
/-! ### calls -/
theorem call_eq {fns : List Fn} {W d g : Nat} {us : List Vl} {f : Fn} (hg : fns[g]? = some f) {vs : List Vl} (hv : fillF f us = vs) (hl : vs.length = f.np) : callD fns W (d + 1) g us = fun h => endF (exSs (callD fns W d) W (startE f vs) f.body h) := by
  rw [callD, hg]
  dsimp only
  rw [hv, if_pos hl]
end AM

namespace AM
open PySem L2
/-! ### values as trees -/
mutual
inductive Dt (h : SH) : Vl → PyData → Prop
  | non : Dt h .non .none
  | bl (b : Bool) : Dt h (.bl b) (.bool b)
  | int (i : Int) : Dt h (.int i) (.int i)
  | str (s : Str) : Dt h (.str s) (.str s)
  | tup {xs ds} : Dts h xs ds → Dt h (.tup xs) (.tuple ds)
  | rol {xs ds} : Dts h xs ds → Dt h (.rol xs) (.list ds)
  | ref {i xs ds} : h[i]? = some (.lst xs) → Dts h xs ds → Dt h (.ref i) (.list ds)
inductive Dts (h : SH) : List Vl → List PyData → Prop
  | nil : Dts h [] []
  | cons {x xs d ds} : Dt h x d → Dts h xs ds → Dts h (x :: xs) (d :: ds)
end
mutual
def fz : PyData → Nat
  | .list ds => fzs ds + 1
  | .tuple ds => fzs ds + 1
  | _ => 0
def fzs : List PyData → Nat
  | [] => 0
  | d :: ds => max (fz d) (fzs ds) + 1
end
mutual
theorem data_of {h : SH} : ∀ {v : Vl} {d : PyData}, Dt h v d → ∀ n, fz d ≤ n → data h n v = some d
  | _, _, .non, n, _ => by cases n <;> rfl
  | _, _, .bl b, n, _ => by cases n <;> rfl
  | _, _, .int b, n, _ => by cases n <;> rfl
  | _, _, .str b, n, _ => by cases n <;> rfl
  | _, _, .tup q, n, hn => by
    unfold fz at hn
    obtain ⟨m, rfl⟩ : ∃ m, n = m + 1 := ⟨n - 1, by omega⟩
    unfold data
    rw [datas_of q m (by omega)]
    rfl
  | _, _, .rol q, n, hn => by
    unfold fz at hn
    obtain ⟨m, rfl⟩ : ∃ m, n = m + 1 := ⟨n - 1, by omega⟩
    unfold data
    rw [datas_of q m (by omega)]
    rfl
  | _, _, .ref e q, n, hn => by
    unfold fz at hn
    obtain ⟨m, rfl⟩ : ∃ m, n = m + 1 := ⟨n - 1, by omega⟩
    unfold data
    rw [e]
    dsimp only
    rw [datas_of q m (by omega)]
    rfl
theorem datas_of {h : SH} : ∀ {v : List Vl} {d : List PyData}, Dts h v d → ∀ n, fzs d ≤ n → datas h n v = some d
  | _, _, .nil, n, _ => by cases n <;> rfl
  | _, _, .cons a b, n, hn => by
    unfold fzs at hn
    obtain ⟨m, rfl⟩ : ∃ m, n = m + 1 := ⟨n - 1, by omega⟩
    unfold datas
    rw [data_of a m (by omega), datas_of b m (by omega)]
end
mutual
theorem Dt.fr {h h' : SH} (f : Fr [] h h') : ∀ {v : Vl} {d : PyData}, Dt h v d → Dt h' v d
  | _, _, .non => .non
  | _, _, .bl b => .bl b
  | _, _, .int b => .int b
  | _, _, .str b => .str b
  | _, _, .tup q => .tup (q.fr f)
  | _, _, .rol q => .rol (q.fr f)
  | _, _, .ref e q => .ref (f.get e) (q.fr f)
theorem Dts.fr {h h' : SH} (f : Fr [] h h') : ∀ {v : List Vl} {d : List PyData}, Dts h v d → Dts h' v d
  | _, _, .nil => .nil
  | _, _, .cons a b => .cons (a.fr f) (b.fr f)
end
theorem Dts.len {h : SH} : ∀ {v : List Vl} {d : List PyData}, Dts h v d → v.length = d.length
  | _, _, .nil => rfl
  | _, _, .cons a b => congrArg Nat.succ b.len
theorem Dts.ge {h : SH} : ∀ {v : List Vl} {d : List PyData} {i : Nat} {x : Vl}, Dts h v d → v[i]? = some x → ∃ y, d[i]? = some y ∧ Dt h x y
  | _, _, _, _, .nil, e => by simp at e
  | _, _, 0, _, .cons a _, e => by
    simp at e; subst e
    exact ⟨_, rfl, a⟩
  | _, _, i + 1, _, .cons _ b, e => b.ge (i := i) (by simpa using e)
structure EqOk (d : PyData) : Prop where
  sh : SeqAt.shaped d = true
  fz : AM.fz d ≤ lim
theorem eqD_of {h : SH} {a b : Vl} {d e : PyData} (ha : Dt h a d) (hb : Dt h b e) (oa : EqOk d) (ob : EqOk e) : eqD h a b = some (PyData.eqv d e) := by
  unfold eqD
  rw [data_of ha _ oa.fz, data_of hb _ ob.fz]
  dsimp only
  rw [if_pos ⟨oa.sh, ob.sh⟩]
mutual
theorem eqv_self : ∀ {d : PyData}, d.canLay0 = true → PyData.eqv d d = true
  | .none, _ => rfl
  | .bool b, _ => by simp [PyData.eqv]
  | .int b, _ => by simp [PyData.eqv]
  | .str b, _ => by simp [PyData.eqv]
  | .list ds, h => by
    unfold PyData.eqv
    exact eqvAll_self h
  | .tuple ds, h => by
    unfold PyData.eqv
    exact eqvAll_self h
  | .dict ds, h => by cases h
theorem eqvAll_self : ∀ {d : List PyData}, PyData.canLayAll0 d = true → PyData.eqvAll d d = true
  | [], _ => rfl
  | d :: ds, h => by
    obtain ⟨h1, h2⟩ := Bool.and_eq_true_iff.mp (show (d.canLay0 && PyData.canLayAll0 ds) = true from h)
    unfold PyData.eqvAll
    rw [eqv_self h1, eqvAll_self h2]
    rfl
end
theorem ok_non : EqOk .none := ⟨rfl, by decide⟩
theorem ok_bl (b : Bool) : EqOk (.bool b) := ⟨rfl, by unfold fz; decide⟩
theorem ok_int (i : Int) : EqOk (.int i) := ⟨rfl, by unfold fz; decide⟩
theorem ok_str {s : Str} (h : PyData.strOk s = true) : EqOk (.str s) := ⟨by unfold SeqAt.shaped PyData.canLay0; rw [h]; rfl, by unfold fz; decide⟩
section
variable {h : SH}
theorem eqD_bl {a b : Bool} : eqD h (.bl a) (.bl b) = some (a == b) := eqD_of (.bl a) (.bl b) (ok_bl _) (ok_bl _)
theorem eqD_int {a b : Int} : eqD h (.int a) (.int b) = some (a == b) := eqD_of (.int a) (.int b) (ok_int _) (ok_int _)
theorem eqD_str {a b : Str} (ha : PyData.strOk a = true) (hb : PyData.strOk b = true) : eqD h (.str a) (.str b) = some (a == b) := eqD_of (.str a) (.str b) (ok_str ha) (ok_str hb)
theorem eqD_non : eqD h .non .non = some true := eqD_of .non .non ok_non ok_non
theorem eqD_self {a b : Vl} {d : PyData} (ha : Dt h a d) (hb : Dt h b d) (o : EqOk d) : eqD h a b = some true := by
  rw [eqD_of ha hb o o, eqv_self (SeqAt.canLay_of_shaped o.sh)]
end
end AM

namespace AM
namespace Y
open PySem L2 AM
/-! ### runs of codes, one step at a time -/
def ifB (v : Vl) (P R : Prop) : Prop := match v with
  | .bl true => P
  | .bl false => R
  | _ => False
theorem ifB_bl {b : Bool} {P R : Prop} : ifB (.bl b) P R = if b = true then P else R := by cases b <;> rfl
def isI (v : Vl) (P : Int → Prop) : Prop := match v with
  | .int i => P i
  | _ => False
theorem isI_int {i : Int} {P : Int → Prop} : isI (.int i) P = P i := rfl
def isT (v : Vl) (P : List Vl → Prop) : Prop := match v with
  | .tup i => P i
  | _ => False
theorem isT_tup {i : List Vl} {P : List Vl → Prop} : isT (.tup i) P = P i := rfl
def isS {α : Type} (v : Option α) (P : α → Prop) : Prop := match v with
  | some i => P i
  | none => False
theorem isS_some {α : Type} {i : α} {P : α → Prop} : isS (some i) P = P i := rfl
def isSS (v : Option (Option Vl)) (P : Vl → Prop) : Prop := match v with
  | some (some i) => P i
  | _ => False
theorem isSS_some {i : Vl} {P : Vl → Prop} : isSS (some (some i)) P = P i := rfl
def isO (v : Option Ob) (P : List Vl → Prop) (R : List (Key × Vl) → Prop) : Prop := match v with
  | some (.lst xs) => P xs
  | some (.dct kvs) => R kvs
  | none => False
theorem isO_lst {xs : List Vl} {P : List Vl → Prop} {R : List (Key × Vl) → Prop} : isO (some (.lst xs)) P R = P xs := rfl
theorem isO_dct {xs : List (Key × Vl)} {P : List Vl → Prop} {R : List (Key × Vl) → Prop} : isO (some (.dct xs)) P R = R xs := rfl
/-- loops, as they stand in the codes -/
def forL (call : Nat → List Vl → M Vl) (wf : Nat) (src : Src) (g : Tg) (b : List S) : Nat → Nat → En → M Fl := loopS src fun x σ1 => lift σ1 (noEx (evg call σ1 g x)) fun σ2 => exSs call wf σ2 b
def cmpL (call : Nat → List Vl → M Vl) (σ : En) (src : Src) (own : List Nat) (g : Tg) (c : Option E) (e : E) : Nat → Nat → List Vl → M Vl :=
  loopC src fun x => bind (evg call (wipeE σ own) g x) fun σ1 => bind (evc call σ1 c) fun r => if r = true then bind (ev call σ1 e) fun y => ret (some y) else ret none
def whlL (call : Nat → List Vl → M Vl) (wf : Nat) (c : E) (b : List S) : Nat → En → M Fl := loopW (fun σ1 => evt call σ1 c) fun σ1 => exSs call wf σ1 b
section
variable {call : Nat → List Vl → M Vl} {wf : Nat} {σ : En} {h : SH} {Q : Vl → SH → Prop} {QF : Fl → SH → Prop} {QB : Bool → SH → Prop} {QE : En → SH → Prop} {X : Nat → Vl → SH → Prop} {a b c e : E} {es : List E} {i j : Nat} {s : S} {ss : List S}
theorem y_var : wp (ev call σ (.var i) h) Q X = isSS σ[i]? fun v => Q v h := by
  rw [ev]
  cases σ[i]? with
  | none => rfl
  | some o => cases o <;> rfl
theorem y_non : wp (ev call σ .non h) Q X = Q .non h := by rw [ev, wp_ret]
theorem y_bl {k : Bool} : wp (ev call σ (.bl k) h) Q X = Q (.bl k) h := by rw [ev, wp_ret]
theorem y_int {k : Int} : wp (ev call σ (.int k) h) Q X = Q (.int k) h := by rw [ev, wp_ret]
theorem y_str {k : Str} : wp (ev call σ (.str k) h) Q X = Q (.str k) h := by rw [ev, wp_ret]
theorem y_ty {k : Ty} : wp (ev call σ (.ty k) h) Q X = Q (.ty k) h := by rw [ev, wp_ret]
theorem ite_and {α : Type} {p : Prop} [Decidable p] {r : Rs α} {Q : α → SH → Prop} : wp (if p then r else .no) Q X = (p ∧ wp r Q X) := by
  split
  · rename_i x; exact propext ⟨fun y => ⟨x, y⟩, fun y => y.2⟩
  · rename_i x; exact propext ⟨fun y => False.elim y, fun y => x y.1⟩
theorem y_tup : wp (ev call σ (.tup es) h) Q X = wp (evs call σ es h) (fun vs h1 => vs.length ≤ lim ∧ Q (.tup vs) h1) X := by
  rw [ev, wp_bind]
  refine wpQ fun vs h1 => ?_
  rw [wp_ite]
  by_cases z : vs.length ≤ lim <;> simp [z, wp_ret, wp_fail]
theorem y_lst : wp (ev call σ (.lst es) h) Q X = wp (evs call σ es h) (fun vs h1 => vs.length ≤ lim ∧ Q (.ref h1.length) (h1 ++ [.lst vs])) X := by
  rw [ev, wp_bind]
  refine wpQ fun vs h1 => ?_
  rw [wp_ite]
  by_cases z : vs.length ≤ lim <;> simp [z, wp_alloc, wp_fail]
theorem y_dct0 : wp (ev call σ .dct0 h) Q X = Q (.ref h.length) (h ++ [.dct []]) := by rw [ev, wp_alloc]
theorem y_bin {op : Bop} : wp (ev call σ (.bin op a b) h) Q X = wp (ev call σ a h) (fun x h1 => wp (ev call σ b h1) (fun y h2 => wp (bopV op x y h2) Q X) X) X := by
  rw [ev, wp_bind]; refine wpQ fun x h1 => ?_; rw [wp_bind]
theorem y_neg : wp (ev call σ (.neg a) h) Q X = wp (ev call σ a h) (fun x h1 => isI x fun i => Q (.int (-i)) h1) X := by
  rw [ev, wp_bind]; refine wpQ fun x h1 => ?_; cases x <;> rfl
theorem y_not : wp (ev call σ (.not a) h) Q X = wp (ev call σ a h) (fun x h1 => ifB x (Q (.bl false) h1) (Q (.bl true) h1)) X := by
  rw [ev, wp_bind]; refine wpQ fun x h1 => ?_; cases x with
  | bl b => cases b <;> rfl
  | _ => rfl
theorem y_and : wp (ev call σ (.and a b) h) Q X = wp (ev call σ a h) (fun x h1 => ifB x (wp (ev call σ b h1) Q X) (Q (.bl false) h1)) X := by
  rw [ev, wp_bind]; refine wpQ fun x h1 => ?_; cases x with
  | bl b => cases b <;> rfl
  | _ => rfl
theorem y_or : wp (ev call σ (.or a b) h) Q X = wp (ev call σ a h) (fun x h1 => ifB x (Q (.bl true) h1) (wp (ev call σ b h1) Q X)) X := by
  rw [ev, wp_bind]; refine wpQ fun x h1 => ?_; cases x with
  | bl b => cases b <;> rfl
  | _ => rfl
theorem y_cmp {op : Cop} : wp (ev call σ (.cmp op a b) h) Q X = wp (ev call σ a h) (fun x h1 => wp (ev call σ b h1) (fun y h2 => wp (copV op x y h2) (fun r h3 => Q (.bl r) h3) X) X) X := by
  rw [ev, wp_bind]; refine wpQ fun x h1 => ?_; rw [wp_bind]; refine wpQ fun y h2 => ?_; rw [wp_bind]; rfl
theorem y_cmp2 {op op2 : Cop} : wp (ev call σ (.cmp2 op op2 a b c) h) Q X = wp (ev call σ a h) (fun x h1 => wp (ev call σ b h1) (fun y h2 => wp (copV op x y h2) (fun r h3 => if r = true then wp (ev call σ c h3) (fun z h4 => wp (copV op2 y z h4) (fun r2 h5 => Q (.bl r2) h5) X) X else Q (.bl false) h3) X) X) X := by
  rw [ev, wp_bind]; refine wpQ fun x h1 => ?_; rw [wp_bind]; refine wpQ fun y h2 => ?_; rw [wp_bind]; refine wpQ fun r h3 => ?_; rw [wp_ite]; congr 1; rw [wp_bind]; refine wpQ fun z h4 => ?_; rw [wp_bind]; rfl
def isNon : Vl → Bool
  | .non => true
  | _ => false
theorem isNon_non : isNon .non = true := rfl
theorem isNon_bl {k : Bool} : isNon (.bl k) = false := rfl
theorem isNon_int {k : Int} : isNon (.int k) = false := rfl
theorem isNon_str {k : Str} : isNon (.str k) = false := rfl
theorem isNon_tup {k : List Vl} : isNon (.tup k) = false := rfl
theorem isNon_rol {k : List Vl} : isNon (.rol k) = false := rfl
theorem isNon_ref {k : Nat} : isNon (.ref k) = false := rfl
theorem y_isN : wp (ev call σ (.isN a) h) Q X = wp (ev call σ a h) (fun x h1 => Q (.bl (isNon x)) h1) X := by
  rw [ev, wp_bind]; refine wpQ fun x h1 => ?_; cases x <;> rfl
theorem y_ntN : wp (ev call σ (.ntN a) h) Q X = wp (ev call σ a h) (fun x h1 => Q (.bl (!isNon x)) h1) X := by
  rw [ev, wp_bind]; refine wpQ fun x h1 => ?_; cases x <;> rfl
theorem y_isB {k : Bool} : wp (ev call σ (.isB a k) h) Q X = wp (ev call σ a h) (fun x h1 => ifB x (Q (.bl (decide (true = k))) h1) (Q (.bl (decide (false = k))) h1)) X := by
  rw [ev, wp_bind]; refine wpQ fun x h1 => ?_; cases x with
  | bl b => cases b <;> rfl
  | _ => rfl
theorem y_ntB {k : Bool} : wp (ev call σ (.ntB a k) h) Q X = wp (ev call σ a h) (fun x h1 => ifB x (Q (.bl (!decide (true = k))) h1) (Q (.bl (!decide (false = k))) h1)) X := by
  rw [ev, wp_bind]; refine wpQ fun x h1 => ?_; cases x with
  | bl b => cases b <;> rfl
  | _ => rfl
theorem y_ife : wp (ev call σ (.ife c a b) h) Q X = wp (evt call σ c h) (fun r h1 => if r = true then wp (ev call σ a h1) Q X else wp (ev call σ b h1) Q X) X := by
  rw [ev, wp_bind]; refine wpQ fun x h1 => ?_; rw [wp_ite]
theorem y_call {g : Nat} : wp (ev call σ (.call g es) h) Q X = wp (evs call σ es h) (fun vs h1 => wp (call g vs h1) Q X) X := by rw [ev, wp_bind]
theorem y_bi {k : Bi} : wp (ev call σ (.bi k es) h) Q X = wp (evs call σ es h) (fun vs h1 => wp (biV k vs h1) Q X) X := by rw [ev, wp_bind]
theorem y_mt {m : Mt} : wp (ev call σ (.mt m a es) h) Q X = wp (ev call σ a h) (fun x h1 => wp (chkM m x h1) (fun _ h2 => wp (evs call σ es h2) (fun vs h3 => wp (mtV m x vs h3) Q X) X) X) X := by
  rw [ev, wp_bind]; refine wpQ fun x h1 => ?_; rw [wp_bind]; refine wpQ fun _ h2 => ?_; rw [wp_bind]
theorem y_idx : wp (ev call σ (.idx a b) h) Q X = wp (ev call σ a h) (fun x h1 => wp (ev call σ b h1) (fun y h2 => wp (idxV x y h2) Q X) X) X := by
  rw [ev, wp_bind]; refine wpQ fun x h1 => ?_; rw [wp_bind]
theorem y_slc {lo hi : Option E} : wp (ev call σ (.slc a lo hi) h) Q X = wp (ev call σ a h) (fun x h1 => wp (evo call σ lo h1) (fun l h2 => wp (evo call σ hi h2) (fun u h3 => wp (slcV x l u h3) Q X) X) X) X := by
  rw [ev, wp_bind]; refine wpQ fun x h1 => ?_; rw [wp_bind]; refine wpQ fun l h2 => ?_; rw [wp_bind]
theorem y_lc {own : List Nat} {g : Tg} {it : It} {k : Option E} : wp (ev call σ (.lc own g it k e) h) Q X = wp (evi call σ it h) (fun src h1 => wp (cmpL call σ src own g k e (sizeS h1 src + 1) 0 [] h1) Q X) X := by rw [ev, wp_bind]; rfl
theorem y_lrng : wp (ev call σ (.lrng a b) h) Q X = wp (ev call σ a h) (fun x h1 => wp (ev call σ b h1) (fun y h2 => isI x fun i => isI y fun j => (-(2 ^ 62) ≤ i ∧ i < 2 ^ 62 ∧ -(2 ^ 62) ≤ j ∧ j < 2 ^ 62 ∧ (j - i).toNat ≤ lim) ∧ Q (.ref h2.length) (h2 ++ [.lst (rngL i (j - i).toNat)])) X) X := by
  rw [ev, wp_bind]; refine wpQ fun x h1 => ?_; rw [wp_bind]; refine wpQ fun y h2 => ?_
  cases x <;> first | rfl | skip
  rename_i i
  cases y <;> first | rfl | skip
  rename_i j
  dsimp only [isI]
  by_cases z : -(2 ^ 62) ≤ i ∧ i < 2 ^ 62 ∧ -(2 ^ 62) ≤ j ∧ j < 2 ^ 62 ∧ (j - i).toNat ≤ lim
  · rw [if_pos z, wp_alloc]; exact propext ⟨fun y => ⟨z, y⟩, fun y => y.2⟩
  · rw [if_neg z, wp_fail]; exact propext ⟨fun y => False.elim y, fun y => z y.1⟩
theorem y_nil {QL : List Vl → SH → Prop} : wp (evs call σ [] h) QL X = QL [] h := by rw [evs, wp_ret]
theorem y_cons {QL : List Vl → SH → Prop} : wp (evs call σ (e :: es) h) QL X = wp (ev call σ e h) (fun x h1 => wp (evs call σ es h1) (fun xs h2 => QL (x :: xs) h2) X) X := by
  rw [evs, wp_bind]; refine wpQ fun x h1 => ?_; rw [wp_bind]; rfl
theorem y_none {QO : Option Int → SH → Prop} : wp (evo call σ none h) QO X = QO none h := by rw [evo, wp_ret]
theorem y_some {QO : Option Int → SH → Prop} : wp (evo call σ (some e) h) QO X = wp (ev call σ e h) (fun x h1 => isI x fun i => QO (some i) h1) X := by
  rw [evo, wp_bind]; refine wpQ fun x h1 => ?_; cases x <;> rfl
theorem y_cnone : wp (evc call σ none h) QB X = QB true h := by rw [evc, wp_ret]
theorem y_csome : wp (evc call σ (some e) h) QB X = wp (evt call σ e h) QB X := by rw [evc]
theorem t_not : wp (evt call σ (.not a) h) QB X = wp (evt call σ a h) (fun r h1 => QB (!r) h1) X := by rw [evt, wp_bind]; rfl
theorem t_and : wp (evt call σ (.and a b) h) QB X = wp (evt call σ a h) (fun r h1 => if r = true then wp (evt call σ b h1) QB X else QB false h1) X := by
  rw [evt, wp_bind]; refine wpQ fun x h1 => ?_; rw [wp_ite]; rfl
theorem t_or : wp (evt call σ (.or a b) h) QB X = wp (evt call σ a h) (fun r h1 => if r = true then QB true h1 else wp (evt call σ b h1) QB X) X := by
  rw [evt, wp_bind]; refine wpQ fun x h1 => ?_; rw [wp_ite]; rfl
theorem t_var : wp (evt call σ (.var i) h) QB X = isSS σ[i]? fun v => wp (truth v h) QB X := by
  rw [evt, wp_bind]
  cases σ[i]? with
  | none => rfl
  | some o => cases o <;> rfl
theorem t_cmp {op : Cop} : wp (evt call σ (.cmp op a b) h) QB X = wp (ev call σ a h) (fun x h1 => wp (ev call σ b h1) (fun y h2 => wp (copV op x y h2) QB X) X) X := by
  rw [evt, wp_bind]; refine wpQ fun x h1 => ?_; rw [wp_bind]
theorem t_cmp2 {op op2 : Cop} : wp (evt call σ (.cmp2 op op2 a b c) h) QB X = wp (ev call σ a h) (fun x h1 => wp (ev call σ b h1) (fun y h2 => wp (copV op x y h2) (fun r h3 => if r = true then wp (ev call σ c h3) (fun z h4 => wp (copV op2 y z h4) QB X) X else QB false h3) X) X) X := by
  rw [evt, wp_bind]; refine wpQ fun x h1 => ?_; rw [wp_bind]; refine wpQ fun y h2 => ?_; rw [wp_bind]; refine wpQ fun r h3 => ?_; rw [wp_ite]; congr 1; rw [wp_bind]
theorem t_isN : wp (evt call σ (.isN a) h) QB X = wp (ev call σ a h) (fun x h1 => QB (isNon x) h1) X := by
  rw [evt, wp_bind]; refine wpQ fun x h1 => ?_; cases x <;> rfl
theorem t_ntN : wp (evt call σ (.ntN a) h) QB X = wp (ev call σ a h) (fun x h1 => QB (!isNon x) h1) X := by
  rw [evt, wp_bind]; refine wpQ fun x h1 => ?_; cases x <;> rfl
theorem t_isB {k : Bool} : wp (evt call σ (.isB a k) h) QB X = wp (ev call σ a h) (fun x h1 => ifB x (QB (decide (true = k)) h1) (QB (decide (false = k)) h1)) X := by
  rw [evt, wp_bind]; refine wpQ fun x h1 => ?_; cases x with
  | bl b => cases b <;> rfl
  | _ => rfl
theorem t_ntB {k : Bool} : wp (evt call σ (.ntB a k) h) QB X = wp (ev call σ a h) (fun x h1 => ifB x (QB (!decide (true = k)) h1) (QB (!decide (false = k)) h1)) X := by
  rw [evt, wp_bind]; refine wpQ fun x h1 => ?_; cases x with
  | bl b => cases b <;> rfl
  | _ => rfl
theorem t_call {g : Nat} : wp (evt call σ (.call g es) h) QB X = wp (evs call σ es h) (fun vs h1 => wp (call g vs h1) (fun v h2 => wp (truth v h2) QB X) X) X := by rw [evt, wp_bind, wp_bind]
theorem t_bi {k : Bi} : wp (evt call σ (.bi k es) h) QB X = wp (evs call σ es h) (fun vs h1 => wp (biV k vs h1) (fun v h2 => wp (truth v h2) QB X) X) X := by rw [evt, wp_bind, wp_bind]
theorem t_idx : wp (evt call σ (.idx a b) h) QB X = wp (ev call σ a h) (fun x h1 => wp (ev call σ b h1) (fun y h2 => wp (idxV x y h2) (fun v h3 => wp (truth v h3) QB X) X) X) X := by
  rw [evt, wp_bind, wp_bind]; refine wpQ fun x h1 => ?_; rw [wp_bind]
def srcV (v : Vl) (h : SH) (P : Src → Prop) : Prop := match v with
  | .tup xs => P (.told xs)
  | .rol xs => P (.told xs)
  | .ref i => isO h[i]? (fun _ => P (.cell i)) fun _ => False
  | _ => False
def enumV (v : Vl) (h : SH) (P : Src → Prop) : Prop := match v with
  | .rol xs => P (.enumT xs)
  | .ref i => isO h[i]? (fun _ => P (.enum i)) fun _ => False
  | _ => False
variable {QS : Src → SH → Prop}
theorem i_seq : wp (evi call σ (.seq e) h) QS X = wp (ev call σ e h) (fun x h1 => srcV x h1 fun s => QS s h1) X := by
  rw [evi, wp_bind]; refine wpQ fun x h1 => ?_; cases x <;> first | rfl | skip
  rename_i i
  dsimp only [srcV]
  cases h1[i]? with
  | none => rfl
  | some o => cases o <;> rfl
theorem i_rng1 : wp (evi call σ (.rng1 e) h) QS X = wp (ev call σ e h) (fun x h1 => isI x fun j => (-(2 ^ 62) ≤ j ∧ j < 2 ^ 62) ∧ QS (.told (rngL 0 j.toNat)) h1) X := by
  rw [evi, wp_bind]; refine wpQ fun x h1 => ?_; cases x <;> first | rfl | skip
  rename_i j
  dsimp only [isI]
  by_cases z : -(2 ^ 62) ≤ j ∧ j < 2 ^ 62
  · rw [if_pos z, wp_ret]; exact propext ⟨fun y => ⟨z, y⟩, fun y => y.2⟩
  · rw [if_neg z, wp_fail]; exact propext ⟨fun y => False.elim y, fun y => z y.1⟩
theorem i_rng2 : wp (evi call σ (.rng2 a b) h) QS X = wp (ev call σ a h) (fun x h1 => wp (ev call σ b h1) (fun y h2 => isI x fun i => isI y fun j => (-(2 ^ 62) ≤ i ∧ i < 2 ^ 62 ∧ -(2 ^ 62) ≤ j ∧ j < 2 ^ 62) ∧ QS (.told (rngL i (j - i).toNat)) h2) X) X := by
  rw [evi, wp_bind]; refine wpQ fun x h1 => ?_; rw [wp_bind]; refine wpQ fun y h2 => ?_
  cases x <;> first | rfl | skip
  rename_i i
  cases y <;> first | rfl | skip
  rename_i j
  dsimp only [isI]
  by_cases z : -(2 ^ 62) ≤ i ∧ i < 2 ^ 62 ∧ -(2 ^ 62) ≤ j ∧ j < 2 ^ 62
  · rw [if_pos z, wp_ret]; exact propext ⟨fun y => ⟨z, y⟩, fun y => y.2⟩
  · rw [if_neg z, wp_fail]; exact propext ⟨fun y => False.elim y, fun y => z y.1⟩
theorem i_enum : wp (evi call σ (.enum e) h) QS X = wp (ev call σ e h) (fun x h1 => enumV x h1 fun s => QS s h1) X := by
  rw [evi, wp_bind]; refine wpQ fun x h1 => ?_; cases x <;> first | rfl | skip
  rename_i i
  dsimp only [enumV]
  cases h1[i]? with
  | none => rfl
  | some o => cases o <;> rfl
def zipV (x y : Vl) (h : SH) (P : Src → Prop) : Prop := match x, y with
  | .tup xs, .tup ys => P (.zipT xs ys)
  | x, y => isS (litems h x) fun _ => isS (litems h y) fun _ => P (.zip x y)
theorem i_zip : wp (evi call σ (.zip a b) h) QS X = wp (ev call σ a h) (fun x h1 => wp (ev call σ b h1) (fun y h2 => zipV x y h2 fun s => QS s h2) X) X := by
  rw [evi, wp_bind]; refine wpQ fun x h1 => ?_; rw [wp_bind]; refine wpQ fun y h2 => ?_
  have key : ∀ x y : Vl, wp ((fun h => match litems h x, litems h y with
      | some _, some _ => Rs.ok (Src.zip x y) h
      | _, _ => Rs.no : M Src) h2) QS X = isS (litems h2 x) fun _ => isS (litems h2 y) fun _ => QS (.zip x y) h2 := fun x y => by
    dsimp only
    cases litems h2 x with
    | none => rfl
    | some _ => cases litems h2 y <;> rfl
  by_cases z : (∃ xs, x = .tup xs) ∧ ∃ ys, y = .tup ys
  · obtain ⟨⟨xs, rfl⟩, ys, rfl⟩ := z
    rfl
  · refine Eq.trans ?_ ((key x y).trans ?_)
    · congr 1
      cases x with
      | tup xs => cases y with
        | tup ys => exact absurd ⟨⟨_, rfl⟩, _, rfl⟩ z
        | _ => rfl
      | _ => rfl
    · cases x with
      | tup xs => cases y with
        | tup ys => exact absurd ⟨⟨_, rfl⟩, _, rfl⟩ z
        | _ => rfl
      | _ => rfl
theorem g_nm {v : Vl} : wp (evg call σ (.nm i) v h) QE X = QE (σ.set i (some v)) h := by rw [evg, wp_ret]
theorem g_tup {ts : List Tg} {v : Vl} : wp (evg call σ (.tup ts) v h) QE X = isT v fun vs => vs.length = ts.length ∧ wp (evgs call σ ts vs h) QE X := by
  cases v with
  | tup vs =>
    rw [evg]
    dsimp only [isT]
    by_cases z : vs.length = ts.length
    · rw [if_pos z]; exact propext ⟨fun y => ⟨z, y⟩, fun y => y.2⟩
    · rw [if_neg z, wp_fail]; exact propext ⟨fun y => False.elim y, fun y => z y.1⟩
  | _ => unfold evg; rfl
theorem g_sub {o k : E} {v : Vl} : wp (evg call σ (.sub o k) v h) QE X = wp (ev call σ o h) (fun x h1 => wp (ev call σ k h1) (fun y h2 => wp (setV x y v h2) (fun _ h3 => QE σ h3) X) X) X := by
  rw [evg, wp_bind]; refine wpQ fun x h1 => ?_; rw [wp_bind]; refine wpQ fun y h2 => ?_; rw [wp_bind]; rfl
theorem g_nil : wp (evgs call σ [] [] h) QE X = QE σ h := by rw [evgs, wp_ret]
theorem g_cons {t : Tg} {ts : List Tg} {v : Vl} {vs : List Vl} : wp (evgs call σ (t :: ts) (v :: vs) h) QE X = wp (evg call σ t v h) (fun σ1 h1 => wp (evgs call σ1 ts vs h1) QE X) X := by rw [evgs, wp_bind]
/-! statements -/
theorem s_nil' : wp (exSs call wf σ [] h) QF X = QF (.nx σ) h := by rw [exSs, wp_ret]
theorem s_cons' : wp (exSs call wf σ (s :: ss) h) QF X = wp (exS call wf σ s h) (thn (fun σ1 h1 => wp (exSs call wf σ1 ss h1) QF X) QF) X := by rw [exSs, wp_then]
def xcP (QF : Fl → SH → Prop) (σ : En) : Nat → Vl → SH → Prop := fun c v h => QF (.xc c v σ) h
theorem s_asg {t : Tg} : wp (exS call wf σ (.asg t e) h) QF X = wp (ev call σ e h) (fun v h1 => wp (evg call σ t v h1) (fun σ1 h2 => QF (.nx σ1) h2) NoX) (xcP QF σ) := by
  rw [exS, wp_lift]; refine wpQ fun v h1 => ?_; rw [wp_lift, wp_noEx]; rfl
theorem s_asg2' {t u : Tg} : wp (exS call wf σ (.asg2 t u e) h) QF X = wp (ev call σ e h) (fun v h1 => wp (evg call σ t v h1) (fun σ1 h2 => wp (evg call σ1 u v h2) (fun σ2 h3 => QF (.nx σ2) h3) NoX) NoX) (xcP QF σ) := by
  rw [exS, wp_lift]; refine wpQ fun v h1 => ?_; rw [wp_lift, wp_noEx]; refine wpQ fun σ1 h2 => ?_; rw [wp_lift, wp_noEx]; rfl
theorem s_asg3' {t u w : Tg} : wp (exS call wf σ (.asg3 t u w e) h) QF X = wp (ev call σ e h) (fun v h1 => wp (evg call σ t v h1) (fun σ1 h2 => wp (evg call σ1 u v h2) (fun σ2 h3 => wp (evg call σ2 w v h3) (fun σ3 h4 => QF (.nx σ3) h4) NoX) NoX) NoX) (xcP QF σ) := by
  rw [exS, wp_lift]; refine wpQ fun v h1 => ?_; rw [wp_lift, wp_noEx]; refine wpQ fun σ1 h2 => ?_; rw [wp_lift, wp_noEx]; refine wpQ fun σ2 h3 => ?_; rw [wp_lift, wp_noEx]; rfl
theorem s_par2' : wp (exS call wf σ (.par2 i j a b) h) QF X = wp (ev call σ a h) (fun x h1 => wp (ev call σ b h1) (fun y h2 => QF (.nx ((σ.set i (some x)).set j (some y))) h2) (xcP QF σ)) (xcP QF σ) := by
  rw [exS, wp_lift]; refine wpQ fun v h1 => ?_; rw [wp_lift]; rfl
theorem s_par3' {k : Nat} : wp (exS call wf σ (.par3 i j k a b c) h) QF X = wp (ev call σ a h) (fun x h1 => wp (ev call σ b h1) (fun y h2 => wp (ev call σ c h2) (fun z h3 => QF (.nx (((σ.set i (some x)).set j (some y)).set k (some z))) h3) (xcP QF σ)) (xcP QF σ)) (xcP QF σ) := by
  rw [exS, wp_lift]; refine wpQ fun v h1 => ?_; rw [wp_lift]; refine wpQ fun u h2 => ?_; rw [wp_lift]; rfl
theorem s_aug' {op : Bop} : wp (exS call wf σ (.aug i op e) h) QF X = isSS σ[i]? fun x => wp (ev call σ e h) (fun y h1 => wp (ibopV op x y h1) (fun z h2 => QF (.nx (σ.set i (some z))) h2) (xcP QF σ)) (xcP QF σ) := by
  rw [exS]
  cases σ[i]? with
  | none => rfl
  | some o => cases o with
    | none => rfl
    | some x =>
      dsimp only [isSS]
      rw [wp_lift]; refine wpQ fun v h1 => ?_; rw [wp_lift]; rfl
theorem s_expr' : wp (exS call wf σ (.expr e) h) QF X = wp (ev call σ e h) (fun _ h1 => QF (.nx σ) h1) (xcP QF σ) := by rw [exS, wp_lift]; rfl
theorem s_ret' : wp (exS call wf σ (.ret e) h) QF X = wp (ev call σ e h) (fun v h1 => QF (.rt v) h1) (xcP QF σ) := by rw [exS, wp_lift]; rfl
theorem s_retN' : wp (exS call wf σ .retN h) QF X = QF (.rt .non) h := by rw [exS, wp_ret]
theorem s_iff' {p q : List S} : wp (exS call wf σ (.iff c p q) h) QF X = wp (evt call σ c h) (fun r h1 => if r = true then wp (exSs call wf σ p h1) QF X else wp (exSs call wf σ q h1) QF X) (xcP QF σ) := by
  rw [exS, wp_lift]; refine wpQ fun v h1 => ?_; rw [wp_ite]
theorem s_for' {g : Tg} {it : It} : wp (exS call wf σ (.for_ g it ss) h) QF X = wp (evi call σ it h) (fun src h1 => wp (forL call wf src g ss (sizeS h1 src + 1) 0 σ h1) QF X) (xcP QF σ) := by rw [exS, wp_lift]; rfl
theorem s_whl' : wp (exS call wf σ (.while_ c ss) h) QF X = wp (whlL call wf c ss wf σ h) QF X := by rw [exS]; rfl
theorem s_pass' : wp (exS call wf σ .pass h) QF X = QF (.nx σ) h := by rw [exS, wp_ret]
theorem s_brk' : wp (exS call wf σ .brk h) QF X = QF (.bk σ) h := by rw [exS, wp_ret]
theorem s_cnt' : wp (exS call wf σ .cnt h) QF X = QF (.ct σ) h := by rw [exS, wp_ret]
theorem s_never' : wp (exS call wf σ .never h) QF X = False := by rw [exS, wp_fail]
/-! operations -/
theorem truth_bl {k : Bool} : wp (truth (.bl k) h) QB X = QB k h := rfl
theorem truth_non : wp (truth .non h) QB X = QB false h := rfl
theorem truth_int {k : Int} : wp (truth (.int k) h) QB X = QB (k != 0) h := rfl
theorem truth_tup {xs : List Vl} : wp (truth (.tup xs) h) QB X = QB (!xs.isEmpty) h := rfl
theorem truth_rol {xs : List Vl} : wp (truth (.rol xs) h) QB X = QB (!xs.isEmpty) h := rfl
theorem truth_ref : wp (truth (.ref i) h) QB X = isO h[i]? (fun xs => QB (!xs.isEmpty) h) fun kvs => QB (!kvs.isEmpty) h := by
  unfold truth
  dsimp only
  cases h[i]? with
  | none => rfl
  | some o => cases o <;> rfl
variable {p q : Int} {x y v : Vl}
theorem o_add : wp (bopV .add (.int p) (.int q) h) Q X = Q (.int (p + q)) h := rfl
theorem o_sub : wp (bopV .sub (.int p) (.int q) h) Q X = Q (.int (p - q)) h := rfl
theorem and_of {P R : Prop} [Decidable P] {A : Prop} {m : M Vl} (e : wp (m h) Q X = R) : wp ((if P then m else fail) h) Q X = (P ∧ R) := by
  by_cases z : P
  · rw [if_pos z, e]; exact propext ⟨fun y => ⟨z, y⟩, fun y => y.2⟩
  · rw [if_neg z, wp_fail]; exact propext ⟨fun y => False.elim y, fun y => z y.1⟩
theorem o_mul : wp (bopV .mul (.int p) (.int q) h) Q X = ((CMul p q ∨ CMulX p q) ∧ Q (.int (p * q)) h) := and_of (A := True) rfl
theorem o_mod : wp (bopV .mod (.int p) (.int q) h) Q X = (0 < q ∧ Q (.int (p % q)) h) := and_of (A := True) rfl
theorem o_fdv : wp (bopV .fdv (.int p) (.int q) h) Q X = ((CDiv p q ∨ CDivW p q) ∧ Q (.int (p / q)) h) := and_of (A := True) rfl
theorem o_pow : wp (bopV .pow (.int p) (.int q) h) Q X = (CPw p q ∧ Q (.int (p ^ q.toNat)) h) := and_of (A := True) rfl
theorem o_addL : wp (bopV .add (.ref i) (.ref j) h) Q X = isO h[i]? (fun xs => isO h[j]? (fun ys => xs.length + ys.length ≤ lim ∧ Q (.ref h.length) (h ++ [.lst (xs ++ ys)])) fun _ => False) fun _ => False := by
  show wp (addV (.ref i) (.ref j) h) Q X = _
  unfold addV
  dsimp only
  cases h[i]? with
  | none => rfl
  | some o => cases o with
    | dct kvs => rfl
    | lst xs => cases h[j]? with
      | none => rfl
      | some o => cases o with
        | dct kvs => rfl
        | lst ys => exact ite_and
theorem c_eq : wp (copV .eq x y h) QB X = isS (eqD h x y) fun r => QB r h := by
  unfold copV; dsimp only; cases eqD h x y <;> rfl
theorem c_ne : wp (copV .ne x y h) QB X = isS (eqD h x y) fun r => QB (!r) h := by
  unfold copV; dsimp only; cases eqD h x y <;> rfl
theorem c_lt : wp (copV .lt (.int p) (.int q) h) QB X = QB (decide (p < q)) h := rfl
theorem c_le : wp (copV .le (.int p) (.int q) h) QB X = QB (decide (p ≤ q)) h := rfl
theorem c_gt : wp (copV .gt (.int p) (.int q) h) QB X = QB (decide (q < p)) h := rfl
theorem c_ge : wp (copV .ge (.int p) (.int q) h) QB X = QB (decide (q ≤ p)) h := rfl
theorem c_inn : wp (copV .inn x y h) QB X = wp (hasV x y h) QB X := rfl
theorem c_nin : wp (copV .nin x y h) QB X = wp (hasV x y h) (fun r h1 => QB (!r) h1) X := by
  show wp (bind (hasV x y) (fun r => ret (!r)) h) QB X = _
  rw [wp_bind]; rfl
theorem has_dct : wp (hasV (.int p) (.ref i) h) QB X = isO h[i]? (fun xs => xs.all flatL = true ∧ QB (xs.any fun y => eqL y (.int p)) h) fun kvs => QB (valL kvs (.inl p)).isSome h := by
  unfold hasV
  dsimp only
  cases h[i]? with
  | none => rfl
  | some o => cases o with
    | dct kvs => rfl
    | lst ys => rw [isO_lst]; simp only [flatL, true_and]; exact ite_and
theorem x_tup {xs : List Vl} : wp (idxV (.tup xs) (.int p) h) Q X = isS (atI xs p) fun v => Q v h := by
  unfold idxV items; dsimp only; cases atI xs p <;> rfl
theorem x_rol {xs : List Vl} : wp (idxV (.rol xs) (.int p) h) Q X = isS (atI xs p) fun v => Q v h := by
  unfold idxV items; dsimp only; cases atI xs p <;> rfl
theorem x_ref : wp (idxV (.ref i) (.int p) h) Q X = isO h[i]? (fun xs => isS (atI xs p) fun v => Q v h) fun kvs => isS (valL kvs (.inl p)) fun v => Q v h := by
  unfold idxV items
  dsimp only
  cases h[i]? with
  | none => rfl
  | some o => cases o with
    | dct kvs => dsimp only [isO]; cases valL kvs (.inl p) <;> rfl
    | lst xs => dsimp only [isO]; cases atI xs p <;> rfl
theorem x_set {QU : Unit → SH → Prop} : wp (setV (.ref i) (.int p) v h) QU X = isO h[i]? (fun xs => isS (ixN xs.length p) fun j => QU () (h.set i (.lst (xs.set j v)))) fun kvs => kvs.length < lim ∧ QU () (h.set i (.dct (putL kvs (.inl p) v))) := by
  unfold setV
  dsimp only
  cases h[i]? with
  | none => rfl
  | some o => cases o with
    | dct kvs => dsimp only [isO]; exact ite_and
    | lst xs => dsimp only [isO]; cases ixN xs.length p <;> rfl
theorem x_slcR {xs : List Vl} {lo hi : Option Int} : wp (slcV (.rol xs) lo hi h) Q X = Q (.ref h.length) (h ++ [.lst (cutL xs lo hi)]) := rfl
theorem x_slcL {lo hi : Option Int} : wp (slcV (.ref i) lo hi h) Q X = isO h[i]? (fun xs => Q (.ref h.length) (h ++ [.lst (cutL xs lo hi)])) fun _ => False := by
  unfold slcV
  dsimp only
  cases h[i]? with
  | none => rfl
  | some o => cases o <;> rfl
theorem b_len_tup {xs : List Vl} : wp (biV .len [.tup xs] h) Q X = Q (.int xs.length) h := rfl
theorem b_len_rol {xs : List Vl} : wp (biV .len [.rol xs] h) Q X = Q (.int xs.length) h := rfl
theorem b_len_ref : wp (biV .len [.ref i] h) Q X = isO h[i]? (fun xs => Q (.int xs.length) h) fun kvs => Q (.int kvs.length) h := by
  show wp (lenB (.ref i) h) Q X = _
  unfold lenB; dsimp only; cases h[i]? with
  | none => rfl
  | some o => cases o <;> rfl
theorem b_isi {t : Ty} : wp (biV .isi [x, .ty t] h) Q X = isS (isiV h x t) fun r => Q (.bl r) h := by
  show wp (isiB x (.ty t) h) Q X = _
  unfold isiB; dsimp only; cases isiV h x t <;> rfl
theorem b_isi2 {t u : Ty} : wp (biV .isi [x, .tup [.ty t, .ty u]] h) Q X = isS (isiV h x t) fun r => isS (isiV h x u) fun r2 => Q (.bl (r || r2)) h := by
  show wp (isiB x (.tup [.ty t, .ty u]) h) Q X = _
  unfold isiB; dsimp only; cases isiV h x t with
  | none => rfl
  | some r => cases isiV h x u <;> rfl
theorem b_int : wp (biV .intc [.int p] h) Q X = Q (.int p) h := rfl
theorem b_intb {k : Bool} : wp (biV .intc [.bl k] h) Q X = Q (.int (if k then 1 else 0)) h := rfl
theorem b_sum : wp (biV .sum [x] h) Q X = isS (litems h x) fun xs => isS (xs.mapM intL) fun ns => Q (.int ns.sum) h := by
  show wp (sumB x h) Q X = _
  unfold sumB; cases litems h x with
  | none => rfl
  | some xs => dsimp only [isS]; cases xs.mapM intL <;> rfl
theorem b_max2 : wp (biV .max [.int p, .int q] h) Q X = Q (.int (if q > p then q else p)) h := rfl
theorem b_min2 : wp (biV .min [.int p, .int q] h) Q X = Q (.int (if q < p then q else p)) h := rfl
theorem b_max1 : wp (biV .max [x] h) Q X = isS (litems h x) fun xs => isS (xs.mapM intL) fun ns => 0 < ns.length ∧ Q (.int (maxL ns)) h := by
  show wp (mmB (fun i j => if j > i then j else i) maxL [x] h) Q X = _
  unfold mmB; dsimp only; cases litems h x with
  | none => rfl
  | some xs => dsimp only [isS]; cases xs.mapM intL with
    | none => rfl
    | some ns => exact ite_and
theorem b_min1 : wp (biV .min [x] h) Q X = isS (litems h x) fun xs => isS (xs.mapM intL) fun ns => 0 < ns.length ∧ Q (.int (minL ns)) h := by
  show wp (mmB (fun i j => if j < i then j else i) minL [x] h) Q X = _
  unfold mmB; dsimp only; cases litems h x with
  | none => rfl
  | some xs => dsimp only [isS]; cases xs.mapM intL with
    | none => rfl
    | some ns => exact ite_and
theorem b_lst_tup {xs : List Vl} : wp (biV .lst [.tup xs] h) Q X = Q (.ref h.length) (h ++ [.lst xs]) := rfl
theorem b_lst_rol {xs : List Vl} : wp (biV .lst [.rol xs] h) Q X = Q (.ref h.length) (h ++ [.lst xs]) := rfl
theorem b_lst_ref : wp (biV .lst [.ref i] h) Q X = isO h[i]? (fun xs => Q (.ref h.length) (h ++ [.lst xs])) fun kvs => Q (.ref h.length) (h ++ [.lst (kvs.map fun kv => kVl kv.1)]) := by
  show wp (lstB (.ref i) h) Q X = _
  unfold lstB items
  dsimp only
  cases e : h[i]? with
  | none => rfl
  | some o => cases o <;> rfl
theorem b_all : wp (biV .all [x] h) Q X = isS (litems h x) fun xs => isS (xs.mapM blL) fun bs => Q (.bl (bs.all id)) h := by
  show wp (bsB _ x h) Q X = _
  unfold bsB; cases litems h x with
  | none => rfl
  | some xs => dsimp only [isS]; cases xs.mapM blL <;> rfl
theorem b_any : wp (biV .any [x] h) Q X = isS (litems h x) fun xs => isS (xs.mapM blL) fun bs => Q (.bl (bs.any id)) h := by
  show wp (bsB _ x h) Q X = _
  unfold bsB; cases litems h x with
  | none => rfl
  | some xs => dsimp only [isS]; cases xs.mapM blL <;> rfl
theorem li_rol {xs : List Vl} : litems h (.rol xs) = some xs := rfl
theorem li_ref {xs : List Vl} (e : h[i]? = some (.lst xs)) : litems h (.ref i) = some xs := by unfold litems; dsimp only; rw [e]
variable {QU : Unit → SH → Prop}
theorem k_app : wp (chkM .append (.ref i) h) QU X = isO h[i]? (fun _ => QU () h) fun _ => False := by
  unfold chkM; dsimp only; cases h[i]? with
  | none => rfl
  | some o => cases o <;> rfl
theorem k_bits : wp (chkM .bits (.int p) h) QU X = QU () h := rfl
theorem k_cnt : wp (chkM .count x h) QU X = isS (litems h x) fun _ => QU () h := by
  unfold chkM; dsimp only; cases litems h x <;> rfl
theorem m_app : wp (mtV .append (.ref i) [v] h) Q X = isO h[i]? (fun xs => xs.length < lim ∧ Q .non (h.set i (.lst (xs ++ [v])))) fun _ => False := by
  show wp (appM (.ref i) v h) Q X = _
  unfold appM; dsimp only; cases h[i]? with
  | none => rfl
  | some o => cases o with
    | dct kvs => rfl
    | lst xs => exact ite_and
theorem m_bits : wp (mtV .bits (.int p) [] h) Q X = Q (.int (Builtin.Int.intBits p : Nat)) h := rfl
theorem n_add : wp (ibopV .add (.int p) (.int q) h) Q X = Q (.int (p + q)) h := rfl
theorem n_sub : wp (ibopV .sub (.int p) (.int q) h) Q X = Q (.int (p - q)) h := rfl
end
theorem at0 {α : Type} {x : α} {xs : List α} : atI (x :: xs) 0 = some x := by
  unfold atI ixN
  simp
theorem atk {α : Type} {xs : List α} {k : Nat} {x : α} (e : xs[k]? = some x) : atI xs (k : Int) = some x := by
  have lt := (List.getElem?_eq_some_iff.mp e).1
  have e1 : ixN xs.length (k : Int) = some k := by
    unfold ixN
    rw [if_pos (by omega), if_pos (by omega)]
    rfl
  unfold atI
  rw [e1]
  exact e
theorem at1 {α : Type} {x y : α} {xs : List α} : atI (x :: y :: xs) 1 = some y := atk (k := 1) rfl
theorem at2 {α : Type} {x y z : α} {xs : List α} : atI (x :: y :: z :: xs) 2 = some z := atk (k := 2) rfl
theorem at3 {α : Type} {x y z w : α} {xs : List α} : atI (x :: y :: z :: w :: xs) 3 = some w := atk (k := 3) rfl
theorem wp_runv {r : Rs Vl} {P : Vl → SH → Prop} (w : wp r P NoX) : ∃ v h, r = .ok v h ∧ P v h := by
  cases r with
  | ok v h => exact ⟨v, h, rfl, w⟩
  | ex c v h => exact False.elim w
  | no => exact False.elim w
theorem lim_lt {n : Nat} (h : n < 100000) : n < lim := h
theorem lim_le {n : Nat} (h : n ≤ 100000) : n ≤ lim := h
section
variable {call : Nat → List Vl → M Vl} {wf : Nat} {σ : En} {h : SH} {QF : Fl → SH → Prop} {QV : Vl → SH → Prop} {X : Nat → Vl → SH → Prop} {g : Tg} {b : List S}
theorem for_src {src : Src} (I : Nat → En → SH → Prop) (n : Nat) (hn : sizeS h src = n)
    (go : ∀ k σ h, k < n → I k σ h → ∃ x, itemS h k src = some (some x) ∧ wp (evg call σ g x h) (fun σ1 h1 => wp (exSs call wf σ1 b h1) (lpP (I (k + 1)) QF) X) NoX)
    (stop : ∀ σ h, I n σ h → itemS h n src = some none ∧ QF (.nx σ) h) (start : I 0 σ h) : wp (forL call wf src g b (sizeS h src + 1) 0 σ h) QF X := by
  refine wp_loopS I n (fun k σ h hk i => ?_) stop _ 0 σ h (Nat.zero_le _) (by omega) start
  obtain ⟨x, e, w⟩ := go k σ h hk i
  refine ⟨x, e, ?_⟩
  rw [wp_lift, wp_noEx]
  exact w
theorem for_told {xs : List Vl} (I : Nat → En → SH → Prop)
    (go : ∀ k x σ h, xs[k]? = some x → I k σ h → wp (evg call σ g x h) (fun σ1 h1 => wp (exSs call wf σ1 b h1) (lpP (I (k + 1)) QF) X) NoX)
    (stop : ∀ σ h, I xs.length σ h → QF (.nx σ) h) (start : I 0 σ h) : wp (forL call wf (.told xs) g b (sizeS h (.told xs) + 1) 0 σ h) QF X := by
  refine for_src I xs.length rfl (fun k σ h hk i => ?_) (fun σ h i => ⟨by simp [itemS], stop σ h i⟩) start
  have e : xs[k]? = some xs[k] := List.getElem?_eq_getElem hk
  exact ⟨_, by rw [itemS, e], go k _ σ h e i⟩
theorem for_cell {i : Nat} {xs : List Vl} (I : Nat → En → SH → Prop) (at_ : ∀ k σ h, I k σ h → h[i]? = some (.lst xs))
    (go : ∀ k x σ h, xs[k]? = some x → I k σ h → wp (evg call σ g x h) (fun σ1 h1 => wp (exSs call wf σ1 b h1) (lpP (I (k + 1)) QF) X) NoX)
    (stop : ∀ σ h, I xs.length σ h → QF (.nx σ) h) (start : I 0 σ h) : wp (forL call wf (.cell i) g b (sizeS h (.cell i) + 1) 0 σ h) QF X := by
  refine for_src I xs.length (by unfold sizeS; dsimp only; rw [at_ 0 σ h start]) (fun k σ h hk z => ?_) (fun σ h z => ⟨by rw [itemS, at_ _ σ h z]; simp, stop σ h z⟩) start
  have e : xs[k]? = some xs[k] := List.getElem?_eq_getElem hk
  exact ⟨_, by rw [itemS, at_ k σ h z]; dsimp only; rw [e], go k _ σ h e z⟩
theorem for_enumT {xs : List Vl} (I : Nat → En → SH → Prop)
    (go : ∀ k x σ h, xs[k]? = some x → I k σ h → wp (evg call σ g (.tup [.int (k : Int), x]) h) (fun σ1 h1 => wp (exSs call wf σ1 b h1) (lpP (I (k + 1)) QF) X) NoX)
    (stop : ∀ σ h, I xs.length σ h → QF (.nx σ) h) (start : I 0 σ h) : wp (forL call wf (.enumT xs) g b (sizeS h (.enumT xs) + 1) 0 σ h) QF X := by
  refine for_src I xs.length rfl (fun k σ h hk i => ?_) (fun σ h i => ⟨by simp [itemS], stop σ h i⟩) start
  have e : xs[k]? = some xs[k] := List.getElem?_eq_getElem hk
  exact ⟨_, by rw [itemS, e]; rfl, go k _ σ h e i⟩
theorem for_enum {i : Nat} {xs : List Vl} (I : Nat → En → SH → Prop) (at_ : ∀ k σ h, I k σ h → h[i]? = some (.lst xs))
    (go : ∀ k x σ h, xs[k]? = some x → I k σ h → wp (evg call σ g (.tup [.int (k : Int), x]) h) (fun σ1 h1 => wp (exSs call wf σ1 b h1) (lpP (I (k + 1)) QF) X) NoX)
    (stop : ∀ σ h, I xs.length σ h → QF (.nx σ) h) (start : I 0 σ h) : wp (forL call wf (.enum i) g b (sizeS h (.enum i) + 1) 0 σ h) QF X := by
  refine for_src I xs.length (by unfold sizeS; dsimp only; rw [at_ 0 σ h start]) (fun k σ h hk z => ?_) (fun σ h z => ⟨by rw [itemS, at_ _ σ h z]; simp, stop σ h z⟩) start
  have e : xs[k]? = some xs[k] := List.getElem?_eq_getElem hk
  exact ⟨_, by rw [itemS, at_ k σ h z]; dsimp only; rw [e]; rfl, go k _ σ h e z⟩
variable {own : List Nat} {c : Option E} {e : E}
/-- behind a comprehension's turn -/
def cmP (I : Nat → List Vl → SH → Prop) (k : Nat) (acc : List Vl) : Option Vl → SH → Prop := fun o h1 => match o with
  | none => I (k + 1) acc h1
  | some y => acc.length < lim ∧ I (k + 1) (acc ++ [y]) h1
theorem cmp_src {src : Src} (I : Nat → List Vl → SH → Prop) (n : Nat) (hn : sizeS h src = n)
    (go : ∀ k acc h, k < n → I k acc h → ∃ x, itemS h k src = some (some x) ∧ wp (evg call (wipeE σ own) g x h) (fun σ1 h1 => wp (evc call σ1 c h1) (fun r h2 => if r = true then wp (ev call σ1 e h2) (fun y h3 => acc.length < lim ∧ I (k + 1) (acc ++ [y]) h3) NoX else I (k + 1) acc h2) NoX) NoX)
    (stop : ∀ acc h, I n acc h → itemS h n src = some none ∧ QV (.ref h.length) (h ++ [.lst acc])) (start : I 0 [] h) : wp (cmpL call σ src own g c e (sizeS h src + 1) 0 [] h) QV X := by
  refine wp_loopC I n (fun k acc h hk i => ?_) stop _ 0 [] h (Nat.zero_le _) (by omega) start
  obtain ⟨x, ee, w⟩ := go k acc h hk i
  refine ⟨x, ee, ?_⟩
  rw [wp_bind]
  refine wp_mono w (fun σ1 h1 w1 => ?_) fun _ _ _ z => z
  rw [wp_bind]
  refine wp_mono w1 (fun r h2 w2 => ?_) fun _ _ _ z => z
  rw [wp_ite, wp_bind]
  exact w2
theorem cmp_told {xs : List Vl} (I : Nat → List Vl → SH → Prop)
    (go : ∀ k x acc h, xs[k]? = some x → I k acc h → wp (evg call (wipeE σ own) g x h) (fun σ1 h1 => wp (evc call σ1 c h1) (fun r h2 => if r = true then wp (ev call σ1 e h2) (fun y h3 => acc.length < lim ∧ I (k + 1) (acc ++ [y]) h3) NoX else I (k + 1) acc h2) NoX) NoX)
    (stop : ∀ acc h, I xs.length acc h → QV (.ref h.length) (h ++ [.lst acc])) (start : I 0 [] h) : wp (cmpL call σ (.told xs) own g c e (sizeS h (.told xs) + 1) 0 [] h) QV X := by
  refine cmp_src I xs.length rfl (fun k acc h hk i => ?_) (fun σ h i => ⟨by simp [itemS], stop σ h i⟩) start
  have ee : xs[k]? = some xs[k] := List.getElem?_eq_getElem hk
  exact ⟨_, by rw [itemS, ee], go k _ acc h ee i⟩
theorem cmp_cell {i : Nat} {xs : List Vl} (I : Nat → List Vl → SH → Prop) (at_ : ∀ k acc h, I k acc h → h[i]? = some (.lst xs))
    (go : ∀ k x acc h, xs[k]? = some x → I k acc h → wp (evg call (wipeE σ own) g x h) (fun σ1 h1 => wp (evc call σ1 c h1) (fun r h2 => if r = true then wp (ev call σ1 e h2) (fun y h3 => acc.length < lim ∧ I (k + 1) (acc ++ [y]) h3) NoX else I (k + 1) acc h2) NoX) NoX)
    (stop : ∀ acc h, I xs.length acc h → QV (.ref h.length) (h ++ [.lst acc])) (start : I 0 [] h) : wp (cmpL call σ (.cell i) own g c e (sizeS h (.cell i) + 1) 0 [] h) QV X := by
  refine cmp_src I xs.length (by unfold sizeS; dsimp only; rw [at_ 0 [] h start]) (fun k acc h hk z => ?_) (fun acc h z => ⟨by rw [itemS, at_ _ acc h z]; simp, stop acc h z⟩) start
  have ee : xs[k]? = some xs[k] := List.getElem?_eq_getElem hk
  exact ⟨_, by rw [itemS, at_ k acc h z]; dsimp only; rw [ee], go k _ acc h ee z⟩
end
end Y
end AM

namespace AM
open PySem L2 Y
/-! ### defs that most laws share -/
def F_purse : Fn := { np := 2, ns := 3, body := [(.asg (.nm 2) (.bi .sum [(.slc (.var 0) (some (.var 1)) (some (.bin .add (.var 1) (.int 1))))])), (.ret (.lst [(.bin .mod (.bi .intc [(.bi .max [(.bin .sub (.var 2) (.bin .pow (.int 10) (.int 18))), (.int 0)])]) (.bin .pow (.bin .pow (.int 10) (.int 60)) (.int 8))), (.bin .mod (.bi .intc [(.var 2)]) (.int 2147483629)), (.int 0), (.var 1)]))] }
def F_mixed : Fn := { np := 3, ns := 4, body := [(.asg (.nm 3) (.bin .add (.bin .mul (.var 0) (.int 69069)) (.bin .mul (.bin .mul (.int 104729) (.var 1)) (.var 1)))), (.asg (.nm 3) (.bin .mod (.bi .intc [(.bin .add (.bin .add (.var 3) (.bin .mul (.int 7919) (.var 2))) (.var 1))]) (.int 2147483647))), (.asg (.nm 3) (.bin .mod (.bi .intc [(.bin .add (.bin .mul (.var 3) (.var 3)) (.int 40503))]) (.int 2147483629))), (.ret (.bin .mod (.bi .intc [(.bin .mul (.var 3) (.int 48271))]) (.int 2147483587)))] }
def F_draw (gm : Nat) : Fn := { np := 2, ns := 5, body := [(.iff (.cmp .gt (.idx (.var 0) (.int 0)) (.int 0)) [(.asg (.nm 2) (.bin .mod (.bi .intc [(.idx (.var 0) (.int 0))]) (.var 1))), (.asg (.sub (.var 0) (.int 0)) (.bin .fdv (.idx (.var 0) (.int 0)) (.var 1))), (.ret (.var 2))] []), (.asg (.nm 3) (.int 0)), (.for_ (.nm 4) (.rng1 (.bin .add (.int 1) (.bin .fdv (.mt .bits (.var 1) []) (.int 28)))) [(.asg (.sub (.var 0) (.int 2)) (.bin .add (.idx (.var 0) (.int 2)) (.int 1))), (.asg (.nm 3) (.bin .add (.bin .mul (.var 3) (.int 2147483587)) (.call gm [(.idx (.var 0) (.int 1)), (.idx (.var 0) (.int 2)), (.idx (.var 0) (.int 3))])))]), (.ret (.bin .mod (.bi .intc [(.var 3)]) (.var 1)))] }
section
variable {fns : List Fn} {W d : Nat} {h : SH}
theorem w_mixed {g : Nat} (hg : fns[g]? = some F_mixed) {s p a : Int} (hp : 0 ≤ p) (hp2 : p < 2 ^ 61) : wp (callD fns W (d + 1) g [.int s, .int p, .int a] h) (fun v h' => h' = h ∧ ∃ i, v = .int i) NoX := by
  rw [call_eq (W := W) (d := d) hg (us := [.int s, .int p, .int a]) rfl rfl, wp_end]
  have m1 : ∀ i : Int, CMul i 69069 := fun i => .inr (by omega)
  have m2 : ∀ i : Int, CMul 104729 i := fun i => .inl (by omega)
  have m3 : ∀ i : Int, CMul i p := fun i => .inr (by omega)
  have m4 : ∀ i : Int, CMul 7919 i := fun i => .inl (by omega)
  have m5 : ∀ i : Int, CMul (i % 2147483647) (i % 2147483647) := fun i => .inl (by have := Int.emod_nonneg i (b := 2147483647) (by omega); have := Int.emod_lt_of_pos i (b := 2147483647) (by omega); omega)
  have m6 : ∀ i : Int, CMul i 48271 := fun i => .inr (by omega)
  show wp (exSs (callD fns W d) W [some (.int s), some (.int p), some (.int a), none] F_mixed.body h) _ _
  unfold F_mixed
  simp -implicitDefEqProofs only [↓AM.Y.y_var, ↓AM.Y.y_non, ↓AM.Y.y_bl, ↓AM.Y.y_int, ↓AM.Y.y_str, ↓AM.Y.y_ty, ↓AM.Y.y_tup, ↓AM.Y.y_lst, ↓AM.Y.y_dct0, ↓AM.Y.y_bin, ↓AM.Y.y_neg, ↓AM.Y.y_not, ↓AM.Y.y_and, ↓AM.Y.y_or, ↓AM.Y.y_cmp, ↓AM.Y.y_cmp2, ↓AM.Y.y_isN, ↓AM.Y.y_ntN, ↓AM.Y.y_isB, ↓AM.Y.y_ntB, ↓AM.Y.y_ife, ↓AM.Y.y_call, ↓AM.Y.y_bi, ↓AM.Y.y_mt, ↓AM.Y.y_idx, ↓AM.Y.y_slc, ↓AM.Y.y_lc, ↓AM.Y.y_lrng, ↓AM.Y.y_nil, ↓AM.Y.y_cons, ↓AM.Y.y_none, ↓AM.Y.y_some, ↓AM.Y.y_cnone, ↓AM.Y.y_csome, ↓AM.Y.t_not, ↓AM.Y.t_and, ↓AM.Y.t_or, ↓AM.Y.t_var, ↓AM.Y.t_cmp, ↓AM.Y.t_cmp2, ↓AM.Y.t_isN, ↓AM.Y.t_ntN, ↓AM.Y.t_isB, ↓AM.Y.t_ntB, ↓AM.Y.t_call, ↓AM.Y.t_bi, ↓AM.Y.t_idx, ↓AM.Y.i_seq, ↓AM.Y.i_rng1, ↓AM.Y.i_rng2, ↓AM.Y.i_enum, ↓AM.Y.i_zip, ↓AM.Y.g_nm, ↓AM.Y.g_tup, ↓AM.Y.g_sub, ↓AM.Y.g_nil, ↓AM.Y.g_cons, ↓AM.Y.s_nil', ↓AM.Y.s_cons', ↓AM.Y.s_asg, ↓AM.Y.s_asg2', ↓AM.Y.s_asg3', ↓AM.Y.s_par2', ↓AM.Y.s_par3', ↓AM.Y.s_aug', ↓AM.Y.s_expr', ↓AM.Y.s_ret', ↓AM.Y.s_retN', ↓AM.Y.s_iff', ↓AM.Y.s_for', ↓AM.Y.s_whl', ↓AM.Y.s_pass', ↓AM.Y.s_brk', ↓AM.Y.s_cnt', ↓AM.Y.s_never', ↓AM.Y.truth_bl, ↓AM.Y.truth_non, ↓AM.Y.truth_int, ↓AM.Y.truth_tup, ↓AM.Y.truth_rol, ↓AM.Y.truth_ref, ↓AM.Y.o_add, ↓AM.Y.o_sub, ↓AM.Y.o_mul, ↓AM.Y.o_mod, ↓AM.Y.o_fdv, ↓AM.Y.o_pow, ↓AM.Y.o_addL, ↓AM.Y.c_eq, ↓AM.Y.c_ne, ↓AM.Y.c_lt, ↓AM.Y.c_le, ↓AM.Y.c_gt, ↓AM.Y.c_ge, ↓AM.Y.c_inn, ↓AM.Y.c_nin, ↓AM.Y.has_dct, ↓AM.Y.x_tup, ↓AM.Y.x_rol, ↓AM.Y.x_ref, ↓AM.Y.x_set, ↓AM.Y.x_slcR, ↓AM.Y.x_slcL, ↓AM.Y.b_len_tup, ↓AM.Y.b_len_rol, ↓AM.Y.b_len_ref, ↓AM.Y.b_isi, ↓AM.Y.b_isi2, ↓AM.Y.b_int, ↓AM.Y.b_intb, ↓AM.Y.b_sum, ↓AM.Y.b_max2, ↓AM.Y.b_min2, ↓AM.Y.b_max1, ↓AM.Y.b_min1, ↓AM.Y.b_lst_tup, ↓AM.Y.b_lst_rol, ↓AM.Y.b_lst_ref, ↓AM.Y.b_all, ↓AM.Y.b_any, ↓AM.Y.k_app, ↓AM.Y.k_bits, ↓AM.Y.k_cnt, ↓AM.Y.m_app, ↓AM.Y.m_bits, ↓AM.Y.n_add, ↓AM.Y.n_sub, AM.wp_ok, AM.wp_no, ↓AM.wp_ret, ↓AM.wp_fail, ↓AM.wp_end, ↓AM.thn_nx, ↓AM.thn_rt, ↓AM.thn_bk, ↓AM.thn_ct, ↓AM.thn_xc, ↓AM.endP_nx, ↓AM.endP_rt, ↓AM.endP_xc, ↓AM.lpP_nx, ↓AM.lpP_ct, ↓AM.lpP_bk, ↓AM.lpP_rt, ↓AM.lpP_xc, ↓AM.Y.ifB_bl, ↓AM.Y.isI_int, ↓AM.Y.isT_tup, ↓AM.Y.isS_some, ↓AM.Y.isSS_some, ↓AM.Y.isO_lst, ↓AM.Y.isO_dct, AM.Y.ifB_bl, AM.Y.isI_int, AM.Y.isT_tup, AM.Y.isS_some, AM.Y.isSS_some, AM.Y.isO_lst, AM.Y.isO_dct, List.getElem?_cons_zero, List.getElem?_cons_succ, List.set_cons_zero, List.set_cons_succ, AM.Y.at0, AM.Y.at1, AM.Y.at2, AM.Y.at3, AM.Y.srcV, AM.Y.enumV, AM.tyOf, AM.tyIs, AM.isiV, AM.Y.isNon_non, AM.Y.isNon_bl, AM.Y.isNon_int, AM.Y.isNon_str, AM.Y.isNon_tup, AM.Y.isNon_rol, AM.Y.isNon_ref, Bool.not_true, Bool.not_false, Bool.true_eq_false, Bool.false_eq_true, ↓reduceIte, decide_true, decide_false, decide_eq_true_eq, Option.map_some, Option.map_none, Option.isSome_some, Option.isSome_none, List.length_cons, List.length_nil, List.isEmpty_cons, List.isEmpty_nil, true_and, and_true, Bool.or_false, Bool.false_or, Bool.or_true, Bool.true_or, Nat.zero_add, Nat.reduceAdd, AM.lim, Nat.reduceLeDiff, List.set, AM.wipeE, AM.Y.xcP, reduceCtorEq, imp_self, implies_true, not_false_eq_true, m1, m2, m3, m4, m5, m6]
  simp
/-- a purse: what is drawn from; n bounds the draws so far -/
def Pu (h : SH) (r : Nat) (n : Int) : Prop := ∃ a b c e : Int, h[r]? = some (.lst [.int a, .int b, .int c, .int e]) ∧ 0 ≤ c ∧ c ≤ n
theorem bits_small {m : Int} (h0 : 0 < m) (h1 : m < 2 ^ 27) : (Builtin.Int.intBits m : Int) / 28 = 0 := by
  have h : Builtin.Int.intBits m ≤ 27 := by
    unfold Builtin.Int.intBits
    split
    · omega
    · have : m.natAbs < 2 ^ 27 := by omega
      have : m.natAbs.log2 < 27 := (Nat.log2_lt (by omega)).mpr this
      omega
  omega
theorem w_draw {g gm : Nat} (hg : fns[g]? = some (F_draw gm)) (hm : fns[gm]? = some F_mixed) {r : Nat} {m n : Int} (pu : Pu h r n) (hn : n < 2 ^ 60) (m0 : 0 < m) (m1 : m < 2 ^ 27) :
    wp (callD fns W (d + 2) g [.ref r, .int m] h) (fun v h' => ∃ i : Int, v = .int i ∧ 0 ≤ i ∧ i < m ∧ Pu h' r (n + 1) ∧ Fr [r] h h' ∧ h'.length = h.length) NoX := by
  obtain ⟨a, b, c, e, hr, c0, c1⟩ := pu
  have lt := get_lt hr
  rw [call_eq (W := W) (d := d + 1) hg (us := [.ref r, .int m]) rfl rfl, wp_end]
  show wp (exSs (callD fns W (d + 1)) W [some (.ref r), some (.int m), none, none, none] (F_draw gm).body h) _ _
  unfold F_draw
  have q1 : CDiv a m := ⟨m0, by omega⟩
  have q2 : ∀ i : Int, 0 ≤ i % m := fun i => Int.emod_nonneg i (by omega)
  have q3 : ∀ i : Int, i % m < m := fun i => Int.emod_lt_of_pos i m0
  have i0 : ixN 4 0 = some 0 := rfl
  have i2 : ixN 4 2 = some 2 := rfl
  by_cases ha : 0 < a
  · have s1 : Fr [r] h (h.set r (.lst [.int (a / m), .int b, .int c, .int e])) := Fr.put (by simp) _
    simp -implicitDefEqProofs only [↓AM.Y.y_var, ↓AM.Y.y_non, ↓AM.Y.y_bl, ↓AM.Y.y_int, ↓AM.Y.y_str, ↓AM.Y.y_ty, ↓AM.Y.y_tup, ↓AM.Y.y_lst, ↓AM.Y.y_dct0, ↓AM.Y.y_bin, ↓AM.Y.y_neg, ↓AM.Y.y_not, ↓AM.Y.y_and, ↓AM.Y.y_or, ↓AM.Y.y_cmp, ↓AM.Y.y_cmp2, ↓AM.Y.y_isN, ↓AM.Y.y_ntN, ↓AM.Y.y_isB, ↓AM.Y.y_ntB, ↓AM.Y.y_ife, ↓AM.Y.y_call, ↓AM.Y.y_bi, ↓AM.Y.y_mt, ↓AM.Y.y_idx, ↓AM.Y.y_slc, ↓AM.Y.y_lc, ↓AM.Y.y_lrng, ↓AM.Y.y_nil, ↓AM.Y.y_cons, ↓AM.Y.y_none, ↓AM.Y.y_some, ↓AM.Y.y_cnone, ↓AM.Y.y_csome, ↓AM.Y.t_not, ↓AM.Y.t_and, ↓AM.Y.t_or, ↓AM.Y.t_var, ↓AM.Y.t_cmp, ↓AM.Y.t_cmp2, ↓AM.Y.t_isN, ↓AM.Y.t_ntN, ↓AM.Y.t_isB, ↓AM.Y.t_ntB, ↓AM.Y.t_call, ↓AM.Y.t_bi, ↓AM.Y.t_idx, ↓AM.Y.i_seq, ↓AM.Y.i_rng1, ↓AM.Y.i_rng2, ↓AM.Y.i_enum, ↓AM.Y.i_zip, ↓AM.Y.g_nm, ↓AM.Y.g_tup, ↓AM.Y.g_sub, ↓AM.Y.g_nil, ↓AM.Y.g_cons, ↓AM.Y.s_nil', ↓AM.Y.s_cons', ↓AM.Y.s_asg, ↓AM.Y.s_asg2', ↓AM.Y.s_asg3', ↓AM.Y.s_par2', ↓AM.Y.s_par3', ↓AM.Y.s_aug', ↓AM.Y.s_expr', ↓AM.Y.s_ret', ↓AM.Y.s_retN', ↓AM.Y.s_iff', ↓AM.Y.s_for', ↓AM.Y.s_whl', ↓AM.Y.s_pass', ↓AM.Y.s_brk', ↓AM.Y.s_cnt', ↓AM.Y.s_never', ↓AM.Y.truth_bl, ↓AM.Y.truth_non, ↓AM.Y.truth_int, ↓AM.Y.truth_tup, ↓AM.Y.truth_rol, ↓AM.Y.truth_ref, ↓AM.Y.o_add, ↓AM.Y.o_sub, ↓AM.Y.o_mul, ↓AM.Y.o_mod, ↓AM.Y.o_fdv, ↓AM.Y.o_pow, ↓AM.Y.o_addL, ↓AM.Y.c_eq, ↓AM.Y.c_ne, ↓AM.Y.c_lt, ↓AM.Y.c_le, ↓AM.Y.c_gt, ↓AM.Y.c_ge, ↓AM.Y.c_inn, ↓AM.Y.c_nin, ↓AM.Y.has_dct, ↓AM.Y.x_tup, ↓AM.Y.x_rol, ↓AM.Y.x_ref, ↓AM.Y.x_set, ↓AM.Y.x_slcR, ↓AM.Y.x_slcL, ↓AM.Y.b_len_tup, ↓AM.Y.b_len_rol, ↓AM.Y.b_len_ref, ↓AM.Y.b_isi, ↓AM.Y.b_isi2, ↓AM.Y.b_int, ↓AM.Y.b_intb, ↓AM.Y.b_sum, ↓AM.Y.b_max2, ↓AM.Y.b_min2, ↓AM.Y.b_max1, ↓AM.Y.b_min1, ↓AM.Y.b_lst_tup, ↓AM.Y.b_lst_rol, ↓AM.Y.b_lst_ref, ↓AM.Y.b_all, ↓AM.Y.b_any, ↓AM.Y.k_app, ↓AM.Y.k_bits, ↓AM.Y.k_cnt, ↓AM.Y.m_app, ↓AM.Y.m_bits, ↓AM.Y.n_add, ↓AM.Y.n_sub, AM.wp_ok, AM.wp_no, ↓AM.wp_ret, ↓AM.wp_fail, ↓AM.wp_end, ↓AM.thn_nx, ↓AM.thn_rt, ↓AM.thn_bk, ↓AM.thn_ct, ↓AM.thn_xc, ↓AM.endP_nx, ↓AM.endP_rt, ↓AM.endP_xc, ↓AM.lpP_nx, ↓AM.lpP_ct, ↓AM.lpP_bk, ↓AM.lpP_rt, ↓AM.lpP_xc, ↓AM.Y.ifB_bl, ↓AM.Y.isI_int, ↓AM.Y.isT_tup, ↓AM.Y.isS_some, ↓AM.Y.isSS_some, ↓AM.Y.isO_lst, ↓AM.Y.isO_dct, AM.Y.ifB_bl, AM.Y.isI_int, AM.Y.isT_tup, AM.Y.isS_some, AM.Y.isSS_some, AM.Y.isO_lst, AM.Y.isO_dct, List.getElem?_cons_zero, List.getElem?_cons_succ, List.set_cons_zero, List.set_cons_succ, AM.Y.at0, AM.Y.at1, AM.Y.at2, AM.Y.at3, AM.Y.srcV, AM.Y.enumV, AM.tyOf, AM.tyIs, AM.isiV, AM.Y.isNon_non, AM.Y.isNon_bl, AM.Y.isNon_int, AM.Y.isNon_str, AM.Y.isNon_tup, AM.Y.isNon_rol, AM.Y.isNon_ref, Bool.not_true, Bool.not_false, Bool.true_eq_false, Bool.false_eq_true, ↓reduceIte, decide_true, decide_false, decide_eq_true_eq, Option.map_some, Option.map_none, Option.isSome_some, Option.isSome_none, List.length_cons, List.length_nil, List.isEmpty_cons, List.isEmpty_nil, true_and, and_true, Bool.or_false, Bool.false_or, Bool.or_true, Bool.true_or, Nat.zero_add, Nat.reduceAdd, AM.lim, Nat.reduceLeDiff, List.set, AM.wipeE, AM.Y.xcP, reduceCtorEq, imp_self, implies_true, not_false_eq_true, hr, decide_eq_true ha, m0, q1, true_or, i0]
    refine ⟨_, rfl, q2 a, q3 a, ⟨_, b, c, e, get_put hr, c0, by omega⟩, s1, by simp⟩
  · have b28 : CDiv (Builtin.Int.intBits m : Int) 28 := ⟨by omega, by omega⟩
    simp -implicitDefEqProofs only [↓AM.Y.y_var, ↓AM.Y.y_non, ↓AM.Y.y_bl, ↓AM.Y.y_int, ↓AM.Y.y_str, ↓AM.Y.y_ty, ↓AM.Y.y_tup, ↓AM.Y.y_lst, ↓AM.Y.y_dct0, ↓AM.Y.y_bin, ↓AM.Y.y_neg, ↓AM.Y.y_not, ↓AM.Y.y_and, ↓AM.Y.y_or, ↓AM.Y.y_cmp, ↓AM.Y.y_cmp2, ↓AM.Y.y_isN, ↓AM.Y.y_ntN, ↓AM.Y.y_isB, ↓AM.Y.y_ntB, ↓AM.Y.y_ife, ↓AM.Y.y_call, ↓AM.Y.y_bi, ↓AM.Y.y_mt, ↓AM.Y.y_idx, ↓AM.Y.y_slc, ↓AM.Y.y_lc, ↓AM.Y.y_lrng, ↓AM.Y.y_nil, ↓AM.Y.y_cons, ↓AM.Y.y_none, ↓AM.Y.y_some, ↓AM.Y.y_cnone, ↓AM.Y.y_csome, ↓AM.Y.t_not, ↓AM.Y.t_and, ↓AM.Y.t_or, ↓AM.Y.t_var, ↓AM.Y.t_cmp, ↓AM.Y.t_cmp2, ↓AM.Y.t_isN, ↓AM.Y.t_ntN, ↓AM.Y.t_isB, ↓AM.Y.t_ntB, ↓AM.Y.t_call, ↓AM.Y.t_bi, ↓AM.Y.t_idx, ↓AM.Y.i_seq, ↓AM.Y.i_rng1, ↓AM.Y.i_rng2, ↓AM.Y.i_enum, ↓AM.Y.i_zip, ↓AM.Y.g_nm, ↓AM.Y.g_tup, ↓AM.Y.g_sub, ↓AM.Y.g_nil, ↓AM.Y.g_cons, ↓AM.Y.s_nil', ↓AM.Y.s_cons', ↓AM.Y.s_asg, ↓AM.Y.s_asg2', ↓AM.Y.s_asg3', ↓AM.Y.s_par2', ↓AM.Y.s_par3', ↓AM.Y.s_aug', ↓AM.Y.s_expr', ↓AM.Y.s_ret', ↓AM.Y.s_retN', ↓AM.Y.s_iff', ↓AM.Y.s_for', ↓AM.Y.s_whl', ↓AM.Y.s_pass', ↓AM.Y.s_brk', ↓AM.Y.s_cnt', ↓AM.Y.s_never', ↓AM.Y.truth_bl, ↓AM.Y.truth_non, ↓AM.Y.truth_int, ↓AM.Y.truth_tup, ↓AM.Y.truth_rol, ↓AM.Y.truth_ref, ↓AM.Y.o_add, ↓AM.Y.o_sub, ↓AM.Y.o_mul, ↓AM.Y.o_mod, ↓AM.Y.o_fdv, ↓AM.Y.o_pow, ↓AM.Y.o_addL, ↓AM.Y.c_eq, ↓AM.Y.c_ne, ↓AM.Y.c_lt, ↓AM.Y.c_le, ↓AM.Y.c_gt, ↓AM.Y.c_ge, ↓AM.Y.c_inn, ↓AM.Y.c_nin, ↓AM.Y.has_dct, ↓AM.Y.x_tup, ↓AM.Y.x_rol, ↓AM.Y.x_ref, ↓AM.Y.x_set, ↓AM.Y.x_slcR, ↓AM.Y.x_slcL, ↓AM.Y.b_len_tup, ↓AM.Y.b_len_rol, ↓AM.Y.b_len_ref, ↓AM.Y.b_isi, ↓AM.Y.b_isi2, ↓AM.Y.b_int, ↓AM.Y.b_intb, ↓AM.Y.b_sum, ↓AM.Y.b_max2, ↓AM.Y.b_min2, ↓AM.Y.b_max1, ↓AM.Y.b_min1, ↓AM.Y.b_lst_tup, ↓AM.Y.b_lst_rol, ↓AM.Y.b_lst_ref, ↓AM.Y.b_all, ↓AM.Y.b_any, ↓AM.Y.k_app, ↓AM.Y.k_bits, ↓AM.Y.k_cnt, ↓AM.Y.m_app, ↓AM.Y.m_bits, ↓AM.Y.n_add, ↓AM.Y.n_sub, AM.wp_ok, AM.wp_no, ↓AM.wp_ret, ↓AM.wp_fail, ↓AM.wp_end, ↓AM.thn_nx, ↓AM.thn_rt, ↓AM.thn_bk, ↓AM.thn_ct, ↓AM.thn_xc, ↓AM.endP_nx, ↓AM.endP_rt, ↓AM.endP_xc, ↓AM.lpP_nx, ↓AM.lpP_ct, ↓AM.lpP_bk, ↓AM.lpP_rt, ↓AM.lpP_xc, ↓AM.Y.ifB_bl, ↓AM.Y.isI_int, ↓AM.Y.isT_tup, ↓AM.Y.isS_some, ↓AM.Y.isSS_some, ↓AM.Y.isO_lst, ↓AM.Y.isO_dct, AM.Y.ifB_bl, AM.Y.isI_int, AM.Y.isT_tup, AM.Y.isS_some, AM.Y.isSS_some, AM.Y.isO_lst, AM.Y.isO_dct, List.getElem?_cons_zero, List.getElem?_cons_succ, List.set_cons_zero, List.set_cons_succ, AM.Y.at0, AM.Y.at1, AM.Y.at2, AM.Y.at3, AM.Y.srcV, AM.Y.enumV, AM.tyOf, AM.tyIs, AM.isiV, AM.Y.isNon_non, AM.Y.isNon_bl, AM.Y.isNon_int, AM.Y.isNon_str, AM.Y.isNon_tup, AM.Y.isNon_rol, AM.Y.isNon_ref, Bool.not_true, Bool.not_false, Bool.true_eq_false, Bool.false_eq_true, ↓reduceIte, decide_true, decide_false, decide_eq_true_eq, Option.map_some, Option.map_none, Option.isSome_some, Option.isSome_none, List.length_cons, List.length_nil, List.isEmpty_cons, List.isEmpty_nil, true_and, and_true, Bool.or_false, Bool.false_or, Bool.or_true, Bool.true_or, Nat.zero_add, Nat.reduceAdd, AM.lim, Nat.reduceLeDiff, List.set, AM.wipeE, AM.Y.xcP, reduceCtorEq, imp_self, implies_true, not_false_eq_true, hr, decide_eq_false ha, b28, bits_small m0 m1, true_or]
    refine ⟨by omega, for_told (fun k σ h1 => k ≤ 1 ∧ Fr [r] h h1 ∧ h1.length = h.length ∧ ∃ (f c2 : Int) (t : Option Vl), σ = [some (.ref r), some (.int m), none, some (.int f), t] ∧ c2 = c + k ∧ h1[r]? = some (.lst [.int a, .int b, .int c2, .int e])) (fun k x σ h1 hk I => ?_) (fun σ h1 I => ?_) ⟨by omega, Fr.refl, rfl, 0, c, none, rfl, by simp, hr⟩⟩
    · obtain ⟨k1, f1, l1, f, c2, t, rfl, rfl, g1⟩ := I
      have k0 : k = 0 := by
        have := (List.getElem?_eq_some_iff.mp hk).1
        simp [rngL] at this
        omega
      subst k0
      have m2 : ∀ i : Int, CMul i 2147483587 := fun i => .inr (by omega)
      have g2 : (h1.set r (.lst [.int a, .int b, .int (c + (0 : Nat) + 1), .int e]))[r]? = some (.lst [.int a, .int b, .int (c + (0 : Nat) + 1), .int e]) := get_put g1
      simp -implicitDefEqProofs only [↓AM.Y.y_var, ↓AM.Y.y_non, ↓AM.Y.y_bl, ↓AM.Y.y_int, ↓AM.Y.y_str, ↓AM.Y.y_ty, ↓AM.Y.y_tup, ↓AM.Y.y_lst, ↓AM.Y.y_dct0, ↓AM.Y.y_bin, ↓AM.Y.y_neg, ↓AM.Y.y_not, ↓AM.Y.y_and, ↓AM.Y.y_or, ↓AM.Y.y_cmp, ↓AM.Y.y_cmp2, ↓AM.Y.y_isN, ↓AM.Y.y_ntN, ↓AM.Y.y_isB, ↓AM.Y.y_ntB, ↓AM.Y.y_ife, ↓AM.Y.y_call, ↓AM.Y.y_bi, ↓AM.Y.y_mt, ↓AM.Y.y_idx, ↓AM.Y.y_slc, ↓AM.Y.y_lc, ↓AM.Y.y_lrng, ↓AM.Y.y_nil, ↓AM.Y.y_cons, ↓AM.Y.y_none, ↓AM.Y.y_some, ↓AM.Y.y_cnone, ↓AM.Y.y_csome, ↓AM.Y.t_not, ↓AM.Y.t_and, ↓AM.Y.t_or, ↓AM.Y.t_var, ↓AM.Y.t_cmp, ↓AM.Y.t_cmp2, ↓AM.Y.t_isN, ↓AM.Y.t_ntN, ↓AM.Y.t_isB, ↓AM.Y.t_ntB, ↓AM.Y.t_call, ↓AM.Y.t_bi, ↓AM.Y.t_idx, ↓AM.Y.i_seq, ↓AM.Y.i_rng1, ↓AM.Y.i_rng2, ↓AM.Y.i_enum, ↓AM.Y.i_zip, ↓AM.Y.g_nm, ↓AM.Y.g_tup, ↓AM.Y.g_sub, ↓AM.Y.g_nil, ↓AM.Y.g_cons, ↓AM.Y.s_nil', ↓AM.Y.s_cons', ↓AM.Y.s_asg, ↓AM.Y.s_asg2', ↓AM.Y.s_asg3', ↓AM.Y.s_par2', ↓AM.Y.s_par3', ↓AM.Y.s_aug', ↓AM.Y.s_expr', ↓AM.Y.s_ret', ↓AM.Y.s_retN', ↓AM.Y.s_iff', ↓AM.Y.s_for', ↓AM.Y.s_whl', ↓AM.Y.s_pass', ↓AM.Y.s_brk', ↓AM.Y.s_cnt', ↓AM.Y.s_never', ↓AM.Y.truth_bl, ↓AM.Y.truth_non, ↓AM.Y.truth_int, ↓AM.Y.truth_tup, ↓AM.Y.truth_rol, ↓AM.Y.truth_ref, ↓AM.Y.o_add, ↓AM.Y.o_sub, ↓AM.Y.o_mul, ↓AM.Y.o_mod, ↓AM.Y.o_fdv, ↓AM.Y.o_pow, ↓AM.Y.o_addL, ↓AM.Y.c_eq, ↓AM.Y.c_ne, ↓AM.Y.c_lt, ↓AM.Y.c_le, ↓AM.Y.c_gt, ↓AM.Y.c_ge, ↓AM.Y.c_inn, ↓AM.Y.c_nin, ↓AM.Y.has_dct, ↓AM.Y.x_tup, ↓AM.Y.x_rol, ↓AM.Y.x_ref, ↓AM.Y.x_set, ↓AM.Y.x_slcR, ↓AM.Y.x_slcL, ↓AM.Y.b_len_tup, ↓AM.Y.b_len_rol, ↓AM.Y.b_len_ref, ↓AM.Y.b_isi, ↓AM.Y.b_isi2, ↓AM.Y.b_int, ↓AM.Y.b_intb, ↓AM.Y.b_sum, ↓AM.Y.b_max2, ↓AM.Y.b_min2, ↓AM.Y.b_max1, ↓AM.Y.b_min1, ↓AM.Y.b_lst_tup, ↓AM.Y.b_lst_rol, ↓AM.Y.b_lst_ref, ↓AM.Y.b_all, ↓AM.Y.b_any, ↓AM.Y.k_app, ↓AM.Y.k_bits, ↓AM.Y.k_cnt, ↓AM.Y.m_app, ↓AM.Y.m_bits, ↓AM.Y.n_add, ↓AM.Y.n_sub, AM.wp_ok, AM.wp_no, ↓AM.wp_ret, ↓AM.wp_fail, ↓AM.wp_end, ↓AM.thn_nx, ↓AM.thn_rt, ↓AM.thn_bk, ↓AM.thn_ct, ↓AM.thn_xc, ↓AM.endP_nx, ↓AM.endP_rt, ↓AM.endP_xc, ↓AM.lpP_nx, ↓AM.lpP_ct, ↓AM.lpP_bk, ↓AM.lpP_rt, ↓AM.lpP_xc, ↓AM.Y.ifB_bl, ↓AM.Y.isI_int, ↓AM.Y.isT_tup, ↓AM.Y.isS_some, ↓AM.Y.isSS_some, ↓AM.Y.isO_lst, ↓AM.Y.isO_dct, AM.Y.ifB_bl, AM.Y.isI_int, AM.Y.isT_tup, AM.Y.isS_some, AM.Y.isSS_some, AM.Y.isO_lst, AM.Y.isO_dct, List.getElem?_cons_zero, List.getElem?_cons_succ, List.set_cons_zero, List.set_cons_succ, AM.Y.at0, AM.Y.at1, AM.Y.at2, AM.Y.at3, AM.Y.srcV, AM.Y.enumV, AM.tyOf, AM.tyIs, AM.isiV, AM.Y.isNon_non, AM.Y.isNon_bl, AM.Y.isNon_int, AM.Y.isNon_str, AM.Y.isNon_tup, AM.Y.isNon_rol, AM.Y.isNon_ref, Bool.not_true, Bool.not_false, Bool.true_eq_false, Bool.false_eq_true, ↓reduceIte, decide_true, decide_false, decide_eq_true_eq, Option.map_some, Option.map_none, Option.isSome_some, Option.isSome_none, List.length_cons, List.length_nil, List.isEmpty_cons, List.isEmpty_nil, true_and, and_true, Bool.or_false, Bool.false_or, Bool.or_true, Bool.true_or, Nat.zero_add, Nat.reduceAdd, AM.lim, Nat.reduceLeDiff, List.set, AM.wipeE, AM.Y.xcP, reduceCtorEq, imp_self, implies_true, not_false_eq_true, g1, g2, i2, m2, true_or]
      refine wp_q (w_mixed hm (by omega) (by omega)) fun v h2 q => ?_
      obtain ⟨rfl, i, rfl⟩ := q
      simp -implicitDefEqProofs only [↓AM.Y.y_var, ↓AM.Y.y_non, ↓AM.Y.y_bl, ↓AM.Y.y_int, ↓AM.Y.y_str, ↓AM.Y.y_ty, ↓AM.Y.y_tup, ↓AM.Y.y_lst, ↓AM.Y.y_dct0, ↓AM.Y.y_bin, ↓AM.Y.y_neg, ↓AM.Y.y_not, ↓AM.Y.y_and, ↓AM.Y.y_or, ↓AM.Y.y_cmp, ↓AM.Y.y_cmp2, ↓AM.Y.y_isN, ↓AM.Y.y_ntN, ↓AM.Y.y_isB, ↓AM.Y.y_ntB, ↓AM.Y.y_ife, ↓AM.Y.y_call, ↓AM.Y.y_bi, ↓AM.Y.y_mt, ↓AM.Y.y_idx, ↓AM.Y.y_slc, ↓AM.Y.y_lc, ↓AM.Y.y_lrng, ↓AM.Y.y_nil, ↓AM.Y.y_cons, ↓AM.Y.y_none, ↓AM.Y.y_some, ↓AM.Y.y_cnone, ↓AM.Y.y_csome, ↓AM.Y.t_not, ↓AM.Y.t_and, ↓AM.Y.t_or, ↓AM.Y.t_var, ↓AM.Y.t_cmp, ↓AM.Y.t_cmp2, ↓AM.Y.t_isN, ↓AM.Y.t_ntN, ↓AM.Y.t_isB, ↓AM.Y.t_ntB, ↓AM.Y.t_call, ↓AM.Y.t_bi, ↓AM.Y.t_idx, ↓AM.Y.i_seq, ↓AM.Y.i_rng1, ↓AM.Y.i_rng2, ↓AM.Y.i_enum, ↓AM.Y.i_zip, ↓AM.Y.g_nm, ↓AM.Y.g_tup, ↓AM.Y.g_sub, ↓AM.Y.g_nil, ↓AM.Y.g_cons, ↓AM.Y.s_nil', ↓AM.Y.s_cons', ↓AM.Y.s_asg, ↓AM.Y.s_asg2', ↓AM.Y.s_asg3', ↓AM.Y.s_par2', ↓AM.Y.s_par3', ↓AM.Y.s_aug', ↓AM.Y.s_expr', ↓AM.Y.s_ret', ↓AM.Y.s_retN', ↓AM.Y.s_iff', ↓AM.Y.s_for', ↓AM.Y.s_whl', ↓AM.Y.s_pass', ↓AM.Y.s_brk', ↓AM.Y.s_cnt', ↓AM.Y.s_never', ↓AM.Y.truth_bl, ↓AM.Y.truth_non, ↓AM.Y.truth_int, ↓AM.Y.truth_tup, ↓AM.Y.truth_rol, ↓AM.Y.truth_ref, ↓AM.Y.o_add, ↓AM.Y.o_sub, ↓AM.Y.o_mul, ↓AM.Y.o_mod, ↓AM.Y.o_fdv, ↓AM.Y.o_pow, ↓AM.Y.o_addL, ↓AM.Y.c_eq, ↓AM.Y.c_ne, ↓AM.Y.c_lt, ↓AM.Y.c_le, ↓AM.Y.c_gt, ↓AM.Y.c_ge, ↓AM.Y.c_inn, ↓AM.Y.c_nin, ↓AM.Y.has_dct, ↓AM.Y.x_tup, ↓AM.Y.x_rol, ↓AM.Y.x_ref, ↓AM.Y.x_set, ↓AM.Y.x_slcR, ↓AM.Y.x_slcL, ↓AM.Y.b_len_tup, ↓AM.Y.b_len_rol, ↓AM.Y.b_len_ref, ↓AM.Y.b_isi, ↓AM.Y.b_isi2, ↓AM.Y.b_int, ↓AM.Y.b_intb, ↓AM.Y.b_sum, ↓AM.Y.b_max2, ↓AM.Y.b_min2, ↓AM.Y.b_max1, ↓AM.Y.b_min1, ↓AM.Y.b_lst_tup, ↓AM.Y.b_lst_rol, ↓AM.Y.b_lst_ref, ↓AM.Y.b_all, ↓AM.Y.b_any, ↓AM.Y.k_app, ↓AM.Y.k_bits, ↓AM.Y.k_cnt, ↓AM.Y.m_app, ↓AM.Y.m_bits, ↓AM.Y.n_add, ↓AM.Y.n_sub, AM.wp_ok, AM.wp_no, ↓AM.wp_ret, ↓AM.wp_fail, ↓AM.wp_end, ↓AM.thn_nx, ↓AM.thn_rt, ↓AM.thn_bk, ↓AM.thn_ct, ↓AM.thn_xc, ↓AM.endP_nx, ↓AM.endP_rt, ↓AM.endP_xc, ↓AM.lpP_nx, ↓AM.lpP_ct, ↓AM.lpP_bk, ↓AM.lpP_rt, ↓AM.lpP_xc, ↓AM.Y.ifB_bl, ↓AM.Y.isI_int, ↓AM.Y.isT_tup, ↓AM.Y.isS_some, ↓AM.Y.isSS_some, ↓AM.Y.isO_lst, ↓AM.Y.isO_dct, AM.Y.ifB_bl, AM.Y.isI_int, AM.Y.isT_tup, AM.Y.isS_some, AM.Y.isSS_some, AM.Y.isO_lst, AM.Y.isO_dct, List.getElem?_cons_zero, List.getElem?_cons_succ, List.set_cons_zero, List.set_cons_succ, AM.Y.at0, AM.Y.at1, AM.Y.at2, AM.Y.at3, AM.Y.srcV, AM.Y.enumV, AM.tyOf, AM.tyIs, AM.isiV, AM.Y.isNon_non, AM.Y.isNon_bl, AM.Y.isNon_int, AM.Y.isNon_str, AM.Y.isNon_tup, AM.Y.isNon_rol, AM.Y.isNon_ref, Bool.not_true, Bool.not_false, Bool.true_eq_false, Bool.false_eq_true, ↓reduceIte, decide_true, decide_false, decide_eq_true_eq, Option.map_some, Option.map_none, Option.isSome_some, Option.isSome_none, List.length_cons, List.length_nil, List.isEmpty_cons, List.isEmpty_nil, true_and, and_true, Bool.or_false, Bool.false_or, Bool.or_true, Bool.true_or, Nat.zero_add, Nat.reduceAdd, AM.lim, Nat.reduceLeDiff, List.set, AM.wipeE, AM.Y.xcP, reduceCtorEq, imp_self, implies_true, not_false_eq_true]
      exact ⟨f1.trans (Fr.put (by simp) _), by simp [l1], _, _, _, rfl, by simp, g2⟩
    · obtain ⟨k1, f1, l1, f, c2, t, rfl, rfl, g1⟩ := I
      simp -implicitDefEqProofs only [↓AM.Y.y_var, ↓AM.Y.y_non, ↓AM.Y.y_bl, ↓AM.Y.y_int, ↓AM.Y.y_str, ↓AM.Y.y_ty, ↓AM.Y.y_tup, ↓AM.Y.y_lst, ↓AM.Y.y_dct0, ↓AM.Y.y_bin, ↓AM.Y.y_neg, ↓AM.Y.y_not, ↓AM.Y.y_and, ↓AM.Y.y_or, ↓AM.Y.y_cmp, ↓AM.Y.y_cmp2, ↓AM.Y.y_isN, ↓AM.Y.y_ntN, ↓AM.Y.y_isB, ↓AM.Y.y_ntB, ↓AM.Y.y_ife, ↓AM.Y.y_call, ↓AM.Y.y_bi, ↓AM.Y.y_mt, ↓AM.Y.y_idx, ↓AM.Y.y_slc, ↓AM.Y.y_lc, ↓AM.Y.y_lrng, ↓AM.Y.y_nil, ↓AM.Y.y_cons, ↓AM.Y.y_none, ↓AM.Y.y_some, ↓AM.Y.y_cnone, ↓AM.Y.y_csome, ↓AM.Y.t_not, ↓AM.Y.t_and, ↓AM.Y.t_or, ↓AM.Y.t_var, ↓AM.Y.t_cmp, ↓AM.Y.t_cmp2, ↓AM.Y.t_isN, ↓AM.Y.t_ntN, ↓AM.Y.t_isB, ↓AM.Y.t_ntB, ↓AM.Y.t_call, ↓AM.Y.t_bi, ↓AM.Y.t_idx, ↓AM.Y.i_seq, ↓AM.Y.i_rng1, ↓AM.Y.i_rng2, ↓AM.Y.i_enum, ↓AM.Y.i_zip, ↓AM.Y.g_nm, ↓AM.Y.g_tup, ↓AM.Y.g_sub, ↓AM.Y.g_nil, ↓AM.Y.g_cons, ↓AM.Y.s_nil', ↓AM.Y.s_cons', ↓AM.Y.s_asg, ↓AM.Y.s_asg2', ↓AM.Y.s_asg3', ↓AM.Y.s_par2', ↓AM.Y.s_par3', ↓AM.Y.s_aug', ↓AM.Y.s_expr', ↓AM.Y.s_ret', ↓AM.Y.s_retN', ↓AM.Y.s_iff', ↓AM.Y.s_for', ↓AM.Y.s_whl', ↓AM.Y.s_pass', ↓AM.Y.s_brk', ↓AM.Y.s_cnt', ↓AM.Y.s_never', ↓AM.Y.truth_bl, ↓AM.Y.truth_non, ↓AM.Y.truth_int, ↓AM.Y.truth_tup, ↓AM.Y.truth_rol, ↓AM.Y.truth_ref, ↓AM.Y.o_add, ↓AM.Y.o_sub, ↓AM.Y.o_mul, ↓AM.Y.o_mod, ↓AM.Y.o_fdv, ↓AM.Y.o_pow, ↓AM.Y.o_addL, ↓AM.Y.c_eq, ↓AM.Y.c_ne, ↓AM.Y.c_lt, ↓AM.Y.c_le, ↓AM.Y.c_gt, ↓AM.Y.c_ge, ↓AM.Y.c_inn, ↓AM.Y.c_nin, ↓AM.Y.has_dct, ↓AM.Y.x_tup, ↓AM.Y.x_rol, ↓AM.Y.x_ref, ↓AM.Y.x_set, ↓AM.Y.x_slcR, ↓AM.Y.x_slcL, ↓AM.Y.b_len_tup, ↓AM.Y.b_len_rol, ↓AM.Y.b_len_ref, ↓AM.Y.b_isi, ↓AM.Y.b_isi2, ↓AM.Y.b_int, ↓AM.Y.b_intb, ↓AM.Y.b_sum, ↓AM.Y.b_max2, ↓AM.Y.b_min2, ↓AM.Y.b_max1, ↓AM.Y.b_min1, ↓AM.Y.b_lst_tup, ↓AM.Y.b_lst_rol, ↓AM.Y.b_lst_ref, ↓AM.Y.b_all, ↓AM.Y.b_any, ↓AM.Y.k_app, ↓AM.Y.k_bits, ↓AM.Y.k_cnt, ↓AM.Y.m_app, ↓AM.Y.m_bits, ↓AM.Y.n_add, ↓AM.Y.n_sub, AM.wp_ok, AM.wp_no, ↓AM.wp_ret, ↓AM.wp_fail, ↓AM.wp_end, ↓AM.thn_nx, ↓AM.thn_rt, ↓AM.thn_bk, ↓AM.thn_ct, ↓AM.thn_xc, ↓AM.endP_nx, ↓AM.endP_rt, ↓AM.endP_xc, ↓AM.lpP_nx, ↓AM.lpP_ct, ↓AM.lpP_bk, ↓AM.lpP_rt, ↓AM.lpP_xc, ↓AM.Y.ifB_bl, ↓AM.Y.isI_int, ↓AM.Y.isT_tup, ↓AM.Y.isS_some, ↓AM.Y.isSS_some, ↓AM.Y.isO_lst, ↓AM.Y.isO_dct, AM.Y.ifB_bl, AM.Y.isI_int, AM.Y.isT_tup, AM.Y.isS_some, AM.Y.isSS_some, AM.Y.isO_lst, AM.Y.isO_dct, List.getElem?_cons_zero, List.getElem?_cons_succ, List.set_cons_zero, List.set_cons_succ, AM.Y.at0, AM.Y.at1, AM.Y.at2, AM.Y.at3, AM.Y.srcV, AM.Y.enumV, AM.tyOf, AM.tyIs, AM.isiV, AM.Y.isNon_non, AM.Y.isNon_bl, AM.Y.isNon_int, AM.Y.isNon_str, AM.Y.isNon_tup, AM.Y.isNon_rol, AM.Y.isNon_ref, Bool.not_true, Bool.not_false, Bool.true_eq_false, Bool.false_eq_true, ↓reduceIte, decide_true, decide_false, decide_eq_true_eq, Option.map_some, Option.map_none, Option.isSome_some, Option.isSome_none, List.length_cons, List.length_nil, List.isEmpty_cons, List.isEmpty_nil, true_and, and_true, Bool.or_false, Bool.false_or, Bool.or_true, Bool.true_or, Nat.zero_add, Nat.reduceAdd, AM.lim, Nat.reduceLeDiff, List.set, AM.wipeE, AM.Y.xcP, reduceCtorEq, imp_self, implies_true, not_false_eq_true, m0]
      refine ⟨_, rfl, q2 _, q3 _, ⟨_, _, _, _, g1, by omega, ?_⟩, f1, l1⟩
      simp [rngL]
      omega
theorem fzs_len : ∀ {ds : List PyData}, ds.length ≤ fzs ds
  | [] => Nat.le_refl _
  | d :: ds => by
    have := fzs_len (ds := ds)
    rw [fzs, List.length_cons]
    omega
theorem fzs_mem : ∀ {ds : List PyData} {d : PyData}, d ∈ ds → fz d ≤ fzs ds
  | e :: ds, d, h => by
    rw [fzs]
    rcases List.mem_cons.mp h with rfl | h
    · omega
    · have := fzs_mem h; omega
theorem dep_mem : ∀ {ds : List PyData} {d : PyData}, d ∈ ds → d.depth ≤ PyData.depthAll ds
  | e :: ds, d, h => by
    rw [PyData.depthAll]
    rcases List.mem_cons.mp h with rfl | h
    · omega
    · have := dep_mem h; omega
theorem lay_mem : ∀ {ds : List PyData} {d : PyData}, PyData.canLayAll0 ds = true → d ∈ ds → d.canLay0 = true
  | e :: ds, d, a, h => by
    obtain ⟨h1, h2⟩ := Bool.and_eq_true_iff.mp (show (e.canLay0 && PyData.canLayAll0 ds) = true from a)
    rcases List.mem_cons.mp h with rfl | h
    · exact h1
    · exact lay_mem h2 h
theorem bools_true : ∀ n : Nat, (List.replicate n (Vl.bl true)).mapM blL = some (List.replicate n true)
  | 0 => rfl
  | n + 1 => by
    rw [List.replicate_succ, List.mapM_cons, bools_true n]
    rfl
theorem all_true (n : Nat) : (List.replicate n true).all id = true := by
  rw [List.all_eq_true]
  intro x hx
  rw [List.mem_replicate] at hx
  exact hx.2
def F_exact (g : Nat) : Fn := { np := 2, ns := 6, body := [(.iff (.bi .isi [(.var 0), (.tup [(.ty .tl), (.ty .tt)])]) [(.asg (.nm 2) (.and (.cmp .eq (.bi .isi [(.var 1), (.ty .tl)]) (.bi .isi [(.var 0), (.ty .tl)])) (.cmp .eq (.bi .isi [(.var 1), (.ty .tt)]) (.bi .isi [(.var 0), (.ty .tt)])))), (.ret (.and (.var 2) (.and (.cmp .eq (.bi .len [(.var 0)]) (.bi .len [(.var 1)])) (.bi .all [(.lc [3, 4] (.tup [(.nm 3), (.nm 4)]) (.zip (.var 0) (.var 1)) none (.call g [(.var 3), (.var 4)]))]))))] []), (.iff (.bi .isi [(.var 0), (.ty .td)]) [(.asg (.nm 2) (.and (.bi .isi [(.var 1), (.ty .td)]) (.call g [(.bi .lst [(.var 0)]), (.bi .lst [(.var 1)])]))), (.ret (.and (.var 2) (.bi .all [(.lc [5] (.nm 5) (.seq (.var 0)) none (.call g [(.idx (.var 0) (.var 5)), (.idx (.var 1) (.var 5))]))])))] []), (.asg (.nm 2) (.cmp .eq (.bi .isi [(.var 0), (.ty .ti)]) (.bi .isi [(.var 1), (.ty .ti)]))), (.ret (.and (.var 2) (.and (.cmp .eq (.bi .isi [(.var 0), (.ty .tb)]) (.bi .isi [(.var 1), (.ty .tb)])) (.cmp .eq (.var 0) (.var 1)))))] }
theorem exact_all {g n : Nat} {src : Src} {xs ys : List Vl} {s0 s1 s2 s3 s4 s5 : Option Vl} {QV : Vl → SH → Prop} {X : Nat → Vl → SH → Prop} (hn : sizeS h src = n) (hl : n ≤ lim)
    (it : ∀ (k : Nat) h', k < n → Fr [] h h' → ∃ x y, xs[k]? = some x ∧ ys[k]? = some y ∧ itemS h' k src = some (some (.tup [x, y]))) (it0 : ∀ h', Fr [] h h' → itemS h' n src = some none)
    (rec : ∀ (k : Nat) x y h', Fr [] h h' → xs[k]? = some x → ys[k]? = some y → wp (callD fns W d g [x, y] h') (fun v h2 => v = .bl true ∧ Fr [] h' h2) NoX)
    (q : ∀ h', Fr [] h h' → QV (.ref h'.length) (h' ++ [.lst (List.replicate n (.bl true))])) :
    wp (cmpL (callD fns W d) [s0, s1, s2, s3, s4, s5] src [3, 4] (.tup [.nm 3, .nm 4]) none (.call g [.var 3, .var 4]) (sizeS h src + 1) 0 [] h) QV X := by
  refine cmp_src (fun k acc h' => acc = List.replicate k (.bl true) ∧ Fr [] h h') n hn (fun k acc h' hk I => ?_) (fun acc h' I => ?_) ⟨rfl, Fr.refl⟩
  · obtain ⟨rfl, f⟩ := I
    obtain ⟨x, y, ex, ey, ei⟩ := it k h' hk f
    refine ⟨_, ei, ?_⟩
    simp -implicitDefEqProofs only [↓AM.Y.y_var, ↓AM.Y.y_non, ↓AM.Y.y_bl, ↓AM.Y.y_int, ↓AM.Y.y_str, ↓AM.Y.y_ty, ↓AM.Y.y_tup, ↓AM.Y.y_lst, ↓AM.Y.y_dct0, ↓AM.Y.y_bin, ↓AM.Y.y_neg, ↓AM.Y.y_not, ↓AM.Y.y_and, ↓AM.Y.y_or, ↓AM.Y.y_cmp, ↓AM.Y.y_cmp2, ↓AM.Y.y_isN, ↓AM.Y.y_ntN, ↓AM.Y.y_isB, ↓AM.Y.y_ntB, ↓AM.Y.y_ife, ↓AM.Y.y_call, ↓AM.Y.y_bi, ↓AM.Y.y_mt, ↓AM.Y.y_idx, ↓AM.Y.y_slc, ↓AM.Y.y_lc, ↓AM.Y.y_lrng, ↓AM.Y.y_nil, ↓AM.Y.y_cons, ↓AM.Y.y_none, ↓AM.Y.y_some, ↓AM.Y.y_cnone, ↓AM.Y.y_csome, ↓AM.Y.t_not, ↓AM.Y.t_and, ↓AM.Y.t_or, ↓AM.Y.t_var, ↓AM.Y.t_cmp, ↓AM.Y.t_cmp2, ↓AM.Y.t_isN, ↓AM.Y.t_ntN, ↓AM.Y.t_isB, ↓AM.Y.t_ntB, ↓AM.Y.t_call, ↓AM.Y.t_bi, ↓AM.Y.t_idx, ↓AM.Y.i_seq, ↓AM.Y.i_rng1, ↓AM.Y.i_rng2, ↓AM.Y.i_enum, ↓AM.Y.i_zip, ↓AM.Y.g_nm, ↓AM.Y.g_tup, ↓AM.Y.g_sub, ↓AM.Y.g_nil, ↓AM.Y.g_cons, ↓AM.Y.s_nil', ↓AM.Y.s_cons', ↓AM.Y.s_asg, ↓AM.Y.s_asg2', ↓AM.Y.s_asg3', ↓AM.Y.s_par2', ↓AM.Y.s_par3', ↓AM.Y.s_aug', ↓AM.Y.s_expr', ↓AM.Y.s_ret', ↓AM.Y.s_retN', ↓AM.Y.s_iff', ↓AM.Y.s_for', ↓AM.Y.s_whl', ↓AM.Y.s_pass', ↓AM.Y.s_brk', ↓AM.Y.s_cnt', ↓AM.Y.s_never', ↓AM.Y.truth_bl, ↓AM.Y.truth_non, ↓AM.Y.truth_int, ↓AM.Y.truth_tup, ↓AM.Y.truth_rol, ↓AM.Y.truth_ref, ↓AM.Y.o_add, ↓AM.Y.o_sub, ↓AM.Y.o_mul, ↓AM.Y.o_mod, ↓AM.Y.o_fdv, ↓AM.Y.o_pow, ↓AM.Y.o_addL, ↓AM.Y.c_eq, ↓AM.Y.c_ne, ↓AM.Y.c_lt, ↓AM.Y.c_le, ↓AM.Y.c_gt, ↓AM.Y.c_ge, ↓AM.Y.c_inn, ↓AM.Y.c_nin, ↓AM.Y.has_dct, ↓AM.Y.x_tup, ↓AM.Y.x_rol, ↓AM.Y.x_ref, ↓AM.Y.x_set, ↓AM.Y.x_slcR, ↓AM.Y.x_slcL, ↓AM.Y.b_len_tup, ↓AM.Y.b_len_rol, ↓AM.Y.b_len_ref, ↓AM.Y.b_isi, ↓AM.Y.b_isi2, ↓AM.Y.b_int, ↓AM.Y.b_intb, ↓AM.Y.b_sum, ↓AM.Y.b_max2, ↓AM.Y.b_min2, ↓AM.Y.b_max1, ↓AM.Y.b_min1, ↓AM.Y.b_lst_tup, ↓AM.Y.b_lst_rol, ↓AM.Y.b_lst_ref, ↓AM.Y.b_all, ↓AM.Y.b_any, ↓AM.Y.k_app, ↓AM.Y.k_bits, ↓AM.Y.k_cnt, ↓AM.Y.m_app, ↓AM.Y.m_bits, ↓AM.Y.n_add, ↓AM.Y.n_sub, AM.wp_ok, AM.wp_no, ↓AM.wp_ret, ↓AM.wp_fail, ↓AM.wp_end, ↓AM.thn_nx, ↓AM.thn_rt, ↓AM.thn_bk, ↓AM.thn_ct, ↓AM.thn_xc, ↓AM.endP_nx, ↓AM.endP_rt, ↓AM.endP_xc, ↓AM.lpP_nx, ↓AM.lpP_ct, ↓AM.lpP_bk, ↓AM.lpP_rt, ↓AM.lpP_xc, ↓AM.Y.ifB_bl, ↓AM.Y.isI_int, ↓AM.Y.isT_tup, ↓AM.Y.isS_some, ↓AM.Y.isSS_some, ↓AM.Y.isO_lst, ↓AM.Y.isO_dct, AM.Y.ifB_bl, AM.Y.isI_int, AM.Y.isT_tup, AM.Y.isS_some, AM.Y.isSS_some, AM.Y.isO_lst, AM.Y.isO_dct, List.getElem?_cons_zero, List.getElem?_cons_succ, List.set_cons_zero, List.set_cons_succ, AM.Y.at0, AM.Y.at1, AM.Y.at2, AM.Y.at3, AM.Y.srcV, AM.Y.enumV, AM.tyOf, AM.tyIs, AM.isiV, AM.Y.isNon_non, AM.Y.isNon_bl, AM.Y.isNon_int, AM.Y.isNon_str, AM.Y.isNon_tup, AM.Y.isNon_rol, AM.Y.isNon_ref, Bool.not_true, Bool.not_false, Bool.true_eq_false, Bool.false_eq_true, ↓reduceIte, decide_true, decide_false, decide_eq_true_eq, Option.map_some, Option.map_none, Option.isSome_some, Option.isSome_none, List.length_cons, List.length_nil, List.isEmpty_cons, List.isEmpty_nil, true_and, and_true, Bool.or_false, Bool.false_or, Bool.or_true, Bool.true_or, Nat.zero_add, Nat.reduceAdd, AM.lim, Nat.reduceLeDiff, List.set, AM.wipeE, AM.Y.xcP, reduceCtorEq, imp_self, implies_true, not_false_eq_true]
    refine wp_q (rec k x y h' f ex ey) fun v h2 z => ?_
    obtain ⟨rfl, f2⟩ := z
    refine ⟨by simp; unfold lim at hl; omega, by rw [List.replicate_succ'], f.trans f2⟩
  · obtain ⟨rfl, f⟩ := I
    exact ⟨it0 h' f, q h' f⟩
theorem w_exact {g : Nat} (hg : fns[g]? = some (F_exact g)) : ∀ (d : Nat) (p : PyData) (a b : Vl) (h : SH), p.depth < d → p.canLay0 = true → fz p ≤ lim → Dt h a p → Dt h b p → wp (callD fns W d g [a, b] h) (fun v h' => v = .bl true ∧ Fr [] h h') NoX
  | 0, p, a, b, h, hd, _, _, _, _ => by omega
  | d + 1, p, a, b, h, hd, hc, hz, ha, hb => by
    rw [call_eq (W := W) (d := d) hg (us := [a, b]) rfl rfl, wp_end]
    show wp (exSs (callD fns W d) W [some a, some b, none, none, none, none] (F_exact g).body h) _ _
    unfold F_exact
    have seq : ∀ (ds : List PyData) (xs ys : List Vl), (∀ e ∈ ds, e.depth < d ∧ e.canLay0 = true ∧ fz e ≤ lim) → Dts h xs ds → Dts h ys ds → ∀ k x y h', Fr [] h h' → xs[k]? = some x → ys[k]? = some y → wp (callD fns W d g [x, y] h') (fun v h2 => v = .bl true ∧ Fr [] h' h2) NoX := fun ds xs ys hds hx hy k x y h' f ex ey => by
      obtain ⟨e1, e2, e3⟩ := hx.ge ex
      obtain ⟨e4, e5, e6⟩ := hy.ge ey
      rw [e2] at e5
      cases e5
      obtain ⟨m1, m2, m3⟩ := hds e1 (List.mem_of_getElem? e2)
      exact w_exact hg d e1 x y h' m1 m2 m3 (e3.fr f) (e6.fr f)
    cases ha with
    | non =>
      cases hb
      simp -implicitDefEqProofs only [↓AM.Y.y_var, ↓AM.Y.y_non, ↓AM.Y.y_bl, ↓AM.Y.y_int, ↓AM.Y.y_str, ↓AM.Y.y_ty, ↓AM.Y.y_tup, ↓AM.Y.y_lst, ↓AM.Y.y_dct0, ↓AM.Y.y_bin, ↓AM.Y.y_neg, ↓AM.Y.y_not, ↓AM.Y.y_and, ↓AM.Y.y_or, ↓AM.Y.y_cmp, ↓AM.Y.y_cmp2, ↓AM.Y.y_isN, ↓AM.Y.y_ntN, ↓AM.Y.y_isB, ↓AM.Y.y_ntB, ↓AM.Y.y_ife, ↓AM.Y.y_call, ↓AM.Y.y_bi, ↓AM.Y.y_mt, ↓AM.Y.y_idx, ↓AM.Y.y_slc, ↓AM.Y.y_lc, ↓AM.Y.y_lrng, ↓AM.Y.y_nil, ↓AM.Y.y_cons, ↓AM.Y.y_none, ↓AM.Y.y_some, ↓AM.Y.y_cnone, ↓AM.Y.y_csome, ↓AM.Y.t_not, ↓AM.Y.t_and, ↓AM.Y.t_or, ↓AM.Y.t_var, ↓AM.Y.t_cmp, ↓AM.Y.t_cmp2, ↓AM.Y.t_isN, ↓AM.Y.t_ntN, ↓AM.Y.t_isB, ↓AM.Y.t_ntB, ↓AM.Y.t_call, ↓AM.Y.t_bi, ↓AM.Y.t_idx, ↓AM.Y.i_seq, ↓AM.Y.i_rng1, ↓AM.Y.i_rng2, ↓AM.Y.i_enum, ↓AM.Y.i_zip, ↓AM.Y.g_nm, ↓AM.Y.g_tup, ↓AM.Y.g_sub, ↓AM.Y.g_nil, ↓AM.Y.g_cons, ↓AM.Y.s_nil', ↓AM.Y.s_cons', ↓AM.Y.s_asg, ↓AM.Y.s_asg2', ↓AM.Y.s_asg3', ↓AM.Y.s_par2', ↓AM.Y.s_par3', ↓AM.Y.s_aug', ↓AM.Y.s_expr', ↓AM.Y.s_ret', ↓AM.Y.s_retN', ↓AM.Y.s_iff', ↓AM.Y.s_for', ↓AM.Y.s_whl', ↓AM.Y.s_pass', ↓AM.Y.s_brk', ↓AM.Y.s_cnt', ↓AM.Y.s_never', ↓AM.Y.truth_bl, ↓AM.Y.truth_non, ↓AM.Y.truth_int, ↓AM.Y.truth_tup, ↓AM.Y.truth_rol, ↓AM.Y.truth_ref, ↓AM.Y.o_add, ↓AM.Y.o_sub, ↓AM.Y.o_mul, ↓AM.Y.o_mod, ↓AM.Y.o_fdv, ↓AM.Y.o_pow, ↓AM.Y.o_addL, ↓AM.Y.c_eq, ↓AM.Y.c_ne, ↓AM.Y.c_lt, ↓AM.Y.c_le, ↓AM.Y.c_gt, ↓AM.Y.c_ge, ↓AM.Y.c_inn, ↓AM.Y.c_nin, ↓AM.Y.has_dct, ↓AM.Y.x_tup, ↓AM.Y.x_rol, ↓AM.Y.x_ref, ↓AM.Y.x_set, ↓AM.Y.x_slcR, ↓AM.Y.x_slcL, ↓AM.Y.b_len_tup, ↓AM.Y.b_len_rol, ↓AM.Y.b_len_ref, ↓AM.Y.b_isi, ↓AM.Y.b_isi2, ↓AM.Y.b_int, ↓AM.Y.b_intb, ↓AM.Y.b_sum, ↓AM.Y.b_max2, ↓AM.Y.b_min2, ↓AM.Y.b_max1, ↓AM.Y.b_min1, ↓AM.Y.b_lst_tup, ↓AM.Y.b_lst_rol, ↓AM.Y.b_lst_ref, ↓AM.Y.b_all, ↓AM.Y.b_any, ↓AM.Y.k_app, ↓AM.Y.k_bits, ↓AM.Y.k_cnt, ↓AM.Y.m_app, ↓AM.Y.m_bits, ↓AM.Y.n_add, ↓AM.Y.n_sub, AM.wp_ok, AM.wp_no, ↓AM.wp_ret, ↓AM.wp_fail, ↓AM.wp_end, ↓AM.thn_nx, ↓AM.thn_rt, ↓AM.thn_bk, ↓AM.thn_ct, ↓AM.thn_xc, ↓AM.endP_nx, ↓AM.endP_rt, ↓AM.endP_xc, ↓AM.lpP_nx, ↓AM.lpP_ct, ↓AM.lpP_bk, ↓AM.lpP_rt, ↓AM.lpP_xc, ↓AM.Y.ifB_bl, ↓AM.Y.isI_int, ↓AM.Y.isT_tup, ↓AM.Y.isS_some, ↓AM.Y.isSS_some, ↓AM.Y.isO_lst, ↓AM.Y.isO_dct, AM.Y.ifB_bl, AM.Y.isI_int, AM.Y.isT_tup, AM.Y.isS_some, AM.Y.isSS_some, AM.Y.isO_lst, AM.Y.isO_dct, List.getElem?_cons_zero, List.getElem?_cons_succ, List.set_cons_zero, List.set_cons_succ, AM.Y.at0, AM.Y.at1, AM.Y.at2, AM.Y.at3, AM.Y.srcV, AM.Y.enumV, AM.tyOf, AM.tyIs, AM.isiV, AM.Y.isNon_non, AM.Y.isNon_bl, AM.Y.isNon_int, AM.Y.isNon_str, AM.Y.isNon_tup, AM.Y.isNon_rol, AM.Y.isNon_ref, Bool.not_true, Bool.not_false, Bool.true_eq_false, Bool.false_eq_true, ↓reduceIte, decide_true, decide_false, decide_eq_true_eq, Option.map_some, Option.map_none, Option.isSome_some, Option.isSome_none, List.length_cons, List.length_nil, List.isEmpty_cons, List.isEmpty_nil, true_and, and_true, Bool.or_false, Bool.false_or, Bool.or_true, Bool.true_or, Nat.zero_add, Nat.reduceAdd, AM.lim, Nat.reduceLeDiff, List.set, AM.wipeE, AM.Y.xcP, reduceCtorEq, imp_self, implies_true, not_false_eq_true, eqD_bl, eqD_non, beq_self_eq_true]
      exact Fr.refl
    | bl k =>
      cases hb
      simp -implicitDefEqProofs only [↓AM.Y.y_var, ↓AM.Y.y_non, ↓AM.Y.y_bl, ↓AM.Y.y_int, ↓AM.Y.y_str, ↓AM.Y.y_ty, ↓AM.Y.y_tup, ↓AM.Y.y_lst, ↓AM.Y.y_dct0, ↓AM.Y.y_bin, ↓AM.Y.y_neg, ↓AM.Y.y_not, ↓AM.Y.y_and, ↓AM.Y.y_or, ↓AM.Y.y_cmp, ↓AM.Y.y_cmp2, ↓AM.Y.y_isN, ↓AM.Y.y_ntN, ↓AM.Y.y_isB, ↓AM.Y.y_ntB, ↓AM.Y.y_ife, ↓AM.Y.y_call, ↓AM.Y.y_bi, ↓AM.Y.y_mt, ↓AM.Y.y_idx, ↓AM.Y.y_slc, ↓AM.Y.y_lc, ↓AM.Y.y_lrng, ↓AM.Y.y_nil, ↓AM.Y.y_cons, ↓AM.Y.y_none, ↓AM.Y.y_some, ↓AM.Y.y_cnone, ↓AM.Y.y_csome, ↓AM.Y.t_not, ↓AM.Y.t_and, ↓AM.Y.t_or, ↓AM.Y.t_var, ↓AM.Y.t_cmp, ↓AM.Y.t_cmp2, ↓AM.Y.t_isN, ↓AM.Y.t_ntN, ↓AM.Y.t_isB, ↓AM.Y.t_ntB, ↓AM.Y.t_call, ↓AM.Y.t_bi, ↓AM.Y.t_idx, ↓AM.Y.i_seq, ↓AM.Y.i_rng1, ↓AM.Y.i_rng2, ↓AM.Y.i_enum, ↓AM.Y.i_zip, ↓AM.Y.g_nm, ↓AM.Y.g_tup, ↓AM.Y.g_sub, ↓AM.Y.g_nil, ↓AM.Y.g_cons, ↓AM.Y.s_nil', ↓AM.Y.s_cons', ↓AM.Y.s_asg, ↓AM.Y.s_asg2', ↓AM.Y.s_asg3', ↓AM.Y.s_par2', ↓AM.Y.s_par3', ↓AM.Y.s_aug', ↓AM.Y.s_expr', ↓AM.Y.s_ret', ↓AM.Y.s_retN', ↓AM.Y.s_iff', ↓AM.Y.s_for', ↓AM.Y.s_whl', ↓AM.Y.s_pass', ↓AM.Y.s_brk', ↓AM.Y.s_cnt', ↓AM.Y.s_never', ↓AM.Y.truth_bl, ↓AM.Y.truth_non, ↓AM.Y.truth_int, ↓AM.Y.truth_tup, ↓AM.Y.truth_rol, ↓AM.Y.truth_ref, ↓AM.Y.o_add, ↓AM.Y.o_sub, ↓AM.Y.o_mul, ↓AM.Y.o_mod, ↓AM.Y.o_fdv, ↓AM.Y.o_pow, ↓AM.Y.o_addL, ↓AM.Y.c_eq, ↓AM.Y.c_ne, ↓AM.Y.c_lt, ↓AM.Y.c_le, ↓AM.Y.c_gt, ↓AM.Y.c_ge, ↓AM.Y.c_inn, ↓AM.Y.c_nin, ↓AM.Y.has_dct, ↓AM.Y.x_tup, ↓AM.Y.x_rol, ↓AM.Y.x_ref, ↓AM.Y.x_set, ↓AM.Y.x_slcR, ↓AM.Y.x_slcL, ↓AM.Y.b_len_tup, ↓AM.Y.b_len_rol, ↓AM.Y.b_len_ref, ↓AM.Y.b_isi, ↓AM.Y.b_isi2, ↓AM.Y.b_int, ↓AM.Y.b_intb, ↓AM.Y.b_sum, ↓AM.Y.b_max2, ↓AM.Y.b_min2, ↓AM.Y.b_max1, ↓AM.Y.b_min1, ↓AM.Y.b_lst_tup, ↓AM.Y.b_lst_rol, ↓AM.Y.b_lst_ref, ↓AM.Y.b_all, ↓AM.Y.b_any, ↓AM.Y.k_app, ↓AM.Y.k_bits, ↓AM.Y.k_cnt, ↓AM.Y.m_app, ↓AM.Y.m_bits, ↓AM.Y.n_add, ↓AM.Y.n_sub, AM.wp_ok, AM.wp_no, ↓AM.wp_ret, ↓AM.wp_fail, ↓AM.wp_end, ↓AM.thn_nx, ↓AM.thn_rt, ↓AM.thn_bk, ↓AM.thn_ct, ↓AM.thn_xc, ↓AM.endP_nx, ↓AM.endP_rt, ↓AM.endP_xc, ↓AM.lpP_nx, ↓AM.lpP_ct, ↓AM.lpP_bk, ↓AM.lpP_rt, ↓AM.lpP_xc, ↓AM.Y.ifB_bl, ↓AM.Y.isI_int, ↓AM.Y.isT_tup, ↓AM.Y.isS_some, ↓AM.Y.isSS_some, ↓AM.Y.isO_lst, ↓AM.Y.isO_dct, AM.Y.ifB_bl, AM.Y.isI_int, AM.Y.isT_tup, AM.Y.isS_some, AM.Y.isSS_some, AM.Y.isO_lst, AM.Y.isO_dct, List.getElem?_cons_zero, List.getElem?_cons_succ, List.set_cons_zero, List.set_cons_succ, AM.Y.at0, AM.Y.at1, AM.Y.at2, AM.Y.at3, AM.Y.srcV, AM.Y.enumV, AM.tyOf, AM.tyIs, AM.isiV, AM.Y.isNon_non, AM.Y.isNon_bl, AM.Y.isNon_int, AM.Y.isNon_str, AM.Y.isNon_tup, AM.Y.isNon_rol, AM.Y.isNon_ref, Bool.not_true, Bool.not_false, Bool.true_eq_false, Bool.false_eq_true, ↓reduceIte, decide_true, decide_false, decide_eq_true_eq, Option.map_some, Option.map_none, Option.isSome_some, Option.isSome_none, List.length_cons, List.length_nil, List.isEmpty_cons, List.isEmpty_nil, true_and, and_true, Bool.or_false, Bool.false_or, Bool.or_true, Bool.true_or, Nat.zero_add, Nat.reduceAdd, AM.lim, Nat.reduceLeDiff, List.set, AM.wipeE, AM.Y.xcP, reduceCtorEq, imp_self, implies_true, not_false_eq_true, eqD_bl, beq_self_eq_true]
      exact Fr.refl
    | int k =>
      cases hb
      simp -implicitDefEqProofs only [↓AM.Y.y_var, ↓AM.Y.y_non, ↓AM.Y.y_bl, ↓AM.Y.y_int, ↓AM.Y.y_str, ↓AM.Y.y_ty, ↓AM.Y.y_tup, ↓AM.Y.y_lst, ↓AM.Y.y_dct0, ↓AM.Y.y_bin, ↓AM.Y.y_neg, ↓AM.Y.y_not, ↓AM.Y.y_and, ↓AM.Y.y_or, ↓AM.Y.y_cmp, ↓AM.Y.y_cmp2, ↓AM.Y.y_isN, ↓AM.Y.y_ntN, ↓AM.Y.y_isB, ↓AM.Y.y_ntB, ↓AM.Y.y_ife, ↓AM.Y.y_call, ↓AM.Y.y_bi, ↓AM.Y.y_mt, ↓AM.Y.y_idx, ↓AM.Y.y_slc, ↓AM.Y.y_lc, ↓AM.Y.y_lrng, ↓AM.Y.y_nil, ↓AM.Y.y_cons, ↓AM.Y.y_none, ↓AM.Y.y_some, ↓AM.Y.y_cnone, ↓AM.Y.y_csome, ↓AM.Y.t_not, ↓AM.Y.t_and, ↓AM.Y.t_or, ↓AM.Y.t_var, ↓AM.Y.t_cmp, ↓AM.Y.t_cmp2, ↓AM.Y.t_isN, ↓AM.Y.t_ntN, ↓AM.Y.t_isB, ↓AM.Y.t_ntB, ↓AM.Y.t_call, ↓AM.Y.t_bi, ↓AM.Y.t_idx, ↓AM.Y.i_seq, ↓AM.Y.i_rng1, ↓AM.Y.i_rng2, ↓AM.Y.i_enum, ↓AM.Y.i_zip, ↓AM.Y.g_nm, ↓AM.Y.g_tup, ↓AM.Y.g_sub, ↓AM.Y.g_nil, ↓AM.Y.g_cons, ↓AM.Y.s_nil', ↓AM.Y.s_cons', ↓AM.Y.s_asg, ↓AM.Y.s_asg2', ↓AM.Y.s_asg3', ↓AM.Y.s_par2', ↓AM.Y.s_par3', ↓AM.Y.s_aug', ↓AM.Y.s_expr', ↓AM.Y.s_ret', ↓AM.Y.s_retN', ↓AM.Y.s_iff', ↓AM.Y.s_for', ↓AM.Y.s_whl', ↓AM.Y.s_pass', ↓AM.Y.s_brk', ↓AM.Y.s_cnt', ↓AM.Y.s_never', ↓AM.Y.truth_bl, ↓AM.Y.truth_non, ↓AM.Y.truth_int, ↓AM.Y.truth_tup, ↓AM.Y.truth_rol, ↓AM.Y.truth_ref, ↓AM.Y.o_add, ↓AM.Y.o_sub, ↓AM.Y.o_mul, ↓AM.Y.o_mod, ↓AM.Y.o_fdv, ↓AM.Y.o_pow, ↓AM.Y.o_addL, ↓AM.Y.c_eq, ↓AM.Y.c_ne, ↓AM.Y.c_lt, ↓AM.Y.c_le, ↓AM.Y.c_gt, ↓AM.Y.c_ge, ↓AM.Y.c_inn, ↓AM.Y.c_nin, ↓AM.Y.has_dct, ↓AM.Y.x_tup, ↓AM.Y.x_rol, ↓AM.Y.x_ref, ↓AM.Y.x_set, ↓AM.Y.x_slcR, ↓AM.Y.x_slcL, ↓AM.Y.b_len_tup, ↓AM.Y.b_len_rol, ↓AM.Y.b_len_ref, ↓AM.Y.b_isi, ↓AM.Y.b_isi2, ↓AM.Y.b_int, ↓AM.Y.b_intb, ↓AM.Y.b_sum, ↓AM.Y.b_max2, ↓AM.Y.b_min2, ↓AM.Y.b_max1, ↓AM.Y.b_min1, ↓AM.Y.b_lst_tup, ↓AM.Y.b_lst_rol, ↓AM.Y.b_lst_ref, ↓AM.Y.b_all, ↓AM.Y.b_any, ↓AM.Y.k_app, ↓AM.Y.k_bits, ↓AM.Y.k_cnt, ↓AM.Y.m_app, ↓AM.Y.m_bits, ↓AM.Y.n_add, ↓AM.Y.n_sub, AM.wp_ok, AM.wp_no, ↓AM.wp_ret, ↓AM.wp_fail, ↓AM.wp_end, ↓AM.thn_nx, ↓AM.thn_rt, ↓AM.thn_bk, ↓AM.thn_ct, ↓AM.thn_xc, ↓AM.endP_nx, ↓AM.endP_rt, ↓AM.endP_xc, ↓AM.lpP_nx, ↓AM.lpP_ct, ↓AM.lpP_bk, ↓AM.lpP_rt, ↓AM.lpP_xc, ↓AM.Y.ifB_bl, ↓AM.Y.isI_int, ↓AM.Y.isT_tup, ↓AM.Y.isS_some, ↓AM.Y.isSS_some, ↓AM.Y.isO_lst, ↓AM.Y.isO_dct, AM.Y.ifB_bl, AM.Y.isI_int, AM.Y.isT_tup, AM.Y.isS_some, AM.Y.isSS_some, AM.Y.isO_lst, AM.Y.isO_dct, List.getElem?_cons_zero, List.getElem?_cons_succ, List.set_cons_zero, List.set_cons_succ, AM.Y.at0, AM.Y.at1, AM.Y.at2, AM.Y.at3, AM.Y.srcV, AM.Y.enumV, AM.tyOf, AM.tyIs, AM.isiV, AM.Y.isNon_non, AM.Y.isNon_bl, AM.Y.isNon_int, AM.Y.isNon_str, AM.Y.isNon_tup, AM.Y.isNon_rol, AM.Y.isNon_ref, Bool.not_true, Bool.not_false, Bool.true_eq_false, Bool.false_eq_true, ↓reduceIte, decide_true, decide_false, decide_eq_true_eq, Option.map_some, Option.map_none, Option.isSome_some, Option.isSome_none, List.length_cons, List.length_nil, List.isEmpty_cons, List.isEmpty_nil, true_and, and_true, Bool.or_false, Bool.false_or, Bool.or_true, Bool.true_or, Nat.zero_add, Nat.reduceAdd, AM.lim, Nat.reduceLeDiff, List.set, AM.wipeE, AM.Y.xcP, reduceCtorEq, imp_self, implies_true, not_false_eq_true, eqD_bl, eqD_int, beq_self_eq_true]
      exact Fr.refl
    | str k =>
      cases hb
      simp -implicitDefEqProofs only [↓AM.Y.y_var, ↓AM.Y.y_non, ↓AM.Y.y_bl, ↓AM.Y.y_int, ↓AM.Y.y_str, ↓AM.Y.y_ty, ↓AM.Y.y_tup, ↓AM.Y.y_lst, ↓AM.Y.y_dct0, ↓AM.Y.y_bin, ↓AM.Y.y_neg, ↓AM.Y.y_not, ↓AM.Y.y_and, ↓AM.Y.y_or, ↓AM.Y.y_cmp, ↓AM.Y.y_cmp2, ↓AM.Y.y_isN, ↓AM.Y.y_ntN, ↓AM.Y.y_isB, ↓AM.Y.y_ntB, ↓AM.Y.y_ife, ↓AM.Y.y_call, ↓AM.Y.y_bi, ↓AM.Y.y_mt, ↓AM.Y.y_idx, ↓AM.Y.y_slc, ↓AM.Y.y_lc, ↓AM.Y.y_lrng, ↓AM.Y.y_nil, ↓AM.Y.y_cons, ↓AM.Y.y_none, ↓AM.Y.y_some, ↓AM.Y.y_cnone, ↓AM.Y.y_csome, ↓AM.Y.t_not, ↓AM.Y.t_and, ↓AM.Y.t_or, ↓AM.Y.t_var, ↓AM.Y.t_cmp, ↓AM.Y.t_cmp2, ↓AM.Y.t_isN, ↓AM.Y.t_ntN, ↓AM.Y.t_isB, ↓AM.Y.t_ntB, ↓AM.Y.t_call, ↓AM.Y.t_bi, ↓AM.Y.t_idx, ↓AM.Y.i_seq, ↓AM.Y.i_rng1, ↓AM.Y.i_rng2, ↓AM.Y.i_enum, ↓AM.Y.i_zip, ↓AM.Y.g_nm, ↓AM.Y.g_tup, ↓AM.Y.g_sub, ↓AM.Y.g_nil, ↓AM.Y.g_cons, ↓AM.Y.s_nil', ↓AM.Y.s_cons', ↓AM.Y.s_asg, ↓AM.Y.s_asg2', ↓AM.Y.s_asg3', ↓AM.Y.s_par2', ↓AM.Y.s_par3', ↓AM.Y.s_aug', ↓AM.Y.s_expr', ↓AM.Y.s_ret', ↓AM.Y.s_retN', ↓AM.Y.s_iff', ↓AM.Y.s_for', ↓AM.Y.s_whl', ↓AM.Y.s_pass', ↓AM.Y.s_brk', ↓AM.Y.s_cnt', ↓AM.Y.s_never', ↓AM.Y.truth_bl, ↓AM.Y.truth_non, ↓AM.Y.truth_int, ↓AM.Y.truth_tup, ↓AM.Y.truth_rol, ↓AM.Y.truth_ref, ↓AM.Y.o_add, ↓AM.Y.o_sub, ↓AM.Y.o_mul, ↓AM.Y.o_mod, ↓AM.Y.o_fdv, ↓AM.Y.o_pow, ↓AM.Y.o_addL, ↓AM.Y.c_eq, ↓AM.Y.c_ne, ↓AM.Y.c_lt, ↓AM.Y.c_le, ↓AM.Y.c_gt, ↓AM.Y.c_ge, ↓AM.Y.c_inn, ↓AM.Y.c_nin, ↓AM.Y.has_dct, ↓AM.Y.x_tup, ↓AM.Y.x_rol, ↓AM.Y.x_ref, ↓AM.Y.x_set, ↓AM.Y.x_slcR, ↓AM.Y.x_slcL, ↓AM.Y.b_len_tup, ↓AM.Y.b_len_rol, ↓AM.Y.b_len_ref, ↓AM.Y.b_isi, ↓AM.Y.b_isi2, ↓AM.Y.b_int, ↓AM.Y.b_intb, ↓AM.Y.b_sum, ↓AM.Y.b_max2, ↓AM.Y.b_min2, ↓AM.Y.b_max1, ↓AM.Y.b_min1, ↓AM.Y.b_lst_tup, ↓AM.Y.b_lst_rol, ↓AM.Y.b_lst_ref, ↓AM.Y.b_all, ↓AM.Y.b_any, ↓AM.Y.k_app, ↓AM.Y.k_bits, ↓AM.Y.k_cnt, ↓AM.Y.m_app, ↓AM.Y.m_bits, ↓AM.Y.n_add, ↓AM.Y.n_sub, AM.wp_ok, AM.wp_no, ↓AM.wp_ret, ↓AM.wp_fail, ↓AM.wp_end, ↓AM.thn_nx, ↓AM.thn_rt, ↓AM.thn_bk, ↓AM.thn_ct, ↓AM.thn_xc, ↓AM.endP_nx, ↓AM.endP_rt, ↓AM.endP_xc, ↓AM.lpP_nx, ↓AM.lpP_ct, ↓AM.lpP_bk, ↓AM.lpP_rt, ↓AM.lpP_xc, ↓AM.Y.ifB_bl, ↓AM.Y.isI_int, ↓AM.Y.isT_tup, ↓AM.Y.isS_some, ↓AM.Y.isSS_some, ↓AM.Y.isO_lst, ↓AM.Y.isO_dct, AM.Y.ifB_bl, AM.Y.isI_int, AM.Y.isT_tup, AM.Y.isS_some, AM.Y.isSS_some, AM.Y.isO_lst, AM.Y.isO_dct, List.getElem?_cons_zero, List.getElem?_cons_succ, List.set_cons_zero, List.set_cons_succ, AM.Y.at0, AM.Y.at1, AM.Y.at2, AM.Y.at3, AM.Y.srcV, AM.Y.enumV, AM.tyOf, AM.tyIs, AM.isiV, AM.Y.isNon_non, AM.Y.isNon_bl, AM.Y.isNon_int, AM.Y.isNon_str, AM.Y.isNon_tup, AM.Y.isNon_rol, AM.Y.isNon_ref, Bool.not_true, Bool.not_false, Bool.true_eq_false, Bool.false_eq_true, ↓reduceIte, decide_true, decide_false, decide_eq_true_eq, Option.map_some, Option.map_none, Option.isSome_some, Option.isSome_none, List.length_cons, List.length_nil, List.isEmpty_cons, List.isEmpty_nil, true_and, and_true, Bool.or_false, Bool.false_or, Bool.or_true, Bool.true_or, Nat.zero_add, Nat.reduceAdd, AM.lim, Nat.reduceLeDiff, List.set, AM.wipeE, AM.Y.xcP, reduceCtorEq, imp_self, implies_true, not_false_eq_true, eqD_bl, eqD_str hc hc, beq_self_eq_true]
      exact Fr.refl
    | @tup xs ds hx =>
      cases hb with
      | @tup ys _ hy =>
        have hds : ∀ e ∈ ds, e.depth < d ∧ e.canLay0 = true ∧ fz e ≤ lim := fun e he => by
          have h1 := dep_mem he
          have h2 := fzs_mem he
          rw [PyData.depth] at hd
          rw [fz] at hz
          exact ⟨by omega, lay_mem hc he, by omega⟩
        have hlen : xs.length = ys.length := hx.len.trans hy.len.symm
        have hlim : xs.length ≤ lim := by
          have := fzs_len (ds := ds)
          have := hx.len
          rw [fz] at hz
          omega
        simp -implicitDefEqProofs only [↓AM.Y.y_var, ↓AM.Y.y_non, ↓AM.Y.y_bl, ↓AM.Y.y_int, ↓AM.Y.y_str, ↓AM.Y.y_ty, ↓AM.Y.y_tup, ↓AM.Y.y_lst, ↓AM.Y.y_dct0, ↓AM.Y.y_bin, ↓AM.Y.y_neg, ↓AM.Y.y_not, ↓AM.Y.y_and, ↓AM.Y.y_or, ↓AM.Y.y_cmp, ↓AM.Y.y_cmp2, ↓AM.Y.y_isN, ↓AM.Y.y_ntN, ↓AM.Y.y_isB, ↓AM.Y.y_ntB, ↓AM.Y.y_ife, ↓AM.Y.y_call, ↓AM.Y.y_bi, ↓AM.Y.y_mt, ↓AM.Y.y_idx, ↓AM.Y.y_slc, ↓AM.Y.y_lc, ↓AM.Y.y_lrng, ↓AM.Y.y_nil, ↓AM.Y.y_cons, ↓AM.Y.y_none, ↓AM.Y.y_some, ↓AM.Y.y_cnone, ↓AM.Y.y_csome, ↓AM.Y.t_not, ↓AM.Y.t_and, ↓AM.Y.t_or, ↓AM.Y.t_var, ↓AM.Y.t_cmp, ↓AM.Y.t_cmp2, ↓AM.Y.t_isN, ↓AM.Y.t_ntN, ↓AM.Y.t_isB, ↓AM.Y.t_ntB, ↓AM.Y.t_call, ↓AM.Y.t_bi, ↓AM.Y.t_idx, ↓AM.Y.i_seq, ↓AM.Y.i_rng1, ↓AM.Y.i_rng2, ↓AM.Y.i_enum, ↓AM.Y.i_zip, ↓AM.Y.g_nm, ↓AM.Y.g_tup, ↓AM.Y.g_sub, ↓AM.Y.g_nil, ↓AM.Y.g_cons, ↓AM.Y.s_nil', ↓AM.Y.s_cons', ↓AM.Y.s_asg, ↓AM.Y.s_asg2', ↓AM.Y.s_asg3', ↓AM.Y.s_par2', ↓AM.Y.s_par3', ↓AM.Y.s_aug', ↓AM.Y.s_expr', ↓AM.Y.s_ret', ↓AM.Y.s_retN', ↓AM.Y.s_iff', ↓AM.Y.s_for', ↓AM.Y.s_whl', ↓AM.Y.s_pass', ↓AM.Y.s_brk', ↓AM.Y.s_cnt', ↓AM.Y.s_never', ↓AM.Y.truth_bl, ↓AM.Y.truth_non, ↓AM.Y.truth_int, ↓AM.Y.truth_tup, ↓AM.Y.truth_rol, ↓AM.Y.truth_ref, ↓AM.Y.o_add, ↓AM.Y.o_sub, ↓AM.Y.o_mul, ↓AM.Y.o_mod, ↓AM.Y.o_fdv, ↓AM.Y.o_pow, ↓AM.Y.o_addL, ↓AM.Y.c_eq, ↓AM.Y.c_ne, ↓AM.Y.c_lt, ↓AM.Y.c_le, ↓AM.Y.c_gt, ↓AM.Y.c_ge, ↓AM.Y.c_inn, ↓AM.Y.c_nin, ↓AM.Y.has_dct, ↓AM.Y.x_tup, ↓AM.Y.x_rol, ↓AM.Y.x_ref, ↓AM.Y.x_set, ↓AM.Y.x_slcR, ↓AM.Y.x_slcL, ↓AM.Y.b_len_tup, ↓AM.Y.b_len_rol, ↓AM.Y.b_len_ref, ↓AM.Y.b_isi, ↓AM.Y.b_isi2, ↓AM.Y.b_int, ↓AM.Y.b_intb, ↓AM.Y.b_sum, ↓AM.Y.b_max2, ↓AM.Y.b_min2, ↓AM.Y.b_max1, ↓AM.Y.b_min1, ↓AM.Y.b_lst_tup, ↓AM.Y.b_lst_rol, ↓AM.Y.b_lst_ref, ↓AM.Y.b_all, ↓AM.Y.b_any, ↓AM.Y.k_app, ↓AM.Y.k_bits, ↓AM.Y.k_cnt, ↓AM.Y.m_app, ↓AM.Y.m_bits, ↓AM.Y.n_add, ↓AM.Y.n_sub, AM.wp_ok, AM.wp_no, ↓AM.wp_ret, ↓AM.wp_fail, ↓AM.wp_end, ↓AM.thn_nx, ↓AM.thn_rt, ↓AM.thn_bk, ↓AM.thn_ct, ↓AM.thn_xc, ↓AM.endP_nx, ↓AM.endP_rt, ↓AM.endP_xc, ↓AM.lpP_nx, ↓AM.lpP_ct, ↓AM.lpP_bk, ↓AM.lpP_rt, ↓AM.lpP_xc, ↓AM.Y.ifB_bl, ↓AM.Y.isI_int, ↓AM.Y.isT_tup, ↓AM.Y.isS_some, ↓AM.Y.isSS_some, ↓AM.Y.isO_lst, ↓AM.Y.isO_dct, AM.Y.ifB_bl, AM.Y.isI_int, AM.Y.isT_tup, AM.Y.isS_some, AM.Y.isSS_some, AM.Y.isO_lst, AM.Y.isO_dct, List.getElem?_cons_zero, List.getElem?_cons_succ, List.set_cons_zero, List.set_cons_succ, AM.Y.at0, AM.Y.at1, AM.Y.at2, AM.Y.at3, AM.Y.srcV, AM.Y.enumV, AM.tyOf, AM.tyIs, AM.isiV, AM.Y.isNon_non, AM.Y.isNon_bl, AM.Y.isNon_int, AM.Y.isNon_str, AM.Y.isNon_tup, AM.Y.isNon_rol, AM.Y.isNon_ref, Bool.not_true, Bool.not_false, Bool.true_eq_false, Bool.false_eq_true, ↓reduceIte, decide_true, decide_false, decide_eq_true_eq, Option.map_some, Option.map_none, Option.isSome_some, Option.isSome_none, List.length_cons, List.length_nil, List.isEmpty_cons, List.isEmpty_nil, true_and, and_true, Bool.or_false, Bool.false_or, Bool.or_true, Bool.true_or, Nat.zero_add, Nat.reduceAdd, AM.lim, Nat.reduceLeDiff, List.set, AM.wipeE, AM.Y.xcP, reduceCtorEq, imp_self, implies_true, not_false_eq_true, eqD_bl, eqD_int, beq_self_eq_true, hlen, zipV]
        refine exact_all (n := xs.length) (xs := xs) (ys := ys) rfl hlim (fun k h' hk f => ?_) (fun h' f => ?_) (seq ds xs ys hds hx hy) fun h' f => ?_
        · have hk2 : k < ys.length := by omega
          exact ⟨_, _, List.getElem?_eq_getElem hk, List.getElem?_eq_getElem hk2, by rw [itemS, List.getElem?_eq_getElem hk, List.getElem?_eq_getElem hk2]⟩
        · rw [itemS]; simp
        · simp -implicitDefEqProofs only [↓AM.Y.y_var, ↓AM.Y.y_non, ↓AM.Y.y_bl, ↓AM.Y.y_int, ↓AM.Y.y_str, ↓AM.Y.y_ty, ↓AM.Y.y_tup, ↓AM.Y.y_lst, ↓AM.Y.y_dct0, ↓AM.Y.y_bin, ↓AM.Y.y_neg, ↓AM.Y.y_not, ↓AM.Y.y_and, ↓AM.Y.y_or, ↓AM.Y.y_cmp, ↓AM.Y.y_cmp2, ↓AM.Y.y_isN, ↓AM.Y.y_ntN, ↓AM.Y.y_isB, ↓AM.Y.y_ntB, ↓AM.Y.y_ife, ↓AM.Y.y_call, ↓AM.Y.y_bi, ↓AM.Y.y_mt, ↓AM.Y.y_idx, ↓AM.Y.y_slc, ↓AM.Y.y_lc, ↓AM.Y.y_lrng, ↓AM.Y.y_nil, ↓AM.Y.y_cons, ↓AM.Y.y_none, ↓AM.Y.y_some, ↓AM.Y.y_cnone, ↓AM.Y.y_csome, ↓AM.Y.t_not, ↓AM.Y.t_and, ↓AM.Y.t_or, ↓AM.Y.t_var, ↓AM.Y.t_cmp, ↓AM.Y.t_cmp2, ↓AM.Y.t_isN, ↓AM.Y.t_ntN, ↓AM.Y.t_isB, ↓AM.Y.t_ntB, ↓AM.Y.t_call, ↓AM.Y.t_bi, ↓AM.Y.t_idx, ↓AM.Y.i_seq, ↓AM.Y.i_rng1, ↓AM.Y.i_rng2, ↓AM.Y.i_enum, ↓AM.Y.i_zip, ↓AM.Y.g_nm, ↓AM.Y.g_tup, ↓AM.Y.g_sub, ↓AM.Y.g_nil, ↓AM.Y.g_cons, ↓AM.Y.s_nil', ↓AM.Y.s_cons', ↓AM.Y.s_asg, ↓AM.Y.s_asg2', ↓AM.Y.s_asg3', ↓AM.Y.s_par2', ↓AM.Y.s_par3', ↓AM.Y.s_aug', ↓AM.Y.s_expr', ↓AM.Y.s_ret', ↓AM.Y.s_retN', ↓AM.Y.s_iff', ↓AM.Y.s_for', ↓AM.Y.s_whl', ↓AM.Y.s_pass', ↓AM.Y.s_brk', ↓AM.Y.s_cnt', ↓AM.Y.s_never', ↓AM.Y.truth_bl, ↓AM.Y.truth_non, ↓AM.Y.truth_int, ↓AM.Y.truth_tup, ↓AM.Y.truth_rol, ↓AM.Y.truth_ref, ↓AM.Y.o_add, ↓AM.Y.o_sub, ↓AM.Y.o_mul, ↓AM.Y.o_mod, ↓AM.Y.o_fdv, ↓AM.Y.o_pow, ↓AM.Y.o_addL, ↓AM.Y.c_eq, ↓AM.Y.c_ne, ↓AM.Y.c_lt, ↓AM.Y.c_le, ↓AM.Y.c_gt, ↓AM.Y.c_ge, ↓AM.Y.c_inn, ↓AM.Y.c_nin, ↓AM.Y.has_dct, ↓AM.Y.x_tup, ↓AM.Y.x_rol, ↓AM.Y.x_ref, ↓AM.Y.x_set, ↓AM.Y.x_slcR, ↓AM.Y.x_slcL, ↓AM.Y.b_len_tup, ↓AM.Y.b_len_rol, ↓AM.Y.b_len_ref, ↓AM.Y.b_isi, ↓AM.Y.b_isi2, ↓AM.Y.b_int, ↓AM.Y.b_intb, ↓AM.Y.b_sum, ↓AM.Y.b_max2, ↓AM.Y.b_min2, ↓AM.Y.b_max1, ↓AM.Y.b_min1, ↓AM.Y.b_lst_tup, ↓AM.Y.b_lst_rol, ↓AM.Y.b_lst_ref, ↓AM.Y.b_all, ↓AM.Y.b_any, ↓AM.Y.k_app, ↓AM.Y.k_bits, ↓AM.Y.k_cnt, ↓AM.Y.m_app, ↓AM.Y.m_bits, ↓AM.Y.n_add, ↓AM.Y.n_sub, AM.wp_ok, AM.wp_no, ↓AM.wp_ret, ↓AM.wp_fail, ↓AM.wp_end, ↓AM.thn_nx, ↓AM.thn_rt, ↓AM.thn_bk, ↓AM.thn_ct, ↓AM.thn_xc, ↓AM.endP_nx, ↓AM.endP_rt, ↓AM.endP_xc, ↓AM.lpP_nx, ↓AM.lpP_ct, ↓AM.lpP_bk, ↓AM.lpP_rt, ↓AM.lpP_xc, ↓AM.Y.ifB_bl, ↓AM.Y.isI_int, ↓AM.Y.isT_tup, ↓AM.Y.isS_some, ↓AM.Y.isSS_some, ↓AM.Y.isO_lst, ↓AM.Y.isO_dct, AM.Y.ifB_bl, AM.Y.isI_int, AM.Y.isT_tup, AM.Y.isS_some, AM.Y.isSS_some, AM.Y.isO_lst, AM.Y.isO_dct, List.getElem?_cons_zero, List.getElem?_cons_succ, List.set_cons_zero, List.set_cons_succ, AM.Y.at0, AM.Y.at1, AM.Y.at2, AM.Y.at3, AM.Y.srcV, AM.Y.enumV, AM.tyOf, AM.tyIs, AM.isiV, AM.Y.isNon_non, AM.Y.isNon_bl, AM.Y.isNon_int, AM.Y.isNon_str, AM.Y.isNon_tup, AM.Y.isNon_rol, AM.Y.isNon_ref, Bool.not_true, Bool.not_false, Bool.true_eq_false, Bool.false_eq_true, ↓reduceIte, decide_true, decide_false, decide_eq_true_eq, Option.map_some, Option.map_none, Option.isSome_some, Option.isSome_none, List.length_cons, List.length_nil, List.isEmpty_cons, List.isEmpty_nil, true_and, and_true, Bool.or_false, Bool.false_or, Bool.or_true, Bool.true_or, Nat.zero_add, Nat.reduceAdd, AM.lim, Nat.reduceLeDiff, List.set, AM.wipeE, AM.Y.xcP, reduceCtorEq, imp_self, implies_true, not_false_eq_true, li_ref get_new, bools_true, all_true]
          exact f.trans (Fr.alloc _)
    | @rol xs ds hx =>
      have hds : ∀ e ∈ ds, e.depth < d ∧ e.canLay0 = true ∧ fz e ≤ lim := fun e he => by
        have h1 := dep_mem he
        have h2 := fzs_mem he
        rw [PyData.depth] at hd
        rw [fz] at hz
        exact ⟨by omega, lay_mem hc he, by omega⟩
      have hlim : xs.length ≤ lim := by
        have := fzs_len (ds := ds)
        have := hx.len
        rw [fz] at hz
        omega
      cases hb with
      | @rol ys _ hy =>
        have hlen : xs.length = ys.length := hx.len.trans hy.len.symm
        simp -implicitDefEqProofs only [↓AM.Y.y_var, ↓AM.Y.y_non, ↓AM.Y.y_bl, ↓AM.Y.y_int, ↓AM.Y.y_str, ↓AM.Y.y_ty, ↓AM.Y.y_tup, ↓AM.Y.y_lst, ↓AM.Y.y_dct0, ↓AM.Y.y_bin, ↓AM.Y.y_neg, ↓AM.Y.y_not, ↓AM.Y.y_and, ↓AM.Y.y_or, ↓AM.Y.y_cmp, ↓AM.Y.y_cmp2, ↓AM.Y.y_isN, ↓AM.Y.y_ntN, ↓AM.Y.y_isB, ↓AM.Y.y_ntB, ↓AM.Y.y_ife, ↓AM.Y.y_call, ↓AM.Y.y_bi, ↓AM.Y.y_mt, ↓AM.Y.y_idx, ↓AM.Y.y_slc, ↓AM.Y.y_lc, ↓AM.Y.y_lrng, ↓AM.Y.y_nil, ↓AM.Y.y_cons, ↓AM.Y.y_none, ↓AM.Y.y_some, ↓AM.Y.y_cnone, ↓AM.Y.y_csome, ↓AM.Y.t_not, ↓AM.Y.t_and, ↓AM.Y.t_or, ↓AM.Y.t_var, ↓AM.Y.t_cmp, ↓AM.Y.t_cmp2, ↓AM.Y.t_isN, ↓AM.Y.t_ntN, ↓AM.Y.t_isB, ↓AM.Y.t_ntB, ↓AM.Y.t_call, ↓AM.Y.t_bi, ↓AM.Y.t_idx, ↓AM.Y.i_seq, ↓AM.Y.i_rng1, ↓AM.Y.i_rng2, ↓AM.Y.i_enum, ↓AM.Y.i_zip, ↓AM.Y.g_nm, ↓AM.Y.g_tup, ↓AM.Y.g_sub, ↓AM.Y.g_nil, ↓AM.Y.g_cons, ↓AM.Y.s_nil', ↓AM.Y.s_cons', ↓AM.Y.s_asg, ↓AM.Y.s_asg2', ↓AM.Y.s_asg3', ↓AM.Y.s_par2', ↓AM.Y.s_par3', ↓AM.Y.s_aug', ↓AM.Y.s_expr', ↓AM.Y.s_ret', ↓AM.Y.s_retN', ↓AM.Y.s_iff', ↓AM.Y.s_for', ↓AM.Y.s_whl', ↓AM.Y.s_pass', ↓AM.Y.s_brk', ↓AM.Y.s_cnt', ↓AM.Y.s_never', ↓AM.Y.truth_bl, ↓AM.Y.truth_non, ↓AM.Y.truth_int, ↓AM.Y.truth_tup, ↓AM.Y.truth_rol, ↓AM.Y.truth_ref, ↓AM.Y.o_add, ↓AM.Y.o_sub, ↓AM.Y.o_mul, ↓AM.Y.o_mod, ↓AM.Y.o_fdv, ↓AM.Y.o_pow, ↓AM.Y.o_addL, ↓AM.Y.c_eq, ↓AM.Y.c_ne, ↓AM.Y.c_lt, ↓AM.Y.c_le, ↓AM.Y.c_gt, ↓AM.Y.c_ge, ↓AM.Y.c_inn, ↓AM.Y.c_nin, ↓AM.Y.has_dct, ↓AM.Y.x_tup, ↓AM.Y.x_rol, ↓AM.Y.x_ref, ↓AM.Y.x_set, ↓AM.Y.x_slcR, ↓AM.Y.x_slcL, ↓AM.Y.b_len_tup, ↓AM.Y.b_len_rol, ↓AM.Y.b_len_ref, ↓AM.Y.b_isi, ↓AM.Y.b_isi2, ↓AM.Y.b_int, ↓AM.Y.b_intb, ↓AM.Y.b_sum, ↓AM.Y.b_max2, ↓AM.Y.b_min2, ↓AM.Y.b_max1, ↓AM.Y.b_min1, ↓AM.Y.b_lst_tup, ↓AM.Y.b_lst_rol, ↓AM.Y.b_lst_ref, ↓AM.Y.b_all, ↓AM.Y.b_any, ↓AM.Y.k_app, ↓AM.Y.k_bits, ↓AM.Y.k_cnt, ↓AM.Y.m_app, ↓AM.Y.m_bits, ↓AM.Y.n_add, ↓AM.Y.n_sub, AM.wp_ok, AM.wp_no, ↓AM.wp_ret, ↓AM.wp_fail, ↓AM.wp_end, ↓AM.thn_nx, ↓AM.thn_rt, ↓AM.thn_bk, ↓AM.thn_ct, ↓AM.thn_xc, ↓AM.endP_nx, ↓AM.endP_rt, ↓AM.endP_xc, ↓AM.lpP_nx, ↓AM.lpP_ct, ↓AM.lpP_bk, ↓AM.lpP_rt, ↓AM.lpP_xc, ↓AM.Y.ifB_bl, ↓AM.Y.isI_int, ↓AM.Y.isT_tup, ↓AM.Y.isS_some, ↓AM.Y.isSS_some, ↓AM.Y.isO_lst, ↓AM.Y.isO_dct, AM.Y.ifB_bl, AM.Y.isI_int, AM.Y.isT_tup, AM.Y.isS_some, AM.Y.isSS_some, AM.Y.isO_lst, AM.Y.isO_dct, List.getElem?_cons_zero, List.getElem?_cons_succ, List.set_cons_zero, List.set_cons_succ, AM.Y.at0, AM.Y.at1, AM.Y.at2, AM.Y.at3, AM.Y.srcV, AM.Y.enumV, AM.tyOf, AM.tyIs, AM.isiV, AM.Y.isNon_non, AM.Y.isNon_bl, AM.Y.isNon_int, AM.Y.isNon_str, AM.Y.isNon_tup, AM.Y.isNon_rol, AM.Y.isNon_ref, Bool.not_true, Bool.not_false, Bool.true_eq_false, Bool.false_eq_true, ↓reduceIte, decide_true, decide_false, decide_eq_true_eq, Option.map_some, Option.map_none, Option.isSome_some, Option.isSome_none, List.length_cons, List.length_nil, List.isEmpty_cons, List.isEmpty_nil, true_and, and_true, Bool.or_false, Bool.false_or, Bool.or_true, Bool.true_or, Nat.zero_add, Nat.reduceAdd, AM.lim, Nat.reduceLeDiff, List.set, AM.wipeE, AM.Y.xcP, reduceCtorEq, imp_self, implies_true, not_false_eq_true, eqD_bl, eqD_int, beq_self_eq_true, hlen, zipV, li_rol]
        refine exact_all (n := xs.length) (xs := xs) (ys := ys) rfl hlim (fun k h' hk f => ?_) (fun h' f => ?_) (seq ds xs ys hds hx hy) fun h' f => ?_
        · have hk2 : k < ys.length := by omega
          exact ⟨_, _, List.getElem?_eq_getElem hk, List.getElem?_eq_getElem hk2, by rw [itemS, li_rol, li_rol]; dsimp only; rw [List.getElem?_eq_getElem hk, List.getElem?_eq_getElem hk2]⟩
        · rw [itemS, li_rol, li_rol]; simp
        · simp -implicitDefEqProofs only [↓AM.Y.y_var, ↓AM.Y.y_non, ↓AM.Y.y_bl, ↓AM.Y.y_int, ↓AM.Y.y_str, ↓AM.Y.y_ty, ↓AM.Y.y_tup, ↓AM.Y.y_lst, ↓AM.Y.y_dct0, ↓AM.Y.y_bin, ↓AM.Y.y_neg, ↓AM.Y.y_not, ↓AM.Y.y_and, ↓AM.Y.y_or, ↓AM.Y.y_cmp, ↓AM.Y.y_cmp2, ↓AM.Y.y_isN, ↓AM.Y.y_ntN, ↓AM.Y.y_isB, ↓AM.Y.y_ntB, ↓AM.Y.y_ife, ↓AM.Y.y_call, ↓AM.Y.y_bi, ↓AM.Y.y_mt, ↓AM.Y.y_idx, ↓AM.Y.y_slc, ↓AM.Y.y_lc, ↓AM.Y.y_lrng, ↓AM.Y.y_nil, ↓AM.Y.y_cons, ↓AM.Y.y_none, ↓AM.Y.y_some, ↓AM.Y.y_cnone, ↓AM.Y.y_csome, ↓AM.Y.t_not, ↓AM.Y.t_and, ↓AM.Y.t_or, ↓AM.Y.t_var, ↓AM.Y.t_cmp, ↓AM.Y.t_cmp2, ↓AM.Y.t_isN, ↓AM.Y.t_ntN, ↓AM.Y.t_isB, ↓AM.Y.t_ntB, ↓AM.Y.t_call, ↓AM.Y.t_bi, ↓AM.Y.t_idx, ↓AM.Y.i_seq, ↓AM.Y.i_rng1, ↓AM.Y.i_rng2, ↓AM.Y.i_enum, ↓AM.Y.i_zip, ↓AM.Y.g_nm, ↓AM.Y.g_tup, ↓AM.Y.g_sub, ↓AM.Y.g_nil, ↓AM.Y.g_cons, ↓AM.Y.s_nil', ↓AM.Y.s_cons', ↓AM.Y.s_asg, ↓AM.Y.s_asg2', ↓AM.Y.s_asg3', ↓AM.Y.s_par2', ↓AM.Y.s_par3', ↓AM.Y.s_aug', ↓AM.Y.s_expr', ↓AM.Y.s_ret', ↓AM.Y.s_retN', ↓AM.Y.s_iff', ↓AM.Y.s_for', ↓AM.Y.s_whl', ↓AM.Y.s_pass', ↓AM.Y.s_brk', ↓AM.Y.s_cnt', ↓AM.Y.s_never', ↓AM.Y.truth_bl, ↓AM.Y.truth_non, ↓AM.Y.truth_int, ↓AM.Y.truth_tup, ↓AM.Y.truth_rol, ↓AM.Y.truth_ref, ↓AM.Y.o_add, ↓AM.Y.o_sub, ↓AM.Y.o_mul, ↓AM.Y.o_mod, ↓AM.Y.o_fdv, ↓AM.Y.o_pow, ↓AM.Y.o_addL, ↓AM.Y.c_eq, ↓AM.Y.c_ne, ↓AM.Y.c_lt, ↓AM.Y.c_le, ↓AM.Y.c_gt, ↓AM.Y.c_ge, ↓AM.Y.c_inn, ↓AM.Y.c_nin, ↓AM.Y.has_dct, ↓AM.Y.x_tup, ↓AM.Y.x_rol, ↓AM.Y.x_ref, ↓AM.Y.x_set, ↓AM.Y.x_slcR, ↓AM.Y.x_slcL, ↓AM.Y.b_len_tup, ↓AM.Y.b_len_rol, ↓AM.Y.b_len_ref, ↓AM.Y.b_isi, ↓AM.Y.b_isi2, ↓AM.Y.b_int, ↓AM.Y.b_intb, ↓AM.Y.b_sum, ↓AM.Y.b_max2, ↓AM.Y.b_min2, ↓AM.Y.b_max1, ↓AM.Y.b_min1, ↓AM.Y.b_lst_tup, ↓AM.Y.b_lst_rol, ↓AM.Y.b_lst_ref, ↓AM.Y.b_all, ↓AM.Y.b_any, ↓AM.Y.k_app, ↓AM.Y.k_bits, ↓AM.Y.k_cnt, ↓AM.Y.m_app, ↓AM.Y.m_bits, ↓AM.Y.n_add, ↓AM.Y.n_sub, AM.wp_ok, AM.wp_no, ↓AM.wp_ret, ↓AM.wp_fail, ↓AM.wp_end, ↓AM.thn_nx, ↓AM.thn_rt, ↓AM.thn_bk, ↓AM.thn_ct, ↓AM.thn_xc, ↓AM.endP_nx, ↓AM.endP_rt, ↓AM.endP_xc, ↓AM.lpP_nx, ↓AM.lpP_ct, ↓AM.lpP_bk, ↓AM.lpP_rt, ↓AM.lpP_xc, ↓AM.Y.ifB_bl, ↓AM.Y.isI_int, ↓AM.Y.isT_tup, ↓AM.Y.isS_some, ↓AM.Y.isSS_some, ↓AM.Y.isO_lst, ↓AM.Y.isO_dct, AM.Y.ifB_bl, AM.Y.isI_int, AM.Y.isT_tup, AM.Y.isS_some, AM.Y.isSS_some, AM.Y.isO_lst, AM.Y.isO_dct, List.getElem?_cons_zero, List.getElem?_cons_succ, List.set_cons_zero, List.set_cons_succ, AM.Y.at0, AM.Y.at1, AM.Y.at2, AM.Y.at3, AM.Y.srcV, AM.Y.enumV, AM.tyOf, AM.tyIs, AM.isiV, AM.Y.isNon_non, AM.Y.isNon_bl, AM.Y.isNon_int, AM.Y.isNon_str, AM.Y.isNon_tup, AM.Y.isNon_rol, AM.Y.isNon_ref, Bool.not_true, Bool.not_false, Bool.true_eq_false, Bool.false_eq_true, ↓reduceIte, decide_true, decide_false, decide_eq_true_eq, Option.map_some, Option.map_none, Option.isSome_some, Option.isSome_none, List.length_cons, List.length_nil, List.isEmpty_cons, List.isEmpty_nil, true_and, and_true, Bool.or_false, Bool.false_or, Bool.or_true, Bool.true_or, Nat.zero_add, Nat.reduceAdd, AM.lim, Nat.reduceLeDiff, List.set, AM.wipeE, AM.Y.xcP, reduceCtorEq, imp_self, implies_true, not_false_eq_true, li_ref get_new, bools_true, all_true]
          exact f.trans (Fr.alloc _)
      | @ref j ys _ ej hy =>
        have hlen : xs.length = ys.length := hx.len.trans hy.len.symm
        simp -implicitDefEqProofs only [↓AM.Y.y_var, ↓AM.Y.y_non, ↓AM.Y.y_bl, ↓AM.Y.y_int, ↓AM.Y.y_str, ↓AM.Y.y_ty, ↓AM.Y.y_tup, ↓AM.Y.y_lst, ↓AM.Y.y_dct0, ↓AM.Y.y_bin, ↓AM.Y.y_neg, ↓AM.Y.y_not, ↓AM.Y.y_and, ↓AM.Y.y_or, ↓AM.Y.y_cmp, ↓AM.Y.y_cmp2, ↓AM.Y.y_isN, ↓AM.Y.y_ntN, ↓AM.Y.y_isB, ↓AM.Y.y_ntB, ↓AM.Y.y_ife, ↓AM.Y.y_call, ↓AM.Y.y_bi, ↓AM.Y.y_mt, ↓AM.Y.y_idx, ↓AM.Y.y_slc, ↓AM.Y.y_lc, ↓AM.Y.y_lrng, ↓AM.Y.y_nil, ↓AM.Y.y_cons, ↓AM.Y.y_none, ↓AM.Y.y_some, ↓AM.Y.y_cnone, ↓AM.Y.y_csome, ↓AM.Y.t_not, ↓AM.Y.t_and, ↓AM.Y.t_or, ↓AM.Y.t_var, ↓AM.Y.t_cmp, ↓AM.Y.t_cmp2, ↓AM.Y.t_isN, ↓AM.Y.t_ntN, ↓AM.Y.t_isB, ↓AM.Y.t_ntB, ↓AM.Y.t_call, ↓AM.Y.t_bi, ↓AM.Y.t_idx, ↓AM.Y.i_seq, ↓AM.Y.i_rng1, ↓AM.Y.i_rng2, ↓AM.Y.i_enum, ↓AM.Y.i_zip, ↓AM.Y.g_nm, ↓AM.Y.g_tup, ↓AM.Y.g_sub, ↓AM.Y.g_nil, ↓AM.Y.g_cons, ↓AM.Y.s_nil', ↓AM.Y.s_cons', ↓AM.Y.s_asg, ↓AM.Y.s_asg2', ↓AM.Y.s_asg3', ↓AM.Y.s_par2', ↓AM.Y.s_par3', ↓AM.Y.s_aug', ↓AM.Y.s_expr', ↓AM.Y.s_ret', ↓AM.Y.s_retN', ↓AM.Y.s_iff', ↓AM.Y.s_for', ↓AM.Y.s_whl', ↓AM.Y.s_pass', ↓AM.Y.s_brk', ↓AM.Y.s_cnt', ↓AM.Y.s_never', ↓AM.Y.truth_bl, ↓AM.Y.truth_non, ↓AM.Y.truth_int, ↓AM.Y.truth_tup, ↓AM.Y.truth_rol, ↓AM.Y.truth_ref, ↓AM.Y.o_add, ↓AM.Y.o_sub, ↓AM.Y.o_mul, ↓AM.Y.o_mod, ↓AM.Y.o_fdv, ↓AM.Y.o_pow, ↓AM.Y.o_addL, ↓AM.Y.c_eq, ↓AM.Y.c_ne, ↓AM.Y.c_lt, ↓AM.Y.c_le, ↓AM.Y.c_gt, ↓AM.Y.c_ge, ↓AM.Y.c_inn, ↓AM.Y.c_nin, ↓AM.Y.has_dct, ↓AM.Y.x_tup, ↓AM.Y.x_rol, ↓AM.Y.x_ref, ↓AM.Y.x_set, ↓AM.Y.x_slcR, ↓AM.Y.x_slcL, ↓AM.Y.b_len_tup, ↓AM.Y.b_len_rol, ↓AM.Y.b_len_ref, ↓AM.Y.b_isi, ↓AM.Y.b_isi2, ↓AM.Y.b_int, ↓AM.Y.b_intb, ↓AM.Y.b_sum, ↓AM.Y.b_max2, ↓AM.Y.b_min2, ↓AM.Y.b_max1, ↓AM.Y.b_min1, ↓AM.Y.b_lst_tup, ↓AM.Y.b_lst_rol, ↓AM.Y.b_lst_ref, ↓AM.Y.b_all, ↓AM.Y.b_any, ↓AM.Y.k_app, ↓AM.Y.k_bits, ↓AM.Y.k_cnt, ↓AM.Y.m_app, ↓AM.Y.m_bits, ↓AM.Y.n_add, ↓AM.Y.n_sub, AM.wp_ok, AM.wp_no, ↓AM.wp_ret, ↓AM.wp_fail, ↓AM.wp_end, ↓AM.thn_nx, ↓AM.thn_rt, ↓AM.thn_bk, ↓AM.thn_ct, ↓AM.thn_xc, ↓AM.endP_nx, ↓AM.endP_rt, ↓AM.endP_xc, ↓AM.lpP_nx, ↓AM.lpP_ct, ↓AM.lpP_bk, ↓AM.lpP_rt, ↓AM.lpP_xc, ↓AM.Y.ifB_bl, ↓AM.Y.isI_int, ↓AM.Y.isT_tup, ↓AM.Y.isS_some, ↓AM.Y.isSS_some, ↓AM.Y.isO_lst, ↓AM.Y.isO_dct, AM.Y.ifB_bl, AM.Y.isI_int, AM.Y.isT_tup, AM.Y.isS_some, AM.Y.isSS_some, AM.Y.isO_lst, AM.Y.isO_dct, List.getElem?_cons_zero, List.getElem?_cons_succ, List.set_cons_zero, List.set_cons_succ, AM.Y.at0, AM.Y.at1, AM.Y.at2, AM.Y.at3, AM.Y.srcV, AM.Y.enumV, AM.tyOf, AM.tyIs, AM.isiV, AM.Y.isNon_non, AM.Y.isNon_bl, AM.Y.isNon_int, AM.Y.isNon_str, AM.Y.isNon_tup, AM.Y.isNon_rol, AM.Y.isNon_ref, Bool.not_true, Bool.not_false, Bool.true_eq_false, Bool.false_eq_true, ↓reduceIte, decide_true, decide_false, decide_eq_true_eq, Option.map_some, Option.map_none, Option.isSome_some, Option.isSome_none, List.length_cons, List.length_nil, List.isEmpty_cons, List.isEmpty_nil, true_and, and_true, Bool.or_false, Bool.false_or, Bool.or_true, Bool.true_or, Nat.zero_add, Nat.reduceAdd, AM.lim, Nat.reduceLeDiff, List.set, AM.wipeE, AM.Y.xcP, reduceCtorEq, imp_self, implies_true, not_false_eq_true, eqD_bl, eqD_int, beq_self_eq_true, hlen, zipV, li_rol, li_ref ej, ej]
        refine exact_all (n := xs.length) (xs := xs) (ys := ys) rfl hlim (fun k h' hk f => ?_) (fun h' f => ?_) (seq ds xs ys hds hx hy) fun h' f => ?_
        · have hk2 : k < ys.length := by omega
          exact ⟨_, _, List.getElem?_eq_getElem hk, List.getElem?_eq_getElem hk2, by rw [itemS, li_rol, li_ref (f.get ej)]; dsimp only; rw [List.getElem?_eq_getElem hk, List.getElem?_eq_getElem hk2]⟩
        · rw [itemS, li_rol, li_ref (f.get ej)]; simp
        · simp -implicitDefEqProofs only [↓AM.Y.y_var, ↓AM.Y.y_non, ↓AM.Y.y_bl, ↓AM.Y.y_int, ↓AM.Y.y_str, ↓AM.Y.y_ty, ↓AM.Y.y_tup, ↓AM.Y.y_lst, ↓AM.Y.y_dct0, ↓AM.Y.y_bin, ↓AM.Y.y_neg, ↓AM.Y.y_not, ↓AM.Y.y_and, ↓AM.Y.y_or, ↓AM.Y.y_cmp, ↓AM.Y.y_cmp2, ↓AM.Y.y_isN, ↓AM.Y.y_ntN, ↓AM.Y.y_isB, ↓AM.Y.y_ntB, ↓AM.Y.y_ife, ↓AM.Y.y_call, ↓AM.Y.y_bi, ↓AM.Y.y_mt, ↓AM.Y.y_idx, ↓AM.Y.y_slc, ↓AM.Y.y_lc, ↓AM.Y.y_lrng, ↓AM.Y.y_nil, ↓AM.Y.y_cons, ↓AM.Y.y_none, ↓AM.Y.y_some, ↓AM.Y.y_cnone, ↓AM.Y.y_csome, ↓AM.Y.t_not, ↓AM.Y.t_and, ↓AM.Y.t_or, ↓AM.Y.t_var, ↓AM.Y.t_cmp, ↓AM.Y.t_cmp2, ↓AM.Y.t_isN, ↓AM.Y.t_ntN, ↓AM.Y.t_isB, ↓AM.Y.t_ntB, ↓AM.Y.t_call, ↓AM.Y.t_bi, ↓AM.Y.t_idx, ↓AM.Y.i_seq, ↓AM.Y.i_rng1, ↓AM.Y.i_rng2, ↓AM.Y.i_enum, ↓AM.Y.i_zip, ↓AM.Y.g_nm, ↓AM.Y.g_tup, ↓AM.Y.g_sub, ↓AM.Y.g_nil, ↓AM.Y.g_cons, ↓AM.Y.s_nil', ↓AM.Y.s_cons', ↓AM.Y.s_asg, ↓AM.Y.s_asg2', ↓AM.Y.s_asg3', ↓AM.Y.s_par2', ↓AM.Y.s_par3', ↓AM.Y.s_aug', ↓AM.Y.s_expr', ↓AM.Y.s_ret', ↓AM.Y.s_retN', ↓AM.Y.s_iff', ↓AM.Y.s_for', ↓AM.Y.s_whl', ↓AM.Y.s_pass', ↓AM.Y.s_brk', ↓AM.Y.s_cnt', ↓AM.Y.s_never', ↓AM.Y.truth_bl, ↓AM.Y.truth_non, ↓AM.Y.truth_int, ↓AM.Y.truth_tup, ↓AM.Y.truth_rol, ↓AM.Y.truth_ref, ↓AM.Y.o_add, ↓AM.Y.o_sub, ↓AM.Y.o_mul, ↓AM.Y.o_mod, ↓AM.Y.o_fdv, ↓AM.Y.o_pow, ↓AM.Y.o_addL, ↓AM.Y.c_eq, ↓AM.Y.c_ne, ↓AM.Y.c_lt, ↓AM.Y.c_le, ↓AM.Y.c_gt, ↓AM.Y.c_ge, ↓AM.Y.c_inn, ↓AM.Y.c_nin, ↓AM.Y.has_dct, ↓AM.Y.x_tup, ↓AM.Y.x_rol, ↓AM.Y.x_ref, ↓AM.Y.x_set, ↓AM.Y.x_slcR, ↓AM.Y.x_slcL, ↓AM.Y.b_len_tup, ↓AM.Y.b_len_rol, ↓AM.Y.b_len_ref, ↓AM.Y.b_isi, ↓AM.Y.b_isi2, ↓AM.Y.b_int, ↓AM.Y.b_intb, ↓AM.Y.b_sum, ↓AM.Y.b_max2, ↓AM.Y.b_min2, ↓AM.Y.b_max1, ↓AM.Y.b_min1, ↓AM.Y.b_lst_tup, ↓AM.Y.b_lst_rol, ↓AM.Y.b_lst_ref, ↓AM.Y.b_all, ↓AM.Y.b_any, ↓AM.Y.k_app, ↓AM.Y.k_bits, ↓AM.Y.k_cnt, ↓AM.Y.m_app, ↓AM.Y.m_bits, ↓AM.Y.n_add, ↓AM.Y.n_sub, AM.wp_ok, AM.wp_no, ↓AM.wp_ret, ↓AM.wp_fail, ↓AM.wp_end, ↓AM.thn_nx, ↓AM.thn_rt, ↓AM.thn_bk, ↓AM.thn_ct, ↓AM.thn_xc, ↓AM.endP_nx, ↓AM.endP_rt, ↓AM.endP_xc, ↓AM.lpP_nx, ↓AM.lpP_ct, ↓AM.lpP_bk, ↓AM.lpP_rt, ↓AM.lpP_xc, ↓AM.Y.ifB_bl, ↓AM.Y.isI_int, ↓AM.Y.isT_tup, ↓AM.Y.isS_some, ↓AM.Y.isSS_some, ↓AM.Y.isO_lst, ↓AM.Y.isO_dct, AM.Y.ifB_bl, AM.Y.isI_int, AM.Y.isT_tup, AM.Y.isS_some, AM.Y.isSS_some, AM.Y.isO_lst, AM.Y.isO_dct, List.getElem?_cons_zero, List.getElem?_cons_succ, List.set_cons_zero, List.set_cons_succ, AM.Y.at0, AM.Y.at1, AM.Y.at2, AM.Y.at3, AM.Y.srcV, AM.Y.enumV, AM.tyOf, AM.tyIs, AM.isiV, AM.Y.isNon_non, AM.Y.isNon_bl, AM.Y.isNon_int, AM.Y.isNon_str, AM.Y.isNon_tup, AM.Y.isNon_rol, AM.Y.isNon_ref, Bool.not_true, Bool.not_false, Bool.true_eq_false, Bool.false_eq_true, ↓reduceIte, decide_true, decide_false, decide_eq_true_eq, Option.map_some, Option.map_none, Option.isSome_some, Option.isSome_none, List.length_cons, List.length_nil, List.isEmpty_cons, List.isEmpty_nil, true_and, and_true, Bool.or_false, Bool.false_or, Bool.or_true, Bool.true_or, Nat.zero_add, Nat.reduceAdd, AM.lim, Nat.reduceLeDiff, List.set, AM.wipeE, AM.Y.xcP, reduceCtorEq, imp_self, implies_true, not_false_eq_true, li_ref get_new, bools_true, all_true]
          exact f.trans (Fr.alloc _)
    | @ref i xs ds ei hx =>
      have hds : ∀ e ∈ ds, e.depth < d ∧ e.canLay0 = true ∧ fz e ≤ lim := fun e he => by
        have h1 := dep_mem he
        have h2 := fzs_mem he
        rw [PyData.depth] at hd
        rw [fz] at hz
        exact ⟨by omega, lay_mem hc he, by omega⟩
      have hlim : xs.length ≤ lim := by
        have := fzs_len (ds := ds)
        have := hx.len
        rw [fz] at hz
        omega
      have hsz : ∀ b, sizeS h (.zip (.ref i) b) = xs.length := fun b => by unfold sizeS; dsimp only; rw [li_ref ei]
      cases hb with
      | @rol ys _ hy =>
        have hlen : xs.length = ys.length := hx.len.trans hy.len.symm
        simp -implicitDefEqProofs only [↓AM.Y.y_var, ↓AM.Y.y_non, ↓AM.Y.y_bl, ↓AM.Y.y_int, ↓AM.Y.y_str, ↓AM.Y.y_ty, ↓AM.Y.y_tup, ↓AM.Y.y_lst, ↓AM.Y.y_dct0, ↓AM.Y.y_bin, ↓AM.Y.y_neg, ↓AM.Y.y_not, ↓AM.Y.y_and, ↓AM.Y.y_or, ↓AM.Y.y_cmp, ↓AM.Y.y_cmp2, ↓AM.Y.y_isN, ↓AM.Y.y_ntN, ↓AM.Y.y_isB, ↓AM.Y.y_ntB, ↓AM.Y.y_ife, ↓AM.Y.y_call, ↓AM.Y.y_bi, ↓AM.Y.y_mt, ↓AM.Y.y_idx, ↓AM.Y.y_slc, ↓AM.Y.y_lc, ↓AM.Y.y_lrng, ↓AM.Y.y_nil, ↓AM.Y.y_cons, ↓AM.Y.y_none, ↓AM.Y.y_some, ↓AM.Y.y_cnone, ↓AM.Y.y_csome, ↓AM.Y.t_not, ↓AM.Y.t_and, ↓AM.Y.t_or, ↓AM.Y.t_var, ↓AM.Y.t_cmp, ↓AM.Y.t_cmp2, ↓AM.Y.t_isN, ↓AM.Y.t_ntN, ↓AM.Y.t_isB, ↓AM.Y.t_ntB, ↓AM.Y.t_call, ↓AM.Y.t_bi, ↓AM.Y.t_idx, ↓AM.Y.i_seq, ↓AM.Y.i_rng1, ↓AM.Y.i_rng2, ↓AM.Y.i_enum, ↓AM.Y.i_zip, ↓AM.Y.g_nm, ↓AM.Y.g_tup, ↓AM.Y.g_sub, ↓AM.Y.g_nil, ↓AM.Y.g_cons, ↓AM.Y.s_nil', ↓AM.Y.s_cons', ↓AM.Y.s_asg, ↓AM.Y.s_asg2', ↓AM.Y.s_asg3', ↓AM.Y.s_par2', ↓AM.Y.s_par3', ↓AM.Y.s_aug', ↓AM.Y.s_expr', ↓AM.Y.s_ret', ↓AM.Y.s_retN', ↓AM.Y.s_iff', ↓AM.Y.s_for', ↓AM.Y.s_whl', ↓AM.Y.s_pass', ↓AM.Y.s_brk', ↓AM.Y.s_cnt', ↓AM.Y.s_never', ↓AM.Y.truth_bl, ↓AM.Y.truth_non, ↓AM.Y.truth_int, ↓AM.Y.truth_tup, ↓AM.Y.truth_rol, ↓AM.Y.truth_ref, ↓AM.Y.o_add, ↓AM.Y.o_sub, ↓AM.Y.o_mul, ↓AM.Y.o_mod, ↓AM.Y.o_fdv, ↓AM.Y.o_pow, ↓AM.Y.o_addL, ↓AM.Y.c_eq, ↓AM.Y.c_ne, ↓AM.Y.c_lt, ↓AM.Y.c_le, ↓AM.Y.c_gt, ↓AM.Y.c_ge, ↓AM.Y.c_inn, ↓AM.Y.c_nin, ↓AM.Y.has_dct, ↓AM.Y.x_tup, ↓AM.Y.x_rol, ↓AM.Y.x_ref, ↓AM.Y.x_set, ↓AM.Y.x_slcR, ↓AM.Y.x_slcL, ↓AM.Y.b_len_tup, ↓AM.Y.b_len_rol, ↓AM.Y.b_len_ref, ↓AM.Y.b_isi, ↓AM.Y.b_isi2, ↓AM.Y.b_int, ↓AM.Y.b_intb, ↓AM.Y.b_sum, ↓AM.Y.b_max2, ↓AM.Y.b_min2, ↓AM.Y.b_max1, ↓AM.Y.b_min1, ↓AM.Y.b_lst_tup, ↓AM.Y.b_lst_rol, ↓AM.Y.b_lst_ref, ↓AM.Y.b_all, ↓AM.Y.b_any, ↓AM.Y.k_app, ↓AM.Y.k_bits, ↓AM.Y.k_cnt, ↓AM.Y.m_app, ↓AM.Y.m_bits, ↓AM.Y.n_add, ↓AM.Y.n_sub, AM.wp_ok, AM.wp_no, ↓AM.wp_ret, ↓AM.wp_fail, ↓AM.wp_end, ↓AM.thn_nx, ↓AM.thn_rt, ↓AM.thn_bk, ↓AM.thn_ct, ↓AM.thn_xc, ↓AM.endP_nx, ↓AM.endP_rt, ↓AM.endP_xc, ↓AM.lpP_nx, ↓AM.lpP_ct, ↓AM.lpP_bk, ↓AM.lpP_rt, ↓AM.lpP_xc, ↓AM.Y.ifB_bl, ↓AM.Y.isI_int, ↓AM.Y.isT_tup, ↓AM.Y.isS_some, ↓AM.Y.isSS_some, ↓AM.Y.isO_lst, ↓AM.Y.isO_dct, AM.Y.ifB_bl, AM.Y.isI_int, AM.Y.isT_tup, AM.Y.isS_some, AM.Y.isSS_some, AM.Y.isO_lst, AM.Y.isO_dct, List.getElem?_cons_zero, List.getElem?_cons_succ, List.set_cons_zero, List.set_cons_succ, AM.Y.at0, AM.Y.at1, AM.Y.at2, AM.Y.at3, AM.Y.srcV, AM.Y.enumV, AM.tyOf, AM.tyIs, AM.isiV, AM.Y.isNon_non, AM.Y.isNon_bl, AM.Y.isNon_int, AM.Y.isNon_str, AM.Y.isNon_tup, AM.Y.isNon_rol, AM.Y.isNon_ref, Bool.not_true, Bool.not_false, Bool.true_eq_false, Bool.false_eq_true, ↓reduceIte, decide_true, decide_false, decide_eq_true_eq, Option.map_some, Option.map_none, Option.isSome_some, Option.isSome_none, List.length_cons, List.length_nil, List.isEmpty_cons, List.isEmpty_nil, true_and, and_true, Bool.or_false, Bool.false_or, Bool.or_true, Bool.true_or, Nat.zero_add, Nat.reduceAdd, AM.lim, Nat.reduceLeDiff, List.set, AM.wipeE, AM.Y.xcP, reduceCtorEq, imp_self, implies_true, not_false_eq_true, eqD_bl, eqD_int, beq_self_eq_true, hlen, zipV, li_rol, li_ref ei, ei]
        refine exact_all (n := xs.length) (xs := xs) (ys := ys) (hsz _) hlim (fun k h' hk f => ?_) (fun h' f => ?_) (seq ds xs ys hds hx hy) fun h' f => ?_
        · have hk2 : k < ys.length := by omega
          exact ⟨_, _, List.getElem?_eq_getElem hk, List.getElem?_eq_getElem hk2, by rw [itemS, li_ref (f.get ei), li_rol]; dsimp only; rw [List.getElem?_eq_getElem hk, List.getElem?_eq_getElem hk2]⟩
        · rw [itemS, li_ref (f.get ei), li_rol]; simp
        · simp -implicitDefEqProofs only [↓AM.Y.y_var, ↓AM.Y.y_non, ↓AM.Y.y_bl, ↓AM.Y.y_int, ↓AM.Y.y_str, ↓AM.Y.y_ty, ↓AM.Y.y_tup, ↓AM.Y.y_lst, ↓AM.Y.y_dct0, ↓AM.Y.y_bin, ↓AM.Y.y_neg, ↓AM.Y.y_not, ↓AM.Y.y_and, ↓AM.Y.y_or, ↓AM.Y.y_cmp, ↓AM.Y.y_cmp2, ↓AM.Y.y_isN, ↓AM.Y.y_ntN, ↓AM.Y.y_isB, ↓AM.Y.y_ntB, ↓AM.Y.y_ife, ↓AM.Y.y_call, ↓AM.Y.y_bi, ↓AM.Y.y_mt, ↓AM.Y.y_idx, ↓AM.Y.y_slc, ↓AM.Y.y_lc, ↓AM.Y.y_lrng, ↓AM.Y.y_nil, ↓AM.Y.y_cons, ↓AM.Y.y_none, ↓AM.Y.y_some, ↓AM.Y.y_cnone, ↓AM.Y.y_csome, ↓AM.Y.t_not, ↓AM.Y.t_and, ↓AM.Y.t_or, ↓AM.Y.t_var, ↓AM.Y.t_cmp, ↓AM.Y.t_cmp2, ↓AM.Y.t_isN, ↓AM.Y.t_ntN, ↓AM.Y.t_isB, ↓AM.Y.t_ntB, ↓AM.Y.t_call, ↓AM.Y.t_bi, ↓AM.Y.t_idx, ↓AM.Y.i_seq, ↓AM.Y.i_rng1, ↓AM.Y.i_rng2, ↓AM.Y.i_enum, ↓AM.Y.i_zip, ↓AM.Y.g_nm, ↓AM.Y.g_tup, ↓AM.Y.g_sub, ↓AM.Y.g_nil, ↓AM.Y.g_cons, ↓AM.Y.s_nil', ↓AM.Y.s_cons', ↓AM.Y.s_asg, ↓AM.Y.s_asg2', ↓AM.Y.s_asg3', ↓AM.Y.s_par2', ↓AM.Y.s_par3', ↓AM.Y.s_aug', ↓AM.Y.s_expr', ↓AM.Y.s_ret', ↓AM.Y.s_retN', ↓AM.Y.s_iff', ↓AM.Y.s_for', ↓AM.Y.s_whl', ↓AM.Y.s_pass', ↓AM.Y.s_brk', ↓AM.Y.s_cnt', ↓AM.Y.s_never', ↓AM.Y.truth_bl, ↓AM.Y.truth_non, ↓AM.Y.truth_int, ↓AM.Y.truth_tup, ↓AM.Y.truth_rol, ↓AM.Y.truth_ref, ↓AM.Y.o_add, ↓AM.Y.o_sub, ↓AM.Y.o_mul, ↓AM.Y.o_mod, ↓AM.Y.o_fdv, ↓AM.Y.o_pow, ↓AM.Y.o_addL, ↓AM.Y.c_eq, ↓AM.Y.c_ne, ↓AM.Y.c_lt, ↓AM.Y.c_le, ↓AM.Y.c_gt, ↓AM.Y.c_ge, ↓AM.Y.c_inn, ↓AM.Y.c_nin, ↓AM.Y.has_dct, ↓AM.Y.x_tup, ↓AM.Y.x_rol, ↓AM.Y.x_ref, ↓AM.Y.x_set, ↓AM.Y.x_slcR, ↓AM.Y.x_slcL, ↓AM.Y.b_len_tup, ↓AM.Y.b_len_rol, ↓AM.Y.b_len_ref, ↓AM.Y.b_isi, ↓AM.Y.b_isi2, ↓AM.Y.b_int, ↓AM.Y.b_intb, ↓AM.Y.b_sum, ↓AM.Y.b_max2, ↓AM.Y.b_min2, ↓AM.Y.b_max1, ↓AM.Y.b_min1, ↓AM.Y.b_lst_tup, ↓AM.Y.b_lst_rol, ↓AM.Y.b_lst_ref, ↓AM.Y.b_all, ↓AM.Y.b_any, ↓AM.Y.k_app, ↓AM.Y.k_bits, ↓AM.Y.k_cnt, ↓AM.Y.m_app, ↓AM.Y.m_bits, ↓AM.Y.n_add, ↓AM.Y.n_sub, AM.wp_ok, AM.wp_no, ↓AM.wp_ret, ↓AM.wp_fail, ↓AM.wp_end, ↓AM.thn_nx, ↓AM.thn_rt, ↓AM.thn_bk, ↓AM.thn_ct, ↓AM.thn_xc, ↓AM.endP_nx, ↓AM.endP_rt, ↓AM.endP_xc, ↓AM.lpP_nx, ↓AM.lpP_ct, ↓AM.lpP_bk, ↓AM.lpP_rt, ↓AM.lpP_xc, ↓AM.Y.ifB_bl, ↓AM.Y.isI_int, ↓AM.Y.isT_tup, ↓AM.Y.isS_some, ↓AM.Y.isSS_some, ↓AM.Y.isO_lst, ↓AM.Y.isO_dct, AM.Y.ifB_bl, AM.Y.isI_int, AM.Y.isT_tup, AM.Y.isS_some, AM.Y.isSS_some, AM.Y.isO_lst, AM.Y.isO_dct, List.getElem?_cons_zero, List.getElem?_cons_succ, List.set_cons_zero, List.set_cons_succ, AM.Y.at0, AM.Y.at1, AM.Y.at2, AM.Y.at3, AM.Y.srcV, AM.Y.enumV, AM.tyOf, AM.tyIs, AM.isiV, AM.Y.isNon_non, AM.Y.isNon_bl, AM.Y.isNon_int, AM.Y.isNon_str, AM.Y.isNon_tup, AM.Y.isNon_rol, AM.Y.isNon_ref, Bool.not_true, Bool.not_false, Bool.true_eq_false, Bool.false_eq_true, ↓reduceIte, decide_true, decide_false, decide_eq_true_eq, Option.map_some, Option.map_none, Option.isSome_some, Option.isSome_none, List.length_cons, List.length_nil, List.isEmpty_cons, List.isEmpty_nil, true_and, and_true, Bool.or_false, Bool.false_or, Bool.or_true, Bool.true_or, Nat.zero_add, Nat.reduceAdd, AM.lim, Nat.reduceLeDiff, List.set, AM.wipeE, AM.Y.xcP, reduceCtorEq, imp_self, implies_true, not_false_eq_true, li_ref get_new, bools_true, all_true]
          exact f.trans (Fr.alloc _)
      | @ref j ys _ ej hy =>
        have hlen : xs.length = ys.length := hx.len.trans hy.len.symm
        simp -implicitDefEqProofs only [↓AM.Y.y_var, ↓AM.Y.y_non, ↓AM.Y.y_bl, ↓AM.Y.y_int, ↓AM.Y.y_str, ↓AM.Y.y_ty, ↓AM.Y.y_tup, ↓AM.Y.y_lst, ↓AM.Y.y_dct0, ↓AM.Y.y_bin, ↓AM.Y.y_neg, ↓AM.Y.y_not, ↓AM.Y.y_and, ↓AM.Y.y_or, ↓AM.Y.y_cmp, ↓AM.Y.y_cmp2, ↓AM.Y.y_isN, ↓AM.Y.y_ntN, ↓AM.Y.y_isB, ↓AM.Y.y_ntB, ↓AM.Y.y_ife, ↓AM.Y.y_call, ↓AM.Y.y_bi, ↓AM.Y.y_mt, ↓AM.Y.y_idx, ↓AM.Y.y_slc, ↓AM.Y.y_lc, ↓AM.Y.y_lrng, ↓AM.Y.y_nil, ↓AM.Y.y_cons, ↓AM.Y.y_none, ↓AM.Y.y_some, ↓AM.Y.y_cnone, ↓AM.Y.y_csome, ↓AM.Y.t_not, ↓AM.Y.t_and, ↓AM.Y.t_or, ↓AM.Y.t_var, ↓AM.Y.t_cmp, ↓AM.Y.t_cmp2, ↓AM.Y.t_isN, ↓AM.Y.t_ntN, ↓AM.Y.t_isB, ↓AM.Y.t_ntB, ↓AM.Y.t_call, ↓AM.Y.t_bi, ↓AM.Y.t_idx, ↓AM.Y.i_seq, ↓AM.Y.i_rng1, ↓AM.Y.i_rng2, ↓AM.Y.i_enum, ↓AM.Y.i_zip, ↓AM.Y.g_nm, ↓AM.Y.g_tup, ↓AM.Y.g_sub, ↓AM.Y.g_nil, ↓AM.Y.g_cons, ↓AM.Y.s_nil', ↓AM.Y.s_cons', ↓AM.Y.s_asg, ↓AM.Y.s_asg2', ↓AM.Y.s_asg3', ↓AM.Y.s_par2', ↓AM.Y.s_par3', ↓AM.Y.s_aug', ↓AM.Y.s_expr', ↓AM.Y.s_ret', ↓AM.Y.s_retN', ↓AM.Y.s_iff', ↓AM.Y.s_for', ↓AM.Y.s_whl', ↓AM.Y.s_pass', ↓AM.Y.s_brk', ↓AM.Y.s_cnt', ↓AM.Y.s_never', ↓AM.Y.truth_bl, ↓AM.Y.truth_non, ↓AM.Y.truth_int, ↓AM.Y.truth_tup, ↓AM.Y.truth_rol, ↓AM.Y.truth_ref, ↓AM.Y.o_add, ↓AM.Y.o_sub, ↓AM.Y.o_mul, ↓AM.Y.o_mod, ↓AM.Y.o_fdv, ↓AM.Y.o_pow, ↓AM.Y.o_addL, ↓AM.Y.c_eq, ↓AM.Y.c_ne, ↓AM.Y.c_lt, ↓AM.Y.c_le, ↓AM.Y.c_gt, ↓AM.Y.c_ge, ↓AM.Y.c_inn, ↓AM.Y.c_nin, ↓AM.Y.has_dct, ↓AM.Y.x_tup, ↓AM.Y.x_rol, ↓AM.Y.x_ref, ↓AM.Y.x_set, ↓AM.Y.x_slcR, ↓AM.Y.x_slcL, ↓AM.Y.b_len_tup, ↓AM.Y.b_len_rol, ↓AM.Y.b_len_ref, ↓AM.Y.b_isi, ↓AM.Y.b_isi2, ↓AM.Y.b_int, ↓AM.Y.b_intb, ↓AM.Y.b_sum, ↓AM.Y.b_max2, ↓AM.Y.b_min2, ↓AM.Y.b_max1, ↓AM.Y.b_min1, ↓AM.Y.b_lst_tup, ↓AM.Y.b_lst_rol, ↓AM.Y.b_lst_ref, ↓AM.Y.b_all, ↓AM.Y.b_any, ↓AM.Y.k_app, ↓AM.Y.k_bits, ↓AM.Y.k_cnt, ↓AM.Y.m_app, ↓AM.Y.m_bits, ↓AM.Y.n_add, ↓AM.Y.n_sub, AM.wp_ok, AM.wp_no, ↓AM.wp_ret, ↓AM.wp_fail, ↓AM.wp_end, ↓AM.thn_nx, ↓AM.thn_rt, ↓AM.thn_bk, ↓AM.thn_ct, ↓AM.thn_xc, ↓AM.endP_nx, ↓AM.endP_rt, ↓AM.endP_xc, ↓AM.lpP_nx, ↓AM.lpP_ct, ↓AM.lpP_bk, ↓AM.lpP_rt, ↓AM.lpP_xc, ↓AM.Y.ifB_bl, ↓AM.Y.isI_int, ↓AM.Y.isT_tup, ↓AM.Y.isS_some, ↓AM.Y.isSS_some, ↓AM.Y.isO_lst, ↓AM.Y.isO_dct, AM.Y.ifB_bl, AM.Y.isI_int, AM.Y.isT_tup, AM.Y.isS_some, AM.Y.isSS_some, AM.Y.isO_lst, AM.Y.isO_dct, List.getElem?_cons_zero, List.getElem?_cons_succ, List.set_cons_zero, List.set_cons_succ, AM.Y.at0, AM.Y.at1, AM.Y.at2, AM.Y.at3, AM.Y.srcV, AM.Y.enumV, AM.tyOf, AM.tyIs, AM.isiV, AM.Y.isNon_non, AM.Y.isNon_bl, AM.Y.isNon_int, AM.Y.isNon_str, AM.Y.isNon_tup, AM.Y.isNon_rol, AM.Y.isNon_ref, Bool.not_true, Bool.not_false, Bool.true_eq_false, Bool.false_eq_true, ↓reduceIte, decide_true, decide_false, decide_eq_true_eq, Option.map_some, Option.map_none, Option.isSome_some, Option.isSome_none, List.length_cons, List.length_nil, List.isEmpty_cons, List.isEmpty_nil, true_and, and_true, Bool.or_false, Bool.false_or, Bool.or_true, Bool.true_or, Nat.zero_add, Nat.reduceAdd, AM.lim, Nat.reduceLeDiff, List.set, AM.wipeE, AM.Y.xcP, reduceCtorEq, imp_self, implies_true, not_false_eq_true, eqD_bl, eqD_int, beq_self_eq_true, hlen, zipV, li_ref ei, li_ref ej, ei, ej]
        refine exact_all (n := xs.length) (xs := xs) (ys := ys) (hsz _) hlim (fun k h' hk f => ?_) (fun h' f => ?_) (seq ds xs ys hds hx hy) fun h' f => ?_
        · have hk2 : k < ys.length := by omega
          exact ⟨_, _, List.getElem?_eq_getElem hk, List.getElem?_eq_getElem hk2, by rw [itemS, li_ref (f.get ei), li_ref (f.get ej)]; dsimp only; rw [List.getElem?_eq_getElem hk, List.getElem?_eq_getElem hk2]⟩
        · rw [itemS, li_ref (f.get ei), li_ref (f.get ej)]; simp
        · simp -implicitDefEqProofs only [↓AM.Y.y_var, ↓AM.Y.y_non, ↓AM.Y.y_bl, ↓AM.Y.y_int, ↓AM.Y.y_str, ↓AM.Y.y_ty, ↓AM.Y.y_tup, ↓AM.Y.y_lst, ↓AM.Y.y_dct0, ↓AM.Y.y_bin, ↓AM.Y.y_neg, ↓AM.Y.y_not, ↓AM.Y.y_and, ↓AM.Y.y_or, ↓AM.Y.y_cmp, ↓AM.Y.y_cmp2, ↓AM.Y.y_isN, ↓AM.Y.y_ntN, ↓AM.Y.y_isB, ↓AM.Y.y_ntB, ↓AM.Y.y_ife, ↓AM.Y.y_call, ↓AM.Y.y_bi, ↓AM.Y.y_mt, ↓AM.Y.y_idx, ↓AM.Y.y_slc, ↓AM.Y.y_lc, ↓AM.Y.y_lrng, ↓AM.Y.y_nil, ↓AM.Y.y_cons, ↓AM.Y.y_none, ↓AM.Y.y_some, ↓AM.Y.y_cnone, ↓AM.Y.y_csome, ↓AM.Y.t_not, ↓AM.Y.t_and, ↓AM.Y.t_or, ↓AM.Y.t_var, ↓AM.Y.t_cmp, ↓AM.Y.t_cmp2, ↓AM.Y.t_isN, ↓AM.Y.t_ntN, ↓AM.Y.t_isB, ↓AM.Y.t_ntB, ↓AM.Y.t_call, ↓AM.Y.t_bi, ↓AM.Y.t_idx, ↓AM.Y.i_seq, ↓AM.Y.i_rng1, ↓AM.Y.i_rng2, ↓AM.Y.i_enum, ↓AM.Y.i_zip, ↓AM.Y.g_nm, ↓AM.Y.g_tup, ↓AM.Y.g_sub, ↓AM.Y.g_nil, ↓AM.Y.g_cons, ↓AM.Y.s_nil', ↓AM.Y.s_cons', ↓AM.Y.s_asg, ↓AM.Y.s_asg2', ↓AM.Y.s_asg3', ↓AM.Y.s_par2', ↓AM.Y.s_par3', ↓AM.Y.s_aug', ↓AM.Y.s_expr', ↓AM.Y.s_ret', ↓AM.Y.s_retN', ↓AM.Y.s_iff', ↓AM.Y.s_for', ↓AM.Y.s_whl', ↓AM.Y.s_pass', ↓AM.Y.s_brk', ↓AM.Y.s_cnt', ↓AM.Y.s_never', ↓AM.Y.truth_bl, ↓AM.Y.truth_non, ↓AM.Y.truth_int, ↓AM.Y.truth_tup, ↓AM.Y.truth_rol, ↓AM.Y.truth_ref, ↓AM.Y.o_add, ↓AM.Y.o_sub, ↓AM.Y.o_mul, ↓AM.Y.o_mod, ↓AM.Y.o_fdv, ↓AM.Y.o_pow, ↓AM.Y.o_addL, ↓AM.Y.c_eq, ↓AM.Y.c_ne, ↓AM.Y.c_lt, ↓AM.Y.c_le, ↓AM.Y.c_gt, ↓AM.Y.c_ge, ↓AM.Y.c_inn, ↓AM.Y.c_nin, ↓AM.Y.has_dct, ↓AM.Y.x_tup, ↓AM.Y.x_rol, ↓AM.Y.x_ref, ↓AM.Y.x_set, ↓AM.Y.x_slcR, ↓AM.Y.x_slcL, ↓AM.Y.b_len_tup, ↓AM.Y.b_len_rol, ↓AM.Y.b_len_ref, ↓AM.Y.b_isi, ↓AM.Y.b_isi2, ↓AM.Y.b_int, ↓AM.Y.b_intb, ↓AM.Y.b_sum, ↓AM.Y.b_max2, ↓AM.Y.b_min2, ↓AM.Y.b_max1, ↓AM.Y.b_min1, ↓AM.Y.b_lst_tup, ↓AM.Y.b_lst_rol, ↓AM.Y.b_lst_ref, ↓AM.Y.b_all, ↓AM.Y.b_any, ↓AM.Y.k_app, ↓AM.Y.k_bits, ↓AM.Y.k_cnt, ↓AM.Y.m_app, ↓AM.Y.m_bits, ↓AM.Y.n_add, ↓AM.Y.n_sub, AM.wp_ok, AM.wp_no, ↓AM.wp_ret, ↓AM.wp_fail, ↓AM.wp_end, ↓AM.thn_nx, ↓AM.thn_rt, ↓AM.thn_bk, ↓AM.thn_ct, ↓AM.thn_xc, ↓AM.endP_nx, ↓AM.endP_rt, ↓AM.endP_xc, ↓AM.lpP_nx, ↓AM.lpP_ct, ↓AM.lpP_bk, ↓AM.lpP_rt, ↓AM.lpP_xc, ↓AM.Y.ifB_bl, ↓AM.Y.isI_int, ↓AM.Y.isT_tup, ↓AM.Y.isS_some, ↓AM.Y.isSS_some, ↓AM.Y.isO_lst, ↓AM.Y.isO_dct, AM.Y.ifB_bl, AM.Y.isI_int, AM.Y.isT_tup, AM.Y.isS_some, AM.Y.isSS_some, AM.Y.isO_lst, AM.Y.isO_dct, List.getElem?_cons_zero, List.getElem?_cons_succ, List.set_cons_zero, List.set_cons_succ, AM.Y.at0, AM.Y.at1, AM.Y.at2, AM.Y.at3, AM.Y.srcV, AM.Y.enumV, AM.tyOf, AM.tyIs, AM.isiV, AM.Y.isNon_non, AM.Y.isNon_bl, AM.Y.isNon_int, AM.Y.isNon_str, AM.Y.isNon_tup, AM.Y.isNon_rol, AM.Y.isNon_ref, Bool.not_true, Bool.not_false, Bool.true_eq_false, Bool.false_eq_true, ↓reduceIte, decide_true, decide_false, decide_eq_true_eq, Option.map_some, Option.map_none, Option.isSome_some, Option.isSome_none, List.length_cons, List.length_nil, List.isEmpty_cons, List.isEmpty_nil, true_and, and_true, Bool.or_false, Bool.false_or, Bool.or_true, Bool.true_or, Nat.zero_add, Nat.reduceAdd, AM.lim, Nat.reduceLeDiff, List.set, AM.wipeE, AM.Y.xcP, reduceCtorEq, imp_self, implies_true, not_false_eq_true, li_ref get_new, bools_true, all_true]
          exact f.trans (Fr.alloc _)
end
end AM

namespace K37
open PySem L2 AM
/-! ### the defs and their codes -/
def f_is_count : Fn := { np := 2, ns := 2, dv := [.non], body := [(.iff (.or (.bi .isi [(.var 0), (.ty .tb)]) (.or (.not (.bi .isi [(.var 0), (.ty .ti)])) (.cmp .lt (.var 0) (.int 0)))) [(.ret (.bl false))] []), (.ret (.or (.isN (.var 1)) (.cmp .le (.var 0) (.var 1))))] }
def f_is_life : Fn := { np := 1, ns := 4, body := [(.iff (.not (.bi .isi [(.var 0), (.ty .tl)])) [(.ret (.bl false))] []), (.asg2 (.nm 1) (.nm 2) (.int 0)), (.for_ (.nm 3) (.seq (.var 0)) [(.iff (.or (.not (.bi .isi [(.var 3), (.ty .tt)])) (.or (.cmp .eq (.var 3) (.tup [])) (.not (.bi .isi [(.idx (.var 3) (.int 0)), (.ty .ts)])))) [(.ret (.bl false))] []), (.iff (.cmp .eq (.idx (.var 3) (.int 0)) (.str (Str.ofString "stand"))) [(.iff (.or (.cmp .ne (.bi .len [(.var 3)]) (.int 2)) (.or (.not (.call 0 [(.idx (.var 3) (.int 1))])) (.or (.cmp .lt (.idx (.var 3) (.int 1)) (.var 2)) (.cmp .gt (.idx (.var 3) (.int 1)) (.var 1))))) [(.ret (.bl false))] []), (.asg (.nm 2) (.idx (.var 3) (.int 1)))] [(.iff (.cmp .eq (.var 3) (.tup [(.str (Str.ofString "line"))])) [(.aug 1 .add (.int 1))] [(.iff (.cmp .ne (.var 3) (.tup [(.str (Str.ofString "root"))])) [(.ret (.bl false))] [])])])]), (.ret (.bl true))] }
def f_check_life : Fn := { np := 1, ns := 1, body := [(.iff (.not (.call 1 [(.var 0)])) [.never] [])] }
def f_check_ring : Fn := { np := 2, ns := 2, body := [(.expr (.call 2 [(.var 0)])), (.iff (.or (.not (.call 0 [(.var 1)])) (.cmp .lt (.var 1) (.int 1))) [.never] [])] }
def f_counted : Fn := { np := 2, ns := 6, body := [(.asg3 (.nm 2) (.nm 3) (.nm 4) (.int 0)), (.for_ (.nm 5) (.seq (.slc (.var 0) none (some (.var 1)))) [(.iff (.cmp .eq (.idx (.var 5) (.int 0)) (.str (Str.ofString "line"))) [(.aug 2 .add (.int 1))] [(.iff (.cmp .eq (.idx (.var 5) (.int 0)) (.str (Str.ofString "stand"))) [(.asg (.nm 3) (.idx (.var 5) (.int 1)))] [(.asg (.nm 4) (.var 3))])])]), (.ret (.tup [(.var 2), (.var 4)]))] }
def f_check_moment : Fn := { np := 2, ns := 2, body := [(.expr (.call 2 [(.var 0)])), (.iff (.or (.not (.call 0 [(.var 1)])) (.cmp .gt (.var 1) (.bi .len [(.var 0)]))) [.never] [])] }
def f_given_up : Fn := { np := 2, ns := 2, body := [(.expr (.call 5 [(.var 0), (.var 1)])), (.ret (.idx (.call 4 [(.var 0), (.var 1)]) (.int 1)))] }
def f_still_needed : Fn := { np := 2, ns := 4, body := [(.expr (.call 5 [(.var 0), (.var 1)])), (.asg (.tup [(.nm 2), (.nm 3)]) (.call 4 [(.var 0), (.var 1)])), (.ret (.lrng (.bin .add (.var 3) (.int 1)) (.bin .add (.var 2) (.int 1))))] }
def f_full_at : Fn := { np := 2, ns := 6, body := [(.for_ (.tup [(.nm 2), (.nm 3)]) (.enum (.var 0)) [(.iff (.cmp .eq (.idx (.var 3) (.int 0)) (.str (Str.ofString "line"))) [(.asg (.tup [(.nm 4), (.nm 5)]) (.call 4 [(.var 0), (.var 2)])), (.iff (.cmp .gt (.bin .sub (.bin .add (.var 4) (.int 1)) (.var 5)) (.var 1)) [(.ret (.var 2))] [])] [])]), (.ret .non)] }
def f_fits : Fn := { np := 2, ns := 2, body := [(.expr (.call 3 [(.var 0), (.var 1)])), (.ret (.isN (.call 8 [(.var 0), (.var 1)])))] }
def f_first_full : Fn := { np := 2, ns := 2, body := [(.expr (.call 3 [(.var 0), (.var 1)])), (.ret (.call 8 [(.var 0), (.var 1)]))] }
def f_least_for : Fn := { np := 1, ns := 6, body := [(.asg (.nm 1) (.int 1)), (.for_ (.tup [(.nm 2), (.nm 3)]) (.enum (.var 0)) [(.iff (.cmp .eq (.idx (.var 3) (.int 0)) (.str (Str.ofString "line"))) [(.asg (.tup [(.nm 4), (.nm 5)]) (.call 4 [(.var 0), (.var 2)])), (.asg (.nm 1) (.bi .max [(.var 1), (.bin .sub (.bin .add (.var 4) (.int 1)) (.var 5))]))] [])]), (.ret (.var 1))] }
def f_least_places : Fn := { np := 1, ns := 1, body := [(.expr (.call 2 [(.var 0)])), (.ret (.call 11 [(.var 0)]))] }
def f__law_purse : Fn := { np := 2, ns := 3, body := [(.asg (.nm 2) (.bi .sum [(.slc (.var 0) (some (.var 1)) (some (.bin .add (.var 1) (.int 1))))])), (.ret (.lst [(.bin .mod (.bi .intc [(.bi .max [(.bin .sub (.var 2) (.bin .pow (.int 10) (.int 18))), (.int 0)])]) (.bin .pow (.bin .pow (.int 10) (.int 60)) (.int 8))), (.bin .mod (.bi .intc [(.var 2)]) (.int 2147483629)), (.int 0), (.var 1)]))] }
def f__law_mixed : Fn := { np := 3, ns := 4, body := [(.asg (.nm 3) (.bin .add (.bin .mul (.var 0) (.int 69069)) (.bin .mul (.bin .mul (.int 104729) (.var 1)) (.var 1)))), (.asg (.nm 3) (.bin .mod (.bi .intc [(.bin .add (.bin .add (.var 3) (.bin .mul (.int 7919) (.var 2))) (.var 1))]) (.int 2147483647))), (.asg (.nm 3) (.bin .mod (.bi .intc [(.bin .add (.bin .mul (.var 3) (.var 3)) (.int 40503))]) (.int 2147483629))), (.ret (.bin .mod (.bi .intc [(.bin .mul (.var 3) (.int 48271))]) (.int 2147483587)))] }
def f__law_draw : Fn := { np := 2, ns := 5, body := [(.iff (.cmp .gt (.idx (.var 0) (.int 0)) (.int 0)) [(.asg (.nm 2) (.bin .mod (.bi .intc [(.idx (.var 0) (.int 0))]) (.var 1))), (.asg (.sub (.var 0) (.int 0)) (.bin .fdv (.idx (.var 0) (.int 0)) (.var 1))), (.ret (.var 2))] []), (.asg (.nm 3) (.int 0)), (.for_ (.nm 4) (.rng1 (.bin .add (.int 1) (.bin .fdv (.mt .bits (.var 1) []) (.int 28)))) [(.asg (.sub (.var 0) (.int 2)) (.bin .add (.idx (.var 0) (.int 2)) (.int 1))), (.asg (.nm 3) (.bin .add (.bin .mul (.var 3) (.int 2147483587)) (.call 14 [(.idx (.var 0) (.int 1)), (.idx (.var 0) (.int 2)), (.idx (.var 0) (.int 3))])))]), (.ret (.bin .mod (.bi .intc [(.var 3)]) (.var 1)))] }
def f__law_exact : Fn := { np := 2, ns := 6, body := [(.iff (.bi .isi [(.var 0), (.tup [(.ty .tl), (.ty .tt)])]) [(.asg (.nm 2) (.and (.cmp .eq (.bi .isi [(.var 1), (.ty .tl)]) (.bi .isi [(.var 0), (.ty .tl)])) (.cmp .eq (.bi .isi [(.var 1), (.ty .tt)]) (.bi .isi [(.var 0), (.ty .tt)])))), (.ret (.and (.var 2) (.and (.cmp .eq (.bi .len [(.var 0)]) (.bi .len [(.var 1)])) (.bi .all [(.lc [3, 4] (.tup [(.nm 3), (.nm 4)]) (.zip (.var 0) (.var 1)) none (.call 16 [(.var 3), (.var 4)]))]))))] []), (.iff (.bi .isi [(.var 0), (.ty .td)]) [(.asg (.nm 2) (.and (.bi .isi [(.var 1), (.ty .td)]) (.call 16 [(.bi .lst [(.var 0)]), (.bi .lst [(.var 1)])]))), (.ret (.and (.var 2) (.bi .all [(.lc [5] (.nm 5) (.seq (.var 0)) none (.call 16 [(.idx (.var 0) (.var 5)), (.idx (.var 1) (.var 5))]))])))] []), (.asg (.nm 2) (.cmp .eq (.bi .isi [(.var 0), (.ty .ti)]) (.bi .isi [(.var 1), (.ty .ti)]))), (.ret (.and (.var 2) (.and (.cmp .eq (.bi .isi [(.var 0), (.ty .tb)]) (.bi .isi [(.var 1), (.ty .tb)])) (.cmp .eq (.var 0) (.var 1)))))] }
def f__law_life : Fn := { np := 2, ns := 7, body := [(.par3 2 3 4 (.lst []) (.int 0) (.int 0)), (.for_ (.nm 5) (.rng1 (.call 15 [(.var 0), (.bin .add (.var 1) (.int 1))])) [(.asg (.nm 6) (.call 15 [(.var 0), (.int 9)])), (.iff (.cmp .lt (.var 6) (.int 5)) [(.par2 2 3 (.bin .add (.var 2) (.lst [(.tup [(.str (Str.ofString "line"))])])) (.bin .add (.var 3) (.int 1)))] [(.iff (.cmp .lt (.var 6) (.int 7)) [(.asg (.nm 4) (.bin .add (.var 4) (.call 15 [(.var 0), (.bin .add (.bin .sub (.var 3) (.var 4)) (.int 1))]))), (.expr (.mt .append (.var 2) [(.tup [(.str (Str.ofString "stand")), (.var 4)])]))] [(.expr (.mt .append (.var 2) [(.tup [(.str (Str.ofString "root"))])]))])])]), (.ret (.var 2))] }
def f__law_ring_walk : Fn := { np := 2, ns := 9, body := [(.asg (.tup [(.nm 2), (.nm 3), (.nm 4), (.nm 5)]) (.tup [.dct0, (.int 0), (.int 0), (.int 1)])), (.for_ (.tup [(.nm 6), (.nm 7)]) (.enum (.var 0)) [(.iff (.cmp .eq (.idx (.var 7) (.int 0)) (.str (Str.ofString "line"))) [(.asg (.nm 3) (.bin .add (.var 3) (.int 1))), (.asg (.nm 8) (.bin .mod (.bi .intc [(.var 3)]) (.var 1))), (.iff (.and (.cmp .inn (.var 8) (.var 2)) (.cmp .ge (.idx (.var 2) (.var 8)) (.var 5))) [(.ret (.var 6))] []), (.asg (.sub (.var 2) (.var 8)) (.var 3))] [(.iff (.cmp .eq (.idx (.var 7) (.int 0)) (.str (Str.ofString "stand"))) [(.asg (.nm 4) (.idx (.var 7) (.int 1)))] [(.asg (.nm 5) (.bin .add (.var 4) (.int 1)))])])]), (.ret .non)] }
def f__law_gone : Fn := { np := 2, ns := 5, body := [(.asg (.tup [(.nm 2), (.nm 3)]) (.tup [(.int 0), (.int 0)])), (.for_ (.nm 4) (.seq (.slc (.var 0) none (some (.var 1)))) [(.iff (.cmp .eq (.idx (.var 4) (.int 0)) (.str (Str.ofString "stand"))) [(.asg (.nm 2) (.idx (.var 4) (.int 1)))] []), (.iff (.cmp .eq (.idx (.var 4) (.int 0)) (.str (Str.ofString "root"))) [(.asg (.nm 3) (.var 2))] [])]), (.ret (.var 3))] }
def f__law_life_right : Fn := { np := 1, ns := 8, body := [(.asg (.nm 1) (.bi .lst [(.var 0)])), (.for_ (.nm 2) (.rng2 (.int 1) (.int 7)) [(.asg (.nm 3) (.call 18 [(.var 0), (.var 2)])), (.iff (.not (.call 16 [(.lst [(.call 9 [(.var 1), (.var 2)]), (.call 10 [(.var 1), (.var 2)]), (.var 1)]), (.lst [(.isN (.var 3)), (.var 3), (.var 0)])])) [(.ret (.bl false))] [])]), (.asg (.nm 4) (.idx (.lc [2] (.nm 2) (.rng2 (.int 1) (.int 16)) (some (.isN (.call 18 [(.var 0), (.var 2)]))) (.var 2)) (.int 0))), (.iff (.not (.call 16 [(.lst [(.call 12 [(.var 1)]), (.call 9 [(.var 0), (.var 4)]), (.call 10 [(.var 0), (.int 60)])]), (.lst [(.var 4), (.bl true), .non])])) [(.ret (.bl false))] []), (.for_ (.nm 5) (.rng1 (.bin .add (.bi .len [(.var 0)]) (.int 1))) [(.asg (.nm 6) (.call 19 [(.var 0), (.var 5)])), (.asg (.nm 3) (.lrng (.bin .add (.var 6) (.int 1)) (.bin .add (.mt .count (.slc (.var 0) none (some (.var 5))) [(.tup [(.str (Str.ofString "line"))])]) (.int 1)))), (.asg (.nm 7) (.call 7 [(.var 1), (.var 5)])), (.iff (.not (.call 16 [(.lst [(.call 6 [(.var 1), (.var 5)]), (.var 7)]), (.lst [(.var 6), (.var 3)])])) [(.ret (.bl false))] []), (.expr (.mt .append (.var 7) [.non])), (.iff (.not (.call 16 [(.call 7 [(.var 1), (.var 5)]), (.var 3)])) [(.ret (.bl false))] [])]), (.ret (.cmp .eq (.var 1) (.var 0)))] }
def f_law : Fn := { np := 1, ns := 10, body := [(.asg (.nm 1) (.call 13 [(.var 0), (.int 0)])), (.asg (.nm 2) (.lst [(.call 17 [(.var 1), (.int 14)]), (.call 17 [(.var 1), (.int 9)]), (.lst [(.tup [(.str (Str.ofString "line"))]), (.tup [(.str (Str.ofString "stand")), (.int 1)]), (.tup [(.str (Str.ofString "root"))]), (.tup [(.str (Str.ofString "line"))]), (.tup [(.str (Str.ofString "line"))])])])), (.for_ (.nm 3) (.seq (.bin .add (.var 2) (.slc (.var 2) none (some (.int 1))))) [(.iff (.or (.ntB (.call 1 [(.var 3)]) true) (.not (.call 20 [(.var 3)]))) [(.ret (.bl false))] [])]), (.asg (.tup [(.nm 4), (.nm 5)]) (.tup [(.lst []), (.bin .add (.int 1) (.call 15 [(.var 1), (.int 4)]))])), (.for_ (.nm 6) (.seq (.idx (.var 2) (.int 0))) [(.expr (.mt .append (.var 4) [(.var 6)])), (.iff (.not (.call 16 [(.lst [(.call 9 [(.var 4), (.var 5)]), (.call 12 [(.var 4)])]), (.lst [(.isN (.call 18 [(.var 4), (.var 5)])), (.bi .max [(.bin .add (.lst [(.int 1)]) (.lc [9] (.nm 9) (.rng2 (.int 2) (.int 16)) (some (.ntN (.call 18 [(.var 4), (.bin .sub (.var 9) (.int 1))]))) (.var 9)))])])])) [(.ret (.bl false))] [])]), (.asg (.nm 7) (.lc [3] (.nm 3) (.seq (.var 2)) none (.lst [(.call 7 [(.var 3), (.bi .len [(.var 3)])]), (.call 10 [(.var 3), (.int 2)])]))), (.asg (.nm 8) (.lc [3] (.nm 3) (.seq (.var 2)) none (.lst [(.lrng (.bin .add (.call 19 [(.var 3), (.bi .len [(.var 3)])]) (.int 1)) (.bin .add (.mt .count (.var 3) [(.tup [(.str (Str.ofString "line"))])]) (.int 1))), (.call 18 [(.var 3), (.int 2)])]))), (.ret (.and (.call 16 [(.var 7), (.var 8)]) (.call 16 [(.lst [(.call 9 [(.lst []), (.int 1)]), (.call 12 [(.lst [])]), (.call 7 [(.lst []), (.int 0)])]), (.lst [(.bl true), (.int 1), (.lst [])])])))] }
def fns : List Fn := [f_is_count, f_is_life, f_check_life, f_check_ring, f_counted, f_check_moment, f_given_up, f_still_needed, f_full_at, f_fits, f_first_full, f_least_for, f_least_places, f__law_purse, f__law_mixed, f__law_draw, f__law_exact, f__law_life, f__law_ring_walk, f__law_gone, f__law_life_right, f_law]
end K37

namespace K37
open PySem L2 AM
def top (i : Nat) : Stmt := PySem.Challenge.pw_weavestore_k37_whole_lives_of_rings.main.body.getD i (.Pass ⟨0, 0, 0, 0⟩)
abbrev d_is_count : DD := ⟨"is_count", ["value", "most"], ["value", "most"], defArgs (top 6), defBody (top 6), defScope (top 6), [.non], f_is_count⟩
abbrev d_is_life : DD := ⟨"is_life", ["value"], ["value", "many", "stands", "event"], defArgs (top 8), defBody (top 8), defScope (top 8), [], f_is_life⟩
abbrev d_check_life : DD := ⟨"check_life", ["value"], ["value"], defArgs (top 9), defBody (top 9), defScope (top 9), [], f_check_life⟩
abbrev d_check_ring : DD := ⟨"check_ring", ["life", "places"], ["life", "places"], defArgs (top 10), defBody (top 10), defScope (top 10), [], f_check_ring⟩
abbrev d_counted : DD := ⟨"counted", ["life", "moment"], ["life", "moment", "many", "stands", "gone", "event"], defArgs (top 11), defBody (top 11), defScope (top 11), [], f_counted⟩
abbrev d_check_moment : DD := ⟨"check_moment", ["life", "moment"], ["life", "moment"], defArgs (top 12), defBody (top 12), defScope (top 12), [], f_check_moment⟩
abbrev d_given_up : DD := ⟨"given_up", ["life", "moment"], ["life", "moment"], defArgs (top 13), defBody (top 13), defScope (top 13), [], f_given_up⟩
abbrev d_still_needed : DD := ⟨"still_needed", ["life", "moment"], ["life", "moment", "many", "gone"], defArgs (top 14), defBody (top 14), defScope (top 14), [], f_still_needed⟩
abbrev d_full_at : DD := ⟨"full_at", ["life", "places"], ["life", "places", "at", "event", "many", "gone"], defArgs (top 15), defBody (top 15), defScope (top 15), [], f_full_at⟩
abbrev d_fits : DD := ⟨"fits", ["life", "places"], ["life", "places"], defArgs (top 16), defBody (top 16), defScope (top 16), [], f_fits⟩
abbrev d_first_full : DD := ⟨"first_full", ["life", "places"], ["life", "places"], defArgs (top 17), defBody (top 17), defScope (top 17), [], f_first_full⟩
abbrev d_least_for : DD := ⟨"least_for", ["life"], ["life", "found", "at", "event", "many", "gone"], defArgs (top 18), defBody (top 18), defScope (top 18), [], f_least_for⟩
abbrev d_least_places : DD := ⟨"least_places", ["life"], ["life"], defArgs (top 19), defBody (top 19), defScope (top 19), [], f_least_places⟩
abbrev d__law_purse : DD := ⟨"_law_purse", ["_law_script", "_law_at"], ["_law_script", "_law_at", "_law_seed"], defArgs (top 21), defBody (top 21), defScope (top 21), [], f__law_purse⟩
abbrev d__law_mixed : DD := ⟨"_law_mixed", ["_law_seed", "_law_spin", "_law_at"], ["_law_seed", "_law_spin", "_law_at", "_law_mixed_here"], defArgs (top 22), defBody (top 22), defScope (top 22), [], f__law_mixed⟩
abbrev d__law_draw : DD := ⟨"_law_draw", ["_law_purse_here", "_law_many"], ["_law_purse_here", "_law_many", "_law_drawn", "_law_found", "_law_piece"], defArgs (top 23), defBody (top 23), defScope (top 23), [], f__law_draw⟩
abbrev d__law_exact : DD := ⟨"_law_exact", ["_law_mine", "_law_theirs"], ["_law_mine", "_law_theirs", "_law_alike", "_law_a", "_law_b", "_law_key"], defArgs (top 24), defBody (top 24), defScope (top 24), [], f__law_exact⟩
abbrev d__law_life : DD := ⟨"_law_life", ["_law_purse_here", "_law_most"], ["_law_purse_here", "_law_most", "_law_found", "_law_many", "_law_stands", "_law_turn", "_law_way"], defArgs (top 25), defBody (top 25), defScope (top 25), [], f__law_life⟩
abbrev d__law_ring_walk : DD := ⟨"_law_ring_walk", ["_law_life_here", "_law_places"], ["_law_life_here", "_law_places", "_law_ring", "_law_many", "_law_stands", "_law_first", "_law_at", "_law_event", "_law_spot"], defArgs (top 26), defBody (top 26), defScope (top 26), [], f__law_ring_walk⟩
abbrev d__law_gone : DD := ⟨"_law_gone", ["_law_life_here", "_law_moment"], ["_law_life_here", "_law_moment", "_law_stands", "_law_gone_here", "_law_event"], defArgs (top 27), defBody (top 27), defScope (top 27), [], f__law_gone⟩
abbrev d__law_life_right : DD := ⟨"_law_life_right", ["_law_life_here"], ["_law_life_here", "_law_handed", "_law_places", "_law_due", "_law_least", "_law_moment", "_law_gone_here", "_law_told"], defArgs (top 28), defBody (top 28), defScope (top 28), [], f__law_life_right⟩
abbrev d_law : DD := ⟨"law", ["_law_script"], ["_law_script", "_law_purse_here", "_law_lives", "_law_life_here", "_law_line", "_law_places", "_law_event", "_law_noted", "_law_due", "_law_late"], defArgs (top 29), defBody (top 29), defScope (top 29), [], f_law⟩
abbrev Ds : List DD := [d_is_count, d_is_life, d_check_life, d_check_ring, d_counted, d_check_moment, d_given_up, d_still_needed, d_full_at, d_fits, d_first_full, d_least_for, d_least_places, d__law_purse, d__law_mixed, d__law_draw, d__law_exact, d__law_life, d__law_ring_walk, d__law_gone, d__law_life_right, d_law]
abbrev free : List Str := ["all", "bool", "dict", "enumerate", "int", "isinstance", "len", "list", "max", "range", "str", "sum", "tuple", "zip"]
theorem o_is_count : DOk (sigs Ds) free d_is_count := by
  refine dokB_ok (by kernel_rfl) fun K f fd F k hk => ?_
  have hk : k ≤ 1 := hk
  rcases (by omega : k = 0 ∨ k = 1) with rfl | rfl
  · obtain ⟨ds, h1, h2⟩ := FunD.binds1 (ps := ["value", "most"]) F 1 0 (List.cons_ne_nil _ _) (by rfl) (fun T kV doc pm an cdv ct us its h1 h2 => match us, its, h1, h2 with | [_], [_], _, _ => ⟨_, rfl, rfl⟩)
    exact ⟨ds, h2, h1⟩
  · obtain ⟨ds, h1, h2⟩ := FunD.binds1 (ps := ["value", "most"]) F 2 1 (List.cons_ne_nil _ _) (by rfl) (fun T kV doc pm an cdv ct us its h1 h2 => match us, its, h1, h2 with | [_, _], [_], _, _ => ⟨_, rfl, rfl⟩)
    exact ⟨ds, h2, h1⟩
theorem o_is_life : DOk (sigs Ds) free d_is_life := by
  refine dokB_ok (by kernel_rfl) fun K f fd F k hk => ?_
  cases Nat.le_zero.mp hk
  exact ⟨[], FunD.bindsN F (fun _ _ _ _ _ _ us hl => match us, hl with | [_], _ => rfl), .nil⟩
theorem o_check_life : DOk (sigs Ds) free d_check_life := by
  refine dokB_ok (by kernel_rfl) fun K f fd F k hk => ?_
  cases Nat.le_zero.mp hk
  exact ⟨[], FunD.bindsN F (fun _ _ _ _ _ _ us hl => match us, hl with | [_], _ => rfl), .nil⟩
theorem o_check_ring : DOk (sigs Ds) free d_check_ring := by
  refine dokB_ok (by kernel_rfl) fun K f fd F k hk => ?_
  cases Nat.le_zero.mp hk
  exact ⟨[], FunD.bindsN F (fun _ _ _ _ _ _ us hl => match us, hl with | [_, _], _ => rfl), .nil⟩
theorem o_counted : DOk (sigs Ds) free d_counted := by
  refine dokB_ok (by kernel_rfl) fun K f fd F k hk => ?_
  cases Nat.le_zero.mp hk
  exact ⟨[], FunD.bindsN F (fun _ _ _ _ _ _ us hl => match us, hl with | [_, _], _ => rfl), .nil⟩
theorem o_check_moment : DOk (sigs Ds) free d_check_moment := by
  refine dokB_ok (by kernel_rfl) fun K f fd F k hk => ?_
  cases Nat.le_zero.mp hk
  exact ⟨[], FunD.bindsN F (fun _ _ _ _ _ _ us hl => match us, hl with | [_, _], _ => rfl), .nil⟩
theorem o_given_up : DOk (sigs Ds) free d_given_up := by
  refine dokB_ok (by kernel_rfl) fun K f fd F k hk => ?_
  cases Nat.le_zero.mp hk
  exact ⟨[], FunD.bindsN F (fun _ _ _ _ _ _ us hl => match us, hl with | [_, _], _ => rfl), .nil⟩
theorem o_still_needed : DOk (sigs Ds) free d_still_needed := by
  refine dokB_ok (by kernel_rfl) fun K f fd F k hk => ?_
  cases Nat.le_zero.mp hk
  exact ⟨[], FunD.bindsN F (fun _ _ _ _ _ _ us hl => match us, hl with | [_, _], _ => rfl), .nil⟩
theorem o_full_at : DOk (sigs Ds) free d_full_at := by
  refine dokB_ok (by kernel_rfl) fun K f fd F k hk => ?_
  cases Nat.le_zero.mp hk
  exact ⟨[], FunD.bindsN F (fun _ _ _ _ _ _ us hl => match us, hl with | [_, _], _ => rfl), .nil⟩
theorem o_fits : DOk (sigs Ds) free d_fits := by
  refine dokB_ok (by kernel_rfl) fun K f fd F k hk => ?_
  cases Nat.le_zero.mp hk
  exact ⟨[], FunD.bindsN F (fun _ _ _ _ _ _ us hl => match us, hl with | [_, _], _ => rfl), .nil⟩
theorem o_first_full : DOk (sigs Ds) free d_first_full := by
  refine dokB_ok (by kernel_rfl) fun K f fd F k hk => ?_
  cases Nat.le_zero.mp hk
  exact ⟨[], FunD.bindsN F (fun _ _ _ _ _ _ us hl => match us, hl with | [_, _], _ => rfl), .nil⟩
theorem o_least_for : DOk (sigs Ds) free d_least_for := by
  refine dokB_ok (by kernel_rfl) fun K f fd F k hk => ?_
  cases Nat.le_zero.mp hk
  exact ⟨[], FunD.bindsN F (fun _ _ _ _ _ _ us hl => match us, hl with | [_], _ => rfl), .nil⟩
theorem o_least_places : DOk (sigs Ds) free d_least_places := by
  refine dokB_ok (by kernel_rfl) fun K f fd F k hk => ?_
  cases Nat.le_zero.mp hk
  exact ⟨[], FunD.bindsN F (fun _ _ _ _ _ _ us hl => match us, hl with | [_], _ => rfl), .nil⟩
theorem o__law_purse : DOk (sigs Ds) free d__law_purse := by
  refine dokB_ok (by kernel_rfl) fun K f fd F k hk => ?_
  cases Nat.le_zero.mp hk
  exact ⟨[], FunD.bindsN F (fun _ _ _ _ _ _ us hl => match us, hl with | [_, _], _ => rfl), .nil⟩
theorem o__law_mixed : DOk (sigs Ds) free d__law_mixed := by
  refine dokB_ok (by kernel_rfl) fun K f fd F k hk => ?_
  cases Nat.le_zero.mp hk
  exact ⟨[], FunD.bindsN F (fun _ _ _ _ _ _ us hl => match us, hl with | [_, _, _], _ => rfl), .nil⟩
theorem o__law_draw : DOk (sigs Ds) free d__law_draw := by
  refine dokB_ok (by kernel_rfl) fun K f fd F k hk => ?_
  cases Nat.le_zero.mp hk
  exact ⟨[], FunD.bindsN F (fun _ _ _ _ _ _ us hl => match us, hl with | [_, _], _ => rfl), .nil⟩
theorem o__law_exact : DOk (sigs Ds) free d__law_exact := by
  refine dokB_ok (by kernel_rfl) fun K f fd F k hk => ?_
  cases Nat.le_zero.mp hk
  exact ⟨[], FunD.bindsN F (fun _ _ _ _ _ _ us hl => match us, hl with | [_, _], _ => rfl), .nil⟩
theorem o__law_life : DOk (sigs Ds) free d__law_life := by
  refine dokB_ok (by kernel_rfl) fun K f fd F k hk => ?_
  cases Nat.le_zero.mp hk
  exact ⟨[], FunD.bindsN F (fun _ _ _ _ _ _ us hl => match us, hl with | [_, _], _ => rfl), .nil⟩
theorem o__law_ring_walk : DOk (sigs Ds) free d__law_ring_walk := by
  refine dokB_ok (by kernel_rfl) fun K f fd F k hk => ?_
  cases Nat.le_zero.mp hk
  exact ⟨[], FunD.bindsN F (fun _ _ _ _ _ _ us hl => match us, hl with | [_, _], _ => rfl), .nil⟩
theorem o__law_gone : DOk (sigs Ds) free d__law_gone := by
  refine dokB_ok (by kernel_rfl) fun K f fd F k hk => ?_
  cases Nat.le_zero.mp hk
  exact ⟨[], FunD.bindsN F (fun _ _ _ _ _ _ us hl => match us, hl with | [_, _], _ => rfl), .nil⟩
theorem o__law_life_right : DOk (sigs Ds) free d__law_life_right := by
  refine dokB_ok (by kernel_rfl) fun K f fd F k hk => ?_
  cases Nat.le_zero.mp hk
  exact ⟨[], FunD.bindsN F (fun _ _ _ _ _ _ us hl => match us, hl with | [_], _ => rfl), .nil⟩
theorem o_law : DOk (sigs Ds) free d_law := by
  refine dokB_ok (by kernel_rfl) fun K f fd F k hk => ?_
  cases Nat.le_zero.mp hk
  exact ⟨[], FunD.bindsN F (fun _ _ _ _ _ _ us hl => match us, hl with | [_], _ => rfl), .nil⟩
theorem oks : ∀ D ∈ Ds, DOk (sigs Ds) free D := by
  intro D h
  simp only [Ds, List.mem_cons, List.mem_nil_iff, or_false] at h
  rcases h with rfl | rfl | rfl | rfl | rfl | rfl | rfl | rfl | rfl | rfl | rfl | rfl | rfl | rfl | rfl | rfl | rfl | rfl | rfl | rfl | rfl | rfl
  · exact o_is_count
  · exact o_is_life
  · exact o_check_life
  · exact o_check_ring
  · exact o_counted
  · exact o_check_moment
  · exact o_given_up
  · exact o_still_needed
  · exact o_full_at
  · exact o_fits
  · exact o_first_full
  · exact o_least_for
  · exact o_least_places
  · exact o__law_purse
  · exact o__law_mixed
  · exact o__law_draw
  · exact o__law_exact
  · exact o__law_life
  · exact o__law_ring_walk
  · exact o__law_gone
  · exact o__law_life_right
  · exact o_law
end K37

namespace AM
open PySem L2 Y
/-- what is in a list of told items at a place -/
theorem map_at {α β : Type} {f : α → β} {l : List α} {k : Nat} {x : β} (h : (l.map f)[k]? = some x) : ∃ e, l[k]? = some e ∧ f e = x ∧ l.take (k + 1) = l.take k ++ [e] := by
  obtain ⟨e, e1, e2⟩ := map_ge h
  exact ⟨e, e1, e2, by rw [List.take_succ, e1]; rfl⟩
theorem cut_take {xs : List Vl} {m : Nat} : cutL xs none (some (m : Int)) = xs.take m := by
  unfold cutL
  rw [HT.sIx_none, HT.sIx_nat, List.drop_zero, Nat.sub_zero]
  by_cases z : m ≤ xs.length
  · rw [Nat.min_eq_left z]
  · rw [Nat.min_eq_right (by omega), List.take_of_length_le (Nat.le_refl _), List.take_of_length_le (by omega)]
/-- the first place of some kind, or None -/
def FirstOf (P : Nat → Prop) (v : Vl) : Prop := (v = .non ∧ ∀ j, ¬ P j) ∨ ∃ j : Nat, v = .int j ∧ P j ∧ ∀ i, i < j → ¬ P i
theorem FirstOf.uniq {P : Nat → Prop} {v w : Vl} (a : FirstOf P v) (b : FirstOf P w) : v = w := by
  rcases a with ⟨rfl, a⟩ | ⟨i, rfl, a1, a2⟩ <;> rcases b with ⟨rfl, b⟩ | ⟨j, rfl, b1, b2⟩
  · rfl
  · exact absurd b1 (a j)
  · exact absurd a1 (b i)
  · have : i = j := by
      rcases Nat.lt_trichotomy i j with h | h | h
      · exact absurd a1 (b2 i h)
      · exact h
      · exact absurd b1 (a2 j h)
    rw [this]
end AM
namespace K37
open PySem L2 AM Y
inductive Ev where | line | stand (n : Nat) | root
abbrev sL : Str := Str.ofString "line"
abbrev sS : Str := Str.ofString "stand"
abbrev sR : Str := Str.ofString "root"
def Ev.v : Ev → Vl
  | .line => .tup [.str sL]
  | .stand n => .tup [.str sS, .int n]
  | .root => .tup [.str sR]
def Ev.d : Ev → PyData
  | .line => .tuple [.str sL]
  | .stand n => .tuple [.str sS, .int n]
  | .root => .tuple [.str sR]
theorem Ev.dt {h : SH} (e : Ev) : Dt h e.v e.d := by
  cases e with
  | line => exact .tup (.cons (.str _) .nil)
  | stand n => exact .tup (.cons (.str _) (.cons (.int _) .nil))
  | root => exact .tup (.cons (.str _) .nil)
theorem kL : PyData.strOk sL = true := by decide +kernel
theorem kS : PyData.strOk sS = true := by decide +kernel
theorem kR : PyData.strOk sR = true := by decide +kernel
theorem qLS : (sL == sS) = false := by decide +kernel
theorem qSL : (sS == sL) = false := by decide +kernel
theorem qRS : (sR == sS) = false := by decide +kernel
theorem qRL : (sR == sL) = false := by decide +kernel
theorem qLR : (sL == sR) = false := by decide +kernel
theorem qSR : (sS == sR) = false := by decide +kernel
def lifeD (l : List Ev) : PyData := .list (l.map Ev.d)
theorem life_dts {h : SH} : ∀ l : List Ev, Dts h (l.map Ev.v) (l.map Ev.d)
  | [] => .nil
  | e :: l => .cons e.dt (life_dts l)
theorem life_dt {h : SH} {r : Nat} {l : List Ev} (e : h[r]? = some (.lst (l.map Ev.v))) : Dt h (.ref r) (lifeD l) := .ref e (life_dts l)
theorem ev_lay (e : Ev) : e.d.canLay0 = true := by
  cases e with
  | line => show (PyData.strOk sL && true) = true; rw [kL]; rfl
  | stand n => show (PyData.strOk sS && (true && true)) = true; rw [kS]; rfl
  | root => show (PyData.strOk sR && true) = true; rw [kR]; rfl
theorem ev_dep (e : Ev) : e.d.depth = 1 := by cases e <;> rfl
theorem ev_fz (e : Ev) : fz e.d ≤ 3 := by
  cases e with
  | line => decide
  | stand n => exact Nat.le_refl _
  | root => decide
theorem ok_t0 : EqOk (.tuple []) := ⟨by decide, by decide⟩
theorem ok_t1 {a : Str} (h : PyData.strOk a = true) : EqOk (.tuple [.str a]) := by
  refine ⟨?_, ?_⟩
  · show ((PyData.strOk a && true) && decide _) = true
    rw [h]; rfl
  · show 2 ≤ lim
    decide
theorem ok_t2 {a : Str} {n : Int} (h : PyData.strOk a = true) : EqOk (.tuple [.str a, .int n]) := by
  refine ⟨?_, ?_⟩
  · show ((PyData.strOk a && (true && true)) && decide _) = true
    rw [h]; rfl
  · show 3 ≤ lim
    decide
theorem e10 {h : SH} {a : Str} (ha : PyData.strOk a = true) : eqD h (.tup [.str a]) (.tup []) = some false := eqD_of (.tup (.cons (.str _) .nil)) (.tup .nil) (ok_t1 ha) ok_t0
theorem e20 {h : SH} {a : Str} {n : Int} (ha : PyData.strOk a = true) : eqD h (.tup [.str a, .int n]) (.tup []) = some false := eqD_of (.tup (.cons (.str _) (.cons (.int _) .nil))) (.tup .nil) (ok_t2 ha) ok_t0
theorem e11 {h : SH} {a b : Str} (ha : PyData.strOk a = true) (hb : PyData.strOk b = true) : eqD h (.tup [.str a]) (.tup [.str b]) = some (a == b) := by
  rw [eqD_of (.tup (.cons (.str _) .nil)) (.tup (.cons (.str _) .nil)) (ok_t1 ha) (ok_t1 hb)]
  congr 1
  show ((a == b) && true) = _
  rw [Bool.and_true]
theorem life_lay : ∀ l : List Ev, PyData.canLayAll0 (l.map Ev.d) = true
  | [] => rfl
  | e :: l => by
    show (e.d.canLay0 && PyData.canLayAll0 (l.map Ev.d)) = true
    rw [ev_lay, life_lay l]; rfl
theorem life_dep : ∀ l : List Ev, PyData.depthAll (l.map Ev.d) ≤ 1
  | [] => Nat.zero_le _
  | e :: l => by
    have := life_dep l
    show max e.d.depth (PyData.depthAll (l.map Ev.d)) ≤ 1
    rw [ev_dep]; omega
theorem life_fz : ∀ l : List Ev, fzs (l.map Ev.d) ≤ l.length + 3
  | [] => Nat.zero_le _
  | e :: l => by
    have := life_fz l
    have := ev_fz e
    show max (fz e.d) (fzs (l.map Ev.d)) + 1 ≤ l.length + 1 + 3
    omega
theorem life_ok {l : List Ev} (hl : l.length ≤ 1000) : EqOk (lifeD l) := by
  refine ⟨?_, ?_⟩
  · unfold SeqAt.shaped
    have h1 : (lifeD l).canLay0 = true := life_lay l
    have h2 : (lifeD l).depth ≤ 64 := by
      have := life_dep l
      show PyData.depthAll (l.map Ev.d) + 1 ≤ 64
      omega
    rw [h1, decide_eq_true h2]; rfl
  · have := life_fz l
    show fzs (l.map Ev.d) + 1 ≤ lim
    unfold lim; omega
/-! ### counts -/
def stp (t : Nat × Nat × Nat) (e : Ev) : Nat × Nat × Nat := match e with
  | .line => (t.1 + 1, t.2.1, t.2.2)
  | .stand n => (t.1, n, t.2.2)
  | .root => (t.1, t.2.1, t.2.1)
def tally (l : List Ev) : Nat × Nat × Nat := l.foldl stp (0, 0, 0)
theorem tally_snoc (l : List Ev) (e : Ev) : tally (l ++ [e]) = stp (tally l) e := by unfold tally; rw [List.foldl_append]; rfl
def okE (t : Nat × Nat × Nat) : Ev → Prop
  | .stand n => t.2.1 ≤ n ∧ n ≤ t.1
  | _ => True
def Good (l : List Ev) : Prop := ∀ k e, l[k]? = some e → okE (tally (l.take k)) e
theorem good_nil : Good [] := fun k e h => by simp at h
theorem good_snoc {l : List Ev} {e : Ev} (g : Good l) (o : okE (tally l) e) : Good (l ++ [e]) := fun k u h => by
  by_cases hk : k < l.length
  · rw [List.getElem?_append_left hk] at h
    rw [List.take_append_of_le_length (by omega)]
    exact g k u h
  · have hk2 : k = l.length := by
      have := (List.getElem?_eq_some_iff.mp h).1
      simp at this; omega
    subst hk2
    rw [List.getElem?_append_right (Nat.le_refl _), Nat.sub_self] at h
    cases h
    rw [List.take_append_of_le_length (Nat.le_refl _), List.take_length]
    exact o
/-- a line at j that a ring of p places can't take -/
def full (l : List Ev) (p : Nat) (j : Nat) : Prop := l[j]? = some .line ∧ p + (tally (l.take j)).2.2 < (tally (l.take j)).1 + 1
section
variable {d : Nat} {h : SH} {r : Nat} {l : List Ev}
theorem w_count {n : Nat} : wp (callD fns 100000 (d + 1) 0 [.int n] h) (fun v h' => v = .bl true ∧ h' = h) NoX := by
  rw [call_eq (fns := fns) (W := 100000) (d := d) (g := 0) (f := f_is_count) rfl (us := [.int n]) (vs := [.int n, .non]) rfl rfl, wp_end]
  show wp (exSs (callD fns 100000 d) 100000 [some (.int n), some .non] f_is_count.body h) _ _
  unfold f_is_count
  have z : ¬ ((n : Int) < 0) := by omega
  simp -implicitDefEqProofs only [↓AM.Y.y_var, ↓AM.Y.y_non, ↓AM.Y.y_bl, ↓AM.Y.y_int, ↓AM.Y.y_str, ↓AM.Y.y_ty, ↓AM.Y.y_tup, ↓AM.Y.y_lst, ↓AM.Y.y_dct0, ↓AM.Y.y_bin, ↓AM.Y.y_neg, ↓AM.Y.y_not, ↓AM.Y.y_and, ↓AM.Y.y_or, ↓AM.Y.y_cmp, ↓AM.Y.y_cmp2, ↓AM.Y.y_isN, ↓AM.Y.y_ntN, ↓AM.Y.y_isB, ↓AM.Y.y_ntB, ↓AM.Y.y_ife, ↓AM.Y.y_call, ↓AM.Y.y_bi, ↓AM.Y.y_mt, ↓AM.Y.y_idx, ↓AM.Y.y_slc, ↓AM.Y.y_lc, ↓AM.Y.y_lrng, ↓AM.Y.y_nil, ↓AM.Y.y_cons, ↓AM.Y.y_none, ↓AM.Y.y_some, ↓AM.Y.y_cnone, ↓AM.Y.y_csome, ↓AM.Y.t_not, ↓AM.Y.t_and, ↓AM.Y.t_or, ↓AM.Y.t_var, ↓AM.Y.t_cmp, ↓AM.Y.t_cmp2, ↓AM.Y.t_isN, ↓AM.Y.t_ntN, ↓AM.Y.t_isB, ↓AM.Y.t_ntB, ↓AM.Y.t_call, ↓AM.Y.t_bi, ↓AM.Y.t_idx, ↓AM.Y.i_seq, ↓AM.Y.i_rng1, ↓AM.Y.i_rng2, ↓AM.Y.i_enum, ↓AM.Y.i_zip, ↓AM.Y.g_nm, ↓AM.Y.g_tup, ↓AM.Y.g_sub, ↓AM.Y.g_nil, ↓AM.Y.g_cons, ↓AM.Y.s_nil', ↓AM.Y.s_cons', ↓AM.Y.s_asg, ↓AM.Y.s_asg2', ↓AM.Y.s_asg3', ↓AM.Y.s_par2', ↓AM.Y.s_par3', ↓AM.Y.s_aug', ↓AM.Y.s_expr', ↓AM.Y.s_ret', ↓AM.Y.s_retN', ↓AM.Y.s_iff', ↓AM.Y.s_for', ↓AM.Y.s_whl', ↓AM.Y.s_pass', ↓AM.Y.s_brk', ↓AM.Y.s_cnt', ↓AM.Y.s_never', ↓AM.Y.truth_bl, ↓AM.Y.truth_non, ↓AM.Y.truth_int, ↓AM.Y.truth_tup, ↓AM.Y.truth_rol, ↓AM.Y.truth_ref, ↓AM.Y.o_add, ↓AM.Y.o_sub, ↓AM.Y.o_mul, ↓AM.Y.o_mod, ↓AM.Y.o_fdv, ↓AM.Y.o_pow, ↓AM.Y.o_addL, ↓AM.Y.c_eq, ↓AM.Y.c_ne, ↓AM.Y.c_lt, ↓AM.Y.c_le, ↓AM.Y.c_gt, ↓AM.Y.c_ge, ↓AM.Y.c_inn, ↓AM.Y.c_nin, ↓AM.Y.has_dct, ↓AM.Y.x_tup, ↓AM.Y.x_rol, ↓AM.Y.x_ref, ↓AM.Y.x_set, ↓AM.Y.x_slcR, ↓AM.Y.x_slcL, ↓AM.Y.b_len_tup, ↓AM.Y.b_len_rol, ↓AM.Y.b_len_ref, ↓AM.Y.b_isi, ↓AM.Y.b_isi2, ↓AM.Y.b_int, ↓AM.Y.b_intb, ↓AM.Y.b_sum, ↓AM.Y.b_max2, ↓AM.Y.b_min2, ↓AM.Y.b_max1, ↓AM.Y.b_min1, ↓AM.Y.b_lst_tup, ↓AM.Y.b_lst_rol, ↓AM.Y.b_lst_ref, ↓AM.Y.b_all, ↓AM.Y.b_any, ↓AM.Y.k_app, ↓AM.Y.k_bits, ↓AM.Y.k_cnt, ↓AM.Y.m_app, ↓AM.Y.m_bits, ↓AM.Y.n_add, ↓AM.Y.n_sub, AM.wp_ok, AM.wp_no, ↓AM.wp_ret, ↓AM.wp_fail, ↓AM.wp_end, ↓AM.thn_nx, ↓AM.thn_rt, ↓AM.thn_bk, ↓AM.thn_ct, ↓AM.thn_xc, ↓AM.endP_nx, ↓AM.endP_rt, ↓AM.endP_xc, ↓AM.lpP_nx, ↓AM.lpP_ct, ↓AM.lpP_bk, ↓AM.lpP_rt, ↓AM.lpP_xc, ↓AM.Y.ifB_bl, ↓AM.Y.isI_int, ↓AM.Y.isT_tup, ↓AM.Y.isS_some, ↓AM.Y.isSS_some, ↓AM.Y.isO_lst, ↓AM.Y.isO_dct, AM.Y.ifB_bl, AM.Y.isI_int, AM.Y.isT_tup, AM.Y.isS_some, AM.Y.isSS_some, AM.Y.isO_lst, AM.Y.isO_dct, List.getElem?_cons_zero, List.getElem?_cons_succ, List.set_cons_zero, List.set_cons_succ, AM.Y.at0, AM.Y.at1, AM.Y.at2, AM.Y.at3, AM.Y.srcV, AM.Y.enumV, AM.tyOf, AM.tyIs, AM.isiV, AM.Y.isNon_non, AM.Y.isNon_bl, AM.Y.isNon_int, AM.Y.isNon_str, AM.Y.isNon_tup, AM.Y.isNon_rol, AM.Y.isNon_ref, Bool.not_true, Bool.not_false, Bool.true_eq_false, Bool.false_eq_true, ↓reduceIte, decide_true, decide_false, decide_eq_true_eq, Option.map_some, Option.map_none, Option.isSome_some, Option.isSome_none, List.length_cons, List.length_nil, List.isEmpty_cons, List.isEmpty_nil, true_and, and_true, Bool.or_false, Bool.false_or, Bool.or_true, Bool.true_or, Nat.zero_add, Nat.reduceAdd, AM.lim, Nat.reduceLeDiff, List.set, AM.wipeE, AM.Y.xcP, reduceCtorEq, imp_self, implies_true, not_false_eq_true, z]
theorem w_is_life (hr : h[r]? = some (.lst (l.map Ev.v))) (g : Good l) (hl : l.length ≤ 1000) : wp (callD fns 100000 (d + 2) 1 [.ref r] h) (fun v h' => v = .bl true ∧ Fr [] h h') NoX := by
  rw [call_eq (fns := fns) (W := 100000) (d := d + 1) (g := 1) (f := f_is_life) rfl (us := [.ref r]) (vs := [.ref r]) rfl rfl, wp_end]
  show wp (exSs (callD fns 100000 (d + 1)) 100000 [some (.ref r), none, none, none] f_is_life.body h) _ _
  unfold f_is_life
  simp -implicitDefEqProofs only [↓AM.Y.y_var, ↓AM.Y.y_non, ↓AM.Y.y_bl, ↓AM.Y.y_int, ↓AM.Y.y_str, ↓AM.Y.y_ty, ↓AM.Y.y_tup, ↓AM.Y.y_lst, ↓AM.Y.y_dct0, ↓AM.Y.y_bin, ↓AM.Y.y_neg, ↓AM.Y.y_not, ↓AM.Y.y_and, ↓AM.Y.y_or, ↓AM.Y.y_cmp, ↓AM.Y.y_cmp2, ↓AM.Y.y_isN, ↓AM.Y.y_ntN, ↓AM.Y.y_isB, ↓AM.Y.y_ntB, ↓AM.Y.y_ife, ↓AM.Y.y_call, ↓AM.Y.y_bi, ↓AM.Y.y_mt, ↓AM.Y.y_idx, ↓AM.Y.y_slc, ↓AM.Y.y_lc, ↓AM.Y.y_lrng, ↓AM.Y.y_nil, ↓AM.Y.y_cons, ↓AM.Y.y_none, ↓AM.Y.y_some, ↓AM.Y.y_cnone, ↓AM.Y.y_csome, ↓AM.Y.t_not, ↓AM.Y.t_and, ↓AM.Y.t_or, ↓AM.Y.t_var, ↓AM.Y.t_cmp, ↓AM.Y.t_cmp2, ↓AM.Y.t_isN, ↓AM.Y.t_ntN, ↓AM.Y.t_isB, ↓AM.Y.t_ntB, ↓AM.Y.t_call, ↓AM.Y.t_bi, ↓AM.Y.t_idx, ↓AM.Y.i_seq, ↓AM.Y.i_rng1, ↓AM.Y.i_rng2, ↓AM.Y.i_enum, ↓AM.Y.i_zip, ↓AM.Y.g_nm, ↓AM.Y.g_tup, ↓AM.Y.g_sub, ↓AM.Y.g_nil, ↓AM.Y.g_cons, ↓AM.Y.s_nil', ↓AM.Y.s_cons', ↓AM.Y.s_asg, ↓AM.Y.s_asg2', ↓AM.Y.s_asg3', ↓AM.Y.s_par2', ↓AM.Y.s_par3', ↓AM.Y.s_aug', ↓AM.Y.s_expr', ↓AM.Y.s_ret', ↓AM.Y.s_retN', ↓AM.Y.s_iff', ↓AM.Y.s_for', ↓AM.Y.s_whl', ↓AM.Y.s_pass', ↓AM.Y.s_brk', ↓AM.Y.s_cnt', ↓AM.Y.s_never', ↓AM.Y.truth_bl, ↓AM.Y.truth_non, ↓AM.Y.truth_int, ↓AM.Y.truth_tup, ↓AM.Y.truth_rol, ↓AM.Y.truth_ref, ↓AM.Y.o_add, ↓AM.Y.o_sub, ↓AM.Y.o_mul, ↓AM.Y.o_mod, ↓AM.Y.o_fdv, ↓AM.Y.o_pow, ↓AM.Y.o_addL, ↓AM.Y.c_eq, ↓AM.Y.c_ne, ↓AM.Y.c_lt, ↓AM.Y.c_le, ↓AM.Y.c_gt, ↓AM.Y.c_ge, ↓AM.Y.c_inn, ↓AM.Y.c_nin, ↓AM.Y.has_dct, ↓AM.Y.x_tup, ↓AM.Y.x_rol, ↓AM.Y.x_ref, ↓AM.Y.x_set, ↓AM.Y.x_slcR, ↓AM.Y.x_slcL, ↓AM.Y.b_len_tup, ↓AM.Y.b_len_rol, ↓AM.Y.b_len_ref, ↓AM.Y.b_isi, ↓AM.Y.b_isi2, ↓AM.Y.b_int, ↓AM.Y.b_intb, ↓AM.Y.b_sum, ↓AM.Y.b_max2, ↓AM.Y.b_min2, ↓AM.Y.b_max1, ↓AM.Y.b_min1, ↓AM.Y.b_lst_tup, ↓AM.Y.b_lst_rol, ↓AM.Y.b_lst_ref, ↓AM.Y.b_all, ↓AM.Y.b_any, ↓AM.Y.k_app, ↓AM.Y.k_bits, ↓AM.Y.k_cnt, ↓AM.Y.m_app, ↓AM.Y.m_bits, ↓AM.Y.n_add, ↓AM.Y.n_sub, AM.wp_ok, AM.wp_no, ↓AM.wp_ret, ↓AM.wp_fail, ↓AM.wp_end, ↓AM.thn_nx, ↓AM.thn_rt, ↓AM.thn_bk, ↓AM.thn_ct, ↓AM.thn_xc, ↓AM.endP_nx, ↓AM.endP_rt, ↓AM.endP_xc, ↓AM.lpP_nx, ↓AM.lpP_ct, ↓AM.lpP_bk, ↓AM.lpP_rt, ↓AM.lpP_xc, ↓AM.Y.ifB_bl, ↓AM.Y.isI_int, ↓AM.Y.isT_tup, ↓AM.Y.isS_some, ↓AM.Y.isSS_some, ↓AM.Y.isO_lst, ↓AM.Y.isO_dct, AM.Y.ifB_bl, AM.Y.isI_int, AM.Y.isT_tup, AM.Y.isS_some, AM.Y.isSS_some, AM.Y.isO_lst, AM.Y.isO_dct, List.getElem?_cons_zero, List.getElem?_cons_succ, List.set_cons_zero, List.set_cons_succ, AM.Y.at0, AM.Y.at1, AM.Y.at2, AM.Y.at3, AM.Y.srcV, AM.Y.enumV, AM.tyOf, AM.tyIs, AM.isiV, AM.Y.isNon_non, AM.Y.isNon_bl, AM.Y.isNon_int, AM.Y.isNon_str, AM.Y.isNon_tup, AM.Y.isNon_rol, AM.Y.isNon_ref, Bool.not_true, Bool.not_false, Bool.true_eq_false, Bool.false_eq_true, ↓reduceIte, decide_true, decide_false, decide_eq_true_eq, Option.map_some, Option.map_none, Option.isSome_some, Option.isSome_none, List.length_cons, List.length_nil, List.isEmpty_cons, List.isEmpty_nil, true_and, and_true, Bool.or_false, Bool.false_or, Bool.or_true, Bool.true_or, Nat.zero_add, Nat.reduceAdd, AM.lim, Nat.reduceLeDiff, List.set, AM.wipeE, AM.Y.xcP, reduceCtorEq, imp_self, implies_true, not_false_eq_true, hr]
  refine for_cell (xs := l.map Ev.v) (fun k σ h1 => Fr [] h h1 ∧ ∃ (t : Option Vl), σ = [some (.ref r), some (.int (tally (l.take k)).1), some (.int (tally (l.take k)).2.1), t]) (fun k σ h1 I => I.1.get hr) (fun k x σ h1 hk I => ?_) (fun σ h1 I => ?_) ⟨Fr.refl, none, rfl⟩
  · obtain ⟨f, t, rfl⟩ := I
    obtain ⟨e, e1, rfl, e3⟩ := map_at hk
    rw [e3, tally_snoc]
    have o := g k e e1
    cases e with
    | line =>
      dsimp only [Ev.v]
      simp -implicitDefEqProofs only [↓AM.Y.y_var, ↓AM.Y.y_non, ↓AM.Y.y_bl, ↓AM.Y.y_int, ↓AM.Y.y_str, ↓AM.Y.y_ty, ↓AM.Y.y_tup, ↓AM.Y.y_lst, ↓AM.Y.y_dct0, ↓AM.Y.y_bin, ↓AM.Y.y_neg, ↓AM.Y.y_not, ↓AM.Y.y_and, ↓AM.Y.y_or, ↓AM.Y.y_cmp, ↓AM.Y.y_cmp2, ↓AM.Y.y_isN, ↓AM.Y.y_ntN, ↓AM.Y.y_isB, ↓AM.Y.y_ntB, ↓AM.Y.y_ife, ↓AM.Y.y_call, ↓AM.Y.y_bi, ↓AM.Y.y_mt, ↓AM.Y.y_idx, ↓AM.Y.y_slc, ↓AM.Y.y_lc, ↓AM.Y.y_lrng, ↓AM.Y.y_nil, ↓AM.Y.y_cons, ↓AM.Y.y_none, ↓AM.Y.y_some, ↓AM.Y.y_cnone, ↓AM.Y.y_csome, ↓AM.Y.t_not, ↓AM.Y.t_and, ↓AM.Y.t_or, ↓AM.Y.t_var, ↓AM.Y.t_cmp, ↓AM.Y.t_cmp2, ↓AM.Y.t_isN, ↓AM.Y.t_ntN, ↓AM.Y.t_isB, ↓AM.Y.t_ntB, ↓AM.Y.t_call, ↓AM.Y.t_bi, ↓AM.Y.t_idx, ↓AM.Y.i_seq, ↓AM.Y.i_rng1, ↓AM.Y.i_rng2, ↓AM.Y.i_enum, ↓AM.Y.i_zip, ↓AM.Y.g_nm, ↓AM.Y.g_tup, ↓AM.Y.g_sub, ↓AM.Y.g_nil, ↓AM.Y.g_cons, ↓AM.Y.s_nil', ↓AM.Y.s_cons', ↓AM.Y.s_asg, ↓AM.Y.s_asg2', ↓AM.Y.s_asg3', ↓AM.Y.s_par2', ↓AM.Y.s_par3', ↓AM.Y.s_aug', ↓AM.Y.s_expr', ↓AM.Y.s_ret', ↓AM.Y.s_retN', ↓AM.Y.s_iff', ↓AM.Y.s_for', ↓AM.Y.s_whl', ↓AM.Y.s_pass', ↓AM.Y.s_brk', ↓AM.Y.s_cnt', ↓AM.Y.s_never', ↓AM.Y.truth_bl, ↓AM.Y.truth_non, ↓AM.Y.truth_int, ↓AM.Y.truth_tup, ↓AM.Y.truth_rol, ↓AM.Y.truth_ref, ↓AM.Y.o_add, ↓AM.Y.o_sub, ↓AM.Y.o_mul, ↓AM.Y.o_mod, ↓AM.Y.o_fdv, ↓AM.Y.o_pow, ↓AM.Y.o_addL, ↓AM.Y.c_eq, ↓AM.Y.c_ne, ↓AM.Y.c_lt, ↓AM.Y.c_le, ↓AM.Y.c_gt, ↓AM.Y.c_ge, ↓AM.Y.c_inn, ↓AM.Y.c_nin, ↓AM.Y.has_dct, ↓AM.Y.x_tup, ↓AM.Y.x_rol, ↓AM.Y.x_ref, ↓AM.Y.x_set, ↓AM.Y.x_slcR, ↓AM.Y.x_slcL, ↓AM.Y.b_len_tup, ↓AM.Y.b_len_rol, ↓AM.Y.b_len_ref, ↓AM.Y.b_isi, ↓AM.Y.b_isi2, ↓AM.Y.b_int, ↓AM.Y.b_intb, ↓AM.Y.b_sum, ↓AM.Y.b_max2, ↓AM.Y.b_min2, ↓AM.Y.b_max1, ↓AM.Y.b_min1, ↓AM.Y.b_lst_tup, ↓AM.Y.b_lst_rol, ↓AM.Y.b_lst_ref, ↓AM.Y.b_all, ↓AM.Y.b_any, ↓AM.Y.k_app, ↓AM.Y.k_bits, ↓AM.Y.k_cnt, ↓AM.Y.m_app, ↓AM.Y.m_bits, ↓AM.Y.n_add, ↓AM.Y.n_sub, AM.wp_ok, AM.wp_no, ↓AM.wp_ret, ↓AM.wp_fail, ↓AM.wp_end, ↓AM.thn_nx, ↓AM.thn_rt, ↓AM.thn_bk, ↓AM.thn_ct, ↓AM.thn_xc, ↓AM.endP_nx, ↓AM.endP_rt, ↓AM.endP_xc, ↓AM.lpP_nx, ↓AM.lpP_ct, ↓AM.lpP_bk, ↓AM.lpP_rt, ↓AM.lpP_xc, ↓AM.Y.ifB_bl, ↓AM.Y.isI_int, ↓AM.Y.isT_tup, ↓AM.Y.isS_some, ↓AM.Y.isSS_some, ↓AM.Y.isO_lst, ↓AM.Y.isO_dct, AM.Y.ifB_bl, AM.Y.isI_int, AM.Y.isT_tup, AM.Y.isS_some, AM.Y.isSS_some, AM.Y.isO_lst, AM.Y.isO_dct, List.getElem?_cons_zero, List.getElem?_cons_succ, List.set_cons_zero, List.set_cons_succ, AM.Y.at0, AM.Y.at1, AM.Y.at2, AM.Y.at3, AM.Y.srcV, AM.Y.enumV, AM.tyOf, AM.tyIs, AM.isiV, AM.Y.isNon_non, AM.Y.isNon_bl, AM.Y.isNon_int, AM.Y.isNon_str, AM.Y.isNon_tup, AM.Y.isNon_rol, AM.Y.isNon_ref, Bool.not_true, Bool.not_false, Bool.true_eq_false, Bool.false_eq_true, ↓reduceIte, decide_true, decide_false, decide_eq_true_eq, Option.map_some, Option.map_none, Option.isSome_some, Option.isSome_none, List.length_cons, List.length_nil, List.isEmpty_cons, List.isEmpty_nil, true_and, and_true, Bool.or_false, Bool.false_or, Bool.or_true, Bool.true_or, Nat.zero_add, Nat.reduceAdd, AM.lim, Nat.reduceLeDiff, List.set, AM.wipeE, AM.Y.xcP, reduceCtorEq, imp_self, implies_true, not_false_eq_true, eqD_str kL kS, qLS, e10 kL, e11 kL kL, beq_self_eq_true]
      exact ⟨f, _, rfl⟩
    | stand n =>
      dsimp only [Ev.v]
      obtain ⟨o1, o2⟩ := o
      have z1 : ¬ ((n : Int) < ((tally (List.take k l)).2.1 : Int)) := by omega
      have z2 : ¬ (((tally (List.take k l)).1 : Int) < (n : Int)) := by omega
      have z3 : (((2 : Nat) : Int) == 2) = true := rfl
      simp -implicitDefEqProofs only [↓AM.Y.y_var, ↓AM.Y.y_non, ↓AM.Y.y_bl, ↓AM.Y.y_int, ↓AM.Y.y_str, ↓AM.Y.y_ty, ↓AM.Y.y_tup, ↓AM.Y.y_lst, ↓AM.Y.y_dct0, ↓AM.Y.y_bin, ↓AM.Y.y_neg, ↓AM.Y.y_not, ↓AM.Y.y_and, ↓AM.Y.y_or, ↓AM.Y.y_cmp, ↓AM.Y.y_cmp2, ↓AM.Y.y_isN, ↓AM.Y.y_ntN, ↓AM.Y.y_isB, ↓AM.Y.y_ntB, ↓AM.Y.y_ife, ↓AM.Y.y_call, ↓AM.Y.y_bi, ↓AM.Y.y_mt, ↓AM.Y.y_idx, ↓AM.Y.y_slc, ↓AM.Y.y_lc, ↓AM.Y.y_lrng, ↓AM.Y.y_nil, ↓AM.Y.y_cons, ↓AM.Y.y_none, ↓AM.Y.y_some, ↓AM.Y.y_cnone, ↓AM.Y.y_csome, ↓AM.Y.t_not, ↓AM.Y.t_and, ↓AM.Y.t_or, ↓AM.Y.t_var, ↓AM.Y.t_cmp, ↓AM.Y.t_cmp2, ↓AM.Y.t_isN, ↓AM.Y.t_ntN, ↓AM.Y.t_isB, ↓AM.Y.t_ntB, ↓AM.Y.t_call, ↓AM.Y.t_bi, ↓AM.Y.t_idx, ↓AM.Y.i_seq, ↓AM.Y.i_rng1, ↓AM.Y.i_rng2, ↓AM.Y.i_enum, ↓AM.Y.i_zip, ↓AM.Y.g_nm, ↓AM.Y.g_tup, ↓AM.Y.g_sub, ↓AM.Y.g_nil, ↓AM.Y.g_cons, ↓AM.Y.s_nil', ↓AM.Y.s_cons', ↓AM.Y.s_asg, ↓AM.Y.s_asg2', ↓AM.Y.s_asg3', ↓AM.Y.s_par2', ↓AM.Y.s_par3', ↓AM.Y.s_aug', ↓AM.Y.s_expr', ↓AM.Y.s_ret', ↓AM.Y.s_retN', ↓AM.Y.s_iff', ↓AM.Y.s_for', ↓AM.Y.s_whl', ↓AM.Y.s_pass', ↓AM.Y.s_brk', ↓AM.Y.s_cnt', ↓AM.Y.s_never', ↓AM.Y.truth_bl, ↓AM.Y.truth_non, ↓AM.Y.truth_int, ↓AM.Y.truth_tup, ↓AM.Y.truth_rol, ↓AM.Y.truth_ref, ↓AM.Y.o_add, ↓AM.Y.o_sub, ↓AM.Y.o_mul, ↓AM.Y.o_mod, ↓AM.Y.o_fdv, ↓AM.Y.o_pow, ↓AM.Y.o_addL, ↓AM.Y.c_eq, ↓AM.Y.c_ne, ↓AM.Y.c_lt, ↓AM.Y.c_le, ↓AM.Y.c_gt, ↓AM.Y.c_ge, ↓AM.Y.c_inn, ↓AM.Y.c_nin, ↓AM.Y.has_dct, ↓AM.Y.x_tup, ↓AM.Y.x_rol, ↓AM.Y.x_ref, ↓AM.Y.x_set, ↓AM.Y.x_slcR, ↓AM.Y.x_slcL, ↓AM.Y.b_len_tup, ↓AM.Y.b_len_rol, ↓AM.Y.b_len_ref, ↓AM.Y.b_isi, ↓AM.Y.b_isi2, ↓AM.Y.b_int, ↓AM.Y.b_intb, ↓AM.Y.b_sum, ↓AM.Y.b_max2, ↓AM.Y.b_min2, ↓AM.Y.b_max1, ↓AM.Y.b_min1, ↓AM.Y.b_lst_tup, ↓AM.Y.b_lst_rol, ↓AM.Y.b_lst_ref, ↓AM.Y.b_all, ↓AM.Y.b_any, ↓AM.Y.k_app, ↓AM.Y.k_bits, ↓AM.Y.k_cnt, ↓AM.Y.m_app, ↓AM.Y.m_bits, ↓AM.Y.n_add, ↓AM.Y.n_sub, AM.wp_ok, AM.wp_no, ↓AM.wp_ret, ↓AM.wp_fail, ↓AM.wp_end, ↓AM.thn_nx, ↓AM.thn_rt, ↓AM.thn_bk, ↓AM.thn_ct, ↓AM.thn_xc, ↓AM.endP_nx, ↓AM.endP_rt, ↓AM.endP_xc, ↓AM.lpP_nx, ↓AM.lpP_ct, ↓AM.lpP_bk, ↓AM.lpP_rt, ↓AM.lpP_xc, ↓AM.Y.ifB_bl, ↓AM.Y.isI_int, ↓AM.Y.isT_tup, ↓AM.Y.isS_some, ↓AM.Y.isSS_some, ↓AM.Y.isO_lst, ↓AM.Y.isO_dct, AM.Y.ifB_bl, AM.Y.isI_int, AM.Y.isT_tup, AM.Y.isS_some, AM.Y.isSS_some, AM.Y.isO_lst, AM.Y.isO_dct, List.getElem?_cons_zero, List.getElem?_cons_succ, List.set_cons_zero, List.set_cons_succ, AM.Y.at0, AM.Y.at1, AM.Y.at2, AM.Y.at3, AM.Y.srcV, AM.Y.enumV, AM.tyOf, AM.tyIs, AM.isiV, AM.Y.isNon_non, AM.Y.isNon_bl, AM.Y.isNon_int, AM.Y.isNon_str, AM.Y.isNon_tup, AM.Y.isNon_rol, AM.Y.isNon_ref, Bool.not_true, Bool.not_false, Bool.true_eq_false, Bool.false_eq_true, ↓reduceIte, decide_true, decide_false, decide_eq_true_eq, Option.map_some, Option.map_none, Option.isSome_some, Option.isSome_none, List.length_cons, List.length_nil, List.isEmpty_cons, List.isEmpty_nil, true_and, and_true, Bool.or_false, Bool.false_or, Bool.or_true, Bool.true_or, Nat.zero_add, Nat.reduceAdd, AM.lim, Nat.reduceLeDiff, List.set, AM.wipeE, AM.Y.xcP, reduceCtorEq, imp_self, implies_true, not_false_eq_true, eqD_str kS kS, e20 kS, beq_self_eq_true, eqD_int, z3]
      refine wp_q (w_count (d := d) (n := n)) fun v h2 q => ?_
      obtain ⟨rfl, rfl⟩ := q
      simp -implicitDefEqProofs only [↓AM.Y.y_var, ↓AM.Y.y_non, ↓AM.Y.y_bl, ↓AM.Y.y_int, ↓AM.Y.y_str, ↓AM.Y.y_ty, ↓AM.Y.y_tup, ↓AM.Y.y_lst, ↓AM.Y.y_dct0, ↓AM.Y.y_bin, ↓AM.Y.y_neg, ↓AM.Y.y_not, ↓AM.Y.y_and, ↓AM.Y.y_or, ↓AM.Y.y_cmp, ↓AM.Y.y_cmp2, ↓AM.Y.y_isN, ↓AM.Y.y_ntN, ↓AM.Y.y_isB, ↓AM.Y.y_ntB, ↓AM.Y.y_ife, ↓AM.Y.y_call, ↓AM.Y.y_bi, ↓AM.Y.y_mt, ↓AM.Y.y_idx, ↓AM.Y.y_slc, ↓AM.Y.y_lc, ↓AM.Y.y_lrng, ↓AM.Y.y_nil, ↓AM.Y.y_cons, ↓AM.Y.y_none, ↓AM.Y.y_some, ↓AM.Y.y_cnone, ↓AM.Y.y_csome, ↓AM.Y.t_not, ↓AM.Y.t_and, ↓AM.Y.t_or, ↓AM.Y.t_var, ↓AM.Y.t_cmp, ↓AM.Y.t_cmp2, ↓AM.Y.t_isN, ↓AM.Y.t_ntN, ↓AM.Y.t_isB, ↓AM.Y.t_ntB, ↓AM.Y.t_call, ↓AM.Y.t_bi, ↓AM.Y.t_idx, ↓AM.Y.i_seq, ↓AM.Y.i_rng1, ↓AM.Y.i_rng2, ↓AM.Y.i_enum, ↓AM.Y.i_zip, ↓AM.Y.g_nm, ↓AM.Y.g_tup, ↓AM.Y.g_sub, ↓AM.Y.g_nil, ↓AM.Y.g_cons, ↓AM.Y.s_nil', ↓AM.Y.s_cons', ↓AM.Y.s_asg, ↓AM.Y.s_asg2', ↓AM.Y.s_asg3', ↓AM.Y.s_par2', ↓AM.Y.s_par3', ↓AM.Y.s_aug', ↓AM.Y.s_expr', ↓AM.Y.s_ret', ↓AM.Y.s_retN', ↓AM.Y.s_iff', ↓AM.Y.s_for', ↓AM.Y.s_whl', ↓AM.Y.s_pass', ↓AM.Y.s_brk', ↓AM.Y.s_cnt', ↓AM.Y.s_never', ↓AM.Y.truth_bl, ↓AM.Y.truth_non, ↓AM.Y.truth_int, ↓AM.Y.truth_tup, ↓AM.Y.truth_rol, ↓AM.Y.truth_ref, ↓AM.Y.o_add, ↓AM.Y.o_sub, ↓AM.Y.o_mul, ↓AM.Y.o_mod, ↓AM.Y.o_fdv, ↓AM.Y.o_pow, ↓AM.Y.o_addL, ↓AM.Y.c_eq, ↓AM.Y.c_ne, ↓AM.Y.c_lt, ↓AM.Y.c_le, ↓AM.Y.c_gt, ↓AM.Y.c_ge, ↓AM.Y.c_inn, ↓AM.Y.c_nin, ↓AM.Y.has_dct, ↓AM.Y.x_tup, ↓AM.Y.x_rol, ↓AM.Y.x_ref, ↓AM.Y.x_set, ↓AM.Y.x_slcR, ↓AM.Y.x_slcL, ↓AM.Y.b_len_tup, ↓AM.Y.b_len_rol, ↓AM.Y.b_len_ref, ↓AM.Y.b_isi, ↓AM.Y.b_isi2, ↓AM.Y.b_int, ↓AM.Y.b_intb, ↓AM.Y.b_sum, ↓AM.Y.b_max2, ↓AM.Y.b_min2, ↓AM.Y.b_max1, ↓AM.Y.b_min1, ↓AM.Y.b_lst_tup, ↓AM.Y.b_lst_rol, ↓AM.Y.b_lst_ref, ↓AM.Y.b_all, ↓AM.Y.b_any, ↓AM.Y.k_app, ↓AM.Y.k_bits, ↓AM.Y.k_cnt, ↓AM.Y.m_app, ↓AM.Y.m_bits, ↓AM.Y.n_add, ↓AM.Y.n_sub, AM.wp_ok, AM.wp_no, ↓AM.wp_ret, ↓AM.wp_fail, ↓AM.wp_end, ↓AM.thn_nx, ↓AM.thn_rt, ↓AM.thn_bk, ↓AM.thn_ct, ↓AM.thn_xc, ↓AM.endP_nx, ↓AM.endP_rt, ↓AM.endP_xc, ↓AM.lpP_nx, ↓AM.lpP_ct, ↓AM.lpP_bk, ↓AM.lpP_rt, ↓AM.lpP_xc, ↓AM.Y.ifB_bl, ↓AM.Y.isI_int, ↓AM.Y.isT_tup, ↓AM.Y.isS_some, ↓AM.Y.isSS_some, ↓AM.Y.isO_lst, ↓AM.Y.isO_dct, AM.Y.ifB_bl, AM.Y.isI_int, AM.Y.isT_tup, AM.Y.isS_some, AM.Y.isSS_some, AM.Y.isO_lst, AM.Y.isO_dct, List.getElem?_cons_zero, List.getElem?_cons_succ, List.set_cons_zero, List.set_cons_succ, AM.Y.at0, AM.Y.at1, AM.Y.at2, AM.Y.at3, AM.Y.srcV, AM.Y.enumV, AM.tyOf, AM.tyIs, AM.isiV, AM.Y.isNon_non, AM.Y.isNon_bl, AM.Y.isNon_int, AM.Y.isNon_str, AM.Y.isNon_tup, AM.Y.isNon_rol, AM.Y.isNon_ref, Bool.not_true, Bool.not_false, Bool.true_eq_false, Bool.false_eq_true, ↓reduceIte, decide_true, decide_false, decide_eq_true_eq, Option.map_some, Option.map_none, Option.isSome_some, Option.isSome_none, List.length_cons, List.length_nil, List.isEmpty_cons, List.isEmpty_nil, true_and, and_true, Bool.or_false, Bool.false_or, Bool.or_true, Bool.true_or, Nat.zero_add, Nat.reduceAdd, AM.lim, Nat.reduceLeDiff, List.set, AM.wipeE, AM.Y.xcP, reduceCtorEq, imp_self, implies_true, not_false_eq_true, z1, z2]
      exact ⟨f, _, rfl⟩
    | root =>
      dsimp only [Ev.v]
      simp -implicitDefEqProofs only [↓AM.Y.y_var, ↓AM.Y.y_non, ↓AM.Y.y_bl, ↓AM.Y.y_int, ↓AM.Y.y_str, ↓AM.Y.y_ty, ↓AM.Y.y_tup, ↓AM.Y.y_lst, ↓AM.Y.y_dct0, ↓AM.Y.y_bin, ↓AM.Y.y_neg, ↓AM.Y.y_not, ↓AM.Y.y_and, ↓AM.Y.y_or, ↓AM.Y.y_cmp, ↓AM.Y.y_cmp2, ↓AM.Y.y_isN, ↓AM.Y.y_ntN, ↓AM.Y.y_isB, ↓AM.Y.y_ntB, ↓AM.Y.y_ife, ↓AM.Y.y_call, ↓AM.Y.y_bi, ↓AM.Y.y_mt, ↓AM.Y.y_idx, ↓AM.Y.y_slc, ↓AM.Y.y_lc, ↓AM.Y.y_lrng, ↓AM.Y.y_nil, ↓AM.Y.y_cons, ↓AM.Y.y_none, ↓AM.Y.y_some, ↓AM.Y.y_cnone, ↓AM.Y.y_csome, ↓AM.Y.t_not, ↓AM.Y.t_and, ↓AM.Y.t_or, ↓AM.Y.t_var, ↓AM.Y.t_cmp, ↓AM.Y.t_cmp2, ↓AM.Y.t_isN, ↓AM.Y.t_ntN, ↓AM.Y.t_isB, ↓AM.Y.t_ntB, ↓AM.Y.t_call, ↓AM.Y.t_bi, ↓AM.Y.t_idx, ↓AM.Y.i_seq, ↓AM.Y.i_rng1, ↓AM.Y.i_rng2, ↓AM.Y.i_enum, ↓AM.Y.i_zip, ↓AM.Y.g_nm, ↓AM.Y.g_tup, ↓AM.Y.g_sub, ↓AM.Y.g_nil, ↓AM.Y.g_cons, ↓AM.Y.s_nil', ↓AM.Y.s_cons', ↓AM.Y.s_asg, ↓AM.Y.s_asg2', ↓AM.Y.s_asg3', ↓AM.Y.s_par2', ↓AM.Y.s_par3', ↓AM.Y.s_aug', ↓AM.Y.s_expr', ↓AM.Y.s_ret', ↓AM.Y.s_retN', ↓AM.Y.s_iff', ↓AM.Y.s_for', ↓AM.Y.s_whl', ↓AM.Y.s_pass', ↓AM.Y.s_brk', ↓AM.Y.s_cnt', ↓AM.Y.s_never', ↓AM.Y.truth_bl, ↓AM.Y.truth_non, ↓AM.Y.truth_int, ↓AM.Y.truth_tup, ↓AM.Y.truth_rol, ↓AM.Y.truth_ref, ↓AM.Y.o_add, ↓AM.Y.o_sub, ↓AM.Y.o_mul, ↓AM.Y.o_mod, ↓AM.Y.o_fdv, ↓AM.Y.o_pow, ↓AM.Y.o_addL, ↓AM.Y.c_eq, ↓AM.Y.c_ne, ↓AM.Y.c_lt, ↓AM.Y.c_le, ↓AM.Y.c_gt, ↓AM.Y.c_ge, ↓AM.Y.c_inn, ↓AM.Y.c_nin, ↓AM.Y.has_dct, ↓AM.Y.x_tup, ↓AM.Y.x_rol, ↓AM.Y.x_ref, ↓AM.Y.x_set, ↓AM.Y.x_slcR, ↓AM.Y.x_slcL, ↓AM.Y.b_len_tup, ↓AM.Y.b_len_rol, ↓AM.Y.b_len_ref, ↓AM.Y.b_isi, ↓AM.Y.b_isi2, ↓AM.Y.b_int, ↓AM.Y.b_intb, ↓AM.Y.b_sum, ↓AM.Y.b_max2, ↓AM.Y.b_min2, ↓AM.Y.b_max1, ↓AM.Y.b_min1, ↓AM.Y.b_lst_tup, ↓AM.Y.b_lst_rol, ↓AM.Y.b_lst_ref, ↓AM.Y.b_all, ↓AM.Y.b_any, ↓AM.Y.k_app, ↓AM.Y.k_bits, ↓AM.Y.k_cnt, ↓AM.Y.m_app, ↓AM.Y.m_bits, ↓AM.Y.n_add, ↓AM.Y.n_sub, AM.wp_ok, AM.wp_no, ↓AM.wp_ret, ↓AM.wp_fail, ↓AM.wp_end, ↓AM.thn_nx, ↓AM.thn_rt, ↓AM.thn_bk, ↓AM.thn_ct, ↓AM.thn_xc, ↓AM.endP_nx, ↓AM.endP_rt, ↓AM.endP_xc, ↓AM.lpP_nx, ↓AM.lpP_ct, ↓AM.lpP_bk, ↓AM.lpP_rt, ↓AM.lpP_xc, ↓AM.Y.ifB_bl, ↓AM.Y.isI_int, ↓AM.Y.isT_tup, ↓AM.Y.isS_some, ↓AM.Y.isSS_some, ↓AM.Y.isO_lst, ↓AM.Y.isO_dct, AM.Y.ifB_bl, AM.Y.isI_int, AM.Y.isT_tup, AM.Y.isS_some, AM.Y.isSS_some, AM.Y.isO_lst, AM.Y.isO_dct, List.getElem?_cons_zero, List.getElem?_cons_succ, List.set_cons_zero, List.set_cons_succ, AM.Y.at0, AM.Y.at1, AM.Y.at2, AM.Y.at3, AM.Y.srcV, AM.Y.enumV, AM.tyOf, AM.tyIs, AM.isiV, AM.Y.isNon_non, AM.Y.isNon_bl, AM.Y.isNon_int, AM.Y.isNon_str, AM.Y.isNon_tup, AM.Y.isNon_rol, AM.Y.isNon_ref, Bool.not_true, Bool.not_false, Bool.true_eq_false, Bool.false_eq_true, ↓reduceIte, decide_true, decide_false, decide_eq_true_eq, Option.map_some, Option.map_none, Option.isSome_some, Option.isSome_none, List.length_cons, List.length_nil, List.isEmpty_cons, List.isEmpty_nil, true_and, and_true, Bool.or_false, Bool.false_or, Bool.or_true, Bool.true_or, Nat.zero_add, Nat.reduceAdd, AM.lim, Nat.reduceLeDiff, List.set, AM.wipeE, AM.Y.xcP, reduceCtorEq, imp_self, implies_true, not_false_eq_true, eqD_str kR kS, qRS, e10 kR, e11 kR kL, qRL, e11 kR kR, beq_self_eq_true]
      exact ⟨f, _, rfl⟩
  · obtain ⟨f, t, rfl⟩ := I
    simp -implicitDefEqProofs only [↓AM.Y.y_var, ↓AM.Y.y_non, ↓AM.Y.y_bl, ↓AM.Y.y_int, ↓AM.Y.y_str, ↓AM.Y.y_ty, ↓AM.Y.y_tup, ↓AM.Y.y_lst, ↓AM.Y.y_dct0, ↓AM.Y.y_bin, ↓AM.Y.y_neg, ↓AM.Y.y_not, ↓AM.Y.y_and, ↓AM.Y.y_or, ↓AM.Y.y_cmp, ↓AM.Y.y_cmp2, ↓AM.Y.y_isN, ↓AM.Y.y_ntN, ↓AM.Y.y_isB, ↓AM.Y.y_ntB, ↓AM.Y.y_ife, ↓AM.Y.y_call, ↓AM.Y.y_bi, ↓AM.Y.y_mt, ↓AM.Y.y_idx, ↓AM.Y.y_slc, ↓AM.Y.y_lc, ↓AM.Y.y_lrng, ↓AM.Y.y_nil, ↓AM.Y.y_cons, ↓AM.Y.y_none, ↓AM.Y.y_some, ↓AM.Y.y_cnone, ↓AM.Y.y_csome, ↓AM.Y.t_not, ↓AM.Y.t_and, ↓AM.Y.t_or, ↓AM.Y.t_var, ↓AM.Y.t_cmp, ↓AM.Y.t_cmp2, ↓AM.Y.t_isN, ↓AM.Y.t_ntN, ↓AM.Y.t_isB, ↓AM.Y.t_ntB, ↓AM.Y.t_call, ↓AM.Y.t_bi, ↓AM.Y.t_idx, ↓AM.Y.i_seq, ↓AM.Y.i_rng1, ↓AM.Y.i_rng2, ↓AM.Y.i_enum, ↓AM.Y.i_zip, ↓AM.Y.g_nm, ↓AM.Y.g_tup, ↓AM.Y.g_sub, ↓AM.Y.g_nil, ↓AM.Y.g_cons, ↓AM.Y.s_nil', ↓AM.Y.s_cons', ↓AM.Y.s_asg, ↓AM.Y.s_asg2', ↓AM.Y.s_asg3', ↓AM.Y.s_par2', ↓AM.Y.s_par3', ↓AM.Y.s_aug', ↓AM.Y.s_expr', ↓AM.Y.s_ret', ↓AM.Y.s_retN', ↓AM.Y.s_iff', ↓AM.Y.s_for', ↓AM.Y.s_whl', ↓AM.Y.s_pass', ↓AM.Y.s_brk', ↓AM.Y.s_cnt', ↓AM.Y.s_never', ↓AM.Y.truth_bl, ↓AM.Y.truth_non, ↓AM.Y.truth_int, ↓AM.Y.truth_tup, ↓AM.Y.truth_rol, ↓AM.Y.truth_ref, ↓AM.Y.o_add, ↓AM.Y.o_sub, ↓AM.Y.o_mul, ↓AM.Y.o_mod, ↓AM.Y.o_fdv, ↓AM.Y.o_pow, ↓AM.Y.o_addL, ↓AM.Y.c_eq, ↓AM.Y.c_ne, ↓AM.Y.c_lt, ↓AM.Y.c_le, ↓AM.Y.c_gt, ↓AM.Y.c_ge, ↓AM.Y.c_inn, ↓AM.Y.c_nin, ↓AM.Y.has_dct, ↓AM.Y.x_tup, ↓AM.Y.x_rol, ↓AM.Y.x_ref, ↓AM.Y.x_set, ↓AM.Y.x_slcR, ↓AM.Y.x_slcL, ↓AM.Y.b_len_tup, ↓AM.Y.b_len_rol, ↓AM.Y.b_len_ref, ↓AM.Y.b_isi, ↓AM.Y.b_isi2, ↓AM.Y.b_int, ↓AM.Y.b_intb, ↓AM.Y.b_sum, ↓AM.Y.b_max2, ↓AM.Y.b_min2, ↓AM.Y.b_max1, ↓AM.Y.b_min1, ↓AM.Y.b_lst_tup, ↓AM.Y.b_lst_rol, ↓AM.Y.b_lst_ref, ↓AM.Y.b_all, ↓AM.Y.b_any, ↓AM.Y.k_app, ↓AM.Y.k_bits, ↓AM.Y.k_cnt, ↓AM.Y.m_app, ↓AM.Y.m_bits, ↓AM.Y.n_add, ↓AM.Y.n_sub, AM.wp_ok, AM.wp_no, ↓AM.wp_ret, ↓AM.wp_fail, ↓AM.wp_end, ↓AM.thn_nx, ↓AM.thn_rt, ↓AM.thn_bk, ↓AM.thn_ct, ↓AM.thn_xc, ↓AM.endP_nx, ↓AM.endP_rt, ↓AM.endP_xc, ↓AM.lpP_nx, ↓AM.lpP_ct, ↓AM.lpP_bk, ↓AM.lpP_rt, ↓AM.lpP_xc, ↓AM.Y.ifB_bl, ↓AM.Y.isI_int, ↓AM.Y.isT_tup, ↓AM.Y.isS_some, ↓AM.Y.isSS_some, ↓AM.Y.isO_lst, ↓AM.Y.isO_dct, AM.Y.ifB_bl, AM.Y.isI_int, AM.Y.isT_tup, AM.Y.isS_some, AM.Y.isSS_some, AM.Y.isO_lst, AM.Y.isO_dct, List.getElem?_cons_zero, List.getElem?_cons_succ, List.set_cons_zero, List.set_cons_succ, AM.Y.at0, AM.Y.at1, AM.Y.at2, AM.Y.at3, AM.Y.srcV, AM.Y.enumV, AM.tyOf, AM.tyIs, AM.isiV, AM.Y.isNon_non, AM.Y.isNon_bl, AM.Y.isNon_int, AM.Y.isNon_str, AM.Y.isNon_tup, AM.Y.isNon_rol, AM.Y.isNon_ref, Bool.not_true, Bool.not_false, Bool.true_eq_false, Bool.false_eq_true, ↓reduceIte, decide_true, decide_false, decide_eq_true_eq, Option.map_some, Option.map_none, Option.isSome_some, Option.isSome_none, List.length_cons, List.length_nil, List.isEmpty_cons, List.isEmpty_nil, true_and, and_true, Bool.or_false, Bool.false_or, Bool.or_true, Bool.true_or, Nat.zero_add, Nat.reduceAdd, AM.lim, Nat.reduceLeDiff, List.set, AM.wipeE, AM.Y.xcP, reduceCtorEq, imp_self, implies_true, not_false_eq_true]
    exact f
theorem w_check_life (hr : h[r]? = some (.lst (l.map Ev.v))) (g : Good l) (hl : l.length ≤ 1000) : wp (callD fns 100000 (d + 3) 2 [.ref r] h) (fun v h' => Fr [] h h') NoX := by
  rw [call_eq (fns := fns) (W := 100000) (d := d + 2) (g := 2) (f := f_check_life) rfl (us := [.ref r]) (vs := [.ref r]) rfl rfl, wp_end]
  show wp (exSs (callD fns 100000 (d + 2)) 100000 [some (.ref r)] f_check_life.body h) _ _
  unfold f_check_life
  simp -implicitDefEqProofs only [↓AM.Y.y_var, ↓AM.Y.y_non, ↓AM.Y.y_bl, ↓AM.Y.y_int, ↓AM.Y.y_str, ↓AM.Y.y_ty, ↓AM.Y.y_tup, ↓AM.Y.y_lst, ↓AM.Y.y_dct0, ↓AM.Y.y_bin, ↓AM.Y.y_neg, ↓AM.Y.y_not, ↓AM.Y.y_and, ↓AM.Y.y_or, ↓AM.Y.y_cmp, ↓AM.Y.y_cmp2, ↓AM.Y.y_isN, ↓AM.Y.y_ntN, ↓AM.Y.y_isB, ↓AM.Y.y_ntB, ↓AM.Y.y_ife, ↓AM.Y.y_call, ↓AM.Y.y_bi, ↓AM.Y.y_mt, ↓AM.Y.y_idx, ↓AM.Y.y_slc, ↓AM.Y.y_lc, ↓AM.Y.y_lrng, ↓AM.Y.y_nil, ↓AM.Y.y_cons, ↓AM.Y.y_none, ↓AM.Y.y_some, ↓AM.Y.y_cnone, ↓AM.Y.y_csome, ↓AM.Y.t_not, ↓AM.Y.t_and, ↓AM.Y.t_or, ↓AM.Y.t_var, ↓AM.Y.t_cmp, ↓AM.Y.t_cmp2, ↓AM.Y.t_isN, ↓AM.Y.t_ntN, ↓AM.Y.t_isB, ↓AM.Y.t_ntB, ↓AM.Y.t_call, ↓AM.Y.t_bi, ↓AM.Y.t_idx, ↓AM.Y.i_seq, ↓AM.Y.i_rng1, ↓AM.Y.i_rng2, ↓AM.Y.i_enum, ↓AM.Y.i_zip, ↓AM.Y.g_nm, ↓AM.Y.g_tup, ↓AM.Y.g_sub, ↓AM.Y.g_nil, ↓AM.Y.g_cons, ↓AM.Y.s_nil', ↓AM.Y.s_cons', ↓AM.Y.s_asg, ↓AM.Y.s_asg2', ↓AM.Y.s_asg3', ↓AM.Y.s_par2', ↓AM.Y.s_par3', ↓AM.Y.s_aug', ↓AM.Y.s_expr', ↓AM.Y.s_ret', ↓AM.Y.s_retN', ↓AM.Y.s_iff', ↓AM.Y.s_for', ↓AM.Y.s_whl', ↓AM.Y.s_pass', ↓AM.Y.s_brk', ↓AM.Y.s_cnt', ↓AM.Y.s_never', ↓AM.Y.truth_bl, ↓AM.Y.truth_non, ↓AM.Y.truth_int, ↓AM.Y.truth_tup, ↓AM.Y.truth_rol, ↓AM.Y.truth_ref, ↓AM.Y.o_add, ↓AM.Y.o_sub, ↓AM.Y.o_mul, ↓AM.Y.o_mod, ↓AM.Y.o_fdv, ↓AM.Y.o_pow, ↓AM.Y.o_addL, ↓AM.Y.c_eq, ↓AM.Y.c_ne, ↓AM.Y.c_lt, ↓AM.Y.c_le, ↓AM.Y.c_gt, ↓AM.Y.c_ge, ↓AM.Y.c_inn, ↓AM.Y.c_nin, ↓AM.Y.has_dct, ↓AM.Y.x_tup, ↓AM.Y.x_rol, ↓AM.Y.x_ref, ↓AM.Y.x_set, ↓AM.Y.x_slcR, ↓AM.Y.x_slcL, ↓AM.Y.b_len_tup, ↓AM.Y.b_len_rol, ↓AM.Y.b_len_ref, ↓AM.Y.b_isi, ↓AM.Y.b_isi2, ↓AM.Y.b_int, ↓AM.Y.b_intb, ↓AM.Y.b_sum, ↓AM.Y.b_max2, ↓AM.Y.b_min2, ↓AM.Y.b_max1, ↓AM.Y.b_min1, ↓AM.Y.b_lst_tup, ↓AM.Y.b_lst_rol, ↓AM.Y.b_lst_ref, ↓AM.Y.b_all, ↓AM.Y.b_any, ↓AM.Y.k_app, ↓AM.Y.k_bits, ↓AM.Y.k_cnt, ↓AM.Y.m_app, ↓AM.Y.m_bits, ↓AM.Y.n_add, ↓AM.Y.n_sub, AM.wp_ok, AM.wp_no, ↓AM.wp_ret, ↓AM.wp_fail, ↓AM.wp_end, ↓AM.thn_nx, ↓AM.thn_rt, ↓AM.thn_bk, ↓AM.thn_ct, ↓AM.thn_xc, ↓AM.endP_nx, ↓AM.endP_rt, ↓AM.endP_xc, ↓AM.lpP_nx, ↓AM.lpP_ct, ↓AM.lpP_bk, ↓AM.lpP_rt, ↓AM.lpP_xc, ↓AM.Y.ifB_bl, ↓AM.Y.isI_int, ↓AM.Y.isT_tup, ↓AM.Y.isS_some, ↓AM.Y.isSS_some, ↓AM.Y.isO_lst, ↓AM.Y.isO_dct, AM.Y.ifB_bl, AM.Y.isI_int, AM.Y.isT_tup, AM.Y.isS_some, AM.Y.isSS_some, AM.Y.isO_lst, AM.Y.isO_dct, List.getElem?_cons_zero, List.getElem?_cons_succ, List.set_cons_zero, List.set_cons_succ, AM.Y.at0, AM.Y.at1, AM.Y.at2, AM.Y.at3, AM.Y.srcV, AM.Y.enumV, AM.tyOf, AM.tyIs, AM.isiV, AM.Y.isNon_non, AM.Y.isNon_bl, AM.Y.isNon_int, AM.Y.isNon_str, AM.Y.isNon_tup, AM.Y.isNon_rol, AM.Y.isNon_ref, Bool.not_true, Bool.not_false, Bool.true_eq_false, Bool.false_eq_true, ↓reduceIte, decide_true, decide_false, decide_eq_true_eq, Option.map_some, Option.map_none, Option.isSome_some, Option.isSome_none, List.length_cons, List.length_nil, List.isEmpty_cons, List.isEmpty_nil, true_and, and_true, Bool.or_false, Bool.false_or, Bool.or_true, Bool.true_or, Nat.zero_add, Nat.reduceAdd, AM.lim, Nat.reduceLeDiff, List.set, AM.wipeE, AM.Y.xcP, reduceCtorEq, imp_self, implies_true, not_false_eq_true]
  refine wp_q (w_is_life hr g hl) fun v h2 q => ?_
  obtain ⟨rfl, f⟩ := q
  simp -implicitDefEqProofs only [↓AM.Y.y_var, ↓AM.Y.y_non, ↓AM.Y.y_bl, ↓AM.Y.y_int, ↓AM.Y.y_str, ↓AM.Y.y_ty, ↓AM.Y.y_tup, ↓AM.Y.y_lst, ↓AM.Y.y_dct0, ↓AM.Y.y_bin, ↓AM.Y.y_neg, ↓AM.Y.y_not, ↓AM.Y.y_and, ↓AM.Y.y_or, ↓AM.Y.y_cmp, ↓AM.Y.y_cmp2, ↓AM.Y.y_isN, ↓AM.Y.y_ntN, ↓AM.Y.y_isB, ↓AM.Y.y_ntB, ↓AM.Y.y_ife, ↓AM.Y.y_call, ↓AM.Y.y_bi, ↓AM.Y.y_mt, ↓AM.Y.y_idx, ↓AM.Y.y_slc, ↓AM.Y.y_lc, ↓AM.Y.y_lrng, ↓AM.Y.y_nil, ↓AM.Y.y_cons, ↓AM.Y.y_none, ↓AM.Y.y_some, ↓AM.Y.y_cnone, ↓AM.Y.y_csome, ↓AM.Y.t_not, ↓AM.Y.t_and, ↓AM.Y.t_or, ↓AM.Y.t_var, ↓AM.Y.t_cmp, ↓AM.Y.t_cmp2, ↓AM.Y.t_isN, ↓AM.Y.t_ntN, ↓AM.Y.t_isB, ↓AM.Y.t_ntB, ↓AM.Y.t_call, ↓AM.Y.t_bi, ↓AM.Y.t_idx, ↓AM.Y.i_seq, ↓AM.Y.i_rng1, ↓AM.Y.i_rng2, ↓AM.Y.i_enum, ↓AM.Y.i_zip, ↓AM.Y.g_nm, ↓AM.Y.g_tup, ↓AM.Y.g_sub, ↓AM.Y.g_nil, ↓AM.Y.g_cons, ↓AM.Y.s_nil', ↓AM.Y.s_cons', ↓AM.Y.s_asg, ↓AM.Y.s_asg2', ↓AM.Y.s_asg3', ↓AM.Y.s_par2', ↓AM.Y.s_par3', ↓AM.Y.s_aug', ↓AM.Y.s_expr', ↓AM.Y.s_ret', ↓AM.Y.s_retN', ↓AM.Y.s_iff', ↓AM.Y.s_for', ↓AM.Y.s_whl', ↓AM.Y.s_pass', ↓AM.Y.s_brk', ↓AM.Y.s_cnt', ↓AM.Y.s_never', ↓AM.Y.truth_bl, ↓AM.Y.truth_non, ↓AM.Y.truth_int, ↓AM.Y.truth_tup, ↓AM.Y.truth_rol, ↓AM.Y.truth_ref, ↓AM.Y.o_add, ↓AM.Y.o_sub, ↓AM.Y.o_mul, ↓AM.Y.o_mod, ↓AM.Y.o_fdv, ↓AM.Y.o_pow, ↓AM.Y.o_addL, ↓AM.Y.c_eq, ↓AM.Y.c_ne, ↓AM.Y.c_lt, ↓AM.Y.c_le, ↓AM.Y.c_gt, ↓AM.Y.c_ge, ↓AM.Y.c_inn, ↓AM.Y.c_nin, ↓AM.Y.has_dct, ↓AM.Y.x_tup, ↓AM.Y.x_rol, ↓AM.Y.x_ref, ↓AM.Y.x_set, ↓AM.Y.x_slcR, ↓AM.Y.x_slcL, ↓AM.Y.b_len_tup, ↓AM.Y.b_len_rol, ↓AM.Y.b_len_ref, ↓AM.Y.b_isi, ↓AM.Y.b_isi2, ↓AM.Y.b_int, ↓AM.Y.b_intb, ↓AM.Y.b_sum, ↓AM.Y.b_max2, ↓AM.Y.b_min2, ↓AM.Y.b_max1, ↓AM.Y.b_min1, ↓AM.Y.b_lst_tup, ↓AM.Y.b_lst_rol, ↓AM.Y.b_lst_ref, ↓AM.Y.b_all, ↓AM.Y.b_any, ↓AM.Y.k_app, ↓AM.Y.k_bits, ↓AM.Y.k_cnt, ↓AM.Y.m_app, ↓AM.Y.m_bits, ↓AM.Y.n_add, ↓AM.Y.n_sub, AM.wp_ok, AM.wp_no, ↓AM.wp_ret, ↓AM.wp_fail, ↓AM.wp_end, ↓AM.thn_nx, ↓AM.thn_rt, ↓AM.thn_bk, ↓AM.thn_ct, ↓AM.thn_xc, ↓AM.endP_nx, ↓AM.endP_rt, ↓AM.endP_xc, ↓AM.lpP_nx, ↓AM.lpP_ct, ↓AM.lpP_bk, ↓AM.lpP_rt, ↓AM.lpP_xc, ↓AM.Y.ifB_bl, ↓AM.Y.isI_int, ↓AM.Y.isT_tup, ↓AM.Y.isS_some, ↓AM.Y.isSS_some, ↓AM.Y.isO_lst, ↓AM.Y.isO_dct, AM.Y.ifB_bl, AM.Y.isI_int, AM.Y.isT_tup, AM.Y.isS_some, AM.Y.isSS_some, AM.Y.isO_lst, AM.Y.isO_dct, List.getElem?_cons_zero, List.getElem?_cons_succ, List.set_cons_zero, List.set_cons_succ, AM.Y.at0, AM.Y.at1, AM.Y.at2, AM.Y.at3, AM.Y.srcV, AM.Y.enumV, AM.tyOf, AM.tyIs, AM.isiV, AM.Y.isNon_non, AM.Y.isNon_bl, AM.Y.isNon_int, AM.Y.isNon_str, AM.Y.isNon_tup, AM.Y.isNon_rol, AM.Y.isNon_ref, Bool.not_true, Bool.not_false, Bool.true_eq_false, Bool.false_eq_true, ↓reduceIte, decide_true, decide_false, decide_eq_true_eq, Option.map_some, Option.map_none, Option.isSome_some, Option.isSome_none, List.length_cons, List.length_nil, List.isEmpty_cons, List.isEmpty_nil, true_and, and_true, Bool.or_false, Bool.false_or, Bool.or_true, Bool.true_or, Nat.zero_add, Nat.reduceAdd, AM.lim, Nat.reduceLeDiff, List.set, AM.wipeE, AM.Y.xcP, reduceCtorEq, imp_self, implies_true, not_false_eq_true]
  exact f
theorem w_check_ring (hr : h[r]? = some (.lst (l.map Ev.v))) (g : Good l) (hl : l.length ≤ 1000) {p : Nat} (hp : 1 ≤ p) : wp (callD fns 100000 (d + 4) 3 [.ref r, .int p] h) (fun v h' => Fr [] h h') NoX := by
  rw [call_eq (fns := fns) (W := 100000) (d := d + 3) (g := 3) (f := f_check_ring) rfl (us := [.ref r, .int p]) (vs := [.ref r, .int p]) rfl rfl, wp_end]
  show wp (exSs (callD fns 100000 (d + 3)) 100000 [some (.ref r), some (.int p)] f_check_ring.body h) _ _
  unfold f_check_ring
  have z : ¬ ((p : Int) < 1) := by omega
  simp -implicitDefEqProofs only [↓AM.Y.y_var, ↓AM.Y.y_non, ↓AM.Y.y_bl, ↓AM.Y.y_int, ↓AM.Y.y_str, ↓AM.Y.y_ty, ↓AM.Y.y_tup, ↓AM.Y.y_lst, ↓AM.Y.y_dct0, ↓AM.Y.y_bin, ↓AM.Y.y_neg, ↓AM.Y.y_not, ↓AM.Y.y_and, ↓AM.Y.y_or, ↓AM.Y.y_cmp, ↓AM.Y.y_cmp2, ↓AM.Y.y_isN, ↓AM.Y.y_ntN, ↓AM.Y.y_isB, ↓AM.Y.y_ntB, ↓AM.Y.y_ife, ↓AM.Y.y_call, ↓AM.Y.y_bi, ↓AM.Y.y_mt, ↓AM.Y.y_idx, ↓AM.Y.y_slc, ↓AM.Y.y_lc, ↓AM.Y.y_lrng, ↓AM.Y.y_nil, ↓AM.Y.y_cons, ↓AM.Y.y_none, ↓AM.Y.y_some, ↓AM.Y.y_cnone, ↓AM.Y.y_csome, ↓AM.Y.t_not, ↓AM.Y.t_and, ↓AM.Y.t_or, ↓AM.Y.t_var, ↓AM.Y.t_cmp, ↓AM.Y.t_cmp2, ↓AM.Y.t_isN, ↓AM.Y.t_ntN, ↓AM.Y.t_isB, ↓AM.Y.t_ntB, ↓AM.Y.t_call, ↓AM.Y.t_bi, ↓AM.Y.t_idx, ↓AM.Y.i_seq, ↓AM.Y.i_rng1, ↓AM.Y.i_rng2, ↓AM.Y.i_enum, ↓AM.Y.i_zip, ↓AM.Y.g_nm, ↓AM.Y.g_tup, ↓AM.Y.g_sub, ↓AM.Y.g_nil, ↓AM.Y.g_cons, ↓AM.Y.s_nil', ↓AM.Y.s_cons', ↓AM.Y.s_asg, ↓AM.Y.s_asg2', ↓AM.Y.s_asg3', ↓AM.Y.s_par2', ↓AM.Y.s_par3', ↓AM.Y.s_aug', ↓AM.Y.s_expr', ↓AM.Y.s_ret', ↓AM.Y.s_retN', ↓AM.Y.s_iff', ↓AM.Y.s_for', ↓AM.Y.s_whl', ↓AM.Y.s_pass', ↓AM.Y.s_brk', ↓AM.Y.s_cnt', ↓AM.Y.s_never', ↓AM.Y.truth_bl, ↓AM.Y.truth_non, ↓AM.Y.truth_int, ↓AM.Y.truth_tup, ↓AM.Y.truth_rol, ↓AM.Y.truth_ref, ↓AM.Y.o_add, ↓AM.Y.o_sub, ↓AM.Y.o_mul, ↓AM.Y.o_mod, ↓AM.Y.o_fdv, ↓AM.Y.o_pow, ↓AM.Y.o_addL, ↓AM.Y.c_eq, ↓AM.Y.c_ne, ↓AM.Y.c_lt, ↓AM.Y.c_le, ↓AM.Y.c_gt, ↓AM.Y.c_ge, ↓AM.Y.c_inn, ↓AM.Y.c_nin, ↓AM.Y.has_dct, ↓AM.Y.x_tup, ↓AM.Y.x_rol, ↓AM.Y.x_ref, ↓AM.Y.x_set, ↓AM.Y.x_slcR, ↓AM.Y.x_slcL, ↓AM.Y.b_len_tup, ↓AM.Y.b_len_rol, ↓AM.Y.b_len_ref, ↓AM.Y.b_isi, ↓AM.Y.b_isi2, ↓AM.Y.b_int, ↓AM.Y.b_intb, ↓AM.Y.b_sum, ↓AM.Y.b_max2, ↓AM.Y.b_min2, ↓AM.Y.b_max1, ↓AM.Y.b_min1, ↓AM.Y.b_lst_tup, ↓AM.Y.b_lst_rol, ↓AM.Y.b_lst_ref, ↓AM.Y.b_all, ↓AM.Y.b_any, ↓AM.Y.k_app, ↓AM.Y.k_bits, ↓AM.Y.k_cnt, ↓AM.Y.m_app, ↓AM.Y.m_bits, ↓AM.Y.n_add, ↓AM.Y.n_sub, AM.wp_ok, AM.wp_no, ↓AM.wp_ret, ↓AM.wp_fail, ↓AM.wp_end, ↓AM.thn_nx, ↓AM.thn_rt, ↓AM.thn_bk, ↓AM.thn_ct, ↓AM.thn_xc, ↓AM.endP_nx, ↓AM.endP_rt, ↓AM.endP_xc, ↓AM.lpP_nx, ↓AM.lpP_ct, ↓AM.lpP_bk, ↓AM.lpP_rt, ↓AM.lpP_xc, ↓AM.Y.ifB_bl, ↓AM.Y.isI_int, ↓AM.Y.isT_tup, ↓AM.Y.isS_some, ↓AM.Y.isSS_some, ↓AM.Y.isO_lst, ↓AM.Y.isO_dct, AM.Y.ifB_bl, AM.Y.isI_int, AM.Y.isT_tup, AM.Y.isS_some, AM.Y.isSS_some, AM.Y.isO_lst, AM.Y.isO_dct, List.getElem?_cons_zero, List.getElem?_cons_succ, List.set_cons_zero, List.set_cons_succ, AM.Y.at0, AM.Y.at1, AM.Y.at2, AM.Y.at3, AM.Y.srcV, AM.Y.enumV, AM.tyOf, AM.tyIs, AM.isiV, AM.Y.isNon_non, AM.Y.isNon_bl, AM.Y.isNon_int, AM.Y.isNon_str, AM.Y.isNon_tup, AM.Y.isNon_rol, AM.Y.isNon_ref, Bool.not_true, Bool.not_false, Bool.true_eq_false, Bool.false_eq_true, ↓reduceIte, decide_true, decide_false, decide_eq_true_eq, Option.map_some, Option.map_none, Option.isSome_some, Option.isSome_none, List.length_cons, List.length_nil, List.isEmpty_cons, List.isEmpty_nil, true_and, and_true, Bool.or_false, Bool.false_or, Bool.or_true, Bool.true_or, Nat.zero_add, Nat.reduceAdd, AM.lim, Nat.reduceLeDiff, List.set, AM.wipeE, AM.Y.xcP, reduceCtorEq, imp_self, implies_true, not_false_eq_true]
  refine wp_q (w_check_life hr g hl) fun v h2 f => ?_
  try simp -implicitDefEqProofs only [↓AM.Y.y_var, ↓AM.Y.y_non, ↓AM.Y.y_bl, ↓AM.Y.y_int, ↓AM.Y.y_str, ↓AM.Y.y_ty, ↓AM.Y.y_tup, ↓AM.Y.y_lst, ↓AM.Y.y_dct0, ↓AM.Y.y_bin, ↓AM.Y.y_neg, ↓AM.Y.y_not, ↓AM.Y.y_and, ↓AM.Y.y_or, ↓AM.Y.y_cmp, ↓AM.Y.y_cmp2, ↓AM.Y.y_isN, ↓AM.Y.y_ntN, ↓AM.Y.y_isB, ↓AM.Y.y_ntB, ↓AM.Y.y_ife, ↓AM.Y.y_call, ↓AM.Y.y_bi, ↓AM.Y.y_mt, ↓AM.Y.y_idx, ↓AM.Y.y_slc, ↓AM.Y.y_lc, ↓AM.Y.y_lrng, ↓AM.Y.y_nil, ↓AM.Y.y_cons, ↓AM.Y.y_none, ↓AM.Y.y_some, ↓AM.Y.y_cnone, ↓AM.Y.y_csome, ↓AM.Y.t_not, ↓AM.Y.t_and, ↓AM.Y.t_or, ↓AM.Y.t_var, ↓AM.Y.t_cmp, ↓AM.Y.t_cmp2, ↓AM.Y.t_isN, ↓AM.Y.t_ntN, ↓AM.Y.t_isB, ↓AM.Y.t_ntB, ↓AM.Y.t_call, ↓AM.Y.t_bi, ↓AM.Y.t_idx, ↓AM.Y.i_seq, ↓AM.Y.i_rng1, ↓AM.Y.i_rng2, ↓AM.Y.i_enum, ↓AM.Y.i_zip, ↓AM.Y.g_nm, ↓AM.Y.g_tup, ↓AM.Y.g_sub, ↓AM.Y.g_nil, ↓AM.Y.g_cons, ↓AM.Y.s_nil', ↓AM.Y.s_cons', ↓AM.Y.s_asg, ↓AM.Y.s_asg2', ↓AM.Y.s_asg3', ↓AM.Y.s_par2', ↓AM.Y.s_par3', ↓AM.Y.s_aug', ↓AM.Y.s_expr', ↓AM.Y.s_ret', ↓AM.Y.s_retN', ↓AM.Y.s_iff', ↓AM.Y.s_for', ↓AM.Y.s_whl', ↓AM.Y.s_pass', ↓AM.Y.s_brk', ↓AM.Y.s_cnt', ↓AM.Y.s_never', ↓AM.Y.truth_bl, ↓AM.Y.truth_non, ↓AM.Y.truth_int, ↓AM.Y.truth_tup, ↓AM.Y.truth_rol, ↓AM.Y.truth_ref, ↓AM.Y.o_add, ↓AM.Y.o_sub, ↓AM.Y.o_mul, ↓AM.Y.o_mod, ↓AM.Y.o_fdv, ↓AM.Y.o_pow, ↓AM.Y.o_addL, ↓AM.Y.c_eq, ↓AM.Y.c_ne, ↓AM.Y.c_lt, ↓AM.Y.c_le, ↓AM.Y.c_gt, ↓AM.Y.c_ge, ↓AM.Y.c_inn, ↓AM.Y.c_nin, ↓AM.Y.has_dct, ↓AM.Y.x_tup, ↓AM.Y.x_rol, ↓AM.Y.x_ref, ↓AM.Y.x_set, ↓AM.Y.x_slcR, ↓AM.Y.x_slcL, ↓AM.Y.b_len_tup, ↓AM.Y.b_len_rol, ↓AM.Y.b_len_ref, ↓AM.Y.b_isi, ↓AM.Y.b_isi2, ↓AM.Y.b_int, ↓AM.Y.b_intb, ↓AM.Y.b_sum, ↓AM.Y.b_max2, ↓AM.Y.b_min2, ↓AM.Y.b_max1, ↓AM.Y.b_min1, ↓AM.Y.b_lst_tup, ↓AM.Y.b_lst_rol, ↓AM.Y.b_lst_ref, ↓AM.Y.b_all, ↓AM.Y.b_any, ↓AM.Y.k_app, ↓AM.Y.k_bits, ↓AM.Y.k_cnt, ↓AM.Y.m_app, ↓AM.Y.m_bits, ↓AM.Y.n_add, ↓AM.Y.n_sub, AM.wp_ok, AM.wp_no, ↓AM.wp_ret, ↓AM.wp_fail, ↓AM.wp_end, ↓AM.thn_nx, ↓AM.thn_rt, ↓AM.thn_bk, ↓AM.thn_ct, ↓AM.thn_xc, ↓AM.endP_nx, ↓AM.endP_rt, ↓AM.endP_xc, ↓AM.lpP_nx, ↓AM.lpP_ct, ↓AM.lpP_bk, ↓AM.lpP_rt, ↓AM.lpP_xc, ↓AM.Y.ifB_bl, ↓AM.Y.isI_int, ↓AM.Y.isT_tup, ↓AM.Y.isS_some, ↓AM.Y.isSS_some, ↓AM.Y.isO_lst, ↓AM.Y.isO_dct, AM.Y.ifB_bl, AM.Y.isI_int, AM.Y.isT_tup, AM.Y.isS_some, AM.Y.isSS_some, AM.Y.isO_lst, AM.Y.isO_dct, List.getElem?_cons_zero, List.getElem?_cons_succ, List.set_cons_zero, List.set_cons_succ, AM.Y.at0, AM.Y.at1, AM.Y.at2, AM.Y.at3, AM.Y.srcV, AM.Y.enumV, AM.tyOf, AM.tyIs, AM.isiV, AM.Y.isNon_non, AM.Y.isNon_bl, AM.Y.isNon_int, AM.Y.isNon_str, AM.Y.isNon_tup, AM.Y.isNon_rol, AM.Y.isNon_ref, Bool.not_true, Bool.not_false, Bool.true_eq_false, Bool.false_eq_true, ↓reduceIte, decide_true, decide_false, decide_eq_true_eq, Option.map_some, Option.map_none, Option.isSome_some, Option.isSome_none, List.length_cons, List.length_nil, List.isEmpty_cons, List.isEmpty_nil, true_and, and_true, Bool.or_false, Bool.false_or, Bool.or_true, Bool.true_or, Nat.zero_add, Nat.reduceAdd, AM.lim, Nat.reduceLeDiff, List.set, AM.wipeE, AM.Y.xcP, reduceCtorEq, imp_self, implies_true, not_false_eq_true]
  refine wp_q (w_count (d := d + 2) (n := p)) fun v h3 q => ?_
  obtain ⟨rfl, rfl⟩ := q
  simp -implicitDefEqProofs only [↓AM.Y.y_var, ↓AM.Y.y_non, ↓AM.Y.y_bl, ↓AM.Y.y_int, ↓AM.Y.y_str, ↓AM.Y.y_ty, ↓AM.Y.y_tup, ↓AM.Y.y_lst, ↓AM.Y.y_dct0, ↓AM.Y.y_bin, ↓AM.Y.y_neg, ↓AM.Y.y_not, ↓AM.Y.y_and, ↓AM.Y.y_or, ↓AM.Y.y_cmp, ↓AM.Y.y_cmp2, ↓AM.Y.y_isN, ↓AM.Y.y_ntN, ↓AM.Y.y_isB, ↓AM.Y.y_ntB, ↓AM.Y.y_ife, ↓AM.Y.y_call, ↓AM.Y.y_bi, ↓AM.Y.y_mt, ↓AM.Y.y_idx, ↓AM.Y.y_slc, ↓AM.Y.y_lc, ↓AM.Y.y_lrng, ↓AM.Y.y_nil, ↓AM.Y.y_cons, ↓AM.Y.y_none, ↓AM.Y.y_some, ↓AM.Y.y_cnone, ↓AM.Y.y_csome, ↓AM.Y.t_not, ↓AM.Y.t_and, ↓AM.Y.t_or, ↓AM.Y.t_var, ↓AM.Y.t_cmp, ↓AM.Y.t_cmp2, ↓AM.Y.t_isN, ↓AM.Y.t_ntN, ↓AM.Y.t_isB, ↓AM.Y.t_ntB, ↓AM.Y.t_call, ↓AM.Y.t_bi, ↓AM.Y.t_idx, ↓AM.Y.i_seq, ↓AM.Y.i_rng1, ↓AM.Y.i_rng2, ↓AM.Y.i_enum, ↓AM.Y.i_zip, ↓AM.Y.g_nm, ↓AM.Y.g_tup, ↓AM.Y.g_sub, ↓AM.Y.g_nil, ↓AM.Y.g_cons, ↓AM.Y.s_nil', ↓AM.Y.s_cons', ↓AM.Y.s_asg, ↓AM.Y.s_asg2', ↓AM.Y.s_asg3', ↓AM.Y.s_par2', ↓AM.Y.s_par3', ↓AM.Y.s_aug', ↓AM.Y.s_expr', ↓AM.Y.s_ret', ↓AM.Y.s_retN', ↓AM.Y.s_iff', ↓AM.Y.s_for', ↓AM.Y.s_whl', ↓AM.Y.s_pass', ↓AM.Y.s_brk', ↓AM.Y.s_cnt', ↓AM.Y.s_never', ↓AM.Y.truth_bl, ↓AM.Y.truth_non, ↓AM.Y.truth_int, ↓AM.Y.truth_tup, ↓AM.Y.truth_rol, ↓AM.Y.truth_ref, ↓AM.Y.o_add, ↓AM.Y.o_sub, ↓AM.Y.o_mul, ↓AM.Y.o_mod, ↓AM.Y.o_fdv, ↓AM.Y.o_pow, ↓AM.Y.o_addL, ↓AM.Y.c_eq, ↓AM.Y.c_ne, ↓AM.Y.c_lt, ↓AM.Y.c_le, ↓AM.Y.c_gt, ↓AM.Y.c_ge, ↓AM.Y.c_inn, ↓AM.Y.c_nin, ↓AM.Y.has_dct, ↓AM.Y.x_tup, ↓AM.Y.x_rol, ↓AM.Y.x_ref, ↓AM.Y.x_set, ↓AM.Y.x_slcR, ↓AM.Y.x_slcL, ↓AM.Y.b_len_tup, ↓AM.Y.b_len_rol, ↓AM.Y.b_len_ref, ↓AM.Y.b_isi, ↓AM.Y.b_isi2, ↓AM.Y.b_int, ↓AM.Y.b_intb, ↓AM.Y.b_sum, ↓AM.Y.b_max2, ↓AM.Y.b_min2, ↓AM.Y.b_max1, ↓AM.Y.b_min1, ↓AM.Y.b_lst_tup, ↓AM.Y.b_lst_rol, ↓AM.Y.b_lst_ref, ↓AM.Y.b_all, ↓AM.Y.b_any, ↓AM.Y.k_app, ↓AM.Y.k_bits, ↓AM.Y.k_cnt, ↓AM.Y.m_app, ↓AM.Y.m_bits, ↓AM.Y.n_add, ↓AM.Y.n_sub, AM.wp_ok, AM.wp_no, ↓AM.wp_ret, ↓AM.wp_fail, ↓AM.wp_end, ↓AM.thn_nx, ↓AM.thn_rt, ↓AM.thn_bk, ↓AM.thn_ct, ↓AM.thn_xc, ↓AM.endP_nx, ↓AM.endP_rt, ↓AM.endP_xc, ↓AM.lpP_nx, ↓AM.lpP_ct, ↓AM.lpP_bk, ↓AM.lpP_rt, ↓AM.lpP_xc, ↓AM.Y.ifB_bl, ↓AM.Y.isI_int, ↓AM.Y.isT_tup, ↓AM.Y.isS_some, ↓AM.Y.isSS_some, ↓AM.Y.isO_lst, ↓AM.Y.isO_dct, AM.Y.ifB_bl, AM.Y.isI_int, AM.Y.isT_tup, AM.Y.isS_some, AM.Y.isSS_some, AM.Y.isO_lst, AM.Y.isO_dct, List.getElem?_cons_zero, List.getElem?_cons_succ, List.set_cons_zero, List.set_cons_succ, AM.Y.at0, AM.Y.at1, AM.Y.at2, AM.Y.at3, AM.Y.srcV, AM.Y.enumV, AM.tyOf, AM.tyIs, AM.isiV, AM.Y.isNon_non, AM.Y.isNon_bl, AM.Y.isNon_int, AM.Y.isNon_str, AM.Y.isNon_tup, AM.Y.isNon_rol, AM.Y.isNon_ref, Bool.not_true, Bool.not_false, Bool.true_eq_false, Bool.false_eq_true, ↓reduceIte, decide_true, decide_false, decide_eq_true_eq, Option.map_some, Option.map_none, Option.isSome_some, Option.isSome_none, List.length_cons, List.length_nil, List.isEmpty_cons, List.isEmpty_nil, true_and, and_true, Bool.or_false, Bool.false_or, Bool.or_true, Bool.true_or, Nat.zero_add, Nat.reduceAdd, AM.lim, Nat.reduceLeDiff, List.set, AM.wipeE, AM.Y.xcP, reduceCtorEq, imp_self, implies_true, not_false_eq_true, z]
  exact f
theorem w_counted (hr : h[r]? = some (.lst (l.map Ev.v))) (g : Good l) {m : Nat} : wp (callD fns 100000 (d + 1) 4 [.ref r, .int m] h) (fun v h' => v = .tup [.int (tally (l.take m)).1, .int (tally (l.take m)).2.2] ∧ Fr [] h h') NoX := by
  rw [call_eq (fns := fns) (W := 100000) (d := d) (g := 4) (f := f_counted) rfl (us := [.ref r, .int m]) (vs := [.ref r, .int m]) rfl rfl, wp_end]
  show wp (exSs (callD fns 100000 d) 100000 [some (.ref r), some (.int m), none, none, none, none] f_counted.body h) _ _
  unfold f_counted
  simp -implicitDefEqProofs only [↓AM.Y.y_var, ↓AM.Y.y_non, ↓AM.Y.y_bl, ↓AM.Y.y_int, ↓AM.Y.y_str, ↓AM.Y.y_ty, ↓AM.Y.y_tup, ↓AM.Y.y_lst, ↓AM.Y.y_dct0, ↓AM.Y.y_bin, ↓AM.Y.y_neg, ↓AM.Y.y_not, ↓AM.Y.y_and, ↓AM.Y.y_or, ↓AM.Y.y_cmp, ↓AM.Y.y_cmp2, ↓AM.Y.y_isN, ↓AM.Y.y_ntN, ↓AM.Y.y_isB, ↓AM.Y.y_ntB, ↓AM.Y.y_ife, ↓AM.Y.y_call, ↓AM.Y.y_bi, ↓AM.Y.y_mt, ↓AM.Y.y_idx, ↓AM.Y.y_slc, ↓AM.Y.y_lc, ↓AM.Y.y_lrng, ↓AM.Y.y_nil, ↓AM.Y.y_cons, ↓AM.Y.y_none, ↓AM.Y.y_some, ↓AM.Y.y_cnone, ↓AM.Y.y_csome, ↓AM.Y.t_not, ↓AM.Y.t_and, ↓AM.Y.t_or, ↓AM.Y.t_var, ↓AM.Y.t_cmp, ↓AM.Y.t_cmp2, ↓AM.Y.t_isN, ↓AM.Y.t_ntN, ↓AM.Y.t_isB, ↓AM.Y.t_ntB, ↓AM.Y.t_call, ↓AM.Y.t_bi, ↓AM.Y.t_idx, ↓AM.Y.i_seq, ↓AM.Y.i_rng1, ↓AM.Y.i_rng2, ↓AM.Y.i_enum, ↓AM.Y.i_zip, ↓AM.Y.g_nm, ↓AM.Y.g_tup, ↓AM.Y.g_sub, ↓AM.Y.g_nil, ↓AM.Y.g_cons, ↓AM.Y.s_nil', ↓AM.Y.s_cons', ↓AM.Y.s_asg, ↓AM.Y.s_asg2', ↓AM.Y.s_asg3', ↓AM.Y.s_par2', ↓AM.Y.s_par3', ↓AM.Y.s_aug', ↓AM.Y.s_expr', ↓AM.Y.s_ret', ↓AM.Y.s_retN', ↓AM.Y.s_iff', ↓AM.Y.s_for', ↓AM.Y.s_whl', ↓AM.Y.s_pass', ↓AM.Y.s_brk', ↓AM.Y.s_cnt', ↓AM.Y.s_never', ↓AM.Y.truth_bl, ↓AM.Y.truth_non, ↓AM.Y.truth_int, ↓AM.Y.truth_tup, ↓AM.Y.truth_rol, ↓AM.Y.truth_ref, ↓AM.Y.o_add, ↓AM.Y.o_sub, ↓AM.Y.o_mul, ↓AM.Y.o_mod, ↓AM.Y.o_fdv, ↓AM.Y.o_pow, ↓AM.Y.o_addL, ↓AM.Y.c_eq, ↓AM.Y.c_ne, ↓AM.Y.c_lt, ↓AM.Y.c_le, ↓AM.Y.c_gt, ↓AM.Y.c_ge, ↓AM.Y.c_inn, ↓AM.Y.c_nin, ↓AM.Y.has_dct, ↓AM.Y.x_tup, ↓AM.Y.x_rol, ↓AM.Y.x_ref, ↓AM.Y.x_set, ↓AM.Y.x_slcR, ↓AM.Y.x_slcL, ↓AM.Y.b_len_tup, ↓AM.Y.b_len_rol, ↓AM.Y.b_len_ref, ↓AM.Y.b_isi, ↓AM.Y.b_isi2, ↓AM.Y.b_int, ↓AM.Y.b_intb, ↓AM.Y.b_sum, ↓AM.Y.b_max2, ↓AM.Y.b_min2, ↓AM.Y.b_max1, ↓AM.Y.b_min1, ↓AM.Y.b_lst_tup, ↓AM.Y.b_lst_rol, ↓AM.Y.b_lst_ref, ↓AM.Y.b_all, ↓AM.Y.b_any, ↓AM.Y.k_app, ↓AM.Y.k_bits, ↓AM.Y.k_cnt, ↓AM.Y.m_app, ↓AM.Y.m_bits, ↓AM.Y.n_add, ↓AM.Y.n_sub, AM.wp_ok, AM.wp_no, ↓AM.wp_ret, ↓AM.wp_fail, ↓AM.wp_end, ↓AM.thn_nx, ↓AM.thn_rt, ↓AM.thn_bk, ↓AM.thn_ct, ↓AM.thn_xc, ↓AM.endP_nx, ↓AM.endP_rt, ↓AM.endP_xc, ↓AM.lpP_nx, ↓AM.lpP_ct, ↓AM.lpP_bk, ↓AM.lpP_rt, ↓AM.lpP_xc, ↓AM.Y.ifB_bl, ↓AM.Y.isI_int, ↓AM.Y.isT_tup, ↓AM.Y.isS_some, ↓AM.Y.isSS_some, ↓AM.Y.isO_lst, ↓AM.Y.isO_dct, AM.Y.ifB_bl, AM.Y.isI_int, AM.Y.isT_tup, AM.Y.isS_some, AM.Y.isSS_some, AM.Y.isO_lst, AM.Y.isO_dct, List.getElem?_cons_zero, List.getElem?_cons_succ, List.set_cons_zero, List.set_cons_succ, AM.Y.at0, AM.Y.at1, AM.Y.at2, AM.Y.at3, AM.Y.srcV, AM.Y.enumV, AM.tyOf, AM.tyIs, AM.isiV, AM.Y.isNon_non, AM.Y.isNon_bl, AM.Y.isNon_int, AM.Y.isNon_str, AM.Y.isNon_tup, AM.Y.isNon_rol, AM.Y.isNon_ref, Bool.not_true, Bool.not_false, Bool.true_eq_false, Bool.false_eq_true, ↓reduceIte, decide_true, decide_false, decide_eq_true_eq, Option.map_some, Option.map_none, Option.isSome_some, Option.isSome_none, List.length_cons, List.length_nil, List.isEmpty_cons, List.isEmpty_nil, true_and, and_true, Bool.or_false, Bool.false_or, Bool.or_true, Bool.true_or, Nat.zero_add, Nat.reduceAdd, AM.lim, Nat.reduceLeDiff, List.set, AM.wipeE, AM.Y.xcP, reduceCtorEq, imp_self, implies_true, not_false_eq_true, hr, cut_take, get_new, ← List.map_take]
  refine for_cell (xs := (l.take m).map Ev.v) (fun k σ h1 => Fr [] (h ++ [.lst ((l.take m).map Ev.v)]) h1 ∧ ∃ (t : Option Vl), σ = [some (.ref r), some (.int m), some (.int (tally ((l.take m).take k)).1), some (.int (tally ((l.take m).take k)).2.1), some (.int (tally ((l.take m).take k)).2.2), t]) (fun k σ h1 I => I.1.get get_new) (fun k x σ h1 hk I => ?_) (fun σ h1 I => ?_) ⟨Fr.refl, none, rfl⟩
  · obtain ⟨f, t, rfl⟩ := I
    obtain ⟨e, e1, rfl, e3⟩ := map_at hk
    rw [e3, tally_snoc]
    cases e with
    | line =>
      dsimp only [Ev.v]
      simp -implicitDefEqProofs only [↓AM.Y.y_var, ↓AM.Y.y_non, ↓AM.Y.y_bl, ↓AM.Y.y_int, ↓AM.Y.y_str, ↓AM.Y.y_ty, ↓AM.Y.y_tup, ↓AM.Y.y_lst, ↓AM.Y.y_dct0, ↓AM.Y.y_bin, ↓AM.Y.y_neg, ↓AM.Y.y_not, ↓AM.Y.y_and, ↓AM.Y.y_or, ↓AM.Y.y_cmp, ↓AM.Y.y_cmp2, ↓AM.Y.y_isN, ↓AM.Y.y_ntN, ↓AM.Y.y_isB, ↓AM.Y.y_ntB, ↓AM.Y.y_ife, ↓AM.Y.y_call, ↓AM.Y.y_bi, ↓AM.Y.y_mt, ↓AM.Y.y_idx, ↓AM.Y.y_slc, ↓AM.Y.y_lc, ↓AM.Y.y_lrng, ↓AM.Y.y_nil, ↓AM.Y.y_cons, ↓AM.Y.y_none, ↓AM.Y.y_some, ↓AM.Y.y_cnone, ↓AM.Y.y_csome, ↓AM.Y.t_not, ↓AM.Y.t_and, ↓AM.Y.t_or, ↓AM.Y.t_var, ↓AM.Y.t_cmp, ↓AM.Y.t_cmp2, ↓AM.Y.t_isN, ↓AM.Y.t_ntN, ↓AM.Y.t_isB, ↓AM.Y.t_ntB, ↓AM.Y.t_call, ↓AM.Y.t_bi, ↓AM.Y.t_idx, ↓AM.Y.i_seq, ↓AM.Y.i_rng1, ↓AM.Y.i_rng2, ↓AM.Y.i_enum, ↓AM.Y.i_zip, ↓AM.Y.g_nm, ↓AM.Y.g_tup, ↓AM.Y.g_sub, ↓AM.Y.g_nil, ↓AM.Y.g_cons, ↓AM.Y.s_nil', ↓AM.Y.s_cons', ↓AM.Y.s_asg, ↓AM.Y.s_asg2', ↓AM.Y.s_asg3', ↓AM.Y.s_par2', ↓AM.Y.s_par3', ↓AM.Y.s_aug', ↓AM.Y.s_expr', ↓AM.Y.s_ret', ↓AM.Y.s_retN', ↓AM.Y.s_iff', ↓AM.Y.s_for', ↓AM.Y.s_whl', ↓AM.Y.s_pass', ↓AM.Y.s_brk', ↓AM.Y.s_cnt', ↓AM.Y.s_never', ↓AM.Y.truth_bl, ↓AM.Y.truth_non, ↓AM.Y.truth_int, ↓AM.Y.truth_tup, ↓AM.Y.truth_rol, ↓AM.Y.truth_ref, ↓AM.Y.o_add, ↓AM.Y.o_sub, ↓AM.Y.o_mul, ↓AM.Y.o_mod, ↓AM.Y.o_fdv, ↓AM.Y.o_pow, ↓AM.Y.o_addL, ↓AM.Y.c_eq, ↓AM.Y.c_ne, ↓AM.Y.c_lt, ↓AM.Y.c_le, ↓AM.Y.c_gt, ↓AM.Y.c_ge, ↓AM.Y.c_inn, ↓AM.Y.c_nin, ↓AM.Y.has_dct, ↓AM.Y.x_tup, ↓AM.Y.x_rol, ↓AM.Y.x_ref, ↓AM.Y.x_set, ↓AM.Y.x_slcR, ↓AM.Y.x_slcL, ↓AM.Y.b_len_tup, ↓AM.Y.b_len_rol, ↓AM.Y.b_len_ref, ↓AM.Y.b_isi, ↓AM.Y.b_isi2, ↓AM.Y.b_int, ↓AM.Y.b_intb, ↓AM.Y.b_sum, ↓AM.Y.b_max2, ↓AM.Y.b_min2, ↓AM.Y.b_max1, ↓AM.Y.b_min1, ↓AM.Y.b_lst_tup, ↓AM.Y.b_lst_rol, ↓AM.Y.b_lst_ref, ↓AM.Y.b_all, ↓AM.Y.b_any, ↓AM.Y.k_app, ↓AM.Y.k_bits, ↓AM.Y.k_cnt, ↓AM.Y.m_app, ↓AM.Y.m_bits, ↓AM.Y.n_add, ↓AM.Y.n_sub, AM.wp_ok, AM.wp_no, ↓AM.wp_ret, ↓AM.wp_fail, ↓AM.wp_end, ↓AM.thn_nx, ↓AM.thn_rt, ↓AM.thn_bk, ↓AM.thn_ct, ↓AM.thn_xc, ↓AM.endP_nx, ↓AM.endP_rt, ↓AM.endP_xc, ↓AM.lpP_nx, ↓AM.lpP_ct, ↓AM.lpP_bk, ↓AM.lpP_rt, ↓AM.lpP_xc, ↓AM.Y.ifB_bl, ↓AM.Y.isI_int, ↓AM.Y.isT_tup, ↓AM.Y.isS_some, ↓AM.Y.isSS_some, ↓AM.Y.isO_lst, ↓AM.Y.isO_dct, AM.Y.ifB_bl, AM.Y.isI_int, AM.Y.isT_tup, AM.Y.isS_some, AM.Y.isSS_some, AM.Y.isO_lst, AM.Y.isO_dct, List.getElem?_cons_zero, List.getElem?_cons_succ, List.set_cons_zero, List.set_cons_succ, AM.Y.at0, AM.Y.at1, AM.Y.at2, AM.Y.at3, AM.Y.srcV, AM.Y.enumV, AM.tyOf, AM.tyIs, AM.isiV, AM.Y.isNon_non, AM.Y.isNon_bl, AM.Y.isNon_int, AM.Y.isNon_str, AM.Y.isNon_tup, AM.Y.isNon_rol, AM.Y.isNon_ref, Bool.not_true, Bool.not_false, Bool.true_eq_false, Bool.false_eq_true, ↓reduceIte, decide_true, decide_false, decide_eq_true_eq, Option.map_some, Option.map_none, Option.isSome_some, Option.isSome_none, List.length_cons, List.length_nil, List.isEmpty_cons, List.isEmpty_nil, true_and, and_true, Bool.or_false, Bool.false_or, Bool.or_true, Bool.true_or, Nat.zero_add, Nat.reduceAdd, AM.lim, Nat.reduceLeDiff, List.set, AM.wipeE, AM.Y.xcP, reduceCtorEq, imp_self, implies_true, not_false_eq_true, eqD_str kL kL, beq_self_eq_true]
      exact ⟨f, _, rfl⟩
    | stand n =>
      dsimp only [Ev.v]
      simp -implicitDefEqProofs only [↓AM.Y.y_var, ↓AM.Y.y_non, ↓AM.Y.y_bl, ↓AM.Y.y_int, ↓AM.Y.y_str, ↓AM.Y.y_ty, ↓AM.Y.y_tup, ↓AM.Y.y_lst, ↓AM.Y.y_dct0, ↓AM.Y.y_bin, ↓AM.Y.y_neg, ↓AM.Y.y_not, ↓AM.Y.y_and, ↓AM.Y.y_or, ↓AM.Y.y_cmp, ↓AM.Y.y_cmp2, ↓AM.Y.y_isN, ↓AM.Y.y_ntN, ↓AM.Y.y_isB, ↓AM.Y.y_ntB, ↓AM.Y.y_ife, ↓AM.Y.y_call, ↓AM.Y.y_bi, ↓AM.Y.y_mt, ↓AM.Y.y_idx, ↓AM.Y.y_slc, ↓AM.Y.y_lc, ↓AM.Y.y_lrng, ↓AM.Y.y_nil, ↓AM.Y.y_cons, ↓AM.Y.y_none, ↓AM.Y.y_some, ↓AM.Y.y_cnone, ↓AM.Y.y_csome, ↓AM.Y.t_not, ↓AM.Y.t_and, ↓AM.Y.t_or, ↓AM.Y.t_var, ↓AM.Y.t_cmp, ↓AM.Y.t_cmp2, ↓AM.Y.t_isN, ↓AM.Y.t_ntN, ↓AM.Y.t_isB, ↓AM.Y.t_ntB, ↓AM.Y.t_call, ↓AM.Y.t_bi, ↓AM.Y.t_idx, ↓AM.Y.i_seq, ↓AM.Y.i_rng1, ↓AM.Y.i_rng2, ↓AM.Y.i_enum, ↓AM.Y.i_zip, ↓AM.Y.g_nm, ↓AM.Y.g_tup, ↓AM.Y.g_sub, ↓AM.Y.g_nil, ↓AM.Y.g_cons, ↓AM.Y.s_nil', ↓AM.Y.s_cons', ↓AM.Y.s_asg, ↓AM.Y.s_asg2', ↓AM.Y.s_asg3', ↓AM.Y.s_par2', ↓AM.Y.s_par3', ↓AM.Y.s_aug', ↓AM.Y.s_expr', ↓AM.Y.s_ret', ↓AM.Y.s_retN', ↓AM.Y.s_iff', ↓AM.Y.s_for', ↓AM.Y.s_whl', ↓AM.Y.s_pass', ↓AM.Y.s_brk', ↓AM.Y.s_cnt', ↓AM.Y.s_never', ↓AM.Y.truth_bl, ↓AM.Y.truth_non, ↓AM.Y.truth_int, ↓AM.Y.truth_tup, ↓AM.Y.truth_rol, ↓AM.Y.truth_ref, ↓AM.Y.o_add, ↓AM.Y.o_sub, ↓AM.Y.o_mul, ↓AM.Y.o_mod, ↓AM.Y.o_fdv, ↓AM.Y.o_pow, ↓AM.Y.o_addL, ↓AM.Y.c_eq, ↓AM.Y.c_ne, ↓AM.Y.c_lt, ↓AM.Y.c_le, ↓AM.Y.c_gt, ↓AM.Y.c_ge, ↓AM.Y.c_inn, ↓AM.Y.c_nin, ↓AM.Y.has_dct, ↓AM.Y.x_tup, ↓AM.Y.x_rol, ↓AM.Y.x_ref, ↓AM.Y.x_set, ↓AM.Y.x_slcR, ↓AM.Y.x_slcL, ↓AM.Y.b_len_tup, ↓AM.Y.b_len_rol, ↓AM.Y.b_len_ref, ↓AM.Y.b_isi, ↓AM.Y.b_isi2, ↓AM.Y.b_int, ↓AM.Y.b_intb, ↓AM.Y.b_sum, ↓AM.Y.b_max2, ↓AM.Y.b_min2, ↓AM.Y.b_max1, ↓AM.Y.b_min1, ↓AM.Y.b_lst_tup, ↓AM.Y.b_lst_rol, ↓AM.Y.b_lst_ref, ↓AM.Y.b_all, ↓AM.Y.b_any, ↓AM.Y.k_app, ↓AM.Y.k_bits, ↓AM.Y.k_cnt, ↓AM.Y.m_app, ↓AM.Y.m_bits, ↓AM.Y.n_add, ↓AM.Y.n_sub, AM.wp_ok, AM.wp_no, ↓AM.wp_ret, ↓AM.wp_fail, ↓AM.wp_end, ↓AM.thn_nx, ↓AM.thn_rt, ↓AM.thn_bk, ↓AM.thn_ct, ↓AM.thn_xc, ↓AM.endP_nx, ↓AM.endP_rt, ↓AM.endP_xc, ↓AM.lpP_nx, ↓AM.lpP_ct, ↓AM.lpP_bk, ↓AM.lpP_rt, ↓AM.lpP_xc, ↓AM.Y.ifB_bl, ↓AM.Y.isI_int, ↓AM.Y.isT_tup, ↓AM.Y.isS_some, ↓AM.Y.isSS_some, ↓AM.Y.isO_lst, ↓AM.Y.isO_dct, AM.Y.ifB_bl, AM.Y.isI_int, AM.Y.isT_tup, AM.Y.isS_some, AM.Y.isSS_some, AM.Y.isO_lst, AM.Y.isO_dct, List.getElem?_cons_zero, List.getElem?_cons_succ, List.set_cons_zero, List.set_cons_succ, AM.Y.at0, AM.Y.at1, AM.Y.at2, AM.Y.at3, AM.Y.srcV, AM.Y.enumV, AM.tyOf, AM.tyIs, AM.isiV, AM.Y.isNon_non, AM.Y.isNon_bl, AM.Y.isNon_int, AM.Y.isNon_str, AM.Y.isNon_tup, AM.Y.isNon_rol, AM.Y.isNon_ref, Bool.not_true, Bool.not_false, Bool.true_eq_false, Bool.false_eq_true, ↓reduceIte, decide_true, decide_false, decide_eq_true_eq, Option.map_some, Option.map_none, Option.isSome_some, Option.isSome_none, List.length_cons, List.length_nil, List.isEmpty_cons, List.isEmpty_nil, true_and, and_true, Bool.or_false, Bool.false_or, Bool.or_true, Bool.true_or, Nat.zero_add, Nat.reduceAdd, AM.lim, Nat.reduceLeDiff, List.set, AM.wipeE, AM.Y.xcP, reduceCtorEq, imp_self, implies_true, not_false_eq_true, eqD_str kS kL, eqD_str kS kS, qSL, beq_self_eq_true]
      exact ⟨f, _, rfl⟩
    | root =>
      dsimp only [Ev.v]
      simp -implicitDefEqProofs only [↓AM.Y.y_var, ↓AM.Y.y_non, ↓AM.Y.y_bl, ↓AM.Y.y_int, ↓AM.Y.y_str, ↓AM.Y.y_ty, ↓AM.Y.y_tup, ↓AM.Y.y_lst, ↓AM.Y.y_dct0, ↓AM.Y.y_bin, ↓AM.Y.y_neg, ↓AM.Y.y_not, ↓AM.Y.y_and, ↓AM.Y.y_or, ↓AM.Y.y_cmp, ↓AM.Y.y_cmp2, ↓AM.Y.y_isN, ↓AM.Y.y_ntN, ↓AM.Y.y_isB, ↓AM.Y.y_ntB, ↓AM.Y.y_ife, ↓AM.Y.y_call, ↓AM.Y.y_bi, ↓AM.Y.y_mt, ↓AM.Y.y_idx, ↓AM.Y.y_slc, ↓AM.Y.y_lc, ↓AM.Y.y_lrng, ↓AM.Y.y_nil, ↓AM.Y.y_cons, ↓AM.Y.y_none, ↓AM.Y.y_some, ↓AM.Y.y_cnone, ↓AM.Y.y_csome, ↓AM.Y.t_not, ↓AM.Y.t_and, ↓AM.Y.t_or, ↓AM.Y.t_var, ↓AM.Y.t_cmp, ↓AM.Y.t_cmp2, ↓AM.Y.t_isN, ↓AM.Y.t_ntN, ↓AM.Y.t_isB, ↓AM.Y.t_ntB, ↓AM.Y.t_call, ↓AM.Y.t_bi, ↓AM.Y.t_idx, ↓AM.Y.i_seq, ↓AM.Y.i_rng1, ↓AM.Y.i_rng2, ↓AM.Y.i_enum, ↓AM.Y.i_zip, ↓AM.Y.g_nm, ↓AM.Y.g_tup, ↓AM.Y.g_sub, ↓AM.Y.g_nil, ↓AM.Y.g_cons, ↓AM.Y.s_nil', ↓AM.Y.s_cons', ↓AM.Y.s_asg, ↓AM.Y.s_asg2', ↓AM.Y.s_asg3', ↓AM.Y.s_par2', ↓AM.Y.s_par3', ↓AM.Y.s_aug', ↓AM.Y.s_expr', ↓AM.Y.s_ret', ↓AM.Y.s_retN', ↓AM.Y.s_iff', ↓AM.Y.s_for', ↓AM.Y.s_whl', ↓AM.Y.s_pass', ↓AM.Y.s_brk', ↓AM.Y.s_cnt', ↓AM.Y.s_never', ↓AM.Y.truth_bl, ↓AM.Y.truth_non, ↓AM.Y.truth_int, ↓AM.Y.truth_tup, ↓AM.Y.truth_rol, ↓AM.Y.truth_ref, ↓AM.Y.o_add, ↓AM.Y.o_sub, ↓AM.Y.o_mul, ↓AM.Y.o_mod, ↓AM.Y.o_fdv, ↓AM.Y.o_pow, ↓AM.Y.o_addL, ↓AM.Y.c_eq, ↓AM.Y.c_ne, ↓AM.Y.c_lt, ↓AM.Y.c_le, ↓AM.Y.c_gt, ↓AM.Y.c_ge, ↓AM.Y.c_inn, ↓AM.Y.c_nin, ↓AM.Y.has_dct, ↓AM.Y.x_tup, ↓AM.Y.x_rol, ↓AM.Y.x_ref, ↓AM.Y.x_set, ↓AM.Y.x_slcR, ↓AM.Y.x_slcL, ↓AM.Y.b_len_tup, ↓AM.Y.b_len_rol, ↓AM.Y.b_len_ref, ↓AM.Y.b_isi, ↓AM.Y.b_isi2, ↓AM.Y.b_int, ↓AM.Y.b_intb, ↓AM.Y.b_sum, ↓AM.Y.b_max2, ↓AM.Y.b_min2, ↓AM.Y.b_max1, ↓AM.Y.b_min1, ↓AM.Y.b_lst_tup, ↓AM.Y.b_lst_rol, ↓AM.Y.b_lst_ref, ↓AM.Y.b_all, ↓AM.Y.b_any, ↓AM.Y.k_app, ↓AM.Y.k_bits, ↓AM.Y.k_cnt, ↓AM.Y.m_app, ↓AM.Y.m_bits, ↓AM.Y.n_add, ↓AM.Y.n_sub, AM.wp_ok, AM.wp_no, ↓AM.wp_ret, ↓AM.wp_fail, ↓AM.wp_end, ↓AM.thn_nx, ↓AM.thn_rt, ↓AM.thn_bk, ↓AM.thn_ct, ↓AM.thn_xc, ↓AM.endP_nx, ↓AM.endP_rt, ↓AM.endP_xc, ↓AM.lpP_nx, ↓AM.lpP_ct, ↓AM.lpP_bk, ↓AM.lpP_rt, ↓AM.lpP_xc, ↓AM.Y.ifB_bl, ↓AM.Y.isI_int, ↓AM.Y.isT_tup, ↓AM.Y.isS_some, ↓AM.Y.isSS_some, ↓AM.Y.isO_lst, ↓AM.Y.isO_dct, AM.Y.ifB_bl, AM.Y.isI_int, AM.Y.isT_tup, AM.Y.isS_some, AM.Y.isSS_some, AM.Y.isO_lst, AM.Y.isO_dct, List.getElem?_cons_zero, List.getElem?_cons_succ, List.set_cons_zero, List.set_cons_succ, AM.Y.at0, AM.Y.at1, AM.Y.at2, AM.Y.at3, AM.Y.srcV, AM.Y.enumV, AM.tyOf, AM.tyIs, AM.isiV, AM.Y.isNon_non, AM.Y.isNon_bl, AM.Y.isNon_int, AM.Y.isNon_str, AM.Y.isNon_tup, AM.Y.isNon_rol, AM.Y.isNon_ref, Bool.not_true, Bool.not_false, Bool.true_eq_false, Bool.false_eq_true, ↓reduceIte, decide_true, decide_false, decide_eq_true_eq, Option.map_some, Option.map_none, Option.isSome_some, Option.isSome_none, List.length_cons, List.length_nil, List.isEmpty_cons, List.isEmpty_nil, true_and, and_true, Bool.or_false, Bool.false_or, Bool.or_true, Bool.true_or, Nat.zero_add, Nat.reduceAdd, AM.lim, Nat.reduceLeDiff, List.set, AM.wipeE, AM.Y.xcP, reduceCtorEq, imp_self, implies_true, not_false_eq_true, eqD_str kR kL, eqD_str kR kS, qRL, qRS, beq_self_eq_true]
      exact ⟨f, _, rfl⟩
  · obtain ⟨f, t, rfl⟩ := I
    have e : (l.take m).take ((l.take m).map Ev.v).length = l.take m := by rw [List.length_map]; exact List.take_length
    rw [e]
    simp -implicitDefEqProofs only [↓AM.Y.y_var, ↓AM.Y.y_non, ↓AM.Y.y_bl, ↓AM.Y.y_int, ↓AM.Y.y_str, ↓AM.Y.y_ty, ↓AM.Y.y_tup, ↓AM.Y.y_lst, ↓AM.Y.y_dct0, ↓AM.Y.y_bin, ↓AM.Y.y_neg, ↓AM.Y.y_not, ↓AM.Y.y_and, ↓AM.Y.y_or, ↓AM.Y.y_cmp, ↓AM.Y.y_cmp2, ↓AM.Y.y_isN, ↓AM.Y.y_ntN, ↓AM.Y.y_isB, ↓AM.Y.y_ntB, ↓AM.Y.y_ife, ↓AM.Y.y_call, ↓AM.Y.y_bi, ↓AM.Y.y_mt, ↓AM.Y.y_idx, ↓AM.Y.y_slc, ↓AM.Y.y_lc, ↓AM.Y.y_lrng, ↓AM.Y.y_nil, ↓AM.Y.y_cons, ↓AM.Y.y_none, ↓AM.Y.y_some, ↓AM.Y.y_cnone, ↓AM.Y.y_csome, ↓AM.Y.t_not, ↓AM.Y.t_and, ↓AM.Y.t_or, ↓AM.Y.t_var, ↓AM.Y.t_cmp, ↓AM.Y.t_cmp2, ↓AM.Y.t_isN, ↓AM.Y.t_ntN, ↓AM.Y.t_isB, ↓AM.Y.t_ntB, ↓AM.Y.t_call, ↓AM.Y.t_bi, ↓AM.Y.t_idx, ↓AM.Y.i_seq, ↓AM.Y.i_rng1, ↓AM.Y.i_rng2, ↓AM.Y.i_enum, ↓AM.Y.i_zip, ↓AM.Y.g_nm, ↓AM.Y.g_tup, ↓AM.Y.g_sub, ↓AM.Y.g_nil, ↓AM.Y.g_cons, ↓AM.Y.s_nil', ↓AM.Y.s_cons', ↓AM.Y.s_asg, ↓AM.Y.s_asg2', ↓AM.Y.s_asg3', ↓AM.Y.s_par2', ↓AM.Y.s_par3', ↓AM.Y.s_aug', ↓AM.Y.s_expr', ↓AM.Y.s_ret', ↓AM.Y.s_retN', ↓AM.Y.s_iff', ↓AM.Y.s_for', ↓AM.Y.s_whl', ↓AM.Y.s_pass', ↓AM.Y.s_brk', ↓AM.Y.s_cnt', ↓AM.Y.s_never', ↓AM.Y.truth_bl, ↓AM.Y.truth_non, ↓AM.Y.truth_int, ↓AM.Y.truth_tup, ↓AM.Y.truth_rol, ↓AM.Y.truth_ref, ↓AM.Y.o_add, ↓AM.Y.o_sub, ↓AM.Y.o_mul, ↓AM.Y.o_mod, ↓AM.Y.o_fdv, ↓AM.Y.o_pow, ↓AM.Y.o_addL, ↓AM.Y.c_eq, ↓AM.Y.c_ne, ↓AM.Y.c_lt, ↓AM.Y.c_le, ↓AM.Y.c_gt, ↓AM.Y.c_ge, ↓AM.Y.c_inn, ↓AM.Y.c_nin, ↓AM.Y.has_dct, ↓AM.Y.x_tup, ↓AM.Y.x_rol, ↓AM.Y.x_ref, ↓AM.Y.x_set, ↓AM.Y.x_slcR, ↓AM.Y.x_slcL, ↓AM.Y.b_len_tup, ↓AM.Y.b_len_rol, ↓AM.Y.b_len_ref, ↓AM.Y.b_isi, ↓AM.Y.b_isi2, ↓AM.Y.b_int, ↓AM.Y.b_intb, ↓AM.Y.b_sum, ↓AM.Y.b_max2, ↓AM.Y.b_min2, ↓AM.Y.b_max1, ↓AM.Y.b_min1, ↓AM.Y.b_lst_tup, ↓AM.Y.b_lst_rol, ↓AM.Y.b_lst_ref, ↓AM.Y.b_all, ↓AM.Y.b_any, ↓AM.Y.k_app, ↓AM.Y.k_bits, ↓AM.Y.k_cnt, ↓AM.Y.m_app, ↓AM.Y.m_bits, ↓AM.Y.n_add, ↓AM.Y.n_sub, AM.wp_ok, AM.wp_no, ↓AM.wp_ret, ↓AM.wp_fail, ↓AM.wp_end, ↓AM.thn_nx, ↓AM.thn_rt, ↓AM.thn_bk, ↓AM.thn_ct, ↓AM.thn_xc, ↓AM.endP_nx, ↓AM.endP_rt, ↓AM.endP_xc, ↓AM.lpP_nx, ↓AM.lpP_ct, ↓AM.lpP_bk, ↓AM.lpP_rt, ↓AM.lpP_xc, ↓AM.Y.ifB_bl, ↓AM.Y.isI_int, ↓AM.Y.isT_tup, ↓AM.Y.isS_some, ↓AM.Y.isSS_some, ↓AM.Y.isO_lst, ↓AM.Y.isO_dct, AM.Y.ifB_bl, AM.Y.isI_int, AM.Y.isT_tup, AM.Y.isS_some, AM.Y.isSS_some, AM.Y.isO_lst, AM.Y.isO_dct, List.getElem?_cons_zero, List.getElem?_cons_succ, List.set_cons_zero, List.set_cons_succ, AM.Y.at0, AM.Y.at1, AM.Y.at2, AM.Y.at3, AM.Y.srcV, AM.Y.enumV, AM.tyOf, AM.tyIs, AM.isiV, AM.Y.isNon_non, AM.Y.isNon_bl, AM.Y.isNon_int, AM.Y.isNon_str, AM.Y.isNon_tup, AM.Y.isNon_rol, AM.Y.isNon_ref, Bool.not_true, Bool.not_false, Bool.true_eq_false, Bool.false_eq_true, ↓reduceIte, decide_true, decide_false, decide_eq_true_eq, Option.map_some, Option.map_none, Option.isSome_some, Option.isSome_none, List.length_cons, List.length_nil, List.isEmpty_cons, List.isEmpty_nil, true_and, and_true, Bool.or_false, Bool.false_or, Bool.or_true, Bool.true_or, Nat.zero_add, Nat.reduceAdd, AM.lim, Nat.reduceLeDiff, List.set, AM.wipeE, AM.Y.xcP, reduceCtorEq, imp_self, implies_true, not_false_eq_true]
    exact (Fr.alloc _).trans f
theorem w_check_moment (hr : h[r]? = some (.lst (l.map Ev.v))) (g : Good l) (hl : l.length ≤ 1000) {m : Nat} (hm : m ≤ l.length) : wp (callD fns 100000 (d + 4) 5 [.ref r, .int m] h) (fun v h' => Fr [] h h') NoX := by
  rw [call_eq (fns := fns) (W := 100000) (d := d + 3) (g := 5) (f := f_check_moment) rfl (us := [.ref r, .int m]) (vs := [.ref r, .int m]) rfl rfl, wp_end]
  show wp (exSs (callD fns 100000 (d + 3)) 100000 [some (.ref r), some (.int m)] f_check_moment.body h) _ _
  unfold f_check_moment
  have z : ¬ ((l.length : Int) < (m : Int)) := by omega
  simp -implicitDefEqProofs only [↓AM.Y.y_var, ↓AM.Y.y_non, ↓AM.Y.y_bl, ↓AM.Y.y_int, ↓AM.Y.y_str, ↓AM.Y.y_ty, ↓AM.Y.y_tup, ↓AM.Y.y_lst, ↓AM.Y.y_dct0, ↓AM.Y.y_bin, ↓AM.Y.y_neg, ↓AM.Y.y_not, ↓AM.Y.y_and, ↓AM.Y.y_or, ↓AM.Y.y_cmp, ↓AM.Y.y_cmp2, ↓AM.Y.y_isN, ↓AM.Y.y_ntN, ↓AM.Y.y_isB, ↓AM.Y.y_ntB, ↓AM.Y.y_ife, ↓AM.Y.y_call, ↓AM.Y.y_bi, ↓AM.Y.y_mt, ↓AM.Y.y_idx, ↓AM.Y.y_slc, ↓AM.Y.y_lc, ↓AM.Y.y_lrng, ↓AM.Y.y_nil, ↓AM.Y.y_cons, ↓AM.Y.y_none, ↓AM.Y.y_some, ↓AM.Y.y_cnone, ↓AM.Y.y_csome, ↓AM.Y.t_not, ↓AM.Y.t_and, ↓AM.Y.t_or, ↓AM.Y.t_var, ↓AM.Y.t_cmp, ↓AM.Y.t_cmp2, ↓AM.Y.t_isN, ↓AM.Y.t_ntN, ↓AM.Y.t_isB, ↓AM.Y.t_ntB, ↓AM.Y.t_call, ↓AM.Y.t_bi, ↓AM.Y.t_idx, ↓AM.Y.i_seq, ↓AM.Y.i_rng1, ↓AM.Y.i_rng2, ↓AM.Y.i_enum, ↓AM.Y.i_zip, ↓AM.Y.g_nm, ↓AM.Y.g_tup, ↓AM.Y.g_sub, ↓AM.Y.g_nil, ↓AM.Y.g_cons, ↓AM.Y.s_nil', ↓AM.Y.s_cons', ↓AM.Y.s_asg, ↓AM.Y.s_asg2', ↓AM.Y.s_asg3', ↓AM.Y.s_par2', ↓AM.Y.s_par3', ↓AM.Y.s_aug', ↓AM.Y.s_expr', ↓AM.Y.s_ret', ↓AM.Y.s_retN', ↓AM.Y.s_iff', ↓AM.Y.s_for', ↓AM.Y.s_whl', ↓AM.Y.s_pass', ↓AM.Y.s_brk', ↓AM.Y.s_cnt', ↓AM.Y.s_never', ↓AM.Y.truth_bl, ↓AM.Y.truth_non, ↓AM.Y.truth_int, ↓AM.Y.truth_tup, ↓AM.Y.truth_rol, ↓AM.Y.truth_ref, ↓AM.Y.o_add, ↓AM.Y.o_sub, ↓AM.Y.o_mul, ↓AM.Y.o_mod, ↓AM.Y.o_fdv, ↓AM.Y.o_pow, ↓AM.Y.o_addL, ↓AM.Y.c_eq, ↓AM.Y.c_ne, ↓AM.Y.c_lt, ↓AM.Y.c_le, ↓AM.Y.c_gt, ↓AM.Y.c_ge, ↓AM.Y.c_inn, ↓AM.Y.c_nin, ↓AM.Y.has_dct, ↓AM.Y.x_tup, ↓AM.Y.x_rol, ↓AM.Y.x_ref, ↓AM.Y.x_set, ↓AM.Y.x_slcR, ↓AM.Y.x_slcL, ↓AM.Y.b_len_tup, ↓AM.Y.b_len_rol, ↓AM.Y.b_len_ref, ↓AM.Y.b_isi, ↓AM.Y.b_isi2, ↓AM.Y.b_int, ↓AM.Y.b_intb, ↓AM.Y.b_sum, ↓AM.Y.b_max2, ↓AM.Y.b_min2, ↓AM.Y.b_max1, ↓AM.Y.b_min1, ↓AM.Y.b_lst_tup, ↓AM.Y.b_lst_rol, ↓AM.Y.b_lst_ref, ↓AM.Y.b_all, ↓AM.Y.b_any, ↓AM.Y.k_app, ↓AM.Y.k_bits, ↓AM.Y.k_cnt, ↓AM.Y.m_app, ↓AM.Y.m_bits, ↓AM.Y.n_add, ↓AM.Y.n_sub, AM.wp_ok, AM.wp_no, ↓AM.wp_ret, ↓AM.wp_fail, ↓AM.wp_end, ↓AM.thn_nx, ↓AM.thn_rt, ↓AM.thn_bk, ↓AM.thn_ct, ↓AM.thn_xc, ↓AM.endP_nx, ↓AM.endP_rt, ↓AM.endP_xc, ↓AM.lpP_nx, ↓AM.lpP_ct, ↓AM.lpP_bk, ↓AM.lpP_rt, ↓AM.lpP_xc, ↓AM.Y.ifB_bl, ↓AM.Y.isI_int, ↓AM.Y.isT_tup, ↓AM.Y.isS_some, ↓AM.Y.isSS_some, ↓AM.Y.isO_lst, ↓AM.Y.isO_dct, AM.Y.ifB_bl, AM.Y.isI_int, AM.Y.isT_tup, AM.Y.isS_some, AM.Y.isSS_some, AM.Y.isO_lst, AM.Y.isO_dct, List.getElem?_cons_zero, List.getElem?_cons_succ, List.set_cons_zero, List.set_cons_succ, AM.Y.at0, AM.Y.at1, AM.Y.at2, AM.Y.at3, AM.Y.srcV, AM.Y.enumV, AM.tyOf, AM.tyIs, AM.isiV, AM.Y.isNon_non, AM.Y.isNon_bl, AM.Y.isNon_int, AM.Y.isNon_str, AM.Y.isNon_tup, AM.Y.isNon_rol, AM.Y.isNon_ref, Bool.not_true, Bool.not_false, Bool.true_eq_false, Bool.false_eq_true, ↓reduceIte, decide_true, decide_false, decide_eq_true_eq, Option.map_some, Option.map_none, Option.isSome_some, Option.isSome_none, List.length_cons, List.length_nil, List.isEmpty_cons, List.isEmpty_nil, true_and, and_true, Bool.or_false, Bool.false_or, Bool.or_true, Bool.true_or, Nat.zero_add, Nat.reduceAdd, AM.lim, Nat.reduceLeDiff, List.set, AM.wipeE, AM.Y.xcP, reduceCtorEq, imp_self, implies_true, not_false_eq_true]
  refine wp_q (w_check_life hr g hl) fun v h2 f => ?_
  try simp -implicitDefEqProofs only [↓AM.Y.y_var, ↓AM.Y.y_non, ↓AM.Y.y_bl, ↓AM.Y.y_int, ↓AM.Y.y_str, ↓AM.Y.y_ty, ↓AM.Y.y_tup, ↓AM.Y.y_lst, ↓AM.Y.y_dct0, ↓AM.Y.y_bin, ↓AM.Y.y_neg, ↓AM.Y.y_not, ↓AM.Y.y_and, ↓AM.Y.y_or, ↓AM.Y.y_cmp, ↓AM.Y.y_cmp2, ↓AM.Y.y_isN, ↓AM.Y.y_ntN, ↓AM.Y.y_isB, ↓AM.Y.y_ntB, ↓AM.Y.y_ife, ↓AM.Y.y_call, ↓AM.Y.y_bi, ↓AM.Y.y_mt, ↓AM.Y.y_idx, ↓AM.Y.y_slc, ↓AM.Y.y_lc, ↓AM.Y.y_lrng, ↓AM.Y.y_nil, ↓AM.Y.y_cons, ↓AM.Y.y_none, ↓AM.Y.y_some, ↓AM.Y.y_cnone, ↓AM.Y.y_csome, ↓AM.Y.t_not, ↓AM.Y.t_and, ↓AM.Y.t_or, ↓AM.Y.t_var, ↓AM.Y.t_cmp, ↓AM.Y.t_cmp2, ↓AM.Y.t_isN, ↓AM.Y.t_ntN, ↓AM.Y.t_isB, ↓AM.Y.t_ntB, ↓AM.Y.t_call, ↓AM.Y.t_bi, ↓AM.Y.t_idx, ↓AM.Y.i_seq, ↓AM.Y.i_rng1, ↓AM.Y.i_rng2, ↓AM.Y.i_enum, ↓AM.Y.i_zip, ↓AM.Y.g_nm, ↓AM.Y.g_tup, ↓AM.Y.g_sub, ↓AM.Y.g_nil, ↓AM.Y.g_cons, ↓AM.Y.s_nil', ↓AM.Y.s_cons', ↓AM.Y.s_asg, ↓AM.Y.s_asg2', ↓AM.Y.s_asg3', ↓AM.Y.s_par2', ↓AM.Y.s_par3', ↓AM.Y.s_aug', ↓AM.Y.s_expr', ↓AM.Y.s_ret', ↓AM.Y.s_retN', ↓AM.Y.s_iff', ↓AM.Y.s_for', ↓AM.Y.s_whl', ↓AM.Y.s_pass', ↓AM.Y.s_brk', ↓AM.Y.s_cnt', ↓AM.Y.s_never', ↓AM.Y.truth_bl, ↓AM.Y.truth_non, ↓AM.Y.truth_int, ↓AM.Y.truth_tup, ↓AM.Y.truth_rol, ↓AM.Y.truth_ref, ↓AM.Y.o_add, ↓AM.Y.o_sub, ↓AM.Y.o_mul, ↓AM.Y.o_mod, ↓AM.Y.o_fdv, ↓AM.Y.o_pow, ↓AM.Y.o_addL, ↓AM.Y.c_eq, ↓AM.Y.c_ne, ↓AM.Y.c_lt, ↓AM.Y.c_le, ↓AM.Y.c_gt, ↓AM.Y.c_ge, ↓AM.Y.c_inn, ↓AM.Y.c_nin, ↓AM.Y.has_dct, ↓AM.Y.x_tup, ↓AM.Y.x_rol, ↓AM.Y.x_ref, ↓AM.Y.x_set, ↓AM.Y.x_slcR, ↓AM.Y.x_slcL, ↓AM.Y.b_len_tup, ↓AM.Y.b_len_rol, ↓AM.Y.b_len_ref, ↓AM.Y.b_isi, ↓AM.Y.b_isi2, ↓AM.Y.b_int, ↓AM.Y.b_intb, ↓AM.Y.b_sum, ↓AM.Y.b_max2, ↓AM.Y.b_min2, ↓AM.Y.b_max1, ↓AM.Y.b_min1, ↓AM.Y.b_lst_tup, ↓AM.Y.b_lst_rol, ↓AM.Y.b_lst_ref, ↓AM.Y.b_all, ↓AM.Y.b_any, ↓AM.Y.k_app, ↓AM.Y.k_bits, ↓AM.Y.k_cnt, ↓AM.Y.m_app, ↓AM.Y.m_bits, ↓AM.Y.n_add, ↓AM.Y.n_sub, AM.wp_ok, AM.wp_no, ↓AM.wp_ret, ↓AM.wp_fail, ↓AM.wp_end, ↓AM.thn_nx, ↓AM.thn_rt, ↓AM.thn_bk, ↓AM.thn_ct, ↓AM.thn_xc, ↓AM.endP_nx, ↓AM.endP_rt, ↓AM.endP_xc, ↓AM.lpP_nx, ↓AM.lpP_ct, ↓AM.lpP_bk, ↓AM.lpP_rt, ↓AM.lpP_xc, ↓AM.Y.ifB_bl, ↓AM.Y.isI_int, ↓AM.Y.isT_tup, ↓AM.Y.isS_some, ↓AM.Y.isSS_some, ↓AM.Y.isO_lst, ↓AM.Y.isO_dct, AM.Y.ifB_bl, AM.Y.isI_int, AM.Y.isT_tup, AM.Y.isS_some, AM.Y.isSS_some, AM.Y.isO_lst, AM.Y.isO_dct, List.getElem?_cons_zero, List.getElem?_cons_succ, List.set_cons_zero, List.set_cons_succ, AM.Y.at0, AM.Y.at1, AM.Y.at2, AM.Y.at3, AM.Y.srcV, AM.Y.enumV, AM.tyOf, AM.tyIs, AM.isiV, AM.Y.isNon_non, AM.Y.isNon_bl, AM.Y.isNon_int, AM.Y.isNon_str, AM.Y.isNon_tup, AM.Y.isNon_rol, AM.Y.isNon_ref, Bool.not_true, Bool.not_false, Bool.true_eq_false, Bool.false_eq_true, ↓reduceIte, decide_true, decide_false, decide_eq_true_eq, Option.map_some, Option.map_none, Option.isSome_some, Option.isSome_none, List.length_cons, List.length_nil, List.isEmpty_cons, List.isEmpty_nil, true_and, and_true, Bool.or_false, Bool.false_or, Bool.or_true, Bool.true_or, Nat.zero_add, Nat.reduceAdd, AM.lim, Nat.reduceLeDiff, List.set, AM.wipeE, AM.Y.xcP, reduceCtorEq, imp_self, implies_true, not_false_eq_true]
  refine wp_q (w_count (d := d + 2) (n := m)) fun v h3 q => ?_
  obtain ⟨rfl, rfl⟩ := q
  simp -implicitDefEqProofs only [↓AM.Y.y_var, ↓AM.Y.y_non, ↓AM.Y.y_bl, ↓AM.Y.y_int, ↓AM.Y.y_str, ↓AM.Y.y_ty, ↓AM.Y.y_tup, ↓AM.Y.y_lst, ↓AM.Y.y_dct0, ↓AM.Y.y_bin, ↓AM.Y.y_neg, ↓AM.Y.y_not, ↓AM.Y.y_and, ↓AM.Y.y_or, ↓AM.Y.y_cmp, ↓AM.Y.y_cmp2, ↓AM.Y.y_isN, ↓AM.Y.y_ntN, ↓AM.Y.y_isB, ↓AM.Y.y_ntB, ↓AM.Y.y_ife, ↓AM.Y.y_call, ↓AM.Y.y_bi, ↓AM.Y.y_mt, ↓AM.Y.y_idx, ↓AM.Y.y_slc, ↓AM.Y.y_lc, ↓AM.Y.y_lrng, ↓AM.Y.y_nil, ↓AM.Y.y_cons, ↓AM.Y.y_none, ↓AM.Y.y_some, ↓AM.Y.y_cnone, ↓AM.Y.y_csome, ↓AM.Y.t_not, ↓AM.Y.t_and, ↓AM.Y.t_or, ↓AM.Y.t_var, ↓AM.Y.t_cmp, ↓AM.Y.t_cmp2, ↓AM.Y.t_isN, ↓AM.Y.t_ntN, ↓AM.Y.t_isB, ↓AM.Y.t_ntB, ↓AM.Y.t_call, ↓AM.Y.t_bi, ↓AM.Y.t_idx, ↓AM.Y.i_seq, ↓AM.Y.i_rng1, ↓AM.Y.i_rng2, ↓AM.Y.i_enum, ↓AM.Y.i_zip, ↓AM.Y.g_nm, ↓AM.Y.g_tup, ↓AM.Y.g_sub, ↓AM.Y.g_nil, ↓AM.Y.g_cons, ↓AM.Y.s_nil', ↓AM.Y.s_cons', ↓AM.Y.s_asg, ↓AM.Y.s_asg2', ↓AM.Y.s_asg3', ↓AM.Y.s_par2', ↓AM.Y.s_par3', ↓AM.Y.s_aug', ↓AM.Y.s_expr', ↓AM.Y.s_ret', ↓AM.Y.s_retN', ↓AM.Y.s_iff', ↓AM.Y.s_for', ↓AM.Y.s_whl', ↓AM.Y.s_pass', ↓AM.Y.s_brk', ↓AM.Y.s_cnt', ↓AM.Y.s_never', ↓AM.Y.truth_bl, ↓AM.Y.truth_non, ↓AM.Y.truth_int, ↓AM.Y.truth_tup, ↓AM.Y.truth_rol, ↓AM.Y.truth_ref, ↓AM.Y.o_add, ↓AM.Y.o_sub, ↓AM.Y.o_mul, ↓AM.Y.o_mod, ↓AM.Y.o_fdv, ↓AM.Y.o_pow, ↓AM.Y.o_addL, ↓AM.Y.c_eq, ↓AM.Y.c_ne, ↓AM.Y.c_lt, ↓AM.Y.c_le, ↓AM.Y.c_gt, ↓AM.Y.c_ge, ↓AM.Y.c_inn, ↓AM.Y.c_nin, ↓AM.Y.has_dct, ↓AM.Y.x_tup, ↓AM.Y.x_rol, ↓AM.Y.x_ref, ↓AM.Y.x_set, ↓AM.Y.x_slcR, ↓AM.Y.x_slcL, ↓AM.Y.b_len_tup, ↓AM.Y.b_len_rol, ↓AM.Y.b_len_ref, ↓AM.Y.b_isi, ↓AM.Y.b_isi2, ↓AM.Y.b_int, ↓AM.Y.b_intb, ↓AM.Y.b_sum, ↓AM.Y.b_max2, ↓AM.Y.b_min2, ↓AM.Y.b_max1, ↓AM.Y.b_min1, ↓AM.Y.b_lst_tup, ↓AM.Y.b_lst_rol, ↓AM.Y.b_lst_ref, ↓AM.Y.b_all, ↓AM.Y.b_any, ↓AM.Y.k_app, ↓AM.Y.k_bits, ↓AM.Y.k_cnt, ↓AM.Y.m_app, ↓AM.Y.m_bits, ↓AM.Y.n_add, ↓AM.Y.n_sub, AM.wp_ok, AM.wp_no, ↓AM.wp_ret, ↓AM.wp_fail, ↓AM.wp_end, ↓AM.thn_nx, ↓AM.thn_rt, ↓AM.thn_bk, ↓AM.thn_ct, ↓AM.thn_xc, ↓AM.endP_nx, ↓AM.endP_rt, ↓AM.endP_xc, ↓AM.lpP_nx, ↓AM.lpP_ct, ↓AM.lpP_bk, ↓AM.lpP_rt, ↓AM.lpP_xc, ↓AM.Y.ifB_bl, ↓AM.Y.isI_int, ↓AM.Y.isT_tup, ↓AM.Y.isS_some, ↓AM.Y.isSS_some, ↓AM.Y.isO_lst, ↓AM.Y.isO_dct, AM.Y.ifB_bl, AM.Y.isI_int, AM.Y.isT_tup, AM.Y.isS_some, AM.Y.isSS_some, AM.Y.isO_lst, AM.Y.isO_dct, List.getElem?_cons_zero, List.getElem?_cons_succ, List.set_cons_zero, List.set_cons_succ, AM.Y.at0, AM.Y.at1, AM.Y.at2, AM.Y.at3, AM.Y.srcV, AM.Y.enumV, AM.tyOf, AM.tyIs, AM.isiV, AM.Y.isNon_non, AM.Y.isNon_bl, AM.Y.isNon_int, AM.Y.isNon_str, AM.Y.isNon_tup, AM.Y.isNon_rol, AM.Y.isNon_ref, Bool.not_true, Bool.not_false, Bool.true_eq_false, Bool.false_eq_true, ↓reduceIte, decide_true, decide_false, decide_eq_true_eq, Option.map_some, Option.map_none, Option.isSome_some, Option.isSome_none, List.length_cons, List.length_nil, List.isEmpty_cons, List.isEmpty_nil, true_and, and_true, Bool.or_false, Bool.false_or, Bool.or_true, Bool.true_or, Nat.zero_add, Nat.reduceAdd, AM.lim, Nat.reduceLeDiff, List.set, AM.wipeE, AM.Y.xcP, reduceCtorEq, imp_self, implies_true, not_false_eq_true, f.get hr, List.length_map, z]
  exact f
theorem w_given_up (hr : h[r]? = some (.lst (l.map Ev.v))) (g : Good l) (hl : l.length ≤ 1000) {m : Nat} (hm : m ≤ l.length) : wp (callD fns 100000 (d + 5) 6 [.ref r, .int m] h) (fun v h' => v = .int (tally (l.take m)).2.2 ∧ Fr [] h h') NoX := by
  rw [call_eq (fns := fns) (W := 100000) (d := d + 4) (g := 6) (f := f_given_up) rfl (us := [.ref r, .int m]) (vs := [.ref r, .int m]) rfl rfl, wp_end]
  show wp (exSs (callD fns 100000 (d + 4)) 100000 [some (.ref r), some (.int m)] f_given_up.body h) _ _
  unfold f_given_up
  simp -implicitDefEqProofs only [↓AM.Y.y_var, ↓AM.Y.y_non, ↓AM.Y.y_bl, ↓AM.Y.y_int, ↓AM.Y.y_str, ↓AM.Y.y_ty, ↓AM.Y.y_tup, ↓AM.Y.y_lst, ↓AM.Y.y_dct0, ↓AM.Y.y_bin, ↓AM.Y.y_neg, ↓AM.Y.y_not, ↓AM.Y.y_and, ↓AM.Y.y_or, ↓AM.Y.y_cmp, ↓AM.Y.y_cmp2, ↓AM.Y.y_isN, ↓AM.Y.y_ntN, ↓AM.Y.y_isB, ↓AM.Y.y_ntB, ↓AM.Y.y_ife, ↓AM.Y.y_call, ↓AM.Y.y_bi, ↓AM.Y.y_mt, ↓AM.Y.y_idx, ↓AM.Y.y_slc, ↓AM.Y.y_lc, ↓AM.Y.y_lrng, ↓AM.Y.y_nil, ↓AM.Y.y_cons, ↓AM.Y.y_none, ↓AM.Y.y_some, ↓AM.Y.y_cnone, ↓AM.Y.y_csome, ↓AM.Y.t_not, ↓AM.Y.t_and, ↓AM.Y.t_or, ↓AM.Y.t_var, ↓AM.Y.t_cmp, ↓AM.Y.t_cmp2, ↓AM.Y.t_isN, ↓AM.Y.t_ntN, ↓AM.Y.t_isB, ↓AM.Y.t_ntB, ↓AM.Y.t_call, ↓AM.Y.t_bi, ↓AM.Y.t_idx, ↓AM.Y.i_seq, ↓AM.Y.i_rng1, ↓AM.Y.i_rng2, ↓AM.Y.i_enum, ↓AM.Y.i_zip, ↓AM.Y.g_nm, ↓AM.Y.g_tup, ↓AM.Y.g_sub, ↓AM.Y.g_nil, ↓AM.Y.g_cons, ↓AM.Y.s_nil', ↓AM.Y.s_cons', ↓AM.Y.s_asg, ↓AM.Y.s_asg2', ↓AM.Y.s_asg3', ↓AM.Y.s_par2', ↓AM.Y.s_par3', ↓AM.Y.s_aug', ↓AM.Y.s_expr', ↓AM.Y.s_ret', ↓AM.Y.s_retN', ↓AM.Y.s_iff', ↓AM.Y.s_for', ↓AM.Y.s_whl', ↓AM.Y.s_pass', ↓AM.Y.s_brk', ↓AM.Y.s_cnt', ↓AM.Y.s_never', ↓AM.Y.truth_bl, ↓AM.Y.truth_non, ↓AM.Y.truth_int, ↓AM.Y.truth_tup, ↓AM.Y.truth_rol, ↓AM.Y.truth_ref, ↓AM.Y.o_add, ↓AM.Y.o_sub, ↓AM.Y.o_mul, ↓AM.Y.o_mod, ↓AM.Y.o_fdv, ↓AM.Y.o_pow, ↓AM.Y.o_addL, ↓AM.Y.c_eq, ↓AM.Y.c_ne, ↓AM.Y.c_lt, ↓AM.Y.c_le, ↓AM.Y.c_gt, ↓AM.Y.c_ge, ↓AM.Y.c_inn, ↓AM.Y.c_nin, ↓AM.Y.has_dct, ↓AM.Y.x_tup, ↓AM.Y.x_rol, ↓AM.Y.x_ref, ↓AM.Y.x_set, ↓AM.Y.x_slcR, ↓AM.Y.x_slcL, ↓AM.Y.b_len_tup, ↓AM.Y.b_len_rol, ↓AM.Y.b_len_ref, ↓AM.Y.b_isi, ↓AM.Y.b_isi2, ↓AM.Y.b_int, ↓AM.Y.b_intb, ↓AM.Y.b_sum, ↓AM.Y.b_max2, ↓AM.Y.b_min2, ↓AM.Y.b_max1, ↓AM.Y.b_min1, ↓AM.Y.b_lst_tup, ↓AM.Y.b_lst_rol, ↓AM.Y.b_lst_ref, ↓AM.Y.b_all, ↓AM.Y.b_any, ↓AM.Y.k_app, ↓AM.Y.k_bits, ↓AM.Y.k_cnt, ↓AM.Y.m_app, ↓AM.Y.m_bits, ↓AM.Y.n_add, ↓AM.Y.n_sub, AM.wp_ok, AM.wp_no, ↓AM.wp_ret, ↓AM.wp_fail, ↓AM.wp_end, ↓AM.thn_nx, ↓AM.thn_rt, ↓AM.thn_bk, ↓AM.thn_ct, ↓AM.thn_xc, ↓AM.endP_nx, ↓AM.endP_rt, ↓AM.endP_xc, ↓AM.lpP_nx, ↓AM.lpP_ct, ↓AM.lpP_bk, ↓AM.lpP_rt, ↓AM.lpP_xc, ↓AM.Y.ifB_bl, ↓AM.Y.isI_int, ↓AM.Y.isT_tup, ↓AM.Y.isS_some, ↓AM.Y.isSS_some, ↓AM.Y.isO_lst, ↓AM.Y.isO_dct, AM.Y.ifB_bl, AM.Y.isI_int, AM.Y.isT_tup, AM.Y.isS_some, AM.Y.isSS_some, AM.Y.isO_lst, AM.Y.isO_dct, List.getElem?_cons_zero, List.getElem?_cons_succ, List.set_cons_zero, List.set_cons_succ, AM.Y.at0, AM.Y.at1, AM.Y.at2, AM.Y.at3, AM.Y.srcV, AM.Y.enumV, AM.tyOf, AM.tyIs, AM.isiV, AM.Y.isNon_non, AM.Y.isNon_bl, AM.Y.isNon_int, AM.Y.isNon_str, AM.Y.isNon_tup, AM.Y.isNon_rol, AM.Y.isNon_ref, Bool.not_true, Bool.not_false, Bool.true_eq_false, Bool.false_eq_true, ↓reduceIte, decide_true, decide_false, decide_eq_true_eq, Option.map_some, Option.map_none, Option.isSome_some, Option.isSome_none, List.length_cons, List.length_nil, List.isEmpty_cons, List.isEmpty_nil, true_and, and_true, Bool.or_false, Bool.false_or, Bool.or_true, Bool.true_or, Nat.zero_add, Nat.reduceAdd, AM.lim, Nat.reduceLeDiff, List.set, AM.wipeE, AM.Y.xcP, reduceCtorEq, imp_self, implies_true, not_false_eq_true]
  refine wp_q (w_check_moment hr g hl hm) fun v h2 f => ?_
  try simp -implicitDefEqProofs only [↓AM.Y.y_var, ↓AM.Y.y_non, ↓AM.Y.y_bl, ↓AM.Y.y_int, ↓AM.Y.y_str, ↓AM.Y.y_ty, ↓AM.Y.y_tup, ↓AM.Y.y_lst, ↓AM.Y.y_dct0, ↓AM.Y.y_bin, ↓AM.Y.y_neg, ↓AM.Y.y_not, ↓AM.Y.y_and, ↓AM.Y.y_or, ↓AM.Y.y_cmp, ↓AM.Y.y_cmp2, ↓AM.Y.y_isN, ↓AM.Y.y_ntN, ↓AM.Y.y_isB, ↓AM.Y.y_ntB, ↓AM.Y.y_ife, ↓AM.Y.y_call, ↓AM.Y.y_bi, ↓AM.Y.y_mt, ↓AM.Y.y_idx, ↓AM.Y.y_slc, ↓AM.Y.y_lc, ↓AM.Y.y_lrng, ↓AM.Y.y_nil, ↓AM.Y.y_cons, ↓AM.Y.y_none, ↓AM.Y.y_some, ↓AM.Y.y_cnone, ↓AM.Y.y_csome, ↓AM.Y.t_not, ↓AM.Y.t_and, ↓AM.Y.t_or, ↓AM.Y.t_var, ↓AM.Y.t_cmp, ↓AM.Y.t_cmp2, ↓AM.Y.t_isN, ↓AM.Y.t_ntN, ↓AM.Y.t_isB, ↓AM.Y.t_ntB, ↓AM.Y.t_call, ↓AM.Y.t_bi, ↓AM.Y.t_idx, ↓AM.Y.i_seq, ↓AM.Y.i_rng1, ↓AM.Y.i_rng2, ↓AM.Y.i_enum, ↓AM.Y.i_zip, ↓AM.Y.g_nm, ↓AM.Y.g_tup, ↓AM.Y.g_sub, ↓AM.Y.g_nil, ↓AM.Y.g_cons, ↓AM.Y.s_nil', ↓AM.Y.s_cons', ↓AM.Y.s_asg, ↓AM.Y.s_asg2', ↓AM.Y.s_asg3', ↓AM.Y.s_par2', ↓AM.Y.s_par3', ↓AM.Y.s_aug', ↓AM.Y.s_expr', ↓AM.Y.s_ret', ↓AM.Y.s_retN', ↓AM.Y.s_iff', ↓AM.Y.s_for', ↓AM.Y.s_whl', ↓AM.Y.s_pass', ↓AM.Y.s_brk', ↓AM.Y.s_cnt', ↓AM.Y.s_never', ↓AM.Y.truth_bl, ↓AM.Y.truth_non, ↓AM.Y.truth_int, ↓AM.Y.truth_tup, ↓AM.Y.truth_rol, ↓AM.Y.truth_ref, ↓AM.Y.o_add, ↓AM.Y.o_sub, ↓AM.Y.o_mul, ↓AM.Y.o_mod, ↓AM.Y.o_fdv, ↓AM.Y.o_pow, ↓AM.Y.o_addL, ↓AM.Y.c_eq, ↓AM.Y.c_ne, ↓AM.Y.c_lt, ↓AM.Y.c_le, ↓AM.Y.c_gt, ↓AM.Y.c_ge, ↓AM.Y.c_inn, ↓AM.Y.c_nin, ↓AM.Y.has_dct, ↓AM.Y.x_tup, ↓AM.Y.x_rol, ↓AM.Y.x_ref, ↓AM.Y.x_set, ↓AM.Y.x_slcR, ↓AM.Y.x_slcL, ↓AM.Y.b_len_tup, ↓AM.Y.b_len_rol, ↓AM.Y.b_len_ref, ↓AM.Y.b_isi, ↓AM.Y.b_isi2, ↓AM.Y.b_int, ↓AM.Y.b_intb, ↓AM.Y.b_sum, ↓AM.Y.b_max2, ↓AM.Y.b_min2, ↓AM.Y.b_max1, ↓AM.Y.b_min1, ↓AM.Y.b_lst_tup, ↓AM.Y.b_lst_rol, ↓AM.Y.b_lst_ref, ↓AM.Y.b_all, ↓AM.Y.b_any, ↓AM.Y.k_app, ↓AM.Y.k_bits, ↓AM.Y.k_cnt, ↓AM.Y.m_app, ↓AM.Y.m_bits, ↓AM.Y.n_add, ↓AM.Y.n_sub, AM.wp_ok, AM.wp_no, ↓AM.wp_ret, ↓AM.wp_fail, ↓AM.wp_end, ↓AM.thn_nx, ↓AM.thn_rt, ↓AM.thn_bk, ↓AM.thn_ct, ↓AM.thn_xc, ↓AM.endP_nx, ↓AM.endP_rt, ↓AM.endP_xc, ↓AM.lpP_nx, ↓AM.lpP_ct, ↓AM.lpP_bk, ↓AM.lpP_rt, ↓AM.lpP_xc, ↓AM.Y.ifB_bl, ↓AM.Y.isI_int, ↓AM.Y.isT_tup, ↓AM.Y.isS_some, ↓AM.Y.isSS_some, ↓AM.Y.isO_lst, ↓AM.Y.isO_dct, AM.Y.ifB_bl, AM.Y.isI_int, AM.Y.isT_tup, AM.Y.isS_some, AM.Y.isSS_some, AM.Y.isO_lst, AM.Y.isO_dct, List.getElem?_cons_zero, List.getElem?_cons_succ, List.set_cons_zero, List.set_cons_succ, AM.Y.at0, AM.Y.at1, AM.Y.at2, AM.Y.at3, AM.Y.srcV, AM.Y.enumV, AM.tyOf, AM.tyIs, AM.isiV, AM.Y.isNon_non, AM.Y.isNon_bl, AM.Y.isNon_int, AM.Y.isNon_str, AM.Y.isNon_tup, AM.Y.isNon_rol, AM.Y.isNon_ref, Bool.not_true, Bool.not_false, Bool.true_eq_false, Bool.false_eq_true, ↓reduceIte, decide_true, decide_false, decide_eq_true_eq, Option.map_some, Option.map_none, Option.isSome_some, Option.isSome_none, List.length_cons, List.length_nil, List.isEmpty_cons, List.isEmpty_nil, true_and, and_true, Bool.or_false, Bool.false_or, Bool.or_true, Bool.true_or, Nat.zero_add, Nat.reduceAdd, AM.lim, Nat.reduceLeDiff, List.set, AM.wipeE, AM.Y.xcP, reduceCtorEq, imp_self, implies_true, not_false_eq_true]
  refine wp_q (w_counted (d := d + 3) (f.get hr) g (m := m)) fun v h3 q => ?_
  obtain ⟨rfl, f2⟩ := q
  simp -implicitDefEqProofs only [↓AM.Y.y_var, ↓AM.Y.y_non, ↓AM.Y.y_bl, ↓AM.Y.y_int, ↓AM.Y.y_str, ↓AM.Y.y_ty, ↓AM.Y.y_tup, ↓AM.Y.y_lst, ↓AM.Y.y_dct0, ↓AM.Y.y_bin, ↓AM.Y.y_neg, ↓AM.Y.y_not, ↓AM.Y.y_and, ↓AM.Y.y_or, ↓AM.Y.y_cmp, ↓AM.Y.y_cmp2, ↓AM.Y.y_isN, ↓AM.Y.y_ntN, ↓AM.Y.y_isB, ↓AM.Y.y_ntB, ↓AM.Y.y_ife, ↓AM.Y.y_call, ↓AM.Y.y_bi, ↓AM.Y.y_mt, ↓AM.Y.y_idx, ↓AM.Y.y_slc, ↓AM.Y.y_lc, ↓AM.Y.y_lrng, ↓AM.Y.y_nil, ↓AM.Y.y_cons, ↓AM.Y.y_none, ↓AM.Y.y_some, ↓AM.Y.y_cnone, ↓AM.Y.y_csome, ↓AM.Y.t_not, ↓AM.Y.t_and, ↓AM.Y.t_or, ↓AM.Y.t_var, ↓AM.Y.t_cmp, ↓AM.Y.t_cmp2, ↓AM.Y.t_isN, ↓AM.Y.t_ntN, ↓AM.Y.t_isB, ↓AM.Y.t_ntB, ↓AM.Y.t_call, ↓AM.Y.t_bi, ↓AM.Y.t_idx, ↓AM.Y.i_seq, ↓AM.Y.i_rng1, ↓AM.Y.i_rng2, ↓AM.Y.i_enum, ↓AM.Y.i_zip, ↓AM.Y.g_nm, ↓AM.Y.g_tup, ↓AM.Y.g_sub, ↓AM.Y.g_nil, ↓AM.Y.g_cons, ↓AM.Y.s_nil', ↓AM.Y.s_cons', ↓AM.Y.s_asg, ↓AM.Y.s_asg2', ↓AM.Y.s_asg3', ↓AM.Y.s_par2', ↓AM.Y.s_par3', ↓AM.Y.s_aug', ↓AM.Y.s_expr', ↓AM.Y.s_ret', ↓AM.Y.s_retN', ↓AM.Y.s_iff', ↓AM.Y.s_for', ↓AM.Y.s_whl', ↓AM.Y.s_pass', ↓AM.Y.s_brk', ↓AM.Y.s_cnt', ↓AM.Y.s_never', ↓AM.Y.truth_bl, ↓AM.Y.truth_non, ↓AM.Y.truth_int, ↓AM.Y.truth_tup, ↓AM.Y.truth_rol, ↓AM.Y.truth_ref, ↓AM.Y.o_add, ↓AM.Y.o_sub, ↓AM.Y.o_mul, ↓AM.Y.o_mod, ↓AM.Y.o_fdv, ↓AM.Y.o_pow, ↓AM.Y.o_addL, ↓AM.Y.c_eq, ↓AM.Y.c_ne, ↓AM.Y.c_lt, ↓AM.Y.c_le, ↓AM.Y.c_gt, ↓AM.Y.c_ge, ↓AM.Y.c_inn, ↓AM.Y.c_nin, ↓AM.Y.has_dct, ↓AM.Y.x_tup, ↓AM.Y.x_rol, ↓AM.Y.x_ref, ↓AM.Y.x_set, ↓AM.Y.x_slcR, ↓AM.Y.x_slcL, ↓AM.Y.b_len_tup, ↓AM.Y.b_len_rol, ↓AM.Y.b_len_ref, ↓AM.Y.b_isi, ↓AM.Y.b_isi2, ↓AM.Y.b_int, ↓AM.Y.b_intb, ↓AM.Y.b_sum, ↓AM.Y.b_max2, ↓AM.Y.b_min2, ↓AM.Y.b_max1, ↓AM.Y.b_min1, ↓AM.Y.b_lst_tup, ↓AM.Y.b_lst_rol, ↓AM.Y.b_lst_ref, ↓AM.Y.b_all, ↓AM.Y.b_any, ↓AM.Y.k_app, ↓AM.Y.k_bits, ↓AM.Y.k_cnt, ↓AM.Y.m_app, ↓AM.Y.m_bits, ↓AM.Y.n_add, ↓AM.Y.n_sub, AM.wp_ok, AM.wp_no, ↓AM.wp_ret, ↓AM.wp_fail, ↓AM.wp_end, ↓AM.thn_nx, ↓AM.thn_rt, ↓AM.thn_bk, ↓AM.thn_ct, ↓AM.thn_xc, ↓AM.endP_nx, ↓AM.endP_rt, ↓AM.endP_xc, ↓AM.lpP_nx, ↓AM.lpP_ct, ↓AM.lpP_bk, ↓AM.lpP_rt, ↓AM.lpP_xc, ↓AM.Y.ifB_bl, ↓AM.Y.isI_int, ↓AM.Y.isT_tup, ↓AM.Y.isS_some, ↓AM.Y.isSS_some, ↓AM.Y.isO_lst, ↓AM.Y.isO_dct, AM.Y.ifB_bl, AM.Y.isI_int, AM.Y.isT_tup, AM.Y.isS_some, AM.Y.isSS_some, AM.Y.isO_lst, AM.Y.isO_dct, List.getElem?_cons_zero, List.getElem?_cons_succ, List.set_cons_zero, List.set_cons_succ, AM.Y.at0, AM.Y.at1, AM.Y.at2, AM.Y.at3, AM.Y.srcV, AM.Y.enumV, AM.tyOf, AM.tyIs, AM.isiV, AM.Y.isNon_non, AM.Y.isNon_bl, AM.Y.isNon_int, AM.Y.isNon_str, AM.Y.isNon_tup, AM.Y.isNon_rol, AM.Y.isNon_ref, Bool.not_true, Bool.not_false, Bool.true_eq_false, Bool.false_eq_true, ↓reduceIte, decide_true, decide_false, decide_eq_true_eq, Option.map_some, Option.map_none, Option.isSome_some, Option.isSome_none, List.length_cons, List.length_nil, List.isEmpty_cons, List.isEmpty_nil, true_and, and_true, Bool.or_false, Bool.false_or, Bool.or_true, Bool.true_or, Nat.zero_add, Nat.reduceAdd, AM.lim, Nat.reduceLeDiff, List.set, AM.wipeE, AM.Y.xcP, reduceCtorEq, imp_self, implies_true, not_false_eq_true]
  exact f.trans f2
/-- the numbers still needed -/
def need (l : List Ev) : List Vl := rngL ((tally l).2.2 + 1) (((tally l).1 : Int) + 1 - ((tally l).2.2 + 1)).toNat
theorem tally_le : ∀ {l : List Ev}, Good l → (tally l).2.2 ≤ (tally l).2.1 ∧ (tally l).2.1 ≤ (tally l).1 ∧ (tally l).1 ≤ l.length := by
  intro l g
  have key : ∀ k, k ≤ l.length → (tally (l.take k)).2.2 ≤ (tally (l.take k)).2.1 ∧ (tally (l.take k)).2.1 ≤ (tally (l.take k)).1 ∧ (tally (l.take k)).1 ≤ k := fun k => by
    induction k with
    | zero => intro _; exact ⟨Nat.le_refl _, Nat.le_refl _, Nat.le_refl _⟩
    | succ k ih =>
      intro hk
      obtain ⟨a, b, c⟩ := ih (by omega)
      have e : l[k]? = some l[k] := List.getElem?_eq_getElem (by omega)
      have o := g k _ e
      rw [show l.take (k + 1) = l.take k ++ [l[k]] by rw [List.take_succ, e]; rfl, tally_snoc]
      generalize l[k] = u at o
      cases u with
      | line => dsimp only [stp]; omega
      | stand n => obtain ⟨o1, o2⟩ := o; dsimp only [stp]; omega
      | root => dsimp only [stp]; omega
  have := key l.length (Nat.le_refl _)
  rw [List.take_length] at this
  exact this
theorem good_take {l : List Ev} (g : Good l) (m : Nat) : Good (l.take m) := fun k e h => by
  rw [List.getElem?_take] at h
  split at h
  · rename_i hk
    rw [List.take_take, Nat.min_eq_left (by omega)]
    exact g k e h
  · cases h
theorem w_still (hr : h[r]? = some (.lst (l.map Ev.v))) (g : Good l) (hl : l.length ≤ 1000) {m : Nat} (hm : m ≤ l.length) : wp (callD fns 100000 (d + 5) 7 [.ref r, .int m] h) (fun v h' => ∃ a, v = .ref a ∧ h.length ≤ a ∧ h'[a]? = some (.lst (need (l.take m))) ∧ Fr [] h h') NoX := by
  rw [call_eq (fns := fns) (W := 100000) (d := d + 4) (g := 7) (f := f_still_needed) rfl (us := [.ref r, .int m]) (vs := [.ref r, .int m]) rfl rfl, wp_end]
  show wp (exSs (callD fns 100000 (d + 4)) 100000 [some (.ref r), some (.int m), none, none] f_still_needed.body h) _ _
  unfold f_still_needed
  obtain ⟨t1, t2, t3⟩ := tally_le (good_take g m)
  have t4 : (l.take m).length ≤ 1000 := by rw [List.length_take]; omega
  simp -implicitDefEqProofs only [↓AM.Y.y_var, ↓AM.Y.y_non, ↓AM.Y.y_bl, ↓AM.Y.y_int, ↓AM.Y.y_str, ↓AM.Y.y_ty, ↓AM.Y.y_tup, ↓AM.Y.y_lst, ↓AM.Y.y_dct0, ↓AM.Y.y_bin, ↓AM.Y.y_neg, ↓AM.Y.y_not, ↓AM.Y.y_and, ↓AM.Y.y_or, ↓AM.Y.y_cmp, ↓AM.Y.y_cmp2, ↓AM.Y.y_isN, ↓AM.Y.y_ntN, ↓AM.Y.y_isB, ↓AM.Y.y_ntB, ↓AM.Y.y_ife, ↓AM.Y.y_call, ↓AM.Y.y_bi, ↓AM.Y.y_mt, ↓AM.Y.y_idx, ↓AM.Y.y_slc, ↓AM.Y.y_lc, ↓AM.Y.y_lrng, ↓AM.Y.y_nil, ↓AM.Y.y_cons, ↓AM.Y.y_none, ↓AM.Y.y_some, ↓AM.Y.y_cnone, ↓AM.Y.y_csome, ↓AM.Y.t_not, ↓AM.Y.t_and, ↓AM.Y.t_or, ↓AM.Y.t_var, ↓AM.Y.t_cmp, ↓AM.Y.t_cmp2, ↓AM.Y.t_isN, ↓AM.Y.t_ntN, ↓AM.Y.t_isB, ↓AM.Y.t_ntB, ↓AM.Y.t_call, ↓AM.Y.t_bi, ↓AM.Y.t_idx, ↓AM.Y.i_seq, ↓AM.Y.i_rng1, ↓AM.Y.i_rng2, ↓AM.Y.i_enum, ↓AM.Y.i_zip, ↓AM.Y.g_nm, ↓AM.Y.g_tup, ↓AM.Y.g_sub, ↓AM.Y.g_nil, ↓AM.Y.g_cons, ↓AM.Y.s_nil', ↓AM.Y.s_cons', ↓AM.Y.s_asg, ↓AM.Y.s_asg2', ↓AM.Y.s_asg3', ↓AM.Y.s_par2', ↓AM.Y.s_par3', ↓AM.Y.s_aug', ↓AM.Y.s_expr', ↓AM.Y.s_ret', ↓AM.Y.s_retN', ↓AM.Y.s_iff', ↓AM.Y.s_for', ↓AM.Y.s_whl', ↓AM.Y.s_pass', ↓AM.Y.s_brk', ↓AM.Y.s_cnt', ↓AM.Y.s_never', ↓AM.Y.truth_bl, ↓AM.Y.truth_non, ↓AM.Y.truth_int, ↓AM.Y.truth_tup, ↓AM.Y.truth_rol, ↓AM.Y.truth_ref, ↓AM.Y.o_add, ↓AM.Y.o_sub, ↓AM.Y.o_mul, ↓AM.Y.o_mod, ↓AM.Y.o_fdv, ↓AM.Y.o_pow, ↓AM.Y.o_addL, ↓AM.Y.c_eq, ↓AM.Y.c_ne, ↓AM.Y.c_lt, ↓AM.Y.c_le, ↓AM.Y.c_gt, ↓AM.Y.c_ge, ↓AM.Y.c_inn, ↓AM.Y.c_nin, ↓AM.Y.has_dct, ↓AM.Y.x_tup, ↓AM.Y.x_rol, ↓AM.Y.x_ref, ↓AM.Y.x_set, ↓AM.Y.x_slcR, ↓AM.Y.x_slcL, ↓AM.Y.b_len_tup, ↓AM.Y.b_len_rol, ↓AM.Y.b_len_ref, ↓AM.Y.b_isi, ↓AM.Y.b_isi2, ↓AM.Y.b_int, ↓AM.Y.b_intb, ↓AM.Y.b_sum, ↓AM.Y.b_max2, ↓AM.Y.b_min2, ↓AM.Y.b_max1, ↓AM.Y.b_min1, ↓AM.Y.b_lst_tup, ↓AM.Y.b_lst_rol, ↓AM.Y.b_lst_ref, ↓AM.Y.b_all, ↓AM.Y.b_any, ↓AM.Y.k_app, ↓AM.Y.k_bits, ↓AM.Y.k_cnt, ↓AM.Y.m_app, ↓AM.Y.m_bits, ↓AM.Y.n_add, ↓AM.Y.n_sub, AM.wp_ok, AM.wp_no, ↓AM.wp_ret, ↓AM.wp_fail, ↓AM.wp_end, ↓AM.thn_nx, ↓AM.thn_rt, ↓AM.thn_bk, ↓AM.thn_ct, ↓AM.thn_xc, ↓AM.endP_nx, ↓AM.endP_rt, ↓AM.endP_xc, ↓AM.lpP_nx, ↓AM.lpP_ct, ↓AM.lpP_bk, ↓AM.lpP_rt, ↓AM.lpP_xc, ↓AM.Y.ifB_bl, ↓AM.Y.isI_int, ↓AM.Y.isT_tup, ↓AM.Y.isS_some, ↓AM.Y.isSS_some, ↓AM.Y.isO_lst, ↓AM.Y.isO_dct, AM.Y.ifB_bl, AM.Y.isI_int, AM.Y.isT_tup, AM.Y.isS_some, AM.Y.isSS_some, AM.Y.isO_lst, AM.Y.isO_dct, List.getElem?_cons_zero, List.getElem?_cons_succ, List.set_cons_zero, List.set_cons_succ, AM.Y.at0, AM.Y.at1, AM.Y.at2, AM.Y.at3, AM.Y.srcV, AM.Y.enumV, AM.tyOf, AM.tyIs, AM.isiV, AM.Y.isNon_non, AM.Y.isNon_bl, AM.Y.isNon_int, AM.Y.isNon_str, AM.Y.isNon_tup, AM.Y.isNon_rol, AM.Y.isNon_ref, Bool.not_true, Bool.not_false, Bool.true_eq_false, Bool.false_eq_true, ↓reduceIte, decide_true, decide_false, decide_eq_true_eq, Option.map_some, Option.map_none, Option.isSome_some, Option.isSome_none, List.length_cons, List.length_nil, List.isEmpty_cons, List.isEmpty_nil, true_and, and_true, Bool.or_false, Bool.false_or, Bool.or_true, Bool.true_or, Nat.zero_add, Nat.reduceAdd, AM.lim, Nat.reduceLeDiff, List.set, AM.wipeE, AM.Y.xcP, reduceCtorEq, imp_self, implies_true, not_false_eq_true]
  refine wp_q (w_check_moment hr g hl hm) fun v h2 f => ?_
  try simp -implicitDefEqProofs only [↓AM.Y.y_var, ↓AM.Y.y_non, ↓AM.Y.y_bl, ↓AM.Y.y_int, ↓AM.Y.y_str, ↓AM.Y.y_ty, ↓AM.Y.y_tup, ↓AM.Y.y_lst, ↓AM.Y.y_dct0, ↓AM.Y.y_bin, ↓AM.Y.y_neg, ↓AM.Y.y_not, ↓AM.Y.y_and, ↓AM.Y.y_or, ↓AM.Y.y_cmp, ↓AM.Y.y_cmp2, ↓AM.Y.y_isN, ↓AM.Y.y_ntN, ↓AM.Y.y_isB, ↓AM.Y.y_ntB, ↓AM.Y.y_ife, ↓AM.Y.y_call, ↓AM.Y.y_bi, ↓AM.Y.y_mt, ↓AM.Y.y_idx, ↓AM.Y.y_slc, ↓AM.Y.y_lc, ↓AM.Y.y_lrng, ↓AM.Y.y_nil, ↓AM.Y.y_cons, ↓AM.Y.y_none, ↓AM.Y.y_some, ↓AM.Y.y_cnone, ↓AM.Y.y_csome, ↓AM.Y.t_not, ↓AM.Y.t_and, ↓AM.Y.t_or, ↓AM.Y.t_var, ↓AM.Y.t_cmp, ↓AM.Y.t_cmp2, ↓AM.Y.t_isN, ↓AM.Y.t_ntN, ↓AM.Y.t_isB, ↓AM.Y.t_ntB, ↓AM.Y.t_call, ↓AM.Y.t_bi, ↓AM.Y.t_idx, ↓AM.Y.i_seq, ↓AM.Y.i_rng1, ↓AM.Y.i_rng2, ↓AM.Y.i_enum, ↓AM.Y.i_zip, ↓AM.Y.g_nm, ↓AM.Y.g_tup, ↓AM.Y.g_sub, ↓AM.Y.g_nil, ↓AM.Y.g_cons, ↓AM.Y.s_nil', ↓AM.Y.s_cons', ↓AM.Y.s_asg, ↓AM.Y.s_asg2', ↓AM.Y.s_asg3', ↓AM.Y.s_par2', ↓AM.Y.s_par3', ↓AM.Y.s_aug', ↓AM.Y.s_expr', ↓AM.Y.s_ret', ↓AM.Y.s_retN', ↓AM.Y.s_iff', ↓AM.Y.s_for', ↓AM.Y.s_whl', ↓AM.Y.s_pass', ↓AM.Y.s_brk', ↓AM.Y.s_cnt', ↓AM.Y.s_never', ↓AM.Y.truth_bl, ↓AM.Y.truth_non, ↓AM.Y.truth_int, ↓AM.Y.truth_tup, ↓AM.Y.truth_rol, ↓AM.Y.truth_ref, ↓AM.Y.o_add, ↓AM.Y.o_sub, ↓AM.Y.o_mul, ↓AM.Y.o_mod, ↓AM.Y.o_fdv, ↓AM.Y.o_pow, ↓AM.Y.o_addL, ↓AM.Y.c_eq, ↓AM.Y.c_ne, ↓AM.Y.c_lt, ↓AM.Y.c_le, ↓AM.Y.c_gt, ↓AM.Y.c_ge, ↓AM.Y.c_inn, ↓AM.Y.c_nin, ↓AM.Y.has_dct, ↓AM.Y.x_tup, ↓AM.Y.x_rol, ↓AM.Y.x_ref, ↓AM.Y.x_set, ↓AM.Y.x_slcR, ↓AM.Y.x_slcL, ↓AM.Y.b_len_tup, ↓AM.Y.b_len_rol, ↓AM.Y.b_len_ref, ↓AM.Y.b_isi, ↓AM.Y.b_isi2, ↓AM.Y.b_int, ↓AM.Y.b_intb, ↓AM.Y.b_sum, ↓AM.Y.b_max2, ↓AM.Y.b_min2, ↓AM.Y.b_max1, ↓AM.Y.b_min1, ↓AM.Y.b_lst_tup, ↓AM.Y.b_lst_rol, ↓AM.Y.b_lst_ref, ↓AM.Y.b_all, ↓AM.Y.b_any, ↓AM.Y.k_app, ↓AM.Y.k_bits, ↓AM.Y.k_cnt, ↓AM.Y.m_app, ↓AM.Y.m_bits, ↓AM.Y.n_add, ↓AM.Y.n_sub, AM.wp_ok, AM.wp_no, ↓AM.wp_ret, ↓AM.wp_fail, ↓AM.wp_end, ↓AM.thn_nx, ↓AM.thn_rt, ↓AM.thn_bk, ↓AM.thn_ct, ↓AM.thn_xc, ↓AM.endP_nx, ↓AM.endP_rt, ↓AM.endP_xc, ↓AM.lpP_nx, ↓AM.lpP_ct, ↓AM.lpP_bk, ↓AM.lpP_rt, ↓AM.lpP_xc, ↓AM.Y.ifB_bl, ↓AM.Y.isI_int, ↓AM.Y.isT_tup, ↓AM.Y.isS_some, ↓AM.Y.isSS_some, ↓AM.Y.isO_lst, ↓AM.Y.isO_dct, AM.Y.ifB_bl, AM.Y.isI_int, AM.Y.isT_tup, AM.Y.isS_some, AM.Y.isSS_some, AM.Y.isO_lst, AM.Y.isO_dct, List.getElem?_cons_zero, List.getElem?_cons_succ, List.set_cons_zero, List.set_cons_succ, AM.Y.at0, AM.Y.at1, AM.Y.at2, AM.Y.at3, AM.Y.srcV, AM.Y.enumV, AM.tyOf, AM.tyIs, AM.isiV, AM.Y.isNon_non, AM.Y.isNon_bl, AM.Y.isNon_int, AM.Y.isNon_str, AM.Y.isNon_tup, AM.Y.isNon_rol, AM.Y.isNon_ref, Bool.not_true, Bool.not_false, Bool.true_eq_false, Bool.false_eq_true, ↓reduceIte, decide_true, decide_false, decide_eq_true_eq, Option.map_some, Option.map_none, Option.isSome_some, Option.isSome_none, List.length_cons, List.length_nil, List.isEmpty_cons, List.isEmpty_nil, true_and, and_true, Bool.or_false, Bool.false_or, Bool.or_true, Bool.true_or, Nat.zero_add, Nat.reduceAdd, AM.lim, Nat.reduceLeDiff, List.set, AM.wipeE, AM.Y.xcP, reduceCtorEq, imp_self, implies_true, not_false_eq_true]
  refine wp_q (w_counted (d := d + 3) (f.get hr) g (m := m)) fun v h3 q => ?_
  obtain ⟨rfl, f2⟩ := q
  simp -implicitDefEqProofs only [↓AM.Y.y_var, ↓AM.Y.y_non, ↓AM.Y.y_bl, ↓AM.Y.y_int, ↓AM.Y.y_str, ↓AM.Y.y_ty, ↓AM.Y.y_tup, ↓AM.Y.y_lst, ↓AM.Y.y_dct0, ↓AM.Y.y_bin, ↓AM.Y.y_neg, ↓AM.Y.y_not, ↓AM.Y.y_and, ↓AM.Y.y_or, ↓AM.Y.y_cmp, ↓AM.Y.y_cmp2, ↓AM.Y.y_isN, ↓AM.Y.y_ntN, ↓AM.Y.y_isB, ↓AM.Y.y_ntB, ↓AM.Y.y_ife, ↓AM.Y.y_call, ↓AM.Y.y_bi, ↓AM.Y.y_mt, ↓AM.Y.y_idx, ↓AM.Y.y_slc, ↓AM.Y.y_lc, ↓AM.Y.y_lrng, ↓AM.Y.y_nil, ↓AM.Y.y_cons, ↓AM.Y.y_none, ↓AM.Y.y_some, ↓AM.Y.y_cnone, ↓AM.Y.y_csome, ↓AM.Y.t_not, ↓AM.Y.t_and, ↓AM.Y.t_or, ↓AM.Y.t_var, ↓AM.Y.t_cmp, ↓AM.Y.t_cmp2, ↓AM.Y.t_isN, ↓AM.Y.t_ntN, ↓AM.Y.t_isB, ↓AM.Y.t_ntB, ↓AM.Y.t_call, ↓AM.Y.t_bi, ↓AM.Y.t_idx, ↓AM.Y.i_seq, ↓AM.Y.i_rng1, ↓AM.Y.i_rng2, ↓AM.Y.i_enum, ↓AM.Y.i_zip, ↓AM.Y.g_nm, ↓AM.Y.g_tup, ↓AM.Y.g_sub, ↓AM.Y.g_nil, ↓AM.Y.g_cons, ↓AM.Y.s_nil', ↓AM.Y.s_cons', ↓AM.Y.s_asg, ↓AM.Y.s_asg2', ↓AM.Y.s_asg3', ↓AM.Y.s_par2', ↓AM.Y.s_par3', ↓AM.Y.s_aug', ↓AM.Y.s_expr', ↓AM.Y.s_ret', ↓AM.Y.s_retN', ↓AM.Y.s_iff', ↓AM.Y.s_for', ↓AM.Y.s_whl', ↓AM.Y.s_pass', ↓AM.Y.s_brk', ↓AM.Y.s_cnt', ↓AM.Y.s_never', ↓AM.Y.truth_bl, ↓AM.Y.truth_non, ↓AM.Y.truth_int, ↓AM.Y.truth_tup, ↓AM.Y.truth_rol, ↓AM.Y.truth_ref, ↓AM.Y.o_add, ↓AM.Y.o_sub, ↓AM.Y.o_mul, ↓AM.Y.o_mod, ↓AM.Y.o_fdv, ↓AM.Y.o_pow, ↓AM.Y.o_addL, ↓AM.Y.c_eq, ↓AM.Y.c_ne, ↓AM.Y.c_lt, ↓AM.Y.c_le, ↓AM.Y.c_gt, ↓AM.Y.c_ge, ↓AM.Y.c_inn, ↓AM.Y.c_nin, ↓AM.Y.has_dct, ↓AM.Y.x_tup, ↓AM.Y.x_rol, ↓AM.Y.x_ref, ↓AM.Y.x_set, ↓AM.Y.x_slcR, ↓AM.Y.x_slcL, ↓AM.Y.b_len_tup, ↓AM.Y.b_len_rol, ↓AM.Y.b_len_ref, ↓AM.Y.b_isi, ↓AM.Y.b_isi2, ↓AM.Y.b_int, ↓AM.Y.b_intb, ↓AM.Y.b_sum, ↓AM.Y.b_max2, ↓AM.Y.b_min2, ↓AM.Y.b_max1, ↓AM.Y.b_min1, ↓AM.Y.b_lst_tup, ↓AM.Y.b_lst_rol, ↓AM.Y.b_lst_ref, ↓AM.Y.b_all, ↓AM.Y.b_any, ↓AM.Y.k_app, ↓AM.Y.k_bits, ↓AM.Y.k_cnt, ↓AM.Y.m_app, ↓AM.Y.m_bits, ↓AM.Y.n_add, ↓AM.Y.n_sub, AM.wp_ok, AM.wp_no, ↓AM.wp_ret, ↓AM.wp_fail, ↓AM.wp_end, ↓AM.thn_nx, ↓AM.thn_rt, ↓AM.thn_bk, ↓AM.thn_ct, ↓AM.thn_xc, ↓AM.endP_nx, ↓AM.endP_rt, ↓AM.endP_xc, ↓AM.lpP_nx, ↓AM.lpP_ct, ↓AM.lpP_bk, ↓AM.lpP_rt, ↓AM.lpP_xc, ↓AM.Y.ifB_bl, ↓AM.Y.isI_int, ↓AM.Y.isT_tup, ↓AM.Y.isS_some, ↓AM.Y.isSS_some, ↓AM.Y.isO_lst, ↓AM.Y.isO_dct, AM.Y.ifB_bl, AM.Y.isI_int, AM.Y.isT_tup, AM.Y.isS_some, AM.Y.isSS_some, AM.Y.isO_lst, AM.Y.isO_dct, List.getElem?_cons_zero, List.getElem?_cons_succ, List.set_cons_zero, List.set_cons_succ, AM.Y.at0, AM.Y.at1, AM.Y.at2, AM.Y.at3, AM.Y.srcV, AM.Y.enumV, AM.tyOf, AM.tyIs, AM.isiV, AM.Y.isNon_non, AM.Y.isNon_bl, AM.Y.isNon_int, AM.Y.isNon_str, AM.Y.isNon_tup, AM.Y.isNon_rol, AM.Y.isNon_ref, Bool.not_true, Bool.not_false, Bool.true_eq_false, Bool.false_eq_true, ↓reduceIte, decide_true, decide_false, decide_eq_true_eq, Option.map_some, Option.map_none, Option.isSome_some, Option.isSome_none, List.length_cons, List.length_nil, List.isEmpty_cons, List.isEmpty_nil, true_and, and_true, Bool.or_false, Bool.false_or, Bool.or_true, Bool.true_or, Nat.zero_add, Nat.reduceAdd, AM.lim, Nat.reduceLeDiff, List.set, AM.wipeE, AM.Y.xcP, reduceCtorEq, imp_self, implies_true, not_false_eq_true]
  refine ⟨by omega, _, rfl, Nat.le_trans f.len f2.len, get_new, (f.trans f2).trans (Fr.alloc _)⟩
theorem w_full_at (hr : h[r]? = some (.lst (l.map Ev.v))) (g : Good l) {p : Nat} : wp (callD fns 100000 (d + 2) 8 [.ref r, .int p] h) (fun v h' => FirstOf (full l p) v ∧ Fr [] h h') NoX := by
  rw [call_eq (fns := fns) (W := 100000) (d := d + 1) (g := 8) (f := f_full_at) rfl (us := [.ref r, .int p]) (vs := [.ref r, .int p]) rfl rfl, wp_end]
  show wp (exSs (callD fns 100000 (d + 1)) 100000 [some (.ref r), some (.int p), none, none, none, none] f_full_at.body h) _ _
  unfold f_full_at
  simp -implicitDefEqProofs only [↓AM.Y.y_var, ↓AM.Y.y_non, ↓AM.Y.y_bl, ↓AM.Y.y_int, ↓AM.Y.y_str, ↓AM.Y.y_ty, ↓AM.Y.y_tup, ↓AM.Y.y_lst, ↓AM.Y.y_dct0, ↓AM.Y.y_bin, ↓AM.Y.y_neg, ↓AM.Y.y_not, ↓AM.Y.y_and, ↓AM.Y.y_or, ↓AM.Y.y_cmp, ↓AM.Y.y_cmp2, ↓AM.Y.y_isN, ↓AM.Y.y_ntN, ↓AM.Y.y_isB, ↓AM.Y.y_ntB, ↓AM.Y.y_ife, ↓AM.Y.y_call, ↓AM.Y.y_bi, ↓AM.Y.y_mt, ↓AM.Y.y_idx, ↓AM.Y.y_slc, ↓AM.Y.y_lc, ↓AM.Y.y_lrng, ↓AM.Y.y_nil, ↓AM.Y.y_cons, ↓AM.Y.y_none, ↓AM.Y.y_some, ↓AM.Y.y_cnone, ↓AM.Y.y_csome, ↓AM.Y.t_not, ↓AM.Y.t_and, ↓AM.Y.t_or, ↓AM.Y.t_var, ↓AM.Y.t_cmp, ↓AM.Y.t_cmp2, ↓AM.Y.t_isN, ↓AM.Y.t_ntN, ↓AM.Y.t_isB, ↓AM.Y.t_ntB, ↓AM.Y.t_call, ↓AM.Y.t_bi, ↓AM.Y.t_idx, ↓AM.Y.i_seq, ↓AM.Y.i_rng1, ↓AM.Y.i_rng2, ↓AM.Y.i_enum, ↓AM.Y.i_zip, ↓AM.Y.g_nm, ↓AM.Y.g_tup, ↓AM.Y.g_sub, ↓AM.Y.g_nil, ↓AM.Y.g_cons, ↓AM.Y.s_nil', ↓AM.Y.s_cons', ↓AM.Y.s_asg, ↓AM.Y.s_asg2', ↓AM.Y.s_asg3', ↓AM.Y.s_par2', ↓AM.Y.s_par3', ↓AM.Y.s_aug', ↓AM.Y.s_expr', ↓AM.Y.s_ret', ↓AM.Y.s_retN', ↓AM.Y.s_iff', ↓AM.Y.s_for', ↓AM.Y.s_whl', ↓AM.Y.s_pass', ↓AM.Y.s_brk', ↓AM.Y.s_cnt', ↓AM.Y.s_never', ↓AM.Y.truth_bl, ↓AM.Y.truth_non, ↓AM.Y.truth_int, ↓AM.Y.truth_tup, ↓AM.Y.truth_rol, ↓AM.Y.truth_ref, ↓AM.Y.o_add, ↓AM.Y.o_sub, ↓AM.Y.o_mul, ↓AM.Y.o_mod, ↓AM.Y.o_fdv, ↓AM.Y.o_pow, ↓AM.Y.o_addL, ↓AM.Y.c_eq, ↓AM.Y.c_ne, ↓AM.Y.c_lt, ↓AM.Y.c_le, ↓AM.Y.c_gt, ↓AM.Y.c_ge, ↓AM.Y.c_inn, ↓AM.Y.c_nin, ↓AM.Y.has_dct, ↓AM.Y.x_tup, ↓AM.Y.x_rol, ↓AM.Y.x_ref, ↓AM.Y.x_set, ↓AM.Y.x_slcR, ↓AM.Y.x_slcL, ↓AM.Y.b_len_tup, ↓AM.Y.b_len_rol, ↓AM.Y.b_len_ref, ↓AM.Y.b_isi, ↓AM.Y.b_isi2, ↓AM.Y.b_int, ↓AM.Y.b_intb, ↓AM.Y.b_sum, ↓AM.Y.b_max2, ↓AM.Y.b_min2, ↓AM.Y.b_max1, ↓AM.Y.b_min1, ↓AM.Y.b_lst_tup, ↓AM.Y.b_lst_rol, ↓AM.Y.b_lst_ref, ↓AM.Y.b_all, ↓AM.Y.b_any, ↓AM.Y.k_app, ↓AM.Y.k_bits, ↓AM.Y.k_cnt, ↓AM.Y.m_app, ↓AM.Y.m_bits, ↓AM.Y.n_add, ↓AM.Y.n_sub, AM.wp_ok, AM.wp_no, ↓AM.wp_ret, ↓AM.wp_fail, ↓AM.wp_end, ↓AM.thn_nx, ↓AM.thn_rt, ↓AM.thn_bk, ↓AM.thn_ct, ↓AM.thn_xc, ↓AM.endP_nx, ↓AM.endP_rt, ↓AM.endP_xc, ↓AM.lpP_nx, ↓AM.lpP_ct, ↓AM.lpP_bk, ↓AM.lpP_rt, ↓AM.lpP_xc, ↓AM.Y.ifB_bl, ↓AM.Y.isI_int, ↓AM.Y.isT_tup, ↓AM.Y.isS_some, ↓AM.Y.isSS_some, ↓AM.Y.isO_lst, ↓AM.Y.isO_dct, AM.Y.ifB_bl, AM.Y.isI_int, AM.Y.isT_tup, AM.Y.isS_some, AM.Y.isSS_some, AM.Y.isO_lst, AM.Y.isO_dct, List.getElem?_cons_zero, List.getElem?_cons_succ, List.set_cons_zero, List.set_cons_succ, AM.Y.at0, AM.Y.at1, AM.Y.at2, AM.Y.at3, AM.Y.srcV, AM.Y.enumV, AM.tyOf, AM.tyIs, AM.isiV, AM.Y.isNon_non, AM.Y.isNon_bl, AM.Y.isNon_int, AM.Y.isNon_str, AM.Y.isNon_tup, AM.Y.isNon_rol, AM.Y.isNon_ref, Bool.not_true, Bool.not_false, Bool.true_eq_false, Bool.false_eq_true, ↓reduceIte, decide_true, decide_false, decide_eq_true_eq, Option.map_some, Option.map_none, Option.isSome_some, Option.isSome_none, List.length_cons, List.length_nil, List.isEmpty_cons, List.isEmpty_nil, true_and, and_true, Bool.or_false, Bool.false_or, Bool.or_true, Bool.true_or, Nat.zero_add, Nat.reduceAdd, AM.lim, Nat.reduceLeDiff, List.set, AM.wipeE, AM.Y.xcP, reduceCtorEq, imp_self, implies_true, not_false_eq_true, hr]
  refine for_enum (xs := l.map Ev.v) (fun k σ h1 => Fr [] h h1 ∧ (∀ j, j < k → ¬ full l p j) ∧ ∃ (a b c e : Option Vl), σ = [some (.ref r), some (.int p), a, b, c, e]) (fun k σ h1 I => I.1.get hr) (fun k x σ h1 hk I => ?_) (fun σ h1 I => ?_) ⟨Fr.refl, fun j hj => by omega, _, _, _, _, rfl⟩
  · obtain ⟨f, nf, a, b, c, e, rfl⟩ := I
    obtain ⟨e, e1, rfl, e3⟩ := map_at hk
    have next : ¬ full l p k → ∀ j, j < k + 1 → ¬ full l p j := fun z j hj => by
      by_cases hjk : j = k
      · rw [hjk]; exact z
      · exact nf j (by omega)
    cases e with
    | line =>
      dsimp only [Ev.v]
      simp -implicitDefEqProofs only [↓AM.Y.y_var, ↓AM.Y.y_non, ↓AM.Y.y_bl, ↓AM.Y.y_int, ↓AM.Y.y_str, ↓AM.Y.y_ty, ↓AM.Y.y_tup, ↓AM.Y.y_lst, ↓AM.Y.y_dct0, ↓AM.Y.y_bin, ↓AM.Y.y_neg, ↓AM.Y.y_not, ↓AM.Y.y_and, ↓AM.Y.y_or, ↓AM.Y.y_cmp, ↓AM.Y.y_cmp2, ↓AM.Y.y_isN, ↓AM.Y.y_ntN, ↓AM.Y.y_isB, ↓AM.Y.y_ntB, ↓AM.Y.y_ife, ↓AM.Y.y_call, ↓AM.Y.y_bi, ↓AM.Y.y_mt, ↓AM.Y.y_idx, ↓AM.Y.y_slc, ↓AM.Y.y_lc, ↓AM.Y.y_lrng, ↓AM.Y.y_nil, ↓AM.Y.y_cons, ↓AM.Y.y_none, ↓AM.Y.y_some, ↓AM.Y.y_cnone, ↓AM.Y.y_csome, ↓AM.Y.t_not, ↓AM.Y.t_and, ↓AM.Y.t_or, ↓AM.Y.t_var, ↓AM.Y.t_cmp, ↓AM.Y.t_cmp2, ↓AM.Y.t_isN, ↓AM.Y.t_ntN, ↓AM.Y.t_isB, ↓AM.Y.t_ntB, ↓AM.Y.t_call, ↓AM.Y.t_bi, ↓AM.Y.t_idx, ↓AM.Y.i_seq, ↓AM.Y.i_rng1, ↓AM.Y.i_rng2, ↓AM.Y.i_enum, ↓AM.Y.i_zip, ↓AM.Y.g_nm, ↓AM.Y.g_tup, ↓AM.Y.g_sub, ↓AM.Y.g_nil, ↓AM.Y.g_cons, ↓AM.Y.s_nil', ↓AM.Y.s_cons', ↓AM.Y.s_asg, ↓AM.Y.s_asg2', ↓AM.Y.s_asg3', ↓AM.Y.s_par2', ↓AM.Y.s_par3', ↓AM.Y.s_aug', ↓AM.Y.s_expr', ↓AM.Y.s_ret', ↓AM.Y.s_retN', ↓AM.Y.s_iff', ↓AM.Y.s_for', ↓AM.Y.s_whl', ↓AM.Y.s_pass', ↓AM.Y.s_brk', ↓AM.Y.s_cnt', ↓AM.Y.s_never', ↓AM.Y.truth_bl, ↓AM.Y.truth_non, ↓AM.Y.truth_int, ↓AM.Y.truth_tup, ↓AM.Y.truth_rol, ↓AM.Y.truth_ref, ↓AM.Y.o_add, ↓AM.Y.o_sub, ↓AM.Y.o_mul, ↓AM.Y.o_mod, ↓AM.Y.o_fdv, ↓AM.Y.o_pow, ↓AM.Y.o_addL, ↓AM.Y.c_eq, ↓AM.Y.c_ne, ↓AM.Y.c_lt, ↓AM.Y.c_le, ↓AM.Y.c_gt, ↓AM.Y.c_ge, ↓AM.Y.c_inn, ↓AM.Y.c_nin, ↓AM.Y.has_dct, ↓AM.Y.x_tup, ↓AM.Y.x_rol, ↓AM.Y.x_ref, ↓AM.Y.x_set, ↓AM.Y.x_slcR, ↓AM.Y.x_slcL, ↓AM.Y.b_len_tup, ↓AM.Y.b_len_rol, ↓AM.Y.b_len_ref, ↓AM.Y.b_isi, ↓AM.Y.b_isi2, ↓AM.Y.b_int, ↓AM.Y.b_intb, ↓AM.Y.b_sum, ↓AM.Y.b_max2, ↓AM.Y.b_min2, ↓AM.Y.b_max1, ↓AM.Y.b_min1, ↓AM.Y.b_lst_tup, ↓AM.Y.b_lst_rol, ↓AM.Y.b_lst_ref, ↓AM.Y.b_all, ↓AM.Y.b_any, ↓AM.Y.k_app, ↓AM.Y.k_bits, ↓AM.Y.k_cnt, ↓AM.Y.m_app, ↓AM.Y.m_bits, ↓AM.Y.n_add, ↓AM.Y.n_sub, AM.wp_ok, AM.wp_no, ↓AM.wp_ret, ↓AM.wp_fail, ↓AM.wp_end, ↓AM.thn_nx, ↓AM.thn_rt, ↓AM.thn_bk, ↓AM.thn_ct, ↓AM.thn_xc, ↓AM.endP_nx, ↓AM.endP_rt, ↓AM.endP_xc, ↓AM.lpP_nx, ↓AM.lpP_ct, ↓AM.lpP_bk, ↓AM.lpP_rt, ↓AM.lpP_xc, ↓AM.Y.ifB_bl, ↓AM.Y.isI_int, ↓AM.Y.isT_tup, ↓AM.Y.isS_some, ↓AM.Y.isSS_some, ↓AM.Y.isO_lst, ↓AM.Y.isO_dct, AM.Y.ifB_bl, AM.Y.isI_int, AM.Y.isT_tup, AM.Y.isS_some, AM.Y.isSS_some, AM.Y.isO_lst, AM.Y.isO_dct, List.getElem?_cons_zero, List.getElem?_cons_succ, List.set_cons_zero, List.set_cons_succ, AM.Y.at0, AM.Y.at1, AM.Y.at2, AM.Y.at3, AM.Y.srcV, AM.Y.enumV, AM.tyOf, AM.tyIs, AM.isiV, AM.Y.isNon_non, AM.Y.isNon_bl, AM.Y.isNon_int, AM.Y.isNon_str, AM.Y.isNon_tup, AM.Y.isNon_rol, AM.Y.isNon_ref, Bool.not_true, Bool.not_false, Bool.true_eq_false, Bool.false_eq_true, ↓reduceIte, decide_true, decide_false, decide_eq_true_eq, Option.map_some, Option.map_none, Option.isSome_some, Option.isSome_none, List.length_cons, List.length_nil, List.isEmpty_cons, List.isEmpty_nil, true_and, and_true, Bool.or_false, Bool.false_or, Bool.or_true, Bool.true_or, Nat.zero_add, Nat.reduceAdd, AM.lim, Nat.reduceLeDiff, List.set, AM.wipeE, AM.Y.xcP, reduceCtorEq, imp_self, implies_true, not_false_eq_true, eqD_str kL kL, beq_self_eq_true]
      refine wp_q (w_counted (d := d) (f.get hr) g (m := k)) fun v h3 q => ?_
      obtain ⟨rfl, f2⟩ := q
      simp -implicitDefEqProofs only [↓AM.Y.y_var, ↓AM.Y.y_non, ↓AM.Y.y_bl, ↓AM.Y.y_int, ↓AM.Y.y_str, ↓AM.Y.y_ty, ↓AM.Y.y_tup, ↓AM.Y.y_lst, ↓AM.Y.y_dct0, ↓AM.Y.y_bin, ↓AM.Y.y_neg, ↓AM.Y.y_not, ↓AM.Y.y_and, ↓AM.Y.y_or, ↓AM.Y.y_cmp, ↓AM.Y.y_cmp2, ↓AM.Y.y_isN, ↓AM.Y.y_ntN, ↓AM.Y.y_isB, ↓AM.Y.y_ntB, ↓AM.Y.y_ife, ↓AM.Y.y_call, ↓AM.Y.y_bi, ↓AM.Y.y_mt, ↓AM.Y.y_idx, ↓AM.Y.y_slc, ↓AM.Y.y_lc, ↓AM.Y.y_lrng, ↓AM.Y.y_nil, ↓AM.Y.y_cons, ↓AM.Y.y_none, ↓AM.Y.y_some, ↓AM.Y.y_cnone, ↓AM.Y.y_csome, ↓AM.Y.t_not, ↓AM.Y.t_and, ↓AM.Y.t_or, ↓AM.Y.t_var, ↓AM.Y.t_cmp, ↓AM.Y.t_cmp2, ↓AM.Y.t_isN, ↓AM.Y.t_ntN, ↓AM.Y.t_isB, ↓AM.Y.t_ntB, ↓AM.Y.t_call, ↓AM.Y.t_bi, ↓AM.Y.t_idx, ↓AM.Y.i_seq, ↓AM.Y.i_rng1, ↓AM.Y.i_rng2, ↓AM.Y.i_enum, ↓AM.Y.i_zip, ↓AM.Y.g_nm, ↓AM.Y.g_tup, ↓AM.Y.g_sub, ↓AM.Y.g_nil, ↓AM.Y.g_cons, ↓AM.Y.s_nil', ↓AM.Y.s_cons', ↓AM.Y.s_asg, ↓AM.Y.s_asg2', ↓AM.Y.s_asg3', ↓AM.Y.s_par2', ↓AM.Y.s_par3', ↓AM.Y.s_aug', ↓AM.Y.s_expr', ↓AM.Y.s_ret', ↓AM.Y.s_retN', ↓AM.Y.s_iff', ↓AM.Y.s_for', ↓AM.Y.s_whl', ↓AM.Y.s_pass', ↓AM.Y.s_brk', ↓AM.Y.s_cnt', ↓AM.Y.s_never', ↓AM.Y.truth_bl, ↓AM.Y.truth_non, ↓AM.Y.truth_int, ↓AM.Y.truth_tup, ↓AM.Y.truth_rol, ↓AM.Y.truth_ref, ↓AM.Y.o_add, ↓AM.Y.o_sub, ↓AM.Y.o_mul, ↓AM.Y.o_mod, ↓AM.Y.o_fdv, ↓AM.Y.o_pow, ↓AM.Y.o_addL, ↓AM.Y.c_eq, ↓AM.Y.c_ne, ↓AM.Y.c_lt, ↓AM.Y.c_le, ↓AM.Y.c_gt, ↓AM.Y.c_ge, ↓AM.Y.c_inn, ↓AM.Y.c_nin, ↓AM.Y.has_dct, ↓AM.Y.x_tup, ↓AM.Y.x_rol, ↓AM.Y.x_ref, ↓AM.Y.x_set, ↓AM.Y.x_slcR, ↓AM.Y.x_slcL, ↓AM.Y.b_len_tup, ↓AM.Y.b_len_rol, ↓AM.Y.b_len_ref, ↓AM.Y.b_isi, ↓AM.Y.b_isi2, ↓AM.Y.b_int, ↓AM.Y.b_intb, ↓AM.Y.b_sum, ↓AM.Y.b_max2, ↓AM.Y.b_min2, ↓AM.Y.b_max1, ↓AM.Y.b_min1, ↓AM.Y.b_lst_tup, ↓AM.Y.b_lst_rol, ↓AM.Y.b_lst_ref, ↓AM.Y.b_all, ↓AM.Y.b_any, ↓AM.Y.k_app, ↓AM.Y.k_bits, ↓AM.Y.k_cnt, ↓AM.Y.m_app, ↓AM.Y.m_bits, ↓AM.Y.n_add, ↓AM.Y.n_sub, AM.wp_ok, AM.wp_no, ↓AM.wp_ret, ↓AM.wp_fail, ↓AM.wp_end, ↓AM.thn_nx, ↓AM.thn_rt, ↓AM.thn_bk, ↓AM.thn_ct, ↓AM.thn_xc, ↓AM.endP_nx, ↓AM.endP_rt, ↓AM.endP_xc, ↓AM.lpP_nx, ↓AM.lpP_ct, ↓AM.lpP_bk, ↓AM.lpP_rt, ↓AM.lpP_xc, ↓AM.Y.ifB_bl, ↓AM.Y.isI_int, ↓AM.Y.isT_tup, ↓AM.Y.isS_some, ↓AM.Y.isSS_some, ↓AM.Y.isO_lst, ↓AM.Y.isO_dct, AM.Y.ifB_bl, AM.Y.isI_int, AM.Y.isT_tup, AM.Y.isS_some, AM.Y.isSS_some, AM.Y.isO_lst, AM.Y.isO_dct, List.getElem?_cons_zero, List.getElem?_cons_succ, List.set_cons_zero, List.set_cons_succ, AM.Y.at0, AM.Y.at1, AM.Y.at2, AM.Y.at3, AM.Y.srcV, AM.Y.enumV, AM.tyOf, AM.tyIs, AM.isiV, AM.Y.isNon_non, AM.Y.isNon_bl, AM.Y.isNon_int, AM.Y.isNon_str, AM.Y.isNon_tup, AM.Y.isNon_rol, AM.Y.isNon_ref, Bool.not_true, Bool.not_false, Bool.true_eq_false, Bool.false_eq_true, ↓reduceIte, decide_true, decide_false, decide_eq_true_eq, Option.map_some, Option.map_none, Option.isSome_some, Option.isSome_none, List.length_cons, List.length_nil, List.isEmpty_cons, List.isEmpty_nil, true_and, and_true, Bool.or_false, Bool.false_or, Bool.or_true, Bool.true_or, Nat.zero_add, Nat.reduceAdd, AM.lim, Nat.reduceLeDiff, List.set, AM.wipeE, AM.Y.xcP, reduceCtorEq, imp_self, implies_true, not_false_eq_true]
      split
      · rename_i z
        exact ⟨.inr ⟨k, rfl, ⟨e1, by omega⟩, nf⟩, f.trans f2⟩
      · rename_i z
        exact ⟨f.trans f2, next fun w => z (by have := w.2; omega), _, _, _, _, rfl⟩
    | stand n =>
      dsimp only [Ev.v]
      simp -implicitDefEqProofs only [↓AM.Y.y_var, ↓AM.Y.y_non, ↓AM.Y.y_bl, ↓AM.Y.y_int, ↓AM.Y.y_str, ↓AM.Y.y_ty, ↓AM.Y.y_tup, ↓AM.Y.y_lst, ↓AM.Y.y_dct0, ↓AM.Y.y_bin, ↓AM.Y.y_neg, ↓AM.Y.y_not, ↓AM.Y.y_and, ↓AM.Y.y_or, ↓AM.Y.y_cmp, ↓AM.Y.y_cmp2, ↓AM.Y.y_isN, ↓AM.Y.y_ntN, ↓AM.Y.y_isB, ↓AM.Y.y_ntB, ↓AM.Y.y_ife, ↓AM.Y.y_call, ↓AM.Y.y_bi, ↓AM.Y.y_mt, ↓AM.Y.y_idx, ↓AM.Y.y_slc, ↓AM.Y.y_lc, ↓AM.Y.y_lrng, ↓AM.Y.y_nil, ↓AM.Y.y_cons, ↓AM.Y.y_none, ↓AM.Y.y_some, ↓AM.Y.y_cnone, ↓AM.Y.y_csome, ↓AM.Y.t_not, ↓AM.Y.t_and, ↓AM.Y.t_or, ↓AM.Y.t_var, ↓AM.Y.t_cmp, ↓AM.Y.t_cmp2, ↓AM.Y.t_isN, ↓AM.Y.t_ntN, ↓AM.Y.t_isB, ↓AM.Y.t_ntB, ↓AM.Y.t_call, ↓AM.Y.t_bi, ↓AM.Y.t_idx, ↓AM.Y.i_seq, ↓AM.Y.i_rng1, ↓AM.Y.i_rng2, ↓AM.Y.i_enum, ↓AM.Y.i_zip, ↓AM.Y.g_nm, ↓AM.Y.g_tup, ↓AM.Y.g_sub, ↓AM.Y.g_nil, ↓AM.Y.g_cons, ↓AM.Y.s_nil', ↓AM.Y.s_cons', ↓AM.Y.s_asg, ↓AM.Y.s_asg2', ↓AM.Y.s_asg3', ↓AM.Y.s_par2', ↓AM.Y.s_par3', ↓AM.Y.s_aug', ↓AM.Y.s_expr', ↓AM.Y.s_ret', ↓AM.Y.s_retN', ↓AM.Y.s_iff', ↓AM.Y.s_for', ↓AM.Y.s_whl', ↓AM.Y.s_pass', ↓AM.Y.s_brk', ↓AM.Y.s_cnt', ↓AM.Y.s_never', ↓AM.Y.truth_bl, ↓AM.Y.truth_non, ↓AM.Y.truth_int, ↓AM.Y.truth_tup, ↓AM.Y.truth_rol, ↓AM.Y.truth_ref, ↓AM.Y.o_add, ↓AM.Y.o_sub, ↓AM.Y.o_mul, ↓AM.Y.o_mod, ↓AM.Y.o_fdv, ↓AM.Y.o_pow, ↓AM.Y.o_addL, ↓AM.Y.c_eq, ↓AM.Y.c_ne, ↓AM.Y.c_lt, ↓AM.Y.c_le, ↓AM.Y.c_gt, ↓AM.Y.c_ge, ↓AM.Y.c_inn, ↓AM.Y.c_nin, ↓AM.Y.has_dct, ↓AM.Y.x_tup, ↓AM.Y.x_rol, ↓AM.Y.x_ref, ↓AM.Y.x_set, ↓AM.Y.x_slcR, ↓AM.Y.x_slcL, ↓AM.Y.b_len_tup, ↓AM.Y.b_len_rol, ↓AM.Y.b_len_ref, ↓AM.Y.b_isi, ↓AM.Y.b_isi2, ↓AM.Y.b_int, ↓AM.Y.b_intb, ↓AM.Y.b_sum, ↓AM.Y.b_max2, ↓AM.Y.b_min2, ↓AM.Y.b_max1, ↓AM.Y.b_min1, ↓AM.Y.b_lst_tup, ↓AM.Y.b_lst_rol, ↓AM.Y.b_lst_ref, ↓AM.Y.b_all, ↓AM.Y.b_any, ↓AM.Y.k_app, ↓AM.Y.k_bits, ↓AM.Y.k_cnt, ↓AM.Y.m_app, ↓AM.Y.m_bits, ↓AM.Y.n_add, ↓AM.Y.n_sub, AM.wp_ok, AM.wp_no, ↓AM.wp_ret, ↓AM.wp_fail, ↓AM.wp_end, ↓AM.thn_nx, ↓AM.thn_rt, ↓AM.thn_bk, ↓AM.thn_ct, ↓AM.thn_xc, ↓AM.endP_nx, ↓AM.endP_rt, ↓AM.endP_xc, ↓AM.lpP_nx, ↓AM.lpP_ct, ↓AM.lpP_bk, ↓AM.lpP_rt, ↓AM.lpP_xc, ↓AM.Y.ifB_bl, ↓AM.Y.isI_int, ↓AM.Y.isT_tup, ↓AM.Y.isS_some, ↓AM.Y.isSS_some, ↓AM.Y.isO_lst, ↓AM.Y.isO_dct, AM.Y.ifB_bl, AM.Y.isI_int, AM.Y.isT_tup, AM.Y.isS_some, AM.Y.isSS_some, AM.Y.isO_lst, AM.Y.isO_dct, List.getElem?_cons_zero, List.getElem?_cons_succ, List.set_cons_zero, List.set_cons_succ, AM.Y.at0, AM.Y.at1, AM.Y.at2, AM.Y.at3, AM.Y.srcV, AM.Y.enumV, AM.tyOf, AM.tyIs, AM.isiV, AM.Y.isNon_non, AM.Y.isNon_bl, AM.Y.isNon_int, AM.Y.isNon_str, AM.Y.isNon_tup, AM.Y.isNon_rol, AM.Y.isNon_ref, Bool.not_true, Bool.not_false, Bool.true_eq_false, Bool.false_eq_true, ↓reduceIte, decide_true, decide_false, decide_eq_true_eq, Option.map_some, Option.map_none, Option.isSome_some, Option.isSome_none, List.length_cons, List.length_nil, List.isEmpty_cons, List.isEmpty_nil, true_and, and_true, Bool.or_false, Bool.false_or, Bool.or_true, Bool.true_or, Nat.zero_add, Nat.reduceAdd, AM.lim, Nat.reduceLeDiff, List.set, AM.wipeE, AM.Y.xcP, reduceCtorEq, imp_self, implies_true, not_false_eq_true, eqD_str kS kL, qSL]
      exact ⟨f, next (fun w => by have := w.1; rw [e1] at this; cases this), _, _, _, _, rfl⟩
    | root =>
      dsimp only [Ev.v]
      simp -implicitDefEqProofs only [↓AM.Y.y_var, ↓AM.Y.y_non, ↓AM.Y.y_bl, ↓AM.Y.y_int, ↓AM.Y.y_str, ↓AM.Y.y_ty, ↓AM.Y.y_tup, ↓AM.Y.y_lst, ↓AM.Y.y_dct0, ↓AM.Y.y_bin, ↓AM.Y.y_neg, ↓AM.Y.y_not, ↓AM.Y.y_and, ↓AM.Y.y_or, ↓AM.Y.y_cmp, ↓AM.Y.y_cmp2, ↓AM.Y.y_isN, ↓AM.Y.y_ntN, ↓AM.Y.y_isB, ↓AM.Y.y_ntB, ↓AM.Y.y_ife, ↓AM.Y.y_call, ↓AM.Y.y_bi, ↓AM.Y.y_mt, ↓AM.Y.y_idx, ↓AM.Y.y_slc, ↓AM.Y.y_lc, ↓AM.Y.y_lrng, ↓AM.Y.y_nil, ↓AM.Y.y_cons, ↓AM.Y.y_none, ↓AM.Y.y_some, ↓AM.Y.y_cnone, ↓AM.Y.y_csome, ↓AM.Y.t_not, ↓AM.Y.t_and, ↓AM.Y.t_or, ↓AM.Y.t_var, ↓AM.Y.t_cmp, ↓AM.Y.t_cmp2, ↓AM.Y.t_isN, ↓AM.Y.t_ntN, ↓AM.Y.t_isB, ↓AM.Y.t_ntB, ↓AM.Y.t_call, ↓AM.Y.t_bi, ↓AM.Y.t_idx, ↓AM.Y.i_seq, ↓AM.Y.i_rng1, ↓AM.Y.i_rng2, ↓AM.Y.i_enum, ↓AM.Y.i_zip, ↓AM.Y.g_nm, ↓AM.Y.g_tup, ↓AM.Y.g_sub, ↓AM.Y.g_nil, ↓AM.Y.g_cons, ↓AM.Y.s_nil', ↓AM.Y.s_cons', ↓AM.Y.s_asg, ↓AM.Y.s_asg2', ↓AM.Y.s_asg3', ↓AM.Y.s_par2', ↓AM.Y.s_par3', ↓AM.Y.s_aug', ↓AM.Y.s_expr', ↓AM.Y.s_ret', ↓AM.Y.s_retN', ↓AM.Y.s_iff', ↓AM.Y.s_for', ↓AM.Y.s_whl', ↓AM.Y.s_pass', ↓AM.Y.s_brk', ↓AM.Y.s_cnt', ↓AM.Y.s_never', ↓AM.Y.truth_bl, ↓AM.Y.truth_non, ↓AM.Y.truth_int, ↓AM.Y.truth_tup, ↓AM.Y.truth_rol, ↓AM.Y.truth_ref, ↓AM.Y.o_add, ↓AM.Y.o_sub, ↓AM.Y.o_mul, ↓AM.Y.o_mod, ↓AM.Y.o_fdv, ↓AM.Y.o_pow, ↓AM.Y.o_addL, ↓AM.Y.c_eq, ↓AM.Y.c_ne, ↓AM.Y.c_lt, ↓AM.Y.c_le, ↓AM.Y.c_gt, ↓AM.Y.c_ge, ↓AM.Y.c_inn, ↓AM.Y.c_nin, ↓AM.Y.has_dct, ↓AM.Y.x_tup, ↓AM.Y.x_rol, ↓AM.Y.x_ref, ↓AM.Y.x_set, ↓AM.Y.x_slcR, ↓AM.Y.x_slcL, ↓AM.Y.b_len_tup, ↓AM.Y.b_len_rol, ↓AM.Y.b_len_ref, ↓AM.Y.b_isi, ↓AM.Y.b_isi2, ↓AM.Y.b_int, ↓AM.Y.b_intb, ↓AM.Y.b_sum, ↓AM.Y.b_max2, ↓AM.Y.b_min2, ↓AM.Y.b_max1, ↓AM.Y.b_min1, ↓AM.Y.b_lst_tup, ↓AM.Y.b_lst_rol, ↓AM.Y.b_lst_ref, ↓AM.Y.b_all, ↓AM.Y.b_any, ↓AM.Y.k_app, ↓AM.Y.k_bits, ↓AM.Y.k_cnt, ↓AM.Y.m_app, ↓AM.Y.m_bits, ↓AM.Y.n_add, ↓AM.Y.n_sub, AM.wp_ok, AM.wp_no, ↓AM.wp_ret, ↓AM.wp_fail, ↓AM.wp_end, ↓AM.thn_nx, ↓AM.thn_rt, ↓AM.thn_bk, ↓AM.thn_ct, ↓AM.thn_xc, ↓AM.endP_nx, ↓AM.endP_rt, ↓AM.endP_xc, ↓AM.lpP_nx, ↓AM.lpP_ct, ↓AM.lpP_bk, ↓AM.lpP_rt, ↓AM.lpP_xc, ↓AM.Y.ifB_bl, ↓AM.Y.isI_int, ↓AM.Y.isT_tup, ↓AM.Y.isS_some, ↓AM.Y.isSS_some, ↓AM.Y.isO_lst, ↓AM.Y.isO_dct, AM.Y.ifB_bl, AM.Y.isI_int, AM.Y.isT_tup, AM.Y.isS_some, AM.Y.isSS_some, AM.Y.isO_lst, AM.Y.isO_dct, List.getElem?_cons_zero, List.getElem?_cons_succ, List.set_cons_zero, List.set_cons_succ, AM.Y.at0, AM.Y.at1, AM.Y.at2, AM.Y.at3, AM.Y.srcV, AM.Y.enumV, AM.tyOf, AM.tyIs, AM.isiV, AM.Y.isNon_non, AM.Y.isNon_bl, AM.Y.isNon_int, AM.Y.isNon_str, AM.Y.isNon_tup, AM.Y.isNon_rol, AM.Y.isNon_ref, Bool.not_true, Bool.not_false, Bool.true_eq_false, Bool.false_eq_true, ↓reduceIte, decide_true, decide_false, decide_eq_true_eq, Option.map_some, Option.map_none, Option.isSome_some, Option.isSome_none, List.length_cons, List.length_nil, List.isEmpty_cons, List.isEmpty_nil, true_and, and_true, Bool.or_false, Bool.false_or, Bool.or_true, Bool.true_or, Nat.zero_add, Nat.reduceAdd, AM.lim, Nat.reduceLeDiff, List.set, AM.wipeE, AM.Y.xcP, reduceCtorEq, imp_self, implies_true, not_false_eq_true, eqD_str kR kL, qRL]
      exact ⟨f, next (fun w => by have := w.1; rw [e1] at this; cases this), _, _, _, _, rfl⟩
  · obtain ⟨f, nf, a, b, c, e, rfl⟩ := I
    simp -implicitDefEqProofs only [↓AM.Y.y_var, ↓AM.Y.y_non, ↓AM.Y.y_bl, ↓AM.Y.y_int, ↓AM.Y.y_str, ↓AM.Y.y_ty, ↓AM.Y.y_tup, ↓AM.Y.y_lst, ↓AM.Y.y_dct0, ↓AM.Y.y_bin, ↓AM.Y.y_neg, ↓AM.Y.y_not, ↓AM.Y.y_and, ↓AM.Y.y_or, ↓AM.Y.y_cmp, ↓AM.Y.y_cmp2, ↓AM.Y.y_isN, ↓AM.Y.y_ntN, ↓AM.Y.y_isB, ↓AM.Y.y_ntB, ↓AM.Y.y_ife, ↓AM.Y.y_call, ↓AM.Y.y_bi, ↓AM.Y.y_mt, ↓AM.Y.y_idx, ↓AM.Y.y_slc, ↓AM.Y.y_lc, ↓AM.Y.y_lrng, ↓AM.Y.y_nil, ↓AM.Y.y_cons, ↓AM.Y.y_none, ↓AM.Y.y_some, ↓AM.Y.y_cnone, ↓AM.Y.y_csome, ↓AM.Y.t_not, ↓AM.Y.t_and, ↓AM.Y.t_or, ↓AM.Y.t_var, ↓AM.Y.t_cmp, ↓AM.Y.t_cmp2, ↓AM.Y.t_isN, ↓AM.Y.t_ntN, ↓AM.Y.t_isB, ↓AM.Y.t_ntB, ↓AM.Y.t_call, ↓AM.Y.t_bi, ↓AM.Y.t_idx, ↓AM.Y.i_seq, ↓AM.Y.i_rng1, ↓AM.Y.i_rng2, ↓AM.Y.i_enum, ↓AM.Y.i_zip, ↓AM.Y.g_nm, ↓AM.Y.g_tup, ↓AM.Y.g_sub, ↓AM.Y.g_nil, ↓AM.Y.g_cons, ↓AM.Y.s_nil', ↓AM.Y.s_cons', ↓AM.Y.s_asg, ↓AM.Y.s_asg2', ↓AM.Y.s_asg3', ↓AM.Y.s_par2', ↓AM.Y.s_par3', ↓AM.Y.s_aug', ↓AM.Y.s_expr', ↓AM.Y.s_ret', ↓AM.Y.s_retN', ↓AM.Y.s_iff', ↓AM.Y.s_for', ↓AM.Y.s_whl', ↓AM.Y.s_pass', ↓AM.Y.s_brk', ↓AM.Y.s_cnt', ↓AM.Y.s_never', ↓AM.Y.truth_bl, ↓AM.Y.truth_non, ↓AM.Y.truth_int, ↓AM.Y.truth_tup, ↓AM.Y.truth_rol, ↓AM.Y.truth_ref, ↓AM.Y.o_add, ↓AM.Y.o_sub, ↓AM.Y.o_mul, ↓AM.Y.o_mod, ↓AM.Y.o_fdv, ↓AM.Y.o_pow, ↓AM.Y.o_addL, ↓AM.Y.c_eq, ↓AM.Y.c_ne, ↓AM.Y.c_lt, ↓AM.Y.c_le, ↓AM.Y.c_gt, ↓AM.Y.c_ge, ↓AM.Y.c_inn, ↓AM.Y.c_nin, ↓AM.Y.has_dct, ↓AM.Y.x_tup, ↓AM.Y.x_rol, ↓AM.Y.x_ref, ↓AM.Y.x_set, ↓AM.Y.x_slcR, ↓AM.Y.x_slcL, ↓AM.Y.b_len_tup, ↓AM.Y.b_len_rol, ↓AM.Y.b_len_ref, ↓AM.Y.b_isi, ↓AM.Y.b_isi2, ↓AM.Y.b_int, ↓AM.Y.b_intb, ↓AM.Y.b_sum, ↓AM.Y.b_max2, ↓AM.Y.b_min2, ↓AM.Y.b_max1, ↓AM.Y.b_min1, ↓AM.Y.b_lst_tup, ↓AM.Y.b_lst_rol, ↓AM.Y.b_lst_ref, ↓AM.Y.b_all, ↓AM.Y.b_any, ↓AM.Y.k_app, ↓AM.Y.k_bits, ↓AM.Y.k_cnt, ↓AM.Y.m_app, ↓AM.Y.m_bits, ↓AM.Y.n_add, ↓AM.Y.n_sub, AM.wp_ok, AM.wp_no, ↓AM.wp_ret, ↓AM.wp_fail, ↓AM.wp_end, ↓AM.thn_nx, ↓AM.thn_rt, ↓AM.thn_bk, ↓AM.thn_ct, ↓AM.thn_xc, ↓AM.endP_nx, ↓AM.endP_rt, ↓AM.endP_xc, ↓AM.lpP_nx, ↓AM.lpP_ct, ↓AM.lpP_bk, ↓AM.lpP_rt, ↓AM.lpP_xc, ↓AM.Y.ifB_bl, ↓AM.Y.isI_int, ↓AM.Y.isT_tup, ↓AM.Y.isS_some, ↓AM.Y.isSS_some, ↓AM.Y.isO_lst, ↓AM.Y.isO_dct, AM.Y.ifB_bl, AM.Y.isI_int, AM.Y.isT_tup, AM.Y.isS_some, AM.Y.isSS_some, AM.Y.isO_lst, AM.Y.isO_dct, List.getElem?_cons_zero, List.getElem?_cons_succ, List.set_cons_zero, List.set_cons_succ, AM.Y.at0, AM.Y.at1, AM.Y.at2, AM.Y.at3, AM.Y.srcV, AM.Y.enumV, AM.tyOf, AM.tyIs, AM.isiV, AM.Y.isNon_non, AM.Y.isNon_bl, AM.Y.isNon_int, AM.Y.isNon_str, AM.Y.isNon_tup, AM.Y.isNon_rol, AM.Y.isNon_ref, Bool.not_true, Bool.not_false, Bool.true_eq_false, Bool.false_eq_true, ↓reduceIte, decide_true, decide_false, decide_eq_true_eq, Option.map_some, Option.map_none, Option.isSome_some, Option.isSome_none, List.length_cons, List.length_nil, List.isEmpty_cons, List.isEmpty_nil, true_and, and_true, Bool.or_false, Bool.false_or, Bool.or_true, Bool.true_or, Nat.zero_add, Nat.reduceAdd, AM.lim, Nat.reduceLeDiff, List.set, AM.wipeE, AM.Y.xcP, reduceCtorEq, imp_self, implies_true, not_false_eq_true]
    refine ⟨.inl ⟨rfl, fun j hj => ?_⟩, f⟩
    rw [List.length_map] at nf
    exact nf j (List.getElem?_eq_some_iff.mp hj.1).1 hj
end
end K37

namespace AM
open PySem L2 Y
theorem Pu.fr {h h' : SH} {r : Nat} {n : Int} {rs : List Nat} (p : Pu h r n) (f : Fr rs h h') (hr : r ∉ rs) : Pu h' r n := by
  obtain ⟨a, b, c, e, z, q⟩ := p
  exact ⟨a, b, c, e, f.at_ r _ hr z, q⟩
theorem Pu.le {h : SH} {r : Nat} {n m : Int} (p : Pu h r n) (hm : n ≤ m) : Pu h r m := by
  obtain ⟨a, b, c, e, z, q1, q2⟩ := p
  exact ⟨a, b, c, e, z, q1, by omega⟩
theorem Pu.lt {h : SH} {r : Nat} {n : Int} (p : Pu h r n) : r < h.length := by
  obtain ⟨a, b, c, e, z, q⟩ := p
  exact get_lt z
theorem get_app {h : SH} {i : Nat} {u : Ob} (e : h[i]? = some u) (o : Ob) : (h ++ [o])[i]? = some u := (Fr.alloc (rs := []) o).get e
theorem valL_nil {k : Key} : valL [] k = none := rfl
theorem valL_cons {a : Key × Vl} {l : List (Key × Vl)} {k : Key} : valL (a :: l) k = if a.1 = k then some a.2 else valL l k := by
  unfold valL
  rw [List.find?_cons]
  by_cases z : a.1 = k
  · rw [decide_eq_true z, if_pos z]; rfl
  · rw [decide_eq_false z, if_neg z]
theorem valL_map {l : List (Key × Vl)} {k j : Key} {v : Vl} : valL (l.map fun kv => if kv.1 = k then (kv.1, v) else kv) j = if j = k then (if (l.any fun kv => decide (kv.1 = k)) = true then some v else none) else valL l j := by
  induction l with
  | nil => simp [valL_nil]
  | cons a l ih =>
    rw [List.map_cons, valL_cons, ih, List.any_cons, valL_cons]
    by_cases h1 : a.1 = k
    · rw [if_pos h1, decide_eq_true h1]
      by_cases h2 : j = k
      · rw [if_pos (h1.trans h2.symm), if_pos h2]; rfl
      · have h3 : ¬ a.1 = j := fun e => h2 (e.symm.trans h1)
        rw [if_neg h3, if_neg h2, if_neg h2, if_neg h3]
    · rw [if_neg h1, decide_eq_false h1, Bool.false_or]
      by_cases h2 : j = k
      · rw [if_neg (fun e => h1 (e.trans h2)), if_pos h2, if_pos h2]
      · rw [if_neg h2, if_neg h2]
theorem valL_app {l : List (Key × Vl)} {k j : Key} {v : Vl} : valL (l ++ [(k, v)]) j = match valL l j with
    | some w => some w
    | none => if k = j then some v else none := by
  induction l with
  | nil => rw [List.nil_append, valL_cons]; simp [valL_nil]
  | cons a l ih =>
    rw [List.cons_append, valL_cons, valL_cons, ih]
    by_cases h1 : a.1 = j <;> simp [h1]
theorem valL_any {l : List (Key × Vl)} {k : Key} (h : ¬ (l.any fun kv => decide (kv.1 = k)) = true) : valL l k = none := by
  induction l with
  | nil => rfl
  | cons a l ih =>
    rw [List.any_cons, Bool.or_eq_true, not_or] at h
    rw [valL_cons, if_neg (fun e => h.1 (decide_eq_true e)), ih h.2]
theorem valL_put {l : List (Key × Vl)} {k j : Key} {v : Vl} : valL (putL l k v) j = if j = k then some v else valL l j := by
  unfold putL
  split
  · rename_i z
    rw [valL_map, if_pos z]
  · rename_i z
    rw [valL_app]
    by_cases h2 : j = k
    · subst h2
      rw [valL_any z, if_pos rfl]
    · rw [if_neg h2]
      have : ¬ k = j := fun e => h2 e.symm
      cases valL l j <;> simp [this]
theorem putL_len {l : List (Key × Vl)} {k : Key} {v : Vl} : (putL l k v).length ≤ l.length + 1 := by
  unfold putL
  split <;> simp
end AM
namespace K37
open PySem L2 AM Y
def leastK (l : List Ev) : Nat → Nat
  | 0 => 1
  | k + 1 => match l[k]? with
    | some .line => if leastK l k < (tally (l.take k)).1 + 1 - (tally (l.take k)).2.2 then (tally (l.take k)).1 + 1 - (tally (l.take k)).2.2 else leastK l k
    | _ => leastK l k
theorem leastK_succ (l : List Ev) (k : Nat) : leastK l (k + 1) = match l[k]? with
    | some .line => if leastK l k < (tally (l.take k)).1 + 1 - (tally (l.take k)).2.2 then (tally (l.take k)).1 + 1 - (tally (l.take k)).2.2 else leastK l k
    | _ => leastK l k := rfl
theorem leastK_one (l : List Ev) : ∀ k, 1 ≤ leastK l k
  | 0 => Nat.le_refl _
  | k + 1 => by
    have := leastK_one l k
    rw [leastK_succ]
    split
    · split <;> omega
    · omega
theorem leastK_le {l : List Ev} (g : Good l) : ∀ k, k ≤ l.length → leastK l k ≤ k + 1
  | 0, _ => Nat.le_refl _
  | k + 1, hk => by
    have := leastK_le g k (by omega)
    obtain ⟨t1, t2, t3⟩ := tally_le (good_take g k)
    rw [List.length_take] at t3
    rw [leastK_succ]
    split
    · split <;> omega
    · omega
theorem leastK_full {l : List Ev} (g : Good l) {p : Nat} (hp : 1 ≤ p) : ∀ k, (∀ j, j < k → ¬ full l p j) ↔ leastK l k ≤ p
  | 0 => ⟨fun _ => hp, fun _ j hj => by omega⟩
  | k + 1 => by
    have ih := leastK_full g hp k
    obtain ⟨t1, t2, t3⟩ := tally_le (good_take g k)
    have split_ : (∀ j, j < k + 1 → ¬ full l p j) ↔ (∀ j, j < k → ¬ full l p j) ∧ ¬ full l p k := ⟨fun z => ⟨fun j hj => z j (by omega), z k (by omega)⟩, fun z j hj => by
      by_cases e : j = k
      · rw [e]; exact z.2
      · exact z.1 j (by omega)⟩
    rw [split_, ih]
    rw [leastK_succ]
    split
    · rename_i e
      have : full l p k ↔ p + (tally (l.take k)).2.2 < (tally (l.take k)).1 + 1 := ⟨fun z => z.2, fun z => ⟨e, z⟩⟩
      rw [this]
      split <;> omega
    · rename_i e
      have : ¬ full l p k := fun z => e z.1
      exact ⟨fun z => z.1, fun z => ⟨z, this⟩⟩
def least (l : List Ev) : Nat := leastK l l.length
theorem least_full {l : List Ev} (g : Good l) {p : Nat} (hp : 1 ≤ p) : (∀ j, ¬ full l p j) ↔ least l ≤ p := by
  rw [least, ← leastK_full g hp]
  exact ⟨fun z j _ => z j, fun z j w => z j (List.getElem?_eq_some_iff.mp w.1).1 w⟩
theorem first_non {l : List Ev} (g : Good l) {p : Nat} (hp : 1 ≤ p) {v : Vl} (a : FirstOf (full l p) v) : isNon v = decide (least l ≤ p) := by
  rcases a with ⟨rfl, a⟩ | ⟨j, rfl, a, _⟩
  · rw [decide_eq_true ((least_full g hp).mp a)]; rfl
  · rw [decide_eq_false fun z => (least_full g hp).mpr z j a]; rfl
section
variable {d : Nat} {h : SH} {r : Nat} {l : List Ev}
theorem w_fits (hr : h[r]? = some (.lst (l.map Ev.v))) (g : Good l) (hl : l.length ≤ 1000) {p : Nat} (hp : 1 ≤ p) : wp (callD fns 100000 (d + 5) 9 [.ref r, .int p] h) (fun v h' => v = .bl (decide (least l ≤ p)) ∧ Fr [] h h') NoX := by
  rw [call_eq (fns := fns) (W := 100000) (d := d + 4) (g := 9) (f := f_fits) rfl (us := [.ref r, .int p]) (vs := [.ref r, .int p]) rfl rfl, wp_end]
  show wp (exSs (callD fns 100000 (d + 4)) 100000 [some (.ref r), some (.int p)] f_fits.body h) _ _
  unfold f_fits
  simp -implicitDefEqProofs only [↓AM.Y.y_var, ↓AM.Y.y_non, ↓AM.Y.y_bl, ↓AM.Y.y_int, ↓AM.Y.y_str, ↓AM.Y.y_ty, ↓AM.Y.y_tup, ↓AM.Y.y_lst, ↓AM.Y.y_dct0, ↓AM.Y.y_bin, ↓AM.Y.y_neg, ↓AM.Y.y_not, ↓AM.Y.y_and, ↓AM.Y.y_or, ↓AM.Y.y_cmp, ↓AM.Y.y_cmp2, ↓AM.Y.y_isN, ↓AM.Y.y_ntN, ↓AM.Y.y_isB, ↓AM.Y.y_ntB, ↓AM.Y.y_ife, ↓AM.Y.y_call, ↓AM.Y.y_bi, ↓AM.Y.y_mt, ↓AM.Y.y_idx, ↓AM.Y.y_slc, ↓AM.Y.y_lc, ↓AM.Y.y_lrng, ↓AM.Y.y_nil, ↓AM.Y.y_cons, ↓AM.Y.y_none, ↓AM.Y.y_some, ↓AM.Y.y_cnone, ↓AM.Y.y_csome, ↓AM.Y.t_not, ↓AM.Y.t_and, ↓AM.Y.t_or, ↓AM.Y.t_var, ↓AM.Y.t_cmp, ↓AM.Y.t_cmp2, ↓AM.Y.t_isN, ↓AM.Y.t_ntN, ↓AM.Y.t_isB, ↓AM.Y.t_ntB, ↓AM.Y.t_call, ↓AM.Y.t_bi, ↓AM.Y.t_idx, ↓AM.Y.i_seq, ↓AM.Y.i_rng1, ↓AM.Y.i_rng2, ↓AM.Y.i_enum, ↓AM.Y.i_zip, ↓AM.Y.g_nm, ↓AM.Y.g_tup, ↓AM.Y.g_sub, ↓AM.Y.g_nil, ↓AM.Y.g_cons, ↓AM.Y.s_nil', ↓AM.Y.s_cons', ↓AM.Y.s_asg, ↓AM.Y.s_asg2', ↓AM.Y.s_asg3', ↓AM.Y.s_par2', ↓AM.Y.s_par3', ↓AM.Y.s_aug', ↓AM.Y.s_expr', ↓AM.Y.s_ret', ↓AM.Y.s_retN', ↓AM.Y.s_iff', ↓AM.Y.s_for', ↓AM.Y.s_whl', ↓AM.Y.s_pass', ↓AM.Y.s_brk', ↓AM.Y.s_cnt', ↓AM.Y.s_never', ↓AM.Y.truth_bl, ↓AM.Y.truth_non, ↓AM.Y.truth_int, ↓AM.Y.truth_tup, ↓AM.Y.truth_rol, ↓AM.Y.truth_ref, ↓AM.Y.o_add, ↓AM.Y.o_sub, ↓AM.Y.o_mul, ↓AM.Y.o_mod, ↓AM.Y.o_fdv, ↓AM.Y.o_pow, ↓AM.Y.o_addL, ↓AM.Y.c_eq, ↓AM.Y.c_ne, ↓AM.Y.c_lt, ↓AM.Y.c_le, ↓AM.Y.c_gt, ↓AM.Y.c_ge, ↓AM.Y.c_inn, ↓AM.Y.c_nin, ↓AM.Y.has_dct, ↓AM.Y.x_tup, ↓AM.Y.x_rol, ↓AM.Y.x_ref, ↓AM.Y.x_set, ↓AM.Y.x_slcR, ↓AM.Y.x_slcL, ↓AM.Y.b_len_tup, ↓AM.Y.b_len_rol, ↓AM.Y.b_len_ref, ↓AM.Y.b_isi, ↓AM.Y.b_isi2, ↓AM.Y.b_int, ↓AM.Y.b_intb, ↓AM.Y.b_sum, ↓AM.Y.b_max2, ↓AM.Y.b_min2, ↓AM.Y.b_max1, ↓AM.Y.b_min1, ↓AM.Y.b_lst_tup, ↓AM.Y.b_lst_rol, ↓AM.Y.b_lst_ref, ↓AM.Y.b_all, ↓AM.Y.b_any, ↓AM.Y.k_app, ↓AM.Y.k_bits, ↓AM.Y.k_cnt, ↓AM.Y.m_app, ↓AM.Y.m_bits, ↓AM.Y.n_add, ↓AM.Y.n_sub, AM.wp_ok, AM.wp_no, ↓AM.wp_ret, ↓AM.wp_fail, ↓AM.wp_end, ↓AM.thn_nx, ↓AM.thn_rt, ↓AM.thn_bk, ↓AM.thn_ct, ↓AM.thn_xc, ↓AM.endP_nx, ↓AM.endP_rt, ↓AM.endP_xc, ↓AM.lpP_nx, ↓AM.lpP_ct, ↓AM.lpP_bk, ↓AM.lpP_rt, ↓AM.lpP_xc, ↓AM.Y.ifB_bl, ↓AM.Y.isI_int, ↓AM.Y.isT_tup, ↓AM.Y.isS_some, ↓AM.Y.isSS_some, ↓AM.Y.isO_lst, ↓AM.Y.isO_dct, AM.Y.ifB_bl, AM.Y.isI_int, AM.Y.isT_tup, AM.Y.isS_some, AM.Y.isSS_some, AM.Y.isO_lst, AM.Y.isO_dct, List.getElem?_cons_zero, List.getElem?_cons_succ, List.set_cons_zero, List.set_cons_succ, AM.Y.at0, AM.Y.at1, AM.Y.at2, AM.Y.at3, AM.Y.srcV, AM.Y.enumV, AM.tyOf, AM.tyIs, AM.isiV, AM.Y.isNon_non, AM.Y.isNon_bl, AM.Y.isNon_int, AM.Y.isNon_str, AM.Y.isNon_tup, AM.Y.isNon_rol, AM.Y.isNon_ref, Bool.not_true, Bool.not_false, Bool.true_eq_false, Bool.false_eq_true, ↓reduceIte, decide_true, decide_false, decide_eq_true_eq, Option.map_some, Option.map_none, Option.isSome_some, Option.isSome_none, List.length_cons, List.length_nil, List.isEmpty_cons, List.isEmpty_nil, true_and, and_true, Bool.or_false, Bool.false_or, Bool.or_true, Bool.true_or, Nat.zero_add, Nat.reduceAdd, AM.lim, Nat.reduceLeDiff, List.set, AM.wipeE, AM.Y.xcP, reduceCtorEq, imp_self, implies_true, not_false_eq_true]
  refine wp_q (w_check_ring hr g hl hp) fun v h2 f => ?_
  try simp -implicitDefEqProofs only [↓AM.Y.y_var, ↓AM.Y.y_non, ↓AM.Y.y_bl, ↓AM.Y.y_int, ↓AM.Y.y_str, ↓AM.Y.y_ty, ↓AM.Y.y_tup, ↓AM.Y.y_lst, ↓AM.Y.y_dct0, ↓AM.Y.y_bin, ↓AM.Y.y_neg, ↓AM.Y.y_not, ↓AM.Y.y_and, ↓AM.Y.y_or, ↓AM.Y.y_cmp, ↓AM.Y.y_cmp2, ↓AM.Y.y_isN, ↓AM.Y.y_ntN, ↓AM.Y.y_isB, ↓AM.Y.y_ntB, ↓AM.Y.y_ife, ↓AM.Y.y_call, ↓AM.Y.y_bi, ↓AM.Y.y_mt, ↓AM.Y.y_idx, ↓AM.Y.y_slc, ↓AM.Y.y_lc, ↓AM.Y.y_lrng, ↓AM.Y.y_nil, ↓AM.Y.y_cons, ↓AM.Y.y_none, ↓AM.Y.y_some, ↓AM.Y.y_cnone, ↓AM.Y.y_csome, ↓AM.Y.t_not, ↓AM.Y.t_and, ↓AM.Y.t_or, ↓AM.Y.t_var, ↓AM.Y.t_cmp, ↓AM.Y.t_cmp2, ↓AM.Y.t_isN, ↓AM.Y.t_ntN, ↓AM.Y.t_isB, ↓AM.Y.t_ntB, ↓AM.Y.t_call, ↓AM.Y.t_bi, ↓AM.Y.t_idx, ↓AM.Y.i_seq, ↓AM.Y.i_rng1, ↓AM.Y.i_rng2, ↓AM.Y.i_enum, ↓AM.Y.i_zip, ↓AM.Y.g_nm, ↓AM.Y.g_tup, ↓AM.Y.g_sub, ↓AM.Y.g_nil, ↓AM.Y.g_cons, ↓AM.Y.s_nil', ↓AM.Y.s_cons', ↓AM.Y.s_asg, ↓AM.Y.s_asg2', ↓AM.Y.s_asg3', ↓AM.Y.s_par2', ↓AM.Y.s_par3', ↓AM.Y.s_aug', ↓AM.Y.s_expr', ↓AM.Y.s_ret', ↓AM.Y.s_retN', ↓AM.Y.s_iff', ↓AM.Y.s_for', ↓AM.Y.s_whl', ↓AM.Y.s_pass', ↓AM.Y.s_brk', ↓AM.Y.s_cnt', ↓AM.Y.s_never', ↓AM.Y.truth_bl, ↓AM.Y.truth_non, ↓AM.Y.truth_int, ↓AM.Y.truth_tup, ↓AM.Y.truth_rol, ↓AM.Y.truth_ref, ↓AM.Y.o_add, ↓AM.Y.o_sub, ↓AM.Y.o_mul, ↓AM.Y.o_mod, ↓AM.Y.o_fdv, ↓AM.Y.o_pow, ↓AM.Y.o_addL, ↓AM.Y.c_eq, ↓AM.Y.c_ne, ↓AM.Y.c_lt, ↓AM.Y.c_le, ↓AM.Y.c_gt, ↓AM.Y.c_ge, ↓AM.Y.c_inn, ↓AM.Y.c_nin, ↓AM.Y.has_dct, ↓AM.Y.x_tup, ↓AM.Y.x_rol, ↓AM.Y.x_ref, ↓AM.Y.x_set, ↓AM.Y.x_slcR, ↓AM.Y.x_slcL, ↓AM.Y.b_len_tup, ↓AM.Y.b_len_rol, ↓AM.Y.b_len_ref, ↓AM.Y.b_isi, ↓AM.Y.b_isi2, ↓AM.Y.b_int, ↓AM.Y.b_intb, ↓AM.Y.b_sum, ↓AM.Y.b_max2, ↓AM.Y.b_min2, ↓AM.Y.b_max1, ↓AM.Y.b_min1, ↓AM.Y.b_lst_tup, ↓AM.Y.b_lst_rol, ↓AM.Y.b_lst_ref, ↓AM.Y.b_all, ↓AM.Y.b_any, ↓AM.Y.k_app, ↓AM.Y.k_bits, ↓AM.Y.k_cnt, ↓AM.Y.m_app, ↓AM.Y.m_bits, ↓AM.Y.n_add, ↓AM.Y.n_sub, AM.wp_ok, AM.wp_no, ↓AM.wp_ret, ↓AM.wp_fail, ↓AM.wp_end, ↓AM.thn_nx, ↓AM.thn_rt, ↓AM.thn_bk, ↓AM.thn_ct, ↓AM.thn_xc, ↓AM.endP_nx, ↓AM.endP_rt, ↓AM.endP_xc, ↓AM.lpP_nx, ↓AM.lpP_ct, ↓AM.lpP_bk, ↓AM.lpP_rt, ↓AM.lpP_xc, ↓AM.Y.ifB_bl, ↓AM.Y.isI_int, ↓AM.Y.isT_tup, ↓AM.Y.isS_some, ↓AM.Y.isSS_some, ↓AM.Y.isO_lst, ↓AM.Y.isO_dct, AM.Y.ifB_bl, AM.Y.isI_int, AM.Y.isT_tup, AM.Y.isS_some, AM.Y.isSS_some, AM.Y.isO_lst, AM.Y.isO_dct, List.getElem?_cons_zero, List.getElem?_cons_succ, List.set_cons_zero, List.set_cons_succ, AM.Y.at0, AM.Y.at1, AM.Y.at2, AM.Y.at3, AM.Y.srcV, AM.Y.enumV, AM.tyOf, AM.tyIs, AM.isiV, AM.Y.isNon_non, AM.Y.isNon_bl, AM.Y.isNon_int, AM.Y.isNon_str, AM.Y.isNon_tup, AM.Y.isNon_rol, AM.Y.isNon_ref, Bool.not_true, Bool.not_false, Bool.true_eq_false, Bool.false_eq_true, ↓reduceIte, decide_true, decide_false, decide_eq_true_eq, Option.map_some, Option.map_none, Option.isSome_some, Option.isSome_none, List.length_cons, List.length_nil, List.isEmpty_cons, List.isEmpty_nil, true_and, and_true, Bool.or_false, Bool.false_or, Bool.or_true, Bool.true_or, Nat.zero_add, Nat.reduceAdd, AM.lim, Nat.reduceLeDiff, List.set, AM.wipeE, AM.Y.xcP, reduceCtorEq, imp_self, implies_true, not_false_eq_true]
  refine wp_q (w_full_at (d := d + 2) (f.get hr) g (p := p)) fun v h3 q => ?_
  obtain ⟨q, f2⟩ := q
  try simp -implicitDefEqProofs only [↓AM.Y.y_var, ↓AM.Y.y_non, ↓AM.Y.y_bl, ↓AM.Y.y_int, ↓AM.Y.y_str, ↓AM.Y.y_ty, ↓AM.Y.y_tup, ↓AM.Y.y_lst, ↓AM.Y.y_dct0, ↓AM.Y.y_bin, ↓AM.Y.y_neg, ↓AM.Y.y_not, ↓AM.Y.y_and, ↓AM.Y.y_or, ↓AM.Y.y_cmp, ↓AM.Y.y_cmp2, ↓AM.Y.y_isN, ↓AM.Y.y_ntN, ↓AM.Y.y_isB, ↓AM.Y.y_ntB, ↓AM.Y.y_ife, ↓AM.Y.y_call, ↓AM.Y.y_bi, ↓AM.Y.y_mt, ↓AM.Y.y_idx, ↓AM.Y.y_slc, ↓AM.Y.y_lc, ↓AM.Y.y_lrng, ↓AM.Y.y_nil, ↓AM.Y.y_cons, ↓AM.Y.y_none, ↓AM.Y.y_some, ↓AM.Y.y_cnone, ↓AM.Y.y_csome, ↓AM.Y.t_not, ↓AM.Y.t_and, ↓AM.Y.t_or, ↓AM.Y.t_var, ↓AM.Y.t_cmp, ↓AM.Y.t_cmp2, ↓AM.Y.t_isN, ↓AM.Y.t_ntN, ↓AM.Y.t_isB, ↓AM.Y.t_ntB, ↓AM.Y.t_call, ↓AM.Y.t_bi, ↓AM.Y.t_idx, ↓AM.Y.i_seq, ↓AM.Y.i_rng1, ↓AM.Y.i_rng2, ↓AM.Y.i_enum, ↓AM.Y.i_zip, ↓AM.Y.g_nm, ↓AM.Y.g_tup, ↓AM.Y.g_sub, ↓AM.Y.g_nil, ↓AM.Y.g_cons, ↓AM.Y.s_nil', ↓AM.Y.s_cons', ↓AM.Y.s_asg, ↓AM.Y.s_asg2', ↓AM.Y.s_asg3', ↓AM.Y.s_par2', ↓AM.Y.s_par3', ↓AM.Y.s_aug', ↓AM.Y.s_expr', ↓AM.Y.s_ret', ↓AM.Y.s_retN', ↓AM.Y.s_iff', ↓AM.Y.s_for', ↓AM.Y.s_whl', ↓AM.Y.s_pass', ↓AM.Y.s_brk', ↓AM.Y.s_cnt', ↓AM.Y.s_never', ↓AM.Y.truth_bl, ↓AM.Y.truth_non, ↓AM.Y.truth_int, ↓AM.Y.truth_tup, ↓AM.Y.truth_rol, ↓AM.Y.truth_ref, ↓AM.Y.o_add, ↓AM.Y.o_sub, ↓AM.Y.o_mul, ↓AM.Y.o_mod, ↓AM.Y.o_fdv, ↓AM.Y.o_pow, ↓AM.Y.o_addL, ↓AM.Y.c_eq, ↓AM.Y.c_ne, ↓AM.Y.c_lt, ↓AM.Y.c_le, ↓AM.Y.c_gt, ↓AM.Y.c_ge, ↓AM.Y.c_inn, ↓AM.Y.c_nin, ↓AM.Y.has_dct, ↓AM.Y.x_tup, ↓AM.Y.x_rol, ↓AM.Y.x_ref, ↓AM.Y.x_set, ↓AM.Y.x_slcR, ↓AM.Y.x_slcL, ↓AM.Y.b_len_tup, ↓AM.Y.b_len_rol, ↓AM.Y.b_len_ref, ↓AM.Y.b_isi, ↓AM.Y.b_isi2, ↓AM.Y.b_int, ↓AM.Y.b_intb, ↓AM.Y.b_sum, ↓AM.Y.b_max2, ↓AM.Y.b_min2, ↓AM.Y.b_max1, ↓AM.Y.b_min1, ↓AM.Y.b_lst_tup, ↓AM.Y.b_lst_rol, ↓AM.Y.b_lst_ref, ↓AM.Y.b_all, ↓AM.Y.b_any, ↓AM.Y.k_app, ↓AM.Y.k_bits, ↓AM.Y.k_cnt, ↓AM.Y.m_app, ↓AM.Y.m_bits, ↓AM.Y.n_add, ↓AM.Y.n_sub, AM.wp_ok, AM.wp_no, ↓AM.wp_ret, ↓AM.wp_fail, ↓AM.wp_end, ↓AM.thn_nx, ↓AM.thn_rt, ↓AM.thn_bk, ↓AM.thn_ct, ↓AM.thn_xc, ↓AM.endP_nx, ↓AM.endP_rt, ↓AM.endP_xc, ↓AM.lpP_nx, ↓AM.lpP_ct, ↓AM.lpP_bk, ↓AM.lpP_rt, ↓AM.lpP_xc, ↓AM.Y.ifB_bl, ↓AM.Y.isI_int, ↓AM.Y.isT_tup, ↓AM.Y.isS_some, ↓AM.Y.isSS_some, ↓AM.Y.isO_lst, ↓AM.Y.isO_dct, AM.Y.ifB_bl, AM.Y.isI_int, AM.Y.isT_tup, AM.Y.isS_some, AM.Y.isSS_some, AM.Y.isO_lst, AM.Y.isO_dct, List.getElem?_cons_zero, List.getElem?_cons_succ, List.set_cons_zero, List.set_cons_succ, AM.Y.at0, AM.Y.at1, AM.Y.at2, AM.Y.at3, AM.Y.srcV, AM.Y.enumV, AM.tyOf, AM.tyIs, AM.isiV, AM.Y.isNon_non, AM.Y.isNon_bl, AM.Y.isNon_int, AM.Y.isNon_str, AM.Y.isNon_tup, AM.Y.isNon_rol, AM.Y.isNon_ref, Bool.not_true, Bool.not_false, Bool.true_eq_false, Bool.false_eq_true, ↓reduceIte, decide_true, decide_false, decide_eq_true_eq, Option.map_some, Option.map_none, Option.isSome_some, Option.isSome_none, List.length_cons, List.length_nil, List.isEmpty_cons, List.isEmpty_nil, true_and, and_true, Bool.or_false, Bool.false_or, Bool.or_true, Bool.true_or, Nat.zero_add, Nat.reduceAdd, AM.lim, Nat.reduceLeDiff, List.set, AM.wipeE, AM.Y.xcP, reduceCtorEq, imp_self, implies_true, not_false_eq_true]
  rw [first_non g hp q]
  exact ⟨rfl, f.trans f2⟩
theorem w_first_full (hr : h[r]? = some (.lst (l.map Ev.v))) (g : Good l) (hl : l.length ≤ 1000) {p : Nat} (hp : 1 ≤ p) : wp (callD fns 100000 (d + 5) 10 [.ref r, .int p] h) (fun v h' => FirstOf (full l p) v ∧ Fr [] h h') NoX := by
  rw [call_eq (fns := fns) (W := 100000) (d := d + 4) (g := 10) (f := f_first_full) rfl (us := [.ref r, .int p]) (vs := [.ref r, .int p]) rfl rfl, wp_end]
  show wp (exSs (callD fns 100000 (d + 4)) 100000 [some (.ref r), some (.int p)] f_first_full.body h) _ _
  unfold f_first_full
  simp -implicitDefEqProofs only [↓AM.Y.y_var, ↓AM.Y.y_non, ↓AM.Y.y_bl, ↓AM.Y.y_int, ↓AM.Y.y_str, ↓AM.Y.y_ty, ↓AM.Y.y_tup, ↓AM.Y.y_lst, ↓AM.Y.y_dct0, ↓AM.Y.y_bin, ↓AM.Y.y_neg, ↓AM.Y.y_not, ↓AM.Y.y_and, ↓AM.Y.y_or, ↓AM.Y.y_cmp, ↓AM.Y.y_cmp2, ↓AM.Y.y_isN, ↓AM.Y.y_ntN, ↓AM.Y.y_isB, ↓AM.Y.y_ntB, ↓AM.Y.y_ife, ↓AM.Y.y_call, ↓AM.Y.y_bi, ↓AM.Y.y_mt, ↓AM.Y.y_idx, ↓AM.Y.y_slc, ↓AM.Y.y_lc, ↓AM.Y.y_lrng, ↓AM.Y.y_nil, ↓AM.Y.y_cons, ↓AM.Y.y_none, ↓AM.Y.y_some, ↓AM.Y.y_cnone, ↓AM.Y.y_csome, ↓AM.Y.t_not, ↓AM.Y.t_and, ↓AM.Y.t_or, ↓AM.Y.t_var, ↓AM.Y.t_cmp, ↓AM.Y.t_cmp2, ↓AM.Y.t_isN, ↓AM.Y.t_ntN, ↓AM.Y.t_isB, ↓AM.Y.t_ntB, ↓AM.Y.t_call, ↓AM.Y.t_bi, ↓AM.Y.t_idx, ↓AM.Y.i_seq, ↓AM.Y.i_rng1, ↓AM.Y.i_rng2, ↓AM.Y.i_enum, ↓AM.Y.i_zip, ↓AM.Y.g_nm, ↓AM.Y.g_tup, ↓AM.Y.g_sub, ↓AM.Y.g_nil, ↓AM.Y.g_cons, ↓AM.Y.s_nil', ↓AM.Y.s_cons', ↓AM.Y.s_asg, ↓AM.Y.s_asg2', ↓AM.Y.s_asg3', ↓AM.Y.s_par2', ↓AM.Y.s_par3', ↓AM.Y.s_aug', ↓AM.Y.s_expr', ↓AM.Y.s_ret', ↓AM.Y.s_retN', ↓AM.Y.s_iff', ↓AM.Y.s_for', ↓AM.Y.s_whl', ↓AM.Y.s_pass', ↓AM.Y.s_brk', ↓AM.Y.s_cnt', ↓AM.Y.s_never', ↓AM.Y.truth_bl, ↓AM.Y.truth_non, ↓AM.Y.truth_int, ↓AM.Y.truth_tup, ↓AM.Y.truth_rol, ↓AM.Y.truth_ref, ↓AM.Y.o_add, ↓AM.Y.o_sub, ↓AM.Y.o_mul, ↓AM.Y.o_mod, ↓AM.Y.o_fdv, ↓AM.Y.o_pow, ↓AM.Y.o_addL, ↓AM.Y.c_eq, ↓AM.Y.c_ne, ↓AM.Y.c_lt, ↓AM.Y.c_le, ↓AM.Y.c_gt, ↓AM.Y.c_ge, ↓AM.Y.c_inn, ↓AM.Y.c_nin, ↓AM.Y.has_dct, ↓AM.Y.x_tup, ↓AM.Y.x_rol, ↓AM.Y.x_ref, ↓AM.Y.x_set, ↓AM.Y.x_slcR, ↓AM.Y.x_slcL, ↓AM.Y.b_len_tup, ↓AM.Y.b_len_rol, ↓AM.Y.b_len_ref, ↓AM.Y.b_isi, ↓AM.Y.b_isi2, ↓AM.Y.b_int, ↓AM.Y.b_intb, ↓AM.Y.b_sum, ↓AM.Y.b_max2, ↓AM.Y.b_min2, ↓AM.Y.b_max1, ↓AM.Y.b_min1, ↓AM.Y.b_lst_tup, ↓AM.Y.b_lst_rol, ↓AM.Y.b_lst_ref, ↓AM.Y.b_all, ↓AM.Y.b_any, ↓AM.Y.k_app, ↓AM.Y.k_bits, ↓AM.Y.k_cnt, ↓AM.Y.m_app, ↓AM.Y.m_bits, ↓AM.Y.n_add, ↓AM.Y.n_sub, AM.wp_ok, AM.wp_no, ↓AM.wp_ret, ↓AM.wp_fail, ↓AM.wp_end, ↓AM.thn_nx, ↓AM.thn_rt, ↓AM.thn_bk, ↓AM.thn_ct, ↓AM.thn_xc, ↓AM.endP_nx, ↓AM.endP_rt, ↓AM.endP_xc, ↓AM.lpP_nx, ↓AM.lpP_ct, ↓AM.lpP_bk, ↓AM.lpP_rt, ↓AM.lpP_xc, ↓AM.Y.ifB_bl, ↓AM.Y.isI_int, ↓AM.Y.isT_tup, ↓AM.Y.isS_some, ↓AM.Y.isSS_some, ↓AM.Y.isO_lst, ↓AM.Y.isO_dct, AM.Y.ifB_bl, AM.Y.isI_int, AM.Y.isT_tup, AM.Y.isS_some, AM.Y.isSS_some, AM.Y.isO_lst, AM.Y.isO_dct, List.getElem?_cons_zero, List.getElem?_cons_succ, List.set_cons_zero, List.set_cons_succ, AM.Y.at0, AM.Y.at1, AM.Y.at2, AM.Y.at3, AM.Y.srcV, AM.Y.enumV, AM.tyOf, AM.tyIs, AM.isiV, AM.Y.isNon_non, AM.Y.isNon_bl, AM.Y.isNon_int, AM.Y.isNon_str, AM.Y.isNon_tup, AM.Y.isNon_rol, AM.Y.isNon_ref, Bool.not_true, Bool.not_false, Bool.true_eq_false, Bool.false_eq_true, ↓reduceIte, decide_true, decide_false, decide_eq_true_eq, Option.map_some, Option.map_none, Option.isSome_some, Option.isSome_none, List.length_cons, List.length_nil, List.isEmpty_cons, List.isEmpty_nil, true_and, and_true, Bool.or_false, Bool.false_or, Bool.or_true, Bool.true_or, Nat.zero_add, Nat.reduceAdd, AM.lim, Nat.reduceLeDiff, List.set, AM.wipeE, AM.Y.xcP, reduceCtorEq, imp_self, implies_true, not_false_eq_true]
  refine wp_q (w_check_ring hr g hl hp) fun v h2 f => ?_
  try simp -implicitDefEqProofs only [↓AM.Y.y_var, ↓AM.Y.y_non, ↓AM.Y.y_bl, ↓AM.Y.y_int, ↓AM.Y.y_str, ↓AM.Y.y_ty, ↓AM.Y.y_tup, ↓AM.Y.y_lst, ↓AM.Y.y_dct0, ↓AM.Y.y_bin, ↓AM.Y.y_neg, ↓AM.Y.y_not, ↓AM.Y.y_and, ↓AM.Y.y_or, ↓AM.Y.y_cmp, ↓AM.Y.y_cmp2, ↓AM.Y.y_isN, ↓AM.Y.y_ntN, ↓AM.Y.y_isB, ↓AM.Y.y_ntB, ↓AM.Y.y_ife, ↓AM.Y.y_call, ↓AM.Y.y_bi, ↓AM.Y.y_mt, ↓AM.Y.y_idx, ↓AM.Y.y_slc, ↓AM.Y.y_lc, ↓AM.Y.y_lrng, ↓AM.Y.y_nil, ↓AM.Y.y_cons, ↓AM.Y.y_none, ↓AM.Y.y_some, ↓AM.Y.y_cnone, ↓AM.Y.y_csome, ↓AM.Y.t_not, ↓AM.Y.t_and, ↓AM.Y.t_or, ↓AM.Y.t_var, ↓AM.Y.t_cmp, ↓AM.Y.t_cmp2, ↓AM.Y.t_isN, ↓AM.Y.t_ntN, ↓AM.Y.t_isB, ↓AM.Y.t_ntB, ↓AM.Y.t_call, ↓AM.Y.t_bi, ↓AM.Y.t_idx, ↓AM.Y.i_seq, ↓AM.Y.i_rng1, ↓AM.Y.i_rng2, ↓AM.Y.i_enum, ↓AM.Y.i_zip, ↓AM.Y.g_nm, ↓AM.Y.g_tup, ↓AM.Y.g_sub, ↓AM.Y.g_nil, ↓AM.Y.g_cons, ↓AM.Y.s_nil', ↓AM.Y.s_cons', ↓AM.Y.s_asg, ↓AM.Y.s_asg2', ↓AM.Y.s_asg3', ↓AM.Y.s_par2', ↓AM.Y.s_par3', ↓AM.Y.s_aug', ↓AM.Y.s_expr', ↓AM.Y.s_ret', ↓AM.Y.s_retN', ↓AM.Y.s_iff', ↓AM.Y.s_for', ↓AM.Y.s_whl', ↓AM.Y.s_pass', ↓AM.Y.s_brk', ↓AM.Y.s_cnt', ↓AM.Y.s_never', ↓AM.Y.truth_bl, ↓AM.Y.truth_non, ↓AM.Y.truth_int, ↓AM.Y.truth_tup, ↓AM.Y.truth_rol, ↓AM.Y.truth_ref, ↓AM.Y.o_add, ↓AM.Y.o_sub, ↓AM.Y.o_mul, ↓AM.Y.o_mod, ↓AM.Y.o_fdv, ↓AM.Y.o_pow, ↓AM.Y.o_addL, ↓AM.Y.c_eq, ↓AM.Y.c_ne, ↓AM.Y.c_lt, ↓AM.Y.c_le, ↓AM.Y.c_gt, ↓AM.Y.c_ge, ↓AM.Y.c_inn, ↓AM.Y.c_nin, ↓AM.Y.has_dct, ↓AM.Y.x_tup, ↓AM.Y.x_rol, ↓AM.Y.x_ref, ↓AM.Y.x_set, ↓AM.Y.x_slcR, ↓AM.Y.x_slcL, ↓AM.Y.b_len_tup, ↓AM.Y.b_len_rol, ↓AM.Y.b_len_ref, ↓AM.Y.b_isi, ↓AM.Y.b_isi2, ↓AM.Y.b_int, ↓AM.Y.b_intb, ↓AM.Y.b_sum, ↓AM.Y.b_max2, ↓AM.Y.b_min2, ↓AM.Y.b_max1, ↓AM.Y.b_min1, ↓AM.Y.b_lst_tup, ↓AM.Y.b_lst_rol, ↓AM.Y.b_lst_ref, ↓AM.Y.b_all, ↓AM.Y.b_any, ↓AM.Y.k_app, ↓AM.Y.k_bits, ↓AM.Y.k_cnt, ↓AM.Y.m_app, ↓AM.Y.m_bits, ↓AM.Y.n_add, ↓AM.Y.n_sub, AM.wp_ok, AM.wp_no, ↓AM.wp_ret, ↓AM.wp_fail, ↓AM.wp_end, ↓AM.thn_nx, ↓AM.thn_rt, ↓AM.thn_bk, ↓AM.thn_ct, ↓AM.thn_xc, ↓AM.endP_nx, ↓AM.endP_rt, ↓AM.endP_xc, ↓AM.lpP_nx, ↓AM.lpP_ct, ↓AM.lpP_bk, ↓AM.lpP_rt, ↓AM.lpP_xc, ↓AM.Y.ifB_bl, ↓AM.Y.isI_int, ↓AM.Y.isT_tup, ↓AM.Y.isS_some, ↓AM.Y.isSS_some, ↓AM.Y.isO_lst, ↓AM.Y.isO_dct, AM.Y.ifB_bl, AM.Y.isI_int, AM.Y.isT_tup, AM.Y.isS_some, AM.Y.isSS_some, AM.Y.isO_lst, AM.Y.isO_dct, List.getElem?_cons_zero, List.getElem?_cons_succ, List.set_cons_zero, List.set_cons_succ, AM.Y.at0, AM.Y.at1, AM.Y.at2, AM.Y.at3, AM.Y.srcV, AM.Y.enumV, AM.tyOf, AM.tyIs, AM.isiV, AM.Y.isNon_non, AM.Y.isNon_bl, AM.Y.isNon_int, AM.Y.isNon_str, AM.Y.isNon_tup, AM.Y.isNon_rol, AM.Y.isNon_ref, Bool.not_true, Bool.not_false, Bool.true_eq_false, Bool.false_eq_true, ↓reduceIte, decide_true, decide_false, decide_eq_true_eq, Option.map_some, Option.map_none, Option.isSome_some, Option.isSome_none, List.length_cons, List.length_nil, List.isEmpty_cons, List.isEmpty_nil, true_and, and_true, Bool.or_false, Bool.false_or, Bool.or_true, Bool.true_or, Nat.zero_add, Nat.reduceAdd, AM.lim, Nat.reduceLeDiff, List.set, AM.wipeE, AM.Y.xcP, reduceCtorEq, imp_self, implies_true, not_false_eq_true]
  refine wp_q (w_full_at (d := d + 2) (f.get hr) g (p := p)) fun v h3 q => ?_
  obtain ⟨q, f2⟩ := q
  try simp -implicitDefEqProofs only [↓AM.Y.y_var, ↓AM.Y.y_non, ↓AM.Y.y_bl, ↓AM.Y.y_int, ↓AM.Y.y_str, ↓AM.Y.y_ty, ↓AM.Y.y_tup, ↓AM.Y.y_lst, ↓AM.Y.y_dct0, ↓AM.Y.y_bin, ↓AM.Y.y_neg, ↓AM.Y.y_not, ↓AM.Y.y_and, ↓AM.Y.y_or, ↓AM.Y.y_cmp, ↓AM.Y.y_cmp2, ↓AM.Y.y_isN, ↓AM.Y.y_ntN, ↓AM.Y.y_isB, ↓AM.Y.y_ntB, ↓AM.Y.y_ife, ↓AM.Y.y_call, ↓AM.Y.y_bi, ↓AM.Y.y_mt, ↓AM.Y.y_idx, ↓AM.Y.y_slc, ↓AM.Y.y_lc, ↓AM.Y.y_lrng, ↓AM.Y.y_nil, ↓AM.Y.y_cons, ↓AM.Y.y_none, ↓AM.Y.y_some, ↓AM.Y.y_cnone, ↓AM.Y.y_csome, ↓AM.Y.t_not, ↓AM.Y.t_and, ↓AM.Y.t_or, ↓AM.Y.t_var, ↓AM.Y.t_cmp, ↓AM.Y.t_cmp2, ↓AM.Y.t_isN, ↓AM.Y.t_ntN, ↓AM.Y.t_isB, ↓AM.Y.t_ntB, ↓AM.Y.t_call, ↓AM.Y.t_bi, ↓AM.Y.t_idx, ↓AM.Y.i_seq, ↓AM.Y.i_rng1, ↓AM.Y.i_rng2, ↓AM.Y.i_enum, ↓AM.Y.i_zip, ↓AM.Y.g_nm, ↓AM.Y.g_tup, ↓AM.Y.g_sub, ↓AM.Y.g_nil, ↓AM.Y.g_cons, ↓AM.Y.s_nil', ↓AM.Y.s_cons', ↓AM.Y.s_asg, ↓AM.Y.s_asg2', ↓AM.Y.s_asg3', ↓AM.Y.s_par2', ↓AM.Y.s_par3', ↓AM.Y.s_aug', ↓AM.Y.s_expr', ↓AM.Y.s_ret', ↓AM.Y.s_retN', ↓AM.Y.s_iff', ↓AM.Y.s_for', ↓AM.Y.s_whl', ↓AM.Y.s_pass', ↓AM.Y.s_brk', ↓AM.Y.s_cnt', ↓AM.Y.s_never', ↓AM.Y.truth_bl, ↓AM.Y.truth_non, ↓AM.Y.truth_int, ↓AM.Y.truth_tup, ↓AM.Y.truth_rol, ↓AM.Y.truth_ref, ↓AM.Y.o_add, ↓AM.Y.o_sub, ↓AM.Y.o_mul, ↓AM.Y.o_mod, ↓AM.Y.o_fdv, ↓AM.Y.o_pow, ↓AM.Y.o_addL, ↓AM.Y.c_eq, ↓AM.Y.c_ne, ↓AM.Y.c_lt, ↓AM.Y.c_le, ↓AM.Y.c_gt, ↓AM.Y.c_ge, ↓AM.Y.c_inn, ↓AM.Y.c_nin, ↓AM.Y.has_dct, ↓AM.Y.x_tup, ↓AM.Y.x_rol, ↓AM.Y.x_ref, ↓AM.Y.x_set, ↓AM.Y.x_slcR, ↓AM.Y.x_slcL, ↓AM.Y.b_len_tup, ↓AM.Y.b_len_rol, ↓AM.Y.b_len_ref, ↓AM.Y.b_isi, ↓AM.Y.b_isi2, ↓AM.Y.b_int, ↓AM.Y.b_intb, ↓AM.Y.b_sum, ↓AM.Y.b_max2, ↓AM.Y.b_min2, ↓AM.Y.b_max1, ↓AM.Y.b_min1, ↓AM.Y.b_lst_tup, ↓AM.Y.b_lst_rol, ↓AM.Y.b_lst_ref, ↓AM.Y.b_all, ↓AM.Y.b_any, ↓AM.Y.k_app, ↓AM.Y.k_bits, ↓AM.Y.k_cnt, ↓AM.Y.m_app, ↓AM.Y.m_bits, ↓AM.Y.n_add, ↓AM.Y.n_sub, AM.wp_ok, AM.wp_no, ↓AM.wp_ret, ↓AM.wp_fail, ↓AM.wp_end, ↓AM.thn_nx, ↓AM.thn_rt, ↓AM.thn_bk, ↓AM.thn_ct, ↓AM.thn_xc, ↓AM.endP_nx, ↓AM.endP_rt, ↓AM.endP_xc, ↓AM.lpP_nx, ↓AM.lpP_ct, ↓AM.lpP_bk, ↓AM.lpP_rt, ↓AM.lpP_xc, ↓AM.Y.ifB_bl, ↓AM.Y.isI_int, ↓AM.Y.isT_tup, ↓AM.Y.isS_some, ↓AM.Y.isSS_some, ↓AM.Y.isO_lst, ↓AM.Y.isO_dct, AM.Y.ifB_bl, AM.Y.isI_int, AM.Y.isT_tup, AM.Y.isS_some, AM.Y.isSS_some, AM.Y.isO_lst, AM.Y.isO_dct, List.getElem?_cons_zero, List.getElem?_cons_succ, List.set_cons_zero, List.set_cons_succ, AM.Y.at0, AM.Y.at1, AM.Y.at2, AM.Y.at3, AM.Y.srcV, AM.Y.enumV, AM.tyOf, AM.tyIs, AM.isiV, AM.Y.isNon_non, AM.Y.isNon_bl, AM.Y.isNon_int, AM.Y.isNon_str, AM.Y.isNon_tup, AM.Y.isNon_rol, AM.Y.isNon_ref, Bool.not_true, Bool.not_false, Bool.true_eq_false, Bool.false_eq_true, ↓reduceIte, decide_true, decide_false, decide_eq_true_eq, Option.map_some, Option.map_none, Option.isSome_some, Option.isSome_none, List.length_cons, List.length_nil, List.isEmpty_cons, List.isEmpty_nil, true_and, and_true, Bool.or_false, Bool.false_or, Bool.or_true, Bool.true_or, Nat.zero_add, Nat.reduceAdd, AM.lim, Nat.reduceLeDiff, List.set, AM.wipeE, AM.Y.xcP, reduceCtorEq, imp_self, implies_true, not_false_eq_true]
  exact ⟨q, f.trans f2⟩
theorem w_least_for (hr : h[r]? = some (.lst (l.map Ev.v))) (g : Good l) : wp (callD fns 100000 (d + 2) 11 [.ref r] h) (fun v h' => v = .int (least l) ∧ Fr [] h h') NoX := by
  rw [call_eq (fns := fns) (W := 100000) (d := d + 1) (g := 11) (f := f_least_for) rfl (us := [.ref r]) (vs := [.ref r]) rfl rfl, wp_end]
  show wp (exSs (callD fns 100000 (d + 1)) 100000 [some (.ref r), none, none, none, none, none] f_least_for.body h) _ _
  unfold f_least_for
  simp -implicitDefEqProofs only [↓AM.Y.y_var, ↓AM.Y.y_non, ↓AM.Y.y_bl, ↓AM.Y.y_int, ↓AM.Y.y_str, ↓AM.Y.y_ty, ↓AM.Y.y_tup, ↓AM.Y.y_lst, ↓AM.Y.y_dct0, ↓AM.Y.y_bin, ↓AM.Y.y_neg, ↓AM.Y.y_not, ↓AM.Y.y_and, ↓AM.Y.y_or, ↓AM.Y.y_cmp, ↓AM.Y.y_cmp2, ↓AM.Y.y_isN, ↓AM.Y.y_ntN, ↓AM.Y.y_isB, ↓AM.Y.y_ntB, ↓AM.Y.y_ife, ↓AM.Y.y_call, ↓AM.Y.y_bi, ↓AM.Y.y_mt, ↓AM.Y.y_idx, ↓AM.Y.y_slc, ↓AM.Y.y_lc, ↓AM.Y.y_lrng, ↓AM.Y.y_nil, ↓AM.Y.y_cons, ↓AM.Y.y_none, ↓AM.Y.y_some, ↓AM.Y.y_cnone, ↓AM.Y.y_csome, ↓AM.Y.t_not, ↓AM.Y.t_and, ↓AM.Y.t_or, ↓AM.Y.t_var, ↓AM.Y.t_cmp, ↓AM.Y.t_cmp2, ↓AM.Y.t_isN, ↓AM.Y.t_ntN, ↓AM.Y.t_isB, ↓AM.Y.t_ntB, ↓AM.Y.t_call, ↓AM.Y.t_bi, ↓AM.Y.t_idx, ↓AM.Y.i_seq, ↓AM.Y.i_rng1, ↓AM.Y.i_rng2, ↓AM.Y.i_enum, ↓AM.Y.i_zip, ↓AM.Y.g_nm, ↓AM.Y.g_tup, ↓AM.Y.g_sub, ↓AM.Y.g_nil, ↓AM.Y.g_cons, ↓AM.Y.s_nil', ↓AM.Y.s_cons', ↓AM.Y.s_asg, ↓AM.Y.s_asg2', ↓AM.Y.s_asg3', ↓AM.Y.s_par2', ↓AM.Y.s_par3', ↓AM.Y.s_aug', ↓AM.Y.s_expr', ↓AM.Y.s_ret', ↓AM.Y.s_retN', ↓AM.Y.s_iff', ↓AM.Y.s_for', ↓AM.Y.s_whl', ↓AM.Y.s_pass', ↓AM.Y.s_brk', ↓AM.Y.s_cnt', ↓AM.Y.s_never', ↓AM.Y.truth_bl, ↓AM.Y.truth_non, ↓AM.Y.truth_int, ↓AM.Y.truth_tup, ↓AM.Y.truth_rol, ↓AM.Y.truth_ref, ↓AM.Y.o_add, ↓AM.Y.o_sub, ↓AM.Y.o_mul, ↓AM.Y.o_mod, ↓AM.Y.o_fdv, ↓AM.Y.o_pow, ↓AM.Y.o_addL, ↓AM.Y.c_eq, ↓AM.Y.c_ne, ↓AM.Y.c_lt, ↓AM.Y.c_le, ↓AM.Y.c_gt, ↓AM.Y.c_ge, ↓AM.Y.c_inn, ↓AM.Y.c_nin, ↓AM.Y.has_dct, ↓AM.Y.x_tup, ↓AM.Y.x_rol, ↓AM.Y.x_ref, ↓AM.Y.x_set, ↓AM.Y.x_slcR, ↓AM.Y.x_slcL, ↓AM.Y.b_len_tup, ↓AM.Y.b_len_rol, ↓AM.Y.b_len_ref, ↓AM.Y.b_isi, ↓AM.Y.b_isi2, ↓AM.Y.b_int, ↓AM.Y.b_intb, ↓AM.Y.b_sum, ↓AM.Y.b_max2, ↓AM.Y.b_min2, ↓AM.Y.b_max1, ↓AM.Y.b_min1, ↓AM.Y.b_lst_tup, ↓AM.Y.b_lst_rol, ↓AM.Y.b_lst_ref, ↓AM.Y.b_all, ↓AM.Y.b_any, ↓AM.Y.k_app, ↓AM.Y.k_bits, ↓AM.Y.k_cnt, ↓AM.Y.m_app, ↓AM.Y.m_bits, ↓AM.Y.n_add, ↓AM.Y.n_sub, AM.wp_ok, AM.wp_no, ↓AM.wp_ret, ↓AM.wp_fail, ↓AM.wp_end, ↓AM.thn_nx, ↓AM.thn_rt, ↓AM.thn_bk, ↓AM.thn_ct, ↓AM.thn_xc, ↓AM.endP_nx, ↓AM.endP_rt, ↓AM.endP_xc, ↓AM.lpP_nx, ↓AM.lpP_ct, ↓AM.lpP_bk, ↓AM.lpP_rt, ↓AM.lpP_xc, ↓AM.Y.ifB_bl, ↓AM.Y.isI_int, ↓AM.Y.isT_tup, ↓AM.Y.isS_some, ↓AM.Y.isSS_some, ↓AM.Y.isO_lst, ↓AM.Y.isO_dct, AM.Y.ifB_bl, AM.Y.isI_int, AM.Y.isT_tup, AM.Y.isS_some, AM.Y.isSS_some, AM.Y.isO_lst, AM.Y.isO_dct, List.getElem?_cons_zero, List.getElem?_cons_succ, List.set_cons_zero, List.set_cons_succ, AM.Y.at0, AM.Y.at1, AM.Y.at2, AM.Y.at3, AM.Y.srcV, AM.Y.enumV, AM.tyOf, AM.tyIs, AM.isiV, AM.Y.isNon_non, AM.Y.isNon_bl, AM.Y.isNon_int, AM.Y.isNon_str, AM.Y.isNon_tup, AM.Y.isNon_rol, AM.Y.isNon_ref, Bool.not_true, Bool.not_false, Bool.true_eq_false, Bool.false_eq_true, ↓reduceIte, decide_true, decide_false, decide_eq_true_eq, Option.map_some, Option.map_none, Option.isSome_some, Option.isSome_none, List.length_cons, List.length_nil, List.isEmpty_cons, List.isEmpty_nil, true_and, and_true, Bool.or_false, Bool.false_or, Bool.or_true, Bool.true_or, Nat.zero_add, Nat.reduceAdd, AM.lim, Nat.reduceLeDiff, List.set, AM.wipeE, AM.Y.xcP, reduceCtorEq, imp_self, implies_true, not_false_eq_true, hr]
  refine for_enum (xs := l.map Ev.v) (fun k σ h1 => Fr [] h h1 ∧ ∃ (a b c e : Option Vl), σ = [some (.ref r), some (.int (leastK l k)), a, b, c, e]) (fun k σ h1 I => I.1.get hr) (fun k x σ h1 hk I => ?_) (fun σ h1 I => ?_) ⟨Fr.refl, _, _, _, _, rfl⟩
  · obtain ⟨f, a, b, c, e, rfl⟩ := I
    obtain ⟨e, e1, rfl, e3⟩ := map_at hk
    obtain ⟨t1, t2, t3⟩ := tally_le (good_take g k)
    cases e with
    | line =>
      dsimp only [Ev.v]
      simp -implicitDefEqProofs only [↓AM.Y.y_var, ↓AM.Y.y_non, ↓AM.Y.y_bl, ↓AM.Y.y_int, ↓AM.Y.y_str, ↓AM.Y.y_ty, ↓AM.Y.y_tup, ↓AM.Y.y_lst, ↓AM.Y.y_dct0, ↓AM.Y.y_bin, ↓AM.Y.y_neg, ↓AM.Y.y_not, ↓AM.Y.y_and, ↓AM.Y.y_or, ↓AM.Y.y_cmp, ↓AM.Y.y_cmp2, ↓AM.Y.y_isN, ↓AM.Y.y_ntN, ↓AM.Y.y_isB, ↓AM.Y.y_ntB, ↓AM.Y.y_ife, ↓AM.Y.y_call, ↓AM.Y.y_bi, ↓AM.Y.y_mt, ↓AM.Y.y_idx, ↓AM.Y.y_slc, ↓AM.Y.y_lc, ↓AM.Y.y_lrng, ↓AM.Y.y_nil, ↓AM.Y.y_cons, ↓AM.Y.y_none, ↓AM.Y.y_some, ↓AM.Y.y_cnone, ↓AM.Y.y_csome, ↓AM.Y.t_not, ↓AM.Y.t_and, ↓AM.Y.t_or, ↓AM.Y.t_var, ↓AM.Y.t_cmp, ↓AM.Y.t_cmp2, ↓AM.Y.t_isN, ↓AM.Y.t_ntN, ↓AM.Y.t_isB, ↓AM.Y.t_ntB, ↓AM.Y.t_call, ↓AM.Y.t_bi, ↓AM.Y.t_idx, ↓AM.Y.i_seq, ↓AM.Y.i_rng1, ↓AM.Y.i_rng2, ↓AM.Y.i_enum, ↓AM.Y.i_zip, ↓AM.Y.g_nm, ↓AM.Y.g_tup, ↓AM.Y.g_sub, ↓AM.Y.g_nil, ↓AM.Y.g_cons, ↓AM.Y.s_nil', ↓AM.Y.s_cons', ↓AM.Y.s_asg, ↓AM.Y.s_asg2', ↓AM.Y.s_asg3', ↓AM.Y.s_par2', ↓AM.Y.s_par3', ↓AM.Y.s_aug', ↓AM.Y.s_expr', ↓AM.Y.s_ret', ↓AM.Y.s_retN', ↓AM.Y.s_iff', ↓AM.Y.s_for', ↓AM.Y.s_whl', ↓AM.Y.s_pass', ↓AM.Y.s_brk', ↓AM.Y.s_cnt', ↓AM.Y.s_never', ↓AM.Y.truth_bl, ↓AM.Y.truth_non, ↓AM.Y.truth_int, ↓AM.Y.truth_tup, ↓AM.Y.truth_rol, ↓AM.Y.truth_ref, ↓AM.Y.o_add, ↓AM.Y.o_sub, ↓AM.Y.o_mul, ↓AM.Y.o_mod, ↓AM.Y.o_fdv, ↓AM.Y.o_pow, ↓AM.Y.o_addL, ↓AM.Y.c_eq, ↓AM.Y.c_ne, ↓AM.Y.c_lt, ↓AM.Y.c_le, ↓AM.Y.c_gt, ↓AM.Y.c_ge, ↓AM.Y.c_inn, ↓AM.Y.c_nin, ↓AM.Y.has_dct, ↓AM.Y.x_tup, ↓AM.Y.x_rol, ↓AM.Y.x_ref, ↓AM.Y.x_set, ↓AM.Y.x_slcR, ↓AM.Y.x_slcL, ↓AM.Y.b_len_tup, ↓AM.Y.b_len_rol, ↓AM.Y.b_len_ref, ↓AM.Y.b_isi, ↓AM.Y.b_isi2, ↓AM.Y.b_int, ↓AM.Y.b_intb, ↓AM.Y.b_sum, ↓AM.Y.b_max2, ↓AM.Y.b_min2, ↓AM.Y.b_max1, ↓AM.Y.b_min1, ↓AM.Y.b_lst_tup, ↓AM.Y.b_lst_rol, ↓AM.Y.b_lst_ref, ↓AM.Y.b_all, ↓AM.Y.b_any, ↓AM.Y.k_app, ↓AM.Y.k_bits, ↓AM.Y.k_cnt, ↓AM.Y.m_app, ↓AM.Y.m_bits, ↓AM.Y.n_add, ↓AM.Y.n_sub, AM.wp_ok, AM.wp_no, ↓AM.wp_ret, ↓AM.wp_fail, ↓AM.wp_end, ↓AM.thn_nx, ↓AM.thn_rt, ↓AM.thn_bk, ↓AM.thn_ct, ↓AM.thn_xc, ↓AM.endP_nx, ↓AM.endP_rt, ↓AM.endP_xc, ↓AM.lpP_nx, ↓AM.lpP_ct, ↓AM.lpP_bk, ↓AM.lpP_rt, ↓AM.lpP_xc, ↓AM.Y.ifB_bl, ↓AM.Y.isI_int, ↓AM.Y.isT_tup, ↓AM.Y.isS_some, ↓AM.Y.isSS_some, ↓AM.Y.isO_lst, ↓AM.Y.isO_dct, AM.Y.ifB_bl, AM.Y.isI_int, AM.Y.isT_tup, AM.Y.isS_some, AM.Y.isSS_some, AM.Y.isO_lst, AM.Y.isO_dct, List.getElem?_cons_zero, List.getElem?_cons_succ, List.set_cons_zero, List.set_cons_succ, AM.Y.at0, AM.Y.at1, AM.Y.at2, AM.Y.at3, AM.Y.srcV, AM.Y.enumV, AM.tyOf, AM.tyIs, AM.isiV, AM.Y.isNon_non, AM.Y.isNon_bl, AM.Y.isNon_int, AM.Y.isNon_str, AM.Y.isNon_tup, AM.Y.isNon_rol, AM.Y.isNon_ref, Bool.not_true, Bool.not_false, Bool.true_eq_false, Bool.false_eq_true, ↓reduceIte, decide_true, decide_false, decide_eq_true_eq, Option.map_some, Option.map_none, Option.isSome_some, Option.isSome_none, List.length_cons, List.length_nil, List.isEmpty_cons, List.isEmpty_nil, true_and, and_true, Bool.or_false, Bool.false_or, Bool.or_true, Bool.true_or, Nat.zero_add, Nat.reduceAdd, AM.lim, Nat.reduceLeDiff, List.set, AM.wipeE, AM.Y.xcP, reduceCtorEq, imp_self, implies_true, not_false_eq_true, eqD_str kL kL, beq_self_eq_true]
      refine wp_q (w_counted (d := d) (f.get hr) g (m := k)) fun v h3 q => ?_
      obtain ⟨rfl, f2⟩ := q
      simp -implicitDefEqProofs only [↓AM.Y.y_var, ↓AM.Y.y_non, ↓AM.Y.y_bl, ↓AM.Y.y_int, ↓AM.Y.y_str, ↓AM.Y.y_ty, ↓AM.Y.y_tup, ↓AM.Y.y_lst, ↓AM.Y.y_dct0, ↓AM.Y.y_bin, ↓AM.Y.y_neg, ↓AM.Y.y_not, ↓AM.Y.y_and, ↓AM.Y.y_or, ↓AM.Y.y_cmp, ↓AM.Y.y_cmp2, ↓AM.Y.y_isN, ↓AM.Y.y_ntN, ↓AM.Y.y_isB, ↓AM.Y.y_ntB, ↓AM.Y.y_ife, ↓AM.Y.y_call, ↓AM.Y.y_bi, ↓AM.Y.y_mt, ↓AM.Y.y_idx, ↓AM.Y.y_slc, ↓AM.Y.y_lc, ↓AM.Y.y_lrng, ↓AM.Y.y_nil, ↓AM.Y.y_cons, ↓AM.Y.y_none, ↓AM.Y.y_some, ↓AM.Y.y_cnone, ↓AM.Y.y_csome, ↓AM.Y.t_not, ↓AM.Y.t_and, ↓AM.Y.t_or, ↓AM.Y.t_var, ↓AM.Y.t_cmp, ↓AM.Y.t_cmp2, ↓AM.Y.t_isN, ↓AM.Y.t_ntN, ↓AM.Y.t_isB, ↓AM.Y.t_ntB, ↓AM.Y.t_call, ↓AM.Y.t_bi, ↓AM.Y.t_idx, ↓AM.Y.i_seq, ↓AM.Y.i_rng1, ↓AM.Y.i_rng2, ↓AM.Y.i_enum, ↓AM.Y.i_zip, ↓AM.Y.g_nm, ↓AM.Y.g_tup, ↓AM.Y.g_sub, ↓AM.Y.g_nil, ↓AM.Y.g_cons, ↓AM.Y.s_nil', ↓AM.Y.s_cons', ↓AM.Y.s_asg, ↓AM.Y.s_asg2', ↓AM.Y.s_asg3', ↓AM.Y.s_par2', ↓AM.Y.s_par3', ↓AM.Y.s_aug', ↓AM.Y.s_expr', ↓AM.Y.s_ret', ↓AM.Y.s_retN', ↓AM.Y.s_iff', ↓AM.Y.s_for', ↓AM.Y.s_whl', ↓AM.Y.s_pass', ↓AM.Y.s_brk', ↓AM.Y.s_cnt', ↓AM.Y.s_never', ↓AM.Y.truth_bl, ↓AM.Y.truth_non, ↓AM.Y.truth_int, ↓AM.Y.truth_tup, ↓AM.Y.truth_rol, ↓AM.Y.truth_ref, ↓AM.Y.o_add, ↓AM.Y.o_sub, ↓AM.Y.o_mul, ↓AM.Y.o_mod, ↓AM.Y.o_fdv, ↓AM.Y.o_pow, ↓AM.Y.o_addL, ↓AM.Y.c_eq, ↓AM.Y.c_ne, ↓AM.Y.c_lt, ↓AM.Y.c_le, ↓AM.Y.c_gt, ↓AM.Y.c_ge, ↓AM.Y.c_inn, ↓AM.Y.c_nin, ↓AM.Y.has_dct, ↓AM.Y.x_tup, ↓AM.Y.x_rol, ↓AM.Y.x_ref, ↓AM.Y.x_set, ↓AM.Y.x_slcR, ↓AM.Y.x_slcL, ↓AM.Y.b_len_tup, ↓AM.Y.b_len_rol, ↓AM.Y.b_len_ref, ↓AM.Y.b_isi, ↓AM.Y.b_isi2, ↓AM.Y.b_int, ↓AM.Y.b_intb, ↓AM.Y.b_sum, ↓AM.Y.b_max2, ↓AM.Y.b_min2, ↓AM.Y.b_max1, ↓AM.Y.b_min1, ↓AM.Y.b_lst_tup, ↓AM.Y.b_lst_rol, ↓AM.Y.b_lst_ref, ↓AM.Y.b_all, ↓AM.Y.b_any, ↓AM.Y.k_app, ↓AM.Y.k_bits, ↓AM.Y.k_cnt, ↓AM.Y.m_app, ↓AM.Y.m_bits, ↓AM.Y.n_add, ↓AM.Y.n_sub, AM.wp_ok, AM.wp_no, ↓AM.wp_ret, ↓AM.wp_fail, ↓AM.wp_end, ↓AM.thn_nx, ↓AM.thn_rt, ↓AM.thn_bk, ↓AM.thn_ct, ↓AM.thn_xc, ↓AM.endP_nx, ↓AM.endP_rt, ↓AM.endP_xc, ↓AM.lpP_nx, ↓AM.lpP_ct, ↓AM.lpP_bk, ↓AM.lpP_rt, ↓AM.lpP_xc, ↓AM.Y.ifB_bl, ↓AM.Y.isI_int, ↓AM.Y.isT_tup, ↓AM.Y.isS_some, ↓AM.Y.isSS_some, ↓AM.Y.isO_lst, ↓AM.Y.isO_dct, AM.Y.ifB_bl, AM.Y.isI_int, AM.Y.isT_tup, AM.Y.isS_some, AM.Y.isSS_some, AM.Y.isO_lst, AM.Y.isO_dct, List.getElem?_cons_zero, List.getElem?_cons_succ, List.set_cons_zero, List.set_cons_succ, AM.Y.at0, AM.Y.at1, AM.Y.at2, AM.Y.at3, AM.Y.srcV, AM.Y.enumV, AM.tyOf, AM.tyIs, AM.isiV, AM.Y.isNon_non, AM.Y.isNon_bl, AM.Y.isNon_int, AM.Y.isNon_str, AM.Y.isNon_tup, AM.Y.isNon_rol, AM.Y.isNon_ref, Bool.not_true, Bool.not_false, Bool.true_eq_false, Bool.false_eq_true, ↓reduceIte, decide_true, decide_false, decide_eq_true_eq, Option.map_some, Option.map_none, Option.isSome_some, Option.isSome_none, List.length_cons, List.length_nil, List.isEmpty_cons, List.isEmpty_nil, true_and, and_true, Bool.or_false, Bool.false_or, Bool.or_true, Bool.true_or, Nat.zero_add, Nat.reduceAdd, AM.lim, Nat.reduceLeDiff, List.set, AM.wipeE, AM.Y.xcP, reduceCtorEq, imp_self, implies_true, not_false_eq_true]
      have e4 : (if ((tally (List.take k l)).1 : Int) + 1 - ((tally (List.take k l)).2.2 : Int) > (leastK l k : Int) then ((tally (List.take k l)).1 : Int) + 1 - ((tally (List.take k l)).2.2 : Int) else (leastK l k : Int)) = (leastK l (k + 1) : Int) := by
        rw [leastK_succ, e1]
        dsimp only
        split <;> split <;> omega
      rw [e4]
      exact ⟨f.trans f2, _, _, _, _, rfl⟩
    | stand n =>
      dsimp only [Ev.v]
      simp -implicitDefEqProofs only [↓AM.Y.y_var, ↓AM.Y.y_non, ↓AM.Y.y_bl, ↓AM.Y.y_int, ↓AM.Y.y_str, ↓AM.Y.y_ty, ↓AM.Y.y_tup, ↓AM.Y.y_lst, ↓AM.Y.y_dct0, ↓AM.Y.y_bin, ↓AM.Y.y_neg, ↓AM.Y.y_not, ↓AM.Y.y_and, ↓AM.Y.y_or, ↓AM.Y.y_cmp, ↓AM.Y.y_cmp2, ↓AM.Y.y_isN, ↓AM.Y.y_ntN, ↓AM.Y.y_isB, ↓AM.Y.y_ntB, ↓AM.Y.y_ife, ↓AM.Y.y_call, ↓AM.Y.y_bi, ↓AM.Y.y_mt, ↓AM.Y.y_idx, ↓AM.Y.y_slc, ↓AM.Y.y_lc, ↓AM.Y.y_lrng, ↓AM.Y.y_nil, ↓AM.Y.y_cons, ↓AM.Y.y_none, ↓AM.Y.y_some, ↓AM.Y.y_cnone, ↓AM.Y.y_csome, ↓AM.Y.t_not, ↓AM.Y.t_and, ↓AM.Y.t_or, ↓AM.Y.t_var, ↓AM.Y.t_cmp, ↓AM.Y.t_cmp2, ↓AM.Y.t_isN, ↓AM.Y.t_ntN, ↓AM.Y.t_isB, ↓AM.Y.t_ntB, ↓AM.Y.t_call, ↓AM.Y.t_bi, ↓AM.Y.t_idx, ↓AM.Y.i_seq, ↓AM.Y.i_rng1, ↓AM.Y.i_rng2, ↓AM.Y.i_enum, ↓AM.Y.i_zip, ↓AM.Y.g_nm, ↓AM.Y.g_tup, ↓AM.Y.g_sub, ↓AM.Y.g_nil, ↓AM.Y.g_cons, ↓AM.Y.s_nil', ↓AM.Y.s_cons', ↓AM.Y.s_asg, ↓AM.Y.s_asg2', ↓AM.Y.s_asg3', ↓AM.Y.s_par2', ↓AM.Y.s_par3', ↓AM.Y.s_aug', ↓AM.Y.s_expr', ↓AM.Y.s_ret', ↓AM.Y.s_retN', ↓AM.Y.s_iff', ↓AM.Y.s_for', ↓AM.Y.s_whl', ↓AM.Y.s_pass', ↓AM.Y.s_brk', ↓AM.Y.s_cnt', ↓AM.Y.s_never', ↓AM.Y.truth_bl, ↓AM.Y.truth_non, ↓AM.Y.truth_int, ↓AM.Y.truth_tup, ↓AM.Y.truth_rol, ↓AM.Y.truth_ref, ↓AM.Y.o_add, ↓AM.Y.o_sub, ↓AM.Y.o_mul, ↓AM.Y.o_mod, ↓AM.Y.o_fdv, ↓AM.Y.o_pow, ↓AM.Y.o_addL, ↓AM.Y.c_eq, ↓AM.Y.c_ne, ↓AM.Y.c_lt, ↓AM.Y.c_le, ↓AM.Y.c_gt, ↓AM.Y.c_ge, ↓AM.Y.c_inn, ↓AM.Y.c_nin, ↓AM.Y.has_dct, ↓AM.Y.x_tup, ↓AM.Y.x_rol, ↓AM.Y.x_ref, ↓AM.Y.x_set, ↓AM.Y.x_slcR, ↓AM.Y.x_slcL, ↓AM.Y.b_len_tup, ↓AM.Y.b_len_rol, ↓AM.Y.b_len_ref, ↓AM.Y.b_isi, ↓AM.Y.b_isi2, ↓AM.Y.b_int, ↓AM.Y.b_intb, ↓AM.Y.b_sum, ↓AM.Y.b_max2, ↓AM.Y.b_min2, ↓AM.Y.b_max1, ↓AM.Y.b_min1, ↓AM.Y.b_lst_tup, ↓AM.Y.b_lst_rol, ↓AM.Y.b_lst_ref, ↓AM.Y.b_all, ↓AM.Y.b_any, ↓AM.Y.k_app, ↓AM.Y.k_bits, ↓AM.Y.k_cnt, ↓AM.Y.m_app, ↓AM.Y.m_bits, ↓AM.Y.n_add, ↓AM.Y.n_sub, AM.wp_ok, AM.wp_no, ↓AM.wp_ret, ↓AM.wp_fail, ↓AM.wp_end, ↓AM.thn_nx, ↓AM.thn_rt, ↓AM.thn_bk, ↓AM.thn_ct, ↓AM.thn_xc, ↓AM.endP_nx, ↓AM.endP_rt, ↓AM.endP_xc, ↓AM.lpP_nx, ↓AM.lpP_ct, ↓AM.lpP_bk, ↓AM.lpP_rt, ↓AM.lpP_xc, ↓AM.Y.ifB_bl, ↓AM.Y.isI_int, ↓AM.Y.isT_tup, ↓AM.Y.isS_some, ↓AM.Y.isSS_some, ↓AM.Y.isO_lst, ↓AM.Y.isO_dct, AM.Y.ifB_bl, AM.Y.isI_int, AM.Y.isT_tup, AM.Y.isS_some, AM.Y.isSS_some, AM.Y.isO_lst, AM.Y.isO_dct, List.getElem?_cons_zero, List.getElem?_cons_succ, List.set_cons_zero, List.set_cons_succ, AM.Y.at0, AM.Y.at1, AM.Y.at2, AM.Y.at3, AM.Y.srcV, AM.Y.enumV, AM.tyOf, AM.tyIs, AM.isiV, AM.Y.isNon_non, AM.Y.isNon_bl, AM.Y.isNon_int, AM.Y.isNon_str, AM.Y.isNon_tup, AM.Y.isNon_rol, AM.Y.isNon_ref, Bool.not_true, Bool.not_false, Bool.true_eq_false, Bool.false_eq_true, ↓reduceIte, decide_true, decide_false, decide_eq_true_eq, Option.map_some, Option.map_none, Option.isSome_some, Option.isSome_none, List.length_cons, List.length_nil, List.isEmpty_cons, List.isEmpty_nil, true_and, and_true, Bool.or_false, Bool.false_or, Bool.or_true, Bool.true_or, Nat.zero_add, Nat.reduceAdd, AM.lim, Nat.reduceLeDiff, List.set, AM.wipeE, AM.Y.xcP, reduceCtorEq, imp_self, implies_true, not_false_eq_true, eqD_str kS kL, qSL]
      rw [leastK_succ, e1]
      exact ⟨f, _, _, _, _, rfl⟩
    | root =>
      dsimp only [Ev.v]
      simp -implicitDefEqProofs only [↓AM.Y.y_var, ↓AM.Y.y_non, ↓AM.Y.y_bl, ↓AM.Y.y_int, ↓AM.Y.y_str, ↓AM.Y.y_ty, ↓AM.Y.y_tup, ↓AM.Y.y_lst, ↓AM.Y.y_dct0, ↓AM.Y.y_bin, ↓AM.Y.y_neg, ↓AM.Y.y_not, ↓AM.Y.y_and, ↓AM.Y.y_or, ↓AM.Y.y_cmp, ↓AM.Y.y_cmp2, ↓AM.Y.y_isN, ↓AM.Y.y_ntN, ↓AM.Y.y_isB, ↓AM.Y.y_ntB, ↓AM.Y.y_ife, ↓AM.Y.y_call, ↓AM.Y.y_bi, ↓AM.Y.y_mt, ↓AM.Y.y_idx, ↓AM.Y.y_slc, ↓AM.Y.y_lc, ↓AM.Y.y_lrng, ↓AM.Y.y_nil, ↓AM.Y.y_cons, ↓AM.Y.y_none, ↓AM.Y.y_some, ↓AM.Y.y_cnone, ↓AM.Y.y_csome, ↓AM.Y.t_not, ↓AM.Y.t_and, ↓AM.Y.t_or, ↓AM.Y.t_var, ↓AM.Y.t_cmp, ↓AM.Y.t_cmp2, ↓AM.Y.t_isN, ↓AM.Y.t_ntN, ↓AM.Y.t_isB, ↓AM.Y.t_ntB, ↓AM.Y.t_call, ↓AM.Y.t_bi, ↓AM.Y.t_idx, ↓AM.Y.i_seq, ↓AM.Y.i_rng1, ↓AM.Y.i_rng2, ↓AM.Y.i_enum, ↓AM.Y.i_zip, ↓AM.Y.g_nm, ↓AM.Y.g_tup, ↓AM.Y.g_sub, ↓AM.Y.g_nil, ↓AM.Y.g_cons, ↓AM.Y.s_nil', ↓AM.Y.s_cons', ↓AM.Y.s_asg, ↓AM.Y.s_asg2', ↓AM.Y.s_asg3', ↓AM.Y.s_par2', ↓AM.Y.s_par3', ↓AM.Y.s_aug', ↓AM.Y.s_expr', ↓AM.Y.s_ret', ↓AM.Y.s_retN', ↓AM.Y.s_iff', ↓AM.Y.s_for', ↓AM.Y.s_whl', ↓AM.Y.s_pass', ↓AM.Y.s_brk', ↓AM.Y.s_cnt', ↓AM.Y.s_never', ↓AM.Y.truth_bl, ↓AM.Y.truth_non, ↓AM.Y.truth_int, ↓AM.Y.truth_tup, ↓AM.Y.truth_rol, ↓AM.Y.truth_ref, ↓AM.Y.o_add, ↓AM.Y.o_sub, ↓AM.Y.o_mul, ↓AM.Y.o_mod, ↓AM.Y.o_fdv, ↓AM.Y.o_pow, ↓AM.Y.o_addL, ↓AM.Y.c_eq, ↓AM.Y.c_ne, ↓AM.Y.c_lt, ↓AM.Y.c_le, ↓AM.Y.c_gt, ↓AM.Y.c_ge, ↓AM.Y.c_inn, ↓AM.Y.c_nin, ↓AM.Y.has_dct, ↓AM.Y.x_tup, ↓AM.Y.x_rol, ↓AM.Y.x_ref, ↓AM.Y.x_set, ↓AM.Y.x_slcR, ↓AM.Y.x_slcL, ↓AM.Y.b_len_tup, ↓AM.Y.b_len_rol, ↓AM.Y.b_len_ref, ↓AM.Y.b_isi, ↓AM.Y.b_isi2, ↓AM.Y.b_int, ↓AM.Y.b_intb, ↓AM.Y.b_sum, ↓AM.Y.b_max2, ↓AM.Y.b_min2, ↓AM.Y.b_max1, ↓AM.Y.b_min1, ↓AM.Y.b_lst_tup, ↓AM.Y.b_lst_rol, ↓AM.Y.b_lst_ref, ↓AM.Y.b_all, ↓AM.Y.b_any, ↓AM.Y.k_app, ↓AM.Y.k_bits, ↓AM.Y.k_cnt, ↓AM.Y.m_app, ↓AM.Y.m_bits, ↓AM.Y.n_add, ↓AM.Y.n_sub, AM.wp_ok, AM.wp_no, ↓AM.wp_ret, ↓AM.wp_fail, ↓AM.wp_end, ↓AM.thn_nx, ↓AM.thn_rt, ↓AM.thn_bk, ↓AM.thn_ct, ↓AM.thn_xc, ↓AM.endP_nx, ↓AM.endP_rt, ↓AM.endP_xc, ↓AM.lpP_nx, ↓AM.lpP_ct, ↓AM.lpP_bk, ↓AM.lpP_rt, ↓AM.lpP_xc, ↓AM.Y.ifB_bl, ↓AM.Y.isI_int, ↓AM.Y.isT_tup, ↓AM.Y.isS_some, ↓AM.Y.isSS_some, ↓AM.Y.isO_lst, ↓AM.Y.isO_dct, AM.Y.ifB_bl, AM.Y.isI_int, AM.Y.isT_tup, AM.Y.isS_some, AM.Y.isSS_some, AM.Y.isO_lst, AM.Y.isO_dct, List.getElem?_cons_zero, List.getElem?_cons_succ, List.set_cons_zero, List.set_cons_succ, AM.Y.at0, AM.Y.at1, AM.Y.at2, AM.Y.at3, AM.Y.srcV, AM.Y.enumV, AM.tyOf, AM.tyIs, AM.isiV, AM.Y.isNon_non, AM.Y.isNon_bl, AM.Y.isNon_int, AM.Y.isNon_str, AM.Y.isNon_tup, AM.Y.isNon_rol, AM.Y.isNon_ref, Bool.not_true, Bool.not_false, Bool.true_eq_false, Bool.false_eq_true, ↓reduceIte, decide_true, decide_false, decide_eq_true_eq, Option.map_some, Option.map_none, Option.isSome_some, Option.isSome_none, List.length_cons, List.length_nil, List.isEmpty_cons, List.isEmpty_nil, true_and, and_true, Bool.or_false, Bool.false_or, Bool.or_true, Bool.true_or, Nat.zero_add, Nat.reduceAdd, AM.lim, Nat.reduceLeDiff, List.set, AM.wipeE, AM.Y.xcP, reduceCtorEq, imp_self, implies_true, not_false_eq_true, eqD_str kR kL, qRL]
      rw [leastK_succ, e1]
      exact ⟨f, _, _, _, _, rfl⟩
  · obtain ⟨f, a, b, c, e, rfl⟩ := I
    simp -implicitDefEqProofs only [↓AM.Y.y_var, ↓AM.Y.y_non, ↓AM.Y.y_bl, ↓AM.Y.y_int, ↓AM.Y.y_str, ↓AM.Y.y_ty, ↓AM.Y.y_tup, ↓AM.Y.y_lst, ↓AM.Y.y_dct0, ↓AM.Y.y_bin, ↓AM.Y.y_neg, ↓AM.Y.y_not, ↓AM.Y.y_and, ↓AM.Y.y_or, ↓AM.Y.y_cmp, ↓AM.Y.y_cmp2, ↓AM.Y.y_isN, ↓AM.Y.y_ntN, ↓AM.Y.y_isB, ↓AM.Y.y_ntB, ↓AM.Y.y_ife, ↓AM.Y.y_call, ↓AM.Y.y_bi, ↓AM.Y.y_mt, ↓AM.Y.y_idx, ↓AM.Y.y_slc, ↓AM.Y.y_lc, ↓AM.Y.y_lrng, ↓AM.Y.y_nil, ↓AM.Y.y_cons, ↓AM.Y.y_none, ↓AM.Y.y_some, ↓AM.Y.y_cnone, ↓AM.Y.y_csome, ↓AM.Y.t_not, ↓AM.Y.t_and, ↓AM.Y.t_or, ↓AM.Y.t_var, ↓AM.Y.t_cmp, ↓AM.Y.t_cmp2, ↓AM.Y.t_isN, ↓AM.Y.t_ntN, ↓AM.Y.t_isB, ↓AM.Y.t_ntB, ↓AM.Y.t_call, ↓AM.Y.t_bi, ↓AM.Y.t_idx, ↓AM.Y.i_seq, ↓AM.Y.i_rng1, ↓AM.Y.i_rng2, ↓AM.Y.i_enum, ↓AM.Y.i_zip, ↓AM.Y.g_nm, ↓AM.Y.g_tup, ↓AM.Y.g_sub, ↓AM.Y.g_nil, ↓AM.Y.g_cons, ↓AM.Y.s_nil', ↓AM.Y.s_cons', ↓AM.Y.s_asg, ↓AM.Y.s_asg2', ↓AM.Y.s_asg3', ↓AM.Y.s_par2', ↓AM.Y.s_par3', ↓AM.Y.s_aug', ↓AM.Y.s_expr', ↓AM.Y.s_ret', ↓AM.Y.s_retN', ↓AM.Y.s_iff', ↓AM.Y.s_for', ↓AM.Y.s_whl', ↓AM.Y.s_pass', ↓AM.Y.s_brk', ↓AM.Y.s_cnt', ↓AM.Y.s_never', ↓AM.Y.truth_bl, ↓AM.Y.truth_non, ↓AM.Y.truth_int, ↓AM.Y.truth_tup, ↓AM.Y.truth_rol, ↓AM.Y.truth_ref, ↓AM.Y.o_add, ↓AM.Y.o_sub, ↓AM.Y.o_mul, ↓AM.Y.o_mod, ↓AM.Y.o_fdv, ↓AM.Y.o_pow, ↓AM.Y.o_addL, ↓AM.Y.c_eq, ↓AM.Y.c_ne, ↓AM.Y.c_lt, ↓AM.Y.c_le, ↓AM.Y.c_gt, ↓AM.Y.c_ge, ↓AM.Y.c_inn, ↓AM.Y.c_nin, ↓AM.Y.has_dct, ↓AM.Y.x_tup, ↓AM.Y.x_rol, ↓AM.Y.x_ref, ↓AM.Y.x_set, ↓AM.Y.x_slcR, ↓AM.Y.x_slcL, ↓AM.Y.b_len_tup, ↓AM.Y.b_len_rol, ↓AM.Y.b_len_ref, ↓AM.Y.b_isi, ↓AM.Y.b_isi2, ↓AM.Y.b_int, ↓AM.Y.b_intb, ↓AM.Y.b_sum, ↓AM.Y.b_max2, ↓AM.Y.b_min2, ↓AM.Y.b_max1, ↓AM.Y.b_min1, ↓AM.Y.b_lst_tup, ↓AM.Y.b_lst_rol, ↓AM.Y.b_lst_ref, ↓AM.Y.b_all, ↓AM.Y.b_any, ↓AM.Y.k_app, ↓AM.Y.k_bits, ↓AM.Y.k_cnt, ↓AM.Y.m_app, ↓AM.Y.m_bits, ↓AM.Y.n_add, ↓AM.Y.n_sub, AM.wp_ok, AM.wp_no, ↓AM.wp_ret, ↓AM.wp_fail, ↓AM.wp_end, ↓AM.thn_nx, ↓AM.thn_rt, ↓AM.thn_bk, ↓AM.thn_ct, ↓AM.thn_xc, ↓AM.endP_nx, ↓AM.endP_rt, ↓AM.endP_xc, ↓AM.lpP_nx, ↓AM.lpP_ct, ↓AM.lpP_bk, ↓AM.lpP_rt, ↓AM.lpP_xc, ↓AM.Y.ifB_bl, ↓AM.Y.isI_int, ↓AM.Y.isT_tup, ↓AM.Y.isS_some, ↓AM.Y.isSS_some, ↓AM.Y.isO_lst, ↓AM.Y.isO_dct, AM.Y.ifB_bl, AM.Y.isI_int, AM.Y.isT_tup, AM.Y.isS_some, AM.Y.isSS_some, AM.Y.isO_lst, AM.Y.isO_dct, List.getElem?_cons_zero, List.getElem?_cons_succ, List.set_cons_zero, List.set_cons_succ, AM.Y.at0, AM.Y.at1, AM.Y.at2, AM.Y.at3, AM.Y.srcV, AM.Y.enumV, AM.tyOf, AM.tyIs, AM.isiV, AM.Y.isNon_non, AM.Y.isNon_bl, AM.Y.isNon_int, AM.Y.isNon_str, AM.Y.isNon_tup, AM.Y.isNon_rol, AM.Y.isNon_ref, Bool.not_true, Bool.not_false, Bool.true_eq_false, Bool.false_eq_true, ↓reduceIte, decide_true, decide_false, decide_eq_true_eq, Option.map_some, Option.map_none, Option.isSome_some, Option.isSome_none, List.length_cons, List.length_nil, List.isEmpty_cons, List.isEmpty_nil, true_and, and_true, Bool.or_false, Bool.false_or, Bool.or_true, Bool.true_or, Nat.zero_add, Nat.reduceAdd, AM.lim, Nat.reduceLeDiff, List.set, AM.wipeE, AM.Y.xcP, reduceCtorEq, imp_self, implies_true, not_false_eq_true]
    rw [List.length_map]
    exact ⟨rfl, f⟩
theorem w_least_places (hr : h[r]? = some (.lst (l.map Ev.v))) (g : Good l) (hl : l.length ≤ 1000) : wp (callD fns 100000 (d + 4) 12 [.ref r] h) (fun v h' => v = .int (least l) ∧ Fr [] h h') NoX := by
  rw [call_eq (fns := fns) (W := 100000) (d := d + 3) (g := 12) (f := f_least_places) rfl (us := [.ref r]) (vs := [.ref r]) rfl rfl, wp_end]
  show wp (exSs (callD fns 100000 (d + 3)) 100000 [some (.ref r)] f_least_places.body h) _ _
  unfold f_least_places
  simp -implicitDefEqProofs only [↓AM.Y.y_var, ↓AM.Y.y_non, ↓AM.Y.y_bl, ↓AM.Y.y_int, ↓AM.Y.y_str, ↓AM.Y.y_ty, ↓AM.Y.y_tup, ↓AM.Y.y_lst, ↓AM.Y.y_dct0, ↓AM.Y.y_bin, ↓AM.Y.y_neg, ↓AM.Y.y_not, ↓AM.Y.y_and, ↓AM.Y.y_or, ↓AM.Y.y_cmp, ↓AM.Y.y_cmp2, ↓AM.Y.y_isN, ↓AM.Y.y_ntN, ↓AM.Y.y_isB, ↓AM.Y.y_ntB, ↓AM.Y.y_ife, ↓AM.Y.y_call, ↓AM.Y.y_bi, ↓AM.Y.y_mt, ↓AM.Y.y_idx, ↓AM.Y.y_slc, ↓AM.Y.y_lc, ↓AM.Y.y_lrng, ↓AM.Y.y_nil, ↓AM.Y.y_cons, ↓AM.Y.y_none, ↓AM.Y.y_some, ↓AM.Y.y_cnone, ↓AM.Y.y_csome, ↓AM.Y.t_not, ↓AM.Y.t_and, ↓AM.Y.t_or, ↓AM.Y.t_var, ↓AM.Y.t_cmp, ↓AM.Y.t_cmp2, ↓AM.Y.t_isN, ↓AM.Y.t_ntN, ↓AM.Y.t_isB, ↓AM.Y.t_ntB, ↓AM.Y.t_call, ↓AM.Y.t_bi, ↓AM.Y.t_idx, ↓AM.Y.i_seq, ↓AM.Y.i_rng1, ↓AM.Y.i_rng2, ↓AM.Y.i_enum, ↓AM.Y.i_zip, ↓AM.Y.g_nm, ↓AM.Y.g_tup, ↓AM.Y.g_sub, ↓AM.Y.g_nil, ↓AM.Y.g_cons, ↓AM.Y.s_nil', ↓AM.Y.s_cons', ↓AM.Y.s_asg, ↓AM.Y.s_asg2', ↓AM.Y.s_asg3', ↓AM.Y.s_par2', ↓AM.Y.s_par3', ↓AM.Y.s_aug', ↓AM.Y.s_expr', ↓AM.Y.s_ret', ↓AM.Y.s_retN', ↓AM.Y.s_iff', ↓AM.Y.s_for', ↓AM.Y.s_whl', ↓AM.Y.s_pass', ↓AM.Y.s_brk', ↓AM.Y.s_cnt', ↓AM.Y.s_never', ↓AM.Y.truth_bl, ↓AM.Y.truth_non, ↓AM.Y.truth_int, ↓AM.Y.truth_tup, ↓AM.Y.truth_rol, ↓AM.Y.truth_ref, ↓AM.Y.o_add, ↓AM.Y.o_sub, ↓AM.Y.o_mul, ↓AM.Y.o_mod, ↓AM.Y.o_fdv, ↓AM.Y.o_pow, ↓AM.Y.o_addL, ↓AM.Y.c_eq, ↓AM.Y.c_ne, ↓AM.Y.c_lt, ↓AM.Y.c_le, ↓AM.Y.c_gt, ↓AM.Y.c_ge, ↓AM.Y.c_inn, ↓AM.Y.c_nin, ↓AM.Y.has_dct, ↓AM.Y.x_tup, ↓AM.Y.x_rol, ↓AM.Y.x_ref, ↓AM.Y.x_set, ↓AM.Y.x_slcR, ↓AM.Y.x_slcL, ↓AM.Y.b_len_tup, ↓AM.Y.b_len_rol, ↓AM.Y.b_len_ref, ↓AM.Y.b_isi, ↓AM.Y.b_isi2, ↓AM.Y.b_int, ↓AM.Y.b_intb, ↓AM.Y.b_sum, ↓AM.Y.b_max2, ↓AM.Y.b_min2, ↓AM.Y.b_max1, ↓AM.Y.b_min1, ↓AM.Y.b_lst_tup, ↓AM.Y.b_lst_rol, ↓AM.Y.b_lst_ref, ↓AM.Y.b_all, ↓AM.Y.b_any, ↓AM.Y.k_app, ↓AM.Y.k_bits, ↓AM.Y.k_cnt, ↓AM.Y.m_app, ↓AM.Y.m_bits, ↓AM.Y.n_add, ↓AM.Y.n_sub, AM.wp_ok, AM.wp_no, ↓AM.wp_ret, ↓AM.wp_fail, ↓AM.wp_end, ↓AM.thn_nx, ↓AM.thn_rt, ↓AM.thn_bk, ↓AM.thn_ct, ↓AM.thn_xc, ↓AM.endP_nx, ↓AM.endP_rt, ↓AM.endP_xc, ↓AM.lpP_nx, ↓AM.lpP_ct, ↓AM.lpP_bk, ↓AM.lpP_rt, ↓AM.lpP_xc, ↓AM.Y.ifB_bl, ↓AM.Y.isI_int, ↓AM.Y.isT_tup, ↓AM.Y.isS_some, ↓AM.Y.isSS_some, ↓AM.Y.isO_lst, ↓AM.Y.isO_dct, AM.Y.ifB_bl, AM.Y.isI_int, AM.Y.isT_tup, AM.Y.isS_some, AM.Y.isSS_some, AM.Y.isO_lst, AM.Y.isO_dct, List.getElem?_cons_zero, List.getElem?_cons_succ, List.set_cons_zero, List.set_cons_succ, AM.Y.at0, AM.Y.at1, AM.Y.at2, AM.Y.at3, AM.Y.srcV, AM.Y.enumV, AM.tyOf, AM.tyIs, AM.isiV, AM.Y.isNon_non, AM.Y.isNon_bl, AM.Y.isNon_int, AM.Y.isNon_str, AM.Y.isNon_tup, AM.Y.isNon_rol, AM.Y.isNon_ref, Bool.not_true, Bool.not_false, Bool.true_eq_false, Bool.false_eq_true, ↓reduceIte, decide_true, decide_false, decide_eq_true_eq, Option.map_some, Option.map_none, Option.isSome_some, Option.isSome_none, List.length_cons, List.length_nil, List.isEmpty_cons, List.isEmpty_nil, true_and, and_true, Bool.or_false, Bool.false_or, Bool.or_true, Bool.true_or, Nat.zero_add, Nat.reduceAdd, AM.lim, Nat.reduceLeDiff, List.set, AM.wipeE, AM.Y.xcP, reduceCtorEq, imp_self, implies_true, not_false_eq_true]
  refine wp_q (w_check_life hr g hl) fun v h2 f => ?_
  try simp -implicitDefEqProofs only [↓AM.Y.y_var, ↓AM.Y.y_non, ↓AM.Y.y_bl, ↓AM.Y.y_int, ↓AM.Y.y_str, ↓AM.Y.y_ty, ↓AM.Y.y_tup, ↓AM.Y.y_lst, ↓AM.Y.y_dct0, ↓AM.Y.y_bin, ↓AM.Y.y_neg, ↓AM.Y.y_not, ↓AM.Y.y_and, ↓AM.Y.y_or, ↓AM.Y.y_cmp, ↓AM.Y.y_cmp2, ↓AM.Y.y_isN, ↓AM.Y.y_ntN, ↓AM.Y.y_isB, ↓AM.Y.y_ntB, ↓AM.Y.y_ife, ↓AM.Y.y_call, ↓AM.Y.y_bi, ↓AM.Y.y_mt, ↓AM.Y.y_idx, ↓AM.Y.y_slc, ↓AM.Y.y_lc, ↓AM.Y.y_lrng, ↓AM.Y.y_nil, ↓AM.Y.y_cons, ↓AM.Y.y_none, ↓AM.Y.y_some, ↓AM.Y.y_cnone, ↓AM.Y.y_csome, ↓AM.Y.t_not, ↓AM.Y.t_and, ↓AM.Y.t_or, ↓AM.Y.t_var, ↓AM.Y.t_cmp, ↓AM.Y.t_cmp2, ↓AM.Y.t_isN, ↓AM.Y.t_ntN, ↓AM.Y.t_isB, ↓AM.Y.t_ntB, ↓AM.Y.t_call, ↓AM.Y.t_bi, ↓AM.Y.t_idx, ↓AM.Y.i_seq, ↓AM.Y.i_rng1, ↓AM.Y.i_rng2, ↓AM.Y.i_enum, ↓AM.Y.i_zip, ↓AM.Y.g_nm, ↓AM.Y.g_tup, ↓AM.Y.g_sub, ↓AM.Y.g_nil, ↓AM.Y.g_cons, ↓AM.Y.s_nil', ↓AM.Y.s_cons', ↓AM.Y.s_asg, ↓AM.Y.s_asg2', ↓AM.Y.s_asg3', ↓AM.Y.s_par2', ↓AM.Y.s_par3', ↓AM.Y.s_aug', ↓AM.Y.s_expr', ↓AM.Y.s_ret', ↓AM.Y.s_retN', ↓AM.Y.s_iff', ↓AM.Y.s_for', ↓AM.Y.s_whl', ↓AM.Y.s_pass', ↓AM.Y.s_brk', ↓AM.Y.s_cnt', ↓AM.Y.s_never', ↓AM.Y.truth_bl, ↓AM.Y.truth_non, ↓AM.Y.truth_int, ↓AM.Y.truth_tup, ↓AM.Y.truth_rol, ↓AM.Y.truth_ref, ↓AM.Y.o_add, ↓AM.Y.o_sub, ↓AM.Y.o_mul, ↓AM.Y.o_mod, ↓AM.Y.o_fdv, ↓AM.Y.o_pow, ↓AM.Y.o_addL, ↓AM.Y.c_eq, ↓AM.Y.c_ne, ↓AM.Y.c_lt, ↓AM.Y.c_le, ↓AM.Y.c_gt, ↓AM.Y.c_ge, ↓AM.Y.c_inn, ↓AM.Y.c_nin, ↓AM.Y.has_dct, ↓AM.Y.x_tup, ↓AM.Y.x_rol, ↓AM.Y.x_ref, ↓AM.Y.x_set, ↓AM.Y.x_slcR, ↓AM.Y.x_slcL, ↓AM.Y.b_len_tup, ↓AM.Y.b_len_rol, ↓AM.Y.b_len_ref, ↓AM.Y.b_isi, ↓AM.Y.b_isi2, ↓AM.Y.b_int, ↓AM.Y.b_intb, ↓AM.Y.b_sum, ↓AM.Y.b_max2, ↓AM.Y.b_min2, ↓AM.Y.b_max1, ↓AM.Y.b_min1, ↓AM.Y.b_lst_tup, ↓AM.Y.b_lst_rol, ↓AM.Y.b_lst_ref, ↓AM.Y.b_all, ↓AM.Y.b_any, ↓AM.Y.k_app, ↓AM.Y.k_bits, ↓AM.Y.k_cnt, ↓AM.Y.m_app, ↓AM.Y.m_bits, ↓AM.Y.n_add, ↓AM.Y.n_sub, AM.wp_ok, AM.wp_no, ↓AM.wp_ret, ↓AM.wp_fail, ↓AM.wp_end, ↓AM.thn_nx, ↓AM.thn_rt, ↓AM.thn_bk, ↓AM.thn_ct, ↓AM.thn_xc, ↓AM.endP_nx, ↓AM.endP_rt, ↓AM.endP_xc, ↓AM.lpP_nx, ↓AM.lpP_ct, ↓AM.lpP_bk, ↓AM.lpP_rt, ↓AM.lpP_xc, ↓AM.Y.ifB_bl, ↓AM.Y.isI_int, ↓AM.Y.isT_tup, ↓AM.Y.isS_some, ↓AM.Y.isSS_some, ↓AM.Y.isO_lst, ↓AM.Y.isO_dct, AM.Y.ifB_bl, AM.Y.isI_int, AM.Y.isT_tup, AM.Y.isS_some, AM.Y.isSS_some, AM.Y.isO_lst, AM.Y.isO_dct, List.getElem?_cons_zero, List.getElem?_cons_succ, List.set_cons_zero, List.set_cons_succ, AM.Y.at0, AM.Y.at1, AM.Y.at2, AM.Y.at3, AM.Y.srcV, AM.Y.enumV, AM.tyOf, AM.tyIs, AM.isiV, AM.Y.isNon_non, AM.Y.isNon_bl, AM.Y.isNon_int, AM.Y.isNon_str, AM.Y.isNon_tup, AM.Y.isNon_rol, AM.Y.isNon_ref, Bool.not_true, Bool.not_false, Bool.true_eq_false, Bool.false_eq_true, ↓reduceIte, decide_true, decide_false, decide_eq_true_eq, Option.map_some, Option.map_none, Option.isSome_some, Option.isSome_none, List.length_cons, List.length_nil, List.isEmpty_cons, List.isEmpty_nil, true_and, and_true, Bool.or_false, Bool.false_or, Bool.or_true, Bool.true_or, Nat.zero_add, Nat.reduceAdd, AM.lim, Nat.reduceLeDiff, List.set, AM.wipeE, AM.Y.xcP, reduceCtorEq, imp_self, implies_true, not_false_eq_true]
  refine wp_q (w_least_for (d := d + 1) (f.get hr) g) fun v h3 q => ?_
  obtain ⟨rfl, f2⟩ := q
  try simp -implicitDefEqProofs only [↓AM.Y.y_var, ↓AM.Y.y_non, ↓AM.Y.y_bl, ↓AM.Y.y_int, ↓AM.Y.y_str, ↓AM.Y.y_ty, ↓AM.Y.y_tup, ↓AM.Y.y_lst, ↓AM.Y.y_dct0, ↓AM.Y.y_bin, ↓AM.Y.y_neg, ↓AM.Y.y_not, ↓AM.Y.y_and, ↓AM.Y.y_or, ↓AM.Y.y_cmp, ↓AM.Y.y_cmp2, ↓AM.Y.y_isN, ↓AM.Y.y_ntN, ↓AM.Y.y_isB, ↓AM.Y.y_ntB, ↓AM.Y.y_ife, ↓AM.Y.y_call, ↓AM.Y.y_bi, ↓AM.Y.y_mt, ↓AM.Y.y_idx, ↓AM.Y.y_slc, ↓AM.Y.y_lc, ↓AM.Y.y_lrng, ↓AM.Y.y_nil, ↓AM.Y.y_cons, ↓AM.Y.y_none, ↓AM.Y.y_some, ↓AM.Y.y_cnone, ↓AM.Y.y_csome, ↓AM.Y.t_not, ↓AM.Y.t_and, ↓AM.Y.t_or, ↓AM.Y.t_var, ↓AM.Y.t_cmp, ↓AM.Y.t_cmp2, ↓AM.Y.t_isN, ↓AM.Y.t_ntN, ↓AM.Y.t_isB, ↓AM.Y.t_ntB, ↓AM.Y.t_call, ↓AM.Y.t_bi, ↓AM.Y.t_idx, ↓AM.Y.i_seq, ↓AM.Y.i_rng1, ↓AM.Y.i_rng2, ↓AM.Y.i_enum, ↓AM.Y.i_zip, ↓AM.Y.g_nm, ↓AM.Y.g_tup, ↓AM.Y.g_sub, ↓AM.Y.g_nil, ↓AM.Y.g_cons, ↓AM.Y.s_nil', ↓AM.Y.s_cons', ↓AM.Y.s_asg, ↓AM.Y.s_asg2', ↓AM.Y.s_asg3', ↓AM.Y.s_par2', ↓AM.Y.s_par3', ↓AM.Y.s_aug', ↓AM.Y.s_expr', ↓AM.Y.s_ret', ↓AM.Y.s_retN', ↓AM.Y.s_iff', ↓AM.Y.s_for', ↓AM.Y.s_whl', ↓AM.Y.s_pass', ↓AM.Y.s_brk', ↓AM.Y.s_cnt', ↓AM.Y.s_never', ↓AM.Y.truth_bl, ↓AM.Y.truth_non, ↓AM.Y.truth_int, ↓AM.Y.truth_tup, ↓AM.Y.truth_rol, ↓AM.Y.truth_ref, ↓AM.Y.o_add, ↓AM.Y.o_sub, ↓AM.Y.o_mul, ↓AM.Y.o_mod, ↓AM.Y.o_fdv, ↓AM.Y.o_pow, ↓AM.Y.o_addL, ↓AM.Y.c_eq, ↓AM.Y.c_ne, ↓AM.Y.c_lt, ↓AM.Y.c_le, ↓AM.Y.c_gt, ↓AM.Y.c_ge, ↓AM.Y.c_inn, ↓AM.Y.c_nin, ↓AM.Y.has_dct, ↓AM.Y.x_tup, ↓AM.Y.x_rol, ↓AM.Y.x_ref, ↓AM.Y.x_set, ↓AM.Y.x_slcR, ↓AM.Y.x_slcL, ↓AM.Y.b_len_tup, ↓AM.Y.b_len_rol, ↓AM.Y.b_len_ref, ↓AM.Y.b_isi, ↓AM.Y.b_isi2, ↓AM.Y.b_int, ↓AM.Y.b_intb, ↓AM.Y.b_sum, ↓AM.Y.b_max2, ↓AM.Y.b_min2, ↓AM.Y.b_max1, ↓AM.Y.b_min1, ↓AM.Y.b_lst_tup, ↓AM.Y.b_lst_rol, ↓AM.Y.b_lst_ref, ↓AM.Y.b_all, ↓AM.Y.b_any, ↓AM.Y.k_app, ↓AM.Y.k_bits, ↓AM.Y.k_cnt, ↓AM.Y.m_app, ↓AM.Y.m_bits, ↓AM.Y.n_add, ↓AM.Y.n_sub, AM.wp_ok, AM.wp_no, ↓AM.wp_ret, ↓AM.wp_fail, ↓AM.wp_end, ↓AM.thn_nx, ↓AM.thn_rt, ↓AM.thn_bk, ↓AM.thn_ct, ↓AM.thn_xc, ↓AM.endP_nx, ↓AM.endP_rt, ↓AM.endP_xc, ↓AM.lpP_nx, ↓AM.lpP_ct, ↓AM.lpP_bk, ↓AM.lpP_rt, ↓AM.lpP_xc, ↓AM.Y.ifB_bl, ↓AM.Y.isI_int, ↓AM.Y.isT_tup, ↓AM.Y.isS_some, ↓AM.Y.isSS_some, ↓AM.Y.isO_lst, ↓AM.Y.isO_dct, AM.Y.ifB_bl, AM.Y.isI_int, AM.Y.isT_tup, AM.Y.isS_some, AM.Y.isSS_some, AM.Y.isO_lst, AM.Y.isO_dct, List.getElem?_cons_zero, List.getElem?_cons_succ, List.set_cons_zero, List.set_cons_succ, AM.Y.at0, AM.Y.at1, AM.Y.at2, AM.Y.at3, AM.Y.srcV, AM.Y.enumV, AM.tyOf, AM.tyIs, AM.isiV, AM.Y.isNon_non, AM.Y.isNon_bl, AM.Y.isNon_int, AM.Y.isNon_str, AM.Y.isNon_tup, AM.Y.isNon_rol, AM.Y.isNon_ref, Bool.not_true, Bool.not_false, Bool.true_eq_false, Bool.false_eq_true, ↓reduceIte, decide_true, decide_false, decide_eq_true_eq, Option.map_some, Option.map_none, Option.isSome_some, Option.isSome_none, List.length_cons, List.length_nil, List.isEmpty_cons, List.isEmpty_nil, true_and, and_true, Bool.or_false, Bool.false_or, Bool.or_true, Bool.true_or, Nat.zero_add, Nat.reduceAdd, AM.lim, Nat.reduceLeDiff, List.set, AM.wipeE, AM.Y.xcP, reduceCtorEq, imp_self, implies_true, not_false_eq_true]
  exact f.trans f2
/-! ### the law's own -/
theorem w_gone (hr : h[r]? = some (.lst (l.map Ev.v))) {m : Nat} : wp (callD fns 100000 (d + 1) 19 [.ref r, .int m] h) (fun v h' => v = .int (tally (l.take m)).2.2 ∧ Fr [] h h') NoX := by
  rw [call_eq (fns := fns) (W := 100000) (d := d) (g := 19) (f := f__law_gone) rfl (us := [.ref r, .int m]) (vs := [.ref r, .int m]) rfl rfl, wp_end]
  show wp (exSs (callD fns 100000 d) 100000 [some (.ref r), some (.int m), none, none, none] f__law_gone.body h) _ _
  unfold f__law_gone
  simp -implicitDefEqProofs only [↓AM.Y.y_var, ↓AM.Y.y_non, ↓AM.Y.y_bl, ↓AM.Y.y_int, ↓AM.Y.y_str, ↓AM.Y.y_ty, ↓AM.Y.y_tup, ↓AM.Y.y_lst, ↓AM.Y.y_dct0, ↓AM.Y.y_bin, ↓AM.Y.y_neg, ↓AM.Y.y_not, ↓AM.Y.y_and, ↓AM.Y.y_or, ↓AM.Y.y_cmp, ↓AM.Y.y_cmp2, ↓AM.Y.y_isN, ↓AM.Y.y_ntN, ↓AM.Y.y_isB, ↓AM.Y.y_ntB, ↓AM.Y.y_ife, ↓AM.Y.y_call, ↓AM.Y.y_bi, ↓AM.Y.y_mt, ↓AM.Y.y_idx, ↓AM.Y.y_slc, ↓AM.Y.y_lc, ↓AM.Y.y_lrng, ↓AM.Y.y_nil, ↓AM.Y.y_cons, ↓AM.Y.y_none, ↓AM.Y.y_some, ↓AM.Y.y_cnone, ↓AM.Y.y_csome, ↓AM.Y.t_not, ↓AM.Y.t_and, ↓AM.Y.t_or, ↓AM.Y.t_var, ↓AM.Y.t_cmp, ↓AM.Y.t_cmp2, ↓AM.Y.t_isN, ↓AM.Y.t_ntN, ↓AM.Y.t_isB, ↓AM.Y.t_ntB, ↓AM.Y.t_call, ↓AM.Y.t_bi, ↓AM.Y.t_idx, ↓AM.Y.i_seq, ↓AM.Y.i_rng1, ↓AM.Y.i_rng2, ↓AM.Y.i_enum, ↓AM.Y.i_zip, ↓AM.Y.g_nm, ↓AM.Y.g_tup, ↓AM.Y.g_sub, ↓AM.Y.g_nil, ↓AM.Y.g_cons, ↓AM.Y.s_nil', ↓AM.Y.s_cons', ↓AM.Y.s_asg, ↓AM.Y.s_asg2', ↓AM.Y.s_asg3', ↓AM.Y.s_par2', ↓AM.Y.s_par3', ↓AM.Y.s_aug', ↓AM.Y.s_expr', ↓AM.Y.s_ret', ↓AM.Y.s_retN', ↓AM.Y.s_iff', ↓AM.Y.s_for', ↓AM.Y.s_whl', ↓AM.Y.s_pass', ↓AM.Y.s_brk', ↓AM.Y.s_cnt', ↓AM.Y.s_never', ↓AM.Y.truth_bl, ↓AM.Y.truth_non, ↓AM.Y.truth_int, ↓AM.Y.truth_tup, ↓AM.Y.truth_rol, ↓AM.Y.truth_ref, ↓AM.Y.o_add, ↓AM.Y.o_sub, ↓AM.Y.o_mul, ↓AM.Y.o_mod, ↓AM.Y.o_fdv, ↓AM.Y.o_pow, ↓AM.Y.o_addL, ↓AM.Y.c_eq, ↓AM.Y.c_ne, ↓AM.Y.c_lt, ↓AM.Y.c_le, ↓AM.Y.c_gt, ↓AM.Y.c_ge, ↓AM.Y.c_inn, ↓AM.Y.c_nin, ↓AM.Y.has_dct, ↓AM.Y.x_tup, ↓AM.Y.x_rol, ↓AM.Y.x_ref, ↓AM.Y.x_set, ↓AM.Y.x_slcR, ↓AM.Y.x_slcL, ↓AM.Y.b_len_tup, ↓AM.Y.b_len_rol, ↓AM.Y.b_len_ref, ↓AM.Y.b_isi, ↓AM.Y.b_isi2, ↓AM.Y.b_int, ↓AM.Y.b_intb, ↓AM.Y.b_sum, ↓AM.Y.b_max2, ↓AM.Y.b_min2, ↓AM.Y.b_max1, ↓AM.Y.b_min1, ↓AM.Y.b_lst_tup, ↓AM.Y.b_lst_rol, ↓AM.Y.b_lst_ref, ↓AM.Y.b_all, ↓AM.Y.b_any, ↓AM.Y.k_app, ↓AM.Y.k_bits, ↓AM.Y.k_cnt, ↓AM.Y.m_app, ↓AM.Y.m_bits, ↓AM.Y.n_add, ↓AM.Y.n_sub, AM.wp_ok, AM.wp_no, ↓AM.wp_ret, ↓AM.wp_fail, ↓AM.wp_end, ↓AM.thn_nx, ↓AM.thn_rt, ↓AM.thn_bk, ↓AM.thn_ct, ↓AM.thn_xc, ↓AM.endP_nx, ↓AM.endP_rt, ↓AM.endP_xc, ↓AM.lpP_nx, ↓AM.lpP_ct, ↓AM.lpP_bk, ↓AM.lpP_rt, ↓AM.lpP_xc, ↓AM.Y.ifB_bl, ↓AM.Y.isI_int, ↓AM.Y.isT_tup, ↓AM.Y.isS_some, ↓AM.Y.isSS_some, ↓AM.Y.isO_lst, ↓AM.Y.isO_dct, AM.Y.ifB_bl, AM.Y.isI_int, AM.Y.isT_tup, AM.Y.isS_some, AM.Y.isSS_some, AM.Y.isO_lst, AM.Y.isO_dct, List.getElem?_cons_zero, List.getElem?_cons_succ, List.set_cons_zero, List.set_cons_succ, AM.Y.at0, AM.Y.at1, AM.Y.at2, AM.Y.at3, AM.Y.srcV, AM.Y.enumV, AM.tyOf, AM.tyIs, AM.isiV, AM.Y.isNon_non, AM.Y.isNon_bl, AM.Y.isNon_int, AM.Y.isNon_str, AM.Y.isNon_tup, AM.Y.isNon_rol, AM.Y.isNon_ref, Bool.not_true, Bool.not_false, Bool.true_eq_false, Bool.false_eq_true, ↓reduceIte, decide_true, decide_false, decide_eq_true_eq, Option.map_some, Option.map_none, Option.isSome_some, Option.isSome_none, List.length_cons, List.length_nil, List.isEmpty_cons, List.isEmpty_nil, true_and, and_true, Bool.or_false, Bool.false_or, Bool.or_true, Bool.true_or, Nat.zero_add, Nat.reduceAdd, AM.lim, Nat.reduceLeDiff, List.set, AM.wipeE, AM.Y.xcP, reduceCtorEq, imp_self, implies_true, not_false_eq_true, hr, cut_take, get_new, ← List.map_take]
  refine for_cell (xs := (l.take m).map Ev.v) (fun k σ h1 => Fr [] (h ++ [.lst ((l.take m).map Ev.v)]) h1 ∧ ∃ (t : Option Vl), σ = [some (.ref r), some (.int m), some (.int (tally ((l.take m).take k)).2.1), some (.int (tally ((l.take m).take k)).2.2), t]) (fun k σ h1 I => I.1.get get_new) (fun k x σ h1 hk I => ?_) (fun σ h1 I => ?_) ⟨Fr.refl, none, rfl⟩
  · obtain ⟨f, t, rfl⟩ := I
    obtain ⟨e, e1, rfl, e3⟩ := map_at hk
    rw [e3, tally_snoc]
    cases e with
    | line =>
      dsimp only [Ev.v]
      simp -implicitDefEqProofs only [↓AM.Y.y_var, ↓AM.Y.y_non, ↓AM.Y.y_bl, ↓AM.Y.y_int, ↓AM.Y.y_str, ↓AM.Y.y_ty, ↓AM.Y.y_tup, ↓AM.Y.y_lst, ↓AM.Y.y_dct0, ↓AM.Y.y_bin, ↓AM.Y.y_neg, ↓AM.Y.y_not, ↓AM.Y.y_and, ↓AM.Y.y_or, ↓AM.Y.y_cmp, ↓AM.Y.y_cmp2, ↓AM.Y.y_isN, ↓AM.Y.y_ntN, ↓AM.Y.y_isB, ↓AM.Y.y_ntB, ↓AM.Y.y_ife, ↓AM.Y.y_call, ↓AM.Y.y_bi, ↓AM.Y.y_mt, ↓AM.Y.y_idx, ↓AM.Y.y_slc, ↓AM.Y.y_lc, ↓AM.Y.y_lrng, ↓AM.Y.y_nil, ↓AM.Y.y_cons, ↓AM.Y.y_none, ↓AM.Y.y_some, ↓AM.Y.y_cnone, ↓AM.Y.y_csome, ↓AM.Y.t_not, ↓AM.Y.t_and, ↓AM.Y.t_or, ↓AM.Y.t_var, ↓AM.Y.t_cmp, ↓AM.Y.t_cmp2, ↓AM.Y.t_isN, ↓AM.Y.t_ntN, ↓AM.Y.t_isB, ↓AM.Y.t_ntB, ↓AM.Y.t_call, ↓AM.Y.t_bi, ↓AM.Y.t_idx, ↓AM.Y.i_seq, ↓AM.Y.i_rng1, ↓AM.Y.i_rng2, ↓AM.Y.i_enum, ↓AM.Y.i_zip, ↓AM.Y.g_nm, ↓AM.Y.g_tup, ↓AM.Y.g_sub, ↓AM.Y.g_nil, ↓AM.Y.g_cons, ↓AM.Y.s_nil', ↓AM.Y.s_cons', ↓AM.Y.s_asg, ↓AM.Y.s_asg2', ↓AM.Y.s_asg3', ↓AM.Y.s_par2', ↓AM.Y.s_par3', ↓AM.Y.s_aug', ↓AM.Y.s_expr', ↓AM.Y.s_ret', ↓AM.Y.s_retN', ↓AM.Y.s_iff', ↓AM.Y.s_for', ↓AM.Y.s_whl', ↓AM.Y.s_pass', ↓AM.Y.s_brk', ↓AM.Y.s_cnt', ↓AM.Y.s_never', ↓AM.Y.truth_bl, ↓AM.Y.truth_non, ↓AM.Y.truth_int, ↓AM.Y.truth_tup, ↓AM.Y.truth_rol, ↓AM.Y.truth_ref, ↓AM.Y.o_add, ↓AM.Y.o_sub, ↓AM.Y.o_mul, ↓AM.Y.o_mod, ↓AM.Y.o_fdv, ↓AM.Y.o_pow, ↓AM.Y.o_addL, ↓AM.Y.c_eq, ↓AM.Y.c_ne, ↓AM.Y.c_lt, ↓AM.Y.c_le, ↓AM.Y.c_gt, ↓AM.Y.c_ge, ↓AM.Y.c_inn, ↓AM.Y.c_nin, ↓AM.Y.has_dct, ↓AM.Y.x_tup, ↓AM.Y.x_rol, ↓AM.Y.x_ref, ↓AM.Y.x_set, ↓AM.Y.x_slcR, ↓AM.Y.x_slcL, ↓AM.Y.b_len_tup, ↓AM.Y.b_len_rol, ↓AM.Y.b_len_ref, ↓AM.Y.b_isi, ↓AM.Y.b_isi2, ↓AM.Y.b_int, ↓AM.Y.b_intb, ↓AM.Y.b_sum, ↓AM.Y.b_max2, ↓AM.Y.b_min2, ↓AM.Y.b_max1, ↓AM.Y.b_min1, ↓AM.Y.b_lst_tup, ↓AM.Y.b_lst_rol, ↓AM.Y.b_lst_ref, ↓AM.Y.b_all, ↓AM.Y.b_any, ↓AM.Y.k_app, ↓AM.Y.k_bits, ↓AM.Y.k_cnt, ↓AM.Y.m_app, ↓AM.Y.m_bits, ↓AM.Y.n_add, ↓AM.Y.n_sub, AM.wp_ok, AM.wp_no, ↓AM.wp_ret, ↓AM.wp_fail, ↓AM.wp_end, ↓AM.thn_nx, ↓AM.thn_rt, ↓AM.thn_bk, ↓AM.thn_ct, ↓AM.thn_xc, ↓AM.endP_nx, ↓AM.endP_rt, ↓AM.endP_xc, ↓AM.lpP_nx, ↓AM.lpP_ct, ↓AM.lpP_bk, ↓AM.lpP_rt, ↓AM.lpP_xc, ↓AM.Y.ifB_bl, ↓AM.Y.isI_int, ↓AM.Y.isT_tup, ↓AM.Y.isS_some, ↓AM.Y.isSS_some, ↓AM.Y.isO_lst, ↓AM.Y.isO_dct, AM.Y.ifB_bl, AM.Y.isI_int, AM.Y.isT_tup, AM.Y.isS_some, AM.Y.isSS_some, AM.Y.isO_lst, AM.Y.isO_dct, List.getElem?_cons_zero, List.getElem?_cons_succ, List.set_cons_zero, List.set_cons_succ, AM.Y.at0, AM.Y.at1, AM.Y.at2, AM.Y.at3, AM.Y.srcV, AM.Y.enumV, AM.tyOf, AM.tyIs, AM.isiV, AM.Y.isNon_non, AM.Y.isNon_bl, AM.Y.isNon_int, AM.Y.isNon_str, AM.Y.isNon_tup, AM.Y.isNon_rol, AM.Y.isNon_ref, Bool.not_true, Bool.not_false, Bool.true_eq_false, Bool.false_eq_true, ↓reduceIte, decide_true, decide_false, decide_eq_true_eq, Option.map_some, Option.map_none, Option.isSome_some, Option.isSome_none, List.length_cons, List.length_nil, List.isEmpty_cons, List.isEmpty_nil, true_and, and_true, Bool.or_false, Bool.false_or, Bool.or_true, Bool.true_or, Nat.zero_add, Nat.reduceAdd, AM.lim, Nat.reduceLeDiff, List.set, AM.wipeE, AM.Y.xcP, reduceCtorEq, imp_self, implies_true, not_false_eq_true, eqD_str kL kS, eqD_str kL kR, qLS, qLR]
      exact ⟨f, _, rfl⟩
    | stand n =>
      dsimp only [Ev.v]
      simp -implicitDefEqProofs only [↓AM.Y.y_var, ↓AM.Y.y_non, ↓AM.Y.y_bl, ↓AM.Y.y_int, ↓AM.Y.y_str, ↓AM.Y.y_ty, ↓AM.Y.y_tup, ↓AM.Y.y_lst, ↓AM.Y.y_dct0, ↓AM.Y.y_bin, ↓AM.Y.y_neg, ↓AM.Y.y_not, ↓AM.Y.y_and, ↓AM.Y.y_or, ↓AM.Y.y_cmp, ↓AM.Y.y_cmp2, ↓AM.Y.y_isN, ↓AM.Y.y_ntN, ↓AM.Y.y_isB, ↓AM.Y.y_ntB, ↓AM.Y.y_ife, ↓AM.Y.y_call, ↓AM.Y.y_bi, ↓AM.Y.y_mt, ↓AM.Y.y_idx, ↓AM.Y.y_slc, ↓AM.Y.y_lc, ↓AM.Y.y_lrng, ↓AM.Y.y_nil, ↓AM.Y.y_cons, ↓AM.Y.y_none, ↓AM.Y.y_some, ↓AM.Y.y_cnone, ↓AM.Y.y_csome, ↓AM.Y.t_not, ↓AM.Y.t_and, ↓AM.Y.t_or, ↓AM.Y.t_var, ↓AM.Y.t_cmp, ↓AM.Y.t_cmp2, ↓AM.Y.t_isN, ↓AM.Y.t_ntN, ↓AM.Y.t_isB, ↓AM.Y.t_ntB, ↓AM.Y.t_call, ↓AM.Y.t_bi, ↓AM.Y.t_idx, ↓AM.Y.i_seq, ↓AM.Y.i_rng1, ↓AM.Y.i_rng2, ↓AM.Y.i_enum, ↓AM.Y.i_zip, ↓AM.Y.g_nm, ↓AM.Y.g_tup, ↓AM.Y.g_sub, ↓AM.Y.g_nil, ↓AM.Y.g_cons, ↓AM.Y.s_nil', ↓AM.Y.s_cons', ↓AM.Y.s_asg, ↓AM.Y.s_asg2', ↓AM.Y.s_asg3', ↓AM.Y.s_par2', ↓AM.Y.s_par3', ↓AM.Y.s_aug', ↓AM.Y.s_expr', ↓AM.Y.s_ret', ↓AM.Y.s_retN', ↓AM.Y.s_iff', ↓AM.Y.s_for', ↓AM.Y.s_whl', ↓AM.Y.s_pass', ↓AM.Y.s_brk', ↓AM.Y.s_cnt', ↓AM.Y.s_never', ↓AM.Y.truth_bl, ↓AM.Y.truth_non, ↓AM.Y.truth_int, ↓AM.Y.truth_tup, ↓AM.Y.truth_rol, ↓AM.Y.truth_ref, ↓AM.Y.o_add, ↓AM.Y.o_sub, ↓AM.Y.o_mul, ↓AM.Y.o_mod, ↓AM.Y.o_fdv, ↓AM.Y.o_pow, ↓AM.Y.o_addL, ↓AM.Y.c_eq, ↓AM.Y.c_ne, ↓AM.Y.c_lt, ↓AM.Y.c_le, ↓AM.Y.c_gt, ↓AM.Y.c_ge, ↓AM.Y.c_inn, ↓AM.Y.c_nin, ↓AM.Y.has_dct, ↓AM.Y.x_tup, ↓AM.Y.x_rol, ↓AM.Y.x_ref, ↓AM.Y.x_set, ↓AM.Y.x_slcR, ↓AM.Y.x_slcL, ↓AM.Y.b_len_tup, ↓AM.Y.b_len_rol, ↓AM.Y.b_len_ref, ↓AM.Y.b_isi, ↓AM.Y.b_isi2, ↓AM.Y.b_int, ↓AM.Y.b_intb, ↓AM.Y.b_sum, ↓AM.Y.b_max2, ↓AM.Y.b_min2, ↓AM.Y.b_max1, ↓AM.Y.b_min1, ↓AM.Y.b_lst_tup, ↓AM.Y.b_lst_rol, ↓AM.Y.b_lst_ref, ↓AM.Y.b_all, ↓AM.Y.b_any, ↓AM.Y.k_app, ↓AM.Y.k_bits, ↓AM.Y.k_cnt, ↓AM.Y.m_app, ↓AM.Y.m_bits, ↓AM.Y.n_add, ↓AM.Y.n_sub, AM.wp_ok, AM.wp_no, ↓AM.wp_ret, ↓AM.wp_fail, ↓AM.wp_end, ↓AM.thn_nx, ↓AM.thn_rt, ↓AM.thn_bk, ↓AM.thn_ct, ↓AM.thn_xc, ↓AM.endP_nx, ↓AM.endP_rt, ↓AM.endP_xc, ↓AM.lpP_nx, ↓AM.lpP_ct, ↓AM.lpP_bk, ↓AM.lpP_rt, ↓AM.lpP_xc, ↓AM.Y.ifB_bl, ↓AM.Y.isI_int, ↓AM.Y.isT_tup, ↓AM.Y.isS_some, ↓AM.Y.isSS_some, ↓AM.Y.isO_lst, ↓AM.Y.isO_dct, AM.Y.ifB_bl, AM.Y.isI_int, AM.Y.isT_tup, AM.Y.isS_some, AM.Y.isSS_some, AM.Y.isO_lst, AM.Y.isO_dct, List.getElem?_cons_zero, List.getElem?_cons_succ, List.set_cons_zero, List.set_cons_succ, AM.Y.at0, AM.Y.at1, AM.Y.at2, AM.Y.at3, AM.Y.srcV, AM.Y.enumV, AM.tyOf, AM.tyIs, AM.isiV, AM.Y.isNon_non, AM.Y.isNon_bl, AM.Y.isNon_int, AM.Y.isNon_str, AM.Y.isNon_tup, AM.Y.isNon_rol, AM.Y.isNon_ref, Bool.not_true, Bool.not_false, Bool.true_eq_false, Bool.false_eq_true, ↓reduceIte, decide_true, decide_false, decide_eq_true_eq, Option.map_some, Option.map_none, Option.isSome_some, Option.isSome_none, List.length_cons, List.length_nil, List.isEmpty_cons, List.isEmpty_nil, true_and, and_true, Bool.or_false, Bool.false_or, Bool.or_true, Bool.true_or, Nat.zero_add, Nat.reduceAdd, AM.lim, Nat.reduceLeDiff, List.set, AM.wipeE, AM.Y.xcP, reduceCtorEq, imp_self, implies_true, not_false_eq_true, eqD_str kS kS, eqD_str kS kR, qSR, beq_self_eq_true]
      exact ⟨f, _, rfl⟩
    | root =>
      dsimp only [Ev.v]
      simp -implicitDefEqProofs only [↓AM.Y.y_var, ↓AM.Y.y_non, ↓AM.Y.y_bl, ↓AM.Y.y_int, ↓AM.Y.y_str, ↓AM.Y.y_ty, ↓AM.Y.y_tup, ↓AM.Y.y_lst, ↓AM.Y.y_dct0, ↓AM.Y.y_bin, ↓AM.Y.y_neg, ↓AM.Y.y_not, ↓AM.Y.y_and, ↓AM.Y.y_or, ↓AM.Y.y_cmp, ↓AM.Y.y_cmp2, ↓AM.Y.y_isN, ↓AM.Y.y_ntN, ↓AM.Y.y_isB, ↓AM.Y.y_ntB, ↓AM.Y.y_ife, ↓AM.Y.y_call, ↓AM.Y.y_bi, ↓AM.Y.y_mt, ↓AM.Y.y_idx, ↓AM.Y.y_slc, ↓AM.Y.y_lc, ↓AM.Y.y_lrng, ↓AM.Y.y_nil, ↓AM.Y.y_cons, ↓AM.Y.y_none, ↓AM.Y.y_some, ↓AM.Y.y_cnone, ↓AM.Y.y_csome, ↓AM.Y.t_not, ↓AM.Y.t_and, ↓AM.Y.t_or, ↓AM.Y.t_var, ↓AM.Y.t_cmp, ↓AM.Y.t_cmp2, ↓AM.Y.t_isN, ↓AM.Y.t_ntN, ↓AM.Y.t_isB, ↓AM.Y.t_ntB, ↓AM.Y.t_call, ↓AM.Y.t_bi, ↓AM.Y.t_idx, ↓AM.Y.i_seq, ↓AM.Y.i_rng1, ↓AM.Y.i_rng2, ↓AM.Y.i_enum, ↓AM.Y.i_zip, ↓AM.Y.g_nm, ↓AM.Y.g_tup, ↓AM.Y.g_sub, ↓AM.Y.g_nil, ↓AM.Y.g_cons, ↓AM.Y.s_nil', ↓AM.Y.s_cons', ↓AM.Y.s_asg, ↓AM.Y.s_asg2', ↓AM.Y.s_asg3', ↓AM.Y.s_par2', ↓AM.Y.s_par3', ↓AM.Y.s_aug', ↓AM.Y.s_expr', ↓AM.Y.s_ret', ↓AM.Y.s_retN', ↓AM.Y.s_iff', ↓AM.Y.s_for', ↓AM.Y.s_whl', ↓AM.Y.s_pass', ↓AM.Y.s_brk', ↓AM.Y.s_cnt', ↓AM.Y.s_never', ↓AM.Y.truth_bl, ↓AM.Y.truth_non, ↓AM.Y.truth_int, ↓AM.Y.truth_tup, ↓AM.Y.truth_rol, ↓AM.Y.truth_ref, ↓AM.Y.o_add, ↓AM.Y.o_sub, ↓AM.Y.o_mul, ↓AM.Y.o_mod, ↓AM.Y.o_fdv, ↓AM.Y.o_pow, ↓AM.Y.o_addL, ↓AM.Y.c_eq, ↓AM.Y.c_ne, ↓AM.Y.c_lt, ↓AM.Y.c_le, ↓AM.Y.c_gt, ↓AM.Y.c_ge, ↓AM.Y.c_inn, ↓AM.Y.c_nin, ↓AM.Y.has_dct, ↓AM.Y.x_tup, ↓AM.Y.x_rol, ↓AM.Y.x_ref, ↓AM.Y.x_set, ↓AM.Y.x_slcR, ↓AM.Y.x_slcL, ↓AM.Y.b_len_tup, ↓AM.Y.b_len_rol, ↓AM.Y.b_len_ref, ↓AM.Y.b_isi, ↓AM.Y.b_isi2, ↓AM.Y.b_int, ↓AM.Y.b_intb, ↓AM.Y.b_sum, ↓AM.Y.b_max2, ↓AM.Y.b_min2, ↓AM.Y.b_max1, ↓AM.Y.b_min1, ↓AM.Y.b_lst_tup, ↓AM.Y.b_lst_rol, ↓AM.Y.b_lst_ref, ↓AM.Y.b_all, ↓AM.Y.b_any, ↓AM.Y.k_app, ↓AM.Y.k_bits, ↓AM.Y.k_cnt, ↓AM.Y.m_app, ↓AM.Y.m_bits, ↓AM.Y.n_add, ↓AM.Y.n_sub, AM.wp_ok, AM.wp_no, ↓AM.wp_ret, ↓AM.wp_fail, ↓AM.wp_end, ↓AM.thn_nx, ↓AM.thn_rt, ↓AM.thn_bk, ↓AM.thn_ct, ↓AM.thn_xc, ↓AM.endP_nx, ↓AM.endP_rt, ↓AM.endP_xc, ↓AM.lpP_nx, ↓AM.lpP_ct, ↓AM.lpP_bk, ↓AM.lpP_rt, ↓AM.lpP_xc, ↓AM.Y.ifB_bl, ↓AM.Y.isI_int, ↓AM.Y.isT_tup, ↓AM.Y.isS_some, ↓AM.Y.isSS_some, ↓AM.Y.isO_lst, ↓AM.Y.isO_dct, AM.Y.ifB_bl, AM.Y.isI_int, AM.Y.isT_tup, AM.Y.isS_some, AM.Y.isSS_some, AM.Y.isO_lst, AM.Y.isO_dct, List.getElem?_cons_zero, List.getElem?_cons_succ, List.set_cons_zero, List.set_cons_succ, AM.Y.at0, AM.Y.at1, AM.Y.at2, AM.Y.at3, AM.Y.srcV, AM.Y.enumV, AM.tyOf, AM.tyIs, AM.isiV, AM.Y.isNon_non, AM.Y.isNon_bl, AM.Y.isNon_int, AM.Y.isNon_str, AM.Y.isNon_tup, AM.Y.isNon_rol, AM.Y.isNon_ref, Bool.not_true, Bool.not_false, Bool.true_eq_false, Bool.false_eq_true, ↓reduceIte, decide_true, decide_false, decide_eq_true_eq, Option.map_some, Option.map_none, Option.isSome_some, Option.isSome_none, List.length_cons, List.length_nil, List.isEmpty_cons, List.isEmpty_nil, true_and, and_true, Bool.or_false, Bool.false_or, Bool.or_true, Bool.true_or, Nat.zero_add, Nat.reduceAdd, AM.lim, Nat.reduceLeDiff, List.set, AM.wipeE, AM.Y.xcP, reduceCtorEq, imp_self, implies_true, not_false_eq_true, eqD_str kR kS, eqD_str kR kR, qRS, beq_self_eq_true]
      exact ⟨f, _, rfl⟩
  · obtain ⟨f, t, rfl⟩ := I
    have e : (l.take m).take ((l.take m).map Ev.v).length = l.take m := by rw [List.length_map]; exact List.take_length
    rw [e]
    simp -implicitDefEqProofs only [↓AM.Y.y_var, ↓AM.Y.y_non, ↓AM.Y.y_bl, ↓AM.Y.y_int, ↓AM.Y.y_str, ↓AM.Y.y_ty, ↓AM.Y.y_tup, ↓AM.Y.y_lst, ↓AM.Y.y_dct0, ↓AM.Y.y_bin, ↓AM.Y.y_neg, ↓AM.Y.y_not, ↓AM.Y.y_and, ↓AM.Y.y_or, ↓AM.Y.y_cmp, ↓AM.Y.y_cmp2, ↓AM.Y.y_isN, ↓AM.Y.y_ntN, ↓AM.Y.y_isB, ↓AM.Y.y_ntB, ↓AM.Y.y_ife, ↓AM.Y.y_call, ↓AM.Y.y_bi, ↓AM.Y.y_mt, ↓AM.Y.y_idx, ↓AM.Y.y_slc, ↓AM.Y.y_lc, ↓AM.Y.y_lrng, ↓AM.Y.y_nil, ↓AM.Y.y_cons, ↓AM.Y.y_none, ↓AM.Y.y_some, ↓AM.Y.y_cnone, ↓AM.Y.y_csome, ↓AM.Y.t_not, ↓AM.Y.t_and, ↓AM.Y.t_or, ↓AM.Y.t_var, ↓AM.Y.t_cmp, ↓AM.Y.t_cmp2, ↓AM.Y.t_isN, ↓AM.Y.t_ntN, ↓AM.Y.t_isB, ↓AM.Y.t_ntB, ↓AM.Y.t_call, ↓AM.Y.t_bi, ↓AM.Y.t_idx, ↓AM.Y.i_seq, ↓AM.Y.i_rng1, ↓AM.Y.i_rng2, ↓AM.Y.i_enum, ↓AM.Y.i_zip, ↓AM.Y.g_nm, ↓AM.Y.g_tup, ↓AM.Y.g_sub, ↓AM.Y.g_nil, ↓AM.Y.g_cons, ↓AM.Y.s_nil', ↓AM.Y.s_cons', ↓AM.Y.s_asg, ↓AM.Y.s_asg2', ↓AM.Y.s_asg3', ↓AM.Y.s_par2', ↓AM.Y.s_par3', ↓AM.Y.s_aug', ↓AM.Y.s_expr', ↓AM.Y.s_ret', ↓AM.Y.s_retN', ↓AM.Y.s_iff', ↓AM.Y.s_for', ↓AM.Y.s_whl', ↓AM.Y.s_pass', ↓AM.Y.s_brk', ↓AM.Y.s_cnt', ↓AM.Y.s_never', ↓AM.Y.truth_bl, ↓AM.Y.truth_non, ↓AM.Y.truth_int, ↓AM.Y.truth_tup, ↓AM.Y.truth_rol, ↓AM.Y.truth_ref, ↓AM.Y.o_add, ↓AM.Y.o_sub, ↓AM.Y.o_mul, ↓AM.Y.o_mod, ↓AM.Y.o_fdv, ↓AM.Y.o_pow, ↓AM.Y.o_addL, ↓AM.Y.c_eq, ↓AM.Y.c_ne, ↓AM.Y.c_lt, ↓AM.Y.c_le, ↓AM.Y.c_gt, ↓AM.Y.c_ge, ↓AM.Y.c_inn, ↓AM.Y.c_nin, ↓AM.Y.has_dct, ↓AM.Y.x_tup, ↓AM.Y.x_rol, ↓AM.Y.x_ref, ↓AM.Y.x_set, ↓AM.Y.x_slcR, ↓AM.Y.x_slcL, ↓AM.Y.b_len_tup, ↓AM.Y.b_len_rol, ↓AM.Y.b_len_ref, ↓AM.Y.b_isi, ↓AM.Y.b_isi2, ↓AM.Y.b_int, ↓AM.Y.b_intb, ↓AM.Y.b_sum, ↓AM.Y.b_max2, ↓AM.Y.b_min2, ↓AM.Y.b_max1, ↓AM.Y.b_min1, ↓AM.Y.b_lst_tup, ↓AM.Y.b_lst_rol, ↓AM.Y.b_lst_ref, ↓AM.Y.b_all, ↓AM.Y.b_any, ↓AM.Y.k_app, ↓AM.Y.k_bits, ↓AM.Y.k_cnt, ↓AM.Y.m_app, ↓AM.Y.m_bits, ↓AM.Y.n_add, ↓AM.Y.n_sub, AM.wp_ok, AM.wp_no, ↓AM.wp_ret, ↓AM.wp_fail, ↓AM.wp_end, ↓AM.thn_nx, ↓AM.thn_rt, ↓AM.thn_bk, ↓AM.thn_ct, ↓AM.thn_xc, ↓AM.endP_nx, ↓AM.endP_rt, ↓AM.endP_xc, ↓AM.lpP_nx, ↓AM.lpP_ct, ↓AM.lpP_bk, ↓AM.lpP_rt, ↓AM.lpP_xc, ↓AM.Y.ifB_bl, ↓AM.Y.isI_int, ↓AM.Y.isT_tup, ↓AM.Y.isS_some, ↓AM.Y.isSS_some, ↓AM.Y.isO_lst, ↓AM.Y.isO_dct, AM.Y.ifB_bl, AM.Y.isI_int, AM.Y.isT_tup, AM.Y.isS_some, AM.Y.isSS_some, AM.Y.isO_lst, AM.Y.isO_dct, List.getElem?_cons_zero, List.getElem?_cons_succ, List.set_cons_zero, List.set_cons_succ, AM.Y.at0, AM.Y.at1, AM.Y.at2, AM.Y.at3, AM.Y.srcV, AM.Y.enumV, AM.tyOf, AM.tyIs, AM.isiV, AM.Y.isNon_non, AM.Y.isNon_bl, AM.Y.isNon_int, AM.Y.isNon_str, AM.Y.isNon_tup, AM.Y.isNon_rol, AM.Y.isNon_ref, Bool.not_true, Bool.not_false, Bool.true_eq_false, Bool.false_eq_true, ↓reduceIte, decide_true, decide_false, decide_eq_true_eq, Option.map_some, Option.map_none, Option.isSome_some, Option.isSome_none, List.length_cons, List.length_nil, List.isEmpty_cons, List.isEmpty_nil, true_and, and_true, Bool.or_false, Bool.false_or, Bool.or_true, Bool.true_or, Nat.zero_add, Nat.reduceAdd, AM.lim, Nat.reduceLeDiff, List.set, AM.wipeE, AM.Y.xcP, reduceCtorEq, imp_self, implies_true, not_false_eq_true]
    exact (Fr.alloc _).trans f
/-- what the ring holds behind m lines -/
def RingOk (kvs : List (Key × Vl)) (p m : Nat) : Prop := ∀ (s : Int) (v : Vl), valL kvs (.inl s) = some v ↔ ∃ n : Nat, v = .int n ∧ 1 ≤ n ∧ n ≤ m ∧ m < n + p ∧ (n : Int) % p = s
theorem mod_same {p m n : Nat} (hp : 1 ≤ p) (h1 : n ≤ m) (h2 : m < n + p) (e : (n : Int) % p = ((m : Int) + 1) % p) : n + p = m + 1 := by
  have e2 : (((m : Int) + 1) - n) % p = 0 := Int.emod_eq_emod_iff_emod_sub_eq_zero.mp e.symm
  obtain ⟨c, hc⟩ := Int.dvd_of_emod_eq_zero e2
  have c1 : 0 < c := by
    rcases Int.lt_or_le 0 c with z | z
    · exact z
    · have : (p : Int) * c ≤ 0 := Int.mul_nonpos_of_nonneg_of_nonpos (by omega) z
      omega
  have c2 : c < 2 := by
    rcases Int.lt_or_le c 2 with z | z
    · exact z
    · have : (p : Int) * 2 ≤ p * c := Int.mul_le_mul_of_nonneg_left z (by omega)
      omega
  have : c = 1 := by omega
  subst this
  omega
theorem ring_put {kvs : List (Key × Vl)} {p m : Nat} (hp : 1 ≤ p) (R : RingOk kvs p m) : RingOk (putL kvs (.inl (((m : Int) + 1) % p)) (.int ((m : Int) + 1))) p (m + 1) := fun s v => by
  rw [valL_put]
  by_cases hs : s = ((m : Int) + 1) % p
  · subst hs
    rw [if_pos rfl]
    constructor
    · intro e
      cases e
      exact ⟨m + 1, by simp, by omega, Nat.le_refl _, by omega, by simp⟩
    · rintro ⟨n, rfl, h1, h2, h3, h4⟩
      have : n = m + 1 := by
        rcases Nat.lt_or_ge n (m + 1) with z | z
        · have := mod_same hp (by omega) (by omega) h4
          omega
        · omega
      subst this
      simp
  · rw [if_neg (fun e => hs (Sum.inl.inj e)), R s v]
    constructor
    · rintro ⟨n, rfl, h1, h2, h3, h4⟩
      refine ⟨n, rfl, h1, by omega, ?_, h4⟩
      rcases Nat.lt_or_ge (m + 1) (n + p) with z | z
      · exact z
      · have e : n + p = m + 1 := by omega
        refine absurd ?_ hs
        rw [← h4, show ((m : Int) + 1) = n + p by omega]
        simp
    · rintro ⟨n, rfl, h1, h2, h3, h4⟩
      refine ⟨n, rfl, h1, ?_, by omega, h4⟩
      rcases Nat.lt_or_ge n (m + 1) with z | z
      · omega
      · have : n = m + 1 := by omega
        subst this
        exact absurd (by rw [← h4]; simp) hs
theorem w_ring (hr : h[r]? = some (.lst (l.map Ev.v))) (g : Good l) (hl : l.length ≤ 1000) {p : Nat} (hp : 1 ≤ p) : wp (callD fns 100000 (d + 1) 18 [.ref r, .int p] h) (fun v h' => FirstOf (full l p) v ∧ Fr [] h h') NoX := by
  rw [call_eq (fns := fns) (W := 100000) (d := d) (g := 18) (f := f__law_ring_walk) rfl (us := [.ref r, .int p]) (vs := [.ref r, .int p]) rfl rfl, wp_end]
  show wp (exSs (callD fns 100000 d) 100000 [some (.ref r), some (.int p), none, none, none, none, none, none, none] f__law_ring_walk.body h) _ _
  unfold f__law_ring_walk
  simp -implicitDefEqProofs only [↓AM.Y.y_var, ↓AM.Y.y_non, ↓AM.Y.y_bl, ↓AM.Y.y_int, ↓AM.Y.y_str, ↓AM.Y.y_ty, ↓AM.Y.y_tup, ↓AM.Y.y_lst, ↓AM.Y.y_dct0, ↓AM.Y.y_bin, ↓AM.Y.y_neg, ↓AM.Y.y_not, ↓AM.Y.y_and, ↓AM.Y.y_or, ↓AM.Y.y_cmp, ↓AM.Y.y_cmp2, ↓AM.Y.y_isN, ↓AM.Y.y_ntN, ↓AM.Y.y_isB, ↓AM.Y.y_ntB, ↓AM.Y.y_ife, ↓AM.Y.y_call, ↓AM.Y.y_bi, ↓AM.Y.y_mt, ↓AM.Y.y_idx, ↓AM.Y.y_slc, ↓AM.Y.y_lc, ↓AM.Y.y_lrng, ↓AM.Y.y_nil, ↓AM.Y.y_cons, ↓AM.Y.y_none, ↓AM.Y.y_some, ↓AM.Y.y_cnone, ↓AM.Y.y_csome, ↓AM.Y.t_not, ↓AM.Y.t_and, ↓AM.Y.t_or, ↓AM.Y.t_var, ↓AM.Y.t_cmp, ↓AM.Y.t_cmp2, ↓AM.Y.t_isN, ↓AM.Y.t_ntN, ↓AM.Y.t_isB, ↓AM.Y.t_ntB, ↓AM.Y.t_call, ↓AM.Y.t_bi, ↓AM.Y.t_idx, ↓AM.Y.i_seq, ↓AM.Y.i_rng1, ↓AM.Y.i_rng2, ↓AM.Y.i_enum, ↓AM.Y.i_zip, ↓AM.Y.g_nm, ↓AM.Y.g_tup, ↓AM.Y.g_sub, ↓AM.Y.g_nil, ↓AM.Y.g_cons, ↓AM.Y.s_nil', ↓AM.Y.s_cons', ↓AM.Y.s_asg, ↓AM.Y.s_asg2', ↓AM.Y.s_asg3', ↓AM.Y.s_par2', ↓AM.Y.s_par3', ↓AM.Y.s_aug', ↓AM.Y.s_expr', ↓AM.Y.s_ret', ↓AM.Y.s_retN', ↓AM.Y.s_iff', ↓AM.Y.s_for', ↓AM.Y.s_whl', ↓AM.Y.s_pass', ↓AM.Y.s_brk', ↓AM.Y.s_cnt', ↓AM.Y.s_never', ↓AM.Y.truth_bl, ↓AM.Y.truth_non, ↓AM.Y.truth_int, ↓AM.Y.truth_tup, ↓AM.Y.truth_rol, ↓AM.Y.truth_ref, ↓AM.Y.o_add, ↓AM.Y.o_sub, ↓AM.Y.o_mul, ↓AM.Y.o_mod, ↓AM.Y.o_fdv, ↓AM.Y.o_pow, ↓AM.Y.o_addL, ↓AM.Y.c_eq, ↓AM.Y.c_ne, ↓AM.Y.c_lt, ↓AM.Y.c_le, ↓AM.Y.c_gt, ↓AM.Y.c_ge, ↓AM.Y.c_inn, ↓AM.Y.c_nin, ↓AM.Y.has_dct, ↓AM.Y.x_tup, ↓AM.Y.x_rol, ↓AM.Y.x_ref, ↓AM.Y.x_set, ↓AM.Y.x_slcR, ↓AM.Y.x_slcL, ↓AM.Y.b_len_tup, ↓AM.Y.b_len_rol, ↓AM.Y.b_len_ref, ↓AM.Y.b_isi, ↓AM.Y.b_isi2, ↓AM.Y.b_int, ↓AM.Y.b_intb, ↓AM.Y.b_sum, ↓AM.Y.b_max2, ↓AM.Y.b_min2, ↓AM.Y.b_max1, ↓AM.Y.b_min1, ↓AM.Y.b_lst_tup, ↓AM.Y.b_lst_rol, ↓AM.Y.b_lst_ref, ↓AM.Y.b_all, ↓AM.Y.b_any, ↓AM.Y.k_app, ↓AM.Y.k_bits, ↓AM.Y.k_cnt, ↓AM.Y.m_app, ↓AM.Y.m_bits, ↓AM.Y.n_add, ↓AM.Y.n_sub, AM.wp_ok, AM.wp_no, ↓AM.wp_ret, ↓AM.wp_fail, ↓AM.wp_end, ↓AM.thn_nx, ↓AM.thn_rt, ↓AM.thn_bk, ↓AM.thn_ct, ↓AM.thn_xc, ↓AM.endP_nx, ↓AM.endP_rt, ↓AM.endP_xc, ↓AM.lpP_nx, ↓AM.lpP_ct, ↓AM.lpP_bk, ↓AM.lpP_rt, ↓AM.lpP_xc, ↓AM.Y.ifB_bl, ↓AM.Y.isI_int, ↓AM.Y.isT_tup, ↓AM.Y.isS_some, ↓AM.Y.isSS_some, ↓AM.Y.isO_lst, ↓AM.Y.isO_dct, AM.Y.ifB_bl, AM.Y.isI_int, AM.Y.isT_tup, AM.Y.isS_some, AM.Y.isSS_some, AM.Y.isO_lst, AM.Y.isO_dct, List.getElem?_cons_zero, List.getElem?_cons_succ, List.set_cons_zero, List.set_cons_succ, AM.Y.at0, AM.Y.at1, AM.Y.at2, AM.Y.at3, AM.Y.srcV, AM.Y.enumV, AM.tyOf, AM.tyIs, AM.isiV, AM.Y.isNon_non, AM.Y.isNon_bl, AM.Y.isNon_int, AM.Y.isNon_str, AM.Y.isNon_tup, AM.Y.isNon_rol, AM.Y.isNon_ref, Bool.not_true, Bool.not_false, Bool.true_eq_false, Bool.false_eq_true, ↓reduceIte, decide_true, decide_false, decide_eq_true_eq, Option.map_some, Option.map_none, Option.isSome_some, Option.isSome_none, List.length_cons, List.length_nil, List.isEmpty_cons, List.isEmpty_nil, true_and, and_true, Bool.or_false, Bool.false_or, Bool.or_true, Bool.true_or, Nat.zero_add, Nat.reduceAdd, AM.lim, Nat.reduceLeDiff, List.set, AM.wipeE, AM.Y.xcP, reduceCtorEq, imp_self, implies_true, not_false_eq_true, get_app hr]
  refine for_enum (xs := l.map Ev.v) (fun k σ h1 => Fr [] h h1 ∧ (∀ j, j < k → ¬ full l p j) ∧ ∃ (q : Nat) (kvs : List (Key × Vl)) (a b c : Option Vl), σ = [some (.ref r), some (.int p), some (.ref q), some (.int (tally (l.take k)).1), some (.int (tally (l.take k)).2.1), some (.int ((tally (l.take k)).2.2 + 1)), a, b, c] ∧ h.length ≤ q ∧ h1[q]? = some (.dct kvs) ∧ RingOk kvs p (tally (l.take k)).1 ∧ kvs.length ≤ k)
    (fun k σ h1 I => I.1.get hr) (fun k x σ h1 hk I => ?_) (fun σ h1 I => ?_) ⟨Fr.alloc _, fun j hj => by omega, h.length, [], _, _, _, rfl, Nat.le_refl _, get_new, ?_, Nat.le_refl _⟩
  · obtain ⟨f, nf, q, kvs, a, b, c, rfl, hq, hk1, R, kl⟩ := I
    obtain ⟨e, e1, rfl, e3⟩ := map_at hk
    have klt := (List.getElem?_eq_some_iff.mp e1).1
    obtain ⟨t1, t2, t3⟩ := tally_le (good_take g k)
    have next : ¬ full l p k → ∀ j, j < k + 1 → ¬ full l p j := fun z j hj => by
      by_cases hjk : j = k
      · rw [hjk]; exact z
      · exact nf j (by omega)
    rw [e3, tally_snoc]
    cases e with
    | line =>
      dsimp only [Ev.v]
      have p0 : (0 : Int) < p := by omega
      have kb : kvs.length < 100000 := by omega
      simp -implicitDefEqProofs only [↓AM.Y.y_var, ↓AM.Y.y_non, ↓AM.Y.y_bl, ↓AM.Y.y_int, ↓AM.Y.y_str, ↓AM.Y.y_ty, ↓AM.Y.y_tup, ↓AM.Y.y_lst, ↓AM.Y.y_dct0, ↓AM.Y.y_bin, ↓AM.Y.y_neg, ↓AM.Y.y_not, ↓AM.Y.y_and, ↓AM.Y.y_or, ↓AM.Y.y_cmp, ↓AM.Y.y_cmp2, ↓AM.Y.y_isN, ↓AM.Y.y_ntN, ↓AM.Y.y_isB, ↓AM.Y.y_ntB, ↓AM.Y.y_ife, ↓AM.Y.y_call, ↓AM.Y.y_bi, ↓AM.Y.y_mt, ↓AM.Y.y_idx, ↓AM.Y.y_slc, ↓AM.Y.y_lc, ↓AM.Y.y_lrng, ↓AM.Y.y_nil, ↓AM.Y.y_cons, ↓AM.Y.y_none, ↓AM.Y.y_some, ↓AM.Y.y_cnone, ↓AM.Y.y_csome, ↓AM.Y.t_not, ↓AM.Y.t_and, ↓AM.Y.t_or, ↓AM.Y.t_var, ↓AM.Y.t_cmp, ↓AM.Y.t_cmp2, ↓AM.Y.t_isN, ↓AM.Y.t_ntN, ↓AM.Y.t_isB, ↓AM.Y.t_ntB, ↓AM.Y.t_call, ↓AM.Y.t_bi, ↓AM.Y.t_idx, ↓AM.Y.i_seq, ↓AM.Y.i_rng1, ↓AM.Y.i_rng2, ↓AM.Y.i_enum, ↓AM.Y.i_zip, ↓AM.Y.g_nm, ↓AM.Y.g_tup, ↓AM.Y.g_sub, ↓AM.Y.g_nil, ↓AM.Y.g_cons, ↓AM.Y.s_nil', ↓AM.Y.s_cons', ↓AM.Y.s_asg, ↓AM.Y.s_asg2', ↓AM.Y.s_asg3', ↓AM.Y.s_par2', ↓AM.Y.s_par3', ↓AM.Y.s_aug', ↓AM.Y.s_expr', ↓AM.Y.s_ret', ↓AM.Y.s_retN', ↓AM.Y.s_iff', ↓AM.Y.s_for', ↓AM.Y.s_whl', ↓AM.Y.s_pass', ↓AM.Y.s_brk', ↓AM.Y.s_cnt', ↓AM.Y.s_never', ↓AM.Y.truth_bl, ↓AM.Y.truth_non, ↓AM.Y.truth_int, ↓AM.Y.truth_tup, ↓AM.Y.truth_rol, ↓AM.Y.truth_ref, ↓AM.Y.o_add, ↓AM.Y.o_sub, ↓AM.Y.o_mul, ↓AM.Y.o_mod, ↓AM.Y.o_fdv, ↓AM.Y.o_pow, ↓AM.Y.o_addL, ↓AM.Y.c_eq, ↓AM.Y.c_ne, ↓AM.Y.c_lt, ↓AM.Y.c_le, ↓AM.Y.c_gt, ↓AM.Y.c_ge, ↓AM.Y.c_inn, ↓AM.Y.c_nin, ↓AM.Y.has_dct, ↓AM.Y.x_tup, ↓AM.Y.x_rol, ↓AM.Y.x_ref, ↓AM.Y.x_set, ↓AM.Y.x_slcR, ↓AM.Y.x_slcL, ↓AM.Y.b_len_tup, ↓AM.Y.b_len_rol, ↓AM.Y.b_len_ref, ↓AM.Y.b_isi, ↓AM.Y.b_isi2, ↓AM.Y.b_int, ↓AM.Y.b_intb, ↓AM.Y.b_sum, ↓AM.Y.b_max2, ↓AM.Y.b_min2, ↓AM.Y.b_max1, ↓AM.Y.b_min1, ↓AM.Y.b_lst_tup, ↓AM.Y.b_lst_rol, ↓AM.Y.b_lst_ref, ↓AM.Y.b_all, ↓AM.Y.b_any, ↓AM.Y.k_app, ↓AM.Y.k_bits, ↓AM.Y.k_cnt, ↓AM.Y.m_app, ↓AM.Y.m_bits, ↓AM.Y.n_add, ↓AM.Y.n_sub, AM.wp_ok, AM.wp_no, ↓AM.wp_ret, ↓AM.wp_fail, ↓AM.wp_end, ↓AM.thn_nx, ↓AM.thn_rt, ↓AM.thn_bk, ↓AM.thn_ct, ↓AM.thn_xc, ↓AM.endP_nx, ↓AM.endP_rt, ↓AM.endP_xc, ↓AM.lpP_nx, ↓AM.lpP_ct, ↓AM.lpP_bk, ↓AM.lpP_rt, ↓AM.lpP_xc, ↓AM.Y.ifB_bl, ↓AM.Y.isI_int, ↓AM.Y.isT_tup, ↓AM.Y.isS_some, ↓AM.Y.isSS_some, ↓AM.Y.isO_lst, ↓AM.Y.isO_dct, AM.Y.ifB_bl, AM.Y.isI_int, AM.Y.isT_tup, AM.Y.isS_some, AM.Y.isSS_some, AM.Y.isO_lst, AM.Y.isO_dct, List.getElem?_cons_zero, List.getElem?_cons_succ, List.set_cons_zero, List.set_cons_succ, AM.Y.at0, AM.Y.at1, AM.Y.at2, AM.Y.at3, AM.Y.srcV, AM.Y.enumV, AM.tyOf, AM.tyIs, AM.isiV, AM.Y.isNon_non, AM.Y.isNon_bl, AM.Y.isNon_int, AM.Y.isNon_str, AM.Y.isNon_tup, AM.Y.isNon_rol, AM.Y.isNon_ref, Bool.not_true, Bool.not_false, Bool.true_eq_false, Bool.false_eq_true, ↓reduceIte, decide_true, decide_false, decide_eq_true_eq, Option.map_some, Option.map_none, Option.isSome_some, Option.isSome_none, List.length_cons, List.length_nil, List.isEmpty_cons, List.isEmpty_nil, true_and, and_true, Bool.or_false, Bool.false_or, Bool.or_true, Bool.true_or, Nat.zero_add, Nat.reduceAdd, AM.lim, Nat.reduceLeDiff, List.set, AM.wipeE, AM.Y.xcP, reduceCtorEq, imp_self, implies_true, not_false_eq_true, eqD_str kL kL, beq_self_eq_true, hk1, p0]
      have fin : ¬ full l p k → Fr [] h (h1.set q (.dct (putL kvs (.inl ((((tally (List.take k l)).1 : Int) + 1) % p)) (.int (((tally (List.take k l)).1 : Int) + 1))))) ∧ (∀ j, j < k + 1 → ¬ full l p j) ∧ ∃ (q' : Nat) (kvs' : List (Key × Vl)) (a b c : Option Vl), ([some (.ref r), some (.int p), some (.ref q), some (.int (((tally (List.take k l)).1 : Int) + 1)), some (.int (tally (l.take k)).2.1), some (.int ((tally (l.take k)).2.2 + 1)), some (.int k), some (.tup [.str sL]), some (.int ((((tally (List.take k l)).1 : Int) + 1) % p))] : En) = [some (.ref r), some (.int p), some (.ref q'), some (.int (stp (tally (l.take k)) .line).1), some (.int (stp (tally (l.take k)) .line).2.1), some (.int ((stp (tally (l.take k)) .line).2.2 + 1)), a, b, c] ∧ h.length ≤ q' ∧ (h1.set q (.dct (putL kvs (.inl ((((tally (List.take k l)).1 : Int) + 1) % p)) (.int (((tally (List.take k l)).1 : Int) + 1)))))[q']? = some (.dct kvs') ∧ RingOk kvs' p (stp (tally (l.take k)) .line).1 ∧ kvs'.length ≤ k + 1 := fun z => by
        refine ⟨(f.nil (rs := [q]).trans (Fr.put (by simp) _)).cut fun i hi hi2 => ?_, next z, q, _, _, _, _, rfl, hq, get_put hk1, ring_put hp R, Nat.le_trans putL_len (by omega)⟩
        simp at hi
        omega
      cases ev : valL kvs (.inl ((((tally (List.take k l)).1 : Int) + 1) % p)) with
      | none =>
        simp -implicitDefEqProofs only [↓AM.Y.y_var, ↓AM.Y.y_non, ↓AM.Y.y_bl, ↓AM.Y.y_int, ↓AM.Y.y_str, ↓AM.Y.y_ty, ↓AM.Y.y_tup, ↓AM.Y.y_lst, ↓AM.Y.y_dct0, ↓AM.Y.y_bin, ↓AM.Y.y_neg, ↓AM.Y.y_not, ↓AM.Y.y_and, ↓AM.Y.y_or, ↓AM.Y.y_cmp, ↓AM.Y.y_cmp2, ↓AM.Y.y_isN, ↓AM.Y.y_ntN, ↓AM.Y.y_isB, ↓AM.Y.y_ntB, ↓AM.Y.y_ife, ↓AM.Y.y_call, ↓AM.Y.y_bi, ↓AM.Y.y_mt, ↓AM.Y.y_idx, ↓AM.Y.y_slc, ↓AM.Y.y_lc, ↓AM.Y.y_lrng, ↓AM.Y.y_nil, ↓AM.Y.y_cons, ↓AM.Y.y_none, ↓AM.Y.y_some, ↓AM.Y.y_cnone, ↓AM.Y.y_csome, ↓AM.Y.t_not, ↓AM.Y.t_and, ↓AM.Y.t_or, ↓AM.Y.t_var, ↓AM.Y.t_cmp, ↓AM.Y.t_cmp2, ↓AM.Y.t_isN, ↓AM.Y.t_ntN, ↓AM.Y.t_isB, ↓AM.Y.t_ntB, ↓AM.Y.t_call, ↓AM.Y.t_bi, ↓AM.Y.t_idx, ↓AM.Y.i_seq, ↓AM.Y.i_rng1, ↓AM.Y.i_rng2, ↓AM.Y.i_enum, ↓AM.Y.i_zip, ↓AM.Y.g_nm, ↓AM.Y.g_tup, ↓AM.Y.g_sub, ↓AM.Y.g_nil, ↓AM.Y.g_cons, ↓AM.Y.s_nil', ↓AM.Y.s_cons', ↓AM.Y.s_asg, ↓AM.Y.s_asg2', ↓AM.Y.s_asg3', ↓AM.Y.s_par2', ↓AM.Y.s_par3', ↓AM.Y.s_aug', ↓AM.Y.s_expr', ↓AM.Y.s_ret', ↓AM.Y.s_retN', ↓AM.Y.s_iff', ↓AM.Y.s_for', ↓AM.Y.s_whl', ↓AM.Y.s_pass', ↓AM.Y.s_brk', ↓AM.Y.s_cnt', ↓AM.Y.s_never', ↓AM.Y.truth_bl, ↓AM.Y.truth_non, ↓AM.Y.truth_int, ↓AM.Y.truth_tup, ↓AM.Y.truth_rol, ↓AM.Y.truth_ref, ↓AM.Y.o_add, ↓AM.Y.o_sub, ↓AM.Y.o_mul, ↓AM.Y.o_mod, ↓AM.Y.o_fdv, ↓AM.Y.o_pow, ↓AM.Y.o_addL, ↓AM.Y.c_eq, ↓AM.Y.c_ne, ↓AM.Y.c_lt, ↓AM.Y.c_le, ↓AM.Y.c_gt, ↓AM.Y.c_ge, ↓AM.Y.c_inn, ↓AM.Y.c_nin, ↓AM.Y.has_dct, ↓AM.Y.x_tup, ↓AM.Y.x_rol, ↓AM.Y.x_ref, ↓AM.Y.x_set, ↓AM.Y.x_slcR, ↓AM.Y.x_slcL, ↓AM.Y.b_len_tup, ↓AM.Y.b_len_rol, ↓AM.Y.b_len_ref, ↓AM.Y.b_isi, ↓AM.Y.b_isi2, ↓AM.Y.b_int, ↓AM.Y.b_intb, ↓AM.Y.b_sum, ↓AM.Y.b_max2, ↓AM.Y.b_min2, ↓AM.Y.b_max1, ↓AM.Y.b_min1, ↓AM.Y.b_lst_tup, ↓AM.Y.b_lst_rol, ↓AM.Y.b_lst_ref, ↓AM.Y.b_all, ↓AM.Y.b_any, ↓AM.Y.k_app, ↓AM.Y.k_bits, ↓AM.Y.k_cnt, ↓AM.Y.m_app, ↓AM.Y.m_bits, ↓AM.Y.n_add, ↓AM.Y.n_sub, AM.wp_ok, AM.wp_no, ↓AM.wp_ret, ↓AM.wp_fail, ↓AM.wp_end, ↓AM.thn_nx, ↓AM.thn_rt, ↓AM.thn_bk, ↓AM.thn_ct, ↓AM.thn_xc, ↓AM.endP_nx, ↓AM.endP_rt, ↓AM.endP_xc, ↓AM.lpP_nx, ↓AM.lpP_ct, ↓AM.lpP_bk, ↓AM.lpP_rt, ↓AM.lpP_xc, ↓AM.Y.ifB_bl, ↓AM.Y.isI_int, ↓AM.Y.isT_tup, ↓AM.Y.isS_some, ↓AM.Y.isSS_some, ↓AM.Y.isO_lst, ↓AM.Y.isO_dct, AM.Y.ifB_bl, AM.Y.isI_int, AM.Y.isT_tup, AM.Y.isS_some, AM.Y.isSS_some, AM.Y.isO_lst, AM.Y.isO_dct, List.getElem?_cons_zero, List.getElem?_cons_succ, List.set_cons_zero, List.set_cons_succ, AM.Y.at0, AM.Y.at1, AM.Y.at2, AM.Y.at3, AM.Y.srcV, AM.Y.enumV, AM.tyOf, AM.tyIs, AM.isiV, AM.Y.isNon_non, AM.Y.isNon_bl, AM.Y.isNon_int, AM.Y.isNon_str, AM.Y.isNon_tup, AM.Y.isNon_rol, AM.Y.isNon_ref, Bool.not_true, Bool.not_false, Bool.true_eq_false, Bool.false_eq_true, ↓reduceIte, decide_true, decide_false, decide_eq_true_eq, Option.map_some, Option.map_none, Option.isSome_some, Option.isSome_none, List.length_cons, List.length_nil, List.isEmpty_cons, List.isEmpty_nil, true_and, and_true, Bool.or_false, Bool.false_or, Bool.or_true, Bool.true_or, Nat.zero_add, Nat.reduceAdd, AM.lim, Nat.reduceLeDiff, List.set, AM.wipeE, AM.Y.xcP, reduceCtorEq, imp_self, implies_true, not_false_eq_true, hk1, kb]
        refine fin fun w => ?_
        have w2 := w.2
        have e5 : ((((tally (List.take k l)).1 + 1 - p : Nat) : Int)) % (p : Int) = (((tally (List.take k l)).1 : Int) + 1) % p := by
          rw [show ((((tally (List.take k l)).1 + 1 - p : Nat) : Int)) = (((tally (List.take k l)).1 : Int) + 1) - p by omega]
          exact Int.sub_emod_right _ _
        have := (R ((((tally (List.take k l)).1 : Int) + 1) % p) (.int (((tally (List.take k l)).1 + 1 - p : Nat) : Int))).mpr ⟨(tally (List.take k l)).1 + 1 - p, rfl, by omega, by omega, by omega, e5⟩
        rw [ev] at this
        cases this
      | some v =>
        obtain ⟨n, rfl, n1, n2, n3, n4⟩ := (R _ v).mp ev
        have n5 := mod_same hp n2 n3 n4
        simp -implicitDefEqProofs only [↓AM.Y.y_var, ↓AM.Y.y_non, ↓AM.Y.y_bl, ↓AM.Y.y_int, ↓AM.Y.y_str, ↓AM.Y.y_ty, ↓AM.Y.y_tup, ↓AM.Y.y_lst, ↓AM.Y.y_dct0, ↓AM.Y.y_bin, ↓AM.Y.y_neg, ↓AM.Y.y_not, ↓AM.Y.y_and, ↓AM.Y.y_or, ↓AM.Y.y_cmp, ↓AM.Y.y_cmp2, ↓AM.Y.y_isN, ↓AM.Y.y_ntN, ↓AM.Y.y_isB, ↓AM.Y.y_ntB, ↓AM.Y.y_ife, ↓AM.Y.y_call, ↓AM.Y.y_bi, ↓AM.Y.y_mt, ↓AM.Y.y_idx, ↓AM.Y.y_slc, ↓AM.Y.y_lc, ↓AM.Y.y_lrng, ↓AM.Y.y_nil, ↓AM.Y.y_cons, ↓AM.Y.y_none, ↓AM.Y.y_some, ↓AM.Y.y_cnone, ↓AM.Y.y_csome, ↓AM.Y.t_not, ↓AM.Y.t_and, ↓AM.Y.t_or, ↓AM.Y.t_var, ↓AM.Y.t_cmp, ↓AM.Y.t_cmp2, ↓AM.Y.t_isN, ↓AM.Y.t_ntN, ↓AM.Y.t_isB, ↓AM.Y.t_ntB, ↓AM.Y.t_call, ↓AM.Y.t_bi, ↓AM.Y.t_idx, ↓AM.Y.i_seq, ↓AM.Y.i_rng1, ↓AM.Y.i_rng2, ↓AM.Y.i_enum, ↓AM.Y.i_zip, ↓AM.Y.g_nm, ↓AM.Y.g_tup, ↓AM.Y.g_sub, ↓AM.Y.g_nil, ↓AM.Y.g_cons, ↓AM.Y.s_nil', ↓AM.Y.s_cons', ↓AM.Y.s_asg, ↓AM.Y.s_asg2', ↓AM.Y.s_asg3', ↓AM.Y.s_par2', ↓AM.Y.s_par3', ↓AM.Y.s_aug', ↓AM.Y.s_expr', ↓AM.Y.s_ret', ↓AM.Y.s_retN', ↓AM.Y.s_iff', ↓AM.Y.s_for', ↓AM.Y.s_whl', ↓AM.Y.s_pass', ↓AM.Y.s_brk', ↓AM.Y.s_cnt', ↓AM.Y.s_never', ↓AM.Y.truth_bl, ↓AM.Y.truth_non, ↓AM.Y.truth_int, ↓AM.Y.truth_tup, ↓AM.Y.truth_rol, ↓AM.Y.truth_ref, ↓AM.Y.o_add, ↓AM.Y.o_sub, ↓AM.Y.o_mul, ↓AM.Y.o_mod, ↓AM.Y.o_fdv, ↓AM.Y.o_pow, ↓AM.Y.o_addL, ↓AM.Y.c_eq, ↓AM.Y.c_ne, ↓AM.Y.c_lt, ↓AM.Y.c_le, ↓AM.Y.c_gt, ↓AM.Y.c_ge, ↓AM.Y.c_inn, ↓AM.Y.c_nin, ↓AM.Y.has_dct, ↓AM.Y.x_tup, ↓AM.Y.x_rol, ↓AM.Y.x_ref, ↓AM.Y.x_set, ↓AM.Y.x_slcR, ↓AM.Y.x_slcL, ↓AM.Y.b_len_tup, ↓AM.Y.b_len_rol, ↓AM.Y.b_len_ref, ↓AM.Y.b_isi, ↓AM.Y.b_isi2, ↓AM.Y.b_int, ↓AM.Y.b_intb, ↓AM.Y.b_sum, ↓AM.Y.b_max2, ↓AM.Y.b_min2, ↓AM.Y.b_max1, ↓AM.Y.b_min1, ↓AM.Y.b_lst_tup, ↓AM.Y.b_lst_rol, ↓AM.Y.b_lst_ref, ↓AM.Y.b_all, ↓AM.Y.b_any, ↓AM.Y.k_app, ↓AM.Y.k_bits, ↓AM.Y.k_cnt, ↓AM.Y.m_app, ↓AM.Y.m_bits, ↓AM.Y.n_add, ↓AM.Y.n_sub, AM.wp_ok, AM.wp_no, ↓AM.wp_ret, ↓AM.wp_fail, ↓AM.wp_end, ↓AM.thn_nx, ↓AM.thn_rt, ↓AM.thn_bk, ↓AM.thn_ct, ↓AM.thn_xc, ↓AM.endP_nx, ↓AM.endP_rt, ↓AM.endP_xc, ↓AM.lpP_nx, ↓AM.lpP_ct, ↓AM.lpP_bk, ↓AM.lpP_rt, ↓AM.lpP_xc, ↓AM.Y.ifB_bl, ↓AM.Y.isI_int, ↓AM.Y.isT_tup, ↓AM.Y.isS_some, ↓AM.Y.isSS_some, ↓AM.Y.isO_lst, ↓AM.Y.isO_dct, AM.Y.ifB_bl, AM.Y.isI_int, AM.Y.isT_tup, AM.Y.isS_some, AM.Y.isSS_some, AM.Y.isO_lst, AM.Y.isO_dct, List.getElem?_cons_zero, List.getElem?_cons_succ, List.set_cons_zero, List.set_cons_succ, AM.Y.at0, AM.Y.at1, AM.Y.at2, AM.Y.at3, AM.Y.srcV, AM.Y.enumV, AM.tyOf, AM.tyIs, AM.isiV, AM.Y.isNon_non, AM.Y.isNon_bl, AM.Y.isNon_int, AM.Y.isNon_str, AM.Y.isNon_tup, AM.Y.isNon_rol, AM.Y.isNon_ref, Bool.not_true, Bool.not_false, Bool.true_eq_false, Bool.false_eq_true, ↓reduceIte, decide_true, decide_false, decide_eq_true_eq, Option.map_some, Option.map_none, Option.isSome_some, Option.isSome_none, List.length_cons, List.length_nil, List.isEmpty_cons, List.isEmpty_nil, true_and, and_true, Bool.or_false, Bool.false_or, Bool.or_true, Bool.true_or, Nat.zero_add, Nat.reduceAdd, AM.lim, Nat.reduceLeDiff, List.set, AM.wipeE, AM.Y.xcP, reduceCtorEq, imp_self, implies_true, not_false_eq_true, hk1, kb, ev]
        split
        · rename_i z
          refine ⟨.inr ⟨k, rfl, ⟨e1, by omega⟩, nf⟩, f⟩
        · rename_i z
          refine fin fun w => ?_
          have := w.2
          omega
    | stand n =>
      dsimp only [Ev.v]
      simp -implicitDefEqProofs only [↓AM.Y.y_var, ↓AM.Y.y_non, ↓AM.Y.y_bl, ↓AM.Y.y_int, ↓AM.Y.y_str, ↓AM.Y.y_ty, ↓AM.Y.y_tup, ↓AM.Y.y_lst, ↓AM.Y.y_dct0, ↓AM.Y.y_bin, ↓AM.Y.y_neg, ↓AM.Y.y_not, ↓AM.Y.y_and, ↓AM.Y.y_or, ↓AM.Y.y_cmp, ↓AM.Y.y_cmp2, ↓AM.Y.y_isN, ↓AM.Y.y_ntN, ↓AM.Y.y_isB, ↓AM.Y.y_ntB, ↓AM.Y.y_ife, ↓AM.Y.y_call, ↓AM.Y.y_bi, ↓AM.Y.y_mt, ↓AM.Y.y_idx, ↓AM.Y.y_slc, ↓AM.Y.y_lc, ↓AM.Y.y_lrng, ↓AM.Y.y_nil, ↓AM.Y.y_cons, ↓AM.Y.y_none, ↓AM.Y.y_some, ↓AM.Y.y_cnone, ↓AM.Y.y_csome, ↓AM.Y.t_not, ↓AM.Y.t_and, ↓AM.Y.t_or, ↓AM.Y.t_var, ↓AM.Y.t_cmp, ↓AM.Y.t_cmp2, ↓AM.Y.t_isN, ↓AM.Y.t_ntN, ↓AM.Y.t_isB, ↓AM.Y.t_ntB, ↓AM.Y.t_call, ↓AM.Y.t_bi, ↓AM.Y.t_idx, ↓AM.Y.i_seq, ↓AM.Y.i_rng1, ↓AM.Y.i_rng2, ↓AM.Y.i_enum, ↓AM.Y.i_zip, ↓AM.Y.g_nm, ↓AM.Y.g_tup, ↓AM.Y.g_sub, ↓AM.Y.g_nil, ↓AM.Y.g_cons, ↓AM.Y.s_nil', ↓AM.Y.s_cons', ↓AM.Y.s_asg, ↓AM.Y.s_asg2', ↓AM.Y.s_asg3', ↓AM.Y.s_par2', ↓AM.Y.s_par3', ↓AM.Y.s_aug', ↓AM.Y.s_expr', ↓AM.Y.s_ret', ↓AM.Y.s_retN', ↓AM.Y.s_iff', ↓AM.Y.s_for', ↓AM.Y.s_whl', ↓AM.Y.s_pass', ↓AM.Y.s_brk', ↓AM.Y.s_cnt', ↓AM.Y.s_never', ↓AM.Y.truth_bl, ↓AM.Y.truth_non, ↓AM.Y.truth_int, ↓AM.Y.truth_tup, ↓AM.Y.truth_rol, ↓AM.Y.truth_ref, ↓AM.Y.o_add, ↓AM.Y.o_sub, ↓AM.Y.o_mul, ↓AM.Y.o_mod, ↓AM.Y.o_fdv, ↓AM.Y.o_pow, ↓AM.Y.o_addL, ↓AM.Y.c_eq, ↓AM.Y.c_ne, ↓AM.Y.c_lt, ↓AM.Y.c_le, ↓AM.Y.c_gt, ↓AM.Y.c_ge, ↓AM.Y.c_inn, ↓AM.Y.c_nin, ↓AM.Y.has_dct, ↓AM.Y.x_tup, ↓AM.Y.x_rol, ↓AM.Y.x_ref, ↓AM.Y.x_set, ↓AM.Y.x_slcR, ↓AM.Y.x_slcL, ↓AM.Y.b_len_tup, ↓AM.Y.b_len_rol, ↓AM.Y.b_len_ref, ↓AM.Y.b_isi, ↓AM.Y.b_isi2, ↓AM.Y.b_int, ↓AM.Y.b_intb, ↓AM.Y.b_sum, ↓AM.Y.b_max2, ↓AM.Y.b_min2, ↓AM.Y.b_max1, ↓AM.Y.b_min1, ↓AM.Y.b_lst_tup, ↓AM.Y.b_lst_rol, ↓AM.Y.b_lst_ref, ↓AM.Y.b_all, ↓AM.Y.b_any, ↓AM.Y.k_app, ↓AM.Y.k_bits, ↓AM.Y.k_cnt, ↓AM.Y.m_app, ↓AM.Y.m_bits, ↓AM.Y.n_add, ↓AM.Y.n_sub, AM.wp_ok, AM.wp_no, ↓AM.wp_ret, ↓AM.wp_fail, ↓AM.wp_end, ↓AM.thn_nx, ↓AM.thn_rt, ↓AM.thn_bk, ↓AM.thn_ct, ↓AM.thn_xc, ↓AM.endP_nx, ↓AM.endP_rt, ↓AM.endP_xc, ↓AM.lpP_nx, ↓AM.lpP_ct, ↓AM.lpP_bk, ↓AM.lpP_rt, ↓AM.lpP_xc, ↓AM.Y.ifB_bl, ↓AM.Y.isI_int, ↓AM.Y.isT_tup, ↓AM.Y.isS_some, ↓AM.Y.isSS_some, ↓AM.Y.isO_lst, ↓AM.Y.isO_dct, AM.Y.ifB_bl, AM.Y.isI_int, AM.Y.isT_tup, AM.Y.isS_some, AM.Y.isSS_some, AM.Y.isO_lst, AM.Y.isO_dct, List.getElem?_cons_zero, List.getElem?_cons_succ, List.set_cons_zero, List.set_cons_succ, AM.Y.at0, AM.Y.at1, AM.Y.at2, AM.Y.at3, AM.Y.srcV, AM.Y.enumV, AM.tyOf, AM.tyIs, AM.isiV, AM.Y.isNon_non, AM.Y.isNon_bl, AM.Y.isNon_int, AM.Y.isNon_str, AM.Y.isNon_tup, AM.Y.isNon_rol, AM.Y.isNon_ref, Bool.not_true, Bool.not_false, Bool.true_eq_false, Bool.false_eq_true, ↓reduceIte, decide_true, decide_false, decide_eq_true_eq, Option.map_some, Option.map_none, Option.isSome_some, Option.isSome_none, List.length_cons, List.length_nil, List.isEmpty_cons, List.isEmpty_nil, true_and, and_true, Bool.or_false, Bool.false_or, Bool.or_true, Bool.true_or, Nat.zero_add, Nat.reduceAdd, AM.lim, Nat.reduceLeDiff, List.set, AM.wipeE, AM.Y.xcP, reduceCtorEq, imp_self, implies_true, not_false_eq_true, eqD_str kS kL, eqD_str kS kS, qSL, beq_self_eq_true]
      exact ⟨f, next (fun w => by have := w.1; rw [e1] at this; cases this), _, _, _, _, _, rfl, hq, hk1, R, by omega⟩
    | root =>
      dsimp only [Ev.v]
      simp -implicitDefEqProofs only [↓AM.Y.y_var, ↓AM.Y.y_non, ↓AM.Y.y_bl, ↓AM.Y.y_int, ↓AM.Y.y_str, ↓AM.Y.y_ty, ↓AM.Y.y_tup, ↓AM.Y.y_lst, ↓AM.Y.y_dct0, ↓AM.Y.y_bin, ↓AM.Y.y_neg, ↓AM.Y.y_not, ↓AM.Y.y_and, ↓AM.Y.y_or, ↓AM.Y.y_cmp, ↓AM.Y.y_cmp2, ↓AM.Y.y_isN, ↓AM.Y.y_ntN, ↓AM.Y.y_isB, ↓AM.Y.y_ntB, ↓AM.Y.y_ife, ↓AM.Y.y_call, ↓AM.Y.y_bi, ↓AM.Y.y_mt, ↓AM.Y.y_idx, ↓AM.Y.y_slc, ↓AM.Y.y_lc, ↓AM.Y.y_lrng, ↓AM.Y.y_nil, ↓AM.Y.y_cons, ↓AM.Y.y_none, ↓AM.Y.y_some, ↓AM.Y.y_cnone, ↓AM.Y.y_csome, ↓AM.Y.t_not, ↓AM.Y.t_and, ↓AM.Y.t_or, ↓AM.Y.t_var, ↓AM.Y.t_cmp, ↓AM.Y.t_cmp2, ↓AM.Y.t_isN, ↓AM.Y.t_ntN, ↓AM.Y.t_isB, ↓AM.Y.t_ntB, ↓AM.Y.t_call, ↓AM.Y.t_bi, ↓AM.Y.t_idx, ↓AM.Y.i_seq, ↓AM.Y.i_rng1, ↓AM.Y.i_rng2, ↓AM.Y.i_enum, ↓AM.Y.i_zip, ↓AM.Y.g_nm, ↓AM.Y.g_tup, ↓AM.Y.g_sub, ↓AM.Y.g_nil, ↓AM.Y.g_cons, ↓AM.Y.s_nil', ↓AM.Y.s_cons', ↓AM.Y.s_asg, ↓AM.Y.s_asg2', ↓AM.Y.s_asg3', ↓AM.Y.s_par2', ↓AM.Y.s_par3', ↓AM.Y.s_aug', ↓AM.Y.s_expr', ↓AM.Y.s_ret', ↓AM.Y.s_retN', ↓AM.Y.s_iff', ↓AM.Y.s_for', ↓AM.Y.s_whl', ↓AM.Y.s_pass', ↓AM.Y.s_brk', ↓AM.Y.s_cnt', ↓AM.Y.s_never', ↓AM.Y.truth_bl, ↓AM.Y.truth_non, ↓AM.Y.truth_int, ↓AM.Y.truth_tup, ↓AM.Y.truth_rol, ↓AM.Y.truth_ref, ↓AM.Y.o_add, ↓AM.Y.o_sub, ↓AM.Y.o_mul, ↓AM.Y.o_mod, ↓AM.Y.o_fdv, ↓AM.Y.o_pow, ↓AM.Y.o_addL, ↓AM.Y.c_eq, ↓AM.Y.c_ne, ↓AM.Y.c_lt, ↓AM.Y.c_le, ↓AM.Y.c_gt, ↓AM.Y.c_ge, ↓AM.Y.c_inn, ↓AM.Y.c_nin, ↓AM.Y.has_dct, ↓AM.Y.x_tup, ↓AM.Y.x_rol, ↓AM.Y.x_ref, ↓AM.Y.x_set, ↓AM.Y.x_slcR, ↓AM.Y.x_slcL, ↓AM.Y.b_len_tup, ↓AM.Y.b_len_rol, ↓AM.Y.b_len_ref, ↓AM.Y.b_isi, ↓AM.Y.b_isi2, ↓AM.Y.b_int, ↓AM.Y.b_intb, ↓AM.Y.b_sum, ↓AM.Y.b_max2, ↓AM.Y.b_min2, ↓AM.Y.b_max1, ↓AM.Y.b_min1, ↓AM.Y.b_lst_tup, ↓AM.Y.b_lst_rol, ↓AM.Y.b_lst_ref, ↓AM.Y.b_all, ↓AM.Y.b_any, ↓AM.Y.k_app, ↓AM.Y.k_bits, ↓AM.Y.k_cnt, ↓AM.Y.m_app, ↓AM.Y.m_bits, ↓AM.Y.n_add, ↓AM.Y.n_sub, AM.wp_ok, AM.wp_no, ↓AM.wp_ret, ↓AM.wp_fail, ↓AM.wp_end, ↓AM.thn_nx, ↓AM.thn_rt, ↓AM.thn_bk, ↓AM.thn_ct, ↓AM.thn_xc, ↓AM.endP_nx, ↓AM.endP_rt, ↓AM.endP_xc, ↓AM.lpP_nx, ↓AM.lpP_ct, ↓AM.lpP_bk, ↓AM.lpP_rt, ↓AM.lpP_xc, ↓AM.Y.ifB_bl, ↓AM.Y.isI_int, ↓AM.Y.isT_tup, ↓AM.Y.isS_some, ↓AM.Y.isSS_some, ↓AM.Y.isO_lst, ↓AM.Y.isO_dct, AM.Y.ifB_bl, AM.Y.isI_int, AM.Y.isT_tup, AM.Y.isS_some, AM.Y.isSS_some, AM.Y.isO_lst, AM.Y.isO_dct, List.getElem?_cons_zero, List.getElem?_cons_succ, List.set_cons_zero, List.set_cons_succ, AM.Y.at0, AM.Y.at1, AM.Y.at2, AM.Y.at3, AM.Y.srcV, AM.Y.enumV, AM.tyOf, AM.tyIs, AM.isiV, AM.Y.isNon_non, AM.Y.isNon_bl, AM.Y.isNon_int, AM.Y.isNon_str, AM.Y.isNon_tup, AM.Y.isNon_rol, AM.Y.isNon_ref, Bool.not_true, Bool.not_false, Bool.true_eq_false, Bool.false_eq_true, ↓reduceIte, decide_true, decide_false, decide_eq_true_eq, Option.map_some, Option.map_none, Option.isSome_some, Option.isSome_none, List.length_cons, List.length_nil, List.isEmpty_cons, List.isEmpty_nil, true_and, and_true, Bool.or_false, Bool.false_or, Bool.or_true, Bool.true_or, Nat.zero_add, Nat.reduceAdd, AM.lim, Nat.reduceLeDiff, List.set, AM.wipeE, AM.Y.xcP, reduceCtorEq, imp_self, implies_true, not_false_eq_true, eqD_str kR kL, eqD_str kR kS, qRL, qRS]
      exact ⟨f, next (fun w => by have := w.1; rw [e1] at this; cases this), _, _, _, _, _, rfl, hq, hk1, R, by omega⟩
  · obtain ⟨f, nf, q, kvs, a, b, c, rfl, hq, hk1, R, kl⟩ := I
    simp -implicitDefEqProofs only [↓AM.Y.y_var, ↓AM.Y.y_non, ↓AM.Y.y_bl, ↓AM.Y.y_int, ↓AM.Y.y_str, ↓AM.Y.y_ty, ↓AM.Y.y_tup, ↓AM.Y.y_lst, ↓AM.Y.y_dct0, ↓AM.Y.y_bin, ↓AM.Y.y_neg, ↓AM.Y.y_not, ↓AM.Y.y_and, ↓AM.Y.y_or, ↓AM.Y.y_cmp, ↓AM.Y.y_cmp2, ↓AM.Y.y_isN, ↓AM.Y.y_ntN, ↓AM.Y.y_isB, ↓AM.Y.y_ntB, ↓AM.Y.y_ife, ↓AM.Y.y_call, ↓AM.Y.y_bi, ↓AM.Y.y_mt, ↓AM.Y.y_idx, ↓AM.Y.y_slc, ↓AM.Y.y_lc, ↓AM.Y.y_lrng, ↓AM.Y.y_nil, ↓AM.Y.y_cons, ↓AM.Y.y_none, ↓AM.Y.y_some, ↓AM.Y.y_cnone, ↓AM.Y.y_csome, ↓AM.Y.t_not, ↓AM.Y.t_and, ↓AM.Y.t_or, ↓AM.Y.t_var, ↓AM.Y.t_cmp, ↓AM.Y.t_cmp2, ↓AM.Y.t_isN, ↓AM.Y.t_ntN, ↓AM.Y.t_isB, ↓AM.Y.t_ntB, ↓AM.Y.t_call, ↓AM.Y.t_bi, ↓AM.Y.t_idx, ↓AM.Y.i_seq, ↓AM.Y.i_rng1, ↓AM.Y.i_rng2, ↓AM.Y.i_enum, ↓AM.Y.i_zip, ↓AM.Y.g_nm, ↓AM.Y.g_tup, ↓AM.Y.g_sub, ↓AM.Y.g_nil, ↓AM.Y.g_cons, ↓AM.Y.s_nil', ↓AM.Y.s_cons', ↓AM.Y.s_asg, ↓AM.Y.s_asg2', ↓AM.Y.s_asg3', ↓AM.Y.s_par2', ↓AM.Y.s_par3', ↓AM.Y.s_aug', ↓AM.Y.s_expr', ↓AM.Y.s_ret', ↓AM.Y.s_retN', ↓AM.Y.s_iff', ↓AM.Y.s_for', ↓AM.Y.s_whl', ↓AM.Y.s_pass', ↓AM.Y.s_brk', ↓AM.Y.s_cnt', ↓AM.Y.s_never', ↓AM.Y.truth_bl, ↓AM.Y.truth_non, ↓AM.Y.truth_int, ↓AM.Y.truth_tup, ↓AM.Y.truth_rol, ↓AM.Y.truth_ref, ↓AM.Y.o_add, ↓AM.Y.o_sub, ↓AM.Y.o_mul, ↓AM.Y.o_mod, ↓AM.Y.o_fdv, ↓AM.Y.o_pow, ↓AM.Y.o_addL, ↓AM.Y.c_eq, ↓AM.Y.c_ne, ↓AM.Y.c_lt, ↓AM.Y.c_le, ↓AM.Y.c_gt, ↓AM.Y.c_ge, ↓AM.Y.c_inn, ↓AM.Y.c_nin, ↓AM.Y.has_dct, ↓AM.Y.x_tup, ↓AM.Y.x_rol, ↓AM.Y.x_ref, ↓AM.Y.x_set, ↓AM.Y.x_slcR, ↓AM.Y.x_slcL, ↓AM.Y.b_len_tup, ↓AM.Y.b_len_rol, ↓AM.Y.b_len_ref, ↓AM.Y.b_isi, ↓AM.Y.b_isi2, ↓AM.Y.b_int, ↓AM.Y.b_intb, ↓AM.Y.b_sum, ↓AM.Y.b_max2, ↓AM.Y.b_min2, ↓AM.Y.b_max1, ↓AM.Y.b_min1, ↓AM.Y.b_lst_tup, ↓AM.Y.b_lst_rol, ↓AM.Y.b_lst_ref, ↓AM.Y.b_all, ↓AM.Y.b_any, ↓AM.Y.k_app, ↓AM.Y.k_bits, ↓AM.Y.k_cnt, ↓AM.Y.m_app, ↓AM.Y.m_bits, ↓AM.Y.n_add, ↓AM.Y.n_sub, AM.wp_ok, AM.wp_no, ↓AM.wp_ret, ↓AM.wp_fail, ↓AM.wp_end, ↓AM.thn_nx, ↓AM.thn_rt, ↓AM.thn_bk, ↓AM.thn_ct, ↓AM.thn_xc, ↓AM.endP_nx, ↓AM.endP_rt, ↓AM.endP_xc, ↓AM.lpP_nx, ↓AM.lpP_ct, ↓AM.lpP_bk, ↓AM.lpP_rt, ↓AM.lpP_xc, ↓AM.Y.ifB_bl, ↓AM.Y.isI_int, ↓AM.Y.isT_tup, ↓AM.Y.isS_some, ↓AM.Y.isSS_some, ↓AM.Y.isO_lst, ↓AM.Y.isO_dct, AM.Y.ifB_bl, AM.Y.isI_int, AM.Y.isT_tup, AM.Y.isS_some, AM.Y.isSS_some, AM.Y.isO_lst, AM.Y.isO_dct, List.getElem?_cons_zero, List.getElem?_cons_succ, List.set_cons_zero, List.set_cons_succ, AM.Y.at0, AM.Y.at1, AM.Y.at2, AM.Y.at3, AM.Y.srcV, AM.Y.enumV, AM.tyOf, AM.tyIs, AM.isiV, AM.Y.isNon_non, AM.Y.isNon_bl, AM.Y.isNon_int, AM.Y.isNon_str, AM.Y.isNon_tup, AM.Y.isNon_rol, AM.Y.isNon_ref, Bool.not_true, Bool.not_false, Bool.true_eq_false, Bool.false_eq_true, ↓reduceIte, decide_true, decide_false, decide_eq_true_eq, Option.map_some, Option.map_none, Option.isSome_some, Option.isSome_none, List.length_cons, List.length_nil, List.isEmpty_cons, List.isEmpty_nil, true_and, and_true, Bool.or_false, Bool.false_or, Bool.or_true, Bool.true_or, Nat.zero_add, Nat.reduceAdd, AM.lim, Nat.reduceLeDiff, List.set, AM.wipeE, AM.Y.xcP, reduceCtorEq, imp_self, implies_true, not_false_eq_true]
    refine ⟨.inl ⟨rfl, fun j hj => ?_⟩, f⟩
    rw [List.length_map] at nf
    exact nf j (List.getElem?_eq_some_iff.mp hj.1).1 hj
  · intro s v
    rw [valL_nil]
    refine ⟨fun z => (by cases z), ?_⟩
    rintro ⟨n, rfl, h1, h2, h3, h4⟩
    have : (tally (List.take 0 l)).1 = 0 := rfl
    omega
end
end K37

namespace AM
open PySem L2 Y
section
variable {fns : List Fn} {W d : Nat} {h : SH}
theorem w_purse {g : Nat} (hg : fns[g]? = some F_purse) {ns : List Int} : wp (callD fns W (d + 1) g [.rol (ns.map .int), .int 0] h) (fun v h' => ∃ r, v = .ref r ∧ h.length ≤ r ∧ Pu h' r 0 ∧ Fr [] h h') NoX := by
  rw [call_eq (W := W) (d := d) hg (us := [.rol (ns.map .int), .int 0]) rfl rfl, wp_end]
  show wp (exSs (callD fns W d) W [some (.rol (ns.map .int)), some (.int 0), none] F_purse.body h) _ _
  unfold F_purse
  have c1 : cutL (ns.map Vl.int) (some 0) (some (0 + 1)) = (ns.take 1).map Vl.int := by
    cases ns with
    | nil => rfl
    | cons a l =>
      unfold cutL
      rw [show HT.sIx ((a :: l).map Vl.int).length 0 (some 0) = 0 from HT.sIx_nat _ _ 0, show HT.sIx ((a :: l).map Vl.int).length ((a :: l).map Vl.int).length (some (0 + 1)) = min 1 ((a :: l).map Vl.int).length from HT.sIx_nat _ _ 1]
      simp
  have intz : ∀ ks : List Int, (ks.map Vl.int).mapM intL = some ks := fun ks => by
    induction ks with
    | nil => rfl
    | cons a l ih => rw [List.map_cons, List.mapM_cons, ih]; rfl
  have p1 : CPw 10 18 := by decide +kernel
  have p2 : CPw 10 60 := by decide +kernel
  have p3 : CPw (10 ^ (60 : Int).toNat) 8 := by decide +kernel
  have p4 : (0 : Int) < (10 ^ (60 : Int).toNat) ^ (8 : Int).toNat := by decide +kernel
  simp -implicitDefEqProofs only [↓AM.Y.y_var, ↓AM.Y.y_non, ↓AM.Y.y_bl, ↓AM.Y.y_int, ↓AM.Y.y_str, ↓AM.Y.y_ty, ↓AM.Y.y_tup, ↓AM.Y.y_lst, ↓AM.Y.y_dct0, ↓AM.Y.y_bin, ↓AM.Y.y_neg, ↓AM.Y.y_not, ↓AM.Y.y_and, ↓AM.Y.y_or, ↓AM.Y.y_cmp, ↓AM.Y.y_cmp2, ↓AM.Y.y_isN, ↓AM.Y.y_ntN, ↓AM.Y.y_isB, ↓AM.Y.y_ntB, ↓AM.Y.y_ife, ↓AM.Y.y_call, ↓AM.Y.y_bi, ↓AM.Y.y_mt, ↓AM.Y.y_idx, ↓AM.Y.y_slc, ↓AM.Y.y_lc, ↓AM.Y.y_lrng, ↓AM.Y.y_nil, ↓AM.Y.y_cons, ↓AM.Y.y_none, ↓AM.Y.y_some, ↓AM.Y.y_cnone, ↓AM.Y.y_csome, ↓AM.Y.t_not, ↓AM.Y.t_and, ↓AM.Y.t_or, ↓AM.Y.t_var, ↓AM.Y.t_cmp, ↓AM.Y.t_cmp2, ↓AM.Y.t_isN, ↓AM.Y.t_ntN, ↓AM.Y.t_isB, ↓AM.Y.t_ntB, ↓AM.Y.t_call, ↓AM.Y.t_bi, ↓AM.Y.t_idx, ↓AM.Y.i_seq, ↓AM.Y.i_rng1, ↓AM.Y.i_rng2, ↓AM.Y.i_enum, ↓AM.Y.i_zip, ↓AM.Y.g_nm, ↓AM.Y.g_tup, ↓AM.Y.g_sub, ↓AM.Y.g_nil, ↓AM.Y.g_cons, ↓AM.Y.s_nil', ↓AM.Y.s_cons', ↓AM.Y.s_asg, ↓AM.Y.s_asg2', ↓AM.Y.s_asg3', ↓AM.Y.s_par2', ↓AM.Y.s_par3', ↓AM.Y.s_aug', ↓AM.Y.s_expr', ↓AM.Y.s_ret', ↓AM.Y.s_retN', ↓AM.Y.s_iff', ↓AM.Y.s_for', ↓AM.Y.s_whl', ↓AM.Y.s_pass', ↓AM.Y.s_brk', ↓AM.Y.s_cnt', ↓AM.Y.s_never', ↓AM.Y.truth_bl, ↓AM.Y.truth_non, ↓AM.Y.truth_int, ↓AM.Y.truth_tup, ↓AM.Y.truth_rol, ↓AM.Y.truth_ref, ↓AM.Y.o_add, ↓AM.Y.o_sub, ↓AM.Y.o_mul, ↓AM.Y.o_mod, ↓AM.Y.o_fdv, ↓AM.Y.o_pow, ↓AM.Y.o_addL, ↓AM.Y.c_eq, ↓AM.Y.c_ne, ↓AM.Y.c_lt, ↓AM.Y.c_le, ↓AM.Y.c_gt, ↓AM.Y.c_ge, ↓AM.Y.c_inn, ↓AM.Y.c_nin, ↓AM.Y.has_dct, ↓AM.Y.x_tup, ↓AM.Y.x_rol, ↓AM.Y.x_ref, ↓AM.Y.x_set, ↓AM.Y.x_slcR, ↓AM.Y.x_slcL, ↓AM.Y.b_len_tup, ↓AM.Y.b_len_rol, ↓AM.Y.b_len_ref, ↓AM.Y.b_isi, ↓AM.Y.b_isi2, ↓AM.Y.b_int, ↓AM.Y.b_intb, ↓AM.Y.b_sum, ↓AM.Y.b_max2, ↓AM.Y.b_min2, ↓AM.Y.b_max1, ↓AM.Y.b_min1, ↓AM.Y.b_lst_tup, ↓AM.Y.b_lst_rol, ↓AM.Y.b_lst_ref, ↓AM.Y.b_all, ↓AM.Y.b_any, ↓AM.Y.k_app, ↓AM.Y.k_bits, ↓AM.Y.k_cnt, ↓AM.Y.m_app, ↓AM.Y.m_bits, ↓AM.Y.n_add, ↓AM.Y.n_sub, AM.wp_ok, AM.wp_no, ↓AM.wp_ret, ↓AM.wp_fail, ↓AM.wp_end, ↓AM.thn_nx, ↓AM.thn_rt, ↓AM.thn_bk, ↓AM.thn_ct, ↓AM.thn_xc, ↓AM.endP_nx, ↓AM.endP_rt, ↓AM.endP_xc, ↓AM.lpP_nx, ↓AM.lpP_ct, ↓AM.lpP_bk, ↓AM.lpP_rt, ↓AM.lpP_xc, ↓AM.Y.ifB_bl, ↓AM.Y.isI_int, ↓AM.Y.isT_tup, ↓AM.Y.isS_some, ↓AM.Y.isSS_some, ↓AM.Y.isO_lst, ↓AM.Y.isO_dct, AM.Y.ifB_bl, AM.Y.isI_int, AM.Y.isT_tup, AM.Y.isS_some, AM.Y.isSS_some, AM.Y.isO_lst, AM.Y.isO_dct, List.getElem?_cons_zero, List.getElem?_cons_succ, List.set_cons_zero, List.set_cons_succ, AM.Y.at0, AM.Y.at1, AM.Y.at2, AM.Y.at3, AM.Y.srcV, AM.Y.enumV, AM.tyOf, AM.tyIs, AM.isiV, AM.Y.isNon_non, AM.Y.isNon_bl, AM.Y.isNon_int, AM.Y.isNon_str, AM.Y.isNon_tup, AM.Y.isNon_rol, AM.Y.isNon_ref, Bool.not_true, Bool.not_false, Bool.true_eq_false, Bool.false_eq_true, ↓reduceIte, decide_true, decide_false, decide_eq_true_eq, Option.map_some, Option.map_none, Option.isSome_some, Option.isSome_none, List.length_cons, List.length_nil, List.isEmpty_cons, List.isEmpty_nil, true_and, and_true, Bool.or_false, Bool.false_or, Bool.or_true, Bool.true_or, Nat.zero_add, Nat.reduceAdd, AM.lim, Nat.reduceLeDiff, List.set, AM.wipeE, AM.Y.xcP, reduceCtorEq, imp_self, implies_true, not_false_eq_true, c1, li_ref get_new, intz, p1, p2, p3, p4]
  refine ⟨by omega, _, rfl, by simp, ⟨_, _, _, _, get_new, by omega, by omega⟩, (Fr.alloc _).trans (Fr.alloc _)⟩
end
end AM
namespace K37
open PySem L2 AM Y
section
variable {d : Nat} {h : SH} {r : Nat} {l : List Ev}
theorem w_life {n : Int} (pu : Pu h r n) (hn : n < 2 ^ 50) {most : Nat} (hm : most ≤ 100) : wp (callD fns 100000 (d + 3) 17 [.ref r, .int most] h) (fun v h' => ∃ f l, v = .ref f ∧ h.length ≤ f ∧ h'[f]? = some (.lst (l.map Ev.v)) ∧ Good l ∧ l.length ≤ most ∧ Pu h' r (n + 1000) ∧ Fr [r] h h') NoX := by
  rw [call_eq (fns := fns) (W := 100000) (d := d + 2) (g := 17) (f := f__law_life) rfl (us := [.ref r, .int most]) (vs := [.ref r, .int most]) rfl rfl, wp_end]
  show wp (exSs (callD fns 100000 (d + 2)) 100000 [some (.ref r), some (.int most), none, none, none, none, none] f__law_life.body h) _ _
  unfold f__law_life
  have rlt := pu.lt
  simp -implicitDefEqProofs only [↓AM.Y.y_var, ↓AM.Y.y_non, ↓AM.Y.y_bl, ↓AM.Y.y_int, ↓AM.Y.y_str, ↓AM.Y.y_ty, ↓AM.Y.y_tup, ↓AM.Y.y_lst, ↓AM.Y.y_dct0, ↓AM.Y.y_bin, ↓AM.Y.y_neg, ↓AM.Y.y_not, ↓AM.Y.y_and, ↓AM.Y.y_or, ↓AM.Y.y_cmp, ↓AM.Y.y_cmp2, ↓AM.Y.y_isN, ↓AM.Y.y_ntN, ↓AM.Y.y_isB, ↓AM.Y.y_ntB, ↓AM.Y.y_ife, ↓AM.Y.y_call, ↓AM.Y.y_bi, ↓AM.Y.y_mt, ↓AM.Y.y_idx, ↓AM.Y.y_slc, ↓AM.Y.y_lc, ↓AM.Y.y_lrng, ↓AM.Y.y_nil, ↓AM.Y.y_cons, ↓AM.Y.y_none, ↓AM.Y.y_some, ↓AM.Y.y_cnone, ↓AM.Y.y_csome, ↓AM.Y.t_not, ↓AM.Y.t_and, ↓AM.Y.t_or, ↓AM.Y.t_var, ↓AM.Y.t_cmp, ↓AM.Y.t_cmp2, ↓AM.Y.t_isN, ↓AM.Y.t_ntN, ↓AM.Y.t_isB, ↓AM.Y.t_ntB, ↓AM.Y.t_call, ↓AM.Y.t_bi, ↓AM.Y.t_idx, ↓AM.Y.i_seq, ↓AM.Y.i_rng1, ↓AM.Y.i_rng2, ↓AM.Y.i_enum, ↓AM.Y.i_zip, ↓AM.Y.g_nm, ↓AM.Y.g_tup, ↓AM.Y.g_sub, ↓AM.Y.g_nil, ↓AM.Y.g_cons, ↓AM.Y.s_nil', ↓AM.Y.s_cons', ↓AM.Y.s_asg, ↓AM.Y.s_asg2', ↓AM.Y.s_asg3', ↓AM.Y.s_par2', ↓AM.Y.s_par3', ↓AM.Y.s_aug', ↓AM.Y.s_expr', ↓AM.Y.s_ret', ↓AM.Y.s_retN', ↓AM.Y.s_iff', ↓AM.Y.s_for', ↓AM.Y.s_whl', ↓AM.Y.s_pass', ↓AM.Y.s_brk', ↓AM.Y.s_cnt', ↓AM.Y.s_never', ↓AM.Y.truth_bl, ↓AM.Y.truth_non, ↓AM.Y.truth_int, ↓AM.Y.truth_tup, ↓AM.Y.truth_rol, ↓AM.Y.truth_ref, ↓AM.Y.o_add, ↓AM.Y.o_sub, ↓AM.Y.o_mul, ↓AM.Y.o_mod, ↓AM.Y.o_fdv, ↓AM.Y.o_pow, ↓AM.Y.o_addL, ↓AM.Y.c_eq, ↓AM.Y.c_ne, ↓AM.Y.c_lt, ↓AM.Y.c_le, ↓AM.Y.c_gt, ↓AM.Y.c_ge, ↓AM.Y.c_inn, ↓AM.Y.c_nin, ↓AM.Y.has_dct, ↓AM.Y.x_tup, ↓AM.Y.x_rol, ↓AM.Y.x_ref, ↓AM.Y.x_set, ↓AM.Y.x_slcR, ↓AM.Y.x_slcL, ↓AM.Y.b_len_tup, ↓AM.Y.b_len_rol, ↓AM.Y.b_len_ref, ↓AM.Y.b_isi, ↓AM.Y.b_isi2, ↓AM.Y.b_int, ↓AM.Y.b_intb, ↓AM.Y.b_sum, ↓AM.Y.b_max2, ↓AM.Y.b_min2, ↓AM.Y.b_max1, ↓AM.Y.b_min1, ↓AM.Y.b_lst_tup, ↓AM.Y.b_lst_rol, ↓AM.Y.b_lst_ref, ↓AM.Y.b_all, ↓AM.Y.b_any, ↓AM.Y.k_app, ↓AM.Y.k_bits, ↓AM.Y.k_cnt, ↓AM.Y.m_app, ↓AM.Y.m_bits, ↓AM.Y.n_add, ↓AM.Y.n_sub, AM.wp_ok, AM.wp_no, ↓AM.wp_ret, ↓AM.wp_fail, ↓AM.wp_end, ↓AM.thn_nx, ↓AM.thn_rt, ↓AM.thn_bk, ↓AM.thn_ct, ↓AM.thn_xc, ↓AM.endP_nx, ↓AM.endP_rt, ↓AM.endP_xc, ↓AM.lpP_nx, ↓AM.lpP_ct, ↓AM.lpP_bk, ↓AM.lpP_rt, ↓AM.lpP_xc, ↓AM.Y.ifB_bl, ↓AM.Y.isI_int, ↓AM.Y.isT_tup, ↓AM.Y.isS_some, ↓AM.Y.isSS_some, ↓AM.Y.isO_lst, ↓AM.Y.isO_dct, AM.Y.ifB_bl, AM.Y.isI_int, AM.Y.isT_tup, AM.Y.isS_some, AM.Y.isSS_some, AM.Y.isO_lst, AM.Y.isO_dct, List.getElem?_cons_zero, List.getElem?_cons_succ, List.set_cons_zero, List.set_cons_succ, AM.Y.at0, AM.Y.at1, AM.Y.at2, AM.Y.at3, AM.Y.srcV, AM.Y.enumV, AM.tyOf, AM.tyIs, AM.isiV, AM.Y.isNon_non, AM.Y.isNon_bl, AM.Y.isNon_int, AM.Y.isNon_str, AM.Y.isNon_tup, AM.Y.isNon_rol, AM.Y.isNon_ref, Bool.not_true, Bool.not_false, Bool.true_eq_false, Bool.false_eq_true, ↓reduceIte, decide_true, decide_false, decide_eq_true_eq, Option.map_some, Option.map_none, Option.isSome_some, Option.isSome_none, List.length_cons, List.length_nil, List.isEmpty_cons, List.isEmpty_nil, true_and, and_true, Bool.or_false, Bool.false_or, Bool.or_true, Bool.true_or, Nat.zero_add, Nat.reduceAdd, AM.lim, Nat.reduceLeDiff, List.set, AM.wipeE, AM.Y.xcP, reduceCtorEq, imp_self, implies_true, not_false_eq_true]
  refine wp_q (w_draw (fns := fns) (g := 15) (gm := 14) rfl rfl (r := r) (n := n) (pu.fr (Fr.alloc (rs := []) _) (by simp)) (by omega) (by omega) (by omega)) fun v h1 q => ?_
  obtain ⟨i, rfl, i0, i1, pu1, f1, len1⟩ := q
  have f01 : Fr [r] h h1 := (Fr.alloc _).trans f1
  have hfirst : h1[h.length]? = some (.lst []) := f1.at_ _ _ (by simp; omega) get_new
  simp -implicitDefEqProofs only [↓AM.Y.y_var, ↓AM.Y.y_non, ↓AM.Y.y_bl, ↓AM.Y.y_int, ↓AM.Y.y_str, ↓AM.Y.y_ty, ↓AM.Y.y_tup, ↓AM.Y.y_lst, ↓AM.Y.y_dct0, ↓AM.Y.y_bin, ↓AM.Y.y_neg, ↓AM.Y.y_not, ↓AM.Y.y_and, ↓AM.Y.y_or, ↓AM.Y.y_cmp, ↓AM.Y.y_cmp2, ↓AM.Y.y_isN, ↓AM.Y.y_ntN, ↓AM.Y.y_isB, ↓AM.Y.y_ntB, ↓AM.Y.y_ife, ↓AM.Y.y_call, ↓AM.Y.y_bi, ↓AM.Y.y_mt, ↓AM.Y.y_idx, ↓AM.Y.y_slc, ↓AM.Y.y_lc, ↓AM.Y.y_lrng, ↓AM.Y.y_nil, ↓AM.Y.y_cons, ↓AM.Y.y_none, ↓AM.Y.y_some, ↓AM.Y.y_cnone, ↓AM.Y.y_csome, ↓AM.Y.t_not, ↓AM.Y.t_and, ↓AM.Y.t_or, ↓AM.Y.t_var, ↓AM.Y.t_cmp, ↓AM.Y.t_cmp2, ↓AM.Y.t_isN, ↓AM.Y.t_ntN, ↓AM.Y.t_isB, ↓AM.Y.t_ntB, ↓AM.Y.t_call, ↓AM.Y.t_bi, ↓AM.Y.t_idx, ↓AM.Y.i_seq, ↓AM.Y.i_rng1, ↓AM.Y.i_rng2, ↓AM.Y.i_enum, ↓AM.Y.i_zip, ↓AM.Y.g_nm, ↓AM.Y.g_tup, ↓AM.Y.g_sub, ↓AM.Y.g_nil, ↓AM.Y.g_cons, ↓AM.Y.s_nil', ↓AM.Y.s_cons', ↓AM.Y.s_asg, ↓AM.Y.s_asg2', ↓AM.Y.s_asg3', ↓AM.Y.s_par2', ↓AM.Y.s_par3', ↓AM.Y.s_aug', ↓AM.Y.s_expr', ↓AM.Y.s_ret', ↓AM.Y.s_retN', ↓AM.Y.s_iff', ↓AM.Y.s_for', ↓AM.Y.s_whl', ↓AM.Y.s_pass', ↓AM.Y.s_brk', ↓AM.Y.s_cnt', ↓AM.Y.s_never', ↓AM.Y.truth_bl, ↓AM.Y.truth_non, ↓AM.Y.truth_int, ↓AM.Y.truth_tup, ↓AM.Y.truth_rol, ↓AM.Y.truth_ref, ↓AM.Y.o_add, ↓AM.Y.o_sub, ↓AM.Y.o_mul, ↓AM.Y.o_mod, ↓AM.Y.o_fdv, ↓AM.Y.o_pow, ↓AM.Y.o_addL, ↓AM.Y.c_eq, ↓AM.Y.c_ne, ↓AM.Y.c_lt, ↓AM.Y.c_le, ↓AM.Y.c_gt, ↓AM.Y.c_ge, ↓AM.Y.c_inn, ↓AM.Y.c_nin, ↓AM.Y.has_dct, ↓AM.Y.x_tup, ↓AM.Y.x_rol, ↓AM.Y.x_ref, ↓AM.Y.x_set, ↓AM.Y.x_slcR, ↓AM.Y.x_slcL, ↓AM.Y.b_len_tup, ↓AM.Y.b_len_rol, ↓AM.Y.b_len_ref, ↓AM.Y.b_isi, ↓AM.Y.b_isi2, ↓AM.Y.b_int, ↓AM.Y.b_intb, ↓AM.Y.b_sum, ↓AM.Y.b_max2, ↓AM.Y.b_min2, ↓AM.Y.b_max1, ↓AM.Y.b_min1, ↓AM.Y.b_lst_tup, ↓AM.Y.b_lst_rol, ↓AM.Y.b_lst_ref, ↓AM.Y.b_all, ↓AM.Y.b_any, ↓AM.Y.k_app, ↓AM.Y.k_bits, ↓AM.Y.k_cnt, ↓AM.Y.m_app, ↓AM.Y.m_bits, ↓AM.Y.n_add, ↓AM.Y.n_sub, AM.wp_ok, AM.wp_no, ↓AM.wp_ret, ↓AM.wp_fail, ↓AM.wp_end, ↓AM.thn_nx, ↓AM.thn_rt, ↓AM.thn_bk, ↓AM.thn_ct, ↓AM.thn_xc, ↓AM.endP_nx, ↓AM.endP_rt, ↓AM.endP_xc, ↓AM.lpP_nx, ↓AM.lpP_ct, ↓AM.lpP_bk, ↓AM.lpP_rt, ↓AM.lpP_xc, ↓AM.Y.ifB_bl, ↓AM.Y.isI_int, ↓AM.Y.isT_tup, ↓AM.Y.isS_some, ↓AM.Y.isSS_some, ↓AM.Y.isO_lst, ↓AM.Y.isO_dct, AM.Y.ifB_bl, AM.Y.isI_int, AM.Y.isT_tup, AM.Y.isS_some, AM.Y.isSS_some, AM.Y.isO_lst, AM.Y.isO_dct, List.getElem?_cons_zero, List.getElem?_cons_succ, List.set_cons_zero, List.set_cons_succ, AM.Y.at0, AM.Y.at1, AM.Y.at2, AM.Y.at3, AM.Y.srcV, AM.Y.enumV, AM.tyOf, AM.tyIs, AM.isiV, AM.Y.isNon_non, AM.Y.isNon_bl, AM.Y.isNon_int, AM.Y.isNon_str, AM.Y.isNon_tup, AM.Y.isNon_rol, AM.Y.isNon_ref, Bool.not_true, Bool.not_false, Bool.true_eq_false, Bool.false_eq_true, ↓reduceIte, decide_true, decide_false, decide_eq_true_eq, Option.map_some, Option.map_none, Option.isSome_some, Option.isSome_none, List.length_cons, List.length_nil, List.isEmpty_cons, List.isEmpty_nil, true_and, and_true, Bool.or_false, Bool.false_or, Bool.or_true, Bool.true_or, Nat.zero_add, Nat.reduceAdd, AM.lim, Nat.reduceLeDiff, List.set, AM.wipeE, AM.Y.xcP, reduceCtorEq, imp_self, implies_true, not_false_eq_true]
  refine ⟨by omega, for_told (fun k σ h2 => ∃ (f : Nat) (l : List Ev) (a b : Option Vl), σ = [some (.ref r), some (.int most), some (.ref f), some (.int (tally l).1), some (.int (tally l).2.1), a, b] ∧ h2[f]? = some (.lst (l.map Ev.v)) ∧ Good l ∧ l.length = k ∧ Pu h2 r (n + 1 + 2 * k) ∧ Fr [r] h h2 ∧ h.length ≤ f) (fun k x σ h2 hk I => ?_) (fun σ h2 I => ?_) ⟨h.length, [], none, none, rfl, hfirst, good_nil, rfl, by simpa using pu1, f01, Nat.le_refl _⟩⟩
  · obtain ⟨f, l, a, b, rfl, hf, g, lk, pu2, fr2, hff⟩ := I
    have kk : k < most := by
      have := (List.getElem?_eq_some_iff.mp hk).1
      simp [rngL] at this
      omega
    obtain ⟨t1, t2, t3⟩ := tally_le g
    simp -implicitDefEqProofs only [↓AM.Y.y_var, ↓AM.Y.y_non, ↓AM.Y.y_bl, ↓AM.Y.y_int, ↓AM.Y.y_str, ↓AM.Y.y_ty, ↓AM.Y.y_tup, ↓AM.Y.y_lst, ↓AM.Y.y_dct0, ↓AM.Y.y_bin, ↓AM.Y.y_neg, ↓AM.Y.y_not, ↓AM.Y.y_and, ↓AM.Y.y_or, ↓AM.Y.y_cmp, ↓AM.Y.y_cmp2, ↓AM.Y.y_isN, ↓AM.Y.y_ntN, ↓AM.Y.y_isB, ↓AM.Y.y_ntB, ↓AM.Y.y_ife, ↓AM.Y.y_call, ↓AM.Y.y_bi, ↓AM.Y.y_mt, ↓AM.Y.y_idx, ↓AM.Y.y_slc, ↓AM.Y.y_lc, ↓AM.Y.y_lrng, ↓AM.Y.y_nil, ↓AM.Y.y_cons, ↓AM.Y.y_none, ↓AM.Y.y_some, ↓AM.Y.y_cnone, ↓AM.Y.y_csome, ↓AM.Y.t_not, ↓AM.Y.t_and, ↓AM.Y.t_or, ↓AM.Y.t_var, ↓AM.Y.t_cmp, ↓AM.Y.t_cmp2, ↓AM.Y.t_isN, ↓AM.Y.t_ntN, ↓AM.Y.t_isB, ↓AM.Y.t_ntB, ↓AM.Y.t_call, ↓AM.Y.t_bi, ↓AM.Y.t_idx, ↓AM.Y.i_seq, ↓AM.Y.i_rng1, ↓AM.Y.i_rng2, ↓AM.Y.i_enum, ↓AM.Y.i_zip, ↓AM.Y.g_nm, ↓AM.Y.g_tup, ↓AM.Y.g_sub, ↓AM.Y.g_nil, ↓AM.Y.g_cons, ↓AM.Y.s_nil', ↓AM.Y.s_cons', ↓AM.Y.s_asg, ↓AM.Y.s_asg2', ↓AM.Y.s_asg3', ↓AM.Y.s_par2', ↓AM.Y.s_par3', ↓AM.Y.s_aug', ↓AM.Y.s_expr', ↓AM.Y.s_ret', ↓AM.Y.s_retN', ↓AM.Y.s_iff', ↓AM.Y.s_for', ↓AM.Y.s_whl', ↓AM.Y.s_pass', ↓AM.Y.s_brk', ↓AM.Y.s_cnt', ↓AM.Y.s_never', ↓AM.Y.truth_bl, ↓AM.Y.truth_non, ↓AM.Y.truth_int, ↓AM.Y.truth_tup, ↓AM.Y.truth_rol, ↓AM.Y.truth_ref, ↓AM.Y.o_add, ↓AM.Y.o_sub, ↓AM.Y.o_mul, ↓AM.Y.o_mod, ↓AM.Y.o_fdv, ↓AM.Y.o_pow, ↓AM.Y.o_addL, ↓AM.Y.c_eq, ↓AM.Y.c_ne, ↓AM.Y.c_lt, ↓AM.Y.c_le, ↓AM.Y.c_gt, ↓AM.Y.c_ge, ↓AM.Y.c_inn, ↓AM.Y.c_nin, ↓AM.Y.has_dct, ↓AM.Y.x_tup, ↓AM.Y.x_rol, ↓AM.Y.x_ref, ↓AM.Y.x_set, ↓AM.Y.x_slcR, ↓AM.Y.x_slcL, ↓AM.Y.b_len_tup, ↓AM.Y.b_len_rol, ↓AM.Y.b_len_ref, ↓AM.Y.b_isi, ↓AM.Y.b_isi2, ↓AM.Y.b_int, ↓AM.Y.b_intb, ↓AM.Y.b_sum, ↓AM.Y.b_max2, ↓AM.Y.b_min2, ↓AM.Y.b_max1, ↓AM.Y.b_min1, ↓AM.Y.b_lst_tup, ↓AM.Y.b_lst_rol, ↓AM.Y.b_lst_ref, ↓AM.Y.b_all, ↓AM.Y.b_any, ↓AM.Y.k_app, ↓AM.Y.k_bits, ↓AM.Y.k_cnt, ↓AM.Y.m_app, ↓AM.Y.m_bits, ↓AM.Y.n_add, ↓AM.Y.n_sub, AM.wp_ok, AM.wp_no, ↓AM.wp_ret, ↓AM.wp_fail, ↓AM.wp_end, ↓AM.thn_nx, ↓AM.thn_rt, ↓AM.thn_bk, ↓AM.thn_ct, ↓AM.thn_xc, ↓AM.endP_nx, ↓AM.endP_rt, ↓AM.endP_xc, ↓AM.lpP_nx, ↓AM.lpP_ct, ↓AM.lpP_bk, ↓AM.lpP_rt, ↓AM.lpP_xc, ↓AM.Y.ifB_bl, ↓AM.Y.isI_int, ↓AM.Y.isT_tup, ↓AM.Y.isS_some, ↓AM.Y.isSS_some, ↓AM.Y.isO_lst, ↓AM.Y.isO_dct, AM.Y.ifB_bl, AM.Y.isI_int, AM.Y.isT_tup, AM.Y.isS_some, AM.Y.isSS_some, AM.Y.isO_lst, AM.Y.isO_dct, List.getElem?_cons_zero, List.getElem?_cons_succ, List.set_cons_zero, List.set_cons_succ, AM.Y.at0, AM.Y.at1, AM.Y.at2, AM.Y.at3, AM.Y.srcV, AM.Y.enumV, AM.tyOf, AM.tyIs, AM.isiV, AM.Y.isNon_non, AM.Y.isNon_bl, AM.Y.isNon_int, AM.Y.isNon_str, AM.Y.isNon_tup, AM.Y.isNon_rol, AM.Y.isNon_ref, Bool.not_true, Bool.not_false, Bool.true_eq_false, Bool.false_eq_true, ↓reduceIte, decide_true, decide_false, decide_eq_true_eq, Option.map_some, Option.map_none, Option.isSome_some, Option.isSome_none, List.length_cons, List.length_nil, List.isEmpty_cons, List.isEmpty_nil, true_and, and_true, Bool.or_false, Bool.false_or, Bool.or_true, Bool.true_or, Nat.zero_add, Nat.reduceAdd, AM.lim, Nat.reduceLeDiff, List.set, AM.wipeE, AM.Y.xcP, reduceCtorEq, imp_self, implies_true, not_false_eq_true]
    refine wp_q (w_draw (fns := fns) (g := 15) (gm := 14) rfl rfl (r := r) pu2 (by omega) (by omega) (by omega)) fun v h3 q => ?_
    obtain ⟨j, rfl, j0, j1, pu3, f3, len3⟩ := q
    have hf3 : h3[f]? = some (.lst (l.map Ev.v)) := f3.at_ _ _ (by simp; omega) hf
    have fr3 := fr2.trans f3
    simp -implicitDefEqProofs only [↓AM.Y.y_var, ↓AM.Y.y_non, ↓AM.Y.y_bl, ↓AM.Y.y_int, ↓AM.Y.y_str, ↓AM.Y.y_ty, ↓AM.Y.y_tup, ↓AM.Y.y_lst, ↓AM.Y.y_dct0, ↓AM.Y.y_bin, ↓AM.Y.y_neg, ↓AM.Y.y_not, ↓AM.Y.y_and, ↓AM.Y.y_or, ↓AM.Y.y_cmp, ↓AM.Y.y_cmp2, ↓AM.Y.y_isN, ↓AM.Y.y_ntN, ↓AM.Y.y_isB, ↓AM.Y.y_ntB, ↓AM.Y.y_ife, ↓AM.Y.y_call, ↓AM.Y.y_bi, ↓AM.Y.y_mt, ↓AM.Y.y_idx, ↓AM.Y.y_slc, ↓AM.Y.y_lc, ↓AM.Y.y_lrng, ↓AM.Y.y_nil, ↓AM.Y.y_cons, ↓AM.Y.y_none, ↓AM.Y.y_some, ↓AM.Y.y_cnone, ↓AM.Y.y_csome, ↓AM.Y.t_not, ↓AM.Y.t_and, ↓AM.Y.t_or, ↓AM.Y.t_var, ↓AM.Y.t_cmp, ↓AM.Y.t_cmp2, ↓AM.Y.t_isN, ↓AM.Y.t_ntN, ↓AM.Y.t_isB, ↓AM.Y.t_ntB, ↓AM.Y.t_call, ↓AM.Y.t_bi, ↓AM.Y.t_idx, ↓AM.Y.i_seq, ↓AM.Y.i_rng1, ↓AM.Y.i_rng2, ↓AM.Y.i_enum, ↓AM.Y.i_zip, ↓AM.Y.g_nm, ↓AM.Y.g_tup, ↓AM.Y.g_sub, ↓AM.Y.g_nil, ↓AM.Y.g_cons, ↓AM.Y.s_nil', ↓AM.Y.s_cons', ↓AM.Y.s_asg, ↓AM.Y.s_asg2', ↓AM.Y.s_asg3', ↓AM.Y.s_par2', ↓AM.Y.s_par3', ↓AM.Y.s_aug', ↓AM.Y.s_expr', ↓AM.Y.s_ret', ↓AM.Y.s_retN', ↓AM.Y.s_iff', ↓AM.Y.s_for', ↓AM.Y.s_whl', ↓AM.Y.s_pass', ↓AM.Y.s_brk', ↓AM.Y.s_cnt', ↓AM.Y.s_never', ↓AM.Y.truth_bl, ↓AM.Y.truth_non, ↓AM.Y.truth_int, ↓AM.Y.truth_tup, ↓AM.Y.truth_rol, ↓AM.Y.truth_ref, ↓AM.Y.o_add, ↓AM.Y.o_sub, ↓AM.Y.o_mul, ↓AM.Y.o_mod, ↓AM.Y.o_fdv, ↓AM.Y.o_pow, ↓AM.Y.o_addL, ↓AM.Y.c_eq, ↓AM.Y.c_ne, ↓AM.Y.c_lt, ↓AM.Y.c_le, ↓AM.Y.c_gt, ↓AM.Y.c_ge, ↓AM.Y.c_inn, ↓AM.Y.c_nin, ↓AM.Y.has_dct, ↓AM.Y.x_tup, ↓AM.Y.x_rol, ↓AM.Y.x_ref, ↓AM.Y.x_set, ↓AM.Y.x_slcR, ↓AM.Y.x_slcL, ↓AM.Y.b_len_tup, ↓AM.Y.b_len_rol, ↓AM.Y.b_len_ref, ↓AM.Y.b_isi, ↓AM.Y.b_isi2, ↓AM.Y.b_int, ↓AM.Y.b_intb, ↓AM.Y.b_sum, ↓AM.Y.b_max2, ↓AM.Y.b_min2, ↓AM.Y.b_max1, ↓AM.Y.b_min1, ↓AM.Y.b_lst_tup, ↓AM.Y.b_lst_rol, ↓AM.Y.b_lst_ref, ↓AM.Y.b_all, ↓AM.Y.b_any, ↓AM.Y.k_app, ↓AM.Y.k_bits, ↓AM.Y.k_cnt, ↓AM.Y.m_app, ↓AM.Y.m_bits, ↓AM.Y.n_add, ↓AM.Y.n_sub, AM.wp_ok, AM.wp_no, ↓AM.wp_ret, ↓AM.wp_fail, ↓AM.wp_end, ↓AM.thn_nx, ↓AM.thn_rt, ↓AM.thn_bk, ↓AM.thn_ct, ↓AM.thn_xc, ↓AM.endP_nx, ↓AM.endP_rt, ↓AM.endP_xc, ↓AM.lpP_nx, ↓AM.lpP_ct, ↓AM.lpP_bk, ↓AM.lpP_rt, ↓AM.lpP_xc, ↓AM.Y.ifB_bl, ↓AM.Y.isI_int, ↓AM.Y.isT_tup, ↓AM.Y.isS_some, ↓AM.Y.isSS_some, ↓AM.Y.isO_lst, ↓AM.Y.isO_dct, AM.Y.ifB_bl, AM.Y.isI_int, AM.Y.isT_tup, AM.Y.isS_some, AM.Y.isSS_some, AM.Y.isO_lst, AM.Y.isO_dct, List.getElem?_cons_zero, List.getElem?_cons_succ, List.set_cons_zero, List.set_cons_succ, AM.Y.at0, AM.Y.at1, AM.Y.at2, AM.Y.at3, AM.Y.srcV, AM.Y.enumV, AM.tyOf, AM.tyIs, AM.isiV, AM.Y.isNon_non, AM.Y.isNon_bl, AM.Y.isNon_int, AM.Y.isNon_str, AM.Y.isNon_tup, AM.Y.isNon_rol, AM.Y.isNon_ref, Bool.not_true, Bool.not_false, Bool.true_eq_false, Bool.false_eq_true, ↓reduceIte, decide_true, decide_false, decide_eq_true_eq, Option.map_some, Option.map_none, Option.isSome_some, Option.isSome_none, List.length_cons, List.length_nil, List.isEmpty_cons, List.isEmpty_nil, true_and, and_true, Bool.or_false, Bool.false_or, Bool.or_true, Bool.true_or, Nat.zero_add, Nat.reduceAdd, AM.lim, Nat.reduceLeDiff, List.set, AM.wipeE, AM.Y.xcP, reduceCtorEq, imp_self, implies_true, not_false_eq_true]
    split
    · have e1 : ∀ o, (h3 ++ [o])[f]? = some (.lst (l.map Ev.v)) := fun o => get_app hf3 o
      have le : (l.map Ev.v).length + 1 ≤ 100000 := by rw [List.length_map]; omega
      simp -implicitDefEqProofs only [↓AM.Y.y_var, ↓AM.Y.y_non, ↓AM.Y.y_bl, ↓AM.Y.y_int, ↓AM.Y.y_str, ↓AM.Y.y_ty, ↓AM.Y.y_tup, ↓AM.Y.y_lst, ↓AM.Y.y_dct0, ↓AM.Y.y_bin, ↓AM.Y.y_neg, ↓AM.Y.y_not, ↓AM.Y.y_and, ↓AM.Y.y_or, ↓AM.Y.y_cmp, ↓AM.Y.y_cmp2, ↓AM.Y.y_isN, ↓AM.Y.y_ntN, ↓AM.Y.y_isB, ↓AM.Y.y_ntB, ↓AM.Y.y_ife, ↓AM.Y.y_call, ↓AM.Y.y_bi, ↓AM.Y.y_mt, ↓AM.Y.y_idx, ↓AM.Y.y_slc, ↓AM.Y.y_lc, ↓AM.Y.y_lrng, ↓AM.Y.y_nil, ↓AM.Y.y_cons, ↓AM.Y.y_none, ↓AM.Y.y_some, ↓AM.Y.y_cnone, ↓AM.Y.y_csome, ↓AM.Y.t_not, ↓AM.Y.t_and, ↓AM.Y.t_or, ↓AM.Y.t_var, ↓AM.Y.t_cmp, ↓AM.Y.t_cmp2, ↓AM.Y.t_isN, ↓AM.Y.t_ntN, ↓AM.Y.t_isB, ↓AM.Y.t_ntB, ↓AM.Y.t_call, ↓AM.Y.t_bi, ↓AM.Y.t_idx, ↓AM.Y.i_seq, ↓AM.Y.i_rng1, ↓AM.Y.i_rng2, ↓AM.Y.i_enum, ↓AM.Y.i_zip, ↓AM.Y.g_nm, ↓AM.Y.g_tup, ↓AM.Y.g_sub, ↓AM.Y.g_nil, ↓AM.Y.g_cons, ↓AM.Y.s_nil', ↓AM.Y.s_cons', ↓AM.Y.s_asg, ↓AM.Y.s_asg2', ↓AM.Y.s_asg3', ↓AM.Y.s_par2', ↓AM.Y.s_par3', ↓AM.Y.s_aug', ↓AM.Y.s_expr', ↓AM.Y.s_ret', ↓AM.Y.s_retN', ↓AM.Y.s_iff', ↓AM.Y.s_for', ↓AM.Y.s_whl', ↓AM.Y.s_pass', ↓AM.Y.s_brk', ↓AM.Y.s_cnt', ↓AM.Y.s_never', ↓AM.Y.truth_bl, ↓AM.Y.truth_non, ↓AM.Y.truth_int, ↓AM.Y.truth_tup, ↓AM.Y.truth_rol, ↓AM.Y.truth_ref, ↓AM.Y.o_add, ↓AM.Y.o_sub, ↓AM.Y.o_mul, ↓AM.Y.o_mod, ↓AM.Y.o_fdv, ↓AM.Y.o_pow, ↓AM.Y.o_addL, ↓AM.Y.c_eq, ↓AM.Y.c_ne, ↓AM.Y.c_lt, ↓AM.Y.c_le, ↓AM.Y.c_gt, ↓AM.Y.c_ge, ↓AM.Y.c_inn, ↓AM.Y.c_nin, ↓AM.Y.has_dct, ↓AM.Y.x_tup, ↓AM.Y.x_rol, ↓AM.Y.x_ref, ↓AM.Y.x_set, ↓AM.Y.x_slcR, ↓AM.Y.x_slcL, ↓AM.Y.b_len_tup, ↓AM.Y.b_len_rol, ↓AM.Y.b_len_ref, ↓AM.Y.b_isi, ↓AM.Y.b_isi2, ↓AM.Y.b_int, ↓AM.Y.b_intb, ↓AM.Y.b_sum, ↓AM.Y.b_max2, ↓AM.Y.b_min2, ↓AM.Y.b_max1, ↓AM.Y.b_min1, ↓AM.Y.b_lst_tup, ↓AM.Y.b_lst_rol, ↓AM.Y.b_lst_ref, ↓AM.Y.b_all, ↓AM.Y.b_any, ↓AM.Y.k_app, ↓AM.Y.k_bits, ↓AM.Y.k_cnt, ↓AM.Y.m_app, ↓AM.Y.m_bits, ↓AM.Y.n_add, ↓AM.Y.n_sub, AM.wp_ok, AM.wp_no, ↓AM.wp_ret, ↓AM.wp_fail, ↓AM.wp_end, ↓AM.thn_nx, ↓AM.thn_rt, ↓AM.thn_bk, ↓AM.thn_ct, ↓AM.thn_xc, ↓AM.endP_nx, ↓AM.endP_rt, ↓AM.endP_xc, ↓AM.lpP_nx, ↓AM.lpP_ct, ↓AM.lpP_bk, ↓AM.lpP_rt, ↓AM.lpP_xc, ↓AM.Y.ifB_bl, ↓AM.Y.isI_int, ↓AM.Y.isT_tup, ↓AM.Y.isS_some, ↓AM.Y.isSS_some, ↓AM.Y.isO_lst, ↓AM.Y.isO_dct, AM.Y.ifB_bl, AM.Y.isI_int, AM.Y.isT_tup, AM.Y.isS_some, AM.Y.isSS_some, AM.Y.isO_lst, AM.Y.isO_dct, List.getElem?_cons_zero, List.getElem?_cons_succ, List.set_cons_zero, List.set_cons_succ, AM.Y.at0, AM.Y.at1, AM.Y.at2, AM.Y.at3, AM.Y.srcV, AM.Y.enumV, AM.tyOf, AM.tyIs, AM.isiV, AM.Y.isNon_non, AM.Y.isNon_bl, AM.Y.isNon_int, AM.Y.isNon_str, AM.Y.isNon_tup, AM.Y.isNon_rol, AM.Y.isNon_ref, Bool.not_true, Bool.not_false, Bool.true_eq_false, Bool.false_eq_true, ↓reduceIte, decide_true, decide_false, decide_eq_true_eq, Option.map_some, Option.map_none, Option.isSome_some, Option.isSome_none, List.length_cons, List.length_nil, List.isEmpty_cons, List.isEmpty_nil, true_and, and_true, Bool.or_false, Bool.false_or, Bool.or_true, Bool.true_or, Nat.zero_add, Nat.reduceAdd, AM.lim, Nat.reduceLeDiff, List.set, AM.wipeE, AM.Y.xcP, reduceCtorEq, imp_self, implies_true, not_false_eq_true, e1, get_new, le]
      have e2 : l.map Ev.v ++ [Vl.tup [Vl.str (Str.ofString "line")]] = (l ++ [Ev.line]).map Ev.v := by rw [List.map_append]; rfl
      rw [e2]
      refine ⟨by rw [List.length_map]; omega, _, l ++ [.line], some x, some (.int j), ?_, get_new, good_snoc (e := .line) g trivial, by simp [lk], ((pu3.fr (Fr.alloc (rs := []) _) (by simp)).fr (Fr.alloc (rs := []) _) (by simp)).le (by omega), (fr3.trans (Fr.alloc _)).trans (Fr.alloc _), ?_⟩
      · rw [tally_snoc]; rfl
      · have := fr3.len
        simp; omega
    · split
      · refine wp_q (w_draw (fns := fns) (g := 15) (gm := 14) rfl rfl (r := r) pu3 (by omega) (by omega) (by omega)) fun v h4 q => ?_
        obtain ⟨m, rfl, m0, m1, pu4, f4, len4⟩ := q
        have hf4 : h4[f]? = some (.lst (l.map Ev.v)) := f4.at_ _ _ (by simp; omega) hf3
        have fr4 := fr3.trans f4
        obtain ⟨m, rfl⟩ : ∃ m' : Nat, m = m' := ⟨m.toNat, by omega⟩
        have le : (l.map Ev.v).length < 100000 := by rw [List.length_map]; omega
        simp -implicitDefEqProofs only [↓AM.Y.y_var, ↓AM.Y.y_non, ↓AM.Y.y_bl, ↓AM.Y.y_int, ↓AM.Y.y_str, ↓AM.Y.y_ty, ↓AM.Y.y_tup, ↓AM.Y.y_lst, ↓AM.Y.y_dct0, ↓AM.Y.y_bin, ↓AM.Y.y_neg, ↓AM.Y.y_not, ↓AM.Y.y_and, ↓AM.Y.y_or, ↓AM.Y.y_cmp, ↓AM.Y.y_cmp2, ↓AM.Y.y_isN, ↓AM.Y.y_ntN, ↓AM.Y.y_isB, ↓AM.Y.y_ntB, ↓AM.Y.y_ife, ↓AM.Y.y_call, ↓AM.Y.y_bi, ↓AM.Y.y_mt, ↓AM.Y.y_idx, ↓AM.Y.y_slc, ↓AM.Y.y_lc, ↓AM.Y.y_lrng, ↓AM.Y.y_nil, ↓AM.Y.y_cons, ↓AM.Y.y_none, ↓AM.Y.y_some, ↓AM.Y.y_cnone, ↓AM.Y.y_csome, ↓AM.Y.t_not, ↓AM.Y.t_and, ↓AM.Y.t_or, ↓AM.Y.t_var, ↓AM.Y.t_cmp, ↓AM.Y.t_cmp2, ↓AM.Y.t_isN, ↓AM.Y.t_ntN, ↓AM.Y.t_isB, ↓AM.Y.t_ntB, ↓AM.Y.t_call, ↓AM.Y.t_bi, ↓AM.Y.t_idx, ↓AM.Y.i_seq, ↓AM.Y.i_rng1, ↓AM.Y.i_rng2, ↓AM.Y.i_enum, ↓AM.Y.i_zip, ↓AM.Y.g_nm, ↓AM.Y.g_tup, ↓AM.Y.g_sub, ↓AM.Y.g_nil, ↓AM.Y.g_cons, ↓AM.Y.s_nil', ↓AM.Y.s_cons', ↓AM.Y.s_asg, ↓AM.Y.s_asg2', ↓AM.Y.s_asg3', ↓AM.Y.s_par2', ↓AM.Y.s_par3', ↓AM.Y.s_aug', ↓AM.Y.s_expr', ↓AM.Y.s_ret', ↓AM.Y.s_retN', ↓AM.Y.s_iff', ↓AM.Y.s_for', ↓AM.Y.s_whl', ↓AM.Y.s_pass', ↓AM.Y.s_brk', ↓AM.Y.s_cnt', ↓AM.Y.s_never', ↓AM.Y.truth_bl, ↓AM.Y.truth_non, ↓AM.Y.truth_int, ↓AM.Y.truth_tup, ↓AM.Y.truth_rol, ↓AM.Y.truth_ref, ↓AM.Y.o_add, ↓AM.Y.o_sub, ↓AM.Y.o_mul, ↓AM.Y.o_mod, ↓AM.Y.o_fdv, ↓AM.Y.o_pow, ↓AM.Y.o_addL, ↓AM.Y.c_eq, ↓AM.Y.c_ne, ↓AM.Y.c_lt, ↓AM.Y.c_le, ↓AM.Y.c_gt, ↓AM.Y.c_ge, ↓AM.Y.c_inn, ↓AM.Y.c_nin, ↓AM.Y.has_dct, ↓AM.Y.x_tup, ↓AM.Y.x_rol, ↓AM.Y.x_ref, ↓AM.Y.x_set, ↓AM.Y.x_slcR, ↓AM.Y.x_slcL, ↓AM.Y.b_len_tup, ↓AM.Y.b_len_rol, ↓AM.Y.b_len_ref, ↓AM.Y.b_isi, ↓AM.Y.b_isi2, ↓AM.Y.b_int, ↓AM.Y.b_intb, ↓AM.Y.b_sum, ↓AM.Y.b_max2, ↓AM.Y.b_min2, ↓AM.Y.b_max1, ↓AM.Y.b_min1, ↓AM.Y.b_lst_tup, ↓AM.Y.b_lst_rol, ↓AM.Y.b_lst_ref, ↓AM.Y.b_all, ↓AM.Y.b_any, ↓AM.Y.k_app, ↓AM.Y.k_bits, ↓AM.Y.k_cnt, ↓AM.Y.m_app, ↓AM.Y.m_bits, ↓AM.Y.n_add, ↓AM.Y.n_sub, AM.wp_ok, AM.wp_no, ↓AM.wp_ret, ↓AM.wp_fail, ↓AM.wp_end, ↓AM.thn_nx, ↓AM.thn_rt, ↓AM.thn_bk, ↓AM.thn_ct, ↓AM.thn_xc, ↓AM.endP_nx, ↓AM.endP_rt, ↓AM.endP_xc, ↓AM.lpP_nx, ↓AM.lpP_ct, ↓AM.lpP_bk, ↓AM.lpP_rt, ↓AM.lpP_xc, ↓AM.Y.ifB_bl, ↓AM.Y.isI_int, ↓AM.Y.isT_tup, ↓AM.Y.isS_some, ↓AM.Y.isSS_some, ↓AM.Y.isO_lst, ↓AM.Y.isO_dct, AM.Y.ifB_bl, AM.Y.isI_int, AM.Y.isT_tup, AM.Y.isS_some, AM.Y.isSS_some, AM.Y.isO_lst, AM.Y.isO_dct, List.getElem?_cons_zero, List.getElem?_cons_succ, List.set_cons_zero, List.set_cons_succ, AM.Y.at0, AM.Y.at1, AM.Y.at2, AM.Y.at3, AM.Y.srcV, AM.Y.enumV, AM.tyOf, AM.tyIs, AM.isiV, AM.Y.isNon_non, AM.Y.isNon_bl, AM.Y.isNon_int, AM.Y.isNon_str, AM.Y.isNon_tup, AM.Y.isNon_rol, AM.Y.isNon_ref, Bool.not_true, Bool.not_false, Bool.true_eq_false, Bool.false_eq_true, ↓reduceIte, decide_true, decide_false, decide_eq_true_eq, Option.map_some, Option.map_none, Option.isSome_some, Option.isSome_none, List.length_cons, List.length_nil, List.isEmpty_cons, List.isEmpty_nil, true_and, and_true, Bool.or_false, Bool.false_or, Bool.or_true, Bool.true_or, Nat.zero_add, Nat.reduceAdd, AM.lim, Nat.reduceLeDiff, List.set, AM.wipeE, AM.Y.xcP, reduceCtorEq, imp_self, implies_true, not_false_eq_true, hf4, le]
        have e2 : l.map Ev.v ++ [Vl.tup [Vl.str (Str.ofString "stand"), Vl.int (((tally l).2.1 : Int) + (m : Int))]] = (l ++ [Ev.stand ((tally l).2.1 + m)]).map Ev.v := by rw [List.map_append]; rfl
        rw [e2]
        refine ⟨_, l ++ [.stand ((tally l).2.1 + m)], some x, some (.int j), ?_, get_put hf4, good_snoc (e := .stand ((tally l).2.1 + m)) g ⟨by omega, by omega⟩, by simp [lk], ((pu4.fr (Fr.put (rs := [f]) (by simp) _) (by simp; omega))).le (by omega), ?_, hff⟩
        · rw [tally_snoc]; rfl
        · exact ((fr4.mono (rs' := [r, f]) (by simp)).trans (Fr.put (by simp) _)).cut fun i hi hi2 => by
            simp at hi ⊢
            omega
      · have le : (l.map Ev.v).length < 100000 := by rw [List.length_map]; omega
        simp -implicitDefEqProofs only [↓AM.Y.y_var, ↓AM.Y.y_non, ↓AM.Y.y_bl, ↓AM.Y.y_int, ↓AM.Y.y_str, ↓AM.Y.y_ty, ↓AM.Y.y_tup, ↓AM.Y.y_lst, ↓AM.Y.y_dct0, ↓AM.Y.y_bin, ↓AM.Y.y_neg, ↓AM.Y.y_not, ↓AM.Y.y_and, ↓AM.Y.y_or, ↓AM.Y.y_cmp, ↓AM.Y.y_cmp2, ↓AM.Y.y_isN, ↓AM.Y.y_ntN, ↓AM.Y.y_isB, ↓AM.Y.y_ntB, ↓AM.Y.y_ife, ↓AM.Y.y_call, ↓AM.Y.y_bi, ↓AM.Y.y_mt, ↓AM.Y.y_idx, ↓AM.Y.y_slc, ↓AM.Y.y_lc, ↓AM.Y.y_lrng, ↓AM.Y.y_nil, ↓AM.Y.y_cons, ↓AM.Y.y_none, ↓AM.Y.y_some, ↓AM.Y.y_cnone, ↓AM.Y.y_csome, ↓AM.Y.t_not, ↓AM.Y.t_and, ↓AM.Y.t_or, ↓AM.Y.t_var, ↓AM.Y.t_cmp, ↓AM.Y.t_cmp2, ↓AM.Y.t_isN, ↓AM.Y.t_ntN, ↓AM.Y.t_isB, ↓AM.Y.t_ntB, ↓AM.Y.t_call, ↓AM.Y.t_bi, ↓AM.Y.t_idx, ↓AM.Y.i_seq, ↓AM.Y.i_rng1, ↓AM.Y.i_rng2, ↓AM.Y.i_enum, ↓AM.Y.i_zip, ↓AM.Y.g_nm, ↓AM.Y.g_tup, ↓AM.Y.g_sub, ↓AM.Y.g_nil, ↓AM.Y.g_cons, ↓AM.Y.s_nil', ↓AM.Y.s_cons', ↓AM.Y.s_asg, ↓AM.Y.s_asg2', ↓AM.Y.s_asg3', ↓AM.Y.s_par2', ↓AM.Y.s_par3', ↓AM.Y.s_aug', ↓AM.Y.s_expr', ↓AM.Y.s_ret', ↓AM.Y.s_retN', ↓AM.Y.s_iff', ↓AM.Y.s_for', ↓AM.Y.s_whl', ↓AM.Y.s_pass', ↓AM.Y.s_brk', ↓AM.Y.s_cnt', ↓AM.Y.s_never', ↓AM.Y.truth_bl, ↓AM.Y.truth_non, ↓AM.Y.truth_int, ↓AM.Y.truth_tup, ↓AM.Y.truth_rol, ↓AM.Y.truth_ref, ↓AM.Y.o_add, ↓AM.Y.o_sub, ↓AM.Y.o_mul, ↓AM.Y.o_mod, ↓AM.Y.o_fdv, ↓AM.Y.o_pow, ↓AM.Y.o_addL, ↓AM.Y.c_eq, ↓AM.Y.c_ne, ↓AM.Y.c_lt, ↓AM.Y.c_le, ↓AM.Y.c_gt, ↓AM.Y.c_ge, ↓AM.Y.c_inn, ↓AM.Y.c_nin, ↓AM.Y.has_dct, ↓AM.Y.x_tup, ↓AM.Y.x_rol, ↓AM.Y.x_ref, ↓AM.Y.x_set, ↓AM.Y.x_slcR, ↓AM.Y.x_slcL, ↓AM.Y.b_len_tup, ↓AM.Y.b_len_rol, ↓AM.Y.b_len_ref, ↓AM.Y.b_isi, ↓AM.Y.b_isi2, ↓AM.Y.b_int, ↓AM.Y.b_intb, ↓AM.Y.b_sum, ↓AM.Y.b_max2, ↓AM.Y.b_min2, ↓AM.Y.b_max1, ↓AM.Y.b_min1, ↓AM.Y.b_lst_tup, ↓AM.Y.b_lst_rol, ↓AM.Y.b_lst_ref, ↓AM.Y.b_all, ↓AM.Y.b_any, ↓AM.Y.k_app, ↓AM.Y.k_bits, ↓AM.Y.k_cnt, ↓AM.Y.m_app, ↓AM.Y.m_bits, ↓AM.Y.n_add, ↓AM.Y.n_sub, AM.wp_ok, AM.wp_no, ↓AM.wp_ret, ↓AM.wp_fail, ↓AM.wp_end, ↓AM.thn_nx, ↓AM.thn_rt, ↓AM.thn_bk, ↓AM.thn_ct, ↓AM.thn_xc, ↓AM.endP_nx, ↓AM.endP_rt, ↓AM.endP_xc, ↓AM.lpP_nx, ↓AM.lpP_ct, ↓AM.lpP_bk, ↓AM.lpP_rt, ↓AM.lpP_xc, ↓AM.Y.ifB_bl, ↓AM.Y.isI_int, ↓AM.Y.isT_tup, ↓AM.Y.isS_some, ↓AM.Y.isSS_some, ↓AM.Y.isO_lst, ↓AM.Y.isO_dct, AM.Y.ifB_bl, AM.Y.isI_int, AM.Y.isT_tup, AM.Y.isS_some, AM.Y.isSS_some, AM.Y.isO_lst, AM.Y.isO_dct, List.getElem?_cons_zero, List.getElem?_cons_succ, List.set_cons_zero, List.set_cons_succ, AM.Y.at0, AM.Y.at1, AM.Y.at2, AM.Y.at3, AM.Y.srcV, AM.Y.enumV, AM.tyOf, AM.tyIs, AM.isiV, AM.Y.isNon_non, AM.Y.isNon_bl, AM.Y.isNon_int, AM.Y.isNon_str, AM.Y.isNon_tup, AM.Y.isNon_rol, AM.Y.isNon_ref, Bool.not_true, Bool.not_false, Bool.true_eq_false, Bool.false_eq_true, ↓reduceIte, decide_true, decide_false, decide_eq_true_eq, Option.map_some, Option.map_none, Option.isSome_some, Option.isSome_none, List.length_cons, List.length_nil, List.isEmpty_cons, List.isEmpty_nil, true_and, and_true, Bool.or_false, Bool.false_or, Bool.or_true, Bool.true_or, Nat.zero_add, Nat.reduceAdd, AM.lim, Nat.reduceLeDiff, List.set, AM.wipeE, AM.Y.xcP, reduceCtorEq, imp_self, implies_true, not_false_eq_true, hf3, le]
        have e2 : l.map Ev.v ++ [Vl.tup [Vl.str (Str.ofString "root")]] = (l ++ [Ev.root]).map Ev.v := by rw [List.map_append]; rfl
        rw [e2]
        refine ⟨_, l ++ [.root], some x, some (.int j), ?_, get_put hf3, good_snoc (e := .root) g trivial, by simp [lk], ((pu3.fr (Fr.put (rs := [f]) (by simp) _) (by simp; omega))).le (by omega), ?_, hff⟩
        · rw [tally_snoc]; rfl
        · exact ((fr3.mono (rs' := [r, f]) (by simp)).trans (Fr.put (by simp) _)).cut fun i hi hi2 => by
            simp at hi ⊢
            omega
  · obtain ⟨f, l, a, b, rfl, hf, g, lk, pu2, fr2, hff⟩ := I
    have kk : l.length ≤ most := by
      rw [lk]
      simp [rngL]
      omega
    simp -implicitDefEqProofs only [↓AM.Y.y_var, ↓AM.Y.y_non, ↓AM.Y.y_bl, ↓AM.Y.y_int, ↓AM.Y.y_str, ↓AM.Y.y_ty, ↓AM.Y.y_tup, ↓AM.Y.y_lst, ↓AM.Y.y_dct0, ↓AM.Y.y_bin, ↓AM.Y.y_neg, ↓AM.Y.y_not, ↓AM.Y.y_and, ↓AM.Y.y_or, ↓AM.Y.y_cmp, ↓AM.Y.y_cmp2, ↓AM.Y.y_isN, ↓AM.Y.y_ntN, ↓AM.Y.y_isB, ↓AM.Y.y_ntB, ↓AM.Y.y_ife, ↓AM.Y.y_call, ↓AM.Y.y_bi, ↓AM.Y.y_mt, ↓AM.Y.y_idx, ↓AM.Y.y_slc, ↓AM.Y.y_lc, ↓AM.Y.y_lrng, ↓AM.Y.y_nil, ↓AM.Y.y_cons, ↓AM.Y.y_none, ↓AM.Y.y_some, ↓AM.Y.y_cnone, ↓AM.Y.y_csome, ↓AM.Y.t_not, ↓AM.Y.t_and, ↓AM.Y.t_or, ↓AM.Y.t_var, ↓AM.Y.t_cmp, ↓AM.Y.t_cmp2, ↓AM.Y.t_isN, ↓AM.Y.t_ntN, ↓AM.Y.t_isB, ↓AM.Y.t_ntB, ↓AM.Y.t_call, ↓AM.Y.t_bi, ↓AM.Y.t_idx, ↓AM.Y.i_seq, ↓AM.Y.i_rng1, ↓AM.Y.i_rng2, ↓AM.Y.i_enum, ↓AM.Y.i_zip, ↓AM.Y.g_nm, ↓AM.Y.g_tup, ↓AM.Y.g_sub, ↓AM.Y.g_nil, ↓AM.Y.g_cons, ↓AM.Y.s_nil', ↓AM.Y.s_cons', ↓AM.Y.s_asg, ↓AM.Y.s_asg2', ↓AM.Y.s_asg3', ↓AM.Y.s_par2', ↓AM.Y.s_par3', ↓AM.Y.s_aug', ↓AM.Y.s_expr', ↓AM.Y.s_ret', ↓AM.Y.s_retN', ↓AM.Y.s_iff', ↓AM.Y.s_for', ↓AM.Y.s_whl', ↓AM.Y.s_pass', ↓AM.Y.s_brk', ↓AM.Y.s_cnt', ↓AM.Y.s_never', ↓AM.Y.truth_bl, ↓AM.Y.truth_non, ↓AM.Y.truth_int, ↓AM.Y.truth_tup, ↓AM.Y.truth_rol, ↓AM.Y.truth_ref, ↓AM.Y.o_add, ↓AM.Y.o_sub, ↓AM.Y.o_mul, ↓AM.Y.o_mod, ↓AM.Y.o_fdv, ↓AM.Y.o_pow, ↓AM.Y.o_addL, ↓AM.Y.c_eq, ↓AM.Y.c_ne, ↓AM.Y.c_lt, ↓AM.Y.c_le, ↓AM.Y.c_gt, ↓AM.Y.c_ge, ↓AM.Y.c_inn, ↓AM.Y.c_nin, ↓AM.Y.has_dct, ↓AM.Y.x_tup, ↓AM.Y.x_rol, ↓AM.Y.x_ref, ↓AM.Y.x_set, ↓AM.Y.x_slcR, ↓AM.Y.x_slcL, ↓AM.Y.b_len_tup, ↓AM.Y.b_len_rol, ↓AM.Y.b_len_ref, ↓AM.Y.b_isi, ↓AM.Y.b_isi2, ↓AM.Y.b_int, ↓AM.Y.b_intb, ↓AM.Y.b_sum, ↓AM.Y.b_max2, ↓AM.Y.b_min2, ↓AM.Y.b_max1, ↓AM.Y.b_min1, ↓AM.Y.b_lst_tup, ↓AM.Y.b_lst_rol, ↓AM.Y.b_lst_ref, ↓AM.Y.b_all, ↓AM.Y.b_any, ↓AM.Y.k_app, ↓AM.Y.k_bits, ↓AM.Y.k_cnt, ↓AM.Y.m_app, ↓AM.Y.m_bits, ↓AM.Y.n_add, ↓AM.Y.n_sub, AM.wp_ok, AM.wp_no, ↓AM.wp_ret, ↓AM.wp_fail, ↓AM.wp_end, ↓AM.thn_nx, ↓AM.thn_rt, ↓AM.thn_bk, ↓AM.thn_ct, ↓AM.thn_xc, ↓AM.endP_nx, ↓AM.endP_rt, ↓AM.endP_xc, ↓AM.lpP_nx, ↓AM.lpP_ct, ↓AM.lpP_bk, ↓AM.lpP_rt, ↓AM.lpP_xc, ↓AM.Y.ifB_bl, ↓AM.Y.isI_int, ↓AM.Y.isT_tup, ↓AM.Y.isS_some, ↓AM.Y.isSS_some, ↓AM.Y.isO_lst, ↓AM.Y.isO_dct, AM.Y.ifB_bl, AM.Y.isI_int, AM.Y.isT_tup, AM.Y.isS_some, AM.Y.isSS_some, AM.Y.isO_lst, AM.Y.isO_dct, List.getElem?_cons_zero, List.getElem?_cons_succ, List.set_cons_zero, List.set_cons_succ, AM.Y.at0, AM.Y.at1, AM.Y.at2, AM.Y.at3, AM.Y.srcV, AM.Y.enumV, AM.tyOf, AM.tyIs, AM.isiV, AM.Y.isNon_non, AM.Y.isNon_bl, AM.Y.isNon_int, AM.Y.isNon_str, AM.Y.isNon_tup, AM.Y.isNon_rol, AM.Y.isNon_ref, Bool.not_true, Bool.not_false, Bool.true_eq_false, Bool.false_eq_true, ↓reduceIte, decide_true, decide_false, decide_eq_true_eq, Option.map_some, Option.map_none, Option.isSome_some, Option.isSome_none, List.length_cons, List.length_nil, List.isEmpty_cons, List.isEmpty_nil, true_and, and_true, Bool.or_false, Bool.false_or, Bool.or_true, Bool.true_or, Nat.zero_add, Nat.reduceAdd, AM.lim, Nat.reduceLeDiff, List.set, AM.wipeE, AM.Y.xcP, reduceCtorEq, imp_self, implies_true, not_false_eq_true]
    exact ⟨f, l, rfl, hff, hf, g, kk, pu2.le (by omega), fr2⟩
end
end K37

namespace AM
open PySem L2 Y
/-! ### trees' sizes -/
def Tre (n m : Nat) (p : PyData) : Prop := p.depth ≤ n ∧ p.canLay0 = true ∧ fz p ≤ m
def TreS (n m : Nat) (p : List PyData) : Prop := PyData.depthAll p ≤ n ∧ PyData.canLayAll0 p = true ∧ fzs p ≤ m
theorem TreS.nil {n m : Nat} : TreS n m [] := ⟨Nat.zero_le _, rfl, Nat.zero_le _⟩
theorem TreS.cons {n m : Nat} {p : PyData} {ps : List PyData} (a : Tre n m p) (b : TreS n m ps) : TreS n (m + 1) (p :: ps) := by
  obtain ⟨a1, a2, a3⟩ := a
  obtain ⟨b1, b2, b3⟩ := b
  refine ⟨?_, ?_, ?_⟩
  · show max p.depth (PyData.depthAll ps) ≤ n
    omega
  · show (p.canLay0 && PyData.canLayAll0 ps) = true
    rw [a2, b2]; rfl
  · show max (fz p) (fzs ps) + 1 ≤ m + 1
    omega
theorem TreS.list {n m : Nat} {ps : List PyData} (a : TreS n m ps) : Tre (n + 1) (m + 1) (.list ps) := ⟨Nat.succ_le_succ a.1, a.2.1, Nat.succ_le_succ a.2.2⟩
theorem TreS.tup {n m : Nat} {ps : List PyData} (a : TreS n m ps) : Tre (n + 1) (m + 1) (.tuple ps) := ⟨Nat.succ_le_succ a.1, a.2.1, Nat.succ_le_succ a.2.2⟩
theorem Tre.mono {n m n' m' : Nat} {p : PyData} (a : Tre n m p) (h1 : n ≤ n') (h2 : m ≤ m') : Tre n' m' p := ⟨Nat.le_trans a.1 h1, a.2.1, Nat.le_trans a.2.2 h2⟩
theorem TreS.mono {n m n' m' : Nat} {p : List PyData} (a : TreS n m p) (h1 : n ≤ n') (h2 : m ≤ m') : TreS n' m' p := ⟨Nat.le_trans a.1 h1, a.2.1, Nat.le_trans a.2.2 h2⟩
theorem tre_bl {n m : Nat} (b : Bool) : Tre n m (.bool b) := ⟨Nat.zero_le _, rfl, Nat.zero_le _⟩
theorem tre_int {n m : Nat} (b : Int) : Tre n m (.int b) := ⟨Nat.zero_le _, rfl, Nat.zero_le _⟩
theorem tre_non {n m : Nat} : Tre n m .none := ⟨Nat.zero_le _, rfl, Nat.zero_le _⟩
theorem treS_int {n : Nat} : ∀ ks : List Int, TreS n (ks.length + 1) (ks.map PyData.int)
  | [] => .nil
  | k :: ks => .cons (tre_int k) (treS_int ks)
theorem dts_int {h : SH} : ∀ ks : List Int, Dts h (ks.map Vl.int) (ks.map PyData.int)
  | [] => .nil
  | k :: ks => .cons (.int k) (dts_int ks)
def rngI (lo : Int) (n : Nat) : List Int := (List.range n).map fun k : Nat => lo + (k : Int)
theorem rngL_map (lo : Int) (n : Nat) : rngL lo n = (rngI lo n).map Vl.int := by unfold rngL rngI; rw [List.map_map]; rfl
theorem rngL_at {lo : Int} {n k : Nat} {x : Vl} (h : (rngL lo n)[k]? = some x) : k < n ∧ x = .int (lo + k) := by
  unfold rngL at h
  obtain ⟨e, e1, e2⟩ := map_ge h
  obtain ⟨e3, e4⟩ := List.getElem?_eq_some_iff.mp e1
  simp at e3 e4
  subst e4
  exact ⟨e3, e2.symm⟩
theorem rngL_len {lo : Int} {n : Nat} : (rngL lo n).length = n := by simp [rngL]
section
variable {fns : List Fn} {W d : Nat} {h : SH}
theorem w_exactT {g : Nat} (hg : fns[g]? = some (F_exact g)) {n m : Nat} {p : PyData} (t : Tre n m p) (hn : n < d) (hm : m ≤ 100000) {a b : Vl} (ha : Dt h a p) (hb : Dt h b p) : wp (callD fns W d g [a, b] h) (fun v h' => v = .bl true ∧ Fr [] h h') NoX :=
  w_exact hg d p a b h (Nat.lt_of_le_of_lt t.1 hn) t.2.1 (Nat.le_trans t.2.2 hm) ha hb
theorem w_cnt {a b : Vl} {ds : List PyData} {p : PyData} {Q : Vl → SH → Prop} {X : Nat → Vl → SH → Prop} (ha : Dt h a (.list ds)) (hb : Dt h b p) (oa : EqOk (.list ds)) (ob : EqOk p) : wp (mtV .count a [b] h) Q X = Q (.int (ds.countP (fun z => PyData.eqv z p) : Nat)) h := by
  show wp (cntM a b h) Q X = _
  unfold cntM
  rw [data_of ha _ oa.fz, data_of hb _ ob.fz]
  dsimp only
  rw [if_pos ⟨oa.sh, ob.sh⟩]
  rfl
end
theorem first_ex (P : Nat → Prop) : ∃ v, FirstOf P v := by
  by_cases h : ∃ j, P j
  · obtain ⟨j, hj⟩ := h
    have key : ∀ n j, j ≤ n → P j → ∃ i, P i ∧ ∀ k, k < i → ¬ P k := fun n => by
      induction n with
      | zero => intro j h1 h2; exact ⟨j, h2, fun k hk => by omega⟩
      | succ n ih =>
        intro j h1 h2
        by_cases z : ∃ k, k < j ∧ P k
        · obtain ⟨k, hk, pk⟩ := z
          exact ih k (by omega) pk
        · exact ⟨j, h2, fun k hk pk => z ⟨k, hk, pk⟩⟩
    obtain ⟨i, h1, h2⟩ := key j j (Nat.le_refl _) hj
    exact ⟨.int i, .inr ⟨i, rfl, h1, h2⟩⟩
  · exact ⟨.non, .inl ⟨rfl, fun j z => h ⟨j, z⟩⟩⟩
noncomputable def fstV (P : Nat → Prop) : Vl := Classical.choose (first_ex P)
theorem fstV_eq {P : Nat → Prop} {v : Vl} (h : FirstOf P v) : v = fstV P := h.uniq (Classical.choose_spec (first_ex P))
noncomputable def fstD (P : Nat → Prop) : PyData := match fstV P with
  | .int i => .int i
  | _ => .none
theorem fst_dt {h : SH} (P : Nat → Prop) : Dt h (fstV P) (fstD P) := by
  have z : FirstOf P (fstV P) := Classical.choose_spec (first_ex P)
  unfold fstD
  rcases z with ⟨e, _⟩ | ⟨j, e, _⟩
  · rw [e]; exact .non
  · rw [e]; exact .int _
theorem fst_tre {n m : Nat} (P : Nat → Prop) : Tre n m (fstD P) := by
  unfold fstD
  split
  · exact tre_int _
  · exact tre_non
end AM
namespace K37
open PySem L2 AM Y
theorem life_tre {l : List Ev} (hl : l.length ≤ 1000) : Tre 2 2000 (lifeD l) := by
  have h1 := life_dep l
  have h2 := life_fz l
  refine ⟨?_, life_lay l, ?_⟩
  · show PyData.depthAll (l.map Ev.d) + 1 ≤ 2
    omega
  · show fzs (l.map Ev.d) + 1 ≤ 2000
    omega
theorem count_lines (l : List Ev) : (l.map Ev.d).countP (fun z => PyData.eqv z (.tuple [.str sL])) = (tally l).1 := by
  have key : ∀ t, (l.foldl stp t).1 = t.1 + (l.map Ev.d).countP (fun z => PyData.eqv z (.tuple [.str sL])) := by
    induction l with
    | nil => intro t; rfl
    | cons e l ih =>
      intro t
      rw [List.foldl_cons, ih, List.map_cons, List.countP_cons]
      cases e with
      | line =>
        have : PyData.eqv (Ev.d .line) (.tuple [.str sL]) = true := by
          show ((sL == sL) && true) = true
          simp
        rw [this]
        dsimp only [stp]
        simp; omega
      | stand n =>
        have : PyData.eqv (Ev.d (.stand n)) (.tuple [.str sL]) = false := by
          show ((sS == sL) && PyData.eqvAll [.int n] []) = false
          rw [qSL]; rfl
        rw [this]
        dsimp only [stp]
        simp
      | root =>
        have : PyData.eqv (Ev.d .root) (.tuple [.str sL]) = false := by
          show ((sR == sL) && PyData.eqvAll [] []) = false
          rw [qRL]; rfl
        rw [this]
        dsimp only [stp]
        simp
  have := key (0, 0, 0)
  unfold tally
  omega
def needI (l : List Ev) : List Int := rngI ((tally l).2.2 + 1) (((tally l).1 : Int) + 1 - ((tally l).2.2 + 1)).toNat
theorem need_map (l : List Ev) : need l = (needI l).map Vl.int := rngL_map _ _
def needD (l : List Ev) : PyData := .list ((needI l).map PyData.int)
theorem need_tre {l : List Ev} (g : Good l) (hl : l.length ≤ 1000) : Tre 1 1500 (needD l) := by
  obtain ⟨t1, t2, t3⟩ := tally_le g
  have e : (needI l).length ≤ 1001 := by unfold needI rngI; simp; omega
  exact ((treS_int (n := 0) (needI l)).list).mono (by omega) (by omega)
theorem need_dt {h : SH} {a : Nat} {l : List Ev} (e : h[a]? = some (.lst (need l))) : Dt h (.ref a) (needD l) := by
  rw [need_map] at e
  exact .ref e (dts_int _)
section
variable {d : Nat} {h : SH} {r : Nat} {l : List Ev}
theorem least_le (g : Good l) (hl : l.length ≤ 14) : least l ≤ 15 := by
  have := leastK_le g l.length (Nat.le_refl _)
  unfold least
  omega
theorem w_right (hr : h[r]? = some (.lst (l.map Ev.v))) (g : Good l) (hl : l.length ≤ 14) : wp (callD fns 100000 (d + 10) 20 [.ref r] h) (fun v h' => v = .bl true ∧ Fr [] h h') NoX := by
  rw [call_eq (fns := fns) (W := 100000) (d := d + 9) (g := 20) (f := f__law_life_right) rfl (us := [.ref r]) (vs := [.ref r]) rfl rfl, wp_end]
  show wp (exSs (callD fns 100000 (d + 9)) 100000 [some (.ref r), none, none, none, none, none, none, none] f__law_life_right.body h) _ _
  unfold f__law_life_right
  have ll : least l ≤ 15 := least_le g hl
  have l1 : 1 ≤ least l := leastK_one l _
  have hl2 : l.length ≤ 1000 := by omega
  simp -implicitDefEqProofs only [↓AM.Y.y_var, ↓AM.Y.y_non, ↓AM.Y.y_bl, ↓AM.Y.y_int, ↓AM.Y.y_str, ↓AM.Y.y_ty, ↓AM.Y.y_tup, ↓AM.Y.y_lst, ↓AM.Y.y_dct0, ↓AM.Y.y_bin, ↓AM.Y.y_neg, ↓AM.Y.y_not, ↓AM.Y.y_and, ↓AM.Y.y_or, ↓AM.Y.y_cmp, ↓AM.Y.y_cmp2, ↓AM.Y.y_isN, ↓AM.Y.y_ntN, ↓AM.Y.y_isB, ↓AM.Y.y_ntB, ↓AM.Y.y_ife, ↓AM.Y.y_call, ↓AM.Y.y_bi, ↓AM.Y.y_mt, ↓AM.Y.y_idx, ↓AM.Y.y_slc, ↓AM.Y.y_lc, ↓AM.Y.y_lrng, ↓AM.Y.y_nil, ↓AM.Y.y_cons, ↓AM.Y.y_none, ↓AM.Y.y_some, ↓AM.Y.y_cnone, ↓AM.Y.y_csome, ↓AM.Y.t_not, ↓AM.Y.t_and, ↓AM.Y.t_or, ↓AM.Y.t_var, ↓AM.Y.t_cmp, ↓AM.Y.t_cmp2, ↓AM.Y.t_isN, ↓AM.Y.t_ntN, ↓AM.Y.t_isB, ↓AM.Y.t_ntB, ↓AM.Y.t_call, ↓AM.Y.t_bi, ↓AM.Y.t_idx, ↓AM.Y.i_seq, ↓AM.Y.i_rng1, ↓AM.Y.i_rng2, ↓AM.Y.i_enum, ↓AM.Y.i_zip, ↓AM.Y.g_nm, ↓AM.Y.g_tup, ↓AM.Y.g_sub, ↓AM.Y.g_nil, ↓AM.Y.g_cons, ↓AM.Y.s_nil', ↓AM.Y.s_cons', ↓AM.Y.s_asg, ↓AM.Y.s_asg2', ↓AM.Y.s_asg3', ↓AM.Y.s_par2', ↓AM.Y.s_par3', ↓AM.Y.s_aug', ↓AM.Y.s_expr', ↓AM.Y.s_ret', ↓AM.Y.s_retN', ↓AM.Y.s_iff', ↓AM.Y.s_for', ↓AM.Y.s_whl', ↓AM.Y.s_pass', ↓AM.Y.s_brk', ↓AM.Y.s_cnt', ↓AM.Y.s_never', ↓AM.Y.truth_bl, ↓AM.Y.truth_non, ↓AM.Y.truth_int, ↓AM.Y.truth_tup, ↓AM.Y.truth_rol, ↓AM.Y.truth_ref, ↓AM.Y.o_add, ↓AM.Y.o_sub, ↓AM.Y.o_mul, ↓AM.Y.o_mod, ↓AM.Y.o_fdv, ↓AM.Y.o_pow, ↓AM.Y.o_addL, ↓AM.Y.c_eq, ↓AM.Y.c_ne, ↓AM.Y.c_lt, ↓AM.Y.c_le, ↓AM.Y.c_gt, ↓AM.Y.c_ge, ↓AM.Y.c_inn, ↓AM.Y.c_nin, ↓AM.Y.has_dct, ↓AM.Y.x_tup, ↓AM.Y.x_rol, ↓AM.Y.x_ref, ↓AM.Y.x_set, ↓AM.Y.x_slcR, ↓AM.Y.x_slcL, ↓AM.Y.b_len_tup, ↓AM.Y.b_len_rol, ↓AM.Y.b_len_ref, ↓AM.Y.b_isi, ↓AM.Y.b_isi2, ↓AM.Y.b_int, ↓AM.Y.b_intb, ↓AM.Y.b_sum, ↓AM.Y.b_max2, ↓AM.Y.b_min2, ↓AM.Y.b_max1, ↓AM.Y.b_min1, ↓AM.Y.b_lst_tup, ↓AM.Y.b_lst_rol, ↓AM.Y.b_lst_ref, ↓AM.Y.b_all, ↓AM.Y.b_any, ↓AM.Y.k_app, ↓AM.Y.k_bits, ↓AM.Y.k_cnt, ↓AM.Y.m_app, ↓AM.Y.m_bits, ↓AM.Y.n_add, ↓AM.Y.n_sub, AM.wp_ok, AM.wp_no, ↓AM.wp_ret, ↓AM.wp_fail, ↓AM.wp_end, ↓AM.thn_nx, ↓AM.thn_rt, ↓AM.thn_bk, ↓AM.thn_ct, ↓AM.thn_xc, ↓AM.endP_nx, ↓AM.endP_rt, ↓AM.endP_xc, ↓AM.lpP_nx, ↓AM.lpP_ct, ↓AM.lpP_bk, ↓AM.lpP_rt, ↓AM.lpP_xc, ↓AM.Y.ifB_bl, ↓AM.Y.isI_int, ↓AM.Y.isT_tup, ↓AM.Y.isS_some, ↓AM.Y.isSS_some, ↓AM.Y.isO_lst, ↓AM.Y.isO_dct, AM.Y.ifB_bl, AM.Y.isI_int, AM.Y.isT_tup, AM.Y.isS_some, AM.Y.isSS_some, AM.Y.isO_lst, AM.Y.isO_dct, List.getElem?_cons_zero, List.getElem?_cons_succ, List.set_cons_zero, List.set_cons_succ, AM.Y.at0, AM.Y.at1, AM.Y.at2, AM.Y.at3, AM.Y.srcV, AM.Y.enumV, AM.tyOf, AM.tyIs, AM.isiV, AM.Y.isNon_non, AM.Y.isNon_bl, AM.Y.isNon_int, AM.Y.isNon_str, AM.Y.isNon_tup, AM.Y.isNon_rol, AM.Y.isNon_ref, Bool.not_true, Bool.not_false, Bool.true_eq_false, Bool.false_eq_true, ↓reduceIte, decide_true, decide_false, decide_eq_true_eq, Option.map_some, Option.map_none, Option.isSome_some, Option.isSome_none, List.length_cons, List.length_nil, List.isEmpty_cons, List.isEmpty_nil, true_and, and_true, Bool.or_false, Bool.false_or, Bool.or_true, Bool.true_or, Nat.zero_add, Nat.reduceAdd, AM.lim, Nat.reduceLeDiff, List.set, AM.wipeE, AM.Y.xcP, reduceCtorEq, imp_self, implies_true, not_false_eq_true, hr]
  have hq0 : (h ++ [Ob.lst (l.map Ev.v)])[h.length]? = some (.lst (l.map Ev.v)) := get_new
  refine ⟨by omega, for_told (fun k σ h1 => Fr [] h h1 ∧ ∃ (a b c e f g : Option Vl), σ = [some (.ref r), some (.ref h.length), a, b, c, e, f, g] ∧ h1[h.length]? = some (.lst (l.map Ev.v))) (fun k x σ h1 hk I => ?_) (fun σ h1 I => ?_) ⟨Fr.alloc _, _, _, _, _, _, _, rfl, hq0⟩⟩
  · obtain ⟨f, a, b, c, e, f', g', rfl, hq⟩ := I
    obtain ⟨kk, rfl⟩ := rngL_at hk
    obtain ⟨p, hp, hp1⟩ : ∃ p : Nat, (1 + (k : Int)) = (p : Int) ∧ 1 ≤ p := ⟨1 + k, by omega, by omega⟩
    rw [hp]
    simp -implicitDefEqProofs only [↓AM.Y.y_var, ↓AM.Y.y_non, ↓AM.Y.y_bl, ↓AM.Y.y_int, ↓AM.Y.y_str, ↓AM.Y.y_ty, ↓AM.Y.y_tup, ↓AM.Y.y_lst, ↓AM.Y.y_dct0, ↓AM.Y.y_bin, ↓AM.Y.y_neg, ↓AM.Y.y_not, ↓AM.Y.y_and, ↓AM.Y.y_or, ↓AM.Y.y_cmp, ↓AM.Y.y_cmp2, ↓AM.Y.y_isN, ↓AM.Y.y_ntN, ↓AM.Y.y_isB, ↓AM.Y.y_ntB, ↓AM.Y.y_ife, ↓AM.Y.y_call, ↓AM.Y.y_bi, ↓AM.Y.y_mt, ↓AM.Y.y_idx, ↓AM.Y.y_slc, ↓AM.Y.y_lc, ↓AM.Y.y_lrng, ↓AM.Y.y_nil, ↓AM.Y.y_cons, ↓AM.Y.y_none, ↓AM.Y.y_some, ↓AM.Y.y_cnone, ↓AM.Y.y_csome, ↓AM.Y.t_not, ↓AM.Y.t_and, ↓AM.Y.t_or, ↓AM.Y.t_var, ↓AM.Y.t_cmp, ↓AM.Y.t_cmp2, ↓AM.Y.t_isN, ↓AM.Y.t_ntN, ↓AM.Y.t_isB, ↓AM.Y.t_ntB, ↓AM.Y.t_call, ↓AM.Y.t_bi, ↓AM.Y.t_idx, ↓AM.Y.i_seq, ↓AM.Y.i_rng1, ↓AM.Y.i_rng2, ↓AM.Y.i_enum, ↓AM.Y.i_zip, ↓AM.Y.g_nm, ↓AM.Y.g_tup, ↓AM.Y.g_sub, ↓AM.Y.g_nil, ↓AM.Y.g_cons, ↓AM.Y.s_nil', ↓AM.Y.s_cons', ↓AM.Y.s_asg, ↓AM.Y.s_asg2', ↓AM.Y.s_asg3', ↓AM.Y.s_par2', ↓AM.Y.s_par3', ↓AM.Y.s_aug', ↓AM.Y.s_expr', ↓AM.Y.s_ret', ↓AM.Y.s_retN', ↓AM.Y.s_iff', ↓AM.Y.s_for', ↓AM.Y.s_whl', ↓AM.Y.s_pass', ↓AM.Y.s_brk', ↓AM.Y.s_cnt', ↓AM.Y.s_never', ↓AM.Y.truth_bl, ↓AM.Y.truth_non, ↓AM.Y.truth_int, ↓AM.Y.truth_tup, ↓AM.Y.truth_rol, ↓AM.Y.truth_ref, ↓AM.Y.o_add, ↓AM.Y.o_sub, ↓AM.Y.o_mul, ↓AM.Y.o_mod, ↓AM.Y.o_fdv, ↓AM.Y.o_pow, ↓AM.Y.o_addL, ↓AM.Y.c_eq, ↓AM.Y.c_ne, ↓AM.Y.c_lt, ↓AM.Y.c_le, ↓AM.Y.c_gt, ↓AM.Y.c_ge, ↓AM.Y.c_inn, ↓AM.Y.c_nin, ↓AM.Y.has_dct, ↓AM.Y.x_tup, ↓AM.Y.x_rol, ↓AM.Y.x_ref, ↓AM.Y.x_set, ↓AM.Y.x_slcR, ↓AM.Y.x_slcL, ↓AM.Y.b_len_tup, ↓AM.Y.b_len_rol, ↓AM.Y.b_len_ref, ↓AM.Y.b_isi, ↓AM.Y.b_isi2, ↓AM.Y.b_int, ↓AM.Y.b_intb, ↓AM.Y.b_sum, ↓AM.Y.b_max2, ↓AM.Y.b_min2, ↓AM.Y.b_max1, ↓AM.Y.b_min1, ↓AM.Y.b_lst_tup, ↓AM.Y.b_lst_rol, ↓AM.Y.b_lst_ref, ↓AM.Y.b_all, ↓AM.Y.b_any, ↓AM.Y.k_app, ↓AM.Y.k_bits, ↓AM.Y.k_cnt, ↓AM.Y.m_app, ↓AM.Y.m_bits, ↓AM.Y.n_add, ↓AM.Y.n_sub, AM.wp_ok, AM.wp_no, ↓AM.wp_ret, ↓AM.wp_fail, ↓AM.wp_end, ↓AM.thn_nx, ↓AM.thn_rt, ↓AM.thn_bk, ↓AM.thn_ct, ↓AM.thn_xc, ↓AM.endP_nx, ↓AM.endP_rt, ↓AM.endP_xc, ↓AM.lpP_nx, ↓AM.lpP_ct, ↓AM.lpP_bk, ↓AM.lpP_rt, ↓AM.lpP_xc, ↓AM.Y.ifB_bl, ↓AM.Y.isI_int, ↓AM.Y.isT_tup, ↓AM.Y.isS_some, ↓AM.Y.isSS_some, ↓AM.Y.isO_lst, ↓AM.Y.isO_dct, AM.Y.ifB_bl, AM.Y.isI_int, AM.Y.isT_tup, AM.Y.isS_some, AM.Y.isSS_some, AM.Y.isO_lst, AM.Y.isO_dct, List.getElem?_cons_zero, List.getElem?_cons_succ, List.set_cons_zero, List.set_cons_succ, AM.Y.at0, AM.Y.at1, AM.Y.at2, AM.Y.at3, AM.Y.srcV, AM.Y.enumV, AM.tyOf, AM.tyIs, AM.isiV, AM.Y.isNon_non, AM.Y.isNon_bl, AM.Y.isNon_int, AM.Y.isNon_str, AM.Y.isNon_tup, AM.Y.isNon_rol, AM.Y.isNon_ref, Bool.not_true, Bool.not_false, Bool.true_eq_false, Bool.false_eq_true, ↓reduceIte, decide_true, decide_false, decide_eq_true_eq, Option.map_some, Option.map_none, Option.isSome_some, Option.isSome_none, List.length_cons, List.length_nil, List.isEmpty_cons, List.isEmpty_nil, true_and, and_true, Bool.or_false, Bool.false_or, Bool.or_true, Bool.true_or, Nat.zero_add, Nat.reduceAdd, AM.lim, Nat.reduceLeDiff, List.set, AM.wipeE, AM.Y.xcP, reduceCtorEq, imp_self, implies_true, not_false_eq_true]
    refine wp_q (w_ring (d := d + 8) (f.get hr) g hl2 hp1) fun v h2 q => ?_
    obtain ⟨q, f2⟩ := q
    have hv := fstV_eq q
    have nv := first_non g hp1 q
    try simp -implicitDefEqProofs only [↓AM.Y.y_var, ↓AM.Y.y_non, ↓AM.Y.y_bl, ↓AM.Y.y_int, ↓AM.Y.y_str, ↓AM.Y.y_ty, ↓AM.Y.y_tup, ↓AM.Y.y_lst, ↓AM.Y.y_dct0, ↓AM.Y.y_bin, ↓AM.Y.y_neg, ↓AM.Y.y_not, ↓AM.Y.y_and, ↓AM.Y.y_or, ↓AM.Y.y_cmp, ↓AM.Y.y_cmp2, ↓AM.Y.y_isN, ↓AM.Y.y_ntN, ↓AM.Y.y_isB, ↓AM.Y.y_ntB, ↓AM.Y.y_ife, ↓AM.Y.y_call, ↓AM.Y.y_bi, ↓AM.Y.y_mt, ↓AM.Y.y_idx, ↓AM.Y.y_slc, ↓AM.Y.y_lc, ↓AM.Y.y_lrng, ↓AM.Y.y_nil, ↓AM.Y.y_cons, ↓AM.Y.y_none, ↓AM.Y.y_some, ↓AM.Y.y_cnone, ↓AM.Y.y_csome, ↓AM.Y.t_not, ↓AM.Y.t_and, ↓AM.Y.t_or, ↓AM.Y.t_var, ↓AM.Y.t_cmp, ↓AM.Y.t_cmp2, ↓AM.Y.t_isN, ↓AM.Y.t_ntN, ↓AM.Y.t_isB, ↓AM.Y.t_ntB, ↓AM.Y.t_call, ↓AM.Y.t_bi, ↓AM.Y.t_idx, ↓AM.Y.i_seq, ↓AM.Y.i_rng1, ↓AM.Y.i_rng2, ↓AM.Y.i_enum, ↓AM.Y.i_zip, ↓AM.Y.g_nm, ↓AM.Y.g_tup, ↓AM.Y.g_sub, ↓AM.Y.g_nil, ↓AM.Y.g_cons, ↓AM.Y.s_nil', ↓AM.Y.s_cons', ↓AM.Y.s_asg, ↓AM.Y.s_asg2', ↓AM.Y.s_asg3', ↓AM.Y.s_par2', ↓AM.Y.s_par3', ↓AM.Y.s_aug', ↓AM.Y.s_expr', ↓AM.Y.s_ret', ↓AM.Y.s_retN', ↓AM.Y.s_iff', ↓AM.Y.s_for', ↓AM.Y.s_whl', ↓AM.Y.s_pass', ↓AM.Y.s_brk', ↓AM.Y.s_cnt', ↓AM.Y.s_never', ↓AM.Y.truth_bl, ↓AM.Y.truth_non, ↓AM.Y.truth_int, ↓AM.Y.truth_tup, ↓AM.Y.truth_rol, ↓AM.Y.truth_ref, ↓AM.Y.o_add, ↓AM.Y.o_sub, ↓AM.Y.o_mul, ↓AM.Y.o_mod, ↓AM.Y.o_fdv, ↓AM.Y.o_pow, ↓AM.Y.o_addL, ↓AM.Y.c_eq, ↓AM.Y.c_ne, ↓AM.Y.c_lt, ↓AM.Y.c_le, ↓AM.Y.c_gt, ↓AM.Y.c_ge, ↓AM.Y.c_inn, ↓AM.Y.c_nin, ↓AM.Y.has_dct, ↓AM.Y.x_tup, ↓AM.Y.x_rol, ↓AM.Y.x_ref, ↓AM.Y.x_set, ↓AM.Y.x_slcR, ↓AM.Y.x_slcL, ↓AM.Y.b_len_tup, ↓AM.Y.b_len_rol, ↓AM.Y.b_len_ref, ↓AM.Y.b_isi, ↓AM.Y.b_isi2, ↓AM.Y.b_int, ↓AM.Y.b_intb, ↓AM.Y.b_sum, ↓AM.Y.b_max2, ↓AM.Y.b_min2, ↓AM.Y.b_max1, ↓AM.Y.b_min1, ↓AM.Y.b_lst_tup, ↓AM.Y.b_lst_rol, ↓AM.Y.b_lst_ref, ↓AM.Y.b_all, ↓AM.Y.b_any, ↓AM.Y.k_app, ↓AM.Y.k_bits, ↓AM.Y.k_cnt, ↓AM.Y.m_app, ↓AM.Y.m_bits, ↓AM.Y.n_add, ↓AM.Y.n_sub, AM.wp_ok, AM.wp_no, ↓AM.wp_ret, ↓AM.wp_fail, ↓AM.wp_end, ↓AM.thn_nx, ↓AM.thn_rt, ↓AM.thn_bk, ↓AM.thn_ct, ↓AM.thn_xc, ↓AM.endP_nx, ↓AM.endP_rt, ↓AM.endP_xc, ↓AM.lpP_nx, ↓AM.lpP_ct, ↓AM.lpP_bk, ↓AM.lpP_rt, ↓AM.lpP_xc, ↓AM.Y.ifB_bl, ↓AM.Y.isI_int, ↓AM.Y.isT_tup, ↓AM.Y.isS_some, ↓AM.Y.isSS_some, ↓AM.Y.isO_lst, ↓AM.Y.isO_dct, AM.Y.ifB_bl, AM.Y.isI_int, AM.Y.isT_tup, AM.Y.isS_some, AM.Y.isSS_some, AM.Y.isO_lst, AM.Y.isO_dct, List.getElem?_cons_zero, List.getElem?_cons_succ, List.set_cons_zero, List.set_cons_succ, AM.Y.at0, AM.Y.at1, AM.Y.at2, AM.Y.at3, AM.Y.srcV, AM.Y.enumV, AM.tyOf, AM.tyIs, AM.isiV, AM.Y.isNon_non, AM.Y.isNon_bl, AM.Y.isNon_int, AM.Y.isNon_str, AM.Y.isNon_tup, AM.Y.isNon_rol, AM.Y.isNon_ref, Bool.not_true, Bool.not_false, Bool.true_eq_false, Bool.false_eq_true, ↓reduceIte, decide_true, decide_false, decide_eq_true_eq, Option.map_some, Option.map_none, Option.isSome_some, Option.isSome_none, List.length_cons, List.length_nil, List.isEmpty_cons, List.isEmpty_nil, true_and, and_true, Bool.or_false, Bool.false_or, Bool.or_true, Bool.true_or, Nat.zero_add, Nat.reduceAdd, AM.lim, Nat.reduceLeDiff, List.set, AM.wipeE, AM.Y.xcP, reduceCtorEq, imp_self, implies_true, not_false_eq_true]
    refine wp_q (w_fits (d := d + 4) (f2.get hq) g hl2 hp1) fun v3 h3 q => ?_
    obtain ⟨rfl, f3⟩ := q
    try simp -implicitDefEqProofs only [↓AM.Y.y_var, ↓AM.Y.y_non, ↓AM.Y.y_bl, ↓AM.Y.y_int, ↓AM.Y.y_str, ↓AM.Y.y_ty, ↓AM.Y.y_tup, ↓AM.Y.y_lst, ↓AM.Y.y_dct0, ↓AM.Y.y_bin, ↓AM.Y.y_neg, ↓AM.Y.y_not, ↓AM.Y.y_and, ↓AM.Y.y_or, ↓AM.Y.y_cmp, ↓AM.Y.y_cmp2, ↓AM.Y.y_isN, ↓AM.Y.y_ntN, ↓AM.Y.y_isB, ↓AM.Y.y_ntB, ↓AM.Y.y_ife, ↓AM.Y.y_call, ↓AM.Y.y_bi, ↓AM.Y.y_mt, ↓AM.Y.y_idx, ↓AM.Y.y_slc, ↓AM.Y.y_lc, ↓AM.Y.y_lrng, ↓AM.Y.y_nil, ↓AM.Y.y_cons, ↓AM.Y.y_none, ↓AM.Y.y_some, ↓AM.Y.y_cnone, ↓AM.Y.y_csome, ↓AM.Y.t_not, ↓AM.Y.t_and, ↓AM.Y.t_or, ↓AM.Y.t_var, ↓AM.Y.t_cmp, ↓AM.Y.t_cmp2, ↓AM.Y.t_isN, ↓AM.Y.t_ntN, ↓AM.Y.t_isB, ↓AM.Y.t_ntB, ↓AM.Y.t_call, ↓AM.Y.t_bi, ↓AM.Y.t_idx, ↓AM.Y.i_seq, ↓AM.Y.i_rng1, ↓AM.Y.i_rng2, ↓AM.Y.i_enum, ↓AM.Y.i_zip, ↓AM.Y.g_nm, ↓AM.Y.g_tup, ↓AM.Y.g_sub, ↓AM.Y.g_nil, ↓AM.Y.g_cons, ↓AM.Y.s_nil', ↓AM.Y.s_cons', ↓AM.Y.s_asg, ↓AM.Y.s_asg2', ↓AM.Y.s_asg3', ↓AM.Y.s_par2', ↓AM.Y.s_par3', ↓AM.Y.s_aug', ↓AM.Y.s_expr', ↓AM.Y.s_ret', ↓AM.Y.s_retN', ↓AM.Y.s_iff', ↓AM.Y.s_for', ↓AM.Y.s_whl', ↓AM.Y.s_pass', ↓AM.Y.s_brk', ↓AM.Y.s_cnt', ↓AM.Y.s_never', ↓AM.Y.truth_bl, ↓AM.Y.truth_non, ↓AM.Y.truth_int, ↓AM.Y.truth_tup, ↓AM.Y.truth_rol, ↓AM.Y.truth_ref, ↓AM.Y.o_add, ↓AM.Y.o_sub, ↓AM.Y.o_mul, ↓AM.Y.o_mod, ↓AM.Y.o_fdv, ↓AM.Y.o_pow, ↓AM.Y.o_addL, ↓AM.Y.c_eq, ↓AM.Y.c_ne, ↓AM.Y.c_lt, ↓AM.Y.c_le, ↓AM.Y.c_gt, ↓AM.Y.c_ge, ↓AM.Y.c_inn, ↓AM.Y.c_nin, ↓AM.Y.has_dct, ↓AM.Y.x_tup, ↓AM.Y.x_rol, ↓AM.Y.x_ref, ↓AM.Y.x_set, ↓AM.Y.x_slcR, ↓AM.Y.x_slcL, ↓AM.Y.b_len_tup, ↓AM.Y.b_len_rol, ↓AM.Y.b_len_ref, ↓AM.Y.b_isi, ↓AM.Y.b_isi2, ↓AM.Y.b_int, ↓AM.Y.b_intb, ↓AM.Y.b_sum, ↓AM.Y.b_max2, ↓AM.Y.b_min2, ↓AM.Y.b_max1, ↓AM.Y.b_min1, ↓AM.Y.b_lst_tup, ↓AM.Y.b_lst_rol, ↓AM.Y.b_lst_ref, ↓AM.Y.b_all, ↓AM.Y.b_any, ↓AM.Y.k_app, ↓AM.Y.k_bits, ↓AM.Y.k_cnt, ↓AM.Y.m_app, ↓AM.Y.m_bits, ↓AM.Y.n_add, ↓AM.Y.n_sub, AM.wp_ok, AM.wp_no, ↓AM.wp_ret, ↓AM.wp_fail, ↓AM.wp_end, ↓AM.thn_nx, ↓AM.thn_rt, ↓AM.thn_bk, ↓AM.thn_ct, ↓AM.thn_xc, ↓AM.endP_nx, ↓AM.endP_rt, ↓AM.endP_xc, ↓AM.lpP_nx, ↓AM.lpP_ct, ↓AM.lpP_bk, ↓AM.lpP_rt, ↓AM.lpP_xc, ↓AM.Y.ifB_bl, ↓AM.Y.isI_int, ↓AM.Y.isT_tup, ↓AM.Y.isS_some, ↓AM.Y.isSS_some, ↓AM.Y.isO_lst, ↓AM.Y.isO_dct, AM.Y.ifB_bl, AM.Y.isI_int, AM.Y.isT_tup, AM.Y.isS_some, AM.Y.isSS_some, AM.Y.isO_lst, AM.Y.isO_dct, List.getElem?_cons_zero, List.getElem?_cons_succ, List.set_cons_zero, List.set_cons_succ, AM.Y.at0, AM.Y.at1, AM.Y.at2, AM.Y.at3, AM.Y.srcV, AM.Y.enumV, AM.tyOf, AM.tyIs, AM.isiV, AM.Y.isNon_non, AM.Y.isNon_bl, AM.Y.isNon_int, AM.Y.isNon_str, AM.Y.isNon_tup, AM.Y.isNon_rol, AM.Y.isNon_ref, Bool.not_true, Bool.not_false, Bool.true_eq_false, Bool.false_eq_true, ↓reduceIte, decide_true, decide_false, decide_eq_true_eq, Option.map_some, Option.map_none, Option.isSome_some, Option.isSome_none, List.length_cons, List.length_nil, List.isEmpty_cons, List.isEmpty_nil, true_and, and_true, Bool.or_false, Bool.false_or, Bool.or_true, Bool.true_or, Nat.zero_add, Nat.reduceAdd, AM.lim, Nat.reduceLeDiff, List.set, AM.wipeE, AM.Y.xcP, reduceCtorEq, imp_self, implies_true, not_false_eq_true]
    refine wp_q (w_first_full (d := d + 4) (f3.get (f2.get hq)) g hl2 hp1) fun v4 h4 q => ?_
    obtain ⟨q4, f4⟩ := q
    have hv4 := fstV_eq q4
    subst hv4
    subst hv
    try simp -implicitDefEqProofs only [↓AM.Y.y_var, ↓AM.Y.y_non, ↓AM.Y.y_bl, ↓AM.Y.y_int, ↓AM.Y.y_str, ↓AM.Y.y_ty, ↓AM.Y.y_tup, ↓AM.Y.y_lst, ↓AM.Y.y_dct0, ↓AM.Y.y_bin, ↓AM.Y.y_neg, ↓AM.Y.y_not, ↓AM.Y.y_and, ↓AM.Y.y_or, ↓AM.Y.y_cmp, ↓AM.Y.y_cmp2, ↓AM.Y.y_isN, ↓AM.Y.y_ntN, ↓AM.Y.y_isB, ↓AM.Y.y_ntB, ↓AM.Y.y_ife, ↓AM.Y.y_call, ↓AM.Y.y_bi, ↓AM.Y.y_mt, ↓AM.Y.y_idx, ↓AM.Y.y_slc, ↓AM.Y.y_lc, ↓AM.Y.y_lrng, ↓AM.Y.y_nil, ↓AM.Y.y_cons, ↓AM.Y.y_none, ↓AM.Y.y_some, ↓AM.Y.y_cnone, ↓AM.Y.y_csome, ↓AM.Y.t_not, ↓AM.Y.t_and, ↓AM.Y.t_or, ↓AM.Y.t_var, ↓AM.Y.t_cmp, ↓AM.Y.t_cmp2, ↓AM.Y.t_isN, ↓AM.Y.t_ntN, ↓AM.Y.t_isB, ↓AM.Y.t_ntB, ↓AM.Y.t_call, ↓AM.Y.t_bi, ↓AM.Y.t_idx, ↓AM.Y.i_seq, ↓AM.Y.i_rng1, ↓AM.Y.i_rng2, ↓AM.Y.i_enum, ↓AM.Y.i_zip, ↓AM.Y.g_nm, ↓AM.Y.g_tup, ↓AM.Y.g_sub, ↓AM.Y.g_nil, ↓AM.Y.g_cons, ↓AM.Y.s_nil', ↓AM.Y.s_cons', ↓AM.Y.s_asg, ↓AM.Y.s_asg2', ↓AM.Y.s_asg3', ↓AM.Y.s_par2', ↓AM.Y.s_par3', ↓AM.Y.s_aug', ↓AM.Y.s_expr', ↓AM.Y.s_ret', ↓AM.Y.s_retN', ↓AM.Y.s_iff', ↓AM.Y.s_for', ↓AM.Y.s_whl', ↓AM.Y.s_pass', ↓AM.Y.s_brk', ↓AM.Y.s_cnt', ↓AM.Y.s_never', ↓AM.Y.truth_bl, ↓AM.Y.truth_non, ↓AM.Y.truth_int, ↓AM.Y.truth_tup, ↓AM.Y.truth_rol, ↓AM.Y.truth_ref, ↓AM.Y.o_add, ↓AM.Y.o_sub, ↓AM.Y.o_mul, ↓AM.Y.o_mod, ↓AM.Y.o_fdv, ↓AM.Y.o_pow, ↓AM.Y.o_addL, ↓AM.Y.c_eq, ↓AM.Y.c_ne, ↓AM.Y.c_lt, ↓AM.Y.c_le, ↓AM.Y.c_gt, ↓AM.Y.c_ge, ↓AM.Y.c_inn, ↓AM.Y.c_nin, ↓AM.Y.has_dct, ↓AM.Y.x_tup, ↓AM.Y.x_rol, ↓AM.Y.x_ref, ↓AM.Y.x_set, ↓AM.Y.x_slcR, ↓AM.Y.x_slcL, ↓AM.Y.b_len_tup, ↓AM.Y.b_len_rol, ↓AM.Y.b_len_ref, ↓AM.Y.b_isi, ↓AM.Y.b_isi2, ↓AM.Y.b_int, ↓AM.Y.b_intb, ↓AM.Y.b_sum, ↓AM.Y.b_max2, ↓AM.Y.b_min2, ↓AM.Y.b_max1, ↓AM.Y.b_min1, ↓AM.Y.b_lst_tup, ↓AM.Y.b_lst_rol, ↓AM.Y.b_lst_ref, ↓AM.Y.b_all, ↓AM.Y.b_any, ↓AM.Y.k_app, ↓AM.Y.k_bits, ↓AM.Y.k_cnt, ↓AM.Y.m_app, ↓AM.Y.m_bits, ↓AM.Y.n_add, ↓AM.Y.n_sub, AM.wp_ok, AM.wp_no, ↓AM.wp_ret, ↓AM.wp_fail, ↓AM.wp_end, ↓AM.thn_nx, ↓AM.thn_rt, ↓AM.thn_bk, ↓AM.thn_ct, ↓AM.thn_xc, ↓AM.endP_nx, ↓AM.endP_rt, ↓AM.endP_xc, ↓AM.lpP_nx, ↓AM.lpP_ct, ↓AM.lpP_bk, ↓AM.lpP_rt, ↓AM.lpP_xc, ↓AM.Y.ifB_bl, ↓AM.Y.isI_int, ↓AM.Y.isT_tup, ↓AM.Y.isS_some, ↓AM.Y.isSS_some, ↓AM.Y.isO_lst, ↓AM.Y.isO_dct, AM.Y.ifB_bl, AM.Y.isI_int, AM.Y.isT_tup, AM.Y.isS_some, AM.Y.isSS_some, AM.Y.isO_lst, AM.Y.isO_dct, List.getElem?_cons_zero, List.getElem?_cons_succ, List.set_cons_zero, List.set_cons_succ, AM.Y.at0, AM.Y.at1, AM.Y.at2, AM.Y.at3, AM.Y.srcV, AM.Y.enumV, AM.tyOf, AM.tyIs, AM.isiV, AM.Y.isNon_non, AM.Y.isNon_bl, AM.Y.isNon_int, AM.Y.isNon_str, AM.Y.isNon_tup, AM.Y.isNon_rol, AM.Y.isNon_ref, Bool.not_true, Bool.not_false, Bool.true_eq_false, Bool.false_eq_true, ↓reduceIte, decide_true, decide_false, decide_eq_true_eq, Option.map_some, Option.map_none, Option.isSome_some, Option.isSome_none, List.length_cons, List.length_nil, List.isEmpty_cons, List.isEmpty_nil, true_and, and_true, Bool.or_false, Bool.false_or, Bool.or_true, Bool.true_or, Nat.zero_add, Nat.reduceAdd, AM.lim, Nat.reduceLeDiff, List.set, AM.wipeE, AM.Y.xcP, reduceCtorEq, imp_self, implies_true, not_false_eq_true]
    have e1 : ∀ o1 o2, Fr [] h4 ((h4 ++ [o1]) ++ [o2]) := fun o1 o2 => (Fr.alloc _).trans (Fr.alloc _)
    have hq4 := f4.get (f3.get (f2.get hq))
    have hr4 := f4.get (f3.get (f2.get (f.get hr)))
    refine wp_q (w_exactT (fns := fns) (g := 16) (n := 3) (m := 2004) (p := .list [.bool (decide (least l ≤ p)), fstD (full l p), lifeD l]) rfl (TreS.list (.cons (tre_bl _) (.cons (fst_tre _) (.cons (life_tre hl2) .nil)))) (by omega) (by omega) ?_ ?_) fun v5 h5 q => ?_
    · exact .ref (get_app get_new _) (.cons (.bl _) (.cons (fst_dt _) (.cons (life_dt ((e1 _ _).get hq4)) .nil)))
    · exact .ref get_new (.cons (by rw [nv]; exact .bl _) (.cons (fst_dt _) (.cons (life_dt ((e1 _ _).get hr4)) .nil)))
    · obtain ⟨rfl, f5⟩ := q
      try simp -implicitDefEqProofs only [↓AM.Y.y_var, ↓AM.Y.y_non, ↓AM.Y.y_bl, ↓AM.Y.y_int, ↓AM.Y.y_str, ↓AM.Y.y_ty, ↓AM.Y.y_tup, ↓AM.Y.y_lst, ↓AM.Y.y_dct0, ↓AM.Y.y_bin, ↓AM.Y.y_neg, ↓AM.Y.y_not, ↓AM.Y.y_and, ↓AM.Y.y_or, ↓AM.Y.y_cmp, ↓AM.Y.y_cmp2, ↓AM.Y.y_isN, ↓AM.Y.y_ntN, ↓AM.Y.y_isB, ↓AM.Y.y_ntB, ↓AM.Y.y_ife, ↓AM.Y.y_call, ↓AM.Y.y_bi, ↓AM.Y.y_mt, ↓AM.Y.y_idx, ↓AM.Y.y_slc, ↓AM.Y.y_lc, ↓AM.Y.y_lrng, ↓AM.Y.y_nil, ↓AM.Y.y_cons, ↓AM.Y.y_none, ↓AM.Y.y_some, ↓AM.Y.y_cnone, ↓AM.Y.y_csome, ↓AM.Y.t_not, ↓AM.Y.t_and, ↓AM.Y.t_or, ↓AM.Y.t_var, ↓AM.Y.t_cmp, ↓AM.Y.t_cmp2, ↓AM.Y.t_isN, ↓AM.Y.t_ntN, ↓AM.Y.t_isB, ↓AM.Y.t_ntB, ↓AM.Y.t_call, ↓AM.Y.t_bi, ↓AM.Y.t_idx, ↓AM.Y.i_seq, ↓AM.Y.i_rng1, ↓AM.Y.i_rng2, ↓AM.Y.i_enum, ↓AM.Y.i_zip, ↓AM.Y.g_nm, ↓AM.Y.g_tup, ↓AM.Y.g_sub, ↓AM.Y.g_nil, ↓AM.Y.g_cons, ↓AM.Y.s_nil', ↓AM.Y.s_cons', ↓AM.Y.s_asg, ↓AM.Y.s_asg2', ↓AM.Y.s_asg3', ↓AM.Y.s_par2', ↓AM.Y.s_par3', ↓AM.Y.s_aug', ↓AM.Y.s_expr', ↓AM.Y.s_ret', ↓AM.Y.s_retN', ↓AM.Y.s_iff', ↓AM.Y.s_for', ↓AM.Y.s_whl', ↓AM.Y.s_pass', ↓AM.Y.s_brk', ↓AM.Y.s_cnt', ↓AM.Y.s_never', ↓AM.Y.truth_bl, ↓AM.Y.truth_non, ↓AM.Y.truth_int, ↓AM.Y.truth_tup, ↓AM.Y.truth_rol, ↓AM.Y.truth_ref, ↓AM.Y.o_add, ↓AM.Y.o_sub, ↓AM.Y.o_mul, ↓AM.Y.o_mod, ↓AM.Y.o_fdv, ↓AM.Y.o_pow, ↓AM.Y.o_addL, ↓AM.Y.c_eq, ↓AM.Y.c_ne, ↓AM.Y.c_lt, ↓AM.Y.c_le, ↓AM.Y.c_gt, ↓AM.Y.c_ge, ↓AM.Y.c_inn, ↓AM.Y.c_nin, ↓AM.Y.has_dct, ↓AM.Y.x_tup, ↓AM.Y.x_rol, ↓AM.Y.x_ref, ↓AM.Y.x_set, ↓AM.Y.x_slcR, ↓AM.Y.x_slcL, ↓AM.Y.b_len_tup, ↓AM.Y.b_len_rol, ↓AM.Y.b_len_ref, ↓AM.Y.b_isi, ↓AM.Y.b_isi2, ↓AM.Y.b_int, ↓AM.Y.b_intb, ↓AM.Y.b_sum, ↓AM.Y.b_max2, ↓AM.Y.b_min2, ↓AM.Y.b_max1, ↓AM.Y.b_min1, ↓AM.Y.b_lst_tup, ↓AM.Y.b_lst_rol, ↓AM.Y.b_lst_ref, ↓AM.Y.b_all, ↓AM.Y.b_any, ↓AM.Y.k_app, ↓AM.Y.k_bits, ↓AM.Y.k_cnt, ↓AM.Y.m_app, ↓AM.Y.m_bits, ↓AM.Y.n_add, ↓AM.Y.n_sub, AM.wp_ok, AM.wp_no, ↓AM.wp_ret, ↓AM.wp_fail, ↓AM.wp_end, ↓AM.thn_nx, ↓AM.thn_rt, ↓AM.thn_bk, ↓AM.thn_ct, ↓AM.thn_xc, ↓AM.endP_nx, ↓AM.endP_rt, ↓AM.endP_xc, ↓AM.lpP_nx, ↓AM.lpP_ct, ↓AM.lpP_bk, ↓AM.lpP_rt, ↓AM.lpP_xc, ↓AM.Y.ifB_bl, ↓AM.Y.isI_int, ↓AM.Y.isT_tup, ↓AM.Y.isS_some, ↓AM.Y.isSS_some, ↓AM.Y.isO_lst, ↓AM.Y.isO_dct, AM.Y.ifB_bl, AM.Y.isI_int, AM.Y.isT_tup, AM.Y.isS_some, AM.Y.isSS_some, AM.Y.isO_lst, AM.Y.isO_dct, List.getElem?_cons_zero, List.getElem?_cons_succ, List.set_cons_zero, List.set_cons_succ, AM.Y.at0, AM.Y.at1, AM.Y.at2, AM.Y.at3, AM.Y.srcV, AM.Y.enumV, AM.tyOf, AM.tyIs, AM.isiV, AM.Y.isNon_non, AM.Y.isNon_bl, AM.Y.isNon_int, AM.Y.isNon_str, AM.Y.isNon_tup, AM.Y.isNon_rol, AM.Y.isNon_ref, Bool.not_true, Bool.not_false, Bool.true_eq_false, Bool.false_eq_true, ↓reduceIte, decide_true, decide_false, decide_eq_true_eq, Option.map_some, Option.map_none, Option.isSome_some, Option.isSome_none, List.length_cons, List.length_nil, List.isEmpty_cons, List.isEmpty_nil, true_and, and_true, Bool.or_false, Bool.false_or, Bool.or_true, Bool.true_or, Nat.zero_add, Nat.reduceAdd, AM.lim, Nat.reduceLeDiff, List.set, AM.wipeE, AM.Y.xcP, reduceCtorEq, imp_self, implies_true, not_false_eq_true]
      have ff := ((((f.trans f2).trans f3).trans f4).trans (e1 _ _)).trans f5
      exact ⟨ff, _, _, _, _, _, _, rfl, f5.get ((e1 _ _).get hq4)⟩
  · obtain ⟨f, a, b, c, e, f', g', rfl, hq⟩ := I
    simp -implicitDefEqProofs only [↓AM.Y.y_var, ↓AM.Y.y_non, ↓AM.Y.y_bl, ↓AM.Y.y_int, ↓AM.Y.y_str, ↓AM.Y.y_ty, ↓AM.Y.y_tup, ↓AM.Y.y_lst, ↓AM.Y.y_dct0, ↓AM.Y.y_bin, ↓AM.Y.y_neg, ↓AM.Y.y_not, ↓AM.Y.y_and, ↓AM.Y.y_or, ↓AM.Y.y_cmp, ↓AM.Y.y_cmp2, ↓AM.Y.y_isN, ↓AM.Y.y_ntN, ↓AM.Y.y_isB, ↓AM.Y.y_ntB, ↓AM.Y.y_ife, ↓AM.Y.y_call, ↓AM.Y.y_bi, ↓AM.Y.y_mt, ↓AM.Y.y_idx, ↓AM.Y.y_slc, ↓AM.Y.y_lc, ↓AM.Y.y_lrng, ↓AM.Y.y_nil, ↓AM.Y.y_cons, ↓AM.Y.y_none, ↓AM.Y.y_some, ↓AM.Y.y_cnone, ↓AM.Y.y_csome, ↓AM.Y.t_not, ↓AM.Y.t_and, ↓AM.Y.t_or, ↓AM.Y.t_var, ↓AM.Y.t_cmp, ↓AM.Y.t_cmp2, ↓AM.Y.t_isN, ↓AM.Y.t_ntN, ↓AM.Y.t_isB, ↓AM.Y.t_ntB, ↓AM.Y.t_call, ↓AM.Y.t_bi, ↓AM.Y.t_idx, ↓AM.Y.i_seq, ↓AM.Y.i_rng1, ↓AM.Y.i_rng2, ↓AM.Y.i_enum, ↓AM.Y.i_zip, ↓AM.Y.g_nm, ↓AM.Y.g_tup, ↓AM.Y.g_sub, ↓AM.Y.g_nil, ↓AM.Y.g_cons, ↓AM.Y.s_nil', ↓AM.Y.s_cons', ↓AM.Y.s_asg, ↓AM.Y.s_asg2', ↓AM.Y.s_asg3', ↓AM.Y.s_par2', ↓AM.Y.s_par3', ↓AM.Y.s_aug', ↓AM.Y.s_expr', ↓AM.Y.s_ret', ↓AM.Y.s_retN', ↓AM.Y.s_iff', ↓AM.Y.s_for', ↓AM.Y.s_whl', ↓AM.Y.s_pass', ↓AM.Y.s_brk', ↓AM.Y.s_cnt', ↓AM.Y.s_never', ↓AM.Y.truth_bl, ↓AM.Y.truth_non, ↓AM.Y.truth_int, ↓AM.Y.truth_tup, ↓AM.Y.truth_rol, ↓AM.Y.truth_ref, ↓AM.Y.o_add, ↓AM.Y.o_sub, ↓AM.Y.o_mul, ↓AM.Y.o_mod, ↓AM.Y.o_fdv, ↓AM.Y.o_pow, ↓AM.Y.o_addL, ↓AM.Y.c_eq, ↓AM.Y.c_ne, ↓AM.Y.c_lt, ↓AM.Y.c_le, ↓AM.Y.c_gt, ↓AM.Y.c_ge, ↓AM.Y.c_inn, ↓AM.Y.c_nin, ↓AM.Y.has_dct, ↓AM.Y.x_tup, ↓AM.Y.x_rol, ↓AM.Y.x_ref, ↓AM.Y.x_set, ↓AM.Y.x_slcR, ↓AM.Y.x_slcL, ↓AM.Y.b_len_tup, ↓AM.Y.b_len_rol, ↓AM.Y.b_len_ref, ↓AM.Y.b_isi, ↓AM.Y.b_isi2, ↓AM.Y.b_int, ↓AM.Y.b_intb, ↓AM.Y.b_sum, ↓AM.Y.b_max2, ↓AM.Y.b_min2, ↓AM.Y.b_max1, ↓AM.Y.b_min1, ↓AM.Y.b_lst_tup, ↓AM.Y.b_lst_rol, ↓AM.Y.b_lst_ref, ↓AM.Y.b_all, ↓AM.Y.b_any, ↓AM.Y.k_app, ↓AM.Y.k_bits, ↓AM.Y.k_cnt, ↓AM.Y.m_app, ↓AM.Y.m_bits, ↓AM.Y.n_add, ↓AM.Y.n_sub, AM.wp_ok, AM.wp_no, ↓AM.wp_ret, ↓AM.wp_fail, ↓AM.wp_end, ↓AM.thn_nx, ↓AM.thn_rt, ↓AM.thn_bk, ↓AM.thn_ct, ↓AM.thn_xc, ↓AM.endP_nx, ↓AM.endP_rt, ↓AM.endP_xc, ↓AM.lpP_nx, ↓AM.lpP_ct, ↓AM.lpP_bk, ↓AM.lpP_rt, ↓AM.lpP_xc, ↓AM.Y.ifB_bl, ↓AM.Y.isI_int, ↓AM.Y.isT_tup, ↓AM.Y.isS_some, ↓AM.Y.isSS_some, ↓AM.Y.isO_lst, ↓AM.Y.isO_dct, AM.Y.ifB_bl, AM.Y.isI_int, AM.Y.isT_tup, AM.Y.isS_some, AM.Y.isSS_some, AM.Y.isO_lst, AM.Y.isO_dct, List.getElem?_cons_zero, List.getElem?_cons_succ, List.set_cons_zero, List.set_cons_succ, AM.Y.at0, AM.Y.at1, AM.Y.at2, AM.Y.at3, AM.Y.srcV, AM.Y.enumV, AM.tyOf, AM.tyIs, AM.isiV, AM.Y.isNon_non, AM.Y.isNon_bl, AM.Y.isNon_int, AM.Y.isNon_str, AM.Y.isNon_tup, AM.Y.isNon_rol, AM.Y.isNon_ref, Bool.not_true, Bool.not_false, Bool.true_eq_false, Bool.false_eq_true, ↓reduceIte, decide_true, decide_false, decide_eq_true_eq, Option.map_some, Option.map_none, Option.isSome_some, Option.isSome_none, List.length_cons, List.length_nil, List.isEmpty_cons, List.isEmpty_nil, true_and, and_true, Bool.or_false, Bool.false_or, Bool.or_true, Bool.true_or, Nat.zero_add, Nat.reduceAdd, AM.lim, Nat.reduceLeDiff, List.set, AM.wipeE, AM.Y.xcP, reduceCtorEq, imp_self, implies_true, not_false_eq_true]
    refine ⟨by omega, cmp_told (fun k acc h2 => Fr [] h1 h2 ∧ (k < least l → acc = []) ∧ (least l ≤ k → acc[0]? = some (.int (least l))) ∧ acc.length ≤ k) (fun k x acc h2 hk I => ?_) (fun acc h2 I => ?_) ⟨Fr.refl, fun _ => rfl, fun z => by omega, Nat.le_refl _⟩⟩
    · obtain ⟨f2, i1, i2, i3⟩ := I
      obtain ⟨kk, rfl⟩ := rngL_at hk
      have kk : k < 15 := by simpa using kk
      obtain ⟨p, hp, hp1⟩ : ∃ p : Nat, (1 + (k : Int)) = (p : Int) ∧ p = k + 1 := ⟨k + 1, by omega, rfl⟩
      rw [hp]
      simp -implicitDefEqProofs only [↓AM.Y.y_var, ↓AM.Y.y_non, ↓AM.Y.y_bl, ↓AM.Y.y_int, ↓AM.Y.y_str, ↓AM.Y.y_ty, ↓AM.Y.y_tup, ↓AM.Y.y_lst, ↓AM.Y.y_dct0, ↓AM.Y.y_bin, ↓AM.Y.y_neg, ↓AM.Y.y_not, ↓AM.Y.y_and, ↓AM.Y.y_or, ↓AM.Y.y_cmp, ↓AM.Y.y_cmp2, ↓AM.Y.y_isN, ↓AM.Y.y_ntN, ↓AM.Y.y_isB, ↓AM.Y.y_ntB, ↓AM.Y.y_ife, ↓AM.Y.y_call, ↓AM.Y.y_bi, ↓AM.Y.y_mt, ↓AM.Y.y_idx, ↓AM.Y.y_slc, ↓AM.Y.y_lc, ↓AM.Y.y_lrng, ↓AM.Y.y_nil, ↓AM.Y.y_cons, ↓AM.Y.y_none, ↓AM.Y.y_some, ↓AM.Y.y_cnone, ↓AM.Y.y_csome, ↓AM.Y.t_not, ↓AM.Y.t_and, ↓AM.Y.t_or, ↓AM.Y.t_var, ↓AM.Y.t_cmp, ↓AM.Y.t_cmp2, ↓AM.Y.t_isN, ↓AM.Y.t_ntN, ↓AM.Y.t_isB, ↓AM.Y.t_ntB, ↓AM.Y.t_call, ↓AM.Y.t_bi, ↓AM.Y.t_idx, ↓AM.Y.i_seq, ↓AM.Y.i_rng1, ↓AM.Y.i_rng2, ↓AM.Y.i_enum, ↓AM.Y.i_zip, ↓AM.Y.g_nm, ↓AM.Y.g_tup, ↓AM.Y.g_sub, ↓AM.Y.g_nil, ↓AM.Y.g_cons, ↓AM.Y.s_nil', ↓AM.Y.s_cons', ↓AM.Y.s_asg, ↓AM.Y.s_asg2', ↓AM.Y.s_asg3', ↓AM.Y.s_par2', ↓AM.Y.s_par3', ↓AM.Y.s_aug', ↓AM.Y.s_expr', ↓AM.Y.s_ret', ↓AM.Y.s_retN', ↓AM.Y.s_iff', ↓AM.Y.s_for', ↓AM.Y.s_whl', ↓AM.Y.s_pass', ↓AM.Y.s_brk', ↓AM.Y.s_cnt', ↓AM.Y.s_never', ↓AM.Y.truth_bl, ↓AM.Y.truth_non, ↓AM.Y.truth_int, ↓AM.Y.truth_tup, ↓AM.Y.truth_rol, ↓AM.Y.truth_ref, ↓AM.Y.o_add, ↓AM.Y.o_sub, ↓AM.Y.o_mul, ↓AM.Y.o_mod, ↓AM.Y.o_fdv, ↓AM.Y.o_pow, ↓AM.Y.o_addL, ↓AM.Y.c_eq, ↓AM.Y.c_ne, ↓AM.Y.c_lt, ↓AM.Y.c_le, ↓AM.Y.c_gt, ↓AM.Y.c_ge, ↓AM.Y.c_inn, ↓AM.Y.c_nin, ↓AM.Y.has_dct, ↓AM.Y.x_tup, ↓AM.Y.x_rol, ↓AM.Y.x_ref, ↓AM.Y.x_set, ↓AM.Y.x_slcR, ↓AM.Y.x_slcL, ↓AM.Y.b_len_tup, ↓AM.Y.b_len_rol, ↓AM.Y.b_len_ref, ↓AM.Y.b_isi, ↓AM.Y.b_isi2, ↓AM.Y.b_int, ↓AM.Y.b_intb, ↓AM.Y.b_sum, ↓AM.Y.b_max2, ↓AM.Y.b_min2, ↓AM.Y.b_max1, ↓AM.Y.b_min1, ↓AM.Y.b_lst_tup, ↓AM.Y.b_lst_rol, ↓AM.Y.b_lst_ref, ↓AM.Y.b_all, ↓AM.Y.b_any, ↓AM.Y.k_app, ↓AM.Y.k_bits, ↓AM.Y.k_cnt, ↓AM.Y.m_app, ↓AM.Y.m_bits, ↓AM.Y.n_add, ↓AM.Y.n_sub, AM.wp_ok, AM.wp_no, ↓AM.wp_ret, ↓AM.wp_fail, ↓AM.wp_end, ↓AM.thn_nx, ↓AM.thn_rt, ↓AM.thn_bk, ↓AM.thn_ct, ↓AM.thn_xc, ↓AM.endP_nx, ↓AM.endP_rt, ↓AM.endP_xc, ↓AM.lpP_nx, ↓AM.lpP_ct, ↓AM.lpP_bk, ↓AM.lpP_rt, ↓AM.lpP_xc, ↓AM.Y.ifB_bl, ↓AM.Y.isI_int, ↓AM.Y.isT_tup, ↓AM.Y.isS_some, ↓AM.Y.isSS_some, ↓AM.Y.isO_lst, ↓AM.Y.isO_dct, AM.Y.ifB_bl, AM.Y.isI_int, AM.Y.isT_tup, AM.Y.isS_some, AM.Y.isSS_some, AM.Y.isO_lst, AM.Y.isO_dct, List.getElem?_cons_zero, List.getElem?_cons_succ, List.set_cons_zero, List.set_cons_succ, AM.Y.at0, AM.Y.at1, AM.Y.at2, AM.Y.at3, AM.Y.srcV, AM.Y.enumV, AM.tyOf, AM.tyIs, AM.isiV, AM.Y.isNon_non, AM.Y.isNon_bl, AM.Y.isNon_int, AM.Y.isNon_str, AM.Y.isNon_tup, AM.Y.isNon_rol, AM.Y.isNon_ref, Bool.not_true, Bool.not_false, Bool.true_eq_false, Bool.false_eq_true, ↓reduceIte, decide_true, decide_false, decide_eq_true_eq, Option.map_some, Option.map_none, Option.isSome_some, Option.isSome_none, List.length_cons, List.length_nil, List.isEmpty_cons, List.isEmpty_nil, true_and, and_true, Bool.or_false, Bool.false_or, Bool.or_true, Bool.true_or, Nat.zero_add, Nat.reduceAdd, AM.lim, Nat.reduceLeDiff, List.set, AM.wipeE, AM.Y.xcP, reduceCtorEq, imp_self, implies_true, not_false_eq_true]
      refine wp_q (w_ring (d := d + 8) (f2.get (f.get hr)) g hl2 (p := p) (by omega)) fun v h3 q => ?_
      obtain ⟨q, f3⟩ := q
      try simp -implicitDefEqProofs only [↓AM.Y.y_var, ↓AM.Y.y_non, ↓AM.Y.y_bl, ↓AM.Y.y_int, ↓AM.Y.y_str, ↓AM.Y.y_ty, ↓AM.Y.y_tup, ↓AM.Y.y_lst, ↓AM.Y.y_dct0, ↓AM.Y.y_bin, ↓AM.Y.y_neg, ↓AM.Y.y_not, ↓AM.Y.y_and, ↓AM.Y.y_or, ↓AM.Y.y_cmp, ↓AM.Y.y_cmp2, ↓AM.Y.y_isN, ↓AM.Y.y_ntN, ↓AM.Y.y_isB, ↓AM.Y.y_ntB, ↓AM.Y.y_ife, ↓AM.Y.y_call, ↓AM.Y.y_bi, ↓AM.Y.y_mt, ↓AM.Y.y_idx, ↓AM.Y.y_slc, ↓AM.Y.y_lc, ↓AM.Y.y_lrng, ↓AM.Y.y_nil, ↓AM.Y.y_cons, ↓AM.Y.y_none, ↓AM.Y.y_some, ↓AM.Y.y_cnone, ↓AM.Y.y_csome, ↓AM.Y.t_not, ↓AM.Y.t_and, ↓AM.Y.t_or, ↓AM.Y.t_var, ↓AM.Y.t_cmp, ↓AM.Y.t_cmp2, ↓AM.Y.t_isN, ↓AM.Y.t_ntN, ↓AM.Y.t_isB, ↓AM.Y.t_ntB, ↓AM.Y.t_call, ↓AM.Y.t_bi, ↓AM.Y.t_idx, ↓AM.Y.i_seq, ↓AM.Y.i_rng1, ↓AM.Y.i_rng2, ↓AM.Y.i_enum, ↓AM.Y.i_zip, ↓AM.Y.g_nm, ↓AM.Y.g_tup, ↓AM.Y.g_sub, ↓AM.Y.g_nil, ↓AM.Y.g_cons, ↓AM.Y.s_nil', ↓AM.Y.s_cons', ↓AM.Y.s_asg, ↓AM.Y.s_asg2', ↓AM.Y.s_asg3', ↓AM.Y.s_par2', ↓AM.Y.s_par3', ↓AM.Y.s_aug', ↓AM.Y.s_expr', ↓AM.Y.s_ret', ↓AM.Y.s_retN', ↓AM.Y.s_iff', ↓AM.Y.s_for', ↓AM.Y.s_whl', ↓AM.Y.s_pass', ↓AM.Y.s_brk', ↓AM.Y.s_cnt', ↓AM.Y.s_never', ↓AM.Y.truth_bl, ↓AM.Y.truth_non, ↓AM.Y.truth_int, ↓AM.Y.truth_tup, ↓AM.Y.truth_rol, ↓AM.Y.truth_ref, ↓AM.Y.o_add, ↓AM.Y.o_sub, ↓AM.Y.o_mul, ↓AM.Y.o_mod, ↓AM.Y.o_fdv, ↓AM.Y.o_pow, ↓AM.Y.o_addL, ↓AM.Y.c_eq, ↓AM.Y.c_ne, ↓AM.Y.c_lt, ↓AM.Y.c_le, ↓AM.Y.c_gt, ↓AM.Y.c_ge, ↓AM.Y.c_inn, ↓AM.Y.c_nin, ↓AM.Y.has_dct, ↓AM.Y.x_tup, ↓AM.Y.x_rol, ↓AM.Y.x_ref, ↓AM.Y.x_set, ↓AM.Y.x_slcR, ↓AM.Y.x_slcL, ↓AM.Y.b_len_tup, ↓AM.Y.b_len_rol, ↓AM.Y.b_len_ref, ↓AM.Y.b_isi, ↓AM.Y.b_isi2, ↓AM.Y.b_int, ↓AM.Y.b_intb, ↓AM.Y.b_sum, ↓AM.Y.b_max2, ↓AM.Y.b_min2, ↓AM.Y.b_max1, ↓AM.Y.b_min1, ↓AM.Y.b_lst_tup, ↓AM.Y.b_lst_rol, ↓AM.Y.b_lst_ref, ↓AM.Y.b_all, ↓AM.Y.b_any, ↓AM.Y.k_app, ↓AM.Y.k_bits, ↓AM.Y.k_cnt, ↓AM.Y.m_app, ↓AM.Y.m_bits, ↓AM.Y.n_add, ↓AM.Y.n_sub, AM.wp_ok, AM.wp_no, ↓AM.wp_ret, ↓AM.wp_fail, ↓AM.wp_end, ↓AM.thn_nx, ↓AM.thn_rt, ↓AM.thn_bk, ↓AM.thn_ct, ↓AM.thn_xc, ↓AM.endP_nx, ↓AM.endP_rt, ↓AM.endP_xc, ↓AM.lpP_nx, ↓AM.lpP_ct, ↓AM.lpP_bk, ↓AM.lpP_rt, ↓AM.lpP_xc, ↓AM.Y.ifB_bl, ↓AM.Y.isI_int, ↓AM.Y.isT_tup, ↓AM.Y.isS_some, ↓AM.Y.isSS_some, ↓AM.Y.isO_lst, ↓AM.Y.isO_dct, AM.Y.ifB_bl, AM.Y.isI_int, AM.Y.isT_tup, AM.Y.isS_some, AM.Y.isSS_some, AM.Y.isO_lst, AM.Y.isO_dct, List.getElem?_cons_zero, List.getElem?_cons_succ, List.set_cons_zero, List.set_cons_succ, AM.Y.at0, AM.Y.at1, AM.Y.at2, AM.Y.at3, AM.Y.srcV, AM.Y.enumV, AM.tyOf, AM.tyIs, AM.isiV, AM.Y.isNon_non, AM.Y.isNon_bl, AM.Y.isNon_int, AM.Y.isNon_str, AM.Y.isNon_tup, AM.Y.isNon_rol, AM.Y.isNon_ref, Bool.not_true, Bool.not_false, Bool.true_eq_false, Bool.false_eq_true, ↓reduceIte, decide_true, decide_false, decide_eq_true_eq, Option.map_some, Option.map_none, Option.isSome_some, Option.isSome_none, List.length_cons, List.length_nil, List.isEmpty_cons, List.isEmpty_nil, true_and, and_true, Bool.or_false, Bool.false_or, Bool.or_true, Bool.true_or, Nat.zero_add, Nat.reduceAdd, AM.lim, Nat.reduceLeDiff, List.set, AM.wipeE, AM.Y.xcP, reduceCtorEq, imp_self, implies_true, not_false_eq_true]
      rw [first_non g (by omega) q]
      by_cases z : least l ≤ p
      · simp -implicitDefEqProofs only [↓AM.Y.y_var, ↓AM.Y.y_non, ↓AM.Y.y_bl, ↓AM.Y.y_int, ↓AM.Y.y_str, ↓AM.Y.y_ty, ↓AM.Y.y_tup, ↓AM.Y.y_lst, ↓AM.Y.y_dct0, ↓AM.Y.y_bin, ↓AM.Y.y_neg, ↓AM.Y.y_not, ↓AM.Y.y_and, ↓AM.Y.y_or, ↓AM.Y.y_cmp, ↓AM.Y.y_cmp2, ↓AM.Y.y_isN, ↓AM.Y.y_ntN, ↓AM.Y.y_isB, ↓AM.Y.y_ntB, ↓AM.Y.y_ife, ↓AM.Y.y_call, ↓AM.Y.y_bi, ↓AM.Y.y_mt, ↓AM.Y.y_idx, ↓AM.Y.y_slc, ↓AM.Y.y_lc, ↓AM.Y.y_lrng, ↓AM.Y.y_nil, ↓AM.Y.y_cons, ↓AM.Y.y_none, ↓AM.Y.y_some, ↓AM.Y.y_cnone, ↓AM.Y.y_csome, ↓AM.Y.t_not, ↓AM.Y.t_and, ↓AM.Y.t_or, ↓AM.Y.t_var, ↓AM.Y.t_cmp, ↓AM.Y.t_cmp2, ↓AM.Y.t_isN, ↓AM.Y.t_ntN, ↓AM.Y.t_isB, ↓AM.Y.t_ntB, ↓AM.Y.t_call, ↓AM.Y.t_bi, ↓AM.Y.t_idx, ↓AM.Y.i_seq, ↓AM.Y.i_rng1, ↓AM.Y.i_rng2, ↓AM.Y.i_enum, ↓AM.Y.i_zip, ↓AM.Y.g_nm, ↓AM.Y.g_tup, ↓AM.Y.g_sub, ↓AM.Y.g_nil, ↓AM.Y.g_cons, ↓AM.Y.s_nil', ↓AM.Y.s_cons', ↓AM.Y.s_asg, ↓AM.Y.s_asg2', ↓AM.Y.s_asg3', ↓AM.Y.s_par2', ↓AM.Y.s_par3', ↓AM.Y.s_aug', ↓AM.Y.s_expr', ↓AM.Y.s_ret', ↓AM.Y.s_retN', ↓AM.Y.s_iff', ↓AM.Y.s_for', ↓AM.Y.s_whl', ↓AM.Y.s_pass', ↓AM.Y.s_brk', ↓AM.Y.s_cnt', ↓AM.Y.s_never', ↓AM.Y.truth_bl, ↓AM.Y.truth_non, ↓AM.Y.truth_int, ↓AM.Y.truth_tup, ↓AM.Y.truth_rol, ↓AM.Y.truth_ref, ↓AM.Y.o_add, ↓AM.Y.o_sub, ↓AM.Y.o_mul, ↓AM.Y.o_mod, ↓AM.Y.o_fdv, ↓AM.Y.o_pow, ↓AM.Y.o_addL, ↓AM.Y.c_eq, ↓AM.Y.c_ne, ↓AM.Y.c_lt, ↓AM.Y.c_le, ↓AM.Y.c_gt, ↓AM.Y.c_ge, ↓AM.Y.c_inn, ↓AM.Y.c_nin, ↓AM.Y.has_dct, ↓AM.Y.x_tup, ↓AM.Y.x_rol, ↓AM.Y.x_ref, ↓AM.Y.x_set, ↓AM.Y.x_slcR, ↓AM.Y.x_slcL, ↓AM.Y.b_len_tup, ↓AM.Y.b_len_rol, ↓AM.Y.b_len_ref, ↓AM.Y.b_isi, ↓AM.Y.b_isi2, ↓AM.Y.b_int, ↓AM.Y.b_intb, ↓AM.Y.b_sum, ↓AM.Y.b_max2, ↓AM.Y.b_min2, ↓AM.Y.b_max1, ↓AM.Y.b_min1, ↓AM.Y.b_lst_tup, ↓AM.Y.b_lst_rol, ↓AM.Y.b_lst_ref, ↓AM.Y.b_all, ↓AM.Y.b_any, ↓AM.Y.k_app, ↓AM.Y.k_bits, ↓AM.Y.k_cnt, ↓AM.Y.m_app, ↓AM.Y.m_bits, ↓AM.Y.n_add, ↓AM.Y.n_sub, AM.wp_ok, AM.wp_no, ↓AM.wp_ret, ↓AM.wp_fail, ↓AM.wp_end, ↓AM.thn_nx, ↓AM.thn_rt, ↓AM.thn_bk, ↓AM.thn_ct, ↓AM.thn_xc, ↓AM.endP_nx, ↓AM.endP_rt, ↓AM.endP_xc, ↓AM.lpP_nx, ↓AM.lpP_ct, ↓AM.lpP_bk, ↓AM.lpP_rt, ↓AM.lpP_xc, ↓AM.Y.ifB_bl, ↓AM.Y.isI_int, ↓AM.Y.isT_tup, ↓AM.Y.isS_some, ↓AM.Y.isSS_some, ↓AM.Y.isO_lst, ↓AM.Y.isO_dct, AM.Y.ifB_bl, AM.Y.isI_int, AM.Y.isT_tup, AM.Y.isS_some, AM.Y.isSS_some, AM.Y.isO_lst, AM.Y.isO_dct, List.getElem?_cons_zero, List.getElem?_cons_succ, List.set_cons_zero, List.set_cons_succ, AM.Y.at0, AM.Y.at1, AM.Y.at2, AM.Y.at3, AM.Y.srcV, AM.Y.enumV, AM.tyOf, AM.tyIs, AM.isiV, AM.Y.isNon_non, AM.Y.isNon_bl, AM.Y.isNon_int, AM.Y.isNon_str, AM.Y.isNon_tup, AM.Y.isNon_rol, AM.Y.isNon_ref, Bool.not_true, Bool.not_false, Bool.true_eq_false, Bool.false_eq_true, ↓reduceIte, decide_true, decide_false, decide_eq_true_eq, Option.map_some, Option.map_none, Option.isSome_some, Option.isSome_none, List.length_cons, List.length_nil, List.isEmpty_cons, List.isEmpty_nil, true_and, and_true, Bool.or_false, Bool.false_or, Bool.or_true, Bool.true_or, Nat.zero_add, Nat.reduceAdd, AM.lim, Nat.reduceLeDiff, List.set, AM.wipeE, AM.Y.xcP, reduceCtorEq, imp_self, implies_true, not_false_eq_true, z]
        refine ⟨by omega, f2.trans f3, fun w => by omega, fun w => ?_, by simp; omega⟩
        by_cases w2 : least l ≤ k
        · rw [List.getElem?_append_left (by have := i2 w2; exact (List.getElem?_eq_some_iff.mp this).1)]
          exact i2 w2
        · rw [i1 (by omega)]
          have : p = least l := by omega
          rw [this]
          rfl
      · simp -implicitDefEqProofs only [↓AM.Y.y_var, ↓AM.Y.y_non, ↓AM.Y.y_bl, ↓AM.Y.y_int, ↓AM.Y.y_str, ↓AM.Y.y_ty, ↓AM.Y.y_tup, ↓AM.Y.y_lst, ↓AM.Y.y_dct0, ↓AM.Y.y_bin, ↓AM.Y.y_neg, ↓AM.Y.y_not, ↓AM.Y.y_and, ↓AM.Y.y_or, ↓AM.Y.y_cmp, ↓AM.Y.y_cmp2, ↓AM.Y.y_isN, ↓AM.Y.y_ntN, ↓AM.Y.y_isB, ↓AM.Y.y_ntB, ↓AM.Y.y_ife, ↓AM.Y.y_call, ↓AM.Y.y_bi, ↓AM.Y.y_mt, ↓AM.Y.y_idx, ↓AM.Y.y_slc, ↓AM.Y.y_lc, ↓AM.Y.y_lrng, ↓AM.Y.y_nil, ↓AM.Y.y_cons, ↓AM.Y.y_none, ↓AM.Y.y_some, ↓AM.Y.y_cnone, ↓AM.Y.y_csome, ↓AM.Y.t_not, ↓AM.Y.t_and, ↓AM.Y.t_or, ↓AM.Y.t_var, ↓AM.Y.t_cmp, ↓AM.Y.t_cmp2, ↓AM.Y.t_isN, ↓AM.Y.t_ntN, ↓AM.Y.t_isB, ↓AM.Y.t_ntB, ↓AM.Y.t_call, ↓AM.Y.t_bi, ↓AM.Y.t_idx, ↓AM.Y.i_seq, ↓AM.Y.i_rng1, ↓AM.Y.i_rng2, ↓AM.Y.i_enum, ↓AM.Y.i_zip, ↓AM.Y.g_nm, ↓AM.Y.g_tup, ↓AM.Y.g_sub, ↓AM.Y.g_nil, ↓AM.Y.g_cons, ↓AM.Y.s_nil', ↓AM.Y.s_cons', ↓AM.Y.s_asg, ↓AM.Y.s_asg2', ↓AM.Y.s_asg3', ↓AM.Y.s_par2', ↓AM.Y.s_par3', ↓AM.Y.s_aug', ↓AM.Y.s_expr', ↓AM.Y.s_ret', ↓AM.Y.s_retN', ↓AM.Y.s_iff', ↓AM.Y.s_for', ↓AM.Y.s_whl', ↓AM.Y.s_pass', ↓AM.Y.s_brk', ↓AM.Y.s_cnt', ↓AM.Y.s_never', ↓AM.Y.truth_bl, ↓AM.Y.truth_non, ↓AM.Y.truth_int, ↓AM.Y.truth_tup, ↓AM.Y.truth_rol, ↓AM.Y.truth_ref, ↓AM.Y.o_add, ↓AM.Y.o_sub, ↓AM.Y.o_mul, ↓AM.Y.o_mod, ↓AM.Y.o_fdv, ↓AM.Y.o_pow, ↓AM.Y.o_addL, ↓AM.Y.c_eq, ↓AM.Y.c_ne, ↓AM.Y.c_lt, ↓AM.Y.c_le, ↓AM.Y.c_gt, ↓AM.Y.c_ge, ↓AM.Y.c_inn, ↓AM.Y.c_nin, ↓AM.Y.has_dct, ↓AM.Y.x_tup, ↓AM.Y.x_rol, ↓AM.Y.x_ref, ↓AM.Y.x_set, ↓AM.Y.x_slcR, ↓AM.Y.x_slcL, ↓AM.Y.b_len_tup, ↓AM.Y.b_len_rol, ↓AM.Y.b_len_ref, ↓AM.Y.b_isi, ↓AM.Y.b_isi2, ↓AM.Y.b_int, ↓AM.Y.b_intb, ↓AM.Y.b_sum, ↓AM.Y.b_max2, ↓AM.Y.b_min2, ↓AM.Y.b_max1, ↓AM.Y.b_min1, ↓AM.Y.b_lst_tup, ↓AM.Y.b_lst_rol, ↓AM.Y.b_lst_ref, ↓AM.Y.b_all, ↓AM.Y.b_any, ↓AM.Y.k_app, ↓AM.Y.k_bits, ↓AM.Y.k_cnt, ↓AM.Y.m_app, ↓AM.Y.m_bits, ↓AM.Y.n_add, ↓AM.Y.n_sub, AM.wp_ok, AM.wp_no, ↓AM.wp_ret, ↓AM.wp_fail, ↓AM.wp_end, ↓AM.thn_nx, ↓AM.thn_rt, ↓AM.thn_bk, ↓AM.thn_ct, ↓AM.thn_xc, ↓AM.endP_nx, ↓AM.endP_rt, ↓AM.endP_xc, ↓AM.lpP_nx, ↓AM.lpP_ct, ↓AM.lpP_bk, ↓AM.lpP_rt, ↓AM.lpP_xc, ↓AM.Y.ifB_bl, ↓AM.Y.isI_int, ↓AM.Y.isT_tup, ↓AM.Y.isS_some, ↓AM.Y.isSS_some, ↓AM.Y.isO_lst, ↓AM.Y.isO_dct, AM.Y.ifB_bl, AM.Y.isI_int, AM.Y.isT_tup, AM.Y.isS_some, AM.Y.isSS_some, AM.Y.isO_lst, AM.Y.isO_dct, List.getElem?_cons_zero, List.getElem?_cons_succ, List.set_cons_zero, List.set_cons_succ, AM.Y.at0, AM.Y.at1, AM.Y.at2, AM.Y.at3, AM.Y.srcV, AM.Y.enumV, AM.tyOf, AM.tyIs, AM.isiV, AM.Y.isNon_non, AM.Y.isNon_bl, AM.Y.isNon_int, AM.Y.isNon_str, AM.Y.isNon_tup, AM.Y.isNon_rol, AM.Y.isNon_ref, Bool.not_true, Bool.not_false, Bool.true_eq_false, Bool.false_eq_true, ↓reduceIte, decide_true, decide_false, decide_eq_true_eq, Option.map_some, Option.map_none, Option.isSome_some, Option.isSome_none, List.length_cons, List.length_nil, List.isEmpty_cons, List.isEmpty_nil, true_and, and_true, Bool.or_false, Bool.false_or, Bool.or_true, Bool.true_or, Nat.zero_add, Nat.reduceAdd, AM.lim, Nat.reduceLeDiff, List.set, AM.wipeE, AM.Y.xcP, reduceCtorEq, imp_self, implies_true, not_false_eq_true, z]
        exact ⟨f2.trans f3, fun w => i1 (by omega), fun w => by omega, by omega⟩
    · obtain ⟨f2, i1, i2, i3⟩ := I
      rw [rngL_len] at i2
      have hl0 : atI acc 0 = some (.int (least l)) := atk (k := 0) (i2 (by simpa using ll))
      have f12 := f.trans f2
      have hq2 := f2.get hq
      have hr2 := f12.get hr
      simp -implicitDefEqProofs only [↓AM.Y.y_var, ↓AM.Y.y_non, ↓AM.Y.y_bl, ↓AM.Y.y_int, ↓AM.Y.y_str, ↓AM.Y.y_ty, ↓AM.Y.y_tup, ↓AM.Y.y_lst, ↓AM.Y.y_dct0, ↓AM.Y.y_bin, ↓AM.Y.y_neg, ↓AM.Y.y_not, ↓AM.Y.y_and, ↓AM.Y.y_or, ↓AM.Y.y_cmp, ↓AM.Y.y_cmp2, ↓AM.Y.y_isN, ↓AM.Y.y_ntN, ↓AM.Y.y_isB, ↓AM.Y.y_ntB, ↓AM.Y.y_ife, ↓AM.Y.y_call, ↓AM.Y.y_bi, ↓AM.Y.y_mt, ↓AM.Y.y_idx, ↓AM.Y.y_slc, ↓AM.Y.y_lc, ↓AM.Y.y_lrng, ↓AM.Y.y_nil, ↓AM.Y.y_cons, ↓AM.Y.y_none, ↓AM.Y.y_some, ↓AM.Y.y_cnone, ↓AM.Y.y_csome, ↓AM.Y.t_not, ↓AM.Y.t_and, ↓AM.Y.t_or, ↓AM.Y.t_var, ↓AM.Y.t_cmp, ↓AM.Y.t_cmp2, ↓AM.Y.t_isN, ↓AM.Y.t_ntN, ↓AM.Y.t_isB, ↓AM.Y.t_ntB, ↓AM.Y.t_call, ↓AM.Y.t_bi, ↓AM.Y.t_idx, ↓AM.Y.i_seq, ↓AM.Y.i_rng1, ↓AM.Y.i_rng2, ↓AM.Y.i_enum, ↓AM.Y.i_zip, ↓AM.Y.g_nm, ↓AM.Y.g_tup, ↓AM.Y.g_sub, ↓AM.Y.g_nil, ↓AM.Y.g_cons, ↓AM.Y.s_nil', ↓AM.Y.s_cons', ↓AM.Y.s_asg, ↓AM.Y.s_asg2', ↓AM.Y.s_asg3', ↓AM.Y.s_par2', ↓AM.Y.s_par3', ↓AM.Y.s_aug', ↓AM.Y.s_expr', ↓AM.Y.s_ret', ↓AM.Y.s_retN', ↓AM.Y.s_iff', ↓AM.Y.s_for', ↓AM.Y.s_whl', ↓AM.Y.s_pass', ↓AM.Y.s_brk', ↓AM.Y.s_cnt', ↓AM.Y.s_never', ↓AM.Y.truth_bl, ↓AM.Y.truth_non, ↓AM.Y.truth_int, ↓AM.Y.truth_tup, ↓AM.Y.truth_rol, ↓AM.Y.truth_ref, ↓AM.Y.o_add, ↓AM.Y.o_sub, ↓AM.Y.o_mul, ↓AM.Y.o_mod, ↓AM.Y.o_fdv, ↓AM.Y.o_pow, ↓AM.Y.o_addL, ↓AM.Y.c_eq, ↓AM.Y.c_ne, ↓AM.Y.c_lt, ↓AM.Y.c_le, ↓AM.Y.c_gt, ↓AM.Y.c_ge, ↓AM.Y.c_inn, ↓AM.Y.c_nin, ↓AM.Y.has_dct, ↓AM.Y.x_tup, ↓AM.Y.x_rol, ↓AM.Y.x_ref, ↓AM.Y.x_set, ↓AM.Y.x_slcR, ↓AM.Y.x_slcL, ↓AM.Y.b_len_tup, ↓AM.Y.b_len_rol, ↓AM.Y.b_len_ref, ↓AM.Y.b_isi, ↓AM.Y.b_isi2, ↓AM.Y.b_int, ↓AM.Y.b_intb, ↓AM.Y.b_sum, ↓AM.Y.b_max2, ↓AM.Y.b_min2, ↓AM.Y.b_max1, ↓AM.Y.b_min1, ↓AM.Y.b_lst_tup, ↓AM.Y.b_lst_rol, ↓AM.Y.b_lst_ref, ↓AM.Y.b_all, ↓AM.Y.b_any, ↓AM.Y.k_app, ↓AM.Y.k_bits, ↓AM.Y.k_cnt, ↓AM.Y.m_app, ↓AM.Y.m_bits, ↓AM.Y.n_add, ↓AM.Y.n_sub, AM.wp_ok, AM.wp_no, ↓AM.wp_ret, ↓AM.wp_fail, ↓AM.wp_end, ↓AM.thn_nx, ↓AM.thn_rt, ↓AM.thn_bk, ↓AM.thn_ct, ↓AM.thn_xc, ↓AM.endP_nx, ↓AM.endP_rt, ↓AM.endP_xc, ↓AM.lpP_nx, ↓AM.lpP_ct, ↓AM.lpP_bk, ↓AM.lpP_rt, ↓AM.lpP_xc, ↓AM.Y.ifB_bl, ↓AM.Y.isI_int, ↓AM.Y.isT_tup, ↓AM.Y.isS_some, ↓AM.Y.isSS_some, ↓AM.Y.isO_lst, ↓AM.Y.isO_dct, AM.Y.ifB_bl, AM.Y.isI_int, AM.Y.isT_tup, AM.Y.isS_some, AM.Y.isSS_some, AM.Y.isO_lst, AM.Y.isO_dct, List.getElem?_cons_zero, List.getElem?_cons_succ, List.set_cons_zero, List.set_cons_succ, AM.Y.at0, AM.Y.at1, AM.Y.at2, AM.Y.at3, AM.Y.srcV, AM.Y.enumV, AM.tyOf, AM.tyIs, AM.isiV, AM.Y.isNon_non, AM.Y.isNon_bl, AM.Y.isNon_int, AM.Y.isNon_str, AM.Y.isNon_tup, AM.Y.isNon_rol, AM.Y.isNon_ref, Bool.not_true, Bool.not_false, Bool.true_eq_false, Bool.false_eq_true, ↓reduceIte, decide_true, decide_false, decide_eq_true_eq, Option.map_some, Option.map_none, Option.isSome_some, Option.isSome_none, List.length_cons, List.length_nil, List.isEmpty_cons, List.isEmpty_nil, true_and, and_true, Bool.or_false, Bool.false_or, Bool.or_true, Bool.true_or, Nat.zero_add, Nat.reduceAdd, AM.lim, Nat.reduceLeDiff, List.set, AM.wipeE, AM.Y.xcP, reduceCtorEq, imp_self, implies_true, not_false_eq_true, get_new, hl0]
      refine wp_q (w_least_places (d := d + 5) (get_app hq2 _) g hl2) fun v h3 q => ?_
      obtain ⟨rfl, f3⟩ := q
      try simp -implicitDefEqProofs only [↓AM.Y.y_var, ↓AM.Y.y_non, ↓AM.Y.y_bl, ↓AM.Y.y_int, ↓AM.Y.y_str, ↓AM.Y.y_ty, ↓AM.Y.y_tup, ↓AM.Y.y_lst, ↓AM.Y.y_dct0, ↓AM.Y.y_bin, ↓AM.Y.y_neg, ↓AM.Y.y_not, ↓AM.Y.y_and, ↓AM.Y.y_or, ↓AM.Y.y_cmp, ↓AM.Y.y_cmp2, ↓AM.Y.y_isN, ↓AM.Y.y_ntN, ↓AM.Y.y_isB, ↓AM.Y.y_ntB, ↓AM.Y.y_ife, ↓AM.Y.y_call, ↓AM.Y.y_bi, ↓AM.Y.y_mt, ↓AM.Y.y_idx, ↓AM.Y.y_slc, ↓AM.Y.y_lc, ↓AM.Y.y_lrng, ↓AM.Y.y_nil, ↓AM.Y.y_cons, ↓AM.Y.y_none, ↓AM.Y.y_some, ↓AM.Y.y_cnone, ↓AM.Y.y_csome, ↓AM.Y.t_not, ↓AM.Y.t_and, ↓AM.Y.t_or, ↓AM.Y.t_var, ↓AM.Y.t_cmp, ↓AM.Y.t_cmp2, ↓AM.Y.t_isN, ↓AM.Y.t_ntN, ↓AM.Y.t_isB, ↓AM.Y.t_ntB, ↓AM.Y.t_call, ↓AM.Y.t_bi, ↓AM.Y.t_idx, ↓AM.Y.i_seq, ↓AM.Y.i_rng1, ↓AM.Y.i_rng2, ↓AM.Y.i_enum, ↓AM.Y.i_zip, ↓AM.Y.g_nm, ↓AM.Y.g_tup, ↓AM.Y.g_sub, ↓AM.Y.g_nil, ↓AM.Y.g_cons, ↓AM.Y.s_nil', ↓AM.Y.s_cons', ↓AM.Y.s_asg, ↓AM.Y.s_asg2', ↓AM.Y.s_asg3', ↓AM.Y.s_par2', ↓AM.Y.s_par3', ↓AM.Y.s_aug', ↓AM.Y.s_expr', ↓AM.Y.s_ret', ↓AM.Y.s_retN', ↓AM.Y.s_iff', ↓AM.Y.s_for', ↓AM.Y.s_whl', ↓AM.Y.s_pass', ↓AM.Y.s_brk', ↓AM.Y.s_cnt', ↓AM.Y.s_never', ↓AM.Y.truth_bl, ↓AM.Y.truth_non, ↓AM.Y.truth_int, ↓AM.Y.truth_tup, ↓AM.Y.truth_rol, ↓AM.Y.truth_ref, ↓AM.Y.o_add, ↓AM.Y.o_sub, ↓AM.Y.o_mul, ↓AM.Y.o_mod, ↓AM.Y.o_fdv, ↓AM.Y.o_pow, ↓AM.Y.o_addL, ↓AM.Y.c_eq, ↓AM.Y.c_ne, ↓AM.Y.c_lt, ↓AM.Y.c_le, ↓AM.Y.c_gt, ↓AM.Y.c_ge, ↓AM.Y.c_inn, ↓AM.Y.c_nin, ↓AM.Y.has_dct, ↓AM.Y.x_tup, ↓AM.Y.x_rol, ↓AM.Y.x_ref, ↓AM.Y.x_set, ↓AM.Y.x_slcR, ↓AM.Y.x_slcL, ↓AM.Y.b_len_tup, ↓AM.Y.b_len_rol, ↓AM.Y.b_len_ref, ↓AM.Y.b_isi, ↓AM.Y.b_isi2, ↓AM.Y.b_int, ↓AM.Y.b_intb, ↓AM.Y.b_sum, ↓AM.Y.b_max2, ↓AM.Y.b_min2, ↓AM.Y.b_max1, ↓AM.Y.b_min1, ↓AM.Y.b_lst_tup, ↓AM.Y.b_lst_rol, ↓AM.Y.b_lst_ref, ↓AM.Y.b_all, ↓AM.Y.b_any, ↓AM.Y.k_app, ↓AM.Y.k_bits, ↓AM.Y.k_cnt, ↓AM.Y.m_app, ↓AM.Y.m_bits, ↓AM.Y.n_add, ↓AM.Y.n_sub, AM.wp_ok, AM.wp_no, ↓AM.wp_ret, ↓AM.wp_fail, ↓AM.wp_end, ↓AM.thn_nx, ↓AM.thn_rt, ↓AM.thn_bk, ↓AM.thn_ct, ↓AM.thn_xc, ↓AM.endP_nx, ↓AM.endP_rt, ↓AM.endP_xc, ↓AM.lpP_nx, ↓AM.lpP_ct, ↓AM.lpP_bk, ↓AM.lpP_rt, ↓AM.lpP_xc, ↓AM.Y.ifB_bl, ↓AM.Y.isI_int, ↓AM.Y.isT_tup, ↓AM.Y.isS_some, ↓AM.Y.isSS_some, ↓AM.Y.isO_lst, ↓AM.Y.isO_dct, AM.Y.ifB_bl, AM.Y.isI_int, AM.Y.isT_tup, AM.Y.isS_some, AM.Y.isSS_some, AM.Y.isO_lst, AM.Y.isO_dct, List.getElem?_cons_zero, List.getElem?_cons_succ, List.set_cons_zero, List.set_cons_succ, AM.Y.at0, AM.Y.at1, AM.Y.at2, AM.Y.at3, AM.Y.srcV, AM.Y.enumV, AM.tyOf, AM.tyIs, AM.isiV, AM.Y.isNon_non, AM.Y.isNon_bl, AM.Y.isNon_int, AM.Y.isNon_str, AM.Y.isNon_tup, AM.Y.isNon_rol, AM.Y.isNon_ref, Bool.not_true, Bool.not_false, Bool.true_eq_false, Bool.false_eq_true, ↓reduceIte, decide_true, decide_false, decide_eq_true_eq, Option.map_some, Option.map_none, Option.isSome_some, Option.isSome_none, List.length_cons, List.length_nil, List.isEmpty_cons, List.isEmpty_nil, true_and, and_true, Bool.or_false, Bool.false_or, Bool.or_true, Bool.true_or, Nat.zero_add, Nat.reduceAdd, AM.lim, Nat.reduceLeDiff, List.set, AM.wipeE, AM.Y.xcP, reduceCtorEq, imp_self, implies_true, not_false_eq_true]
      refine wp_q (w_fits (d := d + 4) (f3.get (get_app hr2 _)) g hl2 l1) fun v h4 q => ?_
      obtain ⟨rfl, f4⟩ := q
      try simp -implicitDefEqProofs only [↓AM.Y.y_var, ↓AM.Y.y_non, ↓AM.Y.y_bl, ↓AM.Y.y_int, ↓AM.Y.y_str, ↓AM.Y.y_ty, ↓AM.Y.y_tup, ↓AM.Y.y_lst, ↓AM.Y.y_dct0, ↓AM.Y.y_bin, ↓AM.Y.y_neg, ↓AM.Y.y_not, ↓AM.Y.y_and, ↓AM.Y.y_or, ↓AM.Y.y_cmp, ↓AM.Y.y_cmp2, ↓AM.Y.y_isN, ↓AM.Y.y_ntN, ↓AM.Y.y_isB, ↓AM.Y.y_ntB, ↓AM.Y.y_ife, ↓AM.Y.y_call, ↓AM.Y.y_bi, ↓AM.Y.y_mt, ↓AM.Y.y_idx, ↓AM.Y.y_slc, ↓AM.Y.y_lc, ↓AM.Y.y_lrng, ↓AM.Y.y_nil, ↓AM.Y.y_cons, ↓AM.Y.y_none, ↓AM.Y.y_some, ↓AM.Y.y_cnone, ↓AM.Y.y_csome, ↓AM.Y.t_not, ↓AM.Y.t_and, ↓AM.Y.t_or, ↓AM.Y.t_var, ↓AM.Y.t_cmp, ↓AM.Y.t_cmp2, ↓AM.Y.t_isN, ↓AM.Y.t_ntN, ↓AM.Y.t_isB, ↓AM.Y.t_ntB, ↓AM.Y.t_call, ↓AM.Y.t_bi, ↓AM.Y.t_idx, ↓AM.Y.i_seq, ↓AM.Y.i_rng1, ↓AM.Y.i_rng2, ↓AM.Y.i_enum, ↓AM.Y.i_zip, ↓AM.Y.g_nm, ↓AM.Y.g_tup, ↓AM.Y.g_sub, ↓AM.Y.g_nil, ↓AM.Y.g_cons, ↓AM.Y.s_nil', ↓AM.Y.s_cons', ↓AM.Y.s_asg, ↓AM.Y.s_asg2', ↓AM.Y.s_asg3', ↓AM.Y.s_par2', ↓AM.Y.s_par3', ↓AM.Y.s_aug', ↓AM.Y.s_expr', ↓AM.Y.s_ret', ↓AM.Y.s_retN', ↓AM.Y.s_iff', ↓AM.Y.s_for', ↓AM.Y.s_whl', ↓AM.Y.s_pass', ↓AM.Y.s_brk', ↓AM.Y.s_cnt', ↓AM.Y.s_never', ↓AM.Y.truth_bl, ↓AM.Y.truth_non, ↓AM.Y.truth_int, ↓AM.Y.truth_tup, ↓AM.Y.truth_rol, ↓AM.Y.truth_ref, ↓AM.Y.o_add, ↓AM.Y.o_sub, ↓AM.Y.o_mul, ↓AM.Y.o_mod, ↓AM.Y.o_fdv, ↓AM.Y.o_pow, ↓AM.Y.o_addL, ↓AM.Y.c_eq, ↓AM.Y.c_ne, ↓AM.Y.c_lt, ↓AM.Y.c_le, ↓AM.Y.c_gt, ↓AM.Y.c_ge, ↓AM.Y.c_inn, ↓AM.Y.c_nin, ↓AM.Y.has_dct, ↓AM.Y.x_tup, ↓AM.Y.x_rol, ↓AM.Y.x_ref, ↓AM.Y.x_set, ↓AM.Y.x_slcR, ↓AM.Y.x_slcL, ↓AM.Y.b_len_tup, ↓AM.Y.b_len_rol, ↓AM.Y.b_len_ref, ↓AM.Y.b_isi, ↓AM.Y.b_isi2, ↓AM.Y.b_int, ↓AM.Y.b_intb, ↓AM.Y.b_sum, ↓AM.Y.b_max2, ↓AM.Y.b_min2, ↓AM.Y.b_max1, ↓AM.Y.b_min1, ↓AM.Y.b_lst_tup, ↓AM.Y.b_lst_rol, ↓AM.Y.b_lst_ref, ↓AM.Y.b_all, ↓AM.Y.b_any, ↓AM.Y.k_app, ↓AM.Y.k_bits, ↓AM.Y.k_cnt, ↓AM.Y.m_app, ↓AM.Y.m_bits, ↓AM.Y.n_add, ↓AM.Y.n_sub, AM.wp_ok, AM.wp_no, ↓AM.wp_ret, ↓AM.wp_fail, ↓AM.wp_end, ↓AM.thn_nx, ↓AM.thn_rt, ↓AM.thn_bk, ↓AM.thn_ct, ↓AM.thn_xc, ↓AM.endP_nx, ↓AM.endP_rt, ↓AM.endP_xc, ↓AM.lpP_nx, ↓AM.lpP_ct, ↓AM.lpP_bk, ↓AM.lpP_rt, ↓AM.lpP_xc, ↓AM.Y.ifB_bl, ↓AM.Y.isI_int, ↓AM.Y.isT_tup, ↓AM.Y.isS_some, ↓AM.Y.isSS_some, ↓AM.Y.isO_lst, ↓AM.Y.isO_dct, AM.Y.ifB_bl, AM.Y.isI_int, AM.Y.isT_tup, AM.Y.isS_some, AM.Y.isSS_some, AM.Y.isO_lst, AM.Y.isO_dct, List.getElem?_cons_zero, List.getElem?_cons_succ, List.set_cons_zero, List.set_cons_succ, AM.Y.at0, AM.Y.at1, AM.Y.at2, AM.Y.at3, AM.Y.srcV, AM.Y.enumV, AM.tyOf, AM.tyIs, AM.isiV, AM.Y.isNon_non, AM.Y.isNon_bl, AM.Y.isNon_int, AM.Y.isNon_str, AM.Y.isNon_tup, AM.Y.isNon_rol, AM.Y.isNon_ref, Bool.not_true, Bool.not_false, Bool.true_eq_false, Bool.false_eq_true, ↓reduceIte, decide_true, decide_false, decide_eq_true_eq, Option.map_some, Option.map_none, Option.isSome_some, Option.isSome_none, List.length_cons, List.length_nil, List.isEmpty_cons, List.isEmpty_nil, true_and, and_true, Bool.or_false, Bool.false_or, Bool.or_true, Bool.true_or, Nat.zero_add, Nat.reduceAdd, AM.lim, Nat.reduceLeDiff, List.set, AM.wipeE, AM.Y.xcP, reduceCtorEq, imp_self, implies_true, not_false_eq_true]
      refine wp_q (w_first_full (d := d + 4) (p := 60) (f4.get (f3.get (get_app hr2 _))) g hl2 (by omega)) fun v h5 q => ?_
      obtain ⟨q, f5⟩ := q
      have nv := first_non g (p := 60) (by omega) q
      rw [decide_eq_true (by omega)] at nv
      have vn : v = .non := by
        cases v <;> first | rfl | cases nv
      subst vn
      try simp -implicitDefEqProofs only [↓AM.Y.y_var, ↓AM.Y.y_non, ↓AM.Y.y_bl, ↓AM.Y.y_int, ↓AM.Y.y_str, ↓AM.Y.y_ty, ↓AM.Y.y_tup, ↓AM.Y.y_lst, ↓AM.Y.y_dct0, ↓AM.Y.y_bin, ↓AM.Y.y_neg, ↓AM.Y.y_not, ↓AM.Y.y_and, ↓AM.Y.y_or, ↓AM.Y.y_cmp, ↓AM.Y.y_cmp2, ↓AM.Y.y_isN, ↓AM.Y.y_ntN, ↓AM.Y.y_isB, ↓AM.Y.y_ntB, ↓AM.Y.y_ife, ↓AM.Y.y_call, ↓AM.Y.y_bi, ↓AM.Y.y_mt, ↓AM.Y.y_idx, ↓AM.Y.y_slc, ↓AM.Y.y_lc, ↓AM.Y.y_lrng, ↓AM.Y.y_nil, ↓AM.Y.y_cons, ↓AM.Y.y_none, ↓AM.Y.y_some, ↓AM.Y.y_cnone, ↓AM.Y.y_csome, ↓AM.Y.t_not, ↓AM.Y.t_and, ↓AM.Y.t_or, ↓AM.Y.t_var, ↓AM.Y.t_cmp, ↓AM.Y.t_cmp2, ↓AM.Y.t_isN, ↓AM.Y.t_ntN, ↓AM.Y.t_isB, ↓AM.Y.t_ntB, ↓AM.Y.t_call, ↓AM.Y.t_bi, ↓AM.Y.t_idx, ↓AM.Y.i_seq, ↓AM.Y.i_rng1, ↓AM.Y.i_rng2, ↓AM.Y.i_enum, ↓AM.Y.i_zip, ↓AM.Y.g_nm, ↓AM.Y.g_tup, ↓AM.Y.g_sub, ↓AM.Y.g_nil, ↓AM.Y.g_cons, ↓AM.Y.s_nil', ↓AM.Y.s_cons', ↓AM.Y.s_asg, ↓AM.Y.s_asg2', ↓AM.Y.s_asg3', ↓AM.Y.s_par2', ↓AM.Y.s_par3', ↓AM.Y.s_aug', ↓AM.Y.s_expr', ↓AM.Y.s_ret', ↓AM.Y.s_retN', ↓AM.Y.s_iff', ↓AM.Y.s_for', ↓AM.Y.s_whl', ↓AM.Y.s_pass', ↓AM.Y.s_brk', ↓AM.Y.s_cnt', ↓AM.Y.s_never', ↓AM.Y.truth_bl, ↓AM.Y.truth_non, ↓AM.Y.truth_int, ↓AM.Y.truth_tup, ↓AM.Y.truth_rol, ↓AM.Y.truth_ref, ↓AM.Y.o_add, ↓AM.Y.o_sub, ↓AM.Y.o_mul, ↓AM.Y.o_mod, ↓AM.Y.o_fdv, ↓AM.Y.o_pow, ↓AM.Y.o_addL, ↓AM.Y.c_eq, ↓AM.Y.c_ne, ↓AM.Y.c_lt, ↓AM.Y.c_le, ↓AM.Y.c_gt, ↓AM.Y.c_ge, ↓AM.Y.c_inn, ↓AM.Y.c_nin, ↓AM.Y.has_dct, ↓AM.Y.x_tup, ↓AM.Y.x_rol, ↓AM.Y.x_ref, ↓AM.Y.x_set, ↓AM.Y.x_slcR, ↓AM.Y.x_slcL, ↓AM.Y.b_len_tup, ↓AM.Y.b_len_rol, ↓AM.Y.b_len_ref, ↓AM.Y.b_isi, ↓AM.Y.b_isi2, ↓AM.Y.b_int, ↓AM.Y.b_intb, ↓AM.Y.b_sum, ↓AM.Y.b_max2, ↓AM.Y.b_min2, ↓AM.Y.b_max1, ↓AM.Y.b_min1, ↓AM.Y.b_lst_tup, ↓AM.Y.b_lst_rol, ↓AM.Y.b_lst_ref, ↓AM.Y.b_all, ↓AM.Y.b_any, ↓AM.Y.k_app, ↓AM.Y.k_bits, ↓AM.Y.k_cnt, ↓AM.Y.m_app, ↓AM.Y.m_bits, ↓AM.Y.n_add, ↓AM.Y.n_sub, AM.wp_ok, AM.wp_no, ↓AM.wp_ret, ↓AM.wp_fail, ↓AM.wp_end, ↓AM.thn_nx, ↓AM.thn_rt, ↓AM.thn_bk, ↓AM.thn_ct, ↓AM.thn_xc, ↓AM.endP_nx, ↓AM.endP_rt, ↓AM.endP_xc, ↓AM.lpP_nx, ↓AM.lpP_ct, ↓AM.lpP_bk, ↓AM.lpP_rt, ↓AM.lpP_xc, ↓AM.Y.ifB_bl, ↓AM.Y.isI_int, ↓AM.Y.isT_tup, ↓AM.Y.isS_some, ↓AM.Y.isSS_some, ↓AM.Y.isO_lst, ↓AM.Y.isO_dct, AM.Y.ifB_bl, AM.Y.isI_int, AM.Y.isT_tup, AM.Y.isS_some, AM.Y.isSS_some, AM.Y.isO_lst, AM.Y.isO_dct, List.getElem?_cons_zero, List.getElem?_cons_succ, List.set_cons_zero, List.set_cons_succ, AM.Y.at0, AM.Y.at1, AM.Y.at2, AM.Y.at3, AM.Y.srcV, AM.Y.enumV, AM.tyOf, AM.tyIs, AM.isiV, AM.Y.isNon_non, AM.Y.isNon_bl, AM.Y.isNon_int, AM.Y.isNon_str, AM.Y.isNon_tup, AM.Y.isNon_rol, AM.Y.isNon_ref, Bool.not_true, Bool.not_false, Bool.true_eq_false, Bool.false_eq_true, ↓reduceIte, decide_true, decide_false, decide_eq_true_eq, Option.map_some, Option.map_none, Option.isSome_some, Option.isSome_none, List.length_cons, List.length_nil, List.isEmpty_cons, List.isEmpty_nil, true_and, and_true, Bool.or_false, Bool.false_or, Bool.or_true, Bool.true_or, Nat.zero_add, Nat.reduceAdd, AM.lim, Nat.reduceLeDiff, List.set, AM.wipeE, AM.Y.xcP, reduceCtorEq, imp_self, implies_true, not_false_eq_true]
      refine wp_q (w_exactT (fns := fns) (g := 16) (n := 3) (m := 2004) (p := .list [.int (least l), .bool true, .none]) rfl ((TreS.list (n := 0) (m := 3) (.cons (tre_int _) (.cons (tre_bl _) (.cons tre_non .nil)))).mono (by omega) (by omega)) (by omega) (by omega) ?_ ?_) fun v5 h6 q => ?_
      · exact .ref (get_app get_new _) (.cons (.int _) (.cons (by rw [decide_eq_true (Nat.le_refl _)]; exact .bl _) (.cons .non .nil)))
      · exact .ref get_new (.cons (.int _) (.cons (.bl _) (.cons .non .nil)))
      · obtain ⟨rfl, f6⟩ := q
        have ff : Fr [] h2 h6 := ((Fr.alloc _).trans (f3.trans (f4.trans f5))).trans (((Fr.alloc _).trans (Fr.alloc _)).trans f6)
        have hq6 := ff.get hq2
        have hr6 := ff.get hr2
        have f06 := f12.trans ff
        simp -implicitDefEqProofs only [↓AM.Y.y_var, ↓AM.Y.y_non, ↓AM.Y.y_bl, ↓AM.Y.y_int, ↓AM.Y.y_str, ↓AM.Y.y_ty, ↓AM.Y.y_tup, ↓AM.Y.y_lst, ↓AM.Y.y_dct0, ↓AM.Y.y_bin, ↓AM.Y.y_neg, ↓AM.Y.y_not, ↓AM.Y.y_and, ↓AM.Y.y_or, ↓AM.Y.y_cmp, ↓AM.Y.y_cmp2, ↓AM.Y.y_isN, ↓AM.Y.y_ntN, ↓AM.Y.y_isB, ↓AM.Y.y_ntB, ↓AM.Y.y_ife, ↓AM.Y.y_call, ↓AM.Y.y_bi, ↓AM.Y.y_mt, ↓AM.Y.y_idx, ↓AM.Y.y_slc, ↓AM.Y.y_lc, ↓AM.Y.y_lrng, ↓AM.Y.y_nil, ↓AM.Y.y_cons, ↓AM.Y.y_none, ↓AM.Y.y_some, ↓AM.Y.y_cnone, ↓AM.Y.y_csome, ↓AM.Y.t_not, ↓AM.Y.t_and, ↓AM.Y.t_or, ↓AM.Y.t_var, ↓AM.Y.t_cmp, ↓AM.Y.t_cmp2, ↓AM.Y.t_isN, ↓AM.Y.t_ntN, ↓AM.Y.t_isB, ↓AM.Y.t_ntB, ↓AM.Y.t_call, ↓AM.Y.t_bi, ↓AM.Y.t_idx, ↓AM.Y.i_seq, ↓AM.Y.i_rng1, ↓AM.Y.i_rng2, ↓AM.Y.i_enum, ↓AM.Y.i_zip, ↓AM.Y.g_nm, ↓AM.Y.g_tup, ↓AM.Y.g_sub, ↓AM.Y.g_nil, ↓AM.Y.g_cons, ↓AM.Y.s_nil', ↓AM.Y.s_cons', ↓AM.Y.s_asg, ↓AM.Y.s_asg2', ↓AM.Y.s_asg3', ↓AM.Y.s_par2', ↓AM.Y.s_par3', ↓AM.Y.s_aug', ↓AM.Y.s_expr', ↓AM.Y.s_ret', ↓AM.Y.s_retN', ↓AM.Y.s_iff', ↓AM.Y.s_for', ↓AM.Y.s_whl', ↓AM.Y.s_pass', ↓AM.Y.s_brk', ↓AM.Y.s_cnt', ↓AM.Y.s_never', ↓AM.Y.truth_bl, ↓AM.Y.truth_non, ↓AM.Y.truth_int, ↓AM.Y.truth_tup, ↓AM.Y.truth_rol, ↓AM.Y.truth_ref, ↓AM.Y.o_add, ↓AM.Y.o_sub, ↓AM.Y.o_mul, ↓AM.Y.o_mod, ↓AM.Y.o_fdv, ↓AM.Y.o_pow, ↓AM.Y.o_addL, ↓AM.Y.c_eq, ↓AM.Y.c_ne, ↓AM.Y.c_lt, ↓AM.Y.c_le, ↓AM.Y.c_gt, ↓AM.Y.c_ge, ↓AM.Y.c_inn, ↓AM.Y.c_nin, ↓AM.Y.has_dct, ↓AM.Y.x_tup, ↓AM.Y.x_rol, ↓AM.Y.x_ref, ↓AM.Y.x_set, ↓AM.Y.x_slcR, ↓AM.Y.x_slcL, ↓AM.Y.b_len_tup, ↓AM.Y.b_len_rol, ↓AM.Y.b_len_ref, ↓AM.Y.b_isi, ↓AM.Y.b_isi2, ↓AM.Y.b_int, ↓AM.Y.b_intb, ↓AM.Y.b_sum, ↓AM.Y.b_max2, ↓AM.Y.b_min2, ↓AM.Y.b_max1, ↓AM.Y.b_min1, ↓AM.Y.b_lst_tup, ↓AM.Y.b_lst_rol, ↓AM.Y.b_lst_ref, ↓AM.Y.b_all, ↓AM.Y.b_any, ↓AM.Y.k_app, ↓AM.Y.k_bits, ↓AM.Y.k_cnt, ↓AM.Y.m_app, ↓AM.Y.m_bits, ↓AM.Y.n_add, ↓AM.Y.n_sub, AM.wp_ok, AM.wp_no, ↓AM.wp_ret, ↓AM.wp_fail, ↓AM.wp_end, ↓AM.thn_nx, ↓AM.thn_rt, ↓AM.thn_bk, ↓AM.thn_ct, ↓AM.thn_xc, ↓AM.endP_nx, ↓AM.endP_rt, ↓AM.endP_xc, ↓AM.lpP_nx, ↓AM.lpP_ct, ↓AM.lpP_bk, ↓AM.lpP_rt, ↓AM.lpP_xc, ↓AM.Y.ifB_bl, ↓AM.Y.isI_int, ↓AM.Y.isT_tup, ↓AM.Y.isS_some, ↓AM.Y.isSS_some, ↓AM.Y.isO_lst, ↓AM.Y.isO_dct, AM.Y.ifB_bl, AM.Y.isI_int, AM.Y.isT_tup, AM.Y.isS_some, AM.Y.isSS_some, AM.Y.isO_lst, AM.Y.isO_dct, List.getElem?_cons_zero, List.getElem?_cons_succ, List.set_cons_zero, List.set_cons_succ, AM.Y.at0, AM.Y.at1, AM.Y.at2, AM.Y.at3, AM.Y.srcV, AM.Y.enumV, AM.tyOf, AM.tyIs, AM.isiV, AM.Y.isNon_non, AM.Y.isNon_bl, AM.Y.isNon_int, AM.Y.isNon_str, AM.Y.isNon_tup, AM.Y.isNon_rol, AM.Y.isNon_ref, Bool.not_true, Bool.not_false, Bool.true_eq_false, Bool.false_eq_true, ↓reduceIte, decide_true, decide_false, decide_eq_true_eq, Option.map_some, Option.map_none, Option.isSome_some, Option.isSome_none, List.length_cons, List.length_nil, List.isEmpty_cons, List.isEmpty_nil, true_and, and_true, Bool.or_false, Bool.false_or, Bool.or_true, Bool.true_or, Nat.zero_add, Nat.reduceAdd, AM.lim, Nat.reduceLeDiff, List.set, AM.wipeE, AM.Y.xcP, reduceCtorEq, imp_self, implies_true, not_false_eq_true, hr6, List.length_map]
        refine ⟨by omega, for_told (fun k σ h7 => Fr [] h6 h7 ∧ ∃ (a b c e f g : Option Vl), σ = [some (.ref r), some (.ref h.length), a, b, c, e, f, g]) (fun k x σ h7 hk I => ?_) (fun σ h7 I => ?_) ⟨Fr.refl, _, _, _, _, _, _, rfl⟩⟩
        · obtain ⟨f7, a, b, c, e, f', g', rfl⟩ := I
          obtain ⟨kk, rfl⟩ := rngL_at hk
          have kk : k ≤ l.length := by omega
          rw [show (0 + (k : Int)) = (k : Int) by omega]
          have hr7 := f7.get hr6
          have hq7 := f7.get hq6
          have gt := good_take g k
          have lt : (l.take k).length ≤ 1000 := by rw [List.length_take]; omega
          obtain ⟨t1, t2, t3⟩ := tally_le gt
          simp -implicitDefEqProofs only [↓AM.Y.y_var, ↓AM.Y.y_non, ↓AM.Y.y_bl, ↓AM.Y.y_int, ↓AM.Y.y_str, ↓AM.Y.y_ty, ↓AM.Y.y_tup, ↓AM.Y.y_lst, ↓AM.Y.y_dct0, ↓AM.Y.y_bin, ↓AM.Y.y_neg, ↓AM.Y.y_not, ↓AM.Y.y_and, ↓AM.Y.y_or, ↓AM.Y.y_cmp, ↓AM.Y.y_cmp2, ↓AM.Y.y_isN, ↓AM.Y.y_ntN, ↓AM.Y.y_isB, ↓AM.Y.y_ntB, ↓AM.Y.y_ife, ↓AM.Y.y_call, ↓AM.Y.y_bi, ↓AM.Y.y_mt, ↓AM.Y.y_idx, ↓AM.Y.y_slc, ↓AM.Y.y_lc, ↓AM.Y.y_lrng, ↓AM.Y.y_nil, ↓AM.Y.y_cons, ↓AM.Y.y_none, ↓AM.Y.y_some, ↓AM.Y.y_cnone, ↓AM.Y.y_csome, ↓AM.Y.t_not, ↓AM.Y.t_and, ↓AM.Y.t_or, ↓AM.Y.t_var, ↓AM.Y.t_cmp, ↓AM.Y.t_cmp2, ↓AM.Y.t_isN, ↓AM.Y.t_ntN, ↓AM.Y.t_isB, ↓AM.Y.t_ntB, ↓AM.Y.t_call, ↓AM.Y.t_bi, ↓AM.Y.t_idx, ↓AM.Y.i_seq, ↓AM.Y.i_rng1, ↓AM.Y.i_rng2, ↓AM.Y.i_enum, ↓AM.Y.i_zip, ↓AM.Y.g_nm, ↓AM.Y.g_tup, ↓AM.Y.g_sub, ↓AM.Y.g_nil, ↓AM.Y.g_cons, ↓AM.Y.s_nil', ↓AM.Y.s_cons', ↓AM.Y.s_asg, ↓AM.Y.s_asg2', ↓AM.Y.s_asg3', ↓AM.Y.s_par2', ↓AM.Y.s_par3', ↓AM.Y.s_aug', ↓AM.Y.s_expr', ↓AM.Y.s_ret', ↓AM.Y.s_retN', ↓AM.Y.s_iff', ↓AM.Y.s_for', ↓AM.Y.s_whl', ↓AM.Y.s_pass', ↓AM.Y.s_brk', ↓AM.Y.s_cnt', ↓AM.Y.s_never', ↓AM.Y.truth_bl, ↓AM.Y.truth_non, ↓AM.Y.truth_int, ↓AM.Y.truth_tup, ↓AM.Y.truth_rol, ↓AM.Y.truth_ref, ↓AM.Y.o_add, ↓AM.Y.o_sub, ↓AM.Y.o_mul, ↓AM.Y.o_mod, ↓AM.Y.o_fdv, ↓AM.Y.o_pow, ↓AM.Y.o_addL, ↓AM.Y.c_eq, ↓AM.Y.c_ne, ↓AM.Y.c_lt, ↓AM.Y.c_le, ↓AM.Y.c_gt, ↓AM.Y.c_ge, ↓AM.Y.c_inn, ↓AM.Y.c_nin, ↓AM.Y.has_dct, ↓AM.Y.x_tup, ↓AM.Y.x_rol, ↓AM.Y.x_ref, ↓AM.Y.x_set, ↓AM.Y.x_slcR, ↓AM.Y.x_slcL, ↓AM.Y.b_len_tup, ↓AM.Y.b_len_rol, ↓AM.Y.b_len_ref, ↓AM.Y.b_isi, ↓AM.Y.b_isi2, ↓AM.Y.b_int, ↓AM.Y.b_intb, ↓AM.Y.b_sum, ↓AM.Y.b_max2, ↓AM.Y.b_min2, ↓AM.Y.b_max1, ↓AM.Y.b_min1, ↓AM.Y.b_lst_tup, ↓AM.Y.b_lst_rol, ↓AM.Y.b_lst_ref, ↓AM.Y.b_all, ↓AM.Y.b_any, ↓AM.Y.k_app, ↓AM.Y.k_bits, ↓AM.Y.k_cnt, ↓AM.Y.m_app, ↓AM.Y.m_bits, ↓AM.Y.n_add, ↓AM.Y.n_sub, AM.wp_ok, AM.wp_no, ↓AM.wp_ret, ↓AM.wp_fail, ↓AM.wp_end, ↓AM.thn_nx, ↓AM.thn_rt, ↓AM.thn_bk, ↓AM.thn_ct, ↓AM.thn_xc, ↓AM.endP_nx, ↓AM.endP_rt, ↓AM.endP_xc, ↓AM.lpP_nx, ↓AM.lpP_ct, ↓AM.lpP_bk, ↓AM.lpP_rt, ↓AM.lpP_xc, ↓AM.Y.ifB_bl, ↓AM.Y.isI_int, ↓AM.Y.isT_tup, ↓AM.Y.isS_some, ↓AM.Y.isSS_some, ↓AM.Y.isO_lst, ↓AM.Y.isO_dct, AM.Y.ifB_bl, AM.Y.isI_int, AM.Y.isT_tup, AM.Y.isS_some, AM.Y.isSS_some, AM.Y.isO_lst, AM.Y.isO_dct, List.getElem?_cons_zero, List.getElem?_cons_succ, List.set_cons_zero, List.set_cons_succ, AM.Y.at0, AM.Y.at1, AM.Y.at2, AM.Y.at3, AM.Y.srcV, AM.Y.enumV, AM.tyOf, AM.tyIs, AM.isiV, AM.Y.isNon_non, AM.Y.isNon_bl, AM.Y.isNon_int, AM.Y.isNon_str, AM.Y.isNon_tup, AM.Y.isNon_rol, AM.Y.isNon_ref, Bool.not_true, Bool.not_false, Bool.true_eq_false, Bool.false_eq_true, ↓reduceIte, decide_true, decide_false, decide_eq_true_eq, Option.map_some, Option.map_none, Option.isSome_some, Option.isSome_none, List.length_cons, List.length_nil, List.isEmpty_cons, List.isEmpty_nil, true_and, and_true, Bool.or_false, Bool.false_or, Bool.or_true, Bool.true_or, Nat.zero_add, Nat.reduceAdd, AM.lim, Nat.reduceLeDiff, List.set, AM.wipeE, AM.Y.xcP, reduceCtorEq, imp_self, implies_true, not_false_eq_true]
          refine wp_q (w_gone (d := d + 8) hr7 (m := k)) fun v h8 q => ?_
          obtain ⟨rfl, f8⟩ := q
          have hr8 := f8.get hr7
          have sl : Dt (h8 ++ [Ob.lst ((l.take k).map Ev.v)]) (.ref h8.length) (lifeD (l.take k)) := life_dt get_new
          have cn : ∀ (Q : Vl → SH → Prop) (X : Nat → Vl → SH → Prop), wp (mtV .count (.ref h8.length) [.tup [.str (Str.ofString "line")]] (h8 ++ [Ob.lst ((l.take k).map Ev.v)])) Q X = Q (.int ((tally (l.take k)).1 : Nat)) (h8 ++ [Ob.lst ((l.take k).map Ev.v)]) := fun Q X => by
            rw [w_cnt (p := .tuple [.str sL]) sl (.tup (.cons (.str _) .nil)) (life_ok lt) (ok_t1 kL), count_lines]
          simp -implicitDefEqProofs only [↓AM.Y.y_var, ↓AM.Y.y_non, ↓AM.Y.y_bl, ↓AM.Y.y_int, ↓AM.Y.y_str, ↓AM.Y.y_ty, ↓AM.Y.y_tup, ↓AM.Y.y_lst, ↓AM.Y.y_dct0, ↓AM.Y.y_bin, ↓AM.Y.y_neg, ↓AM.Y.y_not, ↓AM.Y.y_and, ↓AM.Y.y_or, ↓AM.Y.y_cmp, ↓AM.Y.y_cmp2, ↓AM.Y.y_isN, ↓AM.Y.y_ntN, ↓AM.Y.y_isB, ↓AM.Y.y_ntB, ↓AM.Y.y_ife, ↓AM.Y.y_call, ↓AM.Y.y_bi, ↓AM.Y.y_mt, ↓AM.Y.y_idx, ↓AM.Y.y_slc, ↓AM.Y.y_lc, ↓AM.Y.y_lrng, ↓AM.Y.y_nil, ↓AM.Y.y_cons, ↓AM.Y.y_none, ↓AM.Y.y_some, ↓AM.Y.y_cnone, ↓AM.Y.y_csome, ↓AM.Y.t_not, ↓AM.Y.t_and, ↓AM.Y.t_or, ↓AM.Y.t_var, ↓AM.Y.t_cmp, ↓AM.Y.t_cmp2, ↓AM.Y.t_isN, ↓AM.Y.t_ntN, ↓AM.Y.t_isB, ↓AM.Y.t_ntB, ↓AM.Y.t_call, ↓AM.Y.t_bi, ↓AM.Y.t_idx, ↓AM.Y.i_seq, ↓AM.Y.i_rng1, ↓AM.Y.i_rng2, ↓AM.Y.i_enum, ↓AM.Y.i_zip, ↓AM.Y.g_nm, ↓AM.Y.g_tup, ↓AM.Y.g_sub, ↓AM.Y.g_nil, ↓AM.Y.g_cons, ↓AM.Y.s_nil', ↓AM.Y.s_cons', ↓AM.Y.s_asg, ↓AM.Y.s_asg2', ↓AM.Y.s_asg3', ↓AM.Y.s_par2', ↓AM.Y.s_par3', ↓AM.Y.s_aug', ↓AM.Y.s_expr', ↓AM.Y.s_ret', ↓AM.Y.s_retN', ↓AM.Y.s_iff', ↓AM.Y.s_for', ↓AM.Y.s_whl', ↓AM.Y.s_pass', ↓AM.Y.s_brk', ↓AM.Y.s_cnt', ↓AM.Y.s_never', ↓AM.Y.truth_bl, ↓AM.Y.truth_non, ↓AM.Y.truth_int, ↓AM.Y.truth_tup, ↓AM.Y.truth_rol, ↓AM.Y.truth_ref, ↓AM.Y.o_add, ↓AM.Y.o_sub, ↓AM.Y.o_mul, ↓AM.Y.o_mod, ↓AM.Y.o_fdv, ↓AM.Y.o_pow, ↓AM.Y.o_addL, ↓AM.Y.c_eq, ↓AM.Y.c_ne, ↓AM.Y.c_lt, ↓AM.Y.c_le, ↓AM.Y.c_gt, ↓AM.Y.c_ge, ↓AM.Y.c_inn, ↓AM.Y.c_nin, ↓AM.Y.has_dct, ↓AM.Y.x_tup, ↓AM.Y.x_rol, ↓AM.Y.x_ref, ↓AM.Y.x_set, ↓AM.Y.x_slcR, ↓AM.Y.x_slcL, ↓AM.Y.b_len_tup, ↓AM.Y.b_len_rol, ↓AM.Y.b_len_ref, ↓AM.Y.b_isi, ↓AM.Y.b_isi2, ↓AM.Y.b_int, ↓AM.Y.b_intb, ↓AM.Y.b_sum, ↓AM.Y.b_max2, ↓AM.Y.b_min2, ↓AM.Y.b_max1, ↓AM.Y.b_min1, ↓AM.Y.b_lst_tup, ↓AM.Y.b_lst_rol, ↓AM.Y.b_lst_ref, ↓AM.Y.b_all, ↓AM.Y.b_any, ↓AM.Y.k_app, ↓AM.Y.k_bits, ↓AM.Y.k_cnt, ↓AM.Y.m_app, ↓AM.Y.m_bits, ↓AM.Y.n_add, ↓AM.Y.n_sub, AM.wp_ok, AM.wp_no, ↓AM.wp_ret, ↓AM.wp_fail, ↓AM.wp_end, ↓AM.thn_nx, ↓AM.thn_rt, ↓AM.thn_bk, ↓AM.thn_ct, ↓AM.thn_xc, ↓AM.endP_nx, ↓AM.endP_rt, ↓AM.endP_xc, ↓AM.lpP_nx, ↓AM.lpP_ct, ↓AM.lpP_bk, ↓AM.lpP_rt, ↓AM.lpP_xc, ↓AM.Y.ifB_bl, ↓AM.Y.isI_int, ↓AM.Y.isT_tup, ↓AM.Y.isS_some, ↓AM.Y.isSS_some, ↓AM.Y.isO_lst, ↓AM.Y.isO_dct, AM.Y.ifB_bl, AM.Y.isI_int, AM.Y.isT_tup, AM.Y.isS_some, AM.Y.isSS_some, AM.Y.isO_lst, AM.Y.isO_dct, List.getElem?_cons_zero, List.getElem?_cons_succ, List.set_cons_zero, List.set_cons_succ, AM.Y.at0, AM.Y.at1, AM.Y.at2, AM.Y.at3, AM.Y.srcV, AM.Y.enumV, AM.tyOf, AM.tyIs, AM.isiV, AM.Y.isNon_non, AM.Y.isNon_bl, AM.Y.isNon_int, AM.Y.isNon_str, AM.Y.isNon_tup, AM.Y.isNon_rol, AM.Y.isNon_ref, Bool.not_true, Bool.not_false, Bool.true_eq_false, Bool.false_eq_true, ↓reduceIte, decide_true, decide_false, decide_eq_true_eq, Option.map_some, Option.map_none, Option.isSome_some, Option.isSome_none, List.length_cons, List.length_nil, List.isEmpty_cons, List.isEmpty_nil, true_and, and_true, Bool.or_false, Bool.false_or, Bool.or_true, Bool.true_or, Nat.zero_add, Nat.reduceAdd, AM.lim, Nat.reduceLeDiff, List.set, AM.wipeE, AM.Y.xcP, reduceCtorEq, imp_self, implies_true, not_false_eq_true, hr8, cut_take, ← List.map_take, li_ref get_new, cn]
          refine ⟨by omega, ?_⟩
          have hneed : rngL (((tally (l.take k)).2.2 : Int) + 1) (((tally (l.take k)).1 : Int) + 1 - (((tally (l.take k)).2.2 : Int) + 1)).toNat = need (l.take k) := rfl
          rw [hneed]
          have f9 : Fr [] h8 ((h8 ++ [Ob.lst ((l.take k).map Ev.v)]) ++ [Ob.lst (need (l.take k))]) := (Fr.alloc _).trans (Fr.alloc _)
          have hdue : ((h8 ++ [Ob.lst ((l.take k).map Ev.v)]) ++ [Ob.lst (need (l.take k))])[(h8 ++ [Ob.lst ((l.take k).map Ev.v)]).length]? = some (.lst (need (l.take k))) := get_new
          generalize (h8 ++ [Ob.lst ((l.take k).map Ev.v)]).length = D at *
          generalize ((h8 ++ [Ob.lst ((l.take k).map Ev.v)]) ++ [Ob.lst (need (l.take k))]) = h9 at *
          have hq9 := f9.get (f8.get hq7)
          refine wp_q (w_still (d := d + 4) hq9 g hl2 kk) fun v h10 q => ?_
          obtain ⟨A, rfl, hA, hA1, f10⟩ := q
          try simp -implicitDefEqProofs only [↓AM.Y.y_var, ↓AM.Y.y_non, ↓AM.Y.y_bl, ↓AM.Y.y_int, ↓AM.Y.y_str, ↓AM.Y.y_ty, ↓AM.Y.y_tup, ↓AM.Y.y_lst, ↓AM.Y.y_dct0, ↓AM.Y.y_bin, ↓AM.Y.y_neg, ↓AM.Y.y_not, ↓AM.Y.y_and, ↓AM.Y.y_or, ↓AM.Y.y_cmp, ↓AM.Y.y_cmp2, ↓AM.Y.y_isN, ↓AM.Y.y_ntN, ↓AM.Y.y_isB, ↓AM.Y.y_ntB, ↓AM.Y.y_ife, ↓AM.Y.y_call, ↓AM.Y.y_bi, ↓AM.Y.y_mt, ↓AM.Y.y_idx, ↓AM.Y.y_slc, ↓AM.Y.y_lc, ↓AM.Y.y_lrng, ↓AM.Y.y_nil, ↓AM.Y.y_cons, ↓AM.Y.y_none, ↓AM.Y.y_some, ↓AM.Y.y_cnone, ↓AM.Y.y_csome, ↓AM.Y.t_not, ↓AM.Y.t_and, ↓AM.Y.t_or, ↓AM.Y.t_var, ↓AM.Y.t_cmp, ↓AM.Y.t_cmp2, ↓AM.Y.t_isN, ↓AM.Y.t_ntN, ↓AM.Y.t_isB, ↓AM.Y.t_ntB, ↓AM.Y.t_call, ↓AM.Y.t_bi, ↓AM.Y.t_idx, ↓AM.Y.i_seq, ↓AM.Y.i_rng1, ↓AM.Y.i_rng2, ↓AM.Y.i_enum, ↓AM.Y.i_zip, ↓AM.Y.g_nm, ↓AM.Y.g_tup, ↓AM.Y.g_sub, ↓AM.Y.g_nil, ↓AM.Y.g_cons, ↓AM.Y.s_nil', ↓AM.Y.s_cons', ↓AM.Y.s_asg, ↓AM.Y.s_asg2', ↓AM.Y.s_asg3', ↓AM.Y.s_par2', ↓AM.Y.s_par3', ↓AM.Y.s_aug', ↓AM.Y.s_expr', ↓AM.Y.s_ret', ↓AM.Y.s_retN', ↓AM.Y.s_iff', ↓AM.Y.s_for', ↓AM.Y.s_whl', ↓AM.Y.s_pass', ↓AM.Y.s_brk', ↓AM.Y.s_cnt', ↓AM.Y.s_never', ↓AM.Y.truth_bl, ↓AM.Y.truth_non, ↓AM.Y.truth_int, ↓AM.Y.truth_tup, ↓AM.Y.truth_rol, ↓AM.Y.truth_ref, ↓AM.Y.o_add, ↓AM.Y.o_sub, ↓AM.Y.o_mul, ↓AM.Y.o_mod, ↓AM.Y.o_fdv, ↓AM.Y.o_pow, ↓AM.Y.o_addL, ↓AM.Y.c_eq, ↓AM.Y.c_ne, ↓AM.Y.c_lt, ↓AM.Y.c_le, ↓AM.Y.c_gt, ↓AM.Y.c_ge, ↓AM.Y.c_inn, ↓AM.Y.c_nin, ↓AM.Y.has_dct, ↓AM.Y.x_tup, ↓AM.Y.x_rol, ↓AM.Y.x_ref, ↓AM.Y.x_set, ↓AM.Y.x_slcR, ↓AM.Y.x_slcL, ↓AM.Y.b_len_tup, ↓AM.Y.b_len_rol, ↓AM.Y.b_len_ref, ↓AM.Y.b_isi, ↓AM.Y.b_isi2, ↓AM.Y.b_int, ↓AM.Y.b_intb, ↓AM.Y.b_sum, ↓AM.Y.b_max2, ↓AM.Y.b_min2, ↓AM.Y.b_max1, ↓AM.Y.b_min1, ↓AM.Y.b_lst_tup, ↓AM.Y.b_lst_rol, ↓AM.Y.b_lst_ref, ↓AM.Y.b_all, ↓AM.Y.b_any, ↓AM.Y.k_app, ↓AM.Y.k_bits, ↓AM.Y.k_cnt, ↓AM.Y.m_app, ↓AM.Y.m_bits, ↓AM.Y.n_add, ↓AM.Y.n_sub, AM.wp_ok, AM.wp_no, ↓AM.wp_ret, ↓AM.wp_fail, ↓AM.wp_end, ↓AM.thn_nx, ↓AM.thn_rt, ↓AM.thn_bk, ↓AM.thn_ct, ↓AM.thn_xc, ↓AM.endP_nx, ↓AM.endP_rt, ↓AM.endP_xc, ↓AM.lpP_nx, ↓AM.lpP_ct, ↓AM.lpP_bk, ↓AM.lpP_rt, ↓AM.lpP_xc, ↓AM.Y.ifB_bl, ↓AM.Y.isI_int, ↓AM.Y.isT_tup, ↓AM.Y.isS_some, ↓AM.Y.isSS_some, ↓AM.Y.isO_lst, ↓AM.Y.isO_dct, AM.Y.ifB_bl, AM.Y.isI_int, AM.Y.isT_tup, AM.Y.isS_some, AM.Y.isSS_some, AM.Y.isO_lst, AM.Y.isO_dct, List.getElem?_cons_zero, List.getElem?_cons_succ, List.set_cons_zero, List.set_cons_succ, AM.Y.at0, AM.Y.at1, AM.Y.at2, AM.Y.at3, AM.Y.srcV, AM.Y.enumV, AM.tyOf, AM.tyIs, AM.isiV, AM.Y.isNon_non, AM.Y.isNon_bl, AM.Y.isNon_int, AM.Y.isNon_str, AM.Y.isNon_tup, AM.Y.isNon_rol, AM.Y.isNon_ref, Bool.not_true, Bool.not_false, Bool.true_eq_false, Bool.false_eq_true, ↓reduceIte, decide_true, decide_false, decide_eq_true_eq, Option.map_some, Option.map_none, Option.isSome_some, Option.isSome_none, List.length_cons, List.length_nil, List.isEmpty_cons, List.isEmpty_nil, true_and, and_true, Bool.or_false, Bool.false_or, Bool.or_true, Bool.true_or, Nat.zero_add, Nat.reduceAdd, AM.lim, Nat.reduceLeDiff, List.set, AM.wipeE, AM.Y.xcP, reduceCtorEq, imp_self, implies_true, not_false_eq_true]
          refine wp_q (w_given_up (d := d + 4) (f10.get hq9) g hl2 kk) fun v h11 q => ?_
          obtain ⟨rfl, f11⟩ := q
          try simp -implicitDefEqProofs only [↓AM.Y.y_var, ↓AM.Y.y_non, ↓AM.Y.y_bl, ↓AM.Y.y_int, ↓AM.Y.y_str, ↓AM.Y.y_ty, ↓AM.Y.y_tup, ↓AM.Y.y_lst, ↓AM.Y.y_dct0, ↓AM.Y.y_bin, ↓AM.Y.y_neg, ↓AM.Y.y_not, ↓AM.Y.y_and, ↓AM.Y.y_or, ↓AM.Y.y_cmp, ↓AM.Y.y_cmp2, ↓AM.Y.y_isN, ↓AM.Y.y_ntN, ↓AM.Y.y_isB, ↓AM.Y.y_ntB, ↓AM.Y.y_ife, ↓AM.Y.y_call, ↓AM.Y.y_bi, ↓AM.Y.y_mt, ↓AM.Y.y_idx, ↓AM.Y.y_slc, ↓AM.Y.y_lc, ↓AM.Y.y_lrng, ↓AM.Y.y_nil, ↓AM.Y.y_cons, ↓AM.Y.y_none, ↓AM.Y.y_some, ↓AM.Y.y_cnone, ↓AM.Y.y_csome, ↓AM.Y.t_not, ↓AM.Y.t_and, ↓AM.Y.t_or, ↓AM.Y.t_var, ↓AM.Y.t_cmp, ↓AM.Y.t_cmp2, ↓AM.Y.t_isN, ↓AM.Y.t_ntN, ↓AM.Y.t_isB, ↓AM.Y.t_ntB, ↓AM.Y.t_call, ↓AM.Y.t_bi, ↓AM.Y.t_idx, ↓AM.Y.i_seq, ↓AM.Y.i_rng1, ↓AM.Y.i_rng2, ↓AM.Y.i_enum, ↓AM.Y.i_zip, ↓AM.Y.g_nm, ↓AM.Y.g_tup, ↓AM.Y.g_sub, ↓AM.Y.g_nil, ↓AM.Y.g_cons, ↓AM.Y.s_nil', ↓AM.Y.s_cons', ↓AM.Y.s_asg, ↓AM.Y.s_asg2', ↓AM.Y.s_asg3', ↓AM.Y.s_par2', ↓AM.Y.s_par3', ↓AM.Y.s_aug', ↓AM.Y.s_expr', ↓AM.Y.s_ret', ↓AM.Y.s_retN', ↓AM.Y.s_iff', ↓AM.Y.s_for', ↓AM.Y.s_whl', ↓AM.Y.s_pass', ↓AM.Y.s_brk', ↓AM.Y.s_cnt', ↓AM.Y.s_never', ↓AM.Y.truth_bl, ↓AM.Y.truth_non, ↓AM.Y.truth_int, ↓AM.Y.truth_tup, ↓AM.Y.truth_rol, ↓AM.Y.truth_ref, ↓AM.Y.o_add, ↓AM.Y.o_sub, ↓AM.Y.o_mul, ↓AM.Y.o_mod, ↓AM.Y.o_fdv, ↓AM.Y.o_pow, ↓AM.Y.o_addL, ↓AM.Y.c_eq, ↓AM.Y.c_ne, ↓AM.Y.c_lt, ↓AM.Y.c_le, ↓AM.Y.c_gt, ↓AM.Y.c_ge, ↓AM.Y.c_inn, ↓AM.Y.c_nin, ↓AM.Y.has_dct, ↓AM.Y.x_tup, ↓AM.Y.x_rol, ↓AM.Y.x_ref, ↓AM.Y.x_set, ↓AM.Y.x_slcR, ↓AM.Y.x_slcL, ↓AM.Y.b_len_tup, ↓AM.Y.b_len_rol, ↓AM.Y.b_len_ref, ↓AM.Y.b_isi, ↓AM.Y.b_isi2, ↓AM.Y.b_int, ↓AM.Y.b_intb, ↓AM.Y.b_sum, ↓AM.Y.b_max2, ↓AM.Y.b_min2, ↓AM.Y.b_max1, ↓AM.Y.b_min1, ↓AM.Y.b_lst_tup, ↓AM.Y.b_lst_rol, ↓AM.Y.b_lst_ref, ↓AM.Y.b_all, ↓AM.Y.b_any, ↓AM.Y.k_app, ↓AM.Y.k_bits, ↓AM.Y.k_cnt, ↓AM.Y.m_app, ↓AM.Y.m_bits, ↓AM.Y.n_add, ↓AM.Y.n_sub, AM.wp_ok, AM.wp_no, ↓AM.wp_ret, ↓AM.wp_fail, ↓AM.wp_end, ↓AM.thn_nx, ↓AM.thn_rt, ↓AM.thn_bk, ↓AM.thn_ct, ↓AM.thn_xc, ↓AM.endP_nx, ↓AM.endP_rt, ↓AM.endP_xc, ↓AM.lpP_nx, ↓AM.lpP_ct, ↓AM.lpP_bk, ↓AM.lpP_rt, ↓AM.lpP_xc, ↓AM.Y.ifB_bl, ↓AM.Y.isI_int, ↓AM.Y.isT_tup, ↓AM.Y.isS_some, ↓AM.Y.isSS_some, ↓AM.Y.isO_lst, ↓AM.Y.isO_dct, AM.Y.ifB_bl, AM.Y.isI_int, AM.Y.isT_tup, AM.Y.isS_some, AM.Y.isSS_some, AM.Y.isO_lst, AM.Y.isO_dct, List.getElem?_cons_zero, List.getElem?_cons_succ, List.set_cons_zero, List.set_cons_succ, AM.Y.at0, AM.Y.at1, AM.Y.at2, AM.Y.at3, AM.Y.srcV, AM.Y.enumV, AM.tyOf, AM.tyIs, AM.isiV, AM.Y.isNon_non, AM.Y.isNon_bl, AM.Y.isNon_int, AM.Y.isNon_str, AM.Y.isNon_tup, AM.Y.isNon_rol, AM.Y.isNon_ref, Bool.not_true, Bool.not_false, Bool.true_eq_false, Bool.false_eq_true, ↓reduceIte, decide_true, decide_false, decide_eq_true_eq, Option.map_some, Option.map_none, Option.isSome_some, Option.isSome_none, List.length_cons, List.length_nil, List.isEmpty_cons, List.isEmpty_nil, true_and, and_true, Bool.or_false, Bool.false_or, Bool.or_true, Bool.true_or, Nat.zero_add, Nat.reduceAdd, AM.lim, Nat.reduceLeDiff, List.set, AM.wipeE, AM.Y.xcP, reduceCtorEq, imp_self, implies_true, not_false_eq_true]
          refine wp_q (w_exactT (fns := fns) (g := 16) (n := 2) (m := 1510) (p := .list [.int (tally (l.take k)).2.2, needD (l.take k)]) rfl ((TreS.list (n := 1) (m := 1502) (.cons (tre_int _) (.cons (need_tre gt lt) .nil))).mono (by omega) (by omega)) (by omega) (by omega) ?_ ?_) fun v5 h12 q => ?_
          · exact .ref (get_app get_new _) (.cons (.int _) (.cons (need_dt (get_app (get_app (f11.get hA1) _) _)) .nil))
          · exact .ref get_new (.cons (.int _) (.cons (need_dt (get_app (get_app (f11.get (f10.get hdue)) _) _)) .nil))
          · obtain ⟨rfl, f12⟩ := q
            have g12 : Fr [] h11 h12 := ((Fr.alloc _).trans (Fr.alloc _)).trans f12
            have hA2 := g12.get (f11.get hA1)
            have nl : (need (l.take k)).length < 100000 := by
              unfold need
              rw [rngL_len]
              omega
            simp -implicitDefEqProofs only [↓AM.Y.y_var, ↓AM.Y.y_non, ↓AM.Y.y_bl, ↓AM.Y.y_int, ↓AM.Y.y_str, ↓AM.Y.y_ty, ↓AM.Y.y_tup, ↓AM.Y.y_lst, ↓AM.Y.y_dct0, ↓AM.Y.y_bin, ↓AM.Y.y_neg, ↓AM.Y.y_not, ↓AM.Y.y_and, ↓AM.Y.y_or, ↓AM.Y.y_cmp, ↓AM.Y.y_cmp2, ↓AM.Y.y_isN, ↓AM.Y.y_ntN, ↓AM.Y.y_isB, ↓AM.Y.y_ntB, ↓AM.Y.y_ife, ↓AM.Y.y_call, ↓AM.Y.y_bi, ↓AM.Y.y_mt, ↓AM.Y.y_idx, ↓AM.Y.y_slc, ↓AM.Y.y_lc, ↓AM.Y.y_lrng, ↓AM.Y.y_nil, ↓AM.Y.y_cons, ↓AM.Y.y_none, ↓AM.Y.y_some, ↓AM.Y.y_cnone, ↓AM.Y.y_csome, ↓AM.Y.t_not, ↓AM.Y.t_and, ↓AM.Y.t_or, ↓AM.Y.t_var, ↓AM.Y.t_cmp, ↓AM.Y.t_cmp2, ↓AM.Y.t_isN, ↓AM.Y.t_ntN, ↓AM.Y.t_isB, ↓AM.Y.t_ntB, ↓AM.Y.t_call, ↓AM.Y.t_bi, ↓AM.Y.t_idx, ↓AM.Y.i_seq, ↓AM.Y.i_rng1, ↓AM.Y.i_rng2, ↓AM.Y.i_enum, ↓AM.Y.i_zip, ↓AM.Y.g_nm, ↓AM.Y.g_tup, ↓AM.Y.g_sub, ↓AM.Y.g_nil, ↓AM.Y.g_cons, ↓AM.Y.s_nil', ↓AM.Y.s_cons', ↓AM.Y.s_asg, ↓AM.Y.s_asg2', ↓AM.Y.s_asg3', ↓AM.Y.s_par2', ↓AM.Y.s_par3', ↓AM.Y.s_aug', ↓AM.Y.s_expr', ↓AM.Y.s_ret', ↓AM.Y.s_retN', ↓AM.Y.s_iff', ↓AM.Y.s_for', ↓AM.Y.s_whl', ↓AM.Y.s_pass', ↓AM.Y.s_brk', ↓AM.Y.s_cnt', ↓AM.Y.s_never', ↓AM.Y.truth_bl, ↓AM.Y.truth_non, ↓AM.Y.truth_int, ↓AM.Y.truth_tup, ↓AM.Y.truth_rol, ↓AM.Y.truth_ref, ↓AM.Y.o_add, ↓AM.Y.o_sub, ↓AM.Y.o_mul, ↓AM.Y.o_mod, ↓AM.Y.o_fdv, ↓AM.Y.o_pow, ↓AM.Y.o_addL, ↓AM.Y.c_eq, ↓AM.Y.c_ne, ↓AM.Y.c_lt, ↓AM.Y.c_le, ↓AM.Y.c_gt, ↓AM.Y.c_ge, ↓AM.Y.c_inn, ↓AM.Y.c_nin, ↓AM.Y.has_dct, ↓AM.Y.x_tup, ↓AM.Y.x_rol, ↓AM.Y.x_ref, ↓AM.Y.x_set, ↓AM.Y.x_slcR, ↓AM.Y.x_slcL, ↓AM.Y.b_len_tup, ↓AM.Y.b_len_rol, ↓AM.Y.b_len_ref, ↓AM.Y.b_isi, ↓AM.Y.b_isi2, ↓AM.Y.b_int, ↓AM.Y.b_intb, ↓AM.Y.b_sum, ↓AM.Y.b_max2, ↓AM.Y.b_min2, ↓AM.Y.b_max1, ↓AM.Y.b_min1, ↓AM.Y.b_lst_tup, ↓AM.Y.b_lst_rol, ↓AM.Y.b_lst_ref, ↓AM.Y.b_all, ↓AM.Y.b_any, ↓AM.Y.k_app, ↓AM.Y.k_bits, ↓AM.Y.k_cnt, ↓AM.Y.m_app, ↓AM.Y.m_bits, ↓AM.Y.n_add, ↓AM.Y.n_sub, AM.wp_ok, AM.wp_no, ↓AM.wp_ret, ↓AM.wp_fail, ↓AM.wp_end, ↓AM.thn_nx, ↓AM.thn_rt, ↓AM.thn_bk, ↓AM.thn_ct, ↓AM.thn_xc, ↓AM.endP_nx, ↓AM.endP_rt, ↓AM.endP_xc, ↓AM.lpP_nx, ↓AM.lpP_ct, ↓AM.lpP_bk, ↓AM.lpP_rt, ↓AM.lpP_xc, ↓AM.Y.ifB_bl, ↓AM.Y.isI_int, ↓AM.Y.isT_tup, ↓AM.Y.isS_some, ↓AM.Y.isSS_some, ↓AM.Y.isO_lst, ↓AM.Y.isO_dct, AM.Y.ifB_bl, AM.Y.isI_int, AM.Y.isT_tup, AM.Y.isS_some, AM.Y.isSS_some, AM.Y.isO_lst, AM.Y.isO_dct, List.getElem?_cons_zero, List.getElem?_cons_succ, List.set_cons_zero, List.set_cons_succ, AM.Y.at0, AM.Y.at1, AM.Y.at2, AM.Y.at3, AM.Y.srcV, AM.Y.enumV, AM.tyOf, AM.tyIs, AM.isiV, AM.Y.isNon_non, AM.Y.isNon_bl, AM.Y.isNon_int, AM.Y.isNon_str, AM.Y.isNon_tup, AM.Y.isNon_rol, AM.Y.isNon_ref, Bool.not_true, Bool.not_false, Bool.true_eq_false, Bool.false_eq_true, ↓reduceIte, decide_true, decide_false, decide_eq_true_eq, Option.map_some, Option.map_none, Option.isSome_some, Option.isSome_none, List.length_cons, List.length_nil, List.isEmpty_cons, List.isEmpty_nil, true_and, and_true, Bool.or_false, Bool.false_or, Bool.or_true, Bool.true_or, Nat.zero_add, Nat.reduceAdd, AM.lim, Nat.reduceLeDiff, List.set, AM.wipeE, AM.Y.xcP, reduceCtorEq, imp_self, implies_true, not_false_eq_true, hA2, nl]
            have f13 : Fr [] h9 (h12.set A (.lst (need (l.take k) ++ [Vl.non]))) := (((f10.trans (f11.trans g12)).nil (rs := [A])).trans (Fr.put (by simp) _)).cut fun i hi hi2 => by
              simp at hi
              omega
            refine wp_q (w_still (d := d + 4) (f13.get hq9) g hl2 kk) fun v h14 q => ?_
            obtain ⟨B, rfl, hB, hB1, f14⟩ := q
            try simp -implicitDefEqProofs only [↓AM.Y.y_var, ↓AM.Y.y_non, ↓AM.Y.y_bl, ↓AM.Y.y_int, ↓AM.Y.y_str, ↓AM.Y.y_ty, ↓AM.Y.y_tup, ↓AM.Y.y_lst, ↓AM.Y.y_dct0, ↓AM.Y.y_bin, ↓AM.Y.y_neg, ↓AM.Y.y_not, ↓AM.Y.y_and, ↓AM.Y.y_or, ↓AM.Y.y_cmp, ↓AM.Y.y_cmp2, ↓AM.Y.y_isN, ↓AM.Y.y_ntN, ↓AM.Y.y_isB, ↓AM.Y.y_ntB, ↓AM.Y.y_ife, ↓AM.Y.y_call, ↓AM.Y.y_bi, ↓AM.Y.y_mt, ↓AM.Y.y_idx, ↓AM.Y.y_slc, ↓AM.Y.y_lc, ↓AM.Y.y_lrng, ↓AM.Y.y_nil, ↓AM.Y.y_cons, ↓AM.Y.y_none, ↓AM.Y.y_some, ↓AM.Y.y_cnone, ↓AM.Y.y_csome, ↓AM.Y.t_not, ↓AM.Y.t_and, ↓AM.Y.t_or, ↓AM.Y.t_var, ↓AM.Y.t_cmp, ↓AM.Y.t_cmp2, ↓AM.Y.t_isN, ↓AM.Y.t_ntN, ↓AM.Y.t_isB, ↓AM.Y.t_ntB, ↓AM.Y.t_call, ↓AM.Y.t_bi, ↓AM.Y.t_idx, ↓AM.Y.i_seq, ↓AM.Y.i_rng1, ↓AM.Y.i_rng2, ↓AM.Y.i_enum, ↓AM.Y.i_zip, ↓AM.Y.g_nm, ↓AM.Y.g_tup, ↓AM.Y.g_sub, ↓AM.Y.g_nil, ↓AM.Y.g_cons, ↓AM.Y.s_nil', ↓AM.Y.s_cons', ↓AM.Y.s_asg, ↓AM.Y.s_asg2', ↓AM.Y.s_asg3', ↓AM.Y.s_par2', ↓AM.Y.s_par3', ↓AM.Y.s_aug', ↓AM.Y.s_expr', ↓AM.Y.s_ret', ↓AM.Y.s_retN', ↓AM.Y.s_iff', ↓AM.Y.s_for', ↓AM.Y.s_whl', ↓AM.Y.s_pass', ↓AM.Y.s_brk', ↓AM.Y.s_cnt', ↓AM.Y.s_never', ↓AM.Y.truth_bl, ↓AM.Y.truth_non, ↓AM.Y.truth_int, ↓AM.Y.truth_tup, ↓AM.Y.truth_rol, ↓AM.Y.truth_ref, ↓AM.Y.o_add, ↓AM.Y.o_sub, ↓AM.Y.o_mul, ↓AM.Y.o_mod, ↓AM.Y.o_fdv, ↓AM.Y.o_pow, ↓AM.Y.o_addL, ↓AM.Y.c_eq, ↓AM.Y.c_ne, ↓AM.Y.c_lt, ↓AM.Y.c_le, ↓AM.Y.c_gt, ↓AM.Y.c_ge, ↓AM.Y.c_inn, ↓AM.Y.c_nin, ↓AM.Y.has_dct, ↓AM.Y.x_tup, ↓AM.Y.x_rol, ↓AM.Y.x_ref, ↓AM.Y.x_set, ↓AM.Y.x_slcR, ↓AM.Y.x_slcL, ↓AM.Y.b_len_tup, ↓AM.Y.b_len_rol, ↓AM.Y.b_len_ref, ↓AM.Y.b_isi, ↓AM.Y.b_isi2, ↓AM.Y.b_int, ↓AM.Y.b_intb, ↓AM.Y.b_sum, ↓AM.Y.b_max2, ↓AM.Y.b_min2, ↓AM.Y.b_max1, ↓AM.Y.b_min1, ↓AM.Y.b_lst_tup, ↓AM.Y.b_lst_rol, ↓AM.Y.b_lst_ref, ↓AM.Y.b_all, ↓AM.Y.b_any, ↓AM.Y.k_app, ↓AM.Y.k_bits, ↓AM.Y.k_cnt, ↓AM.Y.m_app, ↓AM.Y.m_bits, ↓AM.Y.n_add, ↓AM.Y.n_sub, AM.wp_ok, AM.wp_no, ↓AM.wp_ret, ↓AM.wp_fail, ↓AM.wp_end, ↓AM.thn_nx, ↓AM.thn_rt, ↓AM.thn_bk, ↓AM.thn_ct, ↓AM.thn_xc, ↓AM.endP_nx, ↓AM.endP_rt, ↓AM.endP_xc, ↓AM.lpP_nx, ↓AM.lpP_ct, ↓AM.lpP_bk, ↓AM.lpP_rt, ↓AM.lpP_xc, ↓AM.Y.ifB_bl, ↓AM.Y.isI_int, ↓AM.Y.isT_tup, ↓AM.Y.isS_some, ↓AM.Y.isSS_some, ↓AM.Y.isO_lst, ↓AM.Y.isO_dct, AM.Y.ifB_bl, AM.Y.isI_int, AM.Y.isT_tup, AM.Y.isS_some, AM.Y.isSS_some, AM.Y.isO_lst, AM.Y.isO_dct, List.getElem?_cons_zero, List.getElem?_cons_succ, List.set_cons_zero, List.set_cons_succ, AM.Y.at0, AM.Y.at1, AM.Y.at2, AM.Y.at3, AM.Y.srcV, AM.Y.enumV, AM.tyOf, AM.tyIs, AM.isiV, AM.Y.isNon_non, AM.Y.isNon_bl, AM.Y.isNon_int, AM.Y.isNon_str, AM.Y.isNon_tup, AM.Y.isNon_rol, AM.Y.isNon_ref, Bool.not_true, Bool.not_false, Bool.true_eq_false, Bool.false_eq_true, ↓reduceIte, decide_true, decide_false, decide_eq_true_eq, Option.map_some, Option.map_none, Option.isSome_some, Option.isSome_none, List.length_cons, List.length_nil, List.isEmpty_cons, List.isEmpty_nil, true_and, and_true, Bool.or_false, Bool.false_or, Bool.or_true, Bool.true_or, Nat.zero_add, Nat.reduceAdd, AM.lim, Nat.reduceLeDiff, List.set, AM.wipeE, AM.Y.xcP, reduceCtorEq, imp_self, implies_true, not_false_eq_true]
            refine wp_q (w_exactT (fns := fns) (g := 16) (n := 2) (m := 1510) (p := needD (l.take k)) rfl ((need_tre gt lt).mono (by omega) (by omega)) (by omega) (by omega) (need_dt hB1) (need_dt (f14.get (f13.get hdue)))) fun v5 h15 q => ?_
            obtain ⟨rfl, f15⟩ := q
            try simp -implicitDefEqProofs only [↓AM.Y.y_var, ↓AM.Y.y_non, ↓AM.Y.y_bl, ↓AM.Y.y_int, ↓AM.Y.y_str, ↓AM.Y.y_ty, ↓AM.Y.y_tup, ↓AM.Y.y_lst, ↓AM.Y.y_dct0, ↓AM.Y.y_bin, ↓AM.Y.y_neg, ↓AM.Y.y_not, ↓AM.Y.y_and, ↓AM.Y.y_or, ↓AM.Y.y_cmp, ↓AM.Y.y_cmp2, ↓AM.Y.y_isN, ↓AM.Y.y_ntN, ↓AM.Y.y_isB, ↓AM.Y.y_ntB, ↓AM.Y.y_ife, ↓AM.Y.y_call, ↓AM.Y.y_bi, ↓AM.Y.y_mt, ↓AM.Y.y_idx, ↓AM.Y.y_slc, ↓AM.Y.y_lc, ↓AM.Y.y_lrng, ↓AM.Y.y_nil, ↓AM.Y.y_cons, ↓AM.Y.y_none, ↓AM.Y.y_some, ↓AM.Y.y_cnone, ↓AM.Y.y_csome, ↓AM.Y.t_not, ↓AM.Y.t_and, ↓AM.Y.t_or, ↓AM.Y.t_var, ↓AM.Y.t_cmp, ↓AM.Y.t_cmp2, ↓AM.Y.t_isN, ↓AM.Y.t_ntN, ↓AM.Y.t_isB, ↓AM.Y.t_ntB, ↓AM.Y.t_call, ↓AM.Y.t_bi, ↓AM.Y.t_idx, ↓AM.Y.i_seq, ↓AM.Y.i_rng1, ↓AM.Y.i_rng2, ↓AM.Y.i_enum, ↓AM.Y.i_zip, ↓AM.Y.g_nm, ↓AM.Y.g_tup, ↓AM.Y.g_sub, ↓AM.Y.g_nil, ↓AM.Y.g_cons, ↓AM.Y.s_nil', ↓AM.Y.s_cons', ↓AM.Y.s_asg, ↓AM.Y.s_asg2', ↓AM.Y.s_asg3', ↓AM.Y.s_par2', ↓AM.Y.s_par3', ↓AM.Y.s_aug', ↓AM.Y.s_expr', ↓AM.Y.s_ret', ↓AM.Y.s_retN', ↓AM.Y.s_iff', ↓AM.Y.s_for', ↓AM.Y.s_whl', ↓AM.Y.s_pass', ↓AM.Y.s_brk', ↓AM.Y.s_cnt', ↓AM.Y.s_never', ↓AM.Y.truth_bl, ↓AM.Y.truth_non, ↓AM.Y.truth_int, ↓AM.Y.truth_tup, ↓AM.Y.truth_rol, ↓AM.Y.truth_ref, ↓AM.Y.o_add, ↓AM.Y.o_sub, ↓AM.Y.o_mul, ↓AM.Y.o_mod, ↓AM.Y.o_fdv, ↓AM.Y.o_pow, ↓AM.Y.o_addL, ↓AM.Y.c_eq, ↓AM.Y.c_ne, ↓AM.Y.c_lt, ↓AM.Y.c_le, ↓AM.Y.c_gt, ↓AM.Y.c_ge, ↓AM.Y.c_inn, ↓AM.Y.c_nin, ↓AM.Y.has_dct, ↓AM.Y.x_tup, ↓AM.Y.x_rol, ↓AM.Y.x_ref, ↓AM.Y.x_set, ↓AM.Y.x_slcR, ↓AM.Y.x_slcL, ↓AM.Y.b_len_tup, ↓AM.Y.b_len_rol, ↓AM.Y.b_len_ref, ↓AM.Y.b_isi, ↓AM.Y.b_isi2, ↓AM.Y.b_int, ↓AM.Y.b_intb, ↓AM.Y.b_sum, ↓AM.Y.b_max2, ↓AM.Y.b_min2, ↓AM.Y.b_max1, ↓AM.Y.b_min1, ↓AM.Y.b_lst_tup, ↓AM.Y.b_lst_rol, ↓AM.Y.b_lst_ref, ↓AM.Y.b_all, ↓AM.Y.b_any, ↓AM.Y.k_app, ↓AM.Y.k_bits, ↓AM.Y.k_cnt, ↓AM.Y.m_app, ↓AM.Y.m_bits, ↓AM.Y.n_add, ↓AM.Y.n_sub, AM.wp_ok, AM.wp_no, ↓AM.wp_ret, ↓AM.wp_fail, ↓AM.wp_end, ↓AM.thn_nx, ↓AM.thn_rt, ↓AM.thn_bk, ↓AM.thn_ct, ↓AM.thn_xc, ↓AM.endP_nx, ↓AM.endP_rt, ↓AM.endP_xc, ↓AM.lpP_nx, ↓AM.lpP_ct, ↓AM.lpP_bk, ↓AM.lpP_rt, ↓AM.lpP_xc, ↓AM.Y.ifB_bl, ↓AM.Y.isI_int, ↓AM.Y.isT_tup, ↓AM.Y.isS_some, ↓AM.Y.isSS_some, ↓AM.Y.isO_lst, ↓AM.Y.isO_dct, AM.Y.ifB_bl, AM.Y.isI_int, AM.Y.isT_tup, AM.Y.isS_some, AM.Y.isSS_some, AM.Y.isO_lst, AM.Y.isO_dct, List.getElem?_cons_zero, List.getElem?_cons_succ, List.set_cons_zero, List.set_cons_succ, AM.Y.at0, AM.Y.at1, AM.Y.at2, AM.Y.at3, AM.Y.srcV, AM.Y.enumV, AM.tyOf, AM.tyIs, AM.isiV, AM.Y.isNon_non, AM.Y.isNon_bl, AM.Y.isNon_int, AM.Y.isNon_str, AM.Y.isNon_tup, AM.Y.isNon_rol, AM.Y.isNon_ref, Bool.not_true, Bool.not_false, Bool.true_eq_false, Bool.false_eq_true, ↓reduceIte, decide_true, decide_false, decide_eq_true_eq, Option.map_some, Option.map_none, Option.isSome_some, Option.isSome_none, List.length_cons, List.length_nil, List.isEmpty_cons, List.isEmpty_nil, true_and, and_true, Bool.or_false, Bool.false_or, Bool.or_true, Bool.true_or, Nat.zero_add, Nat.reduceAdd, AM.lim, Nat.reduceLeDiff, List.set, AM.wipeE, AM.Y.xcP, reduceCtorEq, imp_self, implies_true, not_false_eq_true]
            exact ⟨f7.trans (f8.trans (f9.trans (f13.trans (f14.trans f15)))), _, _, _, _, _, _, rfl⟩
        · obtain ⟨f7, a, b, c, e, f', g', rfl⟩ := I
          have ee := eqD_self (h := h7) (life_dt (f7.get hq6)) (life_dt (f7.get hr6)) (life_ok hl2)
          simp -implicitDefEqProofs only [↓AM.Y.y_var, ↓AM.Y.y_non, ↓AM.Y.y_bl, ↓AM.Y.y_int, ↓AM.Y.y_str, ↓AM.Y.y_ty, ↓AM.Y.y_tup, ↓AM.Y.y_lst, ↓AM.Y.y_dct0, ↓AM.Y.y_bin, ↓AM.Y.y_neg, ↓AM.Y.y_not, ↓AM.Y.y_and, ↓AM.Y.y_or, ↓AM.Y.y_cmp, ↓AM.Y.y_cmp2, ↓AM.Y.y_isN, ↓AM.Y.y_ntN, ↓AM.Y.y_isB, ↓AM.Y.y_ntB, ↓AM.Y.y_ife, ↓AM.Y.y_call, ↓AM.Y.y_bi, ↓AM.Y.y_mt, ↓AM.Y.y_idx, ↓AM.Y.y_slc, ↓AM.Y.y_lc, ↓AM.Y.y_lrng, ↓AM.Y.y_nil, ↓AM.Y.y_cons, ↓AM.Y.y_none, ↓AM.Y.y_some, ↓AM.Y.y_cnone, ↓AM.Y.y_csome, ↓AM.Y.t_not, ↓AM.Y.t_and, ↓AM.Y.t_or, ↓AM.Y.t_var, ↓AM.Y.t_cmp, ↓AM.Y.t_cmp2, ↓AM.Y.t_isN, ↓AM.Y.t_ntN, ↓AM.Y.t_isB, ↓AM.Y.t_ntB, ↓AM.Y.t_call, ↓AM.Y.t_bi, ↓AM.Y.t_idx, ↓AM.Y.i_seq, ↓AM.Y.i_rng1, ↓AM.Y.i_rng2, ↓AM.Y.i_enum, ↓AM.Y.i_zip, ↓AM.Y.g_nm, ↓AM.Y.g_tup, ↓AM.Y.g_sub, ↓AM.Y.g_nil, ↓AM.Y.g_cons, ↓AM.Y.s_nil', ↓AM.Y.s_cons', ↓AM.Y.s_asg, ↓AM.Y.s_asg2', ↓AM.Y.s_asg3', ↓AM.Y.s_par2', ↓AM.Y.s_par3', ↓AM.Y.s_aug', ↓AM.Y.s_expr', ↓AM.Y.s_ret', ↓AM.Y.s_retN', ↓AM.Y.s_iff', ↓AM.Y.s_for', ↓AM.Y.s_whl', ↓AM.Y.s_pass', ↓AM.Y.s_brk', ↓AM.Y.s_cnt', ↓AM.Y.s_never', ↓AM.Y.truth_bl, ↓AM.Y.truth_non, ↓AM.Y.truth_int, ↓AM.Y.truth_tup, ↓AM.Y.truth_rol, ↓AM.Y.truth_ref, ↓AM.Y.o_add, ↓AM.Y.o_sub, ↓AM.Y.o_mul, ↓AM.Y.o_mod, ↓AM.Y.o_fdv, ↓AM.Y.o_pow, ↓AM.Y.o_addL, ↓AM.Y.c_eq, ↓AM.Y.c_ne, ↓AM.Y.c_lt, ↓AM.Y.c_le, ↓AM.Y.c_gt, ↓AM.Y.c_ge, ↓AM.Y.c_inn, ↓AM.Y.c_nin, ↓AM.Y.has_dct, ↓AM.Y.x_tup, ↓AM.Y.x_rol, ↓AM.Y.x_ref, ↓AM.Y.x_set, ↓AM.Y.x_slcR, ↓AM.Y.x_slcL, ↓AM.Y.b_len_tup, ↓AM.Y.b_len_rol, ↓AM.Y.b_len_ref, ↓AM.Y.b_isi, ↓AM.Y.b_isi2, ↓AM.Y.b_int, ↓AM.Y.b_intb, ↓AM.Y.b_sum, ↓AM.Y.b_max2, ↓AM.Y.b_min2, ↓AM.Y.b_max1, ↓AM.Y.b_min1, ↓AM.Y.b_lst_tup, ↓AM.Y.b_lst_rol, ↓AM.Y.b_lst_ref, ↓AM.Y.b_all, ↓AM.Y.b_any, ↓AM.Y.k_app, ↓AM.Y.k_bits, ↓AM.Y.k_cnt, ↓AM.Y.m_app, ↓AM.Y.m_bits, ↓AM.Y.n_add, ↓AM.Y.n_sub, AM.wp_ok, AM.wp_no, ↓AM.wp_ret, ↓AM.wp_fail, ↓AM.wp_end, ↓AM.thn_nx, ↓AM.thn_rt, ↓AM.thn_bk, ↓AM.thn_ct, ↓AM.thn_xc, ↓AM.endP_nx, ↓AM.endP_rt, ↓AM.endP_xc, ↓AM.lpP_nx, ↓AM.lpP_ct, ↓AM.lpP_bk, ↓AM.lpP_rt, ↓AM.lpP_xc, ↓AM.Y.ifB_bl, ↓AM.Y.isI_int, ↓AM.Y.isT_tup, ↓AM.Y.isS_some, ↓AM.Y.isSS_some, ↓AM.Y.isO_lst, ↓AM.Y.isO_dct, AM.Y.ifB_bl, AM.Y.isI_int, AM.Y.isT_tup, AM.Y.isS_some, AM.Y.isSS_some, AM.Y.isO_lst, AM.Y.isO_dct, List.getElem?_cons_zero, List.getElem?_cons_succ, List.set_cons_zero, List.set_cons_succ, AM.Y.at0, AM.Y.at1, AM.Y.at2, AM.Y.at3, AM.Y.srcV, AM.Y.enumV, AM.tyOf, AM.tyIs, AM.isiV, AM.Y.isNon_non, AM.Y.isNon_bl, AM.Y.isNon_int, AM.Y.isNon_str, AM.Y.isNon_tup, AM.Y.isNon_rol, AM.Y.isNon_ref, Bool.not_true, Bool.not_false, Bool.true_eq_false, Bool.false_eq_true, ↓reduceIte, decide_true, decide_false, decide_eq_true_eq, Option.map_some, Option.map_none, Option.isSome_some, Option.isSome_none, List.length_cons, List.length_nil, List.isEmpty_cons, List.isEmpty_nil, true_and, and_true, Bool.or_false, Bool.false_or, Bool.or_true, Bool.true_or, Nat.zero_add, Nat.reduceAdd, AM.lim, Nat.reduceLeDiff, List.set, AM.wipeE, AM.Y.xcP, reduceCtorEq, imp_self, implies_true, not_false_eq_true, ee]
          exact f06.trans f7
end
end K37

namespace AM
open PySem L2 Y
theorem Dts.snoc {h : SH} : ∀ {xs : List Vl} {ds : List PyData} {x : Vl} {d : PyData}, Dts h xs ds → Dt h x d → Dts h (xs ++ [x]) (ds ++ [d])
  | _, _, _, _, .nil, b => .cons b .nil
  | _, _, _, _, .cons a l, b => .cons a (Dts.snoc l b)
end AM
namespace K37
open PySem L2 AM Y
theorem rngL_snoc (lo : Int) (n : Nat) : rngL lo (n + 1) = rngL lo n ++ [.int (lo + n)] := by
  unfold rngL
  rw [List.range_succ, List.map_append]
  rfl
theorem rngI_snoc (lo : Int) (n : Nat) : rngI lo (n + 1) = rngI lo n ++ [lo + n] := by
  unfold rngI
  rw [List.range_succ, List.map_append]
  rfl
theorem max_rng : ∀ m : Nat, maxL (1 :: rngI 2 m) = 1 + (m : Int)
  | 0 => rfl
  | m + 1 => by
    have ih := max_rng m
    unfold maxL at ih ⊢
    dsimp only at ih ⊢
    rw [rngI_snoc, List.foldl_append, ih]
    show (if (1 + (m : Int)) < 2 + m then 2 + (m : Int) else 1 + m) = _
    rw [if_pos (by omega)]
    omega
theorem ints_all (ks : List Int) : (ks.map Vl.int).mapM intL = some ks := by
  induction ks with
  | nil => rfl
  | cons a l ih => rw [List.map_cons, List.mapM_cons, ih]; rfl
abbrev l3 : List Ev := [.line, .stand 1, .root, .line, .line]
theorem good3 : Good l3 := good_snoc (l := [.line, .stand 1, .root, .line]) (e := .line) (good_snoc (l := [.line, .stand 1, .root]) (e := .line) (good_snoc (l := [.line, .stand 1]) (e := .root) (good_snoc (l := [.line]) (e := .stand 1) (good_snoc (l := []) (e := .line) good_nil trivial) ⟨by decide, by decide⟩) trivial) trivial) trivial
/-- a life at a place -/
def Lv (h : SH) (q : Nat × List Ev) : Prop := h[q.1]? = some (.lst (q.2.map Ev.v)) ∧ Good q.2 ∧ q.2.length ≤ 14
theorem Lv.fr {h h' : SH} {q : Nat × List Ev} {rs : List Nat} (a : Lv h q) (f : Fr rs h h') (n : q.1 ∉ rs) : Lv h' q := ⟨f.at_ _ _ n a.1, a.2⟩
noncomputable def noteD (l : List Ev) : PyData := .list [needD l, fstD (full l 2)]
theorem note_tre {l : List Ev} (g : Good l) (hl : l.length ≤ 14) : Tre 2 1510 (noteD l) := ((TreS.list (n := 1) (m := 1502) (.cons ((need_tre g (by omega)).mono (by omega) (by omega)) (.cons (fst_tre _) .nil))).mono (by omega) (by omega))
theorem need_nil : need [] = [] := rfl
theorem least_nil : least [] = 1 := rfl
section
variable {d : Nat} {h : SH} {r : Nat} {l : List Ev}
theorem law_wp {ns : List Int} : wp (callD fns 100000 40 21 [.rol (ns.map .int)] []) (fun v h' => v = .bl true) NoX := by
  rw [call_eq (fns := fns) (W := 100000) (d := 39) (g := 21) (f := f_law) rfl (us := [.rol (ns.map .int)]) (vs := [.rol (ns.map .int)]) rfl rfl, wp_end]
  show wp (exSs (callD fns 100000 39) 100000 [some (.rol (ns.map .int)), none, none, none, none, none, none, none, none, none] f_law.body []) _ _
  unfold f_law
  simp -implicitDefEqProofs only [↓AM.Y.y_var, ↓AM.Y.y_non, ↓AM.Y.y_bl, ↓AM.Y.y_int, ↓AM.Y.y_str, ↓AM.Y.y_ty, ↓AM.Y.y_tup, ↓AM.Y.y_lst, ↓AM.Y.y_dct0, ↓AM.Y.y_bin, ↓AM.Y.y_neg, ↓AM.Y.y_not, ↓AM.Y.y_and, ↓AM.Y.y_or, ↓AM.Y.y_cmp, ↓AM.Y.y_cmp2, ↓AM.Y.y_isN, ↓AM.Y.y_ntN, ↓AM.Y.y_isB, ↓AM.Y.y_ntB, ↓AM.Y.y_ife, ↓AM.Y.y_call, ↓AM.Y.y_bi, ↓AM.Y.y_mt, ↓AM.Y.y_idx, ↓AM.Y.y_slc, ↓AM.Y.y_lc, ↓AM.Y.y_lrng, ↓AM.Y.y_nil, ↓AM.Y.y_cons, ↓AM.Y.y_none, ↓AM.Y.y_some, ↓AM.Y.y_cnone, ↓AM.Y.y_csome, ↓AM.Y.t_not, ↓AM.Y.t_and, ↓AM.Y.t_or, ↓AM.Y.t_var, ↓AM.Y.t_cmp, ↓AM.Y.t_cmp2, ↓AM.Y.t_isN, ↓AM.Y.t_ntN, ↓AM.Y.t_isB, ↓AM.Y.t_ntB, ↓AM.Y.t_call, ↓AM.Y.t_bi, ↓AM.Y.t_idx, ↓AM.Y.i_seq, ↓AM.Y.i_rng1, ↓AM.Y.i_rng2, ↓AM.Y.i_enum, ↓AM.Y.i_zip, ↓AM.Y.g_nm, ↓AM.Y.g_tup, ↓AM.Y.g_sub, ↓AM.Y.g_nil, ↓AM.Y.g_cons, ↓AM.Y.s_nil', ↓AM.Y.s_cons', ↓AM.Y.s_asg, ↓AM.Y.s_asg2', ↓AM.Y.s_asg3', ↓AM.Y.s_par2', ↓AM.Y.s_par3', ↓AM.Y.s_aug', ↓AM.Y.s_expr', ↓AM.Y.s_ret', ↓AM.Y.s_retN', ↓AM.Y.s_iff', ↓AM.Y.s_for', ↓AM.Y.s_whl', ↓AM.Y.s_pass', ↓AM.Y.s_brk', ↓AM.Y.s_cnt', ↓AM.Y.s_never', ↓AM.Y.truth_bl, ↓AM.Y.truth_non, ↓AM.Y.truth_int, ↓AM.Y.truth_tup, ↓AM.Y.truth_rol, ↓AM.Y.truth_ref, ↓AM.Y.o_add, ↓AM.Y.o_sub, ↓AM.Y.o_mul, ↓AM.Y.o_mod, ↓AM.Y.o_fdv, ↓AM.Y.o_pow, ↓AM.Y.o_addL, ↓AM.Y.c_eq, ↓AM.Y.c_ne, ↓AM.Y.c_lt, ↓AM.Y.c_le, ↓AM.Y.c_gt, ↓AM.Y.c_ge, ↓AM.Y.c_inn, ↓AM.Y.c_nin, ↓AM.Y.has_dct, ↓AM.Y.x_tup, ↓AM.Y.x_rol, ↓AM.Y.x_ref, ↓AM.Y.x_set, ↓AM.Y.x_slcR, ↓AM.Y.x_slcL, ↓AM.Y.b_len_tup, ↓AM.Y.b_len_rol, ↓AM.Y.b_len_ref, ↓AM.Y.b_isi, ↓AM.Y.b_isi2, ↓AM.Y.b_int, ↓AM.Y.b_intb, ↓AM.Y.b_sum, ↓AM.Y.b_max2, ↓AM.Y.b_min2, ↓AM.Y.b_max1, ↓AM.Y.b_min1, ↓AM.Y.b_lst_tup, ↓AM.Y.b_lst_rol, ↓AM.Y.b_lst_ref, ↓AM.Y.b_all, ↓AM.Y.b_any, ↓AM.Y.k_app, ↓AM.Y.k_bits, ↓AM.Y.k_cnt, ↓AM.Y.m_app, ↓AM.Y.m_bits, ↓AM.Y.n_add, ↓AM.Y.n_sub, AM.wp_ok, AM.wp_no, ↓AM.wp_ret, ↓AM.wp_fail, ↓AM.wp_end, ↓AM.thn_nx, ↓AM.thn_rt, ↓AM.thn_bk, ↓AM.thn_ct, ↓AM.thn_xc, ↓AM.endP_nx, ↓AM.endP_rt, ↓AM.endP_xc, ↓AM.lpP_nx, ↓AM.lpP_ct, ↓AM.lpP_bk, ↓AM.lpP_rt, ↓AM.lpP_xc, ↓AM.Y.ifB_bl, ↓AM.Y.isI_int, ↓AM.Y.isT_tup, ↓AM.Y.isS_some, ↓AM.Y.isSS_some, ↓AM.Y.isO_lst, ↓AM.Y.isO_dct, AM.Y.ifB_bl, AM.Y.isI_int, AM.Y.isT_tup, AM.Y.isS_some, AM.Y.isSS_some, AM.Y.isO_lst, AM.Y.isO_dct, List.getElem?_cons_zero, List.getElem?_cons_succ, List.set_cons_zero, List.set_cons_succ, AM.Y.at0, AM.Y.at1, AM.Y.at2, AM.Y.at3, AM.Y.srcV, AM.Y.enumV, AM.tyOf, AM.tyIs, AM.isiV, AM.Y.isNon_non, AM.Y.isNon_bl, AM.Y.isNon_int, AM.Y.isNon_str, AM.Y.isNon_tup, AM.Y.isNon_rol, AM.Y.isNon_ref, Bool.not_true, Bool.not_false, Bool.true_eq_false, Bool.false_eq_true, ↓reduceIte, decide_true, decide_false, decide_eq_true_eq, Option.map_some, Option.map_none, Option.isSome_some, Option.isSome_none, List.length_cons, List.length_nil, List.isEmpty_cons, List.isEmpty_nil, true_and, and_true, Bool.or_false, Bool.false_or, Bool.or_true, Bool.true_or, Nat.zero_add, Nat.reduceAdd, AM.lim, Nat.reduceLeDiff, List.set, AM.wipeE, AM.Y.xcP, reduceCtorEq, imp_self, implies_true, not_false_eq_true]
  refine wp_q (w_purse (fns := fns) (d := 38) (g := 13) rfl) fun v h1 q => ?_
  obtain ⟨P, rfl, _, pu1, _⟩ := q
  try simp -implicitDefEqProofs only [↓AM.Y.y_var, ↓AM.Y.y_non, ↓AM.Y.y_bl, ↓AM.Y.y_int, ↓AM.Y.y_str, ↓AM.Y.y_ty, ↓AM.Y.y_tup, ↓AM.Y.y_lst, ↓AM.Y.y_dct0, ↓AM.Y.y_bin, ↓AM.Y.y_neg, ↓AM.Y.y_not, ↓AM.Y.y_and, ↓AM.Y.y_or, ↓AM.Y.y_cmp, ↓AM.Y.y_cmp2, ↓AM.Y.y_isN, ↓AM.Y.y_ntN, ↓AM.Y.y_isB, ↓AM.Y.y_ntB, ↓AM.Y.y_ife, ↓AM.Y.y_call, ↓AM.Y.y_bi, ↓AM.Y.y_mt, ↓AM.Y.y_idx, ↓AM.Y.y_slc, ↓AM.Y.y_lc, ↓AM.Y.y_lrng, ↓AM.Y.y_nil, ↓AM.Y.y_cons, ↓AM.Y.y_none, ↓AM.Y.y_some, ↓AM.Y.y_cnone, ↓AM.Y.y_csome, ↓AM.Y.t_not, ↓AM.Y.t_and, ↓AM.Y.t_or, ↓AM.Y.t_var, ↓AM.Y.t_cmp, ↓AM.Y.t_cmp2, ↓AM.Y.t_isN, ↓AM.Y.t_ntN, ↓AM.Y.t_isB, ↓AM.Y.t_ntB, ↓AM.Y.t_call, ↓AM.Y.t_bi, ↓AM.Y.t_idx, ↓AM.Y.i_seq, ↓AM.Y.i_rng1, ↓AM.Y.i_rng2, ↓AM.Y.i_enum, ↓AM.Y.i_zip, ↓AM.Y.g_nm, ↓AM.Y.g_tup, ↓AM.Y.g_sub, ↓AM.Y.g_nil, ↓AM.Y.g_cons, ↓AM.Y.s_nil', ↓AM.Y.s_cons', ↓AM.Y.s_asg, ↓AM.Y.s_asg2', ↓AM.Y.s_asg3', ↓AM.Y.s_par2', ↓AM.Y.s_par3', ↓AM.Y.s_aug', ↓AM.Y.s_expr', ↓AM.Y.s_ret', ↓AM.Y.s_retN', ↓AM.Y.s_iff', ↓AM.Y.s_for', ↓AM.Y.s_whl', ↓AM.Y.s_pass', ↓AM.Y.s_brk', ↓AM.Y.s_cnt', ↓AM.Y.s_never', ↓AM.Y.truth_bl, ↓AM.Y.truth_non, ↓AM.Y.truth_int, ↓AM.Y.truth_tup, ↓AM.Y.truth_rol, ↓AM.Y.truth_ref, ↓AM.Y.o_add, ↓AM.Y.o_sub, ↓AM.Y.o_mul, ↓AM.Y.o_mod, ↓AM.Y.o_fdv, ↓AM.Y.o_pow, ↓AM.Y.o_addL, ↓AM.Y.c_eq, ↓AM.Y.c_ne, ↓AM.Y.c_lt, ↓AM.Y.c_le, ↓AM.Y.c_gt, ↓AM.Y.c_ge, ↓AM.Y.c_inn, ↓AM.Y.c_nin, ↓AM.Y.has_dct, ↓AM.Y.x_tup, ↓AM.Y.x_rol, ↓AM.Y.x_ref, ↓AM.Y.x_set, ↓AM.Y.x_slcR, ↓AM.Y.x_slcL, ↓AM.Y.b_len_tup, ↓AM.Y.b_len_rol, ↓AM.Y.b_len_ref, ↓AM.Y.b_isi, ↓AM.Y.b_isi2, ↓AM.Y.b_int, ↓AM.Y.b_intb, ↓AM.Y.b_sum, ↓AM.Y.b_max2, ↓AM.Y.b_min2, ↓AM.Y.b_max1, ↓AM.Y.b_min1, ↓AM.Y.b_lst_tup, ↓AM.Y.b_lst_rol, ↓AM.Y.b_lst_ref, ↓AM.Y.b_all, ↓AM.Y.b_any, ↓AM.Y.k_app, ↓AM.Y.k_bits, ↓AM.Y.k_cnt, ↓AM.Y.m_app, ↓AM.Y.m_bits, ↓AM.Y.n_add, ↓AM.Y.n_sub, AM.wp_ok, AM.wp_no, ↓AM.wp_ret, ↓AM.wp_fail, ↓AM.wp_end, ↓AM.thn_nx, ↓AM.thn_rt, ↓AM.thn_bk, ↓AM.thn_ct, ↓AM.thn_xc, ↓AM.endP_nx, ↓AM.endP_rt, ↓AM.endP_xc, ↓AM.lpP_nx, ↓AM.lpP_ct, ↓AM.lpP_bk, ↓AM.lpP_rt, ↓AM.lpP_xc, ↓AM.Y.ifB_bl, ↓AM.Y.isI_int, ↓AM.Y.isT_tup, ↓AM.Y.isS_some, ↓AM.Y.isSS_some, ↓AM.Y.isO_lst, ↓AM.Y.isO_dct, AM.Y.ifB_bl, AM.Y.isI_int, AM.Y.isT_tup, AM.Y.isS_some, AM.Y.isSS_some, AM.Y.isO_lst, AM.Y.isO_dct, List.getElem?_cons_zero, List.getElem?_cons_succ, List.set_cons_zero, List.set_cons_succ, AM.Y.at0, AM.Y.at1, AM.Y.at2, AM.Y.at3, AM.Y.srcV, AM.Y.enumV, AM.tyOf, AM.tyIs, AM.isiV, AM.Y.isNon_non, AM.Y.isNon_bl, AM.Y.isNon_int, AM.Y.isNon_str, AM.Y.isNon_tup, AM.Y.isNon_rol, AM.Y.isNon_ref, Bool.not_true, Bool.not_false, Bool.true_eq_false, Bool.false_eq_true, ↓reduceIte, decide_true, decide_false, decide_eq_true_eq, Option.map_some, Option.map_none, Option.isSome_some, Option.isSome_none, List.length_cons, List.length_nil, List.isEmpty_cons, List.isEmpty_nil, true_and, and_true, Bool.or_false, Bool.false_or, Bool.or_true, Bool.true_or, Nat.zero_add, Nat.reduceAdd, AM.lim, Nat.reduceLeDiff, List.set, AM.wipeE, AM.Y.xcP, reduceCtorEq, imp_self, implies_true, not_false_eq_true]
  refine wp_q (w_life (d := 36) pu1 (by omega) (most := 14) (by omega)) fun v h2 q => ?_
  obtain ⟨A1, l1, rfl, hA1, a1, g1, n1, pu2, f2⟩ := q
  have P1 := pu1.lt
  try simp -implicitDefEqProofs only [↓AM.Y.y_var, ↓AM.Y.y_non, ↓AM.Y.y_bl, ↓AM.Y.y_int, ↓AM.Y.y_str, ↓AM.Y.y_ty, ↓AM.Y.y_tup, ↓AM.Y.y_lst, ↓AM.Y.y_dct0, ↓AM.Y.y_bin, ↓AM.Y.y_neg, ↓AM.Y.y_not, ↓AM.Y.y_and, ↓AM.Y.y_or, ↓AM.Y.y_cmp, ↓AM.Y.y_cmp2, ↓AM.Y.y_isN, ↓AM.Y.y_ntN, ↓AM.Y.y_isB, ↓AM.Y.y_ntB, ↓AM.Y.y_ife, ↓AM.Y.y_call, ↓AM.Y.y_bi, ↓AM.Y.y_mt, ↓AM.Y.y_idx, ↓AM.Y.y_slc, ↓AM.Y.y_lc, ↓AM.Y.y_lrng, ↓AM.Y.y_nil, ↓AM.Y.y_cons, ↓AM.Y.y_none, ↓AM.Y.y_some, ↓AM.Y.y_cnone, ↓AM.Y.y_csome, ↓AM.Y.t_not, ↓AM.Y.t_and, ↓AM.Y.t_or, ↓AM.Y.t_var, ↓AM.Y.t_cmp, ↓AM.Y.t_cmp2, ↓AM.Y.t_isN, ↓AM.Y.t_ntN, ↓AM.Y.t_isB, ↓AM.Y.t_ntB, ↓AM.Y.t_call, ↓AM.Y.t_bi, ↓AM.Y.t_idx, ↓AM.Y.i_seq, ↓AM.Y.i_rng1, ↓AM.Y.i_rng2, ↓AM.Y.i_enum, ↓AM.Y.i_zip, ↓AM.Y.g_nm, ↓AM.Y.g_tup, ↓AM.Y.g_sub, ↓AM.Y.g_nil, ↓AM.Y.g_cons, ↓AM.Y.s_nil', ↓AM.Y.s_cons', ↓AM.Y.s_asg, ↓AM.Y.s_asg2', ↓AM.Y.s_asg3', ↓AM.Y.s_par2', ↓AM.Y.s_par3', ↓AM.Y.s_aug', ↓AM.Y.s_expr', ↓AM.Y.s_ret', ↓AM.Y.s_retN', ↓AM.Y.s_iff', ↓AM.Y.s_for', ↓AM.Y.s_whl', ↓AM.Y.s_pass', ↓AM.Y.s_brk', ↓AM.Y.s_cnt', ↓AM.Y.s_never', ↓AM.Y.truth_bl, ↓AM.Y.truth_non, ↓AM.Y.truth_int, ↓AM.Y.truth_tup, ↓AM.Y.truth_rol, ↓AM.Y.truth_ref, ↓AM.Y.o_add, ↓AM.Y.o_sub, ↓AM.Y.o_mul, ↓AM.Y.o_mod, ↓AM.Y.o_fdv, ↓AM.Y.o_pow, ↓AM.Y.o_addL, ↓AM.Y.c_eq, ↓AM.Y.c_ne, ↓AM.Y.c_lt, ↓AM.Y.c_le, ↓AM.Y.c_gt, ↓AM.Y.c_ge, ↓AM.Y.c_inn, ↓AM.Y.c_nin, ↓AM.Y.has_dct, ↓AM.Y.x_tup, ↓AM.Y.x_rol, ↓AM.Y.x_ref, ↓AM.Y.x_set, ↓AM.Y.x_slcR, ↓AM.Y.x_slcL, ↓AM.Y.b_len_tup, ↓AM.Y.b_len_rol, ↓AM.Y.b_len_ref, ↓AM.Y.b_isi, ↓AM.Y.b_isi2, ↓AM.Y.b_int, ↓AM.Y.b_intb, ↓AM.Y.b_sum, ↓AM.Y.b_max2, ↓AM.Y.b_min2, ↓AM.Y.b_max1, ↓AM.Y.b_min1, ↓AM.Y.b_lst_tup, ↓AM.Y.b_lst_rol, ↓AM.Y.b_lst_ref, ↓AM.Y.b_all, ↓AM.Y.b_any, ↓AM.Y.k_app, ↓AM.Y.k_bits, ↓AM.Y.k_cnt, ↓AM.Y.m_app, ↓AM.Y.m_bits, ↓AM.Y.n_add, ↓AM.Y.n_sub, AM.wp_ok, AM.wp_no, ↓AM.wp_ret, ↓AM.wp_fail, ↓AM.wp_end, ↓AM.thn_nx, ↓AM.thn_rt, ↓AM.thn_bk, ↓AM.thn_ct, ↓AM.thn_xc, ↓AM.endP_nx, ↓AM.endP_rt, ↓AM.endP_xc, ↓AM.lpP_nx, ↓AM.lpP_ct, ↓AM.lpP_bk, ↓AM.lpP_rt, ↓AM.lpP_xc, ↓AM.Y.ifB_bl, ↓AM.Y.isI_int, ↓AM.Y.isT_tup, ↓AM.Y.isS_some, ↓AM.Y.isSS_some, ↓AM.Y.isO_lst, ↓AM.Y.isO_dct, AM.Y.ifB_bl, AM.Y.isI_int, AM.Y.isT_tup, AM.Y.isS_some, AM.Y.isSS_some, AM.Y.isO_lst, AM.Y.isO_dct, List.getElem?_cons_zero, List.getElem?_cons_succ, List.set_cons_zero, List.set_cons_succ, AM.Y.at0, AM.Y.at1, AM.Y.at2, AM.Y.at3, AM.Y.srcV, AM.Y.enumV, AM.tyOf, AM.tyIs, AM.isiV, AM.Y.isNon_non, AM.Y.isNon_bl, AM.Y.isNon_int, AM.Y.isNon_str, AM.Y.isNon_tup, AM.Y.isNon_rol, AM.Y.isNon_ref, Bool.not_true, Bool.not_false, Bool.true_eq_false, Bool.false_eq_true, ↓reduceIte, decide_true, decide_false, decide_eq_true_eq, Option.map_some, Option.map_none, Option.isSome_some, Option.isSome_none, List.length_cons, List.length_nil, List.isEmpty_cons, List.isEmpty_nil, true_and, and_true, Bool.or_false, Bool.false_or, Bool.or_true, Bool.true_or, Nat.zero_add, Nat.reduceAdd, AM.lim, Nat.reduceLeDiff, List.set, AM.wipeE, AM.Y.xcP, reduceCtorEq, imp_self, implies_true, not_false_eq_true]
  refine wp_q (w_life (d := 36) pu2 (by omega) (most := 9) (by omega)) fun v h3 q => ?_
  obtain ⟨A2, l2, rfl, hA2, a2, g2, n2, pu3, f3⟩ := q
  have P2 := pu2.lt
  have P3 := pu3.lt
  have A1P : A1 ∉ [P] := by simp; omega
  have A2P : A2 ∉ [P] := by simp; omega
  have L1 : Lv h3 (A1, l1) := ⟨f3.at_ _ _ A1P a1, g1, n1⟩
  have L2' : Lv h3 (A2, l2) := ⟨a2, g2, by show l2.length ≤ 14; omega⟩
  have A1lt := get_lt L1.1
  have A2lt := get_lt L2'.1
  have cut1 : ∀ a b c : Vl, cutL [a, b, c] none (some 1) = [a] := fun a b c => cut_take (m := 1)
  simp -implicitDefEqProofs only [↓AM.Y.y_var, ↓AM.Y.y_non, ↓AM.Y.y_bl, ↓AM.Y.y_int, ↓AM.Y.y_str, ↓AM.Y.y_ty, ↓AM.Y.y_tup, ↓AM.Y.y_lst, ↓AM.Y.y_dct0, ↓AM.Y.y_bin, ↓AM.Y.y_neg, ↓AM.Y.y_not, ↓AM.Y.y_and, ↓AM.Y.y_or, ↓AM.Y.y_cmp, ↓AM.Y.y_cmp2, ↓AM.Y.y_isN, ↓AM.Y.y_ntN, ↓AM.Y.y_isB, ↓AM.Y.y_ntB, ↓AM.Y.y_ife, ↓AM.Y.y_call, ↓AM.Y.y_bi, ↓AM.Y.y_mt, ↓AM.Y.y_idx, ↓AM.Y.y_slc, ↓AM.Y.y_lc, ↓AM.Y.y_lrng, ↓AM.Y.y_nil, ↓AM.Y.y_cons, ↓AM.Y.y_none, ↓AM.Y.y_some, ↓AM.Y.y_cnone, ↓AM.Y.y_csome, ↓AM.Y.t_not, ↓AM.Y.t_and, ↓AM.Y.t_or, ↓AM.Y.t_var, ↓AM.Y.t_cmp, ↓AM.Y.t_cmp2, ↓AM.Y.t_isN, ↓AM.Y.t_ntN, ↓AM.Y.t_isB, ↓AM.Y.t_ntB, ↓AM.Y.t_call, ↓AM.Y.t_bi, ↓AM.Y.t_idx, ↓AM.Y.i_seq, ↓AM.Y.i_rng1, ↓AM.Y.i_rng2, ↓AM.Y.i_enum, ↓AM.Y.i_zip, ↓AM.Y.g_nm, ↓AM.Y.g_tup, ↓AM.Y.g_sub, ↓AM.Y.g_nil, ↓AM.Y.g_cons, ↓AM.Y.s_nil', ↓AM.Y.s_cons', ↓AM.Y.s_asg, ↓AM.Y.s_asg2', ↓AM.Y.s_asg3', ↓AM.Y.s_par2', ↓AM.Y.s_par3', ↓AM.Y.s_aug', ↓AM.Y.s_expr', ↓AM.Y.s_ret', ↓AM.Y.s_retN', ↓AM.Y.s_iff', ↓AM.Y.s_for', ↓AM.Y.s_whl', ↓AM.Y.s_pass', ↓AM.Y.s_brk', ↓AM.Y.s_cnt', ↓AM.Y.s_never', ↓AM.Y.truth_bl, ↓AM.Y.truth_non, ↓AM.Y.truth_int, ↓AM.Y.truth_tup, ↓AM.Y.truth_rol, ↓AM.Y.truth_ref, ↓AM.Y.o_add, ↓AM.Y.o_sub, ↓AM.Y.o_mul, ↓AM.Y.o_mod, ↓AM.Y.o_fdv, ↓AM.Y.o_pow, ↓AM.Y.o_addL, ↓AM.Y.c_eq, ↓AM.Y.c_ne, ↓AM.Y.c_lt, ↓AM.Y.c_le, ↓AM.Y.c_gt, ↓AM.Y.c_ge, ↓AM.Y.c_inn, ↓AM.Y.c_nin, ↓AM.Y.has_dct, ↓AM.Y.x_tup, ↓AM.Y.x_rol, ↓AM.Y.x_ref, ↓AM.Y.x_set, ↓AM.Y.x_slcR, ↓AM.Y.x_slcL, ↓AM.Y.b_len_tup, ↓AM.Y.b_len_rol, ↓AM.Y.b_len_ref, ↓AM.Y.b_isi, ↓AM.Y.b_isi2, ↓AM.Y.b_int, ↓AM.Y.b_intb, ↓AM.Y.b_sum, ↓AM.Y.b_max2, ↓AM.Y.b_min2, ↓AM.Y.b_max1, ↓AM.Y.b_min1, ↓AM.Y.b_lst_tup, ↓AM.Y.b_lst_rol, ↓AM.Y.b_lst_ref, ↓AM.Y.b_all, ↓AM.Y.b_any, ↓AM.Y.k_app, ↓AM.Y.k_bits, ↓AM.Y.k_cnt, ↓AM.Y.m_app, ↓AM.Y.m_bits, ↓AM.Y.n_add, ↓AM.Y.n_sub, AM.wp_ok, AM.wp_no, ↓AM.wp_ret, ↓AM.wp_fail, ↓AM.wp_end, ↓AM.thn_nx, ↓AM.thn_rt, ↓AM.thn_bk, ↓AM.thn_ct, ↓AM.thn_xc, ↓AM.endP_nx, ↓AM.endP_rt, ↓AM.endP_xc, ↓AM.lpP_nx, ↓AM.lpP_ct, ↓AM.lpP_bk, ↓AM.lpP_rt, ↓AM.lpP_xc, ↓AM.Y.ifB_bl, ↓AM.Y.isI_int, ↓AM.Y.isT_tup, ↓AM.Y.isS_some, ↓AM.Y.isSS_some, ↓AM.Y.isO_lst, ↓AM.Y.isO_dct, AM.Y.ifB_bl, AM.Y.isI_int, AM.Y.isT_tup, AM.Y.isS_some, AM.Y.isSS_some, AM.Y.isO_lst, AM.Y.isO_dct, List.getElem?_cons_zero, List.getElem?_cons_succ, List.set_cons_zero, List.set_cons_succ, AM.Y.at0, AM.Y.at1, AM.Y.at2, AM.Y.at3, AM.Y.srcV, AM.Y.enumV, AM.tyOf, AM.tyIs, AM.isiV, AM.Y.isNon_non, AM.Y.isNon_bl, AM.Y.isNon_int, AM.Y.isNon_str, AM.Y.isNon_tup, AM.Y.isNon_rol, AM.Y.isNon_ref, Bool.not_true, Bool.not_false, Bool.true_eq_false, Bool.false_eq_true, ↓reduceIte, decide_true, decide_false, decide_eq_true_eq, Option.map_some, Option.map_none, Option.isSome_some, Option.isSome_none, List.length_cons, List.length_nil, List.isEmpty_cons, List.isEmpty_nil, true_and, and_true, Bool.or_false, Bool.false_or, Bool.or_true, Bool.true_or, Nat.zero_add, Nat.reduceAdd, AM.lim, Nat.reduceLeDiff, List.set, AM.wipeE, AM.Y.xcP, reduceCtorEq, imp_self, implies_true, not_false_eq_true, get_new, get_app get_new]
  have e3 : [Vl.tup [Vl.str (Str.ofString "line")], Vl.tup [Vl.str (Str.ofString "stand"), Vl.int 1], Vl.tup [Vl.str (Str.ofString "root")], Vl.tup [Vl.str (Str.ofString "line")], Vl.tup [Vl.str (Str.ofString "line")]] = l3.map Ev.v := rfl
  rw [e3]
  simp only [cut1]
  refine ⟨by simp, ?_⟩
  obtain ⟨h7, e7⟩ : ∃ h7, h7 = h3 ++ [Ob.lst (l3.map Ev.v)] ++ [Ob.lst [Vl.ref A1, Vl.ref A2, Vl.ref (List.length h3)]] ++ [Ob.lst [Vl.ref A1]] ++ [Ob.lst ([Vl.ref A1, Vl.ref A2, Vl.ref (List.length h3)] ++ [Vl.ref A1])] := ⟨_, rfl⟩
  have f7 : Fr [] h3 h7 := by rw [e7]; exact (((Fr.alloc _).trans (Fr.alloc _)).trans (Fr.alloc _)).trans (Fr.alloc _)
  have B1 : Lv h7 (A1, l1) := L1.fr f7 (by simp)
  have B2 : Lv h7 (A2, l2) := L2'.fr f7 (by simp)
  have B3 : Lv h7 (h3.length, l3) := ⟨by rw [e7]; exact get_app (get_app (get_app get_new _) _) _, good3, show l3.length ≤ 14 by decide⟩
  have hLR : h7[(h3 ++ [Ob.lst (l3.map Ev.v)]).length]? = some (.lst [Vl.ref A1, Vl.ref A2, Vl.ref h3.length]) := by rw [e7]; exact get_app (get_app get_new _) _
  have hCC : h7[(h3 ++ [Ob.lst (l3.map Ev.v)] ++ [Ob.lst [Vl.ref A1, Vl.ref A2, Vl.ref (List.length h3)]] ++ [Ob.lst [Vl.ref A1]]).length]? = some (.lst [Vl.ref A1, Vl.ref A2, Vl.ref h3.length, Vl.ref A1]) := by rw [e7]; exact get_new
  have pu7 : Pu h7 P (0 + 1000 + 1000) := pu3.fr f7 (by simp)
  rw [← e7]
  generalize (h3 ++ [Ob.lst (l3.map Ev.v)] ++ [Ob.lst [Vl.ref A1, Vl.ref A2, Vl.ref (List.length h3)]] ++ [Ob.lst [Vl.ref A1]]).length = CC at hCC ⊢
  have LR3 : A1 < (h3 ++ [Ob.lst (l3.map Ev.v)]).length ∧ A2 < (h3 ++ [Ob.lst (l3.map Ev.v)]).length ∧ h3.length < (h3 ++ [Ob.lst (l3.map Ev.v)]).length ∧ P < h3.length := by simp; omega
  generalize (h3 ++ [Ob.lst (l3.map Ev.v)]).length = LR at hLR LR3 ⊢
  have A1A : A1 < h3.length := A1lt
  generalize h3.length = A3 at B3 hLR hCC LR3 A1A ⊢
  clear e7 f7
  have all4 : ∀ (k : Nat) (x : Vl), [Vl.ref A1, Vl.ref A2, Vl.ref A3, Vl.ref A1][k]? = some x → ∃ q, x = .ref q.1 ∧ Lv h7 q := fun k x hk => by
    rcases k with _ | _ | _ | _ | k
    · cases hk; exact ⟨_, rfl, B1⟩
    · cases hk; exact ⟨_, rfl, B2⟩
    · cases hk; exact ⟨_, rfl, B3⟩
    · cases hk; exact ⟨_, rfl, B1⟩
    · cases hk
  refine for_cell (xs := [Vl.ref A1, Vl.ref A2, Vl.ref A3, Vl.ref A1]) (fun k σ h => Fr [] h7 h ∧ ∃ a : Option Vl, σ = [some (.rol (ns.map .int)), some (.ref P), some (.ref LR), a, none, none, none, none, none, none]) (fun k σ h I => I.1.get hCC) (fun k x σ h hk I => ?_) (fun σ h8 I => ?_) ⟨Fr.refl, _, rfl⟩
  · obtain ⟨f, a, rfl⟩ := I
    obtain ⟨q, rfl, b⟩ := all4 k x hk
    have b' := b.fr f (by simp)
    simp -implicitDefEqProofs only [↓AM.Y.y_var, ↓AM.Y.y_non, ↓AM.Y.y_bl, ↓AM.Y.y_int, ↓AM.Y.y_str, ↓AM.Y.y_ty, ↓AM.Y.y_tup, ↓AM.Y.y_lst, ↓AM.Y.y_dct0, ↓AM.Y.y_bin, ↓AM.Y.y_neg, ↓AM.Y.y_not, ↓AM.Y.y_and, ↓AM.Y.y_or, ↓AM.Y.y_cmp, ↓AM.Y.y_cmp2, ↓AM.Y.y_isN, ↓AM.Y.y_ntN, ↓AM.Y.y_isB, ↓AM.Y.y_ntB, ↓AM.Y.y_ife, ↓AM.Y.y_call, ↓AM.Y.y_bi, ↓AM.Y.y_mt, ↓AM.Y.y_idx, ↓AM.Y.y_slc, ↓AM.Y.y_lc, ↓AM.Y.y_lrng, ↓AM.Y.y_nil, ↓AM.Y.y_cons, ↓AM.Y.y_none, ↓AM.Y.y_some, ↓AM.Y.y_cnone, ↓AM.Y.y_csome, ↓AM.Y.t_not, ↓AM.Y.t_and, ↓AM.Y.t_or, ↓AM.Y.t_var, ↓AM.Y.t_cmp, ↓AM.Y.t_cmp2, ↓AM.Y.t_isN, ↓AM.Y.t_ntN, ↓AM.Y.t_isB, ↓AM.Y.t_ntB, ↓AM.Y.t_call, ↓AM.Y.t_bi, ↓AM.Y.t_idx, ↓AM.Y.i_seq, ↓AM.Y.i_rng1, ↓AM.Y.i_rng2, ↓AM.Y.i_enum, ↓AM.Y.i_zip, ↓AM.Y.g_nm, ↓AM.Y.g_tup, ↓AM.Y.g_sub, ↓AM.Y.g_nil, ↓AM.Y.g_cons, ↓AM.Y.s_nil', ↓AM.Y.s_cons', ↓AM.Y.s_asg, ↓AM.Y.s_asg2', ↓AM.Y.s_asg3', ↓AM.Y.s_par2', ↓AM.Y.s_par3', ↓AM.Y.s_aug', ↓AM.Y.s_expr', ↓AM.Y.s_ret', ↓AM.Y.s_retN', ↓AM.Y.s_iff', ↓AM.Y.s_for', ↓AM.Y.s_whl', ↓AM.Y.s_pass', ↓AM.Y.s_brk', ↓AM.Y.s_cnt', ↓AM.Y.s_never', ↓AM.Y.truth_bl, ↓AM.Y.truth_non, ↓AM.Y.truth_int, ↓AM.Y.truth_tup, ↓AM.Y.truth_rol, ↓AM.Y.truth_ref, ↓AM.Y.o_add, ↓AM.Y.o_sub, ↓AM.Y.o_mul, ↓AM.Y.o_mod, ↓AM.Y.o_fdv, ↓AM.Y.o_pow, ↓AM.Y.o_addL, ↓AM.Y.c_eq, ↓AM.Y.c_ne, ↓AM.Y.c_lt, ↓AM.Y.c_le, ↓AM.Y.c_gt, ↓AM.Y.c_ge, ↓AM.Y.c_inn, ↓AM.Y.c_nin, ↓AM.Y.has_dct, ↓AM.Y.x_tup, ↓AM.Y.x_rol, ↓AM.Y.x_ref, ↓AM.Y.x_set, ↓AM.Y.x_slcR, ↓AM.Y.x_slcL, ↓AM.Y.b_len_tup, ↓AM.Y.b_len_rol, ↓AM.Y.b_len_ref, ↓AM.Y.b_isi, ↓AM.Y.b_isi2, ↓AM.Y.b_int, ↓AM.Y.b_intb, ↓AM.Y.b_sum, ↓AM.Y.b_max2, ↓AM.Y.b_min2, ↓AM.Y.b_max1, ↓AM.Y.b_min1, ↓AM.Y.b_lst_tup, ↓AM.Y.b_lst_rol, ↓AM.Y.b_lst_ref, ↓AM.Y.b_all, ↓AM.Y.b_any, ↓AM.Y.k_app, ↓AM.Y.k_bits, ↓AM.Y.k_cnt, ↓AM.Y.m_app, ↓AM.Y.m_bits, ↓AM.Y.n_add, ↓AM.Y.n_sub, AM.wp_ok, AM.wp_no, ↓AM.wp_ret, ↓AM.wp_fail, ↓AM.wp_end, ↓AM.thn_nx, ↓AM.thn_rt, ↓AM.thn_bk, ↓AM.thn_ct, ↓AM.thn_xc, ↓AM.endP_nx, ↓AM.endP_rt, ↓AM.endP_xc, ↓AM.lpP_nx, ↓AM.lpP_ct, ↓AM.lpP_bk, ↓AM.lpP_rt, ↓AM.lpP_xc, ↓AM.Y.ifB_bl, ↓AM.Y.isI_int, ↓AM.Y.isT_tup, ↓AM.Y.isS_some, ↓AM.Y.isSS_some, ↓AM.Y.isO_lst, ↓AM.Y.isO_dct, AM.Y.ifB_bl, AM.Y.isI_int, AM.Y.isT_tup, AM.Y.isS_some, AM.Y.isSS_some, AM.Y.isO_lst, AM.Y.isO_dct, List.getElem?_cons_zero, List.getElem?_cons_succ, List.set_cons_zero, List.set_cons_succ, AM.Y.at0, AM.Y.at1, AM.Y.at2, AM.Y.at3, AM.Y.srcV, AM.Y.enumV, AM.tyOf, AM.tyIs, AM.isiV, AM.Y.isNon_non, AM.Y.isNon_bl, AM.Y.isNon_int, AM.Y.isNon_str, AM.Y.isNon_tup, AM.Y.isNon_rol, AM.Y.isNon_ref, Bool.not_true, Bool.not_false, Bool.true_eq_false, Bool.false_eq_true, ↓reduceIte, decide_true, decide_false, decide_eq_true_eq, Option.map_some, Option.map_none, Option.isSome_some, Option.isSome_none, List.length_cons, List.length_nil, List.isEmpty_cons, List.isEmpty_nil, true_and, and_true, Bool.or_false, Bool.false_or, Bool.or_true, Bool.true_or, Nat.zero_add, Nat.reduceAdd, AM.lim, Nat.reduceLeDiff, List.set, AM.wipeE, AM.Y.xcP, reduceCtorEq, imp_self, implies_true, not_false_eq_true]
    refine wp_q (w_is_life (d := 37) b'.1 b'.2.1 (by have := b'.2.2; omega)) fun v h9 z => ?_
    obtain ⟨rfl, f9⟩ := z
    simp -implicitDefEqProofs only [↓AM.Y.y_var, ↓AM.Y.y_non, ↓AM.Y.y_bl, ↓AM.Y.y_int, ↓AM.Y.y_str, ↓AM.Y.y_ty, ↓AM.Y.y_tup, ↓AM.Y.y_lst, ↓AM.Y.y_dct0, ↓AM.Y.y_bin, ↓AM.Y.y_neg, ↓AM.Y.y_not, ↓AM.Y.y_and, ↓AM.Y.y_or, ↓AM.Y.y_cmp, ↓AM.Y.y_cmp2, ↓AM.Y.y_isN, ↓AM.Y.y_ntN, ↓AM.Y.y_isB, ↓AM.Y.y_ntB, ↓AM.Y.y_ife, ↓AM.Y.y_call, ↓AM.Y.y_bi, ↓AM.Y.y_mt, ↓AM.Y.y_idx, ↓AM.Y.y_slc, ↓AM.Y.y_lc, ↓AM.Y.y_lrng, ↓AM.Y.y_nil, ↓AM.Y.y_cons, ↓AM.Y.y_none, ↓AM.Y.y_some, ↓AM.Y.y_cnone, ↓AM.Y.y_csome, ↓AM.Y.t_not, ↓AM.Y.t_and, ↓AM.Y.t_or, ↓AM.Y.t_var, ↓AM.Y.t_cmp, ↓AM.Y.t_cmp2, ↓AM.Y.t_isN, ↓AM.Y.t_ntN, ↓AM.Y.t_isB, ↓AM.Y.t_ntB, ↓AM.Y.t_call, ↓AM.Y.t_bi, ↓AM.Y.t_idx, ↓AM.Y.i_seq, ↓AM.Y.i_rng1, ↓AM.Y.i_rng2, ↓AM.Y.i_enum, ↓AM.Y.i_zip, ↓AM.Y.g_nm, ↓AM.Y.g_tup, ↓AM.Y.g_sub, ↓AM.Y.g_nil, ↓AM.Y.g_cons, ↓AM.Y.s_nil', ↓AM.Y.s_cons', ↓AM.Y.s_asg, ↓AM.Y.s_asg2', ↓AM.Y.s_asg3', ↓AM.Y.s_par2', ↓AM.Y.s_par3', ↓AM.Y.s_aug', ↓AM.Y.s_expr', ↓AM.Y.s_ret', ↓AM.Y.s_retN', ↓AM.Y.s_iff', ↓AM.Y.s_for', ↓AM.Y.s_whl', ↓AM.Y.s_pass', ↓AM.Y.s_brk', ↓AM.Y.s_cnt', ↓AM.Y.s_never', ↓AM.Y.truth_bl, ↓AM.Y.truth_non, ↓AM.Y.truth_int, ↓AM.Y.truth_tup, ↓AM.Y.truth_rol, ↓AM.Y.truth_ref, ↓AM.Y.o_add, ↓AM.Y.o_sub, ↓AM.Y.o_mul, ↓AM.Y.o_mod, ↓AM.Y.o_fdv, ↓AM.Y.o_pow, ↓AM.Y.o_addL, ↓AM.Y.c_eq, ↓AM.Y.c_ne, ↓AM.Y.c_lt, ↓AM.Y.c_le, ↓AM.Y.c_gt, ↓AM.Y.c_ge, ↓AM.Y.c_inn, ↓AM.Y.c_nin, ↓AM.Y.has_dct, ↓AM.Y.x_tup, ↓AM.Y.x_rol, ↓AM.Y.x_ref, ↓AM.Y.x_set, ↓AM.Y.x_slcR, ↓AM.Y.x_slcL, ↓AM.Y.b_len_tup, ↓AM.Y.b_len_rol, ↓AM.Y.b_len_ref, ↓AM.Y.b_isi, ↓AM.Y.b_isi2, ↓AM.Y.b_int, ↓AM.Y.b_intb, ↓AM.Y.b_sum, ↓AM.Y.b_max2, ↓AM.Y.b_min2, ↓AM.Y.b_max1, ↓AM.Y.b_min1, ↓AM.Y.b_lst_tup, ↓AM.Y.b_lst_rol, ↓AM.Y.b_lst_ref, ↓AM.Y.b_all, ↓AM.Y.b_any, ↓AM.Y.k_app, ↓AM.Y.k_bits, ↓AM.Y.k_cnt, ↓AM.Y.m_app, ↓AM.Y.m_bits, ↓AM.Y.n_add, ↓AM.Y.n_sub, AM.wp_ok, AM.wp_no, ↓AM.wp_ret, ↓AM.wp_fail, ↓AM.wp_end, ↓AM.thn_nx, ↓AM.thn_rt, ↓AM.thn_bk, ↓AM.thn_ct, ↓AM.thn_xc, ↓AM.endP_nx, ↓AM.endP_rt, ↓AM.endP_xc, ↓AM.lpP_nx, ↓AM.lpP_ct, ↓AM.lpP_bk, ↓AM.lpP_rt, ↓AM.lpP_xc, ↓AM.Y.ifB_bl, ↓AM.Y.isI_int, ↓AM.Y.isT_tup, ↓AM.Y.isS_some, ↓AM.Y.isSS_some, ↓AM.Y.isO_lst, ↓AM.Y.isO_dct, AM.Y.ifB_bl, AM.Y.isI_int, AM.Y.isT_tup, AM.Y.isS_some, AM.Y.isSS_some, AM.Y.isO_lst, AM.Y.isO_dct, List.getElem?_cons_zero, List.getElem?_cons_succ, List.set_cons_zero, List.set_cons_succ, AM.Y.at0, AM.Y.at1, AM.Y.at2, AM.Y.at3, AM.Y.srcV, AM.Y.enumV, AM.tyOf, AM.tyIs, AM.isiV, AM.Y.isNon_non, AM.Y.isNon_bl, AM.Y.isNon_int, AM.Y.isNon_str, AM.Y.isNon_tup, AM.Y.isNon_rol, AM.Y.isNon_ref, Bool.not_true, Bool.not_false, Bool.true_eq_false, Bool.false_eq_true, ↓reduceIte, decide_true, decide_false, decide_eq_true_eq, Option.map_some, Option.map_none, Option.isSome_some, Option.isSome_none, List.length_cons, List.length_nil, List.isEmpty_cons, List.isEmpty_nil, true_and, and_true, Bool.or_false, Bool.false_or, Bool.or_true, Bool.true_or, Nat.zero_add, Nat.reduceAdd, AM.lim, Nat.reduceLeDiff, List.set, AM.wipeE, AM.Y.xcP, reduceCtorEq, imp_self, implies_true, not_false_eq_true]
    refine wp_q (w_right (d := 29) (f9.get b'.1) b'.2.1 b'.2.2) fun v h10 z => ?_
    obtain ⟨rfl, f10⟩ := z
    simp -implicitDefEqProofs only [↓AM.Y.y_var, ↓AM.Y.y_non, ↓AM.Y.y_bl, ↓AM.Y.y_int, ↓AM.Y.y_str, ↓AM.Y.y_ty, ↓AM.Y.y_tup, ↓AM.Y.y_lst, ↓AM.Y.y_dct0, ↓AM.Y.y_bin, ↓AM.Y.y_neg, ↓AM.Y.y_not, ↓AM.Y.y_and, ↓AM.Y.y_or, ↓AM.Y.y_cmp, ↓AM.Y.y_cmp2, ↓AM.Y.y_isN, ↓AM.Y.y_ntN, ↓AM.Y.y_isB, ↓AM.Y.y_ntB, ↓AM.Y.y_ife, ↓AM.Y.y_call, ↓AM.Y.y_bi, ↓AM.Y.y_mt, ↓AM.Y.y_idx, ↓AM.Y.y_slc, ↓AM.Y.y_lc, ↓AM.Y.y_lrng, ↓AM.Y.y_nil, ↓AM.Y.y_cons, ↓AM.Y.y_none, ↓AM.Y.y_some, ↓AM.Y.y_cnone, ↓AM.Y.y_csome, ↓AM.Y.t_not, ↓AM.Y.t_and, ↓AM.Y.t_or, ↓AM.Y.t_var, ↓AM.Y.t_cmp, ↓AM.Y.t_cmp2, ↓AM.Y.t_isN, ↓AM.Y.t_ntN, ↓AM.Y.t_isB, ↓AM.Y.t_ntB, ↓AM.Y.t_call, ↓AM.Y.t_bi, ↓AM.Y.t_idx, ↓AM.Y.i_seq, ↓AM.Y.i_rng1, ↓AM.Y.i_rng2, ↓AM.Y.i_enum, ↓AM.Y.i_zip, ↓AM.Y.g_nm, ↓AM.Y.g_tup, ↓AM.Y.g_sub, ↓AM.Y.g_nil, ↓AM.Y.g_cons, ↓AM.Y.s_nil', ↓AM.Y.s_cons', ↓AM.Y.s_asg, ↓AM.Y.s_asg2', ↓AM.Y.s_asg3', ↓AM.Y.s_par2', ↓AM.Y.s_par3', ↓AM.Y.s_aug', ↓AM.Y.s_expr', ↓AM.Y.s_ret', ↓AM.Y.s_retN', ↓AM.Y.s_iff', ↓AM.Y.s_for', ↓AM.Y.s_whl', ↓AM.Y.s_pass', ↓AM.Y.s_brk', ↓AM.Y.s_cnt', ↓AM.Y.s_never', ↓AM.Y.truth_bl, ↓AM.Y.truth_non, ↓AM.Y.truth_int, ↓AM.Y.truth_tup, ↓AM.Y.truth_rol, ↓AM.Y.truth_ref, ↓AM.Y.o_add, ↓AM.Y.o_sub, ↓AM.Y.o_mul, ↓AM.Y.o_mod, ↓AM.Y.o_fdv, ↓AM.Y.o_pow, ↓AM.Y.o_addL, ↓AM.Y.c_eq, ↓AM.Y.c_ne, ↓AM.Y.c_lt, ↓AM.Y.c_le, ↓AM.Y.c_gt, ↓AM.Y.c_ge, ↓AM.Y.c_inn, ↓AM.Y.c_nin, ↓AM.Y.has_dct, ↓AM.Y.x_tup, ↓AM.Y.x_rol, ↓AM.Y.x_ref, ↓AM.Y.x_set, ↓AM.Y.x_slcR, ↓AM.Y.x_slcL, ↓AM.Y.b_len_tup, ↓AM.Y.b_len_rol, ↓AM.Y.b_len_ref, ↓AM.Y.b_isi, ↓AM.Y.b_isi2, ↓AM.Y.b_int, ↓AM.Y.b_intb, ↓AM.Y.b_sum, ↓AM.Y.b_max2, ↓AM.Y.b_min2, ↓AM.Y.b_max1, ↓AM.Y.b_min1, ↓AM.Y.b_lst_tup, ↓AM.Y.b_lst_rol, ↓AM.Y.b_lst_ref, ↓AM.Y.b_all, ↓AM.Y.b_any, ↓AM.Y.k_app, ↓AM.Y.k_bits, ↓AM.Y.k_cnt, ↓AM.Y.m_app, ↓AM.Y.m_bits, ↓AM.Y.n_add, ↓AM.Y.n_sub, AM.wp_ok, AM.wp_no, ↓AM.wp_ret, ↓AM.wp_fail, ↓AM.wp_end, ↓AM.thn_nx, ↓AM.thn_rt, ↓AM.thn_bk, ↓AM.thn_ct, ↓AM.thn_xc, ↓AM.endP_nx, ↓AM.endP_rt, ↓AM.endP_xc, ↓AM.lpP_nx, ↓AM.lpP_ct, ↓AM.lpP_bk, ↓AM.lpP_rt, ↓AM.lpP_xc, ↓AM.Y.ifB_bl, ↓AM.Y.isI_int, ↓AM.Y.isT_tup, ↓AM.Y.isS_some, ↓AM.Y.isSS_some, ↓AM.Y.isO_lst, ↓AM.Y.isO_dct, AM.Y.ifB_bl, AM.Y.isI_int, AM.Y.isT_tup, AM.Y.isS_some, AM.Y.isSS_some, AM.Y.isO_lst, AM.Y.isO_dct, List.getElem?_cons_zero, List.getElem?_cons_succ, List.set_cons_zero, List.set_cons_succ, AM.Y.at0, AM.Y.at1, AM.Y.at2, AM.Y.at3, AM.Y.srcV, AM.Y.enumV, AM.tyOf, AM.tyIs, AM.isiV, AM.Y.isNon_non, AM.Y.isNon_bl, AM.Y.isNon_int, AM.Y.isNon_str, AM.Y.isNon_tup, AM.Y.isNon_rol, AM.Y.isNon_ref, Bool.not_true, Bool.not_false, Bool.true_eq_false, Bool.false_eq_true, ↓reduceIte, decide_true, decide_false, decide_eq_true_eq, Option.map_some, Option.map_none, Option.isSome_some, Option.isSome_none, List.length_cons, List.length_nil, List.isEmpty_cons, List.isEmpty_nil, true_and, and_true, Bool.or_false, Bool.false_or, Bool.or_true, Bool.true_or, Nat.zero_add, Nat.reduceAdd, AM.lim, Nat.reduceLeDiff, List.set, AM.wipeE, AM.Y.xcP, reduceCtorEq, imp_self, implies_true, not_false_eq_true]
    exact ⟨f.trans (f9.trans f10), _, rfl⟩
  · obtain ⟨f8, a, rfl⟩ := I
    simp -implicitDefEqProofs only [↓AM.Y.y_var, ↓AM.Y.y_non, ↓AM.Y.y_bl, ↓AM.Y.y_int, ↓AM.Y.y_str, ↓AM.Y.y_ty, ↓AM.Y.y_tup, ↓AM.Y.y_lst, ↓AM.Y.y_dct0, ↓AM.Y.y_bin, ↓AM.Y.y_neg, ↓AM.Y.y_not, ↓AM.Y.y_and, ↓AM.Y.y_or, ↓AM.Y.y_cmp, ↓AM.Y.y_cmp2, ↓AM.Y.y_isN, ↓AM.Y.y_ntN, ↓AM.Y.y_isB, ↓AM.Y.y_ntB, ↓AM.Y.y_ife, ↓AM.Y.y_call, ↓AM.Y.y_bi, ↓AM.Y.y_mt, ↓AM.Y.y_idx, ↓AM.Y.y_slc, ↓AM.Y.y_lc, ↓AM.Y.y_lrng, ↓AM.Y.y_nil, ↓AM.Y.y_cons, ↓AM.Y.y_none, ↓AM.Y.y_some, ↓AM.Y.y_cnone, ↓AM.Y.y_csome, ↓AM.Y.t_not, ↓AM.Y.t_and, ↓AM.Y.t_or, ↓AM.Y.t_var, ↓AM.Y.t_cmp, ↓AM.Y.t_cmp2, ↓AM.Y.t_isN, ↓AM.Y.t_ntN, ↓AM.Y.t_isB, ↓AM.Y.t_ntB, ↓AM.Y.t_call, ↓AM.Y.t_bi, ↓AM.Y.t_idx, ↓AM.Y.i_seq, ↓AM.Y.i_rng1, ↓AM.Y.i_rng2, ↓AM.Y.i_enum, ↓AM.Y.i_zip, ↓AM.Y.g_nm, ↓AM.Y.g_tup, ↓AM.Y.g_sub, ↓AM.Y.g_nil, ↓AM.Y.g_cons, ↓AM.Y.s_nil', ↓AM.Y.s_cons', ↓AM.Y.s_asg, ↓AM.Y.s_asg2', ↓AM.Y.s_asg3', ↓AM.Y.s_par2', ↓AM.Y.s_par3', ↓AM.Y.s_aug', ↓AM.Y.s_expr', ↓AM.Y.s_ret', ↓AM.Y.s_retN', ↓AM.Y.s_iff', ↓AM.Y.s_for', ↓AM.Y.s_whl', ↓AM.Y.s_pass', ↓AM.Y.s_brk', ↓AM.Y.s_cnt', ↓AM.Y.s_never', ↓AM.Y.truth_bl, ↓AM.Y.truth_non, ↓AM.Y.truth_int, ↓AM.Y.truth_tup, ↓AM.Y.truth_rol, ↓AM.Y.truth_ref, ↓AM.Y.o_add, ↓AM.Y.o_sub, ↓AM.Y.o_mul, ↓AM.Y.o_mod, ↓AM.Y.o_fdv, ↓AM.Y.o_pow, ↓AM.Y.o_addL, ↓AM.Y.c_eq, ↓AM.Y.c_ne, ↓AM.Y.c_lt, ↓AM.Y.c_le, ↓AM.Y.c_gt, ↓AM.Y.c_ge, ↓AM.Y.c_inn, ↓AM.Y.c_nin, ↓AM.Y.has_dct, ↓AM.Y.x_tup, ↓AM.Y.x_rol, ↓AM.Y.x_ref, ↓AM.Y.x_set, ↓AM.Y.x_slcR, ↓AM.Y.x_slcL, ↓AM.Y.b_len_tup, ↓AM.Y.b_len_rol, ↓AM.Y.b_len_ref, ↓AM.Y.b_isi, ↓AM.Y.b_isi2, ↓AM.Y.b_int, ↓AM.Y.b_intb, ↓AM.Y.b_sum, ↓AM.Y.b_max2, ↓AM.Y.b_min2, ↓AM.Y.b_max1, ↓AM.Y.b_min1, ↓AM.Y.b_lst_tup, ↓AM.Y.b_lst_rol, ↓AM.Y.b_lst_ref, ↓AM.Y.b_all, ↓AM.Y.b_any, ↓AM.Y.k_app, ↓AM.Y.k_bits, ↓AM.Y.k_cnt, ↓AM.Y.m_app, ↓AM.Y.m_bits, ↓AM.Y.n_add, ↓AM.Y.n_sub, AM.wp_ok, AM.wp_no, ↓AM.wp_ret, ↓AM.wp_fail, ↓AM.wp_end, ↓AM.thn_nx, ↓AM.thn_rt, ↓AM.thn_bk, ↓AM.thn_ct, ↓AM.thn_xc, ↓AM.endP_nx, ↓AM.endP_rt, ↓AM.endP_xc, ↓AM.lpP_nx, ↓AM.lpP_ct, ↓AM.lpP_bk, ↓AM.lpP_rt, ↓AM.lpP_xc, ↓AM.Y.ifB_bl, ↓AM.Y.isI_int, ↓AM.Y.isT_tup, ↓AM.Y.isS_some, ↓AM.Y.isSS_some, ↓AM.Y.isO_lst, ↓AM.Y.isO_dct, AM.Y.ifB_bl, AM.Y.isI_int, AM.Y.isT_tup, AM.Y.isS_some, AM.Y.isSS_some, AM.Y.isO_lst, AM.Y.isO_dct, List.getElem?_cons_zero, List.getElem?_cons_succ, List.set_cons_zero, List.set_cons_succ, AM.Y.at0, AM.Y.at1, AM.Y.at2, AM.Y.at3, AM.Y.srcV, AM.Y.enumV, AM.tyOf, AM.tyIs, AM.isiV, AM.Y.isNon_non, AM.Y.isNon_bl, AM.Y.isNon_int, AM.Y.isNon_str, AM.Y.isNon_tup, AM.Y.isNon_rol, AM.Y.isNon_ref, Bool.not_true, Bool.not_false, Bool.true_eq_false, Bool.false_eq_true, ↓reduceIte, decide_true, decide_false, decide_eq_true_eq, Option.map_some, Option.map_none, Option.isSome_some, Option.isSome_none, List.length_cons, List.length_nil, List.isEmpty_cons, List.isEmpty_nil, true_and, and_true, Bool.or_false, Bool.false_or, Bool.or_true, Bool.true_or, Nat.zero_add, Nat.reduceAdd, AM.lim, Nat.reduceLeDiff, List.set, AM.wipeE, AM.Y.xcP, reduceCtorEq, imp_self, implies_true, not_false_eq_true]
    refine wp_q (w_draw (fns := fns) (d := 37) (g := 15) (gm := 14) rfl rfl (r := P) (n := 0 + 1000 + 1000) ((pu7.fr f8 (by simp)).fr (Fr.alloc (rs := []) _) (by simp)) (by omega) (by omega) (by omega)) fun v h9 q => ?_
    obtain ⟨i, rfl, i0, i1, pu9, f9, len9⟩ := q
    obtain ⟨p, hp, p1, p4⟩ : ∃ p : Nat, (1 + i) = (p : Int) ∧ 1 ≤ p ∧ p ≤ 4 := ⟨(1 + i).toNat, by omega, by omega, by omega⟩
    have P8 : P < h8.length := (pu7.fr f8 (by simp)).lt
    have f79 : Fr [P] h7 h9 := (f8.nil.trans (Fr.alloc _)).trans f9
    have hLn : h9[h8.length]? = some (.lst ((l1.take 0).map Ev.v)) := f9.at_ _ _ (by simp; omega) get_new
    have nP1 : A1 ∉ [P] := A1P
    have nP2 : A2 ∉ [P] := A2P
    have nP3 : A3 ∉ [P] := by simp; omega
    have nPL : LR ∉ [P] := by simp; omega
    have C1 := B1.fr f79 nP1
    have C2 := B2.fr f79 nP2
    have C3 := B3.fr f79 nP3
    have hLR9 := f79.at_ _ _ nPL hLR
    have A1h : A1 < h8.length := get_lt (f8.get B1.1)
    have A2h : A2 < h8.length := get_lt (f8.get B2.1)
    have A3h : A3 < h8.length := get_lt (f8.get B3.1)
    have LRh : LR < h8.length := get_lt (f8.get hLR)
    clear e3 cut1 all4 hCC B1 B2 B3 hLR f8 pu7 L1 L2' A1lt A2lt f2 f3 pu3 pu2 pu1
    generalize h8.length = LN at *
    simp -implicitDefEqProofs only [↓AM.Y.y_var, ↓AM.Y.y_non, ↓AM.Y.y_bl, ↓AM.Y.y_int, ↓AM.Y.y_str, ↓AM.Y.y_ty, ↓AM.Y.y_tup, ↓AM.Y.y_lst, ↓AM.Y.y_dct0, ↓AM.Y.y_bin, ↓AM.Y.y_neg, ↓AM.Y.y_not, ↓AM.Y.y_and, ↓AM.Y.y_or, ↓AM.Y.y_cmp, ↓AM.Y.y_cmp2, ↓AM.Y.y_isN, ↓AM.Y.y_ntN, ↓AM.Y.y_isB, ↓AM.Y.y_ntB, ↓AM.Y.y_ife, ↓AM.Y.y_call, ↓AM.Y.y_bi, ↓AM.Y.y_mt, ↓AM.Y.y_idx, ↓AM.Y.y_slc, ↓AM.Y.y_lc, ↓AM.Y.y_lrng, ↓AM.Y.y_nil, ↓AM.Y.y_cons, ↓AM.Y.y_none, ↓AM.Y.y_some, ↓AM.Y.y_cnone, ↓AM.Y.y_csome, ↓AM.Y.t_not, ↓AM.Y.t_and, ↓AM.Y.t_or, ↓AM.Y.t_var, ↓AM.Y.t_cmp, ↓AM.Y.t_cmp2, ↓AM.Y.t_isN, ↓AM.Y.t_ntN, ↓AM.Y.t_isB, ↓AM.Y.t_ntB, ↓AM.Y.t_call, ↓AM.Y.t_bi, ↓AM.Y.t_idx, ↓AM.Y.i_seq, ↓AM.Y.i_rng1, ↓AM.Y.i_rng2, ↓AM.Y.i_enum, ↓AM.Y.i_zip, ↓AM.Y.g_nm, ↓AM.Y.g_tup, ↓AM.Y.g_sub, ↓AM.Y.g_nil, ↓AM.Y.g_cons, ↓AM.Y.s_nil', ↓AM.Y.s_cons', ↓AM.Y.s_asg, ↓AM.Y.s_asg2', ↓AM.Y.s_asg3', ↓AM.Y.s_par2', ↓AM.Y.s_par3', ↓AM.Y.s_aug', ↓AM.Y.s_expr', ↓AM.Y.s_ret', ↓AM.Y.s_retN', ↓AM.Y.s_iff', ↓AM.Y.s_for', ↓AM.Y.s_whl', ↓AM.Y.s_pass', ↓AM.Y.s_brk', ↓AM.Y.s_cnt', ↓AM.Y.s_never', ↓AM.Y.truth_bl, ↓AM.Y.truth_non, ↓AM.Y.truth_int, ↓AM.Y.truth_tup, ↓AM.Y.truth_rol, ↓AM.Y.truth_ref, ↓AM.Y.o_add, ↓AM.Y.o_sub, ↓AM.Y.o_mul, ↓AM.Y.o_mod, ↓AM.Y.o_fdv, ↓AM.Y.o_pow, ↓AM.Y.o_addL, ↓AM.Y.c_eq, ↓AM.Y.c_ne, ↓AM.Y.c_lt, ↓AM.Y.c_le, ↓AM.Y.c_gt, ↓AM.Y.c_ge, ↓AM.Y.c_inn, ↓AM.Y.c_nin, ↓AM.Y.has_dct, ↓AM.Y.x_tup, ↓AM.Y.x_rol, ↓AM.Y.x_ref, ↓AM.Y.x_set, ↓AM.Y.x_slcR, ↓AM.Y.x_slcL, ↓AM.Y.b_len_tup, ↓AM.Y.b_len_rol, ↓AM.Y.b_len_ref, ↓AM.Y.b_isi, ↓AM.Y.b_isi2, ↓AM.Y.b_int, ↓AM.Y.b_intb, ↓AM.Y.b_sum, ↓AM.Y.b_max2, ↓AM.Y.b_min2, ↓AM.Y.b_max1, ↓AM.Y.b_min1, ↓AM.Y.b_lst_tup, ↓AM.Y.b_lst_rol, ↓AM.Y.b_lst_ref, ↓AM.Y.b_all, ↓AM.Y.b_any, ↓AM.Y.k_app, ↓AM.Y.k_bits, ↓AM.Y.k_cnt, ↓AM.Y.m_app, ↓AM.Y.m_bits, ↓AM.Y.n_add, ↓AM.Y.n_sub, AM.wp_ok, AM.wp_no, ↓AM.wp_ret, ↓AM.wp_fail, ↓AM.wp_end, ↓AM.thn_nx, ↓AM.thn_rt, ↓AM.thn_bk, ↓AM.thn_ct, ↓AM.thn_xc, ↓AM.endP_nx, ↓AM.endP_rt, ↓AM.endP_xc, ↓AM.lpP_nx, ↓AM.lpP_ct, ↓AM.lpP_bk, ↓AM.lpP_rt, ↓AM.lpP_xc, ↓AM.Y.ifB_bl, ↓AM.Y.isI_int, ↓AM.Y.isT_tup, ↓AM.Y.isS_some, ↓AM.Y.isSS_some, ↓AM.Y.isO_lst, ↓AM.Y.isO_dct, AM.Y.ifB_bl, AM.Y.isI_int, AM.Y.isT_tup, AM.Y.isS_some, AM.Y.isSS_some, AM.Y.isO_lst, AM.Y.isO_dct, List.getElem?_cons_zero, List.getElem?_cons_succ, List.set_cons_zero, List.set_cons_succ, AM.Y.at0, AM.Y.at1, AM.Y.at2, AM.Y.at3, AM.Y.srcV, AM.Y.enumV, AM.tyOf, AM.tyIs, AM.isiV, AM.Y.isNon_non, AM.Y.isNon_bl, AM.Y.isNon_int, AM.Y.isNon_str, AM.Y.isNon_tup, AM.Y.isNon_rol, AM.Y.isNon_ref, Bool.not_true, Bool.not_false, Bool.true_eq_false, Bool.false_eq_true, ↓reduceIte, decide_true, decide_false, decide_eq_true_eq, Option.map_some, Option.map_none, Option.isSome_some, Option.isSome_none, List.length_cons, List.length_nil, List.isEmpty_cons, List.isEmpty_nil, true_and, and_true, Bool.or_false, Bool.false_or, Bool.or_true, Bool.true_or, Nat.zero_add, Nat.reduceAdd, AM.lim, Nat.reduceLeDiff, List.set, AM.wipeE, AM.Y.xcP, reduceCtorEq, imp_self, implies_true, not_false_eq_true, hLR9, C1.1, hp]
    have n1' : A1 ∉ [LN] := by simp; omega
    refine for_cell (xs := l1.map Ev.v) (fun k σ h => Fr [LN] h9 h ∧ h[LN]? = some (.lst ((l1.take k).map Ev.v)) ∧ ∃ a b c d e : Option Vl, σ = [some (.rol (ns.map .int)), some (.ref P), some (.ref LR), a, some (.ref LN), some (.int p), b, c, d, e]) (fun k σ h I => I.1.at_ _ _ n1' C1.1) (fun k x σ h hk I => ?_) (fun σ h10 I => ?_) ⟨Fr.refl, hLn, _, _, _, _, _, rfl⟩
    · obtain ⟨f, hL, a, b, c, d, e, rfl⟩ := I
      obtain ⟨ev, e1, rfl, e3⟩ := map_at hk
      have kl := (List.getElem?_eq_some_iff.mp e1).1
      have tl : ((l1.take k).map Ev.v).length < 100000 := by
        rw [List.length_map, List.length_take]
        omega
      have gk := good_take g1 (k + 1)
      have lk : (l1.take (k + 1)).length ≤ 14 := by rw [List.length_take]; omega
      have lk2 : (l1.take (k + 1)).length ≤ 1000 := by omega
      have e4 : (l1.take k).map Ev.v ++ [ev.v] = (l1.take (k + 1)).map Ev.v := by rw [e3, List.map_append]; rfl
      simp -implicitDefEqProofs only [↓AM.Y.y_var, ↓AM.Y.y_non, ↓AM.Y.y_bl, ↓AM.Y.y_int, ↓AM.Y.y_str, ↓AM.Y.y_ty, ↓AM.Y.y_tup, ↓AM.Y.y_lst, ↓AM.Y.y_dct0, ↓AM.Y.y_bin, ↓AM.Y.y_neg, ↓AM.Y.y_not, ↓AM.Y.y_and, ↓AM.Y.y_or, ↓AM.Y.y_cmp, ↓AM.Y.y_cmp2, ↓AM.Y.y_isN, ↓AM.Y.y_ntN, ↓AM.Y.y_isB, ↓AM.Y.y_ntB, ↓AM.Y.y_ife, ↓AM.Y.y_call, ↓AM.Y.y_bi, ↓AM.Y.y_mt, ↓AM.Y.y_idx, ↓AM.Y.y_slc, ↓AM.Y.y_lc, ↓AM.Y.y_lrng, ↓AM.Y.y_nil, ↓AM.Y.y_cons, ↓AM.Y.y_none, ↓AM.Y.y_some, ↓AM.Y.y_cnone, ↓AM.Y.y_csome, ↓AM.Y.t_not, ↓AM.Y.t_and, ↓AM.Y.t_or, ↓AM.Y.t_var, ↓AM.Y.t_cmp, ↓AM.Y.t_cmp2, ↓AM.Y.t_isN, ↓AM.Y.t_ntN, ↓AM.Y.t_isB, ↓AM.Y.t_ntB, ↓AM.Y.t_call, ↓AM.Y.t_bi, ↓AM.Y.t_idx, ↓AM.Y.i_seq, ↓AM.Y.i_rng1, ↓AM.Y.i_rng2, ↓AM.Y.i_enum, ↓AM.Y.i_zip, ↓AM.Y.g_nm, ↓AM.Y.g_tup, ↓AM.Y.g_sub, ↓AM.Y.g_nil, ↓AM.Y.g_cons, ↓AM.Y.s_nil', ↓AM.Y.s_cons', ↓AM.Y.s_asg, ↓AM.Y.s_asg2', ↓AM.Y.s_asg3', ↓AM.Y.s_par2', ↓AM.Y.s_par3', ↓AM.Y.s_aug', ↓AM.Y.s_expr', ↓AM.Y.s_ret', ↓AM.Y.s_retN', ↓AM.Y.s_iff', ↓AM.Y.s_for', ↓AM.Y.s_whl', ↓AM.Y.s_pass', ↓AM.Y.s_brk', ↓AM.Y.s_cnt', ↓AM.Y.s_never', ↓AM.Y.truth_bl, ↓AM.Y.truth_non, ↓AM.Y.truth_int, ↓AM.Y.truth_tup, ↓AM.Y.truth_rol, ↓AM.Y.truth_ref, ↓AM.Y.o_add, ↓AM.Y.o_sub, ↓AM.Y.o_mul, ↓AM.Y.o_mod, ↓AM.Y.o_fdv, ↓AM.Y.o_pow, ↓AM.Y.o_addL, ↓AM.Y.c_eq, ↓AM.Y.c_ne, ↓AM.Y.c_lt, ↓AM.Y.c_le, ↓AM.Y.c_gt, ↓AM.Y.c_ge, ↓AM.Y.c_inn, ↓AM.Y.c_nin, ↓AM.Y.has_dct, ↓AM.Y.x_tup, ↓AM.Y.x_rol, ↓AM.Y.x_ref, ↓AM.Y.x_set, ↓AM.Y.x_slcR, ↓AM.Y.x_slcL, ↓AM.Y.b_len_tup, ↓AM.Y.b_len_rol, ↓AM.Y.b_len_ref, ↓AM.Y.b_isi, ↓AM.Y.b_isi2, ↓AM.Y.b_int, ↓AM.Y.b_intb, ↓AM.Y.b_sum, ↓AM.Y.b_max2, ↓AM.Y.b_min2, ↓AM.Y.b_max1, ↓AM.Y.b_min1, ↓AM.Y.b_lst_tup, ↓AM.Y.b_lst_rol, ↓AM.Y.b_lst_ref, ↓AM.Y.b_all, ↓AM.Y.b_any, ↓AM.Y.k_app, ↓AM.Y.k_bits, ↓AM.Y.k_cnt, ↓AM.Y.m_app, ↓AM.Y.m_bits, ↓AM.Y.n_add, ↓AM.Y.n_sub, AM.wp_ok, AM.wp_no, ↓AM.wp_ret, ↓AM.wp_fail, ↓AM.wp_end, ↓AM.thn_nx, ↓AM.thn_rt, ↓AM.thn_bk, ↓AM.thn_ct, ↓AM.thn_xc, ↓AM.endP_nx, ↓AM.endP_rt, ↓AM.endP_xc, ↓AM.lpP_nx, ↓AM.lpP_ct, ↓AM.lpP_bk, ↓AM.lpP_rt, ↓AM.lpP_xc, ↓AM.Y.ifB_bl, ↓AM.Y.isI_int, ↓AM.Y.isT_tup, ↓AM.Y.isS_some, ↓AM.Y.isSS_some, ↓AM.Y.isO_lst, ↓AM.Y.isO_dct, AM.Y.ifB_bl, AM.Y.isI_int, AM.Y.isT_tup, AM.Y.isS_some, AM.Y.isSS_some, AM.Y.isO_lst, AM.Y.isO_dct, List.getElem?_cons_zero, List.getElem?_cons_succ, List.set_cons_zero, List.set_cons_succ, AM.Y.at0, AM.Y.at1, AM.Y.at2, AM.Y.at3, AM.Y.srcV, AM.Y.enumV, AM.tyOf, AM.tyIs, AM.isiV, AM.Y.isNon_non, AM.Y.isNon_bl, AM.Y.isNon_int, AM.Y.isNon_str, AM.Y.isNon_tup, AM.Y.isNon_rol, AM.Y.isNon_ref, Bool.not_true, Bool.not_false, Bool.true_eq_false, Bool.false_eq_true, ↓reduceIte, decide_true, decide_false, decide_eq_true_eq, Option.map_some, Option.map_none, Option.isSome_some, Option.isSome_none, List.length_cons, List.length_nil, List.isEmpty_cons, List.isEmpty_nil, true_and, and_true, Bool.or_false, Bool.false_or, Bool.or_true, Bool.true_or, Nat.zero_add, Nat.reduceAdd, AM.lim, Nat.reduceLeDiff, List.set, AM.wipeE, AM.Y.xcP, reduceCtorEq, imp_self, implies_true, not_false_eq_true, hL, tl]
      rw [e4]
      have hL0 : (h.set LN (.lst ((l1.take (k + 1)).map Ev.v)))[LN]? = some (.lst ((l1.take (k + 1)).map Ev.v)) := get_put hL
      have fs : Fr [LN] h (h.set LN (.lst ((l1.take (k + 1)).map Ev.v))) := Fr.put (by simp) _
      generalize h.set LN (.lst ((l1.take (k + 1)).map Ev.v)) = hA at *
      generalize l1.take (k + 1) = lk' at *
      have ll := least_le gk lk
      have l1' : 1 ≤ least lk' := leastK_one lk' _
      refine wp_q (w_fits (d := 34) hL0 gk lk2 p1) fun v hB z => ?_
      obtain ⟨rfl, fB⟩ := z
      try simp -implicitDefEqProofs only [↓AM.Y.y_var, ↓AM.Y.y_non, ↓AM.Y.y_bl, ↓AM.Y.y_int, ↓AM.Y.y_str, ↓AM.Y.y_ty, ↓AM.Y.y_tup, ↓AM.Y.y_lst, ↓AM.Y.y_dct0, ↓AM.Y.y_bin, ↓AM.Y.y_neg, ↓AM.Y.y_not, ↓AM.Y.y_and, ↓AM.Y.y_or, ↓AM.Y.y_cmp, ↓AM.Y.y_cmp2, ↓AM.Y.y_isN, ↓AM.Y.y_ntN, ↓AM.Y.y_isB, ↓AM.Y.y_ntB, ↓AM.Y.y_ife, ↓AM.Y.y_call, ↓AM.Y.y_bi, ↓AM.Y.y_mt, ↓AM.Y.y_idx, ↓AM.Y.y_slc, ↓AM.Y.y_lc, ↓AM.Y.y_lrng, ↓AM.Y.y_nil, ↓AM.Y.y_cons, ↓AM.Y.y_none, ↓AM.Y.y_some, ↓AM.Y.y_cnone, ↓AM.Y.y_csome, ↓AM.Y.t_not, ↓AM.Y.t_and, ↓AM.Y.t_or, ↓AM.Y.t_var, ↓AM.Y.t_cmp, ↓AM.Y.t_cmp2, ↓AM.Y.t_isN, ↓AM.Y.t_ntN, ↓AM.Y.t_isB, ↓AM.Y.t_ntB, ↓AM.Y.t_call, ↓AM.Y.t_bi, ↓AM.Y.t_idx, ↓AM.Y.i_seq, ↓AM.Y.i_rng1, ↓AM.Y.i_rng2, ↓AM.Y.i_enum, ↓AM.Y.i_zip, ↓AM.Y.g_nm, ↓AM.Y.g_tup, ↓AM.Y.g_sub, ↓AM.Y.g_nil, ↓AM.Y.g_cons, ↓AM.Y.s_nil', ↓AM.Y.s_cons', ↓AM.Y.s_asg, ↓AM.Y.s_asg2', ↓AM.Y.s_asg3', ↓AM.Y.s_par2', ↓AM.Y.s_par3', ↓AM.Y.s_aug', ↓AM.Y.s_expr', ↓AM.Y.s_ret', ↓AM.Y.s_retN', ↓AM.Y.s_iff', ↓AM.Y.s_for', ↓AM.Y.s_whl', ↓AM.Y.s_pass', ↓AM.Y.s_brk', ↓AM.Y.s_cnt', ↓AM.Y.s_never', ↓AM.Y.truth_bl, ↓AM.Y.truth_non, ↓AM.Y.truth_int, ↓AM.Y.truth_tup, ↓AM.Y.truth_rol, ↓AM.Y.truth_ref, ↓AM.Y.o_add, ↓AM.Y.o_sub, ↓AM.Y.o_mul, ↓AM.Y.o_mod, ↓AM.Y.o_fdv, ↓AM.Y.o_pow, ↓AM.Y.o_addL, ↓AM.Y.c_eq, ↓AM.Y.c_ne, ↓AM.Y.c_lt, ↓AM.Y.c_le, ↓AM.Y.c_gt, ↓AM.Y.c_ge, ↓AM.Y.c_inn, ↓AM.Y.c_nin, ↓AM.Y.has_dct, ↓AM.Y.x_tup, ↓AM.Y.x_rol, ↓AM.Y.x_ref, ↓AM.Y.x_set, ↓AM.Y.x_slcR, ↓AM.Y.x_slcL, ↓AM.Y.b_len_tup, ↓AM.Y.b_len_rol, ↓AM.Y.b_len_ref, ↓AM.Y.b_isi, ↓AM.Y.b_isi2, ↓AM.Y.b_int, ↓AM.Y.b_intb, ↓AM.Y.b_sum, ↓AM.Y.b_max2, ↓AM.Y.b_min2, ↓AM.Y.b_max1, ↓AM.Y.b_min1, ↓AM.Y.b_lst_tup, ↓AM.Y.b_lst_rol, ↓AM.Y.b_lst_ref, ↓AM.Y.b_all, ↓AM.Y.b_any, ↓AM.Y.k_app, ↓AM.Y.k_bits, ↓AM.Y.k_cnt, ↓AM.Y.m_app, ↓AM.Y.m_bits, ↓AM.Y.n_add, ↓AM.Y.n_sub, AM.wp_ok, AM.wp_no, ↓AM.wp_ret, ↓AM.wp_fail, ↓AM.wp_end, ↓AM.thn_nx, ↓AM.thn_rt, ↓AM.thn_bk, ↓AM.thn_ct, ↓AM.thn_xc, ↓AM.endP_nx, ↓AM.endP_rt, ↓AM.endP_xc, ↓AM.lpP_nx, ↓AM.lpP_ct, ↓AM.lpP_bk, ↓AM.lpP_rt, ↓AM.lpP_xc, ↓AM.Y.ifB_bl, ↓AM.Y.isI_int, ↓AM.Y.isT_tup, ↓AM.Y.isS_some, ↓AM.Y.isSS_some, ↓AM.Y.isO_lst, ↓AM.Y.isO_dct, AM.Y.ifB_bl, AM.Y.isI_int, AM.Y.isT_tup, AM.Y.isS_some, AM.Y.isSS_some, AM.Y.isO_lst, AM.Y.isO_dct, List.getElem?_cons_zero, List.getElem?_cons_succ, List.set_cons_zero, List.set_cons_succ, AM.Y.at0, AM.Y.at1, AM.Y.at2, AM.Y.at3, AM.Y.srcV, AM.Y.enumV, AM.tyOf, AM.tyIs, AM.isiV, AM.Y.isNon_non, AM.Y.isNon_bl, AM.Y.isNon_int, AM.Y.isNon_str, AM.Y.isNon_tup, AM.Y.isNon_rol, AM.Y.isNon_ref, Bool.not_true, Bool.not_false, Bool.true_eq_false, Bool.false_eq_true, ↓reduceIte, decide_true, decide_false, decide_eq_true_eq, Option.map_some, Option.map_none, Option.isSome_some, Option.isSome_none, List.length_cons, List.length_nil, List.isEmpty_cons, List.isEmpty_nil, true_and, and_true, Bool.or_false, Bool.false_or, Bool.or_true, Bool.true_or, Nat.zero_add, Nat.reduceAdd, AM.lim, Nat.reduceLeDiff, List.set, AM.wipeE, AM.Y.xcP, reduceCtorEq, imp_self, implies_true, not_false_eq_true]
      refine wp_q (w_least_places (d := 35) (fB.get hL0) gk lk2) fun v hC z => ?_
      obtain ⟨rfl, fC⟩ := z
      try simp -implicitDefEqProofs only [↓AM.Y.y_var, ↓AM.Y.y_non, ↓AM.Y.y_bl, ↓AM.Y.y_int, ↓AM.Y.y_str, ↓AM.Y.y_ty, ↓AM.Y.y_tup, ↓AM.Y.y_lst, ↓AM.Y.y_dct0, ↓AM.Y.y_bin, ↓AM.Y.y_neg, ↓AM.Y.y_not, ↓AM.Y.y_and, ↓AM.Y.y_or, ↓AM.Y.y_cmp, ↓AM.Y.y_cmp2, ↓AM.Y.y_isN, ↓AM.Y.y_ntN, ↓AM.Y.y_isB, ↓AM.Y.y_ntB, ↓AM.Y.y_ife, ↓AM.Y.y_call, ↓AM.Y.y_bi, ↓AM.Y.y_mt, ↓AM.Y.y_idx, ↓AM.Y.y_slc, ↓AM.Y.y_lc, ↓AM.Y.y_lrng, ↓AM.Y.y_nil, ↓AM.Y.y_cons, ↓AM.Y.y_none, ↓AM.Y.y_some, ↓AM.Y.y_cnone, ↓AM.Y.y_csome, ↓AM.Y.t_not, ↓AM.Y.t_and, ↓AM.Y.t_or, ↓AM.Y.t_var, ↓AM.Y.t_cmp, ↓AM.Y.t_cmp2, ↓AM.Y.t_isN, ↓AM.Y.t_ntN, ↓AM.Y.t_isB, ↓AM.Y.t_ntB, ↓AM.Y.t_call, ↓AM.Y.t_bi, ↓AM.Y.t_idx, ↓AM.Y.i_seq, ↓AM.Y.i_rng1, ↓AM.Y.i_rng2, ↓AM.Y.i_enum, ↓AM.Y.i_zip, ↓AM.Y.g_nm, ↓AM.Y.g_tup, ↓AM.Y.g_sub, ↓AM.Y.g_nil, ↓AM.Y.g_cons, ↓AM.Y.s_nil', ↓AM.Y.s_cons', ↓AM.Y.s_asg, ↓AM.Y.s_asg2', ↓AM.Y.s_asg3', ↓AM.Y.s_par2', ↓AM.Y.s_par3', ↓AM.Y.s_aug', ↓AM.Y.s_expr', ↓AM.Y.s_ret', ↓AM.Y.s_retN', ↓AM.Y.s_iff', ↓AM.Y.s_for', ↓AM.Y.s_whl', ↓AM.Y.s_pass', ↓AM.Y.s_brk', ↓AM.Y.s_cnt', ↓AM.Y.s_never', ↓AM.Y.truth_bl, ↓AM.Y.truth_non, ↓AM.Y.truth_int, ↓AM.Y.truth_tup, ↓AM.Y.truth_rol, ↓AM.Y.truth_ref, ↓AM.Y.o_add, ↓AM.Y.o_sub, ↓AM.Y.o_mul, ↓AM.Y.o_mod, ↓AM.Y.o_fdv, ↓AM.Y.o_pow, ↓AM.Y.o_addL, ↓AM.Y.c_eq, ↓AM.Y.c_ne, ↓AM.Y.c_lt, ↓AM.Y.c_le, ↓AM.Y.c_gt, ↓AM.Y.c_ge, ↓AM.Y.c_inn, ↓AM.Y.c_nin, ↓AM.Y.has_dct, ↓AM.Y.x_tup, ↓AM.Y.x_rol, ↓AM.Y.x_ref, ↓AM.Y.x_set, ↓AM.Y.x_slcR, ↓AM.Y.x_slcL, ↓AM.Y.b_len_tup, ↓AM.Y.b_len_rol, ↓AM.Y.b_len_ref, ↓AM.Y.b_isi, ↓AM.Y.b_isi2, ↓AM.Y.b_int, ↓AM.Y.b_intb, ↓AM.Y.b_sum, ↓AM.Y.b_max2, ↓AM.Y.b_min2, ↓AM.Y.b_max1, ↓AM.Y.b_min1, ↓AM.Y.b_lst_tup, ↓AM.Y.b_lst_rol, ↓AM.Y.b_lst_ref, ↓AM.Y.b_all, ↓AM.Y.b_any, ↓AM.Y.k_app, ↓AM.Y.k_bits, ↓AM.Y.k_cnt, ↓AM.Y.m_app, ↓AM.Y.m_bits, ↓AM.Y.n_add, ↓AM.Y.n_sub, AM.wp_ok, AM.wp_no, ↓AM.wp_ret, ↓AM.wp_fail, ↓AM.wp_end, ↓AM.thn_nx, ↓AM.thn_rt, ↓AM.thn_bk, ↓AM.thn_ct, ↓AM.thn_xc, ↓AM.endP_nx, ↓AM.endP_rt, ↓AM.endP_xc, ↓AM.lpP_nx, ↓AM.lpP_ct, ↓AM.lpP_bk, ↓AM.lpP_rt, ↓AM.lpP_xc, ↓AM.Y.ifB_bl, ↓AM.Y.isI_int, ↓AM.Y.isT_tup, ↓AM.Y.isS_some, ↓AM.Y.isSS_some, ↓AM.Y.isO_lst, ↓AM.Y.isO_dct, AM.Y.ifB_bl, AM.Y.isI_int, AM.Y.isT_tup, AM.Y.isS_some, AM.Y.isSS_some, AM.Y.isO_lst, AM.Y.isO_dct, List.getElem?_cons_zero, List.getElem?_cons_succ, List.set_cons_zero, List.set_cons_succ, AM.Y.at0, AM.Y.at1, AM.Y.at2, AM.Y.at3, AM.Y.srcV, AM.Y.enumV, AM.tyOf, AM.tyIs, AM.isiV, AM.Y.isNon_non, AM.Y.isNon_bl, AM.Y.isNon_int, AM.Y.isNon_str, AM.Y.isNon_tup, AM.Y.isNon_rol, AM.Y.isNon_ref, Bool.not_true, Bool.not_false, Bool.true_eq_false, Bool.false_eq_true, ↓reduceIte, decide_true, decide_false, decide_eq_true_eq, Option.map_some, Option.map_none, Option.isSome_some, Option.isSome_none, List.length_cons, List.length_nil, List.isEmpty_cons, List.isEmpty_nil, true_and, and_true, Bool.or_false, Bool.false_or, Bool.or_true, Bool.true_or, Nat.zero_add, Nat.reduceAdd, AM.lim, Nat.reduceLeDiff, List.set, AM.wipeE, AM.Y.xcP, reduceCtorEq, imp_self, implies_true, not_false_eq_true]
      have hLD := get_app (fC.get (fB.get hL0)) (.lst [Vl.bl (decide (least lk' ≤ p)), Vl.int (least lk')])
      refine wp_q (w_ring (d := 38) hLD gk lk2 p1) fun v hE z => ?_
      obtain ⟨q, fE⟩ := z
      have nv := first_non gk p1 q
      try simp -implicitDefEqProofs only [↓AM.Y.y_var, ↓AM.Y.y_non, ↓AM.Y.y_bl, ↓AM.Y.y_int, ↓AM.Y.y_str, ↓AM.Y.y_ty, ↓AM.Y.y_tup, ↓AM.Y.y_lst, ↓AM.Y.y_dct0, ↓AM.Y.y_bin, ↓AM.Y.y_neg, ↓AM.Y.y_not, ↓AM.Y.y_and, ↓AM.Y.y_or, ↓AM.Y.y_cmp, ↓AM.Y.y_cmp2, ↓AM.Y.y_isN, ↓AM.Y.y_ntN, ↓AM.Y.y_isB, ↓AM.Y.y_ntB, ↓AM.Y.y_ife, ↓AM.Y.y_call, ↓AM.Y.y_bi, ↓AM.Y.y_mt, ↓AM.Y.y_idx, ↓AM.Y.y_slc, ↓AM.Y.y_lc, ↓AM.Y.y_lrng, ↓AM.Y.y_nil, ↓AM.Y.y_cons, ↓AM.Y.y_none, ↓AM.Y.y_some, ↓AM.Y.y_cnone, ↓AM.Y.y_csome, ↓AM.Y.t_not, ↓AM.Y.t_and, ↓AM.Y.t_or, ↓AM.Y.t_var, ↓AM.Y.t_cmp, ↓AM.Y.t_cmp2, ↓AM.Y.t_isN, ↓AM.Y.t_ntN, ↓AM.Y.t_isB, ↓AM.Y.t_ntB, ↓AM.Y.t_call, ↓AM.Y.t_bi, ↓AM.Y.t_idx, ↓AM.Y.i_seq, ↓AM.Y.i_rng1, ↓AM.Y.i_rng2, ↓AM.Y.i_enum, ↓AM.Y.i_zip, ↓AM.Y.g_nm, ↓AM.Y.g_tup, ↓AM.Y.g_sub, ↓AM.Y.g_nil, ↓AM.Y.g_cons, ↓AM.Y.s_nil', ↓AM.Y.s_cons', ↓AM.Y.s_asg, ↓AM.Y.s_asg2', ↓AM.Y.s_asg3', ↓AM.Y.s_par2', ↓AM.Y.s_par3', ↓AM.Y.s_aug', ↓AM.Y.s_expr', ↓AM.Y.s_ret', ↓AM.Y.s_retN', ↓AM.Y.s_iff', ↓AM.Y.s_for', ↓AM.Y.s_whl', ↓AM.Y.s_pass', ↓AM.Y.s_brk', ↓AM.Y.s_cnt', ↓AM.Y.s_never', ↓AM.Y.truth_bl, ↓AM.Y.truth_non, ↓AM.Y.truth_int, ↓AM.Y.truth_tup, ↓AM.Y.truth_rol, ↓AM.Y.truth_ref, ↓AM.Y.o_add, ↓AM.Y.o_sub, ↓AM.Y.o_mul, ↓AM.Y.o_mod, ↓AM.Y.o_fdv, ↓AM.Y.o_pow, ↓AM.Y.o_addL, ↓AM.Y.c_eq, ↓AM.Y.c_ne, ↓AM.Y.c_lt, ↓AM.Y.c_le, ↓AM.Y.c_gt, ↓AM.Y.c_ge, ↓AM.Y.c_inn, ↓AM.Y.c_nin, ↓AM.Y.has_dct, ↓AM.Y.x_tup, ↓AM.Y.x_rol, ↓AM.Y.x_ref, ↓AM.Y.x_set, ↓AM.Y.x_slcR, ↓AM.Y.x_slcL, ↓AM.Y.b_len_tup, ↓AM.Y.b_len_rol, ↓AM.Y.b_len_ref, ↓AM.Y.b_isi, ↓AM.Y.b_isi2, ↓AM.Y.b_int, ↓AM.Y.b_intb, ↓AM.Y.b_sum, ↓AM.Y.b_max2, ↓AM.Y.b_min2, ↓AM.Y.b_max1, ↓AM.Y.b_min1, ↓AM.Y.b_lst_tup, ↓AM.Y.b_lst_rol, ↓AM.Y.b_lst_ref, ↓AM.Y.b_all, ↓AM.Y.b_any, ↓AM.Y.k_app, ↓AM.Y.k_bits, ↓AM.Y.k_cnt, ↓AM.Y.m_app, ↓AM.Y.m_bits, ↓AM.Y.n_add, ↓AM.Y.n_sub, AM.wp_ok, AM.wp_no, ↓AM.wp_ret, ↓AM.wp_fail, ↓AM.wp_end, ↓AM.thn_nx, ↓AM.thn_rt, ↓AM.thn_bk, ↓AM.thn_ct, ↓AM.thn_xc, ↓AM.endP_nx, ↓AM.endP_rt, ↓AM.endP_xc, ↓AM.lpP_nx, ↓AM.lpP_ct, ↓AM.lpP_bk, ↓AM.lpP_rt, ↓AM.lpP_xc, ↓AM.Y.ifB_bl, ↓AM.Y.isI_int, ↓AM.Y.isT_tup, ↓AM.Y.isS_some, ↓AM.Y.isSS_some, ↓AM.Y.isO_lst, ↓AM.Y.isO_dct, AM.Y.ifB_bl, AM.Y.isI_int, AM.Y.isT_tup, AM.Y.isS_some, AM.Y.isSS_some, AM.Y.isO_lst, AM.Y.isO_dct, List.getElem?_cons_zero, List.getElem?_cons_succ, List.set_cons_zero, List.set_cons_succ, AM.Y.at0, AM.Y.at1, AM.Y.at2, AM.Y.at3, AM.Y.srcV, AM.Y.enumV, AM.tyOf, AM.tyIs, AM.isiV, AM.Y.isNon_non, AM.Y.isNon_bl, AM.Y.isNon_int, AM.Y.isNon_str, AM.Y.isNon_tup, AM.Y.isNon_rol, AM.Y.isNon_ref, Bool.not_true, Bool.not_false, Bool.true_eq_false, Bool.false_eq_true, ↓reduceIte, decide_true, decide_false, decide_eq_true_eq, Option.map_some, Option.map_none, Option.isSome_some, Option.isSome_none, List.length_cons, List.length_nil, List.isEmpty_cons, List.isEmpty_nil, true_and, and_true, Bool.or_false, Bool.false_or, Bool.or_true, Bool.true_or, Nat.zero_add, Nat.reduceAdd, AM.lim, Nat.reduceLeDiff, List.set, AM.wipeE, AM.Y.xcP, reduceCtorEq, imp_self, implies_true, not_false_eq_true]
      rw [nv]
      have fE' := fE
      have hmine := fE.get (get_new (h := hC) (o := .lst [Vl.bl (decide (least lk' ≤ p)), Vl.int (least lk')]))
      have hLE := fE.get hLD
      have fAE : Fr [] hA hE := (fB.trans fC).trans ((Fr.alloc _).trans fE)
      generalize hC.length = MN at *
      have hLF := get_app hLE (.lst [Vl.int 1])
      refine ⟨by omega, cmp_told (fun j acc h2 => Fr [] (hE ++ [.lst [Vl.int 1]]) h2 ∧ acc = rngL 2 (if j < least lk' - 1 then j else least lk' - 1)) (fun j x acc h2 hj I => ?_) (fun acc h2 I => ?_) ⟨Fr.refl, ?_⟩⟩
      · obtain ⟨f2, rfl⟩ := I
        obtain ⟨jj, rfl⟩ := rngL_at hj
        have jj : j < 14 := by simpa using jj
        have hj1 : (2 + (j : Int)) - 1 = ((1 + j : Nat) : Int) := by omega
        simp -implicitDefEqProofs only [↓AM.Y.y_var, ↓AM.Y.y_non, ↓AM.Y.y_bl, ↓AM.Y.y_int, ↓AM.Y.y_str, ↓AM.Y.y_ty, ↓AM.Y.y_tup, ↓AM.Y.y_lst, ↓AM.Y.y_dct0, ↓AM.Y.y_bin, ↓AM.Y.y_neg, ↓AM.Y.y_not, ↓AM.Y.y_and, ↓AM.Y.y_or, ↓AM.Y.y_cmp, ↓AM.Y.y_cmp2, ↓AM.Y.y_isN, ↓AM.Y.y_ntN, ↓AM.Y.y_isB, ↓AM.Y.y_ntB, ↓AM.Y.y_ife, ↓AM.Y.y_call, ↓AM.Y.y_bi, ↓AM.Y.y_mt, ↓AM.Y.y_idx, ↓AM.Y.y_slc, ↓AM.Y.y_lc, ↓AM.Y.y_lrng, ↓AM.Y.y_nil, ↓AM.Y.y_cons, ↓AM.Y.y_none, ↓AM.Y.y_some, ↓AM.Y.y_cnone, ↓AM.Y.y_csome, ↓AM.Y.t_not, ↓AM.Y.t_and, ↓AM.Y.t_or, ↓AM.Y.t_var, ↓AM.Y.t_cmp, ↓AM.Y.t_cmp2, ↓AM.Y.t_isN, ↓AM.Y.t_ntN, ↓AM.Y.t_isB, ↓AM.Y.t_ntB, ↓AM.Y.t_call, ↓AM.Y.t_bi, ↓AM.Y.t_idx, ↓AM.Y.i_seq, ↓AM.Y.i_rng1, ↓AM.Y.i_rng2, ↓AM.Y.i_enum, ↓AM.Y.i_zip, ↓AM.Y.g_nm, ↓AM.Y.g_tup, ↓AM.Y.g_sub, ↓AM.Y.g_nil, ↓AM.Y.g_cons, ↓AM.Y.s_nil', ↓AM.Y.s_cons', ↓AM.Y.s_asg, ↓AM.Y.s_asg2', ↓AM.Y.s_asg3', ↓AM.Y.s_par2', ↓AM.Y.s_par3', ↓AM.Y.s_aug', ↓AM.Y.s_expr', ↓AM.Y.s_ret', ↓AM.Y.s_retN', ↓AM.Y.s_iff', ↓AM.Y.s_for', ↓AM.Y.s_whl', ↓AM.Y.s_pass', ↓AM.Y.s_brk', ↓AM.Y.s_cnt', ↓AM.Y.s_never', ↓AM.Y.truth_bl, ↓AM.Y.truth_non, ↓AM.Y.truth_int, ↓AM.Y.truth_tup, ↓AM.Y.truth_rol, ↓AM.Y.truth_ref, ↓AM.Y.o_add, ↓AM.Y.o_sub, ↓AM.Y.o_mul, ↓AM.Y.o_mod, ↓AM.Y.o_fdv, ↓AM.Y.o_pow, ↓AM.Y.o_addL, ↓AM.Y.c_eq, ↓AM.Y.c_ne, ↓AM.Y.c_lt, ↓AM.Y.c_le, ↓AM.Y.c_gt, ↓AM.Y.c_ge, ↓AM.Y.c_inn, ↓AM.Y.c_nin, ↓AM.Y.has_dct, ↓AM.Y.x_tup, ↓AM.Y.x_rol, ↓AM.Y.x_ref, ↓AM.Y.x_set, ↓AM.Y.x_slcR, ↓AM.Y.x_slcL, ↓AM.Y.b_len_tup, ↓AM.Y.b_len_rol, ↓AM.Y.b_len_ref, ↓AM.Y.b_isi, ↓AM.Y.b_isi2, ↓AM.Y.b_int, ↓AM.Y.b_intb, ↓AM.Y.b_sum, ↓AM.Y.b_max2, ↓AM.Y.b_min2, ↓AM.Y.b_max1, ↓AM.Y.b_min1, ↓AM.Y.b_lst_tup, ↓AM.Y.b_lst_rol, ↓AM.Y.b_lst_ref, ↓AM.Y.b_all, ↓AM.Y.b_any, ↓AM.Y.k_app, ↓AM.Y.k_bits, ↓AM.Y.k_cnt, ↓AM.Y.m_app, ↓AM.Y.m_bits, ↓AM.Y.n_add, ↓AM.Y.n_sub, AM.wp_ok, AM.wp_no, ↓AM.wp_ret, ↓AM.wp_fail, ↓AM.wp_end, ↓AM.thn_nx, ↓AM.thn_rt, ↓AM.thn_bk, ↓AM.thn_ct, ↓AM.thn_xc, ↓AM.endP_nx, ↓AM.endP_rt, ↓AM.endP_xc, ↓AM.lpP_nx, ↓AM.lpP_ct, ↓AM.lpP_bk, ↓AM.lpP_rt, ↓AM.lpP_xc, ↓AM.Y.ifB_bl, ↓AM.Y.isI_int, ↓AM.Y.isT_tup, ↓AM.Y.isS_some, ↓AM.Y.isSS_some, ↓AM.Y.isO_lst, ↓AM.Y.isO_dct, AM.Y.ifB_bl, AM.Y.isI_int, AM.Y.isT_tup, AM.Y.isS_some, AM.Y.isSS_some, AM.Y.isO_lst, AM.Y.isO_dct, List.getElem?_cons_zero, List.getElem?_cons_succ, List.set_cons_zero, List.set_cons_succ, AM.Y.at0, AM.Y.at1, AM.Y.at2, AM.Y.at3, AM.Y.srcV, AM.Y.enumV, AM.tyOf, AM.tyIs, AM.isiV, AM.Y.isNon_non, AM.Y.isNon_bl, AM.Y.isNon_int, AM.Y.isNon_str, AM.Y.isNon_tup, AM.Y.isNon_rol, AM.Y.isNon_ref, Bool.not_true, Bool.not_false, Bool.true_eq_false, Bool.false_eq_true, ↓reduceIte, decide_true, decide_false, decide_eq_true_eq, Option.map_some, Option.map_none, Option.isSome_some, Option.isSome_none, List.length_cons, List.length_nil, List.isEmpty_cons, List.isEmpty_nil, true_and, and_true, Bool.or_false, Bool.false_or, Bool.or_true, Bool.true_or, Nat.zero_add, Nat.reduceAdd, AM.lim, Nat.reduceLeDiff, List.set, AM.wipeE, AM.Y.xcP, reduceCtorEq, imp_self, implies_true, not_false_eq_true, hj1]
        refine wp_q (w_ring (d := 38) (f2.get hLF) gk lk2 (p := 1 + j) (by omega)) fun v h3 z => ?_
        obtain ⟨q, f3⟩ := z
        try simp -implicitDefEqProofs only [↓AM.Y.y_var, ↓AM.Y.y_non, ↓AM.Y.y_bl, ↓AM.Y.y_int, ↓AM.Y.y_str, ↓AM.Y.y_ty, ↓AM.Y.y_tup, ↓AM.Y.y_lst, ↓AM.Y.y_dct0, ↓AM.Y.y_bin, ↓AM.Y.y_neg, ↓AM.Y.y_not, ↓AM.Y.y_and, ↓AM.Y.y_or, ↓AM.Y.y_cmp, ↓AM.Y.y_cmp2, ↓AM.Y.y_isN, ↓AM.Y.y_ntN, ↓AM.Y.y_isB, ↓AM.Y.y_ntB, ↓AM.Y.y_ife, ↓AM.Y.y_call, ↓AM.Y.y_bi, ↓AM.Y.y_mt, ↓AM.Y.y_idx, ↓AM.Y.y_slc, ↓AM.Y.y_lc, ↓AM.Y.y_lrng, ↓AM.Y.y_nil, ↓AM.Y.y_cons, ↓AM.Y.y_none, ↓AM.Y.y_some, ↓AM.Y.y_cnone, ↓AM.Y.y_csome, ↓AM.Y.t_not, ↓AM.Y.t_and, ↓AM.Y.t_or, ↓AM.Y.t_var, ↓AM.Y.t_cmp, ↓AM.Y.t_cmp2, ↓AM.Y.t_isN, ↓AM.Y.t_ntN, ↓AM.Y.t_isB, ↓AM.Y.t_ntB, ↓AM.Y.t_call, ↓AM.Y.t_bi, ↓AM.Y.t_idx, ↓AM.Y.i_seq, ↓AM.Y.i_rng1, ↓AM.Y.i_rng2, ↓AM.Y.i_enum, ↓AM.Y.i_zip, ↓AM.Y.g_nm, ↓AM.Y.g_tup, ↓AM.Y.g_sub, ↓AM.Y.g_nil, ↓AM.Y.g_cons, ↓AM.Y.s_nil', ↓AM.Y.s_cons', ↓AM.Y.s_asg, ↓AM.Y.s_asg2', ↓AM.Y.s_asg3', ↓AM.Y.s_par2', ↓AM.Y.s_par3', ↓AM.Y.s_aug', ↓AM.Y.s_expr', ↓AM.Y.s_ret', ↓AM.Y.s_retN', ↓AM.Y.s_iff', ↓AM.Y.s_for', ↓AM.Y.s_whl', ↓AM.Y.s_pass', ↓AM.Y.s_brk', ↓AM.Y.s_cnt', ↓AM.Y.s_never', ↓AM.Y.truth_bl, ↓AM.Y.truth_non, ↓AM.Y.truth_int, ↓AM.Y.truth_tup, ↓AM.Y.truth_rol, ↓AM.Y.truth_ref, ↓AM.Y.o_add, ↓AM.Y.o_sub, ↓AM.Y.o_mul, ↓AM.Y.o_mod, ↓AM.Y.o_fdv, ↓AM.Y.o_pow, ↓AM.Y.o_addL, ↓AM.Y.c_eq, ↓AM.Y.c_ne, ↓AM.Y.c_lt, ↓AM.Y.c_le, ↓AM.Y.c_gt, ↓AM.Y.c_ge, ↓AM.Y.c_inn, ↓AM.Y.c_nin, ↓AM.Y.has_dct, ↓AM.Y.x_tup, ↓AM.Y.x_rol, ↓AM.Y.x_ref, ↓AM.Y.x_set, ↓AM.Y.x_slcR, ↓AM.Y.x_slcL, ↓AM.Y.b_len_tup, ↓AM.Y.b_len_rol, ↓AM.Y.b_len_ref, ↓AM.Y.b_isi, ↓AM.Y.b_isi2, ↓AM.Y.b_int, ↓AM.Y.b_intb, ↓AM.Y.b_sum, ↓AM.Y.b_max2, ↓AM.Y.b_min2, ↓AM.Y.b_max1, ↓AM.Y.b_min1, ↓AM.Y.b_lst_tup, ↓AM.Y.b_lst_rol, ↓AM.Y.b_lst_ref, ↓AM.Y.b_all, ↓AM.Y.b_any, ↓AM.Y.k_app, ↓AM.Y.k_bits, ↓AM.Y.k_cnt, ↓AM.Y.m_app, ↓AM.Y.m_bits, ↓AM.Y.n_add, ↓AM.Y.n_sub, AM.wp_ok, AM.wp_no, ↓AM.wp_ret, ↓AM.wp_fail, ↓AM.wp_end, ↓AM.thn_nx, ↓AM.thn_rt, ↓AM.thn_bk, ↓AM.thn_ct, ↓AM.thn_xc, ↓AM.endP_nx, ↓AM.endP_rt, ↓AM.endP_xc, ↓AM.lpP_nx, ↓AM.lpP_ct, ↓AM.lpP_bk, ↓AM.lpP_rt, ↓AM.lpP_xc, ↓AM.Y.ifB_bl, ↓AM.Y.isI_int, ↓AM.Y.isT_tup, ↓AM.Y.isS_some, ↓AM.Y.isSS_some, ↓AM.Y.isO_lst, ↓AM.Y.isO_dct, AM.Y.ifB_bl, AM.Y.isI_int, AM.Y.isT_tup, AM.Y.isS_some, AM.Y.isSS_some, AM.Y.isO_lst, AM.Y.isO_dct, List.getElem?_cons_zero, List.getElem?_cons_succ, List.set_cons_zero, List.set_cons_succ, AM.Y.at0, AM.Y.at1, AM.Y.at2, AM.Y.at3, AM.Y.srcV, AM.Y.enumV, AM.tyOf, AM.tyIs, AM.isiV, AM.Y.isNon_non, AM.Y.isNon_bl, AM.Y.isNon_int, AM.Y.isNon_str, AM.Y.isNon_tup, AM.Y.isNon_rol, AM.Y.isNon_ref, Bool.not_true, Bool.not_false, Bool.true_eq_false, Bool.false_eq_true, ↓reduceIte, decide_true, decide_false, decide_eq_true_eq, Option.map_some, Option.map_none, Option.isSome_some, Option.isSome_none, List.length_cons, List.length_nil, List.isEmpty_cons, List.isEmpty_nil, true_and, and_true, Bool.or_false, Bool.false_or, Bool.or_true, Bool.true_or, Nat.zero_add, Nat.reduceAdd, AM.lim, Nat.reduceLeDiff, List.set, AM.wipeE, AM.Y.xcP, reduceCtorEq, imp_self, implies_true, not_false_eq_true]
        rw [first_non gk (by omega) q]
        by_cases z : least lk' ≤ 1 + j
        · simp -implicitDefEqProofs only [↓AM.Y.y_var, ↓AM.Y.y_non, ↓AM.Y.y_bl, ↓AM.Y.y_int, ↓AM.Y.y_str, ↓AM.Y.y_ty, ↓AM.Y.y_tup, ↓AM.Y.y_lst, ↓AM.Y.y_dct0, ↓AM.Y.y_bin, ↓AM.Y.y_neg, ↓AM.Y.y_not, ↓AM.Y.y_and, ↓AM.Y.y_or, ↓AM.Y.y_cmp, ↓AM.Y.y_cmp2, ↓AM.Y.y_isN, ↓AM.Y.y_ntN, ↓AM.Y.y_isB, ↓AM.Y.y_ntB, ↓AM.Y.y_ife, ↓AM.Y.y_call, ↓AM.Y.y_bi, ↓AM.Y.y_mt, ↓AM.Y.y_idx, ↓AM.Y.y_slc, ↓AM.Y.y_lc, ↓AM.Y.y_lrng, ↓AM.Y.y_nil, ↓AM.Y.y_cons, ↓AM.Y.y_none, ↓AM.Y.y_some, ↓AM.Y.y_cnone, ↓AM.Y.y_csome, ↓AM.Y.t_not, ↓AM.Y.t_and, ↓AM.Y.t_or, ↓AM.Y.t_var, ↓AM.Y.t_cmp, ↓AM.Y.t_cmp2, ↓AM.Y.t_isN, ↓AM.Y.t_ntN, ↓AM.Y.t_isB, ↓AM.Y.t_ntB, ↓AM.Y.t_call, ↓AM.Y.t_bi, ↓AM.Y.t_idx, ↓AM.Y.i_seq, ↓AM.Y.i_rng1, ↓AM.Y.i_rng2, ↓AM.Y.i_enum, ↓AM.Y.i_zip, ↓AM.Y.g_nm, ↓AM.Y.g_tup, ↓AM.Y.g_sub, ↓AM.Y.g_nil, ↓AM.Y.g_cons, ↓AM.Y.s_nil', ↓AM.Y.s_cons', ↓AM.Y.s_asg, ↓AM.Y.s_asg2', ↓AM.Y.s_asg3', ↓AM.Y.s_par2', ↓AM.Y.s_par3', ↓AM.Y.s_aug', ↓AM.Y.s_expr', ↓AM.Y.s_ret', ↓AM.Y.s_retN', ↓AM.Y.s_iff', ↓AM.Y.s_for', ↓AM.Y.s_whl', ↓AM.Y.s_pass', ↓AM.Y.s_brk', ↓AM.Y.s_cnt', ↓AM.Y.s_never', ↓AM.Y.truth_bl, ↓AM.Y.truth_non, ↓AM.Y.truth_int, ↓AM.Y.truth_tup, ↓AM.Y.truth_rol, ↓AM.Y.truth_ref, ↓AM.Y.o_add, ↓AM.Y.o_sub, ↓AM.Y.o_mul, ↓AM.Y.o_mod, ↓AM.Y.o_fdv, ↓AM.Y.o_pow, ↓AM.Y.o_addL, ↓AM.Y.c_eq, ↓AM.Y.c_ne, ↓AM.Y.c_lt, ↓AM.Y.c_le, ↓AM.Y.c_gt, ↓AM.Y.c_ge, ↓AM.Y.c_inn, ↓AM.Y.c_nin, ↓AM.Y.has_dct, ↓AM.Y.x_tup, ↓AM.Y.x_rol, ↓AM.Y.x_ref, ↓AM.Y.x_set, ↓AM.Y.x_slcR, ↓AM.Y.x_slcL, ↓AM.Y.b_len_tup, ↓AM.Y.b_len_rol, ↓AM.Y.b_len_ref, ↓AM.Y.b_isi, ↓AM.Y.b_isi2, ↓AM.Y.b_int, ↓AM.Y.b_intb, ↓AM.Y.b_sum, ↓AM.Y.b_max2, ↓AM.Y.b_min2, ↓AM.Y.b_max1, ↓AM.Y.b_min1, ↓AM.Y.b_lst_tup, ↓AM.Y.b_lst_rol, ↓AM.Y.b_lst_ref, ↓AM.Y.b_all, ↓AM.Y.b_any, ↓AM.Y.k_app, ↓AM.Y.k_bits, ↓AM.Y.k_cnt, ↓AM.Y.m_app, ↓AM.Y.m_bits, ↓AM.Y.n_add, ↓AM.Y.n_sub, AM.wp_ok, AM.wp_no, ↓AM.wp_ret, ↓AM.wp_fail, ↓AM.wp_end, ↓AM.thn_nx, ↓AM.thn_rt, ↓AM.thn_bk, ↓AM.thn_ct, ↓AM.thn_xc, ↓AM.endP_nx, ↓AM.endP_rt, ↓AM.endP_xc, ↓AM.lpP_nx, ↓AM.lpP_ct, ↓AM.lpP_bk, ↓AM.lpP_rt, ↓AM.lpP_xc, ↓AM.Y.ifB_bl, ↓AM.Y.isI_int, ↓AM.Y.isT_tup, ↓AM.Y.isS_some, ↓AM.Y.isSS_some, ↓AM.Y.isO_lst, ↓AM.Y.isO_dct, AM.Y.ifB_bl, AM.Y.isI_int, AM.Y.isT_tup, AM.Y.isS_some, AM.Y.isSS_some, AM.Y.isO_lst, AM.Y.isO_dct, List.getElem?_cons_zero, List.getElem?_cons_succ, List.set_cons_zero, List.set_cons_succ, AM.Y.at0, AM.Y.at1, AM.Y.at2, AM.Y.at3, AM.Y.srcV, AM.Y.enumV, AM.tyOf, AM.tyIs, AM.isiV, AM.Y.isNon_non, AM.Y.isNon_bl, AM.Y.isNon_int, AM.Y.isNon_str, AM.Y.isNon_tup, AM.Y.isNon_rol, AM.Y.isNon_ref, Bool.not_true, Bool.not_false, Bool.true_eq_false, Bool.false_eq_true, ↓reduceIte, decide_true, decide_false, decide_eq_true_eq, Option.map_some, Option.map_none, Option.isSome_some, Option.isSome_none, List.length_cons, List.length_nil, List.isEmpty_cons, List.isEmpty_nil, true_and, and_true, Bool.or_false, Bool.false_or, Bool.or_true, Bool.true_or, Nat.zero_add, Nat.reduceAdd, AM.lim, Nat.reduceLeDiff, List.set, AM.wipeE, AM.Y.xcP, reduceCtorEq, imp_self, implies_true, not_false_eq_true, z]
          refine ⟨f2.trans f3, ?_⟩
          rw [if_neg (by omega), if_neg (by omega)]
        · simp -implicitDefEqProofs only [↓AM.Y.y_var, ↓AM.Y.y_non, ↓AM.Y.y_bl, ↓AM.Y.y_int, ↓AM.Y.y_str, ↓AM.Y.y_ty, ↓AM.Y.y_tup, ↓AM.Y.y_lst, ↓AM.Y.y_dct0, ↓AM.Y.y_bin, ↓AM.Y.y_neg, ↓AM.Y.y_not, ↓AM.Y.y_and, ↓AM.Y.y_or, ↓AM.Y.y_cmp, ↓AM.Y.y_cmp2, ↓AM.Y.y_isN, ↓AM.Y.y_ntN, ↓AM.Y.y_isB, ↓AM.Y.y_ntB, ↓AM.Y.y_ife, ↓AM.Y.y_call, ↓AM.Y.y_bi, ↓AM.Y.y_mt, ↓AM.Y.y_idx, ↓AM.Y.y_slc, ↓AM.Y.y_lc, ↓AM.Y.y_lrng, ↓AM.Y.y_nil, ↓AM.Y.y_cons, ↓AM.Y.y_none, ↓AM.Y.y_some, ↓AM.Y.y_cnone, ↓AM.Y.y_csome, ↓AM.Y.t_not, ↓AM.Y.t_and, ↓AM.Y.t_or, ↓AM.Y.t_var, ↓AM.Y.t_cmp, ↓AM.Y.t_cmp2, ↓AM.Y.t_isN, ↓AM.Y.t_ntN, ↓AM.Y.t_isB, ↓AM.Y.t_ntB, ↓AM.Y.t_call, ↓AM.Y.t_bi, ↓AM.Y.t_idx, ↓AM.Y.i_seq, ↓AM.Y.i_rng1, ↓AM.Y.i_rng2, ↓AM.Y.i_enum, ↓AM.Y.i_zip, ↓AM.Y.g_nm, ↓AM.Y.g_tup, ↓AM.Y.g_sub, ↓AM.Y.g_nil, ↓AM.Y.g_cons, ↓AM.Y.s_nil', ↓AM.Y.s_cons', ↓AM.Y.s_asg, ↓AM.Y.s_asg2', ↓AM.Y.s_asg3', ↓AM.Y.s_par2', ↓AM.Y.s_par3', ↓AM.Y.s_aug', ↓AM.Y.s_expr', ↓AM.Y.s_ret', ↓AM.Y.s_retN', ↓AM.Y.s_iff', ↓AM.Y.s_for', ↓AM.Y.s_whl', ↓AM.Y.s_pass', ↓AM.Y.s_brk', ↓AM.Y.s_cnt', ↓AM.Y.s_never', ↓AM.Y.truth_bl, ↓AM.Y.truth_non, ↓AM.Y.truth_int, ↓AM.Y.truth_tup, ↓AM.Y.truth_rol, ↓AM.Y.truth_ref, ↓AM.Y.o_add, ↓AM.Y.o_sub, ↓AM.Y.o_mul, ↓AM.Y.o_mod, ↓AM.Y.o_fdv, ↓AM.Y.o_pow, ↓AM.Y.o_addL, ↓AM.Y.c_eq, ↓AM.Y.c_ne, ↓AM.Y.c_lt, ↓AM.Y.c_le, ↓AM.Y.c_gt, ↓AM.Y.c_ge, ↓AM.Y.c_inn, ↓AM.Y.c_nin, ↓AM.Y.has_dct, ↓AM.Y.x_tup, ↓AM.Y.x_rol, ↓AM.Y.x_ref, ↓AM.Y.x_set, ↓AM.Y.x_slcR, ↓AM.Y.x_slcL, ↓AM.Y.b_len_tup, ↓AM.Y.b_len_rol, ↓AM.Y.b_len_ref, ↓AM.Y.b_isi, ↓AM.Y.b_isi2, ↓AM.Y.b_int, ↓AM.Y.b_intb, ↓AM.Y.b_sum, ↓AM.Y.b_max2, ↓AM.Y.b_min2, ↓AM.Y.b_max1, ↓AM.Y.b_min1, ↓AM.Y.b_lst_tup, ↓AM.Y.b_lst_rol, ↓AM.Y.b_lst_ref, ↓AM.Y.b_all, ↓AM.Y.b_any, ↓AM.Y.k_app, ↓AM.Y.k_bits, ↓AM.Y.k_cnt, ↓AM.Y.m_app, ↓AM.Y.m_bits, ↓AM.Y.n_add, ↓AM.Y.n_sub, AM.wp_ok, AM.wp_no, ↓AM.wp_ret, ↓AM.wp_fail, ↓AM.wp_end, ↓AM.thn_nx, ↓AM.thn_rt, ↓AM.thn_bk, ↓AM.thn_ct, ↓AM.thn_xc, ↓AM.endP_nx, ↓AM.endP_rt, ↓AM.endP_xc, ↓AM.lpP_nx, ↓AM.lpP_ct, ↓AM.lpP_bk, ↓AM.lpP_rt, ↓AM.lpP_xc, ↓AM.Y.ifB_bl, ↓AM.Y.isI_int, ↓AM.Y.isT_tup, ↓AM.Y.isS_some, ↓AM.Y.isSS_some, ↓AM.Y.isO_lst, ↓AM.Y.isO_dct, AM.Y.ifB_bl, AM.Y.isI_int, AM.Y.isT_tup, AM.Y.isS_some, AM.Y.isSS_some, AM.Y.isO_lst, AM.Y.isO_dct, List.getElem?_cons_zero, List.getElem?_cons_succ, List.set_cons_zero, List.set_cons_succ, AM.Y.at0, AM.Y.at1, AM.Y.at2, AM.Y.at3, AM.Y.srcV, AM.Y.enumV, AM.tyOf, AM.tyIs, AM.isiV, AM.Y.isNon_non, AM.Y.isNon_bl, AM.Y.isNon_int, AM.Y.isNon_str, AM.Y.isNon_tup, AM.Y.isNon_rol, AM.Y.isNon_ref, Bool.not_true, Bool.not_false, Bool.true_eq_false, Bool.false_eq_true, ↓reduceIte, decide_true, decide_false, decide_eq_true_eq, Option.map_some, Option.map_none, Option.isSome_some, Option.isSome_none, List.length_cons, List.length_nil, List.isEmpty_cons, List.isEmpty_nil, true_and, and_true, Bool.or_false, Bool.false_or, Bool.or_true, Bool.true_or, Nat.zero_add, Nat.reduceAdd, AM.lim, Nat.reduceLeDiff, List.set, AM.wipeE, AM.Y.xcP, reduceCtorEq, imp_self, implies_true, not_false_eq_true, z]
          refine ⟨by rw [rngL_len]; split <;> omega, f2.trans f3, ?_⟩
          rw [if_pos (by omega)]
          by_cases w : j + 1 < least lk' - 1
          · rw [if_pos w, rngL_snoc]
          · rw [if_neg w, show least lk' - 1 = j + 1 by omega, rngL_snoc]
      · obtain ⟨f2, rfl⟩ := I
        rw [rngL_len, if_neg (by show ¬ ((16 : Int) - 2).toNat < _; simp; omega)]
        have h1 : (h2 ++ [Ob.lst (rngL 2 (least lk' - 1))])[hE.length]? = some (.lst [Vl.int 1]) := get_app (f2.get get_new) _
        have e5 : [Vl.int 1] ++ rngL 2 (least lk' - 1) = (1 :: rngI 2 (least lk' - 1)).map Vl.int := by rw [rngL_map]; rfl
        have len1 : 1 + (rngL 2 (least lk' - 1)).length ≤ 100000 := by rw [rngL_len]; omega
        have e6 : 1 + ((least lk' - 1 : Nat) : Int) = (least lk' : Int) := by omega
        have pos : 0 < (rngI 2 (least lk' - 1)).length + 1 := by omega
        simp -implicitDefEqProofs only [↓AM.Y.y_var, ↓AM.Y.y_non, ↓AM.Y.y_bl, ↓AM.Y.y_int, ↓AM.Y.y_str, ↓AM.Y.y_ty, ↓AM.Y.y_tup, ↓AM.Y.y_lst, ↓AM.Y.y_dct0, ↓AM.Y.y_bin, ↓AM.Y.y_neg, ↓AM.Y.y_not, ↓AM.Y.y_and, ↓AM.Y.y_or, ↓AM.Y.y_cmp, ↓AM.Y.y_cmp2, ↓AM.Y.y_isN, ↓AM.Y.y_ntN, ↓AM.Y.y_isB, ↓AM.Y.y_ntB, ↓AM.Y.y_ife, ↓AM.Y.y_call, ↓AM.Y.y_bi, ↓AM.Y.y_mt, ↓AM.Y.y_idx, ↓AM.Y.y_slc, ↓AM.Y.y_lc, ↓AM.Y.y_lrng, ↓AM.Y.y_nil, ↓AM.Y.y_cons, ↓AM.Y.y_none, ↓AM.Y.y_some, ↓AM.Y.y_cnone, ↓AM.Y.y_csome, ↓AM.Y.t_not, ↓AM.Y.t_and, ↓AM.Y.t_or, ↓AM.Y.t_var, ↓AM.Y.t_cmp, ↓AM.Y.t_cmp2, ↓AM.Y.t_isN, ↓AM.Y.t_ntN, ↓AM.Y.t_isB, ↓AM.Y.t_ntB, ↓AM.Y.t_call, ↓AM.Y.t_bi, ↓AM.Y.t_idx, ↓AM.Y.i_seq, ↓AM.Y.i_rng1, ↓AM.Y.i_rng2, ↓AM.Y.i_enum, ↓AM.Y.i_zip, ↓AM.Y.g_nm, ↓AM.Y.g_tup, ↓AM.Y.g_sub, ↓AM.Y.g_nil, ↓AM.Y.g_cons, ↓AM.Y.s_nil', ↓AM.Y.s_cons', ↓AM.Y.s_asg, ↓AM.Y.s_asg2', ↓AM.Y.s_asg3', ↓AM.Y.s_par2', ↓AM.Y.s_par3', ↓AM.Y.s_aug', ↓AM.Y.s_expr', ↓AM.Y.s_ret', ↓AM.Y.s_retN', ↓AM.Y.s_iff', ↓AM.Y.s_for', ↓AM.Y.s_whl', ↓AM.Y.s_pass', ↓AM.Y.s_brk', ↓AM.Y.s_cnt', ↓AM.Y.s_never', ↓AM.Y.truth_bl, ↓AM.Y.truth_non, ↓AM.Y.truth_int, ↓AM.Y.truth_tup, ↓AM.Y.truth_rol, ↓AM.Y.truth_ref, ↓AM.Y.o_add, ↓AM.Y.o_sub, ↓AM.Y.o_mul, ↓AM.Y.o_mod, ↓AM.Y.o_fdv, ↓AM.Y.o_pow, ↓AM.Y.o_addL, ↓AM.Y.c_eq, ↓AM.Y.c_ne, ↓AM.Y.c_lt, ↓AM.Y.c_le, ↓AM.Y.c_gt, ↓AM.Y.c_ge, ↓AM.Y.c_inn, ↓AM.Y.c_nin, ↓AM.Y.has_dct, ↓AM.Y.x_tup, ↓AM.Y.x_rol, ↓AM.Y.x_ref, ↓AM.Y.x_set, ↓AM.Y.x_slcR, ↓AM.Y.x_slcL, ↓AM.Y.b_len_tup, ↓AM.Y.b_len_rol, ↓AM.Y.b_len_ref, ↓AM.Y.b_isi, ↓AM.Y.b_isi2, ↓AM.Y.b_int, ↓AM.Y.b_intb, ↓AM.Y.b_sum, ↓AM.Y.b_max2, ↓AM.Y.b_min2, ↓AM.Y.b_max1, ↓AM.Y.b_min1, ↓AM.Y.b_lst_tup, ↓AM.Y.b_lst_rol, ↓AM.Y.b_lst_ref, ↓AM.Y.b_all, ↓AM.Y.b_any, ↓AM.Y.k_app, ↓AM.Y.k_bits, ↓AM.Y.k_cnt, ↓AM.Y.m_app, ↓AM.Y.m_bits, ↓AM.Y.n_add, ↓AM.Y.n_sub, AM.wp_ok, AM.wp_no, ↓AM.wp_ret, ↓AM.wp_fail, ↓AM.wp_end, ↓AM.thn_nx, ↓AM.thn_rt, ↓AM.thn_bk, ↓AM.thn_ct, ↓AM.thn_xc, ↓AM.endP_nx, ↓AM.endP_rt, ↓AM.endP_xc, ↓AM.lpP_nx, ↓AM.lpP_ct, ↓AM.lpP_bk, ↓AM.lpP_rt, ↓AM.lpP_xc, ↓AM.Y.ifB_bl, ↓AM.Y.isI_int, ↓AM.Y.isT_tup, ↓AM.Y.isS_some, ↓AM.Y.isSS_some, ↓AM.Y.isO_lst, ↓AM.Y.isO_dct, AM.Y.ifB_bl, AM.Y.isI_int, AM.Y.isT_tup, AM.Y.isS_some, AM.Y.isSS_some, AM.Y.isO_lst, AM.Y.isO_dct, List.getElem?_cons_zero, List.getElem?_cons_succ, List.set_cons_zero, List.set_cons_succ, AM.Y.at0, AM.Y.at1, AM.Y.at2, AM.Y.at3, AM.Y.srcV, AM.Y.enumV, AM.tyOf, AM.tyIs, AM.isiV, AM.Y.isNon_non, AM.Y.isNon_bl, AM.Y.isNon_int, AM.Y.isNon_str, AM.Y.isNon_tup, AM.Y.isNon_rol, AM.Y.isNon_ref, Bool.not_true, Bool.not_false, Bool.true_eq_false, Bool.false_eq_true, ↓reduceIte, decide_true, decide_false, decide_eq_true_eq, Option.map_some, Option.map_none, Option.isSome_some, Option.isSome_none, List.length_cons, List.length_nil, List.isEmpty_cons, List.isEmpty_nil, true_and, and_true, Bool.or_false, Bool.false_or, Bool.or_true, Bool.true_or, Nat.zero_add, Nat.reduceAdd, AM.lim, Nat.reduceLeDiff, List.set, AM.wipeE, AM.Y.xcP, reduceCtorEq, imp_self, implies_true, not_false_eq_true, h1, get_new, len1, e5, li_ref get_new, ints_all, max_rng, e6, pos]
        have fF : Fr [] hE (h2 ++ [Ob.lst (rngL 2 (least lk' - 1))] ++ [Ob.lst (List.map Vl.int (1 :: rngI 2 (least lk' - 1)))] ++ [Ob.lst [Vl.bl (decide (least lk' ≤ p)), Vl.int (least lk')]]) := ((((Fr.alloc _).trans f2).trans (Fr.alloc _)).trans (Fr.alloc _)).trans (Fr.alloc _)
        refine wp_q (w_exactT (fns := fns) (g := 16) (n := 1) (m := 10) (p := .list [.bool (decide (least lk' ≤ p)), .int (least lk')]) rfl ((TreS.list (n := 0) (m := 2) (.cons (tre_bl _) (.cons (tre_int _) .nil))).mono (by omega) (by omega)) (by omega) (by omega) (.ref (fF.get hmine) (.cons (.bl _) (.cons (.int _) .nil))) (.ref get_new (.cons (.bl _) (.cons (.int _) .nil)))) fun v hG z => ?_
        obtain ⟨rfl, fG⟩ := z
        have fz := (fAE.trans fF).trans fG
        simp -implicitDefEqProofs only [↓AM.Y.y_var, ↓AM.Y.y_non, ↓AM.Y.y_bl, ↓AM.Y.y_int, ↓AM.Y.y_str, ↓AM.Y.y_ty, ↓AM.Y.y_tup, ↓AM.Y.y_lst, ↓AM.Y.y_dct0, ↓AM.Y.y_bin, ↓AM.Y.y_neg, ↓AM.Y.y_not, ↓AM.Y.y_and, ↓AM.Y.y_or, ↓AM.Y.y_cmp, ↓AM.Y.y_cmp2, ↓AM.Y.y_isN, ↓AM.Y.y_ntN, ↓AM.Y.y_isB, ↓AM.Y.y_ntB, ↓AM.Y.y_ife, ↓AM.Y.y_call, ↓AM.Y.y_bi, ↓AM.Y.y_mt, ↓AM.Y.y_idx, ↓AM.Y.y_slc, ↓AM.Y.y_lc, ↓AM.Y.y_lrng, ↓AM.Y.y_nil, ↓AM.Y.y_cons, ↓AM.Y.y_none, ↓AM.Y.y_some, ↓AM.Y.y_cnone, ↓AM.Y.y_csome, ↓AM.Y.t_not, ↓AM.Y.t_and, ↓AM.Y.t_or, ↓AM.Y.t_var, ↓AM.Y.t_cmp, ↓AM.Y.t_cmp2, ↓AM.Y.t_isN, ↓AM.Y.t_ntN, ↓AM.Y.t_isB, ↓AM.Y.t_ntB, ↓AM.Y.t_call, ↓AM.Y.t_bi, ↓AM.Y.t_idx, ↓AM.Y.i_seq, ↓AM.Y.i_rng1, ↓AM.Y.i_rng2, ↓AM.Y.i_enum, ↓AM.Y.i_zip, ↓AM.Y.g_nm, ↓AM.Y.g_tup, ↓AM.Y.g_sub, ↓AM.Y.g_nil, ↓AM.Y.g_cons, ↓AM.Y.s_nil', ↓AM.Y.s_cons', ↓AM.Y.s_asg, ↓AM.Y.s_asg2', ↓AM.Y.s_asg3', ↓AM.Y.s_par2', ↓AM.Y.s_par3', ↓AM.Y.s_aug', ↓AM.Y.s_expr', ↓AM.Y.s_ret', ↓AM.Y.s_retN', ↓AM.Y.s_iff', ↓AM.Y.s_for', ↓AM.Y.s_whl', ↓AM.Y.s_pass', ↓AM.Y.s_brk', ↓AM.Y.s_cnt', ↓AM.Y.s_never', ↓AM.Y.truth_bl, ↓AM.Y.truth_non, ↓AM.Y.truth_int, ↓AM.Y.truth_tup, ↓AM.Y.truth_rol, ↓AM.Y.truth_ref, ↓AM.Y.o_add, ↓AM.Y.o_sub, ↓AM.Y.o_mul, ↓AM.Y.o_mod, ↓AM.Y.o_fdv, ↓AM.Y.o_pow, ↓AM.Y.o_addL, ↓AM.Y.c_eq, ↓AM.Y.c_ne, ↓AM.Y.c_lt, ↓AM.Y.c_le, ↓AM.Y.c_gt, ↓AM.Y.c_ge, ↓AM.Y.c_inn, ↓AM.Y.c_nin, ↓AM.Y.has_dct, ↓AM.Y.x_tup, ↓AM.Y.x_rol, ↓AM.Y.x_ref, ↓AM.Y.x_set, ↓AM.Y.x_slcR, ↓AM.Y.x_slcL, ↓AM.Y.b_len_tup, ↓AM.Y.b_len_rol, ↓AM.Y.b_len_ref, ↓AM.Y.b_isi, ↓AM.Y.b_isi2, ↓AM.Y.b_int, ↓AM.Y.b_intb, ↓AM.Y.b_sum, ↓AM.Y.b_max2, ↓AM.Y.b_min2, ↓AM.Y.b_max1, ↓AM.Y.b_min1, ↓AM.Y.b_lst_tup, ↓AM.Y.b_lst_rol, ↓AM.Y.b_lst_ref, ↓AM.Y.b_all, ↓AM.Y.b_any, ↓AM.Y.k_app, ↓AM.Y.k_bits, ↓AM.Y.k_cnt, ↓AM.Y.m_app, ↓AM.Y.m_bits, ↓AM.Y.n_add, ↓AM.Y.n_sub, AM.wp_ok, AM.wp_no, ↓AM.wp_ret, ↓AM.wp_fail, ↓AM.wp_end, ↓AM.thn_nx, ↓AM.thn_rt, ↓AM.thn_bk, ↓AM.thn_ct, ↓AM.thn_xc, ↓AM.endP_nx, ↓AM.endP_rt, ↓AM.endP_xc, ↓AM.lpP_nx, ↓AM.lpP_ct, ↓AM.lpP_bk, ↓AM.lpP_rt, ↓AM.lpP_xc, ↓AM.Y.ifB_bl, ↓AM.Y.isI_int, ↓AM.Y.isT_tup, ↓AM.Y.isS_some, ↓AM.Y.isSS_some, ↓AM.Y.isO_lst, ↓AM.Y.isO_dct, AM.Y.ifB_bl, AM.Y.isI_int, AM.Y.isT_tup, AM.Y.isS_some, AM.Y.isSS_some, AM.Y.isO_lst, AM.Y.isO_dct, List.getElem?_cons_zero, List.getElem?_cons_succ, List.set_cons_zero, List.set_cons_succ, AM.Y.at0, AM.Y.at1, AM.Y.at2, AM.Y.at3, AM.Y.srcV, AM.Y.enumV, AM.tyOf, AM.tyIs, AM.isiV, AM.Y.isNon_non, AM.Y.isNon_bl, AM.Y.isNon_int, AM.Y.isNon_str, AM.Y.isNon_tup, AM.Y.isNon_rol, AM.Y.isNon_ref, Bool.not_true, Bool.not_false, Bool.true_eq_false, Bool.false_eq_true, ↓reduceIte, decide_true, decide_false, decide_eq_true_eq, Option.map_some, Option.map_none, Option.isSome_some, Option.isSome_none, List.length_cons, List.length_nil, List.isEmpty_cons, List.isEmpty_nil, true_and, and_true, Bool.or_false, Bool.false_or, Bool.or_true, Bool.true_or, Nat.zero_add, Nat.reduceAdd, AM.lim, Nat.reduceLeDiff, List.set, AM.wipeE, AM.Y.xcP, reduceCtorEq, imp_self, implies_true, not_false_eq_true]
        exact ⟨f.trans (fs.trans fz.nil), fz.get hL0, _, _, _, _, _, rfl⟩
      · rw [show (if 0 < least lk' - 1 then 0 else least lk' - 1) = 0 by split <;> omega]
        rfl
    · obtain ⟨f10, hL, a, b, c, d, e, rfl⟩ := I
      have D1 := C1.fr f10 n1'
      have D2 := C2.fr f10 (show A2 ∉ [LN] by simp; omega)
      have D3 := C3.fr f10 (show A3 ∉ [LN] by simp; omega)
      have hLR10 := f10.at_ _ _ (show LR ∉ [LN] by simp; omega) hLR9
      have all3 : ∀ (k : Nat) (x : Vl), [Vl.ref A1, Vl.ref A2, Vl.ref A3][k]? = some x → k < 3 ∧ ∃ q, x = .ref q.1 ∧ Lv h10 q ∧ [l1, l2, l3].take (k + 1) = [l1, l2, l3].take k ++ [q.2] := fun k x hk => by
        rcases k with _ | _ | _ | k
        · cases hk; exact ⟨by omega, _, rfl, D1, rfl⟩
        · cases hk; exact ⟨by omega, _, rfl, D2, rfl⟩
        · cases hk; exact ⟨by omega, _, rfl, D3, rfl⟩
        · cases hk
      clear C1 C2 C3 f10 hL hLn f79 f9 hLR9
      simp -implicitDefEqProofs only [↓AM.Y.y_var, ↓AM.Y.y_non, ↓AM.Y.y_bl, ↓AM.Y.y_int, ↓AM.Y.y_str, ↓AM.Y.y_ty, ↓AM.Y.y_tup, ↓AM.Y.y_lst, ↓AM.Y.y_dct0, ↓AM.Y.y_bin, ↓AM.Y.y_neg, ↓AM.Y.y_not, ↓AM.Y.y_and, ↓AM.Y.y_or, ↓AM.Y.y_cmp, ↓AM.Y.y_cmp2, ↓AM.Y.y_isN, ↓AM.Y.y_ntN, ↓AM.Y.y_isB, ↓AM.Y.y_ntB, ↓AM.Y.y_ife, ↓AM.Y.y_call, ↓AM.Y.y_bi, ↓AM.Y.y_mt, ↓AM.Y.y_idx, ↓AM.Y.y_slc, ↓AM.Y.y_lc, ↓AM.Y.y_lrng, ↓AM.Y.y_nil, ↓AM.Y.y_cons, ↓AM.Y.y_none, ↓AM.Y.y_some, ↓AM.Y.y_cnone, ↓AM.Y.y_csome, ↓AM.Y.t_not, ↓AM.Y.t_and, ↓AM.Y.t_or, ↓AM.Y.t_var, ↓AM.Y.t_cmp, ↓AM.Y.t_cmp2, ↓AM.Y.t_isN, ↓AM.Y.t_ntN, ↓AM.Y.t_isB, ↓AM.Y.t_ntB, ↓AM.Y.t_call, ↓AM.Y.t_bi, ↓AM.Y.t_idx, ↓AM.Y.i_seq, ↓AM.Y.i_rng1, ↓AM.Y.i_rng2, ↓AM.Y.i_enum, ↓AM.Y.i_zip, ↓AM.Y.g_nm, ↓AM.Y.g_tup, ↓AM.Y.g_sub, ↓AM.Y.g_nil, ↓AM.Y.g_cons, ↓AM.Y.s_nil', ↓AM.Y.s_cons', ↓AM.Y.s_asg, ↓AM.Y.s_asg2', ↓AM.Y.s_asg3', ↓AM.Y.s_par2', ↓AM.Y.s_par3', ↓AM.Y.s_aug', ↓AM.Y.s_expr', ↓AM.Y.s_ret', ↓AM.Y.s_retN', ↓AM.Y.s_iff', ↓AM.Y.s_for', ↓AM.Y.s_whl', ↓AM.Y.s_pass', ↓AM.Y.s_brk', ↓AM.Y.s_cnt', ↓AM.Y.s_never', ↓AM.Y.truth_bl, ↓AM.Y.truth_non, ↓AM.Y.truth_int, ↓AM.Y.truth_tup, ↓AM.Y.truth_rol, ↓AM.Y.truth_ref, ↓AM.Y.o_add, ↓AM.Y.o_sub, ↓AM.Y.o_mul, ↓AM.Y.o_mod, ↓AM.Y.o_fdv, ↓AM.Y.o_pow, ↓AM.Y.o_addL, ↓AM.Y.c_eq, ↓AM.Y.c_ne, ↓AM.Y.c_lt, ↓AM.Y.c_le, ↓AM.Y.c_gt, ↓AM.Y.c_ge, ↓AM.Y.c_inn, ↓AM.Y.c_nin, ↓AM.Y.has_dct, ↓AM.Y.x_tup, ↓AM.Y.x_rol, ↓AM.Y.x_ref, ↓AM.Y.x_set, ↓AM.Y.x_slcR, ↓AM.Y.x_slcL, ↓AM.Y.b_len_tup, ↓AM.Y.b_len_rol, ↓AM.Y.b_len_ref, ↓AM.Y.b_isi, ↓AM.Y.b_isi2, ↓AM.Y.b_int, ↓AM.Y.b_intb, ↓AM.Y.b_sum, ↓AM.Y.b_max2, ↓AM.Y.b_min2, ↓AM.Y.b_max1, ↓AM.Y.b_min1, ↓AM.Y.b_lst_tup, ↓AM.Y.b_lst_rol, ↓AM.Y.b_lst_ref, ↓AM.Y.b_all, ↓AM.Y.b_any, ↓AM.Y.k_app, ↓AM.Y.k_bits, ↓AM.Y.k_cnt, ↓AM.Y.m_app, ↓AM.Y.m_bits, ↓AM.Y.n_add, ↓AM.Y.n_sub, AM.wp_ok, AM.wp_no, ↓AM.wp_ret, ↓AM.wp_fail, ↓AM.wp_end, ↓AM.thn_nx, ↓AM.thn_rt, ↓AM.thn_bk, ↓AM.thn_ct, ↓AM.thn_xc, ↓AM.endP_nx, ↓AM.endP_rt, ↓AM.endP_xc, ↓AM.lpP_nx, ↓AM.lpP_ct, ↓AM.lpP_bk, ↓AM.lpP_rt, ↓AM.lpP_xc, ↓AM.Y.ifB_bl, ↓AM.Y.isI_int, ↓AM.Y.isT_tup, ↓AM.Y.isS_some, ↓AM.Y.isSS_some, ↓AM.Y.isO_lst, ↓AM.Y.isO_dct, AM.Y.ifB_bl, AM.Y.isI_int, AM.Y.isT_tup, AM.Y.isS_some, AM.Y.isSS_some, AM.Y.isO_lst, AM.Y.isO_dct, List.getElem?_cons_zero, List.getElem?_cons_succ, List.set_cons_zero, List.set_cons_succ, AM.Y.at0, AM.Y.at1, AM.Y.at2, AM.Y.at3, AM.Y.srcV, AM.Y.enumV, AM.tyOf, AM.tyIs, AM.isiV, AM.Y.isNon_non, AM.Y.isNon_bl, AM.Y.isNon_int, AM.Y.isNon_str, AM.Y.isNon_tup, AM.Y.isNon_rol, AM.Y.isNon_ref, Bool.not_true, Bool.not_false, Bool.true_eq_false, Bool.false_eq_true, ↓reduceIte, decide_true, decide_false, decide_eq_true_eq, Option.map_some, Option.map_none, Option.isSome_some, Option.isSome_none, List.length_cons, List.length_nil, List.isEmpty_cons, List.isEmpty_nil, true_and, and_true, Bool.or_false, Bool.false_or, Bool.or_true, Bool.true_or, Nat.zero_add, Nat.reduceAdd, AM.lim, Nat.reduceLeDiff, List.set, AM.wipeE, AM.Y.xcP, reduceCtorEq, imp_self, implies_true, not_false_eq_true, hLR10]
      refine cmp_cell (xs := [Vl.ref A1, Vl.ref A2, Vl.ref A3]) (fun k acc h => Fr [] h10 h ∧ acc.length ≤ 3 ∧ Dts h acc (([l1, l2, l3].take k).map noteD)) (fun k acc h I => I.1.get hLR10) (fun k x acc h hk I => ?_) (fun acc7 h11 I => ?_) ⟨Fr.refl, by simp, .nil⟩
      · obtain ⟨f, al, D⟩ := I
        obtain ⟨k3, q, rfl, b', e4⟩ := all3 k x hk
        have b' := b'.fr f (by simp)
        obtain ⟨b1, b2, b3⟩ := b'
        have accl := D.len
        rw [List.length_map, List.length_take] at accl
        rw [e4, List.map_append]
        simp -implicitDefEqProofs only [↓AM.Y.y_var, ↓AM.Y.y_non, ↓AM.Y.y_bl, ↓AM.Y.y_int, ↓AM.Y.y_str, ↓AM.Y.y_ty, ↓AM.Y.y_tup, ↓AM.Y.y_lst, ↓AM.Y.y_dct0, ↓AM.Y.y_bin, ↓AM.Y.y_neg, ↓AM.Y.y_not, ↓AM.Y.y_and, ↓AM.Y.y_or, ↓AM.Y.y_cmp, ↓AM.Y.y_cmp2, ↓AM.Y.y_isN, ↓AM.Y.y_ntN, ↓AM.Y.y_isB, ↓AM.Y.y_ntB, ↓AM.Y.y_ife, ↓AM.Y.y_call, ↓AM.Y.y_bi, ↓AM.Y.y_mt, ↓AM.Y.y_idx, ↓AM.Y.y_slc, ↓AM.Y.y_lc, ↓AM.Y.y_lrng, ↓AM.Y.y_nil, ↓AM.Y.y_cons, ↓AM.Y.y_none, ↓AM.Y.y_some, ↓AM.Y.y_cnone, ↓AM.Y.y_csome, ↓AM.Y.t_not, ↓AM.Y.t_and, ↓AM.Y.t_or, ↓AM.Y.t_var, ↓AM.Y.t_cmp, ↓AM.Y.t_cmp2, ↓AM.Y.t_isN, ↓AM.Y.t_ntN, ↓AM.Y.t_isB, ↓AM.Y.t_ntB, ↓AM.Y.t_call, ↓AM.Y.t_bi, ↓AM.Y.t_idx, ↓AM.Y.i_seq, ↓AM.Y.i_rng1, ↓AM.Y.i_rng2, ↓AM.Y.i_enum, ↓AM.Y.i_zip, ↓AM.Y.g_nm, ↓AM.Y.g_tup, ↓AM.Y.g_sub, ↓AM.Y.g_nil, ↓AM.Y.g_cons, ↓AM.Y.s_nil', ↓AM.Y.s_cons', ↓AM.Y.s_asg, ↓AM.Y.s_asg2', ↓AM.Y.s_asg3', ↓AM.Y.s_par2', ↓AM.Y.s_par3', ↓AM.Y.s_aug', ↓AM.Y.s_expr', ↓AM.Y.s_ret', ↓AM.Y.s_retN', ↓AM.Y.s_iff', ↓AM.Y.s_for', ↓AM.Y.s_whl', ↓AM.Y.s_pass', ↓AM.Y.s_brk', ↓AM.Y.s_cnt', ↓AM.Y.s_never', ↓AM.Y.truth_bl, ↓AM.Y.truth_non, ↓AM.Y.truth_int, ↓AM.Y.truth_tup, ↓AM.Y.truth_rol, ↓AM.Y.truth_ref, ↓AM.Y.o_add, ↓AM.Y.o_sub, ↓AM.Y.o_mul, ↓AM.Y.o_mod, ↓AM.Y.o_fdv, ↓AM.Y.o_pow, ↓AM.Y.o_addL, ↓AM.Y.c_eq, ↓AM.Y.c_ne, ↓AM.Y.c_lt, ↓AM.Y.c_le, ↓AM.Y.c_gt, ↓AM.Y.c_ge, ↓AM.Y.c_inn, ↓AM.Y.c_nin, ↓AM.Y.has_dct, ↓AM.Y.x_tup, ↓AM.Y.x_rol, ↓AM.Y.x_ref, ↓AM.Y.x_set, ↓AM.Y.x_slcR, ↓AM.Y.x_slcL, ↓AM.Y.b_len_tup, ↓AM.Y.b_len_rol, ↓AM.Y.b_len_ref, ↓AM.Y.b_isi, ↓AM.Y.b_isi2, ↓AM.Y.b_int, ↓AM.Y.b_intb, ↓AM.Y.b_sum, ↓AM.Y.b_max2, ↓AM.Y.b_min2, ↓AM.Y.b_max1, ↓AM.Y.b_min1, ↓AM.Y.b_lst_tup, ↓AM.Y.b_lst_rol, ↓AM.Y.b_lst_ref, ↓AM.Y.b_all, ↓AM.Y.b_any, ↓AM.Y.k_app, ↓AM.Y.k_bits, ↓AM.Y.k_cnt, ↓AM.Y.m_app, ↓AM.Y.m_bits, ↓AM.Y.n_add, ↓AM.Y.n_sub, AM.wp_ok, AM.wp_no, ↓AM.wp_ret, ↓AM.wp_fail, ↓AM.wp_end, ↓AM.thn_nx, ↓AM.thn_rt, ↓AM.thn_bk, ↓AM.thn_ct, ↓AM.thn_xc, ↓AM.endP_nx, ↓AM.endP_rt, ↓AM.endP_xc, ↓AM.lpP_nx, ↓AM.lpP_ct, ↓AM.lpP_bk, ↓AM.lpP_rt, ↓AM.lpP_xc, ↓AM.Y.ifB_bl, ↓AM.Y.isI_int, ↓AM.Y.isT_tup, ↓AM.Y.isS_some, ↓AM.Y.isSS_some, ↓AM.Y.isO_lst, ↓AM.Y.isO_dct, AM.Y.ifB_bl, AM.Y.isI_int, AM.Y.isT_tup, AM.Y.isS_some, AM.Y.isSS_some, AM.Y.isO_lst, AM.Y.isO_dct, List.getElem?_cons_zero, List.getElem?_cons_succ, List.set_cons_zero, List.set_cons_succ, AM.Y.at0, AM.Y.at1, AM.Y.at2, AM.Y.at3, AM.Y.srcV, AM.Y.enumV, AM.tyOf, AM.tyIs, AM.isiV, AM.Y.isNon_non, AM.Y.isNon_bl, AM.Y.isNon_int, AM.Y.isNon_str, AM.Y.isNon_tup, AM.Y.isNon_rol, AM.Y.isNon_ref, Bool.not_true, Bool.not_false, Bool.true_eq_false, Bool.false_eq_true, ↓reduceIte, decide_true, decide_false, decide_eq_true_eq, Option.map_some, Option.map_none, Option.isSome_some, Option.isSome_none, List.length_cons, List.length_nil, List.isEmpty_cons, List.isEmpty_nil, true_and, and_true, Bool.or_false, Bool.false_or, Bool.or_true, Bool.true_or, Nat.zero_add, Nat.reduceAdd, AM.lim, Nat.reduceLeDiff, List.set, AM.wipeE, AM.Y.xcP, reduceCtorEq, imp_self, implies_true, not_false_eq_true, b1, List.length_map]
        refine wp_q (w_still (d := 34) b1 b2 (by omega) (Nat.le_refl _)) fun v hB z => ?_
        obtain ⟨R, rfl, hR, hR1, fB⟩ := z
        rw [List.take_length] at hR1
        try simp -implicitDefEqProofs only [↓AM.Y.y_var, ↓AM.Y.y_non, ↓AM.Y.y_bl, ↓AM.Y.y_int, ↓AM.Y.y_str, ↓AM.Y.y_ty, ↓AM.Y.y_tup, ↓AM.Y.y_lst, ↓AM.Y.y_dct0, ↓AM.Y.y_bin, ↓AM.Y.y_neg, ↓AM.Y.y_not, ↓AM.Y.y_and, ↓AM.Y.y_or, ↓AM.Y.y_cmp, ↓AM.Y.y_cmp2, ↓AM.Y.y_isN, ↓AM.Y.y_ntN, ↓AM.Y.y_isB, ↓AM.Y.y_ntB, ↓AM.Y.y_ife, ↓AM.Y.y_call, ↓AM.Y.y_bi, ↓AM.Y.y_mt, ↓AM.Y.y_idx, ↓AM.Y.y_slc, ↓AM.Y.y_lc, ↓AM.Y.y_lrng, ↓AM.Y.y_nil, ↓AM.Y.y_cons, ↓AM.Y.y_none, ↓AM.Y.y_some, ↓AM.Y.y_cnone, ↓AM.Y.y_csome, ↓AM.Y.t_not, ↓AM.Y.t_and, ↓AM.Y.t_or, ↓AM.Y.t_var, ↓AM.Y.t_cmp, ↓AM.Y.t_cmp2, ↓AM.Y.t_isN, ↓AM.Y.t_ntN, ↓AM.Y.t_isB, ↓AM.Y.t_ntB, ↓AM.Y.t_call, ↓AM.Y.t_bi, ↓AM.Y.t_idx, ↓AM.Y.i_seq, ↓AM.Y.i_rng1, ↓AM.Y.i_rng2, ↓AM.Y.i_enum, ↓AM.Y.i_zip, ↓AM.Y.g_nm, ↓AM.Y.g_tup, ↓AM.Y.g_sub, ↓AM.Y.g_nil, ↓AM.Y.g_cons, ↓AM.Y.s_nil', ↓AM.Y.s_cons', ↓AM.Y.s_asg, ↓AM.Y.s_asg2', ↓AM.Y.s_asg3', ↓AM.Y.s_par2', ↓AM.Y.s_par3', ↓AM.Y.s_aug', ↓AM.Y.s_expr', ↓AM.Y.s_ret', ↓AM.Y.s_retN', ↓AM.Y.s_iff', ↓AM.Y.s_for', ↓AM.Y.s_whl', ↓AM.Y.s_pass', ↓AM.Y.s_brk', ↓AM.Y.s_cnt', ↓AM.Y.s_never', ↓AM.Y.truth_bl, ↓AM.Y.truth_non, ↓AM.Y.truth_int, ↓AM.Y.truth_tup, ↓AM.Y.truth_rol, ↓AM.Y.truth_ref, ↓AM.Y.o_add, ↓AM.Y.o_sub, ↓AM.Y.o_mul, ↓AM.Y.o_mod, ↓AM.Y.o_fdv, ↓AM.Y.o_pow, ↓AM.Y.o_addL, ↓AM.Y.c_eq, ↓AM.Y.c_ne, ↓AM.Y.c_lt, ↓AM.Y.c_le, ↓AM.Y.c_gt, ↓AM.Y.c_ge, ↓AM.Y.c_inn, ↓AM.Y.c_nin, ↓AM.Y.has_dct, ↓AM.Y.x_tup, ↓AM.Y.x_rol, ↓AM.Y.x_ref, ↓AM.Y.x_set, ↓AM.Y.x_slcR, ↓AM.Y.x_slcL, ↓AM.Y.b_len_tup, ↓AM.Y.b_len_rol, ↓AM.Y.b_len_ref, ↓AM.Y.b_isi, ↓AM.Y.b_isi2, ↓AM.Y.b_int, ↓AM.Y.b_intb, ↓AM.Y.b_sum, ↓AM.Y.b_max2, ↓AM.Y.b_min2, ↓AM.Y.b_max1, ↓AM.Y.b_min1, ↓AM.Y.b_lst_tup, ↓AM.Y.b_lst_rol, ↓AM.Y.b_lst_ref, ↓AM.Y.b_all, ↓AM.Y.b_any, ↓AM.Y.k_app, ↓AM.Y.k_bits, ↓AM.Y.k_cnt, ↓AM.Y.m_app, ↓AM.Y.m_bits, ↓AM.Y.n_add, ↓AM.Y.n_sub, AM.wp_ok, AM.wp_no, ↓AM.wp_ret, ↓AM.wp_fail, ↓AM.wp_end, ↓AM.thn_nx, ↓AM.thn_rt, ↓AM.thn_bk, ↓AM.thn_ct, ↓AM.thn_xc, ↓AM.endP_nx, ↓AM.endP_rt, ↓AM.endP_xc, ↓AM.lpP_nx, ↓AM.lpP_ct, ↓AM.lpP_bk, ↓AM.lpP_rt, ↓AM.lpP_xc, ↓AM.Y.ifB_bl, ↓AM.Y.isI_int, ↓AM.Y.isT_tup, ↓AM.Y.isS_some, ↓AM.Y.isSS_some, ↓AM.Y.isO_lst, ↓AM.Y.isO_dct, AM.Y.ifB_bl, AM.Y.isI_int, AM.Y.isT_tup, AM.Y.isS_some, AM.Y.isSS_some, AM.Y.isO_lst, AM.Y.isO_dct, List.getElem?_cons_zero, List.getElem?_cons_succ, List.set_cons_zero, List.set_cons_succ, AM.Y.at0, AM.Y.at1, AM.Y.at2, AM.Y.at3, AM.Y.srcV, AM.Y.enumV, AM.tyOf, AM.tyIs, AM.isiV, AM.Y.isNon_non, AM.Y.isNon_bl, AM.Y.isNon_int, AM.Y.isNon_str, AM.Y.isNon_tup, AM.Y.isNon_rol, AM.Y.isNon_ref, Bool.not_true, Bool.not_false, Bool.true_eq_false, Bool.false_eq_true, ↓reduceIte, decide_true, decide_false, decide_eq_true_eq, Option.map_some, Option.map_none, Option.isSome_some, Option.isSome_none, List.length_cons, List.length_nil, List.isEmpty_cons, List.isEmpty_nil, true_and, and_true, Bool.or_false, Bool.false_or, Bool.or_true, Bool.true_or, Nat.zero_add, Nat.reduceAdd, AM.lim, Nat.reduceLeDiff, List.set, AM.wipeE, AM.Y.xcP, reduceCtorEq, imp_self, implies_true, not_false_eq_true]
        refine wp_q (w_first_full (d := 34) (p := 2) (fB.get b1) b2 (by omega) (by omega)) fun v hC z => ?_
        obtain ⟨z, fC⟩ := z
        have hv := fstV_eq z
        subst hv
        try simp -implicitDefEqProofs only [↓AM.Y.y_var, ↓AM.Y.y_non, ↓AM.Y.y_bl, ↓AM.Y.y_int, ↓AM.Y.y_str, ↓AM.Y.y_ty, ↓AM.Y.y_tup, ↓AM.Y.y_lst, ↓AM.Y.y_dct0, ↓AM.Y.y_bin, ↓AM.Y.y_neg, ↓AM.Y.y_not, ↓AM.Y.y_and, ↓AM.Y.y_or, ↓AM.Y.y_cmp, ↓AM.Y.y_cmp2, ↓AM.Y.y_isN, ↓AM.Y.y_ntN, ↓AM.Y.y_isB, ↓AM.Y.y_ntB, ↓AM.Y.y_ife, ↓AM.Y.y_call, ↓AM.Y.y_bi, ↓AM.Y.y_mt, ↓AM.Y.y_idx, ↓AM.Y.y_slc, ↓AM.Y.y_lc, ↓AM.Y.y_lrng, ↓AM.Y.y_nil, ↓AM.Y.y_cons, ↓AM.Y.y_none, ↓AM.Y.y_some, ↓AM.Y.y_cnone, ↓AM.Y.y_csome, ↓AM.Y.t_not, ↓AM.Y.t_and, ↓AM.Y.t_or, ↓AM.Y.t_var, ↓AM.Y.t_cmp, ↓AM.Y.t_cmp2, ↓AM.Y.t_isN, ↓AM.Y.t_ntN, ↓AM.Y.t_isB, ↓AM.Y.t_ntB, ↓AM.Y.t_call, ↓AM.Y.t_bi, ↓AM.Y.t_idx, ↓AM.Y.i_seq, ↓AM.Y.i_rng1, ↓AM.Y.i_rng2, ↓AM.Y.i_enum, ↓AM.Y.i_zip, ↓AM.Y.g_nm, ↓AM.Y.g_tup, ↓AM.Y.g_sub, ↓AM.Y.g_nil, ↓AM.Y.g_cons, ↓AM.Y.s_nil', ↓AM.Y.s_cons', ↓AM.Y.s_asg, ↓AM.Y.s_asg2', ↓AM.Y.s_asg3', ↓AM.Y.s_par2', ↓AM.Y.s_par3', ↓AM.Y.s_aug', ↓AM.Y.s_expr', ↓AM.Y.s_ret', ↓AM.Y.s_retN', ↓AM.Y.s_iff', ↓AM.Y.s_for', ↓AM.Y.s_whl', ↓AM.Y.s_pass', ↓AM.Y.s_brk', ↓AM.Y.s_cnt', ↓AM.Y.s_never', ↓AM.Y.truth_bl, ↓AM.Y.truth_non, ↓AM.Y.truth_int, ↓AM.Y.truth_tup, ↓AM.Y.truth_rol, ↓AM.Y.truth_ref, ↓AM.Y.o_add, ↓AM.Y.o_sub, ↓AM.Y.o_mul, ↓AM.Y.o_mod, ↓AM.Y.o_fdv, ↓AM.Y.o_pow, ↓AM.Y.o_addL, ↓AM.Y.c_eq, ↓AM.Y.c_ne, ↓AM.Y.c_lt, ↓AM.Y.c_le, ↓AM.Y.c_gt, ↓AM.Y.c_ge, ↓AM.Y.c_inn, ↓AM.Y.c_nin, ↓AM.Y.has_dct, ↓AM.Y.x_tup, ↓AM.Y.x_rol, ↓AM.Y.x_ref, ↓AM.Y.x_set, ↓AM.Y.x_slcR, ↓AM.Y.x_slcL, ↓AM.Y.b_len_tup, ↓AM.Y.b_len_rol, ↓AM.Y.b_len_ref, ↓AM.Y.b_isi, ↓AM.Y.b_isi2, ↓AM.Y.b_int, ↓AM.Y.b_intb, ↓AM.Y.b_sum, ↓AM.Y.b_max2, ↓AM.Y.b_min2, ↓AM.Y.b_max1, ↓AM.Y.b_min1, ↓AM.Y.b_lst_tup, ↓AM.Y.b_lst_rol, ↓AM.Y.b_lst_ref, ↓AM.Y.b_all, ↓AM.Y.b_any, ↓AM.Y.k_app, ↓AM.Y.k_bits, ↓AM.Y.k_cnt, ↓AM.Y.m_app, ↓AM.Y.m_bits, ↓AM.Y.n_add, ↓AM.Y.n_sub, AM.wp_ok, AM.wp_no, ↓AM.wp_ret, ↓AM.wp_fail, ↓AM.wp_end, ↓AM.thn_nx, ↓AM.thn_rt, ↓AM.thn_bk, ↓AM.thn_ct, ↓AM.thn_xc, ↓AM.endP_nx, ↓AM.endP_rt, ↓AM.endP_xc, ↓AM.lpP_nx, ↓AM.lpP_ct, ↓AM.lpP_bk, ↓AM.lpP_rt, ↓AM.lpP_xc, ↓AM.Y.ifB_bl, ↓AM.Y.isI_int, ↓AM.Y.isT_tup, ↓AM.Y.isS_some, ↓AM.Y.isSS_some, ↓AM.Y.isO_lst, ↓AM.Y.isO_dct, AM.Y.ifB_bl, AM.Y.isI_int, AM.Y.isT_tup, AM.Y.isS_some, AM.Y.isSS_some, AM.Y.isO_lst, AM.Y.isO_dct, List.getElem?_cons_zero, List.getElem?_cons_succ, List.set_cons_zero, List.set_cons_succ, AM.Y.at0, AM.Y.at1, AM.Y.at2, AM.Y.at3, AM.Y.srcV, AM.Y.enumV, AM.tyOf, AM.tyIs, AM.isiV, AM.Y.isNon_non, AM.Y.isNon_bl, AM.Y.isNon_int, AM.Y.isNon_str, AM.Y.isNon_tup, AM.Y.isNon_rol, AM.Y.isNon_ref, Bool.not_true, Bool.not_false, Bool.true_eq_false, Bool.false_eq_true, ↓reduceIte, decide_true, decide_false, decide_eq_true_eq, Option.map_some, Option.map_none, Option.isSome_some, Option.isSome_none, List.length_cons, List.length_nil, List.isEmpty_cons, List.isEmpty_nil, true_and, and_true, Bool.or_false, Bool.false_or, Bool.or_true, Bool.true_or, Nat.zero_add, Nat.reduceAdd, AM.lim, Nat.reduceLeDiff, List.set, AM.wipeE, AM.Y.xcP, reduceCtorEq, imp_self, implies_true, not_false_eq_true]
        have fa : Fr [] h (hC ++ [Ob.lst [Vl.ref R, fstV (full q.2 2)]]) := (fB.trans fC).trans (Fr.alloc _)
        refine ⟨by omega, f.trans fa, by simp at accl ⊢; omega, (D.fr fa).snoc (.ref get_new (.cons (need_dt (get_app (fC.get hR1) _)) (.cons (fst_dt _) .nil)))⟩
      · obtain ⟨f11, al7, D7⟩ := I
        have f12 : Fr [] h10 (h11 ++ [Ob.lst acc7]) := f11.trans (Fr.alloc _)
        have hN7 : (h11 ++ [Ob.lst acc7])[h11.length]? = some (.lst acc7) := get_new
        have D7' := D7.fr (Fr.alloc (Ob.lst acc7))
        generalize h11.length = N7 at *
        generalize h11 ++ [Ob.lst acc7] = h12 at *
        simp -implicitDefEqProofs only [↓AM.Y.y_var, ↓AM.Y.y_non, ↓AM.Y.y_bl, ↓AM.Y.y_int, ↓AM.Y.y_str, ↓AM.Y.y_ty, ↓AM.Y.y_tup, ↓AM.Y.y_lst, ↓AM.Y.y_dct0, ↓AM.Y.y_bin, ↓AM.Y.y_neg, ↓AM.Y.y_not, ↓AM.Y.y_and, ↓AM.Y.y_or, ↓AM.Y.y_cmp, ↓AM.Y.y_cmp2, ↓AM.Y.y_isN, ↓AM.Y.y_ntN, ↓AM.Y.y_isB, ↓AM.Y.y_ntB, ↓AM.Y.y_ife, ↓AM.Y.y_call, ↓AM.Y.y_bi, ↓AM.Y.y_mt, ↓AM.Y.y_idx, ↓AM.Y.y_slc, ↓AM.Y.y_lc, ↓AM.Y.y_lrng, ↓AM.Y.y_nil, ↓AM.Y.y_cons, ↓AM.Y.y_none, ↓AM.Y.y_some, ↓AM.Y.y_cnone, ↓AM.Y.y_csome, ↓AM.Y.t_not, ↓AM.Y.t_and, ↓AM.Y.t_or, ↓AM.Y.t_var, ↓AM.Y.t_cmp, ↓AM.Y.t_cmp2, ↓AM.Y.t_isN, ↓AM.Y.t_ntN, ↓AM.Y.t_isB, ↓AM.Y.t_ntB, ↓AM.Y.t_call, ↓AM.Y.t_bi, ↓AM.Y.t_idx, ↓AM.Y.i_seq, ↓AM.Y.i_rng1, ↓AM.Y.i_rng2, ↓AM.Y.i_enum, ↓AM.Y.i_zip, ↓AM.Y.g_nm, ↓AM.Y.g_tup, ↓AM.Y.g_sub, ↓AM.Y.g_nil, ↓AM.Y.g_cons, ↓AM.Y.s_nil', ↓AM.Y.s_cons', ↓AM.Y.s_asg, ↓AM.Y.s_asg2', ↓AM.Y.s_asg3', ↓AM.Y.s_par2', ↓AM.Y.s_par3', ↓AM.Y.s_aug', ↓AM.Y.s_expr', ↓AM.Y.s_ret', ↓AM.Y.s_retN', ↓AM.Y.s_iff', ↓AM.Y.s_for', ↓AM.Y.s_whl', ↓AM.Y.s_pass', ↓AM.Y.s_brk', ↓AM.Y.s_cnt', ↓AM.Y.s_never', ↓AM.Y.truth_bl, ↓AM.Y.truth_non, ↓AM.Y.truth_int, ↓AM.Y.truth_tup, ↓AM.Y.truth_rol, ↓AM.Y.truth_ref, ↓AM.Y.o_add, ↓AM.Y.o_sub, ↓AM.Y.o_mul, ↓AM.Y.o_mod, ↓AM.Y.o_fdv, ↓AM.Y.o_pow, ↓AM.Y.o_addL, ↓AM.Y.c_eq, ↓AM.Y.c_ne, ↓AM.Y.c_lt, ↓AM.Y.c_le, ↓AM.Y.c_gt, ↓AM.Y.c_ge, ↓AM.Y.c_inn, ↓AM.Y.c_nin, ↓AM.Y.has_dct, ↓AM.Y.x_tup, ↓AM.Y.x_rol, ↓AM.Y.x_ref, ↓AM.Y.x_set, ↓AM.Y.x_slcR, ↓AM.Y.x_slcL, ↓AM.Y.b_len_tup, ↓AM.Y.b_len_rol, ↓AM.Y.b_len_ref, ↓AM.Y.b_isi, ↓AM.Y.b_isi2, ↓AM.Y.b_int, ↓AM.Y.b_intb, ↓AM.Y.b_sum, ↓AM.Y.b_max2, ↓AM.Y.b_min2, ↓AM.Y.b_max1, ↓AM.Y.b_min1, ↓AM.Y.b_lst_tup, ↓AM.Y.b_lst_rol, ↓AM.Y.b_lst_ref, ↓AM.Y.b_all, ↓AM.Y.b_any, ↓AM.Y.k_app, ↓AM.Y.k_bits, ↓AM.Y.k_cnt, ↓AM.Y.m_app, ↓AM.Y.m_bits, ↓AM.Y.n_add, ↓AM.Y.n_sub, AM.wp_ok, AM.wp_no, ↓AM.wp_ret, ↓AM.wp_fail, ↓AM.wp_end, ↓AM.thn_nx, ↓AM.thn_rt, ↓AM.thn_bk, ↓AM.thn_ct, ↓AM.thn_xc, ↓AM.endP_nx, ↓AM.endP_rt, ↓AM.endP_xc, ↓AM.lpP_nx, ↓AM.lpP_ct, ↓AM.lpP_bk, ↓AM.lpP_rt, ↓AM.lpP_xc, ↓AM.Y.ifB_bl, ↓AM.Y.isI_int, ↓AM.Y.isT_tup, ↓AM.Y.isS_some, ↓AM.Y.isSS_some, ↓AM.Y.isO_lst, ↓AM.Y.isO_dct, AM.Y.ifB_bl, AM.Y.isI_int, AM.Y.isT_tup, AM.Y.isS_some, AM.Y.isSS_some, AM.Y.isO_lst, AM.Y.isO_dct, List.getElem?_cons_zero, List.getElem?_cons_succ, List.set_cons_zero, List.set_cons_succ, AM.Y.at0, AM.Y.at1, AM.Y.at2, AM.Y.at3, AM.Y.srcV, AM.Y.enumV, AM.tyOf, AM.tyIs, AM.isiV, AM.Y.isNon_non, AM.Y.isNon_bl, AM.Y.isNon_int, AM.Y.isNon_str, AM.Y.isNon_tup, AM.Y.isNon_rol, AM.Y.isNon_ref, Bool.not_true, Bool.not_false, Bool.true_eq_false, Bool.false_eq_true, ↓reduceIte, decide_true, decide_false, decide_eq_true_eq, Option.map_some, Option.map_none, Option.isSome_some, Option.isSome_none, List.length_cons, List.length_nil, List.isEmpty_cons, List.isEmpty_nil, true_and, and_true, Bool.or_false, Bool.false_or, Bool.or_true, Bool.true_or, Nat.zero_add, Nat.reduceAdd, AM.lim, Nat.reduceLeDiff, List.set, AM.wipeE, AM.Y.xcP, reduceCtorEq, imp_self, implies_true, not_false_eq_true, f12.get hLR10]
        refine cmp_cell (xs := [Vl.ref A1, Vl.ref A2, Vl.ref A3]) (fun k acc h => Fr [] h12 h ∧ acc.length ≤ 3 ∧ Dts h acc (([l1, l2, l3].take k).map noteD)) (fun k acc h I => I.1.get (f12.get hLR10)) (fun k x acc h hk I => ?_) (fun acc8 h13 I => ?_) ⟨Fr.refl, by simp, .nil⟩
        · obtain ⟨f, al, D⟩ := I
          obtain ⟨k3, q, rfl, b', e4⟩ := all3 k x hk
          have b' := b'.fr (f12.trans f) (by simp)
          obtain ⟨b1, b2, b3⟩ := b'
          obtain ⟨t1, t2, t3⟩ := tally_le b2
          have accl := D.len
          rw [List.length_map, List.length_take] at accl
          rw [e4, List.map_append]
          simp -implicitDefEqProofs only [↓AM.Y.y_var, ↓AM.Y.y_non, ↓AM.Y.y_bl, ↓AM.Y.y_int, ↓AM.Y.y_str, ↓AM.Y.y_ty, ↓AM.Y.y_tup, ↓AM.Y.y_lst, ↓AM.Y.y_dct0, ↓AM.Y.y_bin, ↓AM.Y.y_neg, ↓AM.Y.y_not, ↓AM.Y.y_and, ↓AM.Y.y_or, ↓AM.Y.y_cmp, ↓AM.Y.y_cmp2, ↓AM.Y.y_isN, ↓AM.Y.y_ntN, ↓AM.Y.y_isB, ↓AM.Y.y_ntB, ↓AM.Y.y_ife, ↓AM.Y.y_call, ↓AM.Y.y_bi, ↓AM.Y.y_mt, ↓AM.Y.y_idx, ↓AM.Y.y_slc, ↓AM.Y.y_lc, ↓AM.Y.y_lrng, ↓AM.Y.y_nil, ↓AM.Y.y_cons, ↓AM.Y.y_none, ↓AM.Y.y_some, ↓AM.Y.y_cnone, ↓AM.Y.y_csome, ↓AM.Y.t_not, ↓AM.Y.t_and, ↓AM.Y.t_or, ↓AM.Y.t_var, ↓AM.Y.t_cmp, ↓AM.Y.t_cmp2, ↓AM.Y.t_isN, ↓AM.Y.t_ntN, ↓AM.Y.t_isB, ↓AM.Y.t_ntB, ↓AM.Y.t_call, ↓AM.Y.t_bi, ↓AM.Y.t_idx, ↓AM.Y.i_seq, ↓AM.Y.i_rng1, ↓AM.Y.i_rng2, ↓AM.Y.i_enum, ↓AM.Y.i_zip, ↓AM.Y.g_nm, ↓AM.Y.g_tup, ↓AM.Y.g_sub, ↓AM.Y.g_nil, ↓AM.Y.g_cons, ↓AM.Y.s_nil', ↓AM.Y.s_cons', ↓AM.Y.s_asg, ↓AM.Y.s_asg2', ↓AM.Y.s_asg3', ↓AM.Y.s_par2', ↓AM.Y.s_par3', ↓AM.Y.s_aug', ↓AM.Y.s_expr', ↓AM.Y.s_ret', ↓AM.Y.s_retN', ↓AM.Y.s_iff', ↓AM.Y.s_for', ↓AM.Y.s_whl', ↓AM.Y.s_pass', ↓AM.Y.s_brk', ↓AM.Y.s_cnt', ↓AM.Y.s_never', ↓AM.Y.truth_bl, ↓AM.Y.truth_non, ↓AM.Y.truth_int, ↓AM.Y.truth_tup, ↓AM.Y.truth_rol, ↓AM.Y.truth_ref, ↓AM.Y.o_add, ↓AM.Y.o_sub, ↓AM.Y.o_mul, ↓AM.Y.o_mod, ↓AM.Y.o_fdv, ↓AM.Y.o_pow, ↓AM.Y.o_addL, ↓AM.Y.c_eq, ↓AM.Y.c_ne, ↓AM.Y.c_lt, ↓AM.Y.c_le, ↓AM.Y.c_gt, ↓AM.Y.c_ge, ↓AM.Y.c_inn, ↓AM.Y.c_nin, ↓AM.Y.has_dct, ↓AM.Y.x_tup, ↓AM.Y.x_rol, ↓AM.Y.x_ref, ↓AM.Y.x_set, ↓AM.Y.x_slcR, ↓AM.Y.x_slcL, ↓AM.Y.b_len_tup, ↓AM.Y.b_len_rol, ↓AM.Y.b_len_ref, ↓AM.Y.b_isi, ↓AM.Y.b_isi2, ↓AM.Y.b_int, ↓AM.Y.b_intb, ↓AM.Y.b_sum, ↓AM.Y.b_max2, ↓AM.Y.b_min2, ↓AM.Y.b_max1, ↓AM.Y.b_min1, ↓AM.Y.b_lst_tup, ↓AM.Y.b_lst_rol, ↓AM.Y.b_lst_ref, ↓AM.Y.b_all, ↓AM.Y.b_any, ↓AM.Y.k_app, ↓AM.Y.k_bits, ↓AM.Y.k_cnt, ↓AM.Y.m_app, ↓AM.Y.m_bits, ↓AM.Y.n_add, ↓AM.Y.n_sub, AM.wp_ok, AM.wp_no, ↓AM.wp_ret, ↓AM.wp_fail, ↓AM.wp_end, ↓AM.thn_nx, ↓AM.thn_rt, ↓AM.thn_bk, ↓AM.thn_ct, ↓AM.thn_xc, ↓AM.endP_nx, ↓AM.endP_rt, ↓AM.endP_xc, ↓AM.lpP_nx, ↓AM.lpP_ct, ↓AM.lpP_bk, ↓AM.lpP_rt, ↓AM.lpP_xc, ↓AM.Y.ifB_bl, ↓AM.Y.isI_int, ↓AM.Y.isT_tup, ↓AM.Y.isS_some, ↓AM.Y.isSS_some, ↓AM.Y.isO_lst, ↓AM.Y.isO_dct, AM.Y.ifB_bl, AM.Y.isI_int, AM.Y.isT_tup, AM.Y.isS_some, AM.Y.isSS_some, AM.Y.isO_lst, AM.Y.isO_dct, List.getElem?_cons_zero, List.getElem?_cons_succ, List.set_cons_zero, List.set_cons_succ, AM.Y.at0, AM.Y.at1, AM.Y.at2, AM.Y.at3, AM.Y.srcV, AM.Y.enumV, AM.tyOf, AM.tyIs, AM.isiV, AM.Y.isNon_non, AM.Y.isNon_bl, AM.Y.isNon_int, AM.Y.isNon_str, AM.Y.isNon_tup, AM.Y.isNon_rol, AM.Y.isNon_ref, Bool.not_true, Bool.not_false, Bool.true_eq_false, Bool.false_eq_true, ↓reduceIte, decide_true, decide_false, decide_eq_true_eq, Option.map_some, Option.map_none, Option.isSome_some, Option.isSome_none, List.length_cons, List.length_nil, List.isEmpty_cons, List.isEmpty_nil, true_and, and_true, Bool.or_false, Bool.false_or, Bool.or_true, Bool.true_or, Nat.zero_add, Nat.reduceAdd, AM.lim, Nat.reduceLeDiff, List.set, AM.wipeE, AM.Y.xcP, reduceCtorEq, imp_self, implies_true, not_false_eq_true, b1, List.length_map]
          refine wp_q (w_gone (d := 38) b1 (m := q.2.length)) fun v hB z => ?_
          obtain ⟨rfl, fB⟩ := z
          rw [List.take_length]
          have cn : ∀ (Q : Vl → SH → Prop) (X : Nat → Vl → SH → Prop), wp (mtV .count (.ref q.1) [.tup [.str (Str.ofString "line")]] hB) Q X = Q (.int ((tally q.2).1 : Nat)) hB := fun Q X => by
            rw [w_cnt (p := .tuple [.str sL]) (life_dt (fB.get b1)) (.tup (.cons (.str _) .nil)) (life_ok (by omega)) (ok_t1 kL), count_lines]
          simp -implicitDefEqProofs only [↓AM.Y.y_var, ↓AM.Y.y_non, ↓AM.Y.y_bl, ↓AM.Y.y_int, ↓AM.Y.y_str, ↓AM.Y.y_ty, ↓AM.Y.y_tup, ↓AM.Y.y_lst, ↓AM.Y.y_dct0, ↓AM.Y.y_bin, ↓AM.Y.y_neg, ↓AM.Y.y_not, ↓AM.Y.y_and, ↓AM.Y.y_or, ↓AM.Y.y_cmp, ↓AM.Y.y_cmp2, ↓AM.Y.y_isN, ↓AM.Y.y_ntN, ↓AM.Y.y_isB, ↓AM.Y.y_ntB, ↓AM.Y.y_ife, ↓AM.Y.y_call, ↓AM.Y.y_bi, ↓AM.Y.y_mt, ↓AM.Y.y_idx, ↓AM.Y.y_slc, ↓AM.Y.y_lc, ↓AM.Y.y_lrng, ↓AM.Y.y_nil, ↓AM.Y.y_cons, ↓AM.Y.y_none, ↓AM.Y.y_some, ↓AM.Y.y_cnone, ↓AM.Y.y_csome, ↓AM.Y.t_not, ↓AM.Y.t_and, ↓AM.Y.t_or, ↓AM.Y.t_var, ↓AM.Y.t_cmp, ↓AM.Y.t_cmp2, ↓AM.Y.t_isN, ↓AM.Y.t_ntN, ↓AM.Y.t_isB, ↓AM.Y.t_ntB, ↓AM.Y.t_call, ↓AM.Y.t_bi, ↓AM.Y.t_idx, ↓AM.Y.i_seq, ↓AM.Y.i_rng1, ↓AM.Y.i_rng2, ↓AM.Y.i_enum, ↓AM.Y.i_zip, ↓AM.Y.g_nm, ↓AM.Y.g_tup, ↓AM.Y.g_sub, ↓AM.Y.g_nil, ↓AM.Y.g_cons, ↓AM.Y.s_nil', ↓AM.Y.s_cons', ↓AM.Y.s_asg, ↓AM.Y.s_asg2', ↓AM.Y.s_asg3', ↓AM.Y.s_par2', ↓AM.Y.s_par3', ↓AM.Y.s_aug', ↓AM.Y.s_expr', ↓AM.Y.s_ret', ↓AM.Y.s_retN', ↓AM.Y.s_iff', ↓AM.Y.s_for', ↓AM.Y.s_whl', ↓AM.Y.s_pass', ↓AM.Y.s_brk', ↓AM.Y.s_cnt', ↓AM.Y.s_never', ↓AM.Y.truth_bl, ↓AM.Y.truth_non, ↓AM.Y.truth_int, ↓AM.Y.truth_tup, ↓AM.Y.truth_rol, ↓AM.Y.truth_ref, ↓AM.Y.o_add, ↓AM.Y.o_sub, ↓AM.Y.o_mul, ↓AM.Y.o_mod, ↓AM.Y.o_fdv, ↓AM.Y.o_pow, ↓AM.Y.o_addL, ↓AM.Y.c_eq, ↓AM.Y.c_ne, ↓AM.Y.c_lt, ↓AM.Y.c_le, ↓AM.Y.c_gt, ↓AM.Y.c_ge, ↓AM.Y.c_inn, ↓AM.Y.c_nin, ↓AM.Y.has_dct, ↓AM.Y.x_tup, ↓AM.Y.x_rol, ↓AM.Y.x_ref, ↓AM.Y.x_set, ↓AM.Y.x_slcR, ↓AM.Y.x_slcL, ↓AM.Y.b_len_tup, ↓AM.Y.b_len_rol, ↓AM.Y.b_len_ref, ↓AM.Y.b_isi, ↓AM.Y.b_isi2, ↓AM.Y.b_int, ↓AM.Y.b_intb, ↓AM.Y.b_sum, ↓AM.Y.b_max2, ↓AM.Y.b_min2, ↓AM.Y.b_max1, ↓AM.Y.b_min1, ↓AM.Y.b_lst_tup, ↓AM.Y.b_lst_rol, ↓AM.Y.b_lst_ref, ↓AM.Y.b_all, ↓AM.Y.b_any, ↓AM.Y.k_app, ↓AM.Y.k_bits, ↓AM.Y.k_cnt, ↓AM.Y.m_app, ↓AM.Y.m_bits, ↓AM.Y.n_add, ↓AM.Y.n_sub, AM.wp_ok, AM.wp_no, ↓AM.wp_ret, ↓AM.wp_fail, ↓AM.wp_end, ↓AM.thn_nx, ↓AM.thn_rt, ↓AM.thn_bk, ↓AM.thn_ct, ↓AM.thn_xc, ↓AM.endP_nx, ↓AM.endP_rt, ↓AM.endP_xc, ↓AM.lpP_nx, ↓AM.lpP_ct, ↓AM.lpP_bk, ↓AM.lpP_rt, ↓AM.lpP_xc, ↓AM.Y.ifB_bl, ↓AM.Y.isI_int, ↓AM.Y.isT_tup, ↓AM.Y.isS_some, ↓AM.Y.isSS_some, ↓AM.Y.isO_lst, ↓AM.Y.isO_dct, AM.Y.ifB_bl, AM.Y.isI_int, AM.Y.isT_tup, AM.Y.isS_some, AM.Y.isSS_some, AM.Y.isO_lst, AM.Y.isO_dct, List.getElem?_cons_zero, List.getElem?_cons_succ, List.set_cons_zero, List.set_cons_succ, AM.Y.at0, AM.Y.at1, AM.Y.at2, AM.Y.at3, AM.Y.srcV, AM.Y.enumV, AM.tyOf, AM.tyIs, AM.isiV, AM.Y.isNon_non, AM.Y.isNon_bl, AM.Y.isNon_int, AM.Y.isNon_str, AM.Y.isNon_tup, AM.Y.isNon_rol, AM.Y.isNon_ref, Bool.not_true, Bool.not_false, Bool.true_eq_false, Bool.false_eq_true, ↓reduceIte, decide_true, decide_false, decide_eq_true_eq, Option.map_some, Option.map_none, Option.isSome_some, Option.isSome_none, List.length_cons, List.length_nil, List.isEmpty_cons, List.isEmpty_nil, true_and, and_true, Bool.or_false, Bool.false_or, Bool.or_true, Bool.true_or, Nat.zero_add, Nat.reduceAdd, AM.lim, Nat.reduceLeDiff, List.set, AM.wipeE, AM.Y.xcP, reduceCtorEq, imp_self, implies_true, not_false_eq_true, li_ref (fB.get b1), cn]
          refine ⟨by omega, ?_⟩
          have hneed : rngL (((tally q.2).2.2 : Int) + 1) (((tally q.2).1 : Int) + 1 - (((tally q.2).2.2 : Int) + 1)).toNat = need q.2 := rfl
          rw [hneed]
          refine wp_q (w_ring (d := 38) (p := 2) (get_app (fB.get b1) _) b2 (by omega) (by omega)) fun v hC z => ?_
          obtain ⟨z, fC⟩ := z
          have hv := fstV_eq z
          subst hv
          try simp -implicitDefEqProofs only [↓AM.Y.y_var, ↓AM.Y.y_non, ↓AM.Y.y_bl, ↓AM.Y.y_int, ↓AM.Y.y_str, ↓AM.Y.y_ty, ↓AM.Y.y_tup, ↓AM.Y.y_lst, ↓AM.Y.y_dct0, ↓AM.Y.y_bin, ↓AM.Y.y_neg, ↓AM.Y.y_not, ↓AM.Y.y_and, ↓AM.Y.y_or, ↓AM.Y.y_cmp, ↓AM.Y.y_cmp2, ↓AM.Y.y_isN, ↓AM.Y.y_ntN, ↓AM.Y.y_isB, ↓AM.Y.y_ntB, ↓AM.Y.y_ife, ↓AM.Y.y_call, ↓AM.Y.y_bi, ↓AM.Y.y_mt, ↓AM.Y.y_idx, ↓AM.Y.y_slc, ↓AM.Y.y_lc, ↓AM.Y.y_lrng, ↓AM.Y.y_nil, ↓AM.Y.y_cons, ↓AM.Y.y_none, ↓AM.Y.y_some, ↓AM.Y.y_cnone, ↓AM.Y.y_csome, ↓AM.Y.t_not, ↓AM.Y.t_and, ↓AM.Y.t_or, ↓AM.Y.t_var, ↓AM.Y.t_cmp, ↓AM.Y.t_cmp2, ↓AM.Y.t_isN, ↓AM.Y.t_ntN, ↓AM.Y.t_isB, ↓AM.Y.t_ntB, ↓AM.Y.t_call, ↓AM.Y.t_bi, ↓AM.Y.t_idx, ↓AM.Y.i_seq, ↓AM.Y.i_rng1, ↓AM.Y.i_rng2, ↓AM.Y.i_enum, ↓AM.Y.i_zip, ↓AM.Y.g_nm, ↓AM.Y.g_tup, ↓AM.Y.g_sub, ↓AM.Y.g_nil, ↓AM.Y.g_cons, ↓AM.Y.s_nil', ↓AM.Y.s_cons', ↓AM.Y.s_asg, ↓AM.Y.s_asg2', ↓AM.Y.s_asg3', ↓AM.Y.s_par2', ↓AM.Y.s_par3', ↓AM.Y.s_aug', ↓AM.Y.s_expr', ↓AM.Y.s_ret', ↓AM.Y.s_retN', ↓AM.Y.s_iff', ↓AM.Y.s_for', ↓AM.Y.s_whl', ↓AM.Y.s_pass', ↓AM.Y.s_brk', ↓AM.Y.s_cnt', ↓AM.Y.s_never', ↓AM.Y.truth_bl, ↓AM.Y.truth_non, ↓AM.Y.truth_int, ↓AM.Y.truth_tup, ↓AM.Y.truth_rol, ↓AM.Y.truth_ref, ↓AM.Y.o_add, ↓AM.Y.o_sub, ↓AM.Y.o_mul, ↓AM.Y.o_mod, ↓AM.Y.o_fdv, ↓AM.Y.o_pow, ↓AM.Y.o_addL, ↓AM.Y.c_eq, ↓AM.Y.c_ne, ↓AM.Y.c_lt, ↓AM.Y.c_le, ↓AM.Y.c_gt, ↓AM.Y.c_ge, ↓AM.Y.c_inn, ↓AM.Y.c_nin, ↓AM.Y.has_dct, ↓AM.Y.x_tup, ↓AM.Y.x_rol, ↓AM.Y.x_ref, ↓AM.Y.x_set, ↓AM.Y.x_slcR, ↓AM.Y.x_slcL, ↓AM.Y.b_len_tup, ↓AM.Y.b_len_rol, ↓AM.Y.b_len_ref, ↓AM.Y.b_isi, ↓AM.Y.b_isi2, ↓AM.Y.b_int, ↓AM.Y.b_intb, ↓AM.Y.b_sum, ↓AM.Y.b_max2, ↓AM.Y.b_min2, ↓AM.Y.b_max1, ↓AM.Y.b_min1, ↓AM.Y.b_lst_tup, ↓AM.Y.b_lst_rol, ↓AM.Y.b_lst_ref, ↓AM.Y.b_all, ↓AM.Y.b_any, ↓AM.Y.k_app, ↓AM.Y.k_bits, ↓AM.Y.k_cnt, ↓AM.Y.m_app, ↓AM.Y.m_bits, ↓AM.Y.n_add, ↓AM.Y.n_sub, AM.wp_ok, AM.wp_no, ↓AM.wp_ret, ↓AM.wp_fail, ↓AM.wp_end, ↓AM.thn_nx, ↓AM.thn_rt, ↓AM.thn_bk, ↓AM.thn_ct, ↓AM.thn_xc, ↓AM.endP_nx, ↓AM.endP_rt, ↓AM.endP_xc, ↓AM.lpP_nx, ↓AM.lpP_ct, ↓AM.lpP_bk, ↓AM.lpP_rt, ↓AM.lpP_xc, ↓AM.Y.ifB_bl, ↓AM.Y.isI_int, ↓AM.Y.isT_tup, ↓AM.Y.isS_some, ↓AM.Y.isSS_some, ↓AM.Y.isO_lst, ↓AM.Y.isO_dct, AM.Y.ifB_bl, AM.Y.isI_int, AM.Y.isT_tup, AM.Y.isS_some, AM.Y.isSS_some, AM.Y.isO_lst, AM.Y.isO_dct, List.getElem?_cons_zero, List.getElem?_cons_succ, List.set_cons_zero, List.set_cons_succ, AM.Y.at0, AM.Y.at1, AM.Y.at2, AM.Y.at3, AM.Y.srcV, AM.Y.enumV, AM.tyOf, AM.tyIs, AM.isiV, AM.Y.isNon_non, AM.Y.isNon_bl, AM.Y.isNon_int, AM.Y.isNon_str, AM.Y.isNon_tup, AM.Y.isNon_rol, AM.Y.isNon_ref, Bool.not_true, Bool.not_false, Bool.true_eq_false, Bool.false_eq_true, ↓reduceIte, decide_true, decide_false, decide_eq_true_eq, Option.map_some, Option.map_none, Option.isSome_some, Option.isSome_none, List.length_cons, List.length_nil, List.isEmpty_cons, List.isEmpty_nil, true_and, and_true, Bool.or_false, Bool.false_or, Bool.or_true, Bool.true_or, Nat.zero_add, Nat.reduceAdd, AM.lim, Nat.reduceLeDiff, List.set, AM.wipeE, AM.Y.xcP, reduceCtorEq, imp_self, implies_true, not_false_eq_true]
          have fa : Fr [] h (hC ++ [Ob.lst [Vl.ref hB.length, fstV (full q.2 2)]]) := ((fB.trans (Fr.alloc _)).trans fC).trans (Fr.alloc _)
          refine ⟨by omega, f.trans fa, by simp at accl ⊢; omega, (D.fr fa).snoc (.ref get_new (.cons (need_dt (get_app (fC.get get_new) _)) (.cons (fst_dt _) .nil)))⟩
        · obtain ⟨f13, al8, D8⟩ := I
          have t2 : TreS 2 1513 ([noteD l1, noteD l2, noteD l3]) := .cons ((note_tre D1.2.1 D1.2.2).mono (by omega) (by omega)) (.cons ((note_tre D2.2.1 D2.2.2).mono (by omega) (by omega)) (.cons ((note_tre D3.2.1 D3.2.2).mono (by omega) (by omega)) (TreS.nil)))
          try simp -implicitDefEqProofs only [↓AM.Y.y_var, ↓AM.Y.y_non, ↓AM.Y.y_bl, ↓AM.Y.y_int, ↓AM.Y.y_str, ↓AM.Y.y_ty, ↓AM.Y.y_tup, ↓AM.Y.y_lst, ↓AM.Y.y_dct0, ↓AM.Y.y_bin, ↓AM.Y.y_neg, ↓AM.Y.y_not, ↓AM.Y.y_and, ↓AM.Y.y_or, ↓AM.Y.y_cmp, ↓AM.Y.y_cmp2, ↓AM.Y.y_isN, ↓AM.Y.y_ntN, ↓AM.Y.y_isB, ↓AM.Y.y_ntB, ↓AM.Y.y_ife, ↓AM.Y.y_call, ↓AM.Y.y_bi, ↓AM.Y.y_mt, ↓AM.Y.y_idx, ↓AM.Y.y_slc, ↓AM.Y.y_lc, ↓AM.Y.y_lrng, ↓AM.Y.y_nil, ↓AM.Y.y_cons, ↓AM.Y.y_none, ↓AM.Y.y_some, ↓AM.Y.y_cnone, ↓AM.Y.y_csome, ↓AM.Y.t_not, ↓AM.Y.t_and, ↓AM.Y.t_or, ↓AM.Y.t_var, ↓AM.Y.t_cmp, ↓AM.Y.t_cmp2, ↓AM.Y.t_isN, ↓AM.Y.t_ntN, ↓AM.Y.t_isB, ↓AM.Y.t_ntB, ↓AM.Y.t_call, ↓AM.Y.t_bi, ↓AM.Y.t_idx, ↓AM.Y.i_seq, ↓AM.Y.i_rng1, ↓AM.Y.i_rng2, ↓AM.Y.i_enum, ↓AM.Y.i_zip, ↓AM.Y.g_nm, ↓AM.Y.g_tup, ↓AM.Y.g_sub, ↓AM.Y.g_nil, ↓AM.Y.g_cons, ↓AM.Y.s_nil', ↓AM.Y.s_cons', ↓AM.Y.s_asg, ↓AM.Y.s_asg2', ↓AM.Y.s_asg3', ↓AM.Y.s_par2', ↓AM.Y.s_par3', ↓AM.Y.s_aug', ↓AM.Y.s_expr', ↓AM.Y.s_ret', ↓AM.Y.s_retN', ↓AM.Y.s_iff', ↓AM.Y.s_for', ↓AM.Y.s_whl', ↓AM.Y.s_pass', ↓AM.Y.s_brk', ↓AM.Y.s_cnt', ↓AM.Y.s_never', ↓AM.Y.truth_bl, ↓AM.Y.truth_non, ↓AM.Y.truth_int, ↓AM.Y.truth_tup, ↓AM.Y.truth_rol, ↓AM.Y.truth_ref, ↓AM.Y.o_add, ↓AM.Y.o_sub, ↓AM.Y.o_mul, ↓AM.Y.o_mod, ↓AM.Y.o_fdv, ↓AM.Y.o_pow, ↓AM.Y.o_addL, ↓AM.Y.c_eq, ↓AM.Y.c_ne, ↓AM.Y.c_lt, ↓AM.Y.c_le, ↓AM.Y.c_gt, ↓AM.Y.c_ge, ↓AM.Y.c_inn, ↓AM.Y.c_nin, ↓AM.Y.has_dct, ↓AM.Y.x_tup, ↓AM.Y.x_rol, ↓AM.Y.x_ref, ↓AM.Y.x_set, ↓AM.Y.x_slcR, ↓AM.Y.x_slcL, ↓AM.Y.b_len_tup, ↓AM.Y.b_len_rol, ↓AM.Y.b_len_ref, ↓AM.Y.b_isi, ↓AM.Y.b_isi2, ↓AM.Y.b_int, ↓AM.Y.b_intb, ↓AM.Y.b_sum, ↓AM.Y.b_max2, ↓AM.Y.b_min2, ↓AM.Y.b_max1, ↓AM.Y.b_min1, ↓AM.Y.b_lst_tup, ↓AM.Y.b_lst_rol, ↓AM.Y.b_lst_ref, ↓AM.Y.b_all, ↓AM.Y.b_any, ↓AM.Y.k_app, ↓AM.Y.k_bits, ↓AM.Y.k_cnt, ↓AM.Y.m_app, ↓AM.Y.m_bits, ↓AM.Y.n_add, ↓AM.Y.n_sub, AM.wp_ok, AM.wp_no, ↓AM.wp_ret, ↓AM.wp_fail, ↓AM.wp_end, ↓AM.thn_nx, ↓AM.thn_rt, ↓AM.thn_bk, ↓AM.thn_ct, ↓AM.thn_xc, ↓AM.endP_nx, ↓AM.endP_rt, ↓AM.endP_xc, ↓AM.lpP_nx, ↓AM.lpP_ct, ↓AM.lpP_bk, ↓AM.lpP_rt, ↓AM.lpP_xc, ↓AM.Y.ifB_bl, ↓AM.Y.isI_int, ↓AM.Y.isT_tup, ↓AM.Y.isS_some, ↓AM.Y.isSS_some, ↓AM.Y.isO_lst, ↓AM.Y.isO_dct, AM.Y.ifB_bl, AM.Y.isI_int, AM.Y.isT_tup, AM.Y.isS_some, AM.Y.isSS_some, AM.Y.isO_lst, AM.Y.isO_dct, List.getElem?_cons_zero, List.getElem?_cons_succ, List.set_cons_zero, List.set_cons_succ, AM.Y.at0, AM.Y.at1, AM.Y.at2, AM.Y.at3, AM.Y.srcV, AM.Y.enumV, AM.tyOf, AM.tyIs, AM.isiV, AM.Y.isNon_non, AM.Y.isNon_bl, AM.Y.isNon_int, AM.Y.isNon_str, AM.Y.isNon_tup, AM.Y.isNon_rol, AM.Y.isNon_ref, Bool.not_true, Bool.not_false, Bool.true_eq_false, Bool.false_eq_true, ↓reduceIte, decide_true, decide_false, decide_eq_true_eq, Option.map_some, Option.map_none, Option.isSome_some, Option.isSome_none, List.length_cons, List.length_nil, List.isEmpty_cons, List.isEmpty_nil, true_and, and_true, Bool.or_false, Bool.false_or, Bool.or_true, Bool.true_or, Nat.zero_add, Nat.reduceAdd, AM.lim, Nat.reduceLeDiff, List.set, AM.wipeE, AM.Y.xcP, reduceCtorEq, imp_self, implies_true, not_false_eq_true]
          refine wp_q (w_exactT (fns := fns) (g := 16) (n := 3) (m := 1514) (p := .list [noteD l1, noteD l2, noteD l3]) rfl t2.list (by omega) (by omega) (.ref (get_app (f13.get hN7) _) ((D7'.fr f13).fr (Fr.alloc _))) (.ref get_new (D8.fr (Fr.alloc _)))) fun v hG z => ?_
          obtain ⟨rfl, fG⟩ := z
          simp -implicitDefEqProofs only [↓AM.Y.y_var, ↓AM.Y.y_non, ↓AM.Y.y_bl, ↓AM.Y.y_int, ↓AM.Y.y_str, ↓AM.Y.y_ty, ↓AM.Y.y_tup, ↓AM.Y.y_lst, ↓AM.Y.y_dct0, ↓AM.Y.y_bin, ↓AM.Y.y_neg, ↓AM.Y.y_not, ↓AM.Y.y_and, ↓AM.Y.y_or, ↓AM.Y.y_cmp, ↓AM.Y.y_cmp2, ↓AM.Y.y_isN, ↓AM.Y.y_ntN, ↓AM.Y.y_isB, ↓AM.Y.y_ntB, ↓AM.Y.y_ife, ↓AM.Y.y_call, ↓AM.Y.y_bi, ↓AM.Y.y_mt, ↓AM.Y.y_idx, ↓AM.Y.y_slc, ↓AM.Y.y_lc, ↓AM.Y.y_lrng, ↓AM.Y.y_nil, ↓AM.Y.y_cons, ↓AM.Y.y_none, ↓AM.Y.y_some, ↓AM.Y.y_cnone, ↓AM.Y.y_csome, ↓AM.Y.t_not, ↓AM.Y.t_and, ↓AM.Y.t_or, ↓AM.Y.t_var, ↓AM.Y.t_cmp, ↓AM.Y.t_cmp2, ↓AM.Y.t_isN, ↓AM.Y.t_ntN, ↓AM.Y.t_isB, ↓AM.Y.t_ntB, ↓AM.Y.t_call, ↓AM.Y.t_bi, ↓AM.Y.t_idx, ↓AM.Y.i_seq, ↓AM.Y.i_rng1, ↓AM.Y.i_rng2, ↓AM.Y.i_enum, ↓AM.Y.i_zip, ↓AM.Y.g_nm, ↓AM.Y.g_tup, ↓AM.Y.g_sub, ↓AM.Y.g_nil, ↓AM.Y.g_cons, ↓AM.Y.s_nil', ↓AM.Y.s_cons', ↓AM.Y.s_asg, ↓AM.Y.s_asg2', ↓AM.Y.s_asg3', ↓AM.Y.s_par2', ↓AM.Y.s_par3', ↓AM.Y.s_aug', ↓AM.Y.s_expr', ↓AM.Y.s_ret', ↓AM.Y.s_retN', ↓AM.Y.s_iff', ↓AM.Y.s_for', ↓AM.Y.s_whl', ↓AM.Y.s_pass', ↓AM.Y.s_brk', ↓AM.Y.s_cnt', ↓AM.Y.s_never', ↓AM.Y.truth_bl, ↓AM.Y.truth_non, ↓AM.Y.truth_int, ↓AM.Y.truth_tup, ↓AM.Y.truth_rol, ↓AM.Y.truth_ref, ↓AM.Y.o_add, ↓AM.Y.o_sub, ↓AM.Y.o_mul, ↓AM.Y.o_mod, ↓AM.Y.o_fdv, ↓AM.Y.o_pow, ↓AM.Y.o_addL, ↓AM.Y.c_eq, ↓AM.Y.c_ne, ↓AM.Y.c_lt, ↓AM.Y.c_le, ↓AM.Y.c_gt, ↓AM.Y.c_ge, ↓AM.Y.c_inn, ↓AM.Y.c_nin, ↓AM.Y.has_dct, ↓AM.Y.x_tup, ↓AM.Y.x_rol, ↓AM.Y.x_ref, ↓AM.Y.x_set, ↓AM.Y.x_slcR, ↓AM.Y.x_slcL, ↓AM.Y.b_len_tup, ↓AM.Y.b_len_rol, ↓AM.Y.b_len_ref, ↓AM.Y.b_isi, ↓AM.Y.b_isi2, ↓AM.Y.b_int, ↓AM.Y.b_intb, ↓AM.Y.b_sum, ↓AM.Y.b_max2, ↓AM.Y.b_min2, ↓AM.Y.b_max1, ↓AM.Y.b_min1, ↓AM.Y.b_lst_tup, ↓AM.Y.b_lst_rol, ↓AM.Y.b_lst_ref, ↓AM.Y.b_all, ↓AM.Y.b_any, ↓AM.Y.k_app, ↓AM.Y.k_bits, ↓AM.Y.k_cnt, ↓AM.Y.m_app, ↓AM.Y.m_bits, ↓AM.Y.n_add, ↓AM.Y.n_sub, AM.wp_ok, AM.wp_no, ↓AM.wp_ret, ↓AM.wp_fail, ↓AM.wp_end, ↓AM.thn_nx, ↓AM.thn_rt, ↓AM.thn_bk, ↓AM.thn_ct, ↓AM.thn_xc, ↓AM.endP_nx, ↓AM.endP_rt, ↓AM.endP_xc, ↓AM.lpP_nx, ↓AM.lpP_ct, ↓AM.lpP_bk, ↓AM.lpP_rt, ↓AM.lpP_xc, ↓AM.Y.ifB_bl, ↓AM.Y.isI_int, ↓AM.Y.isT_tup, ↓AM.Y.isS_some, ↓AM.Y.isSS_some, ↓AM.Y.isO_lst, ↓AM.Y.isO_dct, AM.Y.ifB_bl, AM.Y.isI_int, AM.Y.isT_tup, AM.Y.isS_some, AM.Y.isSS_some, AM.Y.isO_lst, AM.Y.isO_dct, List.getElem?_cons_zero, List.getElem?_cons_succ, List.set_cons_zero, List.set_cons_succ, AM.Y.at0, AM.Y.at1, AM.Y.at2, AM.Y.at3, AM.Y.srcV, AM.Y.enumV, AM.tyOf, AM.tyIs, AM.isiV, AM.Y.isNon_non, AM.Y.isNon_bl, AM.Y.isNon_int, AM.Y.isNon_str, AM.Y.isNon_tup, AM.Y.isNon_rol, AM.Y.isNon_ref, Bool.not_true, Bool.not_false, Bool.true_eq_false, Bool.false_eq_true, ↓reduceIte, decide_true, decide_false, decide_eq_true_eq, Option.map_some, Option.map_none, Option.isSome_some, Option.isSome_none, List.length_cons, List.length_nil, List.isEmpty_cons, List.isEmpty_nil, true_and, and_true, Bool.or_false, Bool.false_or, Bool.or_true, Bool.true_or, Nat.zero_add, Nat.reduceAdd, AM.lim, Nat.reduceLeDiff, List.set, AM.wipeE, AM.Y.xcP, reduceCtorEq, imp_self, implies_true, not_false_eq_true]
          refine wp_q (w_fits (d := 34) (l := []) (p := 1) get_new good_nil (by decide) (by omega)) fun v hH z => ?_
          obtain ⟨rfl, fH⟩ := z
          try simp -implicitDefEqProofs only [↓AM.Y.y_var, ↓AM.Y.y_non, ↓AM.Y.y_bl, ↓AM.Y.y_int, ↓AM.Y.y_str, ↓AM.Y.y_ty, ↓AM.Y.y_tup, ↓AM.Y.y_lst, ↓AM.Y.y_dct0, ↓AM.Y.y_bin, ↓AM.Y.y_neg, ↓AM.Y.y_not, ↓AM.Y.y_and, ↓AM.Y.y_or, ↓AM.Y.y_cmp, ↓AM.Y.y_cmp2, ↓AM.Y.y_isN, ↓AM.Y.y_ntN, ↓AM.Y.y_isB, ↓AM.Y.y_ntB, ↓AM.Y.y_ife, ↓AM.Y.y_call, ↓AM.Y.y_bi, ↓AM.Y.y_mt, ↓AM.Y.y_idx, ↓AM.Y.y_slc, ↓AM.Y.y_lc, ↓AM.Y.y_lrng, ↓AM.Y.y_nil, ↓AM.Y.y_cons, ↓AM.Y.y_none, ↓AM.Y.y_some, ↓AM.Y.y_cnone, ↓AM.Y.y_csome, ↓AM.Y.t_not, ↓AM.Y.t_and, ↓AM.Y.t_or, ↓AM.Y.t_var, ↓AM.Y.t_cmp, ↓AM.Y.t_cmp2, ↓AM.Y.t_isN, ↓AM.Y.t_ntN, ↓AM.Y.t_isB, ↓AM.Y.t_ntB, ↓AM.Y.t_call, ↓AM.Y.t_bi, ↓AM.Y.t_idx, ↓AM.Y.i_seq, ↓AM.Y.i_rng1, ↓AM.Y.i_rng2, ↓AM.Y.i_enum, ↓AM.Y.i_zip, ↓AM.Y.g_nm, ↓AM.Y.g_tup, ↓AM.Y.g_sub, ↓AM.Y.g_nil, ↓AM.Y.g_cons, ↓AM.Y.s_nil', ↓AM.Y.s_cons', ↓AM.Y.s_asg, ↓AM.Y.s_asg2', ↓AM.Y.s_asg3', ↓AM.Y.s_par2', ↓AM.Y.s_par3', ↓AM.Y.s_aug', ↓AM.Y.s_expr', ↓AM.Y.s_ret', ↓AM.Y.s_retN', ↓AM.Y.s_iff', ↓AM.Y.s_for', ↓AM.Y.s_whl', ↓AM.Y.s_pass', ↓AM.Y.s_brk', ↓AM.Y.s_cnt', ↓AM.Y.s_never', ↓AM.Y.truth_bl, ↓AM.Y.truth_non, ↓AM.Y.truth_int, ↓AM.Y.truth_tup, ↓AM.Y.truth_rol, ↓AM.Y.truth_ref, ↓AM.Y.o_add, ↓AM.Y.o_sub, ↓AM.Y.o_mul, ↓AM.Y.o_mod, ↓AM.Y.o_fdv, ↓AM.Y.o_pow, ↓AM.Y.o_addL, ↓AM.Y.c_eq, ↓AM.Y.c_ne, ↓AM.Y.c_lt, ↓AM.Y.c_le, ↓AM.Y.c_gt, ↓AM.Y.c_ge, ↓AM.Y.c_inn, ↓AM.Y.c_nin, ↓AM.Y.has_dct, ↓AM.Y.x_tup, ↓AM.Y.x_rol, ↓AM.Y.x_ref, ↓AM.Y.x_set, ↓AM.Y.x_slcR, ↓AM.Y.x_slcL, ↓AM.Y.b_len_tup, ↓AM.Y.b_len_rol, ↓AM.Y.b_len_ref, ↓AM.Y.b_isi, ↓AM.Y.b_isi2, ↓AM.Y.b_int, ↓AM.Y.b_intb, ↓AM.Y.b_sum, ↓AM.Y.b_max2, ↓AM.Y.b_min2, ↓AM.Y.b_max1, ↓AM.Y.b_min1, ↓AM.Y.b_lst_tup, ↓AM.Y.b_lst_rol, ↓AM.Y.b_lst_ref, ↓AM.Y.b_all, ↓AM.Y.b_any, ↓AM.Y.k_app, ↓AM.Y.k_bits, ↓AM.Y.k_cnt, ↓AM.Y.m_app, ↓AM.Y.m_bits, ↓AM.Y.n_add, ↓AM.Y.n_sub, AM.wp_ok, AM.wp_no, ↓AM.wp_ret, ↓AM.wp_fail, ↓AM.wp_end, ↓AM.thn_nx, ↓AM.thn_rt, ↓AM.thn_bk, ↓AM.thn_ct, ↓AM.thn_xc, ↓AM.endP_nx, ↓AM.endP_rt, ↓AM.endP_xc, ↓AM.lpP_nx, ↓AM.lpP_ct, ↓AM.lpP_bk, ↓AM.lpP_rt, ↓AM.lpP_xc, ↓AM.Y.ifB_bl, ↓AM.Y.isI_int, ↓AM.Y.isT_tup, ↓AM.Y.isS_some, ↓AM.Y.isSS_some, ↓AM.Y.isO_lst, ↓AM.Y.isO_dct, AM.Y.ifB_bl, AM.Y.isI_int, AM.Y.isT_tup, AM.Y.isS_some, AM.Y.isSS_some, AM.Y.isO_lst, AM.Y.isO_dct, List.getElem?_cons_zero, List.getElem?_cons_succ, List.set_cons_zero, List.set_cons_succ, AM.Y.at0, AM.Y.at1, AM.Y.at2, AM.Y.at3, AM.Y.srcV, AM.Y.enumV, AM.tyOf, AM.tyIs, AM.isiV, AM.Y.isNon_non, AM.Y.isNon_bl, AM.Y.isNon_int, AM.Y.isNon_str, AM.Y.isNon_tup, AM.Y.isNon_rol, AM.Y.isNon_ref, Bool.not_true, Bool.not_false, Bool.true_eq_false, Bool.false_eq_true, ↓reduceIte, decide_true, decide_false, decide_eq_true_eq, Option.map_some, Option.map_none, Option.isSome_some, Option.isSome_none, List.length_cons, List.length_nil, List.isEmpty_cons, List.isEmpty_nil, true_and, and_true, Bool.or_false, Bool.false_or, Bool.or_true, Bool.true_or, Nat.zero_add, Nat.reduceAdd, AM.lim, Nat.reduceLeDiff, List.set, AM.wipeE, AM.Y.xcP, reduceCtorEq, imp_self, implies_true, not_false_eq_true]
          refine wp_q (w_least_places (d := 35) (l := []) get_new good_nil (by decide)) fun v hI z => ?_
          obtain ⟨rfl, fI⟩ := z
          try simp -implicitDefEqProofs only [↓AM.Y.y_var, ↓AM.Y.y_non, ↓AM.Y.y_bl, ↓AM.Y.y_int, ↓AM.Y.y_str, ↓AM.Y.y_ty, ↓AM.Y.y_tup, ↓AM.Y.y_lst, ↓AM.Y.y_dct0, ↓AM.Y.y_bin, ↓AM.Y.y_neg, ↓AM.Y.y_not, ↓AM.Y.y_and, ↓AM.Y.y_or, ↓AM.Y.y_cmp, ↓AM.Y.y_cmp2, ↓AM.Y.y_isN, ↓AM.Y.y_ntN, ↓AM.Y.y_isB, ↓AM.Y.y_ntB, ↓AM.Y.y_ife, ↓AM.Y.y_call, ↓AM.Y.y_bi, ↓AM.Y.y_mt, ↓AM.Y.y_idx, ↓AM.Y.y_slc, ↓AM.Y.y_lc, ↓AM.Y.y_lrng, ↓AM.Y.y_nil, ↓AM.Y.y_cons, ↓AM.Y.y_none, ↓AM.Y.y_some, ↓AM.Y.y_cnone, ↓AM.Y.y_csome, ↓AM.Y.t_not, ↓AM.Y.t_and, ↓AM.Y.t_or, ↓AM.Y.t_var, ↓AM.Y.t_cmp, ↓AM.Y.t_cmp2, ↓AM.Y.t_isN, ↓AM.Y.t_ntN, ↓AM.Y.t_isB, ↓AM.Y.t_ntB, ↓AM.Y.t_call, ↓AM.Y.t_bi, ↓AM.Y.t_idx, ↓AM.Y.i_seq, ↓AM.Y.i_rng1, ↓AM.Y.i_rng2, ↓AM.Y.i_enum, ↓AM.Y.i_zip, ↓AM.Y.g_nm, ↓AM.Y.g_tup, ↓AM.Y.g_sub, ↓AM.Y.g_nil, ↓AM.Y.g_cons, ↓AM.Y.s_nil', ↓AM.Y.s_cons', ↓AM.Y.s_asg, ↓AM.Y.s_asg2', ↓AM.Y.s_asg3', ↓AM.Y.s_par2', ↓AM.Y.s_par3', ↓AM.Y.s_aug', ↓AM.Y.s_expr', ↓AM.Y.s_ret', ↓AM.Y.s_retN', ↓AM.Y.s_iff', ↓AM.Y.s_for', ↓AM.Y.s_whl', ↓AM.Y.s_pass', ↓AM.Y.s_brk', ↓AM.Y.s_cnt', ↓AM.Y.s_never', ↓AM.Y.truth_bl, ↓AM.Y.truth_non, ↓AM.Y.truth_int, ↓AM.Y.truth_tup, ↓AM.Y.truth_rol, ↓AM.Y.truth_ref, ↓AM.Y.o_add, ↓AM.Y.o_sub, ↓AM.Y.o_mul, ↓AM.Y.o_mod, ↓AM.Y.o_fdv, ↓AM.Y.o_pow, ↓AM.Y.o_addL, ↓AM.Y.c_eq, ↓AM.Y.c_ne, ↓AM.Y.c_lt, ↓AM.Y.c_le, ↓AM.Y.c_gt, ↓AM.Y.c_ge, ↓AM.Y.c_inn, ↓AM.Y.c_nin, ↓AM.Y.has_dct, ↓AM.Y.x_tup, ↓AM.Y.x_rol, ↓AM.Y.x_ref, ↓AM.Y.x_set, ↓AM.Y.x_slcR, ↓AM.Y.x_slcL, ↓AM.Y.b_len_tup, ↓AM.Y.b_len_rol, ↓AM.Y.b_len_ref, ↓AM.Y.b_isi, ↓AM.Y.b_isi2, ↓AM.Y.b_int, ↓AM.Y.b_intb, ↓AM.Y.b_sum, ↓AM.Y.b_max2, ↓AM.Y.b_min2, ↓AM.Y.b_max1, ↓AM.Y.b_min1, ↓AM.Y.b_lst_tup, ↓AM.Y.b_lst_rol, ↓AM.Y.b_lst_ref, ↓AM.Y.b_all, ↓AM.Y.b_any, ↓AM.Y.k_app, ↓AM.Y.k_bits, ↓AM.Y.k_cnt, ↓AM.Y.m_app, ↓AM.Y.m_bits, ↓AM.Y.n_add, ↓AM.Y.n_sub, AM.wp_ok, AM.wp_no, ↓AM.wp_ret, ↓AM.wp_fail, ↓AM.wp_end, ↓AM.thn_nx, ↓AM.thn_rt, ↓AM.thn_bk, ↓AM.thn_ct, ↓AM.thn_xc, ↓AM.endP_nx, ↓AM.endP_rt, ↓AM.endP_xc, ↓AM.lpP_nx, ↓AM.lpP_ct, ↓AM.lpP_bk, ↓AM.lpP_rt, ↓AM.lpP_xc, ↓AM.Y.ifB_bl, ↓AM.Y.isI_int, ↓AM.Y.isT_tup, ↓AM.Y.isS_some, ↓AM.Y.isSS_some, ↓AM.Y.isO_lst, ↓AM.Y.isO_dct, AM.Y.ifB_bl, AM.Y.isI_int, AM.Y.isT_tup, AM.Y.isS_some, AM.Y.isSS_some, AM.Y.isO_lst, AM.Y.isO_dct, List.getElem?_cons_zero, List.getElem?_cons_succ, List.set_cons_zero, List.set_cons_succ, AM.Y.at0, AM.Y.at1, AM.Y.at2, AM.Y.at3, AM.Y.srcV, AM.Y.enumV, AM.tyOf, AM.tyIs, AM.isiV, AM.Y.isNon_non, AM.Y.isNon_bl, AM.Y.isNon_int, AM.Y.isNon_str, AM.Y.isNon_tup, AM.Y.isNon_rol, AM.Y.isNon_ref, Bool.not_true, Bool.not_false, Bool.true_eq_false, Bool.false_eq_true, ↓reduceIte, decide_true, decide_false, decide_eq_true_eq, Option.map_some, Option.map_none, Option.isSome_some, Option.isSome_none, List.length_cons, List.length_nil, List.isEmpty_cons, List.isEmpty_nil, true_and, and_true, Bool.or_false, Bool.false_or, Bool.or_true, Bool.true_or, Nat.zero_add, Nat.reduceAdd, AM.lim, Nat.reduceLeDiff, List.set, AM.wipeE, AM.Y.xcP, reduceCtorEq, imp_self, implies_true, not_false_eq_true]
          refine wp_q (w_still (d := 34) (l := []) (m := 0) get_new good_nil (by decide) (by decide)) fun v hJ z => ?_
          obtain ⟨R, rfl, hR, hR1, fJ⟩ := z
          try simp -implicitDefEqProofs only [↓AM.Y.y_var, ↓AM.Y.y_non, ↓AM.Y.y_bl, ↓AM.Y.y_int, ↓AM.Y.y_str, ↓AM.Y.y_ty, ↓AM.Y.y_tup, ↓AM.Y.y_lst, ↓AM.Y.y_dct0, ↓AM.Y.y_bin, ↓AM.Y.y_neg, ↓AM.Y.y_not, ↓AM.Y.y_and, ↓AM.Y.y_or, ↓AM.Y.y_cmp, ↓AM.Y.y_cmp2, ↓AM.Y.y_isN, ↓AM.Y.y_ntN, ↓AM.Y.y_isB, ↓AM.Y.y_ntB, ↓AM.Y.y_ife, ↓AM.Y.y_call, ↓AM.Y.y_bi, ↓AM.Y.y_mt, ↓AM.Y.y_idx, ↓AM.Y.y_slc, ↓AM.Y.y_lc, ↓AM.Y.y_lrng, ↓AM.Y.y_nil, ↓AM.Y.y_cons, ↓AM.Y.y_none, ↓AM.Y.y_some, ↓AM.Y.y_cnone, ↓AM.Y.y_csome, ↓AM.Y.t_not, ↓AM.Y.t_and, ↓AM.Y.t_or, ↓AM.Y.t_var, ↓AM.Y.t_cmp, ↓AM.Y.t_cmp2, ↓AM.Y.t_isN, ↓AM.Y.t_ntN, ↓AM.Y.t_isB, ↓AM.Y.t_ntB, ↓AM.Y.t_call, ↓AM.Y.t_bi, ↓AM.Y.t_idx, ↓AM.Y.i_seq, ↓AM.Y.i_rng1, ↓AM.Y.i_rng2, ↓AM.Y.i_enum, ↓AM.Y.i_zip, ↓AM.Y.g_nm, ↓AM.Y.g_tup, ↓AM.Y.g_sub, ↓AM.Y.g_nil, ↓AM.Y.g_cons, ↓AM.Y.s_nil', ↓AM.Y.s_cons', ↓AM.Y.s_asg, ↓AM.Y.s_asg2', ↓AM.Y.s_asg3', ↓AM.Y.s_par2', ↓AM.Y.s_par3', ↓AM.Y.s_aug', ↓AM.Y.s_expr', ↓AM.Y.s_ret', ↓AM.Y.s_retN', ↓AM.Y.s_iff', ↓AM.Y.s_for', ↓AM.Y.s_whl', ↓AM.Y.s_pass', ↓AM.Y.s_brk', ↓AM.Y.s_cnt', ↓AM.Y.s_never', ↓AM.Y.truth_bl, ↓AM.Y.truth_non, ↓AM.Y.truth_int, ↓AM.Y.truth_tup, ↓AM.Y.truth_rol, ↓AM.Y.truth_ref, ↓AM.Y.o_add, ↓AM.Y.o_sub, ↓AM.Y.o_mul, ↓AM.Y.o_mod, ↓AM.Y.o_fdv, ↓AM.Y.o_pow, ↓AM.Y.o_addL, ↓AM.Y.c_eq, ↓AM.Y.c_ne, ↓AM.Y.c_lt, ↓AM.Y.c_le, ↓AM.Y.c_gt, ↓AM.Y.c_ge, ↓AM.Y.c_inn, ↓AM.Y.c_nin, ↓AM.Y.has_dct, ↓AM.Y.x_tup, ↓AM.Y.x_rol, ↓AM.Y.x_ref, ↓AM.Y.x_set, ↓AM.Y.x_slcR, ↓AM.Y.x_slcL, ↓AM.Y.b_len_tup, ↓AM.Y.b_len_rol, ↓AM.Y.b_len_ref, ↓AM.Y.b_isi, ↓AM.Y.b_isi2, ↓AM.Y.b_int, ↓AM.Y.b_intb, ↓AM.Y.b_sum, ↓AM.Y.b_max2, ↓AM.Y.b_min2, ↓AM.Y.b_max1, ↓AM.Y.b_min1, ↓AM.Y.b_lst_tup, ↓AM.Y.b_lst_rol, ↓AM.Y.b_lst_ref, ↓AM.Y.b_all, ↓AM.Y.b_any, ↓AM.Y.k_app, ↓AM.Y.k_bits, ↓AM.Y.k_cnt, ↓AM.Y.m_app, ↓AM.Y.m_bits, ↓AM.Y.n_add, ↓AM.Y.n_sub, AM.wp_ok, AM.wp_no, ↓AM.wp_ret, ↓AM.wp_fail, ↓AM.wp_end, ↓AM.thn_nx, ↓AM.thn_rt, ↓AM.thn_bk, ↓AM.thn_ct, ↓AM.thn_xc, ↓AM.endP_nx, ↓AM.endP_rt, ↓AM.endP_xc, ↓AM.lpP_nx, ↓AM.lpP_ct, ↓AM.lpP_bk, ↓AM.lpP_rt, ↓AM.lpP_xc, ↓AM.Y.ifB_bl, ↓AM.Y.isI_int, ↓AM.Y.isT_tup, ↓AM.Y.isS_some, ↓AM.Y.isSS_some, ↓AM.Y.isO_lst, ↓AM.Y.isO_dct, AM.Y.ifB_bl, AM.Y.isI_int, AM.Y.isT_tup, AM.Y.isS_some, AM.Y.isSS_some, AM.Y.isO_lst, AM.Y.isO_dct, List.getElem?_cons_zero, List.getElem?_cons_succ, List.set_cons_zero, List.set_cons_succ, AM.Y.at0, AM.Y.at1, AM.Y.at2, AM.Y.at3, AM.Y.srcV, AM.Y.enumV, AM.tyOf, AM.tyIs, AM.isiV, AM.Y.isNon_non, AM.Y.isNon_bl, AM.Y.isNon_int, AM.Y.isNon_str, AM.Y.isNon_tup, AM.Y.isNon_rol, AM.Y.isNon_ref, Bool.not_true, Bool.not_false, Bool.true_eq_false, Bool.false_eq_true, ↓reduceIte, decide_true, decide_false, decide_eq_true_eq, Option.map_some, Option.map_none, Option.isSome_some, Option.isSome_none, List.length_cons, List.length_nil, List.isEmpty_cons, List.isEmpty_nil, true_and, and_true, Bool.or_false, Bool.false_or, Bool.or_true, Bool.true_or, Nat.zero_add, Nat.reduceAdd, AM.lim, Nat.reduceLeDiff, List.set, AM.wipeE, AM.Y.xcP, reduceCtorEq, imp_self, implies_true, not_false_eq_true]
          refine wp_q (w_exactT (fns := fns) (g := 16) (n := 2) (m := 10) (p := .list [.bool true, .int 1, .list []]) rfl ((TreS.list (n := 1) (m := 4) (.cons (tre_bl _) (.cons (tre_int _) (.cons (TreS.list (n := 0) (m := 0) .nil) .nil)))).mono (by omega) (by omega)) (by omega) (by omega) (.ref (get_app (get_app get_new _) _) (.cons (.bl _) (.cons (.int _) (.cons (.ref (get_app (get_app (get_app hR1 _) _) _) .nil) .nil)))) (.ref get_new (.cons (.bl _) (.cons (.int _) (.cons (.ref (get_app get_new _) .nil) .nil))))) fun v hK z => ?_
          obtain ⟨rfl, fK⟩ := z
          try simp -implicitDefEqProofs only [↓AM.Y.y_var, ↓AM.Y.y_non, ↓AM.Y.y_bl, ↓AM.Y.y_int, ↓AM.Y.y_str, ↓AM.Y.y_ty, ↓AM.Y.y_tup, ↓AM.Y.y_lst, ↓AM.Y.y_dct0, ↓AM.Y.y_bin, ↓AM.Y.y_neg, ↓AM.Y.y_not, ↓AM.Y.y_and, ↓AM.Y.y_or, ↓AM.Y.y_cmp, ↓AM.Y.y_cmp2, ↓AM.Y.y_isN, ↓AM.Y.y_ntN, ↓AM.Y.y_isB, ↓AM.Y.y_ntB, ↓AM.Y.y_ife, ↓AM.Y.y_call, ↓AM.Y.y_bi, ↓AM.Y.y_mt, ↓AM.Y.y_idx, ↓AM.Y.y_slc, ↓AM.Y.y_lc, ↓AM.Y.y_lrng, ↓AM.Y.y_nil, ↓AM.Y.y_cons, ↓AM.Y.y_none, ↓AM.Y.y_some, ↓AM.Y.y_cnone, ↓AM.Y.y_csome, ↓AM.Y.t_not, ↓AM.Y.t_and, ↓AM.Y.t_or, ↓AM.Y.t_var, ↓AM.Y.t_cmp, ↓AM.Y.t_cmp2, ↓AM.Y.t_isN, ↓AM.Y.t_ntN, ↓AM.Y.t_isB, ↓AM.Y.t_ntB, ↓AM.Y.t_call, ↓AM.Y.t_bi, ↓AM.Y.t_idx, ↓AM.Y.i_seq, ↓AM.Y.i_rng1, ↓AM.Y.i_rng2, ↓AM.Y.i_enum, ↓AM.Y.i_zip, ↓AM.Y.g_nm, ↓AM.Y.g_tup, ↓AM.Y.g_sub, ↓AM.Y.g_nil, ↓AM.Y.g_cons, ↓AM.Y.s_nil', ↓AM.Y.s_cons', ↓AM.Y.s_asg, ↓AM.Y.s_asg2', ↓AM.Y.s_asg3', ↓AM.Y.s_par2', ↓AM.Y.s_par3', ↓AM.Y.s_aug', ↓AM.Y.s_expr', ↓AM.Y.s_ret', ↓AM.Y.s_retN', ↓AM.Y.s_iff', ↓AM.Y.s_for', ↓AM.Y.s_whl', ↓AM.Y.s_pass', ↓AM.Y.s_brk', ↓AM.Y.s_cnt', ↓AM.Y.s_never', ↓AM.Y.truth_bl, ↓AM.Y.truth_non, ↓AM.Y.truth_int, ↓AM.Y.truth_tup, ↓AM.Y.truth_rol, ↓AM.Y.truth_ref, ↓AM.Y.o_add, ↓AM.Y.o_sub, ↓AM.Y.o_mul, ↓AM.Y.o_mod, ↓AM.Y.o_fdv, ↓AM.Y.o_pow, ↓AM.Y.o_addL, ↓AM.Y.c_eq, ↓AM.Y.c_ne, ↓AM.Y.c_lt, ↓AM.Y.c_le, ↓AM.Y.c_gt, ↓AM.Y.c_ge, ↓AM.Y.c_inn, ↓AM.Y.c_nin, ↓AM.Y.has_dct, ↓AM.Y.x_tup, ↓AM.Y.x_rol, ↓AM.Y.x_ref, ↓AM.Y.x_set, ↓AM.Y.x_slcR, ↓AM.Y.x_slcL, ↓AM.Y.b_len_tup, ↓AM.Y.b_len_rol, ↓AM.Y.b_len_ref, ↓AM.Y.b_isi, ↓AM.Y.b_isi2, ↓AM.Y.b_int, ↓AM.Y.b_intb, ↓AM.Y.b_sum, ↓AM.Y.b_max2, ↓AM.Y.b_min2, ↓AM.Y.b_max1, ↓AM.Y.b_min1, ↓AM.Y.b_lst_tup, ↓AM.Y.b_lst_rol, ↓AM.Y.b_lst_ref, ↓AM.Y.b_all, ↓AM.Y.b_any, ↓AM.Y.k_app, ↓AM.Y.k_bits, ↓AM.Y.k_cnt, ↓AM.Y.m_app, ↓AM.Y.m_bits, ↓AM.Y.n_add, ↓AM.Y.n_sub, AM.wp_ok, AM.wp_no, ↓AM.wp_ret, ↓AM.wp_fail, ↓AM.wp_end, ↓AM.thn_nx, ↓AM.thn_rt, ↓AM.thn_bk, ↓AM.thn_ct, ↓AM.thn_xc, ↓AM.endP_nx, ↓AM.endP_rt, ↓AM.endP_xc, ↓AM.lpP_nx, ↓AM.lpP_ct, ↓AM.lpP_bk, ↓AM.lpP_rt, ↓AM.lpP_xc, ↓AM.Y.ifB_bl, ↓AM.Y.isI_int, ↓AM.Y.isT_tup, ↓AM.Y.isS_some, ↓AM.Y.isSS_some, ↓AM.Y.isO_lst, ↓AM.Y.isO_dct, AM.Y.ifB_bl, AM.Y.isI_int, AM.Y.isT_tup, AM.Y.isS_some, AM.Y.isSS_some, AM.Y.isO_lst, AM.Y.isO_dct, List.getElem?_cons_zero, List.getElem?_cons_succ, List.set_cons_zero, List.set_cons_succ, AM.Y.at0, AM.Y.at1, AM.Y.at2, AM.Y.at3, AM.Y.srcV, AM.Y.enumV, AM.tyOf, AM.tyIs, AM.isiV, AM.Y.isNon_non, AM.Y.isNon_bl, AM.Y.isNon_int, AM.Y.isNon_str, AM.Y.isNon_tup, AM.Y.isNon_rol, AM.Y.isNon_ref, Bool.not_true, Bool.not_false, Bool.true_eq_false, Bool.false_eq_true, ↓reduceIte, decide_true, decide_false, decide_eq_true_eq, Option.map_some, Option.map_none, Option.isSome_some, Option.isSome_none, List.length_cons, List.length_nil, List.isEmpty_cons, List.isEmpty_nil, true_and, and_true, Bool.or_false, Bool.false_or, Bool.or_true, Bool.true_or, Nat.zero_add, Nat.reduceAdd, AM.lim, Nat.reduceLeDiff, List.set, AM.wipeE, AM.Y.xcP, reduceCtorEq, imp_self, implies_true, not_false_eq_true]
end
theorem law_right (ns : List Int) (h : ns.length ≤ 63) : ∃ h', callD fns 100000 40 21 [.rol (ns.map .int)] [] = .ok (.bl true) h' := by
  obtain ⟨v, h', e, rfl⟩ := wp_runv (law_wp (ns := ns))
  exact ⟨h', e⟩
end K37

namespace K37
open PySem PySem.Spec PyProof.Rows L2 AM
def loose0 : List PySem.Str := ["StoreError", "InvalidRun", "InvalidMoment", "InvalidCount", "is_count", "is_life", "check_life", "check_ring", "counted", "check_moment", "given_up", "still_needed", "full_at", "fits", "first_full", "least_for", "least_places", "_law_purse", "_law_mixed", "_law_draw", "_law_exact", "_law_life", "_law_ring_walk", "_law_gone", "_law_life_right"]
abbrev loose : List PySem.Str := loose0
abbrev fa : List He.Fa := (Ds.map fun D => He.Fa.glo D.x) ++ free.map He.Fa.free
abbrev fnD : List He.DefD := Ds.map DD.def_
abbrev R : PySem.W.OpenRow := PySem.W.OpenLaw.row PySem.Challenge.rw_weavestore_k37_whole_lives_of_rings
abbrev hk : PySem.W.Hook := He.hookD 4 fa fnD
def ob (s : PySem.W.SharedT) : He.AlD := He.obsDG 4 fa fnD (HandSHeadRun.getT s)
theorem ob_eq (s : PySem.W.SharedT) : ob s = hk.obs s.abs := He.obsDG_eq (HandSHeadRun.getT_eq s)
theorem run (w : World) : HandSHeadRun.RunEq R (PySem.W.view R.prog [29]) hk ob 2600 loose w := by
  intro os
  kernel_rfl
def pg : Pgm := ⟨fns, 100000⟩
theorem facts {P : Program} {w : World} {K : PySem.W.Frag} {h : Heap} {mg : Str → Option Value} {f : Addr} (X : K.In h) (G : h.Ns mainGlobals mg) (hfa : mg ("law" : Str) = some (.ref f)) (c : He.SaysD fa fnD K) :
    ∃ fd : FuncData, (∀ (s : Shared) (v : Value), BindsTo s fd ⟨[v], []⟩ [("_law_script", v)]) ∧ ∀ base : Heap, FnOk P w K mg base (L2.CX P w) 40 f fd ["_law_script"] (spG pg (fun _ => 0) K 40 21 1) := by
  have gl : ∀ (i : Nat) (D : DD), Ds[i]? = some D → mg D.x = some (.ref (He.ga K D.x)) := fun i D e => He.glo_ok X G (c.fact i (f := .glo D.x) (by
    rw [List.getElem?_append_left (by have := (List.getElem?_eq_some_iff.mp e).1; simpa using this), List.getElem?_map, e]; rfl))
  have fr : ∀ x ∈ free, mg x = none := fun x hx => by
    obtain ⟨i, e⟩ := List.getElem?_of_mem hx
    exact He.free_ok X G (c.fact ((Ds.map fun D => He.Fa.glo D.x).length + i) (f := .free x) (by
      rw [List.getElem?_append_right (by omega), Nat.add_sub_cancel_left, List.getElem?_map, e]; rfl))
  have hF : ∀ (i : Nat) (D : DD), Ds[i]? = some D → ∃ fd, D.fun_ K (He.ga K D.x) fd := fun i D e => c.def_ i (d := D.def_) (by rw [List.getElem?_map, e]; rfl)
  obtain ⟨fd, F⟩ := hF 21 d_law rfl
  have e := hfa.symm.trans (gl 21 d_law rfl)
  cases e
  have b := FunD.bindsA (ps := ["_law_script"]) F fun _ _ _ _ _ _ us hl => match us, hl with | [_], _ => rfl
  exact ⟨fd, fun s v => b s [v] rfl, fun base => pgOk (p := pg) (cl := fun _ => 0) (Ds := Ds) (free := free) rfl oks fr (fun D hm => by
    obtain ⟨i, e⟩ := List.getElem?_of_mem hm
    obtain ⟨fd, F⟩ := hF i D e
    exact ⟨_, fd, gl i D e, F⟩) 40 21 d_law _ fd rfl F⟩
end K37
open PySem PySem.W PySem.Calls PyProof.Rows
theorem PySem.Challenge.cw_weavestore_k37_whole_lives_of_rings_holds : PySem.Challenge.rw_weavestore_k37_whole_lives_of_rings.Holds := by
  w_on; o_law
  refine HandSHeadRun.head_any (r := OpenLaw.row PySem.Challenge.rw_weavestore_k37_whole_lives_of_rings) (q := view (OpenLaw.row PySem.Challenge.rw_weavestore_k37_whole_lives_of_rings).prog [29]) (H := K37.hk) (ob := K37.ob) (M := 2600) (loose := K37.loose) (d := HandSHeadRun.topDef (OpenLaw.row PySem.Challenge.rw_weavestore_k37_whole_lives_of_rings).prog 29) (kwd := []) K37.ob_eq
    (by kernel_rfl) (fun s => by kernel_rfl) K37.run (by kernel_rfl) (by kernel_rfl) (by kernel_rfl) (by rfl) (by first | assumption | decide +kernel) (by decide +kernel) ⟨rfl, rfl, rfl, rfl, rfl, by decide +kernel⟩ ?hw ?hc
  case hw => w_witness2
  case hc =>
    refine AM.walk_ofW (l := PySem.Challenge.rw_weavestore_k37_whole_lives_of_rings) (n := 63) (k := 40) (x := "_law_script") (CX := fun w => L2.CX PySem.Challenge.rw_weavestore_k37_whole_lives_of_rings.prog w) rfl (by decide) (by kernel_rfl) ⟨rfl, by decide, by decide⟩ ?F (fun _ H s e s' z => AM.cx_none z)
    intro w mg fa h Y G hmg0
    obtain ⟨K, KX, c⟩ := Y
    have hmg : mg ("law" : PySem.Str) = some (.ref fa) := by
      have e : (HandSHeadRun.topDef (OpenLaw.row PySem.Challenge.rw_weavestore_k37_whole_lives_of_rings).prog 29).name = ("law" : PySem.Str) := by kernel_rfl
      rw [← e]
      exact hmg0
    obtain ⟨fd, hb, hF⟩ := K37.facts (P := PySem.Challenge.rw_weavestore_k37_whole_lives_of_rings.prog) (w := w) KX G hmg c
    exact ⟨K, fd, _, KX, hb, fun H a ns hl hO hS => AM.sp_start hO hS (Nat.le_trans hl (by decide)) (K37.law_right ns hl) (fun _ => rfl), fun base _ _ => hF base⟩

