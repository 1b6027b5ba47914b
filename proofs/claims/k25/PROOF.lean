import PyProof.Rows.All
import Wide.All
import OpenK.AllK
import Wide.FinOn
import HandS.ForMost
import HandS.HeadHook1
import HandS.Exc
import HandS.Flow
import HandS.IsInst
import HandS.Walk
import HandS.TupAny
import PyProof.StrBlock2
import HandS.TupMul
import HandS.Style
import HandS.Deep
import HandS.TupLe
import HandS.Text
import KE.KEqDict
import HandS.DictEq
import HandS.SortInts
import PyProof.ListStr
import HandS.Conv
import PyProof.StrLawsTight
import KE.GoesNew
import HandS.ExcOwn
import HandS.Codes
import HandS.More
import HandS.Strs
import PyProof.Rows.StrRev
import HandS.SetFor
import HandS.ExcInit
import HandS.ExcField
import HandS.ExcIs
import HandS.TryMany
import KE.KExcInit
import PyProof.InstStoreFacts
import KE.KExcIs
import HandS.Defaults
import HandS.HeadHook2
import HandS.Words
import KE.KStateDown
import HandS.Ends
import HandS.WordsExc
import HandS.Head0
import HandS.Head1
import HandS.Head2
import HandS.HeadEnd
import PySem.Challenge.RW_burstshop_k25_trees_put_in
set_option Elab.async false
set_option linter.all false
set_option maxRecDepth 100000
set_option maxHeartbeats 0
/-! Bs: a small language of data, its compact syntax and its denotation. -/
namespace Bs

/-- plain data -/
inductive D where
  | non | bl (b : Bool) | int (i : Int) | str (s : List Nat) | tup (xs : List D) | lst (xs : List D)
  | dic (kvs : List (D × D)) | obj (c : Nat) (fs : List (Nat × D)) | loc (p : Nat)
deriving Inhabited

/-- what may change: owned by a slot, or standing in the store -/
inductive Ob where
  | lst (xs : List D) | dic (kvs : List (D × D)) | ins (c : Nat) (fs : List (Nat × D))
inductive Sl where
  | un | val (d : D) | own (o : Ob)
abbrev Ga := List Sl
abbrev Sto := Nat → Option Ob
def Sto.put (μ : Sto) (p : Nat) (o : Ob) : Sto := fun q => if q = p then some o else μ q
structure Xc where
  c : Nat
  fs : List (Nat × D)

/-- outcomes -/
inductive R (α : Type) where
  | ok (a : α) (μ : Sto)
  | exc (x : Xc) (γ : Ga) (μ : Sto)
  | fail
  | any (P : Nat → Prop) (k : Nat → R α)
def R.bind {α β : Type} : R α → (α → Sto → R β) → R β
  | .ok a μ, f => f a μ
  | .exc x γ μ, _ => .exc x γ μ
  | .fail, _ => .fail
  | .any P k, f => .any P fun p => (k p).bind f
/-- every outcome is as wanted -/
def R.All {α : Type} : R α → (α → Sto → Prop) → (Xc → Ga → Sto → Prop) → Prop
  | .ok a μ, Q, _ => Q a μ
  | .exc x γ μ, _, W => W x γ μ
  | .fail, _, _ => False
  | .any P k, Q, W => ∀ p, P p → (k p).All Q W
theorem R.All_bind {α β : Type} (r : R α) (f : α → Sto → R β) (Q : β → Sto → Prop) (W : Xc → Ga → Sto → Prop) :
    (r.bind f).All Q W ↔ r.All (fun a μ => (f a μ).All Q W) W := by
  induction r with
  | ok a μ => exact Iff.rfl
  | exc x γ μ => exact Iff.rfl
  | fail => exact Iff.rfl
  | any P k ih => exact forall_congr' fun p => imp_congr_right fun _ => ih p
theorem R.All.mono {α : Type} {r : R α} {Q Q' : α → Sto → Prop} {W W' : Xc → Ga → Sto → Prop} (h : r.All Q W) (hq : ∀ a μ, Q a μ → Q' a μ) (hw : ∀ x γ μ, W x γ μ → W' x γ μ) : r.All Q' W' := by
  induction r with
  | ok a μ => exact hq _ _ h
  | exc x γ μ => exact hw _ _ _ h
  | fail => exact h
  | any P k ih => exact fun p hp => ih p (h p hp)
/-- what raises is out of reach (inside a comprehension) -/
def R.nox {α : Type} : R α → R α
  | .ok a μ => .ok a μ
  | .exc _ _ _ => .fail
  | .fail => .fail
  | .any P k => .any P fun p => (k p).nox
theorem R.All_nox {α : Type} {r : R α} {Q : α → Sto → Prop} {W W' : Xc → Ga → Sto → Prop} (h : r.nox.All Q W) : r.All Q W' := by
  induction r with
  | ok a μ => exact h
  | exc x γ μ => exact h.elim
  | fail => exact h
  | any P k ih => exact fun p hp => ih p (h p hp)
/-- an exception is caught -/
def R.catch {α : Type} (f : Xc → Ga → Sto → R α) : R α → R α
  | .ok a μ => .ok a μ
  | .exc x γ μ => f x γ μ
  | .fail => .fail
  | .any P k => .any P fun p => (k p).catch f
theorem R.All_catch {α : Type} {r : R α} {f : Xc → Ga → Sto → R α} {Q : α → Sto → Prop} {W : Xc → Ga → Sto → Prop} (h : (r.catch f).All Q W) : r.All Q fun x γ μ => (f x γ μ).All Q W := by
  induction r with
  | ok a μ => exact h
  | exc x γ μ => exact h
  | fail => exact h
  | any P k ih => exact fun p hp => ih p (h p hp)
/-- an exception of a callee is seen at the caller's slots -/
def R.back {α : Type} (γ : Ga) : R α → R α
  | .ok a μ => .ok a μ
  | .exc x _ μ => .exc x γ μ
  | .fail => .fail
  | .any P k => .any P fun p => (k p).back γ
def ofO (o : Option D) (μ : Sto) : R D := match o with
  | some d => .ok d μ
  | none => .fail

/-- names of classes, attributes and methods -/
def nmT : List String := ["ShopError", "InvalidCube", "InvalidPoint", "InvalidTable", "InvalidChange", "InvalidCover", "InvalidOrder", "InvalidWord", "InvalidTree", "InvalidPlay", "InvalidRule", "InvalidMachine", "InvalidStanding", "InvalidName", "InvalidNumber", "InvalidCoding", "InvalidTrees", "InvalidParts", "InvalidBurst", "InvalidText", "BadProgram", "UnknownName", "Unsound", "Unlike", "Choke", "Clash", "TwoSenders", "NotAMove", "LimitExceeded", "NothingLeft", "Board", "circuit", "inner", "leaves", "signs", "seen", "state", "arrived", "todo", "turned_lines", "rows", "first_wrong", "check_lines", "whole_arc", "new_signs", "old_signs", "shown", "late_leaves", "look", "note_wrong", "moves", "is_late", "__init__", "move", "standing", "signals", "is_resting", "done", "wrong", "twin", "Desk", "machine", "coding", "trees", "past", "future", "hold", "need_function", "net", "code", "attempt", "judged", "build", "do", "most_functions", "rewrite", "undo", "redo", "__getitem__", "__setitem__", "__contains__", "__iter__", "__len__", "is_right", "trial", "at", "why", "path", "which", "part", "name", "arc", "function", "limit", "word", "Demand", "table", "changes", "steep", "off_list", "__eq__", "__add__", "only", "Search", "sets_to_meet", "best", "found", "open_row", "record", "extend_set", "Machine", "inputs", "outputs", "arcs", "Net", "Table", "text", "n", "sign_at", "points_with", "clear_of_offs", "told", "value", "ons", "offs", "frees", "primes", "refines", "ProgramReader", "stack", "is_next", "take", "names", "begin_node", "sign", "end_node", "read", "LineReader", "lines", "words", "refuse", "next_arc", "whole_machine", "end", "tree", "TreeReader", "gates", "Web", "parts", "begin", "Reaction", "web", "steps", "bad", "arrive", "round", "Word", "zeros", "ones", "__str__", "__or__", "__and__", "__invert__", "cuts"]
def nm (i : Nat) : PySem.Str := PySem.Str.ofString (nmT.getD i "")
/-- the fields that errors have -/
def fldIds : List Nat := [85, 86, 87, 88, 89, 90, 91, 92, 93, 94]
/-! ### syntax -/
inductive Bop where | add | sub | mul | fdiv | mod | pow
deriving DecidableEq
inductive Cm where | eq | ne | lt | le | gt | ge | in_ | nin | is_ | isn
deriving DecidableEq
inductive Bi where | len | abs | max | min | int | str | list | tuple | sum | any | all | sorted
deriving DecidableEq
inductive Mt where | join | count
deriving DecidableEq
inductive Ty where | int | str | bool | tuple | list | dict
deriving DecidableEq
inductive E where
  | var (i : Nat) | ovar (i : Nat) | con (d : D) | glb (g : Nat)
  | bin (o : Bop) (a b : E) | neg (a : E)
  | cmp (o : Cm) (a b : E) | chn (o o' : Cm) (a b c : E)
  | not (a : E) | and (a b : E) | or (a b : E) | ite (c a b : E)
  | tup (es : List E) | lst (es : List E) | new (es : List E) | dsp1 (k v : E) | dsp (kvs : List (E × E))
  | ix (a i : E) | sl (a : E) (lo hi : Option E)
  | call (f : Nat) (es ks : List E) (pm : List Nat) | bi (b : Bi) (es : List E) | mt (m : Mt) (a e : E)
  | isi (a : E) (ts : List Ty)
  | rng1 (a : E) | rng2 (a b : E) | enu (a : E) | zip (a b : E)
  | tidx (g : Nat) (e : E) | rev (a : E) | dsp0 | odic (i : Nat) | rvl (a : E) | kys (a : E) | dcp (a : E) | mrg (a k v : E) | rng3 (a b c : E) | sset (a : E)
  | sto (e : E) | popl (a i : E) | pop0 (a : E) | lop (o : Bop) (a b : E)
  | lc (t : List Nat) (it : E) (c : Option E) (e : E)
  | lc2 (t : List Nat) (it : E) (c : Option E) (t2 : List Nat) (it2 : E) (c2 : Option E) (e : E)
/-- what stands in an except suite -/
inductive HE where
  | con (d : D) | var (i : Nat) | fld (f : Nat) | isx (cs : List Nat) | not (a : HE) | and (a b : HE) | or (a b : HE) | tup (es : List HE)
inductive HS where | asg (i : Nat) (e : HE) | ret (e : HE)
structure Hd where
  cs : List Nat
  nm : Option Nat
  b : List HS
inductive Tg where | nm (i : Nat) | tp (is : List Nat)
inductive S where
  | asg (t : List Nat) (e : E) | aug (i : Nat) (o : Bop) (e : E)
  | own (i : Nat) (e : E)                 -- x = a new list (owned)
  | app (i : Nat) (e : E)                 -- x.append(e), x owned
  | popd (i : Nat)                        -- x.pop(), x owned, the value dropped
  | lset (a i e : E)                      -- o[i] = e, o in the store
  | lapp (a e : E)                        -- o.append(e), o in the store
  | oset (i : Nat) (j e : E)              -- x[j] = e, x owned
  | oagi (i : Nat) (j : E) (o : Bop) (e : E) -- x[j] o= e, x owned
  | oext (i : Nat) (e : E)                -- x += e, x owned
  | ownd (i : Nat)                        -- x = {}, owned
  | dset (i : Nat) (j e : E)              -- x[j] = e, x an owned dict
  | expr (e : E) | ret (e : E) | retn | ite (c : E) (a b : List S)
  | forr (t : List Nat) (it : E) (b : List S) (kill : List Nat)
  | whil (c : E) (b : List S) (kill : List Nat)
  | pass | brk | cont | frz (i : Nat) | raise_
  | rais (c : Nat) (fl : List Nat) (es : List E)
  | try_ (b : List S) (hs : List Hd)
inductive Fl where | nx (γ : Ga) | rt (d : D) | bk (γ : Ga) | ct (γ : Ga)

/-! ### values -/
mutual
/-- == of plain data -/
def eqB : D → D → Bool
  | .non, .non => true
  | .bl a, .bl b => a == b
  | .bl a, .int j => (if a then 1 else 0) == j
  | .int i, .bl b => i == (if b then 1 else 0)
  | .int i, .int j => i == j
  | .str x, .str y => x == y
  | .lst xs, .lst ys => eqBs xs ys
  | .tup xs, .tup ys => eqBs xs ys
  | _, _ => false
def eqBs : List D → List D → Bool
  | [], [] => true
  | x :: xs, y :: ys => eqB x y && eqBs xs ys
  | _, _ => false
end
mutual
/-- plain: no dict, object, place of the store in it; its depth at most n -/
def plain (n : Nat) : D → Bool
  | .non => true | .bl _ => true | .int _ => true | .str _ => true
  | .tup xs => match n with
    | 0 => false
    | n + 1 => plains n xs
  | .lst xs => match n with
    | 0 => false
    | n + 1 => plains n xs
  | _ => false
def plains (n : Nat) : List D → Bool
  | [] => true
  | x :: xs => plain n x && plains n xs
end
def flat : D → Bool
  | .non => true | .bl _ => true | .int _ => true | .str _ => true
  | _ => false
def eqD (a b : D) : Option Bool := if plain 60 a && plain 60 b then some (eqB a b) else none
def inF (x : D) (ys : List D) : Option Bool := if flat x && ys.all flat then some (ys.any fun y => eqB y x) else none
def inD (x : D) (ys : List D) : Option Bool := if (flat x && ys.all flat) || (plain 58 x && plains 58 ys) then some (ys.any fun y => eqB y x) else none
def truth : D → Option Bool
  | .non => some false
  | .bl b => some b
  | .int i => some (i != 0)
  | .str s => some (!s.isEmpty)
  | .tup xs => some (!xs.isEmpty)
  | .lst xs => some (!xs.isEmpty)
  | _ => none
def keyD : D → Option L2.Key
  | .int i => some (.inl i)
  | .str s => some (.inr ⟨s.toArray⟩)
  | _ => none
def small (i : Int) : Bool := decide (-(2 ^ 64) < i) && decide (i < 2 ^ 64)
def binop : Bop → D → D → Option D
  | .add, .int i, .int j => some (.int (i + j))
  | .sub, .int i, .int j => some (.int (i - j))
  | .mul, .int i, .int j => if small i || small j then some (.int (i * j)) else none
  | .fdiv, .int i, .int j => if decide (0 < j) && decide (j < 1073741824) then some (.int (i / j)) else none
  | .mod, .int i, .int j => if decide (0 < j) then some (.int (i % j)) else none
  | .pow, .int i, .int j => if decide (0 ≤ j) && decide (j ≤ 1000) && decide (i.natAbs < 2 ^ 64) then some (.int (i ^ j.toNat)) else none
  | .add, .str s, .str t => if s.length + t.length ≤ 1000000 then some (.str (s ++ t)) else none
  | .add, .lst s, .lst t => if s.length + t.length ≤ 1000000 then some (.lst (s ++ t)) else none
  | .add, .tup s, .tup t => if s.length + t.length ≤ 1000000 then some (.tup (s ++ t)) else none
  | .mul, .tup s, .int n => if (decide (2 ≤ n) && decide (n ≤ 1000)) && (!s.isEmpty && decide (s.length ≤ 1000)) then some (.tup (List.replicate n.toNat s).flatten) else none
  | .mul, .lst s, .int n => if decide (s.length * n.toNat ≤ 1000000) && (decide (-(2 ^ 62) ≤ n) && decide (n < 2 ^ 62)) then some (.lst (List.replicate n.toNat s).flatten) else none
  | .mul, .str s, .int n => if decide (s.length * n.toNat ≤ 1000000) && (decide (-(2 ^ 62) ≤ n) && decide (n < 2 ^ 62)) then some (.str (List.replicate n.toNat s).flatten) else none
  | _, _, _ => none
/-- x o= y, where x cannot change -/
def augB : Bop → D → D → Option D
  | .add, .int i, .int j => some (.int (i + j))
  | .sub, .int i, .int j => some (.int (i - j))
  | .add, .str s, .str t => if s.length + t.length ≤ 1000000 then some (.str (s ++ t)) else none
  | _, _, _ => none
def getD (k : L2.Key) : List (D × D) → Option D
  | [] => none
  | q :: r => if keyD q.1 = some k then some q.2 else getD k r
def keysD : List (D × D) → Option (List L2.Key)
  | [] => some []
  | q :: r => match keyD q.1, keysD r with
    | some k, some ks => some (k :: ks)
    | _, _ => none
/-- d[k] = v -/
def putD (kvs : List (D × D)) (k v : D) : List (D × D) := if kvs.any (fun q => decide (keyD q.1 = keyD k)) then kvs.map (fun q => if keyD q.1 = keyD k then (q.1, v) else q) else kvs ++ [(k, v)]
/-- each key is there, its value the same -/
def hitsB (ls : List (D × D)) : List (D × D) → Bool
  | [] => true
  | q :: r => match keyD q.1 with
    | none => false
    | some k => match getD k ls with
      | none => false
      | some w => eqB q.2 w && hitsB ls r
def valsP (ks : List (D × D)) : Bool := ks.all fun q => (keyD q.1).isSome && plain 55 q.2
def eqDic (ks ls : List (D × D)) : Option Bool := if valsP ks && valsP ls then some ((ks.length == ls.length) && hitsB ls ks) else none
def index : D → D → Option D
  | .dic kvs, y => match keyD y with
    | some k => getD k kvs
    | none => none
  | .str s, .int i => (L2.atI s i).map fun c => .str [c]
  | .tup xs, .int i => L2.atI xs i
  | .lst xs, .int i => L2.atI xs i
  | _, _ => none
def cut {α : Type} (xs : List α) (lo hi : Option Int) : List α := (xs.drop (HT.sIx xs.length 0 lo)).take (HT.sIx xs.length xs.length hi - HT.sIx xs.length 0 lo)
def slice : D → Option Int → Option Int → Option D
  | .str s, lo, hi => some (.str (cut s lo hi))
  | .tup xs, lo, hi => some (.tup (cut xs lo hi))
  | .lst xs, lo, hi => some (.lst (cut xs lo hi))
  | _, _, _ => none
/-- one sign in a text; a flat thing in a list or tuple of flat ones -/
def inX (x : D) : D → Option Bool
  | .lst ys => inD x ys
  | .tup ys => inF x ys
  | .str s => match x with
    | .str [c] => some (s.contains c)
    | _ => none
  | .dic kvs => (keyD x).map fun k => (getD k kvs).isSome
  | _ => none
def ltL : List Nat → List Nat → Bool := fun a b => decide (a < b)
/-- sorted texts -/
def insS (x : List Nat) : List (List Nat) → List (List Nat)
  | [] => [x]
  | y :: r => if ltL y x then y :: insS x r else x :: y :: r
def sortS : List (List Nat) → List (List Nat)
  | [] => []
  | x :: r => insS x (sortS r)
def compare : Cm → D → D → Option D
  | .eq, .dic a, .dic b => (eqDic a b).map .bl
  | .ne, .dic a, .dic b => (eqDic a b).map fun r => .bl !r
  | .eq, a, b => (eqD a b).map .bl
  | .ne, a, b => (eqD a b).map fun r => .bl !r
  | .lt, .int i, .int j => some (.bl (decide (i < j)))
  | .le, .int i, .int j => some (.bl (decide (i ≤ j)))
  | .gt, .int i, .int j => some (.bl (decide (j < i)))
  | .ge, .int i, .int j => some (.bl (decide (j ≤ i)))
  | .lt, .str s, .str t => some (.bl (ltL s t))
  | .le, .str s, .str t => some (.bl (!ltL t s))
  | .gt, .str s, .str t => some (.bl (ltL t s))
  | .ge, .str s, .str t => some (.bl (!ltL s t))
  | .in_, x, y => (inX x y).map .bl
  | .nin, x, y => (inX x y).map fun r => .bl !r
  | .is_, x, .non => some (.bl (match x with | .non => true | _ => false))
  | .isn, x, .non => some (.bl (match x with | .non => false | _ => true))
  | .is_, .bl a, .bl b => some (.bl (decide (a = b)))
  | .isn, .bl a, .bl b => some (.bl (!decide (a = b)))
  | .is_, .non, .bl _ => some (.bl false)
  | _, _, _ => none
def intsD : List D → Option (List Int)
  | [] => some []
  | .int i :: r => (intsD r).map (i :: ·)
  | _ => none
def boolsD : List D → Option (List Bool)
  | [] => some []
  | .bl b :: r => (boolsD r).map (b :: ·)
  | _ => none
def strsD : List D → Option (List (List Nat))
  | [] => some []
  | .str b :: r => (strsD r).map (b :: ·)
  | _ => none
def maxL : List Int → Option Int
  | [] => none
  | i :: r => some (r.foldl (fun a b => if a < b then b else a) i)
def minL : List Int → Option Int
  | [] => none
  | i :: r => some (r.foldl (fun a b => if b < a then b else a) i)
def chars (s : List Nat) : List D := s.map fun c => .str [c]
def insI (x : Int) : List Int → List Int
  | [] => [x]
  | y :: r => if x ≤ y then x :: y :: r else y :: insI x r
def sortI : List Int → List Int
  | [] => []
  | x :: r => insI x (sortI r)
def insU (x : Int) : List Int → List Int
  | [] => [x]
  | y :: r => if x < y then x :: y :: r else if x = y then y :: r else y :: insU x r
/-- sorted, each once -/
def usort : List Int → List Int
  | [] => []
  | x :: r => insU x (usort r)
/-- sorted(set(x)) -/
def ssetD : D → Option D
  | .lst xs => (intsD xs).bind fun is => if decide (is.length ≤ 1000) && decide ((usort is).length < 64) then some (.lst ((usort is).map .int)) else none
  | _ => none
def bi1 : Bi → D → Option D
  | .len, .str s => some (.int s.length)
  | .len, .lst xs => some (.int xs.length)
  | .len, .tup xs => some (.int xs.length)
  | .abs, .int i => some (.int (if i < 0 then -i else i))
  | .max, .lst xs => ((intsD xs).bind maxL).map .int
  | .min, .lst xs => ((intsD xs).bind minL).map .int
  | .int, .int i => some (.int i)
  | .int, .bl b => some (.int (if b then 1 else 0))
  | .list, .lst xs => some (.lst xs)
  | .list, .tup xs => some (.lst xs)
  | .list, .str s => some (.lst (chars s))
  | .tuple, .lst xs => some (.tup xs)
  | .tuple, .tup xs => some (.tup xs)
  | .sum, .lst xs => (intsD xs).map fun is => .int is.sum
  | .any, .lst xs => (boolsD xs).map fun bs => .bl (bs.any id)
  | .all, .lst xs => (boolsD xs).map fun bs => .bl (bs.all id)
  | .sorted, .lst xs => match intsD xs with
    | some is => some (.lst ((sortI is).map .int))
    | none => (strsD xs).bind fun ss => if ss.length < 64 then some (.lst ((sortS ss).map .str)) else none
  | _, _ => none
def bi2 : Bi → D → D → Option D
  | .max, .str s, .str t => some (.str (if ltL s t then t else s))
  | .min, .str s, .str t => some (.str (if ltL t s then t else s))
  | .max, .int i, .int j => some (.int (if j > i then j else i))
  | .min, .int i, .int j => some (.int (if j < i then j else i))
  | _, _, _ => none
def builtin (b : Bi) : List D → Option D
  | [d] => bi1 b d
  | [d, e] => bi2 b d e
  | _ => none
def joinL (sep : List Nat) : List (List Nat) → List Nat
  | [] => []
  | [x] => x
  | x :: r => x ++ (sep ++ joinL sep r)
def one? : List Nat → Option Nat
  | [c] => some c
  | _ => none
def mt1 : Mt → D → D → Option D
  | .join, .str sep, .lst xs => (strsD xs).bind fun ss => if (ss.map List.length).sum + ss.length * sep.length ≤ 1000000 then some (.str (joinL sep ss)) else none
  | .count, .str s, .str t => (one? t).map fun c => .int (s.count c)
  | _, _, _ => none
def isTupO : Option D → Bool
  | some (.tup _) => true
  | _ => false
/-- t.index(x), t of texts -/
def tidxD (o : Option D) (y : D) : Option D := match o, y with
  | some (.tup xs), .str z => (strsD xs).bind fun ss => (ss.findIdx? fun s => decide (s = z)).map fun (j : Nat) => .int j
  | _, _ => none
/-- s[::-1] -/
def revD : D → Option D
  | .str s => some (.str s.reverse)
  | _ => none
/-- xs[::-1], a list -/
def rvlD : D → Option D
  | .lst xs => some (.lst xs.reverse)
  | _ => none
def isStr : D → Bool
  | .str _ => true
  | _ => false
def isTy : D → Ty → Option Bool
  | .non, _ => some false
  | .bl _, .int => some true
  | .bl _, .bool => some true
  | .bl _, _ => some false
  | .int _, .int => some true
  | .int _, _ => some false
  | .str _, .str => some true
  | .str _, _ => some false
  | .tup _, .tuple => some true
  | .tup _, _ => some false
  | .lst _, .list => some true
  | .lst _, _ => some false
  | .dic _, .dict => some true
  | .dic _, _ => some false
  | _, _ => none
def isTys (d : D) : List Ty → Option Bool
  | [] => some false
  | t :: r => match isTy d t with
    | some true => some true
    | some false => isTys d r
    | none => none
/-- what a loop walks -/
def items : D → Option (List D)
  | .lst xs => some xs
  | .tup xs => some xs
  | .str s => some (chars s)
  | _ => none
def enumL (k : Nat) : List D → List D
  | [] => []
  | x :: r => .tup [.int k, x] :: enumL (k + 1) r
def zipL : List D → List D → List D
  | x :: xs, y :: ys => .tup [x, y] :: zipL xs ys
  | _, _ => []
def rangeL (lo hi : Int) : List D := (List.range (hi - lo).toNat).map fun (i : Nat) => .int (lo + i)
def bnd (i : Int) : Bool := decide (-(2 ^ 62) ≤ i) && decide (i < 2 ^ 62)
/-- lo, lo + c, .. -/
def rangeC (lo c : Int) (n : Nat) : List D := (List.range n).map fun (i : Nat) => .int (lo + (i : Nat) * c)
def rgB (i j c : Int) : Bool := decide (c ≠ 0) && decide (c.natAbs < 1073741824) && PySem.Builtin.Range.small i j c && decide (0 ≤ PySem.Builtin.Range.rangeSize i j c)
def rangeD : List D → Option D
  | [.int i, .int j, .int c] => if rgB i j c then some (.lst (rangeC i c (PySem.Builtin.Range.rangeSize i j c).toNat)) else none
  | [.int j] => if bnd j then some (.lst (rangeL 0 j)) else none
  | [.int i, .int j] => if bnd i && bnd j then some (.lst (rangeL i j)) else none
  | _ => none

def arr {α : Type} (pm : List Nat) (xs : List α) : List α := pm.filterMap fun j => xs[j]?
/-! ### the denotation -/
def setT (γ : Ga) : List Nat → D → Option Ga
  | [i], d => some (γ.set i (.val d))
  | is, .tup xs => if is.length = xs.length then some ((is.zip xs).foldl (fun γ (p : Nat × D) => γ.set p.1 (.val p.2)) γ) else none
  | _, _ => none
def wipeG (γ : Ga) : List Nat → Ga
  | [] => γ
  | i :: r => (wipeG γ r).set i .un
/-- the datum of a place that is read -/
def deref (μ : Sto) : D → Option D
  | .loc p => match μ p with
    | some (.lst xs) => some (.lst xs)
    | _ => none
  | d => some d
/-- a place of the store is seen as its list -/
def dr (μ : Sto) : D → D
  | .loc p => match μ p with
    | some (.lst xs) => .lst xs
    | _ => .loc p
  | d => d
def orO (a b : Option D) (μ : Sto) : R D := match a with
  | some d => .ok d μ
  | none => ofO b μ
/-- o.pop(j) -/
def popR (o j : D) (μ : Sto) : R D := match o, j with
  | .loc p, .int j => match μ p with
    | some (.lst xs) => if xs.length ≤ 1000000 then match L2.ixN xs.length j with
        | some n => match xs[n]? with
          | some x => .ok x (μ.put p (.lst (xs.eraseIdx n)))
          | none => .fail
        | none => .fail
      else .fail
    | _ => .fail
  | _, _ => .fail
/-- a place with a list -/
def isL (μ : Sto) : D → Bool
  | .loc p => match μ p with
    | some (.lst _) => true
    | _ => false
  | _ => false
/-- a new list goes to the store -/
def stoR (x : D) (μ : Sto) : R D := match x with
  | .lst xs => .any (fun p => μ p = none) fun p => .ok (.loc p) (μ.put p (.lst xs))
  | _ => .fail
/-- + and * of lists alone -/
def lopD (o : Bop) (x y : D) : Option D := match binop o x y with
  | some (.lst zs) => some (.lst zs)
  | _ => none
/-- o[i] -/
def ixR (x y : D) (μ : Sto) : R D := match deref μ x with
  | some x => ofO (index x y) μ
  | none => .fail
/-- {k: v, ..}, the keys different -/
def dspR (ps : List (D × D)) (μ : Sto) : R D := match keysD ps with
  | some ks => if ks.Nodup then .ok (.dic ps) μ else .fail
  | none => .fail
/-- a comprehension's turns -/
def lcL (f : D → List D → Sto → R (List D)) : List D → List D → Sto → R (List D)
  | [], acc, μ => .ok acc μ
  | x :: r, acc, μ => (f x acc μ).bind fun acc μ => lcL f r acc μ
/-- one more item -/
def addL (acc : List D) (z : D) (μ : Sto) : R (List D) := if acc.length < 1000000 then .ok (acc ++ [z]) μ else .fail
/-- the keys of a dict -/
def keysR (x : D) (μ : Sto) : R D := match x with
  | .dic kvs => .ok (.lst (kvs.map (·.1))) μ
  | _ => .fail
/-- dict(d) -/
def dcpR (x : D) (μ : Sto) : R D := match x with
  | .dic kvs => .ok (.dic kvs) μ
  | _ => .fail
/-- {**a, k: v} -/
def mrgR (x k v : D) (μ : Sto) : R D := match x, keyD k with
  | .dic kvs, some _ => if kvs.length < 1000000 then .ok (.dic (putD kvs k v)) μ else .fail
  | _, _ => .fail
def itemsR (x : D) (μ : Sto) : R (List D) := match items x with
  | some xs => .ok xs μ
  | none => .fail
def setTR (γ : Ga) (t : List Nat) (y : D) (f : Ga → R (List D)) : R (List D) := match setT γ t y with
  | some γ' => f γ'
  | none => .fail
def forL (f : D → Ga → Sto → R Fl) (kill : List Nat) : List D → Ga → Sto → R Fl
  | [], γ, μ => .ok (.nx γ) μ
  | x :: r, γ, μ => (f x γ μ).bind fun fl μ => match fl with
    | .nx γ' => forL f kill r (wipeG γ' kill) μ
    | .ct γ' => forL f kill r (wipeG γ' kill) μ
    | .bk γ' => .ok (.nx (wipeG γ' kill)) μ
    | .rt d => .ok (.rt d) μ
def whileL (c : Ga → Sto → R Bool) (f : Ga → Sto → R Fl) (kill : List Nat) : Nat → Ga → Sto → R Fl
  | 0, _, _ => .fail
  | n + 1, γ, μ => (c γ μ).bind fun b μ => if b then (f γ μ).bind fun fl μ => match fl with
      | .nx γ' => whileL c f kill n (wipeG γ' kill) μ
      | .ct γ' => whileL c f kill n (wipeG γ' kill) μ
      | .bk γ' => .ok (.nx (wipeG γ' kill)) μ
      | .rt d => .ok (.rt d) μ
    else .ok (.nx γ) μ
/-- the classes of errors: each stands under the first one alone -/
def subX (c c' : Nat) : Bool := c == c' || c' == 0
mutual
def heE (x : Xc) (γ : Ga) : HE → Option D
  | .con d => some d
  | .var i => match γ[i]? with
    | some (.val d) => some d
    | _ => none
  | .fld f => x.fs.lookup f
  | .isx cs => some (.bl (cs.any (subX x.c)))
  | .not a => match heE x γ a with
    | some (.bl b) => some (.bl !b)
    | _ => none
  | .and a b => match heE x γ a with
    | some (.bl true) => heE x γ b
    | some (.bl false) => some (.bl false)
    | _ => none
  | .or a b => match heE x γ a with
    | some (.bl true) => some (.bl true)
    | some (.bl false) => heE x γ b
    | _ => none
  | .tup es => (heEs x γ es).map .tup
def heEs (x : Xc) (γ : Ga) : List HE → Option (List D)
  | [] => some []
  | e :: es => match heE x γ e, heEs x γ es with
    | some d, some ds => some (d :: ds)
    | _, _ => none
end
def heSs (x : Xc) (μ : Sto) : List HS → Ga → R Fl
  | [], γ => .ok (.nx γ) μ
  | .asg i e :: r, γ => match heE x γ e with
    | some d => heSs x μ r (γ.set i (.val d))
    | none => .fail
  | .ret e :: _, γ => match heE x γ e with
    | some d => .ok (.rt d) μ
    | none => .fail
def dropN (nm : Option Nat) (γ : Ga) : Ga := match nm with
  | some i => γ.set i .un
  | none => γ
def inJ (nm : Option Nat) (γ : Ga) : Bool := match nm with
  | some i => decide (i < γ.length)
  | none => true
def endH (nm : Option Nat) (fl : Fl) (μ : Sto) : R Fl := match fl with
  | .nx γ => .ok (.nx (dropN nm γ)) μ
  | .rt d => .ok (.rt d) μ
  | _ => .fail
def hdl (x : Xc) (γ : Ga) (μ : Sto) : List Hd → R Fl
  | [] => .exc x γ μ
  | h :: r => if h.cs.any (subX x.c) then (if inJ h.nm γ then (heSs x μ h.b (dropN h.nm γ)).bind (endH h.nm) else .fail) else hdl x γ μ r
/-- x[y] = v, x owned -/
def osetR (γ : Ga) (i : Nat) (xs : List D) (x y : D) (μ : Sto) : R Fl := match y with
  | .int k => match L2.ixN xs.length k with
    | some n => .ok (.nx (γ.set i (.own (.lst (xs.set n x))))) μ
    | none => .fail
  | _ => .fail
/-- the place that an index names, and what stands there -/
def ixD (xs : List D) (y : D) : Option (Nat × D) := match y with
  | .int k => match L2.ixN xs.length k with
    | some n => match xs[n]? with
      | some w => some (n, w)
      | none => none
    | none => none
  | _ => none
def truthR (d : D) (μ : Sto) : R Bool := match truth d with
  | some b => .ok b μ
  | none => .fail
def intR (x : D) (μ : Sto) : R (Option Int) := match x with
  | .int i => .ok (some i) μ
  | _ => .fail

section
variable (gl : Nat → Option D) (cl : Nat → List D → Sto → R D)
mutual
def denE : E → Ga → Sto → R D
  | .var i, γ, μ => match γ[i]? with
    | some (.val d) => .ok d μ
    | _ => .fail
  | .ovar i, γ, μ => match γ[i]? with
    | some (.own (.lst xs)) => .ok (.lst xs) μ
    | _ => .fail
  | .odic i, γ, μ => match γ[i]? with
    | some (.own (.dic kvs)) => .ok (.dic kvs) μ
    | _ => .fail
  | .con d, _, μ => .ok d μ
  | .glb g, _, μ => ofO (gl g) μ
  | .bin o a b, γ, μ => (denE a γ μ).bind fun x μ => (denE b γ μ).bind fun y μ => orO (binop o x y) (binop o (dr μ x) (dr μ y)) μ
  | .lop o a b, γ, μ => (denE a γ μ).bind fun x μ => (denE b γ μ).bind fun y μ => orO (lopD o x y) (lopD o (dr μ x) (dr μ y)) μ
  | .sto e, γ, μ => (denE e γ μ).bind stoR
  | .popl a i, γ, μ => (denE a γ μ).bind fun x μ => if isL μ x then (denE i γ μ).bind fun y μ => popR x y μ else .fail
  | .pop0 a, γ, μ => (denE a γ μ).bind fun x μ => popR x (.int (-1)) μ
  | .neg a, γ, μ => (denE a γ μ).bind fun x μ => match x with
    | .int i => .ok (.int (-i)) μ
    | _ => .fail
  | .cmp o a b, γ, μ => (denE a γ μ).bind fun x μ => (denE b γ μ).bind fun y μ => orO (compare o x y) (compare o (dr μ x) (dr μ y)) μ
  | .chn o o' a b c, γ, μ => (denE a γ μ).bind fun x μ => (denE b γ μ).bind fun y μ => match compare o x y with
    | some (.bl true) => (denE c γ μ).bind fun z μ => ofO (compare o' y z) μ
    | some (.bl false) => .ok (.bl false) μ
    | _ => .fail
  | .not a, γ, μ => (denE a γ μ).bind fun x μ => (truthR x μ).bind fun b μ => .ok (.bl !b) μ
  | .and a b, γ, μ => (denE a γ μ).bind fun x μ => (truthR x μ).bind fun t μ => if t then denE b γ μ else .ok x μ
  | .or a b, γ, μ => (denE a γ μ).bind fun x μ => (truthR x μ).bind fun t μ => if t then .ok x μ else denE b γ μ
  | .ite c a b, γ, μ => (denE c γ μ).bind fun x μ => (truthR x μ).bind fun t μ => if t then denE a γ μ else denE b γ μ
  | .tup es, γ, μ => (denEs es γ μ).bind fun xs μ => .ok (.tup xs) μ
  | .lst es, γ, μ => (denEs es γ μ).bind fun xs μ => .ok (.lst xs) μ
  | .new es, γ, μ => (denEs es γ μ).bind fun xs μ => .any (fun p => μ p = none) fun p => .ok (.loc p) (μ.put p (.lst xs))
  | .dsp1 k v, γ, μ => (denE k γ μ).bind fun x μ => (denE v γ μ).bind fun y μ => match keyD x with
    | some _ => .ok (.dic [(x, y)]) μ
    | none => .fail
  | .dsp kvs, γ, μ => (denPs kvs γ μ).bind dspR
  | .ix a i, γ, μ => (denE a γ μ).bind fun x μ => (denE i γ μ).bind fun y μ => ixR x y μ
  | .sl a lo hi, γ, μ => (denE a γ μ).bind fun x μ => (denO lo γ μ).bind fun l μ => (denO hi γ μ).bind fun h μ => orO (slice x l h) (slice (dr μ x) l h) μ
  | .call f es ks pm, γ, μ => (denEs es γ μ).bind fun xs μ => (denEs ks γ μ).bind fun ys μ => (cl f (arr pm (xs ++ ys)) μ).back γ
  | .bi b es, γ, μ => (denEs es γ μ).bind fun xs μ => orO (builtin b xs) (builtin b (xs.map (dr μ))) μ
  | .mt m a e, γ, μ => (denE a γ μ).bind fun x μ => if isStr x then (denE e γ μ).bind fun y μ => ofO (mt1 m x y) μ else .fail
  | .dsp0, _, μ => .ok (.dic []) μ
  | .rvl a, γ, μ => (denE a γ μ).bind fun x μ => orO (rvlD x) (rvlD (dr μ x)) μ
  | .kys a, γ, μ => (denE a γ μ).bind keysR
  | .dcp a, γ, μ => (denE a γ μ).bind dcpR
  | .mrg a k v, γ, μ => (denE a γ μ).bind fun x μ => (denE k γ μ).bind fun y μ => (denE v γ μ).bind fun z μ => mrgR x y z μ
  | .rng3 a b c, γ, μ => (denE a γ μ).bind fun x μ => (denE b γ μ).bind fun y μ => (denE c γ μ).bind fun z μ => ofO (rangeD [x, y, z]) μ
  | .sset a, γ, μ => (denE a γ μ).bind fun x μ => orO (ssetD x) (ssetD (dr μ x)) μ
  | .tidx g e, γ, μ => if isTupO (gl g) then (denE e γ μ).bind fun y μ => ofO (tidxD (gl g) y) μ else .fail
  | .rev a, γ, μ => (denE a γ μ).bind fun x μ => ofO (revD x) μ
  | .isi a ts, γ, μ => (denE a γ μ).bind fun x μ => orO ((isTys x ts).map .bl) ((isTys (dr μ x) ts).map .bl) μ
  | .rng1 a, γ, μ => (denE a γ μ).bind fun x μ => ofO (rangeD [x]) μ
  | .rng2 a b, γ, μ => (denE a γ μ).bind fun x μ => (denE b γ μ).bind fun y μ => ofO (rangeD [x, y]) μ
  | .enu a, γ, μ => (denE a γ μ).bind fun x μ => ofO ((items x).map fun xs => .lst (enumL 0 xs)) μ
  | .zip a b, γ, μ => (denE a γ μ).bind fun x μ => (denE b γ μ).bind fun y μ => match items x, items y with
    | some xs, some ys => .ok (.lst (zipL xs ys)) μ
    | _, _ => .fail
  | .lc t it c e, γ, μ => ((denE it γ μ).bind itemsR).bind fun xs μ =>
    (lcL (fun y acc μ => setTR (wipeG γ t) t y fun γ' => (denC c γ' μ).bind fun b μ => if b then (denE e γ' μ).bind fun z μ => addL acc z μ else .ok acc μ) xs [] μ).nox.bind fun zs μ => .ok (.lst zs) μ
  | .lc2 t it c t2 it2 c2 e, γ, μ => ((denE it γ μ).bind itemsR).bind fun xs μ =>
    (lcL (fun y acc μ => setTR (wipeG γ (t ++ t2)) t y fun γ' => (denC c γ' μ).bind fun b μ => if b then ((denE it2 γ' μ).bind itemsR).bind fun xs2 μ =>
      lcL (fun y2 acc μ => setTR (wipeG γ' t2) t2 y2 fun γ2 => (denC c2 γ2 μ).bind fun b μ => if b then (denE e γ2 μ).bind fun z μ => addL acc z μ else .ok acc μ) xs2 acc μ
      else .ok acc μ) xs [] μ).nox.bind fun zs μ => .ok (.lst zs) μ
def denO : Option E → Ga → Sto → R (Option Int)
  | none, _, μ => .ok none μ
  | some e, γ, μ => (denE e γ μ).bind intR
def denC : Option E → Ga → Sto → R Bool
  | none, _, μ => .ok true μ
  | some e, γ, μ => (denE e γ μ).bind fun x μ => truthR x μ
def denPs : List (E × E) → Ga → Sto → R (List (D × D))
  | [], _, μ => .ok [] μ
  | q :: r, γ, μ => (denP q γ μ).bind fun p μ => (denPs r γ μ).bind fun ps μ => .ok (p :: ps) μ
def denP : E × E → Ga → Sto → R (D × D)
  | (a, b), γ, μ => (denE a γ μ).bind fun x μ => (denE b γ μ).bind fun y μ => .ok (x, y) μ
def denEs : List E → Ga → Sto → R (List D)
  | [], _, μ => .ok [] μ
  | e :: es, γ, μ => (denE e γ μ).bind fun x μ => (denEs es γ μ).bind fun xs μ => .ok (x :: xs) μ
end
def condR (c : E) (γ : Ga) (μ : Sto) : R Bool := (denE gl cl c γ μ).bind fun x μ => truthR x μ
mutual
def denS : S → Ga → Sto → R Fl
  | .asg t e, γ, μ => (denE gl cl e γ μ).bind fun x μ => match setT γ t x with
    | some γ' => .ok (.nx γ') μ
    | none => .fail
  | .aug i o e, γ, μ => match γ[i]? with
    | some (.val x) => (denE gl cl e γ μ).bind fun y μ => match augB o x y with
      | some z => .ok (.nx (γ.set i (.val z))) μ
      | none => .fail
    | _ => .fail
  | .own i e, γ, μ => (denE gl cl e γ μ).bind fun x μ => match x with
    | .lst xs => .ok (.nx (γ.set i (.own (.lst xs)))) μ
    | _ => .fail
  | .app i e, γ, μ => match γ[i]? with
    | some (.own (.lst xs)) => (denE gl cl e γ μ).bind fun x μ => if xs.length < 1000000 then .ok (.nx (γ.set i (.own (.lst (xs ++ [x]))))) μ else .fail
    | _ => .fail
  | .popd i, γ, μ => match γ[i]? with
    | some (.own (.lst xs)) => if xs.isEmpty then .fail else .ok (.nx (γ.set i (.own (.lst xs.dropLast)))) μ
    | _ => .fail
  | .lset a i e, γ, μ => (denE gl cl e γ μ).bind fun x μ => (denE gl cl a γ μ).bind fun o μ => (denE gl cl i γ μ).bind fun j μ => match o, j with
    | .loc p, .int j => match μ p with
      | some (.lst xs) => match L2.ixN xs.length j with
        | some n => .ok (.nx γ) (μ.put p (.lst (xs.set n x)))
        | none => .fail
      | _ => .fail
    | _, _ => .fail
  | .lapp a e, γ, μ => (denE gl cl a γ μ).bind fun o μ => if isL μ o then (denE gl cl e γ μ).bind fun x μ => match o with
      | .loc p => match μ p with
        | some (.lst xs) => if xs.length < 1000000 then .ok (.nx γ) (μ.put p (.lst (xs ++ [x]))) else .fail
        | _ => .fail
      | _ => .fail
    else .fail
  | .oset i j e, γ, μ => match γ[i]? with
    | some (.own (.lst xs)) => (denE gl cl e γ μ).bind fun x μ => (denE gl cl j γ μ).bind fun y μ => osetR γ i xs x y μ
    | _ => .fail
  | .oagi i j o e, γ, μ => match γ[i]? with
    | some (.own (.lst xs)) => (denE gl cl j γ μ).bind fun y μ => match ixD xs y with
      | some (n, w) => (denE gl cl e γ μ).bind fun x μ => match augB o w x with
        | some z => .ok (.nx (γ.set i (.own (.lst (xs.set n z))))) μ
        | none => .fail
      | none => .fail
    | _ => .fail
  | .oext i e, γ, μ => match γ[i]? with
    | some (.own (.lst xs)) => (denE gl cl e γ μ).bind fun x μ => match x with
      | .lst ys => if xs.length + ys.length ≤ 1000000 then .ok (.nx (γ.set i (.own (.lst (xs ++ ys))))) μ else .fail
      | _ => .fail
    | _ => .fail
  | .ownd i, γ, μ => .ok (.nx (γ.set i (.own (.dic [])))) μ
  | .dset i j e, γ, μ => match γ[i]? with
    | some (.own (.dic kvs)) => (denE gl cl e γ μ).bind fun x μ => (denE gl cl j γ μ).bind fun y μ => match keyD y with
      | some _ => if kvs.length < 1000000 then .ok (.nx (γ.set i (.own (.dic (putD kvs y x))))) μ else .fail
      | none => .fail
    | _ => .fail
  | .expr e, γ, μ => (denE gl cl e γ μ).bind fun _ μ => .ok (.nx γ) μ
  | .ret e, γ, μ => (denE gl cl e γ μ).bind fun x μ => .ok (.rt x) μ
  | .retn, γ, μ => .ok (.rt .non) μ
  | .ite c a b, γ, μ => (condR gl cl c γ μ).bind fun t μ => if t then denSs a γ μ else denSs b γ μ
  | .forr t it b kill, γ, μ => ((denE gl cl it γ μ).bind itemsR).bind fun xs μ => forL (fun y γ μ => match setT γ t y with
      | some γ' => denSs b γ' μ
      | none => .fail) kill xs γ μ
  | .whil c b kill, γ, μ => whileL (condR gl cl c) (fun γ μ => denSs b γ μ) kill 100000 γ μ
  | .pass, γ, μ => .ok (.nx γ) μ
  | .brk, γ, μ => .ok (.bk γ) μ
  | .cont, γ, μ => .ok (.ct γ) μ
  | .frz i, γ, μ => match γ[i]? with
    | some (.own (.lst xs)) => .ok (.nx (γ.set i (.val (.lst xs)))) μ
    | some (.own (.dic kvs)) => .ok (.nx (γ.set i (.val (.dic kvs)))) μ
    | _ => .ok (.nx γ) μ
  | .raise_, _, _ => .fail
  | .rais c fl es, γ, μ => (denEs gl cl es γ μ).bind fun ds μ => if ds.length = fl.length then .exc ⟨c, (fl.zip ds).reverse⟩ γ μ else .fail
  | .try_ b hs, γ, μ => (denSs b γ μ).catch fun x γ' μ' => hdl x γ' μ' hs
def denSs : List S → Ga → Sto → R Fl
  | [], γ, μ => .ok (.nx γ) μ
  | s :: r, γ, μ => (denS s γ μ).bind fun fl μ => match fl with
    | .nx γ' => denSs r γ' μ
    | _ => .ok fl μ
end
end

/-! ### the same, sealed: what plain proofs see -/
section
variable (gl : Nat → Option D) (cl : Nat → List D → Sto → R D)
@[irreducible] def xE (e : E) (γ : Ga) (μ : Sto) : R D := denE gl cl e γ μ
@[irreducible] def xEs (e : List E) (γ : Ga) (μ : Sto) : R (List D) := denEs gl cl e γ μ
@[irreducible] def xO (e : Option E) (γ : Ga) (μ : Sto) : R (Option Int) := denO gl cl e γ μ
@[irreducible] def xC (e : Option E) (γ : Ga) (μ : Sto) : R Bool := denC gl cl e γ μ
@[irreducible] def xPs (e : List (E × E)) (γ : Ga) (μ : Sto) : R (List (D × D)) := denPs gl cl e γ μ
@[irreducible] def xS (e : S) (γ : Ga) (μ : Sto) : R Fl := denS gl cl e γ μ
@[irreducible] def xSs (e : List S) (γ : Ga) (μ : Sto) : R Fl := denSs gl cl e γ μ
end
/-- a def -/
structure Fn where
  np : Nat
  ns : Nat
  fr : Bool
  body : List S
def initG (F : Fn) (ds : List D) : Ga := ds.map .val ++ List.replicate (F.ns - ds.length) .un
def outF (fr : Bool) (fl : Fl) (μ : Sto) : R D := match fl with
  | .nx _ => if fr then .fail else .ok .non μ
  | .rt d => .ok d μ
  | _ => .fail
def call (gl : Nat → Option D) (fns : List Fn) : Nat → Nat → List D → Sto → R D
  | 0, _, _, _ => .fail
  | k + 1, f, ds, μ => match fns[f]? with
    | some F => if ds.length = F.np then (xSs gl (call gl fns k) F.body (initG F ds) μ).bind (outF F.fr) else .fail
    | none => .fail
end Bs
/-! Bs: how data stands in the heap. -/
namespace Bs
open PySem L2
abbrev Sa := Addr → Prop
/-- a key's text may stand -/
def okK : D → Prop
  | .str s => s.length ≤ 1000000 ∧ ∀ c ∈ s, c < 128
  | _ => True
def strV (s : List Nat) : V := .str ⟨s.toArray⟩
def KLs (K : PySem.W.Frag) (a : Addr) (xs : List V) : Prop := ∃ (o : Obj) (its : Array Value) (n : Nat), K.lookup a = some o ∧ o.cls = .type "list" ∧ o.dict = none ∧ o.data = .seq its n ∧ its.size ≤ sizeLine ∧ Vals xs its.toList
def KTs (K : PySem.W.Frag) (a : Addr) (xs : List V) : Prop := ∃ (o : Obj) (its : Array Value) (n : Nat), K.lookup a = some o ∧ o.cls = .type "tuple" ∧ o.data = .seq its n ∧ its.size ≤ sizeLine ∧ Vals xs its.toList ∧ o.dict = none
def LsR (K : PySem.W.Frag) (T : Sa) (H : Hp) (a : Addr) (xs : List V) : Prop := (Rd H a (.lst xs) ∧ ¬ T a) ∨ KLs K a xs
def TpR (K : PySem.W.Frag) (T : Sa) (H : Hp) (a : Addr) (xs : List V) : Prop := (Rd H a (.tup xs) ∧ ¬ T a) ∨ KTs K a xs
section
variable (K : PySem.W.Frag) (S : Sa) (H : Hp)
mutual
def Rel : D → V → Prop
  | .non, v => v = .non
  | .bl b, v => v = .bl b
  | .int i, v => v = .int i
  | .str s, v => v = strV s ∧ s.length ≤ 1000000 ∧ ∀ c ∈ s, c < 128
  | .tup xs, v => ∃ a vs, v = .ref a ∧ TpR K S H a vs ∧ Rels xs vs
  | .lst xs, v => ∃ a vs, v = .ref a ∧ LsR K S H a vs ∧ Rels xs vs
  | .dic kvs, v => ∃ a ps, v = .ref a ∧ (∃ od, H a = some (.frz od (.dK ps))) ∧ ¬ S a ∧ RelP kvs ps
  | .obj _ _, _ => False
  | .loc p, v => v = .ref p
def Rels : List D → List V → Prop
  | [], vs => vs = []
  | d :: r, vs => ∃ v ws, vs = v :: ws ∧ Rel d v ∧ Rels r ws
def RelP : List (D × D) → List (Key × V) → Prop
  | [], ps => ps = []
  | q :: r, ps => ∃ k v qs, ps = (k, v) :: qs ∧ RelQ q k v ∧ RelP r qs
def RelQ : D × D → Key → V → Prop
  | (d, e), k, v => keyD d = some k ∧ okK d ∧ Rel e v
end
end
/-- the top may be one that is owned -/
def RelW (K : PySem.W.Frag) (T S : Sa) (H : Hp) : D → V → Prop
  | .lst xs, v => ∃ a vs, v = .ref a ∧ LsR K T H a vs ∧ Rels K S H xs vs
  | .dic kvs, v => ∃ a ps, v = .ref a ∧ Rd H a (.dK ps) ∧ ¬ T a ∧ RelP K S H kvs ps
  | d, v => Rel K S H d v
def Rl (K : PySem.W.Frag) : Bool → Sa → Sa → Hp → D → V → Prop
  | true, _, S, H, d, v => Rel K S H d v
  | false, T, S, H, d, v => RelW K T S H d v

section
variable {K : PySem.W.Frag} {S S' T T' : Sa} {H H' : Hp}
theorem LsR.sq {a : Addr} {xs : List V} (h : LsR K T H a xs) : SqL K H a xs := by
  rcases h with h | h
  · exact .inl h.1
  · exact .inr h
theorem TpR.sq {a : Addr} {xs : List V} (h : TpR K T H a xs) : SqT K H a xs := by
  rcases h with h | ⟨o, its, n, h1, h2, h3, h4, h5, _⟩
  · exact .inl h.1
  · exact .inr ⟨o, its, n, h1, h2, h3, h4, h5⟩
/-- what is kept from H to H' -/
structure Kp (S S' : Sa) (H H' : Hp) : Prop where
  keep : ∀ a o, H a = some o → ¬ S a → H' a = some o
  sub : ∀ a, S' a → S a ∨ H a = none
theorem Kp.rd {a : Addr} {u : HO} (k : Kp S S' H H') (h : Rd H a u) (n : ¬ S a) : Rd H' a u ∧ ¬ S' a := by
  rcases h with h | ⟨o, h⟩
  · exact ⟨.inl (k.keep a _ h n), fun z => (k.sub a z).elim n fun e => by rw [e] at h; cases h⟩
  · exact ⟨.inr ⟨o, k.keep a _ h n⟩, fun z => (k.sub a z).elim n fun e => by rw [e] at h; cases h⟩
theorem Kp.ls {a : Addr} {xs : List V} (k : Kp S S' H H') (h : LsR K S H a xs) : LsR K S' H' a xs := by
  rcases h with h | h
  · exact .inl (k.rd h.1 h.2)
  · exact .inr h
theorem Kp.tp {a : Addr} {xs : List V} (k : Kp S S' H H') (h : TpR K S H a xs) : TpR K S' H' a xs := by
  rcases h with h | h
  · exact .inl (k.rd h.1 h.2)
  · exact .inr h
mutual
theorem Rel.kp (k : Kp S S' H H') : ∀ (d : D) (v : V), Rel K S H d v → Rel K S' H' d v
  | .non, _, h => h
  | .bl _, _, h => h
  | .int _, _, h => h
  | .str _, _, h => h
  | .tup xs, v, h => by
    obtain ⟨a, vs, e, q, r⟩ := h
    exact ⟨a, vs, e, k.tp q, Rels.kp k xs vs r⟩
  | .lst xs, v, h => by
    obtain ⟨a, vs, e, q, r⟩ := h
    exact ⟨a, vs, e, k.ls q, Rels.kp k xs vs r⟩
  | .dic kvs, v, h => by
    obtain ⟨a, ps, e, ⟨od, q⟩, n, r⟩ := h
    exact ⟨a, ps, e, ⟨od, k.keep a _ q n⟩, fun z => (k.sub a z).elim n fun e => (by rw [e] at q; cases q), RelP.kp k kvs ps r⟩
  | .obj _ _, _, h => h
  | .loc _, _, h => h
theorem Rels.kp (k : Kp S S' H H') : ∀ (ds : List D) (vs : List V), Rels K S H ds vs → Rels K S' H' ds vs
  | [], _, h => h
  | d :: r, vs, h => by
    obtain ⟨v, ws, e, q, z⟩ := h
    exact ⟨v, ws, e, Rel.kp k d v q, Rels.kp k r ws z⟩
theorem RelP.kp (k : Kp S S' H H') : ∀ (ds : List (D × D)) (vs : List (Key × V)), RelP K S H ds vs → RelP K S' H' ds vs
  | [], _, h => h
  | q :: r, vs, h => by
    obtain ⟨kk, v, ws, e, q1, z⟩ := h
    exact ⟨kk, v, ws, e, RelQ.kp k q kk v q1, RelP.kp k r ws z⟩
theorem RelQ.kp (k : Kp S S' H H') : ∀ (q : D × D) (kk : Key) (v : V), RelQ K S H q kk v → RelQ K S' H' q kk v
  | (_, e), _, v, h => ⟨h.1, h.2.1, Rel.kp k e v h.2.2⟩
end
theorem Rel.weak {d : D} {v : V} (h : Rel K S H d v) (ht : ∀ a, T a → S a) : RelW K T S H d v := by
  cases d with
  | lst xs =>
    obtain ⟨a, vs, e, q, r⟩ := h
    refine ⟨a, vs, e, ?_, r⟩
    rcases q with q | q
    · exact .inl ⟨q.1, fun z => q.2 (ht a z)⟩
    · exact .inr q
  | non => exact h
  | bl _ => exact h
  | int _ => exact h
  | str _ => exact h
  | tup _ => exact h
  | dic _ =>
    obtain ⟨a, ps, e, ⟨od, q⟩, n, r⟩ := h
    exact ⟨a, ps, e, .inr ⟨od, q⟩, fun z => n (ht a z), r⟩
  | obj _ _ => exact h
  | loc _ => exact h
theorem RelW.kp {d : D} {v : V} (k : Kp S S' H H') (k2 : Kp T T' H H') (h : RelW K T S H d v) : RelW K T' S' H' d v := by
  cases d with
  | lst xs =>
    obtain ⟨a, vs, e, q, r⟩ := h
    exact ⟨a, vs, e, k2.ls q, r.kp k⟩
  | non => exact h
  | bl _ => exact h
  | int _ => exact h
  | str _ => exact h
  | tup _ => exact Rel.kp k _ _ h
  | dic _ =>
    obtain ⟨a, ps, e, q, n, r⟩ := h
    obtain ⟨q1, q2⟩ := k2.rd q n
    exact ⟨a, ps, e, q1, q2, RelP.kp k _ _ r⟩
  | obj _ _ => exact h
  | loc _ => exact h
theorem Rels.length : ∀ {ds : List D} {vs : List V}, Rels K S H ds vs → vs.length = ds.length
  | [], _, h => by rw [h]; rfl
  | d :: r, vs, h => by
    obtain ⟨v, ws, rfl, q, z⟩ := h
    rw [List.length_cons, List.length_cons, Rels.length z]
theorem Rels.get : ∀ {ds : List D} {vs : List V} {i : Nat} {d : D}, Rels K S H ds vs → ds[i]? = some d → ∃ v, vs[i]? = some v ∧ Rel K S H d v
  | [], _, _, _, _, e => by simp at e
  | d :: r, vs, i, d', h, e => by
    obtain ⟨v, ws, rfl, q, z⟩ := h
    cases i with
    | zero => simp at e; subst e; exact ⟨v, rfl, q⟩
    | succ i => simp at e; simpa using Rels.get z e
theorem Rels.get' {ds : List D} {vs : List V} {i : Nat} {v : V} (h : Rels K S H ds vs) (e : vs[i]? = some v) : ∃ d, ds[i]? = some d ∧ Rel K S H d v := by
  have hl := h.length
  have hi : i < ds.length := by rw [← hl]; exact (List.getElem?_eq_some_iff.mp e).1
  obtain ⟨w, e1, r⟩ := h.get (List.getElem?_eq_getElem hi)
  rw [e] at e1; cases e1
  exact ⟨_, List.getElem?_eq_getElem hi, r⟩
theorem Rels.append : ∀ {ds : List D} {vs : List V} {es : List D} {ws : List V}, Rels K S H ds vs → Rels K S H es ws → Rels K S H (ds ++ es) (vs ++ ws)
  | [], _, _, _, h, h2 => by rw [h]; exact h2
  | d :: r, vs, es, ws, h, h2 => by
    obtain ⟨v, us, rfl, q, z⟩ := h
    exact ⟨v, us ++ ws, rfl, q, z.append h2⟩
theorem Rels.take : ∀ {ds : List D} {vs : List V} (n : Nat), Rels K S H ds vs → Rels K S H (ds.take n) (vs.take n)
  | _, _, 0, _ => by simp [Rels]
  | [], _, n + 1, h => by rw [h]; simp [Rels]
  | d :: r, vs, n + 1, h => by
    obtain ⟨v, us, rfl, q, z⟩ := h
    exact ⟨v, us.take n, rfl, q, z.take n⟩
theorem Rels.drop : ∀ {ds : List D} {vs : List V} (n : Nat), Rels K S H ds vs → Rels K S H (ds.drop n) (vs.drop n)
  | _, _, 0, h => h
  | [], _, n + 1, h => by rw [h]; simp [Rels]
  | d :: r, vs, n + 1, h => by
    obtain ⟨v, us, rfl, q, z⟩ := h
    exact z.drop n
theorem Rels.set : ∀ {ds : List D} {vs : List V} {d : D} {v : V} (n : Nat), Rels K S H ds vs → Rel K S H d v → Rels K S H (ds.set n d) (vs.set n v)
  | [], _, _, _, n, h, _ => by rw [h]; simp [Rels]
  | e :: r, vs, d, v, 0, h, q => by
    obtain ⟨w, us, rfl, q1, z⟩ := h
    exact ⟨v, us, rfl, q, z⟩
  | e :: r, vs, d, v, n + 1, h, q => by
    obtain ⟨w, us, rfl, q1, z⟩ := h
    exact ⟨w, us.set n v, rfl, q1, z.set n q⟩
theorem Rels.one {d : D} {v : V} (h : Rel K S H d v) : Rels K S H [d] [v] := ⟨v, [], rfl, h, rfl⟩
end

/-! ### owned objects, the store -/
def ObR (K : PySem.W.Frag) (S : Sa) (H : Hp) (p : Addr) : Ob → Prop
  | .lst xs => ∃ vs, H p = some (.lst vs) ∧ Rels K S H xs vs
  | .dic kvs => ∃ ps, H p = some (.dK ps) ∧ RelP K S H kvs ps
  | .ins _ _ => False
theorem ObR.there {K : PySem.W.Frag} {S : Sa} {H : Hp} {p : Addr} {o : Ob} (h : ObR K S H p o) : H p ≠ none := by
  cases o with
  | lst xs => obtain ⟨vs, e, _⟩ := h; rw [e]; exact fun z => nomatch z
  | dic _ => obtain ⟨vs, e, _⟩ := h; rw [e]; exact fun z => nomatch z
  | ins _ _ => exact h.elim
theorem ObR.kp {K : PySem.W.Frag} {S S' : Sa} {H H' : Hp} {p : Addr} {o : Ob} (k : Kp S S' H H') (e : H' p = H p) (h : ObR K S H p o) : ObR K S' H' p o := by
  cases o with
  | lst xs => obtain ⟨vs, e1, r⟩ := h; exact ⟨vs, e.trans e1, r.kp k⟩
  | dic _ => obtain ⟨vs, e1, r⟩ := h; exact ⟨vs, e.trans e1, RelP.kp k _ _ r⟩
  | ins _ _ => exact h
def Dm (μ : Sto) : Sa := fun a => μ a ≠ none
structure StoOk (K : PySem.W.Frag) (S : Sa) (μ : Sto) (H : Hp) : Prop where
  st : ∀ p o, μ p = some o → S p ∧ ObR K S H p o
  sd : ∀ a, S a → H a ≠ none
theorem StoOk.dm {K : PySem.W.Frag} {S : Sa} {μ : Sto} {H : Hp} (h : StoOk K S μ H) : ∀ a, Dm μ a → S a := fun a z => by
  cases e : μ a with
  | none => exact absurd e z
  | some o => exact (h.st a o e).1
structure Step (S : Sa) (μ : Sto) (H : Hp) (S' : Sa) (μ' : Sto) (H' : Hp) : Prop where
  keep : ∀ a o, H a = some o → μ a = none → H' a = some o
  there : ∀ a, H a ≠ none → H' a ≠ none
  sub : ∀ a, S' a → S a ∨ H a = none
  sup : ∀ a, S a → S' a
  dom : ∀ a, μ a ≠ none → μ' a ≠ none
  dsub : ∀ a, μ' a ≠ none → μ a ≠ none ∨ H a = none
section
variable {K : PySem.W.Frag} {S S' S2 : Sa} {μ μ' μ2 : Sto} {H H' H2 : Hp}
theorem Step.refl : Step S μ H S μ H := ⟨fun _ _ h _ => h, fun _ h => h, fun _ h => .inl h, fun _ h => h, fun _ h => h, fun _ h => .inl h⟩
theorem none_back {a : Addr} (t : ∀ a, H a ≠ none → H' a ≠ none) (h : H' a = none) : H a = none := by
  cases e : H a with
  | none => rfl
  | some o => exact absurd h (t a (by rw [e]; exact fun z => nomatch z))
theorem Step.trans (s : Step S μ H S' μ' H') (t : Step S' μ' H' S2 μ2 H2) : Step S μ H S2 μ2 H2 where
  keep := fun a o h m => by
    refine t.keep a o (s.keep a o h m) ?_
    cases e : μ' a with
    | none => rfl
    | some x => rcases s.dsub a (by rw [e]; exact fun z => nomatch z) with z | z
                · exact absurd m z
                · rw [z] at h; cases h
  there := fun a h => t.there a (s.there a h)
  sub := fun a h => by
    rcases t.sub a h with h | h
    · exact s.sub a h
    · exact .inr (none_back s.there h)
  sup := fun a h => t.sup a (s.sup a h)
  dom := fun a h => t.dom a (s.dom a h)
  dsub := fun a h => by
    rcases t.dsub a h with h | h
    · exact s.dsub a h
    · exact .inr (none_back s.there h)
theorem Step.kp (s : Step S μ H S' μ' H') (ok : ∀ a, Dm μ a → S a) : Kp S S' H H' :=
  ⟨fun a o h n => s.keep a o h (by cases e : μ a with
    | none => rfl
    | some x => exact absurd (ok a (by unfold Dm; rw [e]; exact fun z => nomatch z)) n), s.sub⟩
theorem Step.kpD (s : Step S μ H S' μ' H') : Kp (Dm μ) (Dm μ') H H' :=
  ⟨fun a o h n => s.keep a o h (by cases e : μ a with
    | none => rfl
    | some x => exact absurd (by unfold Dm; rw [e]; exact fun z => nomatch z) n), s.dsub⟩
end
structure KpT (S S' : Sa) (H H' : Hp) : Prop where
  kp : Kp S S' H H'
  th : ∀ a, H a ≠ none → H' a ≠ none
theorem KpT.refl {S : Sa} {H : Hp} : KpT S S H H := ⟨⟨fun _ _ h _ => h, fun _ h => .inl h⟩, fun _ h => h⟩
theorem KpT.trans {S S' S2 : Sa} {H H' H2 : Hp} (a : KpT S S' H H') (b : KpT S' S2 H' H2) : KpT S S2 H H2 := by
  refine ⟨⟨fun x o h n => b.kp.keep x o (a.kp.keep x o h n) fun z => (a.kp.sub x z).elim n fun e => ?_, fun x z => (b.kp.sub x z).elim (a.kp.sub x) fun e => .inr (none_back a.th e)⟩, fun x h => b.th x (a.th x h)⟩
  rw [e] at h; cases h
theorem Step.kpT {S S' : Sa} {μ μ' : Sto} {H H' : Hp} (s : Step S μ H S' μ' H') (ok : ∀ a, Dm μ a → S a) : KpT S S' H H' := ⟨s.kp ok, s.there⟩
theorem KpT.poke {S S' : Sa} {H H' : Hp} (k : KpT S S' H H') {p : Addr} {o : HO} (hp : S p ∨ H p = none) : KpT S S' H (upd H' p o) := by
  refine ⟨⟨fun a u h n => ?_, k.kp.sub⟩, fun a h => ?_⟩
  · rw [upd_ne (fun e => ?_)]
    · exact k.kp.keep a u h n
    · rcases hp with z | z
      · exact n (by rw [e]; exact z)
      · rw [e, z] at h; cases h
  · by_cases e : a = p
    · rw [e, upd_same]; exact fun z => nomatch z
    · rw [upd_ne e]; exact k.th a h
/-! ### exceptions -/
def RelF (K : PySem.W.Frag) (S : Sa) (H : Hp) : List (Nat × D) → List (Str × V) → Prop
  | [], vs => vs = []
  | q :: r, vs => ∃ v ws, vs = (nm q.1, v) :: ws ∧ Rel K S H q.2 v ∧ RelF K S H r ws
/-- an error's class that the text has -/
def XDef (K : PySem.W.Frag) (c : Nat) : Prop := c < 30 ∧ PySem.W.nsIn K mainGlobals (nm c) = some (some (.ref (He.ga K (nm c))))
def XRel (K : PySem.W.Frag) (S : Sa) (H : Hp) (x : Xc) (cls : Value) (d : Option Addr) : Prop := XDef K x.c ∧ cls = .ref (He.ga K (nm x.c)) ∧ ((x.fs = [] ∧ d = none) ∨ ∃ dd vs, d = some dd ∧ H dd = some (.xd vs) ∧ ¬ S dd ∧ RelF K S H x.fs vs) ∧ ∀ q ∈ x.fs, q.1 ∈ fldIds
theorem RelF.kp {K : PySem.W.Frag} {S S' : Sa} {H H' : Hp} (k : Kp S S' H H') : ∀ {fs : List (Nat × D)} {vs : List (Str × V)}, RelF K S H fs vs → RelF K S' H' fs vs
  | [], _, h => h
  | q :: r, vs, h => by
    obtain ⟨v, ws, e, r1, r2⟩ := h
    exact ⟨v, ws, e, Rel.kp k _ _ r1, RelF.kp k r2⟩
theorem XRel.kp {K : PySem.W.Frag} {S S' : Sa} {H H' : Hp} {x : Xc} {cls : Value} {d : Option Addr} (k : Kp S S' H H') (h : XRel K S H x cls d) : XRel K S' H' x cls d := by
  obtain ⟨h0, h1, h2, h3⟩ := h
  refine ⟨h0, h1, h2.imp id fun h2 => ?_, h3⟩
  obtain ⟨dd, vs, e, hd, ns, r⟩ := h2
  exact ⟨dd, vs, e, k.keep dd _ hd ns, fun z => (k.sub dd z).elim ns fun z => (by rw [z] at hd; cases hd), r.kp k⟩
/-- fixed through a def's run: what stood at its entry -/
structure Ct where
  K : PySem.W.Frag
  S0 : Sa
  μ0 : Sto
  H0 : Hp
  V : Xc → Ga → Sto → Prop
  S1 : Sa
  H1 : Hp
/-- the same, but nothing may be raised -/
def Ct.nv (c : Ct) : Ct := { c with V := fun _ _ _ => False }
def SlR (c : Ct) (S : Sa) (μ : Sto) (σ : L2.St) (H : Hp) (i : Nat) : Sl → Prop
  | .un => True
  | .val d => ∃ v, σ[i]? = some (some v) ∧ Rel c.K S H d v
  | .own o => ∃ p, σ[i]? = some (some (V.ref p)) ∧ S p ∧ c.H0 p = none ∧ μ p = none ∧ ObR c.K S H p o
structure Good (c : Ct) (S : Sa) (γ : Ga) (μ : Sto) (σ : L2.St) (H : Hp) : Prop where
  len : γ.length = σ.length
  sl : ∀ (i : Nat) (s : Sl), γ[i]? = some s → SlR c S μ σ H i s
  ap : ∀ (i j : Nat) (o o' : Ob) (p : Addr), γ[i]? = some (Sl.own o) → γ[j]? = some (Sl.own o') → σ[i]? = some (some (V.ref p)) → σ[j]? = some (some (V.ref p)) → i = j
  st : StoOk c.K S μ H
  s0 : ∀ a, c.S0 a → S a
  ext : ∀ a o, c.H0 a = some o → c.μ0 a = none → H a = some o
  fr : ∀ p, μ p ≠ none → c.μ0 p ≠ none ∨ c.H0 p = none
  md : ∀ p, c.μ0 p ≠ none → μ p ≠ none
  kt : KpT c.S1 S c.H1 H
section
variable {c : Ct} {S S' : Sa} {γ γ' : Ga} {μ μ' : Sto} {σ : L2.St} {H H' : Hp}
theorem Good.wv {V' : Xc → Ga → Sto → Prop} (g : Good c S γ μ σ H) : Good { c with V := V' } S γ μ σ H := ⟨g.len, g.sl, g.ap, g.st, g.s0, g.ext, g.fr, g.md, g.kt⟩
theorem Good.unwv {V' : Xc → Ga → Sto → Prop} (g : Good { c with V := V' } S γ μ σ H) : Good c S γ μ σ H := ⟨g.len, g.sl, g.ap, g.st, g.s0, g.ext, g.fr, g.md, g.kt⟩
theorem Good.h0 (g : Good c S γ μ σ H) {a : Addr} (h : H a = none) : c.H0 a = none := by
  cases e : c.H0 a with
  | none => rfl
  | some o =>
    cases m : c.μ0 a with
    | none => rw [g.ext a o e m] at h; cases h
    | some x =>
      have z := g.md a (by rw [m]; exact fun z => nomatch z)
      cases q : μ a with
      | none => exact absurd q z
      | some y => exact absurd h (g.st.st a y q).2.there
/-- a step that keeps what the slots own -/
theorem Good.step (g : Good c S γ μ σ H) (s : Step S μ H S' μ' H') (ok : StoOk c.K S' μ' H') : Good c S' γ μ' σ H' where
  len := g.len
  sl := fun i x e => by
    have h := g.sl i x e
    have k := s.kp g.st.dm
    cases x with
    | un => trivial
    | val d => obtain ⟨v, e1, r⟩ := h; exact ⟨v, e1, r.kp k⟩
    | own o =>
      obtain ⟨p, e1, sp, h0, m, r⟩ := h
      have hp : H p ≠ none := r.there
      have hp' : H' p = H p := by
        cases q : H p with
        | none => exact absurd q hp
        | some u => exact s.keep p u q m
      refine ⟨p, e1, s.sup p sp, h0, ?_, r.kp k hp'⟩
      cases q : μ' p with
      | none => rfl
      | some u =>
        rcases s.dsub p (by rw [q]; exact fun z => nomatch z) with z | z
        · exact absurd m z
        · exact absurd z hp
  ap := g.ap
  st := ok
  s0 := fun a h => s.sup a (g.s0 a h)
  ext := fun a o h m => by
    have h1 := g.ext a o h m
    refine s.keep a o h1 ?_
    cases q : μ a with
    | none => rfl
    | some u =>
      rcases g.fr a (by rw [q]; exact fun z => nomatch z) with z | z
      · exact absurd m z
      · rw [z] at h; cases h
  fr := fun p h => by
    rcases s.dsub p h with z | z
    · exact g.fr p z
    · exact .inr (g.h0 z)
  md := fun p h => s.dom p (g.md p h)
  kt := g.kt.trans (s.kpT g.st.dm)
/-- what is wished of an exception that is in the air -/
def WV (c : Ct) : WX := fun cls d σ H => ∃ S γ μ x, Good c S γ μ σ H ∧ XRel c.K S H x cls d ∧ c.V x γ μ
/-- a new object that is not owned -/
theorem step_new (ok : StoOk c.K S μ H) {p : Addr} {o : HO} (hp : H p = none) : Step S μ H S μ (upd H p o) ∧ StoOk c.K S μ (upd H p o) := by
  have k : Kp S S H (upd H p o) := ⟨fun a u h _ => by rw [upd_ne (ne_of_none h hp)]; exact h, fun a h => .inl h⟩
  have t : ∀ a, H a ≠ none → (upd H p o) a ≠ none := fun a h => by
    by_cases e : a = p
    · rw [e, upd_same]; exact fun z => nomatch z
    · rw [upd_ne e]; exact h
  refine ⟨⟨fun a u h _ => by rw [upd_ne (ne_of_none h hp)]; exact h, t, fun a h => .inl h, fun a h => h, fun a h => h, fun a h => .inl h⟩, fun q ob e => ?_, fun a h => t a (ok.sd a h)⟩
  obtain ⟨h1, h2⟩ := ok.st q ob e
  refine ⟨h1, h2.kp k ?_⟩
  rw [upd_ne (fun z => h2.there (by rw [z]; exact hp))]
theorem ok_notS (ok : StoOk c.K S μ H) {p : Addr} (hp : H p = none) : ¬ S p := fun z => ok.sd p z hp
end
end Bs
/-! Bs: expressions are sound. -/
namespace Bs
open PySem L2
abbrev Wf : Xc → Ga → Sto → Prop := fun _ _ _ => False
section
variable (c : Ct)
/-- what is wanted behind an expression -/
def Aft (st : Bool) (S : Sa) (μ : Sto) (H : Hp) (γ : Ga) (σ : L2.St) (Q : VK) : D → Sto → Prop := fun d μ' => ∀ S' v H', Good c S' γ μ' σ H' → Step S μ H S' μ' H' → Rl c.K st (Dm μ') S' H' d v → Q v H'
def AftB (S : Sa) (μ : Sto) (H : Hp) (γ : Ga) (σ : L2.St) (Q : Bool → Hp → Prop) : Bool → Sto → Prop := fun b μ' => ∀ S' H', Good c S' γ μ' σ H' → Step S μ H S' μ' H' → Q b H'
def Rls (K : PySem.W.Frag) (st : Bool) (T S : Sa) (H : Hp) : List D → List V → Prop
  | [], vs => vs = []
  | d :: r, vs => ∃ v ws, vs = v :: ws ∧ Rl K st T S H d v ∧ Rls K st T S H r ws
def AftA (st : Bool) (S : Sa) (μ : Sto) (H : Hp) (γ : Ga) (σ : L2.St) (Q : List V → Hp → Prop) : List D → Sto → Prop := fun ds μ' => ∀ S' vs H', Good c S' γ μ' σ H' → Step S μ H S' μ' H' → Rls c.K st (Dm μ') S' H' ds vs → Q vs H'
def TEn (st : Bool) (r : Ga → Sto → R D) : TE := fun σ H Q => ∃ S γ μ, Good c S γ μ σ H ∧ (r γ μ).All (Aft c st S μ H γ σ Q) c.V
def TTn (r : Ga → Sto → R Bool) : TT := fun σ H Q => ∃ S γ μ, Good c S γ μ σ H ∧ (r γ μ).All (AftB c S μ H γ σ Q) c.V
def TAn (st : Bool) (r : Ga → Sto → R (List D)) : TA := fun σ H Q => ∃ S γ μ, Good c S γ μ σ H ∧ (r γ μ).All (AftA c st S μ H γ σ Q) c.V
end
section
variable {c : Ct} {S S' : Sa} {γ : Ga} {μ μ' : Sto} {σ : L2.St} {H H' : Hp} {Q : VK} {st : Bool}
theorem Aft.step {r : R D} {W : Xc → Ga → Sto → Prop} (h : r.All (Aft c st S μ H γ σ Q) W) (s : Step S μ H S' μ' H') : r.All (Aft c st S' μ' H' γ σ Q) W :=
  h.mono (fun _ _ q S2 v H2 g t rl => q S2 v H2 g (s.trans t) rl) fun _ _ _ w => w
theorem AftB.step {r : R Bool} {Q : Bool → Hp → Prop} {W : Xc → Ga → Sto → Prop} (h : r.All (AftB c S μ H γ σ Q) W) (s : Step S μ H S' μ' H') : r.All (AftB c S' μ' H' γ σ Q) W :=
  h.mono (fun _ _ q S2 H2 g t => q S2 H2 g (s.trans t)) fun _ _ _ w => w
theorem AftA.step {r : R (List D)} {Q : List V → Hp → Prop} {W : Xc → Ga → Sto → Prop} (h : r.All (AftA c st S μ H γ σ Q) W) (s : Step S μ H S' μ' H') : r.All (AftA c st S' μ' H' γ σ Q) W :=
  h.mono (fun _ _ q S2 v H2 g t rl => q S2 v H2 g (s.trans t) rl) fun _ _ _ w => w
theorem Rl.weak {K : PySem.W.Frag} {T : Sa} {d : D} {v : V} (h : Rl K st T S H d v) (ht : ∀ a, T a → S a) : RelW K T S H d v := by
  cases st with
  | true => exact Rel.weak h ht
  | false => exact h
/-- one that is strong is weak -/
theorem TEn.weak {r : Ga → Sto → R D} (h : TEn c false r σ H Q) : TEn c st r σ H Q := by
  obtain ⟨S, γ, μ, g, a⟩ := h
  exact ⟨S, γ, μ, g, a.mono (fun d μ' q S' v H' g' s rl => q S' v H' g' s (Rl.weak rl g'.st.dm)) fun _ _ _ w => w⟩
end
theorem _root_.L2.PE.imp {X : Cx} {e : Expr} {t t' : TE} (h : PE X e t) (i : ∀ σ H Q, t' σ H Q → t σ H Q) : PE X e t' := ⟨fun pins s σ H Q I w => h.run pins s σ H Q I (i σ H Q w)⟩
theorem _root_.L2.PT.imp {X : Cx} {e : Expr} {t t' : TT} (h : PT X e t) (i : ∀ σ H Q, t' σ H Q → t σ H Q) : PT X e t' := ⟨fun pins s σ H Q I w => h.run pins s σ H Q I (i σ H Q w)⟩
theorem _root_.L2.PA.imp {X : Cx} {e : List Expr} {t t' : TA} (h : PA X e t) (i : ∀ σ H Q, t' σ H Q → t σ H Q) : PA X e t' := ⟨fun pos pins s σ H Q I w => h.run pos pins s σ H Q I (i σ H Q w)⟩
theorem _root_.L2.PK.imp {X : Cx} {e : List Keyword} {t t' : TA} (h : PK X e t) (i : ∀ σ H Q, t' σ H Q → t σ H Q) : PK X e t' := ⟨fun pos pins s σ H Q I w => h.run pos pins s σ H Q I (i σ H Q w)⟩
theorem PEweak {c : Ct} {X : Cx} {e : Expr} {st : Bool} {r : Ga → Sto → R D} (h : PE X e (TEn c st r)) : PE X e (TEn c false r) := h.imp fun _ _ _ w => w.weak

/-! ### operators by values -/
/-- nothing is barred -/
abbrev T0 : Sa := fun _ => False
section
variable (c : Ct)
def Op2 (r : R2) (f : D → D → Sto → R D) : Prop := ∀ (S : Sa) (γ : Ga) (μ : Sto) (σ : L2.St) (H : Hp) (d e : D) (v w : V) (Q : VK), Good c S γ μ σ H → RelW c.K T0 S H d v → RelW c.K T0 S H e w → (f d e μ).All (Aft c true S μ H γ σ Q) c.V → r v w H Q
def Op1 (r : V → Hp → VK → Prop) (f : D → Sto → R D) : Prop := ∀ (S : Sa) (γ : Ga) (μ : Sto) (σ : L2.St) (H : Hp) (d : D) (v : V) (Q : VK), Good c S γ μ σ H → RelW c.K T0 S H d v → (f d μ).All (Aft c true S μ H γ σ Q) c.V → r v H Q
def OpA (r : List V → Hp → VK → Prop) (f : List D → Sto → R D) : Prop := ∀ (S : Sa) (γ : Ga) (μ : Sto) (σ : L2.St) (H : Hp) (ds : List D) (vs : List V) (Q : VK), Good c S γ μ σ H → Rls c.K false T0 S H ds vs → (f ds μ).All (Aft c true S μ H γ σ Q) c.V → r vs H Q
end
theorem RelW.zero {K : PySem.W.Frag} {T S : Sa} {H : Hp} {d : D} {v : V} (h : RelW K T S H d v) : RelW K T0 S H d v := by
  cases d with
  | lst xs =>
    obtain ⟨a, vs, e, q, r⟩ := h
    refine ⟨a, vs, e, ?_, r⟩
    rcases q with q | q
    · exact .inl ⟨q.1, fun z => z⟩
    · exact .inr q
  | non => exact h
  | bl _ => exact h
  | int _ => exact h
  | str _ => exact h
  | tup _ => exact h
  | dic _ =>
    obtain ⟨a, ps, e, q, n, r⟩ := h
    exact ⟨a, ps, e, q, fun z => z, r⟩
  | obj _ _ => exact h
  | loc _ => exact h
theorem Rls.zero {K : PySem.W.Frag} {T S : Sa} {H : Hp} : ∀ {ds : List D} {vs : List V}, Rls K false T S H ds vs → Rls K false T0 S H ds vs
  | [], _, h => h
  | d :: r, vs, h => by
    obtain ⟨v, ws, e, q, z⟩ := h
    exact ⟨v, ws, e, RelW.zero q, Rls.zero z⟩
/-- a place of the store read -/
theorem RelW.dr {c : Ct} {S : Sa} {γ : Ga} {μ : Sto} {σ : L2.St} {H : Hp} {d : D} {v : V} (g : Good c S γ μ σ H) (h : RelW c.K T0 S H d v) : RelW c.K T0 S H (dr μ d) v := by
  cases d with
  | loc p =>
    cases e : μ p with
    | none => simp only [Bs.dr, e]; exact h
    | some o =>
      cases o with
      | lst xs =>
        simp only [Bs.dr, e]
        obtain ⟨sp, vs, ep, r⟩ := g.st.st p _ e
        exact ⟨p, vs, h, .inl ⟨.inl ep, fun z => z⟩, r⟩
      | dic _ => simp only [Bs.dr, e]; exact h
      | ins _ _ => simp only [Bs.dr, e]; exact h
  | _ => exact h
theorem Rls.dr {c : Ct} {S : Sa} {γ : Ga} {μ : Sto} {σ : L2.St} {H : Hp} (g : Good c S γ μ σ H) : ∀ {ds : List D} {vs : List V}, Rls c.K false T0 S H ds vs → Rls c.K false T0 S H (ds.map (Bs.dr μ)) vs
  | [], _, h => h
  | d :: r, vs, h => by
    obtain ⟨v, ws, e, q, z⟩ := h
    exact ⟨v, ws, e, RelW.dr g q, Rls.dr g z⟩
theorem Op2.dr {c : Ct} {r : R2} {f : D → D → Option D} (h : Op2 c r fun x y μ => ofO (f x y) μ) : Op2 c r fun x y μ => orO (f x y) (f (Bs.dr μ x) (Bs.dr μ y)) μ := by
  intro S γ μ σ H d e v w Q g rd re q
  cases z : f d e with
  | some d' =>
    simp only [z, orO] at q
    exact h S γ μ σ H d e v w Q g rd re (by simp only [z]; exact q)
  | none =>
    simp only [z, orO] at q
    exact h S γ μ σ H _ _ v w Q g (rd.dr g) (re.dr g) q
theorem Op1.dr {c : Ct} {r : V → Hp → VK → Prop} {f : D → Option D} (h : Op1 c r fun x μ => ofO (f x) μ) : Op1 c r fun x μ => orO (f x) (f (Bs.dr μ x)) μ := by
  intro S γ μ σ H d v Q g rd q
  cases z : f d with
  | some d' =>
    simp only [z, orO] at q
    exact h S γ μ σ H d v Q g rd (by simp only [z]; exact q)
  | none =>
    simp only [z, orO] at q
    exact h S γ μ σ H _ v Q g (rd.dr g) q
theorem OpA.dr {c : Ct} {r : List V → Hp → VK → Prop} {f : List D → Option D} (h : OpA c r fun x μ => ofO (f x) μ) : OpA c r fun x μ => orO (f x) (f (x.map (Bs.dr μ))) μ := by
  intro S γ μ σ H d v Q g rd q
  cases z : f d with
  | some d' =>
    simp only [z, orO] at q
    exact h S γ μ σ H d v Q g rd (by simp only [z]; exact q)
  | none =>
    simp only [z, orO] at q
    exact h S γ μ σ H _ v Q g (rd.dr g) q
section
variable {c : Ct} {X : Cx} {σ : L2.St} {H : Hp} {Q : VK} {ra rb : Ga → Sto → R D}
theorem read2 {r : R2} {f : D → D → Sto → R D} (ho : Op2 c r f) (h : TEn c true (fun γ μ => (ra γ μ).bind fun x μ => (rb γ μ).bind fun y μ => f x y μ) σ H Q) : tOp r (TEn c false ra) (TEn c false rb) σ H Q := by
  obtain ⟨S, γ, μ, g, a⟩ := h
  refine ⟨S, γ, μ, g, (R.All_bind _ _ _ _ |>.mp a).mono (fun d μ1 q => ?_) fun _ _ _ w => w⟩
  intro S1 v H1 g1 s1 r1
  refine ⟨S1, γ, μ1, g1, (R.All_bind _ _ _ _ |>.mp q).mono (fun e μ2 q => ?_) fun _ _ _ w => w⟩
  intro S2 w H2 g2 s2 r2
  exact ho S2 γ μ2 σ H2 d e v w Q g2 (RelW.zero (RelW.kp (s2.kp g1.st.dm) s2.kpD r1)) (RelW.zero r2) (Aft.step q (s1.trans s2))
theorem read1 {r : V → Hp → VK → Prop} {f : D → Sto → R D} (ho : Op1 c r f) (h : TEn c true (fun γ μ => (ra γ μ).bind fun x μ => f x μ) σ H Q) : TEn c false ra σ H fun x H1 => r x H1 Q := by
  obtain ⟨S, γ, μ, g, a⟩ := h
  refine ⟨S, γ, μ, g, (R.All_bind _ _ _ _ |>.mp a).mono (fun d μ1 q => ?_) fun _ _ _ w => w⟩
  intro S1 v H1 g1 s1 r1
  exact ho S1 γ μ1 σ H1 d v Q g1 (RelW.zero r1) (Aft.step q s1)
theorem readA {r : List V → Hp → VK → Prop} {f : List D → Sto → R D} {ra : Ga → Sto → R (List D)} (ho : OpA c r f) (h : TEn c true (fun γ μ => (ra γ μ).bind fun x μ => f x μ) σ H Q) : TAn c false ra σ H fun x H1 => r x H1 Q := by
  obtain ⟨S, γ, μ, g, a⟩ := h
  refine ⟨S, γ, μ, g, (R.All_bind _ _ _ _ |>.mp a).mono (fun d μ1 q => ?_) fun _ _ _ w => w⟩
  intro S1 v H1 g1 s1 r1
  exact ho S1 γ μ1 σ H1 d v Q g1 (Rls.zero r1) (Aft.step q s1)
end
/-- what is new is locked -/
def tFz (t : TE) : TE := fun σ H Q => t σ H fun v H1 => ∃ d u, v = .ref d ∧ H1 d = some u ∧ Mut (some u) ∧ ∀ od, Q v (upd H1 d (.frz od u))
theorem pe_fz {X : Cx} {e : Expr} {t : TE} (h : PE X e t) : PE X e (tFz t) := by
  refine ⟨fun pins s σ H Q I w => ?_⟩
  refine thn (h.run pins s σ H _ I w) fun v s1 ⟨x, H1, I1, r, d, u, e, hd, mu, q⟩ => ?_
  obtain ⟨od, I2⟩ := I1.lock hd mu
  exact ⟨x, _, I2, r, q od⟩
/-- the same ahead of a block -/
def tFzS (t : TS) : TS := fun E σ H => t E σ H ∨ ∃ d u, H d = some u ∧ Mut (some u) ∧ ∀ od, t E σ (upd H d (.frz od u))
theorem pss_fz {X : Cx} {ss : List Stmt} {t : TS} (h : PSs X ss t) : PSs X ss (tFzS t) := by
  refine ⟨fun pins s σ H D I w => ?_⟩
  rcases w with w | ⟨d, u, hd, mu, w⟩
  · exact h.run pins s σ H D I w
  · obtain ⟨od, I2⟩ := I.lock hd mu
    exact h.run pins s σ _ D I2 (w od)
/-! ### results -/
section
variable {c : Ct} {S S' : Sa} {γ : Ga} {μ μ' : Sto} {σ : L2.St} {H H' : Hp} {Q : VK} {st : Bool} {d : D} {v : V}
/-- a value, nothing changed -/
theorem fin0 (g : Good c S γ μ σ H) (h : R.All (.ok d μ) (Aft c true S μ H γ σ Q) c.V) (r : Rel c.K S H d v) : Q v H := h S v H g Step.refl r
theorem finO {o : Option D} (g : Good c S γ μ σ H) (h : (ofO o μ).All (Aft c true S μ H γ σ Q) c.V) (r : ∀ d, o = some d → Rel c.K S H d v) : Q v H := by
  cases o with
  | none => exact h.elim
  | some d => exact fin0 g h (r d rfl)
theorem no_fail {α : Type} {o : Option α} {f : α → R D} {Z : Prop} {Qd : D → Sto → Prop} {W : Xc → Ga → Sto → Prop} (h : (match o with | some x => f x | none => R.fail).All Qd W) (k : ∀ x, o = some x → (f x).All Qd W → Z) : Z := by
  cases o with
  | none => exact h.elim
  | some x => exact k x rfl h
theorem ofO_some {o : Option D} {Qd : D → Sto → Prop} {W : Xc → Ga → Sto → Prop} (h : (ofO o μ).All Qd W) : ∃ d, o = some d ∧ Qd d μ := by
  cases o with
  | none => exact h.elim
  | some d => exact ⟨d, rfl, h⟩
/-- a new tuple, a new list -/
theorem fin_tup {ds : List D} {vs : List V} (g : Good c S γ μ σ H) (h : Aft c true S μ H γ σ Q (.tup ds) μ) (r : Rels c.K S H ds vs) (p : Addr) (hp : H p = none) : Q (.ref p) (upd H p (.tup vs)) := by
  obtain ⟨s, ok⟩ := step_new (c := c) (o := HO.tup vs) g.st hp
  exact h S (.ref p) _ (g.step s ok) s ⟨p, vs, rfl, .inl ⟨.inl upd_same, ok_notS g.st hp⟩, r.kp (s.kp g.st.dm)⟩
theorem fin_lst {ds : List D} {vs : List V} (g : Good c S γ μ σ H) (h : Aft c true S μ H γ σ Q (.lst ds) μ) (r : Rels c.K S H ds vs) (p : Addr) (hp : H p = none) : Q (.ref p) (upd H p (.lst vs)) := by
  obtain ⟨s, ok⟩ := step_new (c := c) (o := HO.lst vs) g.st hp
  exact h S (.ref p) _ (g.step s ok) s ⟨p, vs, rfl, .inl ⟨.inl upd_same, ok_notS g.st hp⟩, r.kp (s.kp g.st.dm)⟩
end
/-! ### what is known of a value by its datum -/
section
variable {K : PySem.W.Frag} {T S : Sa} {H : Hp} {v : V}
theorem rw_int {i : Int} (h : RelW K T S H (.int i) v) : v = .int i := h
theorem rw_bl {b : Bool} (h : RelW K T S H (.bl b) v) : v = .bl b := h
theorem rw_non (h : RelW K T S H .non v) : v = .non := h
theorem rw_str {s : List Nat} (h : RelW K T S H (.str s) v) : v = strV s ∧ s.length ≤ 1000000 ∧ ∀ c ∈ s, c < 128 := h
theorem rw_lst {xs : List D} (h : RelW K T S H (.lst xs) v) : ∃ a vs, v = .ref a ∧ SqL K H a vs ∧ Rels K S H xs vs := by
  obtain ⟨a, vs, e, q, r⟩ := h
  exact ⟨a, vs, e, q.sq, r⟩
theorem rw_tup {xs : List D} (h : RelW K T S H (.tup xs) v) : ∃ a vs, v = .ref a ∧ SqT K H a vs ∧ Rels K S H xs vs := by
  obtain ⟨a, vs, e, q, r⟩ := h
  exact ⟨a, vs, e, q.sq, r⟩
theorem rw_dic {kvs : List (D × D)} (h : RelW K T S H (.dic kvs) v) : ∃ a ps, v = .ref a ∧ Rd H a (.dK ps) ∧ RelP K S H kvs ps := by
  obtain ⟨a, ps, e, q, n, r⟩ := h
  exact ⟨a, ps, e, q, r⟩
theorem big_line {n : Nat} (h : n ≤ 1000000) : n ≤ sizeLine := Nat.le_trans h (by rw [sizeLine_eq]; decide)
theorem str_len (s : List Nat) : (⟨s.toArray⟩ : Str).length = s.length := by simp [Str.length]
end
end Bs
/-! Bs: operators. -/
namespace Bs
open PySem L2
theorem list_mulW (l : Addr) (items : Array Value) (n : Nat) (sl : Array (Option Value)) (x : Int) (u : Tok) (hc0 : ¬(!Builtin.List.listFitsIndex x) = true)
    (hc1 : ¬items.size * x.toNat > (2 ^ 63 - 1) / 8) (hc2 : ¬Builtin.List.listTooLong (items.size * x.toNat) = true) :
    Meets (Builtin.«list.__mul__» ⟨[.ref l, .int x u], []⟩) (fun _ R s => s.heap.get? l = some { cls := .type "list", data := .seq items n, slots := sl } ∧ R (.ok (.ret (Value.ref s.heap.objs.size))) { s with heap := s.heap.push { cls := Value.type "list", data := Data.seq (List.foldl (fun x1 x2 => x1 ++ x2) #[] (List.replicate (if items.isEmpty = true then 0 else x.toNat) items)) }, toks := s.toks }) :=
  .of_wp fun prog w A R s h => by
    obtain ⟨hp, g, d, tk, os⟩ := s; obtain ⟨hl, h⟩ := h
    have hsz := AutoListH.joined_fits hc2
    wp_walk; refine wpAny_ite_false (decide_eq_false (Nat.not_lt.mpr hsz)) ?_; wp_walk; exact ⟨_, rfl, h⟩
theorem rmul_listW (a : Int) (t : Tok) (l : Addr) (items : Array Value) (n : Nat) (sl : Array (Option Value)) :
    Meets (Builtin.«int.__rmul__» ⟨[.int a t, .ref l], []⟩) (fun _ R s => s.heap.get? l = some { cls := .type "list", data := .seq items n, slots := sl } ∧ R (.ok (.ret Value.notImplemented)) s) :=
  .of_wp fun prog w A R s h => by obtain ⟨hp, g, d, tk, os⟩ := s; obtain ⟨hl, h⟩ := h; wp_walk; exact ⟨_, rfl, h⟩
section
variable {X : Cx}
theorem op_catS : OpR X (binaryOp .Add) (fun x y H Q => ∃ l b xs zs, x = .ref l ∧ y = .ref b ∧ SqL X.K H l xs ∧ SqL X.K H b zs ∧ xs.length + zs.length ≤ sizeLine ∧ ∀ p, H p = none → Q (.ref p) (upd H p (.lst (xs ++ zs)))) := by
  intro pins s σ H x y v u Q I rx ry h
  obtain ⟨l, b, xs, zs, rfl, rfl, hH, hB, hz, q⟩ := h
  cases rx
  cases ry
  obtain ⟨its, r, p1, _⟩ := I.list hH
  obtain ⟨its2, r2, p2, _⟩ := I.list hB
  have hl := r.length
  have hl2 := r2.length
  obtain ⟨⟨cls, dd, data, sl⟩, ho, hc, n, hd⟩ := p1.isList
  obtain ⟨⟨cls2, dd2, data2, sl2⟩, ho2, hc2, n2, hd2⟩ := p2.isList
  simp only at hc hd hc2 hd2
  subst hc hd hc2 hd2
  have e : its.toArray ++ its2.toArray = (its ++ its2).toArray := by simp
  refine concat_meets ⟨_, ho, rfl⟩ ⟨_, ho2, rfl⟩ noFill_list_add seq_list_add PySem.F.slot_list_add PySem.F.entry_list_add (PySem.F.args_list_add_2 _ _) (PyProof.Rows.list_addW l b its.toArray its2.toArray n n2 dd dd2 sl sl2 (by rw [List.size_toArray, List.size_toArray]; omega)) ⟨ho, ho2, ?_⟩
  rw [e]
  exact ⟨.ref _, _, I.lnew (t' := s.toks) (r.append r2) (by rw [List.length_append]; omega), rfl, q _ I.fresh⟩
theorem mul_eq (s : List Nat) (n : Int) : Txt.mul ⟨s.toArray⟩ n = ⟨(List.replicate n.toNat s).flatten.toArray⟩ := by
  unfold Txt.mul
  by_cases h1 : n < 1
  · rw [if_pos h1]
    have : n.toNat = 0 := by omega
    rw [this]; rfl
  · rw [if_neg h1]
    by_cases h2 : (n == 1 || (⟨s.toArray⟩ : Str).length == 0) = true
    · rw [if_pos h2]
      rcases Bool.or_eq_true_iff.mp h2 with h | h
      · have : n = 1 := by simpa using h
        subst this
        simp
      · have hs : s = [] := by
          rw [str_len] at h
          simpa using h
        subst hs
        simp
    · rw [if_neg h2]
      congr 1
      have key : ∀ (k : Nat) (acc : List Nat), (List.replicate k s.toArray).foldl (· ++ ·) acc.toArray = (acc ++ (List.replicate k s).flatten).toArray := by
        intro k
        induction k with
        | zero => intro acc; simp
        | succ k ih =>
          intro acc
          rw [List.replicate_succ, List.foldl_cons, List.append_toArray, ih, List.replicate_succ]
          simp
      simpa using key n.toNat []
theorem op_mulS : OpR X (binaryOp .Mult) (fun x y H Q => ∃ (s : List Nat) (n : Int), x = strV s ∧ y = .int n ∧ s.length * n.toNat ≤ 1000000 ∧ -(2 ^ 62) ≤ n ∧ n < 2 ^ 62 ∧ Q (strV (List.replicate n.toNat s).flatten) H) := by
  intro pins s σ H x y v u Q I rx ry h
  obtain ⟨z, n, rfl, rfl, hz, h1, h2, q⟩ := h
  obtain ⟨t, rfl⟩ := rx
  obtain ⟨t', rfl⟩ := ry
  refine SB.mul ⟨?_, fun hn hc => ?_, fun hn hc => ?_⟩ fun t2 k => ⟨strV _, H, I.tok _, ⟨t2, ?_⟩, q⟩
  · rw [decide_eq_false (by omega), decide_eq_false (by omega)]; rfl
  · rw [str_len]
    intro hgt
    have hn1 : 1 ≤ n := by omega
    have hle : (z.length : Int) * n ≤ 1000000 := by
      have e : ((z.length * n.toNat : Nat) : Int) = (z.length : Int) * n := by
        rw [Int.natCast_mul, Int.toNat_of_nonneg (by omega)]
      rw [← e]; omega
    have h3 : (z.length : Int) ≤ (2 ^ 63 - 1) / n := by
      rw [Int.le_ediv_iff_mul_le (by omega)]
      omega
    omega
  · rw [str_len]
    unfold Builtin.Str.tooLong
    exact decide_eq_false (by have := big_line hz; omega)
  · rw [mul_eq]
theorem op_repS : OpR X (binaryOp .Mult) (fun x y H Q => ∃ l k xs, x = .ref l ∧ y = .int k ∧ SqL X.K H l xs ∧ -(2 ^ 63) ≤ k ∧ k < 2 ^ 63 ∧ xs.length * k.toNat ≤ 1000000 ∧ ∀ p, H p = none → Q (.ref p) (upd H p (.lst (List.replicate k.toNat xs).flatten))) := by
  intro pins s σ H x y v u Q I rx ry h
  obtain ⟨l, k, xs, rfl, rfl, hH, h1, h2, hz, q⟩ := h
  cases rx
  obtain ⟨t, rfl⟩ := ry
  obtain ⟨its, r, p1, _⟩ := I.list hH
  have hl := r.length
  obtain ⟨⟨cls, dd, data, sl⟩, n, ho, hc, hdn, hd⟩ := p1
  simp only at hc hd hdn
  subst hc hd hdn
  have hz' := big_line hz
  have hlen : its.toArray.size * k.toNat ≤ sizeLine := by rw [List.size_toArray, ← hl]; exact hz'
  have hcap : ¬ its.toArray.size * k.toNat > (2 ^ 63 - 1) / 8 := by
    have : (sizeLine : Nat) ≤ (2 ^ 63 - 1) / 8 := by decide
    omega
  have hfit : ¬ (!Builtin.List.listFitsIndex k) = true := by
    rw [fitsIndex_both h1 h2]
    exact Bool.false_ne_true
  have hlong : ¬ Builtin.List.listTooLong (its.toArray.size * k.toNat) = true := by
    rw [notLongL hlen]
    exact Bool.false_ne_true
  have hnew : List.foldl (fun x1 x2 => x1 ++ x2) #[] (List.replicate (if its.toArray.isEmpty = true then 0 else k.toNat) its.toArray) = (List.replicate k.toNat its).flatten.toArray := by
    rw [size_rep]
    cases its with
    | nil => simp
    | cons a r' => rw [if_neg (by simp)]
  refine wpAny_binaryOp_repeat_ref (T := "list") (U := "int") (by decide) ⟨_, ho, rfl⟩ (fun s' => typeIs_int s' k t) noFill_list_mul PySem.F.fills_int_mul PySem.F.slot_int_rmul repeat_list PySem.F.slot_int_index.lookup
    (call_meets PySem.F.slot_int_rmul (typeIs_int s k t) PySem.F.entry_int_rmul (PySem.F.args_int_rmul_2 _ _) (rmul_listW k t l its.toArray n sl)
      ⟨ho, rfl, ⟨_, ho, rfl⟩, call_meets PySem.F.slot_list_mul ⟨_, ho, rfl⟩ PySem.F.entry_list_mul (PySem.F.args_list_mul_2 _ _) (list_mulW l its.toArray n sl k t hfit hcap hlong) ⟨ho, ?_⟩⟩)
  rw [hnew]
  exact ⟨.ref _, _, I.lnew (t' := s.toks) (r.rep k.toNat) (by rw [PyProof.Rows.lm_len_rep_flat, Nat.mul_comm]; exact hz'), rfl, q _ I.fresh⟩
end
/-! ### the binary operators -/
def bopOf : Bop → Operator
  | .add => .Add | .sub => .Sub | .mul => .Mult | .fdiv => .FloorDiv | .mod => .Mod | .pow => .Pow
section
variable {X : Cx} {c : Ct}
theorem rls_cut {K : PySem.W.Frag} {S : Sa} {H : Hp} {xs : List D} {vs : List V} (r : Rels K S H xs vs) (lo hi : Option Int) : Rels K S H (cut xs lo hi) (cutV vs lo hi) := by
  unfold cut cutV
  rw [r.length]
  exact (r.drop _).take _
theorem add_cases {d e z : D} (h : binop .add d e = some z) : (∃ i j, d = .int i ∧ e = .int j ∧ z = .int (i + j)) ∨ (∃ s t, d = .str s ∧ e = .str t ∧ s.length + t.length ≤ 1000000 ∧ z = .str (s ++ t)) ∨
    (∃ s t, d = .lst s ∧ e = .lst t ∧ s.length + t.length ≤ 1000000 ∧ z = .lst (s ++ t)) ∨ (∃ s t, d = .tup s ∧ e = .tup t ∧ s.length + t.length ≤ 1000000 ∧ z = .tup (s ++ t)) := by
  cases d <;> cases e <;> simp only [binop, Option.ite_none_right_eq_some, Option.some.injEq, reduceCtorEq] at h
  · exact .inl ⟨_, _, rfl, rfl, h.symm⟩
  · exact .inr (.inl ⟨_, _, rfl, rfl, h.1, h.2.symm⟩)
  · exact .inr (.inr (.inr ⟨_, _, rfl, rfl, h.1, h.2.symm⟩))
  · exact .inr (.inr (.inl ⟨_, _, rfl, rfl, h.1, h.2.symm⟩))
theorem rel_str {K : PySem.W.Frag} {S : Sa} {H : Hp} {s : List Nat} (h : s.length ≤ 1000000) (h2 : ∀ c ∈ s, c < 128) : Rel K S H (.str s) (strV s) := ⟨rfl, h, h2⟩
theorem str_app (s t : List Nat) : (⟨s.toArray⟩ : Str) ++ (⟨t.toArray⟩ : Str) = ⟨(s ++ t).toArray⟩ := by
  show Str.mk (s.toArray ++ t.toArray) = _
  rw [List.append_toArray]
theorem op2_add (hK : X.K = c.K) : ∃ r, OpR X (binaryOp .Add) r ∧ Op2 c r (fun x y μ => ofO (binop .add x y) μ) := by
  refine ⟨_, op_add.or (op_add_str.or (op_catS.or op_catA)), fun S γ μ σ H d e v w Q g rd re h => ?_⟩
  obtain ⟨z, hz, q⟩ := ofO_some h
  rcases add_cases hz with ⟨i, j, rfl, rfl, rfl⟩ | ⟨s, t, rfl, rfl, hl, rfl⟩ | ⟨s, t, rfl, rfl, hl, rfl⟩ | ⟨s, t, rfl, rfl, hl, rfl⟩
  · exact .inl ⟨i, j, rw_int rd, rw_int re, fin0 g q rfl⟩
  · obtain ⟨rfl, l1, a1⟩ := rw_str rd
    obtain ⟨rfl, l2, a2⟩ := rw_str re
    refine .inr (.inl ⟨_, _, rfl, rfl, by rw [str_len, str_len]; exact big_line hl, ?_⟩)
    rw [str_app]
    exact fin0 g q (rel_str (by rw [List.length_append]; exact hl) fun c hc => (List.mem_append.mp hc).elim (a1 c) (a2 c))
  · obtain ⟨a, vs, rfl, q1, r1⟩ := rw_lst rd
    obtain ⟨b, ws, rfl, q2, r2⟩ := rw_lst re
    refine .inr (.inr (.inl ⟨a, b, vs, ws, rfl, rfl, by rw [hK]; exact q1, by rw [hK]; exact q2, by rw [r1.length, r2.length]; exact big_line hl, fin_lst g q (r1.append r2)⟩))
  · obtain ⟨a, vs, rfl, q1, r1⟩ := id rd
    obtain ⟨b, ws, rfl, q2, r2⟩ := id re
    refine .inr (.inr (.inr ⟨a, b, vs, ws, rfl, rfl, by rw [hK]; exact q1.sq, by rw [hK]; exact q2.sq, by rw [r1.length, r2.length]; exact big_line hl, fun hn => ?_, fun _ hn => ?_, fun hn1 hn2 => fin_tup g q (r1.append r2)⟩))
    · have e : s = [] := by
        have := r1.length
        rw [hn] at this
        exact List.length_eq_zero_iff.mp this.symm
      subst e
      exact fin0 g q re
    · have e : t = [] := by
        have := r2.length
        rw [hn] at this
        exact List.length_eq_zero_iff.mp this.symm
      subst e
      rw [List.append_nil] at q
      exact fin0 g q rd
theorem op2_sub : Op2 c (rI0 fun i j => .int (i - j)) (fun x y μ => ofO (binop .sub x y) μ) := fun S γ μ σ H d e v w Q g rd re h => by
  obtain ⟨z, hz, q⟩ := ofO_some h
  cases d <;> cases e <;> simp only [binop, Option.some.injEq, reduceCtorEq] at hz
  subst hz
  exact ⟨_, _, rw_int rd, rw_int re, fin0 g q rfl⟩
theorem op2_fdiv : Op2 c (rI CDiv fun i j => .int (i / j)) (fun x y μ => ofO (binop .fdiv x y) μ) := fun S γ μ σ H d e v w Q g rd re h => by
  obtain ⟨z, hz, q⟩ := ofO_some h
  cases d <;> cases e <;> simp only [binop, Option.ite_none_right_eq_some, Option.some.injEq, reduceCtorEq, Bool.and_eq_true, decide_eq_true_eq] at hz
  obtain ⟨hc, rfl⟩ := hz
  exact ⟨_, _, rw_int rd, rw_int re, hc, fin0 g q rfl⟩
theorem op2_mod : Op2 c (rI (fun _ j => 0 < j) fun i j => .int (i % j)) (fun x y μ => ofO (binop .mod x y) μ) := fun S γ μ σ H d e v w Q g rd re h => by
  obtain ⟨z, hz, q⟩ := ofO_some h
  cases d <;> cases e <;> simp only [binop, Option.ite_none_right_eq_some, Option.some.injEq, reduceCtorEq, Bool.and_eq_true, decide_eq_true_eq] at hz
  obtain ⟨hc, rfl⟩ := hz
  exact ⟨_, _, rw_int rd, rw_int re, hc, fin0 g q rfl⟩
theorem op2_pow : Op2 c (rI CPow fun i j => .int (i ^ j.toNat)) (fun x y μ => ofO (binop .pow x y) μ) := fun S γ μ σ H d e v w Q g rd re h => by
  obtain ⟨z, hz, q⟩ := ofO_some h
  cases d <;> cases e <;> simp only [binop, Option.ite_none_right_eq_some, Option.some.injEq, reduceCtorEq, Bool.and_eq_true, decide_eq_true_eq] at hz
  obtain ⟨⟨⟨h1, h2⟩, h3⟩, rfl⟩ := hz
  exact ⟨_, _, rw_int rd, rw_int re, ⟨h1, by omega, h3⟩, fin0 g q rfl⟩
theorem mem_rep {n : Nat} {s : List Nat} {x : Nat} (h : x ∈ (List.replicate n s).flatten) : x ∈ s := by
  obtain ⟨l, hl, hx⟩ := List.mem_flatten.mp h
  rw [List.eq_of_mem_replicate hl] at hx
  exact hx
theorem Rels.rep {K : PySem.W.Frag} {S : Sa} {H : Hp} {ds : List D} {vs : List V} (h : Rels K S H ds vs) : ∀ n : Nat, Rels K S H (List.replicate n ds).flatten (List.replicate n vs).flatten
  | 0 => rfl
  | n + 1 => by
    rw [List.replicate_succ, List.replicate_succ, List.flatten_cons, List.flatten_cons]
    exact h.append (Rels.rep h n)
theorem op2_mul (hK : X.K = c.K) : ∃ r, OpR X (binaryOp .Mult) r ∧ Op2 c r (fun x y μ => ofO (binop .mul x y) μ) := by
  refine ⟨_, op_mul.or (op_mulS.or (op_repT.or op_repS)), fun S γ μ σ H d e v w Q g rd re h => ?_⟩
  obtain ⟨z, hz, q⟩ := ofO_some h
  cases d <;> cases e <;> simp only [binop, Option.ite_none_right_eq_some, Option.some.injEq, reduceCtorEq] at hz
  · obtain ⟨hc, rfl⟩ := hz
    refine .inl ⟨_, _, rw_int rd, rw_int re, ?_, fin0 g q rfl⟩
    unfold small at hc
    simp only [Bool.or_eq_true, Bool.and_eq_true, decide_eq_true_eq] at hc
    exact hc
  · obtain ⟨hc, rfl⟩ := hz
    simp only [Bool.and_eq_true, decide_eq_true_eq] at hc
    obtain ⟨e1, l1, a1⟩ := rw_str rd
    refine .inr (.inl ⟨_, _, e1, rw_int re, hc.1, hc.2.1, hc.2.2, fin0 g q (rel_str ?_ fun x hx => a1 x (mem_rep hx))⟩)
    rw [List.length_flatten, List.map_replicate, List.sum_replicate_nat, Nat.mul_comm]
    exact hc.1
  · obtain ⟨hc, rfl⟩ := hz
    simp only [Bool.and_eq_true, decide_eq_true_eq, Bool.not_eq_true'] at hc
    obtain ⟨a, vs, rfl, q1, r1⟩ := rw_tup rd
    have hl := r1.length
    refine .inr (.inr (.inl ⟨a, _, vs, rfl, rw_int re, by rw [hK]; exact q1, fun z => ?_, hc.1.1, hc.1.2, by rw [hl]; exact hc.2.2, fin_tup g q (r1.rep _)⟩))
    rename_i s _
    rw [z] at hl
    have e0 : s = [] := List.length_eq_zero_iff.mp hl.symm
    rw [e0] at hc
    exact absurd hc.2.1 (by simp)
  · obtain ⟨hc, rfl⟩ := hz
    simp only [Bool.and_eq_true, decide_eq_true_eq] at hc
    obtain ⟨a, vs, rfl, q1, r1⟩ := rw_lst rd
    exact .inr (.inr (.inr ⟨a, _, vs, rfl, rw_int re, by rw [hK]; exact q1, by omega, by omega, by rw [r1.length]; exact hc.1, fin_lst g q (r1.rep _)⟩))
theorem op2_bin (hK : X.K = c.K) (o : Bop) : ∃ r, OpR X (binaryOp (bopOf o)) r ∧ Op2 c r (fun x y μ => ofO (binop o x y) μ) := by
  cases o with
  | add => exact op2_add hK
  | sub => exact ⟨_, op_sub, op2_sub⟩
  | mul => exact op2_mul hK
  | fdiv => exact ⟨_, op_fdiv, op2_fdiv⟩
  | mod => exact ⟨_, op_mod, op2_mod⟩
  | pow => exact ⟨_, op_pow, op2_pow⟩
end
end Bs
/-! Bs: comparisons, subscripts, slices. -/
namespace Bs
open PySem L2
mutual
def toPy : D → PyData
  | .non => .none
  | .bl b => .bool b
  | .int i => .int i
  | .str s => .str ⟨s.toArray⟩
  | .tup xs => .tuple (toPys xs)
  | .lst xs => .list (toPys xs)
  | _ => .none
def toPys : List D → List PyData
  | [] => []
  | x :: xs => toPy x :: toPys xs
end
section
variable {K : PySem.W.Frag} {T S : Sa} {H : Hp}
mutual
theorem Rel.dp : ∀ (n : Nat) (d : D) (v : V), plain n d = true → Rel K S H d v → Dp K H v (toPy d)
  | _, .non, _, _, h => by rw [show _ = V.non from h]; exact .non
  | _, .bl _, _, _, h => by rw [show _ = V.bl _ from h]; exact .bl _
  | _, .int _, _, _, h => by rw [show _ = V.int _ from h]; exact .int _
  | _, .str _, _, _, h => by rw [h.1]; exact .str _
  | 0, .tup _, _, p, _ => by simp [plain] at p
  | n + 1, .tup xs, v, p, h => by
    obtain ⟨a, vs, rfl, q, r⟩ := h
    exact .tup q.sq (Rels.dp n xs vs (by simpa [plain] using p) r)
  | 0, .lst _, _, p, _ => by simp [plain] at p
  | n + 1, .lst xs, v, p, h => by
    obtain ⟨a, vs, rfl, q, r⟩ := h
    exact .lst q.sq (Rels.dp n xs vs (by simpa [plain] using p) r)
  | _, .dic _, _, p, _ => by simp [plain] at p
  | _, .obj _ _, _, p, _ => by simp [plain] at p
  | _, .loc _, _, p, _ => by simp [plain] at p
theorem Rels.dp : ∀ (n : Nat) (ds : List D) (vs : List V), plains n ds = true → Rels K S H ds vs → DpAll K H vs (toPys ds)
  | _, [], _, _, h => by rw [show _ = [] from h]; exact .nil
  | n, d :: r, vs, p, h => by
    obtain ⟨v, ws, rfl, q, z⟩ := h
    simp only [plains, Bool.and_eq_true] at p
    exact .cons (Rel.dp n d v p.1 q) (Rels.dp n r ws p.2 z)
end
theorem RelW.dp {n : Nat} {d : D} {v : V} (p : plain n d = true) (h : RelW K T S H d v) : Dp K H v (toPy d) := by
  cases d with
  | lst xs =>
    obtain ⟨a, vs, rfl, q, r⟩ := h
    cases n with
    | zero => simp [plain] at p
    | succ n => exact .lst q.sq (Rels.dp n xs vs (by simpa [plain] using p) r)
  | non => exact Rel.dp (S := S) n _ v p h
  | bl _ => exact Rel.dp (S := S) n _ v p h
  | int _ => exact Rel.dp (S := S) n _ v p h
  | str _ => exact Rel.dp (S := S) n _ v p h
  | tup _ => exact Rel.dp (S := S) n _ v p h
  | dic _ => simp [plain] at p
  | obj _ _ => exact Rel.dp (S := S) n _ v p h
  | loc _ => exact Rel.dp (S := S) n _ v p h
theorem strOk_of {s : List Nat} (h : ∀ c ∈ s, c < 128) : PyData.strOk ⟨s.toArray⟩ = true := by
  unfold PyData.strOk
  rw [Array.all_eq_true']
  intro x hx
  have := h x (by simpa using hx)
  simp; omega
mutual
theorem Rel.lay : ∀ (d : D) (v : V), Rel K S H d v → PyData.canLay0 (toPy d) = true
  | .non, _, _ => rfl
  | .bl _, _, _ => rfl
  | .int _, _, _ => rfl
  | .str s, _, h => by simp only [toPy, PyData.canLay0]; exact strOk_of h.2.2
  | .tup xs, v, h => by
    obtain ⟨a, vs, rfl, q, r⟩ := h
    simp only [toPy, PyData.canLay0]
    exact Rels.lay xs vs r
  | .lst xs, v, h => by
    obtain ⟨a, vs, rfl, q, r⟩ := h
    simp only [toPy, PyData.canLay0]
    exact Rels.lay xs vs r
  | .dic _, _, _ => rfl
  | .obj _ _, _, _ => rfl
  | .loc _, _, _ => rfl
theorem Rels.lay : ∀ (ds : List D) (vs : List V), Rels K S H ds vs → PyData.canLayAll0 (toPys ds) = true
  | [], _, _ => rfl
  | d :: r, vs, h => by
    obtain ⟨v, ws, rfl, q, z⟩ := h
    simp only [toPys, PyData.canLayAll0, Bool.and_eq_true]
    exact ⟨Rel.lay d v q, Rels.lay r ws z⟩
end
mutual
theorem depth_le : ∀ (n : Nat) (d : D), plain n d = true → (toPy d).depth ≤ n
  | _, .non, _ => Nat.zero_le _
  | _, .bl _, _ => Nat.zero_le _
  | _, .int _, _ => Nat.zero_le _
  | _, .str _, _ => by simp [toPy, PyData.depth]
  | 0, .tup _, p => by simp [plain] at p
  | n + 1, .tup xs, p => by
    simp only [toPy, PyData.depth]
    have := depths_le n xs (by simpa [plain] using p)
    omega
  | 0, .lst _, p => by simp [plain] at p
  | n + 1, .lst xs, p => by
    simp only [toPy, PyData.depth]
    have := depths_le n xs (by simpa [plain] using p)
    omega
  | _, .dic _, p => by simp [plain] at p
  | _, .obj _ _, p => by simp [plain] at p
  | _, .loc _, p => by simp [plain] at p
theorem depths_le : ∀ (n : Nat) (ds : List D), plains n ds = true → PyData.depthAll (toPys ds) ≤ n
  | _, [], _ => Nat.zero_le _
  | n, d :: r, p => by
    simp only [plains, Bool.and_eq_true] at p
    simp only [toPys, PyData.depthAll]
    have := depth_le n d p.1
    have := depths_le n r p.2
    omega
end
theorem RelW.lay {d : D} {v : V} (h : RelW K T S H d v) : PyData.canLay0 (toPy d) = true := by
  cases d with
  | lst xs =>
    obtain ⟨a, vs, rfl, q, r⟩ := h
    simp only [toPy, PyData.canLay0]
    exact Rels.lay xs vs r
  | non => rfl
  | bl _ => exact Rel.lay (K := K) (S := S) (H := H) _ v h
  | int _ => exact Rel.lay (K := K) (S := S) (H := H) _ v h
  | str _ => exact Rel.lay (K := K) (S := S) (H := H) _ v h
  | tup _ => exact Rel.lay (K := K) (S := S) (H := H) _ v h
  | dic _ => rfl
  | obj _ _ => exact Rel.lay (K := K) (S := S) (H := H) _ v h
  | loc _ => exact Rel.lay (K := K) (S := S) (H := H) _ v h
theorem RelW.shaped {d : D} {v : V} (p : plain 60 d = true) (h : RelW K T S H d v) : SeqAt.shaped (toPy d) = true := by
  unfold SeqAt.shaped
  rw [h.lay, decide_eq_true (Nat.le_trans (depth_le 60 d p) (by decide))]
  rfl
end
theorem str_beq (x y : List Nat) : ((⟨x.toArray⟩ : Str) == ⟨y.toArray⟩) = (x == y) := by
  rw [Bool.eq_iff_iff]
  simp
mutual
theorem eqv_eq : ∀ (n m : Nat) (a b : D), plain n a = true → plain m b = true → PyData.eqv (toPy a) (toPy b) = eqB a b
  | _, _, .non, b, _, q => by cases b <;> first | rfl | (simp [plain] at q; done)
  | _, _, .bl _, b, _, q => by cases b <;> first | rfl | (simp [plain] at q; done)
  | _, _, .int _, b, _, q => by cases b <;> first | rfl | (simp [plain] at q; done)
  | _, _, .str x, b, _, q => by
    cases b <;> first | rfl | (simp [plain] at q; done) | skip
    simp only [toPy, PyData.eqv, eqB]
    exact str_beq _ _
  | 0, _, .tup _, _, p, _ => by simp [plain] at p
  | n + 1, m, .tup xs, b, p, q => by
    cases b <;> first | rfl | (simp [plain] at q; done) | skip
    cases m with
    | zero => simp [plain] at q
    | succ m =>
      simp only [toPy, PyData.eqv, eqB]
      exact eqvs_eq n m _ _ (by simpa [plain] using p) (by simpa [plain] using q)
  | 0, _, .lst _, _, p, _ => by simp [plain] at p
  | n + 1, m, .lst xs, b, p, q => by
    cases b <;> first | rfl | (simp [plain] at q; done) | skip
    cases m with
    | zero => simp [plain] at q
    | succ m =>
      simp only [toPy, PyData.eqv, eqB]
      exact eqvs_eq n m _ _ (by simpa [plain] using p) (by simpa [plain] using q)
  | _, _, .dic _, _, p, _ => by simp [plain] at p
  | _, _, .obj _ _, _, p, _ => by simp [plain] at p
  | _, _, .loc _, _, p, _ => by simp [plain] at p
theorem eqvs_eq : ∀ (n m : Nat) (a b : List D), plains n a = true → plains m b = true → PyData.eqvAll (toPys a) (toPys b) = eqBs a b
  | _, _, [], [], _, _ => rfl
  | _, _, [], _ :: _, _, _ => rfl
  | _, _, _ :: _, [], _, _ => rfl
  | n, m, x :: xs, y :: ys, p, q => by
    simp only [plains, Bool.and_eq_true] at p q
    simp only [toPys, PyData.eqvAll, eqBs]
    rw [eqv_eq n m x y p.1 q.1, eqvs_eq n m xs ys p.2 q.2]
end
/-! ### the comparisons -/
mutual
theorem plain_mono : ∀ (n m : Nat) (d : D), n ≤ m → plain n d = true → plain m d = true
  | _, _, .non, _, _ => rfl
  | _, _, .bl _, _, _ => rfl
  | _, _, .int _, _, _ => rfl
  | _, _, .str _, _, _ => by simp [plain]
  | 0, _, .tup _, _, p => by simp [plain] at p
  | n + 1, 0, .tup _, h, _ => by omega
  | n + 1, m + 1, .tup xs, h, p => by
    simp only [plain] at p ⊢
    exact plains_mono n m xs (by omega) p
  | 0, _, .lst _, _, p => by simp [plain] at p
  | n + 1, 0, .lst _, h, _ => by omega
  | n + 1, m + 1, .lst xs, h, p => by
    simp only [plain] at p ⊢
    exact plains_mono n m xs (by omega) p
  | _, _, .dic _, _, p => by simp [plain] at p
  | _, _, .obj _ _, _, p => by simp [plain] at p
  | _, _, .loc _, _, p => by simp [plain] at p
theorem plains_mono : ∀ (n m : Nat) (ds : List D), n ≤ m → plains n ds = true → plains m ds = true
  | _, _, [], _, _ => rfl
  | n, m, d :: r, h, p => by
    simp only [plains, Bool.and_eq_true] at p ⊢
    exact ⟨plain_mono n m d h p.1, plains_mono n m r h p.2⟩
end
def cmOf : Cm → CmpOp
  | .eq => .Eq | .ne => .NotEq | .lt => .Lt | .le => .LtE | .gt => .Gt | .ge => .GtE | .in_ => .In | .nin => .NotIn | .is_ => .Is | .isn => .IsNot
section
variable {X : Cx} {c : Ct}
/-! ### dicts compared -/
/-- what a dict's look-ups in another one answer, pair by pair -/
inductive Hits (K : PySem.W.Frag) (H : Hp) (ls : List (Key × V)) : List (Key × V) → Bool → Prop
  | nil : Hits K H ls [] true
  | miss (p : Key × V) (r : List (Key × V)) : valV ls p.1 = none → Hits K H ls (p :: r) false
  | hit (p : Key × V) (r : List (Key × V)) (u : V) (d e : PyData) (b : Bool) : valV ls p.1 = some u → Dp K H p.2 d → Dp K H u e → SeqAt.shaped d = true → SeqAt.shaped e = true → Hits K H ls r b → Hits K H ls (p :: r) (PyData.eqv d e && b)
theorem hits_go {pins : List (Addr × Obj)} {σ : L2.St} {H : Hp} {s : Shared} (I : Inv X pins σ H s) {A : Around} (hu : A.in1.units + 64 < cLine) {ls : List (Key × V)} {vb : List (Key × Value)} (rb : KV ls vb) {ks : List (Key × V)} {va : List (Key × Value)} (ra : KV ks va) : ∀ {b : Bool}, Hits X.K H ls ks b → PySem.W.KeqHits A.in1 s vb va b := by
  unfold KV at ra
  induction ra with
  | nil => intro b h; cases h; exact .nil
  | @cons p q ps qs h t ih =>
    intro b hh
    obtain ⟨h1, h2⟩ := h
    obtain ⟨k, v⟩ := q
    have h1' : p.1 = k := h1
    cases hh with
    | miss _ _ e =>
      rw [h1'] at e
      refine .miss ?_
      have rr : RelO (none : Option V) (valueAt vb k) := by rw [← e]; exact rb.val k
      cases ev : valueAt vb k with
      | none => rfl
      | some y => rw [ev] at rr; exact rr.elim
    | hit _ _ u d e b' eu d1 d2 s1 s2 hr =>
      have rr : RelO (some u) (valueAt vb p.1) := by rw [← eu]; exact rb.val p.1
      obtain ⟨y, hy, ry⟩ := rr.some_of
      rw [h1'] at hy
      obtain ⟨as, r1⟩ := Dp.reads I d p.2 v d1 h2
      obtain ⟨bs, r2⟩ := Dp.reads I e u y d2 ry
      exact .hit hy (PySem.W.keq_at r1 r2 s1 s2 hu) (ih hr)
def rEqH (K : PySem.W.Frag) (n : Bool) : R2 := fun x y H Q => ∃ a b ks ls r, x = .ref a ∧ y = .ref b ∧ Rd H a (.dK ks) ∧ Rd H b (.dK ls) ∧ Hits K H ls ks r ∧ Q (.bl (if n then !(ks.length == ls.length && r) else (ks.length == ls.length && r))) H
theorem op_eqH (hu : X.A.units + 65 < cLine) : OpR X (compareOp .Eq) (rEqH X.K false) := by
  intro pins s σ H x y v u Q I rx ry h
  obtain ⟨a, b, ks, ls, r, rfl, rfl, ea, eb, hh, q⟩ := h
  obtain rfl : v = Value.ref a := rx
  obtain rfl : u = Value.ref b := ry
  obtain ⟨_, ya, va, ra, da⟩ := dk_rd I.hok ea
  obtain ⟨_, yb, vb, rb, db⟩ := dk_rd I.hok eb
  refine PySem.W.keq_eq (knd := mixKind X.prog X.w) (r := r) ya yb da db (by omega) (fun _ => hits_go I (by show X.A.units + 1 + 64 < cLine; omega) rb ra hh) ?_
  rw [← ra.length, ← rb.length]
  exact ⟨.bl _, H, I, rfl, q⟩
theorem op_neH (hu : X.A.units + 65 < cLine) : OpR X (compareOp .NotEq) (rEqH X.K true) := by
  intro pins s σ H x y v u Q I rx ry h
  obtain ⟨a, b, ks, ls, r, rfl, rfl, ea, eb, hh, q⟩ := h
  obtain rfl : v = Value.ref a := rx
  obtain rfl : u = Value.ref b := ry
  obtain ⟨_, ya, va, ra, da⟩ := dk_rd I.hok ea
  obtain ⟨_, yb, vb, rb, db⟩ := dk_rd I.hok eb
  refine PySem.W.keq_ne (knd := mixKind X.prog X.w) (r := r) ya yb da db (by omega) (fun _ => hits_go I (by show X.A.units + 1 + 64 < cLine; omega) rb ra hh) ?_
  rw [← ra.length, ← rb.length]
  exact ⟨.bl _, H, I, rfl, q⟩
theorem getV_of {K : PySem.W.Frag} {S : Sa} {H : Hp} {k : Key} : ∀ {ps : List (D × D)} {vs : List (Key × V)}, RelP K S H ps vs → match getD k ps with
    | some d => ∃ v, valV vs k = some v ∧ Rel K S H d v
    | none => valV vs k = none
  | [], _, h => by rw [show _ = [] from h]; rfl
  | (kd, ke) :: r, vs, h => by
    obtain ⟨k', v, ws, rfl, ⟨hk, _, hr⟩, h2⟩ := h
    unfold getD
    by_cases e : k' = k
    · subst e
      rw [if_pos hk]
      exact ⟨v, valV_pos rfl, hr⟩
    · have hn : ¬ keyD kd = some k := fun z => by rw [hk] at z; exact e (Option.some.inj z)
      rw [if_neg hn, valV_neg e]
      exact getV_of h2
theorem hits_of {K : PySem.W.Frag} {S S' T : Sa} {H : Hp} {ls : List (D × D)} {vl : List (Key × V)} (rl : RelP K S' H ls vl) (pl : valsP ls = true) : ∀ {ks : List (D × D)} {vk : List (Key × V)}, RelP K S H ks vk → valsP ks = true → Hits K H vl vk (hitsB ls ks)
  | [], _, h, _ => by rw [show _ = [] from h]; exact .nil
  | (kd, ke) :: r, vs, h, p => by
    obtain ⟨k', v, ws, rfl, ⟨hk, _, hr⟩, h2⟩ := h
    unfold valsP at p pl
    rw [List.all_cons, Bool.and_eq_true, Bool.and_eq_true] at p
    have ih := hits_of (T := T) rl (by unfold valsP; exact pl) h2 (by unfold valsP; exact p.2)
    unfold hitsB
    dsimp only at hk ⊢
    rw [hk]
    have hg := getV_of (k := k') rl
    dsimp only
    cases e : getD k' ls with
    | none => rw [e] at hg; exact .miss _ _ hg
    | some w =>
      rw [e] at hg
      obtain ⟨u, eu, ru⟩ := hg
      have pw : plain 55 w = true := by
        have : ∀ l : List (D × D), getD k' l = some w → ∃ q ∈ l, q.2 = w := by
          intro l
          induction l with
          | nil => intro h; cases h
          | cons q l ih =>
            intro h
            unfold getD at h
            by_cases hq : keyD q.1 = some k'
            · rw [if_pos hq] at h; cases h; exact ⟨q, List.mem_cons_self, rfl⟩
            · rw [if_neg hq] at h
              obtain ⟨q', m, e⟩ := ih h
              exact ⟨q', List.mem_cons_of_mem _ m, e⟩
        obtain ⟨q', m, rfl⟩ := this ls e
        have := List.all_eq_true.mp pl q' m
        rw [Bool.and_eq_true] at this
        exact this.2
      dsimp only
      rw [← eqv_eq 55 55 ke w p.1.2 pw]
      exact .hit (k', v) ws u _ _ _ eu (Rel.dp 55 ke v p.1.2 hr) (Rel.dp 55 w u pw ru) ((Rel.weak hr (T := fun _ => False) fun _ z => z.elim).shaped (plain_mono 55 60 _ (by decide) p.1.2)) ((Rel.weak ru (T := fun _ => False) fun _ z => z.elim).shaped (plain_mono 55 60 _ (by decide) pw)) ih
theorem okK_of {K : PySem.W.Frag} {S : Sa} {H : Hp} {d : D} {v : V} (h : Rel K S H d v) : okK d := by
  cases d with
  | str s => exact h.2
  | _ => trivial
/-- a key as a value -/
theorem key_rel {K : PySem.W.Frag} {S : Sa} {H : Hp} {d : D} {k : Key} (h : keyD d = some k) (o : okK d) : Rel K S H d (kV k) := by
  cases d with
  | int i => cases h; rfl
  | str t => cases h; exact ⟨rfl, o⟩
  | _ => cases h
theorem relP_get {K : PySem.W.Frag} {S : Sa} {H : Hp} : ∀ {ps : List (D × D)} {vs : List (Key × V)} {i : Nat} {k : Key} {v : V}, RelP K S H ps vs → vs[i]? = some (k, v) → ∃ d e, ps[i]? = some (d, e) ∧ keyD d = some k ∧ okK d ∧ Rel K S H e v
  | [], _, _, _, _, h, e => by rw [show _ = [] from h] at e; simp at e
  | (d, e) :: r, vs, i, k, v, h, ei => by
    obtain ⟨k', v', ws, rfl, ⟨h1, h2, h3⟩, h4⟩ := h
    cases i with
    | zero => simp at ei; obtain ⟨rfl, rfl⟩ := ei; exact ⟨d, e, rfl, h1, h2, h3⟩
    | succ i => simp at ei; simpa using relP_get h4 ei
theorem relP_len {K : PySem.W.Frag} {S : Sa} {H : Hp} : ∀ {ps : List (D × D)} {vs : List (Key × V)}, RelP K S H ps vs → vs.length = ps.length
  | [], _, h => by rw [show _ = [] from h]; rfl
  | q :: r, vs, h => by
    obtain ⟨k', v, ws, rfl, _, h2⟩ := h
    rw [List.length_cons, List.length_cons, relP_len h2]
theorem eq_cases {d e : D} {z : D} (h : compare .eq d e = some z) : (∃ b, z = .bl b ∧ (plain 60 d = true ∧ plain 60 e = true) ∧ eqB d e = b) ∨ ∃ ks ls, d = .dic ks ∧ e = .dic ls ∧ (valsP ks = true ∧ valsP ls = true) ∧ z = .bl ((ks.length == ls.length) && hitsB ls ks) := by
  by_cases hd : ∃ ks ls, d = .dic ks ∧ e = .dic ls
  · obtain ⟨ks, ls, rfl, rfl⟩ := hd
    simp only [compare, eqDic, Option.map_eq_some_iff, Option.ite_none_right_eq_some, Bool.and_eq_true] at h
    obtain ⟨b, ⟨p, hb⟩, rfl⟩ := h
    cases hb
    exact .inr ⟨ks, ls, rfl, rfl, p, rfl⟩
  · have h' : (eqD d e).map D.bl = some z := by
        cases d <;> cases e <;> first | exact h | exact absurd ⟨_, _, rfl, rfl⟩ hd
    simp only [eqD, Option.map_eq_some_iff, Option.ite_none_right_eq_some, Bool.and_eq_true] at h'
    obtain ⟨b, ⟨p, hb⟩, rfl⟩ := h'
    cases hb
    exact .inl ⟨_, rfl, p, rfl⟩
theorem ne_eq {d e : D} : compare .ne d e = (compare .eq d e).map fun z => match z with | .bl b => .bl !b | z => z := by
  by_cases hd : ∃ ks ls, d = .dic ks ∧ e = .dic ls
  · obtain ⟨ks, ls, rfl, rfl⟩ := hd
    simp only [compare, Option.map_map]
    rfl
  · have h1 : compare .eq d e = (eqD d e).map D.bl := by
      cases d <;> cases e <;> first | rfl | exact absurd ⟨_, _, rfl, rfl⟩ hd
    have h2 : compare .ne d e = (eqD d e).map fun r => D.bl !r := by
      cases d <;> cases e <;> first | rfl | exact absurd ⟨_, _, rfl, rfl⟩ hd
    rw [h1, h2, Option.map_map]
    rfl
theorem op2_eq (hK : X.K = c.K) : Op2 c (fun x y H Q => rEqD X.K x y H Q ∨ rEqH X.K false x y H Q) (fun x y μ => ofO (compare .eq x y) μ) := fun S γ μ σ H d e v w Q g rd re h => by
  obtain ⟨z, hz, q⟩ := ofO_some h
  rcases eq_cases hz with ⟨b, rfl, ⟨p1, p2⟩, rfl⟩ | ⟨ks, ls, rfl, rfl, ⟨p1, p2⟩, rfl⟩
  · rw [hK]
    refine .inl ⟨toPy d, toPy e, rd.dp p1, re.dp p2, rd.shaped p1, re.shaped p2, ?_⟩
    rw [eqv_eq 60 60 d e p1 p2]
    exact fin0 g q rfl
  · obtain ⟨a, va, rfl, ra, pa⟩ := rw_dic rd
    obtain ⟨b, vb, rfl, rb, pb⟩ := rw_dic re
    refine .inr ⟨a, b, va, vb, _, rfl, rfl, ra, rb, by rw [hK]; exact hits_of (T := S) pb p2 pa p1, ?_⟩
    rw [if_neg (by simp), relP_len pa, relP_len pb]
    exact fin0 g q rfl
theorem op2_ne (hK : X.K = c.K) : Op2 c (fun x y H Q => rNeD X.K x y H Q ∨ rEqH X.K true x y H Q) (fun x y μ => ofO (compare .ne x y) μ) := fun S γ μ σ H d e v w Q g rd re h => by
  obtain ⟨z, hz, q⟩ := ofO_some h
  rw [ne_eq] at hz
  obtain ⟨z1, hz1, rfl⟩ := Option.map_eq_some_iff.mp hz
  rcases eq_cases hz1 with ⟨b, rfl, ⟨p1, p2⟩, rfl⟩ | ⟨ks, ls, rfl, rfl, ⟨p1, p2⟩, rfl⟩
  · rw [hK]
    refine .inl ⟨toPy d, toPy e, rd.dp p1, re.dp p2, rd.shaped p1, re.shaped p2, ?_⟩
    rw [eqv_eq 60 60 d e p1 p2]
    exact fin0 g q rfl
  · obtain ⟨a, va, rfl, ra, pa⟩ := rw_dic rd
    obtain ⟨b, vb, rfl, rb, pb⟩ := rw_dic re
    refine .inr ⟨a, b, va, vb, _, rfl, rfl, ra, rb, by rw [hK]; exact hits_of (T := S) pb p2 pa p1, ?_⟩
    rw [if_pos rfl, relP_len pa, relP_len pb]
    exact fin0 g q rfl
theorem flat_V {K : PySem.W.Frag} {T S : Sa} {H : Hp} {d : D} {v : V} (f : flat d = true) (h : RelW K T S H d v) : flatV v = true := by
  cases d <;> simp only [flat, Bool.false_eq_true] at f
  · rw [rw_non h]; rfl
  · rw [rw_bl h]; rfl
  · rw [rw_int h]; rfl
  · rw [(rw_str h).1]; rfl
theorem eqV_eq {K : PySem.W.Frag} {T T' S S' : Sa} {H : Hp} {d e : D} {v w : V} (f : flat d = true) (f' : flat e = true) (h : RelW K T S H d v) (h' : RelW K T' S' H e w) : eqV v w = eqB d e := by
  cases d <;> simp only [flat, Bool.false_eq_true] at f <;> cases e <;> simp only [flat, Bool.false_eq_true] at f'
  all_goals first
    | (rw [rw_non h]; first | (rw [rw_non h']; rfl) | (rw [rw_bl h']; rfl) | (rw [rw_int h']; rfl) | (rw [(rw_str h').1]; rfl))
    | (rw [rw_bl h]; first | (rw [rw_non h']; rfl) | (rw [rw_bl h']; rfl) | (rw [rw_int h']; rfl) | (rw [(rw_str h').1]; rfl))
    | (rw [rw_int h]; first | (rw [rw_non h']; rfl) | (rw [rw_bl h']; rfl) | (rw [rw_int h']; rfl) | (rw [(rw_str h').1]; rfl))
    | (rw [(rw_str h).1]; first | (rw [rw_non h']; rfl) | (rw [rw_bl h']; rfl) | (rw [rw_int h']; rfl) | (rw [(rw_str h').1]; simp only [strV, eqV, eqB]; exact str_beq _ _))
theorem inV_eq {K : PySem.W.Frag} {T S : Sa} {H : Hp} {d : D} {v : V} (f : flat d = true) (h : RelW K T S H d v) : ∀ (ys : List D) (vs : List V), ys.all flat = true → Rels K S H ys vs → vs.all flatV = true ∧ inV v vs = ys.any fun y => eqB y d
  | [], _, _, r => by rw [show _ = [] from r]; exact ⟨rfl, rfl⟩
  | y :: ys, vs, p, r => by
    obtain ⟨w, ws, rfl, q, z⟩ := r
    simp only [List.all_cons, Bool.and_eq_true] at p
    obtain ⟨h1, h2⟩ := inV_eq f h ys ws p.2 z
    have qw : RelW K S S H y w := q.weak fun _ z => z
    refine ⟨by simp only [List.all_cons, h1, Bool.and_true]; exact flat_V p.1 qw, ?_⟩
    have e1 := eqV_eq p.1 f qw h
    unfold inV at h2 ⊢
    rw [List.any_cons, List.any_cons, e1, h2]
theorem in_cases {d e : D} {b : Bool} (h : inX d e = some b) : (∃ a s, d = .str [a] ∧ e = .str s ∧ b = s.contains a) ∨ (∃ ys, (e = .lst ys ∨ e = .tup ys) ∧ (flat d = true ∧ ys.all flat = true) ∧ b = ys.any fun y => eqB y d) ∨ (∃ ys, e = .lst ys ∧ (plain 58 d = true ∧ plains 58 ys = true) ∧ b = ys.any fun y => eqB y d) ∨ (∃ kvs k, e = .dic kvs ∧ keyD d = some k ∧ b = (getD k kvs).isSome) := by
  cases e with
  | dic kvs =>
    obtain ⟨k, hk, rfl⟩ := Option.map_eq_some_iff.mp (show (keyD d).map (fun k => (getD k kvs).isSome) = some b from h)
    exact .inr (.inr (.inr ⟨kvs, k, rfl, hk, rfl⟩))
  | str s =>
    cases d <;> try (simp [inX] at h; done)
    rename_i t
    match t with
    | [] => simp [inX] at h
    | [a] => simp only [inX, Option.some.injEq] at h; exact .inl ⟨a, s, rfl, rfl, h.symm⟩
    | _ :: _ :: _ => simp [inX] at h
  | lst ys =>
    simp only [inX, inD, Option.ite_none_right_eq_some, Bool.or_eq_true, Bool.and_eq_true, Option.some.injEq] at h
    rcases h.1 with z | z
    · exact .inr (.inl ⟨ys, .inl rfl, z, h.2.symm⟩)
    · exact .inr (.inr (.inl ⟨ys, rfl, z, h.2.symm⟩))
  | tup ys =>
    simp only [inX, inF, Option.ite_none_right_eq_some, Bool.and_eq_true, Option.some.injEq] at h
    exact .inr (.inl ⟨ys, .inr rfl, h.1, h.2.symm⟩)
  | _ => simp [inX] at h
theorem any_eqv {n m : Nat} {d : D} (p : plain n d = true) : ∀ ys : List D, plains m ys = true → ((toPys ys).any fun z => PyData.eqv z (toPy d)) = ys.any fun y => eqB y d
  | [], _ => rfl
  | y :: r, q => by
    simp only [plains, Bool.and_eq_true] at q
    simp only [toPys, List.any_cons]
    rw [eqv_eq m n y d q.1 p, any_eqv p r q.2]
theorem contains_dec (s : List Nat) (a : Nat) : s.contains a = decide (a ∈ s) := by
  rw [Bool.eq_iff_iff]; simp
theorem op_inK (hu : X.A.units + 65 < cLine) : OpR X (compareOp .In) (fun x y H Q => ∃ a ks k, y = .ref a ∧ Rd H a (.dK ks) ∧ x = kV k ∧ Q (.bl (valV ks k).isSome) H) := by
  intro pins s σ H x y v u Q I rx ry h
  obtain ⟨a, ks, k, rfl, ea, rfl, q⟩ := h
  obtain rfl : u = Value.ref a := ry
  exact d_in (by omega) I (.inl ⟨ks, k, ea, rfl, rfl⟩) rx fun s3 I3 => ⟨.bl _, H, I3, rfl, q⟩
theorem op_notInK (hu : X.A.units + 65 < cLine) : OpR X (compareOp .NotIn) (fun x y H Q => ∃ a ks k, y = .ref a ∧ Rd H a (.dK ks) ∧ x = kV k ∧ Q (.bl (!(valV ks k).isSome)) H) := by
  intro pins s σ H x y v u Q I rx ry h
  obtain ⟨a, ks, k, rfl, ea, rfl, q⟩ := h
  obtain rfl : u = Value.ref a := ry
  exact d_notIn (by omega) I (.inl ⟨ks, k, ea, rfl, rfl⟩) rx fun s3 I3 => ⟨.bl _, H, I3, rfl, q⟩
theorem key_V {K : PySem.W.Frag} {T S : Sa} {H : Hp} {d : D} {v : V} {k : Key} (h : keyD d = some k) (r : RelW K T S H d v) : v = kV k := by
  cases d with
  | int i => cases h; exact r
  | str t => cases h; exact r.1
  | _ => cases h
theorem getV_is {K : PySem.W.Frag} {S : Sa} {H : Hp} {k : Key} {ps : List (D × D)} {vs : List (Key × V)} (h : RelP K S H ps vs) : (getD k ps).isSome = (valV vs k).isSome := by
  have := getV_of (k := k) h
  cases e : getD k ps with
  | none => rw [e] at this; rw [this]; rfl
  | some d => rw [e] at this; obtain ⟨v, e2, _⟩ := this; rw [e2]; rfl
theorem op2_in (hK : X.K = c.K) (hu : X.A.units + 65 < cLine) : ∃ r, OpR X (compareOp .In) r ∧ Op2 c r (fun x y μ => ofO (compare .in_ x y) μ) := by
  refine ⟨_, op_in_sign.or (op_in_seq.or ((op_inD hu).or (op_inK hu))), fun S γ μ σ H d e v w Q g rd re h => ?_⟩
  obtain ⟨z, hz, q⟩ := ofO_some h
  obtain ⟨b, hb, rfl⟩ := Option.map_eq_some_iff.mp (show (inX d e).map D.bl = some z from hz)
  rcases in_cases hb with ⟨a, s, rfl, rfl, rfl⟩ | ⟨ys, he, ⟨f1, f2⟩, rfl⟩ | ⟨ys, rfl, ⟨f1, f2⟩, rfl⟩ | ⟨kvs, k, rfl, hk, rfl⟩
  · refine .inl ⟨a, _, (rw_str rd).1, (rw_str re).1, ?_⟩
    rw [contains_dec] at q
    exact fin0 g q rfl
  · rcases he with rfl | rfl
    · obtain ⟨b, vs, rfl, q1, r1⟩ := rw_lst re
      obtain ⟨h1, h2⟩ := inV_eq f1 rd ys vs f2 r1
      refine .inr (.inl ⟨b, vs, rfl, .inl (by rw [hK]; exact q1), flat_V f1 rd, h1, ?_⟩)
      rw [← h2] at q
      exact fin0 g q rfl
    · obtain ⟨b, vs, rfl, q1, r1⟩ := rw_tup re
      obtain ⟨h1, h2⟩ := inV_eq f1 rd ys vs f2 r1
      refine .inr (.inl ⟨b, vs, rfl, .inr (by rw [hK]; exact q1), flat_V f1 rd, h1, ?_⟩)
      rw [← h2] at q
      exact fin0 g q rfl
  · have p2 : plain 60 (.lst ys) = true := by simp only [plain]; exact plains_mono 58 59 ys (by decide) f2
    have p1 := plain_mono 58 60 d (by decide) f1
    refine .inr (.inr (.inl ⟨toPy d, toPys ys, by rw [hK]; exact rd.dp p1, by rw [hK]; exact re.dp p2, rd.shaped p1, re.shaped p2, ?_⟩))
    rw [any_eqv f1 ys f2]
    exact fin0 g q rfl
  · obtain ⟨a, va, rfl, ra, pa⟩ := rw_dic re
    refine .inr (.inr (.inr ⟨a, va, k, rfl, ra, key_V hk rd, ?_⟩))
    rw [← getV_is pa]
    exact fin0 g q rfl
theorem op2_nin (hK : X.K = c.K) (hu : X.A.units + 65 < cLine) : ∃ r, OpR X (compareOp .NotIn) r ∧ Op2 c r (fun x y μ => ofO (compare .nin x y) μ) := by
  refine ⟨_, op_notIn_sign.or (op_notIn_seq.or ((op_notInD hu).or (op_notInK hu))), fun S γ μ σ H d e v w Q g rd re h => ?_⟩
  obtain ⟨z, hz, q⟩ := ofO_some h
  obtain ⟨b, hb, rfl⟩ := Option.map_eq_some_iff.mp (show (inX d e).map (fun r => D.bl !r) = some z from hz)
  rcases in_cases hb with ⟨a, s, rfl, rfl, rfl⟩ | ⟨ys, he, ⟨f1, f2⟩, rfl⟩ | ⟨ys, rfl, ⟨f1, f2⟩, rfl⟩ | ⟨kvs, k, rfl, hk, rfl⟩
  · refine .inl ⟨a, _, (rw_str rd).1, (rw_str re).1, ?_⟩
    rw [contains_dec] at q
    exact fin0 g q rfl
  · rcases he with rfl | rfl
    · obtain ⟨b, vs, rfl, q1, r1⟩ := rw_lst re
      obtain ⟨h1, h2⟩ := inV_eq f1 rd ys vs f2 r1
      refine .inr (.inl ⟨b, vs, rfl, .inl (by rw [hK]; exact q1), flat_V f1 rd, h1, ?_⟩)
      rw [← h2] at q
      exact fin0 g q rfl
    · obtain ⟨b, vs, rfl, q1, r1⟩ := rw_tup re
      obtain ⟨h1, h2⟩ := inV_eq f1 rd ys vs f2 r1
      refine .inr (.inl ⟨b, vs, rfl, .inr (by rw [hK]; exact q1), flat_V f1 rd, h1, ?_⟩)
      rw [← h2] at q
      exact fin0 g q rfl
  · have p2 : plain 60 (.lst ys) = true := by simp only [plain]; exact plains_mono 58 59 ys (by decide) f2
    have p1 := plain_mono 58 60 d (by decide) f1
    refine .inr (.inr (.inl ⟨toPy d, toPys ys, by rw [hK]; exact rd.dp p1, by rw [hK]; exact re.dp p2, rd.shaped p1, re.shaped p2, ?_⟩))
    rw [any_eqv f1 ys f2]
    exact fin0 g q rfl
  · obtain ⟨a, va, rfl, ra, pa⟩ := rw_dic re
    refine .inr (.inr (.inr ⟨a, va, k, rfl, ra, key_V hk rd, ?_⟩))
    rw [← getV_is pa]
    exact fin0 g q rfl
def isNon : D → Bool
  | .non => true
  | _ => false
theorem isN_eq {K : PySem.W.Frag} {T S : Sa} {H : Hp} {d : D} {v : V} (h : RelW K T S H d v) : decide (v = .non) = isNon d := by
  cases d with
  | non => rw [rw_non h]; rfl
  | bl _ => rw [rw_bl h]; rfl
  | int _ => rw [rw_int h]; rfl
  | str _ => rw [(rw_str h).1]; rfl
  | tup _ => obtain ⟨a, vs, rfl, _⟩ := h; rfl
  | lst _ => obtain ⟨a, vs, rfl, _⟩ := h; rfl
  | dic _ => obtain ⟨a, vs, rfl, _⟩ := h; rfl
  | obj _ _ => exact h.elim
  | loc p => rw [show v = V.ref p from h]; rfl
theorem op_isNB : OpR X (compareOp .Is) (fun x y H Q => ∃ b, x = .non ∧ y = .bl b ∧ Q (.bl false) H) := by
  intro pins s σ H x y v u Q I rx ry h
  obtain ⟨b, rfl, rfl, q⟩ := h
  cases (show v = Value.none from rx)
  cases (show u = Value.bool b from ry)
  exact wpAny_is_other rfl (fun z => nomatch z) ⟨.bl false, H, I, rfl, q⟩
theorem ltL_eq (s t : List Nat) : decide ((⟨s.toArray⟩ : Str).cps.toList < (⟨t.toArray⟩ : Str).cps.toList) = ltL s t := rfl
theorem op2_cmp (hK : X.K = c.K) (hu : X.A.units + 65 < cLine) (o : Cm) : ∃ r, OpR X (compareOp (cmOf o)) r ∧ Op2 c r (fun x y μ => ofO (compare o x y) μ) := by
  cases o with
  | eq => exact ⟨_, (op_eqD (by omega)).or (op_eqH hu), op2_eq hK⟩
  | ne => exact ⟨_, (op_neD (by omega)).or (op_neH hu), op2_ne hK⟩
  | in_ => exact op2_in hK hu
  | nin => exact op2_nin hK hu
  | lt =>
    refine ⟨_, op_lt.or op_lt_str, fun S γ μ σ H d e v w Q g rd re h => ?_⟩
    obtain ⟨z, hz, q⟩ := ofO_some h
    cases d <;> cases e <;> simp only [compare, Option.some.injEq, reduceCtorEq] at hz
    · subst hz
      exact .inl ⟨_, _, rw_int rd, rw_int re, fin0 g q rfl⟩
    · subst hz
      exact .inr ⟨_, _, (rw_str rd).1, (rw_str re).1, fin0 g q rfl⟩
  | le =>
    refine ⟨_, op_le.or op_le_str, fun S γ μ σ H d e v w Q g rd re h => ?_⟩
    obtain ⟨z, hz, q⟩ := ofO_some h
    cases d <;> cases e <;> simp only [compare, Option.some.injEq, reduceCtorEq] at hz
    · subst hz
      exact .inl ⟨_, _, rw_int rd, rw_int re, fin0 g q rfl⟩
    · subst hz
      exact .inr ⟨_, _, (rw_str rd).1, (rw_str re).1, fin0 g q rfl⟩
  | gt =>
    refine ⟨_, op_gt.or op_gt_str, fun S γ μ σ H d e v w Q g rd re h => ?_⟩
    obtain ⟨z, hz, q⟩ := ofO_some h
    cases d <;> cases e <;> simp only [compare, Option.some.injEq, reduceCtorEq] at hz
    · subst hz
      exact .inl ⟨_, _, rw_int rd, rw_int re, fin0 g q rfl⟩
    · subst hz
      exact .inr ⟨_, _, (rw_str rd).1, (rw_str re).1, fin0 g q rfl⟩
  | ge =>
    refine ⟨_, op_ge.or op_ge_str, fun S γ μ σ H d e v w Q g rd re h => ?_⟩
    obtain ⟨z, hz, q⟩ := ofO_some h
    cases d <;> cases e <;> simp only [compare, Option.some.injEq, reduceCtorEq] at hz
    · subst hz
      exact .inl ⟨_, _, rw_int rd, rw_int re, fin0 g q rfl⟩
    · subst hz
      exact .inr ⟨_, _, (rw_str rd).1, (rw_str re).1, fin0 g q rfl⟩
  | is_ =>
    refine ⟨_, op_isN.or (op_is_bl.or op_isNB), fun S γ μ σ H d e v w Q g rd re h => ?_⟩
    obtain ⟨z, hz, q⟩ := ofO_some h
    have he : (e = .non ∧ z = .bl (isNon d)) ∨ (∃ a b, d = .bl a ∧ e = .bl b ∧ z = .bl (decide (a = b))) ∨ (∃ b, d = .non ∧ e = .bl b ∧ z = .bl false) := by
      cases d <;> cases e <;> simp only [compare, Option.some.injEq, reduceCtorEq] at hz <;> first
        | exact .inl ⟨rfl, hz.symm⟩
        | exact .inr (.inl ⟨_, _, rfl, rfl, hz.symm⟩)
        | exact .inr (.inr ⟨_, rfl, rfl, hz.symm⟩)
    rcases he with ⟨rfl, rfl⟩ | ⟨a, b, rfl, rfl, rfl⟩ | ⟨b, rfl, rfl, rfl⟩
    · refine .inl ⟨rw_non re, ?_⟩
      rw [isN_eq rd]
      exact fin0 g q rfl
    · exact .inr (.inl ⟨a, b, rw_bl rd, rw_bl re, fin0 g q rfl⟩)
    · exact .inr (.inr ⟨b, rw_non rd, rw_bl re, fin0 g q rfl⟩)
  | isn =>
    refine ⟨_, op_notN.or op_isnot_bl, fun S γ μ σ H d e v w Q g rd re h => ?_⟩
    obtain ⟨z, hz, q⟩ := ofO_some h
    have he : (e = .non ∧ z = .bl !(isNon d)) ∨ (∃ a b, d = .bl a ∧ e = .bl b ∧ z = .bl (!decide (a = b))) := by
      cases d <;> cases e <;> simp only [compare, Option.some.injEq, reduceCtorEq] at hz <;> first
        | exact .inl ⟨rfl, hz.symm⟩
        | exact .inr ⟨_, _, rfl, rfl, hz.symm⟩
    rcases he with ⟨rfl, rfl⟩ | ⟨a, b, rfl, rfl, rfl⟩
    · refine .inl ⟨rw_non re, ?_⟩
      rw [isN_eq rd]
      exact fin0 g q rfl
    · exact .inr ⟨a, b, rw_bl rd, rw_bl re, fin0 g q rfl⟩
end
end Bs
/-! Bs: subscripts, slices, built-ins. -/
namespace Bs
open PySem L2
section
variable {X : Cx} {c : Ct}
theorem RelW.deref {S : Sa} {γ : Ga} {μ : Sto} {σ : L2.St} {H : Hp} {d d' : D} {v : V} (g : Good c S γ μ σ H) (h : RelW c.K T0 S H d v) (e : deref μ d = some d') :
    (∃ xs, d' = .lst xs ∧ ∃ a vs, v = .ref a ∧ SqL c.K H a vs ∧ Rels c.K S H xs vs) ∨ ((∀ xs, d' ≠ .lst xs) ∧ RelW c.K T0 S H d' v) := by
  cases d with
  | loc p =>
    simp only [Bs.deref] at e
    cases q : μ p with
    | none => rw [q] at e; cases e
    | some o =>
      rw [q] at e
      cases o with
      | lst xs =>
        simp only [Option.some.injEq] at e
        subst e
        obtain ⟨vs, e1, r⟩ := (g.st.st p _ q).2
        exact .inl ⟨xs, rfl, p, vs, h, .inl (.inl e1), r⟩
      | dic _ => cases e
      | ins _ _ => cases e
  | lst xs => cases e; exact .inl ⟨xs, rfl, rw_lst h⟩
  | non => cases e; exact .inr ⟨(fun _ z => by cases z), h⟩
  | bl _ => cases e; exact .inr ⟨(fun _ z => by cases z), h⟩
  | int _ => cases e; exact .inr ⟨(fun _ z => by cases z), h⟩
  | str _ => cases e; exact .inr ⟨(fun _ z => by cases z), h⟩
  | tup _ => cases e; exact .inr ⟨(fun _ z => by cases z), h⟩
  | dic _ => cases e; exact .inr ⟨(fun _ z => by cases z), h⟩
  | obj _ _ => cases e; exact .inr ⟨(fun _ z => by cases z), h⟩
theorem atI_rel {K : PySem.W.Frag} {S : Sa} {H : Hp} {xs : List D} {vs : List V} {i : Int} {d : D} (r : Rels K S H xs vs) (h : atI xs i = some d) : ∃ v, atI vs i = some v ∧ Rel K S H d v := by
  unfold atI at h ⊢
  rw [r.length]
  cases e : ixN xs.length i with
  | none => rw [e] at h; cases h
  | some j =>
    rw [e] at h
    exact r.get h
open PySem.Spec PyProof.Rows in
theorem ix_dct : IxR X (fun x y H Q => ∃ a kvs k v, x = .ref a ∧ Rd H a (.dK kvs) ∧ y = kV k ∧ valV kvs k = some v ∧ Q v H) := by
  intro value slice pins s σ H x y v u Q I rx ry h hs
  obtain ⟨a, kvs, k, z, rfl, e, rfl, l, q⟩ := h
  obtain rfl : v = Value.ref a := rx
  obtain ⟨zz, hd, vs, rel, dd⟩ := dk_rd I.hok e
  obtain ⟨w', hw, rw'⟩ := RelO.some_of (v := z) (o := valueAt vs k) (by rw [← l]; exact rel.val k)
  exact tail_any dd.mapOf.typeIs slot_dict_getitem.lookup (wpAny_getItem_of (kV_is ry) dd.mapOf hw ⟨z, H, I.tok _, rw', q⟩) hs
theorem kv_of {K : PySem.W.Frag} {T S : Sa} {H : Hp} {d : D} {v : V} {k : Key} (h : keyD d = some k) (r : RelW K T S H d v) : v = kV k := by
  cases d with
  | int i => cases h; exact r
  | str t => cases h; exact r.1
  | _ => cases h
theorem get_rel {K : PySem.W.Frag} {S : Sa} {H : Hp} {k : Key} {d : D} : ∀ {ps : List (D × D)} {vs : List (Key × V)}, RelP K S H ps vs → getD k ps = some d → ∃ v, valV vs k = some v ∧ Rel K S H d v
  | [], _, _, h => by cases h
  | (x, y) :: r, vs, hr, h => by
    obtain ⟨k', v, qs, rfl, ⟨h1, _, h2⟩, h3⟩ := hr
    unfold getD at h
    by_cases e : keyD x = some k
    · rw [if_pos e] at h
      cases h
      rw [h1] at e
      cases e
      exact ⟨v, valV_pos rfl, h2⟩
    · rw [if_neg e] at h
      obtain ⟨w, e1, e2⟩ := get_rel h3 h
      refine ⟨w, ?_, e2⟩
      rw [valV_neg (fun z => e (by rw [h1]; exact congrArg some z))]
      exact e1
theorem op2_ix (hK : X.K = c.K) : ∃ r, IxR X r ∧ Op2 c r ixR := by
  refine ⟨_, ix_list.or (ix_tup.or (ix_str.or ix_dct)), fun S γ μ σ H d e v w Q g rd re h => ?_⟩
  unfold ixR at h
  cases q : deref μ d with
  | none => rw [q] at h; exact h.elim
  | some d' =>
    rw [q] at h
    obtain ⟨z, hz, qq⟩ := ofO_some h
    rcases rd.deref g q with ⟨xs, rfl, a, vs, rfl, sq, r⟩ | ⟨nl, rd'⟩
    · cases e <;> simp only [index, reduceCtorEq] at hz
      obtain ⟨u, e1, ru⟩ := atI_rel r hz
      exact .inl ⟨a, vs, _, u, rfl, rw_int re, by rw [hK]; exact sq, e1, fin0 g qq ru⟩
    · cases d' with
      | lst xs => exact absurd rfl (nl xs)
      | tup xs =>
        cases e <;> simp only [index, reduceCtorEq] at hz
        obtain ⟨a, vs, rfl, sq, r⟩ := rw_tup rd'
        obtain ⟨u, e1, ru⟩ := atI_rel r hz
        exact .inr (.inl ⟨a, vs, _, u, rfl, rw_int re, by rw [hK]; exact sq, e1, fin0 g qq ru⟩)
      | str s =>
        cases e <;> simp only [index, reduceCtorEq, Option.map_eq_some_iff] at hz
        obtain ⟨ch, e1, rfl⟩ := hz
        obtain ⟨rfl, l1, a1⟩ := rw_str rd'
        refine .inr (.inr (.inl ⟨_, _, ch, rfl, rw_int re, by rw [str_len]; exact big_line l1, e1, fin0 g qq ⟨rfl, (by simp), fun x hx => ?_⟩⟩))
        have hm : ch ∈ s := by
          unfold atI at e1
          cases q2 : ixN s.length _ with
          | none => rw [q2] at e1; cases e1
          | some j => rw [q2] at e1; exact List.mem_of_getElem? e1
        have hxc : x = ch := by simpa using hx
        rw [hxc]
        exact a1 ch hm
      | dic kvs =>
        simp only [index] at hz
        cases ek : keyD e with
        | none => rw [ek] at hz; cases hz
        | some k =>
          rw [ek] at hz
          obtain ⟨a, ps, rfl, hR, _, rp⟩ := id rd'
          obtain ⟨u, e1, ru⟩ := get_rel rp hz
          exact .inr (.inr (.inr ⟨a, ps, k, u, rfl, hR, kv_of ek re, e1, fin0 g qq ru⟩))
      | _ => simp [index] at hz
/-! ### slices -/
theorem cutS_eq (s : List Nat) (lo hi : Option Int) : cutS ⟨s.toArray⟩ lo hi = ⟨(cut s lo hi).toArray⟩ := by
  unfold cutS cut
  rw [str_len]
theorem cut_len {α : Type} (xs : List α) (lo hi : Option Int) : (cut xs lo hi).length ≤ xs.length := by
  unfold cut
  rw [List.length_take, List.length_drop]
  omega
theorem cut_mem {α : Type} {xs : List α} {lo hi : Option Int} {x : α} (h : x ∈ cut xs lo hi) : x ∈ xs := List.mem_of_mem_drop (List.mem_of_mem_take h)
theorem sl_all (hK : X.K = c.K) : ∃ r, L2.SlR X r ∧ ∀ (S : Sa) (γ : Ga) (μ : Sto) (σ : L2.St) (H : Hp) (d : D) (v : V) (lo hi : Option Int) (Q : VK), Good c S γ μ σ H → RelW c.K T0 S H d v → (ofO (slice d lo hi) μ).All (Aft c true S μ H γ σ Q) c.V → r v lo hi H Q := by
  refine ⟨_, sl_list.or (sl_tupA.or sl_str), fun S γ μ σ H d v lo hi Q g rd h => ?_⟩
  obtain ⟨z, hz, q⟩ := ofO_some h
  cases d <;> simp only [slice, Option.some.injEq, reduceCtorEq] at hz
  · subst hz
    obtain ⟨rfl, l1, a1⟩ := rw_str rd
    refine .inr (.inr ⟨_, rfl, by rw [str_len]; exact big_line l1, ?_⟩)
    rw [cutS_eq]
    exact fin0 g q ⟨rfl, Nat.le_trans (cut_len _ _ _) l1, fun x hx => a1 x (cut_mem hx)⟩
  · subst hz
    rename_i xs
    obtain ⟨a, vs, rfl, sq, r⟩ := id rd
    refine .inr (.inl ⟨a, vs, rfl, by rw [hK]; exact sq.sq, fun hw => ?_, fun _ => fin_tup g q (rls_cut r lo hi)⟩)
    have e : cut xs lo hi = xs := by
      unfold cut
      rw [r.length] at hw
      rw [hw.1, hw.2]
      simp
    rw [e] at q
    exact fin0 g q rd
  · subst hz
    obtain ⟨a, vs, rfl, sq, r⟩ := rw_lst rd
    exact .inl ⟨a, vs, rfl, by rw [hK]; exact sq, fin_lst g q (rls_cut r lo hi)⟩
/-! ### built-ins -/
theorem one_of {K : PySem.W.Frag} {st : Bool} {T S : Sa} {H : Hp} {d : D} {vs : List V} (h : Rls K st T S H [d] vs) : ∃ v, vs = [v] ∧ Rl K st T S H d v := by
  obtain ⟨v, ws, rfl, r, e⟩ := h
  cases (show ws = [] from e)
  exact ⟨v, rfl, r⟩
theorem two_of {K : PySem.W.Frag} {st : Bool} {T S : Sa} {H : Hp} {d e : D} {vs : List V} (h : Rls K st T S H [d, e] vs) : ∃ v w, vs = [v, w] ∧ Rl K st T S H d v ∧ Rl K st T S H e w := by
  obtain ⟨v, ws, rfl, r, q⟩ := h
  obtain ⟨w, rfl, r2⟩ := one_of q
  exact ⟨v, w, rfl, r, r2⟩
theorem ints_of {K : PySem.W.Frag} {S : Sa} {H : Hp} : ∀ {xs : List D} {vs : List V} {is : List Int}, intsD xs = some is → Rels K S H xs vs → vs = is.map V.int
  | [], _, _, e, r => by cases e; exact r
  | d :: xs, vs, is, e, r => by
    obtain ⟨v, ws, rfl, q, z⟩ := r
    cases d <;> simp only [intsD, reduceCtorEq, Option.map_eq_some_iff] at e
    obtain ⟨js, e1, rfl⟩ := e
    rw [ints_of e1 z, show v = V.int _ from q]
    rfl
theorem bools_of {K : PySem.W.Frag} {S : Sa} {H : Hp} : ∀ {xs : List D} {vs : List V} {is : List Bool}, boolsD xs = some is → Rels K S H xs vs → vs = is.map V.bl
  | [], _, _, e, r => by cases e; exact r
  | d :: xs, vs, is, e, r => by
    obtain ⟨v, ws, rfl, q, z⟩ := r
    cases d <;> simp only [boolsD, reduceCtorEq, Option.map_eq_some_iff] at e
    obtain ⟨js, e1, rfl⟩ := e
    rw [bools_of e1 z, show v = V.bl _ from q]
    rfl
theorem strs_of {K : PySem.W.Frag} {S : Sa} {H : Hp} : ∀ {xs : List D} {vs : List V} {is : List (List Nat)}, strsD xs = some is → Rels K S H xs vs → vs = (is.map fun s => (⟨s.toArray⟩ : Str)).map V.str ∧ ∀ s ∈ is, ∀ c ∈ s, c < 128
  | [], _, _, e, r => by cases e; exact ⟨r, fun s hs => by cases hs⟩
  | d :: xs, vs, is, e, r => by
    obtain ⟨v, ws, rfl, q, z⟩ := r
    cases d <;> simp only [strsD, reduceCtorEq, Option.map_eq_some_iff] at e
    obtain ⟨js, e1, rfl⟩ := e
    obtain ⟨h1, h2⟩ := strs_of e1 z
    rw [h1, q.1]
    refine ⟨rfl, fun s hs => ?_⟩
    rcases List.mem_cons.mp hs with rfl | hs
    · exact q.2.2
    · exact h2 s hs
theorem maxL_uniq {is : List Int} {m : Int} (h : maxL is = some m) : 0 < is.length ∧ ∀ k, k ∈ is → (∀ y, y ∈ is → y ≤ k) → k = m := by
  cases is with
  | nil => cases h
  | cons i r =>
    simp only [maxL, Option.some.injEq] at h
    refine ⟨Nat.succ_pos _, fun k hk hy => ?_⟩
    have key : ∀ (r : List Int) (i : Int), (r.foldl (fun a b => if a < b then b else a) i) ∈ i :: r ∧ ∀ y ∈ i :: r, y ≤ r.foldl (fun a b => if a < b then b else a) i := by
      intro r
      induction r with
      | nil =>
        intro i
        refine ⟨List.mem_cons_self .., fun y hy => ?_⟩
        have : y = i := by simpa using hy
        rw [this]
        exact Int.le_refl _
      | cons j r ih =>
        intro i
        rw [List.foldl_cons]
        obtain ⟨h1, h2⟩ := ih (if i < j then j else i)
        constructor
        · rcases List.mem_cons.mp h1 with h | h
          · rw [h]; split <;> simp
          · exact List.mem_cons_of_mem _ (List.mem_cons_of_mem _ h)
        · intro y hy
          have h3 := h2 _ (List.mem_cons_self ..)
          rcases List.mem_cons.mp hy with rfl | hy
          · refine Int.le_trans ?_ h3; split <;> omega
          · rcases List.mem_cons.mp hy with rfl | hy
            · refine Int.le_trans ?_ h3; split <;> omega
            · exact h2 y (List.mem_cons_of_mem _ hy)
    obtain ⟨h1, h2⟩ := key r i
    rw [h] at h1 h2
    have := hy m h1
    have := h2 k hk
    omega
theorem minL_uniq {is : List Int} {m : Int} (h : minL is = some m) : 0 < is.length ∧ ∀ k, k ∈ is → (∀ y, y ∈ is → k ≤ y) → k = m := by
  cases is with
  | nil => cases h
  | cons i r =>
    simp only [minL, Option.some.injEq] at h
    refine ⟨Nat.succ_pos _, fun k hk hy => ?_⟩
    have key : ∀ (r : List Int) (i : Int), (r.foldl (fun a b => if b < a then b else a) i) ∈ i :: r ∧ ∀ y ∈ i :: r, r.foldl (fun a b => if b < a then b else a) i ≤ y := by
      intro r
      induction r with
      | nil =>
        intro i
        refine ⟨List.mem_cons_self .., fun y hy => ?_⟩
        have : y = i := by simpa using hy
        rw [this]
        exact Int.le_refl _
      | cons j r ih =>
        intro i
        rw [List.foldl_cons]
        obtain ⟨h1, h2⟩ := ih (if j < i then j else i)
        constructor
        · rcases List.mem_cons.mp h1 with h | h
          · rw [h]; split <;> simp
          · exact List.mem_cons_of_mem _ (List.mem_cons_of_mem _ h)
        · intro y hy
          have h3 := h2 _ (List.mem_cons_self ..)
          rcases List.mem_cons.mp hy with rfl | hy
          · refine Int.le_trans h3 ?_; split <;> omega
          · rcases List.mem_cons.mp hy with rfl | hy
            · refine Int.le_trans h3 ?_; split <;> omega
            · exact h2 y (List.mem_cons_of_mem _ hy)
    obtain ⟨h1, h2⟩ := key r i
    rw [h] at h1 h2
    have := hy m h1
    have := h2 k hk
    omega
/-- list(text) -/
theorem call_list_text (hc : X.calm = true) : CallR X (.type "list") (fun xs H Q => ∃ s : List Nat, xs = [strV s] ∧ s.length ≤ 1000000 ∧ ∀ l, H l = none → Q (.ref l) (upd H l (.lst (s.map fun c => strV [c])))) := by
  intro pins s σ H xs us Q I r h
  obtain ⟨z, rfl, hz, q⟩ := h
  obtain ⟨u, rfl, t, rfl⟩ := vals1 r
  refine PySem.call_list_str (I.ok.hd hc) _ t (fun h' tk acc c' hk hS hacc => ?_) (by simpa using big_line hz)
  have hv : Vals (z.map fun c => strV [c]) acc.toList := by
    refine vals_of_at ?_ fun j x u e1 e2 => ?_
    · rw [List.length_map, Array.length_toList]; exact hacc.1.symm
    · obtain ⟨ch, t', e3, rfl⟩ := hacc.2 j u (by simpa using e2)
      rw [List.getElem?_map] at e1
      cases e4 : z[j]? with
      | none => rw [e4] at e1; cases e1
      | some y =>
        rw [e4] at e1
        simp only [Option.map_some, Option.some.injEq] at e1
        subst e1
        have : y = ch := by
          have e5 : (⟨z.toArray⟩ : Str).cps[j]? = some ch := e3
          simp only [List.getElem?_toArray] at e5
          rw [e4] at e5
          exact Option.some.inj e5
        subst this
        exact ⟨t', rfl⟩
  refine ⟨.ref _, _, I.laid (o := .lst (z.map fun c => strV [c])) hk (Nat.le_refl _) ⟨by rw [List.length_map]; exact big_line hz, acc.toList, c', hv, by simpa using hS⟩, rfl, q _ (I.hok.fresh (Nat.le_refl _))⟩

theorem CmpOf.strs {prog : Program} {w : World} {A : Around} {P : Nat → Value → Prop} (val : Nat → Str) (hval : ∀ i v, P i v → ∃ t, v = .str (val i) t) : CmpOf prog w A .Gt P (fun i j => decide ((val j).cps.toList < (val i).cps.toList)) ∧ CmpOf prog w A .Lt P (fun i j => decide ((val i).cps.toList < (val j).cps.toList)) := by
  refine ⟨fun i j vi vj s Q E hi hj h => ?_, fun i j vi vj s Q E hi hj h => ?_⟩
  · obtain ⟨t, rfl⟩ := hval i vi hi
    obtain ⟨u, rfl⟩ := hval j vj hj
    exact PySem.P.gt_str (t := t) (u := u) h
  · obtain ⟨t, rfl⟩ := hval i vi hi
    obtain ⟨u, rfl⟩ := hval j vj hj
    exact PySem.P.lt_str (t := t) (u := u) h
section
variable {prog : Program} {w : World} {A : Around} {E : Value → Shared → Prop} {s : Shared}
def two (a b : Str) : Nat → Str
  | 0 => a
  | _ => b
theorem two_at {a b : Str} {t u : Tok} (i : Nat) (v : Value) (h : (#[Value.str a t, Value.str b u])[i]? = some v) : ∃ t', v = .str (two a b i) t' := by
  match i, h with
  | 0, h => exact ⟨t, (Option.some.inj h).symm⟩
  | 1, h => exact ⟨u, (Option.some.inj h).symm⟩
  | i + 2, h => simp at h
theorem max_two_strs {a b : Str} {t u : Tok} {Q : Value → Shared → Prop} (hh : A.handled = none)
    (h : ∀ h' tk, (∀ c o, s.heap.get? c = some o → h'.get? c = some o) → Q (if a.cps.toList < b.cps.toList then .str b u else .str a t) { s with heap := h', toks := tk }) :
    wpAny (model prog w) A (PySem.call (.builtin "max") [.str a t, .str b u]) Q E s := by
  have hT : (s.heap.push { cls := .type "tuple", data := .seq #[.str a t, .str b u] }).IsTuple s.heap.objs.size #[.str a t, .str b u] := ⟨_, Heap.get?_push_size _ rfl, rfl, 0, rfl⟩
  refine call_max_two (wpAny_pyIter_tuple hT ?_)
  have hsz : (s.heap.push { cls := .type "tuple", data := .seq #[.str a t, .str b u] }).objs.size = s.heap.objs.size + 1 := Heap.size_push ..
  refine ⟨_, [_, s.heap.objs.size], [_], _, _, _, _, rfl, Walks.tuple (A := A.in1) hh _ s.heap.objs.size (by rw [hsz]; exact Nat.ne_of_lt (Nat.lt_succ_self _)) #[.str a t, .str b u],
    ⟨⟨_, Heap.get?_push_size _ rfl, rfl, rfl⟩, hT.push _⟩, fun c hc => ?_, by simp, (CmpOf.strs (two a b) two_at).1, fun v h' tk hP hk => ?_⟩
  · show c < ((s.heap.push _).push _).objs.size
    rw [Heap.size_push, hsz]
    rcases List.mem_cons.mp hc with rfl | hc
    · rw [hsz]; exact Nat.lt_succ_self _
    · rcases List.mem_cons.mp hc with rfl | hc
      · exact Nat.lt_succ_of_lt (Nat.lt_succ_self _)
      · cases hc
  · have hold : ∀ c o, s.heap.get? c = some o → h'.get? c = some o := fun c o e => by
      refine hk c o (fun hm => ?_) (Heap.get?_push_of_some _ (Heap.get?_push_of_some _ e))
      rcases List.mem_cons.mp hm with e1 | hm
      · have := Heap.lt_size e; rw [e1, hsz] at this; exact Nat.lt_irrefl _ (Nat.lt_of_succ_lt this)
      · cases hm
    have := h h' tk hold
    have hv : v = if a.cps.toList < b.cps.toList then .str b u else .str a t := by
      have hP' : (#[Value.str a t, Value.str b u])[argBest (fun i j => decide ((two a b j).cps.toList < (two a b i).cps.toList)) 1]? = some v := hP
      by_cases hba : a.cps.toList < b.cps.toList
      · have e : argBest (fun i j => decide ((two a b j).cps.toList < (two a b i).cps.toList)) 1 = 1 := by simp [argBest, two, hba]
        rw [e] at hP'
        rw [if_pos hba]
        simpa using hP'.symm
      · have e : argBest (fun i j => decide ((two a b j).cps.toList < (two a b i).cps.toList)) 1 = 0 := by simp [argBest, two, hba]
        rw [e] at hP'
        rw [if_neg hba]
        simpa using hP'.symm
    rw [hv]; exact this
theorem min_two_strs {a b : Str} {t u : Tok} {Q : Value → Shared → Prop} (hh : A.handled = none)
    (h : ∀ h' tk, (∀ c o, s.heap.get? c = some o → h'.get? c = some o) → Q (if b.cps.toList < a.cps.toList then .str b u else .str a t) { s with heap := h', toks := tk }) :
    wpAny (model prog w) A (PySem.call (.builtin "min") [.str a t, .str b u]) Q E s := by
  have hT : (s.heap.push { cls := .type "tuple", data := .seq #[.str a t, .str b u] }).IsTuple s.heap.objs.size #[.str a t, .str b u] := ⟨_, Heap.get?_push_size _ rfl, rfl, 0, rfl⟩
  refine call_min_two (wpAny_pyIter_tuple hT ?_)
  have hsz : (s.heap.push { cls := .type "tuple", data := .seq #[.str a t, .str b u] }).objs.size = s.heap.objs.size + 1 := Heap.size_push ..
  refine ⟨_, [_, s.heap.objs.size], [_], _, _, _, _, rfl, Walks.tuple (A := A.in1) hh _ s.heap.objs.size (by rw [hsz]; exact Nat.ne_of_lt (Nat.lt_succ_self _)) #[.str a t, .str b u],
    ⟨⟨_, Heap.get?_push_size _ rfl, rfl, rfl⟩, hT.push _⟩, fun c hc => ?_, by simp, (CmpOf.strs (two a b) two_at).2, fun v h' tk hP hk => ?_⟩
  · show c < ((s.heap.push _).push _).objs.size
    rw [Heap.size_push, hsz]
    rcases List.mem_cons.mp hc with rfl | hc
    · rw [hsz]; exact Nat.lt_succ_self _
    · rcases List.mem_cons.mp hc with rfl | hc
      · exact Nat.lt_succ_of_lt (Nat.lt_succ_self _)
      · cases hc
  · have hold : ∀ c o, s.heap.get? c = some o → h'.get? c = some o := fun c o e => by
      refine hk c o (fun hm => ?_) (Heap.get?_push_of_some _ (Heap.get?_push_of_some _ e))
      rcases List.mem_cons.mp hm with e1 | hm
      · have := Heap.lt_size e; rw [e1, hsz] at this; exact Nat.lt_irrefl _ (Nat.lt_of_succ_lt this)
      · cases hm
    have := h h' tk hold
    have hv : v = if b.cps.toList < a.cps.toList then .str b u else .str a t := by
      have hP' : (#[Value.str a t, Value.str b u])[argBest (fun i j => decide ((two a b i).cps.toList < (two a b j).cps.toList)) 1]? = some v := hP
      by_cases hba : b.cps.toList < a.cps.toList
      · have e : argBest (fun i j => decide ((two a b i).cps.toList < (two a b j).cps.toList)) 1 = 1 := by simp [argBest, two, hba]
        rw [e] at hP'
        rw [if_pos hba]
        simpa using hP'.symm
      · have e : argBest (fun i j => decide ((two a b i).cps.toList < (two a b j).cps.toList)) 1 = 0 := by simp [argBest, two, hba]
        rw [e] at hP'
        rw [if_neg hba]
        simpa using hP'.symm
    rw [hv]; exact this
end
theorem call_max2s (hc : X.calm = true) : CallR X (.builtin "max") (fun xs H Q => ∃ s t : List Nat, xs = [strV s, strV t] ∧ Q (strV (if ltL s t then t else s)) H) := by
  intro pins s σ H xs us Q I r h
  obtain ⟨i, j, rfl, q⟩ := h
  obtain ⟨u, w', rfl, ⟨t, rfl⟩, ⟨t', rfl⟩⟩ := vals2 r
  refine max_two_strs (I.ok.hd hc) fun h' tk k => ⟨_, H, I.kept k, ?_, q⟩
  by_cases hj : i < j
  · rw [if_pos (show (⟨i.toArray⟩ : Str).cps.toList < (⟨j.toArray⟩ : Str).cps.toList from hj), if_pos (show ltL _ _ = true from decide_eq_true hj)]; exact ⟨_, rfl⟩
  · rw [if_neg (show ¬ (⟨i.toArray⟩ : Str).cps.toList < (⟨j.toArray⟩ : Str).cps.toList from hj), if_neg (by unfold ltL; simpa using hj)]; exact ⟨_, rfl⟩
theorem call_min2s (hc : X.calm = true) : CallR X (.builtin "min") (fun xs H Q => ∃ s t : List Nat, xs = [strV s, strV t] ∧ Q (strV (if ltL t s then t else s)) H) := by
  intro pins s σ H xs us Q I r h
  obtain ⟨i, j, rfl, q⟩ := h
  obtain ⟨u, w', rfl, ⟨t, rfl⟩, ⟨t', rfl⟩⟩ := vals2 r
  refine min_two_strs (I.ok.hd hc) fun h' tk k => ⟨_, H, I.kept k, ?_, q⟩
  by_cases hj : j < i
  · rw [if_pos (show (⟨j.toArray⟩ : Str).cps.toList < (⟨i.toArray⟩ : Str).cps.toList from hj), if_pos (show ltL _ _ = true from decide_eq_true hj)]; exact ⟨_, rfl⟩
  · rw [if_neg (show ¬ (⟨j.toArray⟩ : Str).cps.toList < (⟨i.toArray⟩ : Str).cps.toList from hj), if_neg (by unfold ltL; simpa using hj)]; exact ⟨_, rfl⟩
def biVal : Bi → Value
  | .len => .builtin "len" | .abs => .builtin "abs" | .max => .builtin "max" | .min => .builtin "min" | .sum => .builtin "sum" | .any => .builtin "any" | .all => .builtin "all" | .sorted => .builtin "sorted"
  | .int => .type "int" | .str => .type "str" | .list => .type "list" | .tuple => .type "tuple"
def biName : Bi → Str
  | .len => "len" | .abs => "abs" | .max => "max" | .min => "min" | .sum => "sum" | .any => "any" | .all => "all" | .sorted => "sorted"
  | .int => "int" | .str => "str" | .list => "list" | .tuple => "tuple"
theorem bi_boot (b : Bi) : bootBuiltins (biName b) = some (biVal b) := by cases b <;> decide +kernel
theorem rls_one {S : Sa} {γ : Ga} {μ : Sto} {H : Hp} {xs : List D} {vs : List V} (r : Rls c.K false T0 S H xs vs) {d : D} (e : xs = [d]) : ∃ v, vs = [v] ∧ RelW c.K T0 S H d v := by
  subst e
  exact one_of r
theorem chars_rel {K : PySem.W.Frag} {S : Sa} {H : Hp} : ∀ (s : List Nat), (∀ c ∈ s, c < 128) → Rels K S H (chars s) (s.map fun c => strV [c])
  | [], _ => rfl
  | a :: s, h => ⟨strV [a], _, rfl, ⟨rfl, (by simp), fun x hx => by
      have : x = a := by simpa using hx
      rw [this]
      exact h a (List.mem_cons_self ..)⟩, chars_rel s fun x hx => h x (List.mem_cons_of_mem _ hx)⟩
theorem insI_perm (x : Int) : ∀ l, (insI x l).Perm (x :: l)
  | [] => .refl _
  | y :: r => by
    unfold insI
    split
    · exact .refl _
    · exact ((insI_perm x r).cons y).trans (.swap x y r)
theorem sortI_perm : ∀ l, (sortI l).Perm l
  | [] => .refl _
  | x :: r => (insI_perm x _).trans ((sortI_perm r).cons x)
theorem insI_srt (x : Int) : ∀ l, List.Pairwise (· ≤ ·) l → List.Pairwise (· ≤ ·) (insI x l)
  | [], _ => by simp [insI]
  | y :: r, h => by
    unfold insI
    rw [List.pairwise_cons] at h
    split
    · rename_i hx
      refine List.pairwise_cons.mpr ⟨fun z hz => ?_, List.pairwise_cons.mpr h⟩
      rcases List.mem_cons.mp hz with rfl | hz
      · exact hx
      · have := h.1 z hz; omega
    · rename_i hx
      refine List.pairwise_cons.mpr ⟨fun z hz => ?_, insI_srt x r h.2⟩
      rcases List.mem_cons.mp ((insI_perm x r).mem_iff.mp hz) with rfl | hz
      · omega
      · exact h.1 z hz
theorem sortI_srt : ∀ l, List.Pairwise (· ≤ ·) (sortI l)
  | [] => .nil
  | x :: r => insI_srt x _ (sortI_srt r)
theorem srt_uniq : ∀ {l m : List Int}, l.Perm m → List.Pairwise (· ≤ ·) l → List.Pairwise (· ≤ ·) m → l = m
  | [], m, h, _, _ => (List.Perm.nil_eq h)
  | a :: l, [], h, _, _ => by have := h.length_eq; simp at this
  | a :: l, b :: m, h, h1, h2 => by
    rw [List.pairwise_cons] at h1 h2
    have e : a = b := by
      have m1 : a ∈ b :: m := h.mem_iff.mp List.mem_cons_self
      have m2 : b ∈ a :: l := h.mem_iff.mpr List.mem_cons_self
      rcases List.mem_cons.mp m1 with e | m1
      · exact e
      · rcases List.mem_cons.mp m2 with e | m2
        · exact e.symm
        · have := h1.1 b m2; have := h2.1 a m1; omega
    subst e
    rw [srt_uniq (List.Perm.cons_inv h) h1.2 h2.2]
theorem sortI_uniq {l is : List Int} (h : l.Perm is) (hs : List.Pairwise (· ≤ ·) l) : l = sortI is := srt_uniq (h.trans (sortI_perm is).symm) hs (sortI_srt is)
theorem rels_intsL {K : PySem.W.Frag} {S : Sa} {H : Hp} : ∀ is : List Int, Rels K S H (is.map D.int) (is.map V.int)
  | [] => rfl
  | i :: is => ⟨V.int i, _, rfl, rfl, rels_intsL is⟩
theorem strs_len {K : PySem.W.Frag} {S : Sa} {H : Hp} : ∀ {xs : List D} {vs : List V} {is : List (List Nat)}, strsD xs = some is → Rels K S H xs vs → ∀ s ∈ is, s.length ≤ 1000000
  | [], _, is, h, _ => by cases h; intro s hs; cases hs
  | .str t :: r, vs, is, h, rl => by
    obtain ⟨js, e1, rfl⟩ := Option.map_eq_some_iff.mp (show (strsD r).map (t :: ·) = some is from h)
    obtain ⟨v, ws, rfl, q, z⟩ := rl
    intro s hs
    rcases List.mem_cons.mp hs with rfl | hs
    · exact q.2.1
    · exact strs_len e1 z s hs
  | .non :: _, _, _, h, _ => by cases h
  | .bl _ :: _, _, _, h, _ => by cases h
  | .int _ :: _, _, _, h, _ => by cases h
  | .tup _ :: _, _, _, h, _ => by cases h
  | .lst _ :: _, _, _, h, _ => by cases h
  | .dic _ :: _, _, _, h, _ => by cases h
  | .obj _ _ :: _, _, _, h, _ => by cases h
  | .loc _ :: _, _, _, h, _ => by cases h
/-! sorted texts -/
abbrev leS (a b : List Nat) : Prop := ¬ b < a
theorem leS_refl (a : List Nat) : leS a a := List.lt_irrefl a
theorem leS_anti {a b : List Nat} (h : leS a b) (h' : leS b a) : a = b := List.le_antisymm h h'
theorem leS_trans {a b d : List Nat} (h : leS a b) (h' : leS b d) : leS a d := List.le_trans h h'
theorem insS_perm (x : List Nat) : ∀ l, (insS x l).Perm (x :: l)
  | [] => .refl _
  | y :: r => by
    unfold insS
    split
    · exact ((insS_perm x r).cons y).trans (.swap x y r)
    · exact .refl _
theorem sortS_perm : ∀ l, (sortS l).Perm l
  | [] => .refl _
  | x :: r => (insS_perm x _).trans ((sortS_perm r).cons x)
theorem insS_srt (x : List Nat) : ∀ l, List.Pairwise leS l → List.Pairwise leS (insS x l)
  | [], _ => by simp [insS]
  | y :: r, h => by
    rw [List.pairwise_cons] at h
    unfold insS
    split
    · rename_i hl
      have hl : y < x := by unfold ltL at hl; exact of_decide_eq_true hl
      refine List.pairwise_cons.mpr ⟨fun z hz => ?_, insS_srt x r h.2⟩
      rcases List.mem_cons.mp ((insS_perm x r).mem_iff.mp hz) with rfl | hz
      · exact List.le_of_lt hl
      · exact h.1 z hz
    · rename_i hl
      have hl : ¬ y < x := fun z => hl (by unfold ltL; exact decide_eq_true z)
      refine List.pairwise_cons.mpr ⟨fun z hz => ?_, List.pairwise_cons.mpr h⟩
      rcases List.mem_cons.mp hz with rfl | hz
      · exact hl
      · exact leS_trans hl (h.1 z hz)
theorem sortS_srt : ∀ l, List.Pairwise leS (sortS l)
  | [] => .nil
  | x :: r => insS_srt x _ (sortS_srt r)
theorem srtS_uniq : ∀ {l m : List (List Nat)}, l.Perm m → List.Pairwise leS l → List.Pairwise leS m → l = m
  | [], m, h, _, _ => (List.Perm.nil_eq h)
  | a :: l, [], h, _, _ => by have := h.length_eq; simp at this
  | a :: l, b :: m, h, h1, h2 => by
    rw [List.pairwise_cons] at h1 h2
    have e : a = b := by
      have m1 : a ∈ b :: m := h.mem_iff.mp List.mem_cons_self
      have m2 : b ∈ a :: l := h.mem_iff.mpr List.mem_cons_self
      rcases List.mem_cons.mp m1 with e | m1
      · exact e
      · rcases List.mem_cons.mp m2 with e | m2
        · exact e.symm
        · exact leS_anti (h1.1 b m2) (h2.1 a m1)
    subst e
    rw [srtS_uniq (List.Perm.cons_inv h) h1.2 h2.2]
open PySem.Spec PyProof.Rows in
theorem srt_rising : ∀ (r : List Str) (x : Str), risingS x r = true → List.Pairwise leS ((x :: r).map fun s => s.cps.toList)
  | [], x, _ => by simp
  | y :: r, x, h => by
    simp only [risingS, Bool.and_eq_true, Bool.not_eq_true', ltCps_eq, decide_eq_false_iff_not] at h
    have ih := srt_rising r y h.2
    rw [List.map_cons, List.pairwise_cons]
    refine ⟨fun z hz => ?_, ih⟩
    rw [List.map_cons] at hz
    rcases List.mem_cons.mp hz with rfl | hz
    · exact h.1
    · rw [List.map_cons, List.pairwise_cons] at ih
      exact leS_trans h.1 (ih.1 z hz)
open PySem.Spec PyProof.Rows in
theorem sortS_uniq {ys : List Str} {ss : List (List Nat)} (h : ys.Perm (ss.map fun s => (⟨s.toArray⟩ : Str))) (hs : sortedS ys = true) : ys = (sortS ss).map fun s => (⟨s.toArray⟩ : Str) := by
  have h1 : (ys.map fun s => s.cps.toList).Perm ss := by
    have := h.map fun s : Str => s.cps.toList
    rw [List.map_map] at this
    have e : (List.map ((fun s : Str => s.cps.toList) ∘ fun s => (⟨s.toArray⟩ : Str)) ss) = ss := by
      have : ((fun s : Str => s.cps.toList) ∘ fun s : List Nat => (⟨s.toArray⟩ : Str)) = id := by funext s; simp
      rw [this, List.map_id]
    rw [e] at this
    exact this
  have h2 : List.Pairwise leS (ys.map fun s => s.cps.toList) := by
    cases ys with
    | nil => exact .nil
    | cons y r => exact srt_rising r y hs
  have e := srtS_uniq (h1.trans (sortS_perm ss).symm) h2 (sortS_srt ss)
  rw [← e, List.map_map]
  have : ((fun s : List Nat => (⟨s.toArray⟩ : Str)) ∘ fun s : Str => s.cps.toList) = id := by funext s; simp
  rw [this, List.map_id]
theorem rels_strsL {K : PySem.W.Frag} {S : Sa} {H : Hp} : ∀ ss : List (List Nat), (∀ s ∈ ss, s.length ≤ 1000000 ∧ ∀ c ∈ s, c < 128) → Rels K S H (ss.map D.str) ((ss.map fun s => (⟨s.toArray⟩ : Str)).map V.str)
  | [], _ => rfl
  | s :: ss, h => ⟨strV s, _, rfl, ⟨rfl, h s List.mem_cons_self⟩, rels_strsL ss fun t ht => h t (List.mem_cons_of_mem _ ht)⟩
/-- the two shapes of arguments -/
theorem opA_of {b : Bi} {r : List V → Hp → VK → Prop} (h1 : ∀ (S : Sa) (γ : Ga) (μ : Sto) (σ : L2.St) (H : Hp) (d : D) (v : V) (z : D) (Q : VK), Good c S γ μ σ H → RelW c.K T0 S H d v → bi1 b d = some z → Aft c true S μ H γ σ Q z μ → r [v] H Q)
    (h2 : ∀ (S : Sa) (γ : Ga) (μ : Sto) (σ : L2.St) (H : Hp) (d e : D) (v w : V) (z : D) (Q : VK), Good c S γ μ σ H → RelW c.K T0 S H d v → RelW c.K T0 S H e w → bi2 b d e = some z → Aft c true S μ H γ σ Q z μ → r [v, w] H Q) : OpA c r (fun xs μ => ofO (builtin b xs) μ) := by
  intro S γ μ σ H ds vs Q g rd h
  obtain ⟨z, hz, q⟩ := ofO_some h
  match ds, rd, hz with
  | [], _, hz => cases hz
  | [d], rd, hz =>
    obtain ⟨v, rfl, r1⟩ := one_of rd
    exact h1 S γ μ σ H d v z Q g r1 hz q
  | [d, e], rd, hz =>
    obtain ⟨v, w, rfl, r1, r2⟩ := two_of rd
    exact h2 S γ μ σ H d e v w z Q g r1 r2 hz q
  | _ :: _ :: _ :: _, _, hz => cases hz
theorem op_bi (hK : X.K = c.K) (hc : X.calm = true) (b : Bi) : ∃ r, CallR X (biVal b) r ∧ OpA c r (fun xs μ => ofO (builtin b xs) μ) := by
  cases b with
  | len =>
    refine ⟨_, call_len, opA_of (fun S γ μ σ H d v z Q g r hz q => ?_) fun S γ μ σ H d e v w z Q g _ _ hz q => nomatch hz⟩
    cases d <;> simp only [bi1, Option.some.injEq, reduceCtorEq] at hz
    · subst hz
      obtain ⟨rfl, l1, _⟩ := rw_str r
      exact ⟨_, _, rfl, ⟨by rw [str_len]; exact big_line l1, (str_len _).symm⟩, fin0 g q rfl⟩
    · subst hz
      obtain ⟨a, ws, rfl, sq, rs⟩ := rw_tup r
      exact ⟨_, _, rfl, .inr ⟨ws, by rw [hK]; exact sq, rs.length.symm⟩, fin0 g q rfl⟩
    · subst hz
      obtain ⟨a, ws, rfl, sq, rs⟩ := rw_lst r
      exact ⟨_, _, rfl, .inl ⟨ws, by rw [hK]; exact sq, rs.length.symm⟩, fin0 g q rfl⟩
  | abs =>
    refine ⟨_, call_abs, opA_of (fun S γ μ σ H d v z Q g r hz q => ?_) fun S γ μ σ H d e v w z Q g _ _ hz q => nomatch hz⟩
    cases d <;> simp only [bi1, Option.some.injEq, reduceCtorEq] at hz
    subst hz
    rw [rw_int r]
    exact ⟨_, rfl, fin0 g q rfl⟩
  | max =>
    refine ⟨_, (call_max2 hc).or ((cr_max hc).or (call_max2s hc)), opA_of (fun S γ μ σ H d v z Q g r hz q => ?_) fun S γ μ σ H d e v w z Q g r r2 hz q => ?_⟩
    · cases d <;> simp only [bi1, Option.map_eq_some_iff, Option.bind_eq_some_iff, reduceCtorEq] at hz
      obtain ⟨m, ⟨is, e1, e2⟩, rfl⟩ := hz
      obtain ⟨a, ws, rfl, sq, rs⟩ := rw_lst r
      obtain ⟨h1, h2⟩ := maxL_uniq e2
      refine .inr (.inl ⟨a, is, rfl, by rw [hK, ← ints_of e1 rs]; exact sq, h1, fun k hk hy => ?_⟩)
      rw [h2 k hk hy]
      exact fin0 g q rfl
    · cases d <;> cases e <;> simp only [bi2, Option.some.injEq, reduceCtorEq] at hz
      · subst hz
        rw [rw_int r, rw_int r2]
        exact .inl ⟨_, _, rfl, fin0 g q rfl⟩
      · subst hz
        obtain ⟨e1, l1, a1⟩ := rw_str r
        obtain ⟨e2, l2, a2⟩ := rw_str r2
        rw [e1, e2]
        refine .inr (.inr ⟨_, _, rfl, fin0 g q ?_⟩)
        split
        · exact ⟨rfl, l2, a2⟩
        · exact ⟨rfl, l1, a1⟩
  | min =>
    refine ⟨_, (call_min2 hc).or ((cr_min hc).or (call_min2s hc)), opA_of (fun S γ μ σ H d v z Q g r hz q => ?_) fun S γ μ σ H d e v w z Q g r r2 hz q => ?_⟩
    · cases d <;> simp only [bi1, Option.map_eq_some_iff, Option.bind_eq_some_iff, reduceCtorEq] at hz
      obtain ⟨m, ⟨is, e1, e2⟩, rfl⟩ := hz
      obtain ⟨a, ws, rfl, sq, rs⟩ := rw_lst r
      obtain ⟨h1, h2⟩ := minL_uniq e2
      refine .inr (.inl ⟨a, is, rfl, by rw [hK, ← ints_of e1 rs]; exact sq, h1, fun k hk hy => ?_⟩)
      rw [h2 k hk hy]
      exact fin0 g q rfl
    · cases d <;> cases e <;> simp only [bi2, Option.some.injEq, reduceCtorEq] at hz
      · subst hz
        rw [rw_int r, rw_int r2]
        exact .inl ⟨_, _, rfl, fin0 g q rfl⟩
      · subst hz
        obtain ⟨e1, l1, a1⟩ := rw_str r
        obtain ⟨e2, l2, a2⟩ := rw_str r2
        rw [e1, e2]
        refine .inr (.inr ⟨_, _, rfl, fin0 g q ?_⟩)
        split
        · exact ⟨rfl, l2, a2⟩
        · exact ⟨rfl, l1, a1⟩
  | int =>
    refine ⟨_, call_int1, opA_of (fun S γ μ σ H d v z Q g r hz q => ?_) fun S γ μ σ H d e v w z Q g _ _ hz q => nomatch hz⟩
    cases d <;> simp only [bi1, Option.some.injEq, reduceCtorEq] at hz
    · subst hz
      rw [rw_bl r]
      exact .inr ⟨_, rfl, fin0 g q rfl⟩
    · subst hz
      rw [rw_int r]
      exact .inl ⟨_, rfl, fin0 g q rfl⟩
  | str =>
    refine ⟨_, call_str_int, opA_of (fun S γ μ σ H d v z Q g r hz q => ?_) fun S γ μ σ H d e v w z Q g _ _ hz q => nomatch hz⟩
    cases d <;> cases hz
  | list =>
    refine ⟨_, call_list_of.or (call_list_text hc), opA_of (fun S γ μ σ H d v z Q g r hz q => ?_) fun S γ μ σ H d e v w z Q g _ _ hz q => nomatch hz⟩
    cases d <;> simp only [bi1, Option.some.injEq, reduceCtorEq] at hz
    · subst hz
      obtain ⟨rfl, l1, a1⟩ := rw_str r
      exact .inr ⟨_, rfl, l1, fin_lst g q (chars_rel _ a1)⟩
    · subst hz
      obtain ⟨a, ws, rfl, sq, rs⟩ := rw_tup r
      exact .inl ⟨a, ws, rfl, .inr (by rw [hK]; exact sq), fin_lst g q rs⟩
    · subst hz
      obtain ⟨a, ws, rfl, sq, rs⟩ := rw_lst r
      exact .inl ⟨a, ws, rfl, .inl (by rw [hK]; exact sq), fin_lst g q rs⟩
  | tuple =>
    refine ⟨_, call_tuple_of, opA_of (fun S γ μ σ H d v z Q g r hz q => ?_) fun S γ μ σ H d e v w z Q g _ _ hz q => nomatch hz⟩
    cases d <;> simp only [bi1, Option.some.injEq, reduceCtorEq] at hz
    · subst hz
      obtain ⟨a, ws, rfl, sq, rs⟩ := id r
      exact ⟨a, ws, rfl, .inr ⟨by rw [hK]; exact sq.sq, fin0 g q r⟩⟩
    · subst hz
      obtain ⟨a, ws, rfl, sq, rs⟩ := rw_lst r
      exact ⟨a, ws, rfl, .inl ⟨by rw [hK]; exact sq, fin_tup g q rs⟩⟩
  | sum =>
    refine ⟨_, cr_sum hc, opA_of (fun S γ μ σ H d v z Q g r hz q => ?_) fun S γ μ σ H d e v w z Q g _ _ hz q => nomatch hz⟩
    cases d <;> simp only [bi1, Option.map_eq_some_iff, reduceCtorEq] at hz
    obtain ⟨is, e1, rfl⟩ := hz
    obtain ⟨a, ws, rfl, sq, rs⟩ := rw_lst r
    exact ⟨a, is, rfl, by rw [hK, ← ints_of e1 rs]; exact sq, fin0 g q rfl⟩
  | any =>
    refine ⟨_, cr_any hc, opA_of (fun S γ μ σ H d v z Q g r hz q => ?_) fun S γ μ σ H d e v w z Q g _ _ hz q => nomatch hz⟩
    cases d <;> simp only [bi1, Option.map_eq_some_iff, reduceCtorEq] at hz
    obtain ⟨is, e1, rfl⟩ := hz
    obtain ⟨a, ws, rfl, sq, rs⟩ := rw_lst r
    exact ⟨a, is, rfl, by rw [hK, ← bools_of e1 rs]; exact sq, fin0 g q rfl⟩
  | all =>
    refine ⟨_, cr_all hc, opA_of (fun S γ μ σ H d v z Q g r hz q => ?_) fun S γ μ σ H d e v w z Q g _ _ hz q => nomatch hz⟩
    cases d <;> simp only [bi1, Option.map_eq_some_iff, reduceCtorEq] at hz
    obtain ⟨is, e1, rfl⟩ := hz
    obtain ⟨a, ws, rfl, sq, rs⟩ := rw_lst r
    exact ⟨a, is, rfl, by rw [hK, ← bools_of e1 rs]; exact sq, fin0 g q rfl⟩
  | sorted =>
    refine ⟨_, cr_sortedI.or cr_sortedS, opA_of (fun S γ μ σ H d v z Q g r hz q => ?_) fun S γ μ σ H d e v w z Q g _ _ hz q => nomatch hz⟩
    cases d with
    | lst xs =>
      have hz : (match intsD xs with | some is => some (.lst ((sortI is).map .int)) | none => (strsD xs).bind fun ss => if ss.length < 64 then some (.lst ((sortS ss).map .str)) else none : Option D) = some z := hz
      obtain ⟨a, ws, rfl, sq, rs⟩ := rw_lst r
      cases e1 : intsD xs with
      | some is =>
        rw [e1] at hz
        cases hz
        refine .inl ⟨a, is, rfl, by rw [hK, ← ints_of e1 rs]; exact sq, fun ns' p hp hs hn => ?_⟩
        rw [sortI_uniq hp hs]
        exact fin_lst g q (rels_intsL _) p hn
      | none =>
        rw [e1] at hz
        obtain ⟨ss, e2, h3⟩ := Option.bind_eq_some_iff.mp hz
        obtain ⟨e3, a3⟩ := strs_of e2 rs
        have l3 := strs_len e2 rs
        by_cases h64 : ss.length < 64
        · rw [if_pos h64] at h3
          cases h3
          refine .inr ⟨a, ss.map fun s => ⟨s.toArray⟩, rfl, by rw [hK, ← e3]; exact sq, by rw [List.length_map]; exact h64, fun ys p hp hs hn => ?_⟩
          rw [sortS_uniq hp hs]
          exact fin_lst g q (rels_strsL _ fun s hs => have m := (sortS_perm ss).mem_iff.mp hs; ⟨l3 s m, a3 s m⟩) p hn
        · rw [if_neg h64] at h3; cases h3
    | _ => cases hz
end
section
variable {X : Cx} {c : Ct}
/-- list(x), its result open: what is asked -/
theorem op_listX (hK : X.K = c.K) (hc : X.calm = true) : ∃ r, CallR X (.type "list") r ∧ ∀ (S : Sa) (H : Hp) (d : D) (v : V) (zs : List D) (Q : VK), RelW c.K T0 S H d v → bi1 .list d = some (.lst zs) → (∀ vs, Rels c.K S H zs vs → ∀ p, H p = none → Q (.ref p) (upd H p (.lst vs))) → r [v] H Q := by
  refine ⟨_, call_list_of.or (call_list_text hc), fun S H d v zs Q r hz q => ?_⟩
  cases d <;> simp only [bi1, Option.some.injEq, reduceCtorEq, D.lst.injEq] at hz
  · subst hz
    obtain ⟨rfl, l1, a1⟩ := rw_str r
    exact .inr ⟨_, rfl, l1, q _ (chars_rel _ a1)⟩
  · subst hz
    obtain ⟨a, ws, rfl, sq, rs⟩ := rw_tup r
    exact .inl ⟨a, ws, rfl, .inr (by rw [hK]; exact sq), q _ rs⟩
  · subst hz
    obtain ⟨a, ws, rfl, sq, rs⟩ := rw_lst r
    exact .inl ⟨a, ws, rfl, .inl (by rw [hK]; exact sq), q _ rs⟩
/-- + and * of lists, the result open -/
theorem op_lopX (hK : X.K = c.K) (o : Bop) : ∃ r, OpR X (binaryOp (bopOf o)) r ∧ ∀ (S : Sa) (H : Hp) (d e : D) (v w : V) (zs : List D) (Q : VK), RelW c.K T0 S H d v → RelW c.K T0 S H e w → binop o d e = some (.lst zs) → (∀ vs, Rels c.K S H zs vs → ∀ p, H p = none → Q (.ref p) (upd H p (.lst vs))) → r v w H Q := by
  cases o with
  | add =>
    refine ⟨_, op_catS, fun S H d e v w zs Q rd re hz q => ?_⟩
    rcases add_cases hz with ⟨i, j, rfl, rfl, z⟩ | ⟨s, t, rfl, rfl, hl, z⟩ | ⟨s, t, rfl, rfl, hl, z⟩ | ⟨s, t, rfl, rfl, hl, z⟩ <;> first | cases z | skip
    obtain ⟨a, vs, rfl, q1, r1⟩ := rw_lst rd
    obtain ⟨b, ws, rfl, q2, r2⟩ := rw_lst re
    exact ⟨a, b, vs, ws, rfl, rfl, by rw [hK]; exact q1, by rw [hK]; exact q2, by rw [r1.length, r2.length]; exact big_line hl, q _ (r1.append r2)⟩
  | mul =>
    refine ⟨_, op_repS, fun S H d e v w zs Q rd re hz q => ?_⟩
    cases d <;> cases e <;> simp only [binop, Option.ite_none_right_eq_some, Option.some.injEq, reduceCtorEq, D.lst.injEq, and_false] at hz
    obtain ⟨hcc, rfl⟩ := hz
    simp only [Bool.and_eq_true, decide_eq_true_eq] at hcc
    obtain ⟨a, vs, rfl, q1, r1⟩ := rw_lst rd
    exact ⟨a, _, vs, rfl, rw_int re, by rw [hK]; exact q1, by omega, by omega, by rw [r1.length]; exact hcc.1, q _ (r1.rep _)⟩
  | sub => exact ⟨_, op_sub, fun S H d e v w zs Q rd re hz q => by cases d <;> cases e <;> simp [binop] at hz⟩
  | fdiv => exact ⟨_, op_fdiv, fun S H d e v w zs Q rd re hz q => by cases d <;> cases e <;> simp [binop] at hz⟩
  | mod => exact ⟨_, op_mod, fun S H d e v w zs Q rd re hz q => by cases d <;> cases e <;> simp [binop] at hz⟩
  | pow => exact ⟨_, op_pow, fun S H d e v w zs Q rd re hz q => by cases d <;> cases e <;> simp [binop] at hz⟩
end
end Bs
/-! Bs: methods, isinstance. -/
namespace Bs
open PySem L2
theorem chain_count (s : List Nat) (c : Nat) : ∀ (cuts : List Nat) (a f : Nat), StrLaws.ChainG ⟨s.toArray⟩ ⟨#[c]⟩ (⟨s.toArray⟩ : Str).length a cuts f → (∀ k, f ≤ k → ¬ StrLaws.At ⟨s.toArray⟩ ⟨#[c]⟩ (⟨s.toArray⟩ : Str).length k) → (s.drop a).count c = cuts.length := by
  have at_iff : ∀ k, StrLaws.At ⟨s.toArray⟩ ⟨#[c]⟩ (⟨s.toArray⟩ : Str).length k ↔ s[k]? = some c := fun k => by
    have h := StrLaws.subAt_one ⟨s.toArray⟩ c k
    simpa [StrLaws.At] using h
  have none : ∀ (a b : Nat), (∀ k, a ≤ k → k < b → s[k]? ≠ some c) → (s.drop a).count c = (s.drop b).count c ∨ b < a := by
    intro a b
    induction b with
    | zero =>
      intro _
      by_cases h : a = 0
      · subst h; exact .inl rfl
      · exact .inr (by omega)
    | succ b ih =>
      intro h
      by_cases hb : b < a
      · by_cases hb2 : b + 1 < a
        · exact .inr hb2
        · have : a = b + 1 := by omega
          subst this
          exact .inl rfl
      · rcases ih fun k h1 h2 => h k h1 (by omega) with e | e
        · left
          rw [e]
          have hn := h b (by omega) (by omega)
          by_cases hl : b < s.length
          · rw [List.drop_eq_getElem_cons hl, List.count_cons]
            have : (s[b] == c) = false := by
              rw [beq_eq_false_iff_ne]
              intro z
              exact hn (by rw [List.getElem?_eq_getElem hl, z])
            rw [this]
            simp
          · rw [List.drop_eq_nil_of_le (by omega), List.drop_eq_nil_of_le (by omega)]
        · exact absurd e hb
  intro cuts
  induction cuts with
  | nil =>
    intro a f h hn
    have e : f = a := h
    subst e
    rcases none f (max f s.length) fun k h1 _ z => hn k h1 ((at_iff k).mpr z) with e | e
    · rw [e, List.drop_eq_nil_of_le (by omega)]; rfl
    · omega
  | cons i r ih =>
    intro a f h hn
    obtain ⟨h1, h2, h3, h4⟩ := h
    have h2' := (at_iff i).mp h2
    have hi : i < s.length := (List.getElem?_eq_some_iff.mp h2').1
    have e1 : s[i] = c := (List.getElem?_eq_some_iff.mp h2').2
    rcases none a i fun k ha hb z => h3 k ha hb ((at_iff k).mpr z) with e | e
    · have h5 := ih (i + 1) f h4 hn
      rw [e, List.drop_eq_getElem_cons hi, List.count_cons, h5, e1]
      simp
    · omega
theorem count_eq (s : List Nat) (c : Nat) : Txt.count ⟨s.toArray⟩ ⟨[c].toArray⟩ = (s.count c : Int) := by
  obtain ⟨f, h1, h2⟩ := StrLaws.occ_tight ⟨s.toArray⟩ ⟨#[c]⟩ (by simp [Str.length])
  have := chain_count s c _ 0 f h1 h2
  rw [List.drop_zero] at this
  unfold Txt.count
  rw [this]
theorem join_eq (sep : List Nat) : ∀ ss : List (List Nat), Txt.join ⟨sep.toArray⟩ (ss.map fun s => (⟨s.toArray⟩ : Str)) = ⟨(joinL sep ss).toArray⟩ := by
  intro ss
  unfold Txt.join
  rw [StrLaws.glued_eq_join]
  induction ss with
  | nil => rfl
  | cons x r ih =>
    cases r with
    | nil => rfl
    | cons y r =>
      show (⟨x.toArray⟩ : Str) ++ ⟨sep.toArray⟩ ++ Str.join ⟨sep.toArray⟩ (List.map (fun s => (⟨s.toArray⟩ : Str)) (y :: r)) = _
      rw [ih, str_app, str_app, List.append_assoc]
      rfl

def mtId : Mt → String
  | .join => "str.join" | .count => "str.count"
def mtName : Mt → Str
  | .join => "join" | .count => "count"
theorem joinL_mem {sep : List Nat} {c : Nat} : ∀ {ss : List (List Nat)}, c ∈ joinL sep ss → c ∈ sep ∨ ∃ s ∈ ss, c ∈ s
  | [], h => by cases h
  | [x], h => .inr ⟨x, List.mem_singleton.mpr rfl, h⟩
  | x :: y :: r, h => by
    rcases List.mem_append.mp (show c ∈ x ++ (sep ++ joinL sep (y :: r)) from h) with h | h
    · exact .inr ⟨x, List.mem_cons_self .., h⟩
    · rcases List.mem_append.mp h with h | h
      · exact .inl h
      · rcases joinL_mem h with h | ⟨s, hs, h⟩
        · exact .inl h
        · exact .inr ⟨s, List.mem_cons_of_mem _ hs, h⟩
theorem joinL_len {sep : List Nat} : ∀ (ss : List (List Nat)), (joinL sep ss).length ≤ (ss.map List.length).sum + ss.length * sep.length
  | [] => Nat.zero_le _
  | [x] => by simp [joinL]
  | x :: y :: r => by
    have := joinL_len (sep := sep) (y :: r)
    show (x ++ (sep ++ joinL sep (y :: r))).length ≤ _
    simp only [List.length_append, List.map_cons, List.sum_cons, List.length_cons] at this ⊢
    have e : (r.length + 1 + 1) * sep.length = (r.length + 1) * sep.length + sep.length := by rw [Nat.succ_mul]
    omega
section
variable {X : Cx} {c : Ct}
theorem op_mt (hK : X.K = c.K) (m : Mt) : ∃ r, MtR X (mtId m) r ∧ ∀ (S : Sa) (γ : Ga) (μ : Sto) (σ : L2.St) (H : Hp) (d e : D) (v w : V) (Q : VK), Good c S γ μ σ H → RelW c.K T0 S H d v → RelW c.K T0 S H e w → (ofO (mt1 m d e) μ).All (Aft c true S μ H γ σ Q) c.V → r v [w] H Q := by
  cases m with
  | join =>
    refine ⟨_, mt_join, fun S γ μ σ H d e v w Q g rd re h => ?_⟩
    obtain ⟨z, hz, q⟩ := ofO_some h
    cases d <;> cases e <;> simp only [mt1, reduceCtorEq, Option.bind_eq_some_iff, Option.ite_none_right_eq_some, Option.some.injEq] at hz
    obtain ⟨ss, e1, hl, rfl⟩ := hz
    obtain ⟨a, ws, rfl, sq, r2⟩ := rw_lst re
    obtain ⟨rfl, l1, a1⟩ := rw_str rd
    obtain ⟨e2, a2⟩ := strs_of e1 r2
    have el : ((ss.map fun s => (⟨s.toArray⟩ : Str)).map (·.length)).sum = (ss.map List.length).sum := by
      rw [List.map_map]
      congr 1
    refine ⟨_, a, ss.map fun s => ⟨s.toArray⟩, rfl, rfl, .inl (by rw [hK, ← e2]; exact sq), ?_, ?_⟩
    · rw [el, List.length_map, str_len]
      exact Nat.le_trans hl (by decide)
    · rw [join_eq]
      refine fin0 g q ⟨rfl, Nat.le_trans (joinL_len ss) hl, fun x hx => ?_⟩
      rcases joinL_mem hx with h | ⟨s, hs, h⟩
      · exact a1 x h
      · exact a2 s hs x h
  | count =>
    refine ⟨_, mt_count, fun S γ μ σ H d e v w Q g rd re h => ?_⟩
    obtain ⟨z, hz, q⟩ := ofO_some h
    cases d <;> cases e <;> simp only [mt1, reduceCtorEq, Option.map_eq_some_iff] at hz
    obtain ⟨ch, e1, rfl⟩ := hz
    rename_i t
    have et : t = [ch] := by
      match t, e1 with
      | [x], e1 => cases e1; rfl
    subst et
    refine ⟨_, _, (rw_str rd).1, congrArg (fun x => [x]) (rw_str re).1, ?_⟩
    rw [count_eq]
    exact fin0 g q rfl
/-! ### isinstance -/
def tyName : Ty → String
  | .int => "int" | .str => "str" | .bool => "bool" | .tuple => "tuple" | .list => "list" | .dict => "dict"
def tyOf : D → Option String
  | .non => some "NoneType" | .bl _ => some "bool" | .int _ => some "int" | .str _ => some "str" | .tup _ => some "tuple" | .lst _ => some "list" | .dic _ => some "dict"
  | _ => none
theorem ty_boot (t : Ty) : bootBuiltins (Str.ofString (tyName t)) = some (.type (tyName t)) := by cases t <;> decide +kernel
theorem tyX_of {K : PySem.W.Frag} {T S : Sa} {H : Hp} {d : D} {v : V} {n : String} (e : tyOf d = some n) (h : RelW K T S H d v) : TyX K H v (.type n) := by
  cases d <;> simp only [tyOf, Option.some.injEq, reduceCtorEq] at e <;> subst e
  · rw [rw_non h]; exact .base .non
  · rw [rw_bl h]; exact .base (.bl _)
  · rw [rw_int h]; exact .base (.int _)
  · rw [(rw_str h).1]; exact .base (.str _)
  · obtain ⟨a, vs, rfl, q, _⟩ := h
    rcases q with ⟨q | ⟨o, q⟩, _⟩ | ⟨o, its, n, q1, q2, _⟩
    · exact .base (.tup q)
    · exact .fTuple q
    · exact .kTuple q1 q2
  · obtain ⟨a, vs, rfl, q, _⟩ := h
    rcases q with ⟨q | ⟨o, q⟩, _⟩ | ⟨o, its, n, q1, q2, _⟩
    · exact .base (.lst q)
    · exact .base (.frz q)
    · exact .kList q1 q2
  · obtain ⟨a, vs, rfl, q, _⟩ := h
    rcases q with q | ⟨o, q⟩
    · exact .base (.dK q)
    · exact .fDict q
theorem isTy_some {d : D} {t : Ty} {b : Bool} (h : isTy d t = some b) : ∃ n, tyOf d = some n ∧ kitB n (tyName t) = some b := by
  cases d <;> simp only [isTy, reduceCtorEq] at h
  all_goals cases t <;> simp only [isTy, Option.some.injEq] at h <;> subst h <;> exact ⟨_, rfl, by decide +kernel⟩
theorem isTys_some {K : PySem.W.Frag} {d : D} {n : String} (e : tyOf d = some n) : ∀ {ts : List Ty} {b : Bool}, isTys d ts = some b → PySem.W.kitAny K (.type n) (ts.map fun t => .type (tyName t)) = some b
  | [], b, h => by cases h; rfl
  | t :: ts, b, h => by
    simp only [isTys] at h
    cases q : isTy d t with
    | none => rw [q] at h; cases h
    | some a =>
      rw [q] at h
      obtain ⟨n', e', k⟩ := isTy_some q
      rw [e] at e'
      cases e'
      refine kitAny_cons (kit_ty k) (fun ha => ?_) fun ha => ?_
      · subst ha; exact isTys_some e h
      · subst ha; exact (Option.some.inj h).symm
end
end Bs
/-! Bs: what a loop walks: a list, a tuple, a text; enumerate and zip of these. -/
namespace PySem
open Sem (wp)
open AutoSeq1 (wpAny_loadPart')
set_option maxHeartbeats 1000000 in
theorem bs_enum_newT (l : Addr) (items : Array Value) (n : Nat) (dct : Option Addr) (sl : Array (Option Value)) :
    Meets (Builtin.«enumerate.__new__» ⟨[.type "enumerate", .ref l], []⟩) (fun _ R s => s.heap.get? l = some { cls := .type "tuple", dict := dct, data := .seq items n, slots := sl } ∧
      R (.ok (.ret (.ref (s.heap.push { cls := .type "tuple_iterator", data := .fields #[.ref l, .int 0 0] }).objs.size)))
        { s with heap := (s.heap.push { cls := .type "tuple_iterator", data := .fields #[.ref l, .int 0 0] }).push { cls := .type "enumerate", data := .fields #[.none, .bool false, .ref s.heap.objs.size, rawInt 0, .none, .none] } }) :=
  .of_wp fun prog w A R s h => by
    obtain ⟨hp, g, d, tk, os⟩ := s; obtain ⟨hl, h⟩ := h
    have hsub := sub_enumerate
    have hL : Heap.IsTuple (Shared.heap ⟨hp, g, d, tk, os⟩) l items := ⟨_, hl, rfl, n, rfl⟩
    wp_walk using wpAny_loadPart' hl
    refine wpAny_stack_any fun st => wpAny_pure ?_
    split
    · rename_i c _ _ _ _ _
      cases (c == Value.type "enumerate")
      · wp_walk using wpAny_loadPart' hl, wpAny_pyIter_tuple hL
        exact ⟨_, rfl, h⟩
      · wp_walk using wpAny_loadPart' hl, wpAny_pyIter_tuple hL
        exact ⟨_, rfl, h⟩
    · wp_walk using wpAny_loadPart' hl, wpAny_pyIter_tuple hL
      exact ⟨_, rfl, h⟩
theorem bs_enum_tuple {prog : Program} {w : World} {A : Around} {E : Value → Shared → Prop} {s : Shared} {l : Addr} {items : Array Value} {Q : Value → Shared → Prop} (hL : s.heap.IsTuple l items)
    (h : ∀ h', IsEnum h' (s.heap.objs.size + 1) s.heap.objs.size 0 .none → h'.IsTupleIter s.heap.objs.size l 0 → h'.objs.size = s.heap.objs.size + 2 →
      (∀ b o, s.heap.get? b = some o → h'.get? b = some o) → Q (.ref (s.heap.objs.size + 1)) { s with heap := h' }) :
    wpAny (model prog w) A (call (.type "enumerate") [.ref l]) Q E s := by
  obtain ⟨⟨c, dct, dt, sl⟩, hl, hc, n, hd⟩ := hL
  replace hc : c = .type "tuple" := hc
  replace hd : dt = .seq items n := hd
  subst hc hd
  refine callType_new F.called_enumerate (by decide) (F.typeCall_enumerate_1 _) (F.newCall_enumerate_1 _) (fun obj => F.args_object_init_2 obj _) F.entry_enumerate_new
    (bs_enum_newT l items n dct sl) ⟨hl, ?_⟩
  have hz : (s.heap.push { cls := .type "tuple_iterator", data := .fields #[.ref l, .int 0 0] }).objs.size = s.heap.objs.size + 1 := Heap.size_push ..
  show _ ∧ _
  rw [hz]
  have he : IsEnum ((s.heap.push { cls := .type "tuple_iterator", data := .fields #[.ref l, .int 0 0] }).push
      { cls := .type "enumerate", data := .fields #[.none, .bool false, .ref s.heap.objs.size, rawInt 0, .none, .none] }) (s.heap.objs.size + 1) s.heap.objs.size 0 .none := by
    have := Heap.get?_push_size (s.heap.push { cls := .type "tuple_iterator", data := .fields #[.ref l, .int 0 0] })
      (o := { cls := .type "enumerate", data := .fields #[.none, .bool false, .ref s.heap.objs.size, rawInt 0, .none, .none] }) rfl
    rw [hz] at this; exact this
  refine ⟨⟨_, he, rfl⟩, h _ he ⟨_, Heap.get?_push_of_some _ (Heap.get?_push_size _ rfl), rfl, rfl⟩ (by rw [Heap.size_push, hz]) fun b o x => Heap.get?_push_of_some _ (Heap.get?_push_of_some _ x)⟩
end PySem
namespace Bs
open PySem L2
inductive Sk where | lst (a : Addr) | tup (a : Addr) | txt (x : Str)
def Sk.is (K : PySem.W.Frag) (H : Hp) : Sk → List V → Prop
  | .lst a, xs => SqL K H a xs
  | .tup a, xs => SqT K H a xs
  | .txt x, xs => xs = x.cps.toList.map fun c => V.str ⟨#[c]⟩
def Sk.at (it : Addr) : Sk → Nat → Heap → Prop
  | .lst a, i, h => h.IsListIter it a i
  | .tup a, i, h => h.IsTupleIter it a i
  | .txt x, i, h => ∃ t, h.IsStrIter it (strIterType x) x t i
def Sk.val : Sk → V → Prop
  | .lst a, v => v = .ref a
  | .tup a, v => v = .ref a
  | .txt x, v => v = .str x
/-- the cell of the iterator of this source -/
def Sk.obj (x : Value) : Sk → Obj
  | .lst a => { cls := .type "list_iterator", data := .fields #[.ref a, .int 0 0] }
  | .tup a => { cls := .type "tuple_iterator", data := .fields #[.ref a, .int 0 0] }
  | .txt z => { cls := .type (strIterType z), data := .fields #[x, .int 0 0] }
theorem Sk.at_obj {it : Addr} {k : Sk} {i : Nat} {h : Heap} (st : k.at it i h) : ∃ o n vs, h.get? it = some o ∧ o.cls = .type n ∧ o.data = .fields vs ∧ n ≠ "enumerate" ∧ n ≠ "zip" := by
  cases k with
  | lst a => obtain ⟨o, e, c, d⟩ := st; exact ⟨o, _, _, e, c, d, by decide, by decide⟩
  | tup a => obtain ⟨o, e, c, d⟩ := st; exact ⟨o, _, _, e, c, d, by decide, by decide⟩
  | txt x =>
    obtain ⟨t, o, e, c, d⟩ := st
    refine ⟨o, _, _, e, c, d, ?_, ?_⟩
    · unfold strIterType; split <;> decide
    · unfold strIterType; split <;> decide
theorem Sk.at_keep {it : Addr} {k : Sk} {i : Nat} {h h' : Heap} (st : k.at it i h) (e : ∀ o, h.get? it = some o → h'.get? it = some o) : k.at it i h' := by
  cases k with
  | lst a => exact Heap.IsListIter.at st e
  | tup a => exact Heap.IsTupleIter.at st e
  | txt x => obtain ⟨t, o, ho, r⟩ := st; exact ⟨t, o, e o ho, r⟩
theorem sqL_known {K : PySem.W.Frag} {H : Hp} {a : Addr} {xs : List V} (h : SqL K H a xs) : H a ≠ none ∨ ∃ o, K.lookup a = some o := by
  rcases h with (h | ⟨o, h⟩) | ⟨o, _, _, h, _⟩
  · exact .inl (by rw [h]; exact fun z => nomatch z)
  · exact .inl (by rw [h]; exact fun z => nomatch z)
  · exact .inr ⟨o, h⟩
theorem sqT_known {K : PySem.W.Frag} {H : Hp} {a : Addr} {xs : List V} (h : SqT K H a xs) : H a ≠ none ∨ ∃ o, K.lookup a = some o := by
  rcases h with (h | ⟨o, h⟩) | ⟨o, _, _, h, _⟩
  · exact .inl (by rw [h]; exact fun z => nomatch z)
  · exact .inl (by rw [h]; exact fun z => nomatch z)
  · exact .inr ⟨o, h⟩
theorem fp_not {X : Cx} {pins pins' : List (Addr × Obj)} {σ : L2.St} {H : Hp} {s : Shared} (I : L2.Inv X pins σ H s) {b : Addr} (f : FpOk X pins' H b) : ¬ (H b ≠ none ∨ ∃ o, X.K.lookup b = some o) := by
  rintro (h | ⟨o, h⟩)
  · exact h f.1
  · have hb : X.base.get? b = some o := I.ok.mod.kin b o h
    rcases f.2.2.2.1 with z | z
    · exact I.ok.noex b o hb z
    · exact absurd (Nat.lt_of_lt_of_le (Heap.lt_size hb) (Nat.le_trans I.ok.bsz z)) (Nat.lt_irrefl _)
section
variable {X : Cx} {pins : List (Addr × Obj)} {σ : L2.St} {H : Hp} {s : Shared}
/-- what the library asks of such an iterator -/
theorem Sk.draws {k : Sk} {xs : List V} {it : Addr} {i : Nat} {A : Around} (I : L2.Inv X pins σ H s) (hh : A.handled = none) (hx : k.is X.K H xs) (st : k.at it i s.heap) :
    ∃ (fp : List Addr) (n : Nat) (P : Nat → Value → Prop) (St : Nat → Heap → Prop), Draws X.prog X.w A it fp n P St ∧ St i s.heap ∧ n = xs.length ∧ it ∈ fp ∧ (∀ b ∈ fp, b = it ∨ H b ≠ none ∨ ∃ o, X.K.lookup b = some o) ∧
       (∀ j v, P j v → ∃ x, xs[j]? = some x ∧ RelV x v) ∧ ∀ j h, St j h → k.at it j h := by
  cases k with
  | lst a =>
    obtain ⟨its, rv, p, hz⟩ := I.list hx
    obtain ⟨o, n, e, hc, hdi, hd⟩ := id p
    have hne : a ≠ it := fun z => by
      obtain ⟨o', e', c', _⟩ := st
      rw [z, e'] at e
      cases e
      rw [c'] at hc
      injection hc with hc
      exact absurd hc (by decide)
    have hl := rv.length
    refine ⟨_, _, _, _, Draws.list hh it a hne its.toArray, ⟨st, p.isList⟩, by rw [List.size_toArray]; exact hl.symm, by simp, fun b hb => ?_, fun j v hv => ?_, fun j h z => z.1⟩
    · have : b = it ∨ b = a := by simpa using hb
      rcases this with z | z
      · exact .inl z
      · rw [z]; exact .inr (sqL_known hx)
    · have hj : j < xs.length := by
        rw [hl]
        exact (List.getElem?_eq_some_iff.mp (show its[j]? = some v by simpa using hv)).1
      obtain ⟨u, hu, ru⟩ := rv.get (List.getElem?_eq_getElem hj)
      have hv' : its[j]? = some v := by simpa using hv
      rw [hu] at hv'
      cases hv'
      exact ⟨_, List.getElem?_eq_getElem hj, ru⟩
  | tup a =>
    obtain ⟨its, rv, p, hz⟩ := I.tuple hx
    obtain ⟨o, e, hc, n, hd⟩ := id p
    have hne : a ≠ it := fun z => by
      obtain ⟨o', e', c', _⟩ := st
      rw [z, e'] at e
      cases e
      rw [c'] at hc
      injection hc with hc
      exact absurd hc (by decide)
    have hl := rv.length
    refine ⟨_, _, _, _, Draws.tuple hh it a hne its.toArray, ⟨st, p⟩, by rw [List.size_toArray]; exact hl.symm, by simp, fun b hb => ?_, fun j v hv => ?_, fun j h z => z.1⟩
    · have : b = it ∨ b = a := by simpa using hb
      rcases this with z | z
      · exact .inl z
      · rw [z]; exact .inr (sqT_known hx)
    · have hj : j < xs.length := by
        rw [hl]
        exact (List.getElem?_eq_some_iff.mp (show its[j]? = some v by simpa using hv)).1
      obtain ⟨u, hu, ru⟩ := rv.get (List.getElem?_eq_getElem hj)
      have hv' : its[j]? = some v := by simpa using hv
      rw [hu] at hv'
      cases hv'
      exact ⟨_, List.getElem?_eq_getElem hj, ru⟩
  | txt x =>
    obtain ⟨t, st⟩ := st
    have hx' : xs = x.cps.toList.map fun c => V.str ⟨#[c]⟩ := hx
    refine ⟨_, _, _, _, Draws.text hh it x t, st, by rw [hx', List.length_map]; simp, by simp, fun b hb => .inl (by simpa using hb), fun j v hv => ?_, fun j h z => ⟨t, z⟩⟩
    · obtain ⟨c, u, hc, rfl⟩ := hv
      refine ⟨.str ⟨#[c]⟩, ?_, u, rfl⟩
      rw [hx', List.getElem?_map]
      have : x.cps.toList[j]? = some c := by simpa using hc
      rw [this]
      rfl
end
def IteG (K : PySem.W.Frag) (k : Sk) : It :=
  ⟨fun i H => ∃ (xs : List V) (x : V), k.is K H xs ∧ xs[i]? = some x, fun i H v H' => ∃ T x, v = .ref T ∧ H T = none ∧ H' = upd H T (.tup [.int (i : Nat), x]) ∧ ∀ xs, k.is K H xs → xs[i]? = some x, fun i H => ∃ xs : List V, k.is K H xs ∧ xs.length = i⟩
theorem Sk.inj {X : Cx} {pins : List (Addr × Obj)} {σ : L2.St} {H : Hp} {s : Shared} (I : L2.Inv X pins σ H s) {k : Sk} {xs ys : List V} (h : k.is X.K H xs) (h' : k.is X.K H ys) : xs = ys := by
  cases k with
  | lst a => exact I.list_inj h h'
  | tup a => exact I.tuple_inj h h'
  | txt x => exact (show xs = _ from h).trans (show ys = _ from h').symm
theorem turn_enumG {P : Program} {w : World} {K : PySem.W.Frag} {elts : List Expr} {kk : Nat} {tpos : Pos} (k : Sk) (e it : Addr) :
    Turn P w K (.Tuple elts kk tpos) (IteG K k) [e, it] e (fun i h => (∃ old, IsEnum h e it ((i : Nat) : Int) old) ∧ k.at it i h ∧ e ≠ it) where
  mem := by simp
  obj := fun i h st b hb => by
    obtain ⟨⟨old, he⟩, hi, _⟩ := st
    obtain ⟨o, n, vs, ho, _, hd, _⟩ := Sk.at_obj hi
    have e' : b = e ∨ b = it := by simpa using hb
    rcases e' with z | z
    · rw [z]; exact ⟨_, he, fun v q => nomatch q⟩
    · rw [z]; exact ⟨o, ho, fun v q => by rw [hd] at q; cases q⟩
  keep := fun i h h' st kp => let ⟨⟨old, he⟩, hi, hne⟩ := st; ⟨⟨old, kp e (by simp) _ he⟩, Sk.at_keep hi fun o q => kp it (by simp) o q, hne⟩
  item := by
    intro X hP hw hK hc i pins s σ H E I hf st hg
    subst hP hw hK
    obtain ⟨⟨old, he⟩, hit, hne⟩ := st
    obtain ⟨xs, x, hq, hx⟩ := hg
    obtain ⟨fp, n, Pr, St, D, st0, hn, hif, hfp, hP, hat⟩ := Sk.draws (A := X.A.in1) I (I.ok.hd hc) hq hit
    have hef : e ∉ fp := fun z => by
      rcases hfp e z with q | q
      · exact hne q
      · exact fp_not I (hf e (by simp)) q
    have hin : i < n := by rw [hn]; exact (List.getElem?_eq_some_iff.mp hx).1
    have W := GoesN.enumFrom (prog := X.prog) (w := X.w) (A := X.A) (elts := elts) (x1 := kk) (pos := tpos) 0 D e hne hef hif
    refine W.goes i s _ E hin ⟨⟨old, by rw [Int.zero_add]; exact he⟩, st0⟩ fun v h' tk hY st' hk _ => ?_
    obtain ⟨T, t, u, rfl, hT, hu, hTup⟩ := hY
    obtain ⟨x', hx', ru⟩ := hP i u hu
    rw [hx] at hx'
    cases hx'
    rw [Int.zero_add] at hTup
    have new : ObjOk X.prog X.w (upd H T (.tup [.int (i : Nat), x])) h' T (.tup [.int (i : Nat), x]) :=
      ⟨by show 2 ≤ sizeLine; decide, [.int i t, u], .cons ⟨_, rfl⟩ (.cons ru .nil), hTup⟩
    refine ⟨.ref T, _, I.turnedNew (ch := [e, it]) (fun b ob hb q => hk b ob hb q) hf hT new, rfl, ⟨T, x, rfl, I.hok.fresh hT, rfl, fun ys hy => by rw [Sk.inj I hy hq]; exact hx⟩, ⟨?_, hat _ _ st'.2, hne⟩, fun b hb => ?_⟩
    · obtain ⟨old', he'⟩ := st'.1
      refine ⟨old', ?_⟩
      have e1 : (0 : Int) + ((i + 1 : Nat) : Int) = ((i + 1 : Nat) : Int) := Int.zero_add _
      rw [← e1]
      exact he'
    · have hb' : b < s.heap.objs.size := by
        have e' : b = e ∨ b = it := by simpa using hb
        rcases e' with z | z
        · rw [z]; exact Heap.lt_size he
        · rw [z]
          obtain ⟨o, _, _, ho, _⟩ := Sk.at_obj hit
          exact Heap.lt_size ho
      rw [upd_ne (Nat.ne_of_lt (Nat.lt_of_lt_of_le hb' hT))]
      exact (hf b hb).1
  done := by
    intro X hP hw hK hc i pins s σ H E I hf st hg
    subst hP hw hK
    obtain ⟨⟨old, he⟩, hit, hne⟩ := st
    obtain ⟨xs, hq, hx⟩ := hg
    obtain ⟨fp, n, Pr, St, D, st0, hn, hif, hfp, hP, hat⟩ := Sk.draws (A := X.A.in1) I (I.ok.hd hc) hq hit
    have hef : e ∉ fp := fun z => by
      rcases hfp e z with q | q
      · exact hne q
      · exact fp_not I (hf e (by simp)) q
    have W := GoesN.enumFrom (prog := X.prog) (w := X.w) (A := X.A) (elts := elts) (x1 := kk) (pos := tpos) 0 D e hne hef hif
    have hin : i = n := by rw [hn]; exact hx.symm
    subst hin
    exact W.stops s _ E ⟨⟨old, by rw [Int.zero_add]; exact he⟩, st0⟩ fun h' tk hk _ => I.turnedL (ch := [e, it]) (fun b o hb q => hk b o hb q) hf
  self := fun A i s Q E st h => let ⟨⟨_, he⟩, _⟩ := st; wpAny_pyIter_enum he h
/-- the value of a source, its iterator -/
theorem Sk.begins {X : Cx} {pins : List (Addr × Obj)} {σ : L2.St} {H : Hp} {s : Shared} (I : L2.Inv X pins σ H s) {k : Sk} {xs : List V} {v : V} {u : Value} (hx : k.is X.K H xs) (hv : k.val v) (r : RelV v u) :
    ∃ (G : Heap → Prop), Begins u (k.obj u) G ∧ G s.heap ∧ ∀ it h, h.get? it = some (k.obj u) → k.at it 0 h := by
  cases k with
  | lst a =>
    obtain ⟨its, rv, p, hz⟩ := I.list hx
    subst hv
    cases r
    exact ⟨_, begins_list a its.toArray, p.isList, fun it h e => ⟨_, e, rfl, rfl⟩⟩
  | tup a =>
    obtain ⟨its, rv, p, hz⟩ := I.tuple hx
    subst hv
    cases r
    exact ⟨_, begins_tuple a its.toArray, p, fun it h e => ⟨_, e, rfl, rfl⟩⟩
  | txt x =>
    subst hv
    obtain ⟨t, rfl⟩ := r
    exact ⟨_, begins_text x t, trivial, fun it h e => ⟨t, _, e, rfl, rfl⟩⟩
/-! ### the walks' rules -/
def ItS (K : PySem.W.Frag) : Sk → It
  | .lst a => Itl K a
  | .tup a => Itt K a
  | .txt x => Its x
section
variable {X : Cx}
def iSrc (K : PySem.W.Frag) (te : TE) : TI := fun σ H R => te σ H fun v H1 => ∃ k xs, Sk.val k v ∧ Sk.is K H1 k xs ∧ R (ItS K k) H1
theorem pi_src {tg e : Expr} {te : TE} (he : PE X e te) : PI X tg e (iSrc X.K te) := by
  refine ⟨fun pins s σ H R I h => ?_⟩
  refine thn (he.run pins s σ H _ I h) fun v s1 ⟨y, H1, I1, r1, k, xs, hv, hx, q⟩ => ?_
  cases k with
  | lst a =>
    subst hv
    cases r1
    obtain ⟨its, rv, p, hz⟩ := I1.list hx
    exact wpAny_pyIter_list p.isList (pi_one (tk := s1.toks) I1 _ (turn_list a _) ⟨_, Heap.get?_push_size _ rfl, rfl, rfl⟩ q)
  | tup a =>
    subst hv
    cases r1
    obtain ⟨its, rv, p, hz⟩ := I1.tuple hx
    exact wpAny_pyIter_tuple (show s1.heap.IsTuple a its.toArray from p) (pi_one (tk := s1.toks) I1 _ (turn_tuple a _) ⟨_, Heap.get?_push_size _ rfl, rfl, rfl⟩ q)
  | txt x =>
    subst hv
    obtain ⟨t, rfl⟩ := r1
    cases ha : x.cps.all (· < 128)
    · exact wpAny_pyIter_wide ha (pi_one (tk := s1.toks) I1 _ (turn_str _ x t "str_iterator" (.inr rfl)) ⟨_, Heap.get?_push_size _ rfl, rfl, rfl⟩ q)
    · exact wpAny_pyIter_ascii ha (pi_one (tk := s1.toks) I1 _ (turn_str _ x t "str_ascii_iterator" (.inl rfl)) ⟨_, Heap.get?_push_size _ rfl, rfl, rfl⟩ q)
def iEnumG (K : PySem.W.Frag) (te : TE) : TI := fun σ H R => te σ H fun v H1 => ∃ k xs, Sk.val k v ∧ Sk.is K H1 k xs ∧ R (IteG K k) H1
theorem pi_enumG {e : Expr} {te : TE} {p pos tpos : Pos} {elts : List Expr} {kk : Nat} (hg : Gl X "enumerate") (hm : X.mg "enumerate" = none) (he : PE X e te) (hs : starEach [e] X.env = [(false, eval e X.env)]) :
    PI X (.Tuple elts kk tpos) (.Call (.Name "enumerate" p) [e] [] pos) (iEnumG X.K te) := by
  refine ⟨fun pins s σ H R I h => ?_⟩
  have ha : PA X [e] (tCons te tNil) := pa_cons he pa_nil hs
  refine PyProof.Rows.Call_ (ld_blt I hg hm PyProof.Rows.boot_enumerate (PyProof.Rows.callWith_type1 (thn (ha.run pos pins s σ H (fun vs H1 => ∃ v, vs = [v] ∧ ∃ k xs, Sk.val k v ∧ Sk.is X.K H1 k xs ∧ R (IteG X.K k) H1) I ?_) fun us s1 ⟨vs, H1, I1, r1, q1⟩ => ?_) hs rfl))
  · show te σ H fun x H1 => ∃ v, [x] = [v] ∧ ∃ k xs, Sk.val k v ∧ Sk.is X.K H1 k xs ∧ R (IteG X.K k) H1
    have e : (fun x H1 => ∃ v, [x] = [v] ∧ ∃ k xs, Sk.val k v ∧ Sk.is X.K H1 k xs ∧ R (IteG X.K k) H1) = fun (v : V) (H1 : Hp) => ∃ k xs, Sk.val k v ∧ Sk.is X.K H1 k xs ∧ R (IteG X.K k) H1 := by
      funext x H1
      exact propext ⟨fun ⟨v, e, z⟩ => by cases e; exact z, fun z => ⟨x, rfl, z⟩⟩
    rw [e]
    exact h
  · obtain ⟨v, rfl, k, xs, hv, hx, q⟩ := q1
    obtain ⟨u, rfl, r⟩ := vals1 r1
    have fin : ∀ h', IsEnum h' (s1.heap.objs.size + 1) s1.heap.objs.size 0 .none → k.at s1.heap.objs.size 0 h' → (∀ b o, s1.heap.get? b = some o → h'.get? b = some o) →
        PIE X pins σ (.Tuple elts kk tpos) R (.ref (s1.heap.objs.size + 1)) { s1 with heap := h' } := fun h' he hit hk => by
      have I2 : L2.Inv X pins σ H1 { s1 with heap := h' } := I1.kept (t' := s1.toks) hk
      refine ⟨s1.heap.objs.size + 1, [s1.heap.objs.size + 1, s1.heap.objs.size], _, _, H1, rfl, I2, turn_enumG k (s1.heap.objs.size + 1) s1.heap.objs.size, ⟨⟨.none, he⟩, hit, Nat.succ_ne_self _⟩, fun b hb => ?_, q⟩
      have e' : b = s1.heap.objs.size + 1 ∨ b = s1.heap.objs.size := by simpa using hb
      have hle : s1.heap.objs.size ≤ b := by
        rcases e' with z | z
        · rw [z]; exact Nat.le_add_right _ _
        · rw [z]; exact Nat.le_refl _
      exact I1.fpOk hle (I1.hok.fresh hle)
    cases k with
    | lst a =>
      subst hv
      cases r
      obtain ⟨its, rv, p', hz⟩ := I1.list hx
      exact call_enumerate_list p'.isList fun h' he hit hsz hk => wpAny_pyIter_enum he (fin h' he hit hk)
    | tup a =>
      subst hv
      cases r
      obtain ⟨its, rv, p', hz⟩ := I1.tuple hx
      exact bs_enum_tuple p' fun h' he hit hsz hk => wpAny_pyIter_enum he (fin h' he hit hk)
    | txt x =>
      subst hv
      obtain ⟨t, rfl⟩ := r
      exact call_enumerate_str fun h' he hit hsz hk => wpAny_pyIter_enum he (fin h' he ⟨t, hit⟩ hk)
end
/-! ### zip -/
def ItzG (K : PySem.W.Frag) (k1 k2 : Sk) : It :=
  ⟨fun i H => ∃ (xs ys : List V), k1.is K H xs ∧ k2.is K H ys ∧ i < min xs.length ys.length, fun i H v H' => ∃ T x y, v = .ref T ∧ H T = none ∧ H' = upd H T (.tup [x, y]) ∧ (∀ xs, k1.is K H xs → xs[i]? = some x) ∧ ∀ ys, k2.is K H ys → ys[i]? = some y,
    fun i H => ∃ xs ys : List V, k1.is K H xs ∧ k2.is K H ys ∧ i = min xs.length ys.length⟩
/-- the cells of a zip stand apart -/
structure ZA (z TI TO i1 i2 : Addr) : Prop where
  h1 : z ≠ TI
  h2 : z ≠ TO
  h3 : z ≠ i1
  h4 : z ≠ i2
  h5 : TI ≠ TO
  h6 : TI ≠ i1
  h7 : TI ≠ i2
  h8 : TO ≠ i1
  h9 : TO ≠ i2
  h10 : i1 ≠ i2
theorem zip_sub {b z TI TO i1 i2 : Addr} (h : b ∈ [z, TO, i1, i2]) : b ∈ [z, TI, TO, i1, i2] := by
  have : b = z ∨ b = TO ∨ b = i1 ∨ b = i2 := by simpa using h
  rcases this with e | e | e | e <;> rw [e] <;> simp
theorem turn_zipG {P : Program} {w : World} {K : PySem.W.Frag} {elts : List Expr} {kk : Nat} {tpos : Pos} (k1 k2 : Sk) {z TI TO i1 i2 : Addr} (D : ZA z TI TO i1 i2) :
    Turn P w K (.Tuple elts kk tpos) (ItzG K k1 k2) [z, TI, TO, i1, i2] z (fun i h => IsZip h z TI TO .none ∧ IsTupOf2 h TI (.ref i1) (.ref i2) ∧ (∃ x y, IsTupOf2 h TO x y) ∧ k1.at i1 i h ∧ k2.at i2 i h) where
  mem := by simp
  obj := fun i h st c hc => by
    obtain ⟨hz, hTI, ⟨x, y, hTO⟩, h1, h2⟩ := st
    obtain ⟨o1, _, _, e1, _, d1, _⟩ := Sk.at_obj h1
    obtain ⟨o2, _, _, e2, _, d2, _⟩ := Sk.at_obj h2
    have e' : c = z ∨ c = TI ∨ c = TO ∨ c = i1 ∨ c = i2 := by simpa using hc
    rcases e' with q | q | q | q | q
    · rw [q]; exact ⟨_, hz, fun v q => nomatch q⟩
    · rw [q]; exact ⟨_, hTI, fun v q => nomatch q⟩
    · rw [q]; exact ⟨_, hTO, fun v q => nomatch q⟩
    · rw [q]; exact ⟨o1, e1, fun v q => by rw [d1] at q; cases q⟩
    · rw [q]; exact ⟨o2, e2, fun v q => by rw [d2] at q; cases q⟩
  keep := fun i h h' st k => by
    obtain ⟨hz, hTI, ⟨x, y, hTO⟩, h1, h2⟩ := st
    exact ⟨k z (by simp) _ hz, k TI (by simp) _ hTI, ⟨x, y, k TO (by simp) _ hTO⟩, Sk.at_keep h1 fun o q => k i1 (by simp) o q, Sk.at_keep h2 fun o q => k i2 (by simp) o q⟩
  item := by
    intro X hP hw hK hc i pins s σ H E I hf st hg
    subst hP hw hK
    obtain ⟨hz, hTI, ⟨x0, y0, hTO⟩, h1, h2⟩ := st
    obtain ⟨xs, ys, hq1, hq2, hlt⟩ := hg
    obtain ⟨fp1, n1, P1, St1, D1, st1, hn1, hif1, hfp1, hP1, hat1⟩ := Sk.draws (A := X.A.in1) I (I.ok.hd hc) hq1 h1
    obtain ⟨fp2, n2, P2, St2, D2, st2, hn2, hif2, hfp2, hP2, hat2⟩ := Sk.draws (A := X.A.in1) I (I.ok.hd hc) hq2 h2
    have no1 : ∀ b ∈ [z, TI, TO, i1, i2], b ≠ i1 → b ∉ fp1 := fun b hb hne hm => (hfp1 b hm).elim hne fun q => fp_not I (hf b hb) q
    have no2 : ∀ b ∈ [z, TI, TO, i1, i2], b ≠ i2 → b ∉ fp2 := fun b hb hne hm => (hfp2 b hm).elim hne fun q => fp_not I (hf b hb) q
    have SP : ZipSep2 z TI TO i1 i2 fp1 fp2 := ⟨D.h1.symm, D.h2.symm, D.h5, D.h6, hif1, no1 z (by simp) D.h3, no1 TO (by simp) D.h8, D.h7, hif2, no2 z (by simp) D.h4, no2 TO (by simp) D.h9, no2 i1 (by simp) D.h10, no1 i2 (by simp) D.h10.symm⟩
    have W := GoesN.zip2 (prog := X.prog) (w := X.w) (A := X.A) (elts := elts) (x1 := kk) (pos := tpos) SP D1 D2
    refine W.goes i s _ E (by rw [hn1, hn2]; exact hlt) ⟨hz, hTI, ⟨x0, y0, hTO⟩, st1, st2⟩ fun v h' tk hY st' hk _ => ?_
    obtain ⟨T, u, u2, rfl, hT, hu, hu2, hTup⟩ := hY
    obtain ⟨x, hx, ru⟩ := hP1 i u hu
    obtain ⟨y, hy, ru2⟩ := hP2 i u2 hu2
    have new : ObjOk X.prog X.w (upd H T (.tup [x, y])) h' T (.tup [x, y]) := ⟨by show 2 ≤ sizeLine; decide, [u, u2], .cons ru (.cons ru2 .nil), hTup⟩
    refine ⟨.ref T, _, I.turnedNew (ch := [z, TI, TO, i1, i2]) (fun b ob hb q => hk b ob (fun q' => hb (zip_sub q')) q) hf hT new, rfl,
      ⟨T, x, y, rfl, I.hok.fresh hT, rfl, fun l hl => by rw [Sk.inj I hl hq1]; exact hx, fun l hl => by rw [Sk.inj I hl hq2]; exact hy⟩, ⟨st'.1, st'.2.1, st'.2.2.1, hat1 _ _ st'.2.2.2.1, hat2 _ _ st'.2.2.2.2⟩, fun b hb => ?_⟩
    have hb' : b < s.heap.objs.size := by
      have e' : b = z ∨ b = TI ∨ b = TO ∨ b = i1 ∨ b = i2 := by simpa using hb
      rcases e' with q | q | q | q | q
      · rw [q]; exact Heap.lt_size hz
      · rw [q]; exact Heap.lt_size hTI
      · rw [q]; exact Heap.lt_size hTO
      · rw [q]; obtain ⟨o, _, _, e1, _⟩ := Sk.at_obj h1; exact Heap.lt_size e1
      · rw [q]; obtain ⟨o, _, _, e1, _⟩ := Sk.at_obj h2; exact Heap.lt_size e1
    rw [upd_ne (Nat.ne_of_lt (Nat.lt_of_lt_of_le hb' hT))]
    exact (hf b hb).1
  done := by
    intro X hP hw hK hc i pins s σ H E I hf st hg
    subst hP hw hK
    obtain ⟨hz, hTI, ⟨x0, y0, hTO⟩, h1, h2⟩ := st
    obtain ⟨xs, ys, hq1, hq2, hlt⟩ := hg
    obtain ⟨fp1, n1, P1, St1, D1, st1, hn1, hif1, hfp1, hP1, hat1⟩ := Sk.draws (A := X.A.in1) I (I.ok.hd hc) hq1 h1
    obtain ⟨fp2, n2, P2, St2, D2, st2, hn2, hif2, hfp2, hP2, hat2⟩ := Sk.draws (A := X.A.in1) I (I.ok.hd hc) hq2 h2
    have no1 : ∀ b ∈ [z, TI, TO, i1, i2], b ≠ i1 → b ∉ fp1 := fun b hb hne hm => (hfp1 b hm).elim hne fun q => fp_not I (hf b hb) q
    have no2 : ∀ b ∈ [z, TI, TO, i1, i2], b ≠ i2 → b ∉ fp2 := fun b hb hne hm => (hfp2 b hm).elim hne fun q => fp_not I (hf b hb) q
    have SP : ZipSep2 z TI TO i1 i2 fp1 fp2 := ⟨D.h1.symm, D.h2.symm, D.h5, D.h6, hif1, no1 z (by simp) D.h3, no1 TO (by simp) D.h8, D.h7, hif2, no2 z (by simp) D.h4, no2 TO (by simp) D.h9, no2 i1 (by simp) D.h10, no1 i2 (by simp) D.h10.symm⟩
    have W := GoesN.zip2 (prog := X.prog) (w := X.w) (A := X.A) (elts := elts) (x1 := kk) (pos := tpos) SP D1 D2
    have hin : i = min n1 n2 := by rw [hn1, hn2]; exact hlt
    subst hin
    refine W.stops s _ E ⟨hz, hTI, ⟨x0, y0, hTO⟩, st1, st2⟩ fun h' tk hk _ => I.turnedL (ch := [z, TI, TO, i1, i2]) (fun b o hb q => hk b o (fun q' => hb (zip_sub q')) q) hf
  self := fun A i s Q E st h => wpAny_pyIter_zip st.1 h

section
variable {X : Cx}
def iZipG (K : PySem.W.Frag) (ta tb : TE) : TI := fun σ H R => ta σ H fun v H1 => tb σ H1 fun w H2 => ∃ k1 k2 xs ys, Sk.val k1 v ∧ Sk.val k2 w ∧ Sk.is K H2 k1 xs ∧ Sk.is K H2 k2 ys ∧ R (ItzG K k1 k2) H2
theorem za_ne (n : Nat) : n + 4 ≠ n + 2 ∧ n + 4 ≠ n + 3 ∧ n + 4 ≠ n ∧ n + 4 ≠ n + 1 ∧ n + 2 ≠ n + 3 ∧ n + 2 ≠ n ∧ n + 2 ≠ n + 1 ∧ n + 3 ≠ n ∧ n + 3 ≠ n + 1 ∧ n ≠ n + 1 := by omega
theorem za_new (n : Nat) : ZA (n + 4) (n + 2) (n + 3) n (n + 1) := let ⟨a, b, c, d, e, f, g, h, i, j⟩ := za_ne n; ⟨a, b, c, d, e, f, g, h, i, j⟩
theorem pi_zipG {e e2 : Expr} {ta tb : TE} {p pos tpos : Pos} {elts : List Expr} {kk : Nat} (hg : Gl X "zip") (hm : X.mg "zip" = none) (he : PE X e ta) (he2 : PE X e2 tb)
    (hs : starEach [e, e2] X.env = (false, eval e X.env) :: starEach [e2] X.env) (hs2 : starEach [e2] X.env = (false, eval e2 X.env) :: starEach [] X.env) (hpl : (backTo pos (starEach [e2] X.env)).any (·.1) = false) :
    PI X (.Tuple elts kk tpos) (.Call (.Name "zip" p) [e, e2] [] pos) (iZipG X.K ta tb) := by
  refine ⟨fun pins s σ H R I h => ?_⟩
  have ha : PA X [e, e2] (fun σ H Q => ta σ H fun v H1 => tb σ H1 fun w H2 => Q [v, w] H2) := pa_cons he (pa_cons he2 pa_nil hs2) hs
  refine PyProof.Rows.Call_ (ld_blt I hg hm PyProof.Rows.boot_zip (PyProof.Rows.callWith_type1 (thn (ha.run pos pins s σ H (fun vs H2 => ∃ v w, vs = [v, w] ∧ ∃ k1 k2 xs ys, Sk.val k1 v ∧ Sk.val k2 w ∧ Sk.is X.K H2 k1 xs ∧ Sk.is X.K H2 k2 ys ∧ R (ItzG X.K k1 k2) H2) I ?_) fun us s1 ⟨vs, H1, I1, r1, q1⟩ => ?_) hs hpl))
  · have e : (fun (v : V) (H1 : Hp) => tb σ H1 fun w H2 => ∃ v' w', [v, w] = [v', w'] ∧ ∃ k1 k2 xs ys, Sk.val k1 v' ∧ Sk.val k2 w' ∧ Sk.is X.K H2 k1 xs ∧ Sk.is X.K H2 k2 ys ∧ R (ItzG X.K k1 k2) H2) = fun v H1 => tb σ H1 fun w H2 => ∃ k1 k2 xs ys, Sk.val k1 v ∧ Sk.val k2 w ∧ Sk.is X.K H2 k1 xs ∧ Sk.is X.K H2 k2 ys ∧ R (ItzG X.K k1 k2) H2 := by
      funext v H1
      congr 1
      funext w H2
      exact propext ⟨fun ⟨v', w', e, z⟩ => by cases e; exact z, fun z => ⟨v, w, rfl, z⟩⟩
    show ta σ H (fun (v : V) (H1 : Hp) => tb σ H1 fun w H2 => ∃ v' w', [v, w] = [v', w'] ∧ ∃ k1 k2 xs ys, Sk.val k1 v' ∧ Sk.val k2 w' ∧ Sk.is X.K H2 k1 xs ∧ Sk.is X.K H2 k2 ys ∧ R (ItzG X.K k1 k2) H2)
    rw [e]
    exact h
  · obtain ⟨v, w, rfl, k1, k2, xs, ys, hv, hw, hx, hy, q⟩ := q1
    obtain ⟨u, u2, rfl, r, r2⟩ := vals2 r1
    obtain ⟨G1, B1, g1, a1⟩ := Sk.begins I1 hx hv r
    obtain ⟨G2, B2, g2, a2⟩ := Sk.begins I1 hy hw r2
    refine zip_begins2 B1 B2 g1 g2 fun h' hz hTI hTO h1 h2 hsz hk => wpAny_pyIter_zip hz ?_
    have I2 : L2.Inv X pins σ H1 { s1 with heap := h' } := I1.kept (t' := s1.toks) hk
    refine ⟨s1.heap.objs.size + 4, [s1.heap.objs.size + 4, s1.heap.objs.size + 2, s1.heap.objs.size + 3, s1.heap.objs.size, s1.heap.objs.size + 1], _, _, H1, rfl, I2, turn_zipG k1 k2 (za_new s1.heap.objs.size), ⟨hz, hTI, ⟨_, _, hTO⟩, a1 _ _ h1, a2 _ _ h2⟩, fun c hcm => ?_, q⟩
    have e' : c = s1.heap.objs.size + 4 ∨ c = s1.heap.objs.size + 2 ∨ c = s1.heap.objs.size + 3 ∨ c = s1.heap.objs.size ∨ c = s1.heap.objs.size + 1 := by simpa using hcm
    have hle : s1.heap.objs.size ≤ c := by
      rcases e' with z | z | z | z | z
      · rw [z]; exact Nat.le_add_right _ _
      · rw [z]; exact Nat.le_add_right _ _
      · rw [z]; exact Nat.le_add_right _ _
      · rw [z]; exact Nat.le_refl _
      · rw [z]; exact Nat.le_add_right _ _
    exact I1.fpOk hle (I1.hok.fresh hle)
/-! ### the walks -/
theorem walkS {K : PySem.W.Frag} {k : Sk} {xs : List V} : Walk (ItS K k) xs.length (fun H => Sk.is K H k xs) (YAt xs) := by
  cases k with
  | lst a => exact walk_list
  | tup a => exact walk_tup
  | txt x =>
    refine ⟨fun i H hi q => ?_, fun H q => ?_, fun i H v H' hi q y => ?_⟩
    · have q' : xs = x.cps.toList.map fun c => V.str ⟨#[c]⟩ := q
      show i < x.cps.size
      rw [q', List.length_map] at hi
      simpa using hi
    · have q' : xs = x.cps.toList.map fun c => V.str ⟨#[c]⟩ := q
      show x.cps.size ≤ xs.length
      rw [q', List.length_map]
      simp
    · have q' : xs = x.cps.toList.map fun c => V.str ⟨#[c]⟩ := q
      obtain ⟨h1, c, h2, h3⟩ := y
      refine ⟨h1, ?_⟩
      rw [q', List.getElem?_map, h3]
      have : x.cps.toList[i]? = some c := by simpa using h2
      rw [this]
      rfl
theorem walkE {K : PySem.W.Frag} {k : Sk} {xs : List V} : Walk (IteG K k) xs.length (fun H => Sk.is K H k xs) (YPair (fun i => some (.int (i : Nat))) (fun i => xs[i]?)) := by
  refine ⟨fun i _ hi q => ⟨xs, xs[i], q, by simp [hi]⟩, fun _ q => ⟨xs, q, rfl⟩, fun i H v H' _ q y => ?_⟩
  obtain ⟨T, x, h1, h2, h3, h4⟩ := y
  exact ⟨T, .int (i : Nat), x, h1, h2, h3, rfl, h4 xs q⟩
theorem walkZ {K : PySem.W.Frag} {k1 k2 : Sk} {xs ys : List V} : Walk (ItzG K k1 k2) (min xs.length ys.length) (fun H => Sk.is K H k1 xs ∧ Sk.is K H k2 ys) (YPair (fun i => xs[i]?) (fun i => ys[i]?)) := by
  refine ⟨fun i _ hi q => ⟨xs, ys, q.1, q.2, hi⟩, fun _ q => ⟨xs, ys, q.1, q.2, rfl⟩, fun i H v H' _ q y => ?_⟩
  obtain ⟨T, x, y, h1, h2, h3, h4, h5⟩ := y
  exact ⟨T, x, y, h1, h2, h3, h4 xs q.1, h5 ys q.2⟩
end
end Bs
/-! Bs: the rules of expressions, one for each form. -/
namespace Bs
open PySem L2
section
variable {c : Ct} {S S' S2 : Sa} {γ : Ga} {μ μ' : Sto} {σ : L2.St} {H H' : Hp} {Q : VK}
theorem Good.shrink (g : Good c S γ μ σ H) (sub : ∀ a, S2 a → S a) (s0 : ∀ a, c.S0 a → S2 a) (dm : ∀ a, μ a ≠ none → S2 a) (own : ∀ (i : Nat) o q, γ[i]? = some (.own o) → σ[i]? = some (some (V.ref q)) → S2 q) : Good c S2 γ μ σ H := by
  have k : Kp S S2 H H := ⟨fun _ _ h _ => h, fun a h => .inl (sub a h)⟩
  refine ⟨g.len, fun i s e => ?_, g.ap, ⟨fun p o e => ⟨dm p (by rw [e]; exact fun z => nomatch z), (g.st.st p o e).2.kp k rfl⟩, fun a h => g.st.sd a (sub a h)⟩, s0, g.ext, g.fr, g.md, g.kt.trans ⟨k, fun _ h => h⟩⟩
  have h := g.sl i s e
  cases s with
  | un => trivial
  | val d => obtain ⟨v, e1, r⟩ := h; exact ⟨v, e1, r.kp k⟩
  | own o => obtain ⟨p, e1, sp, h0, m, r⟩ := h; exact ⟨p, e1, own i o p e e1, h0, m, r.kp k rfl⟩
variable (c)
/-- a list that is new and not frozen -/
def AftF (S : Sa) (μ : Sto) (H : Hp) (γ : Ga) (σ : L2.St) (Q : VK) : D → Sto → Prop := fun d μ' => ∀ S' p vs H' xs, d = .lst xs → Good c S' γ μ' σ H' → Step S μ H S' μ' H' → H p = none → S' p → μ' p = none → H' p = some (.lst vs) → Rels c.K S' H' xs vs → Q (.ref p) H'
def TFn (r : Ga → Sto → R D) : TE := fun σ H Q => ∃ S γ μ, Good c S γ μ σ H ∧ (r γ μ).All (AftF c S μ H γ σ Q) c.V
variable {c}
theorem aftF_of {d : D} (g0 : Good c S γ μ σ H) (h : Aft c true S μ H γ σ Q d μ') : AftF c S μ H γ σ Q d μ' := by
  rintro S' p vs H' xs rfl g s hp sp mp hp' r
  have np : ¬ S p := fun z => g0.st.sd p z hp
  have kk : Kp S' (fun a => S' a ∧ a ≠ p) H' H' := ⟨fun _ _ h _ => h, fun a z => .inl z.1⟩
  refine h (fun a => S' a ∧ a ≠ p) (.ref p) H' (g.shrink (fun a z => z.1) (fun a z => ⟨g.s0 a z, fun e => np (e ▸ g0.s0 a z)⟩) (fun a z => ⟨g.st.dm a z, fun e => z (e ▸ mp)⟩) fun i o q e1 e2 => ?_) ⟨s.keep, s.there, fun a z => s.sub a z.1, fun a z => ⟨s.sup a z, fun e => np (e ▸ z)⟩, s.dom, s.dsub⟩ ⟨p, vs, rfl, .inl ⟨.inl hp', fun z => z.2 rfl⟩, r.kp kk⟩
  obtain ⟨q', e3, sq, _, _, rq⟩ := g0.sl i _ e1
  rw [e2] at e3; cases e3
  exact ⟨s.sup q sq, fun e => rq.there (by rw [e]; exact hp)⟩
theorem TFn_of {r : Ga → Sto → R D} (h : TEn c true r σ H Q) : TFn c r σ H Q := by
  obtain ⟨S, γ, μ, g, a⟩ := h
  exact ⟨S, γ, μ, g, a.mono (fun d μ' q => aftF_of g q) fun _ _ _ w => w⟩
theorem PE.fresh {X : Cx} {e : Expr} {r : Ga → Sto → R D} (h : PE X e (TFn c r)) : PE X e (TEn c true r) := h.imp fun _ _ _ w => TFn_of w
/-- a new list that stays open -/
theorem fin_new {ds : List D} {vs : List V} (g : Good c S γ μ σ H) (h : AftF c S μ H γ σ Q (.lst ds) μ) (r : Rels c.K S H ds vs) (p : Addr) (hp : H p = none) : Q (.ref p) (upd H p (.lst vs)) := by
  obtain ⟨s, ok⟩ := step_new (c := c) (o := HO.lst vs) g.st hp
  have np : ¬ S p := ok_notS g.st hp
  have mp : μ p = none := by
    cases e : μ p with
    | none => rfl
    | some o => exact absurd (g.st.st p o e).1 np
  have s2 : Step S μ H (fun a => S a ∨ a = p) μ (upd H p (.lst vs)) := ⟨s.keep, s.there, fun a z => z.elim .inl fun e => .inr (e ▸ hp), fun a z => .inl z, s.dom, s.dsub⟩
  have k2 := s2.kp g.st.dm
  refine h (fun a => S a ∨ a = p) p vs _ ds rfl (g.step s2 ⟨fun q o e => ⟨.inl (g.st.st q o e).1, (g.st.st q o e).2.kp k2 ?_⟩, fun a z => ?_⟩) s2 hp (.inr rfl) mp upd_same (r.kp k2)
  · rw [upd_ne (fun e2 => by rw [e2] at e; rw [mp] at e; cases e)]
  · rcases z with z | z
    · exact s.there a (g.st.sd a z)
    · rw [z, upd_same]; exact fun z => nomatch z
/-- where it was fresh behind a step -/
theorem AftF.step {r : R D} {W : Xc → Ga → Sto → Prop} (h : r.All (AftF c S μ H γ σ Q) W) (s : Step S μ H S' μ' H') : r.All (AftF c S' μ' H' γ σ Q) W :=
  h.mono (fun _ _ q S2 p vs H2 xs e g t hp => q S2 p vs H2 xs e g (s.trans t) (none_back s.there hp)) fun _ _ _ w => w
end

/-! ### truth -/
theorem tru_of {K : PySem.W.Frag} {T S : Sa} {H : Hp} {d : D} {v : V} {b : Bool} (h : RelW K T S H d v) (e : truth d = some b) : TruV K v H b := by
  cases d with
  | non => cases (rw_non h); cases e; rfl
  | bl k => cases (rw_bl h); cases e; rfl
  | int i => cases (rw_int h); cases e; rfl
  | str s =>
    obtain ⟨rfl, hl, _⟩ := rw_str h
    cases e
    refine ⟨by rw [str_len]; exact big_line hl, ?_⟩
    rw [str_len]
    cases s <;> simp <;> omega
  | tup xs =>
    obtain ⟨a, vs, rfl, q, r⟩ := rw_tup h
    cases e
    refine .inr (.inl ⟨vs, q, ?_⟩)
    have := r.length
    cases xs <;> cases vs <;> simp at this ⊢
  | lst xs =>
    obtain ⟨a, vs, rfl, q, r⟩ := rw_lst h
    cases e
    refine .inl ⟨vs, q, ?_⟩
    have := r.length
    cases xs <;> cases vs <;> simp at this ⊢
  | dic _ => cases e
  | obj _ _ => cases e
  | loc _ => cases e

section
variable {c : Ct} {X : Cx} {a b d x : Expr} {sa sb : Bool} {ra rb rc : Ga → Sto → R D} {pos : Pos}
theorem snd_var {i : Nat} {nm : Str} (hN : X.N[i]? = some nm) (hv : Vis X.env.scope nm) (hd : (nm == ("__debug__" : Str)) = false) (hcd : (nm == ("__classdict__" : Str)) = false) :
    PE X (.Name nm pos) (TEn c true fun γ μ => match γ[i]? with | some (.val d) => .ok d μ | _ => .fail) := by
  refine (pe_var hN hv hd hcd).imp fun σ H Q h => ?_
  obtain ⟨S, γ, μ, g, h⟩ := h; try dsimp only at h
  cases e : γ[i]? with
  | none => rw [e] at h; exact h.elim
  | some s =>
    rw [e] at h
    cases s with
    | un => exact h.elim
    | own o => exact h.elim
    | val d => obtain ⟨v, e1, r⟩ := g.sl i _ e; exact ⟨v, e1, fin0 g h r⟩
theorem snd_ovar {i : Nat} {nm : Str} (hN : X.N[i]? = some nm) (hv : Vis X.env.scope nm) (hd : (nm == ("__debug__" : Str)) = false) (hcd : (nm == ("__classdict__" : Str)) = false) :
    PE X (.Name nm pos) (TEn c false fun γ μ => match γ[i]? with | some (.own (.lst xs)) => .ok (.lst xs) μ | _ => .fail) := by
  refine (pe_var hN hv hd hcd).imp fun σ H Q h => ?_
  obtain ⟨S, γ, μ, g, h⟩ := h; try dsimp only at h
  cases e : γ[i]? with
  | none => rw [e] at h; exact h.elim
  | some s =>
    rw [e] at h
    cases s with
    | un => exact h.elim
    | val d => exact h.elim
    | own o =>
      cases o with
      | dic _ => exact h.elim
      | ins _ _ => exact h.elim
      | lst xs =>
        obtain ⟨p, e1, sp, h0, mp, vs, ep, r⟩ := g.sl i _ e
        exact ⟨.ref p, e1, h S (.ref p) H g Step.refl ⟨p, vs, rfl, .inl ⟨.inl ep, fun z => z mp⟩, r⟩⟩
theorem snd_odic {i : Nat} {nm : Str} (hN : X.N[i]? = some nm) (hv : Vis X.env.scope nm) (hd : (nm == ("__debug__" : Str)) = false) (hcd : (nm == ("__classdict__" : Str)) = false) :
    PE X (.Name nm pos) (TEn c false fun γ μ => match γ[i]? with | some (.own (.dic kvs)) => .ok (.dic kvs) μ | _ => .fail) := by
  refine (pe_var hN hv hd hcd).imp fun σ H Q h => ?_
  obtain ⟨S, γ, μ, g, h⟩ := h; try dsimp only at h
  cases e : γ[i]? with
  | none => rw [e] at h; exact h.elim
  | some s =>
    rw [e] at h
    cases s with
    | un => exact h.elim
    | val d => exact h.elim
    | own o =>
      cases o with
      | lst _ => exact h.elim
      | ins _ _ => exact h.elim
      | dic kvs =>
        obtain ⟨p, e1, sp, h0, mp, vs, ep, r⟩ := g.sl i _ e
        exact ⟨.ref p, e1, h S (.ref p) H g Step.refl ⟨p, vs, rfl, .inl ep, fun z => z mp, r⟩⟩
/-- a constant value -/
theorem snd_c {v : V} {d : D} {e : Expr} (h : PE X e (tC v)) (r : ∀ S H, Rel c.K S H d v) : PE X e (TEn c true fun _ μ => .ok d μ) :=
  h.imp fun σ H Q h => by obtain ⟨S, γ, μ, g, h⟩ := h; exact fin0 g h (r S H)
theorem snd_gl {v : V} {e : Expr} {o : Option D} (h : PE X e (tC v)) (r : ∀ d, o = some d → ∀ S H, Rel c.K S H d v) : PE X e (TEn c true fun _ μ => ofO o μ) :=
  h.imp fun σ H Q h => by obtain ⟨S, γ, μ, g, h⟩ := h; exact finO g h fun d e => r d e S H
theorem snd_bin (hK : X.K = c.K) (o : Bop) (ha : PE X a (TEn c sa ra)) (hb : PE X b (TEn c sb rb)) : PE X (.BinOp a (bopOf o) b pos) (TEn c true fun γ μ => (ra γ μ).bind fun x μ => (rb γ μ).bind fun y μ => orO (binop o x y) (binop o (dr μ x) (dr μ y)) μ) := by
  obtain ⟨r, h1, h2⟩ := op2_bin (X := X) (c := c) hK o
  exact (pe_op h1 (PEweak ha) (PEweak hb)).imp fun _ _ _ w => read2 h2.dr w
theorem op1_neg : Op1 c (rU fun i => .int (-i)) (fun x μ => match x with | .int i => .ok (.int (-i)) μ | _ => .fail) := by
  intro S γ μ σ H d v Q g rd h
  cases d with
  | int i => exact ⟨i, rw_int rd, fin0 g h rfl⟩
  | _ => exact h.elim
theorem snd_neg (ha : PE X a (TEn c sa ra)) : PE X (.UnaryOp .USub a pos) (TEn c true fun γ μ => (ra γ μ).bind fun x μ => match x with | .int i => .ok (.int (-i)) μ | _ => .fail) :=
  (pe_un un_neg (PEweak ha)).imp fun _ _ _ w => read1 op1_neg w
theorem snd_cmp (hK : X.K = c.K) (hu : X.A.units + 65 < cLine) (o : Cm) (ha : PE X a (TEn c sa ra)) (hb : PE X b (TEn c sb rb)) (hm : behindInMarks (cmOf o) b = false) :
    PE X (.Compare a [cmOf o] [b] pos) (TEn c true fun γ μ => (ra γ μ).bind fun x μ => (rb γ μ).bind fun y μ => orO (compare o x y) (compare o (dr μ x) (dr μ y)) μ) := by
  obtain ⟨r, h1, h2⟩ := op2_cmp (X := X) (c := c) hK hu o
  exact (pe_cmpR h1 (PEweak ha) (PEweak hb) hm).imp fun _ _ _ w => read2 h2.dr w
/-- what a comparison answers is a bool -/
theorem compare_bl {o : Cm} {x y z : D} (h : compare o x y = some z) : ∃ k, z = .bl k := by
  unfold compare at h
  split at h <;> first
    | (cases h; exact ⟨_, rfl⟩)
    | (obtain ⟨w, _, rfl⟩ := Option.map_eq_some_iff.mp h; exact ⟨_, rfl⟩)
    | cases h
/-- a comparison as a test -/
theorem sndT_cmp (hK : X.K = c.K) (hu : X.A.units + 65 < cLine) (o : Cm) (ha : PE X a (TEn c sa ra)) (hb : PE X b (TEn c sb rb)) (hm : behindInMarks (cmOf o) b = false) :
    PT X (.Compare a [cmOf o] [b] pos) (TTn c fun γ μ => ((ra γ μ).bind fun x μ => (rb γ μ).bind fun y μ => orO (compare o x y) (compare o (dr μ x) (dr μ y)) μ).bind truthR) := by
  obtain ⟨r, h1, h2⟩ := op2_cmp (X := X) (c := c) hK hu o
  refine (pt_cmpR h1 (PEweak ha) (PEweak hb) hm).imp fun σ H Q w => ?_
  show tOp r (TEn c false ra) (TEn c false rb) σ H _
  refine read2 h2.dr ?_
  obtain ⟨S, γ, μ, g, h⟩ := w; try dsimp only at h
  refine ⟨S, γ, μ, g, ?_⟩
  rw [R.All_bind, R.All_bind] at h
  rw [R.All_bind]
  refine h.mono (fun x μ1 h => ?_) fun _ _ _ w => w
  rw [R.All_bind] at h ⊢
  refine h.mono (fun y μ2 h => ?_) fun _ _ _ w => w
  cases e : compare o x y with
  | none =>
    rw [e] at h
    cases e2 : compare o (dr μ2 x) (dr μ2 y) with
    | none => rw [e2] at h; exact h.elim
    | some z =>
      rw [e2] at h
      obtain ⟨k, rfl⟩ := compare_bl e2
      intro S' v H' g' s rl
      exact ⟨k, rl, h S' H' g' s⟩
  | some z =>
    rw [e] at h
    obtain ⟨k, rfl⟩ := compare_bl e
    intro S' v H' g' s rl
    exact ⟨k, rl, h S' H' g' s⟩
theorem snd_chn (hK : X.K = c.K) (hu : X.A.units + 65 < cLine) (o o' : Cm) {sd : Bool} (ha : PE X a (TEn c sa ra)) (hb : PE X b (TEn c sb rb)) (hd : PE X d (TEn c sd rc)) (hm : lastMarks [cmOf o, cmOf o'] [b, d] = false) :
    PE X (.Compare a [cmOf o, cmOf o'] [b, d] pos) (TEn c true fun γ μ => (ra γ μ).bind fun x μ => (rb γ μ).bind fun y μ => match compare o x y with
      | some (.bl true) => (rc γ μ).bind fun z μ => ofO (compare o' y z) μ
      | some (.bl false) => .ok (.bl false) μ
      | _ => .fail) ∧
    PT X (.Compare a [cmOf o, cmOf o'] [b, d] pos) (TTn c fun γ μ => ((ra γ μ).bind fun x μ => (rb γ μ).bind fun y μ => match compare o x y with
      | some (.bl true) => (rc γ μ).bind fun z μ => ofO (compare o' y z) μ
      | some (.bl false) => .ok (.bl false) μ
      | _ => .fail).bind truthR) := by
  obtain ⟨r, h1, h2⟩ := op2_cmp (X := X) (c := c) hK hu o
  obtain ⟨r', h1', h2'⟩ := op2_cmp (X := X) (c := c) hK hu o'
  have key : ∀ σ H (Q : VK) S γ μ, Good c S γ μ σ H → ((ra γ μ).bind fun x μ => (rb γ μ).bind fun y μ => match compare o x y with
      | some (.bl true) => (rc γ μ).bind fun z μ => ofO (compare o' y z) μ
      | some (.bl false) => .ok (.bl false) μ
      | _ => .fail).All (Aft c true S μ H γ σ Q) c.V → tChain r r' (TEn c false ra) (TEn c false rb) (TEn c false rc) σ H Q := by
    intro σ H Q S γ μ g h
    rw [R.All_bind] at h
    refine ⟨S, γ, μ, g, h.mono (fun x μ1 h => ?_) fun _ _ _ w => w⟩
    intro S1 v H1 g1 s1 r1
    rw [R.All_bind] at h
    refine ⟨S1, γ, μ1, g1, h.mono (fun y μ2 h => ?_) fun _ _ _ w => w⟩
    intro S2 w H2 g2 s2 r2
    refine h2 S2 γ μ2 σ H2 x y v w _ g2 (RelW.zero (RelW.kp (s2.kp g1.st.dm) s2.kpD r1)) (RelW.zero r2) ?_
    cases e : compare o x y with
    | none => rw [e] at h; exact h.elim
    | some z =>
      rw [e] at h
      obtain ⟨k, rfl⟩ := compare_bl e
      show (ofO (compare o x y) μ2).All _ _
      rw [e]
      intro S3 u H3 g3 s3 rl
      refine ⟨k, rl, ?_⟩
      cases k with
      | false =>
        rw [if_neg (by decide)]
        exact h S3 _ H3 g3 ((s1.trans s2).trans s3) rfl
      | true =>
        rw [if_pos rfl]
        have h' : ((rc γ μ2).bind fun z μ => ofO (compare o' y z) μ).All (Aft c true S μ H γ σ Q) c.V := h
        rw [R.All_bind] at h'
        refine ⟨S3, γ, μ2, g3, h'.mono (fun z μ4 h => ?_) fun _ _ _ w => w⟩
        intro S4 t H4 g4 s4 r4
        have r2' : RelW c.K (Dm μ4) S4 H4 y w := RelW.kp (s4.kp g3.st.dm) s4.kpD (RelW.kp (s3.kp g2.st.dm) s3.kpD r2)
        exact h2' S4 γ μ4 σ H4 y z w t Q g4 (RelW.zero r2') (RelW.zero r4) (Aft.step h (((s1.trans s2).trans s3).trans s4))
  refine ⟨(pe_chain h1 h1' (PEweak ha) (PEweak hb) (PEweak hd) hm).imp fun σ H Q w => ?_, (pt_chain h1 h1' (PEweak ha) (PEweak hb) (PEweak hd) hm).imp fun σ H Q w => ?_⟩
  · obtain ⟨S, γ, μ, g, h⟩ := w; try dsimp only at h
    exact key σ H Q S γ μ g h
  · obtain ⟨S, γ, μ, g, h⟩ := w; try dsimp only at h
    refine key σ H _ S γ μ g ?_
    rw [R.All_bind, R.All_bind] at h
    rw [R.All_bind]
    refine h.mono (fun x μ1 h => ?_) fun _ _ _ w => w
    rw [R.All_bind] at h ⊢
    refine h.mono (fun y μ2 h => ?_) fun _ _ _ w => w
    cases e : compare o x y with
    | none => rw [e] at h; exact h.elim
    | some z =>
      rw [e] at h
      obtain ⟨k, rfl⟩ := compare_bl e
      cases k with
      | false => exact fun S' v H' g' s rl => ⟨false, rl, h S' H' g' s⟩
      | true =>
        have h' : (((rc γ μ2).bind fun z μ => ofO (compare o' y z) μ)).All (fun a μ => (truthR a μ).All (AftB c S _ H γ σ Q) c.V) c.V := h
        show ((rc γ μ2).bind fun z μ => ofO (compare o' y z) μ).All _ c.V
        rw [R.All_bind] at h' ⊢
        refine h'.mono (fun z μ3 h => ?_) fun _ _ _ w => w
        cases e3 : compare o' y z with
        | none => rw [e3] at h; exact h.elim
        | some t =>
          rw [e3] at h
          obtain ⟨k, rfl⟩ := compare_bl e3
          exact fun S' v H' g' s rl => ⟨k, rl, h S' H' g' s⟩
theorem truthR_some {d : D} {μ : Sto} {Q : Bool → Sto → Prop} {W : Xc → Ga → Sto → Prop} (h : (truthR d μ).All Q W) : ∃ b, truth d = some b ∧ Q b μ := by
  unfold truthR at h
  cases e : truth d with
  | none => rw [e] at h; exact h.elim
  | some b => rw [e] at h; exact ⟨b, rfl, h⟩
/-- the truth of a value as a test -/
theorem sndT_plain (hK : X.K = c.K) (ha : PE X a (TEn c sa ra)) (he : ∀ whole, isTrue a X.env whole = (do let v ← whole; standAt a.pos; holding [v] (truthy v))) : PT X a (TTn c fun γ μ => (ra γ μ).bind truthR) := by
  refine (pt_truth (PEweak ha) he).imp fun σ H Q w => ?_
  obtain ⟨S, γ, μ, g, h⟩ := w; try dsimp only at h
  rw [R.All_bind] at h
  refine ⟨S, γ, μ, g, h.mono (fun d μ1 h => ?_) fun _ _ _ w => w⟩
  intro S1 v H1 g1 s1 r1
  obtain ⟨b, e, q⟩ := truthR_some h
  exact ⟨b, by rw [hK]; exact tru_of r1 e, q S1 H1 g1 s1⟩
theorem snd_not (hK : X.K = c.K) (ha : PE X a (TEn c sa ra)) : PE X (.UnaryOp .Not a pos) (TEn c true fun γ μ => (ra γ μ).bind fun x μ => (truthR x μ).bind fun b μ => .ok (.bl !b) μ) := by
  refine (pe_notT (PEweak ha)).imp fun σ H Q w => ?_
  obtain ⟨S, γ, μ, g, h⟩ := w; try dsimp only at h
  rw [R.All_bind] at h
  refine ⟨S, γ, μ, g, h.mono (fun d μ1 h => ?_) fun _ _ _ w => w⟩
  intro S1 v H1 g1 s1 r1
  rw [R.All_bind] at h
  obtain ⟨b, e, q⟩ := truthR_some h
  exact ⟨b, by rw [hK]; exact tru_of r1 e, q S1 _ H1 g1 s1 rfl⟩
theorem sndT_not (ha : PT X a (TTn c fun γ μ => (ra γ μ).bind truthR)) : PT X (.UnaryOp .Not a pos) (TTn c fun γ μ => ((ra γ μ).bind fun x μ => (truthR x μ).bind fun b μ => .ok (.bl !b) μ).bind truthR) := by
  refine (pt_not ha).imp fun σ H Q w => ?_
  obtain ⟨S, γ, μ, g, h⟩ := w; try dsimp only at h
  refine ⟨S, γ, μ, g, ?_⟩
  rw [R.All_bind, R.All_bind] at h
  rw [R.All_bind]
  refine h.mono (fun d μ1 h => ?_) fun _ _ _ w => w
  rw [R.All_bind] at h
  exact h.mono (fun b μ2 h => h) fun _ _ _ w => w
/-- where both are strong so is the choice -/
theorem PEmode {e : Expr} {r : Ga → Sto → R D} {st st' : Bool} (h : PE X e (TEn c st r)) (hs : st' = true → st = true) : PE X e (TEn c st' r) := by
  cases st' with
  | true => cases (hs rfl); exact h
  | false => exact PEweak h
theorem Rl.mode {K : PySem.W.Frag} {T S : Sa} {H : Hp} {d : D} {v : V} {st st' : Bool} (h : Rl K st T S H d v) (ht : ∀ a, T a → S a) (hs : st' = true → st = true) : Rl K st' T S H d v := by
  cases st' with
  | true => cases (hs rfl); exact h
  | false => exact Rl.weak h ht
theorem snd_and (hK : X.K = c.K) {rest : List Expr} (ha : PE X a (TEn c sa ra)) (hb : PE X (.BoolOp .And (b :: rest) pos) (TEn c sb rb)) :
    PE X (.BoolOp .And (a :: b :: rest) pos) (TEn c (sa && sb) fun γ μ => (ra γ μ).bind fun x μ => (truthR x μ).bind fun t μ => if t then rb γ μ else .ok x μ) := by
  refine (pe_andT ha (PEmode hb (st' := sa && sb) fun z => (Bool.and_eq_true_iff.mp z).2)).imp fun σ H Q w => ?_
  obtain ⟨S, γ, μ, g, h⟩ := w; try dsimp only at h
  rw [R.All_bind] at h
  refine ⟨S, γ, μ, g, h.mono (fun d μ1 h => ?_) fun _ _ _ w => w⟩
  intro S1 v H1 g1 s1 r1
  rw [R.All_bind] at h
  obtain ⟨k, e, q⟩ := truthR_some h
  refine ⟨k, by rw [hK]; exact tru_of (Rl.weak r1 g1.st.dm) e, ?_⟩
  cases k with
  | true => rw [if_pos rfl] at q ⊢; exact ⟨S1, γ, μ1, g1, Aft.step q s1⟩
  | false => rw [if_neg (by decide)] at q ⊢; exact q S1 v H1 g1 s1 (r1.mode g1.st.dm fun z => (Bool.and_eq_true_iff.mp z).1)
theorem snd_or (hK : X.K = c.K) {rest : List Expr} (ha : PE X a (TEn c sa ra)) (hb : PE X (.BoolOp .Or (b :: rest) pos) (TEn c sb rb)) :
    PE X (.BoolOp .Or (a :: b :: rest) pos) (TEn c (sa && sb) fun γ μ => (ra γ μ).bind fun x μ => (truthR x μ).bind fun t μ => if t then .ok x μ else rb γ μ) := by
  refine (pe_orT ha (PEmode hb (st' := sa && sb) fun z => (Bool.and_eq_true_iff.mp z).2)).imp fun σ H Q w => ?_
  obtain ⟨S, γ, μ, g, h⟩ := w; try dsimp only at h
  rw [R.All_bind] at h
  refine ⟨S, γ, μ, g, h.mono (fun d μ1 h => ?_) fun _ _ _ w => w⟩
  intro S1 v H1 g1 s1 r1
  rw [R.All_bind] at h
  obtain ⟨k, e, q⟩ := truthR_some h
  refine ⟨k, by rw [hK]; exact tru_of (Rl.weak r1 g1.st.dm) e, ?_⟩
  cases k with
  | false => rw [if_neg (by decide)] at q ⊢; exact ⟨S1, γ, μ1, g1, Aft.step q s1⟩
  | true => rw [if_pos rfl] at q ⊢; exact q S1 v H1 g1 s1 (r1.mode g1.st.dm fun z => (Bool.and_eq_true_iff.mp z).1)
theorem sndT_and {rest : List Expr} (ha : PT X a (TTn c fun γ μ => (ra γ μ).bind truthR)) (hb : PW X (.BoolOp .And (b :: rest) pos) (TTn c fun γ μ => (rb γ μ).bind truthR)) :
    PW X (.BoolOp .And (a :: b :: rest) pos) (TTn c fun γ μ => ((ra γ μ).bind fun x μ => (truthR x μ).bind fun t μ => if t then rb γ μ else .ok x μ).bind truthR) := by
  refine ⟨fun whole pins s σ H Q I w => (pw_and ha hb).run whole pins s σ H Q I ?_⟩
  obtain ⟨S, γ, μ, g, h⟩ := w; try dsimp only at h
  refine ⟨S, γ, μ, g, ?_⟩
  rw [R.All_bind, R.All_bind] at h
  rw [R.All_bind]
  refine h.mono (fun d μ1 h => ?_) fun _ _ _ w => w
  rw [R.All_bind] at h
  obtain ⟨k, e, q⟩ := truthR_some h
  unfold truthR
  rw [e]
  intro S1 H1 g1 s1
  cases k with
  | true => rw [if_pos rfl] at q ⊢; exact ⟨S1, γ, μ1, g1, AftB.step (R.All_bind _ _ _ _ |>.mpr q) s1⟩
  | false =>
    rw [if_neg (by decide)] at q ⊢
    obtain ⟨k', e', q'⟩ := truthR_some q
    rw [e] at e'; cases e'
    exact q' S1 H1 g1 s1
theorem sndT_or {rest : List Expr} (ha : PT X a (TTn c fun γ μ => (ra γ μ).bind truthR)) (hb : PW X (.BoolOp .Or (b :: rest) pos) (TTn c fun γ μ => (rb γ μ).bind truthR)) :
    PW X (.BoolOp .Or (a :: b :: rest) pos) (TTn c fun γ μ => ((ra γ μ).bind fun x μ => (truthR x μ).bind fun t μ => if t then .ok x μ else rb γ μ).bind truthR) := by
  refine ⟨fun whole pins s σ H Q I w => (pw_or ha hb).run whole pins s σ H Q I ?_⟩
  obtain ⟨S, γ, μ, g, h⟩ := w; try dsimp only at h
  refine ⟨S, γ, μ, g, ?_⟩
  rw [R.All_bind, R.All_bind] at h
  rw [R.All_bind]
  refine h.mono (fun d μ1 h => ?_) fun _ _ _ w => w
  rw [R.All_bind] at h
  obtain ⟨k, e, q⟩ := truthR_some h
  unfold truthR
  rw [e]
  intro S1 H1 g1 s1
  cases k with
  | false => rw [if_neg (by decide)] at q ⊢; exact ⟨S1, γ, μ1, g1, AftB.step (R.All_bind _ _ _ _ |>.mpr q) s1⟩
  | true =>
    rw [if_pos rfl] at q ⊢
    obtain ⟨k', e', q'⟩ := truthR_some q
    rw [e] at e'; cases e'
    exact q' S1 H1 g1 s1
theorem snd_ite {cd : Expr} (hc : PT X cd (TTn c fun γ μ => (rc γ μ).bind truthR)) (ha : PE X a (TEn c sa ra)) (hb : PE X b (TEn c sb rb)) :
    PE X (.IfExp cd a b pos) (TEn c (sa && sb) fun γ μ => (rc γ μ).bind fun x μ => (truthR x μ).bind fun t μ => if t then ra γ μ else rb γ μ) := by
  refine (pe_ifExp hc (PEmode ha (st' := sa && sb) fun z => (Bool.and_eq_true_iff.mp z).1) (PEmode hb (st' := sa && sb) fun z => (Bool.and_eq_true_iff.mp z).2)).imp fun σ H Q w => ?_
  obtain ⟨S, γ, μ, g, h⟩ := w; try dsimp only at h
  refine ⟨S, γ, μ, g, ?_⟩
  rw [R.All_bind] at h ⊢
  refine h.mono (fun d μ1 h => ?_) fun _ _ _ w => w
  rw [R.All_bind] at h
  refine h.mono (fun k μ2 h => ?_) fun _ _ _ w => w
  intro S1 H1 g1 s1
  cases k with
  | true => rw [if_pos rfl] at h ⊢; exact ⟨S1, γ, μ2, g1, Aft.step h s1⟩
  | false => rw [if_neg (by decide)] at h ⊢; exact ⟨S1, γ, μ2, g1, Aft.step h s1⟩
end

/-! ### lists of expressions -/
def R.Sat {α : Type} : R α → (α → Prop) → Prop
  | .ok a _, P => P a
  | .exc _ _ _, _ => True
  | .fail, _ => True
  | .any P k, Q => ∀ p, P p → (k p).Sat Q
theorem R.All.both {α : Type} {r : R α} {P : α → Sto → Prop} {P' : α → Prop} {W : Xc → Ga → Sto → Prop} (h1 : r.All P W) (h2 : r.Sat P') : r.All (fun a μ => P a μ ∧ P' a) W := by
  induction r with
  | ok a μ => exact ⟨h1, h2⟩
  | exc _ _ _ => exact h1
  | fail => exact h1
  | any P k ih => exact fun p hp => ih p (h1 p hp) (h2 p hp)
theorem R.Sat.bind {α β : Type} {r : R α} {f : α → Sto → R β} {P : β → Prop} (h : ∀ a μ, (f a μ).Sat P) : (r.bind f).Sat P := by
  induction r with
  | ok a μ => exact h a μ
  | exc _ _ _ => trivial
  | fail => trivial
  | any P k ih => exact fun p hp => ih p
theorem R.Sat.bind' {α β : Type} {r : R α} {f : α → Sto → R β} {P0 : α → Prop} {P : β → Prop} (h0 : r.Sat P0) (h : ∀ a μ, P0 a → (f a μ).Sat P) : (r.bind f).Sat P := by
  induction r with
  | ok a μ => exact h a μ h0
  | exc _ _ _ => trivial
  | fail => trivial
  | any P k ih => exact fun p hp => ih p (h0 p hp)
section
variable {c : Ct} {X : Cx} {a : Expr} {es : List Expr} {st : Bool} {ra : Ga → Sto → R D} {rs : Ga → Sto → R (List D)} {pos : Pos}
theorem Rl.kp {K : PySem.W.Frag} {S S' : Sa} {μ μ' : Sto} {H H' : Hp} {d : D} {v : V} (h : Rl K st (Dm μ) S H d v) (s : Step S μ H S' μ' H') (ok : ∀ a, Dm μ a → S a) : Rl K st (Dm μ') S' H' d v := by
  cases st with
  | true => exact Rel.kp (s.kp ok) _ _ h
  | false => exact RelW.kp (s.kp ok) s.kpD h
theorem sndA_nil : PA X [] (TAn c st fun _ μ => .ok [] μ) := pa_nil.imp fun σ H Q w => by
  obtain ⟨S, γ, μ, g, h⟩ := w; try dsimp only at h
  exact h S [] H g Step.refl rfl
theorem tcons_of {σ : L2.St} {H : Hp} {Q : List V → Hp → Prop} (w : TAn c st (fun γ μ => (ra γ μ).bind fun x μ => (rs γ μ).bind fun xs μ => .ok (x :: xs) μ) σ H Q) : tCons (TEn c st ra) (TAn c st rs) σ H Q := by
  obtain ⟨S, γ, μ, g, h⟩ := w; try dsimp only at h
  rw [R.All_bind] at h
  refine ⟨S, γ, μ, g, h.mono (fun d μ1 h => ?_) fun _ _ _ w => w⟩
  intro S1 v H1 g1 s1 r1
  rw [R.All_bind] at h
  refine ⟨S1, γ, μ1, g1, h.mono (fun ds μ2 h => ?_) fun _ _ _ w => w⟩
  intro S2 vs H2 g2 s2 r2
  exact h S2 (v :: vs) H2 g2 (s1.trans s2) ⟨v, vs, rfl, r1.kp s2 g1.st.dm, r2⟩
theorem sndA_cons (ha : PE X a (TEn c st ra)) (hs : PA X es (TAn c st rs)) (hst : starEach (a :: es) X.env = (false, eval a X.env) :: starEach es X.env) :
    PA X (a :: es) (TAn c st fun γ μ => (ra γ μ).bind fun x μ => (rs γ μ).bind fun xs μ => .ok (x :: xs) μ) := (pa_cons ha hs hst).imp fun _ _ _ w => tcons_of w
theorem sndK_nil : PK X [] (TAn c st fun _ μ => .ok [] μ) := pk_nil.imp fun σ H Q w => by
  obtain ⟨S, γ, μ, g, h⟩ := w; try dsimp only at h
  exact h S [] H g Step.refl rfl
theorem sndK_cons {kws : List Keyword} {nm : Option Str} {kpos : Pos} (ha : PE X a (TEn c st ra)) (hs : PK X kws (TAn c st rs)) :
    PK X (⟨nm, a, kpos⟩ :: kws) (TAn c st fun γ μ => (ra γ μ).bind fun x μ => (rs γ μ).bind fun xs μ => .ok (x :: xs) μ) := (pk_cons ha hs).imp fun _ _ _ w => tcons_of w
theorem Rls.rels {K : PySem.W.Frag} {T S : Sa} {H : Hp} : ∀ {ds : List D} {vs : List V}, Rls K true T S H ds vs → Rels K S H ds vs
  | [], _, h => h
  | d :: r, vs, h => by obtain ⟨v, ws, e, q, z⟩ := h; exact ⟨v, ws, e, q, z.rels⟩
theorem snd_tup {x1} (h : PA X es (TAn c true rs)) (hl : ∀ γ μ, (rs γ μ).Sat fun ds => ds.length ≤ 1000) : PE X (.Tuple es x1 pos) (TEn c true fun γ μ => (rs γ μ).bind fun xs μ => .ok (.tup xs) μ) := by
  refine (pe_tup h).imp fun σ H Q w => ?_
  obtain ⟨S, γ, μ, g, h⟩ := w; try dsimp only at h
  rw [R.All_bind] at h
  refine ⟨S, γ, μ, g, ?_⟩
  refine R.All.mono (h.both (hl γ μ)) (fun ds μ1 h => ?_) fun _ _ _ w => w
  · intro S1 vs H1 g1 s1 r1
    have r1 := r1.rels
    refine ⟨by rw [r1.length]; exact big_line (by have := h.2; omega), fun p hp => fin_tup g1 (fun S2 v H2 g2 s2 r2 => h.1 S2 v H2 g2 (s1.trans s2) r2) r1 p hp⟩
theorem snd_lst (h : PA X es (TAn c true rs)) (hl : ∀ γ μ, (rs γ μ).Sat fun ds => ds.length ≤ 1000) : PE X (.List es pos) (TFn c fun γ μ => (rs γ μ).bind fun xs μ => .ok (.lst xs) μ) := by
  refine (pe_lst h).imp fun σ H Q w => ?_
  obtain ⟨S, γ, μ, g, h⟩ := w; try dsimp only at h
  rw [R.All_bind] at h
  refine ⟨S, γ, μ, g, ?_⟩
  refine R.All.mono (h.both (hl γ μ)) (fun ds μ1 h => ?_) fun _ _ _ w => w
  · intro S1 vs H1 g1 s1 r1
    have r1 := r1.rels
    refine ⟨by rw [r1.length]; exact big_line (by have := h.2; omega), fun p hp => fin_new g1 (AftF.step (r := .ok _ _) (W := c.V) h.1 s1) r1 p hp⟩
theorem snd_new (h : PA X es (TAn c true rs)) (hl : ∀ γ μ, (rs γ μ).Sat fun ds => ds.length ≤ 1000) :
    PE X (.List es pos) (TEn c true fun γ μ => (rs γ μ).bind fun xs μ => .any (fun p => μ p = none) fun p => .ok (.loc p) (μ.put p (.lst xs))) := by
  refine (snd_lst h hl).imp fun σ H Q w => ?_
  obtain ⟨S, γ, μ, g, h⟩ := w; try dsimp only at h
  refine ⟨S, γ, μ, g, ?_⟩
  rw [R.All_bind] at h ⊢
  refine h.mono (fun ds μ1 h => ?_) fun _ _ _ w => w
  rintro S' p vs H' xs e g' s hp sp mp hp' r
  obtain rfl : ds = xs := by injection e
  have h := h p mp
  have hne : ∀ q, μ1 q ≠ none → q ≠ p := fun q z e => z (by rw [e]; exact mp)
  have hput : ∀ q, q ≠ p → (μ1.put p (.lst ds)) q = μ1 q := fun q e => by unfold Sto.put; rw [if_neg e]
  have hput0 : (μ1.put p (.lst ds)) p = some (.lst ds) := by unfold Sto.put; rw [if_pos rfl]
  have s2 : Step S μ H S' (μ1.put p (.lst ds)) H' := by
    refine ⟨s.keep, s.there, s.sub, s.sup, fun a z => ?_, fun a z => ?_⟩
    · have := s.dom a z; rw [hput a (hne a this)]; exact this
    · by_cases e : a = p
      · rw [e]; exact .inr hp
      · rw [hput a e] at z; exact s.dsub a z
  refine h S' (.ref p) H' ⟨g'.len, fun i x e => ?_, g'.ap, ⟨fun q o e => ?_, g'.st.sd⟩, g'.s0, g'.ext, fun q z => ?_, fun q z => ?_, g'.kt⟩ s2 rfl
  · have hx := g'.sl i x e
    cases x with
    | un => trivial
    | val d => exact hx
    | own o =>
      obtain ⟨q, e1, sq, h0, mq, rq⟩ := hx
      refine ⟨q, e1, sq, h0, ?_, rq⟩
      rw [hput q ?_]; exact mq
      intro e2
      obtain ⟨q', e3, _, _, _, rq'⟩ := g.sl i _ e
      rw [e1] at e3; cases e3
      exact rq'.there (by rw [e2]; exact hp)
  · by_cases e2 : q = p
    · subst e2; rw [hput0] at e; cases e; exact ⟨sp, vs, hp', r⟩
    · rw [hput q e2] at e; exact g'.st.st q o e
  · by_cases e2 : q = p
    · rw [e2]; exact .inr (g.h0 hp)
    · rw [hput q e2] at z; exact g'.fr q z
  · have z2 := g'.md q z
    rw [hput q (hne q z2)]; exact z2
/-- a new list goes to the store -/
theorem sto_of {r : Ga → Sto → R D} {σ : L2.St} {H : Hp} {Q : VK} (w : TEn c true (fun γ μ => (r γ μ).bind stoR) σ H Q) : TFn c r σ H Q := by
  obtain ⟨S, γ, μ, g, h⟩ := w; try dsimp only at h
  refine ⟨S, γ, μ, g, ?_⟩
  rw [R.All_bind] at h
  refine h.mono (fun d μ1 h => ?_) fun _ _ _ w => w
  rintro S' p vs H' ds rfl g' s hp sp mp hp' r
  have h := h p mp
  have hne : ∀ q, μ1 q ≠ none → q ≠ p := fun q z e => z (by rw [e]; exact mp)
  have hput : ∀ q, q ≠ p → (μ1.put p (.lst ds)) q = μ1 q := fun q e => by unfold Sto.put; rw [if_neg e]
  have hput0 : (μ1.put p (.lst ds)) p = some (.lst ds) := by unfold Sto.put; rw [if_pos rfl]
  have s2 : Step S μ H S' (μ1.put p (.lst ds)) H' := by
    refine ⟨s.keep, s.there, s.sub, s.sup, fun a z => ?_, fun a z => ?_⟩
    · have := s.dom a z; rw [hput a (hne a this)]; exact this
    · by_cases e : a = p
      · rw [e]; exact .inr hp
      · rw [hput a e] at z; exact s.dsub a z
  refine h S' (.ref p) H' ⟨g'.len, fun i x e => ?_, g'.ap, ⟨fun q o e => ?_, g'.st.sd⟩, g'.s0, g'.ext, fun q z => ?_, fun q z => ?_, g'.kt⟩ s2 rfl
  · have hx := g'.sl i x e
    cases x with
    | un => trivial
    | val d => exact hx
    | own o =>
      obtain ⟨q, e1, sq, h0, mq, rq⟩ := hx
      refine ⟨q, e1, sq, h0, ?_, rq⟩
      rw [hput q ?_]; exact mq
      intro e2
      obtain ⟨q', e3, _, _, _, rq'⟩ := g.sl i _ e
      rw [e1] at e3; cases e3
      exact rq'.there (by rw [e2]; exact hp)
  · by_cases e2 : q = p
    · subst e2; rw [hput0] at e; cases e; exact ⟨sp, vs, hp', r⟩
    · rw [hput q e2] at e; exact g'.st.st q o e
  · by_cases e2 : q = p
    · rw [e2]; exact .inr (g.h0 hp)
    · rw [hput q e2] at z; exact g'.fr q z
  · have z2 := g'.md q z
    rw [hput q (hne q z2)]; exact z2
end
end Bs
/-! Bs: subscripts, built-ins, methods, isinstance, displays of dicts, calls of defs. -/
namespace Bs
open PySem L2
/-! ### what is seen of the text -/
def nst : Expr → Bool
  | .Starred _ _ => false
  | _ => true
theorem star_cons {e : Expr} {es : List Expr} {env : Env} (h : nst e = true) : starEach (e :: es) env = (false, eval e env) :: starEach es env := by
  cases e <;> first | rfl | cases h
theorem star_any {pos : Pos} {env : Env} : ∀ {es : List Expr}, es.all nst = true → (backTo pos (starEach es env)).any (·.1) = false
  | [], _ => rfl
  | e :: es, h => by
    simp only [List.all_cons, Bool.and_eq_true] at h
    rw [star_cons h.1]
    show (false || (backTo pos (starEach es env)).any (·.1)) = false
    rw [star_any h.2]; rfl
def kwOk (kws : List Keyword) : Bool := kws.all fun k => k.arg.isSome
def kwN (kws : List Keyword) : List Str := kws.filterMap fun k => k.arg
theorem kw_all {pos : Pos} {env : Env} : ∀ {kws : List Keyword}, kwOk kws = true → (backToKw pos (keywordEach kws env)).all (·.1.isSome) = true ∧ (backToKw pos (keywordEach kws env)).any (·.1.isNone) = false ∧ (backToKw pos (keywordEach kws env)).filterMap (·.1) = kwN kws ∧ (kwN kws).length = kws.length
  | [], _ => ⟨rfl, rfl, rfl, rfl⟩
  | ⟨nm, e, kp⟩ :: kws, h => by
    have h' : (nm.isSome && kwOk kws) = true := h
    rw [Bool.and_eq_true] at h'
    obtain ⟨a, b, c, d⟩ := kw_all (pos := pos) (env := env) h'.2
    cases nm with
    | none => exact absurd h'.1 (by decide)
    | some y =>
      refine ⟨?_, ?_, ?_, ?_⟩
      · show (true && (backToKw pos (keywordEach kws env)).all (·.1.isSome)) = true
        rw [a]; rfl
      · show (false || (backToKw pos (keywordEach kws env)).any (·.1.isNone)) = false
        rw [b]; rfl
      · show y :: (backToKw pos (keywordEach kws env)).filterMap (·.1) = y :: kwN kws
        rw [c]
      · show (y :: kwN kws).length = _
        rw [List.length_cons, List.length_cons, d]
def pIx : Expr → Bool
  | .Slice _ _ _ _ => false
  | _ => true
theorem plainIx {b : Expr} (h : pIx b = true) : PlainIx b := by
  intro o i
  cases b <;> first | rfl | cases h
def noCall : Expr → Bool
  | .Call _ _ _ _ => false
  | _ => true
theorem abase {o : Expr} {m : Str} {env : Env} (h : noCall o = true) : attributeBase o m env (eval o env) = eval o env := by
  cases o <;> first | rfl | cases h
def pT : Expr → Bool
  | .UnaryOp op _ _ => match op with
    | .Not => false
    | _ => true
  | .BoolOp _ _ _ => false
  | .IfExp _ _ _ _ => false
  | .Compare _ _ _ _ => false
  | _ => true
theorem plainT {a : Expr} {env : Env} (h : pT a = true) : ∀ whole, isTrue a env whole = (do let v ← whole; standAt a.pos; holding [v] (truthy v)) := by
  intro w
  cases a with
  | UnaryOp op x p => cases op <;> first | rfl | cases h
  | _ => first | rfl | cases h
def noSet : Expr → Bool
  | .Set _ _ _ => false
  | _ => true
theorem folded {e : Expr} (h : noSet e = true) : ∀ env x, foldedSetIterable e env x = pure x := by
  intro env x
  cases e <;> first | rfl | cases h

section
variable {c : Ct} {S S' : Sa} {γ : Ga} {μ μ' : Sto} {σ : L2.St} {H H' : Hp} {Q : VK}
theorem Good.poke (g : Good c S γ μ σ H) {p : Addr} {o : HO} (sp : S p) (mp : μ p = none) (h0 : c.H0 p = none) (ho : ∀ (i : Nat) ob q, γ[i]? = some (.own ob) → σ[i]? = some (some (V.ref q)) → q ≠ p) : Good c S γ μ σ (upd H p o) := by
  have k : Kp S S H (upd H p o) := ⟨fun a u h n => by rw [upd_ne (fun e => n (by rw [e]; exact sp))]; exact h, fun a h => .inl h⟩
  refine ⟨g.len, fun i s e => ?_, g.ap, ⟨fun q ob e => ⟨(g.st.st q ob e).1, (g.st.st q ob e).2.kp k (upd_ne fun e2 => by rw [e2, mp] at e; cases e)⟩, fun a h => ?_⟩, g.s0, fun a u h m => ?_, g.fr, g.md, g.kt.trans (KpT.refl.poke (.inl sp))⟩
  · have h := g.sl i s e
    cases s with
    | un => trivial
    | val d => obtain ⟨v, e1, r⟩ := h; exact ⟨v, e1, r.kp k⟩
    | own ob => obtain ⟨q, e1, sq, h0, m, r⟩ := h; exact ⟨q, e1, sq, h0, m, r.kp k (upd_ne (ho i ob q e e1))⟩
  · by_cases e : a = p
    · rw [e, upd_same]; exact fun z => nomatch z
    · rw [upd_ne e]; exact g.st.sd a h
  · rw [upd_ne (fun e => by rw [e, h0] at h; cases h)]; exact g.ext a u h m
theorem Step.poke (s : Step S μ H S' μ' H') {p : Addr} {o : HO} (hp : H p = none) : Step S μ H S' μ' (upd H' p o) :=
  ⟨fun a u h m => by rw [upd_ne (ne_of_none h hp)]; exact s.keep a u h m, fun a h => by
    by_cases e : a = p
    · rw [e, upd_same]; exact fun z => nomatch z
    · rw [upd_ne e]; exact s.there a h, s.sub, s.sup, s.dom, s.dsub⟩
/-- a slot's own object is not one that was new -/
theorem Good.own_ne (g : Good c S γ μ σ H) {p : Addr} (hp : H p = none) : ∀ (i : Nat) ob q, γ[i]? = some (.own ob) → σ[i]? = some (some (V.ref q)) → q ≠ p := fun i ob q e1 e2 e => by
  obtain ⟨q', e3, _, _, _, r⟩ := g.sl i _ e1
  rw [e2] at e3; cases e3
  exact r.there (by rw [e]; exact hp)
/-- a new object at p, ours for a while -/
theorem open_new (g : Good c S γ μ σ H) {p : Addr} (o : HO) (hp : H p = none) : Good c (fun a => S a ∨ a = p) γ μ σ (upd H p o) ∧ Step S μ H (fun a => S a ∨ a = p) μ (upd H p o) ∧ μ p = none ∧ ¬ S p := by
  obtain ⟨s, ok⟩ := step_new (c := c) (o := o) g.st hp
  have np : ¬ S p := ok_notS g.st hp
  have mp : μ p = none := by
    cases e : μ p with
    | none => rfl
    | some o => exact absurd (g.st.st p o e).1 np
  have s2 : Step S μ H (fun a => S a ∨ a = p) μ (upd H p o) := ⟨s.keep, s.there, fun a z => z.elim .inl fun e => .inr (e ▸ hp), fun a z => .inl z, s.dom, s.dsub⟩
  have k2 := s2.kp g.st.dm
  refine ⟨g.step s2 ⟨fun q ob e => ⟨.inl (g.st.st q ob e).1, (g.st.st q ob e).2.kp k2 ?_⟩, fun a z => ?_⟩, s2, mp, np⟩
  · rw [upd_ne (fun e2 => by rw [e2, mp] at e; cases e)]
  · rcases z with z | z
    · exact s.there a (g.st.sd a z)
    · rw [z, upd_same]; exact fun z => nomatch z
/-- .. and given up -/
theorem Good.give (g0 : Good c S γ μ σ H) (g : Good c S' γ μ' σ H') (s : Step S μ H S' μ' H') {p : Addr} (hp : H p = none) (mp : μ' p = none) : Good c (fun a => S' a ∧ a ≠ p) γ μ' σ H' ∧ Step S μ H (fun a => S' a ∧ a ≠ p) μ' H' := by
  have np : ¬ S p := fun z => g0.st.sd p z hp
  refine ⟨g.shrink (fun a z => z.1) (fun a z => ⟨g.s0 a z, fun e => np (e ▸ g0.s0 a z)⟩) (fun a z => ⟨g.st.dm a z, fun e => z (e ▸ mp)⟩) fun i o q e1 e2 => ?_, ⟨s.keep, s.there, fun a z => s.sub a z.1, fun a z => ⟨s.sup a z, fun e => np (e ▸ z)⟩, s.dom, s.dsub⟩⟩
  obtain ⟨q', e3, sq, _, _, _⟩ := g.sl i _ e1
  rw [e2] at e3; cases e3
  exact ⟨sq, g0.own_ne hp i o q e1 e2⟩
end

section
variable {c : Ct} {X : Cx} {a b x : Expr} {sa sb : Bool} {ra rb : Ga → Sto → R D} {pos : Pos} {es : List Expr} {rs : Ga → Sto → R (List D)}
theorem snd_ix (hK : X.K = c.K) (ha : PE X a (TEn c sa ra)) (hb : PE X b (TEn c sb rb)) (hp : pIx b = true) : PE X (.Subscript a b pos) (TEn c true fun γ μ => (ra γ μ).bind fun x μ => (rb γ μ).bind fun y μ => ixR x y μ) := by
  obtain ⟨r, h1, h2⟩ := op2_ix (X := X) (c := c) hK
  exact (pe_ix h1 (PEweak ha) (PEweak hb) (plainIx hp)).imp fun _ _ _ w => read2 h2 w
def TOn (c : Ct) (r : Ga → Sto → R (Option Int)) : TO := fun σ H Q => ∃ S γ μ, Good c S γ μ σ H ∧ (r γ μ).All (fun i μ' => ∀ S' H', Good c S' γ μ' σ H' → Step S μ H S' μ' H' → Q i H') c.V
theorem _root_.L2.PO.imp {X : Cx} {e : Option Expr} {t t' : TO} (h : PO X e t) (i : ∀ σ H Q, t' σ H Q → t σ H Q) : PO X e t' := ⟨fun pins s σ H Q I w => h.run pins s σ H Q I (i σ H Q w)⟩
theorem sndO_none : PO X none (TOn c fun _ μ => .ok none μ) := po_none.imp fun σ H Q w => by
  obtain ⟨S, γ, μ, g, h⟩ := w
  exact h S H g Step.refl
theorem sndO_some (ha : PE X a (TEn c sa ra)) : PO X (some a) (TOn c fun γ μ => (ra γ μ).bind intR) := (po_some (PEweak ha)).imp fun σ H Q w => by
  obtain ⟨S, γ, μ, g, h⟩ := w
  rw [R.All_bind] at h
  refine ⟨S, γ, μ, g, h.mono (fun d μ1 h => ?_) fun _ _ _ w => w⟩
  intro S1 v H1 g1 s1 r1
  cases d with
  | int j => exact ⟨j, r1, h S1 H1 g1 s1⟩
  | _ => exact h.elim
theorem snd_sl (hK : X.K = c.K) {lo hi : Option Expr} {rl rh : Ga → Sto → R (Option Int)} {p2 : Pos} (ha : PE X a (TEn c sa ra)) (hl : PO X lo (TOn c rl)) (hh : PO X hi (TOn c rh)) :
    PE X (.Subscript a (.Slice lo hi none p2) pos) (TEn c true fun γ μ => (ra γ μ).bind fun x μ => (rl γ μ).bind fun l μ => (rh γ μ).bind fun h μ => orO (slice x l h) (slice (dr μ x) l h) μ) := by
  obtain ⟨r, h1, h2⟩ := sl_all (X := X) (c := c) hK
  refine (pe_slice h1 (PEweak ha) hl hh).imp fun σ H Q w => ?_
  obtain ⟨S, γ, μ, g, h⟩ := w
  rw [R.All_bind] at h
  refine ⟨S, γ, μ, g, h.mono (fun d μ1 h => ?_) fun _ _ _ w => w⟩
  intro S1 v H1 g1 s1 r1
  rw [R.All_bind] at h
  refine ⟨S1, γ, μ1, g1, h.mono (fun l μ2 h => ?_) fun _ _ _ w => w⟩
  intro S2 H2 g2 s2
  rw [R.All_bind] at h
  refine ⟨S2, γ, μ2, g2, h.mono (fun u μ3 h => ?_) fun _ _ _ w => w⟩
  intro S3 H3 g3 s3
  have rz := RelW.zero (RelW.kp (s3.kp g2.st.dm) s3.kpD (RelW.kp (s2.kp g1.st.dm) s2.kpD r1))
  have h := Aft.step h ((s1.trans s2).trans s3)
  cases z : slice d l u with
  | some d' => rw [z] at h; exact h2 S3 γ μ3 σ H3 d v l u Q g3 rz (by rw [z]; exact h)
  | none => rw [z] at h; exact h2 S3 γ μ3 σ H3 _ v l u Q g3 (rz.dr g3) h
/-- a built-in by its name -/
theorem snd_bi (hK : X.K = c.K) (hc : X.calm = true) (bi : Bi) {e : Expr} {p : Pos} (hg : Gl X (biName bi)) (hm : X.mg (biName bi) = none) (ha : PA X (e :: es) (TAn c false rs)) (hs : (e :: es).all nst = true) :
    PE X (.Call (.Name (biName bi) p) (e :: es) [] pos) (TEn c true fun γ μ => (rs γ μ).bind fun xs μ => orO (builtin bi xs) (builtin bi (xs.map (dr μ))) μ) := by
  obtain ⟨r, h1, h2⟩ := op_bi (X := X) (c := c) hK hc bi
  simp only [List.all_cons, Bool.and_eq_true] at hs
  have hb := bi_boot bi
  have key : PE X (.Call (.Name (biName bi) p) (e :: es) [] pos) (tCB r (TAn c false rs)) := by
    cases bi <;> first
      | exact pe_callB h1 hg hm hb ha (by decide +kernel) (by decide +kernel) (star_cons hs.1) (star_any hs.2)
      | exact pe_callTy h1 hg hm hb ha (by decide +kernel) (by decide +kernel) (star_cons hs.1) (star_any hs.2)
  exact key.imp fun _ _ _ w => readA h2.dr w
/-- a method of a text -/
theorem snd_mt (hK : X.K = c.K) (m : Mt) {apos : Pos} (ha : PE X a (TEn c sa ra)) (hb : PE X b (TEn c sb rb)) (hs : nst b = true) (hn : noCall a = true) (hl : (apos.endLine == pos.line) = true) :
    PE X (.Call (.Attribute a (mtName m) apos) [b] [] pos) (TEn c true fun γ μ => (ra γ μ).bind fun x μ => if isStr x then (rb γ μ).bind fun y μ => ofO (mt1 m x y) μ else .fail) := by
  obtain ⟨r, h1, h2⟩ := op_mt (X := X) (c := c) hK m
  have key : PE X (.Call (.Attribute a (mtName m) apos) [b] [] pos) (tM1 r (TEn c false ra) (TEn c false rb)) := by
    cases m with
    | join => exact pe_m1 F.slot_str_join F.type_str_join h1 (PEweak ha) (PEweak hb) (star_cons hs) (abase hn) hl
    | count => exact pe_m1 F.slot_str_count F.type_str_count h1 (PEweak ha) (PEweak hb) (star_cons hs) (abase hn) hl
  refine key.imp fun σ H Q w => ?_
  obtain ⟨S, γ, μ, g, h⟩ := w
  rw [R.All_bind] at h
  refine ⟨S, γ, μ, g, h.mono (fun d μ1 h => ?_) fun _ _ _ w => w⟩
  intro S1 v H1 g1 s1 r1
  cases d with
  | str s =>
    have h : ((rb γ μ1).bind fun y μ => ofO (mt1 m (.str s) y) μ).All (Aft c true S μ H γ σ Q) c.V := h
    rw [R.All_bind] at h
    refine ⟨⟨_, r1.1⟩, S1, γ, μ1, g1, h.mono (fun e μ2 h => ?_) fun _ _ _ w => w⟩
    intro S2 w H2 g2 s2 r2
    exact h2 S2 γ μ2 σ H2 (.str s) e v w Q g2 (RelW.zero (RelW.kp (s2.kp g1.st.dm) s2.kpD r1)) (RelW.zero r2) (Aft.step h (s1.trans s2))
  | _ => exact h.elim
/-- {k: v} -/
theorem snd_dsp1 (ha : PE X a (TEn c true ra)) (hb : PE X b (TEn c true rb)) :
    PE X (.Dict [some a] [b] pos) (TEn c true fun γ μ => (ra γ μ).bind fun x μ => (rb γ μ).bind fun y μ => match keyD x with | some _ => .ok (.dic [(x, y)]) μ | none => .fail) := by
  refine (pe_fz (pe_disp (pps_cons ha hb pps_nil) rfl rfl (by simp) (by simp))).imp fun σ H Q w => ?_
  obtain ⟨S, γ, μ, g, h⟩ := w
  intro p hp
  obtain ⟨g0, s0, mp, np⟩ := open_new g (HO.dK []) hp
  rw [R.All_bind] at h
  refine ⟨_, γ, μ, g0, h.mono (fun d μ1 h => ?_) fun _ _ _ w => w⟩
  intro S1 v H1 g1 s1 r1
  rw [R.All_bind] at h
  refine ⟨S1, γ, μ1, g1, h.mono (fun e μ2 h => ?_) fun _ _ _ w => w⟩
  intro S2 w H2 g2 s2 r2
  have s02 := s1.trans s2
  have hp2 : H2 p = some (.dK []) := s02.keep p _ upd_same mp
  cases hk : keyD d with
  | none => rw [hk] at h; exact h.elim
  | some k =>
    rw [hk] at h
    have r1' : Rel c.K S2 H2 d v := Rel.kp (s2.kp g1.st.dm) d v r1
    have hv : v = kV k := by
      cases d with
      | int i => cases hk; exact r1'
      | str t => cases hk; exact r1'.1
      | _ => cases hk
    have mp2 : μ2 p = none := by
      cases e2 : μ2 p with
      | none => rfl
      | some ob =>
        rcases s02.dsub p (by rw [e2]; exact fun z => nomatch z) with z | z
        · exact absurd mp z
        · rw [upd_same] at z; cases z
    refine ⟨hp2, [(k, w)], by rw [List.map_cons, List.map_nil, hv], by simp, p, _, rfl, upd_same, trivial, fun od => ?_⟩
    rw [upd_upd]
    have sp2 : S2 p := s02.sup p (.inr rfl)
    have sA := (s0.trans s02).poke (o := HO.frz od (HO.dK (mergeK [] [(k, w)]))) hp
    have gA := g2.poke (o := HO.frz od (HO.dK (mergeK [] [(k, w)]))) sp2 mp2 (g.h0 hp) (g.own_ne hp)
    obtain ⟨gB, sB⟩ := g.give gA sA hp mp2
    refine h _ (.ref p) _ gB sB ⟨p, _, rfl, ⟨od, upd_same⟩, fun z => z.2 rfl, k, w, [], rfl, ⟨hk, okK_of r1', ?_⟩, rfl⟩
    refine Rel.kp (S := S2) (H := H2) ⟨fun a u h n => ?_, fun a z => .inl z.1⟩ e w r2
    rw [upd_ne (fun e => n (by rw [e]; exact sp2))]; exact h
end
/-! {k: v, ..} -/
section
variable {c : Ct} {X : Cx} {pos : Pos}
abbrev DR := Ga → Sto → R D
def dPs : List (DR × DR) → Ga → Sto → R (List (D × D))
  | [], _, μ => .ok [] μ
  | q :: r, γ, μ => ((q.1 γ μ).bind fun x μ => (q.2 γ μ).bind fun y μ => .ok (x, y) μ).bind fun p μ => (dPs r γ μ).bind fun ps μ => .ok (p :: ps) μ
def Rel2 (K : PySem.W.Frag) (S : Sa) (H : Hp) : List (D × D) → List (V × V) → Prop
  | [], vs => vs = []
  | q :: r, vs => ∃ k v ws, vs = (k, v) :: ws ∧ Rel K S H q.1 k ∧ Rel K S H q.2 v ∧ Rel2 K S H r ws
theorem tPairs_of {γ : Ga} {σ : L2.St} : ∀ (l : List (DR × DR)) {S : Sa} {μ : Sto} {H : Hp} {Q : List (V × V) → Hp → Prop}, Good c S γ μ σ H →
    (dPs l γ μ).All (fun ps μ' => ∀ S' vs H', Good c S' γ μ' σ H' → Step S μ H S' μ' H' → Rel2 c.K S' H' ps vs → Q vs H') c.V → tPairs (l.map fun q => (TEn c true q.1, TEn c true q.2)) σ H Q
  | [], S, μ, H, Q, g, h => h S [] H g Step.refl rfl
  | (a, b) :: l, S, μ, H, Q, g, h => by
    unfold dPs at h
    rw [R.All_bind, R.All_bind] at h
    refine ⟨S, γ, μ, g, h.mono (fun d μ1 h => ?_) fun _ _ _ w => w⟩
    intro S1 v H1 g1 s1 r1
    rw [R.All_bind] at h
    refine ⟨S1, γ, μ1, g1, h.mono (fun e μ2 h => ?_) fun _ _ _ w => w⟩
    intro S2 w H2 g2 s2 r2
    have h : ((dPs l γ μ2).bind fun ps μ => R.ok ((d, e) :: ps) μ).All _ c.V := h
    rw [R.All_bind] at h
    refine tPairs_of l g2 (h.mono (fun ps μ3 h => ?_) fun _ _ _ w => w)
    intro S3 vs H3 g3 s3 r3
    have k23 := s3.kp g2.st.dm
    exact h S3 ((v, w) :: vs) H3 g3 ((s1.trans s2).trans s3) ⟨v, w, vs, rfl, Rel.kp k23 d v (Rel.kp (s2.kp g1.st.dm) d v r1), Rel.kp k23 e w r2, r3⟩
theorem put_new {kvs : List (Key × V)} {k : Key} {v : V} (h : k ∉ kvs.map (·.1)) : putK kvs k v = kvs ++ [(k, v)] := by
  unfold putK
  rw [if_neg]
  intro z
  rw [List.any_eq_true] at z
  obtain ⟨q, hq, e⟩ := z
  exact h (List.mem_map.mpr ⟨q, hq, of_decide_eq_true e⟩)
theorem merge_new : ∀ (more kvs : List (Key × V)), ((kvs ++ more).map (·.1)).Nodup → mergeK kvs more = kvs ++ more
  | [], kvs, _ => by rw [List.append_nil]; rfl
  | p :: r, kvs, h => by
    show mergeK (putK kvs p.1 p.2) r = _
    have hn : p.1 ∉ kvs.map (·.1) := by
      rw [List.map_append, List.map_cons, List.nodup_append] at h
      intro z
      exact h.2.2 _ z _ List.mem_cons_self rfl
    rw [put_new hn, merge_new r (kvs ++ [(p.1, p.2)]) (by simpa using h)]
    simp
theorem dsp_rel {K : PySem.W.Frag} {S : Sa} {H : Hp} : ∀ {ps : List (D × D)} {ks : List Key} {vs : List (V × V)}, keysD ps = some ks → Rel2 K S H ps vs → ∃ kvs : List (Key × V), vs = kvs.map (fun kv => (kV kv.1, kv.2)) ∧ kvs.map (·.1) = ks ∧ kvs.length = ps.length ∧ RelP K S H ps kvs
  | [], ks, vs, h, r => by cases h; exact ⟨[], r, rfl, rfl, rfl⟩
  | q :: r, ks, vs, h, hr => by
    obtain ⟨k, v, ws, rfl, r1, r2, r3⟩ := hr
    unfold keysD at h
    cases e1 : keyD q.1 with
    | none => rw [e1] at h; cases h
    | some k1 =>
      cases e2 : keysD r with
      | none => rw [e1, e2] at h; cases h
      | some ks1 =>
        rw [e1, e2] at h
        cases h
        obtain ⟨kvs, h1, h2, h3, h4⟩ := dsp_rel e2 r3
        have hk : k = kV k1 := by
          cases hd : q.1 with
          | int i => rw [hd] at e1 r1; cases e1; exact r1
          | str t => rw [hd] at e1 r1; cases e1; exact r1.1
          | _ => rw [hd] at e1; cases e1
        exact ⟨(k1, v) :: kvs, by rw [h1, hk]; rfl, by rw [List.map_cons, h2], by simp [h3], k1, v, kvs, rfl, (by obtain ⟨qa, qb⟩ := q; exact ⟨e1, okK_of r1, r2⟩), h4⟩
theorem dPs_len : ∀ (l : List (DR × DR)) (γ : Ga) (μ : Sto) {P : List (D × D) → Sto → Prop}, (dPs l γ μ).All P c.V → (dPs l γ μ).All (fun ps μ => ps.length = l.length ∧ P ps μ) c.V
  | [], γ, μ, P, h => ⟨rfl, h⟩
  | q :: r, γ, μ, P, h => by
    unfold dPs at h ⊢
    rw [R.All_bind] at h ⊢
    refine h.mono (fun p μ1 h => ?_) fun _ _ _ w => w
    rw [R.All_bind] at h ⊢
    exact (dPs_len r γ μ1 h).mono (fun ps μ2 h => ⟨by simp [h.1], h.2⟩) fun _ _ _ w => w
theorem snd_dsp (l : List (DR × DR)) {keys : List (Option Expr)} {values : List Expr} (hp : PPs X pos keys values (l.map fun q => (TEn c true q.1, TEn c true q.2))) (hall : keys.all (·.isSome) = true) (hl : keys.length = values.length) (h0 : keys ≠ []) (h15 : keys.length ≤ 15) (hkl : keys.length = l.length) :
    PE X (.Dict keys values pos) (TEn c true fun γ μ => (dPs l γ μ).bind dspR) := by
  refine (pe_fz (pe_disp hp hall hl h0 h15)).imp fun σ H Q w => ?_
  obtain ⟨S, γ, μ, g, h⟩ := w
  intro p hp
  obtain ⟨g0, s0, mp, np⟩ := open_new g (HO.dK []) hp
  rw [R.All_bind] at h
  refine tPairs_of l g0 ((dPs_len l γ μ h).mono (fun ps μ2 h => ?_) fun _ _ _ w => w)
  obtain ⟨hpl, h⟩ := h
  intro S2 vs H2 g2 s02 r2
  have hp2 : H2 p = some (.dK []) := s02.keep p _ upd_same mp
  unfold dspR at h
  cases hk : keysD ps with
  | none => rw [hk] at h; exact h.elim
  | some ks =>
    rw [hk] at h
    by_cases hn : ks.Nodup
    · simp only [hn, if_true] at h
      have h : Aft c true S μ H γ σ Q (.dic ps) μ2 := h
      obtain ⟨kvs, rfl, h2, h3, h4⟩ := dsp_rel hk r2
      have mp2 : μ2 p = none := by
        cases e2 : μ2 p with
        | none => rfl
        | some ob =>
          rcases s02.dsub p (by rw [e2]; exact fun z => nomatch z) with z | z
          · exact absurd mp z
          · rw [upd_same] at z; cases z
      refine ⟨hp2, kvs, rfl, by rw [h3, hpl]; omega, p, _, rfl, upd_same, trivial, fun od => ?_⟩
      rw [upd_upd]
      have em : mergeK [] kvs = kvs := by
        have := merge_new kvs [] (by rw [List.nil_append, h2]; exact hn)
        simpa using this
      rw [em]
      have sp2 : S2 p := s02.sup p (.inr rfl)
      have sA := (s0.trans s02).poke (o := HO.frz od (HO.dK kvs)) hp
      have gA := g2.poke (o := HO.frz od (HO.dK kvs)) sp2 mp2 (g.h0 hp) (g.own_ne hp)
      obtain ⟨gB, sB⟩ := g.give gA sA hp mp2
      refine h _ (.ref p) _ gB sB ⟨p, kvs, rfl, ⟨od, upd_same⟩, fun z => z.2 rfl, ?_⟩
      refine RelP.kp (S := S2) (H := H2) ⟨fun a u h n => ?_, fun a z => .inl z.1⟩ ps kvs h4
      rw [upd_ne (fun e => n (by rw [e]; exact sp2))]; exact h
    · simp only [hn, if_false] at h
      exact h.elim
end

/-! ### isinstance -/
theorem paired_map {α β γ : Type} {R : β → γ → Prop} {f : α → β} {g : α → γ} (h : ∀ a, R (f a) (g a)) : ∀ l : List α, PySem.Paired R (l.map f) (l.map g)
  | [] => .nil
  | a :: l => .cons (h a) (paired_map h l)
section
variable {c : Ct} {X : Cx} {a x : Expr} {sa : Bool} {ra : Ga → Sto → R D} {pos : Pos}
def tyStr (t : Ty) : Str := Str.ofString (tyName t)
def isTyN (t : Ty) : Expr → Bool
  | .Name y _ => decide (y = tyStr t)
  | _ => false
structure TyNm (X : Cx) (t : Ty) : Prop where
  gl : Gl X (tyStr t)
  mg : X.mg (tyStr t) = none
theorem pe_ty {t : Ty} {p : Pos} (h : TyNm X t) : PE X (.Name (tyStr t) p) (tC (.ty (tyName t))) :=
  pe_bltn h.gl h.mg (ty_boot t) rfl (by cases t <;> decide +kernel) (by cases t <;> decide +kernel)
theorem op1_isi {ts : List Ty} {S : Sa} {γ : Ga} {μ : Sto} {σ : L2.St} {H : Hp} {d : D} {v : V} {Q : VK} (g : Good c S γ μ σ H) (rd : RelW c.K T0 S H d v) (h : (ofO ((isTys d ts).map D.bl) μ).All (Aft c true S μ H γ σ Q) c.V) (ht : ts ≠ []) :
    ∃ n b, tyOf d = some n ∧ isTys d ts = some b ∧ TyX c.K H v (.type n) ∧ Aft c true S μ H γ σ Q (.bl b) μ := by
  obtain ⟨z, e, q⟩ := ofO_some h
  obtain ⟨b, e2, rfl⟩ := Option.map_eq_some_iff.mp e
  cases ts with
  | nil => exact absurd rfl ht
  | cons t ts =>
    have : ∃ b', isTy d t = some b' := by
      cases e3 : isTy d t with
      | none => unfold isTys at e2; rw [e3] at e2; cases e2
      | some b' => exact ⟨b', rfl⟩
    obtain ⟨b', e3⟩ := this
    obtain ⟨n, en, _⟩ := isTy_some e3
    exact ⟨n, b, en, e2, tyX_of en rd, q⟩
theorem snd_isi1 (hK : X.K = c.K) {t : Ty} {p p2 : Pos} (hg : Gl X "isinstance") (hm : X.mg "isinstance" = none) (ht : TyNm X t) (ha : PE X a (TEn c sa ra)) (hs : nst a = true) :
    PE X (.Call (.Name "isinstance" p) [a, .Name (tyStr t) p2] [] pos) (TEn c true fun γ μ => (ra γ μ).bind fun x μ => orO ((isTys x [t]).map .bl) ((isTys (dr μ x) [t]).map .bl) μ) := by
  refine (pe_callB (id := "isinstance") call_isi hg hm (by decide +kernel) (pa_cons (PEweak ha) (pa_cons (pe_ty ht) pa_nil (star_cons rfl)) (star_cons hs)) (by decide +kernel) (by decide +kernel) (star_cons hs) rfl).imp fun σ H Q w => ?_
  refine read1 (c := c) (r := fun x H1 Q => rIsi X.K [x, .ty (tyName t)] H1 Q) (Op1.dr (f := fun x => (isTys x [t]).map .bl) fun S γ μ σ H d v Q g rd h => ?_) w
  obtain ⟨n, b, en, e2, tx, q⟩ := op1_isi g rd h (by simp)
  have e3 := isTys_some (K := X.K) en e2
  refine ⟨v, .ty (tyName t), .type n, .type (tyName t), b, rfl, .ty _, by rw [hK]; exact tx, ?_, q S _ H g Step.refl rfl⟩
  have e4 : PySem.W.kitAny X.K (.type n) [.type (tyName t)] = some b := e3
  unfold PySem.W.kitAny at e4
  cases e5 : PySem.W.kitOne X.K (.type n) (.type (tyName t)) with
  | none => rw [e5] at e4; cases e4
  | some k =>
    rw [e5] at e4
    cases k with
    | true => exact e4
    | false => rw [← e4]; rfl
theorem pa_tys : ∀ {ts : List Ty} {es : List Expr}, (∀ t ∈ ts, TyNm X t) → (es.length = ts.length ∧ (es.zip ts).all (fun p => isTyN p.2 p.1) = true) → PA X es (fun _ H Q => Q (ts.map fun t => V.ty (tyName t)) H)
  | [], [], _, _ => pa_nil.imp fun _ _ _ w => w
  | [], _ :: _, _, h => absurd h.1 (by simp)
  | _ :: _, [], _, h => absurd h.1 (by simp)
  | t :: ts, e :: es, hn, h => by
    obtain ⟨h1, h2⟩ := h
    simp only [List.zip_cons_cons, List.all_cons, Bool.and_eq_true] at h2
    cases e with
    | Name y p =>
      have ey : y = tyStr t := of_decide_eq_true h2.1
      subst ey
      exact (pa_cons (pe_ty (hn t List.mem_cons_self)) (pa_tys (fun t' ht => hn t' (List.mem_cons_of_mem _ ht)) ⟨by simpa using h1, h2.2⟩) (star_cons rfl)).imp fun _ _ _ w => w
    | _ => exact absurd h2.1 (by simp [isTyN])
theorem snd_isiT (hK : X.K = c.K) {ts : List Ty} {es : List Expr} {p p2 : Pos} {k : Nat} (hg : Gl X "isinstance") (hm : X.mg "isinstance" = none) (ht : ∀ t ∈ ts, TyNm X t) (hne : ts ≠ []) (hl : ts.length ≤ 100) (hz : es.length = ts.length ∧ (es.zip ts).all (fun p => isTyN p.2 p.1) = true) (ha : PE X a (TEn c sa ra)) (hs : nst a = true) :
    PE X (.Call (.Name "isinstance" p) [a, .Tuple es k p2] [] pos) (TEn c true fun γ μ => (ra γ μ).bind fun x μ => orO ((isTys x ts).map .bl) ((isTys (dr μ x) ts).map .bl) μ) := by
  refine (pe_callB (id := "isinstance") call_isiT hg hm (by decide +kernel) (pa_cons (PEweak ha) (pa_cons (pe_tup (pa_tys ht hz)) pa_nil (star_cons rfl)) (star_cons hs)) (by decide +kernel) (by decide +kernel) (star_cons hs) rfl).imp fun σ H Q w => ?_
  refine read1 (c := c) (r := fun x H1 Q => (ts.map fun t => V.ty (tyName t)).length ≤ sizeLine ∧ ∀ q, H1 q = none → rIsiT X.K [x, .ref q] (upd H1 q (.tup (ts.map fun t => V.ty (tyName t)))) Q) (Op1.dr (f := fun x => (isTys x ts).map .bl) fun S γ μ σ H d v Q g rd h => ?_) w
  refine ⟨by rw [List.length_map]; exact big_line (by omega), fun q hq => ?_⟩
  obtain ⟨s, ok⟩ := step_new (c := c) (o := HO.tup (ts.map fun t => V.ty (tyName t))) g.st hq
  have g' := g.step s ok
  have k0 : Kp T0 T0 H (upd H q (HO.tup (ts.map fun t => V.ty (tyName t)))) := ⟨fun a u h _ => by rw [upd_ne (ne_of_none h hq)]; exact h, fun a h => h.elim⟩
  obtain ⟨n, b, en, e2, tx, q2⟩ := op1_isi g' (RelW.kp (s.kp g.st.dm) k0 rd) (Aft.step h s) hne
  exact ⟨v, q, _, .type n, _, b, rfl, upd_same, paired_map (g := fun t => Value.type (tyName t)) (fun t => .ty _) ts, by rw [hK]; exact tx, isTys_some en e2, q2 S _ _ g' Step.refl rfl⟩
end

/-! ### calls of defs -/
/-- a def's promise -/
def postF (K : PySem.W.Frag) (fr : Bool) (S : Sa) (μ : Sto) (H : Hp) (Q : VK) : D → Sto → Prop := fun d μ' =>
  match fr with
  | true => ∀ S' p vs H' xs, d = .lst xs → Step S μ H S' μ' H' → StoOk K S' μ' H' → H p = none → S' p → μ' p = none → H' p = some (.lst vs) → Rels K S' H' xs vs → Q (.ref p) H'
  | false => ∀ S' v H', Step S μ H S' μ' H' → StoOk K S' μ' H' → Rel K S' H' d v → Q v H'
def postX (K : PySem.W.Frag) (S : Sa) (μ : Sto) (H : Hp) (E : XK) : Xc → Ga → Sto → Prop := fun x _ μ' => ∀ S' H' cls d, Step S μ H S' μ' H' → StoOk K S' μ' H' → XRel K S' H' x cls d → E cls d H'
def spF (K : PySem.W.Frag) (cl : List D → Sto → R D) (np : Nat) (fr : Bool) : Sp := fun vs H Q E => vs.length = np ∧ ∃ S μ ds, StoOk K S μ H ∧ Rels K S H ds vs ∧ (cl ds μ).All (postF K fr S μ H Q) (postX K S μ H E)
theorem All_back {α : Type} {r : R α} {γ : Ga} {Q : α → Sto → Prop} {W : Xc → Ga → Sto → Prop} (h : (r.back γ).All Q W) : r.All Q fun x _ μ => W x γ μ := by
  induction r with
  | ok a μ => exact h
  | exc _ _ _ => exact h
  | fail => exact h
  | any P k ih => exact fun p hp => ih p (h p hp)
theorem arr_vals : ∀ {pm : List Nat} {vs : List V} {us : List Value}, Vals vs us → Vals (arr pm vs) (arr pm us)
  | [], _, _, _ => .nil
  | j :: pm, vs, us, r => by
    unfold arr
    rw [List.filterMap_cons, List.filterMap_cons]
    cases e : vs[j]? with
    | none => rw [r.none_of e]; exact arr_vals r
    | some v => obtain ⟨u, e2, q⟩ := r.get e; rw [e2]; exact .cons q (arr_vals r)
theorem arr_rels {K : PySem.W.Frag} {S : Sa} {H : Hp} : ∀ {pm : List Nat} {ds : List D} {vs : List V}, Rels K S H ds vs → Rels K S H (arr pm ds) (arr pm vs)
  | [], _, _, _ => rfl
  | j :: pm, ds, vs, r => by
    unfold arr
    rw [List.filterMap_cons, List.filterMap_cons]
    cases e : ds[j]? with
    | none =>
      have : vs[j]? = none := by
        rw [List.getElem?_eq_none_iff] at e ⊢
        rw [r.length]; exact e
      rw [this]; exact arr_rels r
    | some d => obtain ⟨v, e2, q⟩ := r.get e; rw [e2]; exact ⟨v, _, rfl, q, arr_rels r⟩
section
variable {c : Ct} {X : Cx} {es : List Expr} {kws : List Keyword} {rs rk : Ga → Sto → R (List D)} {pos p : Pos} {x : Str} {k : Nat} {f : Addr} {fd : FuncData} {ps : List Str} {sp : Sp} {pm : List Nat} {t tk : TA}
def tCallG (W : WX) (pm : List Nat) (na nk : Nat) (sp : Sp) (t tk : TA) : TE := fun σ H Q => t σ H fun vs H1 => tk σ H1 fun zs H2 => vs.length = na ∧ zs.length = nk ∧ sp (arr pm (vs ++ zs)) H2 Q (WE W σ)
theorem run_G {W : WX} {na : Nat} {pins : List (Addr × Obj)} {σ : L2.St} {Q : VK} (tx : Takes X W) (F : FnOk X.prog X.w X.K X.mg X.base (L2.CX X.prog X.w) k f fd ps sp) (hr : Room k X.A)
    (hb : ∀ (s : Shared) (us ws : List Value), X.K.In s.heap → us.length = na → ws.length = kws.length → BindsTo s fd ⟨us, (kwN kws).zip ws⟩ (ps.zip (arr pm (us ++ ws)))) :
    ∀ (us ws : List Value) (vs zs : List V) (s2 : Shared) (H2 : Hp), Inv X pins σ H2 s2 → Vals vs us → Vals zs ws → vs.length = na ∧ zs.length = kws.length ∧ sp (arr pm (vs ++ zs)) H2 Q (WE W σ) →
      wpAny (model X.prog X.w) X.A (PySem.call (.ref f) us ((kwN kws).zip ws)) (EP X pins σ Q) X.xe s2 := by
  intro us ws vs zs s2 H2 I2 r rz q
  obtain ⟨l1, l2, q⟩ := q
  refine wpAny_call (codeAny_mono (F.run X.A X.stack s2 H2 ⟨us, (kwN kws).zip ws⟩ (arr pm (us ++ ws)) (arr pm (vs ++ zs)) Q (WE W σ) hr I2.env0 (hb s2 us ws I2.kIn (by rw [← r.length]; exact l1) (by rw [← rz.length]; exact l2)) (arr_vals (r.append rz)) q) fun r s' hq => ?_)
  cases r with
  | error e => exact passAt tx σ pins H2 s2 e s' I2 hq
  | ok fl =>
    cases fl with
    | ret u => exact I2.after hq
    | next => exact False.elim hq
    | brk => exact False.elim hq
    | cont => exact False.elim hq
theorem pe_callG {W : WX} {e : Expr} (tx : Takes X W) (F : FnOk X.prog X.w X.K X.mg X.base (L2.CX X.prog X.w) k f fd ps sp) (hr : Room k X.A) (hg : Gl X x) (hm : X.mg x = some (.ref f)) (hk : PySem.W.keepIn X.K (.ref f) = true)
    (hb : ∀ (s : Shared) (us ws : List Value), X.K.In s.heap → us.length = (e :: es).length → ws.length = kws.length → BindsTo s fd ⟨us, (kwN kws).zip ws⟩ (ps.zip (arr pm (us ++ ws))))
    (ha : PA X (e :: es) t) (hkw : PK X kws tk) (hs : (e :: es).all nst = true) (hkk : kwOk kws = true) (hdb : (x == ("__debug__" : Str)) = false) : PE X (.Call (.Name x p) (e :: es) kws pos) (tCallG W pm (e :: es).length kws.length sp t tk) := by
  refine ⟨fun pins s σ H Q I h => ?_⟩
  refine wpAny_Call_Name_kw (ld_glob I hg hm ?_ hdb)
  obtain ⟨k1, k2, k3, k4⟩ := kw_all (pos := pos) (env := X.env) hkk
  have hpl : ((backTo pos (starEach (e :: es) X.env)).any (·.1) || (backToKw pos (keywordEach kws X.env)).any (·.1.isNone)) = false := by rw [star_any hs, k2]; rfl
  have hs' : nst e = true := by simp only [List.all_cons, Bool.and_eq_true] at hs; exact hs.1
  refine PySem.W.callWith_KW (h₀ := X.base) I.ok.mod.kin hk k1 (thn (ha.run pos pins s σ H _ I h) fun us s1 ⟨vs, H1, I1, r, q⟩ => ?_) hpl (star_cons hs')
  refine thn (hkw.run pos pins s1 σ H1 _ I1 q) fun ws s2 ⟨zs, H2, I2, rz, q2⟩ => ⟨I2.kIn, ?_⟩
  rw [k3]
  exact run_G tx F hr hb us ws vs zs s2 H2 I2 r rz q2
theorem pe_callG0 {W : WX} (tx : Takes X W) (F : FnOk X.prog X.w X.K X.mg X.base (L2.CX X.prog X.w) k f fd ps sp) (hr : Room k X.A) (hg : Gl X x) (hm : X.mg x = some (.ref f)) (hk : PySem.W.keepIn X.K (.ref f) = true)
    (hb : ∀ (s : Shared) (us ws : List Value), X.K.In s.heap → us.length = 0 → ws.length = kws.length → BindsTo s fd ⟨us, (kwN kws).zip ws⟩ (ps.zip (arr pm (us ++ ws))))
    (hkw : PK X kws tk) (hkk : kwOk kws = true) (hdb : (x == ("__debug__" : Str)) = false) : PE X (.Call (.Name x p) [] kws pos) (tCallG W pm 0 kws.length sp tNil tk) := by
  refine ⟨fun pins s σ H Q I h => ?_⟩
  refine wpAny_Call_Name_kw (ld_glob I hg hm ?_ hdb)
  obtain ⟨k1, k2, k3, k4⟩ := kw_all (pos := pos) (env := X.env) hkk
  have hpl : ((backTo pos (starEach [] X.env)).any (·.1) || (backToKw pos (keywordEach kws X.env)).any (·.1.isNone)) = false := by rw [k2]; rfl
  refine PySem.W.callWith_KW0 (h₀ := X.base) I.ok.mod.kin hk k1 (thn (hkw.run pos pins s σ H _ I h) fun ws s2 ⟨zs, H2, I2, rz, q2⟩ => ⟨I2.kIn, ?_⟩) hpl
  rw [k3]
  exact run_G tx F hr hb [] ws [] zs s2 H2 I2 .nil rz q2
/-- the two modes -/
theorem callG_of {na nk : Nat} {cl : List D → Sto → R D} {np : Nat} {σ : L2.St} {H : Hp} {Q : VK} (fr : Bool) (hnp : ∀ (ds : List D), ds.length = na + nk → (arr pm ds).length = np)
    (hla : ∀ γ μ, (rs γ μ).Sat fun ds => ds.length = na) (hlk : ∀ γ μ, (rk γ μ).Sat fun ds => ds.length = nk)
    (h : ∃ S γ μ, Good c S γ μ σ H ∧ ((rs γ μ).bind fun xs μ => (rk γ μ).bind fun ys μ => (cl (arr pm (xs ++ ys)) μ).back γ).All (match fr with | true => AftF c S μ H γ σ Q | false => Aft c true S μ H γ σ Q) c.V) :
    tCallG (WV c) pm na nk (spF c.K cl np fr) (TAn c true rs) (TAn c true rk) σ H Q := by
  obtain ⟨S, γ, μ, g, h⟩ := h
  rw [R.All_bind] at h
  refine ⟨S, γ, μ, g, (h.both (hla γ μ)).mono (fun xs μ1 h => ?_) fun _ _ _ w => w⟩
  obtain ⟨h, lx⟩ := h
  intro S1 vs H1 g1 s1 r1
  rw [R.All_bind] at h
  refine ⟨S1, γ, μ1, g1, (h.both (hlk γ μ1)).mono (fun ys μ2 h => ?_) fun _ _ _ w => w⟩
  obtain ⟨h, ly⟩ := h
  intro S2 zs H2 g2 s2 r2
  have r1' := Rels.kp (s2.kp g1.st.dm) _ _ r1.rels
  have r2' := r2.rels
  have hh := All_back h
  have s12 := s1.trans s2
  refine ⟨by rw [r1'.length]; exact lx, by rw [r2'.length]; exact ly, ?_, S2, μ2, _, g2.st, arr_rels (r1'.append r2'), hh.mono (fun d μ3 q => ?_) fun x _ μ3 w S' H' cls dd st ok xr => ⟨S', γ, μ3, x, g2.step st ok, xr, w⟩⟩
  · rw [(arr_rels (r1'.append r2')).length]
    exact hnp _ (by rw [List.length_append, lx, ly])
  · cases fr with
    | true =>
      intro S' p vs H' xs e st ok hp sp mp hp' r
      exact q S' p vs H' xs e (g2.step st ok) (s12.trans st) (none_back s12.there hp) sp mp hp' r
    | false =>
      intro S' v H' st ok r
      exact q S' v H' (g2.step st ok) (s12.trans st) r
end
end Bs
/-! Bs: targets, sources of loops, comprehensions. -/
namespace Bs
open PySem L2
/-! ### targets -/
section
variable {c : Ct} {S S' : Sa} {γ γ' : Ga} {μ μ' : Sto} {σ : L2.St} {H H' : Hp}
theorem get_set {α : Type} (l : List α) (i j : Nat) (a b : α) (h : (l.set i a)[j]? = some b) : (j = i ∧ b = a ∧ i < l.length) ∨ (j ≠ i ∧ l[j]? = some b) := by
  rw [List.getElem?_set] at h
  by_cases e : i = j
  · rw [if_pos e] at h
    by_cases l' : i < l.length
    · rw [if_pos l'] at h; cases h; exact .inl ⟨e.symm, rfl, l'⟩
    · rw [if_neg l'] at h; cases h
  · rw [if_neg e] at h; exact .inr ⟨fun z => e z.symm, h⟩
theorem Good.set (g : Good c S γ μ σ H) (i : Nat) {d : D} {v : V} (r : Rel c.K S H d v) : Good c S (γ.set i (.val d)) μ (σ.set i (some v)) H := by
  refine ⟨by rw [List.length_set, List.length_set]; exact g.len, fun j s e => ?_, fun j k o o' p e1 e2 e3 e4 => ?_, g.st, g.s0, g.ext, g.fr, g.md, g.kt⟩
  · rcases get_set _ _ _ _ _ e with ⟨rfl, rfl, hl⟩ | ⟨hn, e⟩
    · exact ⟨v, by rw [List.getElem?_set_self (by rw [← g.len]; exact hl)], r⟩
    · have h := g.sl j s e
      cases s with
      | un => trivial
      | val d => obtain ⟨w, e1, r⟩ := h; exact ⟨w, by rw [List.getElem?_set_ne (Ne.symm hn)]; exact e1, r⟩
      | own o => obtain ⟨p, e1, r⟩ := h; exact ⟨p, by rw [List.getElem?_set_ne (Ne.symm hn)]; exact e1, r⟩
  · rcases get_set _ _ _ _ _ e1 with ⟨_, z, _⟩ | ⟨hn, e1⟩
    · cases z
    rcases get_set _ _ _ _ _ e2 with ⟨_, z, _⟩ | ⟨hn2, e2⟩
    · cases z
    rw [List.getElem?_set_ne (Ne.symm hn)] at e3
    rw [List.getElem?_set_ne (Ne.symm hn2)] at e4
    exact g.ap j k o o' p e1 e2 e3 e4
/-- a slot forgotten -/
theorem Good.forget (g : Good c S γ μ σ H) (i : Nat) (x : Option V) : Good c S (γ.set i .un) μ (σ.set i x) H := by
  refine ⟨by rw [List.length_set, List.length_set]; exact g.len, fun j s e => ?_, fun j k o o' p e1 e2 e3 e4 => ?_, g.st, g.s0, g.ext, g.fr, g.md, g.kt⟩
  · rcases get_set _ _ _ _ _ e with ⟨rfl, rfl, hl⟩ | ⟨hn, e⟩
    · trivial
    · have h := g.sl j s e
      cases s with
      | un => trivial
      | val d => obtain ⟨w, e1, r⟩ := h; exact ⟨w, by rw [List.getElem?_set_ne (Ne.symm hn)]; exact e1, r⟩
      | own o => obtain ⟨p, e1, r⟩ := h; exact ⟨p, by rw [List.getElem?_set_ne (Ne.symm hn)]; exact e1, r⟩
  · rcases get_set _ _ _ _ _ e1 with ⟨_, z, _⟩ | ⟨hn, e1⟩
    · cases z
    rcases get_set _ _ _ _ _ e2 with ⟨_, z, _⟩ | ⟨hn2, e2⟩
    · cases z
    rw [List.getElem?_set_ne (Ne.symm hn)] at e3
    rw [List.getElem?_set_ne (Ne.symm hn2)] at e4
    exact g.ap j k o o' p e1 e2 e3 e4
theorem Good.wipe (g : Good c S γ μ σ H) : ∀ t : List Nat, Good c S (wipeG γ t) μ (L2.wipe σ t) H
  | [] => g
  | i :: t => (Good.wipe g t).forget i none
theorem set_self_un {γ : Ga} {i : Nat} : γ.set i .un = γ ∨ True := .inr trivial
/-- the slots alone forgotten (the state keeps what it has) -/
theorem Good.forgetG (g : Good c S γ μ σ H) (i : Nat) : Good c S (γ.set i .un) μ σ H := by
  refine ⟨by rw [List.length_set]; exact g.len, fun j s e => ?_, fun j k o o' p e1 e2 e3 e4 => ?_, g.st, g.s0, g.ext, g.fr, g.md, g.kt⟩
  · rcases get_set _ _ _ _ _ e with ⟨rfl, rfl, hl⟩ | ⟨hn, e⟩
    · trivial
    · exact g.sl j s e
  · rcases get_set _ _ _ _ _ e1 with ⟨_, z, _⟩ | ⟨hn, e1⟩
    · cases z
    rcases get_set _ _ _ _ _ e2 with ⟨_, z, _⟩ | ⟨hn2, e2⟩
    · cases z
    exact g.ap j k o o' p e1 e2 e3 e4
theorem Good.wipeG (g : Good c S γ μ σ H) : ∀ t : List Nat, Good c S (Bs.wipeG γ t) μ σ H
  | [] => g
  | i :: t => (Good.wipeG g t).forgetG i
end
/-- the same apart from t -/
def Fr (t : List Nat) (σ σ' : L2.St) : Prop := σ'.length = σ.length ∧ ∀ j, j ∉ t → σ'[j]? = σ[j]?
theorem Fr.refl {t : List Nat} {σ : L2.St} : Fr t σ σ := ⟨rfl, fun _ _ => rfl⟩
theorem wipe_get {σ : L2.St} {j : Nat} : ∀ {t : List Nat}, (L2.wipe σ t)[j]? = if j ∈ t then (if j < σ.length then some none else none) else σ[j]?
  | [] => by simp [L2.wipe]
  | i :: t => by
    unfold L2.wipe
    rw [List.getElem?_set, L2.wipe_length, wipe_get (t := t)]
    by_cases e : i = j
    · subst e; simp
    · rw [if_neg e]
      have : (j ∈ i :: t) ↔ j ∈ t := by simp [Ne.symm e]
      simp only [this]
theorem Fr.wipe {t u : List Nat} {σ σ' : L2.St} (h : Fr t σ σ') (hs : ∀ j, j ∈ t → j ∈ u) : L2.wipe σ' u = L2.wipe σ u := by
  apply List.ext_getElem?
  intro j
  rw [wipe_get, wipe_get, h.1]
  by_cases e : j ∈ u
  · rw [if_pos e, if_pos e]
  · rw [if_neg e, if_neg e]; exact h.2 j fun z => e (hs j z)
theorem wipe_wipe {t : List Nat} {σ : L2.St} : L2.wipe (L2.wipe σ t) t = L2.wipe σ t := by
  apply List.ext_getElem?
  intro j
  rw [wipe_get, wipe_get, L2.wipe_length]
  by_cases e : j ∈ t
  · rw [if_pos e, if_pos e]
  · rw [if_neg e, if_neg e]
def TGn (c : Ct) (t : List Nat) : TG := fun v σ H Q => ∃ S γ μ d γ', Good c S γ μ σ H ∧ Rel c.K S H d v ∧ setT γ t d = some γ' ∧ ∀ σ', Good c S γ' μ σ' H → Fr t σ σ' → Q σ' H
def foldT (γ : Ga) (is : List Nat) (ds : List D) : Ga := (is.zip ds).foldl (fun γ (p : Nat × D) => γ.set p.1 (.val p.2)) γ
def TGsn (c : Ct) (is : List Nat) : TGs := fun vs σ H Q => ∃ S γ μ ds, Good c S γ μ σ H ∧ Rels c.K S H ds vs ∧ is.length = ds.length ∧ ∀ σ', Good c S (foldT γ is ds) μ σ' H → Fr is σ σ' → Q σ' H
/-- a name that may be stored -/
structure Sto1 (X : Cx) (i : Nat) (x : Str) : Prop where
  ix : X.N[i]? = some x
  loc : Loc X.env.scope x
  fn : X.fn x = true ∨ X.env.scope.names.lookup x = some .local
def nmsIs (X : Cx) : List Nat → List Expr → Prop
  | [], es => es = []
  | i :: is, es => ∃ x p r, es = .Name x p :: r ∧ Sto1 X i x ∧ nmsIs X is r
section
variable {c : Ct} {X : Cx}
theorem _root_.L2.PG.imp {e : Expr} {t t' : TG} (h : PG X e t) (i : ∀ v σ H Q, t' v σ H Q → t v σ H Q) : PG X e t' := ⟨fun pins s σ H v u Q I r w => h.run pins s σ H v u Q I r (i v σ H Q w)⟩
theorem _root_.L2.PGs.imp {e : List Expr} {t t' : TGs} (h : PGs X e t) (i : ∀ v σ H Q, t' v σ H Q → t v σ H Q) : PGs X e t' := ⟨fun pins s σ H v u Q I r w => h.run pins s σ H v u Q I r (i v σ H Q w)⟩
theorem fr_set {σ : L2.St} {i : Nat} {x : Option V} : Fr [i] σ (σ.set i x) := ⟨List.length_set .., fun j h => by rw [List.getElem?_set_ne (fun e => h (by rw [e]; exact List.mem_cons_self))]⟩
theorem Fr.trans {t u : List Nat} {σ σ1 σ2 : L2.St} (a : Fr t σ σ1) (b : Fr u σ1 σ2) : Fr (t ++ u) σ σ2 := ⟨b.1.trans a.1, fun j h => by
  rw [List.mem_append, not_or] at h; rw [b.2 j h.2, a.2 j h.1]⟩
theorem sndG_name (hN : X.N.Nodup) {i : Nat} {x : Str} {p : Pos} (h : Sto1 X i x) : PG X (.Name x p) (TGn c [i]) := by
  refine (pg_name hN h.ix h.loc h.fn).imp fun v σ H Q w => ?_
  obtain ⟨S, γ, μ, d, γ', g, r, e, q⟩ := w
  cases e
  exact q _ (g.set i r) fr_set
theorem sndGs (hN : X.N.Nodup) : ∀ {is : List Nat} {es : List Expr}, nmsIs X is es → PGs X es (TGsn c is) ∧ (assignEach es X.env).length = is.length ∧ (assignEach es X.env).findIdx? (·.1) = none
  | [], es, h => by
    cases (show es = [] from h)
    refine ⟨pgs_nil.imp fun vs σ H Q w => ?_, rfl, rfl⟩
    obtain ⟨S, γ, μ, ds, g, r, l, q⟩ := w
    cases ds with
    | nil => cases (show vs = [] from r); exact ⟨rfl, q σ g Fr.refl⟩
    | cons _ _ => cases l
  | i :: is, es, h => by
    obtain ⟨x, p, r, rfl, st, hr⟩ := h
    obtain ⟨h1, h2, h3⟩ := sndGs hN hr
    refine ⟨(pgs_cons (pg_name hN st.ix st.loc st.fn) h1 rfl).imp fun vs σ H Q w => ?_, ?_, ?_⟩
    · obtain ⟨S, γ, μ, ds, g, r, l, q⟩ := w
      cases ds with
      | nil => cases l
      | cons d ds =>
        obtain ⟨v, ws, rfl, r1, r2⟩ := r
        refine ⟨v, ws, rfl, S, γ.set i (.val d), μ, ds, g.set i r1, r2, by simpa using l, fun σ' g' f => q σ' g' ?_⟩
        exact (fr_set (i := i)).trans f
    · show (assignEach r X.env).length + 1 = is.length + 1
      rw [h2]
    · have hc : assignEach (.Name x p :: r) X.env = (false, assign (.Name x p) X.env) :: assignEach r X.env := rfl
      rw [hc, List.findIdx?_cons, h3]
      rfl
theorem sndG_tup (hK : X.K = c.K) (hc : X.calm = true) (hN : X.N.Nodup) {is : List Nat} {es : List Expr} {k : Nat} {p : Pos} (h : nmsIs X is es) (h2 : 2 ≤ is.length) : PG X (.Tuple es k p) (TGn c is) := by
  obtain ⟨h1, e1, e2⟩ := sndGs (c := c) hN h
  refine (pg_tup hc h1 e1 e2).imp fun v σ H Q w => ?_
  obtain ⟨S, γ, μ, d, γ', g, r, e, q⟩ := w
  match is, h2 with
  | i :: j :: is', _ =>
    cases d with
    | tup xs =>
      obtain ⟨a, vs, rfl, ht, r⟩ := r
      have e' : (if (i :: j :: is').length = xs.length then some (foldT γ (i :: j :: is') xs) else none) = some γ' := e
      by_cases l : (i :: j :: is').length = xs.length
      · rw [if_pos l] at e'; cases e'
        exact ⟨a, vs, rfl, by rw [hK]; exact ht.sq, by rw [r.length, l], S, γ, μ, xs, g, r, l, q⟩
      · rw [if_neg l] at e'; cases e'
    | _ => cases e
end

/-! ### sources -/
def Gd (c : Ct) (J : It) (ds : List D) (S : Sa) (H : Hp) : Prop := (∀ i, i < ds.length → J.go i H) ∧ J.stop ds.length H ∧ ∀ i x H', i < ds.length → J.yld i H x H' → (H' = H ∨ ∃ T u, H T = none ∧ H' = upd H T u) ∧ ∃ d, ds[i]? = some d ∧ Rel c.K S H' d x
def WkE (c : Ct) (J : It) (ds : List D) (S : Sa) (μ : Sto) (H : Hp) : Prop := ∀ S' μ' H', Step S μ H S' μ' H' → StoOk c.K S' μ' H' → Gd c J ds S' H'
def WkS (c : Ct) (J : It) (ds : List D) (S : Sa) (H : Hp) : Prop := ∀ S' H', Kp S S' H H' → (∀ a, S' a → H' a ≠ none) → Gd c J ds S' H'
def Wk (c : Ct) (st : Bool) (J : It) (ds : List D) (S : Sa) (μ : Sto) (H : Hp) : Prop := match st with
  | true => WkS c J ds S H
  | false => WkE c J ds S μ H
def TIn (c : Ct) (st : Bool) (r : Ga → Sto → R (List D)) : TI := fun σ H Q => ∃ S γ μ, Good c S γ μ σ H ∧ (r γ μ).All (fun ds μ' => ∀ S' J H', Good c S' γ μ' σ H' → Step S μ H S' μ' H' → Wk c st J ds S' μ' H' → Q J H') c.V
theorem Wk.weak {c : Ct} {st : Bool} {J : It} {ds : List D} {S : Sa} {μ : Sto} {H : Hp} (h : Wk c st J ds S μ H) (ok : ∀ a, Dm μ a → S a) : WkE c J ds S μ H := by
  cases st with
  | false => exact h
  | true => exact fun S' μ' H' s o => h S' H' (s.kp ok) o.sd
theorem _root_.L2.PI.imp {X : Cx} {tg e : Expr} {t t' : TI} (h : PI X tg e t) (i : ∀ σ H Q, t' σ H Q → t σ H Q) : PI X tg e t' := ⟨fun pins s σ H Q I w => h.run pins s σ H Q I (i σ H Q w)⟩
theorem src_of {K : PySem.W.Frag} {st : Bool} {T S : Sa} {H : Hp} {d : D} {v : V} {xs : List D} (h : Rl K st T S H d v) (e : items d = some xs) (ht : ∀ a, T a → S a) : ∃ k vs, Sk.val k v ∧ Sk.is K H k vs ∧ Rels K S H xs vs := by
  have h := Rl.weak h ht
  cases d with
  | lst ys => cases e; obtain ⟨a, vs, rfl, q, r⟩ := rw_lst h; exact ⟨.lst a, vs, rfl, q, r⟩
  | tup ys => cases e; obtain ⟨a, vs, rfl, q, r⟩ := rw_tup h; exact ⟨.tup a, vs, rfl, q, r⟩
  | str s => cases e; obtain ⟨rfl, _, hc⟩ := rw_str h; exact ⟨.txt ⟨s.toArray⟩, _, rfl, rfl, chars_rel s hc⟩
  | _ => cases e
/-- the source's own kind stays -/
theorem sk_same {K : PySem.W.Frag} {st : Bool} {T S T' S' : Sa} {H H' : Hp} {d : D} {v : V} {xs : List D} {k : Sk} {vs : List V} (h : Rl K st T S H d v) (h' : Rl K st T' S' H' d v) (e : items d = some xs) (ht' : ∀ a, T' a → S' a) (hv : Sk.val k v) (hk : Sk.is K H k vs) (ht : ∀ a, T a → S a)
    (hd : match d, k with | .lst _, .lst _ => True | .tup _, .tup _ => True | .str _, .txt _ => True | _, _ => False) : ∃ vs', Sk.is K H' k vs' ∧ Rels K S' H' xs vs' := by
  have h' := Rl.weak h' ht'
  cases d with
  | lst ys =>
    cases e
    cases k with
    | lst a => cases (show v = .ref a from hv); obtain ⟨a', vs', z, q, r⟩ := rw_lst h'; cases z; exact ⟨vs', q, r⟩
    | _ => exact hd.elim
  | tup ys =>
    cases e
    cases k with
    | tup a => cases (show v = .ref a from hv); obtain ⟨a', vs', z, q, r⟩ := rw_tup h'; cases z; exact ⟨vs', q, r⟩
    | _ => exact hd.elim
  | str s =>
    cases e
    cases k with
    | txt x => obtain ⟨z, _, hc⟩ := rw_str h'; cases (show v = .str x from hv); cases z; exact ⟨_, rfl, chars_rel s hc⟩
    | _ => exact hd.elim
  | _ => cases e
theorem src_of' {K : PySem.W.Frag} {st : Bool} {T S : Sa} {H : Hp} {d : D} {v : V} {xs : List D} (h : Rl K st T S H d v) (e : items d = some xs) (ht : ∀ a, T a → S a) : ∃ k, Sk.val k v ∧ (∃ vs, Sk.is K H k vs) ∧ ∀ T' S' H', Rl K st T' S' H' d v → (∀ a, T' a → S' a) → ∃ vs', Sk.is K H' k vs' ∧ Rels K S' H' xs vs' := by
  have h0 := Rl.weak h ht
  cases d with
  | lst ys =>
    obtain ⟨a, vs, ev, q, r⟩ := rw_lst h0
    exact ⟨.lst a, ev, ⟨vs, q⟩, fun T' S' H' h' ht' => sk_same h h' e ht' (k := .lst a) ev q ht trivial⟩
  | tup ys =>
    obtain ⟨a, vs, ev, q, r⟩ := rw_tup h0
    exact ⟨.tup a, ev, ⟨vs, q⟩, fun T' S' H' h' ht' => sk_same h h' e ht' (k := .tup a) ev q ht trivial⟩
  | str s =>
    obtain ⟨ev, _, hc⟩ := rw_str h0
    exact ⟨.txt ⟨s.toArray⟩, ev, ⟨_, rfl⟩, fun T' S' H' h' ht' => sk_same h h' e ht' (k := .txt ⟨s.toArray⟩) ev rfl ht trivial⟩
  | _ => cases e
theorem gd_walk {c : Ct} {J : It} {ds : List D} {S : Sa} {H : Hp} {vs : List V} {G : Hp → Prop} (w : Walk J vs.length G (YAt vs)) (hg : G H) (r : Rels c.K S H ds vs) : Gd c J ds S H := by
  refine ⟨fun i hi => w.goes i H (by rw [r.length]; exact hi) hg, by rw [← r.length]; exact w.stops H hg, fun i x H' hi y => ?_⟩
  obtain ⟨rfl, e⟩ := w.yields i H x H' (by rw [r.length]; exact hi) hg y
  obtain ⟨d, e1, q⟩ := r.get' e
  exact ⟨.inl rfl, d, e1, q⟩
theorem pair_rel {K : PySem.W.Frag} {S : Sa} {H : Hp} {d e : D} {x y : V} {T : Addr} (hT : H T = none) (hS : ¬ S T) (r : Rel K S H d x) (q : Rel K S H e y) : Rel K S (upd H T (.tup [x, y])) (.tup [d, e]) (.ref T) := by
  have k : Kp S S H (upd H T (.tup [x, y])) := ⟨fun a u h _ => by rw [upd_ne (ne_of_none h hT)]; exact h, fun a h => .inl h⟩
  exact ⟨T, [x, y], rfl, .inl ⟨.inl upd_same, hS⟩, x, [y], rfl, Rel.kp k _ _ r, y, [], rfl, Rel.kp k _ _ q, rfl⟩
theorem enumL_get : ∀ {xs : List D} {k i : Nat}, (enumL k xs)[i]? = (xs[i]?).map fun d => .tup [.int ((k + i : Nat) : Int), d]
  | [], k, i => by simp [enumL]
  | x :: r, k, 0 => by simp [enumL]
  | x :: r, k, i + 1 => by
    simp only [enumL, List.getElem?_cons_succ]
    rw [enumL_get (xs := r)]
    have : k + 1 + i = k + (i + 1) := by omega
    rw [this]
theorem enumL_len : ∀ {xs : List D} {k : Nat}, (enumL k xs).length = xs.length
  | [], k => rfl
  | x :: r, k => by simp [enumL, enumL_len (xs := r)]
theorem zipL_get : ∀ {xs ys : List D} {i : Nat} {x y : D}, xs[i]? = some x → ys[i]? = some y → (zipL xs ys)[i]? = some (.tup [x, y])
  | [], _, _, _, _, h, _ => by simp at h
  | _ :: _, [], _, _, _, _, h => by simp at h
  | x :: xs, y :: ys, 0, _, _, h, h' => by simp at h h'; subst h h'; rfl
  | x :: xs, y :: ys, i + 1, _, _, h, h' => by simp at h h'; simpa [zipL] using zipL_get h h'
theorem zipL_len : ∀ {xs ys : List D}, (zipL xs ys).length = min xs.length ys.length
  | [], _ => by simp [zipL]
  | _ :: _, [] => by simp [zipL]
  | x :: xs, y :: ys => by simp [zipL, zipL_len (xs := xs) (ys := ys)]
theorem gd_enum {c : Ct} {J : It} {ds : List D} {S : Sa} {H : Hp} {vs : List V} {G : Hp → Prop} (w : Walk J vs.length G (YPair (fun i => some (.int (i : Nat))) (fun i => vs[i]?))) (hg : G H) (hd : ∀ a, S a → H a ≠ none) (r : Rels c.K S H ds vs) : Gd c J (enumL 0 ds) S H := by
  unfold Gd
  rw [enumL_len]
  refine ⟨fun i hi => w.goes i H (by rw [r.length]; exact hi) hg, by rw [← r.length]; exact w.stops H hg, fun i x H' hi y => ?_⟩
  obtain ⟨T, a, b, rfl, hT, rfl, e1, e2⟩ := w.yields i H x H' (by rw [r.length]; exact hi) hg y
  cases e1
  obtain ⟨d, e3, q⟩ := r.get' e2
  refine ⟨.inr ⟨T, _, hT, rfl⟩, _, by rw [enumL_get, e3]; rfl, ?_⟩
  rw [Nat.zero_add]
  exact pair_rel hT (fun z => hd T z hT) rfl q
theorem gd_zip {c : Ct} {J : It} {ds es : List D} {S : Sa} {H : Hp} {vs ws : List V} {G : Hp → Prop} (w : Walk J (min vs.length ws.length) G (YPair (fun i => vs[i]?) (fun i => ws[i]?))) (hg : G H) (hd : ∀ a, S a → H a ≠ none) (r : Rels c.K S H ds vs) (r' : Rels c.K S H es ws) : Gd c J (zipL ds es) S H := by
  unfold Gd
  rw [zipL_len, ← r.length, ← r'.length]
  refine ⟨fun i hi => w.goes i H hi hg, w.stops H hg, fun i x H' hi y => ?_⟩
  obtain ⟨T, a, b, rfl, hT, rfl, e1, e2⟩ := w.yields i H x H' hi hg y
  obtain ⟨d, e3, q⟩ := r.get' e1
  obtain ⟨d', e3', q'⟩ := r'.get' e2
  exact ⟨.inr ⟨T, _, hT, rfl⟩, _, zipL_get e3 e3', pair_rel hT (fun z => hd T z hT) q q'⟩
theorem itemsR_some {x : D} {μ : Sto} {Q : List D → Sto → Prop} {W : Xc → Ga → Sto → Prop} (h : (itemsR x μ).All Q W) : ∃ xs, items x = some xs ∧ Q xs μ := by
  unfold itemsR at h
  cases e : items x with
  | none => rw [e] at h; exact h.elim
  | some xs => rw [e] at h; exact ⟨xs, rfl, h⟩
section
variable {c : Ct} {X : Cx} {tg a b : Expr} {sa sb st : Bool} {ra rb : Ga → Sto → R D} {pos : Pos}
theorem wk_of {J : It} {ds : List D} {S : Sa} {μ : Sto} {H : Hp} {d : D} {v : V} (g : StoOk c.K S μ H) (r : Rl c.K st (Dm μ) S H d v) (h : ∀ T' S' H', Rl c.K st T' S' H' d v → (∀ a, T' a → S' a) → (∀ a, S' a → H' a ≠ none) → Gd c J ds S' H') : Wk c st J ds S μ H := by
  cases st with
  | true => exact fun S' H' k hd => h (fun _ => False) S' H' (Rel.kp k d v r) (fun _ z => z.elim) hd
  | false => exact fun S' μ' H' s o => h (Dm μ') S' H' (RelW.kp (s.kp g.dm) s.kpD r) o.dm o.sd
theorem sndI_keys (ha : PE X a (TEn c true ra)) : PI X tg a (TIn c true fun γ μ => ((ra γ μ).bind keysR).bind itemsR) := by
  refine (pi_keys ha).imp fun σ H Q w => ?_
  obtain ⟨S, γ, μ, g, h⟩ := w
  rw [R.All_bind, R.All_bind] at h
  refine ⟨S, γ, μ, g, h.mono (fun d μ1 h => ?_) fun _ _ _ w => w⟩
  intro S1 v H1 g1 s1 r1
  cases d with
  | dic kvs =>
    have h : ∀ S' J H', Good c S' γ μ1 σ H' → Step S μ H S' μ1 H' → Wk c true J (kvs.map (·.1)) S' μ1 H' → Q J H' := h
    obtain ⟨b, ps, rfl, ⟨od, hb⟩, nS, rp⟩ := r1
    refine ⟨b, od, rfl, .inl ⟨ps, hb, h S1 _ H1 g1 s1 fun S' H' k hd' => ?_⟩⟩
    have hb' := k.keep b _ hb nS
    have len := relP_len rp
    refine ⟨fun i hi => ⟨hb', by rw [len]; simpa using hi⟩, ⟨hb', by rw [len]; simp⟩, fun i x H2 hi y => ?_⟩
    obtain ⟨rfl, kk, vv, e, rfl⟩ := y
    obtain ⟨d, e2, e3, e4, e5, _⟩ := relP_get rp e
    exact ⟨.inl rfl, d, by rw [List.getElem?_map, e3]; rfl, key_rel e4 e5⟩
  | _ => exact h.elim
theorem sndI_src (hK : X.K = c.K) (ha : PE X a (TEn c st ra)) : PI X tg a (TIn c st fun γ μ => (ra γ μ).bind itemsR) := by
  refine (pi_src ha).imp fun σ H Q w => ?_
  obtain ⟨S, γ, μ, g, h⟩ := w
  rw [R.All_bind] at h
  refine ⟨S, γ, μ, g, h.mono (fun d μ1 h => ?_) fun _ _ _ w => w⟩
  intro S1 v H1 g1 s1 r1
  obtain ⟨xs, e, h⟩ := itemsR_some h
  obtain ⟨k, hv, ⟨vs, hk⟩, hf⟩ := src_of' r1 e g1.st.dm
  refine ⟨k, vs, hv, by rw [hK]; exact hk, h S1 _ H1 g1 s1 (wk_of g1.st r1 fun T' S' H' r' ht hd => ?_)⟩
  obtain ⟨vs', hk', rr⟩ := hf T' S' H' r' ht
  exact gd_walk (walkS (K := X.K) (k := k) (xs := vs')) (by rw [hK]; exact hk') rr
theorem sndI_enu (hK : X.K = c.K) {p tpos : Pos} {elts : List Expr} {kk : Nat} (hg : Gl X "enumerate") (hm : X.mg "enumerate" = none) (ha : PE X a (TEn c st ra)) (hs : nst a = true) :
    PI X (.Tuple elts kk tpos) (.Call (.Name "enumerate" p) [a] [] pos) (TIn c st fun γ μ => ((ra γ μ).bind fun x μ => ofO ((items x).map fun xs => .lst (enumL 0 xs)) μ).bind itemsR) := by
  refine (pi_enumG hg hm ha (star_cons hs)).imp fun σ H Q w => ?_
  obtain ⟨S, γ, μ, g, h⟩ := w
  rw [R.All_bind, R.All_bind] at h
  refine ⟨S, γ, μ, g, h.mono (fun d μ1 h => ?_) fun _ _ _ w => w⟩
  intro S1 v H1 g1 s1 r1
  obtain ⟨z, e, h⟩ := ofO_some h
  obtain ⟨xs, ee, rfl⟩ := Option.map_eq_some_iff.mp e
  obtain ⟨k, hv, ⟨vs, hk⟩, hf⟩ := src_of' r1 ee g1.st.dm
  refine ⟨k, vs, hv, by rw [hK]; exact hk, h S1 _ H1 g1 s1 (wk_of g1.st r1 fun T' S' H' r' ht hd => ?_)⟩
  obtain ⟨vs', hk', rr⟩ := hf T' S' H' r' ht
  exact gd_enum (walkE (K := X.K) (k := k) (xs := vs')) (by rw [hK]; exact hk') hd rr
theorem sndI_zip (hK : X.K = c.K) {p tpos : Pos} {elts : List Expr} {kk : Nat} (hg : Gl X "zip") (hm : X.mg "zip" = none) (ha : PE X a (TEn c st ra)) (hb : PE X b (TEn c st rb)) (hs : nst a = true) (hs2 : nst b = true) :
    PI X (.Tuple elts kk tpos) (.Call (.Name "zip" p) [a, b] [] pos) (TIn c st fun γ μ => ((ra γ μ).bind fun x μ => (rb γ μ).bind fun y μ => match items x, items y with
      | some xs, some ys => R.ok (.lst (zipL xs ys)) μ
      | _, _ => .fail).bind itemsR) := by
  refine (pi_zipG hg hm ha hb (star_cons hs) (star_cons hs2) (star_any (by simp [hs2]))).imp fun σ H Q w => ?_
  obtain ⟨S, γ, μ, g, h⟩ := w
  rw [R.All_bind, R.All_bind] at h
  refine ⟨S, γ, μ, g, h.mono (fun d μ1 h => ?_) fun _ _ _ w => w⟩
  intro S1 v H1 g1 s1 r1
  rw [R.All_bind] at h
  refine ⟨S1, γ, μ1, g1, h.mono (fun e μ2 h => ?_) fun _ _ _ w => w⟩
  intro S2 w H2 g2 s2 r2
  have r1' := Rl.kp r1 s2 g1.st.dm
  cases e1 : items d with
  | none => rw [e1] at h; exact h.elim
  | some xs =>
    cases e2 : items e with
    | none => rw [e1, e2] at h; exact h.elim
    | some ys =>
      rw [e1, e2] at h
      obtain ⟨k, hv, ⟨vs, hk⟩, hf⟩ := src_of' r1' e1 g2.st.dm
      obtain ⟨k', hv', ⟨vs', hk'⟩, hf'⟩ := src_of' r2 e2 g2.st.dm
      refine ⟨k, k', vs, vs', hv, hv', by rw [hK]; exact hk, by rw [hK]; exact hk', h S2 _ H2 g2 (s1.trans s2) ?_⟩
      have fin : ∀ T' S' H', Rl c.K st T' S' H' d v → Rl c.K st T' S' H' e w → (∀ a, T' a → S' a) → (∀ a, S' a → H' a ≠ none) → Gd c (ItzG X.K k k') (zipL xs ys) S' H' := by
        intro T' S' H' q1 q2 ht hd
        obtain ⟨us, hu, rr⟩ := hf T' S' H' q1 ht
        obtain ⟨us', hu', rr'⟩ := hf' T' S' H' q2 ht
        exact gd_zip (walkZ (K := X.K) (k1 := k) (k2 := k') (xs := us) (ys := us')) ⟨by rw [hK]; exact hu, by rw [hK]; exact hu'⟩ hd rr rr'
      cases st with
      | true => exact fun S' H' kp hd => fin (fun _ => False) S' H' (Rel.kp kp d v r1') (Rel.kp kp e w r2) (fun _ z => z.elim) hd
      | false => exact fun S' μ' H' s o => fin (Dm μ') S' H' (RelW.kp (s.kp g2.st.dm) s.kpD r1') (RelW.kp (s.kp g2.st.dm) s.kpD r2) o.dm o.sd
theorem gd_range {lo : Int} {hi : Int} {S : Sa} {H : Hp} : Gd c (Itr lo (hi - lo).toNat) (rangeL lo hi) S H := by
  have hl : (rangeL lo hi).length = (hi - lo).toNat := by unfold rangeL; rw [List.length_map, List.length_range]
  unfold Gd
  rw [hl]
  refine ⟨fun i h => h, Nat.le_refl _, fun i x H' hi y => ?_⟩
  obtain ⟨rfl, rfl⟩ := y
  refine ⟨.inl rfl, .int (lo + i), ?_, rfl⟩
  unfold rangeL
  rw [List.getElem?_map, List.getElem?_range hi]
  rfl
theorem gd_rangeC {lo d : Int} {n : Nat} {S : Sa} {H : Hp} : Gd c (Itc lo d n) (rangeC lo d n) S H := by
  have hl : (rangeC lo d n).length = n := by unfold rangeC; rw [List.length_map, List.length_range]
  unfold Gd
  rw [hl]
  refine ⟨fun i h => h, Nat.le_refl _, fun i x H' hi y => ?_⟩
  obtain ⟨rfl, rfl⟩ := y
  refine ⟨.inl rfl, .int (lo + (i : Nat) * d), ?_, rfl⟩
  unfold rangeC
  rw [List.getElem?_map, List.getElem?_range hi]
  rfl
theorem sndI_rng3 {p : Pos} {b2 : Expr} {sb2 : Bool} {rb2 : Ga → Sto → R D} (hg : Gl X "range") (hm : X.mg "range" = none) (ha : PE X a (TEn c sa ra)) (hb : PE X b (TEn c sb rb)) (hb2 : PE X b2 (TEn c sb2 rb2)) (hs : nst a = true) (hs2 : nst b = true) (hs3 : nst b2 = true) :
    PI X tg (.Call (.Name "range" p) [a, b, b2] [] pos) (TIn c st fun γ μ => ((ra γ μ).bind fun x μ => (rb γ μ).bind fun y μ => (rb2 γ μ).bind fun z μ => ofO (rangeD [x, y, z]) μ).bind itemsR) := by
  refine (pi_range3 hg hm (pa_cons (PEweak ha) (pa_cons (PEweak hb) (pa_cons (PEweak hb2) pa_nil (star_cons hs3)) (star_cons hs2)) (star_cons hs)) (star_cons hs) (star_any (by simp [hs2, hs3]))).imp fun σ H Q w => ?_
  obtain ⟨S, γ, μ, g, h⟩ := w
  rw [R.All_bind, R.All_bind] at h
  refine ⟨S, γ, μ, g, h.mono (fun d μ1 h => ?_) fun _ _ _ w => w⟩
  intro S1 v H1 g1 s1 r1
  rw [R.All_bind] at h
  refine ⟨S1, γ, μ1, g1, h.mono (fun e μ2 h => ?_) fun _ _ _ w => w⟩
  intro S2 w H2 g2 s2 r2
  rw [R.All_bind] at h
  refine ⟨S2, γ, μ2, g2, h.mono (fun f μ3 h => ?_) fun _ _ _ w => w⟩
  intro S3 w3 H3 g3 s3 r3
  obtain ⟨z, e3, h⟩ := ofO_some (μ := μ3) (o := rangeD [d, e, f]) h
  cases d with
  | int i =>
    cases e with
    | int j =>
      cases f with
      | int k =>
        have ev : v = .int i := r1
        have ew : w = .int j := r2
        have ex : w3 = .int k := r3
        subst ev ew ex
        have e' : (if rgB i j k then some (D.lst (rangeC i k (PySem.Builtin.Range.rangeSize i j k).toNat)) else none) = some z := e3
        by_cases hb : rgB i j k = true
        · rw [if_pos hb] at e'; cases e'
          simp only [rgB, Bool.and_eq_true, decide_eq_true_eq] at hb
          obtain ⟨⟨⟨q1, q2⟩, q3⟩, q4⟩ := hb
          refine ⟨i, j, k, (PySem.Builtin.Range.rangeSize i j k).toNat, rfl, ⟨q1, q2, q3, by omega⟩, h S3 _ H3 g3 ((s1.trans s2).trans s3) ?_⟩
          have := @gd_rangeC c i k (PySem.Builtin.Range.rangeSize i j k).toNat
          cases st with
          | true => exact fun S' H' _ _ => this
          | false => exact fun S' μ' H' _ _ => this
        · rw [if_neg hb] at e'; cases e'
      | _ => cases e3
    | _ => cases e3
  | _ => cases e3
theorem sndI_rng1 {p : Pos} (hg : Gl X "range") (hm : X.mg "range" = none) (ha : PE X a (TEn c sa ra)) (hs : nst a = true) :
    PI X tg (.Call (.Name "range" p) [a] [] pos) (TIn c st fun γ μ => ((ra γ μ).bind fun x μ => ofO (rangeD [x]) μ).bind itemsR) := by
  refine (pi_range1 hg hm (pa_cons (PEweak ha) pa_nil (star_cons hs)) (star_cons hs)).imp fun σ H Q w => ?_
  obtain ⟨S, γ, μ, g, h⟩ := w
  rw [R.All_bind, R.All_bind] at h
  refine ⟨S, γ, μ, g, h.mono (fun d μ1 h => ?_) fun _ _ _ w => w⟩
  intro S1 v H1 g1 s1 r1
  obtain ⟨z, e, h⟩ := ofO_some (μ := μ1) (o := rangeD [d]) h
  cases d with
  | int j =>
    have ev : v = .int j := r1
    subst ev
    have e' : (if bnd j then some (D.lst (rangeL 0 j)) else none) = some z := e
    by_cases hb : bnd j = true
    · rw [if_pos hb] at e'; cases e'
      simp only [bnd, Bool.and_eq_true, decide_eq_true_eq] at hb
      refine ⟨j, rfl, hb.1, hb.2, h S1 _ H1 g1 s1 ?_⟩
      have := @gd_range c 0 j
      rw [Int.sub_zero] at this
      cases st with
      | true => exact fun S' H' _ _ => this
      | false => exact fun S' μ' H' _ _ => this
    · rw [if_neg hb] at e'; cases e'
  | _ => cases e
theorem sndI_rng2 {p : Pos} (hg : Gl X "range") (hm : X.mg "range" = none) (ha : PE X a (TEn c sa ra)) (hb : PE X b (TEn c sb rb)) (hs : nst a = true) (hs2 : nst b = true) :
    PI X tg (.Call (.Name "range" p) [a, b] [] pos) (TIn c st fun γ μ => ((ra γ μ).bind fun x μ => (rb γ μ).bind fun y μ => ofO (rangeD [x, y]) μ).bind itemsR) := by
  refine (pi_range2 hg hm (pa_cons (PEweak ha) (pa_cons (PEweak hb) pa_nil (star_cons hs2)) (star_cons hs)) (by rw [star_cons hs, star_cons hs2]; rfl) (star_cons hs2)).imp fun σ H Q w => ?_
  obtain ⟨S, γ, μ, g, h⟩ := w
  rw [R.All_bind, R.All_bind] at h
  refine ⟨S, γ, μ, g, h.mono (fun d μ1 h => ?_) fun _ _ _ w => w⟩
  intro S1 v H1 g1 s1 r1
  rw [R.All_bind] at h
  refine ⟨S1, γ, μ1, g1, h.mono (fun e μ2 h => ?_) fun _ _ _ w => w⟩
  intro S2 w H2 g2 s2 r2
  obtain ⟨z, e3, h⟩ := ofO_some (μ := μ2) (o := rangeD [d, e]) h
  cases d with
  | int i =>
    cases e with
    | int j =>
      have ev : v = .int i := r1
      have ew : w = .int j := r2
      subst ev ew
      have e' : (if bnd i && bnd j then some (D.lst (rangeL i j)) else none) = some z := e3
      by_cases hb : (bnd i && bnd j) = true
      · rw [if_pos hb] at e'; cases e'
        simp only [bnd, Bool.and_eq_true, decide_eq_true_eq] at hb
        refine ⟨i, j, rfl, ⟨hb.1.1, hb.1.2, hb.2.1, hb.2.2⟩, h S2 _ H2 g2 (s1.trans s2) ?_⟩
        have := @gd_range c i j
        cases st with
        | true => exact fun S' H' _ _ => this
        | false => exact fun S' μ' H' _ _ => this
      · rw [if_neg hb] at e'; cases e'
    | _ => cases e3
  | _ => cases e3
end
end Bs
/-! Bs: comprehensions. -/
namespace Bs
open PySem L2
theorem wipeG_own {γ : Ga} {i : Nat} {o : Ob} : ∀ {t : List Nat}, (wipeG γ t)[i]? = some (.own o) → i ∉ t ∧ γ[i]? = some (.own o)
  | [], h => ⟨by simp, h⟩
  | j :: t, h => by
    unfold wipeG at h
    rcases get_set _ _ _ _ _ h with ⟨_, z, _⟩ | ⟨hn, e⟩
    · cases z
    · obtain ⟨h1, h2⟩ := wipeG_own e
      exact ⟨by simp [hn, h1], h2⟩
theorem foldT_own {i : Nat} {o : Ob} : ∀ {is : List Nat} {ds : List D} {γ : Ga}, is.length = ds.length → (foldT γ is ds)[i]? = some (.own o) → i ∉ is ∧ γ[i]? = some (.own o)
  | [], _, _, _, h => ⟨by simp, h⟩
  | _ :: _, [], _, l, _ => by cases l
  | j :: is, d :: ds, γ, l, h => by
    have h' : (foldT (γ.set j (.val d)) is ds)[i]? = some (.own o) := h
    obtain ⟨h1, h2⟩ := foldT_own (by simpa using l) h'
    rcases get_set _ _ _ _ _ h2 with ⟨_, z, _⟩ | ⟨hn, e⟩
    · cases z
    · exact ⟨by simp [hn, h1], e⟩
theorem setT_own {γ γ' : Ga} {t : List Nat} {d : D} {i : Nat} {o : Ob} (e : setT γ t d = some γ') (h : γ'[i]? = some (.own o)) : i ∉ t ∧ γ[i]? = some (.own o) := by
  match t, d, e with
  | [j], d, e =>
    cases e
    rcases get_set _ _ _ _ _ h with ⟨_, z, _⟩ | ⟨hn, e⟩
    · cases z
    · exact ⟨by simp [hn], e⟩
  | [], .tup xs, e =>
    have e' : (if ([] : List Nat).length = xs.length then some (foldT γ [] xs) else none) = some γ' := e
    by_cases l : ([] : List Nat).length = xs.length
    · rw [if_pos l] at e'; cases e'; exact foldT_own l h
    · rw [if_neg l] at e'; cases e'
  | j :: k :: r, .tup xs, e =>
    have e' : (if (j :: k :: r).length = xs.length then some (foldT γ (j :: k :: r) xs) else none) = some γ' := e
    by_cases l : (j :: k :: r).length = xs.length
    · rw [if_pos l] at e'; cases e'; exact foldT_own l h
    · rw [if_neg l] at e'; cases e'
section
variable (c : Ct) (γ : Ga) (σ : L2.St) (L : Addr) (S1 : Sa) (μ1 : Sto) (H1 : Hp)
/-- while a list is built at L -/
structure Lp (S : Sa) (μ : Sto) (H : Hp) (acc : List D) : Prop where
  g : Good c S γ μ σ H
  s : Step S1 μ1 H1 S μ H
  sL : S L
  mL : μ L = none
  on : ∀ (i : Nat) ob q, γ[i]? = some (.own ob) → σ[i]? = some (some (V.ref q)) → q ≠ L
  hL : ∃ vs, H L = some (.lst vs) ∧ Rels c.K S H acc vs
end
section
variable {c : Ct} {γ γ' : Ga} {σ σ' : L2.St} {L : Addr} {S1 S S' : Sa} {μ1 μ μ' : Sto} {H1 H H' : Hp} {acc : List D}
theorem Lp.there (l : Lp c γ σ L S1 μ1 H1 S μ H acc) : H L ≠ none := by obtain ⟨vs, e, _⟩ := l.hL; rw [e]; exact fun z => nomatch z
theorem Lp.step (l : Lp c γ σ L S1 μ1 H1 S μ H acc) (s : Step S μ H S' μ' H') (ok : StoOk c.K S' μ' H') : Lp c γ σ L S1 μ1 H1 S' μ' H' acc := by
  obtain ⟨vs, e, r⟩ := l.hL
  refine ⟨l.g.step s ok, l.s.trans s, s.sup L l.sL, ?_, l.on, vs, s.keep L _ e l.mL, r.kp (s.kp l.g.st.dm)⟩
  cases e2 : μ' L with
  | none => rfl
  | some ob =>
    rcases s.dsub L (by rw [e2]; exact fun z => nomatch z) with z | z
    · exact absurd l.mL z
    · exact absurd z l.there
/-- another view of the slots -/
theorem Lp.view (l : Lp c γ σ L S1 μ1 H1 S μ H acc) (g : Good c S γ' μ σ' H) (on : ∀ (i : Nat) ob q, γ'[i]? = some (.own ob) → σ'[i]? = some (some (V.ref q)) → q ≠ L) : Lp c γ' σ' L S1 μ1 H1 S μ H acc := ⟨g, l.s, l.sL, l.mL, on, l.hL⟩
theorem Lp.put (l : Lp c γ σ L S1 μ1 H1 S μ H acc) (h0 : c.H0 L = none) (h1 : H1 L = none) {d : D} {v : V} (r : Rel c.K S H d v) {vs : List V} (e : H L = some (.lst vs)) : Lp c γ σ L S1 μ1 H1 S μ (upd H L (.lst (vs ++ [v]))) (acc ++ [d]) := by
  obtain ⟨vs', e', rs⟩ := l.hL
  rw [e] at e'; cases e'
  have k : Kp S S H (upd H L (.lst (vs ++ [v]))) := ⟨fun a u h n => by rw [upd_ne (fun e => n (by rw [e]; exact l.sL))]; exact h, fun a h => .inl h⟩
  exact ⟨l.g.poke l.sL l.mL h0 l.on, l.s.poke h1, l.sL, l.mL, l.on, _, upd_same, (rs.append (Rels.one r)).kp k⟩
/-- what an item's coming leaves -/
theorem yld_step (ok : StoOk c.K S μ H) (hy : H' = H ∨ ∃ T u, H T = none ∧ H' = upd H T u) : Step S μ H S μ H' ∧ StoOk c.K S μ H' := by
  rcases hy with rfl | ⟨T, u, hT, rfl⟩
  · exact ⟨Step.refl, ok⟩
  · exact step_new ok hT
/-- the store of an item and the tests: what stands then -/
theorem lp_target {t u : List Nat} {d : D} {x : V} {K : Ga → R (List D)} {Qr : List D → Sto → Prop} (l : Lp c γ σ L S1 μ1 H1 S μ H acc) (hy : H' = H ∨ ∃ T u, H T = none ∧ H' = upd H T u) (rx : Rel c.K S H' d x) (hu : ∀ j, j ∈ t → j ∈ u)
    (h : (setTR (wipeG γ u) t d K).All Qr c.V) {Q : L2.St → Hp → Prop}
    (fin : ∀ γ' σ', (K γ').All Qr c.V → Lp c γ σ L S1 μ1 H1 S μ H' acc → Lp c γ' σ' L S1 μ1 H1 S μ H' acc → L2.wipe σ' u = L2.wipe σ u → Q σ' H') : TGn c t x (L2.wipe σ u) H' Q := by
  obtain ⟨s', ok'⟩ := yld_step l.g.st hy
  have l' := l.step s' ok'
  have gw := l'.g.wipe u
  unfold setTR at h
  cases e : setT (wipeG γ u) t d with
  | none => rw [e] at h; exact h.elim
  | some γ' =>
    rw [e] at h
    refine ⟨S, wipeG γ u, μ, d, γ', gw, rx, e, fun σ' g' fr => fin γ' σ' h l' (l'.view g' fun i ob q e1 e2 => ?_) ?_⟩
    · obtain ⟨n1, e3⟩ := setT_own e e1
      obtain ⟨n2, e4⟩ := wipeG_own e3
      rw [fr.2 i n1, wipe_get, if_neg n2] at e2
      exact l.on i ob q e4 e2
    · rw [fr.wipe hu, wipe_wipe]
/-- the loop -/
theorem lp_loop {J : It} {ds : List D} {f : D → List D → Sto → R (List D)} {fin : Hp → Prop} {body : V → Hp → (Hp → Prop) → Prop} {acc0 : List D}
    (gd : ∀ S' μ' H' acc, Lp c γ σ L S1 μ1 H1 S' μ' H' acc → KpT S S' H H' → Gd c J ds S' H')
    (hb : ∀ S' μ' H' acc d x H2 Nx, Lp c γ σ L S1 μ1 H1 S' μ' H' acc → (H2 = H' ∨ ∃ T u, H' T = none ∧ H2 = upd H' T u) → Rel c.K S' H2 d x → (f d acc μ').All (fun acc' μ2 => ∀ S2 H3, Lp c γ σ L S1 μ1 H1 S2 μ2 H3 acc' → KpT S S2 H H3 → Nx H3) c.V → KpT S S' H H' → body x H2 Nx)
    (l0 : Lp c γ σ L S1 μ1 H1 S μ H acc0) (h : (lcL f ds acc0 μ).All (fun zs μ' => ∀ S' H', Lp c γ σ L S1 μ1 H1 S' μ' H' zs → KpT S S' H H' → fin H') c.V) :
    ∃ W : Nat → Nat → Hp → Prop, (∃ m, W 0 m H) ∧ ∀ i m H, W i m H → (J.stop i H ∧ fin H) ∨ (J.go i H ∧ ∃ Nx : Hp → Prop, (∀ H', Nx H' → ∃ m', m' < m ∧ W (i + 1) m' H') ∧ ∀ x H', J.yld i H x H' → body x H' Nx) := by
  refine ⟨fun i m H' => m = ds.length - i ∧ i ≤ ds.length ∧ ∃ S' μ' acc, Lp c γ σ L S1 μ1 H1 S' μ' H' acc ∧ KpT S S' H H' ∧ (lcL f (ds.drop i) acc μ').All (fun zs μ' => ∀ S' H', Lp c γ σ L S1 μ1 H1 S' μ' H' zs → KpT S S' H H' → fin H') c.V,
    ⟨_, rfl, Nat.zero_le _, S, μ, acc0, l0, KpT.refl, h⟩, ?_⟩
  rintro i m H' ⟨rfl, hi, S', μ', acc, l, kp, h⟩
  have gd' := gd S' μ' H' acc l kp
  by_cases hlt : i < ds.length
  · refine .inr ⟨gd'.1 i hlt, _, fun H2 p => ⟨ds.length - (i + 1), by omega, rfl, hlt, p⟩, fun x H2 y => ?_⟩
    obtain ⟨hy, d, e, rx⟩ := gd'.2.2 i x H2 hlt y
    have ed : ds[i]'hlt = d := by rw [List.getElem?_eq_getElem hlt] at e; exact Option.some.inj e
    rw [List.drop_eq_getElem_cons hlt, ed] at h
    unfold lcL at h
    rw [R.All_bind] at h
    refine hb S' μ' H' acc d x H2 _ l hy rx (h.mono (fun acc' μ2 h => ?_) fun _ _ _ w => w) kp
    exact fun S2 H3 l2 k2 => ⟨S2, μ2, acc', l2, k2, h⟩
  · have e : i = ds.length := by omega
    subst e
    rw [List.drop_length] at h
    exact .inl ⟨gd'.2.1, h S' H' l kp⟩
end
section
variable {c : Ct} {σ : L2.St} {H : Hp} {Q : VK} {t t2 : List Nat} {ri ri2 : Ga → Sto → R (List D)} {rc rc2 : Ga → Sto → R Bool} {re : Ga → Sto → R D}
/-- the last clause's turn -/
theorem lp_leaf {γ : Ga} {L : Addr} {S1 S : Sa} {μ1 μ : Sto} {H1 H' H0 : Hp} {S0 : Sa} {acc : List D} {d : D} {x : V} {Nx : Hp → Prop} (h0 : c.H0 L = none) (h1 : H1 L = none)
    (l : Lp c γ σ L S1 μ1 H1 S μ H acc) (hy : H' = H ∨ ∃ T u, H T = none ∧ H' = upd H T u) (rx : Rel c.K S H' d x) (kp : KpT S0 S H0 H) (sL0 : S0 L ∨ H0 L = none)
    (h : (setTR (wipeG γ t) t d fun γ' => (rc γ' μ).bind fun b μ => if b then (re γ' μ).bind fun z μ => addL acc z μ else .ok acc μ).All (fun acc' μ2 => ∀ S2 H3, Lp c γ σ L S1 μ1 H1 S2 μ2 H3 acc' → KpT S0 S2 H0 H3 → Nx H3) c.V) :
    TGn c t x (L2.wipe σ t) H' fun σ2 H2 => L2.wipe σ2 t = L2.wipe σ t ∧ TTn c rc σ2 H2 fun b H3 => if b = true then TEn c true re σ2 H3 fun y H4 => ∃ acc, H4 L = some (.lst acc) ∧ acc.length < sizeLine ∧ Nx (upd H4 L (.lst (acc ++ [y]))) else Nx H3 := by
  have sy := (yld_step l.g.st hy).1
  have ky : KpT S0 S H0 H' := kp.trans (sy.kpT l.g.st.dm)
  refine lp_target l hy rx (fun j h => h) h fun γ' σ' hk l0 l' ew => ⟨ew, ?_⟩
  rw [R.All_bind] at hk
  refine ⟨S, γ', μ, l'.g, hk.mono (fun b μ3 hk => ?_) fun _ _ _ w => w⟩
  intro S3 H3 g3 s3
  cases b with
  | false =>
    rw [if_neg (by decide)] at hk ⊢
    exact hk S3 H3 (l0.step s3 g3.st) (ky.trans (s3.kpT l'.g.st.dm))
  | true =>
    rw [if_pos rfl] at hk ⊢
    rw [R.All_bind] at hk
    refine ⟨S3, γ', μ3, g3, hk.mono (fun z μ4 hk => ?_) fun _ _ _ w => w⟩
    intro S4 v H4 g4 s4 r4
    have l4 := l0.step (s3.trans s4) g4.st
    obtain ⟨vs, e, rs⟩ := l4.hL
    unfold addL at hk
    by_cases hl : acc.length < 1000000
    · rw [if_pos hl] at hk
      refine ⟨vs, e, by rw [rs.length]; exact Nat.lt_of_lt_of_le hl (big_line (Nat.le_refl _)), hk S4 _ (l4.put h0 h1 r4 e) ((ky.trans ((s3.trans s4).kpT l'.g.st.dm)).poke sL0)⟩
    · rw [if_neg hl] at hk; exact hk.elim
theorem lc_imp (h : TFn c (fun γ μ => (ri γ μ).bind fun xs μ =>
    (lcL (fun y acc μ => setTR (wipeG γ t) t y fun γ' => (rc γ' μ).bind fun b μ => if b then (re γ' μ).bind fun z μ => addL acc z μ else .ok acc μ) xs [] μ).nox.bind fun zs μ => .ok (.lst zs) μ) σ H Q) :
    tLc (TIn c false ri) (TGn c.nv t) (TTn c.nv rc) (TEn c.nv true re) t σ H Q := by
  obtain ⟨S, γ, μ, g, h⟩ := h
  rw [R.All_bind] at h
  refine ⟨S, γ, μ, g, h.mono (fun ds μ1 h => ?_) fun _ _ _ w => w⟩
  intro S1 J H1 g1' s1 wk L hL
  have g1 : Good c.nv S1 γ μ1 σ H1 := g1'.wv
  obtain ⟨g2, s2, mL, nL⟩ := open_new g1 (HO.lst []) hL
  rw [R.All_bind] at h
  have h := R.All_nox (W' := c.nv.V) h
  have l0 : Lp c.nv γ σ L S1 μ1 H1 _ μ1 (upd H1 L (.lst [])) [] := ⟨g2, s2, .inr rfl, mL, g1.own_ne hL, [], upd_same, rfl⟩
  refine lp_loop (c := c.nv) (S := fun a => S1 a ∨ a = L) (fun S' μ' H' acc l _ => wk S' μ' H' l.s l.g.st) (fun S' μ' H' acc d x H2 Nx l hy rx h kp => ?_) l0 (h.mono (fun zs μ' h => ?_) fun _ _ _ w => w)
  · exact lp_leaf (c := c.nv) (g1.h0 hL) hL l hy rx kp (.inl (.inr rfl)) h
  · intro S' H' l _
    obtain ⟨vs, e, rs⟩ := l.hL
    exact h S' L vs H' zs rfl l.g.unwv (s1.trans l.s) (none_back s1.there hL) l.sL l.mL e rs
theorem lc2_imp (h : TFn c (fun γ μ => (ri γ μ).bind fun xs μ =>
    (lcL (fun y acc μ => setTR (wipeG γ (t ++ t2)) t y fun γ' => (rc γ' μ).bind fun b μ => if b then (ri2 γ' μ).bind fun xs2 μ =>
      lcL (fun y2 acc μ => setTR (wipeG γ' t2) t2 y2 fun γ2 => (rc2 γ2 μ).bind fun b μ => if b then (re γ2 μ).bind fun z μ => addL acc z μ else .ok acc μ) xs2 acc μ else .ok acc μ) xs [] μ).nox.bind fun zs μ => .ok (.lst zs) μ) σ H Q) :
    tLc2 (TIn c false ri) (TGn c.nv t) (TTn c.nv rc) (TIn c.nv true ri2) (TGn c.nv t2) (TTn c.nv rc2) (TEn c.nv true re) (t ++ t2) t2 σ H Q := by
  obtain ⟨S, γ, μ, g, h⟩ := h
  rw [R.All_bind] at h
  refine ⟨S, γ, μ, g, h.mono (fun ds μ1 h => ?_) fun _ _ _ w => w⟩
  intro S1 J H1 g1' s1 wk L hL
  have g1 : Good c.nv S1 γ μ1 σ H1 := g1'.wv
  obtain ⟨g2, s2, mL, nL⟩ := open_new g1 (HO.lst []) hL
  rw [R.All_bind] at h
  have h := R.All_nox (W' := c.nv.V) h
  have l0 : Lp c.nv γ σ L S1 μ1 H1 _ μ1 (upd H1 L (.lst [])) [] := ⟨g2, s2, .inr rfl, mL, g1.own_ne hL, [], upd_same, rfl⟩
  refine lp_loop (c := c.nv) (S := fun a => S1 a ∨ a = L) (fun S' μ' H' acc l _ => wk S' μ' H' l.s l.g.st) (fun S' μ' H' acc d x H2 Nx l hy rx h kp => ?_) l0 (h.mono (fun zs μ' h => ?_) fun _ _ _ w => w)
  · have sy := (yld_step l.g.st hy).1
    have ky := kp.trans (sy.kpT l.g.st.dm)
    refine lp_target (c := c.nv) l hy rx (fun j h => List.mem_append_left _ h) h fun γ' σ' hk lo l' ew => ⟨ew, ?_⟩
    rw [R.All_bind] at hk
    refine ⟨S', γ', μ', l'.g, hk.mono (fun b μ3 hk => ?_) fun _ _ _ w => w⟩
    intro S3 H3 g3 s3
    cases b with
    | false =>
      rw [if_neg (by decide)] at hk ⊢
      exact hk S3 H3 (lo.step s3 g3.st) (ky.trans (s3.kpT l'.g.st.dm))
    | true =>
      rw [if_pos rfl] at hk ⊢
      rw [R.All_bind] at hk
      refine ⟨S3, γ', μ3, g3, hk.mono (fun ds2 μ4 hk => ?_) fun _ _ _ w => w⟩
      intro S4 J1 H4 g4 s4 wk4
      have s34 := s3.trans s4
      have li := l'.step s34 g4.st
      have lo4 := lo.step s34 g4.st
      have k04 := ky.trans (s34.kpT l'.g.st.dm)
      refine lp_loop (c := c.nv) (S := S4) (fun S' μ' H' acc l k => wk4 S' H' k.kp l.g.st.sd) (fun S5 μ5 H5 acc d x H6 Nx l hy rx h kp => ?_) li (hk.mono (fun zs μ' h => ?_) fun _ _ _ w => w)
      · exact lp_leaf (c := c.nv) (g1.h0 hL) hL l hy rx kp (.inl li.sL) h
      · intro S' H' l5 k5
        exact h S' H' (l5.view (g1.step l5.s l5.g.st) lo.on) (k04.trans k5)
  · intro S' H' l _
    obtain ⟨vs, e, rs⟩ := l.hL
    exact h S' L vs H' zs rfl l.g.unwv (s1.trans l.s) (none_back s1.there hL) l.sL l.mL e rs
end
end Bs
/-! Bs: lists of the store; new lists by +, * and list(). -/
namespace L2
open PySem PySem.Spec PyProof.Rows
section
variable {X : Cx} {pos : Pos}
/-! ### s[::-1] -/
theorem rev_str (z : Str) (u : Tok) : Txt.sliceBy z none none (-1, u) = ⟨z.cps.toList.reverse.toArray⟩ := by
  have h := PyProof.Rows.step_rev_list z u
  have e : (Txt.sliceBy z none none (-1, u)).cps = z.cps.toList.reverse.toArray := by
    apply Array.toList_inj.mp
    rw [h]
    apply List.ext_getElem
    · simp [Str.length]
    · intro i h1 h2
      have h1' : i < z.cps.size := by simpa [Str.length] using h1
      simp only [List.getElem_map, List.getElem_range, List.getElem_reverse, Array.length_toList, Array.getElem_toList]
      have : z.length - 1 - i < z.cps.size := by show z.cps.size - 1 - i < z.cps.size; omega
      rw [Array.getD_eq_getD_getElem?, Array.getElem?_eq_getElem this]
      rfl
  cases hz : Txt.sliceBy z none none (-1, u)
  rw [hz] at e
  simp only at e
  rw [e]
def tRevS (te : TE) : TE := fun σ H Q => te σ H fun x H1 => ∃ z, x = .str z ∧ z.length ≤ sizeLine ∧ Q (.str ⟨z.cps.toList.reverse.toArray⟩) H1
theorem pe_revS {e : Expr} {te : TE} {k : Nat} {p1 p2 p3 : Pos} (he : PE X e te) : PE X (.Subscript e (.Slice none none (some (.UnaryOp .USub (.Constant (.int 1) k p1) p2)) p3) pos) (tRevS te) := by
  refine ⟨fun pins s σ H Q I h => ?_⟩
  refine Subscript_ (thn (he.run pins s σ H _ I h) fun v s1 ⟨x, H1, I1, r1, q1⟩ => ?_)
  obtain ⟨z, ex, hz, q⟩ := q1
  subst ex
  obtain ⟨tk, rfl⟩ := r1
  have hst : PO X (some (.UnaryOp .USub (.Constant (.int 1) k p1) p2)) (tPart (tUn (rU fun i => .int (-i)) (tC (.int 1)))) := po_some (pe_un un_neg pe_int)
  refine wpAny_Slice (thn (po_none.run pins s1 σ H1 (fun o H2 => o = none ∧ H2 = H1) I1 ⟨rfl, rfl⟩) fun vl s2 ⟨l, H2, I2, pl, el, e2⟩ => ?_)
  subst el e2
  refine thn (po_none.run pins s2 σ H2 (fun o H3 => o = none ∧ H3 = H2) I2 ⟨rfl, rfl⟩) fun vu s3 ⟨u, H3, I3, pu, eu, e3⟩ => ?_
  subst eu e3
  refine thn (hst.run pins s3 σ H3 (fun o H4 => o = some (-1) ∧ H4 = H3) I3 ⟨1, rfl, -1, rfl, rfl, rfl⟩) fun vs s4 ⟨o, H4, I4, ps, eo, e4⟩ => ?_
  subst eo e4
  have I5 : Inv X pins σ H4 { s4 with heap := s4.heap.push { cls := .type "slice", data := .fields #[vl, vu, vs] } } := I4.kept (t' := s4.toks) fun b ob q => Heap.get?_push_of_some _ q
  obtain ⟨l', hl1, hl2⟩ := IsPart.raw pl
  obtain ⟨u', hu1, hu2⟩ := IsPart.raw pu
  obtain ⟨st', hs1, hs2⟩ := IsPart.raw ps
  subst hl1 hu1 hs1
  have el : l' = none := by cases l' with | none => rfl | some _ => cases hl2
  have eu : u' = none := by cases u' with | none => rfl | some _ => cases hu2
  subst el eu
  obtain ⟨tk2, est⟩ : ∃ tk2, st' = some ((-1 : Int), tk2) := by
    cases st' with
    | none => cases hs2
    | some w => obtain ⟨w1, w2⟩ := w; cases hs2; exact ⟨w2, rfl⟩
  subst est
  show wpAny (model X.prog X.w) X.A (subscriptTail e (.Slice none none (some (.UnaryOp .USub (.Constant (.int 1) k p1) p2)) p3) (.str z tk) (.ref s4.heap.objs.size)) (EP X pins σ Q) X.xe _
  refine tail_any (ops := [.ref s4.heap.objs.size, .str z tk]) (typeIs_str _ _ _) F.slot_str_getitem.lookup ?_ (by with_unfolding_all rfl)
  refine wpAny_getItem_str_slice (l := none) (u := none) (st := some (-1, tk2)) (Heap.IsSliceOf.new ..) rfl ?_
  have hr := rev_str z tk2
  have hl : (Txt.sliceBy z none none (-1, tk2)).length ≤ sizeLine := by rw [PyProof.Rows.step_rev_len]; exact hz
  rw [← hr] at q
  have c1 : ¬ ((((some ((-1 : Int), tk2)).map (·.1)).getD 1 == 1 && (slicePicked z none none (some ((-1 : Int), tk2))).length == z.length) = true) := by
    have : (((some ((-1 : Int), tk2)).map (·.1)).getD 1 == 1) = false := rfl
    rw [this]; simp
  unfold Txt.sliceBy at q hl
  rw [if_neg c1] at q hl
  unfold sliceMade
  rw [if_neg c1]
  exact ⟨hl, .str _, H4, I5.tok _, ⟨_, rfl⟩, q⟩
end
end L2
namespace Bs
open PySem L2
section
variable {c : Ct} {S S' : Sa} {γ : Ga} {μ μ' : Sto} {σ : L2.St} {H H' : Hp} {Q : VK}
/-- the store's list at p changes -/
theorem Good.putSto (g : Good c S γ μ σ H) {p : Addr} {o : Ob} (ys : List D) (ws : List V) (e : μ p = some o) (r : Rels c.K S H ys ws) : Good c S γ (μ.put p (.lst ys)) σ (upd H p (.lst ws)) ∧ KpT S S H (upd H p (.lst ws)) := by
  have sp := (g.st.st p o e).1
  have k : KpT S S H (upd H p (.lst ws)) := KpT.refl.poke (.inl sp)
  have pn : ∀ q, q ≠ p → (μ.put p (.lst ys)) q = μ q := fun q h => by unfold Sto.put; rw [if_neg h]
  have pp : (μ.put p (.lst ys)) p = some (.lst ys) := by unfold Sto.put; rw [if_pos rfl]
  have hdom : ∀ q, (μ.put p (.lst ys)) q ≠ none ↔ μ q ≠ none := fun q => by
    by_cases z : q = p
    · subst z; rw [pp, e]; simp
    · rw [pn q z]
  have hx : c.μ0 p ≠ none ∨ c.H0 p = none := g.fr p (by rw [e]; exact fun z => nomatch z)
  refine ⟨⟨g.len, fun j s ej => ?_, g.ap, ⟨fun q ob eq => ?_, fun a z => k.th a (g.st.sd a z)⟩, g.s0, fun a u h m => ?_, fun q z => g.fr q ((hdom q).mp z), fun q z => (hdom q).mpr (g.md q z), g.kt.trans k⟩, k⟩
  · have h := g.sl j s ej
    cases s with
    | un => trivial
    | val d => obtain ⟨v, e1, r⟩ := h; exact ⟨v, e1, r.kp k.kp⟩
    | own ob =>
      obtain ⟨q, e2, sq, h0', m, rr⟩ := h
      have qp : q ≠ p := fun z => by rw [z, e] at m; cases m
      exact ⟨q, e2, sq, h0', by rw [pn q qp]; exact m, rr.kp k.kp (upd_ne qp)⟩
  · by_cases z : q = p
    · subst z; rw [pp] at eq; cases eq; exact ⟨sp, ws, upd_same, r.kp k.kp⟩
    · rw [pn q z] at eq; exact ⟨(g.st.st q ob eq).1, (g.st.st q ob eq).2.kp k.kp (upd_ne z)⟩
  · rw [upd_ne (fun z => ?_)]; exact g.ext a u h m
    rcases hx with hx | hx
    · rw [z] at m; exact hx m
    · rw [z, hx] at h; cases h
theorem Good.putStep (g : Good c S γ μ σ H) {p : Addr} {o : Ob} (ys : List D) (ws : List V) (e : μ p = some o) : Step S μ H S (μ.put p (.lst ys)) (upd H p (.lst ws)) := by
  have pn : ∀ q, q ≠ p → (μ.put p (.lst ys)) q = μ q := fun q h => by unfold Sto.put; rw [if_neg h]
  have pp : (μ.put p (.lst ys)) p = some (.lst ys) := by unfold Sto.put; rw [if_pos rfl]
  have hdom : ∀ q, (μ.put p (.lst ys)) q ≠ none ↔ μ q ≠ none := fun q => by
    by_cases z : q = p
    · subst z; rw [pp, e]; simp
    · rw [pn q z]
  refine ⟨fun a u h m => ?_, fun a h => ?_, fun a h => .inl h, fun a h => h, fun a h => (hdom a).mpr h, fun a h => .inl ((hdom a).mp h)⟩
  · rw [upd_ne (fun z => by rw [z, e] at m; cases m)]; exact h
  · by_cases z : a = p
    · rw [z, upd_same]; exact fun z => nomatch z
    · rw [upd_ne z]; exact h
theorem Rels.erase : ∀ {ds : List D} {vs : List V} {K : PySem.W.Frag} (n : Nat), Rels K S H ds vs → Rels K S H (ds.eraseIdx n) (vs.eraseIdx n)
  | [], _, _, n, h => by rw [h]; simp [Rels]
  | e :: r, vs, _, 0, h => by
    obtain ⟨w, us, rfl, q1, z⟩ := h
    exact z
  | e :: r, vs, _, n + 1, h => by
    obtain ⟨w, us, rfl, q1, z⟩ := h
    exact ⟨w, us.eraseIdx n, rfl, q1, z.erase n⟩
end
section
variable {c : Ct} {X : Cx} {a b : Expr} {sa sb : Bool} {ra rb : Ga → Sto → R D} {pos apos : Pos}
theorem pop_key {S : Sa} {γ : Ga} {μ : Sto} {σ : L2.St} {H : Hp} {Q : VK} {x : D} {j : Int} {v : V} (g : Good c S γ μ σ H) (r : RelW c.K T0 S H x v) (h : (popR x (.int j) μ).All (Aft c true S μ H γ σ Q) c.V) :
    ∃ l xs k y, v = .ref l ∧ H l = some (.lst xs) ∧ -(2 ^ 63) ≤ j ∧ j < 2 ^ 63 ∧ seqIndex? j xs.length = some k ∧ ixN xs.length j = some k ∧ xs[k]? = some y ∧ Q y (upd H l (.lst (xs.eraseIdx k))) := by
  cases x with
  | loc p =>
    unfold popR at h
    dsimp only at h
    cases eμ : μ p with
    | none => rw [eμ] at h; exact h.elim
    | some ob =>
      rw [eμ] at h
      cases ob with
      | lst xs =>
        dsimp only at h
        obtain ⟨sp, vs, ep, rs⟩ := g.st.st p _ eμ
        by_cases hl : xs.length ≤ 1000000
        case neg => rw [if_neg hl] at h; exact h.elim
        rw [if_pos hl] at h
        try dsimp only at h
        cases en : ixN xs.length j with
        | none => rw [en] at h; exact h.elim
        | some m =>
          rw [en] at h
          dsimp only at h
          cases ex : xs[m]? with
          | none => rw [ex] at h; exact h.elim
          | some d =>
            rw [ex] at h
            obtain ⟨y, ey, ry⟩ := rs.get ex
            have en' : ixN vs.length j = some m := by rw [rs.length]; exact en
            obtain ⟨h1, h2, h3, h4⟩ := ixN_seq en'
            obtain ⟨g2, k2⟩ := g.putSto (xs.eraseIdx m) (vs.eraseIdx m) eμ (rs.erase m)
            have hl2 := rs.length
            exact ⟨p, vs, m, y, r, ep, by omega, by omega, h1, en', ey, h S y _ g2 (g.putStep _ _ eμ) (Rel.kp k2.kp _ _ ry)⟩
      | dic _ => exact h.elim
      | ins _ _ => exact h.elim
  | _ => exact h.elim
theorem isL_ty {S : Sa} {γ : Ga} {μ : Sto} {σ : L2.St} {H : Hp} {x : D} {v : V} {T : Sa} (g : Good c S γ μ σ H) (r : RelW c.K T S H x v) (h : isL μ x = true) : ∃ p xs vs, x = .loc p ∧ v = .ref p ∧ μ p = some (.lst xs) ∧ H p = some (.lst vs) ∧ Rels c.K S H xs vs := by
  cases x with
  | loc p =>
    unfold isL at h
    dsimp only at h
    cases eμ : μ p with
    | none => rw [eμ] at h; cases h
    | some ob =>
      rw [eμ] at h
      cases ob with
      | lst xs => obtain ⟨sp, vs, ep, rs⟩ := g.st.st p _ eμ; exact ⟨p, xs, vs, rfl, r, eμ, ep, rs⟩
      | dic _ => cases h
      | ins _ _ => cases h
  | _ => cases h
theorem few_of {e : Expr} {cpos : Pos} (h : nst e = true) : ((backTo cpos (starEach [e] X.env)).all (fun x => !x.1) && (backToKw cpos (keywordEach [] X.env)).all (fun x => x.1.isSome) && decide (([e] : List Expr).length + ([] : List Keyword).length + (if ([] : List Keyword).isEmpty then 0 else 1) < 30)) = true := by
  rw [star_cons h]; rfl
/-- t.index(x), t a constant of the module -/
theorem snd_tidx (hK : X.K = c.K) {o : Option D} {v : V} (ha : PE X a (tC v)) (rg : ∀ d, o = some d → ∀ S H, Rel c.K S H d v) (hb : PE X b (TEn c sb rb)) (hs : nst b = true) (hn : noCall a = true) (hl : (apos.endLine == pos.line) = true) :
    PE X (.Call (.Attribute a "index" apos) [b] [] pos) (TEn c true fun γ μ => if isTupO o then (rb γ μ).bind fun y μ => ofO (tidxD o y) μ else .fail) := by
  refine (pe_bm (T := "tuple") PySem.F.plainAttrs_tuple PySem.F.slot_tuple_index PySem.F.type_tuple_index mt_tup_index ha (pa_cons (PEweak hb) pa_nil (star_cons hs)) (abase hn) (few_of hs) hl (star_cons hs) rfl).imp fun σ H Q w => ?_
  obtain ⟨S, γ, μ, g, h⟩ := w
  dsimp only at h
  by_cases ht : isTupO o = true
  · rw [if_pos ht] at h
    match o, ht, rg, h with
    | some (.tup xs), _, rg, h =>
      obtain ⟨a0, vs, rfl, q0, _⟩ := rg _ rfl (fun _ => False) (fun _ => none)
      have hk : KTs c.K a0 vs := by
        rcases q0 with ⟨q | ⟨_, q⟩, _⟩ | q
        · cases q
        · cases q
        · exact q
      obtain ⟨ob, its, n, k1, k2, k3, k4, k5, k6⟩ := hk
      refine ⟨.inr (.inl ⟨rfl, ob, by rw [hK]; exact k1, k2, k6⟩), ?_⟩
      rw [R.All_bind] at h
      refine ⟨S, γ, μ, g, h.mono (fun e μ1 h => ?_) fun _ _ _ w => w⟩
      intro S1 w H1 g1 s1 r1
      have h := Aft.step h s1
      obtain ⟨z, hz, q⟩ := ofO_some h
      obtain ⟨zz, rfl⟩ : ∃ zz, e = .str zz := by
        cases e with
        | str zz => exact ⟨zz, rfl⟩
        | _ => simp only [tidxD, reduceCtorEq] at hz
      simp only [tidxD, Option.bind_eq_some_iff, Option.map_eq_some_iff] at hz
      obtain ⟨ss, e1, j, e2, rfl⟩ := hz
      obtain ⟨a1, vs1, ea, q1, r2⟩ := rg _ rfl S1 H1
      cases ea
      obtain ⟨e3, _⟩ := strs_of e1 r2
      have r1' : w = strV zz ∧ zz.length ≤ 1000000 ∧ ∀ c ∈ zz, c < 128 := r1
      obtain ⟨f1, f2, f3⟩ := List.findIdx?_eq_some_iff_getElem.mp e2
      refine ⟨a0, ss.map fun s => ⟨s.toArray⟩, ⟨zz.toArray⟩, j, rfl, congrArg (fun x => [x]) r1'.1, ?_, ?_, ?_, fin0 g1 q rfl⟩
      · rw [hK, ← e3]; exact q1.sq
      · rw [List.getElem?_map, List.getElem?_eq_getElem f1, Option.map_some, of_decide_eq_true f2]
      · intro m hm z
        rw [List.getElem?_map, List.getElem?_eq_getElem (by omega), Option.map_some] at z
        have e4 : ss[m] = zz := by
          have := congrArg (fun s : Str => s.cps.toList) (Option.some.inj z)
          simpa using this
        have := f3 m hm
        rw [e4] at this
        exact this (decide_eq_true rfl)
  · rw [if_neg ht] at h; exact h.elim
theorem snd_dsp0 : PE X (.Dict [] [] pos) (TEn c true fun _ μ => .ok (.dic []) μ) := by
  refine (pe_fz pe_dnewK).imp fun σ H Q w => ?_
  obtain ⟨S, γ, μ, g, h⟩ := w
  intro p hp
  refine ⟨p, _, rfl, upd_same, trivial, fun od => ?_⟩
  rw [upd_upd]
  obtain ⟨s, ok⟩ := step_new (c := c) (o := HO.frz od (HO.dK [])) g.st hp
  exact h S (.ref p) _ (g.step s ok) s ⟨p, [], rfl, ⟨od, upd_same⟩, ok_notS g.st hp, rfl⟩
/-- dict(d) -/
theorem snd_dcp {p : Pos} (hc : X.calm = true) (hg : Gl X "dict") (hm : X.mg "dict" = none) (ha : PE X a (TEn c sa ra)) (hs : nst a = true) : PE X (.Call (.Name "dict" p) [a] [] pos) (TEn c true fun γ μ => (ra γ μ).bind dcpR) := by
  refine (pe_fz (pe_callTy call_dictD hg hm (by decide +kernel) (pa_cons (PEweak ha) pa_nil (star_cons hs)) (by decide +kernel) (by decide +kernel) (star_cons hs) rfl)).imp fun σ H Q w => ?_
  obtain ⟨S, γ, μ, g, h⟩ := w
  rw [R.All_bind] at h
  refine ⟨S, γ, μ, g, h.mono (fun d μ1 h => ?_) fun _ _ _ w => w⟩
  intro S1 v H1 g1 s1 r1
  cases d with
  | dic kvs =>
    have h : Aft c true S μ H γ σ Q (.dic kvs) μ1 := h
    obtain ⟨b, ps, rfl, rd, rp⟩ := rw_dic r1
    refine ⟨b, ps, rfl, rd, fun p hp => ⟨p, _, rfl, upd_same, trivial, fun od => ?_⟩⟩
    rw [upd_upd]
    obtain ⟨s2, ok⟩ := step_new (c := c) (o := HO.frz od (HO.dK ps)) g1.st hp
    exact h S1 (.ref p) _ (g1.step s2 ok) (s1.trans s2) ⟨p, ps, rfl, ⟨od, upd_same⟩, ok_notS g1.st hp, RelP.kp (s2.kp g1.st.dm) _ _ rp⟩
  | _ => exact h.elim
theorem snd_rev {k : Nat} {p1 p2 p3 : Pos} (ha : PE X a (TEn c sa ra)) :
    PE X (.Subscript a (.Slice none none (some (.UnaryOp .USub (.Constant (.int 1) k p1) p2)) p3) pos) (TEn c true fun γ μ => (ra γ μ).bind fun x μ => ofO (revD x) μ) := by
  refine (pe_revS (PEweak ha)).imp fun σ H Q w => ?_
  obtain ⟨S, γ, μ, g, h⟩ := w
  rw [R.All_bind] at h
  refine ⟨S, γ, μ, g, h.mono (fun d μ1 h => ?_) fun _ _ _ w => w⟩
  intro S1 v H1 g1 s1 r1
  have h := Aft.step h s1
  obtain ⟨z, hz, q⟩ := ofO_some h
  obtain ⟨zz, rfl⟩ : ∃ zz, d = .str zz := by
    cases d with
    | str zz => exact ⟨zz, rfl⟩
    | _ => simp only [revD, reduceCtorEq] at hz
  simp only [revD, Option.some.injEq] at hz
  subst hz
  obtain ⟨rfl, l1, a1⟩ : v = strV zz ∧ zz.length ≤ 1000000 ∧ ∀ c ∈ zz, c < 128 := r1
  refine ⟨_, rfl, ?_, ?_⟩
  · rw [str_len]; exact Nat.le_trans l1 (by decide)
  · refine fin0 g1 q ⟨?_, ?_, ?_⟩
    · rfl
    · rw [List.length_reverse]; exact l1
    · intro x hx; exact a1 x (List.mem_reverse.mp hx)
theorem rels_rev {K : PySem.W.Frag} {S : Sa} {H : Hp} : ∀ {xs : List D} {vs : List V}, Rels K S H xs vs → Rels K S H xs.reverse vs.reverse
  | [], _, h => by rw [show _ = [] from h]; rfl
  | x :: r, vs, h => by
    obtain ⟨v, ws, rfl, q, z⟩ := h
    rw [List.reverse_cons, List.reverse_cons]
    exact (rels_rev z).append (Rels.one q)
/-- xs[::-1] -/
theorem snd_rvl (hK : X.K = c.K) {k : Nat} {p1 p2 p3 : Pos} (ha : PE X a (TEn c sa ra)) :
    PE X (.Subscript a (.Slice none none (some (.UnaryOp .USub (.Constant (.int 1) k p1) p2)) p3) pos) (TEn c true fun γ μ => (ra γ μ).bind fun x μ => orO (rvlD x) (rvlD (dr μ x)) μ) := by
  have ho : Op1 c (fun x H Q => ∃ a xs, x = .ref a ∧ SqL X.K H a xs ∧ ∀ p, H p = none → Q (.ref p) (upd H p (.lst xs.reverse))) (fun x μ => ofO (rvlD x) μ) := by
    intro S γ μ σ H d v Q g rd h
    obtain ⟨z, hz, q⟩ := ofO_some h
    cases d with
    | lst xs =>
      cases hz
      obtain ⟨a, vs, rfl, sq, rs⟩ := rw_lst rd
      refine ⟨a, vs, rfl, by rw [hK]; exact sq, fun p hp => fin_lst g q (rels_rev rs) p hp⟩
    | _ => cases hz
  refine (pe_revL (PEweak ha)).imp fun σ H Q w => ?_
  show TEn c false ra σ H _
  exact read1 ho.dr w
/-- o.pop(i) -/
theorem snd_popl (hK : X.K = c.K) (ha : PE X a (TEn c sa ra)) (hb : PE X b (TEn c sb rb)) (hs : nst b = true) (hn : noCall a = true) (hl : (apos.endLine == pos.line) = true) :
    PE X (.Call (.Attribute a "pop" apos) [b] [] pos) (TEn c true fun γ μ => (ra γ μ).bind fun x μ => if isL μ x then (rb γ μ).bind fun y μ => popR x y μ else .fail) := by
  refine (pe_bm (T := "list") PySem.F.plainAttrs_list PySem.F.slot_list_pop PySem.F.type_list_pop mt_popAt (PEweak ha) (pa_cons (PEweak hb) pa_nil (star_cons hs)) (abase hn) (few_of hs) hl (star_cons hs) rfl).imp fun σ H Q w => ?_
  obtain ⟨S, γ, μ, g, h⟩ := w
  rw [R.All_bind] at h
  refine ⟨S, γ, μ, g, h.mono (fun d μ1 h => ?_) fun _ _ _ w => w⟩
  intro S1 v H1 g1 s1 r1
  by_cases hL : isL μ1 d = true
  · rw [if_pos hL] at h
    obtain ⟨p, xs, vs, rfl, rfl, eμ, ep, rs⟩ := isL_ty g1 r1 hL
    refine ⟨.inl ⟨rfl, vs, .inl (.inl ep)⟩, ?_⟩
    rw [R.All_bind] at h
    refine ⟨S1, γ, μ1, g1, h.mono (fun e μ2 h => ?_) fun _ _ _ w => w⟩
    intro S2 w H2 g2 s2 r2
    have h := Aft.step h (s1.trans s2)
    cases e with
    | int j =>
      obtain ⟨l, ys, k, y, e1, e2, e3, e4, e5, _, e7, e8⟩ := pop_key g2 (v := .ref p) (show RelW c.K T0 S2 H2 (.loc p) (.ref p) from rfl) h
      exact ⟨l, ys, j, k, y, e1, congrArg (fun z => [z]) r2, e2, e3, e4, e5, e7, e8⟩
    | _ => exact h.elim
  · rw [if_neg hL] at h; exact h.elim
theorem snd_pop0 (hK : X.K = c.K) (ha : PE X a (TEn c sa ra)) (hn : noCall a = true) (hl : (apos.endLine == pos.line) = true) :
    PE X (.Call (.Attribute a "pop" apos) [] [] pos) (TEn c true fun γ μ => (ra γ μ).bind fun x μ => popR x (.int (-1)) μ) := by
  refine (pe_bm0 (T := "list") PySem.F.plainAttrs_list PySem.F.slot_list_pop PySem.F.type_list_pop mt_pop (PEweak ha) (abase hn) hl).imp fun σ H Q w => ?_
  obtain ⟨S, γ, μ, g, h⟩ := w
  rw [R.All_bind] at h
  refine ⟨S, γ, μ, g, h.mono (fun d μ1 h => ?_) fun _ _ _ w => w⟩
  intro S1 v H1 g1 s1 r1
  obtain ⟨l, ys, k, y, rfl, e2, e3, e4, e5, e6, e7, e8⟩ := pop_key g1 (RelW.zero r1) (Aft.step h s1)
  refine ⟨.inl ⟨rfl, ys, .inl (.inl e2)⟩, l, ys, y, rfl, rfl, e2, ?_⟩
  have hk : k = ys.length - 1 := by
    obtain ⟨_, h2, h3, h4⟩ := ixN_seq e6
    unfold ixN at e6
    rw [if_neg (by decide)] at e6
    split at e6 <;> first | omega | (injection e6 with e6; omega)
  subst hk
  refine ⟨e7, ?_⟩
  have : ys.eraseIdx (ys.length - 1) = ys.dropLast := by
    rw [List.dropLast_eq_take, List.eraseIdx_eq_take_drop_succ, List.drop_eq_nil_of_le (by omega), List.append_nil]
  rw [← this]
  exact e8
/-- a built-in's list(), a + and a * of lists: the result is open -/
theorem snd_listF (hK : X.K = c.K) (hc : X.calm = true) {e : Expr} {es : List Expr} {rs : Ga → Sto → R (List D)} {p : Pos} (hg : Gl X (biName .list)) (hm : X.mg (biName .list) = none) (ha : PA X (e :: es) (TAn c false rs)) (hs : (e :: es).all nst = true) :
    PE X (.Call (.Name (biName .list) p) (e :: es) [] pos) (TFn c fun γ μ => (rs γ μ).bind fun xs μ => orO (builtin .list xs) (builtin .list (xs.map (dr μ))) μ) := by
  obtain ⟨r, h1, h2⟩ := op_listX (X := X) (c := c) hK hc
  simp only [List.all_cons, Bool.and_eq_true] at hs
  have hb : bootBuiltins (biName .list) = some (.type "list") := bi_boot .list
  have hn : biName .list ≠ "__name__" := by decide +kernel
  have hd : (biName .list == ("__debug__" : Str)) = false := by decide +kernel
  have key : PE X (.Call (.Name (biName .list) p) (e :: es) [] pos) (tCB r (TAn c false rs)) := pe_callTy h1 hg hm hb ha hn hd (star_cons hs.1) (star_any hs.2)
  refine key.imp fun σ H Q w => ?_
  obtain ⟨S, γ, μ, g, h⟩ := w
  rw [R.All_bind] at h
  refine ⟨S, γ, μ, g, h.mono (fun ds μ1 h => ?_) fun _ _ _ w => w⟩
  intro S1 vs H1 g1 s1 r1
  have r0 := Rls.zero r1
  have fin : ∀ ds', Rls c.K false T0 S1 H1 ds' vs → (ofO (builtin .list ds') μ1).All (AftF c S μ H γ σ Q) c.V → r vs H1 Q := fun ds' rr q => by
    obtain ⟨z, hz, q⟩ := ofO_some q
    cases ds' with
    | nil => cases hz
    | cons d dr =>
      cases dr with
      | cons e dr =>
        cases dr with
        | nil => cases hz
        | cons _ _ => cases hz
      | nil =>
        obtain ⟨v, rfl, rv⟩ := one_of rr
        have hz' : bi1 .list d = some z := hz
        have : ∃ zs, z = .lst zs := by cases d <;> simp only [bi1, Option.some.injEq, reduceCtorEq] at hz' <;> exact ⟨_, hz'.symm⟩
        obtain ⟨zs, rfl⟩ := this
        exact h2 S1 H1 d v zs Q rv hz' fun vs rz p hp => fin_new g1 (AftF.step (r := .ok _ _) (W := c.V) q s1) rz p hp
  cases z : builtin .list ds with
  | some d' => simp only [z, orO] at h; exact fin ds r0 (by rw [z]; exact h)
  | none => simp only [z, orO] at h; exact fin _ (r0.dr g1) h
theorem snd_lopF (hK : X.K = c.K) (o : Bop) (ha : PE X a (TEn c sa ra)) (hb : PE X b (TEn c sb rb)) :
    PE X (.BinOp a (bopOf o) b pos) (TFn c fun γ μ => (ra γ μ).bind fun x μ => (rb γ μ).bind fun y μ => orO (lopD o x y) (lopD o (dr μ x) (dr μ y)) μ) := by
  obtain ⟨r, h1, h2⟩ := op_lopX (X := X) (c := c) hK o
  refine (pe_op h1 (PEweak ha) (PEweak hb)).imp fun σ H Q w => ?_
  obtain ⟨S, γ, μ, g, h⟩ := w
  rw [R.All_bind] at h
  refine ⟨S, γ, μ, g, h.mono (fun d μ1 h => ?_) fun _ _ _ w => w⟩
  intro S1 v H1 g1 s1 r1
  rw [R.All_bind] at h
  refine ⟨S1, γ, μ1, g1, h.mono (fun e μ2 h => ?_) fun _ _ _ w => w⟩
  intro S2 w H2 g2 s2 r2
  have rd := RelW.zero (RelW.kp (s2.kp g1.st.dm) s2.kpD r1)
  have re := RelW.zero r2
  have fin : ∀ d' e', RelW c.K T0 S2 H2 d' v → RelW c.K T0 S2 H2 e' w → (ofO (lopD o d' e') μ2).All (AftF c S μ H γ σ Q) c.V → r v w H2 Q := fun d' e' rd re q => by
    obtain ⟨z, hz, q⟩ := ofO_some q
    unfold lopD at hz
    split at hz
    · rename_i zs e1
      cases hz
      exact h2 S2 H2 d' e' v w zs Q rd re e1 fun vs rz p hp => fin_new g2 (AftF.step (r := .ok _ _) (W := c.V) q (s1.trans s2)) rz p hp
    · cases hz
  cases z : lopD o d e with
  | some d' => simp only [z, orO] at h; exact fin d e rd re (by rw [z]; exact h)
  | none => simp only [z, orO] at h; exact fin _ _ (rd.dr g2) (re.dr g2) h
end
end Bs
/-! Bs: sorted(set(x)). -/
namespace L2
open PySem PySem.Spec PyProof.Rows
/-- an empty set, new -/
abbrev so (w : World) : Obj := { cls := .type "set", dict := none, data := .set #[] 0 (.fresh 0 0 (!w.params.followText "set-order")) }
section
variable {P : Program} {w : World} {A : Around} {E : Value → Shared → Prop} {s : Shared}
set_option maxHeartbeats 3200000 in
theorem set_ofL {l : Addr} {items : Array Value} (ns : List Int) {Q : Value → Shared → Prop} (hh : A.handled = none) (hl : s.heap.IsList l items) (hit : IntsAre items.toList ns) (hb : ns.length + 1 < scanBound)
    (h : ∀ (h' : Heap) (tk c : Nat), SetR w h' s.heap.objs.size (fun j => decide (j ∈ ns)) c → (∀ b o, s.heap.get? b = some o → h'.get? b = some o) → Q (.ref s.heap.objs.size) { s with heap := h', toks := tk }) :
    wpAny (model P w) A (call (.type "set") [.ref l]) Q E s := by
  have hisz : items.size = ns.length := by
    have q := IntsAre.length hit
    rw [Array.length_toList] at q
    exact q
  obtain ⟨c, tl, hmro⟩ := F.called_set.mro
  have hmade := F.called_set.made
  have hsub := F.called_set.sub
  refine wpAny_call (codeAny_of_tree ?_)
  show wpAny _ _ (callAny (.type "set") _) _ _ _
  refine wpAny_pure ⟨Code.quiet_builtin _ (by decide +kernel), codeAny_builtin F.entry_type_call ?_⟩
  rw [Around.under_plain (weight_type_call_type "set" [.ref l] []) rfl]
  have h1 := F.called_set.notType
  have h2 := F.called_set.canCreate
  have hct := F.typeCall_set_1 (.ref l)
  repeat (any_goals (first | assumption | wp_step))
  refine codeAny_mono (code_set_led1 (.ref l) (E := E) (Q₁ := fun obj s₁ => obj = .ref s.heap.objs.size ∧ s₁ = { s with heap := s.heap.push (so w) }) ⟨rfl, rfl⟩) fun r s₁ hr => ?_
  cases r with
  | error e => exact hr
  | ok fl =>
    cases fl with
    | ret obj =>
      obtain ⟨rfl, rfl⟩ := hr
      have hS : (s.heap.push (so w)).get? s.heap.objs.size = some (so w) := Heap.get?_push_size _ rfl
      have hT : Shared.TypeIs { s with heap := s.heap.push (so w) } (.ref s.heap.objs.size) "set" := ⟨_, hS, rfl⟩
      have hli := F.called_set.init.lookup
      have hbi := F.called_set.init.bind (.ref s.heap.objs.size)
      repeat (any_goals (first | assumption | wp_step))
      refine codeAny_mono (codeAny_call_builtin (R := wants (fun r s₂ => r = .none ∧ ∃ h' tk c, s₂ = { s with heap := h', toks := tk } ∧ SetR w h' s.heap.objs.size (fun j => decide (j ∈ ns)) c ∧ (∀ b o, s.heap.get? b = some o → h'.get? b = some o)) E) F.called_set.init.plain F.entry_set_init (check_set_init_1 hT ?_)) fun r₂ s₂ hr₂ => ?_
      · obtain ⟨ol, hol, hcl, nl, hdl⟩ := hl
        obtain ⟨ocls, odict, odata, oslots⟩ := ol
        simp only at hcl hdl
        subst hcl; subst hdl
        have hol' : (s.heap.push (so w)).get? l = some { cls := .type "list", dict := odict, data := .seq items nl, slots := oslots } := Heap.get?_push_of_some _ hol
        have hsls := F.sub_list_set
        have hslf := F.sub_list_frozenset
        have hne : (Value.type "list" == Value.type "dict") = false := by decide
        have hl1 : (s.heap.push (so w)).IsList l items := ⟨_, hol', rfl, nl, rfl⟩
        unfold Builtin.«set.__init__» noKeywords Builtin.Frozenset.updateFrom
        generalize hPI : pyIter = PI
        wp_walk
        subst hPI
        refine wpAny_pyIter_list hl1 ?_
        refine wpAny_bind (wpAny_runValue ?_)
        have hlS : l < s.heap.objs.size := Heap.lt_size hol
        have hh3 : A.in1.in1.in1.handled = none := by simp [hh]
        have hz1 : (s.heap.push (so w)).objs.size = s.heap.objs.size + 1 := Heap.size_push ..
        have hneI : l ≠ (s.heap.push (so w)).objs.size := by rw [hz1]; exact Nat.ne_of_lt (Nat.lt_succ_of_lt hlS)
        have hSf : s.heap.objs.size ∉ [(s.heap.push (so w)).objs.size, l] := by
          rw [hz1]
          simp only [List.mem_cons, List.not_mem_nil, or_false, not_or]
          exact ⟨Nat.ne_of_lt (Nat.lt_succ_self _), Nat.ne_of_gt hlS⟩
        have hval : ∀ (i : Nat) (v : Value), items[i]? = some v → ∃ k t, ns[i]? = some k ∧ v = .int k t := fun i v hv => by
          have hi : i < ns.length := by rw [← hisz]; exact (Array.getElem?_eq_some_iff.mp hv).1
          obtain ⟨t, e⟩ := PyProof.Rows.IntsAre.int_at hit i v (by rw [Array.getElem?_toList]; exact hv)
          refine ⟨ns[i], t, List.getElem?_eq_getElem hi, ?_⟩
          rw [e, List.getD_eq_getElem?_getD, List.getElem?_eq_getElem hi] <;> rfl
        refine set_update_ints ((Walks.list hh3 _ l hneI items).toS) s.heap.objs.size hSf ns hisz hb hval (items.size - 0) 0 _ (by omega) (Nat.zero_le _) ⟨⟨_, Heap.get?_push_size _ rfl, rfl, rfl⟩, (hl1.push _)⟩ ⟨0, Nat.le_refl 0, setR_new_at (Heap.get?_push_of_some _ hS)⟩ ?hR
        case hR =>
          intro s' c' hm hc' hS'
          obtain ⟨h', g2, d', tk', os'⟩ := s'
          have eg : g2 = s.gens := hm.gens
          have ed : d' = s.drawn := hm.drawn
          have eo : os' = s.os := hm.os
          subst eg; subst ed; subst eo
          show wpAny _ _ _ _ _ _
          refine wpAny_pure ?_
          show wpAny _ _ (ret Value.none) _ _ _
          refine wpAny_pure ⟨rfl, h', tk', c', rfl, hS', fun b o e => ?_⟩
          have hb0 : b < s.heap.objs.size := Heap.lt_size e
          exact hm.heap b o (by rw [hz1]; simp only [List.mem_cons, List.not_mem_nil, or_false, not_or]; exact ⟨Nat.ne_of_lt hb0, Nat.ne_of_lt (Nat.lt_succ_of_lt hb0)⟩) (Heap.get?_push_of_some _ (Heap.get?_push_of_some _ e))
      · cases r₂ with
        | error e => exact hr₂
        | ok fl₂ =>
          cases fl₂ with
          | ret r =>
            obtain ⟨rfl, h', tk, c', rfl, hS', hk'⟩ := hr₂
            repeat (any_goals (first | assumption | wp_step))
            exact h _ _ _ hS' hk'
          | _ => exact hr₂.elim
    | _ => exact hr.elim
end
theorem nodup_le : ∀ {a b : List Int}, a.Nodup → (∀ x ∈ a, x ∈ b) → a.length ≤ b.length
  | [], _, _, _ => Nat.zero_le _
  | x :: a, b, nd, h => by
    have hx : x ∈ b := h x List.mem_cons_self
    have nd' := List.nodup_cons.mp nd
    have := nodup_le (b := b.erase x) nd'.2 fun y hy => (List.mem_erase_of_ne (fun e => nd'.1 (by rw [← e]; exact hy))).mpr (h y (List.mem_cons_of_mem _ hy))
    rw [List.length_erase_of_mem hx] at this
    have := List.length_pos_of_mem hx
    rw [List.length_cons]; omega
theorem SetR.few {w : World} {h : Heap} {a : Addr} {ns us : List Int} {n : Nat} (R : SetR w h a (fun j => decide (j ∈ ns)) n) (hu : ∀ x ∈ ns, x ∈ us) : n ≤ us.length := by
  obtain ⟨o, es, ep, t, _, _, _, _, nd, hm, _, _, hn, _⟩ := R
  have := nodup_le nd (b := us) fun x hx => hu x (of_decide_eq_true ((hm x).mpr hx))
  rw [List.length_map, Array.length_toList] at this
  omega
section
variable {X : Cx}
def rSetLi (K : PySem.W.Frag) (w : World) : List V → Hp → VK → Prop := fun xs H Q => ∃ (l : Addr) (ns us : List Int), xs = [.ref l] ∧ SqL K H l (ns.map V.int) ∧ ns.length ≤ 1000 ∧ (∀ x ∈ ns, x ∈ us) ∧ us.length < 64 ∧ ∀ p n, H p = none → n < 64 → Q (.ref p) (upd H p (SetO w p (fun j => decide (j ∈ ns)) n))
theorem cr_setL (hc : X.calm = true) : CallR X (.type "set") (rSetLi X.K X.w) := by
  intro pins s σ H xs us Q I r h
  obtain ⟨l, ns, uu, rfl, hq, hl, hu, h64, q⟩ := h
  rw [Vals.ref1 r]
  obtain ⟨its, rv, pl, hz⟩ := I.list hq
  refine set_ofL ns (I.ok.hd hc) pl.isList (ints_of_vals rv) (by unfold scanBound; omega) fun h' tk c R k => ?_
  have hn := R.few hu
  exact ⟨.ref _, upd H s.heap.objs.size (SetO X.w s.heap.objs.size (fun j => decide (j ∈ ns)) c), I.laid (t' := tk) k (Nat.le_refl _) (setO_new R), rfl, q _ _ (I.hok.fresh (Nat.le_refl _)) (by omega)⟩
end
end L2
namespace Bs
open PySem L2
theorem insU_mem (x k : Int) : ∀ l : List Int, k ∈ insU x l ↔ k = x ∨ k ∈ l
  | [] => by simp [insU]
  | y :: r => by
    unfold insU
    split
    · simp
    · split
      · rename_i h; subst h; simp
      · simp only [List.mem_cons, insU_mem x k r]
        constructor
        · rintro (h | h | h) <;> simp [h]
        · rintro (h | h | h) <;> simp [h]
theorem usort_mem (k : Int) : ∀ l : List Int, k ∈ usort l ↔ k ∈ l
  | [] => by simp [usort]
  | x :: r => by simp only [usort, insU_mem, usort_mem k r, List.mem_cons]
theorem insU_pw (x : Int) : ∀ l : List Int, l.Pairwise (· < ·) → (insU x l).Pairwise (· < ·)
  | [], _ => by simp [insU]
  | y :: r, h => by
    have h' := List.pairwise_cons.mp h
    unfold insU
    split
    · rename_i hxy
      refine List.pairwise_cons.mpr ⟨fun z hz => ?_, h⟩
      rcases List.mem_cons.mp hz with rfl | hz
      · exact hxy
      · have := h'.1 z hz; omega
    · split
      · exact h
      · rename_i h1 h2
        refine List.pairwise_cons.mpr ⟨fun z hz => ?_, insU_pw x r h'.2⟩
        rcases (insU_mem x z r).mp hz with rfl | hz
        · omega
        · exact h'.1 z hz
theorem usort_pw : ∀ l : List Int, (usort l).Pairwise (· < ·)
  | [] => by simp [usort]
  | x :: r => insU_pw x _ (usort_pw r)
theorem pw_uniq : ∀ {a b : List Int}, a.Pairwise (· < ·) → b.Pairwise (· < ·) → (∀ k, k ∈ a ↔ k ∈ b) → a = b
  | [], [], _, _, _ => rfl
  | [], y :: b, _, _, h => by have := (h y).mpr List.mem_cons_self; cases this
  | x :: a, [], _, _, h => by have := (h x).mp List.mem_cons_self; cases this
  | x :: a, y :: b, ha, hb, h => by
    have ha' := List.pairwise_cons.mp ha
    have hb' := List.pairwise_cons.mp hb
    have exy : x = y := by
      rcases List.mem_cons.mp ((h x).mp List.mem_cons_self) with e | e
      · exact e
      · rcases List.mem_cons.mp ((h y).mpr List.mem_cons_self) with e2 | e2
        · exact e2.symm
        · have := ha'.1 y e2; have := hb'.1 x e; omega
    subst exy
    congr 1
    refine pw_uniq ha'.2 hb'.2 fun k => ⟨fun hk => ?_, fun hk => ?_⟩
    · rcases List.mem_cons.mp ((h k).mp (List.mem_cons_of_mem _ hk)) with e | e
      · subst e; have := ha'.1 _ hk; omega
      · exact e
    · rcases List.mem_cons.mp ((h k).mpr (List.mem_cons_of_mem _ hk)) with e | e
      · subst e; have := hb'.1 _ hk; omega
      · exact e
section
variable {X : Cx} {c : Ct} {a : Expr} {sa : Bool} {ra : Ga → Sto → R D} {pos : Pos}
theorem sset_key (hK : X.K = c.K) {S : Sa} {γ : Ga} {μ : Sto} {σ : L2.St} {H : Hp} {d : D} {v : V} {Q : VK} {z : D} (g : Good c S γ μ σ H) (r : RelW c.K T0 S H d v) (hz : ssetD d = some z) (q : Aft c true S μ H γ σ Q z μ) :
    rSetLi X.K X.w [v] H fun v1 H1 => rSortedSet X.w [v1] H1 Q := by
  obtain ⟨xs, rfl⟩ : ∃ xs, d = .lst xs := by
    cases d with
    | lst xs => exact ⟨xs, rfl⟩
    | _ => simp only [ssetD, reduceCtorEq] at hz
  simp only [ssetD, Option.bind_eq_some_iff, Option.ite_none_right_eq_some, Bool.and_eq_true, decide_eq_true_eq, Option.some.injEq] at hz
  obtain ⟨is, e1, ⟨hl, h64⟩, rfl⟩ := hz
  obtain ⟨l, ws, rfl, sq, rs⟩ := rw_lst r
  refine ⟨l, is, usort is, rfl, by rw [hK, ← ints_of e1 rs]; exact sq, hl, fun x hx => (usort_mem x is).mpr hx, h64, fun p n hp hn => ?_⟩
  obtain ⟨s1, ok⟩ := step_new (c := c) (o := SetO X.w p (fun j => decide (j ∈ is)) n) g.st hp
  have g1 := g.step s1 ok
  refine ⟨p, _, n, rfl, upd_same, hn, fun ns p2 hpw hmem hlen hp2 => ?_⟩
  have e : ns = usort is := pw_uniq hpw (usort_pw is) fun k => by rw [hmem k, usort_mem, decide_eq_true_eq]
  subst e
  exact fin_lst g1 (Aft.step (r := .ok _ _) (W := c.V) q s1) (rels_intsL _) p2 hp2
theorem snd_sset {p p3 p4 : Pos} (hK : X.K = c.K) (hc : X.calm = true) (hg : Gl X "sorted") (hm : X.mg "sorted" = none) (hg2 : Gl X "set") (hm2 : X.mg "set" = none) (ha : PE X a (TEn c sa ra)) (hs : nst a = true) :
    PE X (.Call (.Name "sorted" p) [.Call (.Name "set" p3) [a] [] p4] [] pos) (TEn c true fun γ μ => (ra γ μ).bind fun x μ => orO (ssetD x) (ssetD (dr μ x)) μ) := by
  have k1 : PE X (.Call (.Name "set" p3) [a] [] p4) (tCB (rSetLi X.K X.w) _) := pe_callTy (cr_setL hc) hg2 hm2 PyProof.Rows.boot_set (pa_cons (PEweak ha) pa_nil (star_cons hs)) (by decide +kernel) (by decide +kernel) (star_cons hs) rfl
  have hn : nst (.Call (.Name "set" p3) [a] [] p4) = true := rfl
  refine (pe_callB (cr_sortedSet hc) hg hm (bi_boot .sorted) (pa_cons k1 pa_nil (star_cons hn)) (by decide +kernel) (by decide +kernel) (star_cons hn) rfl).imp fun σ H Q w => ?_
  obtain ⟨S, γ, μ, g, h⟩ := w
  rw [R.All_bind] at h
  refine ⟨S, γ, μ, g, h.mono (fun d μ1 h => ?_) fun _ _ _ w => w⟩
  intro S1 v H1 g1 s1 r1
  have h := Aft.step h s1
  have r1 := RelW.zero r1
  cases z : ssetD d with
  | some d' => rw [z] at h; exact sset_key hK g1 r1 z h
  | none =>
    rw [z] at h
    obtain ⟨z', hz', q⟩ := ofO_some (μ := μ1) (o := ssetD (dr μ1 d)) h
    exact sset_key hK g1 (r1.dr g1) hz' q
end
end Bs
/-! Bs: the checker of expressions; every expression that it takes is sound. -/
namespace Bs
open PySem L2
structure FnI where
  name : Str
  ps : List Str
  fr : Bool
structure Sh where
  f : Nat
  na : Nat
  ks : List Str
  pm : List Nat
deriving DecidableEq
structure Nm where
  N : List Str
  fns : List FnI
  gls : List Str
  shs : List Sh
  xcs : List (Nat × List Nat)
inductive Md where | v | t | i (tg : Expr)
def visB (sc : Scope) (x : Str) : Bool := match sc.names.lookup x with
  | some .local => true
  | some .cell => true
  | some .free => true
  | _ => false
def glB (sc : Scope) (x : Str) : Bool := decide (sc.names.lookup x = some .globalImplicit)
def okN (x : Str) : Bool := !(x == ("__debug__" : Str)) && !(x == ("__classdict__" : Str))
def bltL : List Str := ["len", "abs", "max", "min", "int", "str", "list", "tuple", "sum", "any", "all", "isinstance", "range", "enumerate", "zip", "bool", "dict", "sorted", "set"]
/-! views -/
def asName : Expr → Option Str
  | .Name y _ => some y
  | _ => none
theorem asName_eq {x : Expr} {y : Str} (h : asName x = some y) : ∃ p, x = .Name y p := by
  cases x <;> first | (cases h; exact ⟨_, rfl⟩) | cases h
def asBin : Expr → Option (Expr × Operator × Expr)
  | .BinOp a o b _ => some (a, o, b)
  | _ => none
theorem asBin_eq {x a b : Expr} {o : Operator} (h : asBin x = some (a, o, b)) : ∃ p, x = .BinOp a o b p := by
  cases x <;> first | (cases h; exact ⟨_, rfl⟩) | cases h
def asUn : Expr → Option (UnaryOp × Expr)
  | .UnaryOp o a _ => some (o, a)
  | _ => none
theorem asUn_eq {x a : Expr} {o : UnaryOp} (h : asUn x = some (o, a)) : ∃ p, x = .UnaryOp o a p := by
  cases x <;> first | (cases h; exact ⟨_, rfl⟩) | cases h
def asCmp : Expr → Option (Expr × List CmpOp × List Expr)
  | .Compare a os bs _ => some (a, os, bs)
  | _ => none
theorem asCmp_eq {x a : Expr} {os : List CmpOp} {bs : List Expr} (h : asCmp x = some (a, os, bs)) : ∃ p, x = .Compare a os bs p := by
  cases x <;> first | (cases h; exact ⟨_, rfl⟩) | cases h
/-- the first and what is left (a BoolOp again where more than one) -/
def asBool : Expr → Option (BoolOp × Expr × Expr)
  | .BoolOp o [a, b] _ => some (o, a, b)
  | .BoolOp o (a :: b :: d :: r) p => some (o, a, .BoolOp o (b :: d :: r) p)
  | _ => none
theorem asBool_eq {x a b : Expr} {o : BoolOp} (h : asBool x = some (o, a, b)) : ∃ p, x = .BoolOp o [a, b] p ∨ ∃ b' d r, x = .BoolOp o (a :: b' :: d :: r) p ∧ b = .BoolOp o (b' :: d :: r) p := by
  cases x with
  | BoolOp o' l p =>
    match l, h with
    | [a', b'], h => cases h; exact ⟨p, .inl rfl⟩
    | a' :: b' :: d :: r, h => cases h; exact ⟨p, .inr ⟨_, _, _, rfl, rfl⟩⟩
  | _ => cases h
def asIf : Expr → Option (Expr × Expr × Expr)
  | .IfExp a b c _ => some (a, b, c)
  | _ => none
theorem asIf_eq {x a b c : Expr} (h : asIf x = some (a, b, c)) : ∃ p, x = .IfExp a b c p := by
  cases x <;> first | (cases h; exact ⟨_, rfl⟩) | cases h
def asTup : Expr → Option (List Expr)
  | .Tuple es _ _ => some es
  | _ => none
theorem asTup_eq {x : Expr} {es : List Expr} (h : asTup x = some es) : ∃ k p, x = .Tuple es k p := by
  cases x <;> first | (cases h; exact ⟨_, _, rfl⟩) | cases h
def asLst : Expr → Option (List Expr)
  | .List es _ => some es
  | _ => none
theorem asLst_eq {x : Expr} {es : List Expr} (h : asLst x = some es) : ∃ p, x = .List es p := by
  cases x <;> first | (cases h; exact ⟨_, rfl⟩) | cases h
def asDic1 : Expr → Option (Expr × Expr)
  | .Dict [some a] [b] _ => some (a, b)
  | _ => none
theorem asDic1_eq {x a b : Expr} (h : asDic1 x = some (a, b)) : ∃ p, x = .Dict [some a] [b] p := by
  cases x with
  | Dict ks vs p =>
    match ks, vs, h with
    | [some a'], [b'], h => cases h; exact ⟨p, rfl⟩
  | _ => cases h
def asDic : Expr → Option (List (Option Expr) × List Expr)
  | .Dict ks vs _ => some (ks, vs)
  | _ => none
theorem asDic_eq {x : Expr} {ks : List (Option Expr)} {vs : List Expr} (h : asDic x = some (ks, vs)) : ∃ p, x = .Dict ks vs p := by
  cases x <;> first | (cases h; exact ⟨_, rfl⟩) | cases h
def asSub : Expr → Option (Expr × Expr)
  | .Subscript a i _ => some (a, i)
  | _ => none
theorem asSub_eq {x a b : Expr} (h : asSub x = some (a, b)) : ∃ p, x = .Subscript a b p := by
  cases x <;> first | (cases h; exact ⟨_, rfl⟩) | cases h
def isDic0 : Expr → Bool
  | .Dict [] [] _ => true
  | _ => false
theorem isDic0_eq {x : Expr} (h : isDic0 x = true) : ∃ p, x = .Dict [] [] p := by
  unfold isDic0 at h
  split at h
  · exact ⟨_, rfl⟩
  · cases h
/-- a[::-1] -/
def asRev : Expr → Option Expr
  | .Subscript a (.Slice none none (some (.UnaryOp .USub (.Constant (.int 1) _ _) _)) _) _ => some a
  | _ => none
theorem asRev_eq {x a : Expr} (h : asRev x = some a) : ∃ k p1 p2 p3 pos, x = .Subscript a (.Slice none none (some (.UnaryOp .USub (.Constant (.int 1) k p1) p2)) p3) pos := by
  unfold asRev at h
  split at h
  · cases h; exact ⟨_, _, _, _, _, rfl⟩
  · cases h
def asSlc : Expr → Option (Option Expr × Option Expr)
  | .Slice lo hi none _ => some (lo, hi)
  | _ => none
theorem asSlc_eq {x : Expr} {a b : Option Expr} (h : asSlc x = some (a, b)) : ∃ p, x = .Slice a b none p := by
  cases x with
  | Slice lo hi st p =>
    cases st with
    | none => cases h; exact ⟨p, rfl⟩
    | some _ => cases h
  | _ => cases h
def asCall : Expr → Option (Str × List Expr × List Keyword)
  | .Call (.Name f _) es ks _ => some (f, es, ks)
  | _ => none
theorem asCall_eq {x : Expr} {f : Str} {es : List Expr} {ks : List Keyword} (h : asCall x = some (f, es, ks)) : ∃ p p2, x = .Call (.Name f p) es ks p2 := by
  cases x with
  | Call g as kws p2 =>
    cases g with
    | Name y p => cases h; exact ⟨p, p2, rfl⟩
    | _ => cases h
  | _ => cases h
def asMeth1 : Expr → Option (Expr × Str × Expr)
  | .Call (.Attribute o m apos) [e] [] pos => if apos.endLine == pos.line then some (o, m, e) else none
  | _ => none
theorem asMeth1_eq {x o e : Expr} {m : Str} (h : asMeth1 x = some (o, m, e)) : ∃ apos pos, x = .Call (.Attribute o m apos) [e] [] pos ∧ (apos.endLine == pos.line) = true := by
  cases x with
  | Call g as kws p2 =>
    cases g with
    | Attribute o' m' ap =>
      match as, kws, h with
      | [e'], [], h =>
        have h' : (if (ap.endLine == p2.line) = true then some (o', m', e') else none) = some (o, m, e) := h
        by_cases z : (ap.endLine == p2.line) = true
        · rw [if_pos z] at h'; cases h'; exact ⟨ap, p2, rfl, z⟩
        · rw [if_neg z] at h'; cases h'
    | _ => cases h
  | _ => cases h
def asMeth0 : Expr → Option (Expr × Str)
  | .Call (.Attribute o m apos) [] [] pos => if apos.endLine == pos.line then some (o, m) else none
  | _ => none
theorem asMeth0_eq {x o : Expr} {m : Str} (h : asMeth0 x = some (o, m)) : ∃ apos pos, x = .Call (.Attribute o m apos) [] [] pos ∧ (apos.endLine == pos.line) = true := by
  cases x with
  | Call g as kws p2 =>
    cases g with
    | Attribute o' m' ap =>
      match as, kws, h with
      | [], [], h =>
        have h' : (if (ap.endLine == p2.line) = true then some (o', m') else none) = some (o, m) := h
        by_cases z : (ap.endLine == p2.line) = true
        · rw [if_pos z] at h'; cases h'; exact ⟨ap, p2, rfl, z⟩
        · rw [if_neg z] at h'; cases h'
    | _ => cases h
  | _ => cases h
def asLc1 : Expr → Option (Expr × Expr × Expr × List Expr × Scope)
  | .ListComp e [⟨tg, it, ifs, 0⟩] sc _ => some (e, tg, it, ifs, sc)
  | _ => none
theorem asLc1_eq {x e tg it : Expr} {ifs : List Expr} {sc : Scope} (h : asLc1 x = some (e, tg, it, ifs, sc)) : ∃ p, x = .ListComp e [⟨tg, it, ifs, 0⟩] sc p := by
  cases x with
  | ListComp e' gs sc' p =>
    match gs, h with
    | [⟨tg', it', ifs', 0⟩], h => cases h; exact ⟨p, rfl⟩
  | _ => cases h
def asLc2 : Expr → Option (Expr × (Expr × Expr × List Expr) × (Expr × Expr × List Expr) × Scope)
  | .ListComp e [⟨tg, it, ifs, 0⟩, ⟨tg1, it1, ifs1, 0⟩] sc _ => some (e, (tg, it, ifs), (tg1, it1, ifs1), sc)
  | _ => none
theorem asLc2_eq {x e tg it tg1 it1 : Expr} {ifs ifs1 : List Expr} {sc : Scope} (h : asLc2 x = some (e, (tg, it, ifs), (tg1, it1, ifs1), sc)) : ∃ p, x = .ListComp e [⟨tg, it, ifs, 0⟩, ⟨tg1, it1, ifs1, 0⟩] sc p := by
  cases x with
  | ListComp e' gs sc' p =>
    match gs, h with
    | [⟨tg', it', ifs', 0⟩, ⟨tg1', it1', ifs1', 0⟩], h => cases h; exact ⟨p, rfl⟩
  | _ => cases h
def conIs : D → Expr → Bool
  | .int i, .Constant (.int j) _ _ => decide (i = j)
  | .bl b, .Constant (.bool b') _ _ => decide (b = b')
  | .non, .Constant .none _ _ => true
  | .str s, .Constant (.str y) _ _ => decide (y.cps.toList = s) && s.all (fun c => decide (c < 128)) && decide (s.length ≤ 1000000)
  | _, _ => false
/-- is what it gives frozen at the top -/
def sg : E → Bool
  | .ovar _ => false
  | .odic _ => false
  | .and a b => sg a && sg b
  | .or a b => sg a && sg b
  | .ite _ a b => sg a && sg b
  | .enu a => sg a
  | .zip a b => sg a && sg b
  | _ => true
def fresh (n : Nm) : E → Bool
  | .lst _ => true
  | .lc _ _ _ _ => true
  | .lc2 _ _ _ _ _ _ _ => true
  | .lop _ _ _ => true
  | .bi b _ => decide (b = .list)
  | .call f _ _ _ => match n.fns[f]? with
    | some I => I.fr
    | none => false
  | _ => false
def modeOk : Md → Expr → Bool
  | .v, _ => true
  | .t, x => pT x
  | .i _, x => noSet x
/-- a name that may be stored -/
def stoB (N : List Str) (sc : Scope) (F : Str → Bool) (i : Nat) (x : Str) : Bool := decide (N[i]? = some x) && (decide (sc.names.lookup x = some .local) || (decide (sc.names.lookup x = some .cell) && F x))
def tgsB (N : List Str) (sc : Scope) (F : Str → Bool) : List Nat → List Expr → Bool
  | [], [] => true
  | i :: is, .Name x _ :: r => stoB N sc F i x && tgsB N sc F is r
  | _, _ => false
def tgB (N : List Str) (sc : Scope) (F : Str → Bool) : List Nat → Expr → Bool
  | [i], .Name x _ => stoB N sc F i x
  | is, .Tuple es _ _ => decide (2 ≤ is.length) && tgsB N sc F is es
  | _, _ => false
def relF (scope : Scope) : Str → Bool := fun x => scope.names.lookup x == some .cell
def isTup2 : Expr → Bool
  | .Tuple _ _ _ => true
  | _ => false
def ownL (N : List Str) (t : List Nat) : List (Str × Nat) := t.filterMap fun i => (N[i]?).map fun x => (x, i)
def blkB (N : List Str) (sc scope : Scope) (t : List Nat) : Bool := blkC N sc scope (ownL N t) && decide ((ownL N t).map (·.2) = t)
mutual
def chk (n : Nm) : E → Scope → (Str → Bool) → Md → Expr → Bool
  | .var i, sc, F, m, x => modeOk m x && match asName x with
    | some y => decide (n.N[i]? = some y) && visB sc y && okN y
    | none => false
  | .ovar i, sc, F, m, x => modeOk m x && match asName x with
    | some y => decide (n.N[i]? = some y) && visB sc y && okN y
    | none => false
  | .odic i, sc, F, m, x => modeOk m x && match asName x with
    | some y => decide (n.N[i]? = some y) && visB sc y && okN y
    | none => false
  | .con d, sc, F, m, x => modeOk m x && conIs d x
  | .glb g, sc, F, m, x => modeOk m x && match asName x with
    | some y => decide (n.gls[g]? = some y) && glB sc y && okN y
    | none => false
  | .bin o a b, sc, F, m, x => modeOk m x && match asBin x with
    | some (p, op, q) => decide (op = bopOf o) && chk n a sc F .v p && chk n b sc F .v q
    | none => false
  | .lop o a b, sc, F, m, x => modeOk m x && match asBin x with
    | some (p, op, q) => decide (op = bopOf o) && chk n a sc F .v p && chk n b sc F .v q
    | none => false
  | .sto e, sc, F, m, x => modeOk m x && chk n e sc F .v x && fresh n e
  | .popl a e, sc, F, m, x => modeOk m x && match asMeth1 x with
    | some (p, nm, q) => decide (nm = "pop") && chk n a sc F .v p && chk n e sc F .v q && noCall p && nst q
    | none => false
  | .pop0 a, sc, F, m, x => modeOk m x && match asMeth0 x with
    | some (p, nm) => decide (nm = "pop") && chk n a sc F .v p && noCall p
    | none => false
  | .neg a, sc, F, m, x => modeOk m x && match asUn x with
    | some (op, p) => decide (op = .USub) && chk n a sc F .v p
    | none => false
  | .cmp o a b, sc, F, m, x => (match m with | .i _ => false | _ => true) && match asCmp x with
    | some (p, [op], [q]) => decide (op = cmOf o) && chk n a sc F .v p && chk n b sc F .v q && !(behindInMarks op q)
    | _ => false
  | .chn o o' a b d, sc, F, m, x => (match m with | .i _ => false | _ => true) && match asCmp x with
    | some (p, [op, op'], [q, r]) => decide (op = cmOf o) && decide (op' = cmOf o') && chk n a sc F .v p && chk n b sc F .v q && chk n d sc F .v r && !(lastMarks [op, op'] [q, r])
    | _ => false
  | .not a, sc, F, m, x => (match m with | .i _ => false | _ => true) && match asUn x with
    | some (op, p) => decide (op = .Not) && chk n a sc F m p
    | none => false
  | .and a b, sc, F, m, x => (match m with | .i _ => false | _ => true) && match asBool x with
    | some (op, p, q) => decide (op = .And) && chk n a sc F m p && chk n b sc F m q
    | none => false
  | .or a b, sc, F, m, x => (match m with | .i _ => false | _ => true) && match asBool x with
    | some (op, p, q) => decide (op = .Or) && chk n a sc F m p && chk n b sc F m q
    | none => false
  | .ite d a b, sc, F, m, x => modeOk m x && match asIf x with
    | some (p, q, r) => chk n d sc F .t p && chk n a sc F .v q && chk n b sc F .v r
    | none => false
  | .tup es, sc, F, m, x => modeOk m x && match asTup x with
    | some xs => isEs n es sc F xs && es.all sg && decide (es.length ≤ 1000)
    | none => false
  | .lst es, sc, F, m, x => modeOk m x && match asLst x with
    | some xs => isEs n es sc F xs && es.all sg && decide (es.length ≤ 1000)
    | none => false
  | .new es, sc, F, m, x => modeOk m x && match asLst x with
    | some xs => isEs n es sc F xs && es.all sg && decide (es.length ≤ 1000)
    | none => false
  | .dsp1 a b, sc, F, m, x => modeOk m x && match asDic1 x with
    | some (p, q) => chk n a sc F .v p && chk n b sc F .v q && sg a && sg b
    | none => false
  | .dsp kvs, sc, F, m, x => modeOk m x && match asDic x with
    | some (ks, vs) => isPs n kvs sc F ks vs && decide (1 ≤ ks.length) && decide (ks.length ≤ 15)
    | none => false
  | .ix a b, sc, F, m, x => modeOk m x && match asSub x with
    | some (p, q) => chk n a sc F .v p && chk n b sc F .v q && pIx q
    | none => false
  | .sl a lo hi, sc, F, m, x => modeOk m x && match asSub x with
    | some (p, q) => chk n a sc F .v p && match asSlc q with
      | some (l, h) => isO n lo sc F l && isO n hi sc F h
      | none => false
    | none => false
  | .call f es ks pm, sc, F, m, x => modeOk m x && match asCall x, n.fns[f]? with
    | some (y, xs, kws), some I => decide (y = I.name) && glB sc y && okN y && isEs n es sc F xs && es.all sg && isKs n ks sc F kws && ks.all sg && decide ((⟨f, es.length, kwN kws, pm⟩ : Sh) ∈ n.shs)
    | _, _ => false
  | .bi b es, sc, F, m, x => modeOk m x && match asCall x with
    | some (y, xs, []) => decide (y = biName b) && glB sc y && isEs n es sc F xs && !xs.isEmpty
    | _ => false
  | .mt mm a e, sc, F, m, x => modeOk m x && match asMeth1 x with
    | some (p, nm, q) => decide (nm = mtName mm) && chk n a sc F .v p && chk n e sc F .v q && noCall p && nst q
    | none => false
  | .dsp0, sc, F, m, x => modeOk m x && isDic0 x
  | .rng3 e e2 e3, sc, F, m, x => match m, asCall x with
    | .i _, some (y, [p, q, r], []) => decide (y = "range") && glB sc y && chk n e sc F .v p && nst p && chk n e2 sc F .v q && nst q && chk n e3 sc F .v r && nst r
    | _, _ => false
  | .sset a, sc, F, m, x => modeOk m x && match asCall x with
    | some (y, [p], []) => decide (y = "sorted") && glB sc y && (match asCall p with
      | some (y2, [q], []) => decide (y2 = "set") && glB sc y2 && chk n a sc F .v q && nst q
      | _ => false)
    | _ => false
  | .tidx g e, sc, F, m, x => modeOk m x && match asMeth1 x with
    | some (p, nm, q) => decide (nm = "index") && chk n e sc F .v q && nst q && noCall p && (match asName p with
      | some y => decide (n.gls[g]? = some y) && glB sc y && okN y
      | none => false)
    | none => false
  | .rev a, sc, F, m, x => modeOk m x && match asRev x with
    | some p => chk n a sc F .v p
    | none => false
  | .rvl a, sc, F, m, x => modeOk m x && match asRev x with
    | some p => chk n a sc F .v p
    | none => false
  | .kys a, sc, F, m, x => match m with
    | .i _ => chk n a sc F .v x && sg a
    | _ => false
  | .dcp a, sc, F, m, x => modeOk m x && match asCall x with
    | some (y, [p], []) => decide (y = "dict") && glB sc y && chk n a sc F .v p && nst p
    | _ => false
  | .mrg a k v, sc, F, m, x => false
  | .isi a ts, sc, F, m, x => modeOk m x && match asCall x with
    | some (y, [p, q], []) => decide (y = "isinstance") && glB sc y && chk n a sc F .v p && nst p && ts.all (fun t => glB sc (tyStr t)) && !ts.isEmpty && decide (ts.length ≤ 100) && (match asTup q with
      | some qs => decide (qs.length = ts.length) && (qs.zip ts).all (fun p => isTyN p.2 p.1)
      | none => match ts with
        | [t] => isTyN t q
        | _ => false)
    | _ => false
  | .rng1 e, sc, F, m, x => match m, asCall x with
    | .i _, some (y, [p], []) => decide (y = "range") && glB sc y && chk n e sc F .v p && nst p
    | _, _ => false
  | .rng2 e e2, sc, F, m, x => match m, asCall x with
    | .i _, some (y, [p, q], []) => decide (y = "range") && glB sc y && chk n e sc F .v p && nst p && chk n e2 sc F .v q && nst q
    | _, _ => false
  | .enu a, sc, F, m, x => match m, asCall x with
    | .i tg, some (y, [p], []) => decide (y = "enumerate") && glB sc y && chk n a sc F .v p && nst p && isTup2 tg
    | _, _ => false
  | .zip a b, sc, F, m, x => match m, asCall x with
    | .i tg, some (y, [p, q], []) => decide (y = "zip") && glB sc y && chk n a sc F .v p && nst p && chk n b sc F .v q && nst q && isTup2 tg
    | _, _ => false
  | .lc t it d e, sc, F, m, x => modeOk m x && match asLc1 x with
    | some (elt, tg, itx, ifs, scope) => chk n it sc F (.i tg) itx && noSet itx && blkB n.N sc scope t && tgB n.N (relS scope sc) (relF scope) t tg && isC n d (relS scope sc) (relF scope) ifs && chk n e (relS scope sc) (relF scope) .v elt && sg e
    | none => false
  | .lc2 t it d t2 it2 d2 e, sc, F, m, x => modeOk m x && match asLc2 x with
    | some (elt, (tg, itx, ifs), (tg1, itx1, ifs1), scope) => chk n it sc F (.i tg) itx && noSet itx && blkB n.N sc scope (t ++ t2) && tgB n.N (relS scope sc) (relF scope) t tg && isC n d (relS scope sc) (relF scope) ifs && chk n e (relS scope sc) (relF scope) .v elt && sg e &&
       (chk n it2 (relS scope sc) (relF scope) (.i tg1) itx1 && noSet itx1 && sg it2 && tgB n.N (relS scope sc) (relF scope) t2 tg1 && isC n d2 (relS scope sc) (relF scope) ifs1)
    | none => false
def isO (n : Nm) : Option E → Scope → (Str → Bool) → Option Expr → Bool
  | none, _, _, x => x.isNone
  | some e, sc, F, x => match x with
    | some y => chk n e sc F .v y
    | none => false
def isC (n : Nm) : Option E → Scope → (Str → Bool) → List Expr → Bool
  | none, _, _, xs => xs.isEmpty
  | some e, sc, F, xs => match xs with
    | [y] => chk n e sc F .t y
    | _ => false
def isEs (n : Nm) : List E → Scope → (Str → Bool) → List Expr → Bool
  | [], _, _, xs => xs.isEmpty
  | e :: es, sc, F, xs => match xs with
    | y :: ys => chk n e sc F .v y && nst y && isEs n es sc F ys
    | [] => false
def isPs (n : Nm) : List (E × E) → Scope → (Str → Bool) → List (Option Expr) → List Expr → Bool
  | [], _, _, ks, vs => ks.isEmpty && vs.isEmpty
  | q :: r, sc, F, ks, vs => match ks, vs with
    | some k :: ks, v :: vs => isP n q sc F k v && isPs n r sc F ks vs
    | _, _ => false
def isP (n : Nm) : E × E → Scope → (Str → Bool) → Expr → Expr → Bool
  | (a, b), sc, F, k, v => chk n a sc F .v k && chk n b sc F .v v && sg a && sg b
def isKs (n : Nm) : List E → Scope → (Str → Bool) → List Keyword → Bool
  | [], _, _, xs => xs.isEmpty
  | e :: es, sc, F, xs => match xs with
    | ⟨some _, y, _⟩ :: ys => chk n e sc F .v y && isKs n es sc F ys
    | _ => false
end
end Bs
/-! Bs: expressions are sound. -/
namespace Bs
open PySem L2
structure XOk (c : Ct) (n : Nm) (gl : Nat → Option D) (cl : Nat → List D → Sto → R D) (k : Nat) (sc : Scope) (F : Str → Bool) (X : Cx) : Prop where
  hK : X.K = c.K
  nN : X.N = n.N
  nd : X.N.Nodup
  scp : X.env.scope = sc
  fn : ∀ x, F x = true → X.fn x = true
  calm : X.calm = true
  z0 : ∀ a, c.S0 a → c.H0 a ≠ none
  tk : Takes X (WV c)
  room : Room k X.A
  blt : ∀ x, x ∈ bltL → X.mg x = none
  gls : ∀ (g : Nat) x d, n.gls[g]? = some x → gl g = some d → ∃ u v, X.mg x = some u ∧ RelV v u ∧ ∀ S H, Rel c.K S H d v
  glx : ∀ (g : Nat) x, n.gls[g]? = some x → ∃ d, gl g = some d
  fns : ∀ (f : Nat) I, n.fns[f]? = some I → ∃ a fd, X.mg I.name = some (.ref a) ∧ PySem.W.keepIn X.K (.ref a) = true ∧ FnOk X.prog X.w X.K X.mg X.base (L2.CX X.prog X.w) k a fd I.ps (spF X.K (cl f) I.ps.length I.fr) ∧
    ∀ sh ∈ n.shs, sh.f = f → (∀ (s : Shared) (us ws : List Value), X.K.In s.heap → us.length = sh.na → ws.length = sh.ks.length → BindsTo s fd ⟨us, sh.ks.zip ws⟩ (I.ps.zip (arr sh.pm (us ++ ws)))) ∧ ∀ ds : List D, ds.length = sh.na + sh.ks.length → (arr sh.pm ds).length = I.ps.length
section
variable {c : Ct} {n : Nm} {gl : Nat → Option D} {cl : Nat → List D → Sto → R D} {k : Nat} {sc : Scope} {F : Str → Bool} {X : Cx}
theorem takes_nv {X : Cx} {c : Ct} : Takes X (WV c.nv) := fun _ _ x => by
  obtain ⟨_, _, _, _, _, _, _, _, _, _, _, _, _, _, _, _, w⟩ := x
  obtain ⟨_, _, _, _, _, _, z⟩ := w
  exact z.elim
theorem XOk.blk (h : XOk c n gl cl k sc F X) (s : Shared) (H : Hp) (scope : Scope) (C : Addr) (cs : List (Str × Addr)) (fp : List Addr) : XOk c.nv n gl cl k (relS scope sc) (relF scope) (X.blk s H scope (compEnvC scope cs C X.env) fp) :=
  ⟨h.hK, h.nN, h.nd, by rw [← h.scp]; rfl, fun x z => z, h.calm, h.z0, takes_nv, h.room, h.blt, h.gls, h.glx, h.fns⟩
theorem XOk.gl' (h : XOk c n gl cl k sc F X) {x : Str} (e : glB sc x = true) : Gl X x := by
  have := of_decide_eq_true e
  unfold Gl Env.kindOf
  rw [h.scp]; exact this
theorem XOk.vis (h : XOk c n gl cl k sc F X) {x : Str} (e : visB sc x = true) : Vis X.env.scope x := by
  rw [h.scp]
  unfold visB at e
  unfold Vis
  split at e <;> first | (rename_i z; simp [z]; done) | cases e
theorem XOk.sto (h : XOk c n gl cl k sc F X) {i : Nat} {x : Str} (e : stoB n.N sc F i x = true) : Sto1 X i x := by
  unfold stoB at e
  simp only [Bool.and_eq_true, Bool.or_eq_true, decide_eq_true_eq] at e
  obtain ⟨e1, e2⟩ := e
  refine ⟨by rw [h.nN]; exact e1, ?_, ?_⟩
  · rw [h.scp]; rcases e2 with e2 | e2
    · exact .inl e2
    · exact .inr e2.1
  · rw [h.scp]; rcases e2 with e2 | e2
    · exact .inr e2
    · exact .inl (h.fn x e2.2)
theorem XOk.tgs (h : XOk c n gl cl k sc F X) : ∀ {is : List Nat} {es : List Expr}, tgsB n.N sc F is es = true → nmsIs X is es
  | [], [], _ => rfl
  | [], _ :: _, e => by simp [tgsB] at e
  | _ :: _, [], e => by simp [tgsB] at e
  | i :: is, y :: r, e => by
    cases y with
    | Name x p =>
      have e' : (stoB n.N sc F i x && tgsB n.N sc F is r) = true := e
      rw [Bool.and_eq_true] at e'
      exact ⟨x, p, r, rfl, h.sto e'.1, h.tgs e'.2⟩
    | _ => exact absurd e (by simp [tgsB])
theorem XOk.tg (h : XOk c n gl cl k sc F X) {is : List Nat} {y : Expr} (e : tgB n.N sc F is y = true) : PG X y (TGn c is) := by
  unfold tgB at e
  split at e
  · exact sndG_name h.nd (h.sto e)
  · rw [Bool.and_eq_true, decide_eq_true_eq] at e
    exact sndG_tup h.hK h.calm h.nd (h.tgs e.2) e.1
  · cases e
theorem blk_of {N : List Str} {sc' scope : Scope} {t : List Nat} (e : blkB N sc' scope t = true) : BlkOk N sc' scope (ownL N t) ∧ (ownL N t).map (·.2) = t := by
  unfold blkB at e
  rw [Bool.and_eq_true, decide_eq_true_eq] at e
  exact ⟨blkOk_by e.1, e.2⟩
variable (c n gl cl)
def Post (X : Cx) (e : E) (x : Expr) : Md → Prop
  | .v => PE X x (TEn c (sg e) (denE gl cl e)) ∧ (fresh n e = true → PE X x (TFn c (denE gl cl e)))
  | .t => PT X x (TTn c fun γ μ => (denE gl cl e γ μ).bind truthR) ∧ (∀ op l p, x = .BoolOp op l p → PW X x (TTn c fun γ μ => (denE gl cl e γ μ).bind truthR))
  | .i tg => PI X tg x (TIn c (sg e) fun γ μ => (denE gl cl e γ μ).bind itemsR)
variable {c n gl cl}
theorem post_of {e : E} {x : Expr} {m : Md} (ok : XOk c n gl cl k sc F X) (hm : modeOk m x = true) (h : PE X x (TEn c (sg e) (denE gl cl e))) (hf : fresh n e = true → PE X x (TFn c (denE gl cl e))) : Post c n gl cl X e x m := by
  cases m with
  | v => exact ⟨h, hf⟩
  | t => exact ⟨sndT_plain ok.hK h (plainT hm), fun op l p e => by subst e; cases hm⟩
  | i tg => exact sndI_src ok.hK h
theorem con_of {d : D} {x : Expr} (h : conIs d x = true) : PE X x (TEn c true fun _ μ => .ok d μ) := by
  cases x with
  | Constant k j p =>
    cases k with
    | int i => cases d with
      | int i' => cases (of_decide_eq_true h); exact snd_c pe_int fun _ _ => rfl
      | _ => exact absurd h (by simp [conIs])
    | bool b => cases d with
      | bl b' => cases (of_decide_eq_true h); exact snd_c pe_bl fun _ _ => rfl
      | _ => exact absurd h (by simp [conIs])
    | none => cases d with
      | non => exact snd_c pe_non fun _ _ => rfl
      | _ => exact absurd h (by simp [conIs])
    | str y => cases d with
      | str s =>
        have h' : (decide (y.cps.toList = s) && s.all (fun c => decide (c < 128)) && decide (s.length ≤ 1000000)) = true := h
        simp only [Bool.and_eq_true, decide_eq_true_eq, List.all_eq_true] at h'
        obtain ⟨⟨h1, h2⟩, h3⟩ := h'
        refine snd_c pe_str fun _ _ => ⟨?_, h3, h2⟩
        subst h1
        rfl
      | _ => exact absurd h (by simp [conIs])
    | _ => cases d <;> exact absurd h (by simp [conIs])
  | _ => cases d <;> exact absurd h (by simp [conIs])
theorem denEs_len : ∀ (es : List E) (γ : Ga) (μ : Sto), (denEs gl cl es γ μ).Sat fun ds => ds.length = es.length
  | [], _, _ => by simp [denEs, R.Sat]
  | e :: es, γ, μ => by
    simp only [denEs]
    exact R.Sat.bind fun x μ => R.Sat.bind' (denEs_len es γ μ) fun xs μ h => by simp [R.Sat, h]
theorem sat_imp {α : Type} {r : R α} {P Q : α → Prop} (h : r.Sat P) (i : ∀ a, P a → Q a) : r.Sat Q := by
  induction r with
  | ok a μ => exact i a h
  | exc _ _ _ => trivial
  | fail => trivial
  | any P k ih => exact fun p hp => ih p (h p hp)
theorem PTs.of_none : PTs X [] (TTn c fun _ μ => .ok true μ) := ⟨fun pins s σ H Q I w => pts_nil.run pins s σ H Q I (by obtain ⟨S, γ, μ, g, h⟩ := w; exact h S H g Step.refl)⟩
theorem bool_single {op : BoolOp} {y : Expr} {p : Pos} {st : Bool} {r : Ga → Sto → R D} (h : PE X y (TEn c st r)) : PE X (.BoolOp op [y] p) (TEn c st r) := pe_one h
end
end Bs
/-! Bs: expressions are sound. -/
namespace Bs
open PySem L2
section
variable {n : Nm} {gl : Nat → Option D} {cl : Nat → List D → Sto → R D} {k : Nat}
theorem nofr {P : Prop} {b : Bool} (hb : b = false) : b = true → P := fun z => by rw [hb] at z; cases z
theorem snd_call {c : Ct} {X : Cx} {sc : Scope} {F : Str → Bool} (ok : XOk c n gl cl k sc F X) {f : Nat} {I : FnI} {es ks : List E} {pm : List Nat} {xs : List Expr} {kws : List Keyword} {p p2 : Pos} (hI : n.fns[f]? = some I)
    (hg : glB sc I.name = true) (hok : okN I.name = true) (ha : PA X xs (TAn c true (denEs gl cl es))) (hk : PK X kws (TAn c true (denEs gl cl ks))) (hs : xs.all nst = true) (hkk : kwOk kws = true) (l1 : xs.length = es.length) (l2 : kws.length = ks.length)
    (hsh : (⟨f, es.length, kwN kws, pm⟩ : Sh) ∈ n.shs) :
    PE X (.Call (.Name I.name p) xs kws p2) (TEn c true (denE gl cl (.call f es ks pm))) ∧ (I.fr = true → PE X (.Call (.Name I.name p) xs kws p2) (TFn c (denE gl cl (.call f es ks pm)))) := by
  obtain ⟨a, fd, hm, hkp, hF, hb⟩ := ok.fns f I hI
  obtain ⟨hb1, hb2⟩ := hb _ hsh rfl
  have kl : (kwN kws).length = kws.length := (kw_all (pos := p2) (env := X.env) hkk).2.2.2
  have hdb : (I.name == ("__debug__" : Str)) = false := by
    unfold okN at hok
    simp only [Bool.and_eq_true, Bool.not_eq_true'] at hok
    exact hok.1
  have key : PE X (.Call (.Name I.name p) xs kws p2) (tCallG (WV c) pm es.length ks.length (spF c.K (cl f) I.ps.length I.fr) (TAn c true (denEs gl cl es)) (TAn c true (denEs gl cl ks))) := by
    have hF' : FnOk X.prog X.w X.K X.mg X.base (L2.CX X.prog X.w) k a fd I.ps (spF c.K (cl f) I.ps.length I.fr) := by rw [← ok.hK]; exact hF
    rw [← l1, ← l2]
    match xs, ha, hs, l1 with
    | [], ha, hs, l1 =>
      refine (pe_callG0 ok.tk hF' ok.room (ok.gl' hg) hm hkp (fun s us ws hin h1 h2 => hb1 s us ws hin (by rw [h1]; exact l1) (by rw [h2, kl])) hk hkk hdb).imp fun σ H Q w => ?_
      obtain ⟨S, γ, μ, g, h⟩ := w
      have e0 : es = [] := by cases es with
        | nil => rfl
        | cons _ _ => cases l1
      subst e0
      exact h S [] H g Step.refl rfl
    | e :: xs', ha, hs, l1 =>
      exact pe_callG ok.tk hF' ok.room (ok.gl' hg) hm hkp (fun s us ws hin h1 h2 => hb1 s us ws hin (by rw [h1]; exact l1) (by rw [h2, kl])) ha hk hs hkk hdb
  have hnp : ∀ ds : List D, ds.length = es.length + ks.length → (arr pm ds).length = I.ps.length := fun ds h => hb2 ds (by rw [h, kl, l2])
  refine ⟨?_, fun hfr => ?_⟩
  · cases hfr : I.fr with
    | false =>
      rw [hfr] at key
      exact key.imp fun σ H Q w => callG_of false hnp (denEs_len es) (denEs_len ks) w
    | true =>
      rw [hfr] at key
      exact PE.fresh (key.imp fun σ H Q w => callG_of true hnp (denEs_len es) (denEs_len ks) w)
  · rw [hfr] at key
    exact key.imp fun σ H Q w => callG_of true hnp (denEs_len es) (denEs_len ks) w
theorem es_ne {es : List E} {xs : List Expr} (h : xs.length = es.length) (hn : (!xs.isEmpty) = true) : ∃ y ys, xs = y :: ys := by
  cases xs with
  | nil => cases hn
  | cons y ys => exact ⟨y, ys, rfl⟩
theorem mem_dict : ("dict" : Str) ∈ bltL := by decide +kernel
theorem mem_b (b : Bi) : biName b ∈ bltL := by cases b <;> decide +kernel
theorem mem_t (t : Ty) : tyStr t ∈ bltL := by cases t <;> decide +kernel
theorem mem_isi : ("isinstance" : Str) ∈ bltL := by decide +kernel
theorem mem_rng : ("range" : Str) ∈ bltL := by decide +kernel
theorem mem_enu : ("enumerate" : Str) ∈ bltL := by decide +kernel
theorem mem_set : ("set" : Str) ∈ bltL := by decide +kernel
theorem mem_zip : ("zip" : Str) ∈ bltL := by decide +kernel
theorem okN_of {x : Str} (h : okN x = true) : (x == ("__debug__" : Str)) = false ∧ (x == ("__classdict__" : Str)) = false := by
  unfold okN at h
  simp only [Bool.and_eq_true, Bool.not_eq_true'] at h
  exact h
theorem denPs_eq : ∀ (kvs : List (E × E)) (γ : Ga) (μ : Sto), denPs gl cl kvs γ μ = dPs (kvs.map fun q => (denE gl cl q.1, denE gl cl q.2)) γ μ
  | [], γ, μ => rfl
  | (a, b) :: r, γ, μ => by
    unfold denPs dPs
    rw [List.map_cons]
    have : denP gl cl (a, b) γ μ = (denE gl cl a γ μ).bind fun x μ => (denE gl cl b γ μ).bind fun y μ => .ok (x, y) μ := by unfold denP; rfl
    rw [this]
    congr 1
    funext p μ
    rw [denPs_eq r γ μ]
theorem XOk.u65 {c : Ct} {X : Cx} {sc : Scope} {F : Str → Bool} (ok : XOk c n gl cl k sc F X) : X.A.units + 65 < cLine := by have := ok.room.un; omega
mutual
theorem snd : ∀ (e : E) {c : Ct} (sc : Scope) (F : Str → Bool) (m : Md) (x : Expr) (X : Cx), chk n e sc F m x = true → XOk c n gl cl k sc F X → Post c n gl cl X e x m
  | .var i, c, sc, F, m, x, X, h, ok => by
    unfold chk at h
    rw [Bool.and_eq_true] at h
    cases e : asName x with
    | none => rw [e] at h; exact absurd h.2 (by simp)
    | some y =>
      rw [e] at h
      simp only [Bool.and_eq_true, decide_eq_true_eq] at h
      obtain ⟨hm, ⟨h1, h2⟩, h3⟩ := h
      obtain ⟨p, rfl⟩ := asName_eq e
      refine post_of ok hm ?_ (nofr rfl)
      exact snd_var (by rw [ok.nN]; exact h1) (ok.vis h2) (okN_of h3).1 (okN_of h3).2
  | .ovar i, c, sc, F, m, x, X, h, ok => by
    unfold chk at h
    rw [Bool.and_eq_true] at h
    cases e : asName x with
    | none => rw [e] at h; exact absurd h.2 (by simp)
    | some y =>
      rw [e] at h
      simp only [Bool.and_eq_true, decide_eq_true_eq] at h
      obtain ⟨hm, ⟨h1, h2⟩, h3⟩ := h
      obtain ⟨p, rfl⟩ := asName_eq e
      refine post_of ok hm ?_ (nofr rfl)
      exact snd_ovar (by rw [ok.nN]; exact h1) (ok.vis h2) (okN_of h3).1 (okN_of h3).2
  | .odic i, c, sc, F, m, x, X, h, ok => by
    unfold chk at h
    rw [Bool.and_eq_true] at h
    cases e : asName x with
    | none => rw [e] at h; exact absurd h.2 (by simp)
    | some y =>
      rw [e] at h
      simp only [Bool.and_eq_true, decide_eq_true_eq] at h
      obtain ⟨hm, ⟨h1, h2⟩, h3⟩ := h
      obtain ⟨p, rfl⟩ := asName_eq e
      refine post_of ok hm ?_ (nofr rfl)
      exact snd_odic (by rw [ok.nN]; exact h1) (ok.vis h2) (okN_of h3).1 (okN_of h3).2
  | .con d, c, sc, F, m, x, X, h, ok => by
    unfold chk at h
    rw [Bool.and_eq_true] at h
    exact post_of ok h.1 (con_of h.2) (nofr rfl)
  | .glb g, c, sc, F, m, x, X, h, ok => by
    unfold chk at h
    rw [Bool.and_eq_true] at h
    cases e : asName x with
    | none => rw [e] at h; exact absurd h.2 (by simp)
    | some y =>
      rw [e] at h
      simp only [Bool.and_eq_true, decide_eq_true_eq] at h
      obtain ⟨hm, ⟨h1, h2⟩, h3⟩ := h
      obtain ⟨p, rfl⟩ := asName_eq e
      refine post_of ok hm ?_ (nofr rfl)
      obtain ⟨d, ed⟩ := ok.glx g y h1
      obtain ⟨u, v, hm, r, hr⟩ := ok.gls g y d h1 ed
      exact snd_gl (o := gl g) (pe_glob (ok.gl' h2) hm r (okN_of h3).1) fun d' e' => by rw [ed] at e'; cases e'; exact hr
  | .bin o a b, c, sc, F, m, x, X, h, ok => by
    unfold chk at h
    rw [Bool.and_eq_true] at h
    cases e : asBin x with
    | none => rw [e] at h; exact absurd h.2 (by simp)
    | some z =>
      obtain ⟨p, op, q⟩ := z
      rw [e] at h
      simp only [Bool.and_eq_true, decide_eq_true_eq] at h
      obtain ⟨hm, ⟨h1, h2⟩, h3⟩ := h
      subst h1
      obtain ⟨pp, rfl⟩ := asBin_eq e
      exact post_of ok hm (snd_bin ok.hK o (snd a sc F .v p X h2 ok).1 (snd b sc F .v q X h3 ok).1) (nofr rfl)
  | .lop o a b, c, sc, F, m, x, X, h, ok => by
    unfold chk at h
    rw [Bool.and_eq_true] at h
    cases e : asBin x with
    | none => rw [e] at h; exact absurd h.2 (by simp)
    | some z =>
      obtain ⟨p, op, q⟩ := z
      rw [e] at h
      simp only [Bool.and_eq_true, decide_eq_true_eq] at h
      obtain ⟨hm, ⟨h1, h2⟩, h3⟩ := h
      subst h1
      obtain ⟨pp, rfl⟩ := asBin_eq e
      have key := snd_lopF (pos := pp) ok.hK o (snd a sc F .v p X h2 ok).1 (snd b sc F .v q X h3 ok).1
      exact post_of ok hm (PE.fresh key) fun _ => key
  | .sto e, c, sc, F, m, x, X, h, ok => by
    unfold chk at h
    simp only [Bool.and_eq_true] at h
    obtain ⟨⟨hm, h1⟩, h2⟩ := h
    exact post_of ok hm (((snd e sc F .v x X h1 ok).2 h2).imp fun σ H Q w => sto_of w) (nofr rfl)
  | .popl a e1, c, sc, F, m, x, X, h, ok => by
    unfold chk at h
    rw [Bool.and_eq_true] at h
    obtain ⟨hm, h⟩ := h
    cases e : asMeth1 x with
    | none => rw [e] at h; cases h
    | some z =>
      obtain ⟨p, nm, q⟩ := z
      rw [e] at h
      simp only [Bool.and_eq_true, decide_eq_true_eq] at h
      obtain ⟨⟨⟨⟨h1, h2⟩, h3⟩, h4⟩, h5⟩ := h
      subst h1
      obtain ⟨ap, pp, rfl, hl⟩ := asMeth1_eq e
      exact post_of ok hm (snd_popl ok.hK (snd a sc F .v p X h2 ok).1 (snd e1 sc F .v q X h3 ok).1 h5 h4 hl) (nofr rfl)
  | .pop0 a, c, sc, F, m, x, X, h, ok => by
    unfold chk at h
    rw [Bool.and_eq_true] at h
    obtain ⟨hm, h⟩ := h
    cases e : asMeth0 x with
    | none => rw [e] at h; cases h
    | some z =>
      obtain ⟨p, nm⟩ := z
      rw [e] at h
      simp only [Bool.and_eq_true, decide_eq_true_eq] at h
      obtain ⟨⟨h1, h2⟩, h4⟩ := h
      subst h1
      obtain ⟨ap, pp, rfl, hl⟩ := asMeth0_eq e
      exact post_of ok hm (snd_pop0 ok.hK (snd a sc F .v p X h2 ok).1 h4 hl) (nofr rfl)
  | .neg a, c, sc, F, m, x, X, h, ok => by
    unfold chk at h
    rw [Bool.and_eq_true] at h
    cases e : asUn x with
    | none => rw [e] at h; exact absurd h.2 (by simp)
    | some z =>
      obtain ⟨op, p⟩ := z
      rw [e] at h
      simp only [Bool.and_eq_true, decide_eq_true_eq] at h
      obtain ⟨hm, h1, h2⟩ := h
      subst h1
      obtain ⟨pp, rfl⟩ := asUn_eq e
      exact post_of ok hm (snd_neg (snd a sc F .v p X h2 ok).1) (nofr rfl)
  | .cmp o a b, c, sc, F, m, x, X, h, ok => by
    unfold chk at h
    rw [Bool.and_eq_true] at h
    obtain ⟨hm, h⟩ := h
    split at h
    · rename_i p op q e
      simp only [Bool.and_eq_true, decide_eq_true_eq, Bool.not_eq_true'] at h
      obtain ⟨⟨⟨h1, h2⟩, h3⟩, h4⟩ := h
      subst h1
      obtain ⟨pp, rfl⟩ := asCmp_eq e
      have ha := (snd a sc F .v p X h2 ok).1
      have hb := (snd b sc F .v q X h3 ok).1
      cases m with
      | v => exact ⟨snd_cmp ok.hK (ok.u65) o ha hb h4, nofr rfl⟩
      | t => exact ⟨sndT_cmp ok.hK (ok.u65) o ha hb h4, fun op l p e => nomatch e⟩
      | i tg => cases hm
    · cases h
  | .chn o o' a b d, c, sc, F, m, x, X, h, ok => by
    unfold chk at h
    rw [Bool.and_eq_true] at h
    obtain ⟨hm, h⟩ := h
    split at h
    · rename_i p op op' q r e
      simp only [Bool.and_eq_true, decide_eq_true_eq, Bool.not_eq_true'] at h
      obtain ⟨⟨⟨⟨⟨h1, h1'⟩, h2⟩, h3⟩, h3'⟩, h4⟩ := h
      subst h1 h1'
      obtain ⟨pp, rfl⟩ := asCmp_eq e
      have hh := snd_chn (pos := pp) ok.hK (ok.u65) o o' (snd a sc F .v p X h2 ok).1 (snd b sc F .v q X h3 ok).1 (snd d sc F .v r X h3' ok).1 h4
      cases m with
      | v => exact ⟨hh.1, nofr rfl⟩
      | t => exact ⟨hh.2, fun op l p e => nomatch e⟩
      | i tg => cases hm
    · cases h
  | .not a, c, sc, F, m, x, X, h, ok => by
    unfold chk at h
    rw [Bool.and_eq_true] at h
    obtain ⟨hm, h⟩ := h
    cases e : asUn x with
    | none => rw [e] at h; exact absurd h (by simp)
    | some z =>
      obtain ⟨op, p⟩ := z
      rw [e] at h
      simp only [Bool.and_eq_true, decide_eq_true_eq] at h
      obtain ⟨h1, h2⟩ := h
      subst h1
      obtain ⟨pp, rfl⟩ := asUn_eq e
      have ih := snd a sc F m p X h2 ok
      cases m with
      | v => exact ⟨snd_not ok.hK ih.1, nofr rfl⟩
      | t => exact ⟨sndT_not ih.1, fun op l p e => nomatch e⟩
      | i tg => cases hm
  | .and a b, c, sc, F, m, x, X, h, ok => by
    unfold chk at h
    rw [Bool.and_eq_true] at h
    obtain ⟨hm, h⟩ := h
    cases e : asBool x with
    | none => rw [e] at h; exact absurd h (by simp)
    | some z =>
      obtain ⟨op, p, q⟩ := z
      rw [e] at h
      simp only [Bool.and_eq_true, decide_eq_true_eq] at h
      obtain ⟨⟨h1, h2⟩, h3⟩ := h
      subst h1
      have iha := snd a sc F m p X h2 ok
      have ihb := snd b sc F m q X h3 ok
      obtain ⟨pp, hx⟩ := asBool_eq e
      cases m with
      | v =>
        rcases hx with rfl | ⟨b', d, r, rfl, rfl⟩
        · exact ⟨snd_and ok.hK iha.1 (pe_one ihb.1), nofr rfl⟩
        · exact ⟨snd_and ok.hK iha.1 ihb.1, nofr rfl⟩
      | t =>
        have key : PW X x (TTn c fun γ μ => (denE gl cl (.and a b) γ μ).bind truthR) := by
          rcases hx with rfl | ⟨b', d, r, rfl, rfl⟩
          · exact sndT_and iha.1 (pw_and1 ihb.1)
          · exact sndT_and iha.1 (ihb.2 _ _ _ rfl)
        exact ⟨key.pt, fun _ _ _ _ => key⟩
      | i tg => cases hm
  | .or a b, c, sc, F, m, x, X, h, ok => by
    unfold chk at h
    rw [Bool.and_eq_true] at h
    obtain ⟨hm, h⟩ := h
    cases e : asBool x with
    | none => rw [e] at h; exact absurd h (by simp)
    | some z =>
      obtain ⟨op, p, q⟩ := z
      rw [e] at h
      simp only [Bool.and_eq_true, decide_eq_true_eq] at h
      obtain ⟨⟨h1, h2⟩, h3⟩ := h
      subst h1
      have iha := snd a sc F m p X h2 ok
      have ihb := snd b sc F m q X h3 ok
      obtain ⟨pp, hx⟩ := asBool_eq e
      cases m with
      | v =>
        rcases hx with rfl | ⟨b', d, r, rfl, rfl⟩
        · exact ⟨snd_or ok.hK iha.1 (pe_one ihb.1), nofr rfl⟩
        · exact ⟨snd_or ok.hK iha.1 ihb.1, nofr rfl⟩
      | t =>
        have key : PW X x (TTn c fun γ μ => (denE gl cl (.or a b) γ μ).bind truthR) := by
          rcases hx with rfl | ⟨b', d, r, rfl, rfl⟩
          · exact sndT_or iha.1 (pw_or1 ihb.1)
          · exact sndT_or iha.1 (ihb.2 _ _ _ rfl)
        exact ⟨key.pt, fun _ _ _ _ => key⟩
      | i tg => cases hm
  | .ite d a b, c, sc, F, m, x, X, h, ok => by
    unfold chk at h
    rw [Bool.and_eq_true] at h
    cases e : asIf x with
    | none => rw [e] at h; exact absurd h.2 (by simp)
    | some z =>
      obtain ⟨p, q, r⟩ := z
      rw [e] at h
      simp only [Bool.and_eq_true] at h
      obtain ⟨hm, ⟨h1, h2⟩, h3⟩ := h
      obtain ⟨pp, rfl⟩ := asIf_eq e
      exact post_of ok hm (snd_ite (snd d sc F .t p X h1 ok).1 (snd a sc F .v q X h2 ok).1 (snd b sc F .v r X h3 ok).1) (nofr rfl)
  | .tup es, c, sc, F, m, x, X, h, ok => by
    unfold chk at h
    rw [Bool.and_eq_true] at h
    cases e : asTup x with
    | none => rw [e] at h; exact absurd h.2 (by simp)
    | some xs =>
      rw [e] at h
      simp only [Bool.and_eq_true, decide_eq_true_eq] at h
      obtain ⟨hm, ⟨h1, h2⟩, h3⟩ := h
      obtain ⟨k, pp, rfl⟩ := asTup_eq e
      exact post_of ok hm (snd_tup ((sndEs es sc F xs X h1 ok).2.1 h2) fun γ μ => sat_imp (denEs_len es γ μ) fun a e => by omega) (nofr rfl)
  | .lst es, c, sc, F, m, x, X, h, ok => by
    unfold chk at h
    rw [Bool.and_eq_true] at h
    cases e : asLst x with
    | none => rw [e] at h; exact absurd h.2 (by simp)
    | some xs =>
      rw [e] at h
      simp only [Bool.and_eq_true, decide_eq_true_eq] at h
      obtain ⟨hm, ⟨h1, h2⟩, h3⟩ := h
      obtain ⟨pp, rfl⟩ := asLst_eq e
      have key := snd_lst (pos := pp) ((sndEs es sc F xs X h1 ok).2.1 h2) fun γ μ => sat_imp (denEs_len es γ μ) fun a e => by omega
      exact post_of ok hm (PE.fresh key) fun _ => key
  | .new es, c, sc, F, m, x, X, h, ok => by
    unfold chk at h
    rw [Bool.and_eq_true] at h
    cases e : asLst x with
    | none => rw [e] at h; exact absurd h.2 (by simp)
    | some xs =>
      rw [e] at h
      simp only [Bool.and_eq_true, decide_eq_true_eq] at h
      obtain ⟨hm, ⟨h1, h2⟩, h3⟩ := h
      obtain ⟨pp, rfl⟩ := asLst_eq e
      exact post_of ok hm (snd_new ((sndEs es sc F xs X h1 ok).2.1 h2) fun γ μ => sat_imp (denEs_len es γ μ) fun a e => by omega) (nofr rfl)
  | .dsp1 a b, c, sc, F, m, x, X, h, ok => by
    unfold chk at h
    rw [Bool.and_eq_true] at h
    cases e : asDic1 x with
    | none => rw [e] at h; exact absurd h.2 (by simp)
    | some z =>
      obtain ⟨p, q⟩ := z
      rw [e] at h
      simp only [Bool.and_eq_true] at h
      obtain ⟨hm, ⟨⟨h1, h2⟩, h3⟩, h4⟩ := h
      obtain ⟨pp, rfl⟩ := asDic1_eq e
      have ha := (snd a sc F .v p X h1 ok).1
      have hb := (snd b sc F .v q X h2 ok).1
      rw [h3] at ha
      rw [h4] at hb
      exact post_of ok hm (snd_dsp1 ha hb) (nofr rfl)
  | .dsp kvs, c, sc, F, m, x, X, h, ok => by
    unfold chk at h
    rw [Bool.and_eq_true] at h
    cases e : asDic x with
    | none => rw [e] at h; exact absurd h.2 (by simp)
    | some z =>
      obtain ⟨ks, vs⟩ := z
      rw [e] at h
      simp only [Bool.and_eq_true, decide_eq_true_eq] at h
      obtain ⟨hm, ⟨h1, h2⟩, h3⟩ := h
      obtain ⟨pp, rfl⟩ := asDic_eq e
      obtain ⟨g1, g2, g3, g4⟩ := sndPs kvs sc F ks vs X pp h1 ok
      have key := snd_dsp _ g1 g2 g3 (by intro z; rw [z] at h2; simp at h2) h3 (by rw [g4, List.length_map])
      refine post_of ok hm (key.imp fun σ H Q w => ?_) (nofr rfl)
      obtain ⟨S, γ, μ, g, h⟩ := w
      refine ⟨S, γ, μ, g, ?_⟩
      show ((dPs _ γ μ).bind dspR).All _ _
      rw [← denPs_eq]
      exact h
  | .ix a b, c, sc, F, m, x, X, h, ok => by
    unfold chk at h
    rw [Bool.and_eq_true] at h
    cases e : asSub x with
    | none => rw [e] at h; exact absurd h.2 (by simp)
    | some z =>
      obtain ⟨p, q⟩ := z
      rw [e] at h
      simp only [Bool.and_eq_true] at h
      obtain ⟨hm, ⟨h1, h2⟩, h3⟩ := h
      obtain ⟨pp, rfl⟩ := asSub_eq e
      exact post_of ok hm (snd_ix ok.hK (snd a sc F .v p X h1 ok).1 (snd b sc F .v q X h2 ok).1 h3) (nofr rfl)
  | .sl a lo hi, c, sc, F, m, x, X, h, ok => by
    unfold chk at h
    rw [Bool.and_eq_true] at h
    obtain ⟨hm, h⟩ := h
    split at h
    · rename_i p q e
      rw [Bool.and_eq_true] at h
      obtain ⟨h1, h⟩ := h
      split at h
      · rename_i l u e2
        rw [Bool.and_eq_true] at h
        obtain ⟨pp, rfl⟩ := asSub_eq e
        obtain ⟨p2, rfl⟩ := asSlc_eq e2
        exact post_of ok hm (snd_sl ok.hK (snd a sc F .v p X h1 ok).1 (sndO lo sc F l X h.1 ok) (sndO hi sc F u X h.2 ok)) (nofr rfl)
      · cases h
    · cases h
  | .call f es ks pm, c, sc, F, m, x, X, h, ok => by
    unfold chk at h
    rw [Bool.and_eq_true] at h
    obtain ⟨hm, h⟩ := h
    split at h
    · rename_i y xs kws I e hI
      simp only [Bool.and_eq_true, decide_eq_true_eq] at h
      obtain ⟨⟨⟨⟨⟨⟨⟨h1, h2⟩, h3⟩, h4⟩, h5⟩, h6⟩, h7⟩, h8⟩ := h
      subst h1
      obtain ⟨p, p2, rfl⟩ := asCall_eq e
      obtain ⟨_, ha, hs, l1⟩ := sndEs es sc F xs X h4 ok
      obtain ⟨hk, hkk, l2⟩ := sndKs ks sc F kws X h6 ok
      have key := snd_call (p := p) (p2 := p2) ok hI h2 h3 (ha h5) (hk h7) hs hkk l1 l2 h8
      refine post_of ok hm key.1 fun hf => key.2 ?_
      have hf' : (match n.fns[f]? with | some I => I.fr | none => false) = true := hf
      rw [hI] at hf'
      exact hf'
    · cases h
  | .bi b es, c, sc, F, m, x, X, h, ok => by
    unfold chk at h
    rw [Bool.and_eq_true] at h
    obtain ⟨hm, h⟩ := h
    split at h
    · rename_i y xs e
      simp only [Bool.and_eq_true, decide_eq_true_eq] at h
      obtain ⟨⟨⟨h1, h2⟩, h3⟩, h4⟩ := h
      subst h1
      obtain ⟨p, p2, rfl⟩ := asCall_eq e
      obtain ⟨ha, _, hs, l1⟩ := sndEs es sc F xs X h3 ok
      obtain ⟨y, ys, rfl⟩ := es_ne l1 h4
      refine post_of ok hm (snd_bi ok.hK ok.calm b (ok.gl' h2) (ok.blt _ (mem_b b)) ha hs) fun hf => ?_
      cases (of_decide_eq_true hf : b = .list)
      exact snd_listF ok.hK ok.calm (ok.gl' h2) (ok.blt _ (mem_b .list)) ha hs
    · cases h
  | .mt mm a e1, c, sc, F, m, x, X, h, ok => by
    unfold chk at h
    rw [Bool.and_eq_true] at h
    obtain ⟨hm, h⟩ := h
    cases e : asMeth1 x with
    | none => rw [e] at h; cases h
    | some z =>
      obtain ⟨p, nm, q⟩ := z
      rw [e] at h
      simp only [Bool.and_eq_true, decide_eq_true_eq] at h
      obtain ⟨⟨⟨⟨h1, h2⟩, h3⟩, h4⟩, h5⟩ := h
      subst h1
      obtain ⟨ap, pp, rfl, hl⟩ := asMeth1_eq e
      exact post_of ok hm (snd_mt ok.hK mm (snd a sc F .v p X h2 ok).1 (snd e1 sc F .v q X h3 ok).1 h5 h4 hl) (nofr rfl)
  | .rng3 e1 e2 e3, c, sc, F, m, x, X, h, ok => by
    unfold chk at h
    split at h
    · rename_i tg y p q r e
      simp only [Bool.and_eq_true, decide_eq_true_eq] at h
      obtain ⟨⟨⟨⟨⟨⟨⟨h1, h2⟩, h3⟩, h4⟩, h5⟩, h6⟩, h7⟩, h8⟩ := h
      subst h1
      obtain ⟨p1, p2, rfl⟩ := asCall_eq e
      exact sndI_rng3 (ok.gl' h2) (ok.blt _ mem_rng) (snd e1 sc F .v p X h3 ok).1 (snd e2 sc F .v q X h5 ok).1 (snd e3 sc F .v r X h7 ok).1 h4 h6 h8
    · cases h
  | .sset a, c, sc, F, m, x, X, h, ok => by
    unfold chk at h
    rw [Bool.and_eq_true] at h
    obtain ⟨hm, h⟩ := h
    split at h
    · rename_i y p e
      simp only [Bool.and_eq_true, decide_eq_true_eq] at h
      obtain ⟨⟨h1, h2⟩, h3⟩ := h
      split at h3
      · rename_i y2 q e2
        simp only [Bool.and_eq_true, decide_eq_true_eq] at h3
        obtain ⟨⟨⟨g1, g2⟩, g3⟩, g4⟩ := h3
        subst h1 g1
        obtain ⟨p1, p2, rfl⟩ := asCall_eq e
        obtain ⟨p3, p4, rfl⟩ := asCall_eq e2
        exact post_of ok hm (snd_sset ok.hK ok.calm (ok.gl' h2) (ok.blt _ (mem_b .sorted)) (ok.gl' g2) (ok.blt _ mem_set) (snd a sc F .v q X g3 ok).1 g4) (nofr rfl)
      · cases h3
    · cases h
  | .rvl a, c, sc, F, m, x, X, h, ok => by
    unfold chk at h
    rw [Bool.and_eq_true] at h
    obtain ⟨hm, h⟩ := h
    cases e : asRev x with
    | none => rw [e] at h; cases h
    | some p =>
      rw [e] at h
      obtain ⟨k, p1, p2, p3, pos, rfl⟩ := asRev_eq e
      exact post_of ok hm (snd_rvl ok.hK (snd a sc F .v p X h ok).1) (nofr rfl)
  | .kys a, c, sc, F, m, x, X, h, ok => by
    unfold chk at h
    cases m with
    | v => cases h
    | t => cases h
    | i tg =>
      have h : (chk n a sc F .v x && sg a) = true := h
      rw [Bool.and_eq_true] at h
      have ha := (snd a sc F .v x X h.1 ok).1
      rw [h.2] at ha
      exact sndI_keys ha
  | .dcp a, c, sc, F, m, x, X, h, ok => by
    unfold chk at h
    rw [Bool.and_eq_true] at h
    obtain ⟨hm, h⟩ := h
    split at h
    · rename_i y p e
      simp only [Bool.and_eq_true, decide_eq_true_eq] at h
      obtain ⟨⟨⟨h1, h2⟩, h3⟩, h4⟩ := h
      subst h1
      obtain ⟨p1, p2, rfl⟩ := asCall_eq e
      exact post_of ok hm (snd_dcp ok.calm (ok.gl' h2) (ok.blt _ mem_dict) (snd a sc F .v p X h3 ok).1 h4) (nofr rfl)
    · cases h
  | .mrg a k v, c, sc, F, m, x, X, h, ok => by
    unfold chk at h
    cases h
  | .dsp0, c, sc, F, m, x, X, h, ok => by
    unfold chk at h
    rw [Bool.and_eq_true] at h
    obtain ⟨p, rfl⟩ := isDic0_eq h.2
    exact post_of ok h.1 snd_dsp0 (nofr rfl)
  | .tidx gg e1, c, sc, F, m, x, X, h, ok => by
    unfold chk at h
    rw [Bool.and_eq_true] at h
    obtain ⟨hm, h⟩ := h
    cases e : asMeth1 x with
    | none => rw [e] at h; cases h
    | some z =>
      obtain ⟨p, nm, q⟩ := z
      rw [e] at h
      simp only [Bool.and_eq_true, decide_eq_true_eq] at h
      obtain ⟨⟨⟨⟨h1, h2⟩, h3⟩, h4⟩, h5⟩ := h
      subst h1
      obtain ⟨ap, pp, rfl, hl⟩ := asMeth1_eq e
      cases e2 : asName p with
      | none => rw [e2] at h5; cases h5
      | some y =>
        rw [e2] at h5
        simp only [Bool.and_eq_true, decide_eq_true_eq] at h5
        obtain ⟨⟨g1, g2⟩, g3⟩ := h5
        obtain ⟨pn, rfl⟩ := asName_eq e2
        obtain ⟨d, ed⟩ := ok.glx gg y g1
        obtain ⟨u, v, hmg, r, hr⟩ := ok.gls gg y d g1 ed
        exact post_of ok hm (snd_tidx ok.hK (o := gl gg) (pe_glob (ok.gl' g2) hmg r (okN_of g3).1) (fun d' e' => by rw [ed] at e'; cases e'; exact hr) (snd e1 sc F .v q X h2 ok).1 h3 h4 hl) (nofr rfl)
  | .rev a, c, sc, F, m, x, X, h, ok => by
    unfold chk at h
    rw [Bool.and_eq_true] at h
    obtain ⟨hm, h⟩ := h
    cases e : asRev x with
    | none => rw [e] at h; cases h
    | some p =>
      rw [e] at h
      obtain ⟨k, p1, p2, p3, pos, rfl⟩ := asRev_eq e
      exact post_of ok hm (snd_rev (snd a sc F .v p X h ok).1) (nofr rfl)
  | .isi a ts, c, sc, F, m, x, X, h, ok => by
    unfold chk at h
    rw [Bool.and_eq_true] at h
    obtain ⟨hm, h⟩ := h
    split at h
    · rename_i y p q e
      simp only [Bool.and_eq_true, decide_eq_true_eq] at h
      obtain ⟨⟨⟨⟨⟨⟨⟨h1, h2⟩, h3⟩, h4⟩, h5⟩, h6⟩, h7⟩, h8⟩ := h
      subst h1
      obtain ⟨p1, p2, rfl⟩ := asCall_eq e
      have ha := (snd a sc F .v p X h3 ok).1
      have hts : ∀ t ∈ ts, TyNm X t := fun t ht => ⟨ok.gl' (List.all_eq_true.mp h5 t ht), ok.blt _ (mem_t t)⟩
      have hne : ts ≠ [] := fun z => by rw [z] at h6; cases h6
      cases e2 : asTup q with
      | some qs =>
        rw [e2] at h8
        simp only [Bool.and_eq_true, decide_eq_true_eq] at h8
        obtain ⟨kk, p3, rfl⟩ := asTup_eq e2
        exact post_of ok hm (snd_isiT ok.hK (ok.gl' h2) (ok.blt _ mem_isi) hts hne h7 h8 ha h4) (nofr rfl)
      | none =>
        rw [e2] at h8
        match ts, h8, hts with
        | [t], h8, hts =>
          cases q with
          | Name yy pp =>
            cases (of_decide_eq_true h8 : yy = tyStr t)
            exact post_of ok hm (snd_isi1 ok.hK (ok.gl' h2) (ok.blt _ mem_isi) (hts t List.mem_cons_self) ha h4) (nofr rfl)
          | _ => exact absurd h8 (by simp [isTyN])
    · cases h
  | .rng1 e1, c, sc, F, m, x, X, h, ok => by
    unfold chk at h
    split at h
    · rename_i tg y p e
      simp only [Bool.and_eq_true, decide_eq_true_eq] at h
      obtain ⟨⟨⟨h1, h2⟩, h3⟩, h4⟩ := h
      subst h1
      obtain ⟨p1, p2, rfl⟩ := asCall_eq e
      exact sndI_rng1 (ok.gl' h2) (ok.blt _ mem_rng) (snd e1 sc F .v p X h3 ok).1 h4
    · cases h
  | .rng2 e1 e2, c, sc, F, m, x, X, h, ok => by
    unfold chk at h
    split at h
    · rename_i tg y p q e
      simp only [Bool.and_eq_true, decide_eq_true_eq] at h
      obtain ⟨⟨⟨⟨⟨h1, h2⟩, h3⟩, h4⟩, h5⟩, h6⟩ := h
      subst h1
      obtain ⟨p1, p2, rfl⟩ := asCall_eq e
      exact sndI_rng2 (ok.gl' h2) (ok.blt _ mem_rng) (snd e1 sc F .v p X h3 ok).1 (snd e2 sc F .v q X h5 ok).1 h4 h6
    · cases h
  | .enu a, c, sc, F, m, x, X, h, ok => by
    unfold chk at h
    split at h
    · rename_i tg y p e
      simp only [Bool.and_eq_true, decide_eq_true_eq] at h
      obtain ⟨⟨⟨⟨h1, h2⟩, h3⟩, h4⟩, h5⟩ := h
      subst h1
      obtain ⟨p1, p2, rfl⟩ := asCall_eq e
      cases tg with
      | Tuple es kk tp => exact sndI_enu ok.hK (ok.gl' h2) (ok.blt _ mem_enu) (snd a sc F .v p X h3 ok).1 h4
      | _ => cases h5
    · cases h
  | .zip a b, c, sc, F, m, x, X, h, ok => by
    unfold chk at h
    split at h
    · rename_i tg y p q e
      simp only [Bool.and_eq_true, decide_eq_true_eq] at h
      obtain ⟨⟨⟨⟨⟨⟨h1, h2⟩, h3⟩, h4⟩, h5⟩, h6⟩, h7⟩ := h
      subst h1
      obtain ⟨p1, p2, rfl⟩ := asCall_eq e
      have ha := PEmode (st' := sg a && sg b) (snd a sc F .v p X h3 ok).1 fun z => (Bool.and_eq_true_iff.mp z).1
      have hb := PEmode (st' := sg a && sg b) (snd b sc F .v q X h5 ok).1 fun z => (Bool.and_eq_true_iff.mp z).2
      cases tg with
      | Tuple es kk tp => exact sndI_zip ok.hK (ok.gl' h2) (ok.blt _ mem_zip) ha hb h4 h6
      | _ => cases h7
    · cases h
  | .lc t it d e, c, sc, F, m, x, X, h, ok => by
    unfold chk at h
    rw [Bool.and_eq_true] at h
    obtain ⟨hm, h⟩ := h
    split at h
    · rename_i elt tg itx ifs scope ee
      simp only [Bool.and_eq_true] at h
      obtain ⟨⟨⟨⟨⟨⟨h1, h2⟩, h3⟩, h4⟩, h5⟩, h6⟩, h7⟩ := h
      obtain ⟨pp, rfl⟩ := asLc1_eq ee
      obtain ⟨hb, ho⟩ := blk_of h3
      have hi : PI X tg itx (TIn c false fun γ μ => (denE gl cl it γ μ).bind itemsR) := PI.imp (snd it sc F (.i tg) itx X h1 ok) fun σ H Q w => by
        obtain ⟨S, γ, μ, g, w⟩ := w
        exact ⟨S, γ, μ, g, w.mono (fun ds μ' q S' J H' g' s wk => q S' J H' g' s (wk.weak g'.st.dm)) fun _ _ _ z => z⟩
      have key := pe_lc (X := X) (pos := pp) ok.calm ok.nd hi (by rw [ok.nN, ok.scp]; exact hb) (fun s H C cs fp => (ok.blk s H scope C cs fp).tg h4) (fun s H C cs fp => sndC d _ _ ifs _ h5 (ok.blk s H scope C cs fp))
        (fun s H C cs fp => by have := (snd e _ _ .v elt _ h6 (ok.blk s H scope C cs fp)).1; rw [h7] at this; exact this) (folded h2 _)
      rw [ho] at key
      have key2 : PE X _ (TFn c (denE gl cl (.lc t it d e))) := key.imp fun σ H Q w => lc_imp w
      exact post_of ok hm (PE.fresh key2) fun _ => key2
    · cases h
  | .lc2 t it d t2 it2 d2 e, c, sc, F, m, x, X, h, ok => by
    unfold chk at h
    rw [Bool.and_eq_true] at h
    obtain ⟨hm, h⟩ := h
    split at h
    · rename_i elt tg itx ifs tg1 itx1 ifs1 scope ee
      simp only [Bool.and_eq_true] at h
      obtain ⟨⟨⟨⟨⟨⟨⟨h1, h2⟩, h3⟩, h4⟩, h5⟩, h6⟩, h7⟩, ⟨⟨⟨h8, h9⟩, h10⟩, h11⟩, h12⟩ := h
      obtain ⟨pp, rfl⟩ := asLc2_eq ee
      obtain ⟨hb, ho⟩ := blk_of h3
      have hi : PI X tg itx (TIn c false fun γ μ => (denE gl cl it γ μ).bind itemsR) := PI.imp (snd it sc F (.i tg) itx X h1 ok) fun σ H Q w => by
        obtain ⟨S, γ, μ, g, w⟩ := w
        exact ⟨S, γ, μ, g, w.mono (fun ds μ' q S' J H' g' s wk => q S' J H' g' s (wk.weak g'.st.dm)) fun _ _ _ z => z⟩
      have key := pe_lc2 (X := X) (pos := pp) (vs1 := t2) ok.calm ok.nd hi (by rw [ok.nN, ok.scp]; exact hb) (by rw [ho]; exact fun i hi => List.mem_append_right _ hi) (fun s H C cs fp => (ok.blk s H scope C cs fp).tg h4) (fun s H C cs fp => sndC d _ _ ifs _ h5 (ok.blk s H scope C cs fp))
        (fun s H C cs fp => by have := snd it2 _ _ (.i tg1) itx1 _ h8 (ok.blk s H scope C cs fp); unfold Post at this; rw [h10] at this; exact this)
        (fun s H C cs fp => (ok.blk s H scope C cs fp).tg h11) (fun s H C cs fp => sndC d2 _ _ ifs1 _ h12 (ok.blk s H scope C cs fp))
        (fun s H C cs fp => by have := (snd e _ _ .v elt _ h6 (ok.blk s H scope C cs fp)).1; rw [h7] at this; exact this) (folded h2 _) (folded h9)
      rw [ho] at key
      have key2 : PE X _ (TFn c (denE gl cl (.lc2 t it d t2 it2 d2 e))) := key.imp fun σ H Q w => lc2_imp w
      exact post_of ok hm (PE.fresh key2) fun _ => key2
    · cases h
theorem sndO : ∀ (o : Option E) {c : Ct} (sc : Scope) (F : Str → Bool) (x : Option Expr) (X : Cx), isO n o sc F x = true → XOk c n gl cl k sc F X → PO X x (TOn c (denO gl cl o))
  | none, c, sc, F, x, X, h, ok => by
    unfold isO at h
    cases x with
    | none => exact sndO_none
    | some _ => cases h
  | some e, c, sc, F, x, X, h, ok => by
    unfold isO at h
    cases x with
    | none => cases h
    | some y => exact sndO_some (snd e sc F .v y X h ok).1
theorem sndC : ∀ (o : Option E) {c : Ct} (sc : Scope) (F : Str → Bool) (xs : List Expr) (X : Cx), isC n o sc F xs = true → XOk c n gl cl k sc F X → PTs X xs (TTn c (denC gl cl o))
  | none, c, sc, F, xs, X, h, ok => by
    unfold isC at h
    cases xs with
    | nil => exact PTs.of_none
    | cons _ _ => cases h
  | some e, c, sc, F, xs, X, h, ok => by
    unfold isC at h
    match xs, h with
    | [y], h => exact pts_one (snd e sc F .t y X h ok).1
theorem sndEs : ∀ (es : List E) {c : Ct} (sc : Scope) (F : Str → Bool) (xs : List Expr) (X : Cx), isEs n es sc F xs = true → XOk c n gl cl k sc F X → PA X xs (TAn c false (denEs gl cl es)) ∧ (es.all sg = true → PA X xs (TAn c true (denEs gl cl es))) ∧ xs.all nst = true ∧ xs.length = es.length
  | [], c, sc, F, xs, X, h, ok => by
    unfold isEs at h
    cases xs with
    | nil => exact ⟨sndA_nil, fun _ => sndA_nil, rfl, rfl⟩
    | cons _ _ => cases h
  | e :: es, c, sc, F, xs, X, h, ok => by
    unfold isEs at h
    cases xs with
    | nil => cases h
    | cons y ys =>
      simp only [Bool.and_eq_true] at h
      obtain ⟨⟨h1, h2⟩, h3⟩ := h
      have ih := (snd e sc F .v y X h1 ok).1
      obtain ⟨i1, i2, i3, i4⟩ := sndEs es sc F ys X h3 ok
      refine ⟨sndA_cons (PEweak ih) i1 (star_cons h2), fun z => ?_, by rw [List.all_cons, h2, i3]; rfl, by rw [List.length_cons, List.length_cons, i4]⟩
      rw [List.all_cons, Bool.and_eq_true] at z
      rw [z.1] at ih
      exact sndA_cons ih (i2 z.2) (star_cons h2)
theorem sndPs : ∀ (es : List (E × E)) {c : Ct} (sc : Scope) (F : Str → Bool) (ks : List (Option Expr)) (vs : List Expr) (X : Cx) (pos : Pos), isPs n es sc F ks vs = true → XOk c n gl cl k sc F X → PPs X pos ks vs ((es.map fun q => (denE gl cl q.1, denE gl cl q.2)).map fun q => (TEn c true q.1, TEn c true q.2)) ∧ ks.all (·.isSome) = true ∧ ks.length = vs.length ∧ ks.length = es.length
  | [], c, sc, F, ks, vs, X, pos, h, ok => by
    unfold isPs at h
    cases ks with
    | nil => cases vs with
      | nil => exact ⟨pps_nil, rfl, rfl, rfl⟩
      | cons _ _ => cases h
    | cons _ _ => cases h
  | q :: r, c, sc, F, ks, vs, X, pos, h, ok => by
    unfold isPs at h
    match ks, vs, h with
    | some y :: ks, z :: vs, h =>
      rw [Bool.and_eq_true] at h
      obtain ⟨i1, i2, i3, i4⟩ := sndPs r sc F ks vs X pos h.2 ok
      obtain ⟨j1, j2⟩ := sndP q sc F y z X h.1 ok
      exact ⟨pps_cons j1 j2 i1, by rw [List.all_cons, i2]; rfl, by rw [List.length_cons, List.length_cons, i3], by rw [List.length_cons, List.length_cons, i4]⟩
    | [], _, h => cases h
    | none :: _, _, h => cases h
    | some _ :: _, [], h => cases h
theorem sndP : ∀ (q : E × E) {c : Ct} (sc : Scope) (F : Str → Bool) (y z : Expr) (X : Cx), isP n q sc F y z = true → XOk c n gl cl k sc F X → PE X y (TEn c true (denE gl cl q.1)) ∧ PE X z (TEn c true (denE gl cl q.2))
  | (a, b), c, sc, F, y, z, X, h, ok => by
    unfold isP at h
    simp only [Bool.and_eq_true] at h
    obtain ⟨⟨⟨h1, h2⟩, h3⟩, h4⟩ := h
    have ha := (snd a sc F .v y X h1 ok).1
    have hb := (snd b sc F .v z X h2 ok).1
    rw [h3] at ha
    rw [h4] at hb
    exact ⟨ha, hb⟩
theorem sndKs : ∀ (es : List E) {c : Ct} (sc : Scope) (F : Str → Bool) (xs : List Keyword) (X : Cx), isKs n es sc F xs = true → XOk c n gl cl k sc F X → (es.all sg = true → PK X xs (TAn c true (denEs gl cl es))) ∧ kwOk xs = true ∧ xs.length = es.length
  | [], c, sc, F, xs, X, h, ok => by
    unfold isKs at h
    cases xs with
    | nil => exact ⟨fun _ => sndK_nil, rfl, rfl⟩
    | cons _ _ => cases h
  | e :: es, c, sc, F, xs, X, h, ok => by
    unfold isKs at h
    match xs, h with
    | ⟨some nm, y, kp⟩ :: ys, h =>
      simp only [Bool.and_eq_true] at h
      have ih := (snd e sc F .v y X h.1 ok).1
      obtain ⟨i1, i2, i3⟩ := sndKs es sc F ys X h.2 ok
      refine ⟨fun z => ?_, ?_, by rw [List.length_cons, List.length_cons, i3]⟩
      · rw [List.all_cons, Bool.and_eq_true] at z
        rw [z.1] at ih
        exact sndK_cons ih (i1 z.2)
      · show (true && kwOk ys) = true
        rw [i2]; rfl
end
end
end Bs
/-! Bs: statements. -/
namespace Bs
open PySem L2
/-- what a return leaves -/
def Rt (c : Ct) (fr : Bool) (d : D) (μ' : Sto) (v : V) (H' : Hp) : Prop := ∃ S' γ' σ', Good c S' γ' μ' σ' H' ∧ match fr with
  | false => Rel c.K S' H' d v
  | true => ∃ xs p vs, d = .lst xs ∧ v = .ref p ∧ S' p ∧ c.H0 p = none ∧ μ' p = none ∧ H' p = some (.lst vs) ∧ Rels c.K S' H' xs vs
def AftS (c : Ct) (fr : Bool) (S : Sa) (H : Hp) (E : Ends) : Fl → Sto → Prop := fun fl μ' => match fl with
  | .nx γ' => ∀ S' σ' H', Good c S' γ' μ' σ' H' → KpT S S' H H' → E.nx σ' H'
  | .bk γ' => ∀ S' σ' H', Good c S' γ' μ' σ' H' → KpT S S' H H' → E.bk σ' H'
  | .ct γ' => ∀ S' σ' H', Good c S' γ' μ' σ' H' → KpT S S' H H' → E.ct σ' H'
  | .rt d => ∀ v H', Rt c fr d μ' v H' → E.rt v H'
def TSn (c : Ct) (fr : Bool) (r : Ga → Sto → R Fl) : TS := fun E σ H => ∃ S γ μ, Good c S γ μ σ H ∧ (r γ μ).All (AftS c fr S H E) c.V
theorem _root_.L2.PS.imp {X : Cx} {e : Stmt} {t t' : TS} (h : PS X e t) (i : ∀ D σ H, t' D σ H → t D σ H) : PS X e t' := ⟨fun pins s σ H D I w => h.run pins s σ H D I (i D σ H w)⟩
theorem _root_.L2.PSs.imp {X : Cx} {e : List Stmt} {t t' : TS} (h : PSs X e t) (i : ∀ D σ H, t' D σ H → t D σ H) : PSs X e t' := ⟨fun pins s σ H D I w => h.run pins s σ H D I (i D σ H w)⟩
section
variable {c : Ct} {fr : Bool} {S S' : Sa} {γ : Ga} {μ μ' : Sto} {σ : L2.St} {H H' : Hp} {E : Ends} {X : Cx} {pos : Pos}
theorem AftS.step {fl : Fl} (k : KpT S S' H H') (h : AftS c fr S H E fl μ) : AftS c fr S' H' E fl μ := by
  cases fl with
  | nx γ' => exact fun S2 σ2 H2 g k2 => h S2 σ2 H2 g (k.trans k2)
  | bk γ' => exact fun S2 σ2 H2 g k2 => h S2 σ2 H2 g (k.trans k2)
  | ct γ' => exact fun S2 σ2 H2 g k2 => h S2 σ2 H2 g (k.trans k2)
  | rt d => exact h
theorem AftS.steps {r : R Fl} {W : Xc → Ga → Sto → Prop} (k : KpT S S' H H') (h : r.All (AftS c fr S H E) W) : r.All (AftS c fr S' H' E) W := h.mono (fun _ _ q => AftS.step k q) fun _ _ _ w => w
theorem ss_nil : PSs X [] (TSn c fr fun γ μ => .ok (.nx γ) μ) := pss_nil.imp fun E σ H w => by
  obtain ⟨S, γ, μ, g, h⟩ := w
  exact h S σ H g KpT.refl
theorem ss_cons {st : Stmt} {rest : List Stmt} {r : Ga → Sto → R Fl} {rr : Ga → Sto → R Fl} (h1 : PS X st (TSn c fr r)) (h2 : PSs X rest (TSn c fr rr)) : PSs X (st :: rest) (TSn c fr fun γ μ => (r γ μ).bind fun fl μ => match fl with | .nx γ' => rr γ' μ | _ => .ok fl μ) := by
  refine (pss_cons h1 h2).imp fun E σ H w => ?_
  obtain ⟨S, γ, μ, g, h⟩ := w
  rw [R.All_bind] at h
  refine ⟨S, γ, μ, g, h.mono (fun fl μ1 h => ?_) fun _ _ _ w => w⟩
  cases fl with
  | nx γ' => exact fun S' σ' H' g' k => ⟨S', γ', μ1, g', AftS.steps k h⟩
  | bk γ' => exact h
  | ct γ' => exact h
  | rt d => exact h
/-- an owned list is frozen -/
theorem Good.freeze (g : Good c S γ μ σ H) (z0 : ∀ a, c.S0 a → c.H0 a ≠ none) {i : Nat} {xs : List D} (e : γ[i]? = some (.own (.lst xs))) : ∃ S', Good c S' (γ.set i (.val (.lst xs))) μ σ H ∧ KpT S S' H H := by
  obtain ⟨p, e1, sp, h0, mp, vs, ep, r⟩ := g.sl i _ e
  have k : Kp S (fun a => S a ∧ a ≠ p) H H := ⟨fun _ _ h _ => h, fun a z => .inl z.1⟩
  refine ⟨fun a => S a ∧ a ≠ p, ⟨by rw [List.length_set]; exact g.len, fun j s ej => ?_, fun j l o o' q e1 e2 e3 e4 => ?_, ⟨fun q ob eq => ⟨⟨(g.st.st q ob eq).1, fun z => by rw [z, mp] at eq; cases eq⟩, (g.st.st q ob eq).2.kp k rfl⟩, fun a z => g.st.sd a z.1⟩, fun a z => ⟨g.s0 a z, fun e2 => z0 a z (by rw [e2]; exact h0)⟩, g.ext, g.fr, g.md, g.kt.trans ⟨k, fun _ h => h⟩⟩, ⟨k, fun _ h => h⟩⟩
  · rcases get_set _ _ _ _ _ ej with ⟨rfl, rfl, hl⟩ | ⟨hn, ej⟩
    · exact ⟨.ref p, e1, p, vs, rfl, .inl ⟨.inl ep, fun z => z.2 rfl⟩, r.kp k⟩
    · have h := g.sl j s ej
      cases s with
      | un => trivial
      | val d => obtain ⟨v, e1, r⟩ := h; exact ⟨v, e1, r.kp k⟩
      | own ob =>
        obtain ⟨q, e2, sq, h0', m, rr⟩ := h
        refine ⟨q, e2, ⟨sq, fun z => ?_⟩, h0', m, rr.kp k rfl⟩
        subst z
        exact hn (g.ap j i _ _ q ej e e2 e1)
  · rcases get_set _ _ _ _ _ e1 with ⟨_, z, _⟩ | ⟨hn, e1⟩
    · cases z
    rcases get_set _ _ _ _ _ e2 with ⟨_, z, _⟩ | ⟨hn2, e2⟩
    · cases z
    exact g.ap j l o o' q e1 e2 e3 e4
/-- a new owned list in a slot -/
theorem Good.setOwn (g0 : Good c S γ μ σ H) (g : Good c S' γ μ' σ H') {p : Addr} {xs : List D} {vs : List V} (i : Nat) (hp : H p = none) (sp : S' p) (mp : μ' p = none) (ep : H' p = some (.lst vs)) (r : Rels c.K S' H' xs vs) : Good c S' (γ.set i (.own (.lst xs))) μ' (σ.set i (some (V.ref p))) H' := by
  refine ⟨by rw [List.length_set, List.length_set]; exact g.len, fun j s e => ?_, fun j k o o' q e1 e2 e3 e4 => ?_, g.st, g.s0, g.ext, g.fr, g.md, g.kt⟩
  · rcases get_set _ _ _ _ _ e with ⟨rfl, rfl, hl⟩ | ⟨hn, e⟩
    · exact ⟨p, by rw [List.getElem?_set_self (by rw [← g.len]; exact hl)], sp, g0.h0 hp, mp, vs, ep, r⟩
    · have h := g.sl j s e
      cases s with
      | un => trivial
      | val d => obtain ⟨w, e1, r⟩ := h; exact ⟨w, by rw [List.getElem?_set_ne (Ne.symm hn)]; exact e1, r⟩
      | own o => obtain ⟨p, e1, r⟩ := h; exact ⟨p, by rw [List.getElem?_set_ne (Ne.symm hn)]; exact e1, r⟩
  · have hon := g0.own_ne hp
    rcases get_set _ _ _ _ _ e1 with ⟨rfl, z1, l1⟩ | ⟨hn, e1⟩
    · rcases get_set _ _ _ _ _ e2 with ⟨rfl, z2, _⟩ | ⟨hn2, e2⟩
      · rfl
      · rw [List.getElem?_set_self (by rw [← g.len]; exact l1)] at e3
        rw [List.getElem?_set_ne (Ne.symm hn2)] at e4
        cases e3
        exact absurd rfl (hon k o' _ e2 e4)
    · rcases get_set _ _ _ _ _ e2 with ⟨z, z2, l2⟩ | ⟨hn2, e2⟩
      · rw [z, List.getElem?_set_self (by rw [← g.len]; exact l2)] at e4
        rw [List.getElem?_set_ne (Ne.symm hn)] at e3
        cases e4
        exact absurd rfl (hon j o _ (by assumption) e3)
      · rw [List.getElem?_set_ne (Ne.symm hn)] at e3
        rw [List.getElem?_set_ne (Ne.symm hn2)] at e4
        exact g.ap j k o o' q e1 e2 e3 e4
/-- an owned list changes -/
theorem Good.change (g : Good c S γ μ σ H) {i : Nat} {p : Addr} {o : Ob} (ys : List D) (ws : List V) (e : γ[i]? = some (.own o)) (e1 : σ[i]? = some (some (V.ref p))) (r : Rels c.K S H ys ws) : Good c S (γ.set i (.own (.lst ys))) μ σ (upd H p (.lst ws)) ∧ KpT S S H (upd H p (.lst ws)) := by
  obtain ⟨p', e1', sp, h0, mp, _⟩ := g.sl i _ e
  rw [e1] at e1'; cases e1'
  have k : KpT S S H (upd H p (.lst ws)) := KpT.refl.poke (.inl sp)
  have hl : i < γ.length := (List.getElem?_eq_some_iff.mp e).1
  refine ⟨⟨by rw [List.length_set]; exact g.len, fun j s ej => ?_, fun j l oj ol q e1 e2 e3 e4 => ?_, ⟨fun q ob eq => ⟨(g.st.st q ob eq).1, (g.st.st q ob eq).2.kp k.kp (upd_ne fun z => by rw [z, mp] at eq; cases eq)⟩, fun a z => k.th a (g.st.sd a z)⟩, g.s0, fun a u h m => ?_, g.fr, g.md, g.kt.trans k⟩, k⟩
  · rcases get_set _ _ _ _ _ ej with ⟨rfl, rfl, _⟩ | ⟨hn, ej⟩
    · exact ⟨p, e1, sp, h0, mp, ws, upd_same, r.kp k.kp⟩
    · have h := g.sl j s ej
      cases s with
      | un => trivial
      | val d => obtain ⟨v, e1, r⟩ := h; exact ⟨v, e1, r.kp k.kp⟩
      | own ob =>
        obtain ⟨q, e2, sq, h0', m, rr⟩ := h
        refine ⟨q, e2, sq, h0', m, rr.kp k.kp (upd_ne fun z => ?_)⟩
        subst z
        exact hn (g.ap j i _ _ q ej e e2 e1)
  · have conv : ∀ (j : Nat) o', (γ.set i (.own (.lst ys)))[j]? = some (.own o') → ∃ o2, γ[j]? = some (.own o2) := fun j o' h => by
      rcases get_set _ _ _ _ _ h with ⟨rfl, _, _⟩ | ⟨_, h⟩
      · exact ⟨_, e⟩
      · exact ⟨_, h⟩
    obtain ⟨o1, f1⟩ := conv j oj e1
    obtain ⟨o2, f2⟩ := conv l ol e2
    exact g.ap j l o1 o2 q f1 f2 e3 e4
  · rw [upd_ne (fun z => by rw [z, h0] at h; cases h)]; exact g.ext a u h m
/-- an owned dict is frozen, and locked -/
theorem Good.freezeD (g : Good c S γ μ σ H) (z0 : ∀ a, c.S0 a → c.H0 a ≠ none) {i : Nat} {kvs : List (D × D)} (e : γ[i]? = some (.own (.dic kvs))) : ∃ p u, H p = some u ∧ Mut (some u) ∧ ∀ od, ∃ S', Good c S' (γ.set i (.val (.dic kvs))) μ σ (upd H p (.frz od u)) ∧ KpT S S' H (upd H p (.frz od u)) := by
  obtain ⟨p, e1, sp, h0, mp, vs, ep, r⟩ := g.sl i _ e
  refine ⟨p, _, ep, trivial, fun od => ?_⟩
  have k1 : KpT S S H (upd H p (.frz od (.dK vs))) := KpT.refl.poke (.inl sp)
  have k : KpT S (fun a => S a ∧ a ≠ p) H (upd H p (.frz od (.dK vs))) := ⟨⟨k1.kp.keep, fun a z => .inl z.1⟩, k1.th⟩
  refine ⟨fun a => S a ∧ a ≠ p, ⟨by rw [List.length_set]; exact g.len, fun j s ej => ?_, fun j l o o' q e1 e2 e3 e4 => ?_, ⟨fun q ob eq => ⟨⟨(g.st.st q ob eq).1, fun z => by rw [z, mp] at eq; cases eq⟩, (g.st.st q ob eq).2.kp k.kp (upd_ne fun z => by rw [z, mp] at eq; cases eq)⟩, fun a z => k.th a (g.st.sd a z.1)⟩, fun a z => ⟨g.s0 a z, fun e2 => z0 a z (by rw [e2]; exact h0)⟩, fun a u h m => ?_, g.fr, g.md, g.kt.trans k⟩, k⟩
  · rcases get_set _ _ _ _ _ ej with ⟨rfl, rfl, hl⟩ | ⟨hn, ej⟩
    · exact ⟨.ref p, e1, p, vs, rfl, ⟨od, upd_same⟩, fun z => z.2 rfl, RelP.kp k.kp _ _ r⟩
    · have h := g.sl j s ej
      cases s with
      | un => trivial
      | val d => obtain ⟨v, e1, r⟩ := h; exact ⟨v, e1, r.kp k.kp⟩
      | own ob =>
        obtain ⟨q, e2, sq, h0', m, rr⟩ := h
        have hq : q ≠ p := fun z => by
          subst z
          exact hn (g.ap j i _ _ q ej e e2 e1)
        exact ⟨q, e2, ⟨sq, hq⟩, h0', m, rr.kp k.kp (upd_ne hq)⟩
  · rcases get_set _ _ _ _ _ e1 with ⟨_, z, _⟩ | ⟨hn, e1⟩
    · cases z
    rcases get_set _ _ _ _ _ e2 with ⟨_, z, _⟩ | ⟨hn2, e2⟩
    · cases z
    exact g.ap j l o o' q e1 e2 e3 e4
  · rw [upd_ne (fun z => by rw [z, h0] at h; cases h)]; exact g.ext a u h m
/-- a new owned object in a slot -/
theorem Good.setOwnO (g0 : Good c S γ μ σ H) (g : Good c S' γ μ' σ H') {p : Addr} {ob : Ob} (i : Nat) (hp : H p = none) (sp : S' p) (mp : μ' p = none) (r : ObR c.K S' H' p ob) : Good c S' (γ.set i (.own ob)) μ' (σ.set i (some (V.ref p))) H' := by
  refine ⟨by rw [List.length_set, List.length_set]; exact g.len, fun j s e => ?_, fun j k o o' q e1 e2 e3 e4 => ?_, g.st, g.s0, g.ext, g.fr, g.md, g.kt⟩
  · rcases get_set _ _ _ _ _ e with ⟨rfl, rfl, hl⟩ | ⟨hn, e⟩
    · exact ⟨p, by rw [List.getElem?_set_self (by rw [← g.len]; exact hl)], sp, g0.h0 hp, mp, r⟩
    · have h := g.sl j s e
      cases s with
      | un => trivial
      | val d => obtain ⟨w, e1, r⟩ := h; exact ⟨w, by rw [List.getElem?_set_ne (Ne.symm hn)]; exact e1, r⟩
      | own o => obtain ⟨p, e1, r⟩ := h; exact ⟨p, by rw [List.getElem?_set_ne (Ne.symm hn)]; exact e1, r⟩
  · have hon := g0.own_ne hp
    rcases get_set _ _ _ _ _ e1 with ⟨rfl, z1, l1⟩ | ⟨hn, e1⟩
    · rcases get_set _ _ _ _ _ e2 with ⟨rfl, z2, _⟩ | ⟨hn2, e2⟩
      · rfl
      · rw [List.getElem?_set_self (by rw [← g.len]; exact l1)] at e3
        rw [List.getElem?_set_ne (Ne.symm hn2)] at e4
        cases e3
        exact absurd rfl (hon k o' _ e2 e4)
    · rcases get_set _ _ _ _ _ e2 with ⟨z, z2, l2⟩ | ⟨hn2, e2⟩
      · rw [z, List.getElem?_set_self (by rw [← g.len]; exact l2)] at e4
        rw [List.getElem?_set_ne (Ne.symm hn)] at e3
        cases e4
        exact absurd rfl (hon j o _ (by assumption) e3)
      · rw [List.getElem?_set_ne (Ne.symm hn)] at e3
        rw [List.getElem?_set_ne (Ne.symm hn2)] at e4
        exact g.ap j k o o' q e1 e2 e3 e4
/-- an owned object changes -/
theorem Good.changeO (g : Good c S γ μ σ H) {i : Nat} {p : Addr} {o : Ob} (ob : Ob) (u : HO) (e : γ[i]? = some (.own o)) (e1 : σ[i]? = some (some (V.ref p))) (r : ObR c.K S (upd H p u) p ob) : Good c S (γ.set i (.own ob)) μ σ (upd H p u) ∧ KpT S S H (upd H p u) := by
  obtain ⟨p', e1', sp, h0, mp, _⟩ := g.sl i _ e
  rw [e1] at e1'; cases e1'
  have k : KpT S S H (upd H p u) := KpT.refl.poke (.inl sp)
  have hl : i < γ.length := (List.getElem?_eq_some_iff.mp e).1
  refine ⟨⟨by rw [List.length_set]; exact g.len, fun j s ej => ?_, fun j l oj ol q e1 e2 e3 e4 => ?_, ⟨fun q ob2 eq => ⟨(g.st.st q ob2 eq).1, (g.st.st q ob2 eq).2.kp k.kp (upd_ne fun z => by rw [z, mp] at eq; cases eq)⟩, fun a z => k.th a (g.st.sd a z)⟩, g.s0, fun a u2 h m => ?_, g.fr, g.md, g.kt.trans k⟩, k⟩
  · rcases get_set _ _ _ _ _ ej with ⟨rfl, rfl, _⟩ | ⟨hn, ej⟩
    · exact ⟨p, e1, sp, h0, mp, r⟩
    · have h := g.sl j s ej
      cases s with
      | un => trivial
      | val d => obtain ⟨v, e1, r⟩ := h; exact ⟨v, e1, r.kp k.kp⟩
      | own ob2 =>
        obtain ⟨q, e2, sq, h0', m, rr⟩ := h
        refine ⟨q, e2, sq, h0', m, rr.kp k.kp (upd_ne fun z => ?_)⟩
        subst z
        exact hn (g.ap j i _ _ q ej e e2 e1)
  · have conv : ∀ (j : Nat) o', (γ.set i (.own ob))[j]? = some (.own o') → ∃ o2, γ[j]? = some (.own o2) := fun j o' h => by
      rcases get_set _ _ _ _ _ h with ⟨rfl, _, _⟩ | ⟨_, h⟩
      · exact ⟨_, e⟩
      · exact ⟨_, h⟩
    obtain ⟨o1, f1⟩ := conv j oj e1
    obtain ⟨o2, f2⟩ := conv l ol e2
    exact g.ap j l o1 o2 q f1 f2 e3 e4
  · rw [upd_ne (fun z => by rw [z, h0] at h; cases h)]; exact g.ext a u2 h m
end
def notComp : Expr → Bool
  | .ListComp _ _ _ _ => false
  | .SetComp _ _ _ _ => false
  | .DictComp _ _ _ _ _ => false
  | _ => true
theorem noSwap {x : Expr} {t : Option Expr} {l : Nat} {env : Env} (h : notComp x = true) : swapsWith x t l env = pure false := by
  cases x <;> first | rfl | cases h
/-- a comprehension that is stored in a cell -/
def cellT (sc : Scope) (y : Str) : Expr → Bool
  | .ListComp _ _ _ _ => decide (sc.names.lookup y = some .cell)
  | x => notComp x
theorem noSwapC {x : Expr} {y : Str} {py : Pos} {l : Nat} {env : Env} (h : cellT env.scope y x = true) : swapsWith x (some (.Name y py)) l env = pure false := by
  cases x with
  | ListComp elt gs scope pos =>
    have e : env.scope.names.lookup y = some .cell := of_decide_eq_true h
    have ky : env.kindOf y = some .cell := e
    have hn : ((some NameKind.cell : Option NameKind) == some .local) = false := rfl
    unfold swapsWith
    simp only [ky, hn, Bool.and_false, Bool.false_and]
    try rfl
  | _ => exact noSwap h
def notTupE : Expr → Bool
  | .Tuple _ _ _ => false
  | _ => true
section
variable {c : Ct} {fr : Bool} {X : Cx} {pos p1 : Pos} {x : Expr} {e : Expr} {st : Bool} {r : Ga → Sto → R D}
/-- target = value, the value frozen -/
def asgR (t : List Nat) (r : Ga → Sto → R D) : Ga → Sto → R Fl := fun γ μ => (r γ μ).bind fun x μ => match setT γ t x with | some γ' => .ok (.nx γ') μ | none => .fail
theorem asg_imp {t : List Nat} {E : Ends} {σ : L2.St} {H : Hp} (w : TSn c fr (asgR t r) E σ H) : tAsg (TEn c true r) (TGn c t) E σ H := by
  obtain ⟨S, γ, μ, g, h⟩ := w
  unfold asgR at h
  rw [R.All_bind] at h
  refine ⟨S, γ, μ, g, h.mono (fun d μ1 h => ?_) fun _ _ _ w => w⟩
  intro S1 v H1 g1 s1 r1
  cases e : setT γ t d with
  | none => rw [e] at h; exact h.elim
  | some γ' => rw [e] at h; exact ⟨S1, γ, μ1, d, γ', g1, r1, e, fun σ' g' _ => h S1 σ' H1 g' (s1.kpT g.st.dm)⟩
theorem st_asg (hN : X.N.Nodup) {i : Nat} {y : Str} (h : Sto1 X i y) (he : PE X x (TEn c true r)) (hs : cellT X.env.scope y x = true) : PS X (.Assign [.Name y p1] x pos) (TSn c fr (asgR [i] r)) := by
  refine (ps_set hN h.ix h.loc he (noSwapC hs) h.fn).imp fun E σ H w => ?_
  obtain ⟨S, γ, μ, g, a⟩ := asg_imp w
  refine ⟨S, γ, μ, g, a.mono (fun d μ1 q => ?_) fun _ _ _ w => w⟩
  intro S1 v H1 g1 s1 r1
  obtain ⟨S2, γ2, μ2, d2, γ3, g2, r2, e2, q2⟩ := q S1 v H1 g1 s1 r1
  cases e2
  exact q2 _ (g2.set i r2) fr_set
theorem st_asgT {t : List Nat} {es : List Expr} {k : Nat} (hK : X.K = c.K) (hc : X.calm = true) (hN : X.N.Nodup) (h : nmsIs X t es) (h2 : 2 ≤ t.length) (he : PE X x (TEn c true r)) (hs : notComp x = true) (hs2 : notTupE x = true) : PS X (.Assign [.Tuple es k p1] x pos) (TSn c fr (asgR t r)) := by
  refine (ps_asg (pos := pos) he (sndG_tup hK hc hN h h2) (by unfold swapsWithSole; exact noSwap hs) (by cases x <;> first | rfl | cases hs2) rfl).imp fun E σ H w => asg_imp w
/-- a new list, owned -/
def ownR (i : Nat) (r : Ga → Sto → R D) : Ga → Sto → R Fl := fun γ μ => (r γ μ).bind fun x μ => match x with | .lst xs => .ok (.nx (γ.set i (.own (.lst xs)))) μ | _ => .fail
theorem own_imp {i : Nat} {E : Ends} {σ : L2.St} {H : Hp} (w : TSn c fr (ownR i r) E σ H) : tAsg (TFn c r) (gName i) E σ H := by
  obtain ⟨S, γ, μ, g, h⟩ := w
  unfold ownR at h
  rw [R.All_bind] at h
  refine ⟨S, γ, μ, g, h.mono (fun d μ1 h => ?_) fun _ _ _ w => w⟩
  rintro S' p vs H' xs rfl g' s hp sp mp ep rr
  exact h S' _ H' (g.setOwn g' i hp sp mp ep rr) (s.kpT g.st.dm)
theorem asg1_imp {i : Nat} {E : Ends} {σ : L2.St} {H : Hp} (w : TSn c fr (asgR [i] r) E σ H) : tAsg (TFn c r) (gName i) E σ H := by
  obtain ⟨S, γ, μ, g, a⟩ := asg_imp w
  refine TFn_of ⟨S, γ, μ, g, a.mono (fun d μ1 q => ?_) fun _ _ _ w => w⟩
  intro S1 v H1 g1 s1 r1
  obtain ⟨S2, γ2, μ2, d2, γ3, g2, r2, e2, q2⟩ := q S1 v H1 g1 s1 r1
  cases e2
  exact q2 _ (g2.set i r2) fr_set
theorem asgS_imp {i : Nat} {E : Ends} {σ : L2.St} {H : Hp} (w : TSn c fr (asgR [i] fun γ μ => (r γ μ).bind stoR) E σ H) : tAsg (TFn c r) (gName i) E σ H := by
  obtain ⟨S, γ, μ, g, a⟩ := asg_imp w
  refine sto_of ⟨S, γ, μ, g, a.mono (fun d μ1 q => ?_) fun _ _ _ w => w⟩
  intro S1 v H1 g1 s1 r1
  obtain ⟨S2, γ2, μ2, d2, γ3, g2, r2, e2, q2⟩ := q S1 v H1 g1 s1 r1
  cases e2
  exact q2 _ (g2.set i r2) fr_set
theorem st_own (hN : X.N.Nodup) {i : Nat} {y : Str} (h : Sto1 X i y) (he : PE X x (TFn c r)) (hs : cellT X.env.scope y x = true) : PS X (.Assign [.Name y p1] x pos) (TSn c fr (ownR i r)) :=
  (ps_set hN h.ix h.loc he (noSwapC hs) h.fn).imp fun E σ H w => own_imp w
/-- x = {} -/
theorem st_ownd (hN : X.N.Nodup) {i : Nat} {y : Str} (h : Sto1 X i y) : PS X (.Assign [.Name y p1] (.Dict [] [] p2) pos) (TSn c fr fun γ μ => .ok (.nx (γ.set i (.own (.dic [])))) μ) := by
  refine (ps_set hN h.ix h.loc pe_dnewK (noSwapC rfl) h.fn).imp fun E σ H w => ?_
  obtain ⟨S, γ, μ, g, q⟩ := w
  intro p hp
  obtain ⟨g0, s0, mp, np⟩ := open_new g (HO.dK []) hp
  exact q _ _ _ (g.setOwnO g0 i hp (.inr rfl) mp ⟨[], upd_same, rfl⟩) (s0.kpT g.st.dm)
/-- x.append(e) -/
theorem st_app (hK : X.K = c.K) {i : Nat} {y : Str} {p2 p3 p4 : Pos} (hy : X.N[i]? = some y) (hv : Vis X.env.scope y) (hd : (y == ("__debug__" : Str)) = false) (hcd : (y == ("__classdict__" : Str)) = false) (he : PE X x (TEn c true r)) (hs : nst x = true) (hl : (p2.endLine == p3.line) = true) :
    PS X (.Expr (.Call (.Attribute (.Name y p1) "append" p2) [x] [] p3) p4) (TSn c fr fun γ μ => match γ[i]? with
      | some (.own (.lst xs)) => (r γ μ).bind fun x μ => if xs.length < 1000000 then .ok (.nx (γ.set i (.own (.lst (xs ++ [x]))))) μ else .fail
      | _ => .fail) := by
  have hfew : ((backTo p3 (starEach [x] X.env)).all (fun x => !x.1) && (backToKw p3 (keywordEach [] X.env)).all (fun x => x.1.isSome) && decide (([x] : List Expr).length + ([] : List Keyword).length + (if ([] : List Keyword).isEmpty then 0 else 1) < 30)) = true := by
    rw [star_cons hs]; rfl
  refine (ps_expr (pe_bm (T := "list") PySem.F.plainAttrs_list PySem.F.slot_list_append PySem.F.type_list_append mt_append (pe_var hy hv hd hcd) (pa_cons he pa_nil (star_cons hs)) rfl hfew hl (star_cons hs) rfl) rfl).imp fun E σ H w => ?_
  obtain ⟨S, γ, μ, g, h⟩ := w
  try dsimp only at h
  cases eγ : γ[i]? with
  | none => rw [eγ] at h; exact h.elim
  | some s =>
    rw [eγ] at h
    cases s with
    | un => exact h.elim
    | val d => exact h.elim
    | own o =>
      cases o with
      | dic _ => exact h.elim
      | ins _ _ => exact h.elim
      | lst xs =>
        obtain ⟨p, e1, sp, h0, mp, vs, ep, rs⟩ := g.sl i _ eγ
        refine ⟨.ref p, e1, .inl ⟨rfl, vs, .inl (.inl ep)⟩, ?_⟩
        have h : ((r γ μ).bind fun x μ => if xs.length < 1000000 then R.ok (.nx (γ.set i (.own (.lst (xs ++ [x]))))) μ else .fail).All (AftS c fr S H E) c.V := h
        rw [R.All_bind] at h
        refine ⟨S, γ, μ, g, h.mono (fun d μ1 h => ?_) fun _ _ _ w => w⟩
        intro S1 v H1 g1 s1 r1
        by_cases hlen : xs.length < 1000000
        · rw [if_pos hlen] at h
          have ep1 : H1 p = some (.lst vs) := s1.keep p _ ep mp
          have rs1 := rs.kp (s1.kp g.st.dm)
          obtain ⟨g2, k2⟩ := g1.change (xs ++ [d]) (vs ++ [v]) eγ e1 (rs1.append (Rels.one r1))
          exact ⟨p, vs, v, rfl, rfl, ep1, by rw [rs.length]; exact Nat.lt_of_lt_of_le hlen (big_line (Nat.le_refl _)), h S1 σ _ g2 ((s1.kpT g.st.dm).trans k2)⟩
        · rw [if_neg hlen] at h; exact h.elim
/-- x.pop() -/
theorem st_pop (hK : X.K = c.K) {i : Nat} {y : Str} {p2 p3 p4 : Pos} (hy : X.N[i]? = some y) (hv : Vis X.env.scope y) (hd : (y == ("__debug__" : Str)) = false) (hcd : (y == ("__classdict__" : Str)) = false) (hl : (p2.endLine == p3.line) = true) :
    PS X (.Expr (.Call (.Attribute (.Name y p1) "pop" p2) [] [] p3) p4) (TSn c fr fun γ μ => match γ[i]? with
      | some (.own (.lst xs)) => if xs.isEmpty then .fail else .ok (.nx (γ.set i (.own (.lst xs.dropLast)))) μ
      | _ => .fail) := by
  refine (ps_expr (pe_bm0 (T := "list") PySem.F.plainAttrs_list PySem.F.slot_list_pop PySem.F.type_list_pop mt_pop (pe_var hy hv hd hcd) rfl hl) rfl).imp fun E σ H w => ?_
  obtain ⟨S, γ, μ, g, h⟩ := w
  try dsimp only at h
  cases eγ : γ[i]? with
  | none => rw [eγ] at h; exact h.elim
  | some s =>
    rw [eγ] at h
    cases s with
    | un => exact h.elim
    | val d => exact h.elim
    | own o =>
      cases o with
      | dic _ => exact h.elim
      | ins _ _ => exact h.elim
      | lst xs =>
        obtain ⟨p, e1, sp, h0, mp, vs, ep, rs⟩ := g.sl i _ eγ
        refine ⟨.ref p, e1, .inl ⟨rfl, vs, .inl (.inl ep)⟩, ?_⟩
        have h : (if xs.isEmpty then R.fail else R.ok (.nx (γ.set i (.own (.lst xs.dropLast)))) μ).All (AftS c fr S H E) c.V := h
        by_cases hne : xs.isEmpty = true
        · rw [if_pos hne] at h; exact h.elim
        · rw [if_neg hne] at h
          have hl2 := rs.length
          have hlen : xs.length - 1 < xs.length := by
            cases xs with
            | nil => exact absurd rfl hne
            | cons _ _ => simp
          obtain ⟨v, ev, _⟩ := rs.get (List.getElem?_eq_getElem hlen)
          have hdl : xs.dropLast = xs.take (xs.length - 1) := List.dropLast_eq_take
          have hdv : vs.dropLast = vs.take (xs.length - 1) := by rw [List.dropLast_eq_take, hl2]
          obtain ⟨g2, k2⟩ := g.change xs.dropLast vs.dropLast eγ e1 (by rw [hdl, hdv]; exact rs.take _)
          exact ⟨p, vs, v, rfl, rfl, ep, by rw [hl2]; exact ev, h S σ _ g2 k2⟩
/-- o[i] = e -/
theorem st_lset {o i : Expr} {ro ri : Ga → Sto → R D} {so si : Bool} (hK : X.K = c.K) (he : PE X x (TEn c true r)) (ho : PE X o (TEn c so ro)) (hi : PE X i (TEn c si ri)) (hs : notComp x = true) (hix : pIx i = true) :
    PS X (.Assign [.Subscript o i p1] x pos) (TSn c fr fun γ μ => (r γ μ).bind fun x μ => (ro γ μ).bind fun o μ => (ri γ μ).bind fun j μ => match o, j with
      | .loc p, .int j => match μ p with
        | some (.lst xs) => match L2.ixN xs.length j with
          | some n => .ok (.nx γ) (μ.put p (.lst (xs.set n x)))
          | none => .fail
        | _ => .fail
      | _, _ => .fail) := by
  refine (ps_asg (pos := pos) he (pg_sub (PEweak ho) (PEweak hi) set_list (by intro v; cases i <;> first | rfl | cases hix)) (by unfold swapsWithSole; exact noSwap hs) rfl rfl).imp fun E σ H w => ?_
  obtain ⟨S, γ, μ, g, h⟩ := w
  rw [R.All_bind] at h
  refine ⟨S, γ, μ, g, h.mono (fun d μ1 h => ?_) fun _ _ _ w => w⟩
  intro S1 v H1 g1 s1 r1
  rw [R.All_bind] at h
  refine ⟨S1, γ, μ1, g1, h.mono (fun od μ2 h => ?_) fun _ _ _ w => w⟩
  intro S2 ov H2 g2 s2 r2
  rw [R.All_bind] at h
  refine ⟨S2, γ, μ2, g2, h.mono (fun jd μ3 h => ?_) fun _ _ _ w => w⟩
  intro S3 jv H3 g3 s3 r3
  have r1' : Rel c.K S3 H3 d v := Rel.kp (s3.kp g2.st.dm) d v (Rel.kp (s2.kp g1.st.dm) d v r1)
  cases od with
  | loc p =>
    cases jd with
    | int j =>
      have eo : ov = .ref p := r2
      have ej : jv = .int j := r3
      subst eo ej
      dsimp only at h
      cases eμ : μ3 p with
      | none => rw [eμ] at h; exact h.elim
      | some ob =>
        rw [eμ] at h
        cases ob with
        | lst xs =>
          obtain ⟨sp, vs, ep, rs⟩ := g3.st.st p _ eμ
          dsimp only at h
          cases en : L2.ixN xs.length j with
          | none => rw [en] at h; exact h.elim
          | some m =>
            rw [en] at h
            obtain ⟨g4, k4⟩ := g3.putSto (xs.set m d) (vs.set m v) eμ (rs.set m r1')
            exact ⟨p, vs, j, m, rfl, rfl, ep, by rw [rs.length]; exact en, h S3 σ _ g4 (((s1.trans (s2.trans s3)).kpT g.st.dm).trans k4)⟩
        | dic _ => exact h.elim
        | ins _ _ => exact h.elim
    | _ => exact h.elim
  | _ => exact h.elim
theorem st_expr (he : PE X x (TEn c st r)) (hs : notComp x = true) : PS X (.Expr x pos) (TSn c fr fun γ μ => (r γ μ).bind fun _ μ => .ok (.nx γ) μ) := by
  refine (ps_expr (PEweak he) (noSwap hs)).imp fun E σ H w => ?_
  obtain ⟨S, γ, μ, g, h⟩ := w
  rw [R.All_bind] at h
  refine ⟨S, γ, μ, g, h.mono (fun d μ1 h => ?_) fun _ _ _ w => w⟩
  exact fun S1 v H1 g1 s1 r1 => h S1 σ H1 g1 (s1.kpT g.st.dm)
theorem st_ret (he : PE X x (TEn c true r)) : PS X (.Return (some x) pos) (TSn c false fun γ μ => (r γ μ).bind fun x μ => .ok (.rt x) μ) := by
  refine (ps_ret he).imp fun E σ H w => ?_
  obtain ⟨S, γ, μ, g, h⟩ := w
  rw [R.All_bind] at h
  refine ⟨S, γ, μ, g, h.mono (fun d μ1 h => ?_) fun _ _ _ w => w⟩
  exact fun S1 v H1 g1 s1 r1 => h v H1 ⟨S1, γ, σ, g1, r1⟩
theorem st_retF (he : PE X x (TFn c r)) : PS X (.Return (some x) pos) (TSn c true fun γ μ => (r γ μ).bind fun x μ => .ok (.rt x) μ) := by
  refine (ps_ret he).imp fun E σ H w => ?_
  obtain ⟨S, γ, μ, g, h⟩ := w
  rw [R.All_bind] at h
  refine ⟨S, γ, μ, g, h.mono (fun d μ1 h => ?_) fun _ _ _ w => w⟩
  rintro S' p vs H' xs rfl g' s hp sp mp ep rr
  exact h _ H' ⟨S', γ, σ, g', xs, p, vs, rfl, rfl, sp, g.h0 hp, mp, ep, rr⟩
theorem st_retO {i : Nat} {y : Str} (hy : X.N[i]? = some y) (hv : Vis X.env.scope y) (hd : (y == ("__debug__" : Str)) = false) (hcd : (y == ("__classdict__" : Str)) = false) :
    PS X (.Return (some (.Name y p1)) pos) (TSn c true fun γ μ => (match γ[i]? with | some (.own (.lst xs)) => R.ok (.lst xs) μ | _ => .fail : R D).bind fun x μ => .ok (.rt x) μ) := by
  refine (ps_ret (pe_var hy hv hd hcd)).imp fun E σ H w => ?_
  obtain ⟨S, γ, μ, g, h⟩ := w
  try dsimp only at h
  cases eγ : γ[i]? with
  | none => rw [eγ] at h; exact h.elim
  | some s =>
    rw [eγ] at h
    cases s with
    | un => exact h.elim
    | val d => exact h.elim
    | own o =>
      cases o with
      | dic _ => exact h.elim
      | ins _ _ => exact h.elim
      | lst xs =>
        obtain ⟨p, e1, sp, h0, mp, vs, ep, rs⟩ := g.sl i _ eγ
        exact ⟨.ref p, e1, h _ H ⟨S, γ, σ, g, xs, p, vs, rfl, rfl, sp, h0, mp, ep, rs⟩⟩
theorem st_retn : PS X (.Return none pos) (TSn c false fun γ μ => .ok (.rt .non) μ) := ps_retN.imp fun E σ H w => by
  obtain ⟨S, γ, μ, g, h⟩ := w
  exact h .non H ⟨S, γ, σ, g, rfl⟩
theorem st_pass : PS X (.Pass pos) (TSn c fr fun γ μ => .ok (.nx γ) μ) := ps_pass.imp fun E σ H w => by
  obtain ⟨S, γ, μ, g, h⟩ := w
  exact h S σ H g KpT.refl
theorem st_brk : PS X (.Break pos) (TSn c fr fun γ μ => .ok (.bk γ) μ) := ps_break.imp fun E σ H w => by
  obtain ⟨S, γ, μ, g, h⟩ := w
  exact h S σ H g KpT.refl
theorem st_cont : PS X (.Continue pos) (TSn c fr fun γ μ => .ok (.ct γ) μ) := ps_continue.imp fun E σ H w => by
  obtain ⟨S, γ, μ, g, h⟩ := w
  exact h S σ H g KpT.refl
theorem st_ite {cd : Expr} {a b : List Stmt} {rc : Ga → Sto → R Bool} {ra rb : Ga → Sto → R Fl} (hc : PT X cd (TTn c rc)) (ha : PSs X a (TSn c fr ra)) (hb : PSs X b (TSn c fr rb)) : PS X (.If cd a b pos) (TSn c fr fun γ μ => (rc γ μ).bind fun t μ => if t then ra γ μ else rb γ μ) := by
  refine (ps_if hc ha hb).imp fun E σ H w => ?_
  obtain ⟨S, γ, μ, g, h⟩ := w
  rw [R.All_bind] at h
  refine ⟨S, γ, μ, g, h.mono (fun t μ1 h => ?_) fun _ _ _ w => w⟩
  intro S1 H1 g1 s1
  cases t with
  | true => rw [if_pos rfl] at h ⊢; exact ⟨S1, γ, μ1, g1, AftS.steps (s1.kpT g.st.dm) h⟩
  | false => rw [if_neg (by decide)] at h ⊢; exact ⟨S1, γ, μ1, g1, AftS.steps (s1.kpT g.st.dm) h⟩
theorem st_for {tg it : Expr} {b : List Stmt} {t kill : List Nat} {ri : Ga → Sto → R (List D)} {rb : Ga → Sto → R Fl} (hp : PassesOwn (model X.prog X.w) X.A X.env X.xe) (hc : X.calm = true) (hi : PI X tg it (TIn c true ri)) (hg : PG X tg (TGn c t)) (hb : PSs X b (TSn c fr rb)) (hs : noSet it = true) :
    PS X (.For tg it b [] pos) (TSn c fr fun γ μ => (ri γ μ).bind fun xs μ => forL (fun y γ μ => match setT γ t y with | some γ' => rb γ' μ | none => .fail) kill xs γ μ) := by
  refine (ps_for hp hc hi hg hb (folded hs _)).imp fun E σ H w => ?_
  obtain ⟨S, γ, μ, g, h⟩ := w
  rw [R.All_bind] at h
  refine ⟨S, γ, μ, g, h.mono (fun ds μ1 h => ?_) fun _ _ _ w => w⟩
  intro S1 J H1 g1 s1 wk
  have wk : WkS c J ds S1 H1 := wk
  have k1 := s1.kpT g.st.dm
  refine ⟨fun i m σ' H' => m = ds.length - i ∧ i ≤ ds.length ∧ ∃ S' γ' μ', Good c S' γ' μ' σ' H' ∧ KpT S1 S' H1 H' ∧ (forL (fun y γ μ => match setT γ t y with | some γ' => rb γ' μ | none => .fail) kill (ds.drop i) γ' μ').All (AftS c fr S H E) c.V,
    ⟨_, rfl, Nat.zero_le _, S1, γ, μ1, g1, KpT.refl, h⟩, ?_⟩
  rintro i m σ' H' ⟨rfl, hi, S', γ', μ', g', k', h⟩
  have gd := wk S' H' k'.kp g'.st.sd
  by_cases hlt : i < ds.length
  · refine .inr ⟨gd.1 i hlt, _, fun σ2 H2 p => ⟨ds.length - (i + 1), by omega, rfl, hlt, p⟩, fun x H2 y => ?_⟩
    obtain ⟨hy, d, e, rx⟩ := gd.2.2 i x H2 hlt y
    have ed : ds[i]'hlt = d := by rw [List.getElem?_eq_getElem hlt] at e; exact Option.some.inj e
    rw [List.drop_eq_getElem_cons hlt, ed] at h
    unfold forL at h
    rw [R.All_bind] at h
    obtain ⟨sy, oky⟩ := yld_step g'.st hy
    have k2 := k'.trans (sy.kpT g'.st.dm)
    cases et : setT γ' t d with
    | none => rw [et] at h; exact h.elim
    | some γ2 =>
      rw [et] at h
      refine ⟨S', γ', μ', d, γ2, g'.step sy oky, rx, et, fun σ2 g2 _ => ⟨S', γ2, μ', g2, h.mono (fun fl μ3 h => ?_) fun _ _ _ w => w⟩⟩
      cases fl with
      | nx γ3 => exact fun S4 σ4 H4 g4 k4 => ⟨S4, wipeG γ3 kill, μ3, g4.wipeG kill, k2.trans k4, h⟩
      | ct γ3 => exact fun S4 σ4 H4 g4 k4 => ⟨S4, wipeG γ3 kill, μ3, g4.wipeG kill, k2.trans k4, h⟩
      | bk γ3 => exact fun S4 σ4 H4 g4 k4 => h S4 σ4 H4 (g4.wipeG kill) ((k1.trans k2).trans k4)
      | rt d => exact h
  · have e : i = ds.length := by omega
    subst e
    rw [List.drop_length] at h
    exact .inl ⟨gd.2.1, h S' σ' H' g' (k1.trans k')⟩
theorem st_while {cd : Expr} {b : List Stmt} {kill : List Nat} {rc : Ga → Sto → R Bool} {rb : Ga → Sto → R Fl} {n : Nat} (hp : PassesOwn (model X.prog X.w) X.A X.env X.xe) (hc : PT X cd (TTn c rc)) (hb : PSs X b (TSn c fr rb)) :
    PS X (.While cd b [] pos) (TSn c fr fun γ μ => whileL rc rb kill n γ μ) := by
  refine (ps_while hp hc hb).imp fun E σ H w => ?_
  obtain ⟨S, γ, μ, g, h⟩ := w
  refine ⟨fun m σ' H' => ∃ S' γ' μ', Good c S' γ' μ' σ' H' ∧ KpT S S' H H' ∧ (whileL rc rb kill m γ' μ').All (AftS c fr S H E) c.V, ⟨n, S, γ, μ, g, KpT.refl, h⟩, ?_⟩
  rintro m σ' H' ⟨S', γ', μ', g', k', h⟩
  cases m with
  | zero => exact h.elim
  | succ m =>
    unfold whileL at h
    rw [R.All_bind] at h
    refine ⟨S', γ', μ', g', h.mono (fun t μ1 h => ?_) fun _ _ _ w => w⟩
    intro S1 H1 g1 s1
    have k1 := k'.trans (s1.kpT g'.st.dm)
    cases t with
    | false => rw [if_neg (by decide)] at h ⊢; exact h S1 σ' H1 g1 k1
    | true =>
      rw [if_pos rfl] at h ⊢
      rw [R.All_bind] at h
      refine ⟨_, fun σ2 H2 p => ⟨m, Nat.lt_succ_self m, p⟩, S1, γ', μ1, g1, h.mono (fun fl μ3 h => ?_) fun _ _ _ w => w⟩
      cases fl with
      | nx γ3 => exact fun S4 σ4 H4 g4 k4 => ⟨S4, wipeG γ3 kill, μ3, g4.wipeG kill, k1.trans k4, h⟩
      | ct γ3 => exact fun S4 σ4 H4 g4 k4 => ⟨S4, wipeG γ3 kill, μ3, g4.wipeG kill, k1.trans k4, h⟩
      | bk γ3 => exact fun S4 σ4 H4 g4 k4 => h S4 σ4 H4 (g4.wipeG kill) (k1.trans k4)
      | rt d => exact h
end
end Bs
/-! Bs: assignments that change: x o= e, x[i] = e, x[i] o= e, x += [..], o.append(e). -/
namespace Bs
open PySem L2
section
variable {X : Cx} {c : Ct}
theorem get_list : PGet X (rIxL X.K) := by
  intro pins s σ H x y v u Q I rx ry h
  obtain ⟨p, xs, i, z, rfl, rfl, hq, he, q⟩ := h
  cases rx
  obtain ⟨t, rfl⟩ := ry
  obtain ⟨its, r, pl, hz⟩ := I.list hq
  obtain ⟨j, h1, h2, h3, h4, h5⟩ := atI_get he
  obtain ⟨w, ew, rw'⟩ := r.get h2
  have hl := r.length
  have hn := line63
  have fin : EP X pins σ Q w s := ⟨z, H, I, rw', q⟩
  by_cases h0 : 0 ≤ i
  · have hj : i.toNat = j := by
      rw [seqIndex_of h0 h5] at h1
      exact Option.some.inj h1
    exact wpAny_getItem_list pl.isList h0 (by omega) (by rw [hj]; simpa using ew) fin
  · have hj : (i + (its.toArray.size : Int)).toNat = j := by
      rw [seqIndex_neg (by omega) h4] at h1
      rw [List.size_toArray, ← hl]
      exact Option.some.inj h1
    exact wpAny_getItem_list_neg pl.isList (by omega) (by rw [List.size_toArray] <;> omega) (by omega) (by rw [hj]; simpa using ew) fin
theorem ip_aug (o : Bop) : ∃ r, PIp X (bopOf o) r ∧ ∀ (K : PySem.W.Frag) (T S : Sa) (H : Hp) (d e z : D) (v w : V) (Q : VK), RelW K T S H d v → RelW K T S H e w → augB o d e = some z → (∀ u, (∀ S H, Rel K S H z u) → Q u H) → r v w H Q := by
  cases o with
  | add =>
    refine ⟨_, iop_add.or iop_add_str, fun K T S H d e z v w Q rd re hz q => ?_⟩
    cases d <;> cases e <;> simp only [augB, Option.ite_none_right_eq_some, Option.some.injEq, reduceCtorEq] at hz
    · subst hz
      exact .inl ⟨_, _, rw_int rd, rw_int re, q _ fun _ _ => rfl⟩
    · obtain ⟨hl, rfl⟩ := hz
      obtain ⟨rfl, l1, a1⟩ := rw_str rd
      obtain ⟨rfl, l2, a2⟩ := rw_str re
      refine .inr ⟨_, _, rfl, rfl, by rw [str_len, str_len]; exact big_line hl, ?_⟩
      rw [str_app]
      exact q _ fun _ _ => rel_str (by rw [List.length_append]; exact hl) fun c hc => (List.mem_append.mp hc).elim (a1 c) (a2 c)
  | sub =>
    refine ⟨_, iop_sub, fun K T S H d e z v w Q rd re hz q => ?_⟩
    cases d <;> cases e <;> simp only [augB, Option.some.injEq, reduceCtorEq] at hz
    subst hz
    exact ⟨_, _, rw_int rd, rw_int re, q _ fun _ _ => rfl⟩
  | mul => exact ⟨fun _ _ _ _ => False, fun _ _ _ _ _ _ _ _ _ _ _ _ z => z.elim, fun K T S H d e z v w Q rd re hz q => by cases d <;> cases e <;> cases hz⟩
  | fdiv => exact ⟨fun _ _ _ _ => False, fun _ _ _ _ _ _ _ _ _ _ _ _ z => z.elim, fun K T S H d e z v w Q rd re hz q => by cases d <;> cases e <;> cases hz⟩
  | mod => exact ⟨fun _ _ _ _ => False, fun _ _ _ _ _ _ _ _ _ _ _ _ z => z.elim, fun K T S H d e z v w Q rd re hz q => by cases d <;> cases e <;> cases hz⟩
  | pow => exact ⟨fun _ _ _ _ => False, fun _ _ _ _ _ _ _ _ _ _ _ _ z => z.elim, fun K T S H d e z v w Q rd re hz q => by cases d <;> cases e <;> cases hz⟩
end
section
variable {c : Ct} {fr : Bool} {X : Cx} {pos p1 p2 p3 p4 : Pos} {x : Expr} {e : Expr} {st : Bool} {r : Ga → Sto → R D}
/-- x o= e -/
theorem st_aug (hN : X.N.Nodup) (o : Bop) {i : Nat} {y : Str} (h : Sto1 X i y) (he : PE X x (TEn c st r)) :
    PS X (.AugAssign (.Name y p1) (bopOf o) x pos) (TSn c fr fun γ μ => match γ[i]? with
      | some (.val x) => (r γ μ).bind fun y μ => match augB o x y with
        | some z => .ok (.nx (γ.set i (.val z))) μ
        | none => .fail
      | _ => .fail) := by
  obtain ⟨ri, h1, h2⟩ := ip_aug (X := X) o
  refine (ps_aug hN h.ix h.loc (PEweak he) h1 h.fn).imp fun E σ H w => ?_
  obtain ⟨S, γ, μ, g, h⟩ := w
  try dsimp only at h
  cases eγ : γ[i]? with
  | none => rw [eγ] at h; exact h.elim
  | some s =>
    rw [eγ] at h
    cases s with
    | un => exact h.elim
    | own o => exact h.elim
    | val d =>
      obtain ⟨v, e1, rv⟩ := g.sl i _ eγ
      refine ⟨v, e1, ?_⟩
      have h : ((r γ μ).bind fun y μ => match augB o d y with | some z => R.ok (.nx (γ.set i (.val z))) μ | none => .fail).All (AftS c fr S H E) c.V := h
      rw [R.All_bind] at h
      refine ⟨S, γ, μ, g, h.mono (fun e μ1 h => ?_) fun _ _ _ w => w⟩
      intro S1 w H1 g1 s1 r1
      cases ez : augB o d e with
      | none => rw [ez] at h; exact h.elim
      | some z =>
        rw [ez] at h
        exact h2 c.K (Dm μ1) S1 H1 d e z v w _ (Rel.weak (Rel.kp (s1.kp g.st.dm) _ _ rv) g1.st.dm) r1 ez fun u ru => h S1 _ H1 (g1.set i (ru S1 H1)) (s1.kpT g.st.dm)
/-- o.append(e), o in the store -/
theorem st_lapp {o : Expr} {ro : Ga → Sto → R D} {so : Bool} (ho : PE X o (TEn c so ro)) (he : PE X x (TEn c true r)) (hs : nst x = true) (hn : noCall o = true) (hl : (p2.endLine == p3.line) = true) :
    PS X (.Expr (.Call (.Attribute o "append" p2) [x] [] p3) p4) (TSn c fr fun γ μ => (ro γ μ).bind fun o μ => if isL μ o then (r γ μ).bind fun x μ => match o with
      | .loc p => match μ p with
        | some (.lst xs) => if xs.length < 1000000 then .ok (.nx γ) (μ.put p (.lst (xs ++ [x]))) else .fail
        | _ => .fail
      | _ => .fail
      else .fail) := by
  refine (ps_expr (pe_bm (T := "list") PySem.F.plainAttrs_list PySem.F.slot_list_append PySem.F.type_list_append mt_append (PEweak ho) (pa_cons he pa_nil (star_cons hs)) (abase hn) (few_of hs) hl (star_cons hs) rfl) rfl).imp fun E σ H w => ?_
  obtain ⟨S, γ, μ, g, h⟩ := w
  rw [R.All_bind] at h
  refine ⟨S, γ, μ, g, h.mono (fun d μ1 h => ?_) fun _ _ _ w => w⟩
  intro S1 v H1 g1 s1 r1
  by_cases hL : isL μ1 d = true
  · rw [if_pos hL] at h
    obtain ⟨p, xs, vs, rfl, rfl, eμ, ep, rs⟩ := isL_ty g1 r1 hL
    refine ⟨.inl ⟨rfl, vs, .inl (.inl ep)⟩, ?_⟩
    rw [R.All_bind] at h
    refine ⟨S1, γ, μ1, g1, h.mono (fun e μ2 h => ?_) fun _ _ _ w => w⟩
    intro S2 w H2 g2 s2 r2
    try dsimp only at h
    cases eμ2 : μ2 p with
    | none => rw [eμ2] at h; exact h.elim
    | some ob =>
      rw [eμ2] at h
      cases ob with
      | dic _ => exact h.elim
      | ins _ _ => exact h.elim
      | lst ys =>
        try dsimp only at h
        obtain ⟨sp, ws, ep2, rs2⟩ := g2.st.st p _ eμ2
        by_cases hlen : ys.length < 1000000
        · rw [if_pos hlen] at h
          obtain ⟨g3, k3⟩ := g2.putSto (ys ++ [e]) (ws ++ [w]) eμ2 (rs2.append (Rels.one r2))
          exact ⟨p, ws, w, rfl, rfl, ep2, by rw [rs2.length]; exact Nat.lt_of_lt_of_le hlen (big_line (Nat.le_refl _)), h S2 σ _ g3 (((s1.trans s2).kpT g.st.dm).trans k3)⟩
        · rw [if_neg hlen] at h; exact h.elim
  · rw [if_neg hL] at h; exact h.elim
variable {i : Nat} {y : Str} {j : Expr} {rj : Ga → Sto → R D} {sj : Bool}
theorem own_of {S : Sa} {γ : Ga} {μ : Sto} {σ : L2.St} {H : Hp} {f : List D → R Fl} {Qd : Fl → Sto → Prop} {W : Xc → Ga → Sto → Prop} (g : Good c S γ μ σ H) (h : (match γ[i]? with | some (.own (.lst xs)) => f xs | _ => .fail).All Qd W) :
    ∃ xs p vs, γ[i]? = some (.own (.lst xs)) ∧ σ[i]? = some (some (V.ref p)) ∧ μ p = none ∧ H p = some (.lst vs) ∧ Rels c.K S H xs vs ∧ (f xs).All Qd W := by
  cases eγ : γ[i]? with
  | none => rw [eγ] at h; exact h.elim
  | some s =>
    rw [eγ] at h
    cases s with
    | un => exact h.elim
    | val d => exact h.elim
    | own o =>
      cases o with
      | dic _ => exact h.elim
      | ins _ _ => exact h.elim
      | lst xs =>
        obtain ⟨p, e1, sp, h0, mp, vs, ep, rs⟩ := g.sl i _ eγ
        exact ⟨xs, p, vs, rfl, e1, mp, ep, rs, h⟩
/-- x[j] = e, x owned -/
theorem st_oset (hy : X.N[i]? = some y) (hv : Vis X.env.scope y) (hd : (y == ("__debug__" : Str)) = false) (hcd : (y == ("__classdict__" : Str)) = false) (he : PE X x (TEn c true r)) (hj : PE X j (TEn c sj rj)) (hs : notComp x = true) (hix : pIx j = true) :
    PS X (.Assign [.Subscript (.Name y p2) j p1] x pos) (TSn c fr fun γ μ => match γ[i]? with
      | some (.own (.lst xs)) => (r γ μ).bind fun x μ => (rj γ μ).bind fun y μ => osetR γ i xs x y μ
      | _ => .fail) := by
  refine (ps_asg (pos := pos) he (pg_sub (pe_var hy hv hd hcd) (PEweak hj) set_list (by intro v; cases j <;> first | rfl | cases hix)) (by unfold swapsWithSole; exact noSwap hs) rfl rfl).imp fun E σ H w => ?_
  obtain ⟨S, γ, μ, g, h⟩ := w
  obtain ⟨xs, p, vs, eγ, e1, mp, ep, rs, h⟩ := own_of g h
  rw [R.All_bind] at h
  refine ⟨S, γ, μ, g, h.mono (fun d μ1 h => ?_) fun _ _ _ w => w⟩
  intro S1 v H1 g1 s1 r1
  refine ⟨.ref p, e1, ?_⟩
  rw [R.All_bind] at h
  refine ⟨S1, γ, μ1, g1, h.mono (fun jd μ2 h => ?_) fun _ _ _ w => w⟩
  intro S2 jv H2 g2 s2 r2
  cases jd with
  | int k =>
    unfold osetR at h
    dsimp only at h
    cases en : L2.ixN xs.length k with
    | none => rw [en] at h; exact h.elim
    | some m =>
      rw [en] at h
      have s12 := s1.trans s2
      have rs2 := rs.kp (s12.kp g.st.dm)
      have ep2 : H2 p = some (.lst vs) := s12.keep p _ ep mp
      obtain ⟨g3, k3⟩ := g2.change (xs.set m d) (vs.set m v) eγ e1 (rs2.set m (Rel.kp (s2.kp g1.st.dm) _ _ r1))
      exact ⟨p, vs, k, m, rfl, r2, ep2, by rw [rs.length]; exact en, h S2 σ _ g3 ((s12.kpT g.st.dm).trans k3)⟩
  | _ => exact h.elim
theorem keyD_strong {K : PySem.W.Frag} {T S : Sa} {H : Hp} {d : D} {v : V} {k : Key} (h : keyD d = some k) (r : RelW K T S H d v) : v = kV k ∧ okK d := by
  cases d with
  | int i => cases h; exact ⟨r, trivial⟩
  | str t => cases h; exact ⟨r.1, r.2⟩
  | _ => cases h
theorem relP_app {K : PySem.W.Frag} {S : Sa} {H : Hp} : ∀ {ps qs : List (D × D)} {vs ws : List (Key × V)}, RelP K S H ps vs → RelP K S H qs ws → RelP K S H (ps ++ qs) (vs ++ ws)
  | [], _, _, _, h, h2 => by rw [show _ = [] from h]; exact h2
  | q :: r, qs, vs, ws, h, h2 => by
    obtain ⟨k, v, us, rfl, a, b⟩ := h
    exact ⟨k, v, us ++ ws, rfl, a, relP_app b h2⟩
theorem relP_any {K : PySem.W.Frag} {S : Sa} {H : Hp} {y : D} {k : Key} (hk : keyD y = some k) : ∀ {ps : List (D × D)} {vs : List (Key × V)}, RelP K S H ps vs → (ps.any fun q => decide (keyD q.1 = keyD y)) = (vs.any fun kv => decide (kv.1 = k))
  | [], _, h => by rw [show _ = [] from h]; rfl
  | (d, e) :: r, vs, h => by
    obtain ⟨k', v, us, rfl, ⟨a, _, _⟩, b⟩ := h
    rw [List.any_cons, List.any_cons, relP_any hk b]
    congr 1
    show decide (keyD d = keyD y) = decide (k' = k)
    rw [a, hk]
    by_cases z : k' = k
    · subst z; simp
    · have : ¬ (some k' = some k) := fun w => z (Option.some.inj w)
      rw [decide_eq_false z, decide_eq_false this]
theorem relP_map {K : PySem.W.Frag} {S : Sa} {H : Hp} {x y : D} {w : V} {k : Key} (hk : keyD y = some k) (r : Rel K S H x w) : ∀ {ps : List (D × D)} {vs : List (Key × V)}, RelP K S H ps vs → RelP K S H (ps.map fun q => if keyD q.1 = keyD y then (q.1, x) else q) (vs.map fun kv => if kv.1 = k then (kv.1, w) else kv)
  | [], _, h => by rw [show _ = [] from h]; rfl
  | (d, e) :: ps, vs, h => by
    obtain ⟨k', v, us, rfl, ⟨a, o, b⟩, z⟩ := h
    have ih := relP_map hk r z
    rw [List.map_cons, List.map_cons]
    by_cases e1 : k' = k
    · subst e1
      have : keyD (d, e).1 = keyD y := by rw [hk]; exact a
      rw [if_pos this, if_pos rfl]
      exact ⟨k', w, _, rfl, ⟨a, o, r⟩, ih⟩
    · have : ¬ keyD (d, e).1 = keyD y := fun z => by
        rw [hk] at z
        have z2 : keyD d = some k := z
        rw [a] at z2
        exact e1 (Option.some.inj z2)
      rw [if_neg this, if_neg e1]
      exact ⟨k', v, _, rfl, ⟨a, o, b⟩, ih⟩
theorem put_rel {K : PySem.W.Frag} {S : Sa} {H : Hp} {x y : D} {w : V} {k : Key} {ps : List (D × D)} {vs : List (Key × V)} (hk : keyD y = some k) (ho : okK y) (r : Rel K S H x w) (h : RelP K S H ps vs) : RelP K S H (putD ps y x) (putK vs k w) := by
  unfold putD putK
  rw [relP_any hk h]
  cases (vs.any fun kv => decide (kv.1 = k)) with
  | true => rw [if_pos rfl, if_pos rfl]; exact relP_map hk r h
  | false => rw [if_neg (by simp), if_neg (by simp)]; exact relP_app h ⟨k, w, [], rfl, ⟨hk, ho, r⟩, rfl⟩
/-- x[j] = e, x an owned dict -/
theorem st_dset (hu : X.A.units + 1 < cLine) (hy : X.N[i]? = some y) (hv : Vis X.env.scope y) (hd : (y == ("__debug__" : Str)) = false) (hcd : (y == ("__classdict__" : Str)) = false) (he : PE X x (TEn c true r)) (hj : PE X j (TEn c sj rj)) (hs : notComp x = true) :
    PS X (.Assign [.Subscript (.Name y p2) j p1] x pos) (TSn c fr fun γ μ => match γ[i]? with
      | some (.own (.dic kvs)) => (r γ μ).bind fun x μ => (rj γ μ).bind fun y μ => match keyD y with
        | some _ => if kvs.length < 1000000 then .ok (.nx (γ.set i (.own (.dic (putD kvs y x))))) μ else .fail
        | none => .fail
      | _ => .fail) := by
  refine (ps_dput (pos := pos) hu (pe_var hy hv hd hcd) (PEweak hj) he (noSwap hs)).imp fun E σ H w => ?_
  obtain ⟨S, γ, μ, g, h⟩ := w
  dsimp only at h
  cases eγ : γ[i]? with
  | none => rw [eγ] at h; exact h.elim
  | some s =>
    rw [eγ] at h
    cases s with
    | un => exact h.elim
    | val d => exact h.elim
    | own o =>
      cases o with
      | lst _ => exact h.elim
      | ins _ _ => exact h.elim
      | dic kvs =>
        obtain ⟨p, e1, sp, h0, mp, ps, ep, rs⟩ := g.sl i _ eγ
        have h : ((r γ μ).bind fun x μ => (rj γ μ).bind fun y μ => match keyD y with
          | some _ => if kvs.length < 1000000 then R.ok (.nx (γ.set i (.own (.dic (putD kvs y x))))) μ else .fail
          | none => .fail).All (AftS c fr S H E) c.V := h
        rw [R.All_bind] at h
        refine ⟨S, γ, μ, g, h.mono (fun d μ1 h => ?_) fun _ _ _ w => w⟩
        intro S1 v H1 g1 s1 r1
        refine ⟨.ref p, e1, ?_⟩
        rw [R.All_bind] at h
        refine ⟨S1, γ, μ1, g1, h.mono (fun jd μ2 h => ?_) fun _ _ _ w => w⟩
        intro S2 jv H2 g2 s2 r2
        cases hk : keyD jd with
        | none => rw [hk] at h; exact h.elim
        | some k =>
          rw [hk] at h
          dsimp only at h
          by_cases hl : kvs.length < 1000000
          · rw [if_pos hl] at h
            have s12 := s1.trans s2
            have rs2 := RelP.kp (s12.kp g.st.dm) _ _ rs
            have ep2 : H2 p = some (.dK ps) := s12.keep p _ ep mp
            obtain ⟨rfl, ho⟩ := keyD_strong hk r2
            have hput := put_rel hk ho (Rel.kp (s2.kp g1.st.dm) _ _ r1) rs2
            have sp2 : S2 p := s12.sup p sp
            have kk : KpT S2 S2 H2 (upd H2 p (.dK (putK ps k v))) := KpT.refl.poke (.inl sp2)
            obtain ⟨g3, k3⟩ := g2.changeO (.dic (putD kvs jd d)) (.dK (putK ps k v)) eγ e1 ⟨_, upd_same, RelP.kp kk.kp _ _ hput⟩
            exact ⟨p, _, rfl, DPut.k ep2 (by rw [relP_len rs]; exact Nat.lt_of_lt_of_le hl (big_line (Nat.le_refl _))), h S2 σ _ g3 ((s12.kpT g.st.dm).trans k3)⟩
          · rw [if_neg hl] at h; exact h.elim
/-- x[j] o= e, x owned -/
theorem st_oagi (hK : X.K = c.K) (o : Bop) (hy : X.N[i]? = some y) (hv : Vis X.env.scope y) (hd : (y == ("__debug__" : Str)) = false) (hcd : (y == ("__classdict__" : Str)) = false) (hj : PE X j (TEn c sj rj)) (he : PE X x (TEn c st r)) (hix : pIx j = true) :
    PS X (.AugAssign (.Subscript (.Name y p2) j p1) (bopOf o) x pos) (TSn c fr fun γ μ => match γ[i]? with
      | some (.own (.lst xs)) => (rj γ μ).bind fun y μ => match ixD xs y with
        | some (n, w) => (r γ μ).bind fun x μ => match augB o w x with
          | some z => .ok (.nx (γ.set i (.own (.lst (xs.set n z))))) μ
          | none => .fail
        | none => .fail
      | _ => .fail) := by
  obtain ⟨ri, hi1, hi2⟩ := ip_aug (X := X) o
  refine (ps_augS (pe_var hy hv hd hcd) (PEweak hj) get_list (PEweak he) hi1 set_list (by intro ov iv new; cases j <;> first | rfl | cases hix)).imp fun E σ H w => ?_
  obtain ⟨S, γ, μ, g, h⟩ := w
  obtain ⟨xs, p, vs, eγ, e1, mp, ep, rs, h⟩ := own_of g h
  refine ⟨.ref p, e1, ?_⟩
  rw [R.All_bind] at h
  refine ⟨S, γ, μ, g, h.mono (fun jd μ1 h => ?_) fun _ _ _ w => w⟩
  intro S1 jv H1 g1 s1 r1
  cases jd with
  | int k =>
    cases en : L2.ixN xs.length k with
    | none => simp only [ixD, en] at h; exact h.elim
    | some m =>
      cases ew : xs[m]? with
      | none => simp only [ixD, en, ew] at h; exact h.elim
      | some w0 =>
        simp only [ixD, en, ew] at h
        have rs1 := rs.kp (s1.kp g.st.dm)
        have ep1 : H1 p = some (.lst vs) := s1.keep p _ ep mp
        obtain ⟨u0, eu0, ru0⟩ := rs1.get ew
        have en' : ixN vs.length k = some m := by rw [rs.length]; exact en
        refine ⟨p, vs, k, u0, rfl, r1, .inl (.inl ep1), by unfold atI; rw [en']; exact eu0, ?_⟩
        rw [R.All_bind] at h
        refine ⟨S1, γ, μ1, g1, h.mono (fun xd μ2 h => ?_) fun _ _ _ w => w⟩
        intro S2 xv H2 g2 s2 r2
        cases ez : augB o w0 xd with
        | none => rw [ez] at h; exact h.elim
        | some z =>
          rw [ez] at h
          have mp1 : μ1 p = none := by
            cases q : μ1 p with
            | none => rfl
            | some ob =>
              rcases s1.dsub p (by rw [q]; exact fun z => nomatch z) with zz | zz
              · exact absurd mp zz
              · rw [zz] at ep; cases ep
          have ep2 : H2 p = some (.lst vs) := s2.keep p _ ep1 mp1
          have rs2 := rs1.kp (s2.kp g1.st.dm)
          refine hi2 c.K (Dm μ2) S2 H2 w0 xd z u0 xv _ (Rel.weak (Rel.kp (s2.kp g1.st.dm) _ _ ru0) g2.st.dm) r2 ez fun u ru => ?_
          obtain ⟨g3, k3⟩ := g2.change (xs.set m z) (vs.set m u) eγ e1 (rs2.set m (ru S2 H2))
          exact ⟨p, vs, k, m, rfl, r1, ep2, en', h S2 σ _ g3 (((s1.trans s2).kpT g.st.dm).trans k3)⟩
  | _ => exact h.elim
/-- x += [..], x owned -/
theorem st_oext (hN : X.N.Nodup) (h : Sto1 X i y) (he : PE X x (TFn c r)) :
    PS X (.AugAssign (.Name y p1) .Add x pos) (TSn c fr fun γ μ => match γ[i]? with
      | some (.own (.lst xs)) => (r γ μ).bind fun x μ => match x with
        | .lst ys => if xs.length + ys.length ≤ 1000000 then .ok (.nx (γ.set i (.own (.lst (xs ++ ys))))) μ else .fail
        | _ => .fail
      | _ => .fail) := by
  refine (ps_aug hN h.ix h.loc he iop_ext h.fn).imp fun E σ H w => ?_
  obtain ⟨S, γ, μ, g, h⟩ := w
  obtain ⟨xs, p, vs, eγ, e1, mp, ep, rs, h⟩ := own_of g h
  refine ⟨.ref p, e1, ?_⟩
  rw [R.All_bind] at h
  refine ⟨S, γ, μ, g, h.mono (fun d μ1 h => ?_) fun _ _ _ w => w⟩
  rintro S1 q ws H1 ys rfl g1 s1 hq sq mq eq rw1
  have h : (if xs.length + ys.length ≤ 1000000 then R.ok (.nx (γ.set i (.own (.lst (xs ++ ys))))) μ1 else .fail).All (AftS c fr S H E) c.V := h
  by_cases hl : xs.length + ys.length ≤ 1000000
  · rw [if_pos hl] at h
    have ep1 : H1 p = some (.lst vs) := s1.keep p _ ep mp
    obtain ⟨g3, k3⟩ := g1.change (xs ++ ys) (vs ++ ws) eγ e1 ((rs.kp (s1.kp g.st.dm)).append rw1)
    refine ⟨p, q, vs, ws, rfl, rfl, ep1, eq, by rw [rs.length, rw1.length]; exact big_line hl, ?_⟩
    have hl' : i < σ.length := (List.getElem?_eq_some_iff.mp e1).1
    have es : σ.set i (some (V.ref p)) = σ := by
      apply List.ext_getElem?
      intro n
      by_cases hn : i = n
      · subst hn; rw [List.getElem?_set_self hl', e1]
      · rw [List.getElem?_set_ne hn]
    show E.nx (List.set σ i (some (V.ref p))) _
    rw [es]
    exact h S1 σ _ g3 ((s1.kpT g.st.dm).trans k3)
  · rw [if_neg hl] at h; exact h.elim
end
end Bs
/-! Bs: errors: their making, raising, catching. -/
namespace Bs
open PySem L2 PySem.Spec PyProof.Rows
abbrev exT : List Value := [.type "Exception", .type "BaseException", .type "object"]
/-- what is asked of a class of errors -/
structure XcK (K : PySem.W.Frag) (C : Addr) : Prop where
  ini : PySem.W.excInitIn K C exT "Exception.__new__" = true
  ovr : PySem.W.excOver K C exT = true
  sa : PySem.W.findIn K (.ref C) "__setattr__" = some (some (.builtin "object.__setattr__"))
  hd : PySem.W.hasDictIn K C = true
  exC : PySem.W.subIn K (.ref C) (.type "BaseException") = some true
  tyC : PySem.W.typeIn K (.ref C) = some (.type "type")
  kC : PySem.W.keepIn K (.ref C) = true
section
open Builtin Builtin.ObjectAttr PySem.W PySem.Calls
variable {prog : Program} {w : World} {A : Around} {E : Value → Shared → Prop} {hp : Heap} {g : Array GenState} {d : Drawn} {t : Nat} {os : OsState}
theorem cd_of {K : W.Frag} {C : Addr} (h : W.hasDictIn K C = true) : ∃ cd, W.clsIn K C = some cd ∧ cd.hasDict = true := by
  unfold W.hasDictIn at h
  cases e : W.clsIn K C with
  | none => rw [e] at h; simp at h
  | some cd => rw [e] at h; exact ⟨cd, rfl, by simpa using h⟩
theorem sod_new {K : W.Frag} {name : Str} {tk : Tok} {v : Value} {x C : Addr} {fv : Array Value} {b : Bool} {Q : Fin → Shared → Prop} (X : K.In hp) (hx : hp.get? x = some { cls := .ref C, data := .fields fv }) (hh : W.hasDictIn K C = true)
    (hq : ∀ h' tk' dx, (∀ c o, c ≠ x → hp.get? c = some o → h'.get? c = some o) → hp.objs.size ≤ dx → dx ≠ x → h'.get? x = some { cls := .ref C, dict := some dx, data := .fields fv } →
      h'.Ns1 dx (fun y => if y = name then some v else none) → Q (.done (.ret .none)) ⟨h', g, d, tk', os⟩) :
    wpAny (model prog w) A (storeInOwnDict (.ref x) (.ref C) (.str name tk) name v b) Q E ⟨hp, g, d, t, os⟩ := by
  obtain ⟨cd, hcd, hh⟩ := cd_of hh
  have hxs : x ≠ hp.objs.size := Nat.ne_of_lt (Heap.lt_size hx)
  have hcls : W.Looks (model prog w) hp (classData C) cd := W.looks_clsIn X hcd
  obtain ⟨n1, n2, n3, n4, n5, hd, n6, n7, n8, n9, n10⟩ := cd
  have hh : hd = true := hh
  subst hh
  unfold storeInOwnDict ownDictForStores
  repeat (first | with_reducible refine HandSPX.store_in_new ?_ ?_ | with_reducible refine wpAny_loadPart_at hx ?_ | with_reducible refine hcls.at ?_ | wp_step)
  · exact ⟨_, #[], _, (Heap.get?_update_ne _ _ _ _ hxs.symm).trans (Heap.get?_push_at rfl rfl), rfl, fun e he => absurd he (by simp), fun _ => rfl⟩
  · intro h' tk' hn' hs
    have hx1 := Heap.get?_push_of_some (h := hp) { cls := .type "dict", data := .dict #[] } hx
    exact hq h' tk' hp.objs.size (fun c o hc ho => (hs.2 c (Nat.ne_of_lt (Heap.lt_size ho))).trans ((Heap.get?_update_ne _ _ _ _ hc).trans (Heap.get?_push_of_some _ ho))) (Nat.le_refl _) hxs.symm
      ((hs.2 x hxs).trans (Heap.get?_update_self _ hx1 rfl)) hn'
theorem sod_old {K : W.Frag} {name : Str} {tk : Tok} {v : Value} {x C dx : Addr} {fv : Array Value} {b : Bool} {m0 : Str → Option Value} {nl : List Str} {Q : Fin → Shared → Prop} (X : K.In hp) (hx : hp.get? x = some { cls := .ref C, dict := some dx, data := .fields fv })
    (hns : hp.Ns1 dx m0) (hw : Within m0 nl) (hz : nl.length ≤ 1000) (hh : W.hasDictIn K C = true)
    (hq : ∀ h' tk', (∀ c o, c ≠ dx → hp.get? c = some o → h'.get? c = some o) → h'.Ns1 dx (fun y => if y = name then some v else m0 y) → Q (.done (.ret .none)) ⟨h', g, d, tk', os⟩) :
    wpAny (model prog w) A (storeInOwnDict (.ref x) (.ref C) (.str name tk) name v b) Q E ⟨hp, g, d, t, os⟩ := by
  obtain ⟨cd, hcd, hh⟩ := cd_of hh
  have hcls : W.Looks (model prog w) hp (classData C) cd := W.looks_clsIn X hcd
  obtain ⟨n1, n2, n3, n4, n5, hd, n6, n7, n8, n9, n10⟩ := cd
  have hh : hd = true := hh
  subst hh
  unfold storeInOwnDict ownDictForStores
  repeat (first | with_reducible refine PySem.OEX.store_in_old hns hw hz ?_ | with_reducible refine wpAny_loadPart_at hx ?_ | with_reducible refine hcls.at ?_ | wp_step)
  intro h' tk' hn' hs
  exact hq h' tk' (fun c o hc ho => (hs.2 c hc).trans ho) hn'
end
/-! ### self.f = e, of an error that is being made -/
section
variable {X : Cx} {pins : List (Addr × Obj)} {σ : L2.St} {H : Hp} {s : Shared} {a C dx : Addr} {f : Str} {y : V} {u : Value} {fs : List (Str × V)} {Q : Unit → Shared → Prop} {E : Value → Shared → Prop} {A : Around}
theorem xst_new (T : XcK X.K C) (I : Inv X pins σ H s) (e : H a = some (exo a C none)) (ht : PySem.W.takerIn X.K C f = some none) (ry : RelV y u)
    (h : ∀ dx s', H dx = none → dx ≠ a → Inv X pins σ (upd (upd H dx (exd dx [(f, y)])) a (exo a C (some dx))) s' → Q () s') : wpAny (model X.prog X.w) A (setAttr (.ref a) f u) Q E s := by
  obtain ⟨t1, ho⟩ := exo_at I.hok e
  obtain ⟨hp, g, d, t, os⟩ := s
  have IA : PySem.W.InstAt hp a { cls := .ref C, dict := none, data := .fields #[.ref t1, .none, .none, .none, .bool false, .none] } C none := ⟨ho, rfl, rfl, trivial⟩
  refine PySem.W.set_plain I.kIn IA T.sa (PySem.W.osa_openX F.store_Exception I.kIn IA T.ovr ht fun b => ?_)
  refine sod_new I.kIn ho T.hd fun h' tk' dx k hsz hne hx hn => ?_
  have hnd : H dx = none := I.hok.fresh hsz
  let hm := h'.update a fun _ => { cls := .ref C, dict := none, data := .fields #[.ref t1, .none, .none, .none, .bool false, .none] }
  have ma : hm.get? a = some { cls := .ref C, dict := none, data := .fields #[.ref t1, .none, .none, .none, .bool false, .none] } := Heap.get?_update_self _ hx rfl
  have mo : ∀ c, c ≠ a → hm.get? c = h'.get? c := fun c hc => Heap.get?_update_ne _ _ _ _ hc
  have hn' : hm.Ns1 dx (fun z => if z = f then some u else none) := by
    obtain ⟨o, es, ep, e1, r⟩ := hn
    exact ⟨o, es, ep, (mo dx hne).trans e1, r⟩
  have I1 : Inv X pins σ (upd H dx (exd dx [(f, y)])) ⟨hm, g, d, tk', os⟩ := I.laid (t' := tk') (a := dx) (o := exd dx [(f, y)]) (h' := hm) (fun c o hc => by
      by_cases hca : c = a
      · subst hca
        rw [ho] at hc; cases hc
        exact ma
      · exact (mo c hca).trans (k c o hca hc)) hsz (exd_ok hn' (relO_put (fs := []) ry fun z => True.intro))
  have ea : (upd H dx (exd dx [(f, y)])) a = some (exo a C none) := by rw [upd_ne hne.symm]; exact e
  exact h dx _ hnd hne (I1.write (t' := tk') (x := a) (e := a) (o := exo a C (some dx)) (by rw [ea]; exact True.intro) (.inl rfl) (fun c o hc q => (mo c hc).symm.trans q) ⟨_, hx⟩ (exo_ok hx))
theorem xst_old (T : XcK X.K C) (I : Inv X pins σ H s) (e : H a = some (exo a C (some dx))) (ed : H dx = some (exd dx fs)) (hl : fs.length ≤ 900) (ht : PySem.W.takerIn X.K C f = some none) (ry : RelV y u)
    (h : ∀ s', Inv X pins σ (upd H dx (exd dx ((f, y) :: fs))) s' → Q () s') : wpAny (model X.prog X.w) A (setAttr (.ref a) f u) Q E s := by
  obtain ⟨t1, ho⟩ := exo_at I.hok e
  obtain ⟨mA, hns, rel⟩ := exd_at I.hok ed
  have hw := within_of rel
  obtain ⟨hp, g, d, t, os⟩ := s
  obtain ⟨oD, _, _, hoD, _, _⟩ := hns.count hw
  have IA : PySem.W.InstAt hp a { cls := .ref C, dict := some dx, data := .fields #[.ref t1, .none, .none, .none, .bool false, .none] } C (some oD) := ⟨ho, rfl, rfl, hoD⟩
  refine PySem.W.set_plain I.kIn IA T.sa (PySem.W.osa_openX F.store_Exception I.kIn IA T.ovr ht fun b => ?_)
  refine sod_old I.kIn ho hns hw (by rw [List.length_map]; omega) T.hd fun h' tk' k hn => ?_
  obtain ⟨o2, es, ep, e2, r2⟩ := id hn
  exact h _ (I.write (t' := tk') (x := dx) (e := dx) (o := exd dx ((f, y) :: fs)) (by rw [ed]; exact True.intro) (.inl rfl) k ⟨_, e2⟩ (exd_ok hn (relO_put ry rel)))
/-- self.f = e -/
def tXst (K : PySem.W.Frag) (C : Addr) (f : Str) (to te : TE) : TS := fun D σ H => te σ H fun y H1 => to σ H1 fun x H2 => ∃ a : Addr, x = .ref a ∧ PySem.W.takerIn K C f = some none ∧
  ((H2 a = some (exo a C none) ∧ ∀ dx, H2 dx = none → dx ≠ a → D.nx σ (upd (upd H2 dx (exd dx [(f, y)])) a (exo a C (some dx)))) ∨
    ∃ (dx : Addr) (fs : List (Str × V)), H2 a = some (exo a C (some dx)) ∧ H2 dx = some (exd dx fs) ∧ fs.length ≤ 900 ∧ D.nx σ (upd H2 dx (exd dx ((f, y) :: fs))))
theorem ps_xst {o e : Expr} {to te : TE} {p' pos : Pos} (T : XcK X.K C) (ho : PE X o to) (he : PE X e te) (hs : swapsWith e (some (.Attribute o f p')) pos.line X.env = pure false) : PS X (.Assign [.Attribute o f p'] e pos) (tXst X.K C f to te) := by
  refine ⟨fun pins s σ H D I h => ?_⟩
  refine plainObj_wpAny_Assign_Attribute (thn (he.run pins s σ H _ I h) fun v s1 ⟨y, H1, I1, r1, q1⟩ => thn (ho.run pins s1 σ H1 _ I1 q1) fun u s2 ⟨x, H2, I2, r2, a, ex, ht, q⟩ => ?_) hs
  subst ex
  obtain rfl : u = Value.ref a := r2
  rcases q with ⟨ea, q⟩ | ⟨dx, fs, ea, ed, hl, q⟩
  · exact xst_new T I2 ea ht r1 fun dx s' n ne J => ⟨σ, _, J, q dx n ne⟩
  · exact xst_old T I2 ea ed hl ht r1 fun s' J => ⟨σ, _, J, q⟩
end
/-! ### __init__ of one, of two fields -/
def isSt (self f y : Str) : Stmt → Bool
  | .Assign [.Attribute (.Name o _) f' _] (.Name y' _) _ => decide (o = self) && decide (f' = f) && decide (y' = y)
  | _ => false
theorem isSt_eq {self f y : Str} {st : Stmt} (h : isSt self f y st = true) : ∃ p1 p2 p3 p4, st = .Assign [.Attribute (.Name self p1) f p2] (.Name y p3) p4 := by
  unfold isSt at h
  split at h
  · simp only [Bool.and_eq_true, decide_eq_true_eq] at h
    obtain ⟨⟨rfl, rfl⟩, rfl⟩ := h
    exact ⟨_, _, _, _, rfl⟩
  · cases h
def sp1 (C : Addr) (f : Str) : Sp := fun vs H Q _ => ∃ a y, vs = [.ref a, y] ∧ H a = some (exo a C none) ∧ ∀ dx, H dx = none → dx ≠ a → Q .non (upd (upd H dx (exd dx [(f, y)])) a (exo a C (some dx)))
def sp2 (C : Addr) (f h : Str) : Sp := fun vs H Q _ => ∃ a y z, vs = [.ref a, y, z] ∧ H a = some (exo a C none) ∧ ∀ dx, H dx = none → dx ≠ a → Q .non (upd (upd (upd H dx (exd dx [(f, y)])) a (exo a C (some dx))) dx (exd dx [(h, z), (f, y)]))
structure IniK (K : PySem.W.Frag) (C : Addr) (f : Str) : Prop where
  tk : PySem.W.takerIn K C f = some none
  db : (f == ("__debug__" : Str)) = false
  cd : (f == ("__classdict__" : Str)) = false
section
variable {P : Program} {w : World} {K : PySem.W.Frag} {mg : Str → Option Value} {base : Heap} {CX : CXT} {C : Addr} {f h : Str} {q : Str} {st : Stmt} {fi : Addr} {fd : FuncData}
theorem vis_par {N P : List Str} {sc : Scope} (S : FnScope N P sc) {x : Str} (hx : x ∈ P) : Vis sc x := (S.par x hx).imp id fun z => .inl z
theorem sw_nm {y o f : Str} {p1 p2 p3 : Pos} {l : Nat} {env : Env} : swapsWith (.Name y p3) (some (.Attribute (.Name o p1) f p2)) l env = pure false := by rfl
theorem init1 (T : XcK K C) (i1 : IniK K C f) (F : C8.Fun K "__init__" q st fi fd) (S : FnScope ["self", f] ["self", f] (C8.fnScope st)) (hb : ∃ s1, C8.fnBody st = [s1] ∧ isSt "self" f f s1 = true) : FnOk P w K mg base CX 1 fi fd ["self", f] (sp1 C f) := by
  obtain ⟨oc, od, dV, kV, doc, pm, an, cdv, ct, osl, rfl, lk, hcd⟩ := F.ex
  obtain ⟨s1, hbd, hs1⟩ := hb
  obtain ⟨p1, p2, p3, p4, rfl⟩ := isSt_eq hs1
  refine fn_of lk hcd S (fun vs H Q E z => ?_) fun A outer s H vs Q E hr z => ?_
  · obtain ⟨a, y, rfl, _⟩ := z; rfl
  obtain ⟨a, y, rfl, ea, z⟩ := z
  rw [hbd]
  have v0 := vis_par S (x := "self") (by simp)
  have v1 := vis_par S (x := f) (by simp)
  refine ⟨_, pss_one (ps_xst T (pe_var (i := 0) rfl v0) (pe_var (i := 1) rfl v1 i1.db i1.cd) sw_nm), ?_⟩
  exact ⟨y, rfl, .ref a, rfl, a, rfl, i1.tk, .inl ⟨ea, fun dx n ne => z dx n ne⟩⟩
theorem init2 (T : XcK K C) (i1 : IniK K C f) (i2 : IniK K C h) (F : C8.Fun K "__init__" q st fi fd) (S : FnScope ["self", f, h] ["self", f, h] (C8.fnScope st)) (hb : ∃ s1 s2, C8.fnBody st = [s1, s2] ∧ isSt "self" f f s1 = true ∧ isSt "self" h h s2 = true) : FnOk P w K mg base CX 1 fi fd ["self", f, h] (sp2 C f h) := by
  obtain ⟨oc, od, dV, kV, doc, pm, an, cdv, ct, osl, rfl, lk, hcd⟩ := F.ex
  obtain ⟨s1, s2, hbd, hs1, hs2⟩ := hb
  obtain ⟨p1, p2, p3, p4, rfl⟩ := isSt_eq hs1
  obtain ⟨p5, p6, p7, p8, rfl⟩ := isSt_eq hs2
  refine fn_of lk hcd S (fun vs H Q E z => ?_) fun A outer s H vs Q E hr z => ?_
  · obtain ⟨a, y, y2, rfl, _⟩ := z; rfl
  obtain ⟨a, y, y2, rfl, ea, z⟩ := z
  rw [hbd]
  have v0 := vis_par S (x := "self") (by simp)
  have v1 := vis_par S (x := f) (by simp)
  have v2 := vis_par S (x := h) (by simp)
  refine ⟨_, pss_cons (ps_xst T (pe_var (i := 0) rfl v0) (pe_var (i := 1) rfl v1 i1.db i1.cd) sw_nm) (pss_one (ps_xst T (pe_var (i := 0) rfl v0) (pe_var (i := 2) rfl v2 i2.db i2.cd) sw_nm)), ?_⟩
  refine ⟨y, rfl, .ref a, rfl, a, rfl, i1.tk, .inl ⟨ea, fun dx n ne => ?_⟩⟩
  refine ⟨y2, rfl, .ref a, rfl, a, rfl, i2.tk, .inr ⟨dx, [(f, y)], upd_same, ?_, by simp, z dx n ne⟩⟩
  rw [upd_ne ne, upd_same]
end
/-! ### C(e, ..) -/
section
variable {X : Cx} {e : Expr} {es : List Expr} {ta : TA} {p pos : Pos}
theorem pmk_x {CX : CXT} {x : Str} {C fI : Addr} {k : Nat} {fd : FuncData} {ps : List Str} {sp : Sp} (T : XcK X.K C) (iC : PySem.W.findIn X.K (.ref C) "__init__" = some (some (.ref fI))) (tI : PySem.W.typeIn X.K (.ref fI) = some (.type "function"))
    (F1 : FnOk X.prog X.w X.K X.mg X.base CX k fI fd ps sp) (hr : Room (k + 1) X.A) (hb : Binds X.K fd ps []) (hx : Passes CX X (fun _ _ _ => False)) (hg : Gl X x) (hm : X.mg x = some (.ref C)) (ha : PA X (e :: es) ta)
    (hdb : (x == ("__debug__" : Str)) = false) (hs : (e :: es).all nst = true) : PMk X (.Call (.Name x p) (e :: es) [] pos) (tMkO C sp [] ta) := by
  intro pins s σ H Q I h
  have hs' : nst e = true ∧ es.all nst = true := by simpa using hs
  refine wpAny_Call_Name_kw (ld_glob I hg hm ?_ hdb)
  refine PySem.W.callWith_K (h₀ := X.base) I.ok.mod.kin T.kC (thn (ha.run pos pins s σ H _ I h) fun us s1 ⟨vs, H1, I1, r1, hz, q1⟩ => ⟨I1.kIn, ?_⟩) (star_cons hs'.1) (star_any hs'.2)
  obtain ⟨nm, N', qn, bs, bm, hdct, sn, sub, ab, col, dd, k0, k1, k2, k3, k5, hC, hT⟩ := PySem.W.excInit_of I1.kIn T.ini
  obtain ⟨hp, g, dr, tk, os⟩ := s1
  have hsz : hp.objs.size ≤ hp.objs.size + 1 := Nat.le_succ _
  have hq := q1 (hp.objs.size + 1) (I1.hok.fresh hsz)
  have kk : ∀ b o, hp.get? b = some o → ((hp.push (PySem.W.kdv_tup us)).push (PySem.HandSPX.excO C hp.objs.size)).get? b = some o := fun b o z => Heap.get?_push_of_some _ (Heap.get?_push_of_some _ z)
  have hget : ((hp.push (PySem.W.kdv_tup us)).push (PySem.HandSPX.excO C hp.objs.size)).get? (hp.objs.size + 1) = some (PySem.HandSPX.excO C hp.objs.size) := by heap_get
  have I2 := I1.laid (t' := tk) (a := hp.objs.size + 1) (o := exo (hp.objs.size + 1) C none) kk hsz (exo_ok hget)
  have r2 : Vals (V.ref (hp.objs.size + 1) :: (vs ++ [])) (Value.ref (hp.objs.size + 1) :: (us ++ [])) := .cons rfl (r1.append .nil)
  have hl : (Value.ref (hp.objs.size + 1) :: us ++ []).length = ps.length := by rw [← F1.len _ _ _ _ hq]; exact r2.length.symm
  have hus : us.length ≤ sizeLine := by rw [← Paired.length r1, sizeLine_eq]; omega
  refine wpAny_call (PySem.HandSPX.call_own F.excBase_Exception hT hC (PySem.W.looks_findIn I1.kIn iC) (fun self => PySem.W.bind_fn I1.kIn self tI) hus
    (codeAny_mono (F1.run _ X.stack _ _ ⟨Value.ref (hp.objs.size + 1) :: us, []⟩ _ _ _ (fun _ _ _ => False) (hr.make C us []) (I2.env0.make C us []) (hb _ (Value.ref (hp.objs.size + 1) :: us) I2.kIn hl) r2 hq) fun r s' hq' => ?_))
  cases r with
  | error er => exact hx pins σ _ _ er s' I2 hq'
  | ok fl =>
    cases fl with
    | ret u =>
      obtain ⟨v, H2, os2, bare2, un2, hok2, rv, ev, d, fs, ea, ed, hd1, q2⟩ := hq'
      subst ev
      obtain ⟨h2, g2, d2, t2, os'⟩ := s'
      exact ⟨rv, mk_end (raises_own T.exC T.tyC) I1 hsz kk un2 hok2 os2 bare2 ea ed hd1 q2⟩
    | next => exact False.elim hq'
    | brk => exact False.elim hq'
    | cont => exact False.elim hq'
end
end Bs
/-! Bs: raise. -/
namespace Bs
open PySem L2 PySem.Spec PyProof.Rows
/-- what is asked of a class of errors, with the fields that its __init__ stores -/
def XcOk (X : Cx) (c : Nat) (fl : List Nat) : Prop :=
  XDef X.K c ∧ X.mg (nm c) = some (.ref (He.ga X.K (nm c))) ∧ (nm c == ("__debug__" : Str)) = false ∧ PySem.W.subIn X.K (.ref (He.ga X.K (nm c))) (.type "BaseException") = some true ∧
  PySem.W.typeIn X.K (.ref (He.ga X.K (nm c))) = some (.type "type") ∧ PySem.W.keepIn X.K (.ref (He.ga X.K (nm c))) = true ∧
  match fl with
  | [] => PySem.W.excIn X.K (He.ga X.K (nm c)) exT "Exception.__new__" = true
  | [f] => XcK X.K (He.ga X.K (nm c)) ∧ ∃ fI fd, PySem.W.findIn X.K (.ref (He.ga X.K (nm c))) "__init__" = some (some (.ref fI)) ∧ PySem.W.typeIn X.K (.ref fI) = some (.type "function") ∧
      FnOk X.prog X.w X.K X.mg X.base (L2.CX X.prog X.w) 1 fI fd ["self", nm f] (sp1 (He.ga X.K (nm c)) (nm f)) ∧ Binds X.K fd ["self", nm f] []
  | [f, h] => XcK X.K (He.ga X.K (nm c)) ∧ ∃ fI fd, PySem.W.findIn X.K (.ref (He.ga X.K (nm c))) "__init__" = some (some (.ref fI)) ∧ PySem.W.typeIn X.K (.ref fI) = some (.type "function") ∧
      FnOk X.prog X.w X.K X.mg X.base (L2.CX X.prog X.w) 1 fI fd ["self", nm f, nm h] (sp2 (He.ga X.K (nm c)) (nm f) (nm h)) ∧ Binds X.K fd ["self", nm f, nm h] []
  | _ => False
section
variable {c : Ct} {X : Cx} {fr : Bool} {xc : Nat} {rs : Ga → Sto → R (List D)} {es : List Expr} {p p2 pos : Pos}
theorem pmk0 {C : Addr} {x : Str} (q : PySem.W.excIn X.K C exT "Exception.__new__" = true) (gC : X.mg x = some (.ref C)) (kC : PySem.W.keepIn X.K (.ref C) = true) (r : Raises X (.ref C)) (hg : Gl X x) (hdb : (x == ("__debug__" : Str)) = false) :
    PMk X (.Call (.Name x p) [] [] pos) (fun _ H Q => Q (.ref C) none H) := by
  intro pins s σ H Q I h
  refine wpAny_Call_Name_kw (ld_glob I hg gC ?_ hdb)
  refine PySem.W.callWith_K0 I.kIn kC ?_
  obtain ⟨bm, N, nm, qn, bs, hdct, sn, sub, ab, col, dd, k0, k1, k2, k3, k5, mN, hC, hN, hni, T⟩ := exc_obj I.kIn q
  refine wpAny_call_exc_subT F.excBase_Exception T hC hN hni (fun h' e hm => mk_of I hm r h (I.hok.gone hm.new)) (by show 0 ≤ sizeLine; exact Nat.zero_le _)
def raiR (xc : Nat) (fl : List Nat) (rs : Ga → Sto → R (List D)) : Ga → Sto → R Fl := fun γ μ => (rs γ μ).bind fun ds μ => if ds.length = fl.length then .exc ⟨xc, (fl.zip ds).reverse⟩ γ μ else .fail
theorem passF : Passes (L2.CX X.prog X.w) X (fun _ _ _ => False) := fun _ _ _ _ _ _ _ h => by
  obtain ⟨_, _, _, _, _, _, _, _, _, _, _, _, z⟩ := h
  exact z.elim
theorem end_eq {fs : List (Str × V)} {H1 : Hp} {a dx : Addr} {o1 o2 o3 : HO} (ha : H1 a = none) (hne : dx ≠ a) : upd (del (upd (upd (upd H1 a o1) dx o2) a o3) a) dx (.xd fs) = upd H1 dx (.xd fs) := by
  funext b
  by_cases h1 : b = dx
  · rw [h1, upd_same, upd_same]
  · rw [upd_ne h1, upd_ne h1]
    by_cases h2 : b = a
    · rw [h2, del_same, ha]
    · rw [del_ne h2, upd_ne h2, upd_ne h1, upd_ne h2]
theorem end_eq2 {fs : List (Str × V)} {H1 : Hp} {a dx : Addr} {o1 o2 o3 o4 : HO} (ha : H1 a = none) (hne : dx ≠ a) : upd (del (upd (upd (upd (upd H1 a o1) dx o2) a o3) dx o4) a) dx (.xd fs) = upd H1 dx (.xd fs) := by
  funext b
  by_cases h1 : b = dx
  · rw [h1, upd_same, upd_same]
  · rw [upd_ne h1, upd_ne h1]
    by_cases h2 : b = a
    · rw [h2, del_same, ha]
    · rw [del_ne h2, upd_ne h1, upd_ne h2, upd_ne h1, upd_ne h2]
theorem rais_put {S1 : Sa} {γ : Ga} {μ1 : Sto} {σ : L2.St} {H1 : Hp} (hK : X.K = c.K) (xd : XDef X.K xc) (g1 : Good c S1 γ μ1 σ H1) {fs : List (Nat × D)} (hid : ∀ q ∈ fs, q.1 ∈ fldIds) {vs : List (Str × V)} (r : RelF c.K S1 H1 fs vs) {dx : Addr} (hd : H1 dx = none) (h : c.V ⟨xc, fs⟩ γ μ1) :
    WV c (.ref (He.ga X.K (nm xc))) (some dx) σ (upd H1 dx (.xd vs)) := by
  obtain ⟨s, ok⟩ := step_new (c := c) (o := HO.xd vs) g1.st hd
  exact ⟨S1, γ, μ1, ⟨xc, fs⟩, g1.step s ok, ⟨hK ▸ xd, by rw [hK], .inr ⟨dx, vs, rfl, upd_same, ok_notS g1.st hd, r.kp (s.kp g1.st.dm)⟩, hid⟩, h⟩
theorem st_rais {fl : List Nat} (hK : X.K = c.K) (hc : X.calm = true) (tk : Takes X (WV c)) (hr : Room 2 X.A) (ok : XcOk X xc fl) (hg : Gl X (nm xc)) (ha : PA X es (TAn c true rs)) (hs : es.all nst = true) (hl : es.length = fl.length) (h0 : fl = [] → ∀ γ μ, rs γ μ = .ok [] μ) (hid : ∀ f ∈ fl, f ∈ fldIds) :
    PS X (.Raise (some (.Call (.Name (nm xc) p) es [] p2)) none pos) (TSn c fr (raiR xc fl rs)) := by
  obtain ⟨xd, hm, hdb, exC, tyC, kC, ok⟩ := ok
  match fl, ok, hl, h0, hid with
  | [], ok, hl, h0, hid =>
    have e0 : es = [] := List.length_eq_zero_iff.mp hl
    subst e0
    refine (ps_raise hc tk (pmk0 ok hm kC (raises_own exC tyC) hg hdb)).imp fun D σ H w => ?_
    obtain ⟨S, γ, μ, g, h⟩ := w
    unfold raiR at h
    rw [h0 rfl γ μ] at h
    exact ⟨S, γ, μ, ⟨xc, []⟩, g, ⟨hK ▸ xd, by rw [hK], .inl ⟨rfl, rfl⟩, fun _ z => nomatch z⟩, h⟩
  | [f], ok, hl, h0, hid =>
    obtain ⟨e1, rfl⟩ : ∃ e1, es = [e1] := by
      match es, hl with
      | [e1], _ => exact ⟨e1, rfl⟩
    obtain ⟨T, fI, fd, iC, tI, F1, hb⟩ := ok
    refine (ps_raise hc tk (pmk_x T iC tI F1 hr hb passF hg hm ha hdb hs)).imp fun D σ H w => ?_
    obtain ⟨S, γ, μ, g, h⟩ := w
    unfold raiR at h
    rw [R.All_bind] at h
    refine ⟨S, γ, μ, g, h.mono (fun ds μ1 h => ?_) fun _ _ _ w => w⟩
    intro S1 vs H1 g1 s1 r1
    match ds, h with
    | [d1], h =>
      obtain ⟨v1, ws, rfl, q1, rfl⟩ := r1.rels
      refine ⟨by simp, fun a ha => ⟨a, v1, rfl, upd_same, fun dx n ne => ⟨rfl, dx, [(nm f, v1)], upd_same, ?_, ?_, ?_⟩⟩⟩
      · rw [upd_ne ne, upd_same]
      · rw [upd_ne ne] at n; exact n
      · rw [upd_ne ne] at n
        rw [end_eq ha ne]
        exact rais_put hK xd g1 (fs := [(f, d1)]) (fun q hq => by cases List.mem_singleton.mp hq; exact hid f List.mem_cons_self) ⟨v1, [], rfl, q1, rfl⟩ n h
    | [], h => exact h.elim
    | _ :: _ :: _, h =>
      simp only [List.length_cons] at h
      rw [if_neg (by simp)] at h
      exact h.elim
  | [f, f2], ok, hl, h0, hid =>
    obtain ⟨e1, e2, rfl⟩ : ∃ e1 e2, es = [e1, e2] := by
      match es, hl with
      | [e1, e2], _ => exact ⟨e1, e2, rfl⟩
    obtain ⟨T, fI, fd, iC, tI, F1, hb⟩ := ok
    refine (ps_raise hc tk (pmk_x T iC tI F1 hr hb passF hg hm ha hdb hs)).imp fun D σ H w => ?_
    obtain ⟨S, γ, μ, g, h⟩ := w
    unfold raiR at h
    rw [R.All_bind] at h
    refine ⟨S, γ, μ, g, h.mono (fun ds μ1 h => ?_) fun _ _ _ w => w⟩
    intro S1 vs H1 g1 s1 r1
    match ds, h with
    | [d1, d2], h =>
      obtain ⟨v1, ws, rfl, q1, v2, ws2, rfl, q2, rfl⟩ := r1.rels
      refine ⟨by simp, fun a ha => ⟨a, v1, v2, rfl, upd_same, fun dx n ne => ⟨rfl, dx, [(nm f2, v2), (nm f, v1)], ?_, upd_same, ?_, ?_⟩⟩⟩
      · rw [upd_ne ne.symm, upd_same]
      · rw [upd_ne ne] at n; exact n
      · rw [upd_ne ne] at n
        rw [end_eq2 ha ne]
        exact rais_put hK xd g1 (fs := [(f2, d2), (f, d1)]) (fun q hq => by
          rcases List.mem_cons.mp hq with rfl | hq
          · exact hid f2 (List.mem_cons_of_mem _ List.mem_cons_self)
          · cases List.mem_singleton.mp hq; exact hid f List.mem_cons_self) ⟨v2, _, rfl, q2, v1, [], rfl, q1, rfl⟩ n h
    | [], h => exact h.elim
    | [_], h =>
      simp only [List.length_cons, List.length_nil] at h
      exact h.elim
    | _ :: _ :: _ :: _, h =>
      simp only [List.length_cons] at h
      rw [if_neg (by simp)] at h
      exact h.elim
  | _ :: _ :: _ :: _, ok, _, _, _ => exact ok.elim
end
end Bs
/-! Bs: try with clauses that may have a name. -/
namespace Bs
open PySem L2 PySem.Spec PyProof.Rows
abbrev SuT := Addr → Value → Option Addr → TS
def endO (i : Option Nat) (D : Ends) : Ends := match i with
  | none => D
  | some i => ⟨fun σ H => D.nx (σ.set i none) H, D.rt, fun σ H => D.bk (σ.set i none) H, fun σ H => D.ct (σ.set i none) H⟩
def setO (i : Option Nat) (a : Addr) (σ : L2.St) : L2.St := match i with
  | none => σ
  | some i => σ.set i (some (.ref a))
/-- what the clauses wish, one behind the other -/
def wX (K : PySem.W.Frag) (Wo : WX) (D : Ends) : List (Value × Option Nat × SuT) → WX
  | [] => Wo
  | (c, i, ts) :: r => fun cls d σ H => ∃ b, PySem.W.exmOne K cls c = some b ∧ (b = true → ∀ a, H a = none → ts a cls d (endO i D) (setO i a σ) H) ∧ (b = false → wX K Wo D r cls d σ H)
def SuOk (X : Cx) (ss : List Stmt) (ts : SuT) : Prop := ∀ (a : Addr) (oe : Obj) (cls : Value) (d : Option Addr) (pn : List (Addr × Obj)), Zc cls d oe → (∃ vs, oe.data = .fields vs) → PSs (X.suite a ((a, oe) :: pn)) ss (ts a cls d)
inductive HX (X : Cx) : List ExceptHandler → List (Value × Option Nat × SuT) → Prop
  | nil : HX X [] []
  | bare {x : Str} {c : Value} {ts : SuT} {s0 : Stmt} {ss : List Stmt} {p1 p2 : Pos} {hds : List ExceptHandler} {l : List (Value × Option Nat × SuT)} (hg : Gl X x) (hdb : (x == ("__debug__" : Str)) = false) (hm : X.mg x = some c) (hsu : SuOk X (s0 :: ss) ts) (r : HX X hds l) :
      HX X (.ExceptHandler (some (.Name x p1)) none (s0 :: ss) p2 :: hds) ((c, none, ts) :: l)
  | named {x n : Str} {i : Nat} {c : Value} {ts : SuT} {s0 : Stmt} {ss : List Stmt} {p1 p2 : Pos} {hds : List ExceptHandler} {l : List (Value × Option Nat × SuT)} (hg : Gl X x) (hdb : (x == ("__debug__" : Str)) = false) (hm : X.mg x = some c) (hi : X.N[i]? = some n) (hln : X.env.kindOf n = some .local) (hsu : SuOk X (s0 :: ss) ts) (r : HX X hds l) :
      HX X (.ExceptHandler (some (.Name x p1)) (some n) (s0 :: ss) p2 :: hds) ((c, some i, ts) :: l)
section
variable {X : Cx} {body : List Stmt} {h0 : ExceptHandler} {hds : List ExceptHandler} {l : List (Value × Option Nat × SuT)} {pos : Pos} {tb : WX → TS} {Wo : WX}
theorem ps_tryX (hs : X.stack = X.env :: X.outer) (hf : X.env.frame = some X.env.locals) (hN : X.N.Nodup) (tk : Takes X Wo)
    (hb : ∀ (W : WX) (pn : List (Addr × Obj)) (xe : Value → Shared → Prop), Takes (X.tr pn xe) W → PassesOwn (model X.prog X.w) X.A X.env xe → PSs (X.tr pn xe) body (tb W))
    (hh : HX X (h0 :: hds) l) : PS X (.Try body (h0 :: hds) [] [] pos) (fun D σ H => tb (wX X.K Wo D l) D σ H) := by
  refine ⟨fun pins s σ H D I h => ?_⟩
  have ok := I.ok
  have hfr : X.A.frames = some (X.env :: X.outer) := hs ▸ ok.frames
  refine wpAny_Try_except (wpAny_mono ((hb (wX X.K Wo D l) (X.pn ++ pins) _ (fun u s' xx => ?_) PassesOwn.looking).run [] s σ H D (I.toTry _) h) (fun f s1 hsp => ?_) fun _ _ z => z)
  · obtain ⟨a, B, sI, pins', σ', H', cls, d, rfl, J', nb, up, sky, na, os, ag, w⟩ := xx
    have J : Inv X pins σ' H' sI := J'.ofTry ok
    rw [show (X.tr (X.pn ++ pins) _).stack = X.env :: X.outer from hs] at sky
    refine Sky.land Zc.steady hfr hf sky fun h3 fl3 up3 => ?_
    have J3 : Inv X pins σ' H' { s' with heap := h3 } := J.landed nb fl3.1 (up.trans up3) os ag
    obtain ⟨oe3, vs3, he3, hz3, hd3⟩ := fl3.there
    have nfr : a ∉ frs (X.env :: X.outer) := fun hm => by
      obtain ⟨_, o', e', hnf⟩ := fl3.2.2.1.mem hm
      rw [he3] at e'; cases e'
      exact hnf _ hd3
    have nL : a ≠ X.env.locals := fun z => nfr (List.mem_filterMap.mpr ⟨X.env, List.mem_cons_self, z ▸ hf⟩)
    have nF : a ∉ X.fs := fun hm => (List.mem_filterMap.mp hm).elim fun e q => nfr (List.mem_filterMap.mpr ⟨e, List.mem_cons_of_mem _ q.1, q.2⟩)
    have S3 := J3.suite he3 hd3 na nL nF
    have LT : PySem.W.Looks (model X.prog X.w) h3 (typeOf (.ref a)) cls := fun A Q E s k q => wpAny_typeOf_ref (k _ _ he3) (hz3.1.symm ▸ q)
    have test : ∀ {x : Str} {c : Value} {np : Pos} {Q : Value → Shared → Prop} {E : Value → Shared → Prop}, Gl X x → (x == ("__debug__" : Str)) = false → X.mg x = some c → Q c { s' with heap := h3 } →
        wpAny (model X.prog X.w) (X.A.mark (some (.ref a))) (eval (.Name x np) X.env) Q E { s' with heap := h3 } := fun hg hdb hm q => ld_glob (X := X.suite a ((a, oe3) :: (X.pn ++ pins))) S3 hg hm q hdb
    have go : ∀ {hds' : List ExceptHandler} {l' : List (Value × Option Nat × SuT)}, HX X hds' l' → wX X.K Wo D l' cls d σ' H' → wpAny (model X.prog X.w) X.A (handleBy (.ref a) X.env hds') (SP X pins D) X.xe { s' with heap := h3 } := by
      intro hds' l' hk
      induction hk with
      | nil =>
        intro w
        refine wpAny_handleBy_nil ?_
        obtain ⟨_, _, _, oe, vs, T, oT, ts', he, hz, hd, h1, hr⟩ := id fl3
        unfold PySem.passOn
        refine wpAny_bind (wpAny_field he hd h1 ?_)
        rw [if_neg (show ¬ ((Value.ref T == Value.none) = true) from by simp)]
        have fin : wpAny (model X.prog X.w) X.A (setFlight (.ref a) X.env.frame) (fun _ s4 => wpAny (model X.prog X.w) X.A (throw (.ref a) : Sem Flow) (SP X pins D) X.xe s4) X.xe { s' with heap := h3 } := by
          rw [hf]
          exact HandSPX.setFlight_upZ fl3 fun h4 hh4 up4 => wpAny_throw (tk _ _ ⟨a, B, sI, pins, σ', H', cls, d, rfl, J, nb, (up.trans up3).trans up4, .inr (.inr (hs ▸ hh4)), na, os, ag, w⟩)
        first
          | exact wpAny_bind (wpAny_pure (wpAny_bind fin))
          | exact wpAny_bind fin
      | bare hg hdb hm hsu r ih =>
        intro w
        obtain ⟨b, hb1, hyes, hno⟩ := w
        refine wpAny_handleBy_cons (codeAny_handlers_test (test hg hdb hm ((PySem.W.exm_one (M := model X.prog X.w) J3.kIn LT hb1).here ?_))) (by intro q; cases q)
        cases b with
        | false => exact ih (hno rfl)
        | true =>
          refine codeAny_handlers_suite (HandSPX.lands_againZ fl3 fun h4 fl4 up4 => ?_)
          have J4 : Inv X pins σ' H' { s' with heap := h4 } := J.landed nb fl4.1 ((up.trans up3).trans up4) os ag
          obtain ⟨oe4, vs4, he4, hz4, hd4⟩ := fl4.there
          refine wpAny_mono ((hsu a oe4 cls d (X.pn ++ pins) hz4 ⟨_, hd4⟩).run [] _ _ H' _ (J4.suite he4 hd4 na nL nF) (hyes rfl a na)) (fun f s6 hsp => ?_) (fun _ _ z => False.elim z)
          cases f with
          | next => exact hsp.elim fun σ6 z => z.elim fun H6 z => ⟨σ6, H6, z.1.unsuite ok, z.2⟩
          | brk => exact hsp.elim fun σ6 z => z.elim fun H6 z => ⟨σ6, H6, z.1.unsuite ok, z.2⟩
          | cont => exact hsp.elim fun σ6 z => z.elim fun H6 z => ⟨σ6, H6, z.1.unsuite ok, z.2⟩
          | ret u => exact hsp.elim fun v6 z => z.elim fun σ6 z => z.elim fun H6 z => ⟨v6, σ6, H6, z.1.unsuite ok, z.2.1, z.2.2⟩
      | @named x n i c ts s0 ss p1 p2 hds2 l2 hg hdb hm hi hln hsu r ih =>
        intro w
        obtain ⟨b, hb1, hyes, hno⟩ := w
        refine wpAny_handleBy_cons (codeAny_handlers_test (test hg hdb hm ((PySem.W.exm_one (M := model X.prog X.w) J3.kIn LT hb1).here ?_))) (by intro q; cases q)
        cases b with
        | false => exact ih (hno rfl)
        | true =>
          refine codeAny_handlers_suite_as (HandSPX.lands_againZ fl3 fun h4 fl4 up4 => ?_)
          have J4 : Inv X pins σ' H' { s' with heap := h4 } := J.landed nb fl4.1 ((up.trans up3).trans up4) os ag
          obtain ⟨oe4, vs4, he4, hz4, hd4⟩ := fl4.there
          refine store_ok (X := X.suite a ((a, oe4) :: (X.pn ++ pins))) (v := .ref a) (J4.suite he4 hd4 na nL nF) hN hi (.inl hln) rfl (fun s5 S5 => ?_) (.inr hln)
          refine wpAny_mono ((hsu a oe4 cls d (X.pn ++ pins) hz4 ⟨_, hd4⟩).run [] s5 _ H' _ S5 (hyes rfl a na)) (fun f s6 hsp => ?_) (fun _ _ z => False.elim z)
          have last : ∀ {σ6 : L2.St} {H6 : Hp} {Q : Shared → Prop}, Inv (X.suite a ((a, oe4) :: (X.pn ++ pins))) [] σ6 H6 s6 → (∀ s7, Inv X pins (σ6.set i none) H6 s7 → Q s7) →
              wpAny (model X.prog X.w) X.A (do bindName X.env n .none; unbindBehindTheSuite X.env n p2) (fun _ s7 => Q s7) X.xe s6 := fun S6 hq => gone_ok (S6.unsuite ok) hN hi hln hq
          cases f with
          | next => exact hsp.elim fun σ6 z => z.elim fun H6 z => last z.1 fun s7 J7 => ⟨_, H6, J7, z.2⟩
          | brk => exact hsp.elim fun σ6 z => z.elim fun H6 z => last z.1 fun s7 J7 => ⟨_, H6, J7, z.2⟩
          | cont => exact hsp.elim fun σ6 z => z.elim fun H6 z => last z.1 fun s7 J7 => ⟨_, H6, J7, z.2⟩
          | ret u => exact hsp.elim fun v6 z => z.elim fun σ6 z => z.elim fun H6 z => last z.1 fun s7 J7 => ⟨v6, _, H6, J7, z.2.1, z.2.2⟩
    exact go hh w
  · cases f with
    | next => exact hsp.elim fun σ6 z => z.elim fun H6 z => wpAny_execs_nil ⟨σ6, H6, z.1.ofTry ok, z.2⟩
    | brk => exact hsp.elim fun σ6 z => z.elim fun H6 z => ⟨σ6, H6, z.1.ofTry ok, z.2⟩
    | cont => exact hsp.elim fun σ6 z => z.elim fun H6 z => ⟨σ6, H6, z.1.ofTry ok, z.2⟩
    | ret u => exact hsp.elim fun v6 z => z.elim fun σ6 z => z.elim fun H6 z => ⟨v6, σ6, H6, z.1.ofTry ok, z.2.1, z.2.2⟩
end
end Bs
/-! Bs: except suites. -/
namespace Bs
open PySem L2 PySem.Spec PyProof.Rows
/-- what the text says of its classes of errors -/
structure XfK (K : PySem.W.Frag) (C : Addr) : Prop where
  ga : PySem.W.findIn K (.ref C) "__getattribute__" = some (some (.builtin "BaseException.__getattribute__"))
  gt : PySem.W.findIn K (.ref C) "__getattr__" = some none
  ex : PySem.W.subIn K (.ref C) (.type "BaseException") = some true
  hd : PySem.W.hasDictIn K C = true
  ha : PySem.W.findIn K (.ref C) "__class__" = some (some (.builtin "object.__class__"))
  hn : PySem.W.specialIn K (.builtin "object.__class__") "__get__" = some (some (.builtin "getset_descriptor.__get__"))
  ht : PySem.W.takesIn K (.builtin "object.__class__") = some true
  hm : PySem.W.mroIn K C (.type "object") = some true
  cl : (PySem.W.clsIn K C).isSome = true
structure FactX (K : PySem.W.Frag) : Prop where
  xf : ∀ c, XDef K c → XfK K (He.ga K (nm c))
  no : ∀ c, XDef K c → ∀ f ∈ fldIds, PySem.W.findIn K (.ref (He.ga K (nm c))) (nm f) = some none
  exm : ∀ c c', XDef K c → XDef K c' → PySem.W.exmOne K (.ref (He.ga K (nm c))) (.ref (He.ga K (nm c'))) = some (subX c c')
  kit : ∀ c c', XDef K c → XDef K c' → PySem.W.kitOne K (.ref (He.ga K (nm c))) (.ref (He.ga K (nm c'))) = some (subX c c')
section
variable (c : Ct) (x : Xc) (a : Addr) (cls : Value) (d : Option Addr) (i : Option Nat)
structure XSt (S : Sa) (γ : Ga) (μ : Sto) (σ : L2.St) (H : Hp) : Prop where
  g : Good c S γ μ σ H
  x : XRel c.K S H x cls d
  n : ∀ j, i = some j → σ[j]? = some (some (.ref a))
def TXn (o : Ga → Option D) : TE := fun σ H Q => ∃ S γ μ v, XSt c x a cls d i S γ μ σ H ∧ o γ = some v ∧ ∀ S' w H', XSt c x a cls d i S' γ μ σ H' → KpT S S' H H' → Rel c.K S' H' v w → Q w H'
def TXa (o : Ga → Option (List D)) : TA := fun σ H Q => ∃ S γ μ v, XSt c x a cls d i S γ μ σ H ∧ o γ = some v ∧ ∀ S' w H', XSt c x a cls d i S' γ μ σ H' → KpT S S' H H' → Rels c.K S' H' v w → Q w H'
end
section
variable {c : Ct} {x : Xc} {a : Addr} {cls : Value} {d : Option Addr} {i : Option Nat} {X : Cx} {oe : Obj} {pn : List (Addr × Obj)} {e : Expr} {S S' : Sa} {γ : Ga} {μ : Sto} {σ : L2.St} {H H' : Hp}
theorem XSt.step (s : XSt c x a cls d i S γ μ σ H) (g' : Good c S' γ μ σ H') (k : KpT S S' H H') : XSt c x a cls d i S' γ μ σ H' := ⟨g', s.x.kp k.kp, s.n⟩
/-- an expression that is sound is sound here -/
theorem tx_of {o : Ga → Option D} (h : PE X e (TEn c true fun γ μ => ofO (o γ) μ)) : PE X e (TXn c x a cls d i o) := h.imp fun σ H Q w => by
  obtain ⟨S, γ, μ, v, st, eo, q⟩ := w
  refine ⟨S, γ, μ, st.g, ?_⟩
  show (ofO (o γ) μ).All _ _
  rw [eo]
  exact fun S' w H' g' s r => q S' w H' (st.step g' (s.kpT st.g.st.dm)) (s.kpT st.g.st.dm) r
theorem tx_bool {o : Ga → Option D} {b : Bool} {S : Sa} {γ : Ga} {μ : Sto} {Q : VK} (st : XSt c x a cls d i S γ μ σ H) (h : ∀ S' w H', XSt c x a cls d i S' γ μ σ H' → KpT S S' H H' → Rel c.K S' H' (.bl b) w → Q w H') : Q (.bl b) H := h S (.bl b) H st KpT.refl rfl
theorem tx_fld {f n : Str} {j : Nat} {fi : Nat} {p1 p2 : Pos} (hK : X.K = c.K) (FX : FactX X.K) (hf : f = nm fi) (hfi : fi ∈ fldIds) (hz : Zc cls d oe) (hd : ∃ vs, oe.data = .fields vs) (hi : i = some j) (hN : X.N[j]? = some n) (hv : Vis X.env.scope n)
    (h1 : (n == ("__debug__" : Str)) = false) (h2 : (n == ("__classdict__" : Str)) = false) (hb : attributeBase (.Name n p1) f X.env (eval (.Name n p1) X.env) = eval (.Name n p1) X.env) (inj : ∀ q ∈ x.fs, nm q.1 = nm fi → q.1 = fi) (inj2 : True) :
    PE (X.suite a ((a, oe) :: pn)) (.Attribute (.Name n p1) f p2) (TXn c x a cls d i fun _ => x.fs.lookup fi) := by
  by_cases xd : XDef X.K x.c
  · have xf := FX.xf _ xd
    refine (pe_xf (X := X) (C := He.ga X.K (nm x.c)) (cls := cls) (d := d) ⟨xf.ga, xf.gt, xf.ex, xf.hd⟩ (by rw [hf]; exact FX.no _ xd fi hfi) hz hd (pe_var (X := X.suite a ((a, oe) :: pn)) (i := j) hN hv h1 h2) hb).imp fun σ H Q w => ?_
    obtain ⟨S, γ, μ, v, st, eo, q⟩ := w
    refine ⟨.ref a, st.n j hi, rfl, by rw [st.x.2.1, hK], ?_⟩
    rcases st.x.2.2.1 with ⟨e0, _⟩ | ⟨dd, vs, ed, hdd, nS, rf⟩
    · rw [e0] at eo; cases eo
    · have key : ∀ (fs : List (Nat × D)) (vs : List (Str × V)), RelF c.K S H fs vs → (∀ q ∈ fs, nm q.1 = nm fi → q.1 = fi) → fs.lookup fi = some v → ∃ w, vs.lookup (nm fi) = some w ∧ Rel c.K S H v w := by
        intro fs
        induction fs with
        | nil => intro vs _ _ e; cases e
        | cons q r ih =>
          intro vs hr hin e
          obtain ⟨w, ws, rfl, r1, r2⟩ := hr
          obtain ⟨qn, qd⟩ := q
          by_cases hq : fi = qn
          · subst hq
            rw [List.lookup_cons_self] at e
            cases e
            exact ⟨w, List.lookup_cons_self, r1⟩
          · have hq' : (fi == qn) = false := by simpa using hq
            have e' : r.lookup fi = some v := by rw [List.lookup_cons, hq'] at e; exact e
            obtain ⟨w', e1, e2⟩ := ih ws r2 (fun q hm => hin q (List.mem_cons_of_mem _ hm)) e'
            refine ⟨w', ?_, e2⟩
            have hne : (nm fi == nm qn) = false := by
              rw [beq_eq_false_iff_ne]
              exact fun z => hq (hin (qn, qd) List.mem_cons_self z.symm).symm
            rw [List.lookup_cons, hne]
            exact e1
      obtain ⟨w, ew, rw'⟩ := key x.fs vs rf inj eo
      exact ⟨dd, vs, w, ed, hdd, by rw [hf]; exact ew, q S w H st KpT.refl rw'⟩
  · refine ⟨fun pins s σ H Q I w => ?_⟩
    obtain ⟨S, γ, μ, v, st, eo, q⟩ := w
    exact absurd (hK ▸ st.x.1) xd
/-- isinstance(e, C) -/
theorem call_isX {D : Addr} (T : XfK X.K D) (hz : Zc (.ref D) d oe) (hf : ∃ vs, oe.data = .fields vs) : CallR (X.suite a ((a, oe) :: pn)) (.builtin "isinstance") (fun xs H Q => ∃ (cv : Addr) (b : Bool) (od : Option Obj), xs = [.ref a, .ref cv] ∧ PySem.W.kitOne X.K (.ref D) (.ref cv) = some b ∧ (∀ h : Heap, True) ∧ Q (.bl b) H ∧ (d = none ∨ ∃ dd fs, d = some dd ∧ H dd = some (.xd fs))) := by
  intro pins s σ H xs us Q I r h
  obtain ⟨cv, b, _, rfl, e, _, q, hdd⟩ := h
  cases r with
  | cons rx rr =>
    cases rr with
    | cons rt rr =>
      cases rr
      cases rx
      cases rt
      obtain ⟨hget, _⟩ := I.pin (a, oe) (List.mem_append.mpr (.inl List.mem_cons_self))
      obtain ⟨vs, hv⟩ := hf
      have J : ∃ od, PySem.W.InstAt s.heap a oe D od := by
        rcases hdd with rfl | ⟨dd, fs, rfl, hx⟩
        · exact ⟨none, hget, hz.1, by unfold PySem.W.notCls; rw [hv] <;> rfl, by rw [hz.2]; trivial⟩
        · obtain ⟨mA, hns, hr⟩ := (show ObjOk X.prog X.w H s.heap dd (.xd fs) from I.hok dd _ hx)
          obtain ⟨od, ho, hl⟩ := lookIn_ns hns
          exact ⟨some od, hget, hz.1, by unfold PySem.W.notCls; rw [hv] <;> rfl, by rw [hz.2]; exact ho⟩
      obtain ⟨od, J⟩ := J
      exact PySem.W.kia_one (PySem.W.kitx_exc T.cl T.ga T.gt T.ex T.ha T.hn T.ht T.hm) I.kIn J e (fun z => nomatch z) fun tk => ⟨.bl b, H, I.kept (t' := tk) fun _ _ z => z, rfl, q⟩
/-! ### the expressions of a suite -/
def asAtt : Expr → Option (Str × Str)
  | .Attribute (.Name n _) f _ => some (n, f)
  | _ => none
theorem asAtt_eq {e : Expr} {n f : Str} (h : asAtt e = some (n, f)) : ∃ p1 p2, e = .Attribute (.Name n p1) f p2 := by
  cases e with
  | Attribute o f' p =>
    cases o with
    | Name n' p' => cases h; exact ⟨_, _, rfl⟩
    | _ => cases h
  | _ => cases h
def xNm (N : List Str) (sc : Scope) (i : Option Nat) (n : Str) : Bool := match i with
  | some j => decide (N[j]? = some n) && visB sc n && okN n
  | none => false
mutual
def chkHe (N : List Str) (sc : Scope) (i : Option Nat) (cs : List Nat) : HE → Expr → Bool
  | .con v, e => conIs v e
  | .var j, e => match asName e with
    | some y => decide (N[j]? = some y) && visB sc y && okN y
    | none => false
  | .fld f, e => match asAtt e with
    | some (n, g) => decide (g = nm f) && decide (f ∈ fldIds) && xNm N sc i n
    | none => false
  | .isx [k], e => match asCall e with
    | some (y, [p, q], []) => decide (y = "isinstance") && glB sc y && decide (k ∈ cs) && (match asName p with
      | some n => xNm N sc i n
      | none => false) && (match asName q with
      | some n => decide (n = nm k) && glB sc n && okN n
      | none => false)
    | _ => false
  | .isx _, _ => false
  | .not h, e => match asUn e with
    | some (op, p) => decide (op = .Not) && chkHe N sc i cs h p
    | none => false
  | .and h g, e => match asBool e with
    | some (op, p, q) => decide (op = .And) && chkHe N sc i cs h p && chkHe N sc i cs g q
    | none => false
  | .or h g, e => match asBool e with
    | some (op, p, q) => decide (op = .Or) && chkHe N sc i cs h p && chkHe N sc i cs g q
    | none => false
  | .tup hs, e => match asTup e with
    | some es => chkHes N sc i cs hs es && decide (es.length ≤ 1000)
    | none => false
def chkHes (N : List Str) (sc : Scope) (i : Option Nat) (cs : List Nat) : List HE → List Expr → Bool
  | [], es => es.isEmpty
  | h :: hs, es => match es with
    | e :: es => chkHe N sc i cs h e && nst e && chkHes N sc i cs hs es
    | [] => false
end
/-- the context of a suite -/
structure XS (c : Ct) (X : Cx) (N : List Str) (sc : Scope) (cs : List Nat) : Prop where
  hK : X.K = c.K
  nN : X.N = N
  scp : X.env.scope = sc
  fx : FactX X.K
  mis : X.mg "isinstance" = none
  cls : ∀ k ∈ cs, XDef X.K k ∧ X.mg (nm k) = some (.ref (He.ga X.K (nm k)))
theorem vis_of {sc : Scope} {n : Str} (h : visB sc n = true) : Vis sc n := by
  unfold visB at h
  unfold Vis
  split at h <;> first | (rename_i z; simp [z]; done) | cases h
theorem gl_of {X : Cx} {sc : Scope} (hs : X.env.scope = sc) {n : Str} (h : glB sc n = true) : Gl X n := by
  have := of_decide_eq_true h
  unfold Gl Env.kindOf
  rw [hs]; exact this
theorem nm_inj : ∀ f ∈ fldIds, ∀ q ∈ fldIds, nm q = nm f → q = f := by decide +kernel
theorem pe_boolop {op : BoolOp} {y : Expr} {p : Pos} {t : TE} (h : PE X y t) : PE X (.BoolOp op [y] p) t := pe_one h
mutual
theorem sndHe {N : List Str} {sc : Scope} {cs : List Nat} (xs : XS c X N sc cs) (hz : Zc cls d oe) (hd : ∃ vs, oe.data = .fields vs) (hfs : ∀ q ∈ x.fs, q.1 ∈ fldIds) : ∀ (h : HE) (e : Expr), chkHe N sc i cs h e = true → PE (X.suite a ((a, oe) :: pn)) e (TXn c x a cls d i fun γ => heE x γ h)
  | .con v, e, h => by
    unfold chkHe at h
    refine tx_of ((con_of (c := c) h).imp fun σ H Q w => ?_)
    unfold heE at w
    exact w
  | .var j, e, h => by
    unfold chkHe at h
    cases ee : asName e with
    | none => rw [ee] at h; cases h
    | some y =>
      rw [ee] at h
      simp only [Bool.and_eq_true, decide_eq_true_eq] at h
      obtain ⟨⟨h1, h2⟩, h3⟩ := h
      obtain ⟨p, rfl⟩ := asName_eq ee
      refine tx_of ((snd_var (c := c) (X := X.suite a ((a, oe) :: pn)) (i := j) (by rw [← xs.nN] at h1; exact h1) (by have := vis_of h2; rw [← xs.scp] at this; exact this) (okN_of h3).1 (okN_of h3).2).imp fun σ H Q w => ?_)
      obtain ⟨S, γ, μ, g, w⟩ := w
      refine ⟨S, γ, μ, g, ?_⟩
      unfold heE at w
      have w : (ofO (match γ[j]? with | some (.val d) => some d | _ => none) μ).All (Aft c true S μ H γ σ Q) c.V := w
      show (match γ[j]? with | some (.val d) => R.ok d μ | _ => .fail : R D).All _ _
      revert w
      generalize γ[j]? = o
      intro w
      match o, w with
      | some (.val d), w => exact w
      | some (.own _), w => exact w
      | some .un, w => exact w
      | none, w => exact w
  | .fld f, e, h => by
    unfold chkHe at h
    cases ee : asAtt e with
    | none => rw [ee] at h; cases h
    | some z =>
      obtain ⟨n, g⟩ := z
      rw [ee] at h
      simp only [Bool.and_eq_true, decide_eq_true_eq] at h
      obtain ⟨⟨h1, h2⟩, h3⟩ := h
      obtain ⟨p1, p2, rfl⟩ := asAtt_eq ee
      unfold xNm at h3
      cases hi : i with
      | none => rw [hi] at h3; cases h3
      | some j =>
        rw [hi] at h3
        simp only [Bool.and_eq_true, decide_eq_true_eq] at h3
        obtain ⟨⟨g1, g2⟩, g3⟩ := h3
        refine (tx_fld (i := some j) (j := j) (fi := f) xs.hK xs.fx h1 h2 hz hd rfl (by rw [xs.nN]; exact g1) (by rw [xs.scp]; exact vis_of g2) (okN_of g3).1 (okN_of g3).2 (by rfl) (fun q hq => nm_inj f h2 q.1 (hfs q hq)) trivial).imp fun σ H Q w => ?_
        obtain ⟨S, γ, μ, v, st, eo, q⟩ := w
        have eo : heE x γ (.fld f) = some v := eo
        unfold heE at eo
        exact ⟨S, γ, μ, v, st, eo, q⟩
  | .isx [k], e, h => by
    unfold chkHe at h
    split at h
    · rename_i y p q ee
      simp only [Bool.and_eq_true, decide_eq_true_eq] at h
      obtain ⟨⟨⟨⟨h1, h2⟩, h3⟩, h4⟩, h5⟩ := h
      obtain ⟨pp, p2, rfl⟩ := asCall_eq ee
      subst h1
      cases e1 : asName p with
      | none => rw [e1] at h4; cases h4
      | some n =>
        rw [e1] at h4
        cases e2 : asName q with
        | none => rw [e2] at h5; cases h5
        | some m =>
          rw [e2] at h5
          simp only [Bool.and_eq_true, decide_eq_true_eq] at h5
          obtain ⟨⟨h5, h6⟩, h7⟩ := h5
          obtain ⟨p3, rfl⟩ := asName_eq e1
          obtain ⟨p4, rfl⟩ := asName_eq e2
          unfold xNm at h4
          cases hi : i with
          | none => rw [hi] at h4; cases h4
          | some j =>
            rw [hi] at h4
            simp only [Bool.and_eq_true, decide_eq_true_eq] at h4
            obtain ⟨⟨g1, g2⟩, g3⟩ := h4
            obtain ⟨xk, mk⟩ := xs.cls k h3
            by_cases xd : XDef X.K x.c ∧ cls = .ref (He.ga X.K (nm x.c))
            · obtain ⟨xd, ec⟩ := xd
              subst ec
              have hgi : Gl (X.suite a ((a, oe) :: pn)) "isinstance" := gl_of (X := X) xs.scp h2
              have hgm : Gl (X.suite a ((a, oe) :: pn)) m := gl_of (X := X) xs.scp h6
              have pv : PE (X.suite a ((a, oe) :: pn)) (.Name n p3) (tVar j) := pe_var (X := X.suite a ((a, oe) :: pn)) (i := j) (by rw [← xs.nN] at g1; exact g1) (by have := vis_of g2; rw [← xs.scp] at this; exact this) (okN_of g3).1 (okN_of g3).2
              have pc : PE (X.suite a ((a, oe) :: pn)) (.Name m p4) (tC (.ref (He.ga X.K (nm k)))) := pe_glob (X := X.suite a ((a, oe) :: pn)) hgm (by rw [h5]; exact mk) rfl (okN_of h7).1
              refine (pe_callB (id := "isinstance") (call_isX (d := d) (xs.fx.xf _ xd) hz hd) hgi xs.mis (by decide +kernel) (pa_cons pv (pa_cons pc pa_nil (star_cons rfl)) (star_cons rfl)) (by decide +kernel) (by decide +kernel) (star_cons rfl) rfl).imp fun σ H Q w => ?_
              obtain ⟨S, γ, μ, v, st, eo, q⟩ := w
              have eo : heE x γ (.isx [k]) = some v := eo
              unfold heE at eo
              have ev : v = .bl (subX x.c k) := by simpa using eo.symm
              subst ev
              refine ⟨.ref a, st.n j rfl, _, _, none, rfl, xs.fx.kit _ _ xd xk, fun _ => trivial, q S _ H st KpT.refl rfl, ?_⟩
              rcases st.x.2.2.1 with ⟨_, e0⟩ | ⟨dd, vs, ed, hdd, nS, rf⟩
              · exact .inl e0
              · exact .inr ⟨dd, vs, ed, hdd⟩
            · refine ⟨fun pins s σ H Q I w => ?_⟩
              obtain ⟨S, γ, μ, v, st, eo, q⟩ := w
              exact absurd ⟨xs.hK ▸ st.x.1, by rw [xs.hK]; exact st.x.2.1⟩ xd
    · cases h
  | .isx [], e, h => by unfold chkHe at h; cases h
  | .isx (_ :: _ :: _), e, h => by unfold chkHe at h; cases h
  | .not g, e, h => by
    unfold chkHe at h
    cases ee : asUn e with
    | none => rw [ee] at h; cases h
    | some z =>
      obtain ⟨op, p⟩ := z
      rw [ee] at h
      simp only [Bool.and_eq_true, decide_eq_true_eq] at h
      obtain ⟨rfl, h2⟩ := h
      obtain ⟨pp, rfl⟩ := asUn_eq ee
      refine (pe_notT (sndHe xs hz hd hfs g p h2)).imp fun σ H Q w => ?_
      obtain ⟨S, γ, μ, v, st, eo, q⟩ := w
      have eo : heE x γ _ = some v := eo
      unfold heE at eo
      split at eo
      · rename_i b eb
        cases eo
        refine ⟨S, γ, μ, .bl b, st, eb, fun S' w H' st' k r => ⟨b, ?_, q S' _ H' st' k rfl⟩⟩
        cases (show w = .bl b from r)
        rfl
      · cases eo
  | .and g g2, e, h => by
    unfold chkHe at h
    cases ee : asBool e with
    | none => rw [ee] at h; cases h
    | some z =>
      obtain ⟨op, p, q⟩ := z
      rw [ee] at h
      simp only [Bool.and_eq_true, decide_eq_true_eq] at h
      obtain ⟨⟨rfl, h2⟩, h3⟩ := h
      have iha := sndHe xs hz hd hfs g p h2
      have ihb := sndHe xs hz hd hfs g2 q h3
      have key : PE (X.suite a ((a, oe) :: pn)) e (tAndT X.K (TXn c x a cls d i fun γ => heE x γ g) (TXn c x a cls d i fun γ => heE x γ g2)) := by
        obtain ⟨pp, hx⟩ := asBool_eq ee
        rcases hx with rfl | ⟨b', d', r, rfl, rfl⟩
        · exact pe_andT iha (pe_boolop ihb)
        · exact pe_andT iha ihb
      refine key.imp fun σ H Q w => ?_
      obtain ⟨S, γ, μ, v, st, eo, q⟩ := w
      have eo : heE x γ _ = some v := eo
      unfold heE at eo
      split at eo
      · rename_i eb
        refine ⟨S, γ, μ, .bl true, st, eb, fun S' w H' st' k r => ⟨true, ?_, ?_⟩⟩
        · cases (show w = .bl true from r); rfl
        · rw [if_pos rfl]
          exact ⟨S', γ, μ, v, st', eo, fun S2 w2 H2 st2 k2 r2 => q S2 w2 H2 st2 (k.trans k2) r2⟩
      · rename_i eb
        cases eo
        refine ⟨S, γ, μ, .bl false, st, eb, fun S' w H' st' k r => ⟨false, ?_, ?_⟩⟩
        · cases (show w = .bl false from r); rfl
        · rw [if_neg (by decide)]
          exact q S' w H' st' k r
      · cases eo
  | .or g g2, e, h => by
    unfold chkHe at h
    cases ee : asBool e with
    | none => rw [ee] at h; cases h
    | some z =>
      obtain ⟨op, p, q⟩ := z
      rw [ee] at h
      simp only [Bool.and_eq_true, decide_eq_true_eq] at h
      obtain ⟨⟨rfl, h2⟩, h3⟩ := h
      have iha := sndHe xs hz hd hfs g p h2
      have ihb := sndHe xs hz hd hfs g2 q h3
      have key : PE (X.suite a ((a, oe) :: pn)) e (tOrT X.K (TXn c x a cls d i fun γ => heE x γ g) (TXn c x a cls d i fun γ => heE x γ g2)) := by
        obtain ⟨pp, hx⟩ := asBool_eq ee
        rcases hx with rfl | ⟨b', d', r, rfl, rfl⟩
        · exact pe_orT iha (pe_boolop ihb)
        · exact pe_orT iha ihb
      refine key.imp fun σ H Q w => ?_
      obtain ⟨S, γ, μ, v, st, eo, q⟩ := w
      have eo : heE x γ _ = some v := eo
      unfold heE at eo
      split at eo
      · rename_i eb
        cases eo
        refine ⟨S, γ, μ, .bl true, st, eb, fun S' w H' st' k r => ⟨true, ?_, ?_⟩⟩
        · cases (show w = .bl true from r); rfl
        · rw [if_pos rfl]
          exact q S' w H' st' k r
      · rename_i eb
        refine ⟨S, γ, μ, .bl false, st, eb, fun S' w H' st' k r => ⟨false, ?_, ?_⟩⟩
        · cases (show w = .bl false from r); rfl
        · rw [if_neg (by decide)]
          exact ⟨S', γ, μ, v, st', eo, fun S2 w2 H2 st2 k2 r2 => q S2 w2 H2 st2 (k.trans k2) r2⟩
      · cases eo
  | .tup hs, e, h => by
    unfold chkHe at h
    cases ee : asTup e with
    | none => rw [ee] at h; cases h
    | some es =>
      rw [ee] at h
      simp only [Bool.and_eq_true, decide_eq_true_eq] at h
      obtain ⟨k, pp, rfl⟩ := asTup_eq ee
      obtain ⟨ih, il⟩ := sndHes xs hz hd hfs hs es h.1
      refine (pe_tup ih).imp fun σ H Q w => ?_
      obtain ⟨S, γ, μ, v, st, eo, q⟩ := w
      have eo : heE x γ (.tup hs) = some v := eo
      unfold heE at eo
      obtain ⟨vs, ev, rfl⟩ := Option.map_eq_some_iff.mp eo
      refine ⟨S, γ, μ, vs, st, ev, fun S' ws H' st' k r => ⟨?_, fun p hp => ?_⟩⟩
      · rw [r.length, il γ vs ev]; exact big_line (by omega)
      · obtain ⟨s, ok⟩ := step_new (c := c) (o := HO.tup ws) st'.g.st hp
        have k2 := s.kpT st'.g.st.dm
        exact q S' (.ref p) _ (st'.step (st'.g.step s ok) k2) (k.trans k2) ⟨p, ws, rfl, .inl ⟨.inl upd_same, ok_notS st'.g.st hp⟩, r.kp k2.kp⟩
theorem sndHes {N : List Str} {sc : Scope} {cs : List Nat} (xs : XS c X N sc cs) (hz : Zc cls d oe) (hd : ∃ vs, oe.data = .fields vs) (hfs : ∀ q ∈ x.fs, q.1 ∈ fldIds) : ∀ (hs : List HE) (es : List Expr), chkHes N sc i cs hs es = true → PA (X.suite a ((a, oe) :: pn)) es (TXa c x a cls d i fun γ => heEs x γ hs) ∧ ∀ γ vs, heEs x γ hs = some vs → vs.length = es.length
  | [], es, h => by
    unfold chkHes at h
    cases es with
    | cons _ _ => cases h
    | nil =>
      refine ⟨pa_nil.imp fun σ H Q w => ?_, fun γ vs e => ?_⟩
      · obtain ⟨S, γ, μ, v, st, eo, q⟩ := w
        have eo : heEs x γ [] = some v := eo
        unfold heEs at eo
        cases eo
        exact q S [] H st KpT.refl rfl
      · unfold heEs at e; cases e; rfl
  | g :: hs, es, h => by
    unfold chkHes at h
    cases es with
    | nil => cases h
    | cons e es =>
      simp only [Bool.and_eq_true] at h
      obtain ⟨⟨h1, h2⟩, h3⟩ := h
      obtain ⟨ih, il⟩ := sndHes xs hz hd hfs hs es h3
      have eq : ∀ γ vs, heEs x γ (g :: hs) = some vs → ∃ v ws, heE x γ g = some v ∧ heEs x γ hs = some ws ∧ vs = v :: ws := fun γ vs e => by
        unfold heEs at e
        split at e
        · rename_i v ws e1 e2
          cases e
          exact ⟨v, ws, e1, e2, rfl⟩
        · cases e
      refine ⟨(pa_cons (sndHe xs hz hd hfs g e h1) ih (star_cons h2)).imp fun σ H Q w => ?_, fun γ vs e => ?_⟩
      · obtain ⟨S, γ, μ, vs, st, eo, q⟩ := w
        obtain ⟨v, ws, e1, e2, rfl⟩ := eq γ vs eo
        refine ⟨S, γ, μ, v, st, e1, fun S' w H' st' k r => ⟨S', γ, μ, ws, st', e2, fun S2 us H2 st2 k2 r2 => ?_⟩⟩
        exact q S2 (w :: us) H2 st2 (k.trans k2) ⟨w, us, rfl, Rel.kp k2.kp _ _ r, r2⟩
      · obtain ⟨v, ws, e1, e2, rfl⟩ := eq γ vs e
        rw [List.length_cons, List.length_cons, il γ ws e2]
end
/-! ### the statements of a suite -/
def chkHs (N : List Str) (sc : Scope) (i : Option Nat) (cs : List Nat) (fr : Bool) : List HS → List Stmt → Bool
  | [], ss => ss.isEmpty
  | .asg j h :: r, ss => match ss with
    | .Assign [.Name y _] e _ :: ss => stoB N sc (fun _ => true) j y && notComp e && chkHe N sc i cs h e && decide (i ≠ some j) && chkHs N sc i cs fr r ss
    | _ => false
  | .ret h :: r, ss => match ss with
    | [.Return (some e) _] => chkHe N sc i cs h e && !fr && r.isEmpty
    | _ => false
def TXs (c : Ct) (x : Xc) (a : Addr) (cls : Value) (d : Option Addr) (i : Option Nat) (fr : Bool) (hs : List HS) : TS := fun D σ H => ∃ S γ μ, XSt c x a cls d i S γ μ σ H ∧ (heSs x μ hs γ).All (AftS c fr S H D) c.V
theorem sndHs {N : List Str} {sc : Scope} {cs : List Nat} {fr : Bool} (xs : XS c X N sc cs) (hnd : X.N.Nodup) (hfn : ∀ y, X.fn y = true) (hz : Zc cls d oe) (hd : ∃ vs, oe.data = .fields vs) (hfs : ∀ q ∈ x.fs, q.1 ∈ fldIds) :
    ∀ (hs : List HS) (ss : List Stmt), chkHs N sc i cs fr hs ss = true → PSs (X.suite a ((a, oe) :: pn)) ss (TXs c x a cls d i fr hs)
  | [], ss, h => by
    unfold chkHs at h
    cases ss with
    | cons _ _ => cases h
    | nil =>
      refine pss_nil.imp fun D σ H w => ?_
      obtain ⟨S, γ, μ, st, w⟩ := w
      exact w S σ H st.g KpT.refl
  | .asg j g :: r, ss, h => by
    unfold chkHs at h
    split at h
    · rename_i y p e pos ss'
      simp only [Bool.and_eq_true, decide_eq_true_eq] at h
      obtain ⟨⟨⟨⟨h1, h2⟩, h3⟩, h4⟩, h5⟩ := h
      have hst : stoB N sc (fun _ => true) j y = true := h1
      unfold stoB at h1
      simp only [Bool.and_eq_true, Bool.or_eq_true, decide_eq_true_eq] at h1
      obtain ⟨n1, n2⟩ := h1
      have hl : Loc X.env.scope y := by
        rw [xs.scp]
        rcases n2 with n2 | n2
        · exact .inl n2
        · exact .inr n2.1
      refine (pss_cons (ps_set (X := X.suite a ((a, oe) :: pn)) (i := j) hnd (by rw [← xs.nN] at n1; exact n1) hl (sndHe xs hz hd hfs g e h3) (noSwap h2) (.inl (hfn y))) (sndHs xs hnd hfn hz hd hfs r ss' h5)).imp fun D σ H w => ?_
      obtain ⟨S, γ, μ, st, w⟩ := w
      unfold heSs at w
      cases ev : heE x γ g with
      | none => rw [ev] at w; exact w.elim
      | some v =>
        rw [ev] at w
        refine ⟨S, γ, μ, v, st, ev, fun S' w' H' st' k r' => ⟨S', γ.set j (.val v), μ, ⟨st'.g.set j r', st'.x, fun m hm => ?_⟩, AftS.steps k w⟩⟩
        rw [List.getElem?_set_ne (fun z => h4 (by rw [hm, z]))]
        exact st'.n m hm
    · cases h
  | .ret g :: r, ss, h => by
    unfold chkHs at h
    split at h
    · rename_i e pos
      simp only [Bool.and_eq_true, Bool.not_eq_true'] at h
      obtain ⟨⟨h1, h2⟩, h3⟩ := h
      subst h2
      refine (pss_one (ps_ret (sndHe xs hz hd hfs g e h1))).imp fun D σ H w => ?_
      obtain ⟨S, γ, μ, st, w⟩ := w
      unfold heSs at w
      cases ev : heE x γ g with
      | none => rw [ev] at w; exact w.elim
      | some v =>
        rw [ev] at w
        exact ⟨S, γ, μ, v, st, ev, fun S' w' H' st' k r' => w w' H' ⟨S', γ, σ, st'.g, r'⟩⟩
    · cases h
end
theorem _root_.L2.PSs.ex {X : Cx} {ss : List Stmt} {α : Type} {P : α → Prop} {t : α → TS} (h : ∀ x, P x → PSs X ss (t x)) : PSs X ss (fun D σ H => ∃ x, P x ∧ t x D σ H) := ⟨fun pins s σ H D I w => by
  obtain ⟨x, px, w⟩ := w
  exact (h x px).run pins s σ H D I w⟩
/-! ### try -/
def suT (c : Ct) (fr : Bool) (i : Option Nat) (hs : List HS) : SuT := fun a cls d D σ H => ∃ x : Xc, (∀ q ∈ x.fs, q.1 ∈ fldIds) ∧ TXs c x a cls d i fr hs D σ H
def chkHd (N : List Str) (sc : Scope) (cs : List Nat) (fr : Bool) : List Hd → List ExceptHandler → Bool
  | [], es => es.isEmpty
  | ⟨[k], nm', b⟩ :: r, es => match es with
    | .ExceptHandler (some (.Name y _)) n' (s0 :: ss) _ :: es => decide (k ∈ cs) && decide (y = nm k) && glB sc y && okN y && (match nm', n' with
        | none, none => true
        | some j, some n => decide (N[j]? = some n) && decide (sc.names.lookup n = some .local)
        | _, _ => false) && chkHs N sc nm' cs fr b (s0 :: ss) && chkHd N sc cs fr r es
    | _ => false
  | _, _ => false
def hdV (K : PySem.W.Frag) (c : Ct) (fr : Bool) : List Hd → List (Value × Option Nat × SuT)
  | [] => []
  | h :: r => (.ref (He.ga K (nm (h.cs.headD 0))), h.nm, suT c fr h.nm h.b) :: hdV K c fr r
section
variable {c : Ct} {X : Cx} {fr : Bool} {N : List Str} {sc : Scope} {cs : List Nat}
theorem hx_of (xs : XS c X N sc cs) (hnd : X.N.Nodup) (hfn : ∀ y, X.fn y = true) : ∀ (hs : List Hd) (es : List ExceptHandler), chkHd N sc cs fr hs es = true → HX X es (hdV X.K c fr hs)
  | [], es, h => by
    unfold chkHd at h
    cases es with
    | cons _ _ => cases h
    | nil => exact .nil
  | ⟨[k], nm', b⟩ :: r, es, h => by
    unfold chkHd at h
    split at h
    · rename_i y p n' s0 ss pos es'
      simp only [Bool.and_eq_true, decide_eq_true_eq] at h
      obtain ⟨⟨⟨⟨⟨⟨h1, h2⟩, h3⟩, h4⟩, h5⟩, h6⟩, h7⟩ := h
      have ih := hx_of xs hnd hfn r es' h7
      obtain ⟨xk, mk⟩ := xs.cls k h1
      have su : SuOk X (s0 :: ss) (suT c fr nm' b) := fun a oe cls d pn hz hd => PSs.ex fun x px => sndHs xs hnd hfn hz hd px b _ h6
      match nm', n', h5, su with
      | none, none, _, su => exact .bare (gl_of xs.scp h3) (okN_of h4).1 (by rw [h2]; exact mk) su ih
      | some j, some n, h5, su =>
        simp only [Bool.and_eq_true, decide_eq_true_eq] at h5
        exact .named (gl_of xs.scp h3) (okN_of h4).1 (by rw [h2]; exact mk) (by rw [xs.nN]; exact h5.1) (by unfold Env.kindOf; rw [xs.scp]; exact h5.2) su ih
    · cases h
  | ⟨[], _, _⟩ :: _, es, h => by unfold chkHd at h; cases h
  | ⟨_ :: _ :: _, _, _⟩ :: _, es, h => by unfold chkHd at h; cases h
theorem Good.to2 {S S' : Sa} {γ γ' : Ga} {μ μ' : Sto} {σ σ' : L2.St} {H H' : Hp} (g : Good c S γ μ σ H) (g' : Good { c with S1 := S, H1 := H } S' γ' μ' σ' H') : Good c S' γ' μ' σ' H' := ⟨g'.len, g'.sl, g'.ap, g'.st, g'.s0, g'.ext, g'.fr, g'.md, g.kt.trans g'.kt⟩
def VW (c : Ct) (W : WX) (S1 : Sa) (H1 : Hp) : Ct := { c with V := fun x γ μ => ∀ S σ H cls d, Good { c with S1 := S1, H1 := H1 } S γ μ σ H → XRel c.K S H x cls d → W cls d σ H, S1 := S1, H1 := H1 }
theorem vw_of {W : WX} {S1 S : Sa} {H1 H : Hp} {γ : Ga} {μ : Sto} {σ : L2.St} (g : Good (VW c W S1 H1) S γ μ σ H) : Good { c with S1 := S1, H1 := H1 } S γ μ σ H := ⟨g.len, g.sl, g.ap, g.st, g.s0, g.ext, g.fr, g.md, g.kt⟩
theorem vw_start {W : WX} {S : Sa} {H : Hp} {γ : Ga} {μ : Sto} {σ : L2.St} (g : Good c S γ μ σ H) : Good (VW c W S H) S γ μ σ H := ⟨g.len, g.sl, g.ap, g.st, g.s0, g.ext, g.fr, g.md, KpT.refl⟩
theorem vw_takes {W : WX} {S1 : Sa} {H1 : Hp} (tk : Takes X W) : Takes X (WV (VW c W S1 H1)) := tk.imp fun cls d σ H w => by
  obtain ⟨S, γ, μ, x, g, xr, v⟩ := w
  exact v S σ H cls d (vw_of g) xr
theorem hd_of (xs : XS c X N sc cs) {S : Sa} {γ : Ga} {μ : Sto} {σ : L2.St} {H : Hp} {D : Ends} (g : Good c S γ μ σ H) {x : Xc} {γ' : Ga} {μ' : Sto} {S' : Sa} {σ' : L2.St} {H' : Hp} {cls : Value} {d : Option Addr} (g' : Good { c with S1 := S, H1 := H } S' γ' μ' σ' H') (xr : XRel c.K S' H' x cls d) :
    ∀ (hs : List Hd) (es : List ExceptHandler), chkHd N sc cs fr hs es = true → (hdl x γ' μ' hs).All (AftS c fr S H D) c.V → wX X.K (WV c) D (hdV X.K c fr hs) cls d σ' H'
  | [], es, _, h => ⟨S', γ', μ', x, g.to2 g', xr, h⟩
  | ⟨[k], nm', b⟩ :: r, es, hc, h => by
    unfold chkHd at hc
    split at hc
    · rename_i y p n' s0 ss pos es'
      simp only [Bool.and_eq_true, decide_eq_true_eq] at hc
      obtain ⟨⟨⟨⟨⟨⟨h1, _⟩, _⟩, _⟩, _⟩, _⟩, h7⟩ := hc
      obtain ⟨xk, mk⟩ := xs.cls k h1
      have xd : XDef X.K x.c := xs.hK ▸ xr.1
      have ec : cls = .ref (He.ga X.K (nm x.c)) := by rw [xs.hK]; exact xr.2.1
      have hany : ([k].any (subX x.c)) = subX x.c k := by simp
      unfold hdl at h
      refine ⟨subX x.c k, by rw [ec]; exact xs.fx.exm _ _ xd xk, fun e a na => ?_, fun e => ?_⟩
      · have e' : ([k].any (subX x.c)) = true := hany.trans e
        simp only [e', if_true] at h
        cases hj : inJ nm' γ' with
        | false => simp only [hj] at h; exact h.elim
        | true =>
          simp only [hj, if_true] at h
          rw [R.All_bind] at h
          have gc := g.to2 g'
          refine ⟨x, xr.2.2.2, S', dropN nm' γ', μ', ⟨?_, xr, fun j hm => ?_⟩, h.mono (fun fl μ2 h => ?_) fun _ _ _ w => w⟩
          · cases nm' with
            | none => exact gc
            | some j => exact gc.forget j (some (.ref a))
          · subst hm
            have hl : j < σ'.length := by rw [← g'.len]; exact of_decide_eq_true hj
            exact List.getElem?_set_self hl
          · cases fl with
            | nx γ2 =>
              intro S2 σ2 H2 g2 k2
              have h : ∀ S'' σ'' H'', Good c S'' (dropN nm' γ2) μ2 σ'' H'' → KpT S S'' H H'' → D.nx σ'' H'' := h
              cases nm' with
              | none => exact h S2 σ2 H2 g2 (g'.kt.trans k2)
              | some j => exact h S2 _ H2 (g2.forget j none) (g'.kt.trans k2)
            | rt d => cases nm' <;> exact h
            | bk _ => exact h.elim
            | ct _ => exact h.elim
      · have e' : ([k].any (subX x.c)) = false := hany.trans e
        simp only [e'] at h
        exact hd_of xs g g' xr r es' h7 h
    · cases hc
  | ⟨[], _, _⟩ :: _, es, h, _ => by unfold chkHd at h; cases h
  | ⟨_ :: _ :: _, _, _⟩ :: _, es, h, _ => by unfold chkHd at h; cases h
theorem st_try {body : List Stmt} {es : List ExceptHandler} {hs : List Hd} {rb : Ga → Sto → R Fl} {pos : Pos} (xs : XS c X N sc cs) (hst : X.stack = X.env :: X.outer) (hf : X.env.frame = some X.env.locals) (hnd : X.N.Nodup) (hfn : ∀ y, X.fn y = true) (tk : Takes X (WV c))
    (hb : ∀ (W : WX) (S1 : Sa) (H1 : Hp) (pn : List (Addr × Obj)) (xe : Value → Shared → Prop), Takes (X.tr pn xe) W → PassesOwn (model X.prog X.w) X.A X.env xe → PSs (X.tr pn xe) body (TSn (VW c W S1 H1) fr rb))
    (hc : chkHd N sc cs fr hs es = true) (hne : es ≠ []) : PS X (.Try body es [] [] pos) (TSn c fr fun γ μ => (rb γ μ).catch fun x γ' μ' => hdl x γ' μ' hs) := by
  have hx := hx_of (fr := fr) xs hnd hfn hs es hc
  match es, hne, hx, hc with
  | e0 :: es', _, hx, hc =>
    refine (ps_tryX (tb := fun W D σ H => ∃ q : Sa × Hp, True ∧ TSn (VW c W q.1 q.2) fr rb D σ H) hst hf hnd tk (fun W pn xe t1 t2 => PSs.ex fun q _ => hb W q.1 q.2 pn xe t1 t2) hx).imp fun D σ H w => ?_
    obtain ⟨S, γ, μ, g, h⟩ := w
    refine ⟨(S, H), trivial, S, γ, μ, vw_start g, (R.All_catch h).mono (fun fl μ' h => ?_) fun x γ' μ' h S' σ' H' cls d g' xr => hd_of xs g g' xr hs _ hc h⟩
    cases fl with
    | nx γ' => exact fun S' σ' H' g' k => h S' σ' H' (g.to2 (vw_of g')) k
    | bk γ' => exact fun S' σ' H' g' k => h S' σ' H' (g.to2 (vw_of g')) k
    | ct γ' => exact fun S' σ' H' g' k => h S' σ' H' (g.to2 (vw_of g')) k
    | rt d =>
      intro v H' z
      obtain ⟨S', γ', σ', g', z⟩ := z
      exact h v H' ⟨S', γ', σ', g.to2 (vw_of g'), z⟩
end
end Bs
/-! Bs: the checker of statements and of defs; a def keeps its promise. -/
namespace Bs
open PySem L2
def swT (sc : Scope) (y : Str) (py : Pos) : Expr → Bool
  | .ListComp _ _ scope p => decide (sc.names.lookup y = some .local) && (py.line == p.line) && !(scope.names.any fun (n, k) => n == y && (k == .local || k == .cell))
  | _ => false
def isLc : E → Bool
  | .lc _ _ _ _ => true
  | .lc2 _ _ _ _ _ _ _ => true
  | _ => false
def isSLc : E → Bool
  | .sto e => isLc e
  | _ => false
def isFrz : S → Bool
  | .frz _ => true
  | _ => false
mutual
def chkS (n : Nm) (fr : Bool) (sc : Scope) : S → Stmt → Bool
  | .asg t e, st => match st with
    | .Assign [.Name y py] x _ => chk n e sc (fun _ => true) .v x && (match t with
      | [i] => stoB n.N sc (fun _ => true) i y && (((cellT sc y x && sg e) || (swT sc y py x && isLc e)) || (swT sc y py x && isSLc e))
      | _ => false)
    | .Assign [.Tuple es _ _] x _ => chk n e sc (fun _ => true) .v x && sg e && tgsB n.N sc (fun _ => true) t es && decide (2 ≤ t.length) && notComp x && notTupE x
    | _ => false
  | .aug i o e, st => match st with
    | .AugAssign (.Name y _) op x _ => decide (op = bopOf o) && stoB n.N sc (fun _ => true) i y && chk n e sc (fun _ => true) .v x
    | _ => false
  | .oext i e, st => match st with
    | .AugAssign (.Name y _) op x _ => decide (op = .Add) && stoB n.N sc (fun _ => true) i y && chk n e sc (fun _ => true) .v x && fresh n e
    | _ => false
  | .oset i j e, st => match st with
    | .Assign [.Subscript (.Name y _) ix _] x _ => chk n e sc (fun _ => true) .v x && sg e && decide (n.N[i]? = some y) && visB sc y && okN y && chk n j sc (fun _ => true) .v ix && notComp x && pIx ix
    | _ => false
  | .ownd i, st => match st with
    | .Assign [.Name y _] (.Dict [] [] _) _ => stoB n.N sc (fun _ => true) i y
    | _ => false
  | .dset i j e, st => match st with
    | .Assign [.Subscript (.Name y _) ix _] x _ => chk n e sc (fun _ => true) .v x && sg e && decide (n.N[i]? = some y) && visB sc y && okN y && chk n j sc (fun _ => true) .v ix && notComp x
    | _ => false
  | .oagi i j o e, st => match st with
    | .AugAssign (.Subscript (.Name y _) ix _) op x _ => decide (op = bopOf o) && chk n e sc (fun _ => true) .v x && decide (n.N[i]? = some y) && visB sc y && okN y && chk n j sc (fun _ => true) .v ix && pIx ix
    | _ => false
  | .lapp a e, st => match st with
    | .Expr (.Call (.Attribute o m p2) [x] [] p3) _ => decide (m = "append") && chk n a sc (fun _ => true) .v o && chk n e sc (fun _ => true) .v x && sg e && nst x && noCall o && (p2.endLine == p3.line)
    | _ => false
  | .own i e, st => match st with
    | .Assign [.Name y py] x _ => chk n e sc (fun _ => true) .v x && stoB n.N sc (fun _ => true) i y && fresh n e && (cellT sc y x || (swT sc y py x && isLc e))
    | _ => false
  | .app i e, st => match st with
    | .Expr (.Call (.Attribute (.Name y _) m p2) [x] [] p3) _ => decide (m = "append") && decide (n.N[i]? = some y) && visB sc y && okN y && chk n e sc (fun _ => true) .v x && sg e && nst x && (p2.endLine == p3.line)
    | _ => false
  | .popd i, st => match st with
    | .Expr (.Call (.Attribute (.Name y _) m p2) [] [] p3) _ => decide (m = "pop") && decide (n.N[i]? = some y) && visB sc y && okN y && (p2.endLine == p3.line)
    | _ => false
  | .lset a i e, st => match st with
    | .Assign [.Subscript o ix _] x _ => chk n e sc (fun _ => true) .v x && sg e && chk n a sc (fun _ => true) .v o && chk n i sc (fun _ => true) .v ix && notComp x && pIx ix
    | _ => false
  | .expr e, st => match st with
    | .Expr x _ => chk n e sc (fun _ => true) .v x && notComp x
    | _ => false
  | .ret e, st => match st with
    | .Return (some x) _ => chk n e sc (fun _ => true) .v x && (match fr with
      | false => sg e
      | true => fresh n e || (match e with | .ovar _ => true | _ => false))
    | _ => false
  | .retn, st => match st with
    | .Return none _ => !fr
    | _ => false
  | .ite d a b, st => match st with
    | .If t p q _ => chk n d sc (fun _ => true) .t t && chkSs n fr sc a p && chkSs n fr sc b q
    | _ => false
  | .forr t it b _, st => match st with
    | .For tg x body [] _ => chk n it sc (fun _ => true) (.i tg) x && sg it && noSet x && tgB n.N sc (fun _ => true) t tg && chkSs n fr sc b body
    | _ => false
  | .whil d b _, st => match st with
    | .While t body [] _ => chk n d sc (fun _ => true) .t t && chkSs n fr sc b body
    | _ => false
  | .pass, st => match st with
    | .Pass _ => true
    | _ => false
  | .brk, st => match st with
    | .Break _ => true
    | _ => false
  | .cont, st => match st with
    | .Continue _ => true
    | _ => false
  | .frz _, _ => false
  | .raise_, _ => true
  | .rais c fl es, st => match st with
    | .Raise (some (.Call (.Name x _) xs [] _)) none _ => decide (x = nm c) && glB sc x && decide ((c, fl) ∈ n.xcs) && isEs n es sc (fun _ => true) xs && es.all sg && decide (xs.length = fl.length) && fl.all (fun f => decide (f ∈ fldIds))
    | _ => false
  | .try_ b hs, st => match st with
    | .Try body es [] [] _ => chkSs n fr sc b body && chkHd n.N sc (n.xcs.map (·.1)) fr hs es && !es.isEmpty
    | _ => false
def chkSs (n : Nm) (fr : Bool) (sc : Scope) : List S → List Stmt → Bool
  | [], ss => ss.isEmpty
  | s :: r, ss => (isFrz s && chkSs n fr sc r ss) || (match ss with
    | st :: ss' => chkS n fr sc s st && chkSs n fr sc r ss'
    | [] => false)
end
section
variable {c : Ct} {n : Nm} {gl : Nat → Option D} {cl : Nat → List D → Sto → R D} {k : Nat} {sc : Scope} {fr : Bool} {X : Cx}
theorem swap_of {y : Str} {py : Pos} {elt : Expr} {gs : List Comprehension} {scope : Scope} {p : Pos} {l : Nat} (hk : X.env.scope.kind = .function) (hsc : X.env.scope = sc) (h : swT sc y py (.ListComp elt gs scope p) = true) :
    swapsWith (.ListComp elt gs scope p) (some (.Name y py)) l X.env = pure true ∧ X.env.scope.names.lookup y = some .local := by
  have h' : (decide (sc.names.lookup y = some .local) && (py.line == p.line) && !(scope.names.any fun (n, k) => n == y && (k == .local || k == .cell))) = true := h
  simp only [Bool.and_eq_true, decide_eq_true_eq, Bool.not_eq_true'] at h'
  obtain ⟨⟨h1, h2⟩, h3⟩ := h'
  have h1' : X.env.scope.names.lookup y = some .local := by rw [hsc]; exact h1
  exact ⟨sw_true hk h1' h2 h3, h1'⟩
/-- name = [..] on one line -/
theorem lc_set {e : E} {i : Nat} {y : Str} {py pos : Pos} {x : Expr} (ok : XOk c n gl cl k sc (fun _ => true) X) (hk : X.env.scope.kind = .function) (he : isLc e = true) (h : chk n e sc (fun _ => true) .v x = true) (hs : stoB n.N sc (fun _ => true) i y = true) (hw : swT sc y py x = true) :
    PS X (.Assign [.Name y py] x pos) (tAsg (TFn c (denE gl cl e)) (gName i)) := by
  have st := ok.sto hs
  cases e with
  | lc t it d e =>
    unfold chk at h
    rw [Bool.and_eq_true] at h
    obtain ⟨hm, h⟩ := h
    split at h
    · rename_i elt tg itx ifs scope ee
      simp only [Bool.and_eq_true] at h
      obtain ⟨⟨⟨⟨⟨⟨h1, h2⟩, h3⟩, h4⟩, h5⟩, h6⟩, h7⟩ := h
      obtain ⟨pp, rfl⟩ := asLc1_eq ee
      obtain ⟨hb, ho⟩ := blk_of h3
      obtain ⟨hsw, hyl⟩ := swap_of (l := pos.line) hk ok.scp hw
      have hi : PI X tg itx (TIn c false fun γ μ => (denE gl cl it γ μ).bind itemsR) := PI.imp (snd it sc _ (.i tg) itx X h1 ok) fun σ H Q w => by
        obtain ⟨S, γ, μ, g, w⟩ := w
        exact ⟨S, γ, μ, g, w.mono (fun ds μ' q S' J H' g' s wk => q S' J H' g' s (wk.weak g'.st.dm)) fun _ _ _ z => z⟩
      have key := ps_setLc (X := X) (pos := pp) ok.calm ok.nd st.ix hyl hsw hi (by rw [ok.nN, ok.scp]; exact hb) (fun s H C cs fp => (ok.blk s H scope C cs fp).tg h4) (fun s H C cs fp => sndC d _ _ ifs _ h5 (ok.blk s H scope C cs fp))
        (fun s H C cs fp => by have := (snd e _ _ .v elt _ h6 (ok.blk s H scope C cs fp)).1; rw [h7] at this; exact this) (folded h2 _)
      rw [ho] at key
      exact key.imp fun E σ H w => lc_imp w
    · cases h
  | lc2 t it d t2 it2 d2 e =>
    unfold chk at h
    rw [Bool.and_eq_true] at h
    obtain ⟨hm, h⟩ := h
    split at h
    · rename_i elt tg itx ifs tg1 itx1 ifs1 scope ee
      simp only [Bool.and_eq_true] at h
      obtain ⟨⟨⟨⟨⟨⟨⟨h1, h2⟩, h3⟩, h4⟩, h5⟩, h6⟩, h7⟩, ⟨⟨⟨h8, h9⟩, h10⟩, h11⟩, h12⟩ := h
      obtain ⟨pp, rfl⟩ := asLc2_eq ee
      obtain ⟨hb, ho⟩ := blk_of h3
      obtain ⟨hsw, hyl⟩ := swap_of (l := pos.line) hk ok.scp hw
      have hi : PI X tg itx (TIn c false fun γ μ => (denE gl cl it γ μ).bind itemsR) := PI.imp (snd it sc _ (.i tg) itx X h1 ok) fun σ H Q w => by
        obtain ⟨S, γ, μ, g, w⟩ := w
        exact ⟨S, γ, μ, g, w.mono (fun ds μ' q S' J H' g' s wk => q S' J H' g' s (wk.weak g'.st.dm)) fun _ _ _ z => z⟩
      have key := ps_setLc2 (X := X) (pos := pp) (vs1 := t2) ok.calm ok.nd st.ix hyl hsw hi (by rw [ok.nN, ok.scp]; exact hb) (by rw [ho]; exact fun i hi => List.mem_append_right _ hi) (fun s H C cs fp => (ok.blk s H scope C cs fp).tg h4) (fun s H C cs fp => sndC d _ _ ifs _ h5 (ok.blk s H scope C cs fp))
        (fun s H C cs fp => by have := snd it2 _ _ (.i tg1) itx1 _ h8 (ok.blk s H scope C cs fp); unfold Post at this; rw [h10] at this; exact this)
        (fun s H C cs fp => (ok.blk s H scope C cs fp).tg h11) (fun s H C cs fp => sndC d2 _ _ ifs1 _ h12 (ok.blk s H scope C cs fp))
        (fun s H C cs fp => by have := (snd e _ _ .v elt _ h6 (ok.blk s H scope C cs fp)).1; rw [h7] at this; exact this) (folded h2 _) (folded h9)
      rw [ho] at key
      exact key.imp fun E σ H w => lc2_imp w
    · cases h
  | _ => cases he
end
structure SOk (c : Ct) (n : Nm) (gl : Nat → Option D) (cl : Nat → List D → Sto → R D) (k : Nat) (sc : Scope) (X : Cx) : Prop where
  ok : XOk c n gl cl k sc (fun _ => true) X
  hk : X.env.scope.kind = .function
  hp : PassesOwn (model X.prog X.w) X.A X.env X.xe
  hs : X.stack = X.env :: X.outer
  hf : X.env.frame = some X.env.locals
  fn : ∀ y, X.fn y = true
  fx : FactX X.K
  xc : ∀ q ∈ n.xcs, XcOk X q.1 q.2
  r2 : Room 2 X.A
theorem SOk.xs {c : Ct} {n : Nm} {gl : Nat → Option D} {cl : Nat → List D → Sto → R D} {k : Nat} {sc : Scope} {X : Cx} (o : SOk c n gl cl k sc X) : XS c X n.N sc (n.xcs.map (·.1)) where
  hK := o.ok.hK
  nN := o.ok.nN
  scp := o.ok.scp
  fx := o.fx
  mis := o.ok.blt _ mem_isi
  cls := fun k hk => by
    rw [List.mem_map] at hk
    obtain ⟨q, hq, rfl⟩ := hk
    exact ⟨(o.xc q hq).1, (o.xc q hq).2.1⟩
section
variable {n : Nm} {gl : Nat → Option D} {cl : Nat → List D → Sto → R D} {k : Nat} {sc : Scope} {fr : Bool}
mutual
theorem sndS : ∀ (s : S) (c : Ct) (X : Cx) (ok0 : SOk c n gl cl k sc X) (st : Stmt), chkS n fr sc s st = true → PS X st (TSn c fr (denS gl cl s))
  | .asg t e, c, X, ok0, st, h => by
    have ok := ok0.ok
    have hk := ok0.hk
    have hp := ok0.hp
    unfold chkS at h
    split at h
    · rename_i y py x pos
      rw [Bool.and_eq_true] at h
      obtain ⟨h1, h⟩ := h
      split at h
      · rename_i i
        simp only [Bool.and_eq_true, Bool.or_eq_true] at h
        obtain ⟨h2, (h | h) | h⟩ := h
        · have he := (snd e sc _ .v x X h1 ok).1
          rw [h.2] at he
          exact st_asg ok.nd (ok.sto h2) he (by rw [ok.scp]; exact h.1)
        · exact (lc_set ok hk h.2 h1 h2 h.1).imp fun E σ H w => asg1_imp w
        · cases e with
          | sto e' =>
            unfold chk at h1
            simp only [Bool.and_eq_true] at h1
            exact (lc_set ok hk h.2 h1.1.2 h2 h.1).imp fun E σ H w => asgS_imp w
          | _ => cases h.2
      · cases h
    · rename_i es kk pt x pos
      simp only [Bool.and_eq_true, decide_eq_true_eq] at h
      obtain ⟨⟨⟨⟨⟨h1, h2⟩, h3⟩, h4⟩, h5⟩, h6⟩ := h
      have he := (snd e sc _ .v x X h1 ok).1
      rw [h2] at he
      exact st_asgT ok.hK ok.calm ok.nd (ok.tgs h3) h4 he h5 h6
    · cases h
  | .aug i o e, c, X, ok0, st, h => by
    have ok := ok0.ok
    unfold chkS at h
    split at h
    · rename_i y p1 op x pos
      simp only [Bool.and_eq_true, decide_eq_true_eq] at h
      obtain ⟨⟨h1, h2⟩, h3⟩ := h
      subst h1
      exact st_aug ok.nd o (ok.sto h2) (snd e sc _ .v x X h3 ok).1
    · cases h
  | .oext i e, c, X, ok0, st, h => by
    have ok := ok0.ok
    unfold chkS at h
    split at h
    · rename_i y p1 op x pos
      simp only [Bool.and_eq_true, decide_eq_true_eq] at h
      obtain ⟨⟨⟨h1, h2⟩, h3⟩, h4⟩ := h
      subst h1
      exact st_oext ok.nd (ok.sto h2) ((snd e sc _ .v x X h3 ok).2 h4)
    · cases h
  | .oset i j e, c, X, ok0, st, h => by
    have ok := ok0.ok
    unfold chkS at h
    split at h
    · rename_i y p2 ix p1 x pos
      simp only [Bool.and_eq_true, decide_eq_true_eq] at h
      obtain ⟨⟨⟨⟨⟨⟨⟨h1, h2⟩, h3⟩, h4⟩, h5⟩, h6⟩, h7⟩, h8⟩ := h
      have he := (snd e sc _ .v x X h1 ok).1
      rw [h2] at he
      exact st_oset (by rw [ok.nN]; exact h3) (ok.vis h4) (okN_of h5).1 (okN_of h5).2 he (snd j sc _ .v ix X h6 ok).1 h7 h8
    · cases h
  | .ownd i, c, X, ok0, st, h => by
    have ok := ok0.ok
    unfold chkS at h
    split at h
    · exact st_ownd ok.nd (ok.sto h)
    · cases h
  | .dset i j e, c, X, ok0, st, h => by
    have ok := ok0.ok
    unfold chkS at h
    split at h
    · rename_i y p2 ix p1 x pos
      simp only [Bool.and_eq_true, decide_eq_true_eq] at h
      obtain ⟨⟨⟨⟨⟨⟨h1, h2⟩, h3⟩, h4⟩, h5⟩, h6⟩, h7⟩ := h
      have he := (snd e sc _ .v x X h1 ok).1
      rw [h2] at he
      exact st_dset (by have := ok.u65; omega) (by rw [ok.nN]; exact h3) (ok.vis h4) (okN_of h5).1 (okN_of h5).2 he (snd j sc _ .v ix X h6 ok).1 h7
    · cases h
  | .oagi i j o e, c, X, ok0, st, h => by
    have ok := ok0.ok
    unfold chkS at h
    split at h
    · rename_i y p2 ix p1 op x pos
      simp only [Bool.and_eq_true, decide_eq_true_eq] at h
      obtain ⟨⟨⟨⟨⟨⟨h1, h2⟩, h3⟩, h4⟩, h5⟩, h6⟩, h8⟩ := h
      subst h1
      exact st_oagi ok.hK o (by rw [ok.nN]; exact h3) (ok.vis h4) (okN_of h5).1 (okN_of h5).2 (snd j sc _ .v ix X h6 ok).1 (snd e sc _ .v x X h2 ok).1 h8
    · cases h
  | .lapp a e, c, X, ok0, st, h => by
    have ok := ok0.ok
    unfold chkS at h
    split at h
    · rename_i o m p2 x p3 p4
      simp only [Bool.and_eq_true, decide_eq_true_eq] at h
      obtain ⟨⟨⟨⟨⟨⟨h1, h2⟩, h3⟩, h4⟩, h5⟩, h6⟩, h7⟩ := h
      subst h1
      have he := (snd e sc _ .v x X h3 ok).1
      rw [h4] at he
      exact st_lapp (snd a sc _ .v o X h2 ok).1 he h5 h6 h7
    · cases h
  | .own i e, c, X, ok0, st, h => by
    have ok := ok0.ok
    have hk := ok0.hk
    have hp := ok0.hp
    unfold chkS at h
    split at h
    · rename_i y py x pos
      simp only [Bool.and_eq_true, Bool.or_eq_true] at h
      obtain ⟨⟨⟨h1, h2⟩, h3⟩, h | h⟩ := h
      · exact st_own ok.nd (ok.sto h2) ((snd e sc _ .v x X h1 ok).2 h3) (by rw [ok.scp]; exact h)
      · exact (lc_set ok hk h.2 h1 h2 h.1).imp fun E σ H w => own_imp w
    · cases h
  | .app i e, c, X, ok0, st, h => by
    have ok := ok0.ok
    have hk := ok0.hk
    have hp := ok0.hp
    unfold chkS at h
    split at h
    · rename_i y p1 m p2 x p3 p4
      simp only [Bool.and_eq_true, decide_eq_true_eq] at h
      obtain ⟨⟨⟨⟨⟨⟨⟨h1, h2⟩, h3⟩, h4⟩, h5⟩, h6⟩, h7⟩, h8⟩ := h
      subst h1
      have he := (snd e sc _ .v x X h5 ok).1
      rw [h6] at he
      exact st_app ok.hK (by rw [ok.nN]; exact h2) (ok.vis h3) (okN_of h4).1 (okN_of h4).2 he h7 h8
    · cases h
  | .popd i, c, X, ok0, st, h => by
    have ok := ok0.ok
    have hk := ok0.hk
    have hp := ok0.hp
    unfold chkS at h
    split at h
    · rename_i y p1 m p2 p3 p4
      simp only [Bool.and_eq_true, decide_eq_true_eq] at h
      obtain ⟨⟨⟨⟨h1, h2⟩, h3⟩, h4⟩, h5⟩ := h
      subst h1
      exact st_pop ok.hK (by rw [ok.nN]; exact h2) (ok.vis h3) (okN_of h4).1 (okN_of h4).2 h5
    · cases h
  | .lset a i e, c, X, ok0, st, h => by
    have ok := ok0.ok
    have hk := ok0.hk
    have hp := ok0.hp
    unfold chkS at h
    split at h
    · rename_i o ix p1 x pos
      simp only [Bool.and_eq_true] at h
      obtain ⟨⟨⟨⟨⟨h1, h2⟩, h3⟩, h4⟩, h5⟩, h6⟩ := h
      have he := (snd e sc _ .v x X h1 ok).1
      rw [h2] at he
      exact st_lset ok.hK he (snd a sc _ .v o X h3 ok).1 (snd i sc _ .v ix X h4 ok).1 h5 h6
    · cases h
  | .expr e, c, X, ok0, st, h => by
    have ok := ok0.ok
    have hk := ok0.hk
    have hp := ok0.hp
    unfold chkS at h
    split at h
    · rename_i x pos
      rw [Bool.and_eq_true] at h
      exact st_expr (snd e sc _ .v x X h.1 ok).1 h.2
    · cases h
  | .ret e, c, X, ok0, st, h => by
    have ok := ok0.ok
    have hk := ok0.hk
    have hp := ok0.hp
    unfold chkS at h
    split at h
    · rename_i x pos
      rw [Bool.and_eq_true] at h
      obtain ⟨h1, h2⟩ := h
      have ih := snd e sc _ .v x X h1 ok
      cases fr with
      | false =>
        have he := ih.1
        have h2' : sg e = true := h2
        rw [h2'] at he
        exact st_ret he
      | true =>
        rw [Bool.or_eq_true] at h2
        rcases h2 with h2 | h2
        · exact st_retF (ih.2 h2)
        · cases e with
          | ovar i =>
            unfold chk at h1
            rw [Bool.and_eq_true] at h1
            cases ee : asName x with
            | none => rw [ee] at h1; exact absurd h1.2 (by simp)
            | some y =>
              rw [ee] at h1
              simp only [Bool.and_eq_true, decide_eq_true_eq] at h1
              obtain ⟨hm, ⟨g1, g2⟩, g3⟩ := h1
              obtain ⟨p, rfl⟩ := asName_eq ee
              exact st_retO (by rw [ok.nN]; exact g1) (ok.vis g2) (okN_of g3).1 (okN_of g3).2
          | _ => cases h2
    · cases h
  | .retn, c, X, ok0, st, h => by
    have ok := ok0.ok
    have hk := ok0.hk
    have hp := ok0.hp
    unfold chkS at h
    split at h
    · cases fr with
      | false => exact st_retn
      | true => cases h
    · cases h
  | .ite d a b, c, X, ok0, st, h => by
    have ok := ok0.ok
    have hk := ok0.hk
    have hp := ok0.hp
    unfold chkS at h
    split at h
    · rename_i t p q pos
      simp only [Bool.and_eq_true] at h
      obtain ⟨⟨h1, h2⟩, h3⟩ := h
      exact st_ite (snd d sc _ .t t X h1 ok).1 (sndSs a c X ok0 p h2) (sndSs b c X ok0 q h3)
    · cases h
  | .forr t it b kill, c, X, ok0, st, h => by
    have ok := ok0.ok
    have hk := ok0.hk
    have hp := ok0.hp
    unfold chkS at h
    split at h
    · rename_i tg x body pos
      simp only [Bool.and_eq_true] at h
      obtain ⟨⟨⟨⟨h1, h2⟩, h3⟩, h4⟩, h5⟩ := h
      have hi := snd it sc _ (.i tg) x X h1 ok
      unfold Post at hi
      rw [h2] at hi
      exact st_for hp ok.calm hi (ok.tg h4) (sndSs b c X ok0 body h5) h3
    · cases h
  | .whil d b kill, c, X, ok0, st, h => by
    have ok := ok0.ok
    have hk := ok0.hk
    have hp := ok0.hp
    unfold chkS at h
    split at h
    · rename_i t body pos
      simp only [Bool.and_eq_true] at h
      exact st_while hp (snd d sc _ .t t X h.1 ok).1 (sndSs b c X ok0 body h.2)
    · cases h
  | .pass, c, X, ok0, st, h => by
    have ok := ok0.ok
    have hk := ok0.hk
    have hp := ok0.hp
    unfold chkS at h
    split at h
    · exact st_pass
    · cases h
  | .brk, c, X, ok0, st, h => by
    have ok := ok0.ok
    have hk := ok0.hk
    have hp := ok0.hp
    unfold chkS at h
    split at h
    · exact st_brk
    · cases h
  | .cont, c, X, ok0, st, h => by
    have ok := ok0.ok
    have hk := ok0.hk
    have hp := ok0.hp
    unfold chkS at h
    split at h
    · exact st_cont
    · cases h
  | .frz _, c, X, ok0, st, h => by unfold chkS at h; cases h
  | .rais xc fl es, c, X, ok0, st, h => by
    unfold chkS at h
    split at h
    · rename_i x p xs p2 pos
      simp only [Bool.and_eq_true, decide_eq_true_eq, List.all_eq_true] at h
      obtain ⟨⟨⟨⟨⟨⟨h1, h2⟩, h3⟩, h4⟩, h5⟩, h6⟩, h7⟩ := h
      subst h1
      obtain ⟨i1, i2, i3, i4⟩ := sndEs es sc _ xs X h4 ok0.ok
      refine st_rais ok0.ok.hK ok0.ok.calm ok0.ok.tk ok0.r2 (ok0.xc _ h3) (ok0.ok.gl' h2) (i2 (by simpa using h5)) i3 h6 (fun e γ μ => ?_) (fun f hf => h7 f hf)
      have e0 : es = [] := List.length_eq_zero_iff.mp (by rw [← i4, h6, e]; rfl)
      subst e0
      unfold denEs
      rfl
    · cases h
  | .try_ b hs, c, X, ok0, st, h => by
    unfold chkS at h
    split at h
    · rename_i body es pos
      simp only [Bool.and_eq_true, Bool.not_eq_true'] at h
      obtain ⟨⟨h1, h2⟩, h3⟩ := h
      refine st_try ok0.xs ok0.hs ok0.hf ok0.ok.nd ok0.fn ok0.ok.tk (fun W S1 H1 pn xe t1 t2 => ?_) h2 (by intro z; rw [z] at h3; cases h3)
      have o := ok0.ok
      exact sndSs b (VW c W S1 H1) (X.tr pn xe) ⟨⟨o.hK, o.nN, o.nd, o.scp, o.fn, o.calm, o.z0, vw_takes t1, o.room, o.blt, o.gls, o.glx, o.fns⟩, ok0.hk, t2, ok0.hs, ok0.hf, ok0.fn, ok0.fx, ok0.xc, ok0.r2⟩ body h1
    · cases h
  | .raise_, c, X, ok0, st, h => ps_never.imp fun E σ H w => by obtain ⟨S, γ, μ, g, h⟩ := w; exact h
theorem sndSs : ∀ (l : List S) (c : Ct) (X : Cx) (ok0 : SOk c n gl cl k sc X) (ss : List Stmt), chkSs n fr sc l ss = true → PSs X ss (TSn c fr (denSs gl cl l))
  | [], c, X, ok0, ss, h => by
    have ok := ok0.ok
    have hk := ok0.hk
    have hp := ok0.hp
    unfold chkSs at h
    cases ss with
    | nil => exact ss_nil
    | cons _ _ => cases h
  | s :: r, c, X, ok0, ss, h => by
    have ok := ok0.ok
    have hk := ok0.hk
    have hp := ok0.hp
    unfold chkSs at h
    rw [Bool.or_eq_true] at h
    rcases h with h | h
    · rw [Bool.and_eq_true] at h
      have ih := sndSs r c X ok0 ss h.2
      cases s with
      | frz i =>
        refine (pss_fz ih).imp fun E σ H w => ?_
        obtain ⟨S, γ, μ, g, h⟩ := w
        have h : ((denS gl cl (.frz i) γ μ).bind fun fl μ => match fl with | .nx γ' => denSs gl cl r γ' μ | _ => .ok fl μ).All (AftS c fr S H E) c.V := h
        rw [R.All_bind] at h
        have h : (match γ[i]? with | some (.own (.lst xs)) => R.ok (.nx (γ.set i (.val (.lst xs)))) μ | some (.own (.dic kvs)) => R.ok (.nx (γ.set i (.val (.dic kvs)))) μ | _ => .ok (.nx γ) μ : R Fl).All (fun fl μ => (match fl with | .nx γ' => denSs gl cl r γ' μ | _ => .ok fl μ : R Fl).All (AftS c fr S H E) c.V) c.V := h
        split at h
        · rename_i xs e
          obtain ⟨S', g', k'⟩ := g.freeze ok.z0 e
          exact .inl ⟨S', _, μ, g', AftS.steps k' h⟩
        · rename_i kvs e
          obtain ⟨p, u, hp, mu, hf⟩ := g.freezeD ok.z0 e
          refine .inr ⟨p, u, hp, mu, fun od => ?_⟩
          obtain ⟨S', g', k'⟩ := hf od
          exact ⟨S', _, μ, g', AftS.steps k' h⟩
        · exact .inl ⟨S, γ, μ, g, h⟩
      | _ => cases h.1
    · cases ss with
      | nil => cases h
      | cons st ss' =>
        rw [Bool.and_eq_true] at h
        exact ss_cons (sndS s c X ok0 st h.1) (sndSs r c X ok0 ss' h.2)
end
end
/-! ### defs -/
structure Dr where
  I : FnI
  N : List Str
  st : Stmt
  body : List S
def Dr.fn (d : Dr) : Fn := ⟨d.I.ps.length, d.N.length, d.I.fr, d.body⟩
def Dr.ok (fns : List FnI) (gls : List Str) (shs : List Sh) (xcs : List (Nat × List Nat)) (d : Dr) : Bool := chkSs ⟨d.N, fns, gls, shs, xcs⟩ d.I.fr (C8.fnScope d.st) d.body (C8.fnBody d.st) && C8.scC d.N d.I.ps (C8.fnScope d.st)
section
variable {K : PySem.W.Frag} {S S' : Sa} {γ : Ga} {μ μ' : Sto} {σ : L2.St} {H H' : Hp}
theorem Good.out {S1 : Sa} {H1 : Hp} {W : Xc → Ga → Sto → Prop} (ok0 : StoOk K S μ H) (g : Good ⟨K, S, μ, H, W, S1, H1⟩ S' γ μ' σ H') (T : Sa) (hT : ∀ a, T a → S' a ∧ H a = none) : Step S μ H (fun a => S a ∨ Dm μ' a ∨ T a) μ' H' ∧ StoOk K (fun a => S a ∨ Dm μ' a ∨ T a) μ' H' ∧ Kp S' (fun a => S a ∨ Dm μ' a ∨ T a) H' H' := by
  have hsub : ∀ a, (S a ∨ Dm μ' a ∨ T a) → S' a := fun a z => by
    rcases z with z | z | z
    · exact g.s0 a z
    · exact g.st.dm a z
    · exact (hT a z).1
  have k : Kp S' (fun a => S a ∨ Dm μ' a ∨ T a) H' H' := ⟨fun _ _ h _ => h, fun a z => .inl (hsub a z)⟩
  refine ⟨⟨g.ext, fun a h h' => h (g.h0 h'), fun a z => ?_, fun a z => .inl z, g.md, g.fr⟩, ⟨fun p o e => ⟨.inr (.inl (by unfold Dm; rw [e]; exact fun z => nomatch z)), (g.st.st p o e).2.kp k rfl⟩, fun a z => g.st.sd a (hsub a z)⟩, k⟩
  rcases z with z | z | z
  · exact .inl z
  · rcases g.fr a z with y | y
    · exact .inl (ok0.dm a y)
    · exact .inr y
  · exact .inr (hT a z).2
theorem good_start {W : Xc → Ga → Sto → Prop} {N : List Str} {ds : List D} {vs : List V} (ok : StoOk K S μ H) (r : Rels K S H ds vs) (hl : ds.length ≤ N.length) : Good ⟨K, S, μ, H, W, S, H⟩ S (ds.map Sl.val ++ List.replicate (N.length - ds.length) .un) μ (start N vs) H := by
  have hv := r.length
  have case : ∀ (i : Nat) s, (ds.map Sl.val ++ List.replicate (N.length - ds.length) .un)[i]? = some s → (∃ d v, s = .val d ∧ (start N vs)[i]? = some (some v) ∧ Rel K S H d v) ∨ s = .un := by
    intro i s e
    by_cases hi : i < ds.length
    · rw [List.getElem?_append_left (by simpa using hi), List.getElem?_map, List.getElem?_eq_getElem hi] at e
      cases e
      obtain ⟨v, ev, rv⟩ := r.get (List.getElem?_eq_getElem hi)
      refine .inl ⟨_, v, rfl, ?_, rv⟩
      unfold L2.start
      rw [List.getElem?_append_left (by rw [List.length_map, hv]; exact hi), List.getElem?_map, ev]
      rfl
    · rw [List.getElem?_append_right (by simpa using hi), List.getElem?_replicate] at e
      split at e <;> cases e
      exact .inr rfl
  refine ⟨?_, fun i s e => ?_, fun i j o o' p e1 e2 _ _ => ?_, ok, fun _ h => h, fun _ _ h _ => h, fun _ h => .inl h, fun _ h => h, KpT.refl⟩
  · unfold L2.start
    rw [List.length_append, List.length_append, List.length_map, List.length_map, List.length_replicate, List.length_replicate, hv]
  · rcases case i s e with ⟨d, v, rfl, e1, r1⟩ | rfl
    · exact ⟨v, e1, r1⟩
    · trivial
  · rcases case i _ e1 with ⟨d, v, z, _⟩ | z <;> cases z
end
/-- every def, to every depth -/
def FD (K : PySem.W.Frag) (d : Dr) (a : Addr) (fd : FuncData) : Prop := FunD K d.I.name d.I.name (C8.fnArgs d.st) (C8.fnBody d.st) (C8.fnScope d.st) [] [] a fd
/-- a call of this shape binds -/
def ShOk (d : Dr) (sh : Sh) : Prop := (∀ (kV doc pm : Value) (an : Option Addr) (cdv ct : Value) (us ws : List Value), us.length = sh.na → ws.length = sh.ks.length → bindArgs (PySem.W.fnOf d.I.name d.I.name (C8.fnArgs d.st) (C8.fnBody d.st) (C8.fnScope d.st) .none kV doc pm an cdv ct) ⟨us, sh.ks.zip ws⟩ = pure (d.I.ps.zip (arr sh.pm (us ++ ws)))) ∧
  ∀ xs : List D, xs.length = sh.na + sh.ks.length → (arr sh.pm xs).length = d.I.ps.length
theorem FD.binds {K : PySem.W.Frag} {d : Dr} {a : Addr} {fd : FuncData} {sh : Sh} (F : FD K d a fd) (h : ShOk d sh) (s : Shared) (us ws : List Value) (h1 : us.length = sh.na) (h2 : ws.length = sh.ks.length) : BindsTo s fd ⟨us, sh.ks.zip ws⟩ (d.I.ps.zip (arr sh.pm (us ++ ws))) := by
  obtain ⟨oc, od, dV, kV, doc, pm, an, cdv, ct, osl, rfl, lk, hcd, hD, hK⟩ := F.ex
  rcases hD with ⟨_, rfl⟩ | ⟨e, _⟩
  · exact .of_eq (h.1 kV doc pm an cdv ct us ws h1 h2)
  · exact absurd rfl e
theorem FD.fn {K : PySem.W.Frag} {d : Dr} {a : Addr} {fd : FuncData} (F : FD K d a fd) : C8.Fun K d.I.name d.I.name d.st a fd := by
  obtain ⟨oc, od, dV, kV, doc, pm, an, cdv, ct, osl, e, lk, hcd, hD, hK⟩ := F.ex
  exact ⟨oc, od, dV, kV, doc, pm, an, cdv, ct, osl, e, lk, hcd⟩
theorem all_ok {P : Program} {w : World} {K : PySem.W.Frag} {mg : Str → Option Value} {base : Heap} {ds : List Dr} {gls : List Str} {shs : List Sh} {xcs : List (Nat × List Nat)} {gl : Nat → Option D}
    (hchk : ds.all (Dr.ok (ds.map (·.I)) gls shs xcs) = true) (hfx : FactX K) (hxc : ∀ X : Cx, X.prog = P → X.w = w → X.K = K → X.mg = mg → X.base = base → ∀ q ∈ xcs, XcOk X q.1 q.2)
    (hblt : ∀ x, x ∈ bltL → mg x = none)
    (hgls : ∀ (g : Nat) x, gls[g]? = some x → ∃ d u v, gl g = some d ∧ mg x = some u ∧ RelV v u ∧ ∀ S H, Rel K S H d v)
    (hdef : ∀ (f : Nat) d, ds[f]? = some d → ∃ a fd, FD K d a fd ∧ mg d.I.name = some (.ref a))
    (hsh : ∀ sh ∈ shs, ∀ d, ds[sh.f]? = some d → ShOk d sh) :
    ∀ (k f : Nat) (d : Dr), ds[f]? = some d → ∀ a fd, FD K d a fd → FnOk P w K mg base (L2.CX P w) (k + 2) a fd d.I.ps (spF K (call gl (ds.map Dr.fn) k f) d.I.ps.length d.I.fr) := by
  intro k
  induction k with
  | zero =>
    intro f d hd a fd hD
    refine ⟨fun vs H Q E h => h.1, fun A outer s H args us vs Q E _ _ _ _ h => ?_⟩
    obtain ⟨_, S, μ, xs, _, _, h⟩ := h
    exact h.elim
  | succ k ih =>
    intro f d hd a fd hD
    have hmem : d ∈ ds := List.mem_of_getElem? hd
    have hok := List.all_eq_true.mp hchk d hmem
    unfold Dr.ok at hok
    rw [Bool.and_eq_true] at hok
    obtain ⟨hc, hs⟩ := hok
    have hsc := C8.fnScope_by hs
    obtain ⟨oc, od, dV, kV, doc, pm, an, cdv, ct, osl, rfl, lk, hcd⟩ := hD.fn.ex
    refine fn_of lk hcd hsc (fun vs H Q E h => h.1) fun A outer s H vs Q E hr h => ?_
    obtain ⟨hl, S, μ, xs, ok0, rx, h⟩ := h
    have hpl : d.I.ps.length ≤ d.N.length := by
      have := hsc.pre
      rw [← this, List.length_take]; exact Nat.min_le_right _ _
    have hxl : xs.length = d.I.ps.length := by rw [← rx.length]; exact hl
    let c : Ct := ⟨K, S, μ, H, fun x γ' μ' => ∀ S' σ' H' cls dd, Good ⟨K, S, μ, H, fun _ _ _ => True, S, H⟩ S' γ' μ' σ' H' → XRel K S' H' x cls dd → E cls dd H', S, H⟩
    have X : XOk c ⟨d.N, ds.map (·.I), gls, shs, xcs⟩ gl (call gl (ds.map Dr.fn) k) (k + 2) (C8.fnScope d.st) (fun _ => true) (cxOf (L2.CX P w) P w K mg base d.N d.I.name (C8.fnScope d.st) a cdv A outer s H E) := by
      refine ⟨rfl, rfl, hsc.nd, rfl, fun _ _ => rfl, rfl, ok0.sd, (takes_of (E := E) (X := cxOf (L2.CX P w) P w K mg base d.N d.I.name (C8.fnScope d.st) a cdv A outer s H E) rfl rfl rfl rfl).imp (fun cls dd σ H' z => by
        obtain ⟨S', γ', μ', x, g', xr, v⟩ := z
        exact v S' σ H' cls dd g'.wv xr), hr, hblt, fun g x e h1 h2 => ?_, fun g x h1 => ?_, fun f' I h1 => ?_⟩
      · obtain ⟨d', u, v, e1, e2, e3, e4⟩ := hgls g x h1
        rw [e1] at h2; cases h2
        exact ⟨u, v, e2, e3, e4⟩
      · obtain ⟨d', u, v, e1, _⟩ := hgls g x h1
        exact ⟨d', e1⟩
      · have h1 : (ds.map (·.I))[f']? = some I := h1
        rw [List.getElem?_map] at h1
        cases e : ds[f']? with
        | none => rw [e] at h1; cases h1
        | some d' =>
          rw [e] at h1; cases h1
          obtain ⟨a', fd', hD', hm'⟩ := hdef f' d' e
          refine ⟨a', fd', hm', hD'.kp, ih f' d' e a' fd' hD', fun sh hs he => ?_⟩
          subst he
          have so := hsh sh hs d' e
          exact ⟨fun s us ws _ h1 h2 => hD'.binds so s us ws h1 h2, so.2⟩
    refine ⟨TSn c d.I.fr (denSs gl (call gl (ds.map Dr.fn) k) d.body), sndSs d.body c _ ⟨X, hsc.kind, passes_of rfl, rfl, rfl, fun _ => rfl, hfx, hxc _ rfl rfl rfl rfl rfl, hr.mono (by omega)⟩ _ hc, S, initG d.fn xs, μ, ?_, ?_⟩
    · exact good_start ok0 rx (by rw [hxl]; exact hpl)
    · have hf : (ds.map Dr.fn)[f]? = some d.fn := by rw [List.getElem?_map, hd]; rfl
      have h : (match (ds.map Dr.fn)[f]? with | some F => if xs.length = F.np then (xSs gl (call gl (ds.map Dr.fn) k) F.body (initG F xs) μ).bind (outF F.fr) else .fail | none => .fail : R D).All (postF K d.I.fr S μ H Q) (postX K S μ H E) := h
      rw [hf] at h
      have h : (if xs.length = d.fn.np then (xSs gl (call gl (ds.map Dr.fn) k) d.fn.body (initG d.fn xs) μ).bind (outF d.fn.fr) else .fail : R D).All (postF K d.I.fr S μ H Q) (postX K S μ H E) := h
      rw [if_pos (show xs.length = d.fn.np from hxl), R.All_bind, xSs] at h
      refine h.mono (fun fl μ' h => ?_) fun x γ' μ' w S' σ' H' cls dd g' xr => by
        obtain ⟨s1, o1, k1⟩ := Good.out ok0 g' (fun _ => False) fun _ z => z.elim
        exact w _ H' cls dd s1 o1 (xr.kp k1)
      cases fl with
      | nx γ' =>
        intro S' σ' H' g' _
        have h : (if d.I.fr = true then R.fail else R.ok D.non μ').All (postF K d.I.fr S μ H Q) (postX K S μ H E) := h
        cases hfr : d.I.fr with
        | true => rw [hfr] at h; exact h.elim
        | false =>
          rw [hfr] at h
          obtain ⟨s1, o1, _⟩ := Good.out ok0 g' (fun _ => False) fun _ z => z.elim
          exact h _ .non H' s1 o1 rfl
      | bk γ' => exact h.elim
      | ct γ' => exact h.elim
      | rt e =>
        intro v H' hr
        obtain ⟨S', γ', σ', g', hr⟩ := hr
        cases hfr : d.I.fr with
        | false =>
          rw [hfr] at h hr
          obtain ⟨s1, o1, k1⟩ := Good.out ok0 g' (fun _ => False) fun _ z => z.elim
          exact h _ v H' s1 o1 (Rel.kp k1 e v hr)
        | true =>
          rw [hfr] at h hr
          obtain ⟨ys, p, ws, rfl, rfl, sp, h0, mp, ep, rr⟩ := hr
          obtain ⟨s1, o1, k1⟩ := Good.out ok0 g' (fun a => a = p) fun a z => by subst z; exact ⟨sp, h0⟩
          exact h _ p ws H' ys rfl s1 o1 h0 (.inr (.inr rfl)) mp ep (rr.kp k1)
theorem rels_ints {K : PySem.W.Frag} {S : Sa} {H : Hp} : ∀ ns : List Int, Rels K S H (ns.map D.int) (ns.map V.int)
  | [] => rfl
  | n :: ns => ⟨.int n, ns.map V.int, rfl, rfl, rels_ints ns⟩
/-- the law's end: from what its call answers -/
theorem sp_law {K : PySem.W.Frag} {H : Hp} {a : Addr} {ns : List Int} {cl : List D → Sto → R D} (hS : SqL K H a (ns.map V.int)) (h : (cl [.lst (ns.map D.int)] (fun _ => none)).All (fun d _ => d = .bl true) Wf) : spF K cl 1 false [.ref a] H (fun v _ => v = .bl true) fun _ _ _ => False := by
  refine ⟨rfl, fun _ => False, fun _ => none, [.lst (ns.map D.int)], ⟨fun p o e => absurd e (by simp), fun _ z => False.elim z⟩, ⟨.ref a, [], rfl, ⟨a, ns.map V.int, rfl, ?_, ?_⟩, rfl⟩, h.mono (fun d μ e S' v H' _ _ r => ?_) fun _ _ _ w => w.elim⟩
  · rcases hS with hS | hS
    · exact .inl ⟨hS, fun z => z⟩
    · exact .inr hS
  · exact rels_ints ns
  · subst e
    exact r
end Bs
/-! Bs: what is read off the text's top: errors' classes. -/
namespace Bs
open PySem L2 PySem.Spec PyProof.Rows
abbrev AlB : Type := He.AlD × Bool
def obsB (n : Nat) (fa : List He.Fa) (fn : List He.DefD) (ex : PySem.W.Frag → Bool) (g : Addr → Option Obj) : AlB := (He.obsD fa fn (He.frG g (He.asD g n)), ex (He.frG g (He.asD g n)))
def hookB (n : Nat) (fa : List He.Fa) (fn : List He.DefD) (ex : PySem.W.Frag → Bool) : PySem.W.Hook where
  α := AlB
  obs := fun s => obsB n fa fn ex s.heap.get?
  val := fun _ => (He.valD fn, true)
  says := fun _ h => ∃ K : PySem.W.Frag, K.In h ∧ He.SaysD fa fn K ∧ ex K = true
  of := fun _ _ e => ⟨_, He.frG_in, congrArg Prod.fst e, congrArg Prod.snd e⟩
  keeps := fun _ _ _ ⟨K, hK, c⟩ k => ⟨K, PySem.W.Frag.In.keeps hK k, c⟩
theorem obsB_eq {n : Nat} {fa : List He.Fa} {fn : List He.DefD} {ex : PySem.W.Frag → Bool} {g : Addr → Option Obj} {s : Shared} (h : ∀ a, g a = s.heap.get? a) : obsB n fa fn ex g = (hookB n fa fn ex).obs s := by
  have e : g = s.heap.get? := funext h
  rw [e] <;> rfl
def defB (K : PySem.W.Frag) (c : Nat) : Bool := decide (c < 30) && decide (PySem.W.nsIn K mainGlobals (nm c) = some (some (.ref (He.ga K (nm c)))))
theorem defB_ok {K : PySem.W.Frag} {c : Nat} : defB K c = true ↔ XDef K c := by unfold defB XDef; simp
def xfB (K : PySem.W.Frag) (C : Addr) : Bool := decide (PySem.W.findIn K (.ref C) "__getattribute__" = some (some (.builtin "BaseException.__getattribute__"))) && decide (PySem.W.findIn K (.ref C) "__getattr__" = some none) &&
  decide (PySem.W.subIn K (.ref C) (.type "BaseException") = some true) && PySem.W.hasDictIn K C && decide (PySem.W.findIn K (.ref C) "__class__" = some (some (.builtin "object.__class__"))) &&
  decide (PySem.W.specialIn K (.builtin "object.__class__") "__get__" = some (some (.builtin "getset_descriptor.__get__"))) && decide (PySem.W.takesIn K (.builtin "object.__class__") = some true) && decide (PySem.W.mroIn K C (.type "object") = some true) && (PySem.W.clsIn K C).isSome
theorem xfB_ok {K : PySem.W.Frag} {C : Addr} (h : xfB K C = true) : XfK K C := by
  unfold xfB at h
  simp only [Bool.and_eq_true, decide_eq_true_eq] at h
  obtain ⟨⟨⟨⟨⟨⟨⟨⟨h1, h2⟩, h3⟩, h4⟩, h5⟩, h6⟩, h7⟩, h8⟩, h9⟩ := h
  exact ⟨h1, h2, h3, h4, h5, h6, h7, h8, h9⟩
def pairB (K : PySem.W.Frag) (c c' : Nat) : Bool := decide (PySem.W.exmOne K (.ref (He.ga K (nm c))) (.ref (He.ga K (nm c'))) = some (subX c c')) && decide (PySem.W.kitOne K (.ref (He.ga K (nm c))) (.ref (He.ga K (nm c'))) = some (subX c c'))
def factB (K : PySem.W.Frag) : Bool :=
  let ds := (List.range 30).filter (defB K)
  ds.all fun c => xfB K (He.ga K (nm c)) && fldIds.all (fun f => decide (PySem.W.findIn K (.ref (He.ga K (nm c))) (nm f) = some none)) && ds.all (pairB K c)
theorem factB_ok {K : PySem.W.Frag} (h : factB K = true) : FactX K := by
  unfold factB at h
  simp only [List.all_eq_true, Bool.and_eq_true, decide_eq_true_eq] at h
  have mem : ∀ c, XDef K c → c ∈ (List.range 30).filter (defB K) := fun c hc => List.mem_filter.mpr ⟨List.mem_range.mpr hc.1, defB_ok.mpr hc⟩
  have pr : ∀ c c', XDef K c → XDef K c' → _ ∧ _ := fun c c' hc hc' => by
    have := (h c (mem c hc)).2 c' (mem c' hc')
    unfold pairB at this
    simpa only [Bool.and_eq_true, decide_eq_true_eq] using this
  exact ⟨fun c hc => xfB_ok (h c (mem c hc)).1.1, fun c hc f hf => (h c (mem c hc)).1.2 f hf, fun c c' hc hc' => (pr c c' hc hc').1, fun c c' hc hc' => (pr c c' hc hc').2⟩
mutual
/-- a constant of the top -/
def conB (K : PySem.W.Frag) : D → Value → Bool
  | .int i, u => match u with
    | .int j _ => decide (i = j)
    | _ => false
  | .str s, u => match u with
    | .str z _ => decide (z = ⟨s.toArray⟩) && s.all (fun c => decide (c < 128)) && decide (s.length ≤ 1000000)
    | _ => false
  | .tup xs, u => match u with
    | .ref a => match K.lookup a with
      | some o => decide (o.cls = .type "tuple") && o.dict.isNone && (match o.data with
        | .seq its _ => decide (its.size ≤ sizeLine) && conBs K xs its.toList
        | _ => false)
      | none => false
    | _ => false
  | _, _ => false
def conBs (K : PySem.W.Frag) : List D → List Value → Bool
  | [], us => us.isEmpty
  | d :: r, us => match us with
    | u :: us => conB K d u && conBs K r us
    | [] => false
end
mutual
theorem conB_ok {K : PySem.W.Frag} : ∀ (d : D) (u : Value), conB K d u = true → ∃ v, RelV v u ∧ ∀ S H, Rel K S H d v
  | .int i, u, h => by
    unfold conB at h
    split at h
    · cases of_decide_eq_true h; exact ⟨.int i, ⟨_, rfl⟩, fun _ _ => rfl⟩
    · cases h
  | .str s, u, h => by
    unfold conB at h
    split at h
    · simp only [Bool.and_eq_true, decide_eq_true_eq, List.all_eq_true] at h
      obtain ⟨⟨rfl, h2⟩, h3⟩ := h
      exact ⟨.str _, ⟨_, rfl⟩, fun _ _ => ⟨rfl, h3, h2⟩⟩
    · cases h
  | .tup xs, u, h => by
    unfold conB at h
    split at h
    · rename_i a
      split at h
      · rename_i o ho
        simp only [Bool.and_eq_true, decide_eq_true_eq] at h
        obtain ⟨⟨h1, h2⟩, h3⟩ := h
        split at h3
        · rename_i its n hd
          simp only [Bool.and_eq_true, decide_eq_true_eq] at h3
          obtain ⟨vs, r1, r2⟩ := conBs_ok xs its.toList h3.2
          exact ⟨.ref a, rfl, fun S H => ⟨a, vs, rfl, .inr ⟨o, its, n, ho, h1, hd, h3.1, r1, Option.isNone_iff_eq_none.mp h2⟩, r2 S H⟩⟩
        · cases h3
      · cases h
    · cases h
  | .non, _, h => by unfold conB at h; cases h
  | .bl _, _, h => by unfold conB at h; cases h
  | .lst _, _, h => by unfold conB at h; cases h
  | .dic _, _, h => by unfold conB at h; cases h
  | .obj _ _, _, h => by unfold conB at h; cases h
  | .loc _, _, h => by unfold conB at h; cases h
theorem conBs_ok {K : PySem.W.Frag} : ∀ (ds : List D) (us : List Value), conBs K ds us = true → ∃ vs, Vals vs us ∧ ∀ S H, Rels K S H ds vs
  | [], us, h => by
    unfold conBs at h
    cases us with
    | nil => exact ⟨[], .nil, fun _ _ => rfl⟩
    | cons _ _ => cases h
  | d :: r, us, h => by
    unfold conBs at h
    cases us with
    | nil => cases h
    | cons u us =>
      simp only [Bool.and_eq_true] at h
      obtain ⟨v, r1, r2⟩ := conB_ok d u h.1
      obtain ⟨vs, r3, r4⟩ := conBs_ok r us h.2
      exact ⟨v :: vs, .cons r1 r3, fun S H => ⟨v, vs, rfl, r2 S H, r4 S H⟩⟩
end
/-- a class that may be raised -/
def xcB (K : PySem.W.Frag) (q : Nat × List Nat) : Bool :=
  let C := He.ga K (nm q.1)
  defB K q.1 && decide (PySem.W.subIn K (.ref C) (.type "BaseException") = some true) && decide (PySem.W.typeIn K (.ref C) = some (.type "type")) && PySem.W.keepIn K (.ref C) &&
  (if q.2.isEmpty then PySem.W.excIn K C exT "Exception.__new__" else
    PySem.W.excInitIn K C exT "Exception.__new__" && PySem.W.excOver K C exT && decide (PySem.W.findIn K (.ref C) "__setattr__" = some (some (.builtin "object.__setattr__"))) && PySem.W.hasDictIn K C &&
    decide (PySem.W.findIn K (.ref C) "__init__" = some (some (.ref (He.ma K C "__init__")))) && decide (PySem.W.typeIn K (.ref (He.ma K C "__init__")) = some (.type "function")) && q.2.all fun f => decide (PySem.W.takerIn K C (nm f) = some none))
structure XcF (K : PySem.W.Frag) (q : Nat × List Nat) : Prop where
  df : XDef K q.1
  ex : PySem.W.subIn K (.ref (He.ga K (nm q.1))) (.type "BaseException") = some true
  ty : PySem.W.typeIn K (.ref (He.ga K (nm q.1))) = some (.type "type")
  kp : PySem.W.keepIn K (.ref (He.ga K (nm q.1))) = true
  no : q.2 = [] → PySem.W.excIn K (He.ga K (nm q.1)) exT "Exception.__new__" = true
  in_ : q.2 ≠ [] → XcK K (He.ga K (nm q.1)) ∧ PySem.W.findIn K (.ref (He.ga K (nm q.1))) "__init__" = some (some (.ref (He.ma K (He.ga K (nm q.1)) "__init__"))) ∧ PySem.W.typeIn K (.ref (He.ma K (He.ga K (nm q.1)) "__init__")) = some (.type "function") ∧ ∀ f ∈ q.2, PySem.W.takerIn K (He.ga K (nm q.1)) (nm f) = some none
theorem xcB_ok {K : PySem.W.Frag} {q : Nat × List Nat} (h : xcB K q = true) : XcF K q := by
  unfold xcB at h
  simp only [Bool.and_eq_true, decide_eq_true_eq] at h
  obtain ⟨⟨⟨⟨h1, h2⟩, h3⟩, h4⟩, h5⟩ := h
  refine ⟨defB_ok.mp h1, h2, h3, h4, fun e => ?_, fun e => ?_⟩
  · rw [e] at h5
    exact h5
  · have ne : q.2.isEmpty = false := by
      cases z : q.2 with
      | nil => exact absurd z e
      | cons _ _ => rfl
    rw [ne] at h5
    simp only [Bool.false_eq_true, if_false, Bool.and_eq_true, decide_eq_true_eq, List.all_eq_true] at h5
    obtain ⟨⟨⟨⟨⟨⟨g1, g2⟩, g3⟩, g4⟩, g5⟩, g6⟩, g7⟩ := h5
    exact ⟨⟨g1, g2, g3, g4, h2, h3, h4⟩, g5, g6, g7⟩
def iniSh (st : Stmt) : List Nat → Prop
  | [f] => ∃ s1, C8.fnBody st = [s1] ∧ isSt "self" (nm f) (nm f) s1 = true
  | [f, h] => ∃ s1 s2, C8.fnBody st = [s1, s2] ∧ isSt "self" (nm f) (nm f) s1 = true ∧ isSt "self" (nm h) (nm h) s2 = true
  | _ => False
/-- its def, of one or two fields -/
structure IniD (K : PySem.W.Frag) (c : Nat) (fl : List Nat) (st : Stmt) : Prop where
  fn : ∃ q fd, FunD K "__init__" q (C8.fnArgs st) (C8.fnBody st) (C8.fnScope st) [] [] (He.ma K (He.ga K (nm c)) "__init__") fd
  sc : FnScope ("self" :: fl.map nm) ("self" :: fl.map nm) (C8.fnScope st)
  bd : ∀ (q : Str) (kV doc pm : Value) (an : Option Addr) (cdv ct : Value) (us : List Value), us.length = fl.length + 1 → bindArgs (PySem.W.fnOf "__init__" q (C8.fnArgs st) (C8.fnBody st) (C8.fnScope st) .none kV doc pm an cdv ct) ⟨us, []⟩ = pure ((("self" : Str) :: fl.map nm).zip us)
  sh : iniSh st fl
theorem fld_nm : ∀ f ∈ fldIds, (nm f == ("__debug__" : Str)) = false ∧ (nm f == ("__classdict__" : Str)) = false := by decide +kernel
theorem err_nm : ∀ c, c < 30 → (nm c == ("__debug__" : Str)) = false := by decide +kernel
theorem xc_none {X : Cx} {K : PySem.W.Frag} (hK : X.K = K) {c : Nat} (h : XcF K (c, [])) (hm : X.mg (nm c) = some (.ref (He.ga K (nm c)))) : XcOk X c [] := by
  subst hK
  exact ⟨h.df, hm, err_nm c h.df.1, h.ex, h.ty, h.kp, h.no rfl⟩
theorem xc_ini {X : Cx} {K : PySem.W.Frag} (hK : X.K = K) {c : Nat} {fl : List Nat} {st : Stmt} (h : XcF K (c, fl)) (hm : X.mg (nm c) = some (.ref (He.ga K (nm c)))) (d : IniD K c fl st) (hid : ∀ f ∈ fl, f ∈ fldIds) : XcOk X c fl := by
  subst hK
  obtain ⟨⟨q, fd, F⟩, sc, bd, sh⟩ := d
  have hb : Binds X.K fd ("self" :: fl.map nm) [] := by
    obtain ⟨oc, od, dV, kV, doc, pm, an, cdv, ct, osl, rfl, lk, hcd, hD, hKk⟩ := F.ex
    rcases hD with ⟨_, rfl⟩ | ⟨e, _⟩
    · exact .all fun us hl => bd q kV doc pm an cdv ct us (by simpa using hl)
    · exact absurd rfl e
  have hF : C8.Fun X.K "__init__" q st (He.ma X.K (He.ga X.K (nm c)) "__init__") fd := by
    obtain ⟨oc, od, dV, kV, doc, pm, an, cdv, ct, osl, e, lk, hcd, hD, hKk⟩ := F.ex
    exact ⟨oc, od, dV, kV, doc, pm, an, cdv, ct, osl, e, lk, hcd⟩
  clear F bd
  match fl, h, sh, sc, hb, hid with
  | [f], h, sh, sc, hb, hid =>
    obtain ⟨T, i1, i2, i3⟩ := h.in_ (by simp)
    refine ⟨h.df, hm, err_nm c h.df.1, h.ex, h.ty, h.kp, T, _, fd, i1, i2, init1 T ⟨i3 f List.mem_cons_self, (fld_nm f (hid f List.mem_cons_self)).1, (fld_nm f (hid f List.mem_cons_self)).2⟩ hF sc sh, hb⟩
  | [f, g], h, sh, sc, hb, hid =>
    obtain ⟨T, i1, i2, i3⟩ := h.in_ (by simp)
    have hg : g ∈ [f, g] := List.mem_cons_of_mem _ List.mem_cons_self
    refine ⟨h.df, hm, err_nm c h.df.1, h.ex, h.ty, h.kp, T, _, fd, i1, i2, init2 T ⟨i3 f List.mem_cons_self, (fld_nm f (hid f List.mem_cons_self)).1, (fld_nm f (hid f List.mem_cons_self)).2⟩ ⟨i3 g hg, (fld_nm g (hid g hg)).1, (fld_nm g (hid g hg)).2⟩ hF sc sh, hb⟩
  | [], _, sh, _, _, _ => exact sh.elim
  | _ :: _ :: _ :: _, _, sh, _, _, _ => exact sh.elim
/-- a def from which nothing is let out -/
theorem _root_.L2.FnOk.drop {P : Program} {w : World} {K : PySem.W.Frag} {mg : Str → Option Value} {base : Heap} {k : Nat} {f : Addr} {fd : FuncData} {ps : List Str} {sp : Sp} (F : FnOk P w K mg base (L2.CX P w) k f fd ps sp) : FnOk P w K mg base C8.CX0 k f fd ps (fun vs H Q _ => sp vs H Q fun _ _ _ => False) :=
  ⟨fun vs H Q E z => F.len vs H Q _ z, fun A outer s H args us vs Q E hr he hb hv z => codeAny_mono (F.run A outer s H args us vs Q _ hr he hb hv z) fun r s' q => by
    cases r with
    | error e =>
      obtain ⟨_, _, _, _, _, _, _, _, _, _, _, _, y⟩ := (show L2.CX P w outer H s (fun _ _ _ => False) e s' from q)
      exact y.elim
    | ok fl => cases fl <;> exact q⟩
end Bs
/-! Bs: plain evaluation of the compact trees. -/
namespace Bs
@[simp] theorem bind_ok {α β : Type} (a : α) (μ : Sto) (f : α → Sto → R β) : (R.ok a μ).bind f = f a μ := Eq.trans rfl rfl
@[simp] theorem bind_fail {α β : Type} (f : α → Sto → R β) : (R.fail : R α).bind f = .fail := Eq.trans rfl rfl
@[simp] theorem bind_exc {α β : Type} (x : Xc) (γ : Ga) (μ : Sto) (f : α → Sto → R β) : (R.exc x γ μ : R α).bind f = .exc x γ μ := Eq.trans rfl rfl
@[simp] theorem nox_ok {α : Type} (a : α) (μ : Sto) : (R.ok a μ).nox = .ok a μ := Eq.trans rfl rfl
@[simp] theorem catch_ok {α : Type} (f : Xc → Ga → Sto → R α) (a : α) (μ : Sto) : (R.ok a μ).catch f = .ok a μ := Eq.trans rfl rfl
@[simp] theorem catch_exc {α : Type} (f : Xc → Ga → Sto → R α) (x : Xc) (γ : Ga) (μ : Sto) : (R.exc x γ μ : R α).catch f = f x γ μ := Eq.trans rfl rfl
@[simp] theorem ofO_s (d : D) (μ : Sto) : ofO (some d) μ = .ok d μ := Eq.trans rfl rfl
@[simp] theorem orO_some (d : D) (o : Option D) (μ : Sto) : orO (some d) o μ = .ok d μ := Eq.trans rfl rfl
@[simp] theorem orO_none (o : Option D) (μ : Sto) : orO none o μ = ofO o μ := Eq.trans rfl rfl
@[simp] theorem ofO_none (μ : Sto) : ofO none μ = .fail := Eq.trans rfl rfl
@[simp] theorem dr_non (μ : Sto) : dr μ .non = .non := Eq.trans rfl rfl
@[simp] theorem dr_bl (μ : Sto) (b : Bool) : dr μ (.bl b) = .bl b := Eq.trans rfl rfl
@[simp] theorem dr_int (μ : Sto) (i : Int) : dr μ (.int i) = .int i := Eq.trans rfl rfl
@[simp] theorem dr_str (μ : Sto) (s : List Nat) : dr μ (.str s) = .str s := Eq.trans rfl rfl
@[simp] theorem dr_tup (μ : Sto) (xs : List D) : dr μ (.tup xs) = .tup xs := Eq.trans rfl rfl
@[simp] theorem dr_lst (μ : Sto) (xs : List D) : dr μ (.lst xs) = .lst xs := Eq.trans rfl rfl
@[simp] theorem dr_dic (μ : Sto) (xs : List (D × D)) : dr μ (.dic xs) = .dic xs := Eq.trans rfl rfl
theorem dr_loc {μ : Sto} {p : Nat} {xs : List D} (h : μ p = some (.lst xs)) : dr μ (.loc p) = .lst xs := by simp [dr, h]
theorem isL_loc {μ : Sto} {p : Nat} {xs : List D} (h : μ p = some (.lst xs)) : isL μ (.loc p) = true := by simp [isL, h]
@[simp] theorem v_stoR (xs : List D) (μ : Sto) : stoR (.lst xs) μ = .any (fun p => μ p = none) fun p => .ok (.loc p) (μ.put p (.lst xs)) := Eq.trans rfl rfl
@[simp] theorem back_ok {α : Type} (a : α) (μ : Sto) (γ : Ga) : (R.ok a μ).back γ = .ok a μ := Eq.trans rfl rfl
@[simp] theorem back_exc {α : Type} (x : Xc) (γ γ' : Ga) (μ : Sto) : (R.exc x γ' μ : R α).back γ = .exc x γ μ := Eq.trans rfl rfl
@[simp] theorem put_same (μ : Sto) (p : Nat) (o : Ob) : (μ.put p o) p = some o := by simp [Sto.put]
@[simp] theorem put_put (μ : Sto) (p : Nat) (o o' : Ob) : (μ.put p o).put p o' = μ.put p o' := by
  funext q; by_cases h : q = p <;> simp [Sto.put, h]
/-- a turn of a for -/
def turn (gl : Nat → Option D) (cl : Nat → List D → Sto → R D) (t : List Nat) (b : List S) : D → Ga → Sto → R Fl := fun y γ μ => match setT γ t y with
  | some γ' => xSs gl cl b γ' μ
  | none => .fail
/-- a turn of a comprehension -/
def turnC (gl : Nat → Option D) (cl : Nat → List D → Sto → R D) (γ : Ga) (t : List Nat) (c : Option E) (e : E) : D → List D → Sto → R (List D) := fun y acc μ => setTR (wipeG γ t) t y fun γ' => (xC gl cl c γ' μ).bind fun b μ => if b then (xE gl cl e γ' μ).bind fun z μ => addL acc z μ else .ok acc μ
def turnC2 (gl : Nat → Option D) (cl : Nat → List D → Sto → R D) (γ : Ga) (t : List Nat) (c : Option E) (t2 : List Nat) (it2 : E) (c2 : Option E) (e : E) : D → List D → Sto → R (List D) := fun y acc μ => setTR (wipeG γ (t ++ t2)) t y fun γ' => (xC gl cl c γ' μ).bind fun b μ => if b then ((xE gl cl it2 γ' μ).bind itemsR).bind fun xs2 μ =>
      lcL (turnC gl cl γ' t2 c2 e) xs2 acc μ else .ok acc μ
theorem turn_eq (gl : Nat → Option D) (cl : Nat → List D → Sto → R D) (t : List Nat) (b : List S) : turn gl cl t b = fun y γ μ => match setT γ t y with
  | some γ' => denSs gl cl b γ' μ
  | none => .fail := by
  funext y γ μ
  simp only [turn, xSs]
theorem turnC_eq (gl : Nat → Option D) (cl : Nat → List D → Sto → R D) (γ : Ga) (t : List Nat) (c : Option E) (e : E) : turnC gl cl γ t c e = fun y acc μ => setTR (wipeG γ t) t y fun γ' => (denC gl cl c γ' μ).bind fun b μ => if b then (denE gl cl e γ' μ).bind fun z μ => addL acc z μ else .ok acc μ := by
  funext y acc μ
  simp only [turnC, xC, xE]
theorem turnC2_eq (gl : Nat → Option D) (cl : Nat → List D → Sto → R D) (γ : Ga) (t : List Nat) (c : Option E) (t2 : List Nat) (it2 : E) (c2 : Option E) (e : E) : turnC2 gl cl γ t c t2 it2 c2 e = fun y acc μ => setTR (wipeG γ (t ++ t2)) t y fun γ' => (denC gl cl c γ' μ).bind fun b μ => if b then ((denE gl cl it2 γ' μ).bind itemsR).bind fun xs2 μ =>
      lcL (fun y2 acc μ => setTR (wipeG γ' t2) t2 y2 fun γ2 => (denC gl cl c2 γ2 μ).bind fun b μ => if b then (denE gl cl e γ2 μ).bind fun z μ => addL acc z μ else .ok acc μ) xs2 acc μ else .ok acc μ := by
  funext y acc μ
  simp only [turnC2, turnC_eq, xC, xE]
section
variable (gl : Nat → Option D) (cl : Nat → List D → Sto → R D) (γ : Ga) (μ : Sto)
@[simp] theorem v_var (i : Nat) : xE gl cl (.var i) γ μ = match γ[i]? with | some (.val d) => .ok d μ | _ => .fail := by
  simp only [xE, xEs, xO, xC, xPs, xS, xSs, turn_eq, turnC_eq, turnC2_eq, cond]; try rfl
@[simp] theorem v_ovar (i : Nat) : xE gl cl (.ovar i) γ μ = match γ[i]? with | some (.own (.lst xs)) => .ok (.lst xs) μ | _ => .fail := by
  simp only [xE, xEs, xO, xC, xPs, xS, xSs, turn_eq, turnC_eq, turnC2_eq, cond]; try rfl
@[simp] theorem v_con (d : D) : xE gl cl (.con d) γ μ = .ok d μ := by
  simp only [xE, xEs, xO, xC, xPs, xS, xSs, turn_eq, turnC_eq, turnC2_eq, cond]; try rfl
@[simp] theorem v_glb (g : Nat) : xE gl cl (.glb g) γ μ = ofO (gl g) μ := by
  simp only [xE, xEs, xO, xC, xPs, xS, xSs, turn_eq, turnC_eq, turnC2_eq, cond]; try rfl
@[simp] theorem v_bin (o : Bop) (a b : E) : xE gl cl (.bin o a b) γ μ = (xE gl cl a γ μ).bind fun x μ => (xE gl cl b γ μ).bind fun y μ => orO (binop o x y) (binop o (dr μ x) (dr μ y)) μ := by
  simp only [xE, xEs, xO, xC, xPs, xS, xSs, turn_eq, turnC_eq, turnC2_eq, cond]; try rfl
@[simp] theorem v_lop (o : Bop) (a b : E) : xE gl cl (.lop o a b) γ μ = (xE gl cl a γ μ).bind fun x μ => (xE gl cl b γ μ).bind fun y μ => orO (lopD o x y) (lopD o (dr μ x) (dr μ y)) μ := by
  simp only [xE, xEs, xO, xC, xPs, xS, xSs, turn_eq, turnC_eq, turnC2_eq, cond]; try rfl
@[simp] theorem v_sto (e : E) : xE gl cl (.sto e) γ μ = (xE gl cl e γ μ).bind stoR := by
  simp only [xE, xEs, xO, xC, xPs, xS, xSs, turn_eq, turnC_eq, turnC2_eq, cond]; try rfl
@[simp] theorem v_popl (a i : E) : xE gl cl (.popl a i) γ μ = (xE gl cl a γ μ).bind fun x μ => if isL μ x then (xE gl cl i γ μ).bind fun y μ => popR x y μ else .fail := by
  simp only [xE, xEs, xO, xC, xPs, xS, xSs, turn_eq, turnC_eq, turnC2_eq, cond]; try rfl
@[simp] theorem v_pop0 (a : E) : xE gl cl (.pop0 a) γ μ = (xE gl cl a γ μ).bind fun x μ => popR x (.int (-1)) μ := by
  simp only [xE, xEs, xO, xC, xPs, xS, xSs, turn_eq, turnC_eq, turnC2_eq, cond]; try rfl
@[simp] theorem v_neg (a : E) : xE gl cl (.neg a) γ μ = (xE gl cl a γ μ).bind fun x μ => match x with | .int i => .ok (.int (-i)) μ | _ => .fail := by
  simp only [xE, xEs, xO, xC, xPs, xS, xSs, turn_eq, turnC_eq, turnC2_eq, cond]; try rfl
@[simp] theorem v_cmp (o : Cm) (a b : E) : xE gl cl (.cmp o a b) γ μ = (xE gl cl a γ μ).bind fun x μ => (xE gl cl b γ μ).bind fun y μ => orO (compare o x y) (compare o (dr μ x) (dr μ y)) μ := by
  simp only [xE, xEs, xO, xC, xPs, xS, xSs, turn_eq, turnC_eq, turnC2_eq, cond]; try rfl
@[simp] theorem v_chn (o o' : Cm) (a b c : E) : xE gl cl (.chn o o' a b c) γ μ = (xE gl cl a γ μ).bind fun x μ => (xE gl cl b γ μ).bind fun y μ => match compare o x y with
    | some (.bl true) => (xE gl cl c γ μ).bind fun z μ => ofO (compare o' y z) μ
    | some (.bl false) => .ok (.bl false) μ
    | _ => .fail := by
  simp only [xE, xEs, xO, xC, xPs, xS, xSs, turn_eq, turnC_eq, turnC2_eq, cond]; try rfl
@[simp] theorem v_not (a : E) : xE gl cl (.not a) γ μ = (xE gl cl a γ μ).bind fun x μ => (truthR x μ).bind fun b μ => .ok (.bl !b) μ := by
  simp only [xE, xEs, xO, xC, xPs, xS, xSs, turn_eq, turnC_eq, turnC2_eq, cond]; try rfl
@[simp] theorem v_and (a b : E) : xE gl cl (.and a b) γ μ = (xE gl cl a γ μ).bind fun x μ => (truthR x μ).bind fun t μ => if t then xE gl cl b γ μ else .ok x μ := by
  simp only [xE, xEs, xO, xC, xPs, xS, xSs, turn_eq, turnC_eq, turnC2_eq, cond]; try rfl
@[simp] theorem v_or (a b : E) : xE gl cl (.or a b) γ μ = (xE gl cl a γ μ).bind fun x μ => (truthR x μ).bind fun t μ => if t then .ok x μ else xE gl cl b γ μ := by
  simp only [xE, xEs, xO, xC, xPs, xS, xSs, turn_eq, turnC_eq, turnC2_eq, cond]; try rfl
@[simp] theorem v_ite (c a b : E) : xE gl cl (.ite c a b) γ μ = (xE gl cl c γ μ).bind fun x μ => (truthR x μ).bind fun t μ => if t then xE gl cl a γ μ else xE gl cl b γ μ := by
  simp only [xE, xEs, xO, xC, xPs, xS, xSs, turn_eq, turnC_eq, turnC2_eq, cond]; try rfl
@[simp] theorem v_tup (es : List E) : xE gl cl (.tup es) γ μ = (xEs gl cl es γ μ).bind fun xs μ => .ok (.tup xs) μ := by
  simp only [xE, xEs, xO, xC, xPs, xS, xSs, turn_eq, turnC_eq, turnC2_eq, cond]; try rfl
@[simp] theorem v_lst (es : List E) : xE gl cl (.lst es) γ μ = (xEs gl cl es γ μ).bind fun xs μ => .ok (.lst xs) μ := by
  simp only [xE, xEs, xO, xC, xPs, xS, xSs, turn_eq, turnC_eq, turnC2_eq, cond]; try rfl
@[simp] theorem v_new (es : List E) : xE gl cl (.new es) γ μ = (xEs gl cl es γ μ).bind fun xs μ => .any (fun p => μ p = none) fun p => .ok (.loc p) (μ.put p (.lst xs)) := by
  simp only [xE, xEs, xO, xC, xPs, xS, xSs, turn_eq, turnC_eq, turnC2_eq, cond]; try rfl
@[simp] theorem v_dsp1 (k v : E) : xE gl cl (.dsp1 k v) γ μ = (xE gl cl k γ μ).bind fun x μ => (xE gl cl v γ μ).bind fun y μ => match keyD x with | some _ => .ok (.dic [(x, y)]) μ | none => .fail := by
  simp only [xE, xEs, xO, xC, xPs, xS, xSs, turn_eq, turnC_eq, turnC2_eq, cond]; try rfl
@[simp] theorem v_dsp (kvs : List (E × E)) : xE gl cl (.dsp kvs) γ μ = (xPs gl cl kvs γ μ).bind dspR := by
  simp only [xE, xEs, xO, xC, xPs, xS, xSs, turn_eq, turnC_eq, turnC2_eq, cond]; try rfl
@[simp] theorem v_ps0 : xPs gl cl [] γ μ = .ok [] μ := by
  simp only [xE, xEs, xO, xC, xPs, xS, xSs, turn_eq, turnC_eq, turnC2_eq, cond]; try rfl
@[simp] theorem v_ps1 (a b : E) (r : List (E × E)) : xPs gl cl ((a, b) :: r) γ μ = ((xE gl cl a γ μ).bind fun x μ => (xE gl cl b γ μ).bind fun y μ => .ok (x, y) μ).bind fun p μ => (xPs gl cl r γ μ).bind fun ps μ => .ok (p :: ps) μ := by
  simp only [xE, xEs, xO, xC, xPs, xS, xSs, turn_eq, turnC_eq, turnC2_eq, cond]; try rfl
@[simp] theorem v_ix (a i : E) : xE gl cl (.ix a i) γ μ = (xE gl cl a γ μ).bind fun x μ => (xE gl cl i γ μ).bind fun y μ => ixR x y μ := by
  simp only [xE, xEs, xO, xC, xPs, xS, xSs, turn_eq, turnC_eq, turnC2_eq, cond]; try rfl
@[simp] theorem v_sl (a : E) (lo hi : Option E) : xE gl cl (.sl a lo hi) γ μ = (xE gl cl a γ μ).bind fun x μ => (xO gl cl lo γ μ).bind fun l μ => (xO gl cl hi γ μ).bind fun h μ => orO (slice x l h) (slice (dr μ x) l h) μ := by
  simp only [xE, xEs, xO, xC, xPs, xS, xSs, turn_eq, turnC_eq, turnC2_eq, cond]; try rfl
@[simp] theorem v_call (f : Nat) (es ks : List E) (pm : List Nat) : xE gl cl (.call f es ks pm) γ μ = (xEs gl cl es γ μ).bind fun xs μ => (xEs gl cl ks γ μ).bind fun ys μ => (cl f (arr pm (xs ++ ys)) μ).back γ := by
  simp only [xE, xEs, xO, xC, xPs, xS, xSs, turn_eq, turnC_eq, turnC2_eq, cond]; try rfl
@[simp] theorem v_bi (b : Bi) (es : List E) : xE gl cl (.bi b es) γ μ = (xEs gl cl es γ μ).bind fun xs μ => orO (builtin b xs) (builtin b (xs.map (dr μ))) μ := by
  simp only [xE, xEs, xO, xC, xPs, xS, xSs, turn_eq, turnC_eq, turnC2_eq, cond]; try rfl
@[simp] theorem v_rng3 (a b c : E) : xE gl cl (.rng3 a b c) γ μ = (xE gl cl a γ μ).bind fun x μ => (xE gl cl b γ μ).bind fun y μ => (xE gl cl c γ μ).bind fun z μ => ofO (rangeD [x, y, z]) μ := by
  unfold xE; rfl
@[simp] theorem v_sset (a : E) : xE gl cl (.sset a) γ μ = (xE gl cl a γ μ).bind fun x μ => orO (ssetD x) (ssetD (dr μ x)) μ := by
  unfold xE; rfl
@[simp] theorem v_dsp0 : xE gl cl .dsp0 γ μ = .ok (.dic []) μ := by
  unfold xE; rfl
@[simp] theorem v_tidx (g : Nat) (e : E) : xE gl cl (.tidx g e) γ μ = if isTupO (gl g) then (xE gl cl e γ μ).bind fun y μ => ofO (tidxD (gl g) y) μ else .fail := by
  unfold xE; rfl
@[simp] theorem v_rvl (a : E) : xE gl cl (.rvl a) γ μ = (xE gl cl a γ μ).bind fun x μ => orO (rvlD x) (rvlD (dr μ x)) μ := by
  unfold xE; rfl
@[simp] theorem v_kys (a : E) : xE gl cl (.kys a) γ μ = (xE gl cl a γ μ).bind keysR := by
  unfold xE; rfl
@[simp] theorem v_dcp (a : E) : xE gl cl (.dcp a) γ μ = (xE gl cl a γ μ).bind dcpR := by
  unfold xE; rfl
@[simp] theorem v_mrg (a k v : E) : xE gl cl (.mrg a k v) γ μ = (xE gl cl a γ μ).bind fun x μ => (xE gl cl k γ μ).bind fun y μ => (xE gl cl v γ μ).bind fun z μ => mrgR x y z μ := by
  unfold xE; rfl
@[simp] theorem v_odic (i : Nat) : xE gl cl (.odic i) γ μ = match γ[i]? with | some (.own (.dic kvs)) => .ok (.dic kvs) μ | _ => .fail := by
  unfold xE; rfl
@[simp] theorem v_keysR (kvs : List (D × D)) : keysR (.dic kvs) μ = .ok (.lst (kvs.map (·.1))) μ := Eq.trans rfl rfl
@[simp] theorem v_dcpR (kvs : List (D × D)) : dcpR (.dic kvs) μ = .ok (.dic kvs) μ := Eq.trans rfl rfl
@[simp] theorem v_rvlD (xs : List D) : rvlD (.lst xs) = some (.lst xs.reverse) := Eq.trans rfl rfl
@[simp] theorem v_rev (a : E) : xE gl cl (.rev a) γ μ = (xE gl cl a γ μ).bind fun x μ => ofO (revD x) μ := by
  unfold xE; rfl
@[simp] theorem v_mt (m : Mt) (a e : E) : xE gl cl (.mt m a e) γ μ = (xE gl cl a γ μ).bind fun x μ => if isStr x then (xE gl cl e γ μ).bind fun y μ => ofO (mt1 m x y) μ else .fail := by
  simp only [xE, xEs, xO, xC, xPs, xS, xSs, turn_eq, turnC_eq, turnC2_eq, cond]; try rfl
@[simp] theorem v_isi (a : E) (ts : List Ty) : xE gl cl (.isi a ts) γ μ = (xE gl cl a γ μ).bind fun x μ => orO ((isTys x ts).map .bl) ((isTys (dr μ x) ts).map .bl) μ := by
  simp only [xE, xEs, xO, xC, xPs, xS, xSs, turn_eq, turnC_eq, turnC2_eq, cond]; try rfl
@[simp] theorem v_rng1 (a : E) : xE gl cl (.rng1 a) γ μ = (xE gl cl a γ μ).bind fun x μ => ofO (rangeD [x]) μ := by
  simp only [xE, xEs, xO, xC, xPs, xS, xSs, turn_eq, turnC_eq, turnC2_eq, cond]; try rfl
@[simp] theorem v_rng2 (a b : E) : xE gl cl (.rng2 a b) γ μ = (xE gl cl a γ μ).bind fun x μ => (xE gl cl b γ μ).bind fun y μ => ofO (rangeD [x, y]) μ := by
  simp only [xE, xEs, xO, xC, xPs, xS, xSs, turn_eq, turnC_eq, turnC2_eq, cond]; try rfl
@[simp] theorem v_enu (a : E) : xE gl cl (.enu a) γ μ = (xE gl cl a γ μ).bind fun x μ => ofO ((items x).map fun xs => .lst (enumL 0 xs)) μ := by
  simp only [xE, xEs, xO, xC, xPs, xS, xSs, turn_eq, turnC_eq, turnC2_eq, cond]; try rfl
@[simp] theorem v_zip (a b : E) : xE gl cl (.zip a b) γ μ = (xE gl cl a γ μ).bind fun x μ => (xE gl cl b γ μ).bind fun y μ => match items x, items y with
    | some xs, some ys => .ok (.lst (zipL xs ys)) μ
    | _, _ => .fail := by
  simp only [xE, xEs, xO, xC, xPs, xS, xSs, turn_eq, turnC_eq, turnC2_eq, cond]; try rfl
@[simp] theorem v_lc (t : List Nat) (it : E) (c : Option E) (e : E) : xE gl cl (.lc t it c e) γ μ = ((xE gl cl it γ μ).bind itemsR).bind fun xs μ => (lcL (turnC gl cl γ t c e) xs [] μ).nox.bind fun zs μ => .ok (.lst zs) μ := by
  simp only [xE, xEs, xO, xC, xPs, xS, xSs, turn_eq, turnC_eq, turnC2_eq, cond]; try rfl
@[simp] theorem v_lc2 (t : List Nat) (it : E) (c : Option E) (t2 : List Nat) (it2 : E) (c2 : Option E) (e : E) : xE gl cl (.lc2 t it c t2 it2 c2 e) γ μ = ((xE gl cl it γ μ).bind itemsR).bind fun xs μ => (lcL (turnC2 gl cl γ t c t2 it2 c2 e) xs [] μ).nox.bind fun zs μ => .ok (.lst zs) μ := by
  simp only [xE, xEs, xO, xC, xPs, xS, xSs, turn_eq, turnC_eq, turnC2_eq, cond]; try rfl
@[simp] theorem v_o0 : xO gl cl none γ μ = .ok none μ := by
  simp only [xE, xEs, xO, xC, xPs, xS, xSs, turn_eq, turnC_eq, turnC2_eq, cond]; try rfl
@[simp] theorem v_o1 (e : E) : xO gl cl (some e) γ μ = (xE gl cl e γ μ).bind intR := by
  simp only [xE, xEs, xO, xC, xPs, xS, xSs, turn_eq, turnC_eq, turnC2_eq, cond]; try rfl
@[simp] theorem v_c0 : xC gl cl none γ μ = .ok true μ := by
  simp only [xE, xEs, xO, xC, xPs, xS, xSs, turn_eq, turnC_eq, turnC2_eq, cond]; try rfl
@[simp] theorem v_c1 (e : E) : xC gl cl (some e) γ μ = (xE gl cl e γ μ).bind fun x μ => truthR x μ := by
  simp only [xE, xEs, xO, xC, xPs, xS, xSs, turn_eq, turnC_eq, turnC2_eq, cond]; try rfl
@[simp] theorem v_es0 : xEs gl cl [] γ μ = .ok [] μ := by
  simp only [xE, xEs, xO, xC, xPs, xS, xSs, turn_eq, turnC_eq, turnC2_eq, cond]; try rfl
@[simp] theorem v_es1 (e : E) (es : List E) : xEs gl cl (e :: es) γ μ = (xE gl cl e γ μ).bind fun x μ => (xEs gl cl es γ μ).bind fun xs μ => .ok (x :: xs) μ := by
  simp only [xE, xEs, xO, xC, xPs, xS, xSs, turn_eq, turnC_eq, turnC2_eq, cond]; try rfl
def cond (c : E) (γ : Ga) (μ : Sto) : R Bool := (xE gl cl c γ μ).bind fun x μ => truthR x μ
@[simp] theorem v_cond (c : E) : cond gl cl c γ μ = (xE gl cl c γ μ).bind fun x μ => truthR x μ := Eq.trans rfl rfl
@[simp] theorem v_asg (t : List Nat) (e : E) : xS gl cl (.asg t e) γ μ = (xE gl cl e γ μ).bind fun x μ => match setT γ t x with | some γ' => .ok (.nx γ') μ | none => .fail := by
  simp only [xE, xEs, xO, xC, xPs, xS, xSs, turn_eq, turnC_eq, turnC2_eq, cond]; try rfl
@[simp] theorem v_own (i : Nat) (e : E) : xS gl cl (.own i e) γ μ = (xE gl cl e γ μ).bind fun x μ => match x with | .lst xs => .ok (.nx (γ.set i (.own (.lst xs)))) μ | _ => .fail := by
  simp only [xE, xEs, xO, xC, xPs, xS, xSs, turn_eq, turnC_eq, turnC2_eq, cond]; try rfl
@[simp] theorem v_app (i : Nat) (e : E) : xS gl cl (.app i e) γ μ = match γ[i]? with
    | some (.own (.lst xs)) => (xE gl cl e γ μ).bind fun x μ => if xs.length < 1000000 then .ok (.nx (γ.set i (.own (.lst (xs ++ [x]))))) μ else .fail
    | _ => .fail := by
  simp only [xE, xEs, xO, xC, xPs, xS, xSs, turn_eq, turnC_eq, turnC2_eq, cond]; try rfl
@[simp] theorem v_popd (i : Nat) : xS gl cl (.popd i) γ μ = match γ[i]? with
    | some (.own (.lst xs)) => if xs.isEmpty then .fail else .ok (.nx (γ.set i (.own (.lst xs.dropLast)))) μ
    | _ => .fail := by
  simp only [xE, xEs, xO, xC, xPs, xS, xSs, turn_eq, turnC_eq, turnC2_eq, cond]; try rfl
@[simp] theorem v_lset (a i e : E) : xS gl cl (.lset a i e) γ μ = (xE gl cl e γ μ).bind fun x μ => (xE gl cl a γ μ).bind fun o μ => (xE gl cl i γ μ).bind fun j μ => match o, j with
    | .loc p, .int j => match μ p with
      | some (.lst xs) => match L2.ixN xs.length j with
        | some n => .ok (.nx γ) (μ.put p (.lst (xs.set n x)))
        | none => .fail
      | _ => .fail
    | _, _ => .fail := by
  simp only [xE, xEs, xO, xC, xPs, xS, xSs, turn_eq, turnC_eq, turnC2_eq, cond]; try rfl
@[simp] theorem v_aug (i : Nat) (o : Bop) (e : E) : xS gl cl (.aug i o e) γ μ = match γ[i]? with
    | some (.val x) => (xE gl cl e γ μ).bind fun y μ => match augB o x y with
      | some z => .ok (.nx (γ.set i (.val z))) μ
      | none => .fail
    | _ => .fail := by
  simp only [xE, xEs, xO, xC, xPs, xS, xSs, turn_eq, turnC_eq, turnC2_eq, cond]; try rfl
@[simp] theorem v_lapp (a e : E) : xS gl cl (.lapp a e) γ μ = (xE gl cl a γ μ).bind fun o μ => if isL μ o then (xE gl cl e γ μ).bind fun x μ => match o with
      | .loc p => match μ p with
        | some (.lst xs) => if xs.length < 1000000 then .ok (.nx γ) (μ.put p (.lst (xs ++ [x]))) else .fail
        | _ => .fail
      | _ => .fail
    else .fail := by
  simp only [xE, xEs, xO, xC, xPs, xS, xSs, turn_eq, turnC_eq, turnC2_eq, cond]; try rfl
@[simp] theorem v_oset (i : Nat) (j e : E) : xS gl cl (.oset i j e) γ μ = match γ[i]? with
    | some (.own (.lst xs)) => (xE gl cl e γ μ).bind fun x μ => (xE gl cl j γ μ).bind fun y μ => osetR γ i xs x y μ
    | _ => .fail := by
  simp only [xE, xEs, xO, xC, xPs, xS, xSs, turn_eq, turnC_eq, turnC2_eq, cond]; try rfl
@[simp] theorem v_oagi (i : Nat) (j : E) (o : Bop) (e : E) : xS gl cl (.oagi i j o e) γ μ = match γ[i]? with
    | some (.own (.lst xs)) => (xE gl cl j γ μ).bind fun y μ => match ixD xs y with
      | some (n, w) => (xE gl cl e γ μ).bind fun x μ => match augB o w x with
        | some z => .ok (.nx (γ.set i (.own (.lst (xs.set n z))))) μ
        | none => .fail
      | none => .fail
    | _ => .fail := by
  simp only [xE, xEs, xO, xC, xPs, xS, xSs, turn_eq, turnC_eq, turnC2_eq, cond]; try rfl
@[simp] theorem v_oext (i : Nat) (e : E) : xS gl cl (.oext i e) γ μ = match γ[i]? with
    | some (.own (.lst xs)) => (xE gl cl e γ μ).bind fun x μ => match x with
      | .lst ys => if xs.length + ys.length ≤ 1000000 then .ok (.nx (γ.set i (.own (.lst (xs ++ ys))))) μ else .fail
      | _ => .fail
    | _ => .fail := by
  simp only [xE, xEs, xO, xC, xPs, xS, xSs, turn_eq, turnC_eq, turnC2_eq, cond]; try rfl
@[simp] theorem v_expr (e : E) : xS gl cl (.expr e) γ μ = (xE gl cl e γ μ).bind fun _ μ => .ok (.nx γ) μ := by
  simp only [xE, xEs, xO, xC, xPs, xS, xSs, turn_eq, turnC_eq, turnC2_eq, cond]; try rfl
@[simp] theorem v_ret (e : E) : xS gl cl (.ret e) γ μ = (xE gl cl e γ μ).bind fun x μ => .ok (.rt x) μ := by
  simp only [xE, xEs, xO, xC, xPs, xS, xSs, turn_eq, turnC_eq, turnC2_eq, cond]; try rfl
@[simp] theorem v_retn : xS gl cl .retn γ μ = .ok (.rt .non) μ := by
  simp only [xE, xEs, xO, xC, xPs, xS, xSs, turn_eq, turnC_eq, turnC2_eq, cond]; try rfl
@[simp] theorem v_if (c : E) (a b : List S) : xS gl cl (.ite c a b) γ μ = (cond gl cl c γ μ).bind fun t μ => if t then xSs gl cl a γ μ else xSs gl cl b γ μ := by
  simp only [xE, xEs, xO, xC, xPs, xS, xSs, turn_eq, turnC_eq, turnC2_eq, cond]; try rfl
@[simp] theorem v_for (t : List Nat) (it : E) (b : List S) (kill : List Nat) : xS gl cl (.forr t it b kill) γ μ = ((xE gl cl it γ μ).bind itemsR).bind fun xs μ => forL (turn gl cl t b) kill xs γ μ := by
  simp only [xE, xEs, xO, xC, xPs, xS, xSs, turn_eq, turnC_eq, turnC2_eq, cond]; try rfl
@[simp] theorem v_pass : xS gl cl .pass γ μ = .ok (.nx γ) μ := by
  simp only [xE, xEs, xO, xC, xPs, xS, xSs, turn_eq, turnC_eq, turnC2_eq, cond]; try rfl
@[simp] theorem v_brk : xS gl cl .brk γ μ = .ok (.bk γ) μ := by
  simp only [xE, xEs, xO, xC, xPs, xS, xSs, turn_eq, turnC_eq, turnC2_eq, cond]; try rfl
@[simp] theorem v_cont : xS gl cl .cont γ μ = .ok (.ct γ) μ := by
  simp only [xE, xEs, xO, xC, xPs, xS, xSs, turn_eq, turnC_eq, turnC2_eq, cond]; try rfl
@[simp] theorem v_frz (i : Nat) : xS gl cl (.frz i) γ μ = match γ[i]? with
    | some (.own (.lst xs)) => .ok (.nx (γ.set i (.val (.lst xs)))) μ
    | some (.own (.dic kvs)) => .ok (.nx (γ.set i (.val (.dic kvs)))) μ
    | _ => .ok (.nx γ) μ := by
  simp only [xE, xEs, xO, xC, xPs, xS, xSs, turn_eq, turnC_eq, turnC2_eq, cond]; try rfl
@[simp] theorem v_ownd (i : Nat) : xS gl cl (.ownd i) γ μ = .ok (.nx (γ.set i (.own (.dic [])))) μ := by
  unfold xS; rfl
@[simp] theorem v_dset (i : Nat) (j e : E) : xS gl cl (.dset i j e) γ μ = match γ[i]? with
    | some (.own (.dic kvs)) => (xE gl cl e γ μ).bind fun x μ => (xE gl cl j γ μ).bind fun y μ => match keyD y with
      | some _ => if kvs.length < 1000000 then .ok (.nx (γ.set i (.own (.dic (putD kvs y x))))) μ else .fail
      | none => .fail
    | _ => .fail := by
  simp only [xE, xEs, xO, xC, xPs, xS, xSs, turn_eq, turnC_eq, turnC2_eq, cond]; try rfl
@[simp] theorem v_raise : xS gl cl .raise_ γ μ = .fail := by
  simp only [xE, xEs, xO, xC, xPs, xS, xSs, turn_eq, turnC_eq, turnC2_eq, cond]; try rfl
@[simp] theorem v_rais (c : Nat) (fl : List Nat) (es : List E) : xS gl cl (.rais c fl es) γ μ = (xEs gl cl es γ μ).bind fun ds μ => if ds.length = fl.length then .exc ⟨c, (fl.zip ds).reverse⟩ γ μ else .fail := by
  simp only [xE, xEs, xO, xC, xPs, xS, xSs, turn_eq, turnC_eq, turnC2_eq, cond]; try rfl
@[simp] theorem v_try (b : List S) (hs : List Hd) : xS gl cl (.try_ b hs) γ μ = (xSs gl cl b γ μ).catch fun x γ' μ' => hdl x γ' μ' hs := by
  simp only [xE, xEs, xO, xC, xPs, xS, xSs, turn_eq, turnC_eq, turnC2_eq, cond]; try rfl
@[simp] theorem v_ss0 : xSs gl cl [] γ μ = .ok (.nx γ) μ := by
  simp only [xE, xEs, xO, xC, xPs, xS, xSs, turn_eq, turnC_eq, turnC2_eq, cond]; try rfl
@[simp] theorem v_ss1 (s : S) (r : List S) : xSs gl cl (s :: r) γ μ = (xS gl cl s γ μ).bind fun fl μ => match fl with | .nx γ' => xSs gl cl r γ' μ | _ => .ok fl μ := by
  simp only [xE, xEs, xO, xC, xPs, xS, xSs, turn_eq, turnC_eq, turnC2_eq, cond]; try rfl
end
@[simp] theorem v_out0 (γ : Ga) (μ : Sto) : outF false (.nx γ) μ = .ok .non μ := Eq.trans rfl rfl
@[simp] theorem v_out1 (fr : Bool) (d : D) (μ : Sto) : outF fr (.rt d) μ = .ok d μ := Eq.trans rfl rfl
@[simp] theorem v_setT (γ : Ga) (i : Nat) (d : D) : setT γ [i] d = some (γ.set i (.val d)) := Eq.trans rfl rfl
@[simp] theorem v_setT2 (γ : Ga) (i j : Nat) (d e : D) : setT γ [i, j] (.tup [d, e]) = some ((γ.set i (.val d)).set j (.val e)) := Eq.trans rfl rfl
@[simp] theorem v_tbl (b : Bool) (μ : Sto) : truthR (.bl b) μ = .ok b μ := Eq.trans rfl rfl
@[simp] theorem v_tint (i : Int) (μ : Sto) : truthR (.int i) μ = .ok (i != 0) μ := Eq.trans rfl rfl
@[simp] theorem v_tlst (xs : List D) (μ : Sto) : truthR (.lst xs) μ = .ok (!xs.isEmpty) μ := Eq.trans rfl rfl
@[simp] theorem v_il (xs : List D) (μ : Sto) : itemsR (.lst xs) μ = .ok xs μ := Eq.trans rfl rfl
@[simp] theorem v_is (s : List Nat) (μ : Sto) : itemsR (.str s) μ = .ok (chars s) μ := Eq.trans rfl rfl
@[simp] theorem v_i1 (xs : List D) : items (.lst xs) = some xs := Eq.trans rfl rfl
@[simp] theorem v_i2 (s : List Nat) : items (.str s) = some (chars s) := Eq.trans rfl rfl
@[simp] theorem v_wipe0 (γ : Ga) : wipeG γ [] = γ := Eq.trans rfl rfl
@[simp] theorem v_wipe1 (γ : Ga) (i : Nat) (r : List Nat) : wipeG γ (i :: r) = (wipeG γ r).set i .un := Eq.trans rfl rfl
@[simp] theorem v_eqss (a b : List Nat) : compare .eq (.str a) (.str b) = some (.bl (decide (a = b))) := by
  simp [compare, eqD, plain, eqB, Bool.beq_eq_decide_eq]
@[simp] theorem v_ness (a b : List Nat) : compare .ne (.str a) (.str b) = some (.bl (!decide (a = b))) := by
  simp [compare, eqD, plain, eqB, Bool.beq_eq_decide_eq]
@[simp] theorem v_eqii (a b : Int) : compare .eq (.int a) (.int b) = some (.bl (decide (a = b))) := by
  simp [compare, eqD, plain, eqB, Bool.beq_eq_decide_eq]
@[simp] theorem v_neii (a b : Int) : compare .ne (.int a) (.int b) = some (.bl (!decide (a = b))) := by
  simp [compare, eqD, plain, eqB, Bool.beq_eq_decide_eq]
@[simp] theorem v_eqbb (a b : Bool) : compare .eq (.bl a) (.bl b) = some (.bl (decide (a = b))) := by
  cases a <;> cases b <;> simp [compare, eqD, plain, eqB]
@[simp] theorem v_nebb (a b : Bool) : compare .ne (.bl a) (.bl b) = some (.bl (!decide (a = b))) := by
  cases a <;> cases b <;> simp [compare, eqD, plain, eqB]
@[simp] theorem v_lt (a b : Int) : compare .lt (.int a) (.int b) = some (.bl (decide (a < b))) := Eq.trans rfl rfl
@[simp] theorem v_le (a b : Int) : compare .le (.int a) (.int b) = some (.bl (decide (a ≤ b))) := Eq.trans rfl rfl
@[simp] theorem v_gt (a b : Int) : compare .gt (.int a) (.int b) = some (.bl (decide (b < a))) := Eq.trans rfl rfl
@[simp] theorem v_ge (a b : Int) : compare .ge (.int a) (.int b) = some (.bl (decide (b ≤ a))) := Eq.trans rfl rfl
@[simp] theorem v_in (c : Nat) (s : List Nat) : compare .in_ (.str [c]) (.str s) = some (.bl (s.contains c)) := Eq.trans rfl rfl
@[simp] theorem v_nin (c : Nat) (s : List Nat) : compare .nin (.str [c]) (.str s) = some (.bl (!s.contains c)) := Eq.trans rfl rfl
@[simp] theorem v_isn0 (d : D) : compare .is_ d .non = some (.bl (match d with | .non => true | _ => false)) := by cases d <;> rfl
@[simp] theorem v_isn1 (d : D) : compare .isn d .non = some (.bl (match d with | .non => false | _ => true)) := by cases d <;> rfl
@[simp] theorem v_isbb (a b : Bool) : compare .is_ (.bl a) (.bl b) = some (.bl (decide (a = b))) := Eq.trans rfl rfl
@[simp] theorem v_isnb (b : Bool) : compare .is_ .non (.bl b) = some (.bl false) := Eq.trans rfl rfl
@[simp] theorem v_augi (a b : Int) : augB .add (.int a) (.int b) = some (.int (a + b)) := Eq.trans rfl rfl
@[simp] theorem v_augs (a b : List Nat) (h : a.length + b.length ≤ 1000000) : augB .add (.str a) (.str b) = some (.str (a ++ b)) := by simp [augB, h]
@[simp] theorem v_lens (s : List Nat) : builtin .len [.str s] = some (.int s.length) := Eq.trans rfl rfl
@[simp] theorem v_lenl (s : List D) : builtin .len [.lst s] = some (.int s.length) := Eq.trans rfl rfl
@[simp] theorem v_int (i : Int) : builtin .int [.int i] = some (.int i) := Eq.trans rfl rfl
@[simp] theorem v_arr1 {α : Type} (a : α) : arr [0] [a] = [a] := Eq.trans rfl rfl
@[simp] theorem v_arr2 {α : Type} (a b : α) : arr [0, 1] [a, b] = [a, b] := Eq.trans rfl rfl
@[simp] theorem v_arr2' {α : Type} (a b : α) : arr [1, 0] [a, b] = [b, a] := Eq.trans rfl rfl
@[simp] theorem v_arr3 {α : Type} (a b c : α) : arr [0, 1, 2] [a, b, c] = [a, b, c] := Eq.trans rfl rfl
@[simp] theorem v_arr4 {α : Type} (a b c d : α) : arr [0, 1, 2, 3] [a, b, c, d] = [a, b, c, d] := Eq.trans rfl rfl
@[simp] theorem v_arr5 {α : Type} (a b c d e : α) : arr [0, 1, 2, 3, 4] [a, b, c, d, e] = [a, b, c, d, e] := Eq.trans rfl rfl
@[simp] theorem v_arr6 {α : Type} (a b c d e f : α) : arr [0, 1, 2, 3, 4, 5] [a, b, c, d, e, f] = [a, b, c, d, e, f] := Eq.trans rfl rfl
@[simp] theorem v_arr0 {α : Type} : arr [] ([] : List α) = [] := Eq.trans rfl rfl
@[simp] theorem v_adds (a b : List Nat) (h : a.length + b.length ≤ 1000000) : binop .add (.str a) (.str b) = some (.str (a ++ b)) := by simp [binop, h]
@[simp] theorem v_addi (a b : Int) : binop .add (.int a) (.int b) = some (.int (a + b)) := Eq.trans rfl rfl
@[simp] theorem v_subi (a b : Int) : binop .sub (.int a) (.int b) = some (.int (a - b)) := Eq.trans rfl rfl
@[simp] theorem v_isistr (s : List Nat) : isTys (.str s) [.str] = some true := Eq.trans rfl rfl
@[simp] theorem v_join (xs : List D) (sep : List Nat) (ss : List (List Nat)) (h : strsD xs = some ss) (hl : (ss.map List.length).sum + ss.length * sep.length ≤ 1000000) : mt1 .join (.str sep) (.lst xs) = some (.str (joinL sep ss)) := by simp [mt1, h, hl]
theorem forL_cons (f : D → Ga → Sto → R Fl) (kill : List Nat) (x : D) (r : List D) (γ : Ga) (μ : Sto) : forL f kill (x :: r) γ μ = (f x γ μ).bind fun fl μ => match fl with
    | .nx γ' => forL f kill r (wipeG γ' kill) μ
    | .ct γ' => forL f kill r (wipeG γ' kill) μ
    | .bk γ' => .ok (.nx (wipeG γ' kill)) μ
    | .rt d => .ok (.rt d) μ := Eq.trans rfl rfl
@[simp] theorem forL_nil (f : D → Ga → Sto → R Fl) (kill : List Nat) (γ : Ga) (μ : Sto) : forL f kill [] γ μ = .ok (.nx γ) μ := Eq.trans rfl rfl
/-- a for without a return: by its turns on the slots -/
theorem forL_run {f : D → Ga → Sto → R Fl} {kill : List Nat} {μ : Sto} {st : Ga → D → Ga} {I : List D → Ga → Prop} (h : ∀ x r γ, I (x :: r) γ → f x γ μ = .ok (.nx (st γ x)) μ ∧ I r (wipeG (st γ x) kill)) :
    ∀ xs γ, I xs γ → forL f kill xs γ μ = .ok (.nx (xs.foldl (fun γ x => wipeG (st γ x) kill) γ)) μ
  | [], γ, _ => rfl
  | x :: r, γ, hi => by
    obtain ⟨e, h'⟩ := h x r γ hi
    rw [forL_cons, e]
    exact forL_run h r _ h'
/-- a comprehension whose turns are plain -/
theorem lcL_flat {f : D → List D → Sto → R (List D)} {g : D → List D} {μ : Sto} : ∀ (xs acc : List D), (∀ x ∈ xs, ∀ acc : List D, acc.length + (g x).length ≤ 1000000 → f x acc μ = .ok (acc ++ g x) μ) → acc.length + (xs.flatMap g).length ≤ 1000000 → lcL f xs acc μ = .ok (acc ++ xs.flatMap g) μ
  | [], acc, _, _ => by simp [lcL]
  | x :: r, acc, h, hl => by
    simp only [List.flatMap_cons, List.length_append] at hl
    unfold lcL
    rw [h x List.mem_cons_self acc (by omega)]
    simp only [bind_ok]
    rw [lcL_flat r (acc ++ g x) (fun y hy => h y (List.mem_cons_of_mem _ hy)) (by rw [List.length_append]; omega)]
    simp
theorem flat_fm {α β : Type} {b : α → Bool} {v : α → β} : ∀ xs : List α, xs.flatMap (fun x => if b x then [v x] else []) = (xs.filter b).map v
  | [] => rfl
  | x :: r => by
    rw [List.flatMap_cons, flat_fm r]
    cases h : b x <;> simp [h]
theorem fm_le {α β : Type} {b : α → Bool} {v : α → β} (xs : List α) : ((xs.filter b).map v).length ≤ xs.length := by
  rw [List.length_map]; exact List.length_filter_le _ _
/-- .. with one item at most each -/
theorem lcL_map {f : D → List D → Sto → R (List D)} {b : D → Bool} {v : D → D} {μ : Sto} (xs : List D) (h : ∀ x ∈ xs, ∀ acc : List D, acc.length < 1000000 → f x acc μ = .ok (if b x then acc ++ [v x] else acc) μ) (hl : xs.length ≤ 1000000) : lcL f xs [] μ = .ok ((xs.filter b).map v) μ := by
  have key : ∀ (xs acc : List D), (∀ x ∈ xs, ∀ acc : List D, acc.length < 1000000 → f x acc μ = .ok (if b x then acc ++ [v x] else acc) μ) → acc.length + xs.length ≤ 1000000 → lcL f xs acc μ = .ok (acc ++ (xs.filter b).map v) μ := by
    intro xs
    induction xs with
    | nil => intro acc _ _; simp [lcL]
    | cons x r ih =>
      intro acc h hl
      rw [List.length_cons] at hl
      unfold lcL
      rw [h x List.mem_cons_self acc (by omega)]
      simp only [bind_ok]
      cases hb : b x with
      | true =>
        rw [if_pos rfl, ih _ (fun y hy => h y (List.mem_cons_of_mem _ hy)) (by rw [List.length_append, List.length_singleton]; omega)]
        simp [hb]
      | false =>
        rw [if_neg (by simp), ih _ (fun y hy => h y (List.mem_cons_of_mem _ hy)) (by omega)]
        simp [hb]
  simpa using key xs [] h (by simpa using hl)
/-- a turn with a test and a value that are plain -/
theorem turnC_ok {gl : Nat → Option D} {cl : Nat → List D → Sto → R D} {γ γ' : Ga} {t : List Nat} {c : Option E} {e : E} {y v : D} {b : Bool} {acc : List D} {μ : Sto} (h1 : setT (wipeG γ t) t y = some γ') (h2 : xC gl cl c γ' μ = .ok b μ) (h3 : b = true → xE gl cl e γ' μ = .ok v μ) (hl : acc.length < 1000000) : turnC gl cl γ t c e y acc μ = .ok (if b then acc ++ [v] else acc) μ := by
  unfold turnC setTR
  rw [h1]
  simp only [h2, bind_ok]
  cases b with
  | true => rw [if_pos rfl, if_pos rfl, h3 rfl]; simp [addL, hl]
  | false => rw [if_neg (by simp), if_neg (by simp)]
end Bs
/-! Bs: plain lemmas and the bodies that stand in many laws. -/
namespace Bs
theorem ix_str {s : List Nat} {j : Nat} {t : Nat} (h : s[j]? = some t) (μ : Sto) : ixR (.str s) (.int (j : Nat)) μ = .ok (.str [t]) μ := by
  have hj : j < s.length := (List.getElem?_eq_some_iff.mp h).1
  have h1 : (j : Int) < s.length := by omega
  have h2 : (0 : Int) ≤ j := by omega
  simp [ixR, deref, index, L2.atI, L2.ixN, h1, h2, h]
theorem strs_chars : ∀ w : List Nat, strsD (chars w) = some (w.map fun c => [c])
  | [] => rfl
  | c :: w => by
    have := strs_chars w
    unfold chars at this ⊢
    simp [strsD, this]
theorem join_one : ∀ w : List Nat, joinL [] (w.map fun c => [c]) = w
  | [] => rfl
  | [c] => rfl
  | c :: d :: w => by
    have := join_one (d :: w)
    simp only [List.map_cons] at this ⊢
    simp [joinL, this]
theorem sum_one (w : List Nat) : ((w.map fun c => [c]).map List.length).sum = w.length := by
  induction w with
  | nil => rfl
  | cons c w ih => simp at ih ⊢; omega
theorem join_chars (w : List Nat) (h : w.length ≤ 1000000) : mt1 .join (.str []) (.lst (chars w)) = some (.str w) := by
  rw [v_join _ _ _ (strs_chars w) (by rw [sum_one]; simpa using h), join_one]
/-! ### inside -/
def ins : List Nat → List Nat → Bool
  | s :: c, t :: d => (s == 45 || s == t) && ins c d
  | _, _ => true
theorem enum_cons (j s : Nat) (r : List Nat) : enumL j (chars (s :: r)) = .tup [.int j, .str [s]] :: enumL (j + 1) (chars r) := rfl
abbrev SL (rows : List (List Nat)) : List D := rows.map D.str
def ch (sg : List Nat) (s : Nat) : List Nat := if s = 45 then sg else [s]
def ext1 (cs : List Nat) (rows : List (List Nat)) : List (List Nat) := rows.flatMap fun r => cs.map fun x => r ++ [x]
def Q (sg : List Nat) : List Nat → List (List Nat)
  | [] => [[]]
  | s :: c => (ch sg s).flatMap fun x => (Q sg c).map (x :: ·)
theorem foldl_Q (sg : List Nat) : ∀ (c : List Nat) (rows : List (List Nat)), c.foldl (fun rows s => ext1 (ch sg s) rows) rows = rows.flatMap fun r => (Q sg c).map (r ++ ·)
  | [], rows => by simp [Q]
  | s :: c, rows => by
    rw [List.foldl_cons, foldl_Q sg c]
    simp [Q, ext1, List.flatMap_assoc, List.map_flatMap, List.flatMap_map, Function.comp_def]
theorem ext1_len (cs : List Nat) (rows : List (List Nat)) : (ext1 cs rows).length = rows.length * cs.length := by
  unfold ext1
  induction rows with
  | nil => simp
  | cons r rows ih => rw [List.flatMap_cons, List.length_append, ih, List.length_map, List.length_cons, Nat.succ_mul]; omega
/-- rows of one length, not too many -/
structure Rw (n m : Nat) (rows : List (List Nat)) : Prop where
  len : ∀ r ∈ rows, r.length = n
  num : rows.length ≤ m
theorem Rw.ext {n m : Nat} {rows : List (List Nat)} {cs : List Nat} (h : Rw n m rows) (hc : cs.length ≤ 3) : Rw (n + 1) (m * 3) (ext1 cs rows) := by
  refine ⟨fun r hr => ?_, ?_⟩
  · unfold ext1 at hr
    rw [List.mem_flatMap] at hr
    obtain ⟨a, ha, hr⟩ := hr
    rw [List.mem_map] at hr
    obtain ⟨x, _, rfl⟩ := hr
    rw [List.length_append, h.len a ha]; rfl
  · rw [ext1_len]; exact Nat.mul_le_mul h.num hc
abbrev c01 : List Nat := [48, 49]
abbrev c01d : List Nat := [48, 49, 45]
theorem bnd_nat {n : Nat} (h : n ≤ 1000) : bnd (n : Int) = true := by
  have e : (2 : Int) ^ 62 = 4611686018427387904 := rfl
  unfold bnd
  rw [e, Bool.and_eq_true, decide_eq_true_eq, decide_eq_true_eq]
  omega
theorem rng_int {i : Int} (h : bnd i = true) : rangeD [.int i] = some (.lst (rangeL 0 i)) := by
  simp only [rangeD]
  generalize bnd i = b at h ⊢
  subst h
  rfl
theorem rng_nat {n : Nat} (h : n ≤ 1000) : rangeD [.int (n : Int)] = some (.lst (rangeL 0 n)) := rng_int (bnd_nat h)
/-! ### _law_points -/
def add01 (s : Nat) (r : List Nat) : List (List Nat) := (if s = 49 then [] else [r ++ [48]]) ++ (if s = 48 then [] else [r ++ [49]])
theorem pts_inner (gl : Nat → Option D) (cl : Nat → List D → Sto → R D) (C R0 : D) (s : Nat) (μ : Sto) : ∀ (rows : List (List Nat)) (acc : List D), (∀ r ∈ rows, r.length ≤ 100) → acc.length + rows.length * 2 ≤ 900000 →
    forL (turn gl cl [4] [.ite (.cmp .ne (.var 2) (.con (.str [49]))) [.app 3 (.bin .add (.var 4) (.con (.str [48])))] [], .ite (.cmp .ne (.var 2) (.con (.str [48]))) [.app 3 (.bin .add (.var 4) (.con (.str [49])))] []]) [4] (SL rows) [.val C, .val R0, .val (.str [s]), .own (.lst acc), .un] μ =
    .ok (.nx [.val C, .val R0, .val (.str [s]), .own (.lst (acc ++ SL (rows.flatMap (add01 s)))), .un]) μ
  | [], acc, _, _ => by simp
  | r :: rows, acc, hr, ha => by
    rw [List.length_cons] at ha
    have ih := pts_inner gl cl C R0 s μ rows (acc ++ SL (add01 s r)) (fun r h => hr r (List.mem_cons_of_mem _ h)) (by
      have : (add01 s r).length ≤ 2 := by unfold add01; split <;> split <;> simp
      simp; omega)
    have hr1 := hr r List.mem_cons_self
    have l0 : r.length + [48].length ≤ 1000000 := by simp; omega
    have l1 : r.length + [49].length ≤ 1000000 := by simp; omega
    have a0 : acc.length < 1000000 := by omega
    have a1 : acc.length + 1 < 1000000 := by omega
    show forL _ _ (.str r :: SL rows) _ _ = _
    rw [forL_cons]
    have e0 := v_adds r [48] l0
    have e1 := v_adds r [49] l1
    have ef : acc ++ SL ((r :: rows).flatMap (add01 s)) = acc ++ SL (add01 s r) ++ SL (rows.flatMap (add01 s)) := by simp
    rw [ef]
    by_cases h1 : s = 49
    · have h : add01 s r = [r ++ [49]] := by simp [add01, h1]
      rw [h] at ih ⊢
      simp [h1] at ih
      simp [turn, h1, e1, a0, ih]
    · by_cases h2 : s = 48
      · have h : add01 s r = [r ++ [48]] := by simp [add01, h2]
        rw [h] at ih ⊢
        simp [h2] at ih
        simp [turn, h2, e0, a0, ih]
      · have h : add01 s r = [r ++ [48], r ++ [49]] := by simp [add01, h1, h2]
        rw [h] at ih ⊢
        simp at ih
        simp [turn, h1, h2, e0, e1, a0, a1, ih]
theorem add_ext {s : Nat} (h : s = 48 ∨ s = 49 ∨ s = 45) (rows : List (List Nat)) : rows.flatMap (add01 s) = ext1 (ch c01 s) rows := by
  unfold ext1
  congr 1
  funext r
  rcases h with rfl | rfl | rfl <;> simp [add01, ch]
theorem pts_loop (gl : Nat → Option D) (cl : Nat → List D → Sto → R D) (C : D) (μ : Sto) : ∀ (c : List Nat) (n m : Nat) (rows : List (List Nat)), (∀ x ∈ c, x = 48 ∨ x = 49 ∨ x = 45) → Rw n m rows → n + c.length ≤ 10 → m * 3 ^ c.length ≤ 100000 →
    forL (turn gl cl [2] [.own 3 (.lst []), .forr [4] (.var 1) [.ite (.cmp .ne (.var 2) (.con (.str [49]))) [.app 3 (.bin .add (.var 4) (.con (.str [48])))] [], .ite (.cmp .ne (.var 2) (.con (.str [48]))) [.app 3 (.bin .add (.var 4) (.con (.str [49])))] []] [4], .frz 3, .asg [1] (.var 3)]) [2, 3, 4] (chars c) [.val C, .val (.lst (SL rows)), .un, .un, .un] μ =
    .ok (.nx [.val C, .val (.lst (SL (c.foldl (fun rows s => ext1 (ch c01 s) rows) rows))), .un, .un, .un]) μ
  | [], n, m, rows, _, _, _, _ => rfl
  | s :: c, n, m, rows, hc, hr, hn, hm => by
    rw [List.length_cons] at hn hm
    rw [Nat.pow_succ] at hm
    have hmm : m * 3 ^ c.length * 3 ≤ 100000 := by rw [Nat.mul_assoc]; exact hm
    have hm1 : m ≤ 100000 := by
      have h1 : 1 ≤ 3 ^ c.length := Nat.one_le_pow _ _ (by decide)
      have := Nat.mul_le_mul_left m h1
      omega
    have hch : (ch c01 s).length ≤ 3 := by unfold ch; split <;> simp
    have ih := pts_loop gl cl C μ c (n + 1) (m * 3) (ext1 (ch c01 s) rows) (fun x h => hc x (List.mem_cons_of_mem _ h)) (hr.ext hch) (by omega) (by rw [Nat.mul_right_comm]; exact hmm)
    have e := pts_inner gl cl C (.lst (SL rows)) s μ rows [] (fun r h => by rw [hr.len r h]; omega) (by have := hr.num; simp; omega)
    rw [add_ext (hc s List.mem_cons_self)] at e
    show forL _ _ (.str [s] :: chars c) _ _ = _
    rw [forL_cons]
    have e2 : turn gl cl [2] [.own 3 (.lst []), .forr [4] (.var 1) [.ite (.cmp .ne (.var 2) (.con (.str [49]))) [.app 3 (.bin .add (.var 4) (.con (.str [48])))] [], .ite (.cmp .ne (.var 2) (.con (.str [48]))) [.app 3 (.bin .add (.var 4) (.con (.str [49])))] []] [4], .frz 3, .asg [1] (.var 3)] (.str [s]) [.val C, .val (.lst (SL rows)), .un, .un, .un] μ = .ok (.nx [.val C, .val (.lst (SL (ext1 (ch c01 s) rows))), .val (.str [s]), .val (.lst (SL (ext1 (ch c01 s) rows))), .un]) μ := by
      simp only [List.nil_append] at e
      unfold turn
      simp [e]
    rw [e2]
    simp only [bind_ok, v_wipe1, v_wipe0, List.set_cons_succ, List.set_cons_zero, List.set_nil]
    rw [ih]
    rfl
/-! ### _law_rows -/
theorem rows_in (gl : Nat → Option D) (cl : Nat → List D → Sto → R D) (N Sg R0 : D) (x3 : Sl) (r : List Nat) (hr : r.length ≤ 100) (μ : Sto) : ∀ (sg : List Nat) (acc : List D), acc.length + sg.length ≤ 900000 →
    forL (turn gl cl [6] [.app 4 (.bin .add (.var 5) (.var 6))]) [6] (chars sg) [.val N, .val Sg, .val R0, x3, .own (.lst acc), .val (.str r), .un] μ =
    .ok (.nx [.val N, .val Sg, .val R0, x3, .own (.lst (acc ++ SL (sg.map fun x => r ++ [x]))), .val (.str r), .un]) μ
  | [], acc, _ => by simp [chars]
  | x :: sg, acc, ha => by
    rw [List.length_cons] at ha
    have ih := rows_in gl cl N Sg R0 x3 r hr μ sg (acc ++ [.str (r ++ [x])]) (by rw [List.length_append, List.length_singleton]; omega)
    have l0 : r.length + [x].length ≤ 1000000 := by simp; omega
    have a0 : acc.length < 1000000 := by omega
    show forL _ _ (.str [x] :: chars sg) _ _ = _
    rw [forL_cons]
    simp [turn, v_adds r [x] l0, a0]
    simpa [turn] using ih
theorem rows_mid (gl : Nat → Option D) (cl : Nat → List D → Sto → R D) (N R0 : D) (x3 : Sl) (sg : List Nat) (hs : sg.length ≤ 3) (μ : Sto) : ∀ (rows : List (List Nat)) (acc : List D), (∀ r ∈ rows, r.length ≤ 100) → acc.length + rows.length * 3 ≤ 900000 →
    forL (turn gl cl [5] [.forr [6] (.var 1) [.app 4 (.bin .add (.var 5) (.var 6))] [6]]) [5, 6] (SL rows) [.val N, .val (.str sg), .val R0, x3, .own (.lst acc), .un, .un] μ =
    .ok (.nx [.val N, .val (.str sg), .val R0, x3, .own (.lst (acc ++ SL (ext1 sg rows))), .un, .un]) μ
  | [], acc, _, _ => by simp [ext1]
  | r :: rows, acc, hr, ha => by
    rw [List.length_cons] at ha
    have ih := rows_mid gl cl N R0 x3 sg hs μ rows (acc ++ SL (sg.map fun x => r ++ [x])) (fun r h => hr r (List.mem_cons_of_mem _ h)) (by simp; omega)
    have e := rows_in gl cl N (.str sg) R0 x3 r (hr r List.mem_cons_self) μ sg acc (by omega)
    show forL _ _ (.str r :: SL rows) _ _ = _
    rw [forL_cons]
    have e2 : turn gl cl [5] [.forr [6] (.var 1) [.app 4 (.bin .add (.var 5) (.var 6))] [6]] (.str r) [.val N, .val (.str sg), .val R0, x3, .own (.lst acc), .un, .un] μ = .ok (.nx [.val N, .val (.str sg), .val R0, x3, .own (.lst (acc ++ SL (sg.map fun x => r ++ [x]))), .val (.str r), .un]) μ := by
      simp at e
      unfold turn
      simp [e]
    rw [e2]
    simp only [bind_ok, v_wipe1, v_wipe0, List.set_cons_succ, List.set_cons_zero, List.set_nil]
    rw [ih]
    simp [ext1]
theorem rows_out (gl : Nat → Option D) (cl : Nat → List D → Sto → R D) (N : D) (sg : List Nat) (hs : sg.length ≤ 3) (μ : Sto) : ∀ (xs : List D) (n m : Nat) (rows : List (List Nat)), Rw n m rows → n + xs.length ≤ 10 → m * 3 ^ xs.length ≤ 100000 →
    forL (turn gl cl [3] [.own 4 (.lst []), .forr [5] (.var 2) [.forr [6] (.var 1) [.app 4 (.bin .add (.var 5) (.var 6))] [6]] [5, 6], .frz 4, .asg [2] (.var 4)]) [3, 4, 5, 6] xs [.val N, .val (.str sg), .val (.lst (SL rows)), .un, .un, .un, .un] μ =
    .ok (.nx [.val N, .val (.str sg), .val (.lst (SL ((List.replicate xs.length 45).foldl (fun rows s => ext1 (ch sg s) rows) rows))), .un, .un, .un, .un]) μ
  | [], n, m, rows, _, _, _ => rfl
  | x :: xs, n, m, rows, hr, hn, hm => by
    rw [List.length_cons] at hn hm
    rw [Nat.pow_succ] at hm
    have hmm : m * 3 ^ xs.length * 3 ≤ 100000 := by rw [Nat.mul_assoc]; exact hm
    have hm1 : m ≤ 100000 := by
      have h1 : 1 ≤ 3 ^ xs.length := Nat.one_le_pow _ _ (by decide)
      have := Nat.mul_le_mul_left m h1
      omega
    have ih := rows_out gl cl N sg hs μ xs (n + 1) (m * 3) (ext1 sg rows) (hr.ext hs) (by omega) (by rw [Nat.mul_right_comm]; exact hmm)
    have e := rows_mid gl cl N (.lst (SL rows)) (.val x) sg hs μ rows [] (fun r h => by rw [hr.len r h]; omega) (by have := hr.num; simp; omega)
    rw [forL_cons]
    have e2 : turn gl cl [3] [.own 4 (.lst []), .forr [5] (.var 2) [.forr [6] (.var 1) [.app 4 (.bin .add (.var 5) (.var 6))] [6]] [5, 6], .frz 4, .asg [2] (.var 4)] x [.val N, .val (.str sg), .val (.lst (SL rows)), .un, .un, .un, .un] μ = .ok (.nx [.val N, .val (.str sg), .val (.lst (SL (ext1 sg rows))), .val x, .val (.lst (SL (ext1 sg rows))), .un, .un]) μ := by
      simp only [List.nil_append] at e
      unfold turn
      simp [e]
    rw [e2]
    simp only [bind_ok, v_wipe1, v_wipe0, List.set_cons_succ, List.set_cons_zero, List.set_nil]
    rw [ih]
    simp [List.replicate_succ, ch]
theorem bools_bl : ∀ bs : List Bool, boolsD (bs.map D.bl) = some bs
  | [] => rfl
  | b :: bs => by simp [boolsD, bools_bl bs]
theorem chars_len (w : List Nat) : (chars w).length = w.length := by simp [chars]
theorem t_ll (xs : List D) : isTys (.lst xs) [.list] = some true := rfl
theorem t_ii (i : Int) : isTys (.int i) [.int] = some true := rfl
theorem t_ib (i : Int) : isTys (.int i) [.bool] = some false := rfl
theorem t_bb (b : Bool) : isTys (.bl b) [.bool] = some true := rfl
theorem plains_SL : ∀ (n : Nat) (rows : List (List Nat)), plains n (SL rows) = true
  | _, [] => by simp [plains]
  | n, r :: rows => by
    have := plains_SL n rows
    simp only [SL, List.map_cons] at this ⊢
    simp [plains, plain, this]
theorem eqBs_SL : ∀ (rows : List (List Nat)), eqBs (SL rows) (SL rows) = true
  | [] => by simp [eqBs]
  | r :: rows => by
    have := eqBs_SL rows
    simp only [SL, List.map_cons] at this ⊢
    simp [eqBs, eqB, this]
theorem eqD_SL (rows : List (List Nat)) : eqD (.lst (SL rows)) (.lst (SL rows)) = some true := by
  have h : plain 60 (.lst (SL rows)) = true := by simp only [plain]; exact plains_SL 59 rows
  have h2 : eqB (.lst (SL rows)) (.lst (SL rows)) = true := by simp only [eqB]; exact eqBs_SL rows
  unfold eqD; rw [h, h2]; rfl
theorem eq_SL (rows : List (List Nat)) : compare .eq (.lst (SL rows)) (.lst (SL rows)) = some (.bl true) := by
  show (eqD _ _).map D.bl = _
  rw [eqD_SL]; rfl
theorem ne_SL (rows : List (List Nat)) : compare .ne (.lst (SL rows)) (.lst (SL rows)) = some (.bl false) := by
  show (eqD _ _).map (fun r => D.bl !r) = _
  rw [eqD_SL]; rfl
theorem inD_SL (p : List Nat) : ∀ rows : List (List Nat), inD (.str p) (SL rows) = some (decide (p ∈ rows)) := by
  intro rows
  have h1 : (SL rows).all flat = true := by simp [flat]
  have h2 : (SL rows).any (fun y => eqB y (.str p)) = decide (p ∈ rows) := by
    induction rows with
    | nil => simp
    | cons r rows ih =>
      simp only [SL, List.map_cons] at ih ⊢
      rw [List.any_cons, ih (by simp [flat])]
      simp only [eqB, List.mem_cons, Bool.beq_eq_decide_eq, Bool.decide_or]
      congr 1
      simp [eq_comm]
  unfold inD
  rw [h1, h2]
  rfl
theorem inF_SL (p : List Nat) : ∀ rows : List (List Nat), inF (.str p) (SL rows) = some (decide (p ∈ rows)) := by
  intro rows
  have h1 : (SL rows).all flat = true := by simp [flat]
  have h2 : (SL rows).any (fun y => eqB y (.str p)) = decide (p ∈ rows) := by
    induction rows with
    | nil => simp
    | cons r rows ih =>
      simp only [SL, List.map_cons] at ih ⊢
      rw [List.any_cons, ih (by simp [flat])]
      simp only [eqB, List.mem_cons, Bool.beq_eq_decide_eq, Bool.decide_or]
      congr 1
      simp [eq_comm]
  unfold inF
  rw [h1, h2]
  rfl
theorem in_SL (p : List Nat) (rows : List (List Nat)) : compare .in_ (.str p) (.lst (SL rows)) = some (.bl (decide (p ∈ rows))) := by
  show (inD (.str p) (SL rows)).map D.bl = _
  rw [inD_SL]; rfl
theorem nin_SL (p : List Nat) (rows : List (List Nat)) : compare .nin (.str p) (.lst (SL rows)) = some (.bl (!decide (p ∈ rows))) := by
  show (inD (.str p) (SL rows)).map (fun r => D.bl !r) = _
  rw [inD_SL]; rfl
/-- comprehensions over data of one kind -/
theorem lc_gen {α : Type} {f : D → List D → Sto → R (List D)} (emb : α → D) (g : α → List D) {μ : Sto} : ∀ (l : List α) (acc : List D), (∀ a ∈ l, ∀ acc : List D, acc.length < 1000000 → f (emb a) acc μ = .ok (acc ++ g a) μ) → (∀ a, (g a).length ≤ 1) → acc.length + l.length ≤ 1000000 → lcL f (l.map emb) acc μ = .ok (acc ++ l.flatMap g) μ
  | [], acc, _, _, _ => by simp [lcL]
  | a :: l, acc, h, h1, hl => by
    rw [List.length_cons] at hl
    rw [List.map_cons]
    unfold lcL
    rw [h a List.mem_cons_self acc (by omega)]
    simp only [bind_ok]
    have := h1 a
    rw [lc_gen emb g l (acc ++ g a) (fun b hb => h b (List.mem_cons_of_mem _ hb)) h1 (by rw [List.length_append]; omega)]
    simp
theorem lc_filt {f : D → List D → Sto → R (List D)} (q : List Nat → Bool) {μ : Sto} (rows : List (List Nat)) (h : ∀ p ∈ rows, ∀ acc : List D, acc.length < 1000000 → f (.str p) acc μ = .ok (if q p then acc ++ [.str p] else acc) μ) (hl : rows.length ≤ 1000000) : lcL f (SL rows) [] μ = .ok (SL (rows.filter q)) μ := by
  have := lc_gen D.str (fun p => if q p then [D.str p] else []) (f := f) (μ := μ) rows [] (fun p hp acc ha => by rw [h p hp acc ha]; cases q p <;> simp) (fun p => by split <;> simp) (by simpa using hl)
  rw [flat_fm] at this
  simpa using this
theorem lc_bool {α : Type} {f : D → List D → Sto → R (List D)} (emb : α → D) (q : α → Bool) {μ : Sto} (l : List α) (h : ∀ p ∈ l, ∀ acc : List D, acc.length < 1000000 → f (emb p) acc μ = .ok (acc ++ [.bl (q p)]) μ) (hl : l.length ≤ 1000000) : lcL f (l.map emb) [] μ = .ok ((l.map q).map D.bl) μ := by
  have := lc_gen emb (fun p => [D.bl (q p)]) (f := f) (μ := μ) l [] h (fun p => by simp) (by simpa using hl)
  rw [this]
  congr 1
  rw [List.nil_append]
  clear h hl this
  induction l with
  | nil => rfl
  | cons a l ih => rw [List.flatMap_cons, ih]; rfl
theorem all_bl (bs : List Bool) : builtin .all [.lst (bs.map D.bl)] = some (.bl (bs.all id)) := by
  show ((boolsD (bs.map D.bl)).map fun bs => D.bl (bs.all id)) = _
  rw [bools_bl]; rfl
/-- signs in 01- -/
theorem all_in (gl : Nat → Option D) (cl : Nat → List D → Sto → R D) (γ : Ga) (i : Nat) (hi : i < γ.length) (s g : List Nat) (hs : s.length ≤ 1000) (μ : Sto) : lcL (turnC gl cl γ [i] none (.cmp .in_ (.var i) (.con (.str g)))) (chars s) [] μ = .ok ((s.map fun c => g.contains c).map D.bl) μ := by
  refine lc_bool (fun c => D.str [c]) (fun c => g.contains c) s (fun c _ acc ha => ?_) (by omega)
  rw [turnC_ok (γ' := γ.set i (.val (.str [c]))) (b := true) (v := .bl (g.contains c)) (by simp) (v_c0 _ _ _ _) (fun _ => by
    have : (γ.set i (.val (.str [c])))[i]? = some (.val (.str [c])) := List.getElem?_set_self hi
    simp only [v_cmp, v_var, this, bind_ok, v_con, v_in, ofO_s, orO_some]) ha]
  simp
def Al (c : List Nat) : Prop := ∀ x ∈ c, x = 48 ∨ x = 49 ∨ x = 45
theorem Al.tl {s : Nat} {c : List Nat} (h : Al (s :: c)) : (s = 48 ∨ s = 49 ∨ s = 45) ∧ Al c := ⟨h s List.mem_cons_self, fun x hx => h x (List.mem_cons_of_mem _ hx)⟩
theorem mem_Q (sg : List Nat) {p : List Nat} {x s : Nat} {c : List Nat} : (x :: p) ∈ Q sg (s :: c) ↔ x ∈ ch sg s ∧ p ∈ Q sg c := by
  simp [Q]
theorem len_flat {α β : Type} (l : List α) (f : α → β → β) (ys : List β) : (l.flatMap fun x => ys.map (f x)).length = l.length * ys.length := by
  induction l with
  | nil => simp
  | cons x l ih => rw [List.flatMap_cons, List.length_append, ih, List.length_map, List.length_cons, Nat.succ_mul]; omega
/-- all rows of n signs of -01 -/
abbrev dd3 : List Nat := [45, 48, 49]
theorem mem_all : ∀ (n : Nat) (e : List Nat), e ∈ Q dd3 (List.replicate n 45) ↔ e.length = n ∧ Al e
  | 0, e => by
    simp [Q, Al]
    cases e <;> simp
  | n + 1, [] => by simp [List.replicate_succ, Q]
  | n + 1, x :: e => by
    rw [List.replicate_succ, mem_Q, mem_all n e]
    simp only [ch, if_pos, List.length_cons, Al, List.mem_cons, List.not_mem_nil, or_false]
    constructor
    · rintro ⟨h1, h2, h3⟩
      exact ⟨by omega, fun y hy => hy.elim (fun z => by subst z; omega) (h3 y)⟩
    · rintro ⟨h1, h2⟩
      have := h2 x (.inl rfl)
      exact ⟨by omega, by omega, fun y hy => h2 y (.inr hy)⟩
theorem num_le {sg : List Nat} (hs : sg.length ≤ 3) : ∀ c : List Nat, (Q sg c).length ≤ 3 ^ c.length
  | [] => by simp [Q]
  | s :: c => by
    have := num_le hs c
    have h2 : (ch sg s).length ≤ 3 := by unfold ch; split; exact hs; simp
    have e : (Q sg (s :: c)).length = (ch sg s).length * (Q sg c).length := len_flat _ _ _
    rw [e, List.length_cons, Nat.pow_succ, Nat.mul_comm (3 ^ _)]
    exact Nat.mul_le_mul h2 this
theorem num5 {sg : List Nat} (hs : sg.length ≤ 3) {c : List Nat} (h5 : c.length ≤ 5) : (Q sg c).length ≤ 243 := by
  have := Nat.pow_le_pow_right (n := 3) (by decide) h5
  exact Nat.le_trans (num_le hs c) this
theorem fit_loop (gl : Nat → Option D) (cl : Nat → List D → Sto → R D) (s g : List Nat) (n : Int) (μ : Sto) : ∀ (r : List Nat), forL (turn gl cl [3] [.ite (.cmp .nin (.var 3) (.var 2)) [.ret (.con (.bl false))] []]) [3] (chars r) [.val (.str s), .val (.int n), .val (.str g), .un] μ =
    .ok (if (r.all fun c => g.contains c) then .nx [.val (.str s), .val (.int n), .val (.str g), .un] else .rt (.bl false)) μ
  | [] => rfl
  | c :: r => by
    have ih := fit_loop gl cl s g n μ r
    show forL _ _ (.str [c] :: chars r) _ _ = _
    rw [forL_cons]
    by_cases hc : c ∈ g
    · simp [turn, hc, ih]
    · simp [turn, hc]
theorem small_of {i : Int} (h0 : 0 ≤ i) (h1 : i < 4294967296) : small i = true := by
  have e : (2 : Int) ^ 64 = 18446744073709551616 := rfl
  unfold small
  rw [e, Bool.and_eq_true, decide_eq_true_eq, decide_eq_true_eq]
  omega
theorem mul_l {i j : Int} (h : small i = true) : binop .mul (.int i) (.int j) = some (.int (i * j)) := by
  show (if (small i || small j) = true then some (D.int (i * j)) else none) = _
  rw [h]; rfl
theorem mul_r {i j : Int} (h : small j = true) : binop .mul (.int i) (.int j) = some (.int (i * j)) := by
  show (if (small i || small j) = true then some (D.int (i * j)) else none) = _
  rw [h, Bool.or_true]; rfl
theorem mod_p {i j : Int} (h : 0 < j) : binop .mod (.int i) (.int j) = some (.int (i % j)) := by
  show (if decide (0 < j) = true then some (D.int (i % j)) else none) = _
  rw [decide_eq_true h]; rfl
theorem fdiv_p {i j : Int} (h : 0 < j) (h2 : j < 1073741824) : binop .fdiv (.int i) (.int j) = some (.int (i / j)) := by
  show (if (decide (0 < j) && decide (j < 1073741824)) = true then some (D.int (i / j)) else none) = _
  rw [decide_eq_true h, decide_eq_true h2]; rfl
def mk (a b : Int) (bs ss : List Int) : Ob := .lst [.int a, .int b, .lst (bs.map D.int), .lst (ss.map D.int)]
structure StA (p : Nat) (a b : Int) (bs ss : List Int) (μ : Sto) : Prop where
  at_ : μ p = some (mk a b bs ss)
  a0 : 0 ≤ a
  bp : ∀ x ∈ bs, 0 ≤ x
def St (p : Nat) (μ : Sto) : Prop := ∃ a b bs ss, StA p a b bs ss μ
section
variable {p : Nat} {a b : Int} {bs ss : List Int} {μ : Sto}
theorem ix0 (h : μ p = some (mk a b bs ss)) : ixR (.loc p) (.int 0) μ = .ok (.int a) μ := by simp [ixR, deref, h, mk, index, L2.atI, L2.ixN]
theorem ix1 (h : μ p = some (mk a b bs ss)) : ixR (.loc p) (.int 1) μ = .ok (.int b) μ := by simp [ixR, deref, h, mk, index, L2.atI, L2.ixN]
theorem ix2 (h : μ p = some (mk a b bs ss)) : ixR (.loc p) (.int 2) μ = .ok (.lst (bs.map D.int)) μ := by simp [ixR, deref, h, mk, index, L2.atI, L2.ixN]
theorem ix3 (h : μ p = some (mk a b bs ss)) : ixR (.loc p) (.int 3) μ = .ok (.lst (ss.map D.int)) μ := by simp [ixR, deref, h, mk, index, L2.atI, L2.ixN]
end
theorem ixl {ss : List Int} {i : Int} (h0 : 0 ≤ i) (h1 : i < ss.length) (μ : Sto) : ∃ x, x ∈ ss ∧ ixR (.lst (ss.map D.int)) (.int i) μ = .ok (.int x) μ := by
  have hn : i.toNat < ss.length := by omega
  refine ⟨ss[i.toNat], List.getElem_mem hn, ?_⟩
  have h1' : i < ((ss.map D.int).length : Int) := by simpa using h1
  simp [ixR, deref, index, L2.atI, L2.ixN, h0, h1, hn]
section
variable (μ : Sto) (p : Nat) (a b c d : D)
theorem px0 : ixR (.loc p) (.int 0) (μ.put p (.lst [a, b, c, d])) = .ok a (μ.put p (.lst [a, b, c, d])) := by simp [ixR, deref, index, L2.atI, L2.ixN]
theorem px1 : ixR (.loc p) (.int 1) (μ.put p (.lst [a, b, c, d])) = .ok b (μ.put p (.lst [a, b, c, d])) := by simp [ixR, deref, index, L2.atI, L2.ixN]
theorem px2 : ixR (.loc p) (.int 2) (μ.put p (.lst [a, b, c, d])) = .ok c (μ.put p (.lst [a, b, c, d])) := by simp [ixR, deref, index, L2.atI, L2.ixN]
theorem px3 : ixR (.loc p) (.int 3) (μ.put p (.lst [a, b, c, d])) = .ok d (μ.put p (.lst [a, b, c, d])) := by simp [ixR, deref, index, L2.atI, L2.ixN]
end
/-- _law_draw -/
theorem draw1 (gl : Nat → Option D) (cl : Nat → List D → Sto → R D) {p : Nat} {m : Int} {μ : Sto} (h : St p μ) : ∃ μ', St p μ' ∧ xS gl cl (.ite (.and (.cmp .eq (.ix (.var 0) (.con (.int 0))) (.con (.int 0))) (.cmp .gt (.bi .len [(.ix (.var 0) (.con (.int 2)))]) (.con (.int 0)))) [.lset (.var 0) (.con (.int 0)) (.ix (.ix (.var 0) (.con (.int 2))) (.con (.int 0))), .lset (.var 0) (.con (.int 2)) (.sl (.ix (.var 0) (.con (.int 2))) (some (.con (.int 1))) none)] []) [.val (.loc p), .val (.int m), .un, .un, .un] μ = .ok (.nx [.val (.loc p), .val (.int m), .un, .un, .un]) μ' := by
  obtain ⟨a, b, bs, ss, hA⟩ := h
  have hat := hA.at_
  by_cases ha : a = 0
  · cases bs with
    | nil =>
      refine ⟨μ, ⟨a, b, [], ss, hA⟩, ?_⟩
      simp [ix0 hat, ix2 hat, ha]
    | cons x bs =>
      have hx := hA.bp x List.mem_cons_self
      have e1 : ixR (.lst (D.int x :: bs.map D.int)) (.int 0) μ = .ok (.int x) μ := by simp [ixR, deref, index, L2.atI, L2.ixN]
      have at1 : (μ.put p (mk x b (x :: bs) ss)) p = some (mk x b (x :: bs) ss) := put_same _ _ _
      refine ⟨μ.put p (mk x b bs ss), ⟨x, b, bs, ss, put_same _ _ _, hx, fun y hy => hA.bp y (List.mem_cons_of_mem _ hy)⟩, ?_⟩
      have ix2' : ∀ (ν : Sto), ν p = some (mk x b (x :: bs) ss) → ixR (.loc p) (.int 2) ν = .ok (.lst (D.int x :: bs.map D.int)) ν := fun ν h => by have := ix2 h; simpa using this
      have ix2'' : ixR (.loc p) (.int 2) μ = .ok (.lst (D.int x :: bs.map D.int)) μ := by have := ix2 hat; simpa using this
      have es : slice (.lst (D.int x :: bs.map D.int)) (some 1) none = some (.lst (bs.map D.int)) := by
        simp [slice, cut, HT.sIx]
        exact List.take_of_length_le (by simp)
      have l0 : L2.ixN 4 0 = some 0 := by decide
      have l2 : L2.ixN 4 2 = some 2 := by decide
      have hat' : μ p = some (.lst [.int a, .int b, .lst ((x :: bs).map D.int), .lst (ss.map D.int)]) := hat
      simp [ix0 hat, ix2'', ha, e1, hat', l0, l2, intR, px2, es, mk]
  · refine ⟨μ, ⟨a, b, bs, ss, hA⟩, ?_⟩
    simp [ix0 hat, ha]

/-! ### bodies that stand in many laws -/
def fitL : List S := [.ite (.cmp .nin (.var 3) (.var 2)) [.ret (.con (.bl false))] []]
def fitB : List S := [.ite (.or (.not (.isi (.var 0) [.str])) (.cmp .ne (.bi .len [(.var 0)]) (.var 1))) [.ret (.con (.bl false))] [],
  .forr [3] (.var 0) [.ite (.cmp .nin (.var 3) (.var 2)) [.ret (.con (.bl false))] []] [3],
  .ret (.con (.bl true))]
section
variable (gl : Nat → Option D) (cl : Nat → List D → Sto → R D)
theorem fit_yes (s g : List Nat) (n : Int) (μ : Sto) : (xSs gl cl fitB [.val (.str s), .val (.int n), .val (.str g), .un] μ).bind (outF false) = .ok (.bl (decide ((s.length : Int) = n) && s.all fun c => g.contains c)) μ := by
  by_cases hn : (s.length : Int) = n
  · have hl := fit_loop gl cl s g n μ s
    generalize (s.all fun c => g.contains c) = q at hl ⊢
    cases q <;> simp [fitB, hn, hl]
  · simp [fitB, hn]
def pointsB : List S := [.asg [1] (.lst [(.con (.str []))]),
  .forr [2] (.var 0) [.own 3 (.lst []), .forr [4] (.var 1) [.ite (.cmp .ne (.var 2) (.con (.str [49]))) [.app 3 (.bin .add (.var 4) (.con (.str [48])))] [], .ite (.cmp .ne (.var 2) (.con (.str [48]))) [.app 3 (.bin .add (.var 4) (.con (.str [49])))] []] [4], .frz 3, .asg [1] (.var 3)] [2, 3, 4],
  .ret (.var 1)]
theorem points_s {c : List Nat} (hc : ∀ x ∈ c, x = 48 ∨ x = 49 ∨ x = 45) (h5 : c.length ≤ 5) (μ : Sto) : (xSs gl cl pointsB [.val (.str c), .un, .un, .un, .un] μ).bind (outF false) = .ok (.lst (SL (Q c01 c))) μ := by
  have hp : 1 * 3 ^ c.length ≤ 100000 := by
    have := Nat.pow_le_pow_right (n := 3) (by decide) h5
    omega
  have e := pts_loop gl cl (.str c) μ c 0 1 [[]] hc ⟨fun r h => by simp at h; simp [h], by simp⟩ (by omega) hp
  rw [foldl_Q] at e
  simp at e
  simp [pointsB, e]
def rowsB : List S := [.asg [2] (.lst [(.con (.str []))]),
  .forr [3] (.rng1 (.var 0)) [.own 4 (.lst []), .forr [5] (.var 2) [.forr [6] (.var 1) [.app 4 (.bin .add (.var 5) (.var 6))] [6]] [5, 6], .frz 4, .asg [2] (.var 4)] [3, 4, 5, 6],
  .ret (.var 2)]
theorem rows_s (n : Nat) (sg : List Nat) (hs : sg.length ≤ 3) (h5 : n ≤ 5) (μ : Sto) : (xSs gl cl rowsB [.val (.int n), .val (.str sg), .un, .un, .un, .un, .un] μ).bind (outF false) = .ok (.lst (SL (Q sg (List.replicate n 45)))) μ := by
  have hl : (rangeL 0 n).length = n := by simp [rangeL]
  have hp : 1 * 3 ^ (rangeL 0 n).length ≤ 100000 := by
    rw [hl]
    have := Nat.pow_le_pow_right (n := 3) (by decide) h5
    omega
  have e := rows_out gl cl (.int n) sg hs μ (rangeL 0 n) 0 1 [[]] ⟨fun r h => by simp at h; simp [h], by simp⟩ (by omega) hp
  rw [foldl_Q, hl] at e
  simp at e
  have hr := rng_nat (show n ≤ 1000 by omega)
  simp [rowsB, hr, e]
def drawB : List S := [.ite (.and (.cmp .eq (.ix (.var 0) (.con (.int 0))) (.con (.int 0))) (.cmp .gt (.bi .len [(.ix (.var 0) (.con (.int 2)))]) (.con (.int 0)))) [.lset (.var 0) (.con (.int 0)) (.ix (.ix (.var 0) (.con (.int 2))) (.con (.int 0))), .lset (.var 0) (.con (.int 2)) (.sl (.ix (.var 0) (.con (.int 2))) (some (.con (.int 1))) none)] [],
  .ite (.cmp .gt (.ix (.var 0) (.con (.int 0))) (.con (.int 0))) [.asg [4] (.bin .mod (.bi .int [(.ix (.var 0) (.con (.int 0)))]) (.var 1)), .lset (.var 0) (.con (.int 0)) (.bin .fdiv (.ix (.var 0) (.con (.int 0))) (.var 1)), .ret (.var 4)] [],
  .lset (.var 0) (.con (.int 1)) (.bin .add (.ix (.var 0) (.con (.int 1))) (.con (.int 1))),
  .asg [2] (.con (.int 0)),
  .ite (.cmp .gt (.bi .len [(.ix (.var 0) (.con (.int 3)))]) (.con (.int 0))) [.asg [2] (.ix (.ix (.var 0) (.con (.int 3))) (.bin .mod (.ix (.var 0) (.con (.int 1))) (.bi .len [(.ix (.var 0) (.con (.int 3)))])))] [],
  .asg [3] (.bin .mod (.bin .add (.bin .add (.bin .mul (.bi .int [(.var 2)]) (.con (.int 48271))) (.bin .mul (.ix (.var 0) (.con (.int 1))) (.con (.int 69621)))) (.con (.int 17))) (.con (.int 2147483647))),
  .asg [3] (.bin .mod (.bin .add (.bin .mul (.var 3) (.bin .add (.bin .fdiv (.var 3) (.con (.int 1009))) (.con (.int 69623)))) (.ix (.var 0) (.con (.int 1)))) (.con (.int 2147483629))),
  .asg [3] (.bin .mod (.bin .add (.bin .mul (.var 3) (.bin .add (.bin .fdiv (.var 3) (.con (.int 2003))) (.con (.int 40693)))) (.bin .mul (.ix (.var 0) (.con (.int 1))) (.con (.int 31)))) (.con (.int 2147483399))),
  .ret (.bin .mod (.bin .fdiv (.var 3) (.con (.int 16))) (.var 1))]
theorem draw_s {p : Nat} {m : Int} {μ : Sto} (h : St p μ) (hm : 0 < m) (hm2 : m < 1073741824) : ∃ r μ', (xSs gl cl drawB [.val (.loc p), .val (.int m), .un, .un, .un] μ).bind (outF false) = .ok (.int r) μ' ∧ 0 ≤ r ∧ r < m ∧ St p μ' := by
  obtain ⟨μ1, h1, e1⟩ := draw1 gl cl (m := m) h
  obtain ⟨a, b, bs, ss, hA⟩ := h1
  have hat := hA.at_
  have hat' : μ1 p = some (.lst [.int a, .int b, .lst (bs.map D.int), .lst (ss.map D.int)]) := hat
  have l0 : L2.ixN 4 0 = some 0 := by decide
  have l1 : L2.ixN 4 1 = some 1 := by decide
  unfold drawB
  rw [v_ss1, e1, bind_ok]
  by_cases ha : 0 < a
  · refine ⟨a % m, μ1.put p (mk (a / m) b bs ss), ?_, Int.emod_nonneg a (by omega), Int.emod_lt_of_pos a hm, a / m, b, bs, ss, put_same _ _ _, Int.ediv_nonneg hA.a0 (by omega), hA.bp⟩
    simp [ix0 hat, ha, mod_p hm, fdiv_p hm hm2, hat', l0, mk]
  · have fin : ∀ (seed : Int) (o : Int), o = b + 1 → ∃ r, 0 ≤ r ∧ r < m ∧ (xSs gl cl [.asg [3] (.bin .mod (.bin .add (.bin .add (.bin .mul (.bi .int [(.var 2)]) (.con (.int 48271))) (.bin .mul (.ix (.var 0) (.con (.int 1))) (.con (.int 69621)))) (.con (.int 17))) (.con (.int 2147483647))),
  .asg [3] (.bin .mod (.bin .add (.bin .mul (.var 3) (.bin .add (.bin .fdiv (.var 3) (.con (.int 1009))) (.con (.int 69623)))) (.ix (.var 0) (.con (.int 1)))) (.con (.int 2147483629))),
  .asg [3] (.bin .mod (.bin .add (.bin .mul (.var 3) (.bin .add (.bin .fdiv (.var 3) (.con (.int 2003))) (.con (.int 40693)))) (.bin .mul (.ix (.var 0) (.con (.int 1))) (.con (.int 31)))) (.con (.int 2147483399))),
  .ret (.bin .mod (.bin .fdiv (.var 3) (.con (.int 16))) (.var 1))] [.val (.loc p), .val (.int m), .val (.int seed), .un, .un] (μ1.put p (.lst [.int a, .int o, .lst (bs.map D.int), .lst (ss.map D.int)]))).bind (outF false) = .ok (.int r) (μ1.put p (.lst [.int a, .int o, .lst (bs.map D.int), .lst (ss.map D.int)])) := by
      intro seed o _
      generalize hx : (seed * 48271 + o * 69621 + 17) % 2147483647 = x
      have hx0 : small x = true := small_of (by omega) (by omega)
      generalize hy : (x * (x / 1009 + 69623) + o) % 2147483629 = y
      have hy0 : small y = true := small_of (by omega) (by omega)
      generalize hz : (y * (y / 2003 + 40693) + o * 31) % 2147483399 = z
      refine ⟨z / 16 % m, Int.emod_nonneg _ (by omega), Int.emod_lt_of_pos _ hm, ?_⟩
      have s1 : small 48271 = true := small_of (by decide) (by decide)
      have s2 : small 69621 = true := small_of (by decide) (by decide)
      have s3 : small 31 = true := small_of (by decide) (by decide)
      have m1 := fun i => mod_p (i := i) (j := 2147483647) (by decide)
      have m2 := fun i => mod_p (i := i) (j := 2147483629) (by decide)
      have m3 := fun i => mod_p (i := i) (j := 2147483399) (by decide)
      have f1 := fun i => fdiv_p (i := i) (j := 1009) (by decide) (by decide)
      have f2 := fun i => fdiv_p (i := i) (j := 2003) (by decide) (by decide)
      have f3 := fun i => fdiv_p (i := i) (j := 16) (by decide) (by decide)
      simp [px1, mul_r s1, mul_r s2, mul_r s3, m1, m2, m3, f1, f2, f3, hx, mul_l hx0, hy, mul_l hy0, hz, mod_p hm]
    have a0 : a = 0 := by have := hA.a0; omega
    generalize hrest : ([.asg [3] (.bin .mod (.bin .add (.bin .add (.bin .mul (.bi .int [(.var 2)]) (.con (.int 48271))) (.bin .mul (.ix (.var 0) (.con (.int 1))) (.con (.int 69621)))) (.con (.int 17))) (.con (.int 2147483647))),
  .asg [3] (.bin .mod (.bin .add (.bin .mul (.var 3) (.bin .add (.bin .fdiv (.var 3) (.con (.int 1009))) (.con (.int 69623)))) (.ix (.var 0) (.con (.int 1)))) (.con (.int 2147483629))),
  .asg [3] (.bin .mod (.bin .add (.bin .mul (.var 3) (.bin .add (.bin .fdiv (.var 3) (.con (.int 2003))) (.con (.int 40693)))) (.bin .mul (.ix (.var 0) (.con (.int 1))) (.con (.int 31)))) (.con (.int 2147483399))),
  .ret (.bin .mod (.bin .fdiv (.var 3) (.con (.int 16))) (.var 1))] : List S) = rest at fin ⊢
    by_cases hs : ss = []
    · obtain ⟨r, r0, r1, e⟩ := fin 0 (b + 1) rfl
      refine ⟨r, μ1.put p (.lst [.int a, .int (b + 1), .lst (bs.map D.int), .lst (ss.map D.int)]), ?_, r0, r1, a, b + 1, bs, ss, put_same _ _ _, hA.a0, hA.bp⟩
      subst hs
      simp [ix0 hat, ix1 hat, hat', ha, l1, px3] at e ⊢
      exact e
    · have hlen : 0 < ss.length := List.length_pos_iff.mpr hs
      have hl0 : (0 : Int) < ss.length := by omega
      obtain ⟨x, hx, ex⟩ := ixl (ss := ss) (i := (b + 1) % ss.length) (Int.emod_nonneg _ (by omega)) (Int.emod_lt_of_pos _ hl0) (μ1.put p (.lst [.int a, .int (b + 1), .lst (bs.map D.int), .lst (ss.map D.int)]))
      obtain ⟨r, r0, r1, e⟩ := fin x (b + 1) rfl
      refine ⟨r, μ1.put p (.lst [.int a, .int (b + 1), .lst (bs.map D.int), .lst (ss.map D.int)]), ?_, r0, r1, a, b + 1, bs, ss, put_same _ _ _, hA.a0, hA.bp⟩
      simp [ix0 hat, ix1 hat, hat', ha, l1, px3, px1, hlen, mod_p hl0, ex] at e ⊢
      exact e
def startB : List S := [.asg [1] (.lc [3] (.var 0) (some (.cmp .ge (.bi .abs [(.var 3)]) (.bin .pow (.con (.int 10)) (.con (.int 18))))) (.bi .abs [(.var 3)])),
  .asg [2] (.lc [3] (.var 0) (some (.cmp .lt (.bi .abs [(.var 3)]) (.bin .pow (.con (.int 10)) (.con (.int 18))))) (.var 3)),
  .ret (.new [(.con (.int 0)), (.con (.int 0)), (.var 1), (.var 2)])]
theorem pw : binop .pow (.int 10) (.int 18) = some (.int 1000000000000000000) := rfl
def ab (i : Int) : Int := if i < 0 then -i else i
theorem start_s (ns : List Int) (hl : ns.length ≤ 63) (μ : Sto) : ∃ bs ss : List Int, (∀ x ∈ bs, 0 ≤ x) ∧ (xSs gl cl startB [.val (.lst (ns.map D.int)), .un, .un, .un] μ).bind (outF false) = .any (fun p => μ p = none) fun p => .ok (.loc p) (μ.put p (mk 0 0 bs ss)) := by
  have ea : ∀ i : Int, builtin .abs [.int i] = some (.int (ab i)) := fun i => rfl
  have g1 := lc_gen D.int (fun n => if decide (1000000000000000000 ≤ ab n) then [D.int (ab n)] else []) (f := turnC gl cl [.val (.lst (ns.map D.int)), .un, .un, .un] [3] (some (.cmp .ge (.bi .abs [(.var 3)]) (.bin .pow (.con (.int 10)) (.con (.int 18))))) (.bi .abs [(.var 3)])) (μ := μ) ns [] (fun n _ acc ha => by
    rw [turnC_ok (γ' := [.val (.lst (ns.map D.int)), .un, .un, .val (.int n)]) (b := decide (1000000000000000000 ≤ ab n)) (v := .int (ab n)) rfl (by simp [ea, pw]) (fun _ => by simp [ea]) ha]
    by_cases h : 1000000000000000000 ≤ ab n <;> simp [h]) (fun n => by split <;> simp) (by simp; omega)
  have g2 := fun X : List D => lc_gen D.int (fun n => if decide (ab n < 1000000000000000000) then [D.int n] else []) (f := turnC gl cl [.val (.lst (ns.map D.int)), .val (.lst X), .un, .un] [3] (some (.cmp .lt (.bi .abs [(.var 3)]) (.bin .pow (.con (.int 10)) (.con (.int 18))))) (.var 3)) (μ := μ) ns [] (fun n _ acc ha => by
    rw [turnC_ok (γ' := [.val (.lst (ns.map D.int)), .val (.lst X), .un, .val (.int n)]) (b := decide (ab n < 1000000000000000000)) (v := .int n) rfl (by simp [ea, pw]) (fun _ => by simp) ha]
    by_cases h : ab n < 1000000000000000000 <;> simp [h]) (fun n => by split <;> simp) (by simp; omega)
  rw [flat_fm] at g1
  simp only [flat_fm, List.nil_append] at g1 g2
  have m1 : (ns.filter fun n => decide (1000000000000000000 ≤ ab n)).map (fun n => D.int (ab n)) = ((ns.filter fun n => decide (1000000000000000000 ≤ ab n)).map ab).map D.int := by rw [List.map_map]; rfl
  rw [m1] at g1
  refine ⟨(ns.filter fun n => decide (1000000000000000000 ≤ ab n)).map ab, ns.filter fun n => decide (ab n < 1000000000000000000), fun x hx => ?_, ?_⟩
  · rw [List.mem_map] at hx
    obtain ⟨n, _, rfl⟩ := hx
    unfold ab; split <;> omega
  · skip
    generalize ((ns.filter fun n => decide (1000000000000000000 ≤ ab n)).map ab) = bs at g1 ⊢
    generalize (ns.filter fun n => decide (ab n < 1000000000000000000)) = ss at g2 ⊢
    generalize hL : ns.map D.int = L at g1 g2 ⊢
    simp [startB, g1, g2, R.bind, mk]
end
end Bs
/-! Bs: trees as data. -/
namespace Bs
inductive T where | inp (i : Nat) | one | zero | not (t : T) | gate (a : Bool) (ts : List T)
abbrev sIn : List Nat := [105, 110]
abbrev sOne : List Nat := [111, 110, 101]
abbrev sZero : List Nat := [122, 101, 114, 111]
abbrev sNot : List Nat := [110, 111, 116]
abbrev sAnd : List Nat := [97, 110, 100]
abbrev sOr : List Nat := [111, 114]
def sGate (a : Bool) : List Nat := if a then sAnd else sOr
mutual
def enc : T → D
  | .inp i => .tup [.str sIn, .int i]
  | .one => .tup [.str sOne]
  | .zero => .tup [.str sZero]
  | .not t => .tup [.str sNot, enc t]
  | .gate a ts => .tup [.str (sGate a), .tup (encs ts)]
def encs : List T → List D
  | [] => []
  | t :: r => enc t :: encs r
end
theorem encs_map : ∀ ts : List T, encs ts = ts.map enc
  | [] => by simp [encs]
  | t :: r => by simp [encs, encs_map r]
mutual
def T.leaves : T → Nat
  | .inp _ => 1
  | .one => 1
  | .zero => 1
  | .not t => t.leaves
  | .gate _ ts => leavesS ts
def leavesS : List T → Nat
  | [] => 0
  | t :: r => t.leaves + leavesS r
end
mutual
def T.depth : T → Nat
  | .inp _ => 1
  | .one => 1
  | .zero => 1
  | .not t => t.depth + 1
  | .gate _ ts => depthS ts + 1
def depthS : List T → Nat
  | [] => 0
  | t :: r => max t.depth (depthS r)
end
/-! each gate has a part, not too many -/
mutual
def T.full : T → Prop
  | .not t => t.full
  | .gate _ ts => ts ≠ [] ∧ ts.length ≤ 1000 ∧ fullS ts
  | _ => True
def fullS : List T → Prop
  | [] => True
  | t :: r => t.full ∧ fullS r
end
/-! the letters are below n -/
mutual
def T.lt (n : Nat) : T → Bool
  | .inp i => decide (i < n)
  | .not t => t.lt n
  | .gate _ ts => ltS n ts
  | _ => true
def ltS (n : Nat) : List T → Bool
  | [] => true
  | t :: r => t.lt n && ltS n r
end
/-- the sign on a cube -/
def swp (s : Nat) : Nat := if s = 45 then 45 else if s = 48 then 49 else 48
def str01 (a : Bool) : Nat := if a then 48 else 49
def comb (a : Bool) (l : List Nat) : Nat := if str01 a ∈ l then str01 a else if 45 ∈ l then 45 else str01 (!a)
mutual
def T.sgn (c : List Nat) : T → Nat
  | .inp i => c[i]?.getD 0
  | .one => 49
  | .zero => 48
  | .not t => swp (t.sgn c)
  | .gate a ts => comb a (sgnS c ts)
def sgnS (c : List Nat) : List T → List Nat
  | [] => []
  | t :: r => t.sgn c :: sgnS c r
end
def mx (l : List Int) : Int := (maxL l).getD 0
mutual
def T.sz : T → Int × Int
  | .not t => ((t.sz).1, 1 + (t.sz).2)
  | .gate _ ts => (((szS ts).map (·.1)).sum, 1 + mx ((szS ts).map (·.2)))
  | _ => (1, 1)
def szS : List T → List (Int × Int)
  | [] => []
  | t :: r => t.sz :: szS r
end
def T.isLeaf : T → Bool
  | .inp _ => true
  | .one => true
  | .zero => true
  | _ => false
def T.parts : T → List T
  | .not t => [t]
  | .gate _ ts => ts
  | _ => []
def T.fits (n : Nat) : T → Bool
  | .inp i => decide (i < n)
  | _ => true
theorem T.depth_pos (t : T) : 0 < t.depth := by cases t <;> simp [T.depth]
section
variable (μ : Sto) (a b c : D)
@[simp] theorem tix20 : ixR (.tup [a, b]) (.int 0) μ = .ok a μ := by simp [ixR, deref, index, L2.atI, L2.ixN]
@[simp] theorem tix21 : ixR (.tup [a, b]) (.int 1) μ = .ok b μ := by simp [ixR, deref, index, L2.atI, L2.ixN]
@[simp] theorem tix10 : ixR (.tup [a]) (.int 0) μ = .ok a μ := by simp [ixR, deref, index, L2.atI, L2.ixN]
@[simp] theorem lix10 (r : List D) : ixR (.lst (a :: r)) (.int 0) μ = .ok a μ := by
  have : (0 : Int) < (r.length : Int) + 1 := by omega
  simp [ixR, deref, index, L2.atI, L2.ixN, this]
end
@[simp] theorem v_lent (xs : List D) : builtin .len [.tup xs] = some (.int xs.length) := Eq.trans rfl rfl
@[simp] theorem v_itt (xs : List D) (μ : Sto) : itemsR (.tup xs) μ = .ok xs μ := Eq.trans rfl rfl
@[simp] theorem v_it (xs : List D) : items (.tup xs) = some xs := Eq.trans rfl rfl
@[simp] theorem v_isitup (xs : List D) : isTys (.tup xs) [.tuple] = some true := Eq.trans rfl rfl
@[simp] theorem v_isibl (b : Bool) : isTys (.bl b) [.bool] = some true := Eq.trans rfl rfl
@[simp] theorem v_isiint (i : Int) : isTys (.int i) [.int] = some true := Eq.trans rfl rfl
@[simp] theorem v_isiintb (i : Int) : isTys (.int i) [.bool] = some false := Eq.trans rfl rfl
@[simp] theorem v_isilst (xs : List D) : isTys (.lst xs) [.list] = some true := Eq.trans rfl rfl
@[simp] theorem v_addt (a b : List D) (h : a.length + b.length ≤ 1000000) : binop .add (.tup a) (.tup b) = some (.tup (a ++ b)) := by simp [binop, h]
theorem ix_lst {xs : List D} {j : Nat} {x : D} (h : xs[j]? = some x) (μ : Sto) : ixR (.lst xs) (.int (j : Nat)) μ = .ok x μ := by
  have hj : j < xs.length := (List.getElem?_eq_some_iff.mp h).1
  have h1 : (j : Int) < xs.length := by omega
  have h2 : (0 : Int) ≤ j := by omega
  simp [ixR, deref, index, L2.atI, L2.ixN, h1, h2, h]
theorem ix_tup {xs : List D} {j : Nat} {x : D} (h : xs[j]? = some x) (μ : Sto) : ixR (.tup xs) (.int (j : Nat)) μ = .ok x μ := by
  have hj : j < xs.length := (List.getElem?_eq_some_iff.mp h).1
  have h1 : (j : Int) < xs.length := by omega
  have h2 : (0 : Int) ≤ j := by omega
  simp [ixR, deref, index, L2.atI, L2.ixN, h1, h2, h]
theorem in_strs (p : List Nat) (rows : List (List Nat)) : compare .in_ (.str p) (.tup (SL rows)) = some (.bl (decide (p ∈ rows))) := by
  show (inF (.str p) (SL rows)).map D.bl = _
  rw [inF_SL]; rfl
theorem in_str2 (p a b : List Nat) : compare .in_ (.str p) (.tup [.str a, .str b]) = some (.bl (decide (p = a ∨ p = b))) := by
  have := in_strs p [a, b]; simpa using this
theorem in_str3 (p a b c : List Nat) : compare .in_ (.str p) (.tup [.str a, .str b, .str c]) = some (.bl (decide (p = a ∨ p = b ∨ p = c))) := by
  have := in_strs p [a, b, c]; simpa using this
theorem in_lstr2 (p a b : List Nat) : compare .in_ (.str p) (.lst [.str a, .str b]) = some (.bl (decide (p = a ∨ p = b))) := by
  have := in_SL p [a, b]; simpa using this
theorem ints_int : ∀ l : List Int, intsD (l.map D.int) = some l
  | [] => rfl
  | i :: l => by simp [intsD, ints_int l]
theorem sum_i (l : List Int) : builtin .sum [.lst (l.map D.int)] = some (.int l.sum) := by
  show (intsD (l.map D.int)).map (fun is => D.int is.sum) = _
  rw [ints_int]; rfl
theorem max_i {l : List Int} (h : l ≠ []) : builtin .max [.lst (l.map D.int)] = some (.int (mx l)) := by
  show ((intsD (l.map D.int)).bind maxL).map D.int = _
  rw [ints_int]
  cases l with
  | nil => exact absurd rfl h
  | cons i r => rfl
theorem lc_map1 {α : Type} {f : D → List D → Sto → R (List D)} (emb v : α → D) {μ : Sto} (l : List α) (h : ∀ a ∈ l, ∀ acc : List D, acc.length < 1000000 → f (emb a) acc μ = .ok (acc ++ [v a]) μ) (hl : l.length ≤ 1000000) : lcL f (l.map emb) [] μ = .ok (l.map v) μ := by
  have := lc_gen emb (fun a => [v a]) (f := f) (μ := μ) l [] h (fun a => by simp) (by simpa using hl)
  rw [this]
  congr 1
  rw [List.nil_append]
  clear h hl this
  induction l with
  | nil => rfl
  | cons a l ih => rw [List.flatMap_cons, ih]; rfl
theorem chars_SL (l : List Nat) : chars l = SL (l.map fun c => [c]) := by simp [chars]
theorem in_chars (s : Nat) (l : List Nat) : compare .in_ (.str [s]) (.lst (chars l)) = some (.bl (decide (s ∈ l))) := by
  rw [chars_SL, in_SL]
  congr 2
  simp
theorem mx_lt (m : Int) : ∀ (l : List Int) (i : Int), mx (i :: l) < m ↔ i < m ∧ ∀ x ∈ l, x < m := by
  intro l
  show ∀ i, l.foldl (fun a b => if a < b then b else a) i < m ↔ _
  induction l with
  | nil => intro i; simp
  | cons x l ih =>
    intro i
    rw [List.foldl_cons, ih]
    constructor
    · rintro ⟨h1, h2⟩
      split at h1
      · exact ⟨by omega, fun y hy => (List.mem_cons.mp hy).elim (fun e => by subst e; exact h1) (h2 y)⟩
      · exact ⟨h1, fun y hy => (List.mem_cons.mp hy).elim (fun e => by subst e; omega) (h2 y)⟩
    · rintro ⟨h1, h2⟩
      have := h2 x List.mem_cons_self
      exact ⟨by split <;> omega, fun y hy => h2 y (List.mem_cons_of_mem _ hy)⟩
def encSz (p : Int × Int) : D := .tup [.int p.1, .int p.2]
theorem szS_len : ∀ ts : List T, (szS ts).length = ts.length
  | [] => rfl
  | t :: r => by simp [szS, szS_len r]
theorem sgnS_len (c : List Nat) : ∀ ts : List T, (sgnS c ts).length = ts.length
  | [] => rfl
  | t :: r => by simp [sgnS, sgnS_len c r]
theorem swp_al {s : Nat} (h : s = 48 ∨ s = 49 ∨ s = 45) : swp s = 48 ∨ swp s = 49 ∨ swp s = 45 := by rcases h with rfl | rfl | rfl <;> decide
theorem comb_al (a : Bool) (l : List Nat) : comb a l = 48 ∨ comb a l = 49 ∨ comb a l = 45 := by
  unfold comb
  by_cases h1 : str01 a ∈ l
  · rw [if_pos h1]; cases a <;> simp [str01]
  · rw [if_neg h1]
    by_cases h2 : 45 ∈ l
    · rw [if_pos h2]; simp
    · rw [if_neg h2]; cases a <;> simp [str01]
theorem T.sgn_al {c : List Nat} (hc : Al c) : ∀ t : T, t.lt c.length = true → t.sgn c = 48 ∨ t.sgn c = 49 ∨ t.sgn c = 45
  | .inp i, h => by
    have hi : i < c.length := by simpa [T.lt] using h
    simp only [T.sgn, List.getElem?_eq_getElem hi, Option.getD_some]
    exact hc _ (List.getElem_mem hi)
  | .one, _ => by simp [T.sgn]
  | .zero, _ => by simp [T.sgn]
  | .not t, h => by simp only [T.sgn]; exact swp_al (T.sgn_al hc t h)
  | .gate a ts, _ => by simp only [T.sgn]; exact comb_al a _
end Bs
/-! Bs: outcomes by wishes; the draws of type C. -/
namespace Bs
theorem bind_any {α β : Type} (P : Nat → Prop) (k : Nat → R α) (f : α → Sto → R β) : (R.any P k).bind f = .any P fun p => (k p).bind f := Eq.trans rfl rfl
theorem bind_assoc {α β δ : Type} (r : R α) (f : α → Sto → R β) (g : β → Sto → R δ) : (r.bind f).bind g = r.bind fun a μ => (f a μ).bind g := by
  induction r with
  | ok a μ => rfl
  | exc x γ μ => rfl
  | fail => rfl
  | any P k ih => simp only [R.bind]; congr 1; funext p; exact ih p
theorem back_bind {α β : Type} (r : R α) (f : α → Sto → R β) (γ : Ga) : (r.bind f).back γ = (r.back γ).bind fun a μ => (f a μ).back γ := by
  induction r with
  | ok a μ => rfl
  | exc x γ μ => rfl
  | fail => rfl
  | any P k ih => simp only [R.bind, R.back]; congr 1; funext p; exact ih p
abbrev Wn : Xc → Ga → Sto → Prop := fun _ _ _ => False
theorem all_back {α : Type} {r : R α} {γ : Ga} {Q : α → Sto → Prop} (h : r.All Q Wn) : (r.back γ).All Q Wn := by
  induction r with
  | ok a μ => exact h
  | exc x γ μ => exact h.elim
  | fail => exact h
  | any P k ih => exact fun p hp => ih p (h p hp)
theorem all_nox {α : Type} {r : R α} {Q : α → Sto → Prop} {W : Xc → Ga → Sto → Prop} (h : r.All Q Wn) : r.nox.All Q W := by
  induction r with
  | ok a μ => exact h
  | exc x γ μ => exact h.elim
  | fail => exact h
  | any P k ih => exact fun p hp => ih p (h p hp)
/-- a step, then the rest -/
theorem all_step {α β : Type} {r : R α} {f : α → Sto → R β} {P : α → Sto → Prop} {Q : β → Sto → Prop} {W : Xc → Ga → Sto → Prop} (h : r.All P W) (k : ∀ a μ, P a μ → (f a μ).All Q W) : (r.bind f).All Q W := by
  rw [R.All_bind]; exact h.mono k fun _ _ _ w => w
/-- a call, then the rest -/
theorem all_call {β : Type} {r : R D} {γ : Ga} {f : D → Sto → R β} {P : D → Sto → Prop} {Q : β → Sto → Prop} (h : r.All P Wn) (k : ∀ a μ, P a μ → (f a μ).All Q Wn) : ((r.back γ).bind f).All Q Wn := all_step (all_back h) k
theorem all_is {α : Type} {a : α} {μ : Sto} {Q : α → Sto → Prop} {W : Xc → Ga → Sto → Prop} (h : Q a μ) : (R.ok a μ).All Q W := h
theorem all_any {α : Type} {P : Nat → Prop} {k : Nat → R α} {Q : α → Sto → Prop} {W : Xc → Ga → Sto → Prop} (h : ∀ p, P p → (k p).All Q W) : (R.any P k).All Q W := h
theorem all_call1 {r : R D} {γ : Ga} {P : D → Sto → Prop} {Q : D → Sto → Prop} (h : r.All P Wn) (k : ∀ a μ, P a μ → Q a μ) : (r.back γ).All Q Wn := all_back (h.mono k fun _ _ _ w => w)
/-! ### the state of the draws of type C -/
/-- the state stands at p, its cells at q -/
structure Sc (p q : Nat) (μ : Sto) : Prop where
  ne : p ≠ q
  st : ∃ n : Int, 0 ≤ n ∧ μ p = some (.lst [.loc q, .int n])
  ce : ∃ cs : List Int, cs ≠ [] ∧ cs.length ≤ 63 ∧ μ q = some (.lst (cs.map D.int))
/-- nothing else is changed -/
def Frm (L : List Nat) (μ μ' : Sto) : Prop := ∀ r, μ r ≠ none → r ∉ L → μ' r = μ r
theorem Frm.refl {L : List Nat} {μ : Sto} : Frm L μ μ := fun _ _ _ => rfl
theorem Frm.trans {L : List Nat} {μ μ1 μ2 : Sto} (a : Frm L μ μ1) (b : Frm L μ1 μ2) : Frm L μ μ2 := fun r h n => by
  have e := a r h n
  rw [b r (by rw [e]; exact h) n, e]
theorem Frm.weak {L L' : List Nat} {μ μ' : Sto} (a : Frm L μ μ') (h : ∀ r, r ∈ L → r ∈ L') : Frm L' μ μ' := fun r m n => a r m fun z => n (h r z)
theorem put_ne {μ : Sto} {p r : Nat} {o : Ob} (h : r ≠ p) : (μ.put p o) r = μ r := by simp [Sto.put, h]
theorem Frm.put {L : List Nat} {μ : Sto} {p : Nat} {o : Ob} (h : p ∈ L ∨ μ p = none) : Frm L μ (μ.put p o) := fun r m n => put_ne fun e => by
  subst e
  rcases h with h | h
  · exact n h
  · exact m h
theorem ix_cells {cs : List Int} {n : Nat} (h : n < cs.length) (q : Nat) (μ : Sto) (e : μ q = some (.lst (cs.map D.int))) : ixR (.loc q) (.int (n : Nat)) μ = .ok (.int (cs[n]'h)) μ := by
  have h1 : (n : Int) < cs.length := by omega
  have h2 : (0 : Int) ≤ n := by omega
  simp [ixR, deref, e, index, L2.atI, L2.ixN, h1, h2, h]
section
variable (gl : Nat → Option D) (cl : Nat → List D → Sto → R D)
abbrev drawC : List S := [.asg [2] (.ix (.var 0) (.con (.int 0))),
  .asg [3] (.bin .mod (.bi .int [(.ix (.var 0) (.con (.int 1)))]) (.bi .len [(.var 2)])),
  .lset (.var 0) (.con (.int 1)) (.bin .add (.bi .int [(.ix (.var 0) (.con (.int 1)))]) (.con (.int 1))),
  .asg [4] (.bi .int [(.ix (.var 2) (.var 3))]),
  .ite (.cmp .ge (.var 4) (.bin .pow (.con (.int 10)) (.con (.int 18)))) [.lset (.var 2) (.var 3) (.bin .fdiv (.var 4) (.var 1)), .ret (.bin .mod (.bi .int [(.var 4)]) (.var 1))] [],
  .asg [5] (.bin .mod (.bin .mul (.bi .int [(.bin .add (.bin .add (.bin .mul (.var 4) (.con (.int 69621))) (.bin .mul (.con (.int 7919)) (.bi .int [(.ix (.var 0) (.con (.int 1)))]))) (.con (.int 1)))]) (.con (.int 48271))) (.con (.int 2147483647))),
  .asg [5] (.bin .mod (.bi .int [(.bin .mul (.var 5) (.bin .add (.bin .fdiv (.var 5) (.con (.int 1009))) (.con (.int 69621))))]) (.con (.int 2147483647))),
  .asg [5] (.bin .mod (.bi .int [(.bin .mul (.var 5) (.bin .add (.bin .fdiv (.var 5) (.con (.int 2003))) (.con (.int 40692))))]) (.con (.int 2147483399))),
  .ret (.bin .mod (.bi .int [(.bin .fdiv (.var 5) (.con (.int 16)))]) (.var 1))]
@[simp] theorem v_lenloc (p : Nat) : builtin .len [.loc p] = none := Eq.trans rfl rfl
theorem drawC_s {p q : Nat} {m : Int} {μ : Sto} (h : Sc p q μ) (hm : 0 < m) (hm2 : m < 1073741824) : ∃ r μ', (xSs gl cl drawC [.val (.loc p), .val (.int m), .un, .un, .un, .un] μ).bind (outF false) = .ok (.int r) μ' ∧ 0 ≤ r ∧ r < m ∧ Sc p q μ' ∧ Frm [p, q] μ μ' := by
  obtain ⟨n, hn, hst⟩ := h.st
  obtain ⟨cs, hne, hl, hce⟩ := h.ce
  have hlen : 0 < cs.length := List.length_pos_iff.mpr hne
  have hl0 : (0 : Int) < cs.length := by omega
  obtain ⟨j, hj, ej⟩ : ∃ j : Nat, j < cs.length ∧ n % (cs.length : Int) = (j : Int) := by
    have h1 := Int.emod_nonneg n (b := cs.length) (by omega)
    have h2 := Int.emod_lt_of_pos n hl0
    exact ⟨(n % (cs.length : Int)).toNat, by omega, by omega⟩
  have hqp : q ≠ p := fun e => h.ne e.symm
  have l20 : L2.ixN 2 0 = some 0 := by decide
  have l21 : L2.ixN 2 1 = some 1 := by decide
  have e0 : ∀ (μ : Sto) (n : Int), μ p = some (.lst [.loc q, .int n]) → ixR (.loc p) (.int 0) μ = .ok (.loc q) μ := fun μ n e => by simp [ixR, deref, e, index, L2.atI, l20]
  have e1 : ∀ (μ : Sto) (n : Int), μ p = some (.lst [.loc q, .int n]) → ixR (.loc p) (.int 1) μ = .ok (.int n) μ := fun μ n e => by simp [ixR, deref, e, index, L2.atI, l21]
  generalize hμ1 : μ.put p (.lst [.loc q, .int (n + 1)]) = μ1
  have hst1 : μ1 p = some (.lst [.loc q, .int (n + 1)]) := by rw [← hμ1]; exact put_same _ _ _
  have hce1 : μ1 q = some (.lst (cs.map D.int)) := by rw [← hμ1, put_ne hqp]; exact hce
  have hf1 : Frm [p, q] μ μ1 := by rw [← hμ1]; exact Frm.put (.inl (by simp))
  have hlj : L2.ixN cs.length (j : Int) = some j := by
    have h1 : (j : Int) < cs.length := by omega
    have h2 : (0 : Int) ≤ j := by omega
    simp [L2.ixN, h1, h2]
  have ec := ix_cells hj q μ1 hce1
  have hmod := fun i => mod_p (i := i) hl0
  have hlenq : orO (builtin .len [.loc q]) (builtin .len [dr μ (.loc q)]) μ = .ok (.int cs.length) μ := by
    rw [dr_loc hce]; simp
  have c10 : binop .pow (.int 10) (.int 18) = some (.int 1000000000000000000) := by rfl
  have pre : ∀ rest : List S, xSs gl cl ([.asg [2] (.ix (.var 0) (.con (.int 0))),
      .asg [3] (.bin .mod (.bi .int [(.ix (.var 0) (.con (.int 1)))]) (.bi .len [(.var 2)])),
      .lset (.var 0) (.con (.int 1)) (.bin .add (.bi .int [(.ix (.var 0) (.con (.int 1)))]) (.con (.int 1))),
      .asg [4] (.bi .int [(.ix (.var 2) (.var 3))])] ++ rest) [.val (.loc p), .val (.int m), .un, .un, .un, .un] μ = xSs gl cl rest [.val (.loc p), .val (.int m), .val (.loc q), .val (.int j), .val (.int (cs[j]'hj)), .un] μ1 := by
    intro rest
    simp [e0 μ n hst, e1 μ n hst, dr_loc hce, hmod, ej, hst, l21, hμ1, ec]
  have sp := pre [.ite (.cmp .ge (.var 4) (.bin .pow (.con (.int 10)) (.con (.int 18)))) [.lset (.var 2) (.var 3) (.bin .fdiv (.var 4) (.var 1)), .ret (.bin .mod (.bi .int [(.var 4)]) (.var 1))] [],
  .asg [5] (.bin .mod (.bin .mul (.bi .int [(.bin .add (.bin .add (.bin .mul (.var 4) (.con (.int 69621))) (.bin .mul (.con (.int 7919)) (.bi .int [(.ix (.var 0) (.con (.int 1)))]))) (.con (.int 1)))]) (.con (.int 48271))) (.con (.int 2147483647))),
  .asg [5] (.bin .mod (.bi .int [(.bin .mul (.var 5) (.bin .add (.bin .fdiv (.var 5) (.con (.int 1009))) (.con (.int 69621))))]) (.con (.int 2147483647))),
  .asg [5] (.bin .mod (.bi .int [(.bin .mul (.var 5) (.bin .add (.bin .fdiv (.var 5) (.con (.int 2003))) (.con (.int 40692))))]) (.con (.int 2147483399))),
  .ret (.bin .mod (.bi .int [(.bin .fdiv (.var 5) (.con (.int 16)))]) (.var 1))]
  simp only [List.cons_append, List.nil_append] at sp
  unfold drawC
  rw [sp]
  clear sp pre
  generalize cs[j]'hj = x
  by_cases hx : (1000000000000000000 : Int) ≤ x
  · refine ⟨x % m, μ1.put q (.lst ((cs.set j (x / m)).map D.int)), ?_, Int.emod_nonneg _ (by omega), Int.emod_lt_of_pos _ hm, ⟨h.ne, ⟨n + 1, by omega, by rw [put_ne h.ne]; exact hst1⟩, cs.set j (x / m), fun z => hne (by simpa using z), by simpa using hl, put_same _ _ _⟩, hf1.trans (Frm.put (.inl (by simp)))⟩
    simp [c10, hx, mod_p hm, fdiv_p hm hm2, hce1, hlj, List.map_set]
  · generalize hy : (x * 69621 + 7919 * (n + 1) + 1) * 48271 % 2147483647 = y
    have hy0 : small y = true := small_of (by omega) (by omega)
    generalize hz : (y * (y / 1009 + 69621)) % 2147483647 = z
    have hz0 : small z = true := small_of (by omega) (by omega)
    generalize hw : (z * (z / 2003 + 40692)) % 2147483399 = w
    refine ⟨w / 16 % m, μ1, ?_, Int.emod_nonneg _ (by omega), Int.emod_lt_of_pos _ hm, ⟨h.ne, ⟨n + 1, by omega, hst1⟩, cs, hne, hl, hce1⟩, hf1⟩
    have s1 : small 48271 = true := small_of (by decide) (by decide)
    have s2 : small 69621 = true := small_of (by decide) (by decide)
    have s3 : small 7919 = true := small_of (by decide) (by decide)
    have m1 := fun i => mod_p (i := i) (j := 2147483647) (by decide)
    have m3 := fun i => mod_p (i := i) (j := 2147483399) (by decide)
    have f1 := fun i => fdiv_p (i := i) (j := 1009) (by decide) (by decide)
    have f2 := fun i => fdiv_p (i := i) (j := 2003) (by decide) (by decide)
    have f3 := fun i => fdiv_p (i := i) (j := 16) (by decide) (by decide)
    simp [c10, hx, e1 μ1 (n + 1) hst1, mul_r s1, mul_r s2, mul_l s3, m1, m3, f1, f2, f3, hy, mul_l hy0, hz, mul_l hz0, hw, mod_p hm]
abbrev startC : List S := [.asg [1] (.sto (.lc [2] (.sl (.var 0) none (some (.con (.int 63)))) none (.bi .int [(.var 2)]))),
  .ite (.cmp .eq (.var 1) (.lst [])) [.asg [1] (.sto (.lst [(.con (.int 0))]))] [],
  .ret (.new [(.var 1), (.con (.int 0))])]
theorem cut_all {α : Type} (xs : List α) (h : xs.length ≤ 63) : cut xs none (some 63) = xs := by
  unfold cut
  have h1 : HT.sIx xs.length 0 none = 0 := by simp [HT.sIx]
  have h2 : HT.sIx xs.length xs.length (some 63) = xs.length := by
    unfold HT.sIx
    simp
    omega
  rw [h1, h2]
  simp
theorem lc_ints (γ : Ga) (hγ : 2 < γ.length) (μ : Sto) : ∀ (ns : List Int) (acc : List D), acc.length + ns.length ≤ 1000000 → lcL (turnC gl cl γ [2] none (.bi .int [(.var 2)])) (ns.map D.int) acc μ = .ok (acc ++ ns.map D.int) μ
  | [], acc, _ => by simp [lcL]
  | n :: ns, acc, h => by
    rw [List.length_cons] at h
    have ih := lc_ints γ hγ μ ns (acc ++ [.int n]) (by simp; omega)
    have ha : acc.length < 1000000 := by omega
    have g : (γ.set 2 (.val (.int n)))[2]? = some (.val (.int n)) := List.getElem?_set_self hγ
    rw [List.map_cons]
    unfold lcL
    have e : turnC gl cl γ [2] none (.bi .int [(.var 2)]) (.int n) acc μ = .ok (acc ++ [.int n]) μ := by
      unfold turnC setTR
      simp only [v_wipe1, v_wipe0, v_setT, List.set_set, v_c0, bind_ok, if_true, v_bi, v_es1, v_es0, v_var, g, v_int, orO_some]
      simp [addL, ha]
    rw [e]
    simp only [bind_ok]
    rw [ih]
    simp
theorem startC_s (ns : List Int) (hl : ns.length ≤ 63) (μ : Sto) : ((xSs gl cl startC [.val (.lst (ns.map D.int)), .un, .un] μ).bind (outF false)).All (fun d μ' => ∃ p q, d = .loc p ∧ Sc p q μ' ∧ Frm [] μ μ') Wn := by
  have ec : slice (.lst (ns.map D.int)) none (some 63) = some (.lst (ns.map D.int)) := by
    simp only [slice]
    rw [cut_all _ (by simpa using hl)]
  have el := lc_ints gl cl [.val (.lst (ns.map D.int)), .un, .un] (by simp) μ ns [] (by simp; omega)
  simp only [List.nil_append] at el
  unfold startC
  simp only [v_ss1, v_asg, v_sto, v_lc, v_sl, v_var, List.getElem?_cons_zero, bind_ok, v_o0, v_o1, v_con, intR, ec, orO_some, v_il, el, nox_ok, v_stoR]
  show ∀ q0, μ q0 = none → _
  intro q0 hq0
  simp only [bind_ok, v_setT, List.set_cons_succ, List.set_cons_zero]
  have h1 : (μ.put q0 (.lst (ns.map D.int))) q0 = some (.lst (ns.map D.int)) := put_same _ _ _
  have hf1 : Frm [] μ (μ.put q0 (.lst (ns.map D.int))) := Frm.put (.inr hq0)
  by_cases hn : ns = []
  · subst hn
    have eq0 : compare .eq (.loc q0) (.lst []) = none := rfl
    have eq1 : compare .eq (.lst []) (.lst []) = some (.bl true) := rfl
    simp only [List.map_nil] at h1 hf1 ⊢
    simp only [v_if, v_cond, v_cmp, v_var, v_lst, v_es0, List.getElem?_cons_succ, List.getElem?_cons_zero, bind_ok, eq0, orO_none, dr_loc h1, dr_lst, eq1, ofO_s, v_tbl, if_true, v_ss1, v_asg, v_sto, v_es1, v_con, v_stoR]
    show ∀ q, _ → _
    intro q hq
    simp only [bind_ok, v_setT, v_ss0, List.set_cons_succ, List.set_cons_zero, v_ret, v_new, v_es1, v_es0, v_var, v_con, List.getElem?_cons_succ, List.getElem?_cons_zero]
    intro p hp
    have hpq : p ≠ q := fun e => by rw [e, put_same] at hp; cases hp
    refine ⟨p, q, rfl, ⟨hpq, ⟨0, by decide, put_same _ _ _⟩, [0], by simp, by simp, ?_⟩, hf1.trans ((Frm.put (.inr hq)).trans (Frm.put (.inr hp)))⟩
    rw [put_ne (Ne.symm hpq), put_same]; rfl
  · obtain ⟨n, ns', rfl⟩ := List.exists_cons_of_ne_nil hn
    have eq0 : compare .eq (.loc q0) (.lst []) = none := rfl
    have hpl : ∀ l : List Int, plains 59 (l.map D.int) = true := fun l => by induction l with
      | nil => rfl
      | cons a l ih => simp [plains, plain, ih]
    have eq1 : compare .eq (.lst ((n :: ns').map D.int)) (.lst []) = some (.bl false) := by
      have h2 := hpl (n :: ns')
      simp only [compare, eqD, plain, h2, plains, Bool.and_self, if_true, Option.map_some]
      rfl
    simp only [v_if, v_cond, v_cmp, v_var, v_lst, v_es0, List.getElem?_cons_succ, List.getElem?_cons_zero, bind_ok, eq0, orO_none, dr_loc h1, dr_lst, eq1, ofO_s, v_tbl, if_false, v_ss1, v_ss0, Bool.false_eq_true, v_ret, v_new, v_es1, v_con]
    intro p hp
    have hpq : p ≠ q0 := fun e => by rw [e, put_same] at hp; cases hp
    refine ⟨p, q0, rfl, ⟨hpq, ⟨0, by decide, put_same _ _ _⟩, n :: ns', by simp, hl, ?_⟩, hf1.trans (Frm.put (.inr hp))⟩
    rw [put_ne (Ne.symm hpq), put_same]
end
end Bs
/-! Bs: the draws of type B. -/
namespace Bs
/-- the state stands at p, its great cells at q -/
structure Sb (p q : Nat) (μ : Sto) : Prop where
  ne : p ≠ q
  st : ∃ (cs : List Int) (a n : Int), cs.length ≤ 63 ∧ 0 ≤ a ∧ 0 ≤ n ∧ μ p = some (.lst [.lst (cs.map D.int), .loc q, .int a, .int n])
  ce : ∃ bs : List Int, bs.length ≤ 63 ∧ (∀ b ∈ bs, 0 ≤ b) ∧ μ q = some (.lst (bs.map D.int))
section
variable (gl : Nat → Option D) (cl : Nat → List D → Sto → R D)
abbrev dwB2 : List S := [
  .asg [2] (.con (.int 0)),
  .ite (.cmp .gt (.bi .len [(.ix (.var 0) (.con (.int 0)))]) (.con (.int 0))) [.asg [2] (.ix (.ix (.var 0) (.con (.int 0))) (.bin .mod (.bi .int [(.ix (.var 0) (.con (.int 3)))]) (.bi .len [(.ix (.var 0) (.con (.int 0)))])))] [],
  .asg [3] (.bin .mod (.bi .int [(.bin .add (.bin .add (.var 2) (.bin .mul (.con (.int 7919)) (.ix (.var 0) (.con (.int 3))))) (.con (.int 1)))]) (.con (.int 2147483647))),
  .asg [3] (.bin .add (.bin .mod (.bi .int [(.bin .add (.bin .mul (.var 3) (.con (.int 48271))) (.ix (.var 0) (.con (.int 3))))]) (.con (.int 2147483629))) (.con (.int 1))),
  .asg [3] (.bin .mod (.bi .int [(.bin .mul (.var 3) (.bin .add (.bin .fdiv (.var 3) (.con (.int 1009))) (.con (.int 69621))))]) (.con (.int 2147483647))),
  .asg [3] (.bin .mod (.bi .int [(.bin .mul (.var 3) (.bin .add (.bin .fdiv (.var 3) (.con (.int 2003))) (.con (.int 40692))))]) (.con (.int 2147483399))),
  .ret (.bin .mod (.bi .int [(.bin .fdiv (.var 3) (.con (.int 16)))]) (.var 1))]
abbrev dwB1 : List S := .ite (.cmp .gt (.ix (.var 0) (.con (.int 2))) (.con (.int 0))) [.asg [4] (.bin .mod (.bi .int [(.ix (.var 0) (.con (.int 2)))]) (.var 1)), .lset (.var 0) (.con (.int 2)) (.bin .fdiv (.ix (.var 0) (.con (.int 2))) (.var 1)), .ret (.var 4)] [] :: dwB2
abbrev dwB0 : List S := .ite (.and (.cmp .eq (.ix (.var 0) (.con (.int 2))) (.con (.int 0))) (.cmp .gt (.bi .len [(.ix (.var 0) (.con (.int 1)))]) (.con (.int 0)))) [.lset (.var 0) (.con (.int 2)) (.popl (.ix (.var 0) (.con (.int 1))) (.con (.int 0)))] [] :: dwB1
abbrev dwB : List S := .lset (.var 0) (.con (.int 3)) (.bin .add (.ix (.var 0) (.con (.int 3))) (.con (.int 1))) :: dwB0
theorem st_ix {p : Nat} {x0 x1 x2 x3 : D} {μ : Sto} (e : μ p = some (.lst [x0, x1, x2, x3])) : ixR (.loc p) (.int 0) μ = .ok x0 μ ∧ ixR (.loc p) (.int 1) μ = .ok x1 μ ∧ ixR (.loc p) (.int 2) μ = .ok x2 μ ∧ ixR (.loc p) (.int 3) μ = .ok x3 μ := by
  have l0 : L2.ixN 4 0 = some 0 := by decide
  have l1 : L2.ixN 4 1 = some 1 := by decide
  have l2 : L2.ixN 4 2 = some 2 := by decide
  have l3 : L2.ixN 4 3 = some 3 := by decide
  refine ⟨?_, ?_, ?_, ?_⟩ <;> simp [ixR, deref, e, index, L2.atI, l0, l1, l2, l3]
theorem dwB2_s {p q : Nat} {m : Int} {μ : Sto} {cs : List Int} {n : Int} (g4 : Sl) (hcl : cs.length ≤ 63) (hn : 0 ≤ n) (e : μ p = some (.lst [.lst (cs.map D.int), .loc q, .int 0, .int n])) (hm : 0 < m) (hm2 : m < 1073741824) :
    ∃ r, (xSs gl cl dwB2 [.val (.loc p), .val (.int m), .un, .un, g4] μ).bind (outF false) = .ok (.int r) μ ∧ 0 ≤ r ∧ r < m := by
  obtain ⟨i0, i1, i2, i3⟩ := st_ix e
  obtain ⟨x, hx⟩ : ∃ x : Int, ∀ rest : List S, xSs gl cl ([.asg [2] (.con (.int 0)),
      .ite (.cmp .gt (.bi .len [(.ix (.var 0) (.con (.int 0)))]) (.con (.int 0))) [.asg [2] (.ix (.ix (.var 0) (.con (.int 0))) (.bin .mod (.bi .int [(.ix (.var 0) (.con (.int 3)))]) (.bi .len [(.ix (.var 0) (.con (.int 0)))])))] []] ++ rest) [.val (.loc p), .val (.int m), .un, .un, g4] μ = xSs gl cl rest [.val (.loc p), .val (.int m), .val (.int x), .un, g4] μ := by
    by_cases hc : cs = []
    · subst hc
      refine ⟨0, fun rest => ?_⟩
      simp [i0]
    · have hlen : 0 < cs.length := List.length_pos_iff.mpr hc
      have hl0 : (0 : Int) < cs.length := by omega
      obtain ⟨j, hj, ej⟩ : ∃ j : Nat, j < cs.length ∧ n % (cs.length : Int) = (j : Int) := by
        have h1 := Int.emod_nonneg n (b := cs.length) (by omega)
        have h2 := Int.emod_lt_of_pos n hl0
        exact ⟨(n % (cs.length : Int)).toNat, by omega, by omega⟩
      have ec : ixR (.lst (cs.map D.int)) (.int (j : Int)) μ = .ok (.int (cs[j]'hj)) μ := by
        have h1 : (j : Int) < cs.length := by omega
        have h2 : (0 : Int) ≤ j := by omega
        simp [ixR, deref, index, L2.atI, L2.ixN, h1, h2, hj]
      refine ⟨cs[j]'hj, fun rest => ?_⟩
      have hmod := fun i => mod_p (i := i) hl0
      simp [i0, i3, hl0, hlen, hmod, ej, ec]
  have sp := hx dwB2.tail.tail
  generalize hy : (x + 7919 * n + 1) % 2147483647 = y
  have hy0 : small y = true := small_of (by omega) (by omega)
  generalize hy' : (y * 48271 + n) % 2147483629 + 1 = y'
  have hy0' : small y' = true := small_of (by omega) (by omega)
  generalize hz : (y' * (y' / 1009 + 69621)) % 2147483647 = z
  have hz0 : small z = true := small_of (by omega) (by omega)
  generalize hw : (z * (z / 2003 + 40692)) % 2147483399 = w
  refine ⟨w / 16 % m, ?_, Int.emod_nonneg _ (by omega), Int.emod_lt_of_pos _ hm⟩
  have s1 : small 48271 = true := small_of (by decide) (by decide)
  have s3 : small 7919 = true := small_of (by decide) (by decide)
  have m1 := fun i => mod_p (i := i) (j := 2147483647) (by decide)
  have m2 := fun i => mod_p (i := i) (j := 2147483629) (by decide)
  have m3 := fun i => mod_p (i := i) (j := 2147483399) (by decide)
  have f1 := fun i => fdiv_p (i := i) (j := 1009) (by decide) (by decide)
  have f2 := fun i => fdiv_p (i := i) (j := 2003) (by decide) (by decide)
  have f3 := fun i => fdiv_p (i := i) (j := 16) (by decide) (by decide)
  simp only [List.cons_append, List.nil_append, List.tail_cons] at sp
  rw [sp]
  clear sp hx
  simp [i3, mul_r s1, mul_l s3, m1, m2, m3, f1, f2, f3, hy, mul_l hy0, hy', mul_l hy0', hz, mul_l hz0, hw, mod_p hm]
theorem dwB1_s {p q : Nat} {m : Int} {μ : Sto} (h : Sb p q μ) (hm : 0 < m) (hm2 : m < 1073741824) :
    ∃ r μ', (xSs gl cl dwB1 [.val (.loc p), .val (.int m), .un, .un, .un] μ).bind (outF false) = .ok (.int r) μ' ∧ 0 ≤ r ∧ r < m ∧ Sb p q μ' ∧ Frm [p, q] μ μ' := by
  obtain ⟨cs, a, n, hcl, ha, hn, e⟩ := h.st
  obtain ⟨bs, hbl, hb0, eb⟩ := h.ce
  obtain ⟨i0, i1, i2, i3⟩ := st_ix e
  have hqp : q ≠ p := fun e => h.ne e.symm
  by_cases h0 : 0 < a
  · refine ⟨a % m, μ.put p (.lst [.lst (cs.map D.int), .loc q, .int (a / m), .int n]), ?_, Int.emod_nonneg _ (by omega), Int.emod_lt_of_pos _ hm, ⟨h.ne, ⟨cs, a / m, n, hcl, Int.ediv_nonneg ha (by omega), hn, put_same _ _ _⟩, bs, hbl, hb0, by rw [put_ne hqp]; exact eb⟩, Frm.put (.inl (by simp))⟩
    have l2 : L2.ixN 4 2 = some 2 := by decide
    have s : ∀ rest : List S, (xSs gl cl (.ite (.cmp .gt (.ix (.var 0) (.con (.int 2))) (.con (.int 0))) [.asg [4] (.bin .mod (.bi .int [(.ix (.var 0) (.con (.int 2)))]) (.var 1)), .lset (.var 0) (.con (.int 2)) (.bin .fdiv (.ix (.var 0) (.con (.int 2))) (.var 1)), .ret (.var 4)] [] :: rest) [.val (.loc p), .val (.int m), .un, .un, .un] μ).bind (outF false) = .ok (.int (a % m)) (μ.put p (.lst [.lst (cs.map D.int), .loc q, .int (a / m), .int n])) := by
      intro rest
      simp [i2, h0, mod_p hm, fdiv_p hm hm2, e, l2]
    exact s _
  · have ha0 : a = 0 := by omega
    subst ha0
    obtain ⟨r, er, r0, r1⟩ := dwB2_s gl cl (q := q) .un hcl hn e hm hm2
    refine ⟨r, μ, ?_, r0, r1, h, .refl⟩
    rw [← er]
    have s : ∀ rest : List S, xSs gl cl (.ite (.cmp .gt (.ix (.var 0) (.con (.int 2))) (.con (.int 0))) [.asg [4] (.bin .mod (.bi .int [(.ix (.var 0) (.con (.int 2)))]) (.var 1)), .lset (.var 0) (.con (.int 2)) (.bin .fdiv (.ix (.var 0) (.con (.int 2))) (.var 1)), .ret (.var 4)] [] :: rest) [.val (.loc p), .val (.int m), .un, .un, .un] μ = xSs gl cl rest [.val (.loc p), .val (.int m), .un, .un, .un] μ := by
      intro rest
      simp [i2]
    rw [s]
theorem dwB_s {p q : Nat} {m : Int} {μ : Sto} (h : Sb p q μ) (hm : 0 < m) (hm2 : m < 1073741824) :
    ∃ r μ', (xSs gl cl dwB [.val (.loc p), .val (.int m), .un, .un, .un] μ).bind (outF false) = .ok (.int r) μ' ∧ 0 ≤ r ∧ r < m ∧ Sb p q μ' ∧ Frm [p, q] μ μ' := by
  obtain ⟨cs, a, n, hcl, ha, hn, e⟩ := h.st
  obtain ⟨bs, hbl, hb0, eb⟩ := h.ce
  obtain ⟨i0, i1, i2, i3⟩ := st_ix e
  have hqp : q ≠ p := fun e => h.ne e.symm
  have l2 : L2.ixN 4 2 = some 2 := by decide
  have l3 : L2.ixN 4 3 = some 3 := by decide
  generalize hμ1 : μ.put p (.lst [.lst (cs.map D.int), .loc q, .int a, .int (n + 1)]) = μ1
  have e1 : μ1 p = some (.lst [.lst (cs.map D.int), .loc q, .int a, .int (n + 1)]) := by rw [← hμ1]; exact put_same _ _ _
  have eb1 : μ1 q = some (.lst (bs.map D.int)) := by rw [← hμ1, put_ne hqp]; exact eb
  have f1 : Frm [p, q] μ μ1 := by rw [← hμ1]; exact Frm.put (.inl (by simp))
  obtain ⟨j0, j1, j2, j3⟩ := st_ix e1
  have hlq : builtin .len [.loc q] = none := rfl
  have s0 : ∀ rest : List S, xSs gl cl (.lset (.var 0) (.con (.int 3)) (.bin .add (.ix (.var 0) (.con (.int 3))) (.con (.int 1))) :: rest) [.val (.loc p), .val (.int m), .un, .un, .un] μ = xSs gl cl rest [.val (.loc p), .val (.int m), .un, .un, .un] μ1 := by
    intro rest
    simp [i3, e, l3, hμ1]
  obtain ⟨μ2, h2, f2, s1⟩ : ∃ μ2, Sb p q μ2 ∧ Frm [p, q] μ1 μ2 ∧ ∀ rest : List S, xSs gl cl (.ite (.and (.cmp .eq (.ix (.var 0) (.con (.int 2))) (.con (.int 0))) (.cmp .gt (.bi .len [(.ix (.var 0) (.con (.int 1)))]) (.con (.int 0)))) [.lset (.var 0) (.con (.int 2)) (.popl (.ix (.var 0) (.con (.int 1))) (.con (.int 0)))] [] :: rest) [.val (.loc p), .val (.int m), .un, .un, .un] μ1 = xSs gl cl rest [.val (.loc p), .val (.int m), .un, .un, .un] μ2 := by
    by_cases ha0 : a = 0
    · subst ha0
      cases bs with
      | nil =>
        refine ⟨μ1, ⟨h.ne, ⟨cs, 0, n + 1, hcl, ha, by omega, e1⟩, [], hbl, hb0, eb1⟩, .refl, fun rest => ?_⟩
        simp [j2, j1, dr_loc eb1]
      | cons b bs =>
        have hq2 : (μ1.put q (.lst (bs.map D.int))) p = some (.lst [.lst (cs.map D.int), .loc q, .int 0, .int (n + 1)]) := by rw [put_ne h.ne]; exact e1
        have hpop : popR (.loc q) (.int 0) μ1 = .ok (.int b) (μ1.put q (.lst (bs.map D.int))) := by
          have hb1 : bs.length + 1 ≤ 1000000 := by simp at hbl; omega
          have l0 : L2.ixN (bs.length + 1) 0 = some 0 := by
            have : (0 : Int) < (bs.length : Int) + 1 := by omega
            simp [L2.ixN, this]
          simp [popR, eb1, hb1, l0]
        have hisl : isL μ1 (.loc q) = true := by simp [isL, eb1]
        have hlb : (0 : Int) < (bs.length : Int) + 1 := by omega
        obtain ⟨k0, k1, k2, k3⟩ := st_ix hq2
        refine ⟨(μ1.put q (.lst (bs.map D.int))).put p (.lst [.lst (cs.map D.int), .loc q, .int b, .int (n + 1)]), ⟨h.ne, ⟨cs, b, n + 1, hcl, hb0 b (by simp), by omega, put_same _ _ _⟩, bs, by simp at hbl; omega, fun x hx => hb0 x (by simp [hx]), by rw [put_ne hqp]; exact put_same _ _ _⟩, (Frm.put (.inl (by simp))).trans (Frm.put (.inl (by simp))), fun rest => ?_⟩
        simp [j2, j1, dr_loc eb1, hisl, hpop, hq2, l2, hlb]
    · refine ⟨μ1, ⟨h.ne, ⟨cs, a, n + 1, hcl, ha, by omega, e1⟩, bs, hbl, hb0, eb1⟩, .refl, fun rest => ?_⟩
      simp [j2, ha0]
  obtain ⟨r, μ', er, r0, r1, h', f'⟩ := dwB1_s gl cl h2 hm hm2
  refine ⟨r, μ', ?_, r0, r1, h', (f1.trans f2).trans f'⟩
  rw [← er, ← s1, ← s0]
abbrev stB : List S := [.asg [1] (.lc [2] (.var 0) none (.var 2)),
  .ret (.new [(.var 1), (.sto (.lc [2] (.var 1) (some (.cmp .ge (.var 2) (.bin .pow (.con (.int 10)) (.con (.int 18))))) (.var 2))), (.con (.int 0)), (.con (.int 0))])]
theorem lc_same (γ : Ga) (hγ : 2 < γ.length) (μ : Sto) : ∀ (ns : List Int) (acc : List D), acc.length + ns.length ≤ 1000000 → lcL (turnC gl cl γ [2] none (.var 2)) (ns.map D.int) acc μ = .ok (acc ++ ns.map D.int) μ
  | [], acc, _ => by simp [lcL]
  | n :: ns, acc, h => by
    rw [List.length_cons] at h
    have ih := lc_same γ hγ μ ns (acc ++ [.int n]) (by simp; omega)
    have ha : acc.length < 1000000 := by omega
    have g : (γ.set 2 (.val (.int n)))[2]? = some (.val (.int n)) := List.getElem?_set_self hγ
    rw [List.map_cons]
    unfold lcL
    have e : turnC gl cl γ [2] none (.var 2) (.int n) acc μ = .ok (acc ++ [.int n]) μ := by
      unfold turnC setTR
      simp only [v_wipe1, v_wipe0, v_setT, List.set_set, v_c0, bind_ok, if_true, v_var, g]
      simp [addL, ha]
    rw [e]
    simp only [bind_ok]
    rw [ih]
    simp
theorem lc_big (γ : Ga) (hγ : 2 < γ.length) (μ : Sto) : ∀ (ns : List Int) (acc : List D), acc.length + ns.length ≤ 1000000 → lcL (turnC gl cl γ [2] (some (.cmp .ge (.var 2) (.bin .pow (.con (.int 10)) (.con (.int 18))))) (.var 2)) (ns.map D.int) acc μ = .ok (acc ++ (ns.filter fun n => decide (1000000000000000000 ≤ n)).map D.int) μ
  | [], acc, _ => by simp [lcL]
  | n :: ns, acc, h => by
    rw [List.length_cons] at h
    have ha : acc.length < 1000000 := by omega
    have g : (γ.set 2 (.val (.int n)))[2]? = some (.val (.int n)) := List.getElem?_set_self hγ
    have c10 : binop .pow (.int 10) (.int 18) = some (.int 1000000000000000000) := by rfl
    rw [List.map_cons]
    unfold lcL
    by_cases hx : (1000000000000000000 : Int) ≤ n
    · have ih := lc_big γ hγ μ ns (acc ++ [.int n]) (by simp; omega)
      have e : turnC gl cl γ [2] (some (.cmp .ge (.var 2) (.bin .pow (.con (.int 10)) (.con (.int 18))))) (.var 2) (.int n) acc μ = .ok (acc ++ [.int n]) μ := by
        unfold turnC setTR
        simp [g, c10, hx, addL, ha]
      rw [e]
      simp only [bind_ok]
      rw [ih, List.filter_cons_of_pos (by simp [hx])]
      simp
    · have ih := lc_big γ hγ μ ns acc (by omega)
      have e : turnC gl cl γ [2] (some (.cmp .ge (.var 2) (.bin .pow (.con (.int 10)) (.con (.int 18))))) (.var 2) (.int n) acc μ = .ok acc μ := by
        unfold turnC setTR
        simp [g, c10, hx]
      rw [e]
      simp only [bind_ok]
      rw [ih, List.filter_cons_of_neg (by simp [hx])]
theorem startB_s (ns : List Int) (hl : ns.length ≤ 63) (μ : Sto) : ((xSs gl cl stB [.val (.lst (ns.map D.int)), .un, .un] μ).bind (outF false)).All (fun d μ' => ∃ p q, d = .loc p ∧ Sb p q μ' ∧ Frm [] μ μ') Wn := by
  have el := lc_same gl cl [.val (.lst (ns.map D.int)), .un, .un] (by simp) μ ns [] (by simp; omega)
  have eb := lc_big gl cl [.val (.lst (ns.map D.int)), .val (.lst (ns.map D.int)), .un] (by simp) μ ns [] (by simp; omega)
  simp only [List.nil_append] at el eb
  have hb0 : ∀ b ∈ ns.filter (fun n => decide ((1000000000000000000 : Int) ≤ n)), (0 : Int) ≤ b := fun b hb => by
    have := of_decide_eq_true (List.mem_filter.mp hb).2
    omega
  have hbl : (ns.filter (fun n => decide ((1000000000000000000 : Int) ≤ n))).length ≤ 63 := Nat.le_trans (List.length_filter_le _ _) hl
  generalize ns.filter (fun n => decide ((1000000000000000000 : Int) ≤ n)) = bs at eb hb0 hbl
  unfold stB
  simp only [v_ss1, v_asg, v_lc, v_var, List.getElem?_cons_zero, bind_ok, v_il, el, nox_ok, v_setT, List.set_cons_succ, List.set_cons_zero, v_ret, v_new, v_es1, v_es0, List.getElem?_cons_succ, v_sto, eb, v_stoR]
  show ∀ q0, μ q0 = none → _
  intro q0 hq0
  simp only [bind_ok, v_con, v_es1, v_es0]
  intro p hp
  have hpq : p ≠ q0 := fun e => by rw [e, put_same] at hp; cases hp
  refine ⟨p, q0, rfl, ⟨hpq, ⟨ns, 0, 0, hl, by decide, by decide, put_same _ _ _⟩, bs, hbl, hb0, ?_⟩, (Frm.put (.inr hq0)).trans (Frm.put (.inr hp))⟩
  rw [put_ne (Ne.symm hpq), put_same]
end
end Bs
/-! Bs: nodes of trees as any data; the first wrong node. -/
namespace Bs
mutual
/-- no place of the store, no object -/
def nice : D → Bool
  | .tup xs => decide (xs.length ≤ 1000) && nices xs
  | .lst xs => nices xs
  | .obj _ _ => false
  | .loc _ => false
  | _ => true
def nices : List D → Bool
  | [] => true
  | d :: r => nice d && nices r
end
theorem nices_all : ∀ {xs : List D}, nices xs = true ↔ ∀ x ∈ xs, nice x = true
  | [] => by simp [nices]
  | x :: xs => by simp [nices, nices_all (xs := xs)]
mutual
theorem nice_enc : ∀ t : T, t.full → nice (enc t) = true
  | .inp i, _ => by simp [enc, nice, nices]
  | .one, _ => by simp [enc, nice, nices]
  | .zero, _ => by simp [enc, nice, nices]
  | .not t, h => by simp [enc, nice, nices, nice_enc t h]
  | .gate a ts, h => by
    have h2 : (encs ts).length ≤ 1000 := by rw [encs_map, List.length_map]; exact h.2.1
    simp [enc, nice, nices, nice_encs ts h.2.2, h2]
theorem nice_encs : ∀ ts : List T, fullS ts → nices (encs ts) = true
  | [], _ => by simp [encs, nices]
  | t :: r, h => by simp [encs, nices, nice_enc t h.1, nice_encs r h.2]
end
def isTupB : D → Bool
  | .tup _ => true
  | _ => false
theorem nice_tup {d : D} (h : nice d = true) : isTys d [.tuple] = some (isTupB d) := by
  cases d <;> first | rfl | (simp [nice] at h)
theorem nice_str {d : D} (h : nice d = true) : isTys d [.str] = some (isStr d) := by
  cases d <;> first | rfl | (simp [nice] at h)
theorem tixc0 (x : D) (r : List D) (μ : Sto) : ixR (.tup (x :: r)) (.int 0) μ = .ok x μ := by
  have : (0 : Int) < (r.length : Int) + 1 := by omega
  simp [ixR, deref, index, L2.atI, L2.ixN, this]
theorem tixc1 (x y : D) (r : List D) (μ : Sto) : ixR (.tup (x :: y :: r)) (.int 1) μ = .ok y μ := by
  have : (1 : Int) < (r.length : Int) + 1 + 1 := by omega
  simp [ixR, deref, index, L2.atI, L2.ixN, this]
def isIntB : D → Bool
  | .int _ => true
  | .bl _ => true
  | _ => false
def isBlB : D → Bool
  | .bl _ => true
  | _ => false
theorem nice_int {d : D} (h : nice d = true) : isTys d [.int] = some (isIntB d) := by
  cases d <;> first | rfl | (simp [nice] at h)
theorem nice_bl {d : D} (h : nice d = true) : isTys d [.bool] = some (isBlB d) := by
  cases d <;> first | rfl | (simp [nice] at h)
theorem nin12 (m : Nat) : compare .nin (.int (m : Nat)) (.tup [.int 1, .int 2]) = some (.bl (!(decide (m = 1) || decide (m = 2)))) := by
  have : compare .nin (.int ((m : Nat) : Int)) (.tup [.int 1, .int 2]) = some (.bl (!((1 : Int) == (m : Int) || ((2 : Int) == (m : Int) || false)))) := rfl
  rw [this]
  congr 3
  have h1 : ((1 : Int) == (m : Int)) = decide (m = 1) := by rw [Bool.eq_iff_iff]; simp; omega
  have h2 : ((2 : Int) == (m : Int)) = decide (m = 2) := by rw [Bool.eq_iff_iff]; simp; omega
  rw [h1, h2]; simp
/-- what a node is -/
inductive Vw where | no | leaf | one (x : D) | gate (a : Bool) (xs : List D)
def numB (n : Nat) : D → Bool
  | .int i => decide (0 ≤ i) && decide (i < n)
  | _ => false
def gatP : D → Option (List D)
  | .tup (y :: ys) => some (y :: ys)
  | _ => none
def vw1 (n : Nat) (s : List Nat) (x : D) : Vw :=
  if s = sIn then (if numB n x then .leaf else .no)
  else if s = sAnd ∨ s = sOr then (match gatP x with | some xs => .gate (decide (s = sAnd)) xs | none => .no)
  else if s = sNot then .one x else .no
def vw (n : Nat) : D → Vw
  | .tup [.str s] => if s = sOne ∨ s = sZero then .leaf else .no
  | .tup [.str s, x] => if s = sOne ∨ s = sZero then .no else vw1 n s x
  | _ => .no
def Vw.isNo : Vw → Bool
  | .no => true
  | _ => false
def Vw.isLeaf : Vw → Bool
  | .leaf => true
  | _ => false
def Vw.parts : Vw → List D
  | .one x => [x]
  | .gate _ xs => xs
  | _ => []
/-- the forms of a node that fits -/
inductive Fit (n : Nat) : D → Vw → Prop
  | one : Fit n (.tup [.str sOne]) .leaf
  | zero : Fit n (.tup [.str sZero]) .leaf
  | inp (i : Nat) (h : i < n) : Fit n (.tup [.str sIn, .int i]) .leaf
  | not (x : D) : Fit n (.tup [.str sNot, x]) (.one x)
  | gate (a : Bool) (y : D) (ys : List D) : Fit n (.tup [.str (sGate a), .tup (y :: ys)]) (.gate a (y :: ys))
theorem numB_int {n : Nat} {x : D} (h : numB n x = true) : ∃ i : Nat, i < n ∧ x = .int i := by
  cases x with
  | int i =>
    simp only [numB, Bool.and_eq_true, decide_eq_true_eq] at h
    obtain ⟨j, rfl⟩ := Int.eq_ofNat_of_zero_le h.1
    exact ⟨j, by omega, rfl⟩
  | _ => simp [numB] at h
theorem gatP_some {x : D} {xs : List D} (h : gatP x = some xs) : ∃ y ys, xs = y :: ys ∧ x = .tup (y :: ys) := by
  unfold gatP at h
  split at h
  · cases h; exact ⟨_, _, rfl, rfl⟩
  · cases h
theorem vw1_gate {n : Nat} {s : List Nat} {x : D} (h2 : ¬ s = sIn) (h3 : s = sAnd ∨ s = sOr) : (vw1 n s x).isNo = (gatP x).isNone := by
  unfold vw1
  rw [if_neg h2, if_pos h3]
  cases gatP x <;> rfl
theorem vw_fit {n : Nat} {d : D} (h : (vw n d).isNo = false) : Fit n d (vw n d) := by
  unfold vw at h ⊢
  split at h
  · rename_i s
    by_cases hs : s = sOne ∨ s = sZero
    · rw [if_pos hs]
      rcases hs with rfl | rfl
      · exact .one
      · exact .zero
    · rw [if_neg hs] at h; cases h
  · rename_i s x
    by_cases hs : s = sOne ∨ s = sZero
    · rw [if_pos hs] at h; cases h
    · rw [if_neg hs] at h ⊢
      unfold vw1 at h ⊢
      by_cases h1 : s = sIn
      · subst h1
        rw [if_pos rfl] at h ⊢
        by_cases h2 : numB n x = true
        · rw [if_pos h2]
          obtain ⟨i, hi, rfl⟩ := numB_int h2
          exact .inp i hi
        · rw [if_neg h2] at h; cases h
      · rw [if_neg h1] at h ⊢
        by_cases h2 : s = sAnd ∨ s = sOr
        · rw [if_pos h2] at h ⊢
          cases hg : gatP x with
          | none => rw [hg] at h; cases h
          | some xs =>
            obtain ⟨y, ys, rfl, rfl⟩ := gatP_some hg
            rcases h2 with rfl | rfl
            · exact .gate true y ys
            · exact .gate false y ys
        · rw [if_neg h2] at h ⊢
          by_cases h3 : s = sNot
          · subst h3
            rw [if_pos rfl]
            exact .not x
          · rw [if_neg h3] at h; cases h
  · cases h
theorem fit_vw {n : Nat} {d : D} {v : Vw} (h : Fit n d v) : vw n d = v := by
  cases h with
  | one => rfl
  | zero => rfl
  | inp i h => simp [vw, vw1, numB, h]
  | not x => simp [vw, vw1]
  | gate a y ys => cases a <;> simp [vw, vw1, gatP, sGate]
theorem Fit.nice {n : Nat} {d : D} {v : Vw} (h : Fit n d v) (hn : nice d = true) : ∀ x ∈ v.parts, Bs.nice x = true := by
  cases h with
  | one => simp [Vw.parts]
  | zero => simp [Vw.parts]
  | inp i h => simp [Vw.parts]
  | not x => simpa [Vw.parts, Bs.nice, nices] using hn
  | gate a y ys =>
    simp only [Bs.nice, nices, Bool.and_true, Bool.true_and, Bool.and_eq_true] at hn
    exact nices_all.mp (by simp [nices, Vw.parts, hn.2.2])
theorem Fit.few {n : Nat} {d : D} {v : Vw} (h : Fit n d v) (hn : Bs.nice d = true) : v.parts.length ≤ 1000 := by
  cases h with
  | gate a y ys =>
    simp only [Bs.nice, nices, Bool.and_true, Bool.true_and, Bool.and_eq_true, decide_eq_true_eq] at hn
    exact hn.2.1
  | _ => simp [Vw.parts]
/-- the first wrong node: its path, and how many leaves were met -/
def fas (g : D → List D → Nat → Option (List D) × Nat) : List D → Nat → List D → Nat → Option (List D) × Nat
  | [], _, _, lv => (none, lv)
  | x :: r, j, path, lv => match g x (path ++ [.int j]) lv with
    | (some q, lv') => (some q, lv')
    | (none, lv') => fas g r (j + 1) path lv'
def fa (n : Nat) : Nat → D → List D → Nat → Option (List D) × Nat
  | 0, _, path, lv => (some path, lv)
  | f + 1, d, path, lv => if (vw n d).isNo then (some path, lv) else if (vw n d).isLeaf then (if 240 ≤ lv then (some path, lv) else (none, lv + 1)) else fas (fa n f) (vw n d).parts 0 path lv
/-- a path of numbers -/
def Nums (p : List D) : Prop := ∃ l : List Nat, p = l.map fun (i : Nat) => D.int i
theorem Nums.snoc {p : List D} (h : Nums p) (j : Nat) : Nums (p ++ [.int j]) := by
  obtain ⟨l, rfl⟩ := h
  exact ⟨l ++ [j], by simp⟩
theorem fas_facts {n f : Nat} (ih : ∀ d path lv, lv ≤ 240 → Nums path → path.length + f = 8 → lv ≤ (fa n f d path lv).2 ∧ (fa n f d path lv).2 ≤ 240 ∧ ∀ q, (fa n f d path lv).1 = some q → Nums q ∧ q.length ≤ 8) : ∀ (xs : List D) (j : Nat) (path : List D) (lv : Nat), lv ≤ 240 → Nums path → path.length + (f + 1) = 8 → lv ≤ (fas (fa n f) xs j path lv).2 ∧ (fas (fa n f) xs j path lv).2 ≤ 240 ∧ ∀ q, (fas (fa n f) xs j path lv).1 = some q → Nums q ∧ q.length ≤ 8
  | [], j, path, lv, hl, _, _ => ⟨Nat.le_refl _, hl, fun q h => by cases h⟩
  | x :: r, j, path, lv, hl, hp, hf => by
    obtain ⟨h1, h2, h3⟩ := ih x (path ++ [.int j]) lv hl (hp.snoc j) (by simp; omega)
    unfold fas
    cases hr : fa n f x (path ++ [.int j]) lv with
    | mk o lv' =>
      rw [hr] at h1 h2 h3
      cases o with
      | some q => exact ⟨h1, h2, h3⟩
      | none =>
        obtain ⟨g1, g2, g3⟩ := fas_facts ih r (j + 1) path lv' h2 hp hf
        exact ⟨Nat.le_trans h1 g1, g2, g3⟩
theorem fa_facts (n : Nat) : ∀ (f : Nat) (d : D) (path : List D) (lv : Nat), lv ≤ 240 → Nums path → path.length + f = 8 → lv ≤ (fa n f d path lv).2 ∧ (fa n f d path lv).2 ≤ 240 ∧ ∀ q, (fa n f d path lv).1 = some q → Nums q ∧ q.length ≤ 8
  | 0, d, path, lv, hl, hp, hf => ⟨Nat.le_refl _, hl, fun q h => by cases h; exact ⟨hp, by omega⟩⟩
  | f + 1, d, path, lv, hl, hp, hf => by
    unfold fa
    split
    · exact ⟨Nat.le_refl _, hl, fun q h => by cases h; exact ⟨hp, by omega⟩⟩
    · split
      · split
        · exact ⟨Nat.le_refl _, hl, fun q h => by cases h; exact ⟨hp, by omega⟩⟩
        · exact ⟨Nat.le_succ _, by simp only; omega, fun q h => by cases h⟩
      · exact fas_facts (fa_facts n f) _ _ _ _ hl hp hf
/-! ### where nothing is wrong, there is a tree -/
theorem leaves_pos : ∀ t : T, t.full → 0 < t.leaves := by
  have : ∀ (m : Nat) (t : T), t.depth ≤ m → t.full → 0 < t.leaves := by
    intro m
    induction m with
    | zero => intro t h; have := t.depth_pos; omega
    | succ m ih =>
      intro t h hf
      cases t with
      | inp _ => simp [T.leaves]
      | one => simp [T.leaves]
      | zero => simp [T.leaves]
      | not t => simp only [T.leaves]; exact ih t (by simp [T.depth] at h; omega) hf
      | gate a ts =>
        obtain ⟨h1, _, h3⟩ := hf
        cases ts with
        | nil => exact absurd rfl h1
        | cons x r =>
          simp only [T.leaves, leavesS]
          have := ih x (by simp only [T.depth, depthS] at h; omega) h3.1
          omega
  exact fun t hf => this _ t (Nat.le_refl _) hf
theorem leavesS_len : ∀ ts : List T, fullS ts → ts.length ≤ leavesS ts
  | [], _ => Nat.zero_le _
  | t :: r, h => by
    have := leaves_pos t h.1
    have := leavesS_len r h.2
    simp only [List.length_cons, leavesS]; omega
theorem fas_none {n f : Nat} (ih : ∀ d path lv lv', fa n f d path lv = (none, lv') → ∃ t : T, d = enc t ∧ t.full ∧ t.lt n = true ∧ t.depth ≤ f ∧ lv' = lv + t.leaves ∧ lv' ≤ 240) : ∀ (xs : List D) (j : Nat) (path : List D) (lv lv' : Nat), lv ≤ 240 → fas (fa n f) xs j path lv = (none, lv') → ∃ ts : List T, xs = encs ts ∧ fullS ts ∧ ltS n ts = true ∧ depthS ts ≤ f ∧ lv' = lv + leavesS ts ∧ lv' ≤ 240
  | [], j, path, lv, lv', hl, h => by
    cases h
    exact ⟨[], by simp [encs], trivial, by simp [ltS], by simp [depthS], by simp [leavesS], hl⟩
  | x :: r, j, path, lv, lv', hl, h => by
    unfold fas at h
    cases hr : fa n f x (path ++ [.int j]) lv with
    | mk o lv1 =>
      rw [hr] at h
      cases o with
      | some q => cases h
      | none =>
        obtain ⟨t, rfl, t1, t2, t3, t4, t5⟩ := ih _ _ _ _ hr
        obtain ⟨ts, rfl, s1, s2, s3, s4, s5⟩ := fas_none ih r (j + 1) path lv1 lv' t5 h
        exact ⟨t :: ts, by simp [encs], ⟨t1, s1⟩, by simp [ltS, t2, s2], by simp only [depthS]; omega, by simp only [leavesS]; omega, s5⟩
theorem fa_none (n : Nat) : ∀ (f : Nat) (d : D) (path : List D) (lv lv' : Nat), fa n f d path lv = (none, lv') → ∃ t : T, d = enc t ∧ t.full ∧ t.lt n = true ∧ t.depth ≤ f ∧ lv' = lv + t.leaves ∧ lv' ≤ 240
  | 0, d, path, lv, lv', h => by cases h
  | f + 1, d, path, lv, lv', h => by
    unfold fa at h
    by_cases h0 : (vw n d).isNo = true
    · rw [if_pos h0] at h; cases h
    · rw [if_neg h0] at h
      have hF := vw_fit (n := n) (d := d) (by simpa using h0)
      generalize vw n d = v at h hF h0
      cases hF with
      | one =>
        rw [if_pos (show Vw.leaf.isLeaf = true from rfl)] at h
        split at h
        · cases h
        · cases h; exact ⟨.one, by simp [enc], trivial, by simp [T.lt], by simp [T.depth], by simp [T.leaves], by omega⟩
      | zero =>
        rw [if_pos (show Vw.leaf.isLeaf = true from rfl)] at h
        split at h
        · cases h
        · cases h; exact ⟨.zero, by simp [enc], trivial, by simp [T.lt], by simp [T.depth], by simp [T.leaves], by omega⟩
      | inp i hi =>
        rw [if_pos (show Vw.leaf.isLeaf = true from rfl)] at h
        split at h
        · cases h
        · cases h; exact ⟨.inp i, by simp [enc], trivial, by simp [T.lt, hi], by simp [T.depth], by simp [T.leaves], by omega⟩
      | not x =>
        rw [if_neg (by simp [Vw.isLeaf])] at h
        have hl : lv ≤ 240 := by
          by_cases z : lv ≤ 240
          · exact z
          · simp only [Vw.parts, fas] at h
            cases hr : fa n f x (path ++ [.int (0 : Nat)]) lv with
            | mk o lv1 =>
              rw [hr] at h
              cases o with
              | some q => cases h
              | none => obtain ⟨t, _, _, _, _, e, _⟩ := fa_none n f _ _ _ _ hr; omega
        obtain ⟨ts, e, s1, s2, s3, s4, s5⟩ := fas_none (fa_none n f) _ _ _ _ _ hl h
        match ts, e with
        | [t], e =>
          simp only [Vw.parts, encs, List.cons.injEq, and_true] at e
          subst e
          exact ⟨.not t, by simp [enc], s1.1, by simpa [T.lt, ltS] using s2, by simp only [depthS] at s3; simp only [T.depth]; omega, by simpa [T.leaves, leavesS] using s4, s5⟩
        | [], e => simp [Vw.parts, encs] at e
        | _ :: _ :: _, e => simp [Vw.parts, encs] at e
      | gate a y ys =>
        rw [if_neg (by simp [Vw.isLeaf])] at h
        have hl : lv ≤ 240 := by
          by_cases z : lv ≤ 240
          · exact z
          · simp only [Vw.parts, fas] at h
            cases hr : fa n f y (path ++ [.int (0 : Nat)]) lv with
            | mk o lv1 =>
              rw [hr] at h
              cases o with
              | some q => cases h
              | none => obtain ⟨t, _, _, _, _, e, _⟩ := fa_none n f _ _ _ _ hr; omega
        obtain ⟨ts, e, s1, s2, s3, s4, s5⟩ := fas_none (fa_none n f) _ _ _ _ _ hl h
        simp only [Vw.parts] at e
        have := leavesS_len ts s1
        exact ⟨.gate a ts, by simp [enc, ← e], ⟨fun z => by subst z; simp [encs] at e, by omega, s1⟩, by simpa [T.lt] using s2, by simp only [T.depth]; omega, by simpa [T.leaves] using s4, s5⟩
/-! ### what waits to be looked at -/
def chs (path : List D) : Nat → List D → List D
  | _, [] => []
  | j, x :: r => .tup [.tup (path ++ [.int ((j : Nat) : Int)]), x] :: chs path (j + 1) r
theorem chs_len (path : List D) : ∀ (xs : List D) (j : Nat), (chs path j xs).length = xs.length
  | [], _ => rfl
  | x :: r, j => by simp [chs, chs_len path r]
theorem chs_snoc (path : List D) (x : D) : ∀ (xs : List D) (j : Nat), chs path j (xs ++ [x]) = chs path j xs ++ [.tup [.tup (path ++ [.int ((j + xs.length : Nat) : Int)]), x]]
  | [], j => by simp [chs]
  | y :: r, j => by
    simp only [List.cons_append, chs, chs_snoc path x r (j + 1), List.length_cons]
    rw [show j + 1 + r.length = j + (r.length + 1) from by omega]
theorem rng_down (n : Nat) (h : n ≤ 1000000) : rangeD [.int ((n : Nat) - 1 : Int), .int (-1), .int (-1)] = some (.lst (rangeC ((n : Nat) - 1 : Int) (-1) n)) := by
  have h1 := PySem.W.small_down (a := ((n : Nat) - 1 : Int)) (b := -1) (by omega) (by omega) (by decide) (by decide)
  have h2 := PySem.W.rangeSize_downNat ((n : Nat) - 1 : Int) (-1)
  have h3 : ((((n : Nat) : Int) - 1) - -1).toNat = n := by omega
  rw [h3] at h2
  have hb : rgB ((n : Nat) - 1 : Int) (-1) (-1) = true := by
    unfold rgB
    rw [h1, h2]
    simp
  simp only [rangeD, hb, if_true, h2]
  rfl
theorem rangeC_down (n : Nat) : rangeC ((n + 1 : Nat) - 1 : Int) (-1) (n + 1) = .int ((n : Nat) : Int) :: rangeC ((n : Nat) - 1 : Int) (-1) n := by
  unfold rangeC
  rw [List.range_succ_eq_map, List.map_cons, List.map_map]
  congr 1
  · congr 1; simp
  · apply List.map_congr_left
    intro i _
    simp only [Function.comp]
    congr 1
    simp
    omega
end Bs
/-! Bs: letters and paths of trees. -/
namespace Bs
abbrev iN (l : List Nat) : List D := l.map fun (i : Nat) => D.int i
mutual
/-- the letters, from left to right -/
def T.lets : T → List Nat
  | .inp i => [i]
  | .not t => t.lets
  | .gate _ ts => letsS ts
  | _ => []
def letsS : List T → List Nat
  | [] => []
  | t :: r => t.lets ++ letsS r
end
mutual
theorem T.lets_len : ∀ t : T, t.lets.length ≤ t.leaves
  | .inp i => by simp [T.lets, T.leaves]
  | .one => by simp [T.lets]
  | .zero => by simp [T.lets]
  | .not t => by simp only [T.lets, T.leaves]; exact t.lets_len
  | .gate a ts => by simp only [T.lets, T.leaves]; exact letsS_len ts
theorem letsS_len : ∀ ts : List T, (letsS ts).length ≤ leavesS ts
  | [] => by simp [letsS]
  | t :: r => by
    have := t.lets_len
    have := letsS_len r
    simp only [letsS, leavesS, List.length_append]; omega
end
mutual
theorem T.lets_lt (n : Nat) : ∀ t : T, t.lt n = true → ∀ i ∈ t.lets, i < n
  | .inp i, h => by simpa [T.lets, T.lt] using h
  | .one, h => by simp [T.lets]
  | .zero, h => by simp [T.lets]
  | .not t, h => by simp only [T.lets]; exact t.lets_lt n (by simpa [T.lt] using h)
  | .gate a ts, h => by simp only [T.lets]; exact letsS_lt n ts (by simpa [T.lt] using h)
theorem letsS_lt (n : Nat) : ∀ ts : List T, ltS n ts = true → ∀ i ∈ letsS ts, i < n
  | [], _ => by simp [letsS]
  | t :: r, h => by
    simp only [ltS, Bool.and_eq_true] at h
    intro i hi
    rcases List.mem_append.mp hi with hi | hi
    · exact t.lets_lt n h.1 i hi
    · exact letsS_lt n r h.2 i hi
end
mutual
/-- all nodes with their paths, each ahead of its parts -/
def T.paths (p : List Nat) : T → List (List Nat × T)
  | .not t => (p, .not t) :: t.paths (p ++ [0])
  | .gate a ts => (p, .gate a ts) :: pathsS p 0 ts
  | t => [(p, t)]
def pathsS (p : List Nat) (j : Nat) : List T → List (List Nat × T)
  | [] => []
  | t :: r => t.paths (p ++ [j]) ++ pathsS p (j + 1) r
end
/-- the node at a path -/
def T.at? (t : T) : List Nat → Option T
  | [] => some t
  | i :: p => (t.parts[i]?).bind fun u => u.at? p
theorem T.at_app (p r : List Nat) : ∀ t : T, t.at? (p ++ r) = (t.at? p).bind fun u => u.at? r := by
  induction p with
  | nil => intro t; simp [T.at?]
  | cons i p ih =>
    intro t
    simp only [List.cons_append, T.at?]
    cases t.parts[i]? with
    | none => rfl
    | some u => exact ih u
mutual
theorem T.paths_at : ∀ (t : T) (p q : List Nat) (u : T), (q, u) ∈ t.paths p → ∃ r, q = p ++ r ∧ t.at? r = some u
  | .inp i, p, q, u, h => by simp [T.paths] at h; exact ⟨[], by simp [h.1], by simp [T.at?, h.2]⟩
  | .one, p, q, u, h => by simp [T.paths] at h; exact ⟨[], by simp [h.1], by simp [T.at?, h.2]⟩
  | .zero, p, q, u, h => by simp [T.paths] at h; exact ⟨[], by simp [h.1], by simp [T.at?, h.2]⟩
  | .not t, p, q, u, h => by
    simp only [T.paths, List.mem_cons, Prod.mk.injEq] at h
    rcases h with ⟨rfl, rfl⟩ | h
    · exact ⟨[], by simp, rfl⟩
    · obtain ⟨r, rfl, e⟩ := t.paths_at (p ++ [0]) q u h
      exact ⟨0 :: r, by simp, by simp [T.at?, T.parts, e]⟩
  | .gate a ts, p, q, u, h => by
    simp only [T.paths, List.mem_cons, Prod.mk.injEq] at h
    rcases h with ⟨rfl, rfl⟩ | h
    · exact ⟨[], by simp, rfl⟩
    · obtain ⟨i, t, r, e1, rfl, e2⟩ := pathsS_at ts p 0 q u h
      exact ⟨i :: r, by simp, by simp [T.at?, T.parts, e1, e2]⟩
theorem pathsS_at : ∀ (ts : List T) (p : List Nat) (j : Nat) (q : List Nat) (u : T), (q, u) ∈ pathsS p j ts → ∃ i t r, ts[i]? = some t ∧ q = p ++ ((j + i) :: r) ∧ t.at? r = some u
  | [], p, j, q, u, h => by simp [pathsS] at h
  | t :: ts, p, j, q, u, h => by
    rcases List.mem_append.mp h with h | h
    · obtain ⟨r, rfl, e⟩ := t.paths_at (p ++ [j]) q u h
      exact ⟨0, t, r, rfl, by simp, e⟩
    · obtain ⟨i, t', r, e1, rfl, e2⟩ := pathsS_at ts p (j + 1) q u h
      exact ⟨i + 1, t', r, by simpa using e1, by simp; omega, e2⟩
end
mutual
theorem T.paths_len : ∀ (t : T) (p : List Nat), (t.paths p).length ≤ t.leaves * t.depth ∨ ¬ t.full
  | .inp i, p => by simp [T.paths, T.leaves, T.depth]
  | .one, p => by simp [T.paths, T.leaves, T.depth]
  | .zero, p => by simp [T.paths, T.leaves, T.depth]
  | .not t, p => by
    rcases t.paths_len (p ++ [0]) with h | h
    · by_cases hf : t.full
      · left
        have := leaves_pos t hf
        simp only [T.paths, T.leaves, T.depth, List.length_cons, Nat.mul_succ]; omega
      · right; exact hf
    · right; exact h
  | .gate a ts, p => by
    rcases pathsS_len ts p 0 with h | h
    · by_cases hf : (T.gate a ts).full
      · left
        have h0 := leaves_pos _ hf
        simp only [T.leaves] at h0
        simp only [T.paths, T.leaves, T.depth, List.length_cons, Nat.mul_succ]; omega
      · right; exact hf
    · right; exact fun z => h z.2.2
theorem pathsS_len : ∀ (ts : List T) (p : List Nat) (j : Nat), (pathsS p j ts).length ≤ leavesS ts * depthS ts ∨ ¬ fullS ts
  | [], p, j => by simp [pathsS]
  | t :: r, p, j => by
    rcases t.paths_len (p ++ [j]) with h | h
    · rcases pathsS_len r p (j + 1) with h2 | h2
      · left
        simp only [pathsS, List.length_append, leavesS, depthS, Nat.add_mul]
        have a1 : t.leaves * t.depth ≤ t.leaves * max t.depth (depthS r) := Nat.mul_le_mul_left _ (Nat.le_max_left _ _)
        have a2 : leavesS r * depthS r ≤ leavesS r * max t.depth (depthS r) := Nat.mul_le_mul_left _ (Nat.le_max_right _ _)
        omega
      · right; exact fun z => h2 z.2
    · right; exact fun z => h z.1
end
theorem in_iN (i : Nat) (ls : List Nat) : compare .in_ (.int ((i : Nat) : Int)) (.lst (iN ls)) = some (.bl (decide (i ∈ ls))) := by
  have hf : (iN ls).all flat = true := by simp [flat]
  show (inD (.int ((i : Nat) : Int)) (iN ls)).map D.bl = _
  unfold inD
  rw [if_pos (by rw [hf]; rfl)]
  simp only [Option.map_some]
  congr 2
  rw [Bool.eq_iff_iff]
  simp only [List.any_eq_true, List.mem_map, decide_eq_true_eq]
  constructor
  · rintro ⟨x, ⟨j, hj, rfl⟩, h⟩
    have : ((j : Nat) : Int) = (i : Nat) := by simpa [eqB] using h
    have : j = i := by omega
    subst this; exact hj
  · intro h
    exact ⟨_, ⟨i, h, rfl⟩, by simp [eqB]⟩
theorem nin_iN (i : Nat) (ls : List Nat) : compare .nin (.int ((i : Nat) : Int)) (.lst (iN ls)) = some (.bl (!decide (i ∈ ls))) := by
  have h := in_iN i ls
  simp only [compare] at h ⊢
  cases hx : inX (.int ((i : Nat) : Int)) (.lst (iN ls)) with
  | none => rw [hx] at h; cases h
  | some c => rw [hx] at h; cases h; rfl
theorem add_iN (a b : List Nat) (h : a.length + b.length ≤ 1000000) : binop .add (.lst (iN a)) (.lst (iN b)) = some (.lst (iN (a ++ b))) := by
  have : (iN a).length + (iN b).length ≤ 1000000 := by simpa using h
  simp only [binop, this, if_true, iN, List.map_append]
/-- a letter that is none of these -/
def strB (ls : List Nat) : List Nat × T → Bool
  | (_, .inp i) => !decide (i ∈ ls)
  | _ => false
def T.strange (ls : List Nat) (p : List Nat) (t : T) : Option (List Nat) := ((t.paths p).find? (strB ls)).map (·.1)
end Bs
/-! Bs: drawn trees. -/
namespace Bs
/-- the draws go on; nothing else is changed -/
structure S2 (p q : Nat) (μ μ' : Sto) : Prop where
  sb : Sb p q μ'
  fr : Frm [p, q] μ μ'
theorem S2.refl {p q : Nat} {μ : Sto} (h : Sb p q μ) : S2 p q μ μ := ⟨h, .refl⟩
theorem S2.trans {p q : Nat} {μ μ1 μ2 : Sto} (a : S2 p q μ μ1) (b : S2 p q μ1 μ2) : S2 p q μ μ2 := ⟨b.sb, a.fr.trans b.fr⟩
theorem Sb.frm {p q : Nat} {μ μ' : Sto} (h : Sb p q μ) (f : Frm [] μ μ') : Sb p q μ' := by
  obtain ⟨ne, ⟨cs, a, n, h1, h2, h3, h4⟩, bs, h5, h6, h7⟩ := h
  exact ⟨ne, ⟨cs, a, n, h1, h2, h3, by rw [f p (by rw [h4]; simp) (by simp)]; exact h4⟩, bs, h5, h6, by rw [f q (by rw [h7]; simp) (by simp)]; exact h7⟩
theorem S2.of {p q : Nat} {μ μ' : Sto} (h : Sb p q μ) (f : Frm [] μ μ') : S2 p q μ μ' := ⟨h.frm f, f.weak (by simp)⟩
theorem ix_iN {ls : List Nat} {i : Nat} (h : i < ls.length) (μ : Sto) : ixR (.lst (iN ls)) (.int ((i : Nat) : Int)) μ = .ok (.int ((ls[i]'h : Nat) : Int)) μ := ix_lst (by simp [h]) μ
theorem pick_go {i : Int} (h0 : 0 ≤ i) (h1 : i < 2) (μ : Sto) : ∃ a : Bool, ixR (.lst [.str sOr, .str sAnd]) (.int i) μ = .ok (.str (sGate a)) μ := by
  have : i = 0 ∨ i = 1 := by omega
  rcases this with rfl | rfl
  · exact ⟨false, rfl⟩
  · exact ⟨true, rfl⟩
structure WT (n e : Nat) (t : T) : Prop where
  full : t.full
  lt : t.lt n = true
  depth : t.depth ≤ e
  leaves : t.leaves ≤ 3 ^ (e - 1)
structure WTs (n e : Nat) (ts : List T) : Prop where
  full : fullS ts
  lt : ltS n ts = true
  depth : depthS ts ≤ e
  leaves : leavesS ts ≤ ts.length * 3 ^ (e - 1)
theorem WTs.nil (n e : Nat) : WTs n e [] := ⟨by simp [fullS], by simp [ltS], by simp [depthS], by simp [leavesS]⟩
theorem fullS_app : ∀ {a b : List T}, fullS a → fullS b → fullS (a ++ b)
  | [], _, _, h => h
  | _ :: _, _, h, h' => ⟨h.1, fullS_app h.2 h'⟩
theorem ltS_app (n : Nat) : ∀ {a b : List T}, ltS n (a ++ b) = (ltS n a && ltS n b)
  | [], b => by simp [ltS]
  | t :: a, b => by simp [ltS, ltS_app n (a := a), Bool.and_assoc]
theorem depthS_app : ∀ {a b : List T}, depthS (a ++ b) = max (depthS a) (depthS b)
  | [], b => by simp [depthS]
  | t :: a, b => by simp [depthS, depthS_app (a := a), Nat.max_assoc]
theorem leavesS_app : ∀ {a b : List T}, leavesS (a ++ b) = leavesS a + leavesS b
  | [], b => by simp [leavesS]
  | t :: a, b => by simp [leavesS, leavesS_app (a := a), Nat.add_assoc]
theorem WTs.snoc {n e : Nat} {ts : List T} {t : T} (h : WTs n e ts) (h' : WT n e t) : WTs n e (ts ++ [t]) where
  full := fullS_app h.full ⟨h'.full, trivial⟩
  lt := by rw [ltS_app, h.lt]; simp [ltS, h'.lt]
  depth := by rw [depthS_app]; have := h.depth; have := h'.depth; simp [depthS]; omega
  leaves := by
    rw [leavesS_app, List.length_append, List.length_singleton, Nat.add_mul]
    have := h.leaves; have := h'.leaves
    simp [leavesS]; omega
theorem encs_app (a b : List T) : encs (a ++ b) = encs a ++ encs b := by rw [encs_map, encs_map, encs_map, List.map_append]
theorem encs_len (a : List T) : (encs a).length = a.length := by rw [encs_map, List.length_map]
theorem int_sub1 (e : Nat) : ((e + 1 : Nat) : Int) - 1 = (e : Int) := by omega
theorem pick_g {i : Int} (h0 : 0 ≤ i) (h1 : i < 2) (μ : Sto) : ∃ a : Bool, ixR (.lst [.str sAnd, .str sOr]) (.int i) μ = .ok (.str (sGate a)) μ := by
  have : i = 0 ∨ i = 1 := by omega
  rcases this with rfl | rfl
  · exact ⟨true, rfl⟩
  · exact ⟨false, rfl⟩
theorem gate_wt {n e : Nat} {ts : List T} (a : Bool) (h : WTs n e ts) (h0 : ts ≠ []) (h3 : ts.length ≤ 3) (he : 1 ≤ e) : WT n (e + 1) (.gate a ts) where
  full := ⟨h0, by omega, h.full⟩
  lt := h.lt
  depth := by have := h.depth; simp [T.depth]; omega
  leaves := by
    have h1 := h.leaves
    have h2 : ts.length * 3 ^ (e - 1) ≤ 3 * 3 ^ (e - 1) := Nat.mul_le_mul_right _ h3
    have h4 : 3 ^ (e + 1 - 1) = 3 * 3 ^ (e - 1) := by
      have : e + 1 - 1 = (e - 1) + 1 := by omega
      rw [this, Nat.pow_succ, Nat.mul_comm]
    simp only [T.leaves]
    omega
end Bs
/-! Bs: a node replaced. -/
namespace Bs
inductive Set1 : D → List Nat → D → D → Prop
  | nil (d new : D) : Set1 d [] new new
  | not (x new y : D) (p : List Nat) : Set1 x p new y → Set1 (.tup [.str sNot, x]) (0 :: p) new (.tup [.str sNot, y])
  | gate (a : Bool) (xs : List D) (i : Nat) (x new y : D) (p : List Nat) : xs[i]? = some x → Set1 x p new y → Set1 (.tup [.str (sGate a), .tup xs]) (i :: p) new (.tup [.str (sGate a), .tup (xs.set i y)])
theorem set1_ex (new : D) : ∀ (p : List Nat) (t u : T), t.at? p = some u → ∃ y, Set1 (enc t) p new y
  | [], t, u, h => ⟨new, .nil _ _⟩
  | i :: p, t, u, h => by
    simp only [T.at?] at h
    cases hi : t.parts[i]? with
    | none => rw [hi] at h; cases h
    | some v =>
      rw [hi] at h
      obtain ⟨y, hy⟩ := set1_ex new p v u h
      cases t with
      | not s =>
        have : i = 0 ∧ v = s := by
          cases i with
          | zero => simp [T.parts] at hi; exact ⟨rfl, hi.symm⟩
          | succ i => simp [T.parts] at hi
        obtain ⟨rfl, rfl⟩ := this
        exact ⟨_, by simp only [enc]; exact .not _ _ _ _ hy⟩
      | gate a ts =>
        exact ⟨_, by simp only [enc]; exact .gate a _ i _ _ _ _ (by rw [encs_map, List.getElem?_map]; simp only [T.parts] at hi; rw [hi]; rfl) hy⟩
      | inp _ => simp [T.parts] at hi
      | one => simp [T.parts] at hi
      | zero => simp [T.parts] at hi
theorem Set1.nice {d : D} {p : List Nat} {new y : D} (h : Set1 d p new y) : Bs.nice d = true → Bs.nice new = true → Bs.nice y = true := by
  induction h with
  | nil d new => exact fun _ h => h
  | not x new y p hs ih =>
    intro h1 h2
    have hx : Bs.nice x = true := by simpa [Bs.nice, nices] using h1
    simpa [Bs.nice, nices] using ih hx h2
  | gate a xs i x new y p hx hs ih =>
    intro h1 h2
    simp only [Bs.nice, nices, Bool.and_true, Bool.true_and, Bool.and_eq_true, decide_eq_true_eq] at h1
    have hall := nices_all.mp h1.2.2
    have hy := ih (hall x (List.mem_of_getElem? hx)) h2
    simp only [Bs.nice, nices, Bool.and_true, Bool.true_and, Bool.and_eq_true, decide_eq_true_eq]
    refine ⟨by simp, by simpa using h1.2.1, nices_all.mpr fun z hz => ?_⟩
    rcases List.mem_or_eq_of_mem_set hz with h | h
    · exact hall z h
    · subst h; exact hy
def apartB : List Nat → List Nat → Bool
  | a :: p, b :: q => decide (a ≠ b) || apartB p q
  | _, _ => false
theorem Set1.apart {d : D} {p : List Nat} {n1 y : D} (h : Set1 d p n1 y) : ∀ (q : List Nat) (n2 z n3 : D), Set1 d q n2 z → apartB p q = true → ∃ w, Set1 y q n3 w := by
  induction h with
  | nil d new => intro q n2 z n3 _ hp; simp [apartB] at hp
  | not x new y p hs ih =>
    intro q n2 z n3 hq hp
    generalize hd : D.tup [.str sNot, x] = d at hq
    cases hq with
    | nil => simp [apartB] at hp
    | not x' _ y' q' hq' =>
      cases hd
      simp only [apartB, ne_eq, not_true_eq_false, decide_false, Bool.false_or] at hp
      obtain ⟨w, hw⟩ := ih q' n2 _ n3 hq' hp
      exact ⟨_, .not _ _ _ _ hw⟩
    | gate a xs i x' _ y' q' hx hq' =>
      simp only [D.tup.injEq, List.cons.injEq, D.str.injEq, and_true] at hd
      exact absurd hd.1 (by cases a <;> decide)
  | gate a xs i x new y p hx hs ih =>
    intro q n2 z n3 hq hp
    generalize hd : D.tup [.str (sGate a), .tup xs] = d at hq
    cases hq with
    | nil => simp [apartB] at hp
    | not x' _ y' q' hq' =>
      simp only [D.tup.injEq, List.cons.injEq, D.str.injEq, and_true] at hd
      exact absurd hd.1 (by cases a <;> decide)
    | gate a' xs' j x' _ y' q' hx' hq' =>
      simp only [D.tup.injEq, List.cons.injEq, D.str.injEq, and_true] at hd
      obtain ⟨ha, rfl⟩ := hd
      have hil : i < xs.length := (List.getElem?_eq_some_iff.mp hx).1
      by_cases hij : i = j
      · subst hij
        rw [hx] at hx'
        cases hx'
        have hp1 : apartB p q' = true := by
          have hp0 : (decide (i ≠ i) || apartB p q') = true := hp
          rcases Bool.or_eq_true_iff.mp hp0 with z | z
          · exact absurd rfl (of_decide_eq_true z)
          · exact z
        obtain ⟨w, hw⟩ := ih q' n2 _ n3 hq' hp1
        exact ⟨_, .gate a _ i y _ _ _ (by rw [List.getElem?_set_self hil]) hw⟩
      · have : ∃ w, Set1 x' q' n3 w := by
          clear ih hp hx hs hx' ha
          induction hq' with
          | nil d _ => exact ⟨n3, .nil _ _⟩
          | not x _ y q hs ih => obtain ⟨w, hw⟩ := ih; exact ⟨_, .not _ _ _ _ hw⟩
          | gate b ys l x _ y q hx hs ih => obtain ⟨w, hw⟩ := ih; exact ⟨_, .gate b ys l x _ _ _ hx hw⟩
        obtain ⟨w, hw⟩ := this
        exact ⟨_, .gate a _ j x' _ _ _ (by rw [List.getElem?_set_ne hij]; exact hx') hw⟩
theorem at_full : ∀ (p : List Nat) (t u : T), t.full → t.at? p = some u → u.full
  | [], t, u, hf, h => by cases h; exact hf
  | i :: p, t, u, hf, h => by
    simp only [T.at?] at h
    cases hi : t.parts[i]? with
    | none => rw [hi] at h; cases h
    | some v =>
      rw [hi] at h
      refine at_full p v u ?_ h
      have hv := List.mem_of_getElem? hi
      have mem : ∀ (ts : List T), fullS ts → ∀ v ∈ ts, v.full := by
        intro ts
        induction ts with
        | nil => intro _ v h; cases h
        | cons t r ih =>
          intro hf v h
          rcases List.mem_cons.mp h with rfl | h
          · exact hf.1
          · exact ih hf.2 v h
      cases t with
      | not s => simp [T.parts] at hv; subst hv; exact hf
      | gate a ts => exact mem ts hf.2.2 v hv
      | inp _ => simp [T.parts] at hv
      | one => simp [T.parts] at hv
      | zero => simp [T.parts] at hv
end Bs
/-! Bs: trees put in for the letters of a tree. -/
namespace Bs
structure WD (n : Nat) (t : T) : Prop where
  full : t.full
  lt : t.lt n = true
  depth : t.depth ≤ 8
  leaves : t.leaves ≤ 240
mutual
def T.fill (f : Nat → T) : T → T
  | .inp i => f i
  | .one => .one
  | .zero => .zero
  | .not t => .not (t.fill f)
  | .gate a ts => .gate a (fillS f ts)
def fillS (f : Nat → T) : List T → List T
  | [] => []
  | t :: r => t.fill f :: fillS f r
end
theorem fillS_len (f : Nat → T) : ∀ ts : List T, (fillS f ts).length = ts.length
  | [] => rfl
  | t :: r => by simp [fillS, fillS_len f r]
mutual
theorem fill_full {f : Nat → T} (hf : ∀ i, (f i).full) : ∀ t : T, t.full → (t.fill f).full
  | .inp i, _ => hf i
  | .one, _ => trivial
  | .zero, _ => trivial
  | .not t, h => fill_full hf t h
  | .gate a ts, h => by
    obtain ⟨h1, h2, h3⟩ := h
    refine ⟨fun z => ?_, by rw [fillS_len]; exact h2, fillS_full hf ts h3⟩
    have := fillS_len f ts
    rw [z] at this
    exact h1 (List.length_eq_zero_iff.mp this.symm)
theorem fillS_full {f : Nat → T} (hf : ∀ i, (f i).full) : ∀ ts : List T, fullS ts → fullS (fillS f ts)
  | [], _ => trivial
  | t :: r, h => ⟨fill_full hf t h.1, fillS_full hf r h.2⟩
end
mutual
theorem fill_lt {n : Nat} {f : Nat → T} (hf : ∀ i, (f i).lt n = true) : ∀ t : T, (t.fill f).lt n = true
  | .inp i => hf i
  | .one => rfl
  | .zero => rfl
  | .not t => by simp only [T.fill, T.lt]; exact fill_lt hf t
  | .gate a ts => by simp only [T.fill, T.lt]; exact fillS_lt hf ts
theorem fillS_lt {n : Nat} {f : Nat → T} (hf : ∀ i, (f i).lt n = true) : ∀ ts : List T, ltS n (fillS f ts) = true
  | [] => rfl
  | t :: r => by simp only [fillS, ltS, fill_lt hf t, fillS_lt hf r, Bool.and_self]
end
/-! leaves and levels by weights of the letters -/
mutual
def T.fl (w : Nat → Nat) : T → Nat
  | .inp i => w i
  | .one => 1
  | .zero => 1
  | .not t => t.fl w
  | .gate _ ts => flS w ts
def flS (w : Nat → Nat) : List T → Nat
  | [] => 0
  | t :: r => t.fl w + flS w r
end
mutual
def T.fd (w : Nat → Nat) : T → Nat
  | .inp i => w i
  | .one => 1
  | .zero => 1
  | .not t => t.fd w + 1
  | .gate _ ts => fdS w ts + 1
def fdS (w : Nat → Nat) : List T → Nat
  | [] => 0
  | t :: r => max (t.fd w) (fdS w r)
end
mutual
theorem fill_leaves (f : Nat → T) : ∀ t : T, (t.fill f).leaves = t.fl fun i => (f i).leaves
  | .inp i => rfl
  | .one => rfl
  | .zero => rfl
  | .not t => by simp only [T.fill, T.leaves, T.fl]; exact fill_leaves f t
  | .gate a ts => by simp only [T.fill, T.leaves, T.fl]; exact fillS_leaves f ts
theorem fillS_leaves (f : Nat → T) : ∀ ts : List T, leavesS (fillS f ts) = flS (fun i => (f i).leaves) ts
  | [] => rfl
  | t :: r => by simp only [fillS, leavesS, flS, fill_leaves f t, fillS_leaves f r]
end
mutual
theorem fill_depth (f : Nat → T) : ∀ t : T, (t.fill f).depth = t.fd fun i => (f i).depth
  | .inp i => rfl
  | .one => rfl
  | .zero => rfl
  | .not t => by simp only [T.fill, T.depth, T.fd, fill_depth f t]
  | .gate a ts => by simp only [T.fill, T.depth, T.fd, fillS_depth f ts]
theorem fillS_depth (f : Nat → T) : ∀ ts : List T, depthS (fillS f ts) = fdS (fun i => (f i).depth) ts
  | [] => rfl
  | t :: r => by simp only [fillS, depthS, fdS, fill_depth f t, fillS_depth f r]
end
mutual
theorem fl_le {w : Nat → Nat} {m : Nat} (hm : 1 ≤ m) (hw : ∀ i, w i ≤ m) : ∀ t : T, t.fl w ≤ t.leaves * m
  | .inp i => by simp only [T.fl, T.leaves, Nat.one_mul]; exact hw i
  | .one => by simp only [T.fl, T.leaves, Nat.one_mul]; exact hm
  | .zero => by simp only [T.fl, T.leaves, Nat.one_mul]; exact hm
  | .not t => by simp only [T.fl, T.leaves]; exact fl_le hm hw t
  | .gate a ts => by simp only [T.fl, T.leaves]; exact flS_le hm hw ts
theorem flS_le {w : Nat → Nat} {m : Nat} (hm : 1 ≤ m) (hw : ∀ i, w i ≤ m) : ∀ ts : List T, flS w ts ≤ leavesS ts * m
  | [] => by simp [flS, leavesS]
  | t :: r => by
    have h1 := fl_le hm hw t
    have h2 := flS_le hm hw r
    simp only [flS, leavesS, Nat.add_mul]
    omega
end
mutual
theorem fd_le {w : Nat → Nat} {m : Nat} (hm : 1 ≤ m) (hw : ∀ i, w i ≤ m) : ∀ t : T, t.fd w ≤ t.depth + m
  | .inp i => by simp only [T.fd, T.depth]; have := hw i; omega
  | .one => by simp only [T.fd, T.depth]; omega
  | .zero => by simp only [T.fd, T.depth]; omega
  | .not t => by simp only [T.fd, T.depth]; have := fd_le hm hw t; omega
  | .gate a ts => by simp only [T.fd, T.depth]; have := fdS_le hm hw ts; omega
theorem fdS_le {w : Nat → Nat} {m : Nat} (hm : 1 ≤ m) (hw : ∀ i, w i ≤ m) : ∀ ts : List T, fdS w ts ≤ depthS ts + m
  | [] => by simp [fdS]
  | t :: r => by
    have h1 := fd_le hm hw t
    have h2 := fdS_le hm hw r
    simp only [fdS, depthS]
    omega
end
/-! the same by the paths -/
def wtL (w : Nat → Nat) : T → Nat
  | .inp i => w i
  | .one => 1
  | .zero => 1
  | _ => 0
def wtD (w : Nat → Nat) : T → Nat
  | .inp i => w i
  | _ => 1
mutual
theorem paths_sum (w : Nat → Nat) : ∀ (t : T) (p : List Nat), ((t.paths p).map fun q => wtL w q.2).sum = t.fl w
  | .inp i, p => by simp [T.paths, wtL, T.fl]
  | .one, p => by simp [T.paths, wtL, T.fl]
  | .zero, p => by simp [T.paths, wtL, T.fl]
  | .not t, p => by rw [T.paths, List.map_cons, List.sum_cons, paths_sum w t]; simp [wtL, T.fl]
  | .gate a ts, p => by rw [T.paths, List.map_cons, List.sum_cons, pathsS_sum w ts]; simp [wtL, T.fl]
theorem pathsS_sum (w : Nat → Nat) : ∀ (ts : List T) (p : List Nat) (j : Nat), ((pathsS p j ts).map fun q => wtL w q.2).sum = flS w ts
  | [], p, j => by simp [pathsS, flS]
  | t :: r, p, j => by rw [pathsS, List.map_append, List.sum_append, paths_sum w t, pathsS_sum w r]; rfl
end
def mxW (w : Nat → Nat) (m : Nat) (q : List Nat × T) : Nat := max m (q.1.length + wtD w q.2)
mutual
theorem paths_max (w : Nat → Nat) (hw : ∀ i, 1 ≤ w i) : ∀ (t : T) (p : List Nat) (m : Nat), (t.paths p).foldl (mxW w) m = max m (p.length + t.fd w)
  | .inp i, p, m => by simp [T.paths, mxW, wtD, T.fd]
  | .one, p, m => by simp [T.paths, mxW, wtD, T.fd]
  | .zero, p, m => by simp [T.paths, mxW, wtD, T.fd]
  | .not t, p, m => by
    simp only [T.paths, List.foldl_cons, paths_max w hw t, mxW, wtD, T.fd, List.length_append, List.length_singleton]
    omega
  | .gate a ts, p, m => by
    simp only [T.paths, List.foldl_cons, pathsS_max w hw ts, mxW, wtD, T.fd]
    by_cases h : ts = []
    · subst h; simp [fdS]
    · rw [if_neg h]; omega
theorem pathsS_max (w : Nat → Nat) (hw : ∀ i, 1 ≤ w i) : ∀ (ts : List T) (p : List Nat) (j m : Nat), (pathsS p j ts).foldl (mxW w) m = if ts = [] then m else max m (p.length + 1 + fdS w ts)
  | [], p, j, m => by simp [pathsS]
  | t :: r, p, j, m => by
    simp only [pathsS, List.foldl_append, paths_max w hw t, pathsS_max w hw r, List.length_append, List.length_singleton, fdS]
    rw [if_neg (List.cons_ne_nil t r)]
    by_cases h : r = []
    · subst h; simp [fdS]
    · rw [if_neg h]; omega
end
/-! sizes -/
theorem mx_foldl : ∀ (ls : List Nat) (m : Nat), (ls.map fun i : Nat => (i : Int)).foldl (fun a b => if a < b then b else a) (m : Int) = ((ls.foldl max m : Nat) : Int)
  | [], m => rfl
  | i :: r, m => by
    rw [List.map_cons, List.foldl_cons, List.foldl_cons, ← mx_foldl r (max m i)]
    congr 1
    by_cases h : (m : Int) < (i : Int)
    · rw [if_pos h]; omega
    · rw [if_neg h]; omega
theorem foldl_max : ∀ (ts : List T) (m : Nat), (ts.map T.depth).foldl max m = max m (depthS ts)
  | [], m => by simp [depthS]
  | t :: r, m => by simp only [List.map_cons, List.foldl_cons, foldl_max r, depthS]; omega
mutual
theorem sz_eq : ∀ t : T, t.full → t.sz = (((t.leaves : Nat) : Int), ((t.depth : Nat) : Int))
  | .inp i, _ => rfl
  | .one, _ => rfl
  | .zero, _ => rfl
  | .not t, h => by
    have := sz_eq t h
    simp only [T.sz, this, T.leaves, T.depth]
    congr 1
    omega
  | .gate a ts, h => by
    have e := szS_eq ts h.2.2
    simp only [T.sz, e, T.leaves, T.depth, List.map_map]
    have h1 : ∀ l : List T, (l.map ((fun x : Int × Int => x.1) ∘ fun t => (((t.leaves : Nat) : Int), ((t.depth : Nat) : Int)))).sum = ((leavesS l : Nat) : Int) := by
      intro l
      induction l with
      | nil => rfl
      | cons t r ih => rw [List.map_cons, List.sum_cons, ih]; simp [leavesS, Function.comp]
    rw [h1]
    congr 1
    cases ts with
    | nil => exact absurd rfl h.1
    | cons t r =>
      have h2 : mx (((t :: r).map ((fun x : Int × Int => x.2) ∘ fun t => (((t.leaves : Nat) : Int), ((t.depth : Nat) : Int))))) = ((depthS (t :: r) : Nat) : Int) := by
        have e2 : ((t :: r).map ((fun x : Int × Int => x.2) ∘ fun t : T => (((t.leaves : Nat) : Int), ((t.depth : Nat) : Int)))) = ((t.depth : Nat) : Int) :: ((r.map T.depth).map fun i : Nat => (i : Int)) := by
          simp [Function.comp]
        rw [e2]
        show ((r.map T.depth).map fun i : Nat => (i : Int)).foldl (fun a b => if a < b then b else a) ((t.depth : Nat) : Int) = _
        rw [mx_foldl, foldl_max]
        simp only [depthS]
      rw [h2]
      omega
theorem szS_eq : ∀ ts : List T, fullS ts → szS ts = ts.map fun t => (((t.leaves : Nat) : Int), ((t.depth : Nat) : Int))
  | [], _ => rfl
  | t :: r, h => by simp only [szS, List.map_cons, sz_eq t h.1, szS_eq r h.2]
end
/-! signs -/
mutual
theorem fill_sgn {f : Nat → T} {c s : List Nat} : ∀ t : T, (∀ i ∈ t.lets, (f i).sgn c = s[i]?.getD 0) → (t.fill f).sgn c = t.sgn s
  | .inp i, h => h i (by simp [T.lets])
  | .one, _ => rfl
  | .zero, _ => rfl
  | .not t, h => by simp only [T.fill, T.sgn, fill_sgn t h]
  | .gate a ts, h => by simp only [T.fill, T.sgn, fillS_sgn ts h]
theorem fillS_sgn {f : Nat → T} {c s : List Nat} : ∀ ts : List T, (∀ i ∈ letsS ts, (f i).sgn c = s[i]?.getD 0) → sgnS c (fillS f ts) = sgnS s ts
  | [], _ => rfl
  | t :: r, h => by
    simp only [fillS, sgnS, fill_sgn t fun i hi => h i (by simp [letsS, hi]), fillS_sgn r fun i hi => h i (by simp [letsS, hi])]
end
/-! what is no tree -/
def Bd (d : D) : Prop := ∀ t : T, t.full → t.lt 5 = true → d ≠ enc t
theorem full_mem : ∀ {ts : List T} {t : T}, fullS ts → t ∈ ts → t.full
  | t :: r, u, h, m => by
    rcases List.mem_cons.mp m with rfl | m
    · exact h.1
    · exact full_mem h.2 m
theorem lt_mem {n : Nat} : ∀ {ts : List T} {t : T}, ltS n ts = true → t ∈ ts → t.lt n = true
  | t :: r, u, h, m => by
    simp only [ltS, Bool.and_eq_true] at h
    rcases List.mem_cons.mp m with rfl | m
    · exact h.1
    · exact lt_mem h.2 m
theorem Set1.bd {d : D} {p : List Nat} {new y : D} (h : Set1 d p new y) (hb : Bd new) : Bd y := by
  induction h with
  | nil d new => exact hb
  | not x new y p h ih =>
    intro t hf hl e
    cases t with
    | not u => simp only [enc, D.tup.injEq, List.cons.injEq, and_true, true_and] at e; exact ih hb u hf hl e
    | gate a ts => cases a <;> simp [enc, sGate] at e
    | _ => simp [enc] at e
  | gate a xs i x new y p hx h ih =>
    intro t hf hl e
    cases t with
    | not u => cases a <;> simp [enc, sGate] at e
    | gate b ts =>
      simp only [enc, D.tup.injEq, List.cons.injEq, and_true] at e
      have e2 := e.2
      rw [encs_map] at e2
      have hi : i < xs.length := (List.getElem?_eq_some_iff.mp hx).1
      have e3 : (xs.set i y)[i]? = some y := List.getElem?_set_self hi
      rw [e2, List.getElem?_map] at e3
      obtain ⟨u, hu, rfl⟩ := Option.map_eq_some_iff.mp e3
      have hm := List.mem_of_getElem? hu
      exact ih hb u (full_mem hf.2.2 hm) (lt_mem hl hm) rfl
    | _ => cases a <;> simp [enc, sGate] at e
/-! drawn trees over some letters -/
structure WL (ls : List Nat) (e : Nat) (t : T) : Prop where
  full : t.full
  sub : ∀ i ∈ t.lets, i ∈ ls
  depth : t.depth ≤ e
  leaves : t.leaves ≤ 3 ^ (e - 1)
structure WLs (ls : List Nat) (e : Nat) (ts : List T) : Prop where
  full : fullS ts
  sub : ∀ i ∈ letsS ts, i ∈ ls
  depth : depthS ts ≤ e
  leaves : leavesS ts ≤ ts.length * 3 ^ (e - 1)
theorem WLs.nil (ls : List Nat) (e : Nat) : WLs ls e [] := ⟨by simp [fullS], by simp [letsS], by simp [depthS], by simp [leavesS]⟩
theorem letsS_app : ∀ {a b : List T}, letsS (a ++ b) = letsS a ++ letsS b
  | [], b => by simp [letsS]
  | t :: a, b => by simp [letsS, letsS_app (a := a)]
theorem WLs.snoc {ls : List Nat} {e : Nat} {ts : List T} {t : T} (h : WLs ls e ts) (h' : WL ls e t) : WLs ls e (ts ++ [t]) where
  full := fullS_app h.full ⟨h'.full, trivial⟩
  sub := fun i hi => by
    rw [letsS_app, List.mem_append] at hi
    rcases hi with hi | hi
    · exact h.sub i hi
    · exact h'.sub i (by simpa [letsS] using hi)
  depth := by rw [depthS_app]; have := h.depth; have := h'.depth; simp [depthS]; omega
  leaves := by
    rw [leavesS_app, List.length_append, List.length_singleton, Nat.add_mul]
    have := h.leaves; have := h'.leaves
    simp [leavesS]; omega
theorem gate_wl {ls : List Nat} {e : Nat} {ts : List T} (a : Bool) (h : WLs ls e ts) (h0 : ts ≠ []) (h3 : ts.length ≤ 3) (he : 1 ≤ e) : WL ls (e + 1) (.gate a ts) where
  full := ⟨h0, by omega, h.full⟩
  sub := h.sub
  depth := by have := h.depth; simp [T.depth]; omega
  leaves := by
    have h1 := h.leaves
    have h2 : ts.length * 3 ^ (e - 1) ≤ 3 * 3 ^ (e - 1) := Nat.mul_le_mul_right _ h3
    have h4 : 3 ^ (e + 1 - 1) = 3 * 3 ^ (e - 1) := by
      have : e + 1 - 1 = (e - 1) + 1 := by omega
      rw [this, Nat.pow_succ, Nat.mul_comm]
    simp only [T.leaves]
    omega
/-- a tree over some letters, of so many levels and leaves at most -/
structure TB (ls : List Nat) (d l : Nat) (t : T) : Prop where
  full : t.full
  sub : ∀ i ∈ t.lets, i ∈ ls
  depth : t.depth ≤ d
  leaves : t.leaves ≤ l
theorem WL.tb {ls : List Nat} {e l : Nat} {t : T} (h : WL ls e t) (hl : 3 ^ (e - 1) ≤ l) : TB ls e l t := ⟨h.full, h.sub, h.depth, Nat.le_trans h.leaves hl⟩
theorem TB.mono {ls : List Nat} {d d' l l' : Nat} {t : T} (h : TB ls d l t) (hd : d ≤ d') (hl : l ≤ l') : TB ls d' l' t := ⟨h.full, h.sub, Nat.le_trans h.depth hd, Nat.le_trans h.leaves hl⟩
mutual
theorem lets_ltT {n : Nat} : ∀ t : T, (∀ i ∈ t.lets, i < n) → t.lt n = true
  | .inp i, h => by simp only [T.lt]; exact decide_eq_true (h i (by simp [T.lets]))
  | .one, _ => rfl
  | .zero, _ => rfl
  | .not t, h => by simp only [T.lt]; exact lets_ltT t h
  | .gate a ts, h => by simp only [T.lt]; exact lets_ltS ts h
theorem lets_ltS {n : Nat} : ∀ ts : List T, (∀ i ∈ letsS ts, i < n) → ltS n ts = true
  | [], _ => rfl
  | t :: r, h => by
    simp only [ltS, lets_ltT t fun i hi => h i (by simp [letsS, hi]), lets_ltS r fun i hi => h i (by simp [letsS, hi]), Bool.and_self]
end
def wrpT (w : Option Bool) (t : T) : T := match w with
  | none => .not t
  | some a => .gate a [t]
def wrdT (w : Option Bool) : List Nat := match w with
  | none => sNot
  | some a => sGate a
def wrpN (w : Option Bool) : Nat → T → T
  | 0, t => t
  | m + 1, t => wrpN w m (wrpT w t)
theorem wrpT_tb {ls : List Nat} {d l : Nat} {t : T} (w : Option Bool) (h : TB ls d l t) : TB ls (d + 1) l (wrpT w t) := by
  obtain ⟨a, b, c, e⟩ := h
  cases w with
  | none => exact ⟨a, b, by simp only [wrpT, T.depth]; omega, e⟩
  | some g => exact ⟨⟨by simp, by simp, a, trivial⟩, by simpa [wrpT, T.lets, letsS] using b, by simp only [wrpT, T.depth, depthS]; omega, by simpa [wrpT, T.leaves, leavesS] using e⟩
theorem wrpN_tb {ls : List Nat} {l : Nat} (w : Option Bool) : ∀ (m : Nat) {d : Nat} {t : T}, TB ls d l t → TB ls (d + m) l (wrpN w m t)
  | 0, d, t, h => h
  | m + 1, d, t, h => by
    have := wrpN_tb w m (wrpT_tb w h)
    rw [show d + 1 + m = d + (m + 1) from by omega] at this
    exact this
/-- a gate of letters -/
theorem row_tb {ls : List Nat} {l : Nat} (a : Bool) {is : List Nat} (h0 : is ≠ []) (hl : is.length ≤ l) (h1 : is.length ≤ 1000) (hs : ∀ i ∈ is, i ∈ ls) : TB ls 2 l (.gate a (is.map T.inp)) := by
  have hf : ∀ is : List Nat, fullS (is.map T.inp) := fun is => by induction is with
    | nil => trivial
    | cons i r ih => exact ⟨trivial, ih⟩
  have hd : ∀ is : List Nat, depthS (is.map T.inp) ≤ 1 := fun is => by induction is with
    | nil => simp [depthS]
    | cons i r ih => simp only [List.map_cons, depthS, T.depth]; omega
  have hle : ∀ is : List Nat, leavesS (is.map T.inp) = is.length := fun is => by induction is with
    | nil => rfl
    | cons i r ih => simp only [List.map_cons, leavesS, T.leaves, ih, List.length_cons]; omega
  have hle2 : ∀ is : List Nat, letsS (is.map T.inp) = is := fun is => by induction is with
    | nil => rfl
    | cons i r ih => simp only [List.map_cons, letsS, T.lets, ih, List.singleton_append]
  refine ⟨⟨fun z => h0 (by simpa using z), by rw [List.length_map]; exact h1, hf is⟩, by simp only [T.lets, hle2]; exact hs, by simp only [T.depth]; have := hd is; omega, by simp only [T.leaves, hle]; exact hl⟩
end Bs
/-! Bs: dicts of trees, points. -/
namespace Bs
mutual
theorem plain_enc : ∀ (t : T) (n : Nat), 2 * t.depth ≤ n → plain n (enc t) = true
  | .inp i, n, h => by obtain ⟨m, rfl⟩ : ∃ m, n = m + 2 := ⟨n - 2, by simp [T.depth] at h; omega⟩; simp [enc, plain, plains]
  | .one, n, h => by obtain ⟨m, rfl⟩ : ∃ m, n = m + 2 := ⟨n - 2, by simp [T.depth] at h; omega⟩; simp [enc, plain, plains]
  | .zero, n, h => by obtain ⟨m, rfl⟩ : ∃ m, n = m + 2 := ⟨n - 2, by simp [T.depth] at h; omega⟩; simp [enc, plain, plains]
  | .not t, n, h => by
    simp only [T.depth] at h
    obtain ⟨m, rfl⟩ : ∃ m, n = m + 2 := ⟨n - 2, by omega⟩
    have := plain_enc t (m + 1) (by omega)
    simp [enc, plain, plains, this]
  | .gate a ts, n, h => by
    simp only [T.depth] at h
    obtain ⟨m, rfl⟩ : ∃ m, n = m + 2 := ⟨n - 2, by omega⟩
    have := plains_encs ts m (by omega)
    simp [enc, plain, plains, this]
theorem plains_encs : ∀ (ts : List T) (n : Nat), 2 * depthS ts ≤ n → plains n (encs ts) = true
  | [], n, _ => by simp [encs, plains]
  | t :: r, n, h => by
    simp only [depthS] at h
    simp [encs, plains, plain_enc t n (by omega), plains_encs r n (by omega)]
end
mutual
theorem eqB_enc : ∀ t : T, eqB (enc t) (enc t) = true
  | .inp i => by simp [enc, eqB, eqBs]
  | .one => by simp [enc, eqB, eqBs]
  | .zero => by simp [enc, eqB, eqBs]
  | .not t => by simp [enc, eqB, eqBs, eqB_enc t]
  | .gate a ts => by simp [enc, eqB, eqBs, eqBs_encs ts]
theorem eqBs_encs : ∀ ts : List T, eqBs (encs ts) (encs ts) = true
  | [] => by simp [encs, eqBs]
  | t :: r => by simp [encs, eqBs, eqB_enc t, eqBs_encs r]
end
theorem compare_tup (xs ys : List D) : compare .eq (.tup xs) (.tup ys) = (eqD (.tup xs) (.tup ys)).map .bl := rfl
theorem enc_tupX (t : T) : ∃ xs, enc t = .tup xs := by cases t <;> exact ⟨_, rfl⟩
theorem cmp_enc (t : T) (h : t.depth ≤ 30) : compare .eq (enc t) (enc t) = some (.bl true) := by
  have h1 := plain_enc t 60 (by omega)
  have h2 := eqB_enc t
  obtain ⟨xs, e⟩ := enc_tupX t
  rw [e] at h1 h2 ⊢
  rw [compare_tup]
  unfold eqD
  rw [h1, h2]
  rfl
/-! points -/
mutual
theorem sgn_pt {c : List Nat} (hc : ∀ x ∈ c, x = 48 ∨ x = 49) : ∀ t : T, t.lt c.length = true → t.sgn c = 48 ∨ t.sgn c = 49
  | .inp i, h => by
    have hi : i < c.length := by simpa [T.lt] using h
    simp only [T.sgn, List.getElem?_eq_getElem hi, Option.getD_some]
    exact hc _ (List.getElem_mem hi)
  | .one, _ => by simp [T.sgn]
  | .zero, _ => by simp [T.sgn]
  | .not t, h => by
    simp only [T.sgn]
    rcases sgn_pt hc t h with e | e <;> rw [e] <;> decide
  | .gate a ts, h => by
    simp only [T.sgn]
    have := sgnS_pt hc ts h
    have hn : ¬ 45 ∈ sgnS c ts := fun z => by rcases this 45 z with e | e <;> cases e
    unfold comb
    rw [if_neg hn]
    split <;> cases a <;> simp [str01]
theorem sgnS_pt {c : List Nat} (hc : ∀ x ∈ c, x = 48 ∨ x = 49) : ∀ ts : List T, ltS c.length ts = true → ∀ x ∈ sgnS c ts, x = 48 ∨ x = 49
  | [], _, x, hx => by cases hx
  | t :: r, h, x, hx => by
    simp only [ltS, Bool.and_eq_true] at h
    rcases List.mem_cons.mp hx with rfl | hx
    · exact sgn_pt hc t h.1
    · exact sgnS_pt hc r h.2 x hx
end
/-! dicts of trees -/
def dkE (f : Nat → T) (ks : List Nat) : List (D × D) := ks.map fun i => (.int ((i : Nat) : Int), enc (f i))
def updT (f : Nat → T) (i : Nat) (u : T) : Nat → T := fun j => if j = i then u else f j
theorem int_key (i j : Nat) : (keyD (.int ((i : Nat) : Int)) = keyD (.int ((j : Nat) : Int))) ↔ i = j := by
  simp only [keyD, Option.some.injEq, Sum.inl.injEq]
  omega
theorem dk_put (f : Nat → T) (ks : List Nat) (i : Nat) (u : T) : putD (dkE f ks) (.int ((i : Nat) : Int)) (enc u) = dkE (updT f i u) (if i ∈ ks then ks else ks ++ [i]) := by
  have hany : (dkE f ks).any (fun q => decide (keyD q.1 = keyD (.int ((i : Nat) : Int)))) = decide (i ∈ ks) := by
    rw [Bool.eq_iff_iff, List.any_eq_true]
    simp only [dkE, List.mem_map, decide_eq_true_eq]
    constructor
    · rintro ⟨q, ⟨j, hj, rfl⟩, e⟩
      rw [int_key] at e
      rw [← e]; exact hj
    · intro h
      exact ⟨_, ⟨i, h, rfl⟩, rfl⟩
  unfold putD
  rw [hany]
  by_cases h : i ∈ ks
  · rw [if_pos (by simpa using h), if_pos h]
    simp only [dkE, List.map_map]
    refine List.map_congr_left fun j _ => ?_
    simp only [Function.comp, updT]
    by_cases e : j = i
    · subst e; rw [if_pos rfl, if_pos rfl]
    · rw [if_neg (fun z => e ((int_key j i).mp z)), if_neg e]
  · rw [if_neg (by simpa using h), if_neg h]
    simp only [dkE, List.map_append, List.map_cons, List.map_nil, updT, if_pos]
    congr 1
    refine List.map_congr_left fun j hj => ?_
    have e : ¬ j = i := fun z => h (z ▸ hj)
    rw [if_neg e]
theorem dk_get (f : Nat → T) (i : Nat) : ∀ ks : List Nat, i ∈ ks → getD (.inl ((i : Nat) : Int)) (dkE f ks) = some (enc (f i))
  | j :: ks, h => by
    show getD _ ((.int ((j : Nat) : Int), enc (f j)) :: dkE f ks) = _
    unfold getD
    dsimp only
    by_cases e : j = i
    · subst e; exact if_pos rfl
    · refine (if_neg (fun z => e ((int_key j i).mp z))).trans ?_
      rcases List.mem_cons.mp h with h | h
      · exact absurd h.symm e
      · exact dk_get f i ks h
theorem dk_vals (f : Nat → T) (hd : ∀ i, (f i).depth ≤ 20) (ks : List Nat) : valsP (dkE f ks) = true := by
  unfold valsP
  rw [List.all_eq_true]
  intro q hq
  simp only [dkE, List.mem_map] at hq
  obtain ⟨i, _, rfl⟩ := hq
  rw [Bool.and_eq_true]
  exact ⟨rfl, plain_enc (f i) 55 (by have := hd i; omega)⟩
theorem dk_hits (f : Nat → T) (ls : List Nat) : ∀ ks : List Nat, (∀ i ∈ ks, i ∈ ls) → hitsB (dkE f ls) (dkE f ks) = true
  | [], _ => rfl
  | i :: ks, h => by
    show hitsB (dkE f ls) ((.int ((i : Nat) : Int), enc (f i)) :: dkE f ks) = true
    unfold hitsB
    have h1 := dk_get f i ls (h i List.mem_cons_self)
    have h2 := dk_hits f ls ks fun j hj => h j (List.mem_cons_of_mem _ hj)
    have hk : keyD (.int ((i : Nat) : Int)) = some (.inl ((i : Nat) : Int)) := rfl
    dsimp only
    rw [hk]
    dsimp only
    rw [h1]
    dsimp only
    rw [eqB_enc, h2]
    rfl
theorem dk_ne (f : Nat → T) (hd : ∀ i, (f i).depth ≤ 20) (ks : List Nat) : compare .ne (.dic (dkE f ks)) (.dic (dkE f ks)) = some (.bl false) := by
  have : compare .ne (.dic (dkE f ks)) (.dic (dkE f ks)) = (eqDic (dkE f ks) (dkE f ks)).map fun r => .bl !r := rfl
  rw [this]
  unfold eqDic
  rw [dk_vals f hd ks, dk_hits f ks ks fun _ h => h]
  simp
theorem dk_keys (f : Nat → T) (ks : List Nat) : (dkE f ks).map (·.1) = iN ks := by
  simp only [dkE, List.map_map]
  rfl
theorem strs_SL : ∀ ws : List (List Nat), strsD (SL ws) = some ws
  | [] => rfl
  | w :: r => by
    show (strsD (SL r)).map (w :: ·) = _
    rw [strs_SL r]; rfl
end Bs
namespace Bs
/-- what a law hands for a node that is none -/
def badL (xs : List D) (N M : Int) : List D := [.non, .int N, .bl true, .str [120, 48], .lst xs, .tup [], .tup (xs ++ [.tup [.str [105, 110], .int M]]), .tup [.str [105, 110], .bl true], .tup [.str [105, 110], .int (5 + N)],
    .tup [.str [105, 110], .int (-1 - N)], .tup [.str [97, 110, 100], .tup []], .tup [.str [111, 114], .lst [.tup [.str [105, 110], .int M]]], .tup [.str [110, 97, 110, 100], .tup [.tup [.str [105, 110], .int M]]], .tup [.str [110, 111, 116]],
    .tup [.str [111, 110, 101], .tup []], .tup [.str [122, 101, 114, 111], .int N], .dic [], .tup [.str [105, 110], .str [48]], .tup [.str [105, 110]], .tup [.str [97, 110, 100], .tup [.str [111, 110, 101]]],
    .tup [.non, .tup [.str [105, 110], .int M]], .tup [.tup [.str [105, 110], .int M], .tup [.str [105, 110], .int M]]]
theorem badL_bd (N M : Int) (hN : 0 ≤ N) (u : T) (xs : List D) (ex : enc u = .tup xs) : ∀ d ∈ badL xs N M, Bd d := by
  intro d hd
  simp only [badL, List.mem_cons, List.not_mem_nil, or_false] at hd
  have h6 : Bd (.tup (xs ++ [.tup [.str [105, 110], .int M]])) := by
    intro t hf hl e
    cases u with
    | gate b us => simp only [enc, D.tup.injEq] at ex; subst ex; cases t with
      | gate a ts => cases a <;> cases b <;> simp [enc, sGate] at e
      | _ => cases b <;> simp [enc, sGate] at e
    | not v => simp only [enc, D.tup.injEq] at ex; subst ex; cases t with
      | gate a ts => cases a <;> simp [enc, sGate] at e
      | _ => simp [enc, sGate] at e
    | one => simp only [enc, D.tup.injEq] at ex; subst ex; cases t with
      | gate a ts => cases a <;> simp [enc, sGate] at e
      | _ => simp [enc, sGate] at e
    | zero => simp only [enc, D.tup.injEq] at ex; subst ex; cases t with
      | gate a ts => cases a <;> simp [enc, sGate] at e
      | _ => simp [enc, sGate] at e
    | inp i => simp only [enc, D.tup.injEq] at ex; subst ex; cases t with
      | gate a ts => cases a <;> simp [enc, sGate] at e
      | _ => simp [enc, sGate] at e
  have h8 : Bd (.tup [.str [105, 110], .int (5 + N)]) := by
    intro t hf hl e
    cases t with
    | gate a ts => cases a <;> simp [enc, sGate] at e
    | inp i =>
      simp only [T.lt, decide_eq_true_eq] at hl
      simp only [enc, D.tup.injEq, List.cons.injEq, D.int.injEq, and_true] at e
      omega
    | _ => simp [enc, sGate] at e
  have h9 : Bd (.tup [.str [105, 110], .int (-1 - N)]) := by
    intro t hf hl e
    cases t with
    | gate a ts => cases a <;> simp [enc, sGate] at e
    | inp i =>
      simp only [enc, D.tup.injEq, List.cons.injEq, D.int.injEq, and_true] at e
      omega
    | _ => simp [enc, sGate] at e
  have h10 : Bd (.tup [.str [97, 110, 100], .tup []]) := by
    intro t hf hl e
    cases t with
    | gate a ts =>
      have hne : ts ≠ [] := hf.1
      cases ts with
      | nil => exact hne rfl
      | cons x r => cases a <;> simp [enc, encs, sGate] at e
    | _ => simp [enc, sGate] at e
  have h19 : Bd (.tup [.str [97, 110, 100], .tup [.str [111, 110, 101]]]) := by
    intro t hf hl e
    cases t with
    | gate a ts =>
      cases ts with
      | nil => simp [enc, encs] at e
      | cons x r =>
        obtain ⟨ys, ey⟩ : ∃ ys, enc x = .tup ys := by cases x <;> exact ⟨_, rfl⟩
        simp [enc, encs, ey] at e
    | _ => simp [enc, sGate] at e
  rcases hd with rfl | rfl | rfl | rfl | rfl | rfl | rfl | rfl | rfl | rfl | rfl | rfl | rfl | rfl | rfl | rfl | rfl | rfl | rfl | rfl | rfl | rfl
  all_goals first
    | exact h6
    | exact h8
    | exact h9
    | exact h10
    | exact h19
    | (intro t hf hl e
       cases t with
       | gate a ts => cases a <;> simp [enc, sGate] at e
       | _ => simp [enc, sGate] at e)
mutual
theorem enc_inj : ∀ t u : T, enc t = enc u → t = u
  | .inp i, u, e => by
    cases u with
    | inp j => simp only [enc, D.tup.injEq, List.cons.injEq, D.int.injEq, and_true, true_and] at e; congr 1; omega
    | gate a ts => cases a <;> simp [enc, sGate] at e
    | _ => simp [enc, sGate] at e
  | .one, u, e => by
    cases u with
    | one => rfl
    | gate a ts => cases a <;> simp [enc, sGate] at e
    | _ => simp [enc, sGate] at e
  | .zero, u, e => by
    cases u with
    | zero => rfl
    | gate a ts => cases a <;> simp [enc, sGate] at e
    | _ => simp [enc, sGate] at e
  | .not t, u, e => by
    cases u with
    | not v =>
      simp only [enc, D.tup.injEq, List.cons.injEq, and_true, true_and] at e
      rw [enc_inj t v e]
    | gate a ts => cases a <;> simp [enc, sGate] at e
    | _ => simp [enc, sGate] at e
  | .gate b ts, u, e => by
    cases u with
    | gate a us =>
      simp only [enc, D.tup.injEq, List.cons.injEq, and_true, D.str.injEq] at e
      have hab : b = a := by
        have := e.1
        cases a <;> cases b <;> simp [sGate] at this <;> rfl
      rw [hab, encs_inj ts us e.2]
    | _ => cases b <;> simp [enc, sGate] at e
theorem encs_inj : ∀ ts us : List T, encs ts = encs us → ts = us
  | [], [], _ => rfl
  | [], _ :: _, e => by simp [encs] at e
  | _ :: _, [], e => by simp [encs] at e
  | t :: r, u :: s, e => by
    simp only [encs, List.cons.injEq] at e
    rw [enc_inj t u e.1, encs_inj r s e.2]
end
end Bs
namespace Bs.K25
open PySem L2 Bs
def top (i : Nat) : Stmt := PySem.Challenge.pw_burstshop_k25_trees_put_in.main.body.getD i (.Pass ⟨0, 0, 0, 0⟩)
/-- _law_source -/
def c0_0 : E := (.var 2)
def q0_0 : E := (.cmp .ge (.var 2) (.bin .pow (.con (.int 10)) (.con (.int 18))))
def c0_1 : E := (.var 2)
def b0 : List S := [.asg [1] (.lc [2] (.var 0) none c0_0),
  .ret (.new [(.var 1), (.sto (.lc [2] (.var 1) (some q0_0) c0_1)), (.con (.int 0)), (.con (.int 0))])]
def i0 : FnI := ⟨"_law_source", ["_law_script"], false⟩
def d0 : Dr := ⟨i0, ["_law_script", "_law_cells", "_law_cell"], top 30, b0⟩
/-- _law_draw -/
def b1 : List S := [.lset (.var 0) (.con (.int 3)) (.bin .add (.ix (.var 0) (.con (.int 3))) (.con (.int 1))),
  .ite (.and (.cmp .eq (.ix (.var 0) (.con (.int 2))) (.con (.int 0))) (.cmp .gt (.bi .len [(.ix (.var 0) (.con (.int 1)))]) (.con (.int 0)))) [.lset (.var 0) (.con (.int 2)) (.popl (.ix (.var 0) (.con (.int 1))) (.con (.int 0)))] [],
  .ite (.cmp .gt (.ix (.var 0) (.con (.int 2))) (.con (.int 0))) [.asg [4] (.bin .mod (.bi .int [(.ix (.var 0) (.con (.int 2)))]) (.var 1)), .lset (.var 0) (.con (.int 2)) (.bin .fdiv (.ix (.var 0) (.con (.int 2))) (.var 1)), .ret (.var 4)] [],
  .asg [2] (.con (.int 0)),
  .ite (.cmp .gt (.bi .len [(.ix (.var 0) (.con (.int 0)))]) (.con (.int 0))) [.asg [2] (.ix (.ix (.var 0) (.con (.int 0))) (.bin .mod (.bi .int [(.ix (.var 0) (.con (.int 3)))]) (.bi .len [(.ix (.var 0) (.con (.int 0)))])))] [],
  .asg [3] (.bin .mod (.bi .int [(.bin .add (.bin .add (.var 2) (.bin .mul (.con (.int 7919)) (.ix (.var 0) (.con (.int 3))))) (.con (.int 1)))]) (.con (.int 2147483647))),
  .asg [3] (.bin .add (.bin .mod (.bi .int [(.bin .add (.bin .mul (.var 3) (.con (.int 48271))) (.ix (.var 0) (.con (.int 3))))]) (.con (.int 2147483629))) (.con (.int 1))),
  .asg [3] (.bin .mod (.bi .int [(.bin .mul (.var 3) (.bin .add (.bin .fdiv (.var 3) (.con (.int 1009))) (.con (.int 69621))))]) (.con (.int 2147483647))),
  .asg [3] (.bin .mod (.bi .int [(.bin .mul (.var 3) (.bin .add (.bin .fdiv (.var 3) (.con (.int 2003))) (.con (.int 40692))))]) (.con (.int 2147483399))),
  .ret (.bin .mod (.bi .int [(.bin .fdiv (.var 3) (.con (.int 16)))]) (.var 1))]
def i1 : FnI := ⟨"_law_draw", ["_law_source_here", "_law_many"], false⟩
def d1 : Dr := ⟨i1, ["_law_source_here", "_law_many", "_law_cell", "_law_mixed", "_law_digit"], top 31, b1⟩
/-- _law_some -/
def c2_0 : E := (.popl (.var 2) (.call 1 [(.var 0), (.bi .len [(.var 2)])] [] [0, 1]))
def b2 : List S := [.asg [2] (.sto (.lst [(.con (.int 0)), (.con (.int 1)), (.con (.int 2)), (.con (.int 3)), (.con (.int 4))])),
  .ret (.lc [3] (.rng1 (.var 1)) none c2_0)]
def i2 : FnI := ⟨"_law_some", ["_law_source_here", "_law_many"], false⟩
def d2 : Dr := ⟨i2, ["_law_source_here", "_law_many", "_law_rest", "_law_turn"], top 34, b2⟩
/-- _law_leaf -/
def b3 : List S := [.asg [2] (.call 1 [(.var 0), (.con (.int 9))] [] [0, 1]),
  .ite (.cmp .eq (.var 2) (.con (.int 0))) [.ret (.tup [(.con (.str [122, 101, 114, 111]))])] [],
  .ite (.or (.cmp .eq (.var 2) (.con (.int 1))) (.cmp .eq (.bi .len [(.var 1)]) (.con (.int 0)))) [.ret (.tup [(.con (.str [111, 110, 101]))])] [],
  .ret (.tup [(.con (.str [105, 110])), (.ix (.var 1) (.call 1 [(.var 0), (.bi .len [(.var 1)])] [] [0, 1]))])]
def i3 : FnI := ⟨"_law_leaf", ["_law_source_here", "_law_letters"], false⟩
def d3 : Dr := ⟨i3, ["_law_source_here", "_law_letters", "_law_pick"], top 32, b3⟩
/-- _law_tree -/
def c4_0 : E := (.call 4 [(.var 0), (.var 1), (.bin .sub (.var 2) (.con (.int 1)))] [] [0, 1, 2])
def b4 : List S := [.asg [3] (.con (.int 0)),
  .ite (.cmp .gt (.var 2) (.con (.int 1))) [.asg [3] (.call 1 [(.var 0), (.con (.int 8))] [] [0, 1])] [],
  .ite (.cmp .lt (.var 3) (.con (.int 2))) [.ret (.call 3 [(.var 0), (.var 1)] [] [0, 1])] [],
  .ite (.cmp .eq (.var 3) (.con (.int 2))) [.ret (.tup [(.con (.str [110, 111, 116])), (.call 4 [(.var 0), (.var 1), (.bin .sub (.var 2) (.con (.int 1)))] [] [0, 1, 2])])] [],
  .asg [4] (.ix (.lst [(.con (.int 2)), (.con (.int 2)), (.con (.int 3)), (.con (.int 1))]) (.call 1 [(.var 0), (.con (.int 4))] [] [0, 1])),
  .asg [5] (.ix (.lst [(.con (.str [111, 114])), (.con (.str [97, 110, 100]))]) (.bin .sub (.var 3) (.bin .mul (.con (.int 2)) (.bin .fdiv (.var 3) (.con (.int 2)))))),
  .ret (.tup [(.var 5), (.bi .tuple [(.lc [6] (.rng1 (.var 4)) none c4_0)])])]
def i4 : FnI := ⟨"_law_tree", ["_law_source_here", "_law_letters", "_law_deep"], false⟩
def d4 : Dr := ⟨i4, ["_law_source_here", "_law_letters", "_law_deep", "_law_pick", "_law_many", "_law_word", "_law_part"], top 33, b4⟩
/-- _law_row -/
def c5_0 : E := (.tup [(.con (.str [105, 110])), (.ix (.var 1) (.bin .mod (.bi .int [(.bin .add (.var 4) (.var 5))]) (.bi .len [(.var 1)])))])
def b5 : List S := [.asg [3] (.ix (.lst [(.con (.str [97, 110, 100])), (.con (.str [111, 114]))]) (.call 1 [(.var 0), (.con (.int 2))] [] [0, 1])),
  .asg [4] (.call 1 [(.var 0), (.bi .len [(.var 1)])] [] [0, 1]),
  .ret (.tup [(.var 3), (.bi .tuple [(.lc [5] (.rng1 (.var 2)) none c5_0)])])]
def i5 : FnI := ⟨"_law_row", ["_law_source_here", "_law_letters", "_law_many"], false⟩
def d5 : Dr := ⟨i5, ["_law_source_here", "_law_letters", "_law_many", "_law_word", "_law_first", "_law_k"], top 47, b5⟩
/-- _law_wrapped -/
def l6_0 : List S := [.ite (.cmp .eq (.var 3) (.con (.str [110, 111, 116]))) [.asg [1] (.tup [(.con (.str [110, 111, 116])), (.var 1)])] [.asg [1] (.tup [(.var 3), (.tup [(.var 1)])])]]
def b6 : List S := [.asg [3] (.ix (.lst [(.con (.str [110, 111, 116])), (.con (.str [97, 110, 100])), (.con (.str [111, 114]))]) (.call 1 [(.var 0), (.con (.int 3))] [] [0, 1])),
  .forr [4] (.rng1 (.var 2)) l6_0 [4],
  .ret (.var 1)]
def i6 : FnI := ⟨"_law_wrapped", ["_law_source_here", "_law_outer_here", "_law_many"], false⟩
def d6 : Dr := ⟨i6, ["_law_source_here", "_law_outer_here", "_law_many", "_law_word", "_law_turn"], top 46, b6⟩
/-- _law_outer -/
def b7 : List S := [.ite (.cmp .eq (.var 2) (.con (.int 0))) [.ret (.call 5 [(.var 0), (.var 1), (.bi .max [(.con (.int 1)), (.bin .sub (.bin .add (.bin .fdiv (.con (.int 240)) (.var 3)) (.call 1 [(.var 0), (.con (.int 3))] [] [0, 1])) (.con (.int 1)))])] [] [0, 1, 2])] [],
  .asg [4] (.call 4 [(.var 0), (.var 1), (.con (.int 4))] [] [0, 1, 2]),
  .ite (.cmp .eq (.var 2) (.con (.int 1))) [.ret (.call 6 [(.var 0), (.var 4), (.call 1 [(.var 0), (.con (.int 5))] [] [0, 1])] [] [0, 1, 2])] [],
  .ret (.var 4)]
def i7 : FnI := ⟨"_law_outer", ["_law_source_here", "_law_letters", "_law_pick", "_law_size_here"], false⟩
def d7 : Dr := ⟨i7, ["_law_source_here", "_law_letters", "_law_pick", "_law_size_here", "_law_outer_here"], top 48, b7⟩
/-- _law_parts -/
def b8 : List S := [.ite (.cmp .eq (.ix (.var 0) (.con (.int 0))) (.con (.str [110, 111, 116]))) [.ret (.lst [(.ix (.var 0) (.con (.int 1)))])] [],
  .ite (.or (.cmp .eq (.ix (.var 0) (.con (.int 0))) (.con (.str [97, 110, 100]))) (.cmp .eq (.ix (.var 0) (.con (.int 0))) (.con (.str [111, 114])))) [.ret (.bi .list [(.ix (.var 0) (.con (.int 1)))])] [],
  .ret (.lst [])]
def i8 : FnI := ⟨"_law_parts", ["_law_node"], true⟩
def d8 : Dr := ⟨i8, ["_law_node"], top 35, b8⟩
/-- _law_node_fits -/
def b9 : List S := [.ite (.or (.not (.isi (.var 0) [.tuple])) (.or (.cmp .nin (.bi .len [(.var 0)]) (.tup [(.con (.int 1)), (.con (.int 2))])) (.not (.isi (.ix (.var 0) (.con (.int 0))) [.str])))) [.ret (.con (.bl false))] [],
  .ite (.or (.cmp .eq (.ix (.var 0) (.con (.int 0))) (.con (.str [111, 110, 101]))) (.cmp .eq (.ix (.var 0) (.con (.int 0))) (.con (.str [122, 101, 114, 111])))) [.ret (.cmp .eq (.bi .len [(.var 0)]) (.con (.int 1)))] [],
  .ite (.cmp .eq (.bi .len [(.var 0)]) (.con (.int 1))) [.ret (.con (.bl false))] [],
  .ite (.cmp .eq (.ix (.var 0) (.con (.int 0))) (.con (.str [105, 110]))) [.ret (.and (.isi (.ix (.var 0) (.con (.int 1))) [.int]) (.and (.not (.isi (.ix (.var 0) (.con (.int 1))) [.bool])) (.chn .le .lt (.con (.int 0)) (.ix (.var 0) (.con (.int 1))) (.var 1))))] [],
  .ite (.or (.cmp .eq (.ix (.var 0) (.con (.int 0))) (.con (.str [97, 110, 100]))) (.cmp .eq (.ix (.var 0) (.con (.int 0))) (.con (.str [111, 114])))) [.ret (.and (.isi (.ix (.var 0) (.con (.int 1))) [.tuple]) (.cmp .gt (.bi .len [(.ix (.var 0) (.con (.int 1)))]) (.con (.int 0))))] [],
  .ret (.cmp .eq (.ix (.var 0) (.con (.int 0))) (.con (.str [110, 111, 116])))]
def i9 : FnI := ⟨"_law_node_fits", ["_law_node", "_law_n"], false⟩
def d9 : Dr := ⟨i9, ["_law_node", "_law_n"], top 44, b9⟩
/-- _law_wrong -/
def l10_0 : List S := [.lapp (.var 2) (.tup [(.bin .add (.var 7) (.tup [(.var 6)])), (.ix (.var 5) (.var 6))])]
def l10_1 : List S := [.ite (.cmp .eq (.bi .len [(.var 2)]) (.con (.int 0))) [.ret (.con .non)] [], .asg [7, 8] (.pop0 (.var 2)), .ite (.or (.cmp .gt (.bi .len [(.var 7)]) (.con (.int 7))) (.not (.call 9 [(.var 8), (.var 1)] [] [0, 1]))) [.ret (.var 7)] [], .asg [5] (.call 8 [(.var 8)] [] [0]), .ite (.cmp .eq (.bi .len [(.var 5)]) (.con (.int 0))) [.ite (.cmp .eq (.var 3) (.con (.int 240))) [.ret (.var 7)] [], .asg [3] (.bin .add (.var 3) (.con (.int 1)))] [], .forr [6] (.rng3 (.bin .sub (.bi .len [(.var 5)]) (.con (.int 1))) (.neg (.con (.int 1))) (.neg (.con (.int 1)))) l10_0 [6]]
def b10 : List S := [.asg [2] (.sto (.lst [(.tup [(.tup []), (.var 0)])])),
  .asg [3] (.con (.int 0)),
  .forr [4] (.rng1 (.con (.int 4000))) l10_1 [4, 5, 6, 7, 8],
  .ret (.con .non)]
def i10 : FnI := ⟨"_law_wrong", ["_law_thing", "_law_n"], false⟩
def d10 : Dr := ⟨i10, ["_law_thing", "_law_n", "_law_todo", "_law_leaves", "_law_turn", "_law_parts_here", "_law_at_here", "_law_path", "_law_node"], top 45, b10⟩
/-- _law_paths -/
def l11_0 : List S := [.asg [2] (.bin .add (.var 2) (.call 11 [(.var 4), (.bin .add (.var 1) (.tup [(.var 3)]))] [] [0, 1]))]
def b11 : List S := [.asg [2] (.lst [(.var 1)]),
  .forr [3, 4] (.enu (.call 8 [(.var 0)] [] [0])) l11_0 [3, 4],
  .ret (.var 2)]
def i11 : FnI := ⟨"_law_paths", ["_law_node", "_law_path"], false⟩
def d11 : Dr := ⟨i11, ["_law_node", "_law_path", "_law_found", "_law_at_here", "_law_part"], top 37, b11⟩
/-- _law_at -/
def l12_0 : List S := [.asg [0] (.ix (.call 8 [(.var 0)] [] [0]) (.var 2))]
def b12 : List S := [.forr [2] (.var 1) l12_0 [2],
  .ret (.var 0)]
def i12 : FnI := ⟨"_law_at", ["_law_node", "_law_path"], false⟩
def d12 : Dr := ⟨i12, ["_law_node", "_law_path", "_law_at_here"], top 38, b12⟩
/-- _law_size -/
def c13_0 : E := (.call 13 [(.var 2)] [] [0])
def c13_1 : E := (.ix (.var 3) (.con (.int 0)))
def c13_2 : E := (.ix (.var 3) (.con (.int 1)))
def b13 : List S := [.asg [1] (.lc [2] (.call 8 [(.var 0)] [] [0]) none c13_0),
  .ite (.cmp .eq (.bi .len [(.var 1)]) (.con (.int 0))) [.ret (.tup [(.con (.int 1)), (.con (.int 1))])] [],
  .ret (.tup [(.bi .sum [(.lc [3] (.var 1) none c13_1)]), (.bin .add (.con (.int 1)) (.bi .max [(.lc [3] (.var 1) none c13_2)]))])]
def i13 : FnI := ⟨"_law_size", ["_law_node"], false⟩
def d13 : Dr := ⟨i13, ["_law_node", "_law_sizes", "_law_part", "_law_size_here"], top 36, b13⟩
/-- _law_due -/
def l14_0 : List S := [.asg [5] (.call 12 [(.var 0), (.var 2)] [] [0, 1]), .asg [6] (.tup [(.con (.int 0)), (.con (.int 1))]), .ite (.cmp .eq (.ix (.var 5) (.con (.int 0))) (.con (.str [105, 110]))) [.asg [6] (.call 13 [(.ix (.var 1) (.ix (.var 5) (.con (.int 1))))] [] [0])] [.ite (.or (.cmp .eq (.ix (.var 5) (.con (.int 0))) (.con (.str [111, 110, 101]))) (.cmp .eq (.ix (.var 5) (.con (.int 0))) (.con (.str [122, 101, 114, 111])))) [.asg [6] (.tup [(.con (.int 1)), (.con (.int 1))])] []], .asg [3] (.bin .add (.var 3) (.ix (.var 6) (.con (.int 0)))), .asg [4] (.bi .max [(.var 4), (.bin .add (.bi .len [(.var 2)]) (.ix (.var 6) (.con (.int 1))))])]
def b14 : List S := [.asg [2] (.call 10 [(.var 0), (.con (.int 5))] [] [0, 1]),
  .ite (.cmp .isn (.var 2) (.con .non)) [.ret (.tup [(.con (.str [116, 114, 101, 101])), (.var 2)])] [],
  .asg [3] (.con (.int 0)),
  .asg [4] (.con (.int 0)),
  .forr [2] (.call 11 [(.var 0), (.tup [])] [] [0, 1]) l14_0 [2, 5, 6],
  .ite (.cmp .gt (.var 3) (.con (.int 240))) [.ret (.tup [(.con (.str [108, 105, 109, 105, 116])), (.con (.int 240))])] [],
  .ite (.cmp .gt (.var 4) (.con (.int 8))) [.ret (.tup [(.con (.str [108, 105, 109, 105, 116])), (.con (.int 8))])] [],
  .ret (.con .non)]
def i14 : FnI := ⟨"_law_due", ["_law_outer_here", "_law_inner_here"], false⟩
def d14 : Dr := ⟨i14, ["_law_outer_here", "_law_inner_here", "_law_path", "_law_leaves", "_law_deep", "_law_node", "_law_size_here"], top 50, b14⟩
/-- _law_inner -/
def c15_0 : E := (.var 6)
def b15 : List S := [.asg [4] (.lc [6] (.rng1 (.var 3)) none c15_0),
  .ite (.cmp .eq (.var 1) (.con (.int 0))) [.ret (.call 5 [(.var 0), (.var 4), (.var 2)] [] [0, 1, 2])] [],
  .asg [5] (.call 4 [(.var 0), (.var 4), (.con (.int 3))] [] [0, 1, 2]),
  .ite (.cmp .eq (.var 1) (.con (.int 1))) [.ret (.call 6 [(.var 0), (.var 5), (.call 1 [(.var 0), (.con (.int 6))] [] [0, 1])] [] [0, 1, 2])] [],
  .ret (.var 5)]
def i15 : FnI := ⟨"_law_inner", ["_law_source_here", "_law_pick", "_law_size_here", "_law_n"], false⟩
def d15 : Dr := ⟨i15, ["_law_source_here", "_law_pick", "_law_size_here", "_law_n", "_law_inputs", "_law_outer_here", "_law_k"], top 49, b15⟩
/-- _law_drawn_path -/
def b16 : List S := [.asg [2] (.call 11 [(.var 1), (.tup [])] [] [0, 1]),
  .ret (.ix (.var 2) (.call 1 [(.var 0), (.bi .len [(.var 2)])] [] [0, 1]))]
def i16 : FnI := ⟨"_law_drawn_path", ["_law_source_here", "_law_node"], false⟩
def d16 : Dr := ⟨i16, ["_law_source_here", "_law_node", "_law_paths_here"], top 40, b16⟩
/-- _law_set -/
def b17 : List S := [.ite (.cmp .eq (.bi .len [(.var 1)]) (.con (.int 0))) [.ret (.var 2)] [],
  .own 3 (.call 8 [(.var 0)] [] [0]),
  .oset 3 (.ix (.var 1) (.con (.int 0))) (.call 17 [(.ix (.ovar 3) (.ix (.var 1) (.con (.int 0)))), (.sl (.var 1) (some (.con (.int 1))) none), (.var 2)] [] [0, 1, 2]),
  .ite (.cmp .eq (.ix (.var 0) (.con (.int 0))) (.con (.str [110, 111, 116]))) [.ret (.tup [(.con (.str [110, 111, 116])), (.ix (.ovar 3) (.con (.int 0)))])] [],
  .ret (.tup [(.ix (.var 0) (.con (.int 0))), (.bi .tuple [(.ovar 3)])])]
def i17 : FnI := ⟨"_law_set", ["_law_node", "_law_path", "_law_new"], false⟩
def d17 : Dr := ⟨i17, ["_law_node", "_law_path", "_law_new", "_law_parts_here"], top 39, b17⟩
/-- _law_bad -/
def b18 : List S := [.asg [2] (.call 1 [(.var 0), (.con (.int 22))] [] [0, 1]),
  .asg [3] (.call 1 [(.var 0), (.con (.int 1000000))] [] [0, 1]),
  .asg [4] (.tup [(.con (.str [105, 110])), (.bin .mod (.bi .int [(.var 3)]) (.con (.int 5)))]),
  .ite (.cmp .eq (.bin .mod (.bi .int [(.bin .fdiv (.var 3) (.con (.int 5)))]) (.con (.int 2))) (.con (.int 0))) [.asg [3] (.con (.int 0))] [],
  .asg [5] (.lst [(.con .non), (.var 3), (.con (.bl true)), (.con (.str [120, 48])), (.bi .list [(.var 1)]), (.tup []), (.bin .add (.var 1) (.tup [(.var 4)])), (.tup [(.con (.str [105, 110])), (.con (.bl true))]), (.tup [(.con (.str [105, 110])), (.bin .add (.con (.int 5)) (.var 3))])]),
  .asg [5] (.bin .add (.var 5) (.lst [(.tup [(.con (.str [105, 110])), (.bin .sub (.neg (.con (.int 1))) (.var 3))]), (.tup [(.con (.str [97, 110, 100])), (.tup [])]), (.tup [(.con (.str [111, 114])), (.lst [(.var 4)])]), (.tup [(.con (.str [110, 97, 110, 100])), (.tup [(.var 4)])]), (.tup [(.con (.str [110, 111, 116]))])])),
  .asg [5] (.bin .add (.var 5) (.lst [(.tup [(.con (.str [111, 110, 101])), (.tup [])]), (.tup [(.con (.str [122, 101, 114, 111])), (.var 3)]), .dsp0, (.tup [(.con (.str [105, 110])), (.con (.str [48]))]), (.tup [(.con (.str [105, 110]))]), (.tup [(.con (.str [97, 110, 100])), (.tup [(.con (.str [111, 110, 101]))])])])),
  .asg [5] (.bin .add (.var 5) (.lst [(.tup [(.con .non), (.var 4)]), (.tup [(.var 4), (.var 4)])])),
  .ret (.ix (.var 5) (.var 2))]
def i18 : FnI := ⟨"_law_bad", ["_law_source_here", "_law_node"], false⟩
def d18 : Dr := ⟨i18, ["_law_source_here", "_law_node", "_law_pick", "_law_number", "_law_leaf_here", "_law_some_here"], top 41, b18⟩
/-- _law_apart -/
def l19_0 : List S := [.ite (.cmp .ne (.var 2) (.var 3)) [.ret (.con (.bl true))] []]
def b19 : List S := [.forr [2, 3] (.zip (.var 0) (.var 1)) l19_0 [2, 3],
  .ret (.con (.bl false))]
def i19 : FnI := ⟨"_law_apart", ["_law_one", "_law_two"], false⟩
def d19 : Dr := ⟨i19, ["_law_one", "_law_two", "_law_a", "_law_b"], top 42, b19⟩
/-- _law_spoiled -/
def b20 : List S := [.asg [2] (.call 16 [(.var 0), (.var 1)] [] [0, 1]),
  .asg [3] (.call 16 [(.var 0), (.var 1)] [] [0, 1]),
  .asg [4] (.call 17 [(.var 1), (.var 2), (.call 18 [(.var 0), (.call 12 [(.var 1), (.var 2)] [] [0, 1])] [] [0, 1])] [] [0, 1, 2]),
  .ite (.and (.call 19 [(.var 2), (.var 3)] [] [0, 1]) (.cmp .eq (.call 1 [(.var 0), (.con (.int 2))] [] [0, 1]) (.con (.int 0)))) [.asg [4] (.call 17 [(.var 4), (.var 3), (.call 18 [(.var 0), (.call 12 [(.var 1), (.var 3)] [] [0, 1])] [] [0, 1])] [] [0, 1, 2])] [],
  .ret (.var 4)]
def i20 : FnI := ⟨"_law_spoiled", ["_law_source_here", "_law_outer_here"], false⟩
def d20 : Dr := ⟨i20, ["_law_source_here", "_law_outer_here", "_law_one", "_law_two", "_law_new"], top 43, b20⟩
/-- is_leaf -/
def b21 : List S := [.ret (.cmp .in_ (.ix (.var 0) (.con (.int 0))) (.tup [(.con (.str [105, 110])), (.con (.str [111, 110, 101])), (.con (.str [122, 101, 114, 111]))]))]
def i21 : FnI := ⟨"is_leaf", ["node"], false⟩
def d21 : Dr := ⟨i21, ["node"], top 17, b21⟩
/-- parts_of -/
def b22 : List S := [.ite (.call 21 [(.var 0)] [] [0]) [.ret (.tup [])] [],
  .ite (.cmp .eq (.ix (.var 0) (.con (.int 0))) (.con (.str [110, 111, 116]))) [.ret (.tup [(.ix (.var 0) (.con (.int 1)))])] [],
  .ret (.ix (.var 0) (.con (.int 1)))]
def i22 : FnI := ⟨"parts_of", ["node"], false⟩
def d22 : Dr := ⟨i22, ["node"], top 18, b22⟩
/-- is_number -/
def b23 : List S := [.ret (.and (.isi (.var 0) [.int]) (.not (.isi (.var 0) [.bool])))]
def i23 : FnI := ⟨"is_number", ["thing"], false⟩
def d23 : Dr := ⟨i23, ["thing"], top 15, b23⟩
/-- node_fits -/
def b24 : List S := [.ite (.or (.not (.isi (.var 0) [.tuple])) (.or (.cmp .eq (.bi .len [(.var 0)]) (.con (.int 0))) (.not (.isi (.ix (.var 0) (.con (.int 0))) [.str])))) [.ret (.con (.bl false))] [],
  .ite (.cmp .in_ (.ix (.var 0) (.con (.int 0))) (.tup [(.con (.str [111, 110, 101])), (.con (.str [122, 101, 114, 111]))])) [.ret (.cmp .eq (.bi .len [(.var 0)]) (.con (.int 1)))] [],
  .ite (.cmp .ne (.bi .len [(.var 0)]) (.con (.int 2))) [.ret (.con (.bl false))] [],
  .ite (.cmp .eq (.ix (.var 0) (.con (.int 0))) (.con (.str [105, 110]))) [.ret (.and (.call 23 [(.ix (.var 0) (.con (.int 1)))] [] [0]) (.chn .le .lt (.con (.int 0)) (.ix (.var 0) (.con (.int 1))) (.var 1)))] [],
  .ite (.cmp .in_ (.ix (.var 0) (.con (.int 0))) (.tup [(.con (.str [97, 110, 100])), (.con (.str [111, 114]))])) [.ret (.and (.isi (.ix (.var 0) (.con (.int 1))) [.tuple]) (.cmp .gt (.bi .len [(.ix (.var 0) (.con (.int 1)))]) (.con (.int 0))))] [],
  .ret (.cmp .eq (.ix (.var 0) (.con (.int 0))) (.con (.str [110, 111, 116])))]
def i24 : FnI := ⟨"node_fits", ["node", "n"], false⟩
def d24 : Dr := ⟨i24, ["node", "n"], top 16, b24⟩
/-- fault_from -/
def l25_0 : List S := [.asg [6, 3] (.call 25 [(.var 5), (.var 1), (.bin .add (.var 2) (.tup [(.var 4)])), (.var 3)] [] [0, 1, 2, 3]), .ite (.cmp .isn (.var 6) (.con .non)) [.ret (.tup [(.var 6), (.var 3)])] []]
def b25 : List S := [.ite (.or (.cmp .ge (.bi .len [(.var 2)]) (.glb 0)) (.not (.call 24 [(.var 0), (.var 1)] [] [0, 1]))) [.ret (.tup [(.var 2), (.var 3)])] [],
  .ite (.call 21 [(.var 0)] [] [0]) [.ite (.cmp .ge (.var 3) (.glb 1)) [.ret (.tup [(.var 2), (.var 3)])] [], .ret (.tup [(.con .non), (.bin .add (.var 3) (.con (.int 1)))])] [],
  .forr [4, 5] (.enu (.call 22 [(.var 0)] [] [0])) l25_0 [4, 5, 6],
  .ret (.tup [(.con .non), (.var 3)])]
def i25 : FnI := ⟨"fault_from", ["node", "n", "path", "leaves"], false⟩
def d25 : Dr := ⟨i25, ["node", "n", "path", "leaves", "at", "part", "fault"], top 19, b25⟩
/-- check_tree -/
def b26 : List S := [.asg [2] (.ix (.call 25 [(.var 0), (.var 1), (.tup []), (.con (.int 0))] [] [0, 1, 2, 3]) (.con (.int 0))),
  .ite (.cmp .isn (.var 2) (.con .non)) [.rais 8 [87] [(.var 2)]] []]
def i26 : FnI := ⟨"check_tree", ["tree", "n"], false⟩
def d26 : Dr := ⟨i26, ["tree", "n", "fault"], top 20, b26⟩
/-- filled_in -/
def c27_0 : E := (.call 27 [(.var 2), (.var 1)] [] [0, 1])
def b27 : List S := [.ite (.call 21 [(.var 0)] [] [0]) [.ret (.ite (.cmp .eq (.ix (.var 0) (.con (.int 0))) (.con (.str [105, 110]))) (.ix (.var 1) (.ix (.var 0) (.con (.int 1)))) (.var 0))] [],
  .ite (.cmp .eq (.ix (.var 0) (.con (.int 0))) (.con (.str [110, 111, 116]))) [.ret (.tup [(.con (.str [110, 111, 116])), (.call 27 [(.ix (.var 0) (.con (.int 1))), (.var 1)] [] [0, 1])])] [],
  .ret (.tup [(.ix (.var 0) (.con (.int 0))), (.bi .tuple [(.lc [2] (.ix (.var 0) (.con (.int 1))) none c27_0)])])]
def i27 : FnI := ⟨"filled_in", ["node", "trees"], false⟩
def d27 : Dr := ⟨i27, ["node", "trees", "part"], top 26, b27⟩
/-- size_of -/
def c28_0 : E := (.call 28 [(.var 2)] [] [0])
def c28_1 : E := (.ix (.var 3) (.con (.int 0)))
def c28_2 : E := (.ix (.var 3) (.con (.int 1)))
def b28 : List S := [.ite (.call 21 [(.var 0)] [] [0]) [.ret (.tup [(.con (.int 1)), (.con (.int 1))])] [],
  .asg [1] (.lc [2] (.call 22 [(.var 0)] [] [0]) none c28_0),
  .ret (.tup [(.bi .sum [(.lc [3] (.var 1) none c28_1)]), (.bin .add (.con (.int 1)) (.bi .max [(.lc [3] (.var 1) none c28_2)]))])]
def i28 : FnI := ⟨"size_of", ["node"], false⟩
def d28 : Dr := ⟨i28, ["node", "sizes", "part", "size"], top 21, b28⟩
/-- check_size -/
def b29 : List S := [.asg [1, 2] (.call 28 [(.var 0)] [] [0]),
  .ite (.cmp .gt (.var 1) (.glb 1)) [.rais 28 [93] [(.glb 1)]] [],
  .ite (.cmp .gt (.var 2) (.glb 0)) [.rais 28 [93] [(.glb 0)]] []]
def i29 : FnI := ⟨"check_size", ["tree"], false⟩
def d29 : Dr := ⟨i29, ["tree", "leaves", "deep"], top 27, b29⟩
/-- put_in -/
def b30 : List S := [.expr (.call 26 [(.var 0), (.glb 2)] [] [0, 1]),
  .asg [2] (.call 27 [(.var 0), (.var 1)] [] [0, 1]),
  .expr (.call 29 [(.var 2)] [] [0]),
  .ret (.var 2)]
def i30 : FnI := ⟨"put_in", ["tree", "trees"], false⟩
def d30 : Dr := ⟨i30, ["tree", "trees", "found"], top 28, b30⟩
/-- _law_is_filled -/
def c31_0 : E := (.call 31 [(.var 3), (.var 4), (.var 2)] [] [0, 1, 2])
def b31 : List S := [.ite (.cmp .eq (.ix (.var 0) (.con (.int 0))) (.con (.str [105, 110]))) [.ret (.cmp .eq (.var 1) (.ix (.var 2) (.ix (.var 0) (.con (.int 1)))))] [],
  .ite (.or (.cmp .eq (.ix (.var 0) (.con (.int 0))) (.con (.str [111, 110, 101]))) (.cmp .eq (.ix (.var 0) (.con (.int 0))) (.con (.str [122, 101, 114, 111])))) [.ret (.cmp .eq (.var 1) (.var 0))] [],
  .ite (.or (.not (.isi (.var 1) [.tuple])) (.or (.cmp .ne (.bi .len [(.var 1)]) (.con (.int 2))) (.cmp .ne (.ix (.var 1) (.con (.int 0))) (.ix (.var 0) (.con (.int 0)))))) [.ret (.con (.bl false))] [],
  .ite (.cmp .eq (.ix (.var 0) (.con (.int 0))) (.con (.str [110, 111, 116]))) [.ret (.call 31 [(.ix (.var 0) (.con (.int 1))), (.ix (.var 1) (.con (.int 1))), (.var 2)] [] [0, 1, 2])] [],
  .ite (.or (.not (.isi (.ix (.var 1) (.con (.int 1))) [.tuple])) (.cmp .ne (.bi .len [(.ix (.var 1) (.con (.int 1)))]) (.bi .len [(.ix (.var 0) (.con (.int 1)))]))) [.ret (.con (.bl false))] [],
  .ret (.bi .all [(.lc [3, 4] (.zip (.ix (.var 0) (.con (.int 1))) (.ix (.var 1) (.con (.int 1)))) none c31_0)])]
def i31 : FnI := ⟨"_law_is_filled", ["_law_node", "_law_found", "_law_inner_here"], false⟩
def d31 : Dr := ⟨i31, ["_law_node", "_law_found", "_law_inner_here", "_law_part", "_law_other"], top 51, b31⟩
/-- _law_points -/
def c32_0 : E := (.bin .add (.var 3) (.con (.str [48])))
def c32_1 : E := (.bin .add (.var 3) (.con (.str [49])))
def l32_0 : List S := [.asg [1] (.bin .add (.lc [3] (.var 1) none c32_0) (.lc [3] (.var 1) none c32_1))]
def b32 : List S := [.asg [1] (.lst [(.con (.str []))]),
  .forr [2] (.rng1 (.var 0)) l32_0 [2],
  .ret (.bi .sorted [(.var 1)])]
def i32 : FnI := ⟨"_law_points", ["_law_n"], false⟩
def d32 : Dr := ⟨i32, ["_law_n", "_law_rows", "_law_k", "_law_row_here"], top 52, b32⟩
/-- some_size -/
def b33 : List S := [.ite (.and (.isi (.var 0) [.str]) (.cmp .le (.bi .len [(.var 0)]) (.glb 3))) [.ret (.bi .len [(.var 0)])] [],
  .ret (.con (.int 0))]
def i33 : FnI := ⟨"some_size", ["thing"], false⟩
def d33 : Dr := ⟨i33, ["thing"], top 9, b33⟩
/-- exchanged -/
def c34_0 : E := (.ite (.cmp .eq (.var 1) (.con (.str [48]))) (.con (.str [49])) (.con (.str [48])))
def b34 : List S := [.ret (.mt .join (.con (.str [])) (.lc [1] (.var 0) none c34_0))]
def i34 : FnI := ⟨"exchanged", ["text"], false⟩
def d34 : Dr := ⟨i34, ["text", "sign"], top 11, b34⟩
/-- sign_of -/
def c35_0 : E := (.call 35 [(.var 5), (.var 1)] [] [0, 1])
def b35 : List S := [.ite (.cmp .eq (.ix (.var 0) (.con (.int 0))) (.con (.str [105, 110]))) [.ret (.ix (.var 1) (.ix (.var 0) (.con (.int 1))))] [],
  .ite (.cmp .eq (.ix (.var 0) (.con (.int 0))) (.con (.str [110, 111, 116]))) [.asg [4] (.call 35 [(.ix (.var 0) (.con (.int 1))), (.var 1)] [] [0, 1]), .ret (.ite (.cmp .eq (.var 4) (.con (.str [45]))) (.var 4) (.call 34 [(.var 4)] [] [0]))] [],
  .ite (.call 21 [(.var 0)] [] [0]) [.ret (.ite (.cmp .eq (.ix (.var 0) (.con (.int 0))) (.con (.str [111, 110, 101]))) (.con (.str [49])) (.con (.str [48])))] [],
  .asg [2] (.ite (.cmp .eq (.ix (.var 0) (.con (.int 0))) (.con (.str [97, 110, 100]))) (.con (.str [48])) (.con (.str [49]))),
  .asg [3] (.lc [5] (.ix (.var 0) (.con (.int 1))) none c35_0),
  .ite (.cmp .in_ (.var 2) (.var 3)) [.ret (.var 2)] [],
  .ite (.cmp .in_ (.con (.str [45])) (.var 3)) [.ret (.con (.str [45]))] [],
  .ret (.call 34 [(.var 2)] [] [0])]
def i35 : FnI := ⟨"sign_of", ["node", "cube"], false⟩
def d35 : Dr := ⟨i35, ["node", "cube", "strong", "signs", "sign", "part"], top 22, b35⟩
/-- signs_fit -/
def l36_0 : List S := [.ite (.cmp .nin (.var 3) (.var 2)) [.ret (.con (.bl false))] []]
def b36 : List S := [.ite (.or (.not (.isi (.var 0) [.str])) (.cmp .ne (.bi .len [(.var 0)]) (.var 1))) [.ret (.con (.bl false))] [],
  .forr [3] (.var 0) l36_0 [3],
  .ret (.con (.bl true))]
def i36 : FnI := ⟨"signs_fit", ["thing", "n", "signs"], false⟩
def d36 : Dr := ⟨i36, ["thing", "n", "signs", "sign"], top 7, b36⟩
/-- is_point -/
def b37 : List S := [.ret (.call 36 [(.var 0), (.var 1), (.con (.str [48, 49]))] [] [0, 1, 2])]
def i37 : FnI := ⟨"is_point", ["thing", "n"], false⟩
def d37 : Dr := ⟨i37, ["thing", "n"], top 8, b37⟩
/-- at_point -/
def b38 : List S := [.asg [2] (.call 33 [(.var 0)] [] [0]),
  .ite (.or (.cmp .eq (.var 2) (.con (.int 0))) (.not (.call 37 [(.var 0), (.var 2)] [] [0, 1]))) [.rais 2 [85] [(.con (.int 0))]] [],
  .expr (.call 26 [(.var 1), (.var 2)] [] [0, 1]),
  .ret (.cmp .eq (.call 35 [(.var 1), (.var 0)] [] [0, 1]) (.con (.str [49])))]
def i38 : FnI := ⟨"at_point", ["point", "tree"], false⟩
def d38 : Dr := ⟨i38, ["point", "tree", "size"], top 23, b38⟩
/-- _law_agrees -/
def l39_0 : List S := [.ite (.call 38 [(.var 4), (.ix (.var 2) (.var 6))] [] [0, 1]) [.oset 5 (.var 6) (.con (.str [49]))] []]
def l39_1 : List S := [.own 5 (.lst [(.con (.str [48])), (.con (.str [48])), (.con (.str [48])), (.con (.str [48])), (.con (.str [48]))]), .forr [6] (.kys (.var 2)) l39_0 [6], .asg [7] (.call 38 [(.var 4), (.var 1)] [] [0, 1]), .ite (.or (.not (.isi (.var 7) [.bool])) (.cmp .ne (.var 7) (.call 38 [(.mt .join (.con (.str [])) (.ovar 5)), (.var 0)] [] [0, 1]))) [.ret (.con (.bl false))] []]
def b39 : List S := [.forr [4] (.call 32 [(.var 3)] [] [0]) l39_1 [4, 5, 6, 7],
  .ret (.con (.bl true))]
def i39 : FnI := ⟨"_law_agrees", ["_law_outer_here", "_law_found", "_law_inner_here", "_law_n"], false⟩
def d39 : Dr := ⟨i39, ["_law_outer_here", "_law_found", "_law_inner_here", "_law_n", "_law_point", "_law_signs", "_law_letter", "_law_value"], top 53, b39⟩
/-- law -/
def l40_0 : List S := [.dset 6 (.var 7) (.call 15 [(.var 1), (.var 4), (.var 5), (.var 3)] [] [0, 1, 2, 3])]
def t40_0 : List S := [.asg [12] (.call 30 [] [(.var 9), (.var 10)] [0, 1])]
def b40 : List S := [.asg [1] (.call 0 [(.var 0)] [] [0]),
  .asg [2] (.call 2 [(.var 1), (.bin .add (.con (.int 1)) (.call 1 [(.var 1), (.con (.int 4))] [] [0, 1]))] [] [0, 1]),
  .asg [3] (.bin .add (.con (.int 1)) (.call 1 [(.var 1), (.con (.int 3))] [] [0, 1])),
  .asg [4] (.call 1 [(.var 1), (.con (.int 4))] [] [0, 1]),
  .asg [5] (.bin .add (.con (.int 1)) (.call 1 [(.var 1), (.con (.int 24))] [] [0, 1])),
  .ownd 6,
  .forr [7] (.var 2) l40_0 [7],
  .asg [8] (.sl (.var 2) (some (.bin .mul (.call 1 [(.var 1), (.con (.int 2))] [] [0, 1]) (.bin .fdiv (.bi .len [(.var 2)]) (.con (.int 2))))) none),
  .asg [9] (.call 7 [(.var 1), (.var 8), (.var 4), (.var 5)] [] [0, 1, 2, 3]),
  .ite (.cmp .eq (.call 1 [(.var 1), (.con (.int 6))] [] [0, 1]) (.con (.int 0))) [.asg [9] (.call 20 [(.var 1), (.var 9)] [] [0, 1])] [],
  .asg [10] (.dcp (.odic 6)),
  .frz 6,
  .asg [11] (.call 14 [(.var 9), (.var 6)] [] [0, 1]),
  .asg [12] (.con .non),
  .asg [13] (.con .non),
  .try_ t40_0 [⟨[8], some 14, [.asg 13 (.tup [(.con (.str [116, 114, 101, 101])), (.fld 87)])]⟩, ⟨[28], some 14, [.asg 13 (.tup [(.con (.str [108, 105, 109, 105, 116])), (.fld 93)])]⟩],
  .ite (.or (.cmp .ne (.var 13) (.var 11)) (.cmp .ne (.var 10) (.var 6))) [.ret (.con (.bl false))] [],
  .ite (.cmp .isn (.var 11) (.con .non)) [.ret (.con (.bl true))] [],
  .ret (.and (.call 31 [(.var 9), (.var 12), (.var 6)] [] [0, 1, 2]) (.call 39 [(.var 9), (.var 12), (.var 6), (.var 3)] [] [0, 1, 2, 3]))]
def i40 : FnI := ⟨"law", ["_law_script"], false⟩
def d40 : Dr := ⟨i40, ["_law_script", "_law_source_here", "_law_letters", "_law_n", "_law_pick", "_law_size_here", "_law_inner_here", "_law_letter", "_law_used", "_law_outer_here", "_law_handed", "_law_due_here", "_law_found", "_law_refused", "e"], top 54, b40⟩
def drs : List Dr := [d0, d1, d2, d3, d4, d5, d6, d7, d8, d9, d10, d11, d12, d13, d14, d15, d16, d17, d18, d19, d20, d21, d22, d23, d24, d25, d26, d27, d28, d29, d30, d31, d32, d33, d34, d35, d36, d37, d38, d39, d40]
def gls : List Str := ["MOST_DEEP", "MOST_LEAVES", "LETTERS", "MOST_INPUTS"]
def gl : Nat → Option D
  | 0 => some (.int 8)
  | 1 => some (.int 240)
  | 2 => some (.int 5)
  | 3 => some (.int 5)
  | _ => none
def shs : List Sh := [⟨1, 2, [], [0, 1]⟩,
  ⟨3, 2, [], [0, 1]⟩,
  ⟨4, 3, [], [0, 1, 2]⟩,
  ⟨5, 3, [], [0, 1, 2]⟩,
  ⟨6, 3, [], [0, 1, 2]⟩,
  ⟨9, 2, [], [0, 1]⟩,
  ⟨8, 1, [], [0]⟩,
  ⟨11, 2, [], [0, 1]⟩,
  ⟨13, 1, [], [0]⟩,
  ⟨10, 2, [], [0, 1]⟩,
  ⟨12, 2, [], [0, 1]⟩,
  ⟨17, 3, [], [0, 1, 2]⟩,
  ⟨16, 2, [], [0, 1]⟩,
  ⟨18, 2, [], [0, 1]⟩,
  ⟨19, 2, [], [0, 1]⟩,
  ⟨21, 1, [], [0]⟩,
  ⟨23, 1, [], [0]⟩,
  ⟨24, 2, [], [0, 1]⟩,
  ⟨25, 4, [], [0, 1, 2, 3]⟩,
  ⟨22, 1, [], [0]⟩,
  ⟨27, 2, [], [0, 1]⟩,
  ⟨28, 1, [], [0]⟩,
  ⟨26, 2, [], [0, 1]⟩,
  ⟨29, 1, [], [0]⟩,
  ⟨31, 3, [], [0, 1, 2]⟩,
  ⟨35, 2, [], [0, 1]⟩,
  ⟨34, 1, [], [0]⟩,
  ⟨36, 3, [], [0, 1, 2]⟩,
  ⟨33, 1, [], [0]⟩,
  ⟨37, 2, [], [0, 1]⟩,
  ⟨38, 2, [], [0, 1]⟩,
  ⟨32, 1, [], [0]⟩,
  ⟨0, 1, [], [0]⟩,
  ⟨2, 2, [], [0, 1]⟩,
  ⟨15, 4, [], [0, 1, 2, 3]⟩,
  ⟨7, 4, [], [0, 1, 2, 3]⟩,
  ⟨20, 2, [], [0, 1]⟩,
  ⟨14, 2, [], [0, 1]⟩,
  ⟨30, 0, ["tree", "trees"], [0, 1]⟩,
  ⟨39, 4, [], [0, 1, 2, 3]⟩]
def xcs : List (Nat × List Nat) := [(8, [87]), (28, [93]), (2, [85])]
def fns : List Fn := drs.map Dr.fn
end Bs.K25
namespace Bs.K25
theorem chk_ok : drs.all (Dr.ok (drs.map (·.I)) gls shs xcs) = true := by decide +kernel
end Bs.K25
namespace Bs.K25
open Bs

abbrev cl (k : Nat) := call gl fns k
theorem is_number_d (k : Nat) (d : D) (h : nice d = true) (μ : Sto) : cl (k + 1) 23 [d] μ = .ok (.bl (isIntB d && !isBlB d)) μ := by
  show (xSs gl (cl k) b23 [.val d] μ).bind (outF false) = _
  have h1 := nice_int h
  have h2 := nice_bl h
  cases d <;> simp [b23, h1, h2, isIntB, isBlB] <;> simp [nice] at h
theorem node_fits_d (k n : Nat) (d : D) (h : nice d = true) (μ : Sto) : cl (k + 2) 24 [d, .int n] μ = .ok (.bl (!(vw n d).isNo)) μ := by
  show (xSs gl (cl (k + 1)) b24 [.val d, .val (.int n)] μ).bind (outF false) = _
  have ht := nice_tup h
  cases d with
  | tup xs =>
    match xs, h with
    | [], h => simp [b24, vw, Vw.isNo]
    | x :: r, h =>
      have hx : nice x = true := by simp [nice, nices] at h; exact h.2.1
      have hr : nices r = true := by simp [nice, nices] at h; exact h.2.2
      have hs := nice_str hx
      have hl0 : ¬ ((r.length : Int) + 1 = 0) := by omega
      cases x with
      | str s =>
        by_cases h1 : s = sOne ∨ s = sZero
        · have hin := in_str2 s sOne sZero
          rw [decide_eq_true h1] at hin
          cases r with
          | nil => simp [b24, tixc0, hin, vw, h1, Vw.isNo]
          | cons y r =>
            have hl1 : ¬ ((r.length : Int) + 1 + 1 = 0) := by omega
            have hl2 : ¬ ((r.length : Int) + 1 + 1 = 1) := by omega
            have hv : (vw n (.tup (.str s :: y :: r))).isNo = true := by
              cases r with
              | nil => simp [vw, h1, Vw.isNo]
              | cons _ _ => simp [vw, Vw.isNo]
            simp [b24, tixc0, hin, hv, hl1, hl2]
        · have hin := in_str2 s sOne sZero
          rw [decide_eq_false h1] at hin
          match r, hr with
          | [], hr => simp [b24, tixc0, hin, vw, h1, Vw.isNo]
          | [y], hr =>
            have hy : nice y = true := by simpa [nices] using hr
            have hg := in_str2 s sAnd sOr
            have hv : vw n (.tup [.str s, y]) = vw1 n s y := by simp [vw, h1]
            rw [hv]
            by_cases h2 : s = sIn
            · subst h2
              have hn := is_number_d k y hy μ
              cases y with
              | int i =>
                simp only [isIntB, isBlB, Bool.not_false, Bool.and_true] at hn
                by_cases c1 : 0 ≤ i
                · by_cases c2 : i < (n : Int)
                  · simp [b24, hin, hn, vw1, numB, c1, c2, Vw.isNo]
                  · simp [b24, hin, hn, vw1, numB, c1, c2, Vw.isNo]
                · simp [b24, hin, hn, vw1, numB, c1, Vw.isNo]
              | _ => simp [isIntB, isBlB] at hn; simp [b24, hin, hn, vw1, numB, Vw.isNo]
            · by_cases h3 : s = sAnd ∨ s = sOr
              · rw [decide_eq_true h3] at hg
                have hty := nice_tup hy
                have hv1 := vw1_gate (n := n) (x := y) h2 h3
                rw [hv1]
                cases y with
                | tup zs =>
                  cases zs with
                  | nil => simp [b24, hin, h2, hg, gatP]
                  | cons z zs =>
                    have : (0 : Int) < (zs.length : Int) + 1 := by omega
                    simp [b24, hin, h2, hg, gatP, this]
                | _ => simp [isTupB] at hty; simp [b24, hin, h2, hg, hty, gatP]
              · rw [decide_eq_false h3] at hg
                have hv1 : vw1 n s y = if s = sNot then .one y else .no := by unfold vw1; rw [if_neg h2, if_neg h3]
                rw [hv1]
                by_cases h4 : s = sNot
                · subst h4
                  simp [b24, hin, hg, Vw.isNo]
                · simp [b24, hin, h2, hg, h4, Vw.isNo]
          | y :: z :: r, hr =>
            have hl1 : ¬ ((r.length : Int) + 1 + 1 + 1 = 0) := by omega
            have hl2 : ¬ ((r.length : Int) + 1 + 1 + 1 = 2) := by omega
            simp [b24, tixc0, hin, vw, Vw.isNo, hl1, hl2]
      | _ => simp [isStr] at hs; simp [b24, tixc0, hs, hl0, vw, Vw.isNo]
  | _ => simp [isTupB] at ht; simp [b24, ht, vw, Vw.isNo]
theorem is_leaf_d (k n : Nat) {d : D} {v : Vw} (h : Fit n d v) (μ : Sto) : cl (k + 1) 21 [d] μ = .ok (.bl v.isLeaf) μ := by
  show (xSs gl (cl k) b21 [.val d] μ).bind (outF false) = _
  cases h with
  | gate a y ys => cases a <;> simp [b21, in_str3, Vw.isLeaf, sGate]
  | _ => simp [b21, in_str3, Vw.isLeaf]
theorem parts_of_d (k n : Nat) {d : D} {v : Vw} (h : Fit n d v) (μ : Sto) : cl (k + 2) 22 [d] μ = .ok (.tup v.parts) μ := by
  show (xSs gl (cl (k + 1)) b22 [.val d] μ).bind (outF false) = _
  have hl := is_leaf_d k n h μ
  cases h with
  | gate a y ys => cases a <;> simp [Vw.isLeaf] at hl <;> simp [b22, hl, Vw.parts, sGate] <;> simp [sGate] at hl <;> simp [hl]
  | _ => simp [Vw.isLeaf] at hl; simp [b22, hl, Vw.parts]
def encF (r : Option (List D) × Nat) : D := .tup [match r.1 with | none => .non | some p => .tup p, .int ((r.2 : Nat) : Int)]
theorem e_faultd (k : Nat) (x y z w : D) (μ : Sto) : cl (k + 1) 25 [x, y, z, w] μ = (xSs gl (cl k) b25 [.val x, .val y, .val z, .val w, .un, .un, .un] μ).bind (outF false) := rfl
theorem fault_dl (n : Nat) (μ : Sto) {f k : Nat} (ih : ∀ (d : D) (path : List D) (lv : Nat), nice d = true → path.length + f = 8 → cl (k + f + 3) 25 [d, .int n, .tup path, .int ((lv : Nat) : Int)] μ = .ok (encF (fa n f d path lv)) μ) (X : D) : ∀ (xs : List D) (j : Nat) (path : List D) (lv : Nat), (∀ x ∈ xs, nice x = true) → path.length + (f + 1) = 8 →
    ((forL (turn gl (cl (k + f + 3)) [4, 5] l25_0) [4, 5, 6] (enumL j xs) [.val X, .val (.int n), .val (.tup path), .val (.int ((lv : Nat) : Int)), .un, .un, .un] μ).bind fun fl μ => match fl with | .nx γ' => xSs gl (cl (k + f + 3)) [.ret (.tup [(.con .non), (.var 3)])] γ' μ | _ => .ok fl μ) = .ok (.rt (encF (fas (fa n f) xs j path lv))) μ
  | [], j, path, lv, hn, hp => by simp [enumL, fas, encF]
  | x :: r, j, path, lv, hn, hp => by
    have h1 := ih x (path ++ [.int j]) lv (hn x (by simp)) (by simp; omega)
    have ha := v_addt path [.int ((j : Nat) : Int)] (by simp; omega)
    rw [show enumL j (x :: r) = .tup [.int ((j : Nat) : Int), x] :: enumL (j + 1) r from rfl, forL_cons]
    unfold fas
    cases hr : fa n f x (path ++ [.int j]) lv with
    | mk o lv1 =>
      rw [hr] at h1
      cases o with
      | some q =>
        have et : turn gl (cl (k + f + 3)) [4, 5] l25_0 (.tup [.int ((j : Nat) : Int), x]) [.val X, .val (.int n), .val (.tup path), .val (.int ((lv : Nat) : Int)), .un, .un, .un] μ = .ok (.rt (encF (some q, lv1))) μ := by
          have nq : compare .isn (.tup q) .non = some (.bl true) := rfl
          simp only [encF] at h1
          simp [turn, l25_0, ha, h1, nq, encF]
        rw [et]
        simp
      | none =>
        have et : turn gl (cl (k + f + 3)) [4, 5] l25_0 (.tup [.int ((j : Nat) : Int), x]) [.val X, .val (.int n), .val (.tup path), .val (.int ((lv : Nat) : Int)), .un, .un, .un] μ = .ok (.nx [.val X, .val (.int n), .val (.tup path), .val (.int ((lv1 : Nat) : Int)), .val (.int ((j : Nat) : Int)), .val x, .val .non]) μ := by
          have nq : compare .isn .non .non = some (.bl false) := rfl
          simp only [encF] at h1
          simp [turn, l25_0, ha, h1, nq]
        rw [et]
        have := fault_dl n μ ih X r (j + 1) path lv1 (fun y hy => hn y (by simp [hy])) hp
        simp only [bind_ok, v_wipe1, v_wipe0, List.set_cons_succ, List.set_cons_zero]
        exact this
theorem fault_d (n : Nat) (μ : Sto) : ∀ (f k : Nat) (d : D) (path : List D) (lv : Nat), nice d = true → path.length + f = 8 → cl (k + f + 3) 25 [d, .int n, .tup path, .int ((lv : Nat) : Int)] μ = .ok (encF (fa n f d path lv)) μ
  | 0, k, d, path, lv, hn, hp => by
    rw [e_faultd]
    have h8 : (8 : Int) ≤ path.length := by omega
    simp [b25, gl, h8, fa, encF]
  | f + 1, k, d, path, lv, hn, hp => by
    have h8 : ¬ (8 : Int) ≤ path.length := by omega
    have h1 : cl (k + f + 3) 24 [d, .int n] μ = .ok (.bl (!(vw n d).isNo)) μ := node_fits_d (k + f + 1) n d hn μ
    rw [show k + (f + 1) + 3 = (k + f + 3) + 1 from by omega, e_faultd]
    by_cases h0 : (vw n d).isNo = true
    · rw [h0] at h1
      simp [b25, gl, h8, h1, fa, h0, encF]
    · have h0' : (vw n d).isNo = false := by simpa using h0
      have hF := vw_fit h0'
      rw [h0'] at h1
      have h2 : cl (k + f + 3) 21 [d] μ = .ok (.bl (vw n d).isLeaf) μ := is_leaf_d (k + f + 2) n hF μ
      have h3 : cl (k + f + 3) 22 [d] μ = .ok (.tup (vw n d).parts) μ := parts_of_d (k + f + 1) n hF μ
      have hfa : fa n (f + 1) d path lv = if (vw n d).isLeaf then (if 240 ≤ lv then (some path, lv) else (none, lv + 1)) else fas (fa n f) (vw n d).parts 0 path lv := by
        rw [fa, if_neg h0]
      rw [hfa]
      by_cases hl : (vw n d).isLeaf = true
      · rw [hl] at h2
        rw [if_pos hl]
        by_cases h24 : 240 ≤ lv
        · have : (240 : Int) ≤ (lv : Nat) := by omega
          simp [b25, gl, h8, h1, h2, this, h24, encF]
        · have : ¬ (240 : Int) ≤ (lv : Nat) := by omega
          simp [b25, gl, h8, h1, h2, this, h24, encF]
      · have hl' : (vw n d).isLeaf = false := by simpa using hl
        rw [hl'] at h2
        rw [if_neg hl]
        have key := fault_dl n μ (f := f) (k := k) (fun d path lv a b => fault_d n μ f k d path lv a b) d (vw n d).parts 0 path lv (hF.nice hn) (by omega)
        generalize fas (fa n f) (vw n d).parts 0 path lv = RR at key ⊢
        generalize (vw n d).parts = PP at key h3
        simp only [b25, v_ss1, v_ss0, v_if, v_cond, v_or, v_cmp, v_bi, v_es1, v_es0, v_var, v_glb, List.getElem?_cons_succ, List.getElem?_cons_zero, bind_ok, v_lent, orO_some, gl, ofO_s, v_ge, decide_eq_false h8, v_tbl, Bool.false_eq_true, if_false, v_not, v_call, List.append_nil, v_arr2, h1, back_ok, Bool.not_false, Bool.not_true, v_arr1, h2, v_for, v_enu, h3, v_it, Option.map_some, v_il]
        simp only [v_ss1, v_ss0] at key
        exact (congrArg (fun r : R Fl => r.bind (outF false)) key).trans (by simp)
end Bs.K25
namespace Bs.K25
open Bs

theorem lfits_d (k n : Nat) (d : D) (h : nice d = true) (μ : Sto) : cl (k + 1) 9 [d, .int n] μ = .ok (.bl (!(vw n d).isNo)) μ := by
  show (xSs gl (cl k) b9 [.val d, .val (.int n)] μ).bind (outF false) = _
  have ht := nice_tup h
  cases d with
  | tup xs =>
    match xs, h with
    | [], h => have := nin12 0; simp at this; simp [b9, this, vw, Vw.isNo]
    | x :: r, h =>
      have hx : nice x = true := by simp [nice, nices] at h; exact h.2.1
      have hr : nices r = true := by simp [nice, nices] at h; exact h.2.2
      have hs := nice_str hx
      have hlen := nin12 (r.length + 1)
      have hcast : (((r.length + 1 : Nat)) : Int) = (r.length : Int) + 1 := by omega
      rw [hcast] at hlen
      match r, hr, hlen with
      | [], hr, hlen =>
        simp at hlen
        cases x with
        | str s =>
          by_cases h1 : s = sOne
          · subst h1; simp [b9, hlen, vw, Vw.isNo]
          · by_cases h2 : s = sZero
            · subst h2; simp [b9, hlen, vw, Vw.isNo]
            · simp [b9, hlen, h1, h2, vw, Vw.isNo]
        | _ => simp [isStr] at hs; simp [b9, hlen, hs, vw, Vw.isNo]
      | [y], hr, hlen =>
        simp at hlen
        have hy : nice y = true := by simpa [nices] using hr
        cases x with
        | str s =>
          by_cases h1 : s = sOne
          · subst h1; simp [b9, hlen, vw, Vw.isNo]
          · by_cases h2 : s = sZero
            · subst h2; simp [b9, hlen, vw, Vw.isNo]
            · have hv : vw n (.tup [.str s, y]) = vw1 n s y := by simp [vw, h1, h2]
              rw [hv]
              by_cases h3 : s = sIn
              · subst h3
                have hn1 := nice_int hy
                have hn2 := nice_bl hy
                cases y with
                | int i =>
                  by_cases c1 : 0 ≤ i
                  · by_cases c2 : i < (n : Int)
                    · simp [b9, hlen, vw1, numB, c1, c2, Vw.isNo]
                    · simp [b9, hlen, vw1, numB, c1, c2, Vw.isNo]
                  · simp [b9, hlen, vw1, numB, c1, Vw.isNo]
                | _ => simp [isIntB, isBlB] at hn1 hn2; simp [b9, hlen, hn1, hn2, vw1, numB, Vw.isNo]
              · by_cases h4 : s = sAnd ∨ s = sOr
                · have hty := nice_tup hy
                  have hv1 := vw1_gate (n := n) (x := y) h3 h4
                  rw [hv1]
                  rcases h4 with rfl | rfl <;> (cases y with
                    | tup zs =>
                      cases zs with
                      | nil => simp [b9, hlen, gatP]
                      | cons z zs =>
                        have : (0 : Int) < (zs.length : Int) + 1 := by omega
                        simp [b9, hlen, gatP, this]
                    | _ => simp [isTupB] at hty; simp [b9, hlen, hty, gatP])
                · have hv1 : vw1 n s y = if s = sNot then .one y else .no := by unfold vw1; rw [if_neg h3, if_neg h4]
                  rw [hv1]
                  have h5 : ¬ s = sAnd := fun z => h4 (.inl z)
                  have h6 : ¬ s = sOr := fun z => h4 (.inr z)
                  by_cases h7 : s = sNot
                  · subst h7
                    simp [b9, hlen, Vw.isNo]
                  · simp [b9, hlen, h1, h2, h3, h5, h6, h7, Vw.isNo]
        | _ => simp [isStr] at hs; simp [b9, hlen, hs, vw, Vw.isNo]
      | y :: z :: r, hr, hlen =>
        have e1 : decide ((y :: z :: r).length + 1 = 1) = false := decide_eq_false (by simp)
        have e2 : decide ((y :: z :: r).length + 1 = 2) = false := decide_eq_false (by simp)
        rw [e1, e2] at hlen
        simp at hlen
        simp [b9, hlen, vw, Vw.isNo]
  | _ => simp [isTupB] at ht; simp [b9, ht, vw, Vw.isNo]
theorem lparts_d (k n : Nat) {d : D} {v : Vw} (h : Fit n d v) (μ : Sto) : cl (k + 1) 8 [d] μ = .ok (.lst v.parts) μ := by
  show (xSs gl (cl k) b8 [.val d] μ).bind (outF true) = _
  have lt : ∀ xs : List D, builtin .list [.tup xs] = some (.lst xs) := fun _ => rfl
  cases h with
  | gate a y ys => cases a <;> simp [b8, Vw.parts, sGate, lt, outF]
  | _ => simp [b8, Vw.parts, outF]
/-! ### the search with a stack -/
abbrev pr (path : List D) (d : D) : D := .tup [.tup path, d]
theorem push_l (k : Nat) (v0 v1 v3 v4 v8 : Sl) (q : Nat) (μ : Sto) (P path : List D) (hp : path.length ≤ 100) : ∀ (m : Nat) (S : List D), m ≤ P.length → S.length + m ≤ 100000 →
    forL (turn gl (cl k) [6] l10_0) [6] (rangeC ((m : Nat) - 1 : Int) (-1) m) [v0, v1, .val (.loc q), v3, v4, .val (.lst P), .un, .val (.tup path), v8] (μ.put q (.lst S)) = .ok (.nx [v0, v1, .val (.loc q), v3, v4, .val (.lst P), .un, .val (.tup path), v8]) (μ.put q (.lst (S ++ (chs path 0 (P.take m)).reverse)))
  | 0, S, _, _ => by simp [rangeC, chs]
  | m + 1, S, hm, hS => by
    have hx : P[m]? = some (P[m]'(by omega)) := List.getElem?_eq_getElem (by omega)
    have ha := v_addt path [.int ((m : Nat) : Int)] (by simp; omega)
    have hS1 : S.length < 1000000 := by omega
    have he : (μ.put q (.lst S)) q = some (.lst S) := put_same _ _ _
    have hisl : isL (μ.put q (.lst S)) (.loc q) = true := by simp [isL, he]
    have ih := push_l k v0 v1 v3 v4 v8 q μ P path hp m (S ++ [pr (path ++ [.int ((m : Nat) : Int)]) (P[m]'(by omega))]) (by omega) (by simp; omega)
    rw [rangeC_down, forL_cons]
    have et : turn gl (cl k) [6] l10_0 (.int ((m : Nat) : Int)) [v0, v1, .val (.loc q), v3, v4, .val (.lst P), .un, .val (.tup path), v8] (μ.put q (.lst S)) = .ok (.nx [v0, v1, .val (.loc q), v3, v4, .val (.lst P), .val (.int ((m : Nat) : Int)), .val (.tup path), v8]) (μ.put q (.lst (S ++ [pr (path ++ [.int ((m : Nat) : Int)]) (P[m]'(by omega))]))) := by
      have hix := ix_lst hx (μ.put q (.lst S))
      simp [turn, l10_0, hisl, ha, hix, he, hS1, put_put]
    rw [et]
    simp only [bind_ok, v_wipe1, v_wipe0, List.set_cons_succ, List.set_cons_zero]
    rw [ih]
    have e2 : P.take (m + 1) = P.take m ++ [P[m]'(by omega)] := by rw [List.take_add_one, hx]; rfl
    rw [e2, chs_snoc]
    simp [List.length_take, Nat.min_eq_left (show m ≤ P.length by omega)]
abbrev gW (V : D) (n q : Nat) (lv : Nat) : Ga := [.val V, .val (.int n), .val (.loc q), .val (.int ((lv : Nat) : Int)), .un, .un, .un, .un, .un]
theorem pop_last (S : List D) (x : D) (q : Nat) (μ : Sto) (h : S.length < 100000) : popR (.loc q) (.int (-1)) (μ.put q (.lst (S ++ [x]))) = .ok x (μ.put q (.lst S)) := by
  have he : (μ.put q (.lst (S ++ [x]))) q = some (.lst (S ++ [x])) := put_same _ _ _
  have hl : S.length + 1 ≤ 1000000 := by omega
  have hi : L2.ixN (S.length + 1) (-1) = some S.length := by
    unfold L2.ixN
    rw [if_neg (by omega), if_pos (by omega)]
    congr 1
    omega
  have h2 : ((S ++ [x]).eraseIdx S.length) = S := by
    rw [List.eraseIdx_append_of_length_le (Nat.le_refl _)]
    simp
  simp [popR, he, hl, hi, h2, put_put]
/-- one turn -/
theorem w_no (k n q : Nat) (V x d : D) (path S : List D) (lv : Nat) (μ : Sto) (hn : nice d = true) (hS : S.length < 10000) (hp : path.length ≤ 8) (h : path.length = 8 ∨ (vw n d).isNo = true) :
    turn gl (cl (k + 1)) [4] l10_1 x (gW V n q lv) (μ.put q (.lst (S ++ [pr path d]))) = .ok (.rt (.tup path)) (μ.put q (.lst S)) := by
  have h1 := fun μ => lfits_d k n d hn μ
  have hpop := pop_last S (pr path d) q μ (by omega)
  have he : dr (μ.put q (.lst (S ++ [pr path d]))) (.loc q) = .lst (S ++ [pr path d]) := dr_loc (put_same _ _ _)
  have hl : ¬ ((S.length : Int) + 1 = 0) := by omega
  by_cases h8 : path.length = 8
  · have h7 : (7 : Int) < (path.length : Nat) := by omega
    simp [turn, l10_1, he, hl, hpop, h7]
  · have h7 : ¬ (7 : Int) < (path.length : Nat) := by omega
    have hno : (vw n d).isNo = true := h.resolve_left h8
    rw [hno] at h1
    simp [turn, l10_1, he, hl, hpop, h7, h1]
theorem w_full (k n q : Nat) (V x d : D) (path S : List D) (μ : Sto) (hn : nice d = true) (hS : S.length < 10000) (hp : path.length < 8) (hF : (vw n d).isNo = false) (hL : (vw n d).isLeaf = true) :
    turn gl (cl (k + 1)) [4] l10_1 x (gW V n q 240) (μ.put q (.lst (S ++ [pr path d]))) = .ok (.rt (.tup path)) (μ.put q (.lst S)) := by
  have h1 := fun μ => lfits_d k n d hn μ
  have h2 := fun μ => lparts_d k n (vw_fit hF) μ
  have hpp : (vw n d).parts = [] := by
    cases hv : vw n d <;> rw [hv] at hL <;> first | rfl | cases hL
  have hpop := pop_last S (pr path d) q μ (by omega)
  have he : dr (μ.put q (.lst (S ++ [pr path d]))) (.loc q) = .lst (S ++ [pr path d]) := dr_loc (put_same _ _ _)
  have hl : ¬ ((S.length : Int) + 1 = 0) := by omega
  have h7 : ¬ (7 : Int) < (path.length : Nat) := by omega
  rw [hF] at h1
  rw [hpp] at h2
  simp [turn, l10_1, he, hl, hpop, h7, h1, h2]
theorem w_leaf (k n q : Nat) (V x d : D) (path S : List D) (lv : Nat) (μ : Sto) (hn : nice d = true) (hS : S.length < 10000) (hp : path.length < 8) (hlv : lv < 240) (hF : (vw n d).isNo = false) (hL : (vw n d).isLeaf = true) :
    turn gl (cl (k + 1)) [4] l10_1 x (gW V n q lv) (μ.put q (.lst (S ++ [pr path d]))) = .ok (.nx [.val V, .val (.int n), .val (.loc q), .val (.int ((lv + 1 : Nat) : Int)), .val x, .val (.lst []), .un, .val (.tup path), .val d]) (μ.put q (.lst S)) := by
  have h1 := fun μ => lfits_d k n d hn μ
  have h2 := fun μ => lparts_d k n (vw_fit hF) μ
  have hpp : (vw n d).parts = [] := by
    cases hv : vw n d <;> rw [hv] at hL <;> first | rfl | cases hL
  have hpop := pop_last S (pr path d) q μ (by omega)
  have he : dr (μ.put q (.lst (S ++ [pr path d]))) (.loc q) = .lst (S ++ [pr path d]) := dr_loc (put_same _ _ _)
  have hl : ¬ ((S.length : Int) + 1 = 0) := by omega
  have h7 : ¬ (7 : Int) < (path.length : Nat) := by omega
  have h24 : ¬ (((lv : Nat) : Int) = 240) := by omega
  have hr : rangeD [.int (-1), .int (-1), .int (-1)] = some (.lst []) := by have := rng_down 0 (by decide); simpa [rangeC] using this
  rw [hF] at h1
  rw [hpp] at h2
  simp [turn, l10_1, he, hl, hpop, h7, h1, h2, h24, hr]
theorem w_node (k n q : Nat) (V x d : D) (path S : List D) (lv : Nat) (μ : Sto) (hn : nice d = true) (hS : S.length < 10000) (hp : path.length < 8) (hF : (vw n d).isNo = false) (hL : (vw n d).isLeaf = false) :
    turn gl (cl (k + 1)) [4] l10_1 x (gW V n q lv) (μ.put q (.lst (S ++ [pr path d]))) = .ok (.nx [.val V, .val (.int n), .val (.loc q), .val (.int ((lv : Nat) : Int)), .val x, .val (.lst (vw n d).parts), .un, .val (.tup path), .val d]) (μ.put q (.lst (S ++ (chs path 0 (vw n d).parts).reverse))) := by
  have h1 := fun μ => lfits_d k n d hn μ
  have h2 := fun μ => lparts_d k n (vw_fit hF) μ
  have hfew := (vw_fit hF).few hn
  have hne : (vw n d).parts ≠ [] := by
    have := vw_fit hF
    generalize vw n d = v at this hL
    cases this <;> simp [Vw.parts, Vw.isLeaf] at hL ⊢
  have hpush := push_l (k + 1) (.val V) (.val (.int n)) (.val (.int ((lv : Nat) : Int))) (.val x) (.val d) q μ (vw n d).parts path (by omega) (vw n d).parts.length S (Nat.le_refl _) (by omega)
  rw [List.take_length] at hpush
  have hpop := pop_last S (pr path d) q μ (by omega)
  have he : dr (μ.put q (.lst (S ++ [pr path d]))) (.loc q) = .lst (S ++ [pr path d]) := dr_loc (put_same _ _ _)
  have hl : ¬ ((S.length : Int) + 1 = 0) := by omega
  have h7 : ¬ (7 : Int) < (path.length : Nat) := by omega
  have hr := rng_down (vw n d).parts.length (by omega)
  rw [hF] at h1
  generalize (vw n d).parts = P at *
  have h0 : ¬ (P.length = 0) := fun z => hne (List.length_eq_zero_iff.mp z)
  simp [turn, l10_1, he, hl, hpop, h7, h1, h2, hne, hr, hpush]
end Bs.K25
namespace Bs.K25
open Bs

/-- the turns for one node -/
structure Wr (k n q : Nat) (V : D) (μ : Sto) (S T : List D) (b : Nat) (lv : Nat) (r : Option (List D) × Nat) (m : Nat) : Prop where
  some : ∀ p, r.1 = some p → m ≤ b * (r.2 - lv) + b + 1 ∧ ∀ xs : List D, m ≤ xs.length → ∃ S', forL (turn gl (cl (k + 1)) [4] l10_1) [4, 5, 6, 7, 8] xs (gW V n q lv) (μ.put q (.lst T)) = .ok (.rt (.tup p)) (μ.put q (.lst S'))
  none : r.1 = none → m ≤ b * (r.2 - lv) ∧ ∀ xs : List D, m ≤ xs.length → forL (turn gl (cl (k + 1)) [4] l10_1) [4, 5, 6, 7, 8] xs (gW V n q lv) (μ.put q (.lst T)) = forL (turn gl (cl (k + 1)) [4] l10_1) [4, 5, 6, 7, 8] (xs.drop m) (gW V n q r.2) (μ.put q (.lst S))
theorem wr_l (k n q : Nat) (V : D) (μ : Sto) {f : Nat} (ih : ∀ (d : D) (path : List D) (lv : Nat) (S : List D), nice d = true → path.length + f = 8 → Nums path → lv ≤ 240 → S.length + 1000 * f ≤ 9000 → ∃ m, Wr k n q V μ S (S ++ [pr path d]) f lv (fa n f d path lv) m ∧ ((fa n f d path lv).1 = none → lv < (fa n f d path lv).2)) :
    ∀ (xs : List D) (j : Nat) (path : List D) (lv : Nat) (S : List D), (∀ x ∈ xs, nice x = true) → path.length + (f + 1) = 8 → Nums path → lv ≤ 240 → S.length + xs.length + 1000 * f ≤ 9000 → ∃ m, Wr k n q V μ S (S ++ (chs path j xs).reverse) f lv (fas (fa n f) xs j path lv) m ∧ ((fas (fa n f) xs j path lv).1 = none → xs ≠ [] → lv < (fas (fa n f) xs j path lv).2)
  | [], j, path, lv, S, hn, hp, hN, hl, hS => by
    refine ⟨0, ⟨fun p h => by simp [fas] at h, fun _ => ⟨Nat.zero_le _, fun xs _ => ?_⟩⟩, fun _ h => absurd rfl h⟩
    simp [fas, chs]
  | x :: r, j, path, lv, S, hn, hp, hN, hl, hS => by
    rw [List.length_cons] at hS
    obtain ⟨m1, w1, g1⟩ := ih x (path ++ [.int j]) lv (S ++ (chs path (j + 1) r).reverse) (hn x (by simp)) (by simp; omega) (hN.snoc j) hl (by simp [chs_len]; omega)
    have fact := fa_facts n f x (path ++ [.int j]) lv hl (hN.snoc j) (by simp; omega)
    have eT : S ++ (chs path j (x :: r)).reverse = (S ++ (chs path (j + 1) r).reverse) ++ [pr (path ++ [.int ((j : Nat) : Int)]) x] := by simp [chs]
    rw [eT]
    unfold fas
    generalize hr : fa n f x (path ++ [.int j]) lv = R1 at w1 g1 fact
    obtain ⟨o, lv1⟩ := R1
    cases o with
    | some p =>
      refine ⟨m1, ⟨fun p' h => ?_, fun h => by cases h⟩, fun h => by cases h⟩
      exact w1.some p' h
    | none =>
      obtain ⟨h1, h2⟩ := w1.none rfl
      have hlt := g1 rfl
      simp only at h1 h2 hlt fact
      obtain ⟨m2, w2, g2⟩ := wr_l k n q V μ ih r (j + 1) path lv1 S (fun y hy => hn y (by simp [hy])) hp hN fact.2.1 (by omega)
      have fact2 := fas_facts (fa_facts n f) r (j + 1) path lv1 fact.2.1 hN hp
      refine ⟨m1 + m2, ⟨fun p h => ?_, fun h => ?_⟩, fun h _ => ?_⟩
      · obtain ⟨b1, b2⟩ := w2.some p h
        refine ⟨?_, fun xs hx => ?_⟩
        · have : (fas (fa n f) r (j + 1) path lv1).2 - lv = ((fas (fa n f) r (j + 1) path lv1).2 - lv1) + (lv1 - lv) := by omega
          rw [this, Nat.mul_add]
          omega
        · obtain ⟨S', e⟩ := b2 (xs.drop m1) (by rw [List.length_drop]; omega)
          refine ⟨S', ?_⟩
          rw [h2 xs (by omega)]
          exact e
      · obtain ⟨b1, b2⟩ := w2.none h
        refine ⟨?_, fun xs hx => ?_⟩
        · have : (fas (fa n f) r (j + 1) path lv1).2 - lv = ((fas (fa n f) r (j + 1) path lv1).2 - lv1) + (lv1 - lv) := by omega
          rw [this, Nat.mul_add]
          omega
        · rw [h2 xs (by omega), b2 (xs.drop m1) (by rw [List.length_drop]; omega), List.drop_drop]
      · have := fact2.1
        simp only
        omega
theorem wr (k n q : Nat) (V : D) (μ : Sto) : ∀ (f : Nat) (d : D) (path : List D) (lv : Nat) (S : List D), nice d = true → path.length + f = 8 → Nums path → lv ≤ 240 → S.length + 1000 * f ≤ 9000 → ∃ m, Wr k n q V μ S (S ++ [pr path d]) f lv (fa n f d path lv) m ∧ ((fa n f d path lv).1 = none → lv < (fa n f d path lv).2)
  | 0, d, path, lv, S, hn, hp, hN, hl, hS => by
    refine ⟨1, ⟨fun p h => ⟨by simp, fun xs hx => ⟨S, ?_⟩⟩, fun h => by cases h⟩, fun h => by cases h⟩
    obtain ⟨x, r, rfl⟩ : ∃ x r, xs = x :: r := by cases xs with | nil => simp at hx | cons x r => exact ⟨x, r, rfl⟩
    cases h
    rw [forL_cons, w_no k n q V x d path S lv μ hn (by omega) (by omega) (.inl (by omega))]
    simp
  | f + 1, d, path, lv, S, hn, hp, hN, hl, hS => by
    unfold fa
    by_cases h0 : (vw n d).isNo = true
    · rw [if_pos h0]
      refine ⟨1, ⟨fun p h => ⟨by omega, fun xs hx => ⟨S, ?_⟩⟩, fun h => by cases h⟩, fun h => by cases h⟩
      obtain ⟨x, r, rfl⟩ : ∃ x r, xs = x :: r := by cases xs with | nil => simp at hx | cons x r => exact ⟨x, r, rfl⟩
      cases h
      rw [forL_cons, w_no k n q V x d path S lv μ hn (by omega) (by omega) (.inr h0)]
      simp
    · rw [if_neg h0]
      have h0' : (vw n d).isNo = false := by simpa using h0
      by_cases hL : (vw n d).isLeaf = true
      · rw [if_pos hL]
        by_cases h24 : 240 ≤ lv
        · rw [if_pos h24]
          have : lv = 240 := by omega
          subst this
          refine ⟨1, ⟨fun p h => ⟨by omega, fun xs hx => ⟨S, ?_⟩⟩, fun h => by cases h⟩, fun h => by cases h⟩
          obtain ⟨x, r, rfl⟩ : ∃ x r, xs = x :: r := by cases xs with | nil => simp at hx | cons x r => exact ⟨x, r, rfl⟩
          cases h
          rw [forL_cons, w_full k n q V x d path S μ hn (by omega) (by omega) h0' hL]
          simp
        · rw [if_neg h24]
          refine ⟨1, ⟨fun p h => (by cases h), fun h => ⟨(by simp only; rw [show lv + 1 - lv = 1 from by omega]; omega), fun xs hx => ?_⟩⟩, fun _ => (by simp only; omega)⟩
          obtain ⟨x, r, rfl⟩ : ∃ x r, xs = x :: r := by cases xs with | nil => simp at hx | cons x r => exact ⟨x, r, rfl⟩
          rw [forL_cons, w_leaf k n q V x d path S lv μ hn (by omega) (by omega) (by omega) h0' hL]
          simp only [bind_ok, v_wipe1, v_wipe0, List.set_cons_succ, List.set_cons_zero, List.drop_succ_cons, List.drop_zero]
      · rw [if_neg hL]
        have hL' : (vw n d).isLeaf = false := by simpa using hL
        have hF := vw_fit h0'
        have hfew := hF.few hn
        have hne : (vw n d).parts ≠ [] := by
          generalize vw n d = v at hF hL'
          cases hF <;> simp [Vw.parts, Vw.isLeaf] at hL' ⊢
        obtain ⟨m, w, g⟩ := wr_l k n q V μ (f := f) (fun d path lv S a b c e h => wr k n q V μ f d path lv S a b c e h) (vw n d).parts 0 path lv S (hF.nice hn) (by omega) hN hl (by omega)
        have fact := fas_facts (fa_facts n f) (vw n d).parts 0 path lv hl hN (by omega)
        have step : ∀ (x : D) (r : List D), forL (turn gl (cl (k + 1)) [4] l10_1) [4, 5, 6, 7, 8] (x :: r) (gW V n q lv) (μ.put q (.lst (S ++ [pr path d]))) = forL (turn gl (cl (k + 1)) [4] l10_1) [4, 5, 6, 7, 8] r (gW V n q lv) (μ.put q (.lst (S ++ (chs path 0 (vw n d).parts).reverse))) := by
          intro x r
          rw [forL_cons, w_node k n q V x d path S lv μ hn (by omega) (by omega) h0' hL']
          simp only [bind_ok, v_wipe1, v_wipe0, List.set_cons_succ, List.set_cons_zero]
        refine ⟨m + 1, ⟨fun p h => ?_, fun h => ?_⟩, fun h => g h hne⟩
        · obtain ⟨b1, b2⟩ := w.some p h
          refine ⟨?_, fun xs hx => ?_⟩
          · rw [Nat.succ_mul]; omega
          · obtain ⟨x, r, rfl⟩ : ∃ x r, xs = x :: r := by cases xs with | nil => simp at hx | cons x r => exact ⟨x, r, rfl⟩
            rw [step]
            exact b2 r (by simp at hx; omega)
        · obtain ⟨b1, b2⟩ := w.none h
          have hlt := g h hne
          refine ⟨?_, fun xs hx => ?_⟩
          · rw [Nat.succ_mul]; omega
          · obtain ⟨x, r, rfl⟩ : ∃ x r, xs = x :: r := by cases xs with | nil => simp at hx | cons x r => exact ⟨x, r, rfl⟩
            rw [step, b2 r (by simp at hx; omega)]
            rfl
def encO (o : Option (List D)) : D := match o with | none => .non | some p => .tup p
theorem wrong_s (k n : Nat) (d : D) (hn : nice d = true) (μ : Sto) : (cl (k + 2) 10 [d, .int ((n : Nat) : Int)] μ).All (fun r μ' => r = encO (fa n 8 d [] 0).1 ∧ Frm [] μ μ') Wn := by
  have e0 : cl (k + 2) 10 [d, .int ((n : Nat) : Int)] μ = (xSs gl (cl (k + 1)) b10 [.val d, .val (.int n), .un, .un, .un, .un, .un, .un, .un] μ).bind (outF false) := rfl
  rw [e0]
  have hr' : rangeD [.int 4000] = some (.lst (rangeL 0 4000)) := by
    show (if bnd 4000 then some (D.lst (rangeL 0 4000)) else none) = _
    rw [if_pos (by decide)]
  have hlen : (rangeL 0 4000).length = 4000 := by simp [rangeL]
  generalize rangeL 0 4000 = RR at hr' hlen
  simp only [b10, v_ss1, v_ss0, v_asg, v_sto, v_lst, v_tup, v_es1, v_es0, v_var, v_con, List.getElem?_cons_succ, List.getElem?_cons_zero, bind_ok, v_stoR]
  show ∀ q, μ q = none → _
  intro q hq
  obtain ⟨m, w, _⟩ := wr k n q d μ 8 d [] 0 [] hn rfl ⟨[], rfl⟩ (by decide) (by decide)
  have fact := fa_facts n 8 d [] 0 (by decide) ⟨[], rfl⟩ rfl
  generalize fa n 8 d [] 0 = R1 at w fact
  obtain ⟨o, lv⟩ := R1
  simp only [bind_ok, v_setT, List.set_cons_succ, List.set_cons_zero, v_for, v_rng1, v_con, hr', ofO_s, v_il]
  simp only [List.nil_append] at w
  cases o with
  | some p =>
    obtain ⟨b1, b2⟩ := w.some p rfl
    simp only at b1 fact
    obtain ⟨S', e⟩ := b2 RR (by rw [hlen]; omega)
    have e' : forL (turn gl (cl (k + 1)) [4] l10_1) [4, 5, 6, 7, 8] RR [.val d, .val (.int n), .val (.loc q), .val (.int 0), .un, .un, .un, .un, .un] (μ.put q (.lst [.tup [.tup [], d]])) = .ok (.rt (.tup p)) (μ.put q (.lst S')) := e
    rw [e']
    exact ⟨rfl, Frm.put (.inr hq)⟩
  | none =>
    obtain ⟨b1, b2⟩ := w.none rfl
    simp only at b1 b2 fact
    have e := b2 RR (by rw [hlen]; omega)
    have e' : forL (turn gl (cl (k + 1)) [4] l10_1) [4, 5, 6, 7, 8] RR [.val d, .val (.int n), .val (.loc q), .val (.int 0), .un, .un, .un, .un, .un] (μ.put q (.lst [.tup [.tup [], d]])) = forL (turn gl (cl (k + 1)) [4] l10_1) [4, 5, 6, 7, 8] (RR.drop m) (gW d n q lv) (μ.put q (.lst [])) := e
    rw [e']
    have hd : 0 < (RR.drop m).length := by rw [List.length_drop, hlen]; omega
    obtain ⟨x, r, hxr⟩ : ∃ x r, RR.drop m = x :: r := by
      cases hz : RR.drop m with
      | nil => rw [hz] at hd; simp at hd
      | cons x r => exact ⟨x, r, rfl⟩
    rw [hxr, forL_cons]
    have et : turn gl (cl (k + 1)) [4] l10_1 x (gW d n q lv) (μ.put q (.lst [])) = .ok (.rt .non) (μ.put q (.lst [])) := by
      have he : dr (μ.put q (.lst [])) (.loc q) = .lst [] := dr_loc (put_same _ _ _)
      simp [turn, l10_1, he]
    rw [et]
    exact ⟨rfl, Frm.put (.inr hq)⟩
end Bs.K25
namespace Bs.K25
open Bs

theorem lparts_t (k : Nat) (t : T) (μ : Sto) : cl (k + 1) 8 [enc t] μ = .ok (.lst (encs t.parts)) μ := by
  show (xSs gl (cl k) b8 [.val (enc t)] μ).bind (outF true) = _
  have lt : ∀ xs : List D, builtin .list [.tup xs] = some (.lst xs) := fun _ => rfl
  cases t with
  | gate a ts => cases a <;> simp [b8, enc, encs, T.parts, sGate, lt, outF]
  | _ => simp [b8, enc, encs, T.parts, outF]
theorem is_leaf_t (k : Nat) (t : T) (μ : Sto) : cl (k + 1) 21 [enc t] μ = .ok (.bl t.isLeaf) μ := by
  show (xSs gl (cl k) b21 [.val (enc t)] μ).bind (outF false) = _
  cases t with
  | gate a ts => cases a <;> simp [b21, enc, in_str3, T.isLeaf, sGate]
  | _ => simp [b21, enc, in_str3, T.isLeaf]
theorem parts_of_t (k : Nat) (t : T) (μ : Sto) : cl (k + 2) 22 [enc t] μ = .ok (.tup (encs t.parts)) μ := by
  show (xSs gl (cl (k + 1)) b22 [.val (enc t)] μ).bind (outF false) = _
  have h := is_leaf_t k t μ
  cases t with
  | gate a ts => cases a <;> simp [b22, h, enc, encs, T.isLeaf, T.parts, sGate] <;> simp [enc, T.isLeaf, sGate] at h <;> simp [h]
  | _ => simp [enc, T.isLeaf] at h; simp [b22, h, enc, encs, T.isLeaf, T.parts]
theorem sGate_in (a : Bool) : ¬ sGate a = sIn := by cases a <;> decide
end Bs.K25
namespace Bs.K25
open Bs

theorem add_tN (p : List Nat) (j : Nat) (h : p.length ≤ 1000) : binop .add (.tup (iN p)) (.tup [.int ((j : Nat) : Int)]) = some (.tup (iN (p ++ [j]))) := by
  have := v_addt (iN p) [.int ((j : Nat) : Int)] (by simp; omega)
  rw [this]; simp
/-- lists of paths -/
abbrev pL (l : List (List Nat × T)) : List D := l.map fun q => .tup (iN q.1)
theorem add_pL (a b : List (List Nat × T)) (h : a.length + b.length ≤ 1000000) : binop .add (.lst (pL a)) (.lst (pL b)) = some (.lst (pL (a ++ b))) := by
  have : (pL a).length + (pL b).length ≤ 1000000 := by simpa using h
  simp only [binop, this, if_true, pL, List.map_append]
mutual
theorem paths_s (μ : Sto) : ∀ (t : T) (k d : Nat) (p : List Nat), t.full → t.depth ≤ d → p.length + t.depth ≤ 100 → t.leaves ≤ 1000 → cl (k + d + 1) 11 [enc t, .tup (iN p)] μ = .ok (.lst (pL (t.paths p))) μ
  | .inp i, k, 0, p, hf, hd, hp, hl => by simp [T.depth] at hd
  | .inp i, k, d + 1, p, hf, hd, hp, hl => by
    show (xSs gl (cl (k + d + 1)) b11 [.val (enc _), .val _, .un, .un, .un] μ).bind (outF false) = _
    have h := lparts_t (k + d) (.inp i) μ
    simp only [T.parts, encs] at h
    generalize enc (.inp i) = TT at h ⊢
    simp [b11, h, T.paths, pL, enumL]
  | .one, k, 0, p, hf, hd, hp, hl => by simp [T.depth] at hd
  | .one, k, d + 1, p, hf, hd, hp, hl => by
    show (xSs gl (cl (k + d + 1)) b11 [.val (enc _), .val _, .un, .un, .un] μ).bind (outF false) = _
    have h := lparts_t (k + d) .one μ
    simp only [T.parts, encs] at h
    generalize enc .one = TT at h ⊢
    simp [b11, h, T.paths, pL, enumL]
  | .zero, k, 0, p, hf, hd, hp, hl => by simp [T.depth] at hd
  | .zero, k, d + 1, p, hf, hd, hp, hl => by
    show (xSs gl (cl (k + d + 1)) b11 [.val (enc _), .val _, .un, .un, .un] μ).bind (outF false) = _
    have h := lparts_t (k + d) .zero μ
    simp only [T.parts, encs] at h
    generalize enc .zero = TT at h ⊢
    simp [b11, h, T.paths, pL, enumL]
  | .not t, k, 0, p, hf, hd, hp, hl => by simp [T.depth] at hd
  | .not t, k, d + 1, p, hf, hd, hp, hl => by
    show (xSs gl (cl (k + d + 1)) b11 [.val (enc _), .val _, .un, .un, .un] μ).bind (outF false) = _
    have h := lparts_t (k + d) (.not t) μ
    simp only [T.parts] at h
    have ih := paths_l μ [t] k d 0 p (.val (enc (.not t))) [(p, .not t)] ⟨hf, trivial⟩ (by simp only [T.depth] at hd; simp only [depthS]; omega) (by simp only [T.depth] at hp; simp only [depthS]; omega) (by simpa [T.leaves, leavesS] using hl) (by simp only [List.length_singleton, leavesS]; simp only [T.leaves] at hl; omega)
    have e1 : T.paths p (.not t) = [(p, .not t)] ++ pathsS p 0 [t] := by simp [T.paths, pathsS]
    rw [e1]
    generalize encs [t] = EE at h ih
    generalize enc (.not t) = TT at h ih ⊢
    generalize [(p, T.not t)] ++ pathsS p 0 [t] = RR at ih ⊢
    have e2 : pL [(p, T.not t)] = [.tup (iN p)] := rfl
    rw [e2] at ih
    simp only [b11, v_ss1, v_ss0, v_asg, v_lst, v_es1, v_es0, v_var, List.getElem?_cons_succ, List.getElem?_cons_zero, bind_ok, v_setT, List.set_cons_succ, List.set_cons_zero, v_for, v_enu, v_call, List.append_nil, v_arr1, h, back_ok, v_i1, Option.map_some, ofO_s, v_il, ih, v_ret, v_out1]
  | .gate a ts, k, 0, p, hf, hd, hp, hl => by simp [T.depth] at hd
  | .gate a ts, k, d + 1, p, hf, hd, hp, hl => by
    show (xSs gl (cl (k + d + 1)) b11 [.val (enc _), .val _, .un, .un, .un] μ).bind (outF false) = _
    have h := lparts_t (k + d) (.gate a ts) μ
    simp only [T.parts] at h
    have ih := paths_l μ ts k d 0 p (.val (enc (.gate a ts))) [(p, .gate a ts)] hf.2.2 (by simp only [T.depth] at hd; omega) (by simp only [T.depth] at hp; omega) (by simpa [T.leaves] using hl) (by simp only [List.length_singleton]; simp only [T.leaves] at hl; omega)
    have e1 : T.paths p (.gate a ts) = [(p, .gate a ts)] ++ pathsS p 0 ts := by simp [T.paths]
    rw [e1]
    generalize encs ts = EE at h ih
    generalize enc (.gate a ts) = TT at h ih ⊢
    have e2 : pL [(p, T.gate a ts)] = [.tup (iN p)] := rfl
    rw [e2] at ih
    generalize [(p, T.gate a ts)] ++ pathsS p 0 ts = RR at ih ⊢
    simp only [b11, v_ss1, v_ss0, v_asg, v_lst, v_es1, v_es0, v_var, List.getElem?_cons_succ, List.getElem?_cons_zero, bind_ok, v_setT, List.set_cons_succ, List.set_cons_zero, v_for, v_enu, v_call, List.append_nil, v_arr1, h, back_ok, v_i1, Option.map_some, ofO_s, v_il, ih, v_ret, v_out1]
theorem paths_l (μ : Sto) : ∀ (ts : List T) (k d j : Nat) (p : List Nat) (X : Sl) (acc : List (List Nat × T)), fullS ts → depthS ts ≤ d → p.length + 1 + depthS ts ≤ 100 → leavesS ts ≤ 1000 → acc.length + leavesS ts * 100 ≤ 900000 →
    forL (turn gl (cl (k + d + 1)) [3, 4] l11_0) [3, 4] (enumL j (encs ts)) [X, .val (.tup (iN p)), .val (.lst (pL acc)), .un, .un] μ = .ok (.nx [X, .val (.tup (iN p)), .val (.lst (pL (acc ++ pathsS p j ts))), .un, .un]) μ
  | [], k, d, j, p, X, acc, hf, hd, hp, hl, ha => by simp [encs, enumL, pathsS]
  | t :: r, k, d, j, p, X, acc, hf, hd, hp, hl, ha => by
    simp only [depthS] at hd hp
    simp only [leavesS] at hl ha
    have h1 := paths_s μ t k d (p ++ [j]) hf.1 (by omega) (by simp; omega) (by omega)
    have hlen : (t.paths (p ++ [j])).length ≤ t.leaves * t.depth := (t.paths_len _).resolve_right (fun z => z hf.1)
    have hlen2 : t.leaves * t.depth ≤ t.leaves * 100 := Nat.mul_le_mul_left _ (by omega)
    rw [Nat.add_mul] at ha
    have hb : acc.length + (t.paths (p ++ [j])).length ≤ 1000000 := by omega
    have hadd := add_pL acc (t.paths (p ++ [j])) hb
    have hap := add_tN p j (by omega)
    have ih := paths_l μ r k d (j + 1) p X (acc ++ t.paths (p ++ [j])) hf.2 (by omega) (by omega) (by omega) (by rw [List.length_append]; omega)
    rw [show encs (t :: r) = enc t :: encs r from by simp [encs], show enumL j (enc t :: encs r) = .tup [.int ((j : Nat) : Int), enc t] :: enumL (j + 1) (encs r) from rfl, forL_cons]
    have et : turn gl (cl (k + d + 1)) [3, 4] l11_0 (.tup [.int ((j : Nat) : Int), enc t]) [X, .val (.tup (iN p)), .val (.lst (pL acc)), .un, .un] μ = .ok (.nx [X, .val (.tup (iN p)), .val (.lst (pL (acc ++ t.paths (p ++ [j])))), .val (.int ((j : Nat) : Int)), .val (enc t)]) μ := by
      generalize enc t = TT at h1
      generalize pL (t.paths (p ++ [j])) = L1 at h1 hadd
      generalize pL acc = L2 at hadd
      generalize pL (acc ++ t.paths (p ++ [j])) = L3 at hadd ⊢
      generalize iN (p ++ [j]) = L4 at h1 hap
      generalize iN p = L5 at hap ⊢
      simp [turn, l11_0, hap, h1, hadd]
    rw [et]
    simp only [bind_ok, v_wipe1, v_wipe0, List.set_cons_succ, List.set_cons_zero]
    rw [ih]
    simp [pathsS]
end

theorem at_l (k : Nat) (μ : Sto) : ∀ (p : List Nat) (X : Sl) (t u : T), t.at? p = some u → forL (turn gl (cl (k + 1)) [2] l12_0) [2] (iN p) [.val (enc t), X, .un] μ = .ok (.nx [.val (enc u), X, .un]) μ
  | [], X, t, u, h => by cases h; simp
  | i :: p, X, t, u, h => by
    simp only [T.at?] at h
    cases hi : t.parts[i]? with
    | none => rw [hi] at h; cases h
    | some v =>
      rw [hi] at h
      have ih := at_l k μ p X v u h
      have hp := lparts_t k t μ
      have hx : (encs t.parts)[i]? = some (enc v) := by rw [encs_map, List.getElem?_map, hi]; rfl
      have hix := ix_lst hx μ
      rw [show iN (i :: p) = .int ((i : Nat) : Int) :: iN p from rfl, forL_cons]
      have et : turn gl (cl (k + 1)) [2] l12_0 (.int ((i : Nat) : Int)) [.val (enc t), X, .un] μ = .ok (.nx [.val (enc v), X, .val (.int ((i : Nat) : Int))]) μ := by
        generalize enc t = TT at hp
        generalize encs t.parts = PP at hp hix
        simp [turn, l12_0, hp, hix]
      rw [et]
      simp only [bind_ok, v_wipe1, v_wipe0, List.set_cons_succ, List.set_cons_zero]
      exact ih
theorem at_s (k : Nat) (μ : Sto) (p : List Nat) (t u : T) (h : t.at? p = some u) : cl (k + 2) 12 [enc t, .tup (iN p)] μ = .ok (enc u) μ := by
  show (xSs gl (cl (k + 1)) b12 [.val (enc t), .val (.tup (iN p)), .un] μ).bind (outF false) = _
  have h1 := at_l k μ p (.val (.tup (iN p))) t u h
  generalize iN p = PP at h1 ⊢
  generalize enc t = TT at h1 ⊢
  simp [b12, h1]
def encP (o : Option (List Nat)) : D := match o with | none => .non | some p => .tup (iN p)
theorem str_gate (a : Bool) : decide (sGate a = sIn) = false := by cases a <;> decide
/-! ### the law's own look -/
end Bs.K25
namespace Bs.K25
open Bs

theorem draw_k (k : Nat) {p q : Nat} {m : Int} {μ : Sto} (h : Sb p q μ) (hm : 0 < m) (hm2 : m < 1073741824) : ∃ r μ', cl (k + 1) 1 [.loc p, .int m] μ = .ok (.int r) μ' ∧ 0 ≤ r ∧ r < m ∧ Sb p q μ' ∧ Frm [p, q] μ μ' := dwB_s gl (cl k) h hm hm2
theorem draw_n (k : Nat) {p q m : Nat} {μ : Sto} (h : Sb p q μ) (hm : 0 < m) (hm2 : m < 10000000) : ∃ r μ', cl (k + 1) 1 [.loc p, .int ((m : Nat) : Int)] μ = .ok (.int ((r : Nat) : Int)) μ' ∧ r < m ∧ S2 p q μ μ' := by
  obtain ⟨r, μ', e, r0, r1, s, f⟩ := draw_k k h (m := m) (by omega) (by omega)
  obtain ⟨j, rfl⟩ := Int.eq_ofNat_of_zero_le r0
  exact ⟨j, μ', e, by omega, s, f⟩
theorem start_k (k : Nat) (ns : List Int) (hl : ns.length ≤ 63) (μ : Sto) : (cl (k + 1) 0 [.lst (ns.map D.int)] μ).All (fun d μ' => ∃ p q, d = .loc p ∧ Sb p q μ' ∧ Frm [] μ μ') Wn := startB_s gl (cl k) ns hl μ
theorem leaf_s (k : Nat) {p q n : Nat} {ls : List Nat} (hls : ∀ i ∈ ls, i < n) (hl : ls.length ≤ 1000) {μ : Sto} (h : Sb p q μ) : ∃ t μ', cl (k + 2) 3 [.loc p, .lst (iN ls)] μ = .ok (enc t) μ' ∧ S2 p q μ μ' ∧ WT n 1 t := by
  obtain ⟨r, μ1, e1, h1, s1⟩ := draw_n k h (m := 9) (by decide) (by decide)
  have e1' : cl (k + 1) 1 [.loc p, .int 9] μ = .ok (.int ((r : Nat) : Int)) μ1 := e1
  have e0 : ∀ μ, cl (k + 2) 3 [.loc p, .lst (iN ls)] μ = (xSs gl (cl (k + 1)) b3 [.val (.loc p), .val (.lst (iN ls)), .un] μ).bind (outF false) := fun _ => rfl
  by_cases c0 : r = 0
  · subst c0
    refine ⟨.zero, μ1, ?_, s1, ⟨trivial, by simp [T.lt], by simp [T.depth], by simp [T.leaves]⟩⟩
    rw [e0]
    generalize iN ls = LL
    simp [b3, e1', enc]
  · by_cases c1 : r = 1 ∨ ls = []
    · refine ⟨.one, μ1, ?_, s1, ⟨trivial, by simp [T.lt], by simp [T.depth], by simp [T.leaves]⟩⟩
      rw [e0]
      rcases c1 with rfl | rfl
      · generalize iN ls = LL
        simp [b3, e1', enc]
      · by_cases c2 : r = 1
        · subst c2; simp [b3, e1', enc]
        · have c0' : ¬ (((r : Nat) : Int) = 0) := by omega
          have c2' : ¬ (((r : Nat) : Int) = 1) := by omega
          simp [b3, e1', enc, c0, c0', c2, c2']
    · have hne : ls ≠ [] := fun z => c1 (.inr z)
      have hpos : 0 < ls.length := List.length_pos_iff.mpr hne
      obtain ⟨j, μ2, e2, hj, s2⟩ := draw_n k s1.sb (m := ls.length) hpos (by omega)
      have c0' : ¬ (((r : Nat) : Int) = 0) := by omega
      have c2' : ¬ (((r : Nat) : Int) = 1) := fun z => c1 (.inl (by omega))
      have c3' : ¬ (((ls.length : Nat) : Int) = 0) := by omega
      have hx := ix_iN hj μ2
      have hlt := hls _ (List.getElem_mem hj)
      refine ⟨.inp (ls[j]'hj), μ2, ?_, s1.trans s2, ⟨trivial, by simp [T.lt, hlt], by simp [T.depth], by simp [T.leaves]⟩⟩
      rw [e0]
      have hlen : builtin .len [.lst (iN ls)] = some (.int ((ls.length : Nat) : Int)) := by simp
      generalize iN ls = LL at hx hlen ⊢
      generalize ((ls.length : Nat) : Int) = LN at *
      generalize ls[j]'hj = LJ at *
      have d0 : decide (((r : Nat) : Int) = 0) = false := decide_eq_false c0'
      have d1 : decide (((r : Nat) : Int) = 1) = false := decide_eq_false c2'
      have d2 : decide (LN = 0) = false := decide_eq_false c3'
      simp only [b3, v_ss1, v_ss0, v_asg, v_call, v_es1, v_es0, v_var, v_con, List.getElem?_cons_succ, List.getElem?_cons_zero, bind_ok, List.append_nil, v_arr2, e1', back_ok, v_setT, List.set_cons_succ, List.set_cons_zero, v_if, v_cond, v_cmp, v_eqii, d0, orO_some, v_tbl, Bool.false_eq_true, if_false, v_or, d1, v_bi, hlen, d2, v_ret, v_tup, v_ix, e2, hx, v_out1, enc]
theorem pick4 {i : Nat} (h : i < 4) (μ : Sto) : ∃ m : Nat, 1 ≤ m ∧ m ≤ 3 ∧ ixR (.lst [.int 2, .int 2, .int 3, .int 1]) (.int ((i : Nat) : Int)) μ = .ok (.int ((m : Nat) : Int)) μ := by
  have : i = 0 ∨ i = 1 ∨ i = 2 ∨ i = 3 := by omega
  rcases this with rfl | rfl | rfl | rfl
  · exact ⟨2, by decide, by decide, rfl⟩
  · exact ⟨2, by decide, by decide, rfl⟩
  · exact ⟨3, by decide, by decide, rfl⟩
  · exact ⟨1, by decide, by decide, rfl⟩
theorem trees_lc {p q n : Nat} {ls : List Nat} {e k : Nat} (ih : ∀ μ, Sb p q μ → ∃ t μ', cl (k + e + 3) 4 [.loc p, .lst (iN ls), .int ((e + 1 : Nat) : Int)] μ = .ok (enc t) μ' ∧ S2 p q μ μ' ∧ WT n (e + 1) t) (g3 g4 g5 : Sl) : ∀ (xs : List D) (ts : List T) (μ : Sto), Sb p q μ → WTs n (e + 1) ts → ts.length + xs.length ≤ 1000 →
    ∃ ts' μ', lcL (turnC gl (cl (k + e + 3)) [.val (.loc p), .val (.lst (iN ls)), .val (.int ((e + 1 + 1 : Nat) : Int)), g3, g4, g5, .un] [6] none c4_0) xs (encs ts) μ = .ok (encs ts') μ' ∧ S2 p q μ μ' ∧ WTs n (e + 1) ts' ∧ ts'.length = ts.length + xs.length
  | [], ts, μ, hs, hw, _ => ⟨ts, μ, rfl, .refl hs, hw, by simp⟩
  | x :: xs, ts, μ, hs, hw, hl => by
    rw [List.length_cons] at hl
    obtain ⟨t, μ1, e1, s1, w1⟩ := ih μ hs
    obtain ⟨ts', μ2, e2, s2, w2, l2⟩ := trees_lc ih g3 g4 g5 xs (ts ++ [t]) μ1 s1.sb (hw.snoc w1) (by simp; omega)
    refine ⟨ts', μ2, ?_, s1.trans s2, w2, by rw [l2]; simp; omega⟩
    unfold lcL
    have hsub : ((e + 1 + 1 : Nat) : Int) - 1 = ((e + 1 : Nat) : Int) := by omega
    have hacc : (encs ts).length < 1000000 := by rw [encs_len]; omega
    have et : turnC gl (cl (k + e + 3)) [.val (.loc p), .val (.lst (iN ls)), .val (.int ((e + 1 + 1 : Nat) : Int)), g3, g4, g5, .un] [6] none c4_0 x (encs ts) μ = .ok (encs (ts ++ [t])) μ1 := by
      rw [encs_app, show encs [t] = [enc t] from by simp [encs]]
      generalize encs ts = EE at hacc ⊢
      generalize enc t = TT at e1 ⊢
      generalize iN ls = LL at e1 ⊢
      generalize ((e + 1 + 1 : Nat) : Int) = N2 at hsub ⊢
      simp only [turnC, setTR, c4_0, v_wipe1, v_wipe0, v_setT, List.set_cons_succ, List.set_cons_zero, v_c0, bind_ok, if_true, v_call, v_es1, v_es0, v_var, v_bin, v_con, List.getElem?_cons_succ, List.getElem?_cons_zero, v_subi, orO_some, hsub, List.append_nil, v_arr3, e1, back_ok, addL, hacc]
    rw [et]
    exact e2
theorem tree_s {p q n : Nat} {ls : List Nat} (hls : ∀ i ∈ ls, i < n) (hl : ls.length ≤ 1000) : ∀ (e k : Nat) (μ : Sto), Sb p q μ → ∃ t μ', cl (k + e + 3) 4 [.loc p, .lst (iN ls), .int ((e + 1 : Nat) : Int)] μ = .ok (enc t) μ' ∧ S2 p q μ μ' ∧ WT n (e + 1) t
  | 0, k, μ, hs => by
    obtain ⟨t, μ1, e1, s1, w1⟩ := leaf_s k hls hl hs
    refine ⟨t, μ1, ?_, s1, w1⟩
    have e0 : cl (k + 0 + 3) 4 [.loc p, .lst (iN ls), .int ((0 + 1 : Nat) : Int)] μ = (xSs gl (cl (k + 2)) b4 [.val (.loc p), .val (.lst (iN ls)), .val (.int 1), .un, .un, .un, .un] μ).bind (outF false) := rfl
    rw [e0]
    generalize enc t = TT at e1 ⊢
    generalize iN ls = LL at e1 ⊢
    simp [b4, e1]
  | e + 1, k, μ, hs => by
    have e0 : cl (k + (e + 1) + 3) 4 [.loc p, .lst (iN ls), .int ((e + 1 + 1 : Nat) : Int)] μ = (xSs gl (cl (k + e + 3)) b4 [.val (.loc p), .val (.lst (iN ls)), .val (.int ((e + 1 + 1 : Nat) : Int)), .un, .un, .un, .un] μ).bind (outF false) := rfl
    rw [e0]
    have hgt : decide ((1 : Int) < ((e + 1 + 1 : Nat) : Int)) = true := decide_eq_true (by omega)
    have hsub : ((e + 1 + 1 : Nat) : Int) - 1 = ((e + 1 : Nat) : Int) := by omega
    obtain ⟨r, μ1, e1, h1, s1⟩ := draw_n (k + e + 2) hs (m := 8) (by decide) (by decide)
    have e1' : cl (k + e + 3) 1 [.loc p, .int 8] μ = .ok (.int ((r : Nat) : Int)) μ1 := e1
    by_cases c2 : r < 2
    · obtain ⟨t, μ2, e2, s2, w2⟩ := leaf_s (k + e + 1) hls hl s1.sb
      have e2' : cl (k + e + 3) 3 [.loc p, .lst (iN ls)] μ1 = .ok (enc t) μ2 := e2
      have hd : decide (((r : Nat) : Int) < 2) = true := decide_eq_true (by omega)
      refine ⟨t, μ2, ?_, s1.trans s2, ⟨w2.full, w2.lt, by have := w2.depth; omega, Nat.le_trans w2.leaves (Nat.one_le_pow _ _ (by decide))⟩⟩
      generalize enc t = TT at e2' ⊢
      generalize iN ls = LL at e2' ⊢
      generalize ((e + 1 + 1 : Nat) : Int) = N2 at hgt ⊢
      simp only [b4, v_ss1, v_ss0, v_asg, v_con, bind_ok, v_setT, List.set_cons_succ, List.set_cons_zero, v_if, v_cond, v_cmp, v_var, List.getElem?_cons_succ, List.getElem?_cons_zero, v_gt, hgt, orO_some, v_tbl, if_true, v_call, v_es1, v_es0, List.append_nil, v_arr2, e1', back_ok, v_lt, hd, v_ret, e2', v_out1]
    · have hd : decide (((r : Nat) : Int) < 2) = false := decide_eq_false (by omega)
      by_cases c3 : r = 2
      · obtain ⟨t, μ2, e2, s2, w2⟩ := tree_s hls hl e k μ1 s1.sb
        have hd3 : decide (((r : Nat) : Int) = 2) = true := decide_eq_true (by omega)
        refine ⟨.not t, μ2, ?_, s1.trans s2, ⟨w2.full, w2.lt, by have := w2.depth; simp only [T.depth]; omega, ?_⟩⟩
        · simp only [enc]
          generalize enc t = TT at e2 ⊢
          generalize iN ls = LL at e2 ⊢
          generalize ((e + 1 + 1 : Nat) : Int) = N2 at hgt hsub ⊢
          simp only [b4, v_ss1, v_ss0, v_asg, v_con, bind_ok, v_setT, List.set_cons_succ, List.set_cons_zero, v_if, v_cond, v_cmp, v_var, List.getElem?_cons_succ, List.getElem?_cons_zero, v_gt, hgt, orO_some, v_tbl, if_true, v_call, v_es1, v_es0, List.append_nil, v_arr2, v_arr3, e1', back_ok, v_lt, hd, Bool.false_eq_true, if_false, v_eqii, hd3, v_ret, v_tup, v_bin, v_subi, hsub, e2, v_out1]
        · have := w2.leaves
          simp only [T.leaves]
          refine Nat.le_trans this ?_
          exact Nat.pow_le_pow_right (by decide) (by omega)
      · have hd3 : decide (((r : Nat) : Int) = 2) = false := decide_eq_false (by omega)
        obtain ⟨j, μ2, e2, h2, s2⟩ := draw_n (k + e + 2) s1.sb (m := 4) (by decide) (by decide)
        have e2' : cl (k + e + 3) 1 [.loc p, .int 4] μ1 = .ok (.int ((j : Nat) : Int)) μ2 := e2
        obtain ⟨m, m1, m3, em⟩ := pick4 h2 μ2
        have hr2 : ∃ i : Int, ((r : Nat) : Int) - 2 * (((r : Nat) : Int) / 2) = i ∧ 0 ≤ i ∧ i < 2 := ⟨_, rfl, by omega, by omega⟩
        obtain ⟨i, hi, i0, i1⟩ := hr2
        obtain ⟨a, ea⟩ := pick_go i0 i1 μ2
        obtain ⟨ts, μ3, e3, s3, w3, l3⟩ := trees_lc (fun μ hs => tree_s hls hl e k μ hs) (.val (.int ((r : Nat) : Int))) (.val (.int ((m : Nat) : Int))) (.val (.str (sGate a))) (rangeL 0 ((m : Nat) : Int)) [] μ2 s2.sb (WTs.nil _ _) (by simp [rangeL]; omega)
        have l3' : ts.length = m := by rw [l3]; simp [rangeL]
        have hr := rng_nat (n := m) (by omega)
        have e3' : lcL (turnC gl (cl (k + e + 3)) [.val (.loc p), .val (.lst (iN ls)), .val (.int ((e + 1 + 1 : Nat) : Int)), .val (.int ((r : Nat) : Int)), .val (.int ((m : Nat) : Int)), .val (.str (sGate a)), .un] [6] none c4_0) (rangeL 0 ((m : Nat) : Int)) [] μ2 = .ok (encs ts) μ3 := by
          have := e3; simp only [encs] at this; exact this
        refine ⟨.gate a ts, μ3, ?_, (s1.trans s2).trans s3, gate_wt a w3 (fun z => by subst z; simp at l3'; omega) (by omega) (by omega)⟩
        have htp : ∀ l : List D, builtin .tuple [.lst l] = some (.tup l) := fun _ => rfl
        have f2 := fdiv_p (i := ((r : Nat) : Int)) (j := 2) (by decide) (by decide)
        have mm := mul_l (i := 2) (j := ((r : Nat) : Int) / 2) (small_of (by decide) (by decide))
        simp only [enc]
        generalize encs ts = EE at e3' ⊢
        generalize iN ls = LL at e3' ⊢
        generalize rangeL 0 ((m : Nat) : Int) = RR at hr e3'
        generalize ((e + 1 + 1 : Nat) : Int) = N2 at hgt hsub e3' ⊢
        simp only [b4, v_ss1, v_ss0, v_asg, v_con, bind_ok, v_setT, List.set_cons_succ, List.set_cons_zero, v_if, v_cond, v_cmp, v_var, List.getElem?_cons_succ, List.getElem?_cons_zero, v_gt, hgt, orO_some, v_tbl, if_true, v_call, v_es1, v_es0, List.append_nil, v_arr2, e1', back_ok, v_lt, hd, Bool.false_eq_true, if_false, v_eqii, hd3, v_ix, v_lst, e2', em, v_bin, f2, mm, v_subi, hi, ea, v_ret, v_tup, v_bi, v_lc, v_rng1, hr, ofO_s, v_il, e3', nox_ok, htp, v_out1]

end Bs.K25
namespace Bs.K25
open Bs

theorem eraseIdx_iN : ∀ (l : List Nat) (j : Nat), (iN l).eraseIdx j = iN (l.eraseIdx j)
  | [], j => by simp
  | x :: l, 0 => rfl
  | x :: l, j + 1 => by
    have := eraseIdx_iN l j
    simp only [iN, List.map_cons, List.eraseIdx_cons_succ] at this ⊢
    rw [this]
theorem some_lc (k : Nat) {p q r0 : Nat} (hp : r0 ≠ p) (hq : r0 ≠ q) (g1 : Sl) : ∀ (xs : List D) (acc rest : List Nat) (μ : Sto), Sb p q μ → μ r0 = some (.lst (iN rest)) → xs.length ≤ rest.length → rest.length ≤ 100 → (∀ i ∈ rest, i < 5) → acc.length + xs.length ≤ 1000 →
    ∃ ls μ', lcL (turnC gl (cl (k + 1)) [.val (.loc p), g1, .val (.loc r0), .un] [3] none c2_0) xs (iN acc) μ = .ok (iN (acc ++ ls)) μ' ∧ Sb p q μ' ∧ Frm [p, q, r0] μ μ' ∧ ls.length = xs.length ∧ ∀ i ∈ ls, i < 5
  | [], acc, rest, μ, hs, hr, hx, hl, h5, ha => ⟨[], μ, by simp [lcL], hs, .refl, rfl, by simp⟩
  | x :: xs, acc, rest, μ, hs, hr, hx, hl, h5, ha => by
    rw [List.length_cons] at hx ha
    obtain ⟨j, μ1, e1, hj, s1⟩ := draw_n k hs (m := rest.length) (by omega) (by omega)
    have hr1 : μ1 r0 = some (.lst (iN rest)) := by rw [s1.fr r0 (by rw [hr]; simp) (by simp [hp, hq])]; exact hr
    have hpop : popR (.loc r0) (.int ((j : Nat) : Int)) μ1 = .ok (.int ((rest[j]'hj : Nat) : Int)) (μ1.put r0 (.lst (iN (rest.eraseIdx j)))) := by
      have h1 : rest.length ≤ 1000000 := by omega
      have h2 : L2.ixN rest.length ((j : Nat) : Int) = some j := by
        have a1 : ((j : Nat) : Int) < rest.length := by omega
        have a2 : (0 : Int) ≤ (j : Nat) := by omega
        simp [L2.ixN, a1, a2]
      have h3 : (iN rest)[j]? = some (.int ((rest[j]'hj : Nat) : Int)) := by simp [hj]
      have h4 := eraseIdx_iN rest j
      have hlen : (iN rest).length = rest.length := by simp
      simp only [popR, hr1, hlen, h1, if_true, h2, h3, h4]
    have hput : Sb p q (μ1.put r0 (.lst (iN (rest.eraseIdx j)))) := by
      obtain ⟨ne, ⟨cs, a, n, h1, h2, h3, h4⟩, bs, h5, h6, h7⟩ := s1.sb
      exact ⟨ne, ⟨cs, a, n, h1, h2, h3, by rw [put_ne (Ne.symm hp)]; exact h4⟩, bs, h5, h6, by rw [put_ne (Ne.symm hq)]; exact h7⟩
    have hle : (rest.eraseIdx j).length = rest.length - 1 := by rw [List.length_eraseIdx_of_lt hj]
    obtain ⟨ls, μ2, e2, s2, f2, l2, h2⟩ := some_lc k hp hq g1 xs (acc ++ [rest[j]'hj]) (rest.eraseIdx j) _ hput (put_same _ _ _) (by omega) (by omega) (fun i hi => h5 i (List.mem_of_mem_eraseIdx hi)) (by simp; omega)
    refine ⟨rest[j]'hj :: ls, μ2, ?_, s2, ?_, by simp [l2], ?_⟩
    · unfold lcL
      have hacc : (iN acc).length < 1000000 := by simp; omega
      have hisl : isL μ (.loc r0) = true := by simp [isL, hr]
      have hd : dr μ (.loc r0) = .lst (iN rest) := dr_loc hr
      have hlen : builtin .len [.lst (iN rest)] = some (.int ((rest.length : Nat) : Int)) := by simp
      have hnl : builtin .len [.loc r0] = none := rfl
      have et : turnC gl (cl (k + 1)) [.val (.loc p), g1, .val (.loc r0), .un] [3] none c2_0 x (iN acc) μ = .ok (iN (acc ++ [rest[j]'hj])) (μ1.put r0 (.lst (iN (rest.eraseIdx j)))) := by
        rw [show iN (acc ++ [rest[j]'hj]) = iN acc ++ [.int ((rest[j]'hj : Nat) : Int)] from by simp]
        generalize iN acc = AA at hacc ⊢
        generalize μ1.put r0 (.lst (iN (rest.eraseIdx j))) = MM at hpop ⊢
        generalize iN rest = RR at hd hlen
        generalize rest[j]'hj = RJ at hpop ⊢
        generalize ((rest.length : Nat) : Int) = RN at e1 hlen
        simp only [turnC, setTR, c2_0, v_wipe1, v_wipe0, v_setT, List.set_cons_succ, List.set_cons_zero, v_c0, bind_ok, if_true, v_popl, v_var, List.getElem?_cons_succ, List.getElem?_cons_zero, hisl, v_call, v_es1, v_es0, v_bi, hnl, orO_none, List.map_cons, List.map_nil, hd, hlen, ofO_s, List.append_nil, v_arr2, e1, back_ok, hpop, addL, hacc]
      rw [et]
      simp only [bind_ok]
      rw [e2]
      simp
    · exact ((s1.fr.weak (L' := [p, q, r0]) (by intro x hx; simp only [List.mem_cons, List.not_mem_nil, or_false] at hx ⊢; rcases hx with h | h <;> simp [h])).trans (Frm.put (.inl (by simp)))).trans f2
    · intro i hi
      rcases List.mem_cons.mp hi with rfl | hi
      · exact h5 _ (List.getElem_mem hj)
      · exact h2 i hi
theorem some_s (k : Nat) {p q m : Nat} (hm : m ≤ 5) {μ : Sto} (hs : Sb p q μ) : (cl (k + 2) 2 [.loc p, .int ((m : Nat) : Int)] μ).All (fun d μ' => ∃ ls : List Nat, d = .lst (iN ls) ∧ ls.length = m ∧ (∀ i ∈ ls, i < 5) ∧ S2 p q μ μ') Wn := by
  have e0 : cl (k + 2) 2 [.loc p, .int ((m : Nat) : Int)] μ = (xSs gl (cl (k + 1)) b2 [.val (.loc p), .val (.int ((m : Nat) : Int)), .un, .un] μ).bind (outF false) := rfl
  rw [e0]
  have hr := rng_nat (n := m) (by omega)
  simp only [b2, v_ss1, v_ss0, v_asg, v_sto, v_lst, v_es1, v_es0, v_con, bind_ok, v_stoR, bind_any]
  refine all_any fun r0 h0 => ?_
  have hne : r0 ≠ p ∧ r0 ≠ q := by
    obtain ⟨_, ⟨cs, a, n, _, _, _, h4⟩, bs, _, _, h7⟩ := hs
    exact ⟨fun e => (by rw [e, h4] at h0; cases h0), fun e => (by rw [e, h7] at h0; cases h0)⟩
  have hs1 : Sb p q (μ.put r0 (.lst (iN [0, 1, 2, 3, 4]))) := hs.frm (Frm.put (.inr h0))
  obtain ⟨ls, μ2, e2, s2, f2, l2, h2⟩ := some_lc k hne.1 hne.2 (.val (.int ((m : Nat) : Int))) (rangeL 0 ((m : Nat) : Int)) [] [0, 1, 2, 3, 4] _ hs1 (put_same _ _ _) (by simp [rangeL]; omega) (by decide) (by decide) (by simp [rangeL]; omega)
  have hI : iN [0, 1, 2, 3, 4] = [.int 0, .int 1, .int 2, .int 3, .int 4] := rfl
  have hI0 : iN ([] : List Nat) = [] := rfl
  have e2' := e2
  rw [hI0, List.nil_append, hI] at e2'
  clear e2
  have l2' : ls.length = m := by rw [l2]; simp [rangeL]
  generalize hLL : iN ls = LL at e2'
  generalize rangeL 0 ((m : Nat) : Int) = RR at hr e2'
  generalize cl (k + 1) = CL at e2' ⊢
  simp only [bind_ok, v_setT, List.set_cons_succ, List.set_cons_zero, v_ret, v_lc, v_rng1, v_var, List.getElem?_cons_succ, List.getElem?_cons_zero, hr, ofO_s, v_il, e2', nox_ok, v_out1]
  refine all_is ⟨ls, by rw [hLL], l2', h2, s2, fun x h1 h3 => ?_⟩
  have hx : x ≠ r0 := fun e => h1 (by rw [e]; exact h0)
  simp only [List.mem_cons, List.not_mem_nil, or_false, not_or] at h3
  have := f2 x (by rw [put_ne hx]; exact h1) (by simp [h3.1, h3.2, hx])
  rw [this, put_ne hx]

end Bs.K25
namespace Bs.K25
open Bs

theorem slice_cons (i : Nat) (p : List Nat) : slice (.tup (iN (i :: p))) (some 1) none = some (.tup (iN p)) := by
  simp [slice, cut, HT.sIx]
  exact List.take_of_length_le (by simp)
theorem set_s (μ : Sto) {d : D} {p : List Nat} {new y : D} (h : Set1 d p new y) : ∀ k : Nat, cl (k + p.length + 2) 17 [d, .tup (iN p), new] μ = .ok y μ := by
  induction h with
  | nil d new =>
    intro k
    show (xSs gl (cl (k + 1)) b17 [.val d, .val (.tup (iN [])), .val new, .un] μ).bind (outF false) = _
    simp [b17]
  | not x new y p hs ih =>
    intro k
    have ih' := ih k
    have e0 : cl (k + (0 :: p).length + 2) 17 [.tup [.str sNot, x], .tup (iN (0 :: p)), new] μ = (xSs gl (cl (k + p.length + 2)) b17 [.val (.tup [.str sNot, x]), .val (.tup (iN (0 :: p))), .val new, .un] μ).bind (outF false) := rfl
    rw [e0]
    have hp : cl (k + p.length + 2) 8 [.tup [.str sNot, x]] μ = .ok (.lst [x]) μ := by
      have := lparts_d (k + p.length + 1) 5 (Fit.not x) μ; exact this
    have hsl := slice_cons 0 p
    have hix : ixR (.tup (iN (0 :: p))) (.int 0) μ = .ok (.int 0) μ := tixc0 _ _ _
    have hlen : builtin .len [.tup (iN (0 :: p))] = some (.int ((p.length + 1 : Nat) : Int)) := by simp
    have hl0 : decide (((p.length + 1 : Nat) : Int) = 0) = false := decide_eq_false (by omega)
    have hx0 : ixR (.lst [x]) (.int 0) μ = .ok x μ := lix10 _ _ _
    have hy0 : ixR (.lst [y]) (.int 0) μ = .ok y μ := lix10 _ _ _
    have hset : ∀ γ : Ga, osetR γ 3 [x] y (.int 0) μ = .ok (.nx (γ.set 3 (.own (.lst [y])))) μ := fun _ => rfl
    have hn : decide (sNot = [110, 111, 116]) = true := by decide
    generalize iN (0 :: p) = PP at hsl hix hlen ⊢
    generalize iN p = P1 at hsl ih'
    generalize ((p.length + 1 : Nat) : Int) = LN at hlen hl0
    simp only [b17, v_ss1, v_ss0, v_if, v_cond, v_cmp, v_bi, v_es1, v_es0, v_var, v_con, List.getElem?_cons_succ, List.getElem?_cons_zero, bind_ok, hlen, orO_some, v_eqii, hl0, v_tbl, Bool.false_eq_true, if_false, v_own, v_call, List.append_nil, v_arr1, v_arr3, hp, back_ok, List.set_cons_succ, List.set_cons_zero, v_oset, v_ix, v_ovar, hix, hx0, v_sl, v_o1, v_o0, intR, hsl, ih', hset, tix20, v_eqss, hn, decide_true, if_true, v_ret, v_tup, hy0, v_out1]
  | gate a xs i x new y p hx hs ih =>
    intro k
    have ih' := ih k
    have e0 : cl (k + (i :: p).length + 2) 17 [.tup [.str (sGate a), .tup xs], .tup (iN (i :: p)), new] μ = (xSs gl (cl (k + p.length + 2)) b17 [.val (.tup [.str (sGate a), .tup xs]), .val (.tup (iN (i :: p))), .val new, .un] μ).bind (outF false) := rfl
    rw [e0]
    have hil : i < xs.length := (List.getElem?_eq_some_iff.mp hx).1
    have hp : cl (k + p.length + 2) 8 [.tup [.str (sGate a), .tup xs]] μ = .ok (.lst xs) μ := by
      obtain ⟨z, zs, rfl⟩ : ∃ z zs, xs = z :: zs := by
        cases xs with
        | nil => simp at hil
        | cons z zs => exact ⟨z, zs, rfl⟩
      have := lparts_d (k + p.length + 1) 5 (Fit.gate a z zs) μ; exact this
    have hsl := slice_cons i p
    have hix : ixR (.tup (iN (i :: p))) (.int 0) μ = .ok (.int ((i : Nat) : Int)) μ := tixc0 _ _ _
    have hlen : builtin .len [.tup (iN (i :: p))] = some (.int ((p.length + 1 : Nat) : Int)) := by simp
    have hl0 : decide (((p.length + 1 : Nat) : Int) = 0) = false := decide_eq_false (by omega)
    have hx0 : ixR (.lst xs) (.int ((i : Nat) : Int)) μ = .ok x μ := ix_lst hx μ
    have hset : ∀ γ : Ga, osetR γ 3 xs y (.int ((i : Nat) : Int)) μ = .ok (.nx (γ.set 3 (.own (.lst (xs.set i y))))) μ := fun γ => by
      have a1 : ((i : Nat) : Int) < xs.length := by omega
      have a2 : (0 : Int) ≤ (i : Nat) := by omega
      simp [osetR, L2.ixN, a1, a2]
    have hn : decide (sGate a = [110, 111, 116]) = false := by cases a <;> decide
    have htp : ∀ l : List D, builtin .tuple [.lst l] = some (.tup l) := fun _ => rfl
    generalize iN (i :: p) = PP at hsl hix hlen ⊢
    generalize iN p = P1 at hsl ih'
    generalize ((p.length + 1 : Nat) : Int) = LN at hlen hl0
    generalize xs.set i y = YY at hset ⊢
    simp only [b17, v_ss1, v_ss0, v_if, v_cond, v_cmp, v_bi, v_es1, v_es0, v_var, v_con, List.getElem?_cons_succ, List.getElem?_cons_zero, bind_ok, hlen, orO_some, v_eqii, hl0, v_tbl, Bool.false_eq_true, if_false, v_own, v_call, List.append_nil, v_arr1, v_arr3, hp, back_ok, List.set_cons_succ, List.set_cons_zero, v_oset, v_ix, v_ovar, hix, hx0, v_sl, v_o1, v_o0, intR, hsl, ih', hset, tix20, v_eqss, hn, v_ret, v_tup, htp, v_out1]
theorem apart_l (k : Nat) (g0 g1 : Sl) (μ : Sto) : ∀ (p q : List Nat), ((forL (turn gl (cl k) [2, 3] l19_0) [2, 3] (zipL (iN p) (iN q)) [g0, g1, .un, .un] μ).bind fun fl μ => match fl with | .nx γ' => xSs gl (cl k) [.ret (.con (.bl false))] γ' μ | _ => .ok fl μ) = .ok (.rt (.bl (apartB p q))) μ
  | [], q => by simp [zipL, apartB]
  | a :: p, [] => by simp [zipL, apartB]
  | a :: p, b :: q => by
    have ih := apart_l k g0 g1 μ p q
    rw [show zipL (iN (a :: p)) (iN (b :: q)) = .tup [.int ((a : Nat) : Int), .int ((b : Nat) : Int)] :: zipL (iN p) (iN q) from rfl, forL_cons]
    by_cases hab : a = b
    · subst hab
      have et : turn gl (cl k) [2, 3] l19_0 (.tup [.int ((a : Nat) : Int), .int ((a : Nat) : Int)]) [g0, g1, .un, .un] μ = .ok (.nx [g0, g1, .val (.int ((a : Nat) : Int)), .val (.int ((a : Nat) : Int))]) μ := by
        simp [turn, l19_0]
      rw [et]
      simp only [bind_ok, v_wipe1, v_wipe0, List.set_cons_succ, List.set_cons_zero, apartB, ne_eq, not_true_eq_false, decide_false, Bool.false_or]
      first
        | exact ih
        | (rw [show (decide (a ≠ a) || apartB p q) = apartB p q from by simp]; exact ih)
    · have hab' : ¬ (((a : Nat) : Int) = ((b : Nat) : Int)) := by omega
      have et : turn gl (cl k) [2, 3] l19_0 (.tup [.int ((a : Nat) : Int), .int ((b : Nat) : Int)]) [g0, g1, .un, .un] μ = .ok (.rt (.bl true)) μ := by
        simp [turn, l19_0, hab, hab']
      rw [et]
      simp [apartB, hab]
theorem apart_s (k : Nat) (p q : List Nat) (μ : Sto) : cl (k + 1) 19 [.tup (iN p), .tup (iN q)] μ = .ok (.bl (apartB p q)) μ := by
  show (xSs gl (cl k) b19 [.val (.tup (iN p)), .val (.tup (iN q)), .un, .un] μ).bind (outF false) = _
  have h := apart_l k (.val (.tup (iN p))) (.val (.tup (iN q))) μ p q
  generalize iN p = PP at h ⊢
  generalize iN q = QQ at h ⊢
  simp only [b19, v_ss1, v_ss0, v_for, v_zip, v_var, List.getElem?_cons_succ, List.getElem?_cons_zero, bind_ok, v_it, v_il]
  simp only [v_ss1, v_ss0] at h
  exact (congrArg (fun r : R Fl => r.bind (outF false)) h).trans (by simp)
theorem dpath_s (k : Nat) {p q : Nat} (t : T) (hf : t.full) (hd : t.depth ≤ 13) (hl : t.leaves ≤ 1000) {μ : Sto} (hs : Sb p q μ) : ∃ w u μ', cl (k + 15) 16 [.loc p, enc t] μ = .ok (.tup (iN w)) μ' ∧ S2 p q μ μ' ∧ t.at? w = some u ∧ w.length ≤ 13 := by
  have h1 : cl (k + 14) 11 [enc t, .tup []] μ = .ok (.lst (pL (t.paths []))) μ := paths_s μ t k 13 [] hf hd (by simp; omega) hl
  have hlen := (t.paths_len []).resolve_right (fun z => z hf)
  have hpos : 0 < (t.paths []).length := by
    cases t <;> simp [T.paths]
  have hle : t.leaves * t.depth ≤ 1000 * 13 := Nat.mul_le_mul hl hd
  obtain ⟨j, μ1, e1, hj, s1⟩ := draw_n (k + 13) hs (m := (t.paths []).length) hpos (by omega)
  have hx : (pL (t.paths []))[j]? = some (.tup (iN ((t.paths [])[j]'hj).1)) := by simp [hj]
  have hix := ix_lst hx μ1
  obtain ⟨r, er, ha⟩ := t.paths_at [] ((t.paths [])[j]'hj).1 ((t.paths [])[j]'hj).2 (List.getElem_mem hj)
  simp only [List.nil_append] at er
  have hdep : ∀ (w : List Nat) (t u : T), t.at? w = some u → w.length + 1 ≤ t.depth := by
    intro w
    induction w with
    | nil => intro t u _; have := t.depth_pos; simp; omega
    | cons i w ih =>
      intro t u h
      simp only [T.at?] at h
      cases hi : t.parts[i]? with
      | none => rw [hi] at h; cases h
      | some v =>
        rw [hi] at h
        have h2 := ih v u h
        have hm : ∀ ts : List T, v ∈ ts → v.depth ≤ depthS ts := by
          intro ts
          induction ts with
          | nil => intro h; cases h
          | cons x r ih2 =>
            intro h
            simp only [depthS]
            rcases List.mem_cons.mp h with rfl | h
            · omega
            · have := ih2 h; omega
        have hv := List.mem_of_getElem? hi
        cases t with
        | not s => simp [T.parts] at hv; subst hv; simp only [T.depth, List.length_cons]; omega
        | gate a ts => have := hm ts hv; simp only [T.depth, List.length_cons]; omega
        | inp _ => simp [T.parts] at hv
        | one => simp [T.parts] at hv
        | zero => simp [T.parts] at hv
  refine ⟨((t.paths [])[j]'hj).1, ((t.paths [])[j]'hj).2, μ1, ?_, s1, by rw [er]; exact ha, by have := hdep _ t _ ha; rw [← er] at this; omega⟩
  have e0 : cl (k + 15) 16 [.loc p, enc t] μ = (xSs gl (cl (k + 14)) b16 [.val (.loc p), .val (enc t), .un] μ).bind (outF false) := rfl
  rw [e0]
  have hlen2 : builtin .len [.lst (pL (t.paths []))] = some (.int (((t.paths []).length : Nat) : Int)) := by simp
  generalize iN ((t.paths [])[j]'hj).1 = WW at hix ⊢
  generalize pL (t.paths []) = PP at h1 hix hlen2
  generalize (((t.paths []).length : Nat) : Int) = LN at e1 hlen2
  generalize enc t = TT at h1 ⊢
  simp only [b16, v_ss1, v_ss0, v_asg, v_call, v_es1, v_es0, v_var, v_tup, List.getElem?_cons_succ, List.getElem?_cons_zero, bind_ok, List.append_nil, v_arr2, h1, back_ok, v_setT, List.set_cons_succ, List.set_cons_zero, v_ret, v_ix, v_bi, hlen2, orO_some, e1, hix, v_out1]
theorem enc_tup (t : T) (hf : t.full) : ∃ xs, enc t = .tup xs ∧ xs.length ≤ 2 ∧ nices xs = true := by
  have := nice_enc t hf
  cases t with
  | inp i => exact ⟨[.str sIn, .int i], by simp [enc], by simp, by simp [nices, nice]⟩
  | one => exact ⟨[.str sOne], by simp [enc], by simp, by simp [nices, nice]⟩
  | zero => exact ⟨[.str sZero], by simp [enc], by simp, by simp [nices, nice]⟩
  | not s => exact ⟨[.str sNot, enc s], by simp [enc], by simp, by simpa [enc, nice] using this⟩
  | gate a ts => exact ⟨[.str (sGate a), .tup (encs ts)], by simp [enc], by simp, by simp only [enc, nice, Bool.and_eq_true] at this; exact this.2⟩
theorem nices_app (a b : List D) : nices (a ++ b) = (nices a && nices b) := by
  induction a with
  | nil => simp [nices]
  | cons x a ih => simp [nices, ih, Bool.and_assoc]
theorem bad_s (k : Nat) {p q : Nat} (u : T) (hu : u.full) {μ : Sto} (hs : Sb p q μ) : ∃ d μ', cl (k + 2) 18 [.loc p, enc u] μ = .ok d μ' ∧ S2 p q μ μ' ∧ nice d = true := by
  obtain ⟨r, μ1, e1, h1, s1⟩ := draw_n k hs (m := 22) (by decide) (by decide)
  obtain ⟨s, μ2, e2, h2, s2⟩ := draw_n k s1.sb (m := 1000000) (by decide) (by decide)
  have e1' : cl (k + 1) 1 [.loc p, .int 22] μ = .ok (.int ((r : Nat) : Int)) μ1 := e1
  have e2' : cl (k + 1) 1 [.loc p, .int 1000000] μ1 = .ok (.int ((s : Nat) : Int)) μ2 := e2
  obtain ⟨xs, ex, lx, nx⟩ := enc_tup u hu
  have e0 : cl (k + 2) 18 [.loc p, enc u] μ = (xSs gl (cl (k + 1)) b18 [.val (.loc p), .val (enc u), .un, .un, .un, .un] μ).bind (outF false) := rfl
  rw [e0, ex]
  have m5 := mod_p (i := ((s : Nat) : Int)) (j := 5) (by decide)
  have f5 := fdiv_p (i := ((s : Nat) : Int)) (j := 5) (by decide) (by decide)
  have m2 := mod_p (i := ((s : Nat) : Int) / 5) (j := 2) (by decide)
  generalize hN : (if decide (((s : Nat) : Int) / 5 % 2 = 0) = true then (0 : Int) else ((s : Nat) : Int)) = N
  generalize hM : ((s : Nat) : Int) % 5 = M at m5
  have lt : ∀ l : List D, builtin .list [.tup l] = some (.lst l) := fun _ => rfl
  have at1 := v_addt xs [.tup [.str [105, 110], .int M]] (by simp; omega)
  have al : ∀ a b : List D, a.length ≤ 100 → b.length ≤ 100 → binop .add (.lst a) (.lst b) = some (.lst (a ++ b)) := fun a b h1 h2 => by
    have : a.length + b.length ≤ 1000000 := by omega
    simp [binop, this]
  let LL : List D := [.non, .int N, .bl true, .str [120, 48], .lst xs, .tup [], .tup (xs ++ [.tup [.str [105, 110], .int M]]), .tup [.str [105, 110], .bl true], .tup [.str [105, 110], .int (5 + N)],
    .tup [.str [105, 110], .int (-1 - N)], .tup [.str [97, 110, 100], .tup []], .tup [.str [111, 114], .lst [.tup [.str [105, 110], .int M]]], .tup [.str [110, 97, 110, 100], .tup [.tup [.str [105, 110], .int M]]], .tup [.str [110, 111, 116]],
    .tup [.str [111, 110, 101], .tup []], .tup [.str [122, 101, 114, 111], .int N], .dic [], .tup [.str [105, 110], .str [48]], .tup [.str [105, 110]], .tup [.str [97, 110, 100], .tup [.str [111, 110, 101]]],
    .tup [.non, .tup [.str [105, 110], .int M]], .tup [.tup [.str [105, 110], .int M], .tup [.str [105, 110], .int M]]]
  have hLL : ∀ d ∈ LL, nice d = true := by
    intro d hd
    have hl3 : xs.length ≤ 999 := by omega
    simp only [LL, List.mem_cons, List.not_mem_nil, or_false] at hd
    rcases hd with rfl | rfl | rfl | rfl | rfl | rfl | rfl | rfl | rfl | rfl | rfl | rfl | rfl | rfl | rfl | rfl | rfl | rfl | rfl | rfl | rfl | rfl <;> simp [nice, nices, nices_app, nx, hl3]
  have hr : r < LL.length := by simp only [LL, List.length_cons, List.length_nil]; omega
  refine ⟨LL[r]'hr, μ2, ?_, s1.trans s2, hLL _ (List.getElem_mem hr)⟩
  have hix : ixR (.lst LL) (.int ((r : Nat) : Int)) μ2 = .ok (LL[r]'hr) μ2 := ix_lst (List.getElem?_eq_getElem hr) μ2
  generalize LL[r]'hr = RES at hix ⊢
  simp only [LL] at hix
  clear hLL hr
  have fin : ∀ γ3 : Sl, γ3 = .val (.int N) → (xSs gl (cl (k + 1)) (b18.drop 4) [.val (.loc p), .val (.tup xs), .val (.int ((r : Nat) : Int)), γ3, .val (.tup [.str [105, 110], .int M]), .un] μ2).bind (outF false) = .ok RES μ2 := by
    intro γ3 h3
    subst h3
    show (xSs gl (cl (k + 1)) [_, _, _, _, _] _ _).bind _ = _
    have a1 := fun a b => al a b
    simp only [v_ss1, v_ss0, v_asg, v_lst, v_es1, v_es0, v_con, v_var, v_tup, v_bi, v_bin, v_neg, v_dsp0, List.getElem?_cons_succ, List.getElem?_cons_zero, bind_ok, lt, orO_some, at1, v_addi, v_subi, v_setT, List.set_cons_succ, List.set_cons_zero]
    rw [al _ _ (by simp) (by simp)]
    simp only [orO_some, bind_ok, List.cons_append, List.nil_append, List.set_cons_succ, List.set_cons_zero, List.getElem?_cons_succ, List.getElem?_cons_zero]
    rw [al _ _ (by simp) (by simp)]
    simp only [orO_some, bind_ok, List.cons_append, List.nil_append, List.set_cons_succ, List.set_cons_zero, List.getElem?_cons_succ, List.getElem?_cons_zero]
    rw [al _ _ (by simp) (by simp)]
    simp only [orO_some, bind_ok, List.cons_append, List.nil_append, List.set_cons_succ, List.set_cons_zero, List.getElem?_cons_succ, List.getElem?_cons_zero, v_ret, v_ix, v_var, hix, v_out1]
  have pre : ∀ rest : List S, ∃ γ3, γ3 = Sl.val (.int N) ∧ xSs gl (cl (k + 1)) (b18.take 4 ++ rest) [.val (.loc p), .val (.tup xs), .un, .un, .un, .un] μ = xSs gl (cl (k + 1)) rest [.val (.loc p), .val (.tup xs), .val (.int ((r : Nat) : Int)), γ3, .val (.tup [.str [105, 110], .int M]), .un] μ2 := by
    intro rest
    refine ⟨_, rfl, ?_⟩
    show xSs gl (cl (k + 1)) (_ :: _ :: _ :: _ :: rest) _ _ = _
    cases hd : decide (((s : Nat) : Int) / 5 % 2 = 0) with
    | true =>
      rw [hd] at hN
      simp only [if_true] at hN
      subst hN
      simp only [v_ss1 gl _ _ _ (.asg _ _), v_ss1 gl _ _ _ (.ite _ _ _), v_ss1 gl _ _ _ _ [], v_ss0, v_asg, v_call, v_es1, v_es0, v_var, v_con, v_tup, v_bin, v_bi, v_int, List.getElem?_cons_succ, List.getElem?_cons_zero, bind_ok, List.append_nil, v_arr2, e1', e2', back_ok, v_setT, List.set_cons_succ, List.set_cons_zero, m5, orO_some, v_if, v_cond, v_cmp, f5, m2, v_eqii, hd, v_tbl, if_true]
    | false =>
      rw [hd] at hN
      simp only [Bool.false_eq_true, if_false] at hN
      subst hN
      simp only [v_ss1 gl _ _ _ (.asg _ _), v_ss1 gl _ _ _ (.ite _ _ _), v_ss1 gl _ _ _ _ [], v_ss0, v_asg, v_call, v_es1, v_es0, v_var, v_con, v_tup, v_bin, v_bi, v_int, List.getElem?_cons_succ, List.getElem?_cons_zero, bind_ok, List.append_nil, v_arr2, e1', e2', back_ok, v_setT, List.set_cons_succ, List.set_cons_zero, m5, orO_some, v_if, v_cond, v_cmp, f5, m2, v_eqii, hd, v_tbl, Bool.false_eq_true, if_false]
  obtain ⟨γ3, h3, e3⟩ := pre (b18.drop 4)
  rw [List.take_append_drop] at e3
  rw [e3]
  exact fin γ3 h3

end Bs.K25
namespace Bs.K25
open Bs

theorem spoiled_s (k : Nat) {p q : Nat} (t : T) (hf : t.full) (hd : t.depth ≤ 13) (hl : t.leaves ≤ 1000) {μ : Sto} (hs : Sb p q μ) : ∃ d μ', cl (k + 17) 20 [.loc p, enc t] μ = .ok d μ' ∧ S2 p q μ μ' ∧ nice d = true := by
  have e0 : cl (k + 17) 20 [.loc p, enc t] μ = (xSs gl (cl (k + 16)) b20 [.val (.loc p), .val (enc t), .un, .un, .un] μ).bind (outF false) := rfl
  obtain ⟨w1, u1, μ1, e1, s1, a1, l1⟩ := dpath_s (k + 1) t hf hd hl hs
  obtain ⟨w2, u2, μ2, e2, s2, a2, l2⟩ := dpath_s (k + 1) t hf hd hl s1.sb
  have e3 : cl (k + 16) 12 [enc t, .tup (iN w1)] μ2 = .ok (enc u1) μ2 := at_s (k + 14) μ2 w1 t u1 a1
  obtain ⟨d1, μ3, e4, s4, n1⟩ := bad_s (k + 14) u1 (at_full w1 t u1 hf a1) s2.sb
  obtain ⟨y1, hy1⟩ := set1_ex d1 w1 t u1 a1
  have ny1 := hy1.nice (nice_enc t hf) n1
  have e5 : cl (k + 16) 17 [enc t, .tup (iN w1), d1] μ3 = .ok y1 μ3 := by
    have := set_s μ3 hy1 (k + 14 - w1.length)
    rw [show k + 14 - w1.length + w1.length + 2 = k + 16 from by omega] at this; exact this
  have e6 : cl (k + 16) 19 [.tup (iN w1), .tup (iN w2)] μ3 = .ok (.bl (apartB w1 w2)) μ3 := apart_s (k + 15) w1 w2 μ3
  have e1' : cl (k + 16) 16 [.loc p, enc t] μ = .ok (.tup (iN w1)) μ1 := e1
  have e2' : cl (k + 16) 16 [.loc p, enc t] μ1 = .ok (.tup (iN w2)) μ2 := e2
  have e4' : cl (k + 16) 18 [.loc p, enc u1] μ2 = .ok d1 μ3 := e4
  have s13 := (s1.trans s2).trans s4
  cases hap : apartB w1 w2 with
  | false =>
    rw [hap] at e6
    refine ⟨y1, μ3, ?_, s13, ny1⟩
    rw [e0]
    generalize iN w1 = W1 at *
    generalize iN w2 = W2 at *
    generalize enc u1 = U1 at *
    generalize enc t = TT at *
    simp only [b20, v_ss1, v_ss0, v_asg, v_call, v_es1, v_es0, v_var, v_con, List.getElem?_cons_succ, List.getElem?_cons_zero, bind_ok, List.append_nil, v_arr2, v_arr3, e1', e2', e3, e4', e5, back_ok, v_setT, List.set_cons_succ, List.set_cons_zero, v_if, v_cond, v_and, e6, v_tbl, Bool.false_eq_true, if_false, v_ret, v_out1]
  | true =>
    rw [hap] at e6
    obtain ⟨x, μ4, e7, h7, s7⟩ := draw_n (k + 15) s4.sb (m := 2) (by decide) (by decide)
    have e7' : cl (k + 16) 1 [.loc p, .int 2] μ3 = .ok (.int ((x : Nat) : Int)) μ4 := e7
    by_cases hx : x = 0
    · subst hx
      have e8 : cl (k + 16) 12 [enc t, .tup (iN w2)] μ4 = .ok (enc u2) μ4 := at_s (k + 14) μ4 w2 t u2 a2
      obtain ⟨d2, μ5, e9, s9, n2⟩ := bad_s (k + 14) u2 (at_full w2 t u2 hf a2) s7.sb
      have e9' : cl (k + 16) 18 [.loc p, enc u2] μ4 = .ok d2 μ5 := e9
      obtain ⟨z2, hz2⟩ := set1_ex d2 w2 t u2 a2
      obtain ⟨y2, hy2⟩ := hy1.apart w2 d2 z2 d2 hz2 hap
      have e10 : cl (k + 16) 17 [y1, .tup (iN w2), d2] μ5 = .ok y2 μ5 := by
        have := set_s μ5 hy2 (k + 14 - w2.length)
        rw [show k + 14 - w2.length + w2.length + 2 = k + 16 from by omega] at this; exact this
      refine ⟨y2, μ5, ?_, (s13.trans s7).trans s9, hy2.nice ny1 n2⟩
      rw [e0]
      have hz : ((0 : Nat) : Int) = 0 := rfl
      rw [hz] at e7'
      have d0 : decide ((0 : Int) = 0) = true := by decide
      generalize iN w1 = W1 at *
      generalize iN w2 = W2 at *
      generalize enc u1 = U1 at *
      generalize enc u2 = U2 at *
      generalize enc t = TT at *
      simp only [b20, v_ss1, v_ss0, v_asg, v_call, v_es1, v_es0, v_var, v_con, List.getElem?_cons_succ, List.getElem?_cons_zero, bind_ok, List.append_nil, v_arr2, v_arr3, e1', e2', e3, e4', e5, back_ok, v_setT, List.set_cons_succ, List.set_cons_zero, v_if, v_cond, v_and, e6, v_tbl, if_true, v_cmp, e7', v_eqii, d0, decide_true, orO_some, e8, e9', e10, v_ret, v_out1]
    · refine ⟨y1, μ4, ?_, s13.trans s7, ny1⟩
      rw [e0]
      have d0 : decide (((x : Nat) : Int) = 0) = false := decide_eq_false (by omega)
      generalize iN w1 = W1 at *
      generalize iN w2 = W2 at *
      generalize enc u1 = U1 at *
      generalize enc t = TT at *
      simp only [b20, v_ss1, v_ss0, v_asg, v_call, v_es1, v_es0, v_var, v_con, List.getElem?_cons_succ, List.getElem?_cons_zero, bind_ok, List.append_nil, v_arr2, v_arr3, e1', e2', e3, e4', e5, back_ok, v_setT, List.set_cons_succ, List.set_cons_zero, v_if, v_cond, v_and, e6, v_tbl, if_true, v_cmp, e7', v_eqii, d0, Bool.false_eq_true, if_false, orO_some, v_ret, v_out1]
theorem nice2 {a b : D} (h1 : nice a = true) (h2 : nice b = true) : nice (.tup [a, b]) = true := by simp [nice, nices, h1, h2]
end Bs.K25
namespace Bs.K25
open Bs

/-! ### is_leaf, parts_of, node_fits -/
theorem is_leaf_s (k : Nat) (t : T) (μ : Sto) : cl (k + 1) 21 [enc t] μ = .ok (.bl t.isLeaf) μ := by
  show (xSs gl (cl k) b21 [.val (enc t)] μ).bind (outF false) = _
  cases t with
  | gate a ts => cases a <;> simp [b21, enc, in_str3, T.isLeaf, sGate]
  | _ => simp [b21, enc, in_str3, T.isLeaf]
theorem parts_of_s (k : Nat) (t : T) (μ : Sto) : cl (k + 2) 22 [enc t] μ = .ok (.tup (encs t.parts)) μ := by
  show (xSs gl (cl (k + 1)) b22 [.val (enc t)] μ).bind (outF false) = _
  have h := is_leaf_s k t μ
  cases t with
  | gate a ts => cases a <;> simp [b22, h, enc, encs, T.isLeaf, T.parts, sGate] <;> simp [enc, T.isLeaf, sGate] at h <;> simp [h]
  | _ => simp [enc, T.isLeaf] at h; simp [b22, h, enc, encs, T.isLeaf, T.parts]
theorem is_number_s (k : Nat) (i : Int) (μ : Sto) : cl (k + 1) 23 [.int i] μ = .ok (.bl true) μ := by
  show (xSs gl (cl k) b23 [.val (.int i)] μ).bind (outF false) = _
  simp [b23]
theorem node_fits_s (k n : Nat) (t : T) (h : t.full) (μ : Sto) : cl (k + 2) 24 [enc t, .int n] μ = .ok (.bl (t.fits n)) μ := by
  show (xSs gl (cl (k + 1)) b24 [.val (enc t), .val (.int n)] μ).bind (outF false) = _
  cases t with
  | inp i => simp [b24, enc, in_str2, is_number_s, T.fits]
  | gate a ts =>
    obtain ⟨h1, _⟩ := h
    have h2 : 0 < (encs ts).length := by rw [encs_map, List.length_map]; exact List.length_pos_iff.mpr h1
    cases a <;> simp [b24, enc, in_str2, T.fits, sGate, h2]
  | _ => simp [b24, enc, in_str2, T.fits]

end Bs.K25
namespace Bs.K25
open Bs

/-! ### exchanged -/
def swc (c : Nat) : Nat := if c = 48 then 49 else 48
theorem exchanged_s (k : Nat) (w : List Nat) (hw : w.length ≤ 1000000) (μ : Sto) : cl (k + 1) 34 [.str w] μ = .ok (.str (w.map swc)) μ := by
  show (xSs gl (cl k) b34 [.val (.str w), .un] μ).bind (outF false) = _
  have g := lc_map1 (fun c => D.str [c]) (fun c => D.str [swc c]) (f := turnC gl (cl k) [.val (.str w), .un] [1] none c34_0) (μ := μ) w (fun c _ acc ha => by
    by_cases h : c = 48 <;> simp [turnC, setTR, c34_0, addL, ha, swc, h]) hw
  have e : (w.map fun c => D.str [swc c]) = chars (w.map swc) := by simp [chars]
  rw [e] at g
  have g' : lcL (turnC gl (cl k) [.val (.str w), .un] [1] none c34_0) (chars w) [] μ = .ok (chars (w.map swc)) μ := g
  have hj := join_chars (w.map swc) (by simpa using hw)
  simp [b34, g', isStr, hj]

end Bs.K25
namespace Bs.K25
open Bs

/-! ### fault_from -/
theorem e_fault (k : Nat) (x y z w : D) (μ : Sto) : cl (k + 1) 25 [x, y, z, w] μ = (xSs gl (cl k) b25 [.val x, .val y, .val z, .val w, .un, .un, .un] μ).bind (outF false) := rfl
mutual
theorem fault_s (n : Nat) (μ : Sto) : ∀ (t : T) (k d : Nat) (path : List D) (lv : Nat), t.full → t.depth ≤ d → path.length + t.depth ≤ 8 → lv + t.leaves ≤ 240 →
    ∃ r, cl (k + d + 3) 25 [enc t, .int n, .tup path, .int lv] μ = .ok r μ ∧ (t.lt n = true → r = .tup [.non, .int ((lv + t.leaves : Nat) : Int)]) ∧ (t.lt n = false → ∃ p l, r = .tup [.tup p, .int l])
  | .inp i, k, d, path, lv, hf, hd, hp, hl => by
    have h8 : ¬ (8 : Int) ≤ path.length := by simp [T.depth] at hp; omega
    have h24 : ¬ (240 : Int) ≤ lv := by simp [T.leaves] at hl; omega
    have h1 := node_fits_s (k + d) n (.inp i) hf μ
    have h2 := is_leaf_s (k + d + 1) (.inp i) μ
    rw [e_fault (k + d + 2)]
    by_cases hn : i < n
    · refine ⟨_, ?_, fun _ => rfl, fun h => by simp [T.lt, hn] at h⟩
      simp [b25, gl, h8, h1, h2, T.fits, hn, T.isLeaf, h24, T.leaves]
    · refine ⟨.tup [.tup path, .int lv], ?_, fun h => by simp [T.lt, hn] at h, fun _ => ⟨path, lv, rfl⟩⟩
      simp [b25, gl, h8, h1, h2, T.fits, hn, T.isLeaf]
  | .one, k, d, path, lv, hf, hd, hp, hl => by
    have h8 : ¬ (8 : Int) ≤ path.length := by simp [T.depth] at hp; omega
    have h24 : ¬ (240 : Int) ≤ lv := by simp [T.leaves] at hl; omega
    have h1 := node_fits_s (k + d) n .one hf μ
    have h2 := is_leaf_s (k + d + 1) .one μ
    rw [e_fault (k + d + 2)]
    refine ⟨_, ?_, fun _ => rfl, fun h => by simp [T.lt] at h⟩
    simp [b25, gl, h8, h1, h2, T.fits, T.isLeaf, h24, T.leaves]
  | .zero, k, d, path, lv, hf, hd, hp, hl => by
    have h8 : ¬ (8 : Int) ≤ path.length := by simp [T.depth] at hp; omega
    have h24 : ¬ (240 : Int) ≤ lv := by simp [T.leaves] at hl; omega
    have h1 := node_fits_s (k + d) n .zero hf μ
    have h2 := is_leaf_s (k + d + 1) .zero μ
    rw [e_fault (k + d + 2)]
    refine ⟨_, ?_, fun _ => rfl, fun h => by simp [T.lt] at h⟩
    simp [b25, gl, h8, h1, h2, T.fits, T.isLeaf, h24, T.leaves]
  | .not t, k, 0, path, lv, hf, hd, hp, hl => by simp [T.depth] at hd
  | .not t, k, d + 1, path, lv, hf, hd, hp, hl => by
    have hdp : t.depth + 1 ≤ d + 1 := hd
    have hpp : path.length + (t.depth + 1) ≤ 8 := hp
    have hll : lv + t.leaves ≤ 240 := hl
    have h8 : ¬ (8 : Int) ≤ path.length := by omega
    have h1 := node_fits_s (k + d + 1) n (.not t) hf μ
    have h2 := is_leaf_s (k + d + 2) (.not t) μ
    have h3 := parts_of_s (k + d + 1) (.not t) μ
    obtain ⟨r, e, r1, r2⟩ := fault_s n μ t k d (path ++ [.int 0]) lv hf (by omega) (by simp; omega) hll
    have ha := v_addt path [.int 0] (by simp; omega)
    show ∃ r, cl (k + d + 3 + 1) _ _ _ = _ ∧ _
    rw [e_fault (k + d + 3)]
    cases hlt : t.lt n with
    | true =>
      have er := r1 hlt
      subst er
      refine ⟨_, ?_, fun _ => rfl, fun h => by simp [T.lt, hlt] at h⟩
      simp [b25, gl, h8, h1, h2, h3, T.fits, T.isLeaf, T.parts, encs, enumL, forL_cons, turn, l25_0, ha, e, T.leaves]
    | false =>
      obtain ⟨p, l, er⟩ := r2 hlt
      subst er
      refine ⟨.tup [.tup p, .int l], ?_, fun h => by simp [T.lt, hlt] at h, fun _ => ⟨p, l, rfl⟩⟩
      simp [b25, gl, h8, h1, h2, h3, T.fits, T.isLeaf, T.parts, encs, enumL, forL_cons, turn, l25_0, ha, e]
  | .gate a ts, k, 0, path, lv, hf, hd, hp, hl => by simp [T.depth] at hd
  | .gate a ts, k, d + 1, path, lv, hf, hd, hp, hl => by
    have hdp : depthS ts + 1 ≤ d + 1 := hd
    have hpp : path.length + (depthS ts + 1) ≤ 8 := hp
    have hll : lv + leavesS ts ≤ 240 := hl
    have h8 : ¬ (8 : Int) ≤ path.length := by omega
    have h1 := node_fits_s (k + d + 1) n (.gate a ts) hf μ
    have h2 := is_leaf_s (k + d + 2) (.gate a ts) μ
    have h3 := parts_of_s (k + d + 1) (.gate a ts) μ
    obtain ⟨fl, e, r1, r2⟩ := fault_l n μ ts k d 0 (enc (.gate a ts)) path lv hf.2.2 (by omega) (by omega) hll
    show ∃ r, cl (k + d + 3 + 1) _ _ _ = _ ∧ _
    rw [e_fault (k + d + 3)]
    cases hlt : ltS n ts with
    | true =>
      have er := r1 hlt
      subst er
      refine ⟨_, ?_, fun _ => rfl, fun h => by simp [T.lt, hlt] at h⟩
      simp [b25, gl, h8, h1, h2, h3, T.fits, T.isLeaf, T.parts, e, T.leaves]
    | false =>
      obtain ⟨p, l, er⟩ := r2 hlt
      subst er
      refine ⟨.tup [.tup p, .int l], ?_, fun h => by simp [T.lt, hlt] at h, fun _ => ⟨p, l, rfl⟩⟩
      simp [b25, gl, h8, h1, h2, h3, T.fits, T.isLeaf, T.parts, e]
theorem fault_l (n : Nat) (μ : Sto) : ∀ (ts : List T) (k d j : Nat) (X : D) (path : List D) (lv : Nat), fullS ts → depthS ts ≤ d → path.length + 1 + depthS ts ≤ 8 → lv + leavesS ts ≤ 240 →
    ∃ fl, forL (turn gl (cl (k + d + 3)) [4, 5] l25_0) [4, 5, 6] (enumL j (encs ts)) [.val X, .val (.int n), .val (.tup path), .val (.int lv), .un, .un, .un] μ = .ok fl μ ∧
      (ltS n ts = true → fl = .nx [.val X, .val (.int n), .val (.tup path), .val (.int ((lv + leavesS ts : Nat) : Int)), .un, .un, .un]) ∧ (ltS n ts = false → ∃ p l, fl = .rt (.tup [.tup p, .int l]))
  | [], k, d, j, X, path, lv, _, _, _, _ => ⟨_, by simp [encs, enumL]; rfl, fun _ => by simp [leavesS], fun h => by simp [ltS] at h⟩
  | t :: r, k, d, j, X, path, lv, hf, hd, hp, hl => by
    have hdm : max t.depth (depthS r) ≤ d := hd
    have hpm : path.length + 1 + max t.depth (depthS r) ≤ 8 := hp
    have hlm : lv + (t.leaves + leavesS r) ≤ 240 := hl
    obtain ⟨q, e, r1, r2⟩ := fault_s n μ t k d (path ++ [.int j]) lv hf.1 (by omega) (by simp; omega) (by omega)
    obtain ⟨fl, e2, s1, s2⟩ := fault_l n μ r k d (j + 1) X path (lv + t.leaves) hf.2 (by omega) (by omega) (by omega)
    have ha := v_addt path [.int j] (by simp; omega)
    show ∃ fl, forL _ _ (.tup [.int j, enc t] :: enumL (j + 1) (encs r)) _ _ = _ ∧ _
    rw [forL_cons]
    cases hlt : t.lt n with
    | true =>
      have er := r1 hlt
      subst er
      have e3 : turn gl (cl (k + d + 3)) [4, 5] l25_0 (.tup [.int j, enc t]) [.val X, .val (.int n), .val (.tup path), .val (.int lv), .un, .un, .un] μ = .ok (.nx [.val X, .val (.int n), .val (.tup path), .val (.int ((lv + t.leaves : Nat) : Int)), .val (.int j), .val (enc t), .val .non]) μ := by
        simp [turn, l25_0, ha, e]
      rw [e3]
      simp only [bind_ok, v_wipe1, v_wipe0, List.set_cons_succ, List.set_cons_zero, List.set_nil]
      refine ⟨fl, e2, fun h => ?_, fun h => s2 (by simpa [ltS, hlt] using h)⟩
      rw [s1 (by simpa [ltS, hlt] using h)]
      simp only [leavesS, Nat.add_assoc]
    | false =>
      obtain ⟨p, l, er⟩ := r2 hlt
      subst er
      have e3 : turn gl (cl (k + d + 3)) [4, 5] l25_0 (.tup [.int j, enc t]) [.val X, .val (.int n), .val (.tup path), .val (.int lv), .un, .un, .un] μ = .ok (.rt (.tup [.tup p, .int l])) μ := by
        simp [turn, l25_0, ha, e]
      rw [e3]
      exact ⟨_, rfl, fun h => by simp [ltS, hlt] at h, fun _ => ⟨p, l, rfl⟩⟩
end
theorem check_tree_s (k n : Nat) (t : T) (hf : t.full) (hd : t.depth ≤ 8) (hl : t.leaves ≤ 240) (hlt : t.lt n = true) (μ : Sto) : cl (k + 12) 26 [enc t, .int n] μ = .ok .non μ := by
  obtain ⟨r, e, r1, _⟩ := fault_s n μ t k 8 [] 0 hf hd (by simpa using hd) (by simpa using hl)
  have er := r1 hlt
  subst er
  show (xSs gl (cl (k + 11)) b26 [.val (enc t), .val (.int n), .un] μ).bind (outF false) = _
  have e' : cl (k + 11) 25 [enc t, .int n, .tup [], .int 0] μ = .ok (.tup [.non, .int ((0 + t.leaves : Nat) : Int)]) μ := e
  simp [b26, e']

end Bs.K25
namespace Bs.K25
open Bs

/-! ### size_of -/
mutual
theorem size_s (μ : Sto) : ∀ (t : T) (k d : Nat), t.full → t.depth ≤ d → cl (k + d + 2) 28 [enc t] μ = .ok (encSz t.sz) μ
  | .inp i, k, d, hf, hd => by
    show (xSs gl (cl (k + d + 1)) b28 [.val (enc (.inp i)), .un, .un, .un] μ).bind (outF false) = _
    simp [b28, is_leaf_s (k + d) (.inp i) μ, T.isLeaf, encSz, T.sz]
  | .one, k, d, hf, hd => by
    show (xSs gl (cl (k + d + 1)) b28 [.val (enc .one), .un, .un, .un] μ).bind (outF false) = _
    simp [b28, is_leaf_s (k + d) .one μ, T.isLeaf, encSz, T.sz]
  | .zero, k, d, hf, hd => by
    show (xSs gl (cl (k + d + 1)) b28 [.val (enc .zero), .un, .un, .un] μ).bind (outF false) = _
    simp [b28, is_leaf_s (k + d) .zero μ, T.isLeaf, encSz, T.sz]
  | .not t, k, 0, hf, hd => by simp [T.depth] at hd
  | .not t, k, d + 1, hf, hd => by
    have hdp : t.depth + 1 ≤ d + 1 := hd
    have ih := size_s μ t k d hf (by omega)
    show (xSs gl (cl (k + d + 2)) b28 [.val (enc (.not t)), .un, .un, .un] μ).bind (outF false) = _
    simp [b28, is_leaf_s (k + d + 1) (.not t) μ, parts_of_s (k + d) (.not t) μ, T.isLeaf, T.parts, encs, lcL, turnC, setTR, c28_0, ih, addL]
    simp [encSz, c28_1, c28_2, T.sz]
    have e1 := sum_i [t.sz.1]
    have e2 := max_i (l := [t.sz.2]) (by simp)
    simp at e1 e2
    simp [e1, e2, mx, maxL]
  | .gate a ts, k, 0, hf, hd => by simp [T.depth] at hd
  | .gate a ts, k, d + 1, hf, hd => by
    have hdp : depthS ts + 1 ≤ d + 1 := hd
    have hlen : (szS ts).length ≤ 1000000 := by rw [szS_len]; have := hf.2.1; omega
    have ih := size_l μ ts k d (enc (.gate a ts)) [] hf.2.2 (by omega) (by simp; have := hf.2.1; omega)
    have g1 := lc_map1 encSz (fun p => D.int p.1) (f := turnC gl (cl (k + d + 2)) [.val (enc (.gate a ts)), .val (.lst ((szS ts).map encSz)), .un, .un] [3] none c28_1) (μ := μ) (szS ts) (fun p _ acc ha => by simp [turnC, setTR, c28_1, encSz, addL, ha]) hlen
    have g2 := lc_map1 encSz (fun p => D.int p.2) (f := turnC gl (cl (k + d + 2)) [.val (enc (.gate a ts)), .val (.lst ((szS ts).map encSz)), .un, .un] [3] none c28_2) (μ := μ) (szS ts) (fun p _ acc ha => by simp [turnC, setTR, c28_2, encSz, addL, ha]) hlen
    have n0 : (szS ts).map (·.2) ≠ [] := by
      intro z
      have := szS_len ts
      simp at z
      rw [z] at this
      exact hf.1 (List.length_eq_zero_iff.mp this.symm)
    have e1 := sum_i ((szS ts).map (·.1))
    have e2 := max_i n0
    rw [List.map_map] at e1 e2
    show (xSs gl (cl (k + d + 2)) b28 [.val (enc (.gate a ts)), .un, .un, .un] μ).bind (outF false) = _
    simp only [List.nil_append] at ih
    have f1 : (fun p : Int × Int => D.int p.1) = D.int ∘ fun x => x.1 := rfl
    have f2 : (fun p : Int × Int => D.int p.2) = D.int ∘ fun x => x.2 := rfl
    rw [f1] at g1
    rw [f2] at g2
    simp [b28, is_leaf_s (k + d + 1) (.gate a ts) μ, parts_of_s (k + d) (.gate a ts) μ, T.isLeaf, T.parts, ih, g1, g2, e1, e2]
    simp [encSz, T.sz]
theorem size_l (μ : Sto) : ∀ (ts : List T) (k d : Nat) (X : D) (acc : List D), fullS ts → depthS ts ≤ d → acc.length + ts.length ≤ 1000000 → lcL (turnC gl (cl (k + d + 2)) [.val X, .un, .un, .un] [2] none c28_0) (encs ts) acc μ = .ok (acc ++ (szS ts).map encSz) μ
  | [], k, d, X, acc, _, _, _ => by simp [encs, lcL, szS]
  | t :: r, k, d, X, acc, hf, hd, hl => by
    have hdm : max t.depth (depthS r) ≤ d := hd
    rw [List.length_cons] at hl
    have i1 := size_s μ t k d hf.1 (by omega)
    have i2 := size_l μ r k d X (acc ++ [encSz t.sz]) hf.2 (by omega) (by simp; omega)
    have ha : acc.length < 1000000 := by omega
    show lcL _ (enc t :: encs r) acc μ = _
    unfold lcL
    have e : turnC gl (cl (k + d + 2)) [.val X, .un, .un, .un] [2] none c28_0 (enc t) acc μ = .ok (acc ++ [encSz t.sz]) μ := by
      simp [turnC, setTR, c28_0, i1, addL, ha]
    rw [e]
    simp only [bind_ok]
    rw [i2]
    simp [szS]
end
end Bs.K25
namespace Bs.K25
open Bs

/-! ### sign_of -/
theorem swc_swp {s : Nat} (h : s = 48 ∨ s = 49) : swc s = swp s := by rcases h with rfl | rfl <;> decide
mutual
theorem sign_s (μ : Sto) (c : List Nat) (hc : Al c) : ∀ (t : T) (k d : Nat), t.full → t.lt c.length = true → t.depth ≤ d → cl (k + d + 2) 35 [enc t, .str c] μ = .ok (.str [t.sgn c]) μ
  | .inp i, k, d, hf, hlt, hd => by
    have hi : i < c.length := by simpa [T.lt] using hlt
    have hx := ix_str (List.getElem?_eq_getElem hi) μ
    show (xSs gl (cl (k + d + 1)) b35 [.val (enc (.inp i)), .val (.str c), .un, .un, .un, .un] μ).bind (outF false) = _
    simp [b35, enc, hx, T.sgn, hi]
  | .one, k, d, hf, hlt, hd => by
    have hlf := is_leaf_s (k + d) .one μ
    show (xSs gl (cl (k + d + 1)) b35 [.val (enc .one), .val (.str c), .un, .un, .un, .un] μ).bind (outF false) = _
    simp [enc] at hlf
    simp [b35, enc, hlf, T.isLeaf, T.sgn]
  | .zero, k, d, hf, hlt, hd => by
    have hlf := is_leaf_s (k + d) .zero μ
    show (xSs gl (cl (k + d + 1)) b35 [.val (enc .zero), .val (.str c), .un, .un, .un, .un] μ).bind (outF false) = _
    simp [enc] at hlf
    simp [b35, enc, hlf, T.isLeaf, T.sgn]
  | .not t, k, 0, hf, hlt, hd => by simp [T.depth] at hd
  | .not t, k, d + 1, hf, hlt, hd => by
    have hdp : t.depth + 1 ≤ d + 1 := hd
    have ih := sign_s μ c hc t k d hf hlt (by omega)
    have hal := t.sgn_al hc hlt
    show (xSs gl (cl (k + d + 2)) b35 [.val (enc (.not t)), .val (.str c), .un, .un, .un, .un] μ).bind (outF false) = _
    have hex := exchanged_s (k + d + 1) [t.sgn c] (by simp) μ
    simp at hex
    by_cases h45 : t.sgn c = 45
    · simp [b35, enc, ih, h45, T.sgn, swp]
    · have hs : swc (t.sgn c) = swp (t.sgn c) := swc_swp (by omega)
      rw [hs] at hex
      simp [b35, enc, ih, h45, T.sgn, hex]
  | .gate a ts, k, 0, hf, hlt, hd => by simp [T.depth] at hd
  | .gate a ts, k, d + 1, hf, hlt, hd => by
    have hdp : depthS ts + 1 ≤ d + 1 := hd
    have hlf := is_leaf_s (k + d + 1) (.gate a ts) μ
    have ih := fun St => sign_l μ c hc ts k d (enc (.gate a ts)) St [] hf.2.2 hlt (by omega) (by simp; have := hf.2.1; omega)
    have hex := exchanged_s (k + d + 1) [str01 a] (by simp) μ
    have hs : swc (str01 a) = str01 (!a) := by cases a <;> decide
    simp [hs] at hex
    have hin := in_chars (str01 a) (sgnS c ts)
    have hin2 := in_chars 45 (sgnS c ts)
    simp only [List.nil_append] at ih
    show (xSs gl (cl (k + d + 2)) b35 [.val (enc (.gate a ts)), .val (.str c), .un, .un, .un, .un] μ).bind (outF false) = _
    cases a with
    | true =>
      simp [enc, sGate] at hlf ih
      simp [str01] at hex hin
      by_cases h1 : 48 ∈ sgnS c ts
      · simp [h1] at hin
        simp [b35, enc, sGate, hlf, T.isLeaf, ih, hin, T.sgn, comb, str01, h1]
      · by_cases h2 : 45 ∈ sgnS c ts
        · simp [h1, h2] at hin hin2
          simp [b35, enc, sGate, hlf, T.isLeaf, ih, hin, hin2, T.sgn, comb, str01, h1, h2]
        · simp [h1, h2] at hin hin2
          simp [b35, enc, sGate, hlf, T.isLeaf, ih, hin, hin2, T.sgn, comb, str01, h1, h2, hex]
    | false =>
      simp [enc, sGate] at hlf ih
      simp [str01] at hex hin
      by_cases h1 : 49 ∈ sgnS c ts
      · simp [h1] at hin
        simp [b35, enc, sGate, hlf, T.isLeaf, ih, hin, T.sgn, comb, str01, h1]
      · by_cases h2 : 45 ∈ sgnS c ts
        · simp [h1, h2] at hin hin2
          simp [b35, enc, sGate, hlf, T.isLeaf, ih, hin, hin2, T.sgn, comb, str01, h1, h2]
        · simp [h1, h2] at hin hin2
          simp [b35, enc, sGate, hlf, T.isLeaf, ih, hin, hin2, T.sgn, comb, str01, h1, h2, hex]
theorem sign_l (μ : Sto) (c : List Nat) (hc : Al c) : ∀ (ts : List T) (k d : Nat) (X St : D) (acc : List D), fullS ts → ltS c.length ts = true → depthS ts ≤ d → acc.length + ts.length ≤ 1000000 → lcL (turnC gl (cl (k + d + 2)) [.val X, .val (.str c), .val St, .un, .un, .un] [5] none c35_0) (encs ts) acc μ = .ok (acc ++ chars (sgnS c ts)) μ
  | [], k, d, X, St, acc, _, _, _, _ => by simp [encs, lcL, sgnS, chars]
  | t :: r, k, d, X, St, acc, hf, hlt, hd, hl => by
    have hdm : max t.depth (depthS r) ≤ d := hd
    rw [List.length_cons] at hl
    have hlt' : (t.lt c.length && ltS c.length r) = true := hlt
    rw [Bool.and_eq_true] at hlt'
    have i1 := sign_s μ c hc t k d hf.1 hlt'.1 (by omega)
    have i2 := sign_l μ c hc r k d X St (acc ++ [.str [t.sgn c]]) hf.2 hlt'.2 (by omega) (by simp; omega)
    have ha : acc.length < 1000000 := by omega
    show lcL _ (enc t :: encs r) acc μ = _
    unfold lcL
    have e : turnC gl (cl (k + d + 2)) [.val X, .val (.str c), .val St, .un, .un, .un] [5] none c35_0 (enc t) acc μ = .ok (acc ++ [.str [t.sgn c]]) μ := by
      simp [turnC, setTR, c35_0, i1, addL, ha]
    rw [e]
    simp only [bind_ok]
    rw [i2]
    simp [sgnS, chars]
end

end Bs.K25
namespace Bs.K25
open Bs

mutual
theorem meas_s (μ : Sto) : ∀ (t : T) (k d : Nat), t.full → t.depth ≤ d → cl (k + d + 1) 13 [enc t] μ = .ok (encSz t.sz) μ
  | .inp i, k, 0, hf, hd => by simp [T.depth] at hd
  | .one, k, 0, hf, hd => by simp [T.depth] at hd
  | .zero, k, 0, hf, hd => by simp [T.depth] at hd
  | .inp i, k, d + 1, hf, hd => by
    show (xSs gl (cl (k + d + 1)) b13 [.val (enc (.inp i)), .un, .un, .un] μ).bind (outF false) = _
    simp [b13, lparts_t (k + d) (.inp i) μ, T.parts, encs, lcL, encSz, T.sz]
  | .one, k, d + 1, hf, hd => by
    show (xSs gl (cl (k + d + 1)) b13 [.val (enc .one), .un, .un, .un] μ).bind (outF false) = _
    simp [b13, lparts_t (k + d) .one μ, T.parts, encs, lcL, encSz, T.sz]
  | .zero, k, d + 1, hf, hd => by
    show (xSs gl (cl (k + d + 1)) b13 [.val (enc .zero), .un, .un, .un] μ).bind (outF false) = _
    simp [b13, lparts_t (k + d) .zero μ, T.parts, encs, lcL, encSz, T.sz]
  | .not t, k, 0, hf, hd => by simp [T.depth] at hd
  | .not t, k, d + 1, hf, hd => by
    have hdp : t.depth + 1 ≤ d + 1 := hd
    have ih := meas_s μ t k d hf (by omega)
    show (xSs gl (cl (k + d + 1)) b13 [.val (enc (.not t)), .un, .un, .un] μ).bind (outF false) = _
    simp [b13, lparts_t (k + d) (.not t) μ, T.parts, encs, lcL, turnC, setTR, c13_0, ih, addL]
    simp [encSz, c13_1, c13_2, T.sz]
    have e1 := sum_i [t.sz.1]
    have e2 := max_i (l := [t.sz.2]) (by simp)
    simp at e1 e2
    simp [e1, e2, mx, maxL]
  | .gate a ts, k, 0, hf, hd => by simp [T.depth] at hd
  | .gate a ts, k, d + 1, hf, hd => by
    have hdp : depthS ts + 1 ≤ d + 1 := hd
    have hlen : (szS ts).length ≤ 1000000 := by rw [szS_len]; have := hf.2.1; omega
    have ih := meas_l μ ts k d (enc (.gate a ts)) [] hf.2.2 (by omega) (by simp; have := hf.2.1; omega)
    have g1 := lc_map1 encSz (fun p => D.int p.1) (f := turnC gl (cl (k + d + 1)) [.val (enc (.gate a ts)), .val (.lst ((szS ts).map encSz)), .un, .un] [3] none c13_1) (μ := μ) (szS ts) (fun p _ acc ha => by simp [turnC, setTR, c13_1, encSz, addL, ha]) hlen
    have g2 := lc_map1 encSz (fun p => D.int p.2) (f := turnC gl (cl (k + d + 1)) [.val (enc (.gate a ts)), .val (.lst ((szS ts).map encSz)), .un, .un] [3] none c13_2) (μ := μ) (szS ts) (fun p _ acc ha => by simp [turnC, setTR, c13_2, encSz, addL, ha]) hlen
    have n0 : (szS ts) ≠ [] := by
      intro z
      have := szS_len ts
      rw [z] at this
      exact hf.1 (List.length_eq_zero_iff.mp this.symm)
    have n1 : (szS ts).map (·.2) ≠ [] := by simpa using n0
    have e1 := sum_i ((szS ts).map (·.1))
    have e2 := max_i n1
    rw [List.map_map] at e1 e2
    show (xSs gl (cl (k + d + 1)) b13 [.val (enc (.gate a ts)), .un, .un, .un] μ).bind (outF false) = _
    simp only [List.nil_append] at ih
    have f1 : (fun p : Int × Int => D.int p.1) = D.int ∘ fun x => x.1 := rfl
    have f2 : (fun p : Int × Int => D.int p.2) = D.int ∘ fun x => x.2 := rfl
    rw [f1] at g1
    rw [f2] at g2
    simp [b13, lparts_t (k + d) (.gate a ts) μ, T.parts, ih, g1, g2, e1, e2, n0]
    simp [encSz, T.sz]
theorem meas_l (μ : Sto) : ∀ (ts : List T) (k d : Nat) (X : D) (acc : List D), fullS ts → depthS ts ≤ d → acc.length + ts.length ≤ 1000000 → lcL (turnC gl (cl (k + d + 1)) [.val X, .un, .un, .un] [2] none c13_0) (encs ts) acc μ = .ok (acc ++ (szS ts).map encSz) μ
  | [], k, d, X, acc, _, _, _ => by simp [encs, lcL, szS]
  | t :: r, k, d, X, acc, hf, hd, hl => by
    have hdm : max t.depth (depthS r) ≤ d := hd
    rw [List.length_cons] at hl
    have i1 := meas_s μ t k d hf.1 (by omega)
    have i2 := meas_l μ r k d X (acc ++ [encSz t.sz]) hf.2 (by omega) (by simp; omega)
    have ha : acc.length < 1000000 := by omega
    show lcL _ (enc t :: encs r) acc μ = _
    unfold lcL
    have e : turnC gl (cl (k + d + 1)) [.val X, .un, .un, .un] [2] none c13_0 (enc t) acc μ = .ok (acc ++ [encSz t.sz]) μ := by
      simp [turnC, setTR, c13_0, i1, addL, ha]
    rw [e]
    simp only [bind_ok]
    rw [i2]
    simp [szS]
end

end Bs.K25
namespace Bs.K25
open Bs

theorem some_size_s (k : Nat) {c : List Nat} (h5 : c.length ≤ 5) (μ : Sto) : cl (k + 1) 33 [.str c] μ = .ok (.int c.length) μ := by
  show (xSs gl (cl k) b33 [.val (.str c)] μ).bind (outF false) = _
  have : (c.length : Int) ≤ 5 := by omega
  simp [b33, gl, this]
theorem fit_s (k : Nat) (s g : List Nat) (n : Int) (μ : Sto) : cl (k + 1) 36 [.str s, .int n, .str g] μ = .ok (.bl (decide ((s.length : Int) = n) && s.all fun c => g.contains c)) μ := fit_yes gl (cl k) s g n μ
theorem is_point_s (k : Nat) (s : List Nat) (h : ∀ x ∈ s, x = 48 ∨ x = 49) (μ : Sto) : cl (k + 2) 37 [.str s, .int s.length] μ = .ok (.bl true) μ := by
  show (xSs gl (cl (k + 1)) b37 [.val (.str s), .val (.int s.length)] μ).bind (outF false) = _
  have ha : (s.all fun c => ([48, 49] : List Nat).contains c) = true := by
    rw [List.all_eq_true]; intro x hx; rcases h x hx with rfl | rfl <;> decide
  have hf := fit_s k s [48, 49] s.length μ
  rw [ha] at hf
  simp at hf
  simp [b37, hf]
theorem at_point_s (k : Nat) (s : List Nat) (h : ∀ x ∈ s, x = 48 ∨ x = 49) (h1 : 1 ≤ s.length) (h5 : s.length ≤ 5) (t : T) (w : WD s.length t) (μ : Sto) : cl (k + 13) 38 [.str s, enc t] μ = .ok (.bl (decide (t.sgn s = 49))) μ := by
  show (xSs gl (cl (k + 12)) b38 [.val (.str s), .val (enc t), .un] μ).bind (outF false) = _
  have hal : Al s := fun x hx => by rcases h x hx with e | e <;> simp [e]
  have e1 := some_size_s (k + 11) h5 μ
  have e2 := is_point_s (k + 10) s h μ
  have e3 := check_tree_s k s.length t w.full w.depth w.leaves w.lt μ
  have e4 := sign_s μ s hal t (k + 2) 8 w.full w.lt w.depth
  have h0 : ¬ (s.length : Int) = 0 := by omega
  have h0' : s ≠ [] := fun z => by rw [z] at h1; simp at h1
  simp [b38, e1, e2, e3, e4, h0']

end Bs.K25
namespace Bs.K25
open Bs

/-- the dict's trees -/
def Has (kvs : List (D × D)) (f : Nat → T) (ls : List Nat) : Prop := ∀ i ∈ ls, getD (.inl ((i : Nat) : Int)) kvs = some (enc (f i))
theorem Has.ix {kvs : List (D × D)} {f : Nat → T} {ls : List Nat} (h : Has kvs f ls) {i : Nat} (hi : i ∈ ls) (μ : Sto) : ixR (.dic kvs) (.int ((i : Nat) : Int)) μ = .ok (enc (f i)) μ := by
  have := h i hi
  simp [ixR, deref, index, keyD, this]
mutual
theorem fill_s (μ : Sto) {kvs : List (D × D)} {f : Nat → T} : ∀ (t : T) (k d : Nat), t.full → t.depth ≤ d → Has kvs f t.lets → cl (k + d + 1) 27 [enc t, .dic kvs] μ = .ok (enc (t.fill f)) μ
  | .inp i, k, 0, hf, hd, _ => by simp [T.depth] at hd
  | .one, k, 0, hf, hd, _ => by simp [T.depth] at hd
  | .zero, k, 0, hf, hd, _ => by simp [T.depth] at hd
  | .not t, k, 0, hf, hd, _ => by simp [T.depth] at hd
  | .gate a ts, k, 0, hf, hd, _ => by simp [T.depth] at hd
  | .inp i, k, d + 1, hf, hd, hh => by
    show (xSs gl (cl (k + d + 1)) b27 [.val (enc (.inp i)), .val (.dic kvs), .un] μ).bind (outF false) = _
    have h1 := is_leaf_t (k + d) (.inp i) μ
    have h2 := hh.ix (i := i) (by simp [T.lets]) μ
    simp only [T.fill]
    generalize enc (f i) = Z at h2 ⊢
    simp [enc, T.isLeaf] at h1
    simp [b27, enc, h1, h2]
  | .one, k, d + 1, hf, hd, hh => by
    show (xSs gl (cl (k + d + 1)) b27 [.val (enc .one), .val (.dic kvs), .un] μ).bind (outF false) = _
    have h1 := is_leaf_t (k + d) .one μ
    simp [enc, T.isLeaf] at h1
    simp [b27, enc, h1, T.fill]
  | .zero, k, d + 1, hf, hd, hh => by
    show (xSs gl (cl (k + d + 1)) b27 [.val (enc .zero), .val (.dic kvs), .un] μ).bind (outF false) = _
    have h1 := is_leaf_t (k + d) .zero μ
    simp [enc, T.isLeaf] at h1
    simp [b27, enc, h1, T.fill]
  | .not t, k, d + 1, hf, hd, hh => by
    have hdp : t.depth + 1 ≤ d + 1 := hd
    have ih := fill_s μ (kvs := kvs) (f := f) t k d hf (by omega) hh
    show (xSs gl (cl (k + d + 1)) b27 [.val (enc (.not t)), .val (.dic kvs), .un] μ).bind (outF false) = _
    have h1 := is_leaf_t (k + d) (.not t) μ
    simp [enc, T.isLeaf] at h1
    simp [b27, enc, h1, ih, T.fill]
  | .gate a ts, k, d + 1, hf, hd, hh => by
    have hdp : depthS ts + 1 ≤ d + 1 := hd
    have ih := fill_l μ (kvs := kvs) (f := f) ts k d (enc (.gate a ts)) [] hf.2.2 (by omega) hh (by simp; have := hf.2.1; omega)
    show (xSs gl (cl (k + d + 1)) b27 [.val (enc (.gate a ts)), .val (.dic kvs), .un] μ).bind (outF false) = _
    have h1 := is_leaf_t (k + d) (.gate a ts) μ
    have htp : ∀ l : List D, builtin .tuple [.lst l] = some (.tup l) := fun _ => rfl
    simp only [T.fill, enc, List.nil_append] at ih h1 ⊢
    generalize encs (fillS f ts) = Z at ih ⊢
    generalize encs ts = EE at ih h1 ⊢
    simp only [T.isLeaf] at h1
    have hs : ∀ s, s = sGate a → (xSs gl (cl (k + d + 1)) b27 [.val (.tup [.str s, .tup EE]), .val (.dic kvs), .un] μ).bind (outF false) = .ok (.tup [.str s, .tup Z]) μ := by
      intro s hs
      have hn : decide (s = [110, 111, 116]) = false := decide_eq_false (by rw [hs]; cases a <;> decide)
      rw [← hs] at ih h1
      simp only [b27, v_ss1, v_ss0, v_if, v_cond, v_call, v_es1, v_es0, v_var, v_con, List.getElem?_cons_succ, List.getElem?_cons_zero, bind_ok, List.append_nil, v_arr1, h1, back_ok, v_tbl, Bool.false_eq_true, if_false, v_cmp, v_ix, tix20, tix21, v_eqss, hn, orO_some, v_ret, v_tup, v_bi, v_lc, v_itt, ih, nox_ok, htp, v_out1]
    exact hs _ rfl
theorem fill_l (μ : Sto) {kvs : List (D × D)} {f : Nat → T} : ∀ (ts : List T) (k d : Nat) (X : D) (acc : List D), fullS ts → depthS ts ≤ d → Has kvs f (letsS ts) → acc.length + ts.length ≤ 1000000 → lcL (turnC gl (cl (k + d + 1)) [.val X, .val (.dic kvs), .un] [2] none c27_0) (encs ts) acc μ = .ok (acc ++ encs (fillS f ts)) μ
  | [], k, d, X, acc, _, _, _, _ => by simp [encs, lcL, fillS]
  | t :: r, k, d, X, acc, hf, hd, hh, hl => by
    have hdm : max t.depth (depthS r) ≤ d := hd
    rw [List.length_cons] at hl
    have i1 := fill_s μ (kvs := kvs) (f := f) t k d hf.1 (by omega) (fun i hi => hh i (by simp [letsS, hi]))
    have i2 := fill_l μ (kvs := kvs) (f := f) r k d X (acc ++ [enc (t.fill f)]) hf.2 (by omega) (fun i hi => hh i (by simp [letsS, hi])) (by simp; omega)
    have ha : acc.length < 1000000 := by omega
    show lcL _ (enc t :: encs r) acc μ = _
    unfold lcL
    have e : turnC gl (cl (k + d + 1)) [.val X, .val (.dic kvs), .un] [2] none c27_0 (enc t) acc μ = .ok (acc ++ [enc (t.fill f)]) μ := by
      generalize enc (t.fill f) = Z at i1 ⊢
      generalize enc t = TT at i1 ⊢
      simp [turnC, setTR, c27_0, i1, addL, ha]
    rw [e]
    simp only [bind_ok]
    rw [i2]
    simp [fillS, encs]
end
theorem check_bad (k : Nat) {d : D} (hn : nice d = true) {p : List D} {lv : Nat} (h : fa 5 8 d [] 0 = (some p, lv)) (μ : Sto) : ∃ γ, cl (k + 12) 26 [d, .int 5] μ = .exc ⟨8, [(87, .tup p)]⟩ γ μ := by
  have e0 : cl (k + 12) 26 [d, .int 5] μ = (xSs gl (cl (k + 11)) b26 [.val d, .val (.int 5), .un] μ).bind (outF false) := rfl
  have hw : cl (k + 11) 25 [d, .int 5, .tup [], .int 0] μ = .ok (encF (fa 5 8 d [] 0)) μ := fault_d 5 μ 8 k d [] 0 hn rfl
  rw [h] at hw
  have n1 : compare .isn (.tup p) .non = some (.bl true) := rfl
  rw [e0]
  refine ⟨[.val d, .val (.int 5), .val (.tup p)], ?_⟩
  simp [b26, hw, encF, n1, R.bind]
theorem put_bad (k : Nat) {d : D} (hn : nice d = true) {p : List D} {lv : Nat} (h : fa 5 8 d [] 0 = (some p, lv)) (kvs : List (D × D)) (μ : Sto) : ∃ γ, cl (k + 13) 30 [d, .dic kvs] μ = .exc ⟨8, [(87, .tup p)]⟩ γ μ := by
  have e0 : cl (k + 13) 30 [d, .dic kvs] μ = (xSs gl (cl (k + 12)) b30 [.val d, .val (.dic kvs), .un] μ).bind (outF false) := rfl
  obtain ⟨γ, hc⟩ := check_bad k hn h μ
  have g5 : gl 2 = some (.int 5) := rfl
  rw [e0]
  refine ⟨[.val d, .val (.dic kvs), .un], ?_⟩
  simp [b30, hc, g5, R.bind, R.back]
/-- what put_in answers to a tree -/
def putA (u : T) (μ : Sto) : R D := if 240 < u.leaves then .exc ⟨28, [(93, .int 240)]⟩ [] μ else if 8 < u.depth then .exc ⟨28, [(93, .int 8)]⟩ [] μ else .ok (enc u) μ
def R.unslot : R D → R D
  | .exc x _ μ => .exc x [] μ
  | r => r
theorem check_size_s (k : Nat) (u : T) (hf : u.full) (hd : u.depth ≤ 16) (μ : Sto) : (240 < u.leaves → ∃ γ, cl (k + 19) 29 [enc u] μ = .exc ⟨28, [(93, .int 240)]⟩ γ μ) ∧ (¬ 240 < u.leaves → 8 < u.depth → ∃ γ, cl (k + 19) 29 [enc u] μ = .exc ⟨28, [(93, .int 8)]⟩ γ μ) ∧ (¬ 240 < u.leaves → ¬ 8 < u.depth → cl (k + 19) 29 [enc u] μ = .ok .non μ) := by
  have e0 : cl (k + 19) 29 [enc u] μ = (xSs gl (cl (k + 18)) b29 [.val (enc u), .un, .un] μ).bind (outF false) := rfl
  have hs : cl (k + 18) 28 [enc u] μ = .ok (encSz u.sz) μ := size_s μ u k 16 hf hd
  rw [sz_eq u hf] at hs
  simp only [encSz] at hs
  have g1 : gl 1 = some (.int 240) := rfl
  have g0 : gl 0 = some (.int 8) := rfl
  rw [e0]
  generalize enc u = UU at hs ⊢
  have a1 : ((240 : Int) < ((u.leaves : Nat) : Int)) = (240 < u.leaves) := by rw [eq_iff_iff]; omega
  have a2 : ((8 : Int) < ((u.depth : Nat) : Int)) = (8 < u.depth) := by rw [eq_iff_iff]; omega
  refine ⟨fun h => ⟨[.val UU, .val (.int ((u.leaves : Nat) : Int)), .val (.int ((u.depth : Nat) : Int))], ?_⟩, fun h h2 => ⟨[.val UU, .val (.int ((u.leaves : Nat) : Int)), .val (.int ((u.depth : Nat) : Int))], ?_⟩, fun h h2 => ?_⟩
  · simp [b29, hs, g1, a1, h, R.bind]
  · simp [b29, hs, g1, g0, a1, h, a2, h2, R.bind]
  · simp [b29, hs, g1, g0, a1, h, a2, h2, outF]
theorem put_s (k : Nat) {t : T} (w : WD 5 t) {kvs : List (D × D)} {f : Nat → T} (hh : Has kvs f t.lets) (hf : ∀ i, (f i).full) (hd : ∀ i, (f i).depth ≤ 8) (μ : Sto) : (240 < (t.fill f).leaves → ∃ γ, cl (k + 20) 30 [enc t, .dic kvs] μ = .exc ⟨28, [(93, .int 240)]⟩ γ μ) ∧ (¬ 240 < (t.fill f).leaves → 8 < (t.fill f).depth → ∃ γ, cl (k + 20) 30 [enc t, .dic kvs] μ = .exc ⟨28, [(93, .int 8)]⟩ γ μ) ∧ (¬ 240 < (t.fill f).leaves → ¬ 8 < (t.fill f).depth → cl (k + 20) 30 [enc t, .dic kvs] μ = .ok (enc (t.fill f)) μ) := by
  have e0 : cl (k + 20) 30 [enc t, .dic kvs] μ = (xSs gl (cl (k + 19)) b30 [.val (enc t), .val (.dic kvs), .un] μ).bind (outF false) := rfl
  have h1 : cl (k + 19) 26 [enc t, .int 5] μ = .ok .non μ := check_tree_s (k + 7) 5 t w.full w.depth w.leaves w.lt μ
  have h2 : cl (k + 19) 27 [enc t, .dic kvs] μ = .ok (enc (t.fill f)) μ := fill_s μ t (k + 10) 8 w.full w.depth hh
  have hfd : (t.fill f).depth ≤ 16 := by
    rw [fill_depth]
    have := fd_le (w := fun i => (f i).depth) (m := 8) (by decide) hd t
    have := w.depth
    omega
  obtain ⟨c1, c2, c3⟩ := check_size_s k (t.fill f) (fill_full hf t w.full) hfd μ
  have g5 : gl 2 = some (.int 5) := rfl
  rw [e0]
  generalize enc (t.fill f) = FF at *
  generalize enc t = TT at *
  refine ⟨fun h => ?_, fun h h' => ?_, fun h h' => ?_⟩
  · obtain ⟨γ, e⟩ := c1 h
    exact ⟨[.val TT, .val (.dic kvs), .val FF], by simp [b30, h1, h2, e, g5, R.bind, R.back]⟩
  · obtain ⟨γ, e⟩ := c2 h h'
    exact ⟨[.val TT, .val (.dic kvs), .val FF], by simp [b30, h1, h2, e, g5, R.bind, R.back]⟩
  · have e := c3 h h'
    simp [b30, h1, h2, e, g5]

end Bs.K25
namespace Bs.K25
open Bs

theorem leafL_s (k : Nat) {p q : Nat} {ls : List Nat} (hl : ls.length ≤ 1000) {μ : Sto} (h : Sb p q μ) : ∃ t μ', cl (k + 2) 3 [.loc p, .lst (iN ls)] μ = .ok (enc t) μ' ∧ S2 p q μ μ' ∧ WL ls 1 t := by
  obtain ⟨r, μ1, e1, h1, s1⟩ := draw_n k h (m := 9) (by decide) (by decide)
  have e1' : cl (k + 1) 1 [.loc p, .int 9] μ = .ok (.int ((r : Nat) : Int)) μ1 := e1
  have e0 : ∀ μ, cl (k + 2) 3 [.loc p, .lst (iN ls)] μ = (xSs gl (cl (k + 1)) b3 [.val (.loc p), .val (.lst (iN ls)), .un] μ).bind (outF false) := fun _ => rfl
  by_cases c0 : r = 0
  · subst c0
    refine ⟨.zero, μ1, ?_, s1, ⟨trivial, by simp [T.lets], by simp [T.depth], by simp [T.leaves]⟩⟩
    rw [e0]
    generalize iN ls = LL
    simp [b3, e1', enc]
  · by_cases c1 : r = 1 ∨ ls = []
    · refine ⟨.one, μ1, ?_, s1, ⟨trivial, by simp [T.lets], by simp [T.depth], by simp [T.leaves]⟩⟩
      rw [e0]
      rcases c1 with rfl | rfl
      · generalize iN ls = LL
        simp [b3, e1', enc]
      · by_cases c2 : r = 1
        · subst c2; simp [b3, e1', enc]
        · have c0' : ¬ (((r : Nat) : Int) = 0) := by omega
          have c2' : ¬ (((r : Nat) : Int) = 1) := by omega
          simp [b3, e1', enc, c0, c0', c2, c2']
    · have hne : ls ≠ [] := fun z => c1 (.inr z)
      have hpos : 0 < ls.length := List.length_pos_iff.mpr hne
      obtain ⟨j, μ2, e2, hj, s2⟩ := draw_n k s1.sb (m := ls.length) hpos (by omega)
      have c0' : ¬ (((r : Nat) : Int) = 0) := by omega
      have c2' : ¬ (((r : Nat) : Int) = 1) := fun z => c1 (.inl (by omega))
      have c3' : ¬ (((ls.length : Nat) : Int) = 0) := by omega
      have hx := ix_iN hj μ2
      have hlt := List.getElem_mem hj
      refine ⟨.inp (ls[j]'hj), μ2, ?_, s1.trans s2, ⟨trivial, by simp [T.lets, hlt], by simp [T.depth], by simp [T.leaves]⟩⟩
      rw [e0]
      have hlen : builtin .len [.lst (iN ls)] = some (.int ((ls.length : Nat) : Int)) := by simp
      generalize iN ls = LL at hx hlen ⊢
      generalize ((ls.length : Nat) : Int) = LN at *
      generalize ls[j]'hj = LJ at *
      have d0 : decide (((r : Nat) : Int) = 0) = false := decide_eq_false c0'
      have d1 : decide (((r : Nat) : Int) = 1) = false := decide_eq_false c2'
      have d2 : decide (LN = 0) = false := decide_eq_false c3'
      simp only [b3, v_ss1, v_ss0, v_asg, v_call, v_es1, v_es0, v_var, v_con, List.getElem?_cons_succ, List.getElem?_cons_zero, bind_ok, List.append_nil, v_arr2, e1', back_ok, v_setT, List.set_cons_succ, List.set_cons_zero, v_if, v_cond, v_cmp, v_eqii, d0, orO_some, v_tbl, Bool.false_eq_true, if_false, v_or, d1, v_bi, hlen, d2, v_ret, v_tup, v_ix, e2, hx, v_out1, enc]
theorem treesL_lc {p q : Nat} {ls : List Nat} {e k : Nat} (ih : ∀ μ, Sb p q μ → ∃ t μ', cl (k + e + 3) 4 [.loc p, .lst (iN ls), .int ((e + 1 : Nat) : Int)] μ = .ok (enc t) μ' ∧ S2 p q μ μ' ∧ WL ls (e + 1) t) (g3 g4 g5 : Sl) : ∀ (xs : List D) (ts : List T) (μ : Sto), Sb p q μ → WLs ls (e + 1) ts → ts.length + xs.length ≤ 1000 →
    ∃ ts' μ', lcL (turnC gl (cl (k + e + 3)) [.val (.loc p), .val (.lst (iN ls)), .val (.int ((e + 1 + 1 : Nat) : Int)), g3, g4, g5, .un] [6] none c4_0) xs (encs ts) μ = .ok (encs ts') μ' ∧ S2 p q μ μ' ∧ WLs ls (e + 1) ts' ∧ ts'.length = ts.length + xs.length
  | [], ts, μ, hs, hw, _ => ⟨ts, μ, rfl, .refl hs, hw, by simp⟩
  | x :: xs, ts, μ, hs, hw, hl => by
    rw [List.length_cons] at hl
    obtain ⟨t, μ1, e1, s1, w1⟩ := ih μ hs
    obtain ⟨ts', μ2, e2, s2, w2, l2⟩ := treesL_lc ih g3 g4 g5 xs (ts ++ [t]) μ1 s1.sb (hw.snoc w1) (by simp; omega)
    refine ⟨ts', μ2, ?_, s1.trans s2, w2, by rw [l2]; simp; omega⟩
    unfold lcL
    have hsub : ((e + 1 + 1 : Nat) : Int) - 1 = ((e + 1 : Nat) : Int) := by omega
    have hacc : (encs ts).length < 1000000 := by rw [encs_len]; omega
    have et : turnC gl (cl (k + e + 3)) [.val (.loc p), .val (.lst (iN ls)), .val (.int ((e + 1 + 1 : Nat) : Int)), g3, g4, g5, .un] [6] none c4_0 x (encs ts) μ = .ok (encs (ts ++ [t])) μ1 := by
      rw [encs_app, show encs [t] = [enc t] from by simp [encs]]
      generalize encs ts = EE at hacc ⊢
      generalize enc t = TT at e1 ⊢
      generalize iN ls = LL at e1 ⊢
      generalize ((e + 1 + 1 : Nat) : Int) = N2 at hsub ⊢
      simp only [turnC, setTR, c4_0, v_wipe1, v_wipe0, v_setT, List.set_cons_succ, List.set_cons_zero, v_c0, bind_ok, if_true, v_call, v_es1, v_es0, v_var, v_bin, v_con, List.getElem?_cons_succ, List.getElem?_cons_zero, v_subi, orO_some, hsub, List.append_nil, v_arr3, e1, back_ok, addL, hacc]
    rw [et]
    exact e2
theorem treeL_s {p q : Nat} {ls : List Nat} (hl : ls.length ≤ 1000) : ∀ (e k : Nat) (μ : Sto), Sb p q μ → ∃ t μ', cl (k + e + 3) 4 [.loc p, .lst (iN ls), .int ((e + 1 : Nat) : Int)] μ = .ok (enc t) μ' ∧ S2 p q μ μ' ∧ WL ls (e + 1) t
  | 0, k, μ, hs => by
    obtain ⟨t, μ1, e1, s1, w1⟩ := leafL_s k hl hs
    refine ⟨t, μ1, ?_, s1, w1⟩
    have e0 : cl (k + 0 + 3) 4 [.loc p, .lst (iN ls), .int ((0 + 1 : Nat) : Int)] μ = (xSs gl (cl (k + 2)) b4 [.val (.loc p), .val (.lst (iN ls)), .val (.int 1), .un, .un, .un, .un] μ).bind (outF false) := rfl
    rw [e0]
    generalize enc t = TT at e1 ⊢
    generalize iN ls = LL at e1 ⊢
    simp [b4, e1]
  | e + 1, k, μ, hs => by
    have e0 : cl (k + (e + 1) + 3) 4 [.loc p, .lst (iN ls), .int ((e + 1 + 1 : Nat) : Int)] μ = (xSs gl (cl (k + e + 3)) b4 [.val (.loc p), .val (.lst (iN ls)), .val (.int ((e + 1 + 1 : Nat) : Int)), .un, .un, .un, .un] μ).bind (outF false) := rfl
    rw [e0]
    have hgt : decide ((1 : Int) < ((e + 1 + 1 : Nat) : Int)) = true := decide_eq_true (by omega)
    have hsub : ((e + 1 + 1 : Nat) : Int) - 1 = ((e + 1 : Nat) : Int) := by omega
    obtain ⟨r, μ1, e1, h1, s1⟩ := draw_n (k + e + 2) hs (m := 8) (by decide) (by decide)
    have e1' : cl (k + e + 3) 1 [.loc p, .int 8] μ = .ok (.int ((r : Nat) : Int)) μ1 := e1
    by_cases c2 : r < 2
    · obtain ⟨t, μ2, e2, s2, w2⟩ := leafL_s (k + e + 1) hl s1.sb
      have e2' : cl (k + e + 3) 3 [.loc p, .lst (iN ls)] μ1 = .ok (enc t) μ2 := e2
      have hd : decide (((r : Nat) : Int) < 2) = true := decide_eq_true (by omega)
      refine ⟨t, μ2, ?_, s1.trans s2, ⟨w2.full, w2.sub, by have := w2.depth; omega, Nat.le_trans w2.leaves (Nat.one_le_pow _ _ (by decide))⟩⟩
      generalize enc t = TT at e2' ⊢
      generalize iN ls = LL at e2' ⊢
      generalize ((e + 1 + 1 : Nat) : Int) = N2 at hgt ⊢
      simp only [b4, v_ss1, v_ss0, v_asg, v_con, bind_ok, v_setT, List.set_cons_succ, List.set_cons_zero, v_if, v_cond, v_cmp, v_var, List.getElem?_cons_succ, List.getElem?_cons_zero, v_gt, hgt, orO_some, v_tbl, if_true, v_call, v_es1, v_es0, List.append_nil, v_arr2, e1', back_ok, v_lt, hd, v_ret, e2', v_out1]
    · have hd : decide (((r : Nat) : Int) < 2) = false := decide_eq_false (by omega)
      by_cases c3 : r = 2
      · obtain ⟨t, μ2, e2, s2, w2⟩ := treeL_s hl e k μ1 s1.sb
        have hd3 : decide (((r : Nat) : Int) = 2) = true := decide_eq_true (by omega)
        refine ⟨.not t, μ2, ?_, s1.trans s2, ⟨w2.full, w2.sub, by have := w2.depth; simp only [T.depth]; omega, ?_⟩⟩
        · simp only [enc]
          generalize enc t = TT at e2 ⊢
          generalize iN ls = LL at e2 ⊢
          generalize ((e + 1 + 1 : Nat) : Int) = N2 at hgt hsub ⊢
          simp only [b4, v_ss1, v_ss0, v_asg, v_con, bind_ok, v_setT, List.set_cons_succ, List.set_cons_zero, v_if, v_cond, v_cmp, v_var, List.getElem?_cons_succ, List.getElem?_cons_zero, v_gt, hgt, orO_some, v_tbl, if_true, v_call, v_es1, v_es0, List.append_nil, v_arr2, v_arr3, e1', back_ok, v_lt, hd, Bool.false_eq_true, if_false, v_eqii, hd3, v_ret, v_tup, v_bin, v_subi, hsub, e2, v_out1]
        · have := w2.leaves
          simp only [T.leaves]
          refine Nat.le_trans this ?_
          exact Nat.pow_le_pow_right (by decide) (by omega)
      · have hd3 : decide (((r : Nat) : Int) = 2) = false := decide_eq_false (by omega)
        obtain ⟨j, μ2, e2, h2, s2⟩ := draw_n (k + e + 2) s1.sb (m := 4) (by decide) (by decide)
        have e2' : cl (k + e + 3) 1 [.loc p, .int 4] μ1 = .ok (.int ((j : Nat) : Int)) μ2 := e2
        obtain ⟨m, m1, m3, em⟩ := pick4 h2 μ2
        have hr2 : ∃ i : Int, ((r : Nat) : Int) - 2 * (((r : Nat) : Int) / 2) = i ∧ 0 ≤ i ∧ i < 2 := ⟨_, rfl, by omega, by omega⟩
        obtain ⟨i, hi, i0, i1⟩ := hr2
        obtain ⟨a, ea⟩ := pick_go i0 i1 μ2
        obtain ⟨ts, μ3, e3, s3, w3, l3⟩ := treesL_lc (fun μ hs => treeL_s hl e k μ hs) (.val (.int ((r : Nat) : Int))) (.val (.int ((m : Nat) : Int))) (.val (.str (sGate a))) (rangeL 0 ((m : Nat) : Int)) [] μ2 s2.sb (WLs.nil _ _) (by simp [rangeL]; omega)
        have l3' : ts.length = m := by rw [l3]; simp [rangeL]
        have hr := rng_nat (n := m) (by omega)
        have e3' : lcL (turnC gl (cl (k + e + 3)) [.val (.loc p), .val (.lst (iN ls)), .val (.int ((e + 1 + 1 : Nat) : Int)), .val (.int ((r : Nat) : Int)), .val (.int ((m : Nat) : Int)), .val (.str (sGate a)), .un] [6] none c4_0) (rangeL 0 ((m : Nat) : Int)) [] μ2 = .ok (encs ts) μ3 := by
          have := e3; simp only [encs] at this; exact this
        refine ⟨.gate a ts, μ3, ?_, (s1.trans s2).trans s3, gate_wl a w3 (fun z => by subst z; simp at l3'; omega) (by omega) (by omega)⟩
        have htp : ∀ l : List D, builtin .tuple [.lst l] = some (.tup l) := fun _ => rfl
        have f2 := fdiv_p (i := ((r : Nat) : Int)) (j := 2) (by decide) (by decide)
        have mm := mul_l (i := 2) (j := ((r : Nat) : Int) / 2) (small_of (by decide) (by decide))
        simp only [enc]
        generalize encs ts = EE at e3' ⊢
        generalize iN ls = LL at e3' ⊢
        generalize rangeL 0 ((m : Nat) : Int) = RR at hr e3'
        generalize ((e + 1 + 1 : Nat) : Int) = N2 at hgt hsub e3' ⊢
        simp only [b4, v_ss1, v_ss0, v_asg, v_con, bind_ok, v_setT, List.set_cons_succ, List.set_cons_zero, v_if, v_cond, v_cmp, v_var, List.getElem?_cons_succ, List.getElem?_cons_zero, v_gt, hgt, orO_some, v_tbl, if_true, v_call, v_es1, v_es0, List.append_nil, v_arr2, e1', back_ok, v_lt, hd, Bool.false_eq_true, if_false, v_eqii, hd3, v_ix, v_lst, e2', em, v_bin, f2, mm, v_subi, hi, ea, v_ret, v_tup, v_bi, v_lc, v_rng1, hr, ofO_s, v_il, e3', nox_ok, htp, v_out1]

end Bs.K25
namespace Bs.K25
open Bs

theorem row_s (k : Nat) {p q : Nat} {ls : List Nat} (hne : ls ≠ []) (hl : ls.length ≤ 1000) (m : Nat) (hm : m ≤ 1000) {μ : Sto} (h : Sb p q μ) : ∃ (a : Bool) (is : List Nat) (μ' : Sto), cl (k + 2) 5 [.loc p, .lst (iN ls), .int ((m : Nat) : Int)] μ = .ok (enc (.gate a (is.map T.inp))) μ' ∧ S2 p q μ μ' ∧ is.length = m ∧ ∀ i ∈ is, i ∈ ls := by
  obtain ⟨r, μ1, e1, h1, s1⟩ := draw_n k h (m := 2) (by decide) (by decide)
  have e1' : cl (k + 1) 1 [.loc p, .int 2] μ = .ok (.int ((r : Nat) : Int)) μ1 := e1
  have hpos : 0 < ls.length := List.length_pos_iff.mpr hne
  obtain ⟨j, μ2, e2, hj, s2⟩ := draw_n k s1.sb (m := ls.length) hpos (by omega)
  obtain ⟨a, ea⟩ := pick_g (i := ((r : Nat) : Int)) (by omega) (by omega) μ1
  refine ⟨a, (List.range m).map fun i => (ls[(j + i) % ls.length]?).getD 0, μ2, ?_, s1.trans s2, by simp, fun i hi => ?_⟩
  · have e0 : cl (k + 2) 5 [.loc p, .lst (iN ls), .int ((m : Nat) : Int)] μ = (xSs gl (cl (k + 1)) b5 [.val (.loc p), .val (.lst (iN ls)), .val (.int ((m : Nat) : Int)), .un, .un, .un] μ).bind (outF false) := rfl
    rw [e0]
    have hlen : builtin .len [.lst (iN ls)] = some (.int ((ls.length : Nat) : Int)) := by simp
    have hr := rng_nat (n := m) hm
    have hrl : rangeL 0 ((m : Nat) : Int) = (List.range m).map fun i : Nat => (.int ((i : Nat) : Int) : D) := by simp [rangeL]
    have hlc : lcL (turnC gl (cl (k + 1)) [.val (.loc p), .val (.lst (iN ls)), .val (.int ((m : Nat) : Int)), .val (.str (sGate a)), .val (.int ((j : Nat) : Int)), .un] [5] none c5_0) ((List.range m).map fun i : Nat => (.int ((i : Nat) : Int) : D)) [] μ2 = .ok ((List.range m).map fun i => enc (.inp ((ls[(j + i) % ls.length]?).getD 0))) μ2 := by
      refine lc_map1 (fun i : Nat => .int ((i : Nat) : Int)) _ (List.range m) (fun i _ acc hacc => ?_) (by simp; omega)
      have hlt : (j + i) % ls.length < ls.length := Nat.mod_lt _ hpos
      have hmod := mod_p (i := ((j : Nat) : Int) + ((i : Nat) : Int)) (j := ((ls.length : Nat) : Int)) (by omega)
      have hcast : (((j : Nat) : Int) + ((i : Nat) : Int)) % ((ls.length : Nat) : Int) = (((j + i) % ls.length : Nat) : Int) := by rw [← Int.natCast_add, ← Int.natCast_emod]
      have hix := ix_iN hlt μ2
      rw [hcast] at hmod
      have hget : (ls[(j + i) % ls.length]?).getD 0 = ls[(j + i) % ls.length] := by rw [List.getElem?_eq_getElem hlt]; rfl
      rw [hget]
      generalize ls[(j + i) % ls.length] = LJ at *
      generalize iN ls = LL at *
      unfold turnC setTR c5_0
      simp only [v_wipe1, v_wipe0, v_setT, List.set_cons_succ, List.set_cons_zero, v_c0, bind_ok, if_true, v_tup, v_es1, v_es0, v_con, v_ix, v_var, v_bin, v_bi, List.getElem?_cons_succ, List.getElem?_cons_zero, v_addi, orO_some, v_int, hlen, hmod, hix, addL, hacc, enc]
    have htp : ∀ l : List D, builtin .tuple [.lst l] = some (.tup l) := fun _ => rfl
    have henc : enc (.gate a (((List.range m).map fun i => (ls[(j + i) % ls.length]?).getD 0).map T.inp)) = .tup [.str (sGate a), .tup ((List.range m).map fun i => enc (.inp ((ls[(j + i) % ls.length]?).getD 0)))] := by
      simp only [enc, encs_map, List.map_map]
      rfl
    rw [henc]
    rw [← hrl] at hlc
    generalize (List.range m).map (fun i => enc (.inp ((ls[(j + i) % ls.length]?).getD 0))) = ZZ at hlc ⊢
    generalize rangeL 0 ((m : Nat) : Int) = RR at hr hlc
    generalize iN ls = LL at *
    simp only [b5, v_ss1, v_ss0, v_asg, v_ix, v_lst, v_es1, v_es0, v_con, v_call, v_var, List.getElem?_cons_succ, List.getElem?_cons_zero, bind_ok, List.append_nil, v_arr2, e1', back_ok, ea, v_setT, List.set_cons_succ, List.set_cons_zero, v_bi, hlen, orO_some, e2, v_ret, v_tup, v_lc, v_rng1, hr, ofO_s, v_il, hlc, nox_ok, htp, v_out1]
  · rw [List.mem_map] at hi
    obtain ⟨x, _, rfl⟩ := hi
    have hlt : (j + x) % ls.length < ls.length := Nat.mod_lt _ hpos
    rw [List.getElem?_eq_getElem hlt]
    exact List.getElem_mem hlt
theorem wrap_l (k : Nat) (A B : Sl) (w : Option Bool) (μ : Sto) : ∀ (xs : List D) (t : T), forL (turn gl (cl k) [4] l6_0) [4] xs [A, .val (enc t), B, .val (.str (wrdT w)), .un] μ = .ok (.nx [A, .val (enc (wrpN w xs.length t)), B, .val (.str (wrdT w)), .un]) μ
  | [], t => by simp [wrpN]
  | x :: xs, t => by
    have ih := wrap_l k A B w μ xs (wrpT w t)
    have et : turn gl (cl k) [4] l6_0 x [A, .val (enc t), B, .val (.str (wrdT w)), .un] μ = .ok (.nx [A, .val (enc (wrpT w t)), B, .val (.str (wrdT w)), .val x]) μ := by
      cases w with
      | none => simp [turn, l6_0, wrpT, wrdT, enc]
      | some a => cases a <;> simp [turn, l6_0, wrpT, wrdT, enc, encs, sGate]
    rw [forL_cons, et]
    simp only [bind_ok, v_wipe1, v_wipe0, List.set_cons_succ, List.set_cons_zero, List.length_cons, wrpN]
    exact ih
theorem wrap_s (k : Nat) {p q : Nat} (t : T) (m : Nat) (hm : m ≤ 1000) {μ : Sto} (h : Sb p q μ) : ∃ w μ', cl (k + 2) 6 [.loc p, enc t, .int ((m : Nat) : Int)] μ = .ok (enc (wrpN w m t)) μ' ∧ S2 p q μ μ' := by
  obtain ⟨r, μ1, e1, h1, s1⟩ := draw_n k h (m := 3) (by decide) (by decide)
  have e1' : cl (k + 1) 1 [.loc p, .int 3] μ = .ok (.int ((r : Nat) : Int)) μ1 := e1
  have hp : ∃ w : Option Bool, ixR (.lst [.str [110, 111, 116], .str [97, 110, 100], .str [111, 114]]) (.int ((r : Nat) : Int)) μ1 = .ok (.str (wrdT w)) μ1 := by
    have : r = 0 ∨ r = 1 ∨ r = 2 := by omega
    rcases this with rfl | rfl | rfl
    · exact ⟨none, rfl⟩
    · exact ⟨some true, rfl⟩
    · exact ⟨some false, rfl⟩
  obtain ⟨w, ew⟩ := hp
  refine ⟨w, μ1, ?_, s1⟩
  have hr := rng_nat (n := m) hm
  have hll : (rangeL 0 ((m : Nat) : Int)).length = m := by simp [rangeL]
  have hl := wrap_l (k + 1) (.val (.loc p)) (.val (.int ((m : Nat) : Int))) w μ1 (rangeL 0 ((m : Nat) : Int)) t
  rw [hll] at hl
  have e0 : cl (k + 2) 6 [.loc p, enc t, .int ((m : Nat) : Int)] μ = (xSs gl (cl (k + 1)) b6 [.val (.loc p), .val (enc t), .val (.int ((m : Nat) : Int)), .un, .un] μ).bind (outF false) := rfl
  rw [e0]
  generalize enc (wrpN w m t) = WW at *
  generalize enc t = TT at *
  generalize rangeL 0 ((m : Nat) : Int) = RR at *
  simp only [b6, v_ss1, v_ss0, v_asg, v_ix, v_lst, v_es1, v_es0, v_con, v_call, v_var, List.getElem?_cons_succ, List.getElem?_cons_zero, bind_ok, List.append_nil, v_arr2, e1', back_ok, ew, v_setT, List.set_cons_succ, List.set_cons_zero, v_for, v_rng1, hr, ofO_s, v_il, hl, v_ret, v_out1]
theorem outer_s (k : Nat) {p q : Nat} {ls : List Nat} (hne : ls ≠ []) (hl : ls.length ≤ 1000) (pk sz : Nat) (h1 : 1 ≤ sz) (h24 : sz ≤ 24) {μ : Sto} (h : Sb p q μ) : ∃ t μ', cl (k + 8) 7 [.loc p, .lst (iN ls), .int ((pk : Nat) : Int), .int ((sz : Nat) : Int)] μ = .ok (enc t) μ' ∧ S2 p q μ μ' ∧ TB ls 8 241 t := by
  have e0 : cl (k + 8) 7 [.loc p, .lst (iN ls), .int ((pk : Nat) : Int), .int ((sz : Nat) : Int)] μ = (xSs gl (cl (k + 7)) b7 [.val (.loc p), .val (.lst (iN ls)), .val (.int ((pk : Nat) : Int)), .val (.int ((sz : Nat) : Int)), .un] μ).bind (outF false) := rfl
  rw [e0]
  by_cases c0 : pk = 0
  · obtain ⟨r, μ1, e1, hr, s1⟩ := draw_n (k + 6) h (m := 3) (by decide) (by decide)
    have e1' : cl (k + 7) 1 [.loc p, .int 3] μ = .ok (.int ((r : Nat) : Int)) μ1 := e1
    have hdiv : 240 / sz ≤ 240 := Nat.div_le_self _ _
    have hdiv2 : 10 ≤ 240 / sz := (Nat.le_div_iff_mul_le (by omega)).mpr (by omega)
    have hf := fdiv_p (i := 240) (j := ((sz : Nat) : Int)) (by omega) (by omega)
    have hc : (240 : Int) / ((sz : Nat) : Int) = ((240 / sz : Nat) : Int) := (Int.natCast_ediv 240 sz).symm
    rw [hc] at hf
    have hmx : builtin .max [.int 1, .int (((240 / sz : Nat) : Int) + ((r : Nat) : Int) - 1)] = some (.int ((240 / sz + r - 1 : Nat) : Int)) := by
      have : ((240 / sz : Nat) : Int) + ((r : Nat) : Int) - 1 > 1 := by omega
      show some (D.int (if ((240 / sz : Nat) : Int) + ((r : Nat) : Int) - 1 > 1 then _ else _)) = _
      rw [if_pos this]
      congr 2
      omega
    obtain ⟨a, is, μ2, e2, s2, l2, m2⟩ := row_s (k + 5) hne hl (240 / sz + r - 1) (by omega) s1.sb
    refine ⟨_, μ2, ?_, s1.trans s2, (row_tb a (is := is) (l := 241) (fun z => by rw [z] at l2; simp at l2; omega) (by omega) (by omega) m2).mono (by decide) (by decide)⟩
    have e2' : cl (k + 7) 5 [.loc p, .lst (iN ls), .int ((240 / sz + r - 1 : Nat) : Int)] μ1 = .ok (enc (.gate a (is.map T.inp))) μ2 := e2
    generalize enc (.gate a (is.map T.inp)) = EE at *
    generalize iN ls = LL at *
    generalize ((240 / sz + r - 1 : Nat) : Int) = MM at *
    generalize ((240 / sz : Nat) : Int) = DD at *
    have hd0 : decide (((pk : Nat) : Int) = 0) = true := decide_eq_true (by omega)
    simp only [b7, v_ss1, v_ss0, v_if, v_cond, v_cmp, v_var, v_con, List.getElem?_cons_succ, List.getElem?_cons_zero, bind_ok, v_eqii, hd0, orO_some, v_tbl, if_true, v_ret, v_call, v_es1, v_es0, v_bi, v_bin, hf, List.append_nil, v_arr2, v_arr3, e1', back_ok, v_addi, v_subi, hmx, e2', v_out1]
  · have hd0 : decide (((pk : Nat) : Int) = 0) = false := decide_eq_false (by omega)
    obtain ⟨t, μ1, e1, s1, w1⟩ := treeL_s (ls := ls) hl 3 (k + 1) μ h
    have e1' : cl (k + 7) 4 [.loc p, .lst (iN ls), .int 4] μ = .ok (enc t) μ1 := e1
    have tb := w1.tb (l := 241) (by decide)
    by_cases c1 : pk = 1
    · obtain ⟨r, μ2, e2, hr, s2⟩ := draw_n (k + 6) s1.sb (m := 5) (by decide) (by decide)
      have e2' : cl (k + 7) 1 [.loc p, .int 5] μ1 = .ok (.int ((r : Nat) : Int)) μ2 := e2
      obtain ⟨w, μ3, e3, s3⟩ := wrap_s (k + 5) t r (by omega) s2.sb
      refine ⟨_, μ3, ?_, s1.trans (s2.trans s3), (wrpN_tb w r tb).mono (by omega) (Nat.le_refl _)⟩
      have e3' : cl (k + 7) 6 [.loc p, enc t, .int ((r : Nat) : Int)] μ2 = .ok (enc (wrpN w r t)) μ3 := e3
      have hd1 : decide (((pk : Nat) : Int) = 1) = true := decide_eq_true (by omega)
      generalize enc (wrpN w r t) = EE at *
      generalize enc t = TT at *
      generalize iN ls = LL at *
      simp only [b7, v_ss1, v_ss0, v_asg, v_if, v_cond, v_cmp, v_var, v_con, List.getElem?_cons_succ, List.getElem?_cons_zero, bind_ok, v_eqii, hd0, hd1, orO_some, v_tbl, if_true, Bool.false_eq_true, if_false, v_ret, v_call, v_es1, v_es0, List.append_nil, v_arr2, v_arr3, e1', e2', e3', back_ok, v_setT, List.set_cons_succ, List.set_cons_zero, v_out1]
    · have hd1 : decide (((pk : Nat) : Int) = 1) = false := decide_eq_false (by omega)
      refine ⟨t, μ1, ?_, s1, tb.mono (by decide) (Nat.le_refl _)⟩
      generalize enc t = TT at *
      generalize iN ls = LL at *
      simp only [b7, v_ss1, v_ss0, v_asg, v_if, v_cond, v_cmp, v_var, v_con, List.getElem?_cons_succ, List.getElem?_cons_zero, bind_ok, v_eqii, hd0, hd1, orO_some, v_tbl, Bool.false_eq_true, if_false, v_ret, v_call, v_es1, v_es0, List.append_nil, v_arr3, e1', back_ok, v_setT, List.set_cons_succ, List.set_cons_zero, v_out1]
theorem inner_s (k : Nat) {p q : Nat} (pk sz n : Nat) (h1 : 1 ≤ sz) (h24 : sz ≤ 24) (n1 : 1 ≤ n) (n3 : n ≤ 3) {μ : Sto} (h : Sb p q μ) : ∃ t μ', cl (k + 8) 15 [.loc p, .int ((pk : Nat) : Int), .int ((sz : Nat) : Int), .int ((n : Nat) : Int)] μ = .ok (enc t) μ' ∧ S2 p q μ μ' ∧ TB (List.range n) 8 24 t := by
  have e0 : cl (k + 8) 15 [.loc p, .int ((pk : Nat) : Int), .int ((sz : Nat) : Int), .int ((n : Nat) : Int)] μ = (xSs gl (cl (k + 7)) b15 [.val (.loc p), .val (.int ((pk : Nat) : Int)), .val (.int ((sz : Nat) : Int)), .val (.int ((n : Nat) : Int)), .un, .un, .un] μ).bind (outF false) := rfl
  rw [e0]
  have hne : List.range n ≠ [] := fun z => by rw [List.range_eq_nil] at z; omega
  have hll : (List.range n).length ≤ 1000 := by simp; omega
  have hr := rng_nat (n := n) (by omega)
  have hrl : rangeL 0 ((n : Nat) : Int) = iN (List.range n) := by simp [rangeL]
  rw [hrl] at hr
  have hlc : lcL (turnC gl (cl (k + 7)) [.val (.loc p), .val (.int ((pk : Nat) : Int)), .val (.int ((sz : Nat) : Int)), .val (.int ((n : Nat) : Int)), .un, .un, .un] [6] none c15_0) (iN (List.range n)) [] μ = .ok (iN (List.range n)) μ := by
    refine lc_map1 (fun i : Nat => .int ((i : Nat) : Int)) (fun i : Nat => .int ((i : Nat) : Int)) (List.range n) (fun i _ acc hacc => ?_) (by omega)
    unfold turnC setTR c15_0
    simp only [v_wipe1, v_wipe0, v_setT, List.set_cons_succ, List.set_cons_zero, v_c0, bind_ok, if_true, v_var, List.getElem?_cons_succ, List.getElem?_cons_zero, addL, hacc]
  by_cases c0 : pk = 0
  · have hd0 : decide (((pk : Nat) : Int) = 0) = true := decide_eq_true (by omega)
    obtain ⟨a, is, μ2, e2, s2, l2, m2⟩ := row_s (k + 5) hne hll sz (by omega) h
    refine ⟨_, μ2, ?_, s2, (row_tb a (is := is) (l := 24) (fun z => by rw [z] at l2; simp at l2; omega) (by omega) (by omega) m2).mono (by decide) (by decide)⟩
    have e2' : cl (k + 7) 5 [.loc p, .lst (iN (List.range n)), .int ((sz : Nat) : Int)] μ = .ok (enc (.gate a (is.map T.inp))) μ2 := e2
    generalize enc (.gate a (is.map T.inp)) = EE at *
    generalize iN (List.range n) = LL at *
    simp only [b15, v_ss1, v_ss0, v_asg, v_lc, v_rng1, v_if, v_cond, v_cmp, v_var, v_con, List.getElem?_cons_succ, List.getElem?_cons_zero, bind_ok, hr, ofO_s, v_il, hlc, nox_ok, v_setT, List.set_cons_succ, List.set_cons_zero, v_eqii, hd0, orO_some, v_tbl, if_true, v_ret, v_call, v_es1, v_es0, List.append_nil, v_arr3, e2', back_ok, v_out1]
  · have hd0 : decide (((pk : Nat) : Int) = 0) = false := decide_eq_false (by omega)
    obtain ⟨t, μ1, e1, s1, w1⟩ := treeL_s (ls := List.range n) hll 2 (k + 2) μ h
    have e1' : cl (k + 7) 4 [.loc p, .lst (iN (List.range n)), .int 3] μ = .ok (enc t) μ1 := e1
    have tb := w1.tb (l := 24) (by decide)
    by_cases c1 : pk = 1
    · obtain ⟨r, μ2, e2, hr2, s2⟩ := draw_n (k + 6) s1.sb (m := 6) (by decide) (by decide)
      have e2' : cl (k + 7) 1 [.loc p, .int 6] μ1 = .ok (.int ((r : Nat) : Int)) μ2 := e2
      obtain ⟨w, μ3, e3, s3⟩ := wrap_s (k + 5) t r (by omega) s2.sb
      refine ⟨_, μ3, ?_, s1.trans (s2.trans s3), (wrpN_tb w r tb).mono (by omega) (Nat.le_refl _)⟩
      have e3' : cl (k + 7) 6 [.loc p, enc t, .int ((r : Nat) : Int)] μ2 = .ok (enc (wrpN w r t)) μ3 := e3
      have hd1 : decide (((pk : Nat) : Int) = 1) = true := decide_eq_true (by omega)
      generalize enc (wrpN w r t) = EE at *
      generalize enc t = TT at *
      generalize iN (List.range n) = LL at *
      simp only [b15, v_ss1, v_ss0, v_asg, v_lc, v_rng1, v_if, v_cond, v_cmp, v_var, v_con, List.getElem?_cons_succ, List.getElem?_cons_zero, bind_ok, hr, ofO_s, v_il, hlc, nox_ok, v_eqii, hd0, hd1, orO_some, v_tbl, if_true, Bool.false_eq_true, if_false, v_ret, v_call, v_es1, v_es0, List.append_nil, v_arr2, v_arr3, e1', e2', e3', back_ok, v_setT, List.set_cons_succ, List.set_cons_zero, v_out1]
    · have hd1 : decide (((pk : Nat) : Int) = 1) = false := decide_eq_false (by omega)
      refine ⟨t, μ1, ?_, s1, tb.mono (by decide) (Nat.le_refl _)⟩
      generalize enc t = TT at *
      generalize iN (List.range n) = LL at *
      simp only [b15, v_ss1, v_ss0, v_asg, v_lc, v_rng1, v_if, v_cond, v_cmp, v_var, v_con, List.getElem?_cons_succ, List.getElem?_cons_zero, bind_ok, hr, ofO_s, v_il, hlc, nox_ok, v_eqii, hd0, hd1, orO_some, v_tbl, Bool.false_eq_true, if_false, v_ret, v_call, v_es1, v_es0, List.append_nil, v_arr3, e1', back_ok, v_setT, List.set_cons_succ, List.set_cons_zero, v_out1]

end Bs.K25
namespace Bs.K25
open Bs

theorem at_lets : ∀ (p : List Nat) (t u : T), t.at? p = some u → ∀ i ∈ u.lets, i ∈ t.lets
  | [], t, u, h, i, hi => by
    simp only [T.at?, Option.some.injEq] at h
    rw [h]; exact hi
  | j :: p, t, u, h, i, hi => by
    simp only [T.at?] at h
    obtain ⟨v, hv, h2⟩ := Option.bind_eq_some_iff.mp h
    have ih := at_lets p v u h2 i hi
    have hm := List.mem_of_getElem? hv
    cases t with
    | not t =>
      simp only [T.parts, List.mem_singleton] at hm
      rw [hm] at ih
      exact ih
    | gate a ts =>
      simp only [T.parts] at hm
      have : ∀ l : List T, v ∈ l → i ∈ letsS l := by
        intro l
        induction l with
        | nil => intro h; cases h
        | cons x r ihl =>
          intro h
          simp only [letsS, List.mem_append]
          rcases List.mem_cons.mp h with rfl | h
          · exact .inl ih
          · exact .inr (ihl h)
      exact this ts hm
    | _ => simp [T.parts] at hm
theorem max_n (a b : Nat) : builtin .max [.int ((a : Nat) : Int), .int ((b : Nat) : Int)] = some (.int ((max a b : Nat) : Int)) := by
  show some (D.int (if ((b : Nat) : Int) > ((a : Nat) : Int) then _ else _)) = _
  by_cases h : ((b : Nat) : Int) > ((a : Nat) : Int)
  · rw [if_pos h]; congr 2; omega
  · rw [if_neg h]; congr 2; omega
theorem due_turn (k : Nat) (t u : T) {kvs : List (D × D)} {f : Nat → T} (hh : Has kvs f t.lets) (hf : ∀ i, (f i).full) (hd : ∀ i, (f i).depth ≤ 8) (p : List Nat) (h : t.at? p = some u) (X : Sl) (L M : Nat) (μ : Sto) : ∃ A B, turn gl (cl (k + 10)) [2] l14_0 (.tup (iN p)) [.val (enc t), .val (.dic kvs), X, .val (.int ((L : Nat) : Int)), .val (.int ((M : Nat) : Int)), .un, .un] μ = .ok (.nx [.val (enc t), .val (.dic kvs), .val (.tup (iN p)), .val (.int ((L + wtL (fun i => (f i).leaves) u : Nat) : Int)), .val (.int ((max M (p.length + wtD (fun i => (f i).depth) u) : Nat) : Int)), A, B]) μ := by
  have ha : cl (k + 10) 12 [enc t, .tup (iN p)] μ = .ok (enc u) μ := at_s (k + 8) μ p t u h
  have hlen : builtin .len [.tup (iN p)] = some (.int ((p.length : Nat) : Int)) := by simp
  have key : ∀ (l d : Nat) (eu : D), eu = enc u → l = wtL (fun i => (f i).leaves) u → d = wtD (fun i => (f i).depth) u →
      (∀ rest : List S, ∃ B, xSs gl (cl (k + 10)) (.asg [6] (.tup [(.con (.int 0)), (.con (.int 1))]) :: .ite (.cmp .eq (.ix (.var 5) (.con (.int 0))) (.con (.str [105, 110]))) [.asg [6] (.call 13 [(.ix (.var 1) (.ix (.var 5) (.con (.int 1))))] [] [0])] [.ite (.or (.cmp .eq (.ix (.var 5) (.con (.int 0))) (.con (.str [111, 110, 101]))) (.cmp .eq (.ix (.var 5) (.con (.int 0))) (.con (.str [122, 101, 114, 111])))) [.asg [6] (.tup [(.con (.int 1)), (.con (.int 1))])] []] :: rest) [.val (enc t), .val (.dic kvs), .val (.tup (iN p)), .val (.int ((L : Nat) : Int)), .val (.int ((M : Nat) : Int)), .val eu, .un] μ = xSs gl (cl (k + 10)) rest [.val (enc t), .val (.dic kvs), .val (.tup (iN p)), .val (.int ((L : Nat) : Int)), .val (.int ((M : Nat) : Int)), .val eu, B] μ ∧ B = .val (.tup [.int ((l : Nat) : Int), .int ((d : Nat) : Int)])) := by
    intro l d eu e1 e2 e3 rest
    refine ⟨_, ?_, rfl⟩
    generalize enc t = TT
    generalize iN p = PP
    cases u with
    | inp i =>
      have hi : i ∈ t.lets := at_lets p t _ h i (by simp [T.lets])
      have h1 := hh.ix hi μ
      have h2 : cl (k + 10) 13 [enc (f i)] μ = .ok (encSz (f i).sz) μ := meas_s μ (f i) (k + 1) 8 (hf i) (hd i)
      rw [sz_eq _ (hf i)] at h2
      simp only [encSz] at h2
      simp only [wtL] at e2
      simp only [wtD] at e3
      subst e2 e3
      simp only [enc] at e1
      subst e1
      generalize enc (f i) = FF at *
      simp [h1, h2]
    | one => simp only [wtL] at e2; simp only [wtD] at e3; simp only [enc] at e1; subst e1 e2 e3; simp
    | zero => simp only [wtL] at e2; simp only [wtD] at e3; simp only [enc] at e1; subst e1 e2 e3; simp
    | not v =>
      simp only [wtL] at e2; simp only [wtD] at e3; simp only [enc] at e1
      subst e2 e3
      generalize enc v = VV at e1
      subst e1
      simp
    | gate a ts =>
      simp only [wtL] at e2; simp only [wtD] at e3; simp only [enc] at e1
      subst e2 e3
      generalize encs ts = VV at e1
      subst e1
      cases a <;> simp [sGate]
  obtain ⟨B, e, hB⟩ := key _ _ _ rfl rfl rfl [.asg [3] (.bin .add (.var 3) (.ix (.var 6) (.con (.int 0)))), .asg [4] (.bi .max [(.var 4), (.bin .add (.bi .len [(.var 2)]) (.ix (.var 6) (.con (.int 1))))])]
  refine ⟨.val (enc u), B, ?_⟩
  subst hB
  have hm := max_n M (p.length + wtD (fun i => (f i).depth) u)
  generalize wtL (fun i => (f i).leaves) u = l at *
  generalize wtD (fun i => (f i).depth) u = d at *
  have a1 : ((L : Nat) : Int) + ((l : Nat) : Int) = ((L + l : Nat) : Int) := by omega
  have a2 : ((p.length : Nat) : Int) + ((d : Nat) : Int) = ((p.length + d : Nat) : Int) := by omega
  unfold turn l14_0
  simp only [v_setT, List.set_cons_succ, List.set_cons_zero]
  rw [v_ss1, v_asg]
  simp only [v_call, v_es1, v_es0, v_var, List.getElem?_cons_succ, List.getElem?_cons_zero, bind_ok, List.append_nil, v_arr2, ha, back_ok, v_setT, List.set_cons_succ, List.set_cons_zero]
  rw [e]
  simp only [v_ss1, v_ss0, v_asg, v_bin, v_bi, v_es1, v_es0, v_var, v_con, v_ix, List.getElem?_cons_succ, List.getElem?_cons_zero, bind_ok, tix20, tix21, v_addi, a1, orO_some, v_setT, List.set_cons_succ, List.set_cons_zero, hlen, a2, hm]
theorem due_l (k : Nat) (t : T) {kvs : List (D × D)} {f : Nat → T} (hh : Has kvs f t.lets) (hf : ∀ i, (f i).full) (hd : ∀ i, (f i).depth ≤ 8) (μ : Sto) : ∀ (qs : List (List Nat × T)) (X : Sl) (L M : Nat), (∀ q ∈ qs, t.at? q.1 = some q.2) →
    ∃ X', forL (turn gl (cl (k + 10)) [2] l14_0) [2, 5, 6] (pL qs) [.val (enc t), .val (.dic kvs), X, .val (.int ((L : Nat) : Int)), .val (.int ((M : Nat) : Int)), .un, .un] μ = .ok (.nx [.val (enc t), .val (.dic kvs), X', .val (.int ((L + (qs.map fun q => wtL (fun i => (f i).leaves) q.2).sum : Nat) : Int)), .val (.int ((qs.foldl (mxW fun i => (f i).depth) M : Nat) : Int)), .un, .un]) μ
  | [], X, L, M, _ => ⟨X, by simp [pL]⟩
  | (p, u) :: qs, X, L, M, h => by
    obtain ⟨A, B, e⟩ := due_turn k t u hh hf hd p (h _ List.mem_cons_self) X L M μ
    obtain ⟨X', ih⟩ := due_l k t hh hf hd μ qs .un (L + wtL (fun i => (f i).leaves) u) (max M (p.length + wtD (fun i => (f i).depth) u)) (fun q hq => h q (List.mem_cons_of_mem _ hq))
    refine ⟨X', ?_⟩
    show forL _ _ (.tup (iN p) :: pL qs) _ _ = _
    rw [forL_cons, e]
    simp only [bind_ok, v_wipe1, v_wipe0, List.set_cons_succ, List.set_cons_zero, List.map_cons, List.sum_cons, List.foldl_cons, mxW]
    rw [← Nat.add_assoc]
    exact ih
abbrev sTreeW : List Nat := [116, 114, 101, 101]
abbrev sLim : List Nat := [108, 105, 109, 105, 116]
/-- what is due of a tree -/
def dueT (u : T) : D := if 240 < u.leaves then .tup [.str sLim, .int 240] else if 8 < u.depth then .tup [.str sLim, .int 8] else .non
theorem due_ok (k : Nat) {t : T} (w : WD 5 t) {lv : Nat} (hfa : fa 5 8 (enc t) [] 0 = (none, lv)) {kvs : List (D × D)} {f : Nat → T} (hh : Has kvs f t.lets) (hf : ∀ i, (f i).full) (hd : ∀ i, (f i).depth ≤ 8) (μ : Sto) : (cl (k + 21) 14 [enc t, .dic kvs] μ).All (fun r μ' => r = dueT (t.fill f) ∧ Frm [] μ μ') Wn := by
  have e0 : cl (k + 21) 14 [enc t, .dic kvs] μ = (xSs gl (cl (k + 20)) b14 [.val (enc t), .val (.dic kvs), .un, .un, .un, .un, .un] μ).bind (outF false) := rfl
  have hw : (cl (k + 20) 10 [enc t, .int 5] μ).All (fun r μ' => r = encO (fa 5 8 (enc t) [] 0).1 ∧ Frm [] μ μ') Wn := wrong_s (k + 18) 5 (enc t) (nice_enc t w.full) μ
  rw [hfa] at hw
  have hl := w.leaves
  have hdp := w.depth
  have hp : ∀ μ, cl (k + 20) 11 [enc t, .tup []] μ = .ok (.lst (pL (t.paths []))) μ := fun μ => paths_s μ t (k + 11) 8 [] w.full w.depth (by simp; omega) (by omega)
  have hdu := fun μ => due_l (k + 10) t hh hf hd μ (t.paths []) (.val .non) 0 0 (fun q hq => by
    obtain ⟨r, e1, e2⟩ := T.paths_at t [] q.1 q.2 hq
    rw [List.nil_append] at e1
    rw [e1]; exact e2)
  have s1 := paths_sum (fun i => (f i).leaves) t []
  have s2 := paths_max (fun i => (f i).depth) (fun i => T.depth_pos (f i)) t [] 0
  rw [e0]
  unfold dueT
  rw [fill_leaves, fill_depth]
  rw [s1] at hdu
  rw [s2] at hdu
  simp only [Nat.zero_add, List.length_nil, Nat.zero_max] at hdu
  clear s1 s2 e0 hfa
  generalize T.fl (fun i => (f i).leaves) t = L at *
  generalize T.fd (fun i => (f i).depth) t = M at *
  generalize pL (t.paths []) = PP at *
  generalize enc t = TT at *
  have hdu' : ∀ μ, ∃ X', forL (turn gl (cl (k + 20)) [2] l14_0) [2, 5, 6] PP [.val TT, .val (.dic kvs), .val .non, .val (.int 0), .val (.int 0), .un, .un] μ = .ok (.nx [.val TT, .val (.dic kvs), X', .val (.int ((L : Nat) : Int)), .val (.int ((M : Nat) : Int)), .un, .un]) μ := hdu
  clear hdu
  generalize cl (k + 20) = CL at *
  rw [b14, v_ss1]
  simp only [v_asg, v_call, v_es1, v_es0, v_var, v_con, List.getElem?_cons_succ, List.getElem?_cons_zero, bind_ok, List.append_nil, v_arr2, bind_assoc]
  refine all_call hw fun r μ' hr => ?_
  obtain ⟨rfl, hfr⟩ := hr
  have n1 : compare .isn .non .non = some (.bl false) := rfl
  obtain ⟨X', hdu⟩ := hdu' μ'
  simp only [encO, bind_ok, v_setT, List.set_cons_succ, List.set_cons_zero]
  rw [v_ss1, v_if, v_cond]
  simp only [v_cmp, v_var, v_con, List.getElem?_cons_succ, List.getElem?_cons_zero, bind_ok, n1, orO_some, v_tbl, Bool.false_eq_true, if_false, v_ss0]
  rw [v_ss1, v_asg]
  simp only [v_con, bind_ok, v_setT, List.set_cons_succ, List.set_cons_zero]
  rw [v_ss1, v_asg]
  simp only [v_con, bind_ok, v_setT, List.set_cons_succ, List.set_cons_zero]
  rw [v_ss1, v_for]
  simp only [v_call, v_es1, v_es0, v_var, v_tup, List.getElem?_cons_succ, List.getElem?_cons_zero, bind_ok, List.append_nil, v_arr2, hp, back_ok, v_il, hdu]
  have a1 : ((240 : Int) < ((L : Nat) : Int)) = (240 < L) := by rw [eq_iff_iff]; omega
  have a2 : ((8 : Int) < ((M : Nat) : Int)) = (8 < M) := by rw [eq_iff_iff]; omega
  by_cases c1 : 240 < L
  · rw [if_pos c1]
    rw [v_ss1, v_if, v_cond]
    simp only [v_cmp, v_var, v_con, List.getElem?_cons_succ, List.getElem?_cons_zero, bind_ok, v_gt, a1, c1, decide_true, orO_some, v_tbl, if_true, v_ss1, v_ret, v_tup, v_es1, v_es0, v_out1]
    exact all_is ⟨rfl, hfr⟩
  · rw [if_neg c1]
    rw [v_ss1, v_if, v_cond]
    simp only [v_cmp, v_var, v_con, List.getElem?_cons_succ, List.getElem?_cons_zero, bind_ok, v_gt, a1, c1, decide_false, orO_some, v_tbl, Bool.false_eq_true, if_false, v_ss0]
    rw [v_ss1, v_if, v_cond]
    by_cases c2 : 8 < M
    · rw [if_pos c2]
      simp only [v_cmp, v_var, v_con, List.getElem?_cons_succ, List.getElem?_cons_zero, bind_ok, v_gt, a2, c2, decide_true, orO_some, v_tbl, if_true, v_ss1, v_ret, v_tup, v_es1, v_es0, v_out1]
      exact all_is ⟨rfl, hfr⟩
    · rw [if_neg c2]
      simp only [v_cmp, v_var, v_con, List.getElem?_cons_succ, List.getElem?_cons_zero, bind_ok, v_gt, a2, c2, decide_false, orO_some, v_tbl, Bool.false_eq_true, if_false, v_ss0, v_ss1, v_ret, v_out1]
      exact all_is ⟨rfl, hfr⟩
theorem due_bad (k : Nat) {d : D} (hn : nice d = true) {p : List D} {lv : Nat} (hfa : fa 5 8 d [] 0 = (some p, lv)) (kvs : List (D × D)) (μ : Sto) : (cl (k + 21) 14 [d, .dic kvs] μ).All (fun r μ' => r = .tup [.str sTreeW, .tup p] ∧ Frm [] μ μ') Wn := by
  have e0 : cl (k + 21) 14 [d, .dic kvs] μ = (xSs gl (cl (k + 20)) b14 [.val d, .val (.dic kvs), .un, .un, .un, .un, .un] μ).bind (outF false) := rfl
  have hw : (cl (k + 20) 10 [d, .int 5] μ).All (fun r μ' => r = encO (fa 5 8 d [] 0).1 ∧ Frm [] μ μ') Wn := wrong_s (k + 18) 5 d hn μ
  rw [hfa] at hw
  rw [e0]
  generalize cl (k + 20) = CL at *
  rw [b14, v_ss1]
  simp only [v_asg, v_call, v_es1, v_es0, v_var, v_con, List.getElem?_cons_succ, List.getElem?_cons_zero, bind_ok, List.append_nil, v_arr2, bind_assoc]
  refine all_call hw fun r μ' hr => ?_
  obtain ⟨rfl, hfr⟩ := hr
  have n1 : compare .isn (.tup p) .non = some (.bl true) := rfl
  simp only [encO, bind_ok, v_setT, List.set_cons_succ, List.set_cons_zero]
  rw [v_ss1, v_if, v_cond]
  simp only [v_cmp, v_var, v_con, List.getElem?_cons_succ, List.getElem?_cons_zero, bind_ok, n1, orO_some, v_tbl, if_true, v_ss1, v_ret, v_tup, v_es1, v_es0, v_out1]
  exact all_is ⟨rfl, hfr⟩

end Bs.K25
namespace Bs.K25
open Bs

mutual
theorem isf_s (μ : Sto) {kvs : List (D × D)} {f : Nat → T} (hd8 : ∀ i, (f i).depth ≤ 8) : ∀ (t : T) (k d : Nat), t.full → t.depth ≤ d → Has kvs f t.lets → cl (k + d + 1) 31 [enc t, enc (t.fill f), .dic kvs] μ = .ok (.bl true) μ
  | .inp i, k, 0, hf, hd, _ => by simp [T.depth] at hd
  | .one, k, 0, hf, hd, _ => by simp [T.depth] at hd
  | .zero, k, 0, hf, hd, _ => by simp [T.depth] at hd
  | .not t, k, 0, hf, hd, _ => by simp [T.depth] at hd
  | .gate a ts, k, 0, hf, hd, _ => by simp [T.depth] at hd
  | .inp i, k, d + 1, hf, hd, hh => by
    show (xSs gl (cl (k + d + 1)) b31 [.val (enc (.inp i)), .val (enc (f i)), .val (.dic kvs), .un, .un] μ).bind (outF false) = _
    have h1 := hh.ix (i := i) (by simp [T.lets]) μ
    have h2 := cmp_enc (f i) (by have := hd8 i; omega)
    generalize enc (f i) = FF at *
    simp [b31, enc, h1, h2]
  | .one, k, d + 1, hf, hd, hh => by
    show (xSs gl (cl (k + d + 1)) b31 [.val (enc .one), .val (enc .one), .val (.dic kvs), .un, .un] μ).bind (outF false) = _
    have h2 := cmp_enc .one (by simp [T.depth])
    simp only [enc] at h2
    simp [b31, enc, h2]
  | .zero, k, d + 1, hf, hd, hh => by
    show (xSs gl (cl (k + d + 1)) b31 [.val (enc .zero), .val (enc .zero), .val (.dic kvs), .un, .un] μ).bind (outF false) = _
    have h2 := cmp_enc .zero (by simp [T.depth])
    simp only [enc] at h2
    simp [b31, enc, h2]
  | .not t, k, d + 1, hf, hd, hh => by
    have hdp : t.depth + 1 ≤ d + 1 := hd
    have ih := isf_s μ (kvs := kvs) (f := f) hd8 t k d hf (by omega) hh
    show (xSs gl (cl (k + d + 1)) b31 [.val (enc (.not t)), .val (enc (.not (t.fill f))), .val (.dic kvs), .un, .un] μ).bind (outF false) = _
    simp only [enc]
    generalize enc (t.fill f) = FF at *
    generalize enc t = TT at *
    simp [b31, ih]
  | .gate a ts, k, d + 1, hf, hd, hh => by
    have hdp : depthS ts + 1 ≤ d + 1 := hd
    have ih := isf_l μ (kvs := kvs) (f := f) hd8 ts k d (.val (enc (.gate a ts))) (.val (enc (.gate a (fillS f ts)))) [] hf.2.2 (by omega) hh (by simp; have := hf.2.1; omega)
    show (xSs gl (cl (k + d + 1)) b31 [.val (enc (.gate a ts)), .val (enc (.gate a (fillS f ts))), .val (.dic kvs), .un, .un] μ).bind (outF false) = _
    have hal := all_bl (ts.map fun _ => true)
    have hall : (ts.map fun _ => true).all id = true := by simp
    rw [hall] at hal
    have hlen : (encs (fillS f ts)).length = (encs ts).length := by rw [encs_len, encs_len, fillS_len]
    simp only [enc, List.nil_append] at ih ⊢
    generalize encs (fillS f ts) = ZZ at *
    generalize encs ts = EE at *
    have hs : ∀ s, s = sGate a → (xSs gl (cl (k + d + 1)) b31 [.val (.tup [.str s, .tup EE]), .val (.tup [.str s, .tup ZZ]), .val (.dic kvs), .un, .un] μ).bind (outF false) = .ok (.bl true) μ := by
      intro s hs
      have n1 : decide (s = [105, 110]) = false := decide_eq_false (by rw [hs]; cases a <;> decide)
      have n2 : decide (s = [111, 110, 101]) = false := decide_eq_false (by rw [hs]; cases a <;> decide)
      have n3 : decide (s = [122, 101, 114, 111]) = false := decide_eq_false (by rw [hs]; cases a <;> decide)
      have n4 : decide (s = [110, 111, 116]) = false := decide_eq_false (by rw [hs]; cases a <;> decide)
      rw [← hs] at ih
      have l2 : ∀ x y : D, builtin .len [.tup [x, y]] = some (.int 2) := fun _ _ => rfl
      rw [b31, v_ss1, v_if, v_cond]
      simp only [v_cmp, v_ix, v_var, v_con, List.getElem?_cons_succ, List.getElem?_cons_zero, bind_ok, tix20, v_eqss, n1, orO_some, v_tbl, Bool.false_eq_true, if_false, v_ss0]
      rw [v_ss1, v_if, v_cond]
      simp only [v_or, v_cmp, v_ix, v_var, v_con, List.getElem?_cons_succ, List.getElem?_cons_zero, bind_ok, tix20, v_eqss, n2, n3, orO_some, v_tbl, Bool.false_eq_true, if_false, v_ss0]
      rw [v_ss1, v_if, v_cond]
      simp only [v_or, v_not, v_isi, v_bi, v_es1, v_es0, l2, v_cmp, v_ix, v_var, v_con, List.getElem?_cons_succ, List.getElem?_cons_zero, bind_ok, tix20, v_isitup, Option.map_some, v_neii, v_ness, decide_true, Bool.not_true, orO_some, v_tbl, Bool.false_eq_true, if_false, v_ss0]
      rw [v_ss1, v_if, v_cond]
      simp only [v_cmp, v_ix, v_var, v_con, List.getElem?_cons_succ, List.getElem?_cons_zero, bind_ok, tix20, v_eqss, n4, orO_some, v_tbl, Bool.false_eq_true, if_false, v_ss0]
      rw [v_ss1, v_if, v_cond]
      simp only [v_or, v_not, v_isi, v_bi, v_es1, v_es0, v_lent, v_cmp, v_ix, v_var, v_con, List.getElem?_cons_succ, List.getElem?_cons_zero, bind_ok, tix21, v_isitup, Option.map_some, v_neii, hlen, decide_true, Bool.not_true, orO_some, v_tbl, Bool.false_eq_true, if_false, v_ss0]
      simp only [v_ss1, v_ret, v_bi, v_es1, v_es0, v_lc, v_zip, v_ix, v_var, v_con, List.getElem?_cons_succ, List.getElem?_cons_zero, bind_ok, tix21, v_it, v_il, ih, nox_ok, hal, orO_some, v_out1]
    exact hs _ rfl
theorem isf_l (μ : Sto) {kvs : List (D × D)} {f : Nat → T} (hd8 : ∀ i, (f i).depth ≤ 8) : ∀ (ts : List T) (k d : Nat) (X Y : Sl) (acc : List D), fullS ts → depthS ts ≤ d → Has kvs f (letsS ts) → acc.length + ts.length ≤ 1000000 → lcL (turnC gl (cl (k + d + 1)) [X, Y, .val (.dic kvs), .un, .un] [3, 4] none c31_0) (zipL (encs ts) (encs (fillS f ts))) acc μ = .ok (acc ++ (ts.map fun _ => true).map D.bl) μ
  | [], k, d, X, Y, acc, _, _, _, _ => by simp [encs, lcL, fillS, zipL]
  | t :: r, k, d, X, Y, acc, hf, hd, hh, hl => by
    have hdm : max t.depth (depthS r) ≤ d := hd
    rw [List.length_cons] at hl
    have i1 := isf_s μ (kvs := kvs) (f := f) hd8 t k d hf.1 (by omega) (fun i hi => hh i (by simp [letsS, hi]))
    have i2 := isf_l μ (kvs := kvs) (f := f) hd8 r k d X Y (acc ++ [.bl true]) hf.2 (by omega) (fun i hi => hh i (by simp [letsS, hi])) (by simp; omega)
    have ha : acc.length < 1000000 := by omega
    show lcL _ (.tup [enc t, enc (t.fill f)] :: zipL (encs r) (encs (fillS f r))) acc μ = _
    unfold lcL
    have e : turnC gl (cl (k + d + 1)) [X, Y, .val (.dic kvs), .un, .un] [3, 4] none c31_0 (.tup [enc t, enc (t.fill f)]) acc μ = .ok (acc ++ [.bl true]) μ := by
      generalize enc (t.fill f) = ZZ at i1 ⊢
      generalize enc t = TT at i1 ⊢
      unfold turnC setTR c31_0
      simp only [v_wipe1, v_wipe0, v_setT2, List.set_cons_succ, List.set_cons_zero, v_c0, bind_ok, if_true, v_call, v_es1, v_es0, v_var, List.getElem?_cons_succ, List.getElem?_cons_zero, List.append_nil, v_arr3, i1, back_ok, addL, ha]
    rw [e]
    simp only [bind_ok]
    rw [i2]
    simp
end
/-! ### points -/
def Pt (n : Nat) (s : List Nat) : Prop := s.length = n ∧ ∀ x ∈ s, x = 48 ∨ x = 49
theorem pt_lc (k : Nat) (γ : Ga) (hγ : γ.length = 4) (c : Nat) (E : E) (hE : E = .bin .add (.var 3) (.con (.str [c]))) (rows : List (List Nat)) (hr : rows.length ≤ 1000) (hs : ∀ r ∈ rows, r.length ≤ 1000) (μ : Sto) : lcL (turnC gl (cl k) γ [3] none E) (SL rows) [] μ = .ok (SL (rows.map fun r => r ++ [c])) μ := by
  subst hE
  have := lc_map1 D.str (fun r => D.str (r ++ [c])) (f := turnC gl (cl k) γ [3] none (.bin .add (.var 3) (.con (.str [c])))) (μ := μ) rows (fun r hr acc hacc => by
    have g3 : (γ.set 3 (.val (.str r)))[3]? = some (.val (.str r)) := List.getElem?_set_self (by omega)
    have ha := v_adds r [c] (by have := hs r hr; simp; omega)
    unfold turnC setTR
    simp only [v_wipe1, v_wipe0, v_setT, List.set_set, v_c0, bind_ok, if_true, v_bin, v_var, v_con, g3, ha, orO_some, addL, hacc]) (by omega)
  simp only [SL] at this ⊢
  rw [this, List.map_map]
  rfl
theorem pts_l (k : Nat) (A : Sl) (μ : Sto) : ∀ (xs : List D) (rows : List (List Nat)) (m : Nat), (∀ r ∈ rows, Pt m r) → rows ≠ [] → rows.length * 2 ^ xs.length ≤ 60 → m + xs.length ≤ 10 → ∃ rows', forL (turn gl (cl k) [2] l32_0) [2] xs [A, .val (.lst (SL rows)), .un, .un] μ = .ok (.nx [A, .val (.lst (SL rows')), .un, .un]) μ ∧ (∀ r ∈ rows', Pt (m + xs.length) r) ∧ rows' ≠ [] ∧ rows'.length ≤ 60
  | [], rows, m, h, hne, hl, _ => ⟨rows, by simp, h, hne, by simpa using hl⟩
  | x :: xs, rows, m, h, hne, hl, hm => by
    rw [List.length_cons] at hl hm
    have hp : 0 < 2 ^ xs.length := Nat.pow_pos (by decide)
    have hl60 : rows.length ≤ 60 := by
      refine Nat.le_trans ?_ hl
      exact Nat.le_mul_of_pos_right _ (Nat.pow_pos (by decide))
    have hs : ∀ r ∈ rows, r.length ≤ 1000 := fun r hr => by rw [(h r hr).1]; omega
    have e0 := pt_lc k [A, .val (.lst (SL rows)), .val x, .un] rfl 48 c32_0 rfl rows (by omega) hs μ
    have e1 := pt_lc k [A, .val (.lst (SL rows)), .val x, .un] rfl 49 c32_1 rfl rows (by omega) hs μ
    obtain ⟨rows', e, h1, h2, h3⟩ := pts_l k A μ xs (rows.map (fun r => r ++ [48]) ++ rows.map (fun r => r ++ [49])) (m + 1) (fun r hr => by
      rw [List.mem_append, List.mem_map, List.mem_map] at hr
      rcases hr with ⟨q, hq, rfl⟩ | ⟨q, hq, rfl⟩
      · refine ⟨by rw [List.length_append, (h q hq).1]; rfl, fun y hy => ?_⟩
        rw [List.mem_append, List.mem_singleton] at hy
        rcases hy with hy | rfl
        · exact (h q hq).2 y hy
        · exact .inl rfl
      · refine ⟨by rw [List.length_append, (h q hq).1]; rfl, fun y hy => ?_⟩
        rw [List.mem_append, List.mem_singleton] at hy
        rcases hy with hy | rfl
        · exact (h q hq).2 y hy
        · exact .inr rfl) (fun z => hne (by
          have := congrArg List.length z
          simp at this
          exact this)) (by
          rw [List.length_append, List.length_map, List.length_map]
          rw [Nat.pow_succ] at hl
          have : (rows.length + rows.length) * 2 ^ xs.length = rows.length * (2 ^ xs.length * 2) := by rw [Nat.mul_comm (2 ^ xs.length) 2, ← Nat.mul_assoc]; congr 1; omega
          omega) (by omega)
    refine ⟨rows', ?_, by rw [List.length_cons]; intro r hr; have := h1 r hr; rw [show m + 1 + xs.length = m + (xs.length + 1) from by omega] at this; exact this, h2, h3⟩
    have ha : binop .add (.lst (SL (rows.map fun r => r ++ [48]))) (.lst (SL (rows.map fun r => r ++ [49]))) = some (.lst (SL (rows.map (fun r => r ++ [48]) ++ rows.map (fun r => r ++ [49])))) := by
      have : (SL (rows.map fun r => r ++ [48])).length + (SL (rows.map fun r => r ++ [49])).length ≤ 1000000 := by simp; omega
      simp only [binop, this, if_true]
      simp [SL]
    have et : turn gl (cl k) [2] l32_0 x [A, .val (.lst (SL rows)), .un, .un] μ = .ok (.nx [A, .val (.lst (SL (rows.map (fun r => r ++ [48]) ++ rows.map (fun r => r ++ [49])))), .val x, .un]) μ := by
      generalize SL (rows.map (fun r => r ++ [48]) ++ rows.map (fun r => r ++ [49])) = RR at ha ⊢
      generalize SL (rows.map fun r => r ++ [48]) = R0 at *
      generalize SL (rows.map fun r => r ++ [49]) = R1 at *
      generalize SL rows = RX at *
      unfold turn l32_0
      simp only [v_setT, List.set_cons_succ, List.set_cons_zero, v_ss1, v_ss0, v_asg, v_bin, v_lc, v_var, List.getElem?_cons_succ, List.getElem?_cons_zero, bind_ok, v_il, e0, e1, nox_ok, ha, orO_some]
    rw [forL_cons, et]
    simp only [bind_ok, v_wipe1, v_wipe0, List.set_cons_succ, List.set_cons_zero]
    exact e
theorem pts_s (k n : Nat) (hn : n ≤ 5) (μ : Sto) : ∃ rows, cl (k + 1) 32 [.int ((n : Nat) : Int)] μ = .ok (.lst (SL rows)) μ ∧ ∀ r ∈ rows, Pt n r := by
  have hr := rng_nat (n := n) (by omega)
  have hll : (rangeL 0 ((n : Nat) : Int)).length = n := by simp [rangeL]
  have h32 : 2 ^ n ≤ 2 ^ 5 := Nat.pow_le_pow_right (by decide) hn
  obtain ⟨rows, e, h1, h2, h3⟩ := pts_l k (.val (.int ((n : Nat) : Int))) μ (rangeL 0 ((n : Nat) : Int)) [[]] 0 (fun r hr => by rw [List.mem_singleton] at hr; subst hr; exact ⟨rfl, fun x hx => by cases hx⟩) (by simp) (by rw [hll]; simp; omega) (by rw [hll]; omega)
  rw [hll, Nat.zero_add] at h1
  refine ⟨sortS rows, ?_, fun r hr => h1 r ((sortS_perm rows).mem_iff.mp hr)⟩
  have hso : builtin .sorted [.lst (SL rows)] = some (.lst (SL (sortS rows))) := by
    cases rows with
    | nil => exact absurd rfl h2
    | cons w r =>
      have h64 : (w :: r).length < 64 := by omega
      have hi : intsD (SL (w :: r)) = none := rfl
      have hst : strsD (SL (w :: r)) = some (w :: r) := strs_SL _
      show (match intsD (SL (w :: r)) with | some is => some (.lst ((sortI is).map .int)) | none => (strsD (SL (w :: r))).bind fun ss => if ss.length < 64 then some (.lst ((sortS ss).map .str)) else none : Option D) = _
      rw [hi, hst]
      simp only [Option.bind_some]
      rw [if_pos h64]
  have e0 : cl (k + 1) 32 [.int ((n : Nat) : Int)] μ = (xSs gl (cl k) b32 [.val (.int ((n : Nat) : Int)), .un, .un, .un] μ).bind (outF false) := rfl
  rw [e0]
  have hSL : SL [[]] = ([.str []] : List D) := rfl
  rw [hSL] at e
  generalize SL (sortS rows) = ZZ at *
  generalize rangeL 0 ((n : Nat) : Int) = RR at *
  simp only [b32, v_ss1, v_ss0, v_asg, v_lst, v_es1, v_es0, v_con, bind_ok, v_setT, List.set_cons_succ, List.set_cons_zero, v_for, v_rng1, v_var, List.getElem?_cons_succ, List.getElem?_cons_zero, hr, ofO_s, v_il, e, v_ret, v_bi, hso, orO_some, v_out1]

end Bs.K25
namespace Bs.K25
open Bs

def sgF (f : Nat → T) (pt : List Nat) (s : List Nat) (ks : List Nat) : List Nat := ks.foldl (fun s i => if (f i).sgn pt = 49 then s.set i 49 else s) s
theorem sgF_s (f : Nat → T) (pt : List Nat) (h2 : ∀ i, (f i).sgn pt = 48 ∨ (f i).sgn pt = 49) : ∀ (ks s : List Nat) (done : Nat → Prop), s.length = 5 → (∀ i ∈ ks, i < 5) → (∀ x ∈ s, x = 48 ∨ x = 49) → (∀ i, i < 5 → s[i]? = some 48 ∨ s[i]? = some ((f i).sgn pt)) → (∀ i, done i → s[i]? = some ((f i).sgn pt)) →
    (sgF f pt s ks).length = 5 ∧ (∀ x ∈ sgF f pt s ks, x = 48 ∨ x = 49) ∧ ∀ i, (done i ∨ i ∈ ks) → (sgF f pt s ks)[i]? = some ((f i).sgn pt)
  | [], s, done, hl, _, hb, _, hd => ⟨hl, hb, fun i h => hd i (h.elim id fun z => by cases z)⟩
  | j :: ks, s, done, hl, hk, hb, h48, hd => by
    have hj : j < 5 := hk j List.mem_cons_self
    have step : ∀ s', s' = (if (f j).sgn pt = 49 then s.set j 49 else s) → s'.length = 5 ∧ (∀ x ∈ s', x = 48 ∨ x = 49) ∧ (∀ i, i < 5 → s'[i]? = some 48 ∨ s'[i]? = some ((f i).sgn pt)) ∧ ∀ i, (done i ∨ i = j) → s'[i]? = some ((f i).sgn pt) := by
      intro s' hs
      by_cases e : (f j).sgn pt = 49
      · rw [if_pos e] at hs
        subst hs
        have hset : ∀ i, i ≠ j → (s.set j 49)[i]? = s[i]? := fun i hi => List.getElem?_set_ne (fun z => hi z.symm)
        have hsj : (s.set j 49)[j]? = some 49 := List.getElem?_set_self (by omega)
        refine ⟨by simpa using hl, fun x hx => ?_, fun i hi => ?_, fun i hi => ?_⟩
        · rcases List.mem_or_eq_of_mem_set hx with h | h
          · exact hb x h
          · exact .inr h
        · by_cases z : i = j
          · subst z; rw [hsj, e]; exact .inr rfl
          · rw [hset i z]; exact h48 i hi
        · by_cases z : i = j
          · subst z; rw [hsj, e]
          · rw [hset i z]; exact hd i (hi.elim id fun w => absurd w z)
      · rw [if_neg e] at hs
        subst hs
        refine ⟨hl, hb, h48, fun i hi => ?_⟩
        rcases hi with hi | rfl
        · exact hd i hi
        · have e48 : (f i).sgn pt = 48 := (h2 i).elim id fun z => absurd z e
          rcases h48 i hj with z | z
          · rw [z, e48]
          · exact z
    obtain ⟨a1, a2, a3, a4⟩ := step _ rfl
    obtain ⟨b1, b2, b3⟩ := sgF_s f pt h2 ks _ (fun i => done i ∨ i = j) a1 (fun i hi => hk i (List.mem_cons_of_mem _ hi)) a2 a3 a4
    refine ⟨b1, b2, fun i hi => b3 i ?_⟩
    rcases hi with hi | hi
    · exact .inl (.inl hi)
    · rcases List.mem_cons.mp hi with rfl | hi
      · exact .inl (.inr rfl)
      · exact .inr hi
theorem agr_l (k n : Nat) (n1 : 1 ≤ n) (n3 : n ≤ 3) (A0 A1 A3 : Sl) {kvs : List (D × D)} {f : Nat → T} (hw : ∀ i, WD n (f i)) (pt : List Nat) (hp : Pt n pt) (μ : Sto) : ∀ (ks s : List Nat), Has kvs f ks → (∀ i ∈ ks, i < 5) → s.length = 5 →
    forL (turn gl (cl (k + 13)) [6] l39_0) [6] (iN ks) [A0, A1, .val (.dic kvs), A3, .val (.str pt), .own (.lst (chars s)), .un, .un] μ = .ok (.nx [A0, A1, .val (.dic kvs), A3, .val (.str pt), .own (.lst (chars (sgF f pt s ks))), .un, .un]) μ
  | [], s, _, _, _ => by simp [sgF]
  | j :: ks, s, hh, hk, hl => by
    have hj : j < 5 := hk j List.mem_cons_self
    have hix := hh.ix (i := j) List.mem_cons_self μ
    have hap : cl (k + 13) 38 [.str pt, enc (f j)] μ = .ok (.bl (decide ((f j).sgn pt = 49))) μ := at_point_s k pt hp.2 (by rw [hp.1]; exact n1) (by rw [hp.1]; omega) (f j) (by rw [hp.1]; exact hw j) μ
    have ih := agr_l k n n1 n3 A0 A1 A3 hw pt hp μ ks (if (f j).sgn pt = 49 then s.set j 49 else s) (fun i hi => hh i (List.mem_cons_of_mem _ hi)) (fun i hi => hk i (List.mem_cons_of_mem _ hi)) (by split <;> simpa using hl)
    have hset : ∀ γ : Ga, osetR γ 5 (chars s) (.str [49]) (.int ((j : Nat) : Int)) μ = .ok (.nx (γ.set 5 (.own (.lst (chars (s.set j 49)))))) μ := fun γ => by
      have a1 : ((j : Nat) : Int) < ((chars s).length : Nat) := by simp [chars]; omega
      have hn : L2.ixN (chars s).length ((j : Nat) : Int) = some j := by simp only [L2.ixN]; simp [a1]
      simp only [osetR, hn]
      simp [chars, List.map_set]
    have et : turn gl (cl (k + 13)) [6] l39_0 (.int ((j : Nat) : Int)) [A0, A1, .val (.dic kvs), A3, .val (.str pt), .own (.lst (chars s)), .un, .un] μ = .ok (.nx [A0, A1, .val (.dic kvs), A3, .val (.str pt), .own (.lst (chars (if (f j).sgn pt = 49 then s.set j 49 else s))), .val (.int ((j : Nat) : Int)), .un]) μ := by
      generalize enc (f j) = FF at *
      unfold turn l39_0
      simp only [v_setT, List.set_cons_succ, List.set_cons_zero]
      rw [v_ss1, v_if, v_cond]
      by_cases e : (f j).sgn pt = 49
      · simp only [v_call, v_es1, v_es0, v_ix, v_var, List.getElem?_cons_succ, List.getElem?_cons_zero, bind_ok, hix, List.append_nil, v_arr2, hap, back_ok, v_tbl, e, decide_true, if_true, v_ss1 gl _ _ _ (.oset _ _ _), v_oset, v_con, hset, v_ss0, List.set_cons_succ, List.set_cons_zero]
      · simp only [v_call, v_es1, v_es0, v_ix, v_var, List.getElem?_cons_succ, List.getElem?_cons_zero, bind_ok, hix, List.append_nil, v_arr2, hap, back_ok, v_tbl, e, decide_false, Bool.false_eq_true, if_false, v_ss0]
    show forL _ _ (.int ((j : Nat) : Int) :: iN ks) _ _ = _
    rw [forL_cons, et]
    simp only [bind_ok, v_wipe1, v_wipe0, List.set_cons_succ, List.set_cons_zero]
    exact ih
theorem agr_t (k n : Nat) (n1 : 1 ≤ n) (n3 : n ≤ 3) {t : T} (wt : WD 5 t) {f : Nat → T} (hw : ∀ i, WD n (f i)) {ks : List Nat} (hk : ∀ i ∈ ks, i < 5) (hs : ∀ i ∈ t.lets, i ∈ ks) (wf : WD n (t.fill f)) (A3 : Sl) (μ : Sto) : ∀ rows : List (List Nat), (∀ r ∈ rows, Pt n r) →
    ((forL (turn gl (cl (k + 13)) [4] l39_1) [4, 5, 6, 7] (SL rows) [.val (enc t), .val (enc (t.fill f)), .val (.dic (dkE f ks)), A3, .un, .un, .un, .un] μ).bind fun fl μ => match fl with | .nx γ' => xSs gl (cl (k + 13)) [.ret (.con (.bl true))] γ' μ | _ => .ok fl μ) = .ok (.rt (.bl true)) μ
  | [], _ => by simp
  | pt :: rows, h => by
    have hp := h pt List.mem_cons_self
    have ih := agr_t k n n1 n3 wt hw hk hs wf A3 μ rows (fun r hr => h r (List.mem_cons_of_mem _ hr))
    have h2 : ∀ i, (f i).sgn pt = 48 ∨ (f i).sgn pt = 49 := fun i => sgn_pt hp.2 (f i) (by rw [hp.1]; exact (hw i).lt)
    obtain ⟨b1, b2, b3⟩ := sgF_s f pt h2 ks [48, 48, 48, 48, 48] (fun _ => False) rfl hk (by intro x hx; simp at hx; exact .inl hx) (fun i hi => by
      have : i = 0 ∨ i = 1 ∨ i = 2 ∨ i = 3 ∨ i = 4 := by omega
      rcases this with rfl | rfl | rfl | rfl | rfl <;> exact .inl rfl) (fun i z => z.elim)
    have hl := agr_l k n n1 n3 (.val (enc t)) (.val (enc (t.fill f))) A3 (kvs := dkE f ks) hw pt hp μ ks [48, 48, 48, 48, 48] (fun i hi => dk_get f i ks hi) hk rfl
    have e1 : cl (k + 13) 38 [.str pt, enc (t.fill f)] μ = .ok (.bl (decide ((t.fill f).sgn pt = 49))) μ := at_point_s k pt hp.2 (by rw [hp.1]; exact n1) (by rw [hp.1]; omega) _ (by rw [hp.1]; exact wf) μ
    have e2 : cl (k + 13) 38 [.str (sgF f pt [48, 48, 48, 48, 48] ks), enc t] μ = .ok (.bl (decide (t.sgn (sgF f pt [48, 48, 48, 48, 48] ks) = 49))) μ := at_point_s k _ b2 (by rw [b1]; decide) (by rw [b1]; decide) t (by rw [b1]; exact wt) μ
    have hsg : (t.fill f).sgn pt = t.sgn (sgF f pt [48, 48, 48, 48, 48] ks) := fill_sgn t fun i hi => by rw [b3 i (.inr (hs i hi))]; rfl
    rw [hsg] at e1
    have hj := join_chars (sgF f pt [48, 48, 48, 48, 48] ks) (by rw [b1]; decide)
    have hch : chars [48, 48, 48, 48, 48] = [.str [48], .str [48], .str [48], .str [48], .str [48]] := rfl
    rw [hch] at hl
    have hkeys := dk_keys f ks
    have et : turn gl (cl (k + 13)) [4] l39_1 (.str pt) [.val (enc t), .val (enc (t.fill f)), .val (.dic (dkE f ks)), A3, .un, .un, .un, .un] μ = .ok (.nx [.val (enc t), .val (enc (t.fill f)), .val (.dic (dkE f ks)), A3, .val (.str pt), .own (.lst (chars (sgF f pt [48, 48, 48, 48, 48] ks))), .un, .val (.bl (decide (t.sgn (sgF f pt [48, 48, 48, 48, 48] ks) = 49)))]) μ := by
      generalize enc (t.fill f) = FF at *
      generalize enc t = TT at *
      generalize sgF f pt [48, 48, 48, 48, 48] ks = SS at *
      generalize dkE f ks = KK at *
      have isS : isStr (.str ([] : List Nat)) = true := rfl
      unfold turn l39_1
      simp only [v_setT, List.set_cons_succ, List.set_cons_zero]
      rw [v_ss1, v_own]
      simp only [v_lst, v_es1, v_es0, v_con, bind_ok, List.set_cons_succ, List.set_cons_zero]
      rw [v_ss1, v_for]
      simp only [v_kys, v_var, List.getElem?_cons_succ, List.getElem?_cons_zero, bind_ok, v_keysR, hkeys, v_il, hl]
      rw [v_ss1, v_asg]
      simp only [v_call, v_es1, v_es0, v_var, List.getElem?_cons_succ, List.getElem?_cons_zero, bind_ok, List.append_nil, v_arr2, e1, back_ok, v_setT, List.set_cons_succ, List.set_cons_zero]
      rw [v_ss1, v_if, v_cond]
      simp only [v_or, v_not, v_isi, v_var, List.getElem?_cons_succ, List.getElem?_cons_zero, bind_ok, v_isibl, Option.map_some, orO_some, v_tbl, Bool.not_true, Bool.false_eq_true, if_false, v_cmp, v_call, v_es1, v_es0, v_mt, v_con, isS, if_true, v_ovar, hj, ofO_s, List.append_nil, v_arr2, e2, back_ok, v_nebb, decide_true, v_ss0]
    show (forL _ _ (.str pt :: SL rows) _ _).bind _ = _
    rw [forL_cons, et]
    simp only [bind_ok, v_wipe1, v_wipe0, List.set_cons_succ, List.set_cons_zero]
    exact ih
theorem agrees_s (k n : Nat) (n1 : 1 ≤ n) (n3 : n ≤ 3) {t : T} (wt : WD 5 t) {f : Nat → T} (hw : ∀ i, WD n (f i)) {ks : List Nat} (hk : ∀ i ∈ ks, i < 5) (hs : ∀ i ∈ t.lets, i ∈ ks) (wf : WD n (t.fill f)) (μ : Sto) : cl (k + 14) 39 [enc t, enc (t.fill f), .dic (dkE f ks), .int ((n : Nat) : Int)] μ = .ok (.bl true) μ := by
  have e0 : cl (k + 14) 39 [enc t, enc (t.fill f), .dic (dkE f ks), .int ((n : Nat) : Int)] μ = (xSs gl (cl (k + 13)) b39 [.val (enc t), .val (enc (t.fill f)), .val (.dic (dkE f ks)), .val (.int ((n : Nat) : Int)), .un, .un, .un, .un] μ).bind (outF false) := rfl
  obtain ⟨rows, e1, hr⟩ := pts_s (k + 12) n (by omega) μ
  have e1' : cl (k + 13) 32 [.int ((n : Nat) : Int)] μ = .ok (.lst (SL rows)) μ := e1
  have key := agr_t k n n1 n3 wt hw hk hs wf (.val (.int ((n : Nat) : Int))) μ rows hr
  rw [e0, b39, v_ss1, v_for]
  simp only [v_call, v_es1, v_es0, v_var, List.getElem?_cons_succ, List.getElem?_cons_zero, bind_ok, List.append_nil, v_arr1, e1', back_ok, v_il]
  exact (congrArg (fun r : R Fl => r.bind (outF false)) key).trans (by simp)

end Bs.K25
namespace Bs.K25
open Bs

theorem bad_b (k : Nat) {p q : Nat} (u : T) (hu : u.full) {μ : Sto} (hs : Sb p q μ) : ∃ d μ', cl (k + 2) 18 [.loc p, enc u] μ = .ok d μ' ∧ S2 p q μ μ' ∧ nice d = true ∧ Bd d := by
  obtain ⟨r, μ1, e1, h1, s1⟩ := draw_n k hs (m := 22) (by decide) (by decide)
  obtain ⟨s, μ2, e2, h2, s2⟩ := draw_n k s1.sb (m := 1000000) (by decide) (by decide)
  have e1' : cl (k + 1) 1 [.loc p, .int 22] μ = .ok (.int ((r : Nat) : Int)) μ1 := e1
  have e2' : cl (k + 1) 1 [.loc p, .int 1000000] μ1 = .ok (.int ((s : Nat) : Int)) μ2 := e2
  obtain ⟨xs, ex, lx, nx⟩ := enc_tup u hu
  have e0 : cl (k + 2) 18 [.loc p, enc u] μ = (xSs gl (cl (k + 1)) b18 [.val (.loc p), .val (enc u), .un, .un, .un, .un] μ).bind (outF false) := rfl
  rw [e0, ex]
  have m5 := mod_p (i := ((s : Nat) : Int)) (j := 5) (by decide)
  have f5 := fdiv_p (i := ((s : Nat) : Int)) (j := 5) (by decide) (by decide)
  have m2 := mod_p (i := ((s : Nat) : Int) / 5) (j := 2) (by decide)
  generalize hN : (if decide (((s : Nat) : Int) / 5 % 2 = 0) = true then (0 : Int) else ((s : Nat) : Int)) = N
  generalize hM : ((s : Nat) : Int) % 5 = M at m5
  have lt : ∀ l : List D, builtin .list [.tup l] = some (.lst l) := fun _ => rfl
  have at1 := v_addt xs [.tup [.str [105, 110], .int M]] (by simp; omega)
  have al : ∀ a b : List D, a.length ≤ 100 → b.length ≤ 100 → binop .add (.lst a) (.lst b) = some (.lst (a ++ b)) := fun a b h1 h2 => by
    have : a.length + b.length ≤ 1000000 := by omega
    simp [binop, this]
  let LL : List D := badL xs N M
  have hN0 : 0 ≤ N := by rw [← hN]; split <;> omega
  have hBL : ∀ d ∈ LL, Bd d := badL_bd N M hN0 u xs ex
  have hLL : ∀ d ∈ LL, nice d = true := by
    intro d hd
    have hl3 : xs.length ≤ 999 := by omega
    simp only [LL, badL, List.mem_cons, List.not_mem_nil, or_false] at hd
    rcases hd with rfl | rfl | rfl | rfl | rfl | rfl | rfl | rfl | rfl | rfl | rfl | rfl | rfl | rfl | rfl | rfl | rfl | rfl | rfl | rfl | rfl | rfl <;> simp [nice, nices, nices_app, nx, hl3]
  have hr : r < LL.length := by simp only [LL, badL, List.length_cons, List.length_nil]; omega
  refine ⟨LL[r]'hr, μ2, ?_, s1.trans s2, hLL _ (List.getElem_mem hr), hBL _ (List.getElem_mem hr)⟩
  have hix : ixR (.lst LL) (.int ((r : Nat) : Int)) μ2 = .ok (LL[r]'hr) μ2 := ix_lst (List.getElem?_eq_getElem hr) μ2
  generalize LL[r]'hr = RES at hix ⊢
  simp only [LL, badL] at hix
  clear hLL hr hBL
  have fin : ∀ γ3 : Sl, γ3 = .val (.int N) → (xSs gl (cl (k + 1)) (b18.drop 4) [.val (.loc p), .val (.tup xs), .val (.int ((r : Nat) : Int)), γ3, .val (.tup [.str [105, 110], .int M]), .un] μ2).bind (outF false) = .ok RES μ2 := by
    intro γ3 h3
    subst h3
    show (xSs gl (cl (k + 1)) [_, _, _, _, _] _ _).bind _ = _
    have a1 := fun a b => al a b
    simp only [v_ss1, v_ss0, v_asg, v_lst, v_es1, v_es0, v_con, v_var, v_tup, v_bi, v_bin, v_neg, v_dsp0, List.getElem?_cons_succ, List.getElem?_cons_zero, bind_ok, lt, orO_some, at1, v_addi, v_subi, v_setT, List.set_cons_succ, List.set_cons_zero]
    rw [al _ _ (by simp) (by simp)]
    simp only [orO_some, bind_ok, List.cons_append, List.nil_append, List.set_cons_succ, List.set_cons_zero, List.getElem?_cons_succ, List.getElem?_cons_zero]
    rw [al _ _ (by simp) (by simp)]
    simp only [orO_some, bind_ok, List.cons_append, List.nil_append, List.set_cons_succ, List.set_cons_zero, List.getElem?_cons_succ, List.getElem?_cons_zero]
    rw [al _ _ (by simp) (by simp)]
    simp only [orO_some, bind_ok, List.cons_append, List.nil_append, List.set_cons_succ, List.set_cons_zero, List.getElem?_cons_succ, List.getElem?_cons_zero, v_ret, v_ix, v_var, hix, v_out1]
  have pre : ∀ rest : List S, ∃ γ3, γ3 = Sl.val (.int N) ∧ xSs gl (cl (k + 1)) (b18.take 4 ++ rest) [.val (.loc p), .val (.tup xs), .un, .un, .un, .un] μ = xSs gl (cl (k + 1)) rest [.val (.loc p), .val (.tup xs), .val (.int ((r : Nat) : Int)), γ3, .val (.tup [.str [105, 110], .int M]), .un] μ2 := by
    intro rest
    refine ⟨_, rfl, ?_⟩
    show xSs gl (cl (k + 1)) (_ :: _ :: _ :: _ :: rest) _ _ = _
    cases hd : decide (((s : Nat) : Int) / 5 % 2 = 0) with
    | true =>
      rw [hd] at hN
      simp only [if_true] at hN
      subst hN
      simp only [v_ss1 gl _ _ _ (.asg _ _), v_ss1 gl _ _ _ (.ite _ _ _), v_ss1 gl _ _ _ _ [], v_ss0, v_asg, v_call, v_es1, v_es0, v_var, v_con, v_tup, v_bin, v_bi, v_int, List.getElem?_cons_succ, List.getElem?_cons_zero, bind_ok, List.append_nil, v_arr2, e1', e2', back_ok, v_setT, List.set_cons_succ, List.set_cons_zero, m5, orO_some, v_if, v_cond, v_cmp, f5, m2, v_eqii, hd, v_tbl, if_true]
    | false =>
      rw [hd] at hN
      simp only [Bool.false_eq_true, if_false] at hN
      subst hN
      simp only [v_ss1 gl _ _ _ (.asg _ _), v_ss1 gl _ _ _ (.ite _ _ _), v_ss1 gl _ _ _ _ [], v_ss0, v_asg, v_call, v_es1, v_es0, v_var, v_con, v_tup, v_bin, v_bi, v_int, List.getElem?_cons_succ, List.getElem?_cons_zero, bind_ok, List.append_nil, v_arr2, e1', e2', back_ok, v_setT, List.set_cons_succ, List.set_cons_zero, m5, orO_some, v_if, v_cond, v_cmp, f5, m2, v_eqii, hd, v_tbl, Bool.false_eq_true, if_false]
  obtain ⟨γ3, h3, e3⟩ := pre (b18.drop 4)
  rw [List.take_append_drop] at e3
  rw [e3]
  exact fin γ3 h3
theorem spoiled_b (k : Nat) {p q : Nat} (t : T) (hf : t.full) (hd : t.depth ≤ 13) (hl : t.leaves ≤ 1000) {μ : Sto} (hs : Sb p q μ) : ∃ d μ', cl (k + 17) 20 [.loc p, enc t] μ = .ok d μ' ∧ S2 p q μ μ' ∧ nice d = true ∧ Bd d := by
  have e0 : cl (k + 17) 20 [.loc p, enc t] μ = (xSs gl (cl (k + 16)) b20 [.val (.loc p), .val (enc t), .un, .un, .un] μ).bind (outF false) := rfl
  obtain ⟨w1, u1, μ1, e1, s1, a1, l1⟩ := dpath_s (k + 1) t hf hd hl hs
  obtain ⟨w2, u2, μ2, e2, s2, a2, l2⟩ := dpath_s (k + 1) t hf hd hl s1.sb
  have e3 : cl (k + 16) 12 [enc t, .tup (iN w1)] μ2 = .ok (enc u1) μ2 := at_s (k + 14) μ2 w1 t u1 a1
  obtain ⟨d1, μ3, e4, s4, n1, b1⟩ := bad_b (k + 14) u1 (at_full w1 t u1 hf a1) s2.sb
  obtain ⟨y1, hy1⟩ := set1_ex d1 w1 t u1 a1
  have ny1 := hy1.nice (nice_enc t hf) n1
  have e5 : cl (k + 16) 17 [enc t, .tup (iN w1), d1] μ3 = .ok y1 μ3 := by
    have := set_s μ3 hy1 (k + 14 - w1.length)
    rw [show k + 14 - w1.length + w1.length + 2 = k + 16 from by omega] at this; exact this
  have e6 : cl (k + 16) 19 [.tup (iN w1), .tup (iN w2)] μ3 = .ok (.bl (apartB w1 w2)) μ3 := apart_s (k + 15) w1 w2 μ3
  have e1' : cl (k + 16) 16 [.loc p, enc t] μ = .ok (.tup (iN w1)) μ1 := e1
  have e2' : cl (k + 16) 16 [.loc p, enc t] μ1 = .ok (.tup (iN w2)) μ2 := e2
  have e4' : cl (k + 16) 18 [.loc p, enc u1] μ2 = .ok d1 μ3 := e4
  have s13 := (s1.trans s2).trans s4
  cases hap : apartB w1 w2 with
  | false =>
    rw [hap] at e6
    refine ⟨y1, μ3, ?_, s13, ny1, hy1.bd b1⟩
    rw [e0]
    generalize iN w1 = W1 at *
    generalize iN w2 = W2 at *
    generalize enc u1 = U1 at *
    generalize enc t = TT at *
    simp only [b20, v_ss1, v_ss0, v_asg, v_call, v_es1, v_es0, v_var, v_con, List.getElem?_cons_succ, List.getElem?_cons_zero, bind_ok, List.append_nil, v_arr2, v_arr3, e1', e2', e3, e4', e5, back_ok, v_setT, List.set_cons_succ, List.set_cons_zero, v_if, v_cond, v_and, e6, v_tbl, Bool.false_eq_true, if_false, v_ret, v_out1]
  | true =>
    rw [hap] at e6
    obtain ⟨x, μ4, e7, h7, s7⟩ := draw_n (k + 15) s4.sb (m := 2) (by decide) (by decide)
    have e7' : cl (k + 16) 1 [.loc p, .int 2] μ3 = .ok (.int ((x : Nat) : Int)) μ4 := e7
    by_cases hx : x = 0
    · subst hx
      have e8 : cl (k + 16) 12 [enc t, .tup (iN w2)] μ4 = .ok (enc u2) μ4 := at_s (k + 14) μ4 w2 t u2 a2
      obtain ⟨d2, μ5, e9, s9, n2, b2⟩ := bad_b (k + 14) u2 (at_full w2 t u2 hf a2) s7.sb
      have e9' : cl (k + 16) 18 [.loc p, enc u2] μ4 = .ok d2 μ5 := e9
      obtain ⟨z2, hz2⟩ := set1_ex d2 w2 t u2 a2
      obtain ⟨y2, hy2⟩ := hy1.apart w2 d2 z2 d2 hz2 hap
      have e10 : cl (k + 16) 17 [y1, .tup (iN w2), d2] μ5 = .ok y2 μ5 := by
        have := set_s μ5 hy2 (k + 14 - w2.length)
        rw [show k + 14 - w2.length + w2.length + 2 = k + 16 from by omega] at this; exact this
      refine ⟨y2, μ5, ?_, (s13.trans s7).trans s9, hy2.nice ny1 n2, hy2.bd b2⟩
      rw [e0]
      have hz : ((0 : Nat) : Int) = 0 := rfl
      rw [hz] at e7'
      have d0 : decide ((0 : Int) = 0) = true := by decide
      generalize iN w1 = W1 at *
      generalize iN w2 = W2 at *
      generalize enc u1 = U1 at *
      generalize enc u2 = U2 at *
      generalize enc t = TT at *
      simp only [b20, v_ss1, v_ss0, v_asg, v_call, v_es1, v_es0, v_var, v_con, List.getElem?_cons_succ, List.getElem?_cons_zero, bind_ok, List.append_nil, v_arr2, v_arr3, e1', e2', e3, e4', e5, back_ok, v_setT, List.set_cons_succ, List.set_cons_zero, v_if, v_cond, v_and, e6, v_tbl, if_true, v_cmp, e7', v_eqii, d0, decide_true, orO_some, e8, e9', e10, v_ret, v_out1]
    · refine ⟨y1, μ4, ?_, s13.trans s7, ny1, hy1.bd b1⟩
      rw [e0]
      have d0 : decide (((x : Nat) : Int) = 0) = false := decide_eq_false (by omega)
      generalize iN w1 = W1 at *
      generalize iN w2 = W2 at *
      generalize enc u1 = U1 at *
      generalize enc t = TT at *
      simp only [b20, v_ss1, v_ss0, v_asg, v_call, v_es1, v_es0, v_var, v_con, List.getElem?_cons_succ, List.getElem?_cons_zero, bind_ok, List.append_nil, v_arr2, v_arr3, e1', e2', e3, e4', e5, back_ok, v_setT, List.set_cons_succ, List.set_cons_zero, v_if, v_cond, v_and, e6, v_tbl, if_true, v_cmp, e7', v_eqii, d0, Bool.false_eq_true, if_false, orO_some, v_ret, v_out1]

end Bs.K25
namespace Bs.K25
open Bs

abbrev Yes : D → Sto → Prop := fun d _ => d = .bl true
theorem iN_eqX : ∀ l : List Nat, eqBs (iN l) (iN l) = true
  | [] => rfl
  | i :: l => by simp [eqBs, eqB, iN_eqX l]
theorem iN_plainX (n : Nat) : ∀ l : List Nat, plains n (iN l) = true
  | [] => by simp [plains]
  | i :: l => by simp [plains, plain, iN_plainX n l]
theorem compare_tupn (xs ys : List D) : compare .ne (.tup xs) (.tup ys) = (eqD (.tup xs) (.tup ys)).map fun r => .bl !r := rfl
theorem path_ne (w : List Nat) {p : List D} (h : Nums p) : compare .ne (.tup [.str w, .tup p]) (.tup [.str w, .tup p]) = some (.bl false) := by
  obtain ⟨l, rfl⟩ := h
  have h1 := iN_eqX l
  have h2 := iN_plainX 58 l
  rw [compare_tupn]
  simp only [eqD, plain, plains, h2, Bool.and_self, if_true, Option.map_some, eqB, eqBs, h1, beq_self_eq_true]
  rfl
theorem lim_ne (w : List Nat) (i : Int) : compare .ne (.tup [.str w, .int i]) (.tup [.str w, .int i]) = some (.bl false) := by
  rw [compare_tupn]
  simp only [eqD, plain, plains, Bool.and_self, if_true, Option.map_some, eqB, eqBs, beq_self_eq_true]
  rfl
theorem tail_bad (k : Nat) {d : D} (hn : nice d = true) {pth : List D} {lv : Nat} (hfa : fa 5 8 d [] 0 = (some pth, lv)) (f : Nat → T) (hd : ∀ i, (f i).depth ≤ 8) (ks : List Nat) (A0 A1 A2 A3 A4 A5 A7 A8 : Sl) (μ : Sto) : ((xSs gl (cl (k + 21)) (b40.drop 12) [A0, A1, A2, A3, A4, A5, .val (.dic (dkE f ks)), A7, A8, .val d, .val (.dic (dkE f ks)), .un, .un, .un, .un] μ).bind (outF false)).All Yes Wn := by
  have hp : ∀ μ, ∃ γ, cl (k + 21) 30 [d, .dic (dkE f ks)] μ = .exc ⟨8, [(87, .tup pth)]⟩ γ μ := fun μ => put_bad (k + 8) hn hfa _ μ
  have hdu := due_bad k hn hfa (dkE f ks) μ
  have hNums : Nums pth := ((fa_facts 5 8 d [] 0 (by omega) ⟨[], rfl⟩ rfl).2.2 pth (by rw [hfa])).1
  have hne := path_ne sTreeW hNums
  have hne2 := dk_ne f (fun i => Nat.le_trans (hd i) (by omega)) ks
  have l1 : List.lookup 87 [(87, D.tup pth)] = some (.tup pth) := rfl
  clear hn hfa hNums
  generalize dkE f ks = K at *
  generalize cl (k + 21) = CL at *
  simp only [b40, List.drop_succ_cons, List.drop_zero]
  rw [v_ss1, bind_assoc]
  simp only [v_asg, v_call, v_es1, v_es0, v_var, v_con, List.getElem?_cons_succ, List.getElem?_cons_zero, bind_ok, List.append_nil, v_arr2]
  rw [bind_assoc]
  refine all_call hdu fun r μ2 hr => ?_
  obtain ⟨rfl, _⟩ := hr
  obtain ⟨γ, hp⟩ := hp μ2
  simp [t40_0, hp, R.catch, l1, R.back, R.bind, hdl, subX, inJ, heSs, heE, heEs, dropN, endH, hne, hne2, R.All]
theorem tail_ok (k n : Nat) (n1 : 1 ≤ n) (n3 : n ≤ 3) {t : T} (w : WD 5 t) {lv : Nat} (hfa : fa 5 8 (enc t) [] 0 = (none, lv)) (f : Nat → T) (hw : ∀ i, WD n (f i)) (ks : List Nat) (hk : ∀ i ∈ ks, i < 5) (hs : ∀ i ∈ t.lets, i ∈ ks) (A0 A1 A2 A4 A5 A7 A8 : Sl) (μ : Sto) : ((xSs gl (cl (k + 21)) (b40.drop 12) [A0, A1, A2, .val (.int ((n : Nat) : Int)), A4, A5, .val (.dic (dkE f ks)), A7, A8, .val (enc t), .val (.dic (dkE f ks)), .un, .un, .un, .un] μ).bind (outF false)).All Yes Wn := by
  have hh : Has (dkE f ks) f t.lets := fun i hi => dk_get f i ks (hs i hi)
  have hf : ∀ i, (f i).full := fun i => (hw i).full
  have hd : ∀ i, (f i).depth ≤ 8 := fun i => (hw i).depth
  have hp := fun μ => put_s (k + 1) w hh hf hd μ
  have hdu := due_ok k w hfa hh hf hd μ
  have hne2 := dk_ne f (fun i => Nat.le_trans (hd i) (by omega)) ks
  have his : ∀ μ, cl (k + 21) 31 [enc t, enc (t.fill f), .dic (dkE f ks)] μ = .ok (.bl true) μ := fun μ => isf_s μ hd t (k + 12) 8 w.full w.depth hh
  have hag : ¬ 240 < (t.fill f).leaves → ¬ 8 < (t.fill f).depth → ∀ μ, cl (k + 21) 39 [enc t, enc (t.fill f), .dic (dkE f ks), .int ((n : Nat) : Int)] μ = .ok (.bl true) μ := fun a b μ => agrees_s (k + 7) n n1 n3 w hw hk hs ⟨fill_full hf t w.full, fill_lt (fun i => (hw i).lt) t, by omega, by omega⟩ μ
  have hl1 := lim_ne sLim 240
  have hl2 := lim_ne sLim 8
  have hl3 : compare .ne .non .non = some (.bl false) := rfl
  have l1 : ∀ i : Int, List.lookup 93 [(93, D.int i)] = some (.int i) := fun _ => rfl
  clear hfa hw hh hf hd w hk hs
  generalize dkE f ks = K at *
  generalize t.fill f = U at *
  generalize enc t = TT at *
  generalize cl (k + 21) = CL at *
  simp only [b40, List.drop_succ_cons, List.drop_zero]
  rw [v_ss1, bind_assoc]
  simp only [v_asg, v_call, v_es1, v_es0, v_var, v_con, List.getElem?_cons_succ, List.getElem?_cons_zero, bind_ok, List.append_nil, v_arr2]
  rw [bind_assoc]
  refine all_call hdu fun r μ2 hr => ?_
  obtain ⟨rfl, _⟩ := hr
  obtain ⟨p1, p2, p3⟩ := hp μ2
  by_cases c1 : 240 < U.leaves
  · obtain ⟨γ, hp⟩ := p1 c1
    have e1 : dueT U = .tup [.str sLim, .int 240] := by unfold dueT; rw [if_pos c1]
    rw [e1]
    simp [t40_0, hp, R.catch, l1, R.back, R.bind, hdl, subX, inJ, heSs, heE, heEs, dropN, endH, hl1, hne2, R.All]
  · by_cases c2 : 8 < U.depth
    · obtain ⟨γ, hp⟩ := p2 c1 c2
      have e1 : dueT U = .tup [.str sLim, .int 8] := by unfold dueT; rw [if_neg c1, if_pos c2]
      rw [e1]
      simp [t40_0, hp, R.catch, l1, R.back, R.bind, hdl, subX, inJ, heSs, heE, heEs, dropN, endH, hl2, hne2, R.All]
    · have hp := p3 c1 c2
      have e1 : dueT U = .non := by unfold dueT; rw [if_neg c1, if_neg c2]
      rw [e1]
      have hg := hag c1 c2
      simp [t40_0, hp, R.catch, hl3, hne2, his, hg, R.All]

end Bs.K25
namespace Bs.K25
open Bs

theorem v_mulI2 (a b : Int) (h : small a = true) : binop .mul (.int a) (.int b) = some (.int (a * b)) := by
  have : binop .mul (.int a) (.int b) = if small a || small b then some (.int (a * b)) else none := rfl
  rw [this, h]; rfl
theorem cut_drop (ls : List Nat) (j : Nat) (h : j ≤ ls.length) : slice (.lst (iN ls)) (some ((j : Nat) : Int)) none = some (.lst (iN (ls.drop j))) := by
  simp only [slice, cut, HT.sIx]
  congr 2
  have hlen : (iN ls).length = ls.length := by simp [iN]
  rw [List.take_of_length_le]
  · have : (iN ls).drop j = iN (ls.drop j) := by simp [iN, List.map_drop]
    rw [← this]
    congr 1
    rw [if_neg (by omega)]
    omega
  · simp only [List.length_drop]; omega
theorem in_l (k n pk sz : Nat) (n1 : 1 ≤ n) (n3 : n ≤ 3) (h1 : 1 ≤ sz) (h24 : sz ≤ 24) {p q : Nat} (A0 A2 A8 A9 A10 A11 A12 A13 A14 : Sl) : ∀ (xs : List Nat) (f : Nat → T) (ks : List Nat) (μ : Sto), Sb p q μ → (∀ i, TB (List.range n) 8 24 (f i)) → (∀ i ∈ ks, i < 5) → (∀ i ∈ xs, i < 5) → ks.length + xs.length ≤ 1000 →
    ∃ (f' : Nat → T) (ks' : List Nat) (μ' : Sto), forL (turn gl (cl (k + 21)) [7] l40_0) [7] (iN xs) [A0, .val (.loc p), A2, .val (.int ((n : Nat) : Int)), .val (.int ((pk : Nat) : Int)), .val (.int ((sz : Nat) : Int)), .own (.dic (dkE f ks)), .un, A8, A9, A10, A11, A12, A13, A14] μ = .ok (.nx [A0, .val (.loc p), A2, .val (.int ((n : Nat) : Int)), .val (.int ((pk : Nat) : Int)), .val (.int ((sz : Nat) : Int)), .own (.dic (dkE f' ks')), .un, A8, A9, A10, A11, A12, A13, A14]) μ' ∧ S2 p q μ μ' ∧ (∀ i, TB (List.range n) 8 24 (f' i)) ∧ (∀ i ∈ ks', i < 5) ∧ (∀ i ∈ ks, i ∈ ks') ∧ (∀ i ∈ xs, i ∈ ks')
  | [], f, ks, μ, hs, hf, hk, hx, hl => ⟨f, ks, μ, by simp [iN], .refl hs, hf, hk, fun _ h => h, fun _ h => by simp at h⟩
  | x :: xs, f, ks, μ, hs, hf, hk, hx, hl => by
    obtain ⟨u, μ1, e1, s1, b1⟩ := inner_s (k + 13) pk sz n h1 h24 n1 n3 hs
    have e1' : cl (k + 21) 15 [.loc p, .int ((pk : Nat) : Int), .int ((sz : Nat) : Int), .int ((n : Nat) : Int)] μ = .ok (enc u) μ1 := e1
    have hput := dk_put f ks x u
    have hlen : (dkE f ks).length < 1000000 := by
      have : (dkE f ks).length = ks.length := by simp [dkE]
      simp only [List.length_cons] at hl
      omega
    have hkey : keyD (.int ((x : Nat) : Int)) = some (.inl ((x : Nat) : Int)) := rfl
    have hk1 : ∀ i ∈ (if x ∈ ks then ks else ks ++ [x]), i < 5 := by
      intro i hi
      by_cases hc : x ∈ ks
      · rw [if_pos hc] at hi; exact hk i hi
      · rw [if_neg hc] at hi
        rcases List.mem_append.mp hi with h | h
        · exact hk i h
        · rw [List.mem_singleton.mp h]; exact hx x List.mem_cons_self
    have hk2 : ∀ i ∈ ks, i ∈ (if x ∈ ks then ks else ks ++ [x]) := by
      intro i hi
      by_cases hc : x ∈ ks
      · rw [if_pos hc]; exact hi
      · rw [if_neg hc]; exact List.mem_append.mpr (Or.inl hi)
    have hk3 : x ∈ (if x ∈ ks then ks else ks ++ [x]) := by
      by_cases hc : x ∈ ks
      · rw [if_pos hc]; exact hc
      · rw [if_neg hc]; exact List.mem_append.mpr (Or.inr (List.mem_singleton.mpr rfl))
    have hk4 : (if x ∈ ks then ks else ks ++ [x]).length ≤ ks.length + 1 := by
      by_cases hc : x ∈ ks
      · rw [if_pos hc]; omega
      · rw [if_neg hc]; simp
    have hf1 : ∀ i, TB (List.range n) 8 24 (updT f x u i) := fun i => by
      unfold updT
      by_cases hc : i = x
      · rw [if_pos hc]; exact b1
      · rw [if_neg hc]; exact hf i
    obtain ⟨f', ks', μ', e2, s2, g1, g2, g3, g4⟩ := in_l k n pk sz n1 n3 h1 h24 A0 A2 A8 A9 A10 A11 A12 A13 A14 xs (updT f x u) (if x ∈ ks then ks else ks ++ [x]) μ1 s1.sb hf1 hk1 (fun i h => hx i (List.mem_cons_of_mem _ h)) (by simp only [List.length_cons] at hl; omega)
    refine ⟨f', ks', μ', ?_, s1.trans s2, g1, g2, fun i h => g3 i (hk2 i h), fun i h => ?_⟩
    · have ei : iN (x :: xs) = .int ((x : Nat) : Int) :: iN xs := rfl
      rw [ei, forL_cons]
      have et : turn gl (cl (k + 21)) [7] l40_0 (.int ((x : Nat) : Int)) [A0, .val (.loc p), A2, .val (.int ((n : Nat) : Int)), .val (.int ((pk : Nat) : Int)), .val (.int ((sz : Nat) : Int)), .own (.dic (dkE f ks)), .un, A8, A9, A10, A11, A12, A13, A14] μ = .ok (.nx [A0, .val (.loc p), A2, .val (.int ((n : Nat) : Int)), .val (.int ((pk : Nat) : Int)), .val (.int ((sz : Nat) : Int)), .own (.dic (dkE (updT f x u) (if x ∈ ks then ks else ks ++ [x]))), .val (.int ((x : Nat) : Int)), A8, A9, A10, A11, A12, A13, A14]) μ1 := by
        rw [← hput]
        generalize dkE f ks = K at hlen ⊢
        generalize enc u = UU at *
        clear hput hf1 hf e2
        generalize cl (k + 21) = CL at *
        simp only [turn, l40_0, v_setT, List.set_cons_succ, List.set_cons_zero, v_ss1, v_ss0, v_dset, v_call, v_es1, v_es0, v_var, List.getElem?_cons_succ, List.getElem?_cons_zero, bind_ok, List.append_nil, v_arr4, e1', back_ok, hkey, hlen, if_true]
      rw [et]
      simp only [bind_ok, v_wipe1, v_wipe0, List.set_cons_succ, List.set_cons_zero]
      exact e2
    · rcases List.mem_cons.mp h with rfl | h
      · exact g3 _ hk3
      · exact g4 i h
theorem tb_wd {n : Nat} {t : T} (h : TB (List.range n) 8 24 t) : WD n t := ⟨h.full, lets_ltT t fun i hi => List.mem_range.mp (h.sub i hi), h.depth, Nat.le_trans h.leaves (by omega)⟩
/-- from the drawn outer tree on -/
theorem law_c (k n : Nat) (n1 : 1 ≤ n) (n3 : n ≤ 3) {p q : Nat} (f : Nat → T) (hf : ∀ i, TB (List.range n) 8 24 (f i)) (ks : List Nat) (hk : ∀ i ∈ ks, i < 5) (t : T) (ht : TB ks 8 241 t) (A0 A2 A4 A5 A7 A8 : Sl) {μ : Sto} (hs : Sb p q μ) : ((xSs gl (cl (k + 21)) (b40.drop 9) [A0, .val (.loc p), A2, .val (.int ((n : Nat) : Int)), A4, A5, .own (.dic (dkE f ks)), A7, A8, .val (enc t), .un, .un, .un, .un, .un] μ).bind (outF false)).All Yes Wn := by
  have hw : ∀ i, WD n (f i) := fun i => tb_wd (hf i)
  have hd : ∀ i, (f i).depth ≤ 8 := fun i => (hw i).depth
  obtain ⟨r, μ1, e1, h1, s1⟩ := draw_n (k + 20) hs (m := 6) (by decide) (by decide)
  have e1' : cl (k + 21) 1 [.loc p, .int 6] μ = .ok (.int ((r : Nat) : Int)) μ1 := e1
  obtain ⟨d, μ2, e2, s2, nd, bd⟩ := spoiled_b (k + 4) t ht.full (Nat.le_trans ht.depth (by omega)) (Nat.le_trans ht.leaves (by omega)) s1.sb
  have e2' : cl (k + 21) 20 [.loc p, enc t] μ1 = .ok d μ2 := e2
  have tailB := fun (d : D) (hn : nice d = true) (pth : List D) (lv : Nat) (hfa : fa 5 8 d [] 0 = (some pth, lv)) (μ : Sto) => tail_bad k hn hfa f hd ks A0 (.val (.loc p)) A2 (.val (.int ((n : Nat) : Int))) A4 A5 A7 A8 μ
  have tailO := fun (lv : Nat) (w : WD 5 t) (hfa : fa 5 8 (enc t) [] 0 = (none, lv)) (μ : Sto) => tail_ok k n n1 n3 w hfa f hw ks hk ht.sub A0 (.val (.loc p)) A2 A4 A5 A7 A8 μ
  have fin : ∀ (d : D) (μ : Sto), nice d = true → (d = enc t ∨ Bd d) → ((xSs gl (cl (k + 21)) (b40.drop 12) [A0, .val (.loc p), A2, .val (.int ((n : Nat) : Int)), A4, A5, .val (.dic (dkE f ks)), A7, A8, .val d, .val (.dic (dkE f ks)), .un, .un, .un, .un] μ).bind (outF false)).All Yes Wn := by
    intro d μ hn ho
    cases hfa : fa 5 8 d [] 0 with
    | mk o lv =>
      cases o with
      | some pth => exact tailB d hn pth lv hfa μ
      | none =>
        obtain ⟨u, rfl, fu, lu, du, hlv, h240⟩ := fa_none 5 8 d [] 0 lv hfa
        rcases ho with ho | ho
        · have := enc_inj u t ho
          subst this
          exact tailO lv ⟨fu, lu, du, by omega⟩ hfa μ
        · exact absurd rfl (ho u fu lu)
  have nt := nice_enc t ht.full
  have eb : b40.drop 9 = .ite (.cmp .eq (.call 1 [(.var 1), (.con (.int 6))] [] [0, 1]) (.con (.int 0))) [.asg [9] (.call 20 [(.var 1), (.var 9)] [] [0, 1])] [] :: .asg [10] (.dcp (.odic 6)) :: .frz 6 :: b40.drop 12 := rfl
  rw [eb]
  clear eb tailB tailO e1 e2 hf hw hd ht
  generalize b40.drop 12 = BT at *
  generalize dkE f ks = K at *
  generalize hTT : enc t = TT at *
  generalize cl (k + 21) = CL at *
  cases hr : decide (((r : Nat) : Int) = 0) with
  | true =>
    have := fin d μ2 nd (Or.inr bd)
    simp only [v_ss1, v_ss0, v_if, v_cond, v_cmp, v_asg, v_call, v_es1, v_es0, v_var, v_con, List.getElem?_cons_succ, List.getElem?_cons_zero, bind_ok, List.append_nil, v_arr2, e1', e2', back_ok, v_eqii, hr, orO_some, v_tbl, if_true, v_setT, List.set_cons_succ, List.set_cons_zero, v_dcp, v_odic, v_dcpR, v_frz]
    exact this
  | false =>
    have := fin TT μ1 nt (Or.inl rfl)
    simp only [v_ss1, v_ss0, v_if, v_cond, v_cmp, v_asg, v_call, v_es1, v_es0, v_var, v_con, List.getElem?_cons_succ, List.getElem?_cons_zero, bind_ok, List.append_nil, v_arr2, e1', back_ok, v_eqii, hr, orO_some, v_tbl, Bool.false_eq_true, if_false, v_setT, List.set_cons_succ, List.set_cons_zero, v_dcp, v_odic, v_dcpR, v_frz]
    exact this
/-- from the letters on -/
theorem law_b (k : Nat) {p q : Nat} (ls : List Nat) (hls : ∀ i ∈ ls, i < 5) (hne : ls ≠ []) (hll : ls.length ≤ 5) (A0 : Sl) {μ : Sto} (hs : Sb p q μ) : ((xSs gl (cl (k + 21)) (b40.drop 2) [A0, .val (.loc p), .val (.lst (iN ls)), .un, .un, .un, .un, .un, .un, .un, .un, .un, .un, .un, .un] μ).bind (outF false)).All Yes Wn := by
  obtain ⟨a, μ1, e1, h1, s1⟩ := draw_n (k + 20) hs (m := 3) (by decide) (by decide)
  obtain ⟨b, μ2, e2, h2, s2⟩ := draw_n (k + 20) s1.sb (m := 4) (by decide) (by decide)
  obtain ⟨c, μ3, e3, h3, s3⟩ := draw_n (k + 20) s2.sb (m := 24) (by decide) (by decide)
  obtain ⟨f, ks, μ4, e4, s4, hf, hk, _, hsub⟩ := in_l k (1 + a) b (1 + c) (by omega) (by omega) (by omega) (by omega) A0 (.val (.lst (iN ls))) .un .un .un .un .un .un .un ls (fun _ => .zero) [] μ3 s3.sb (fun _ => ⟨by simp [T.full], by simp [T.lets], by simp [T.depth], by simp [T.leaves]⟩) (by simp) hls (by simp; omega)
  obtain ⟨r, μ5, e5, h5, s5⟩ := draw_n (k + 20) s4.sb (m := 2) (by decide) (by decide)
  have hlen : (iN ls).length = ls.length := by simp [iN]
  have hpos : 0 < ls.length := List.length_pos_iff.mpr hne
  have hj : r * (ls.length / 2) < ls.length := by
    have : r = 0 ∨ r = 1 := by omega
    rcases this with rfl | rfl <;> omega
  have hdn : ls.drop (r * (ls.length / 2)) ≠ [] := fun e => by
    have := List.drop_eq_nil_iff.mp e
    omega
  obtain ⟨t, μ6, e6, s6, bt⟩ := outer_s (k + 13) hdn (by simp only [List.length_drop]; omega) b (1 + c) (by omega) (by omega) s5.sb
  have ht : TB ks 8 241 t := ⟨bt.full, fun i hi => hsub i (List.mem_of_mem_drop (bt.sub i hi)), bt.depth, bt.leaves⟩
  have tail := law_c k (1 + a) (by omega) (by omega) f hf ks hk t ht A0 (.val (.lst (iN ls))) (.val (.int ((b : Nat) : Int))) (.val (.int ((1 + c : Nat) : Int))) .un (.val (.lst (iN (ls.drop (r * (ls.length / 2)))))) s6.sb
  have e1' : cl (k + 21) 1 [.loc p, .int 3] μ = .ok (.int ((a : Nat) : Int)) μ1 := e1
  have e2' : cl (k + 21) 1 [.loc p, .int 4] μ1 = .ok (.int ((b : Nat) : Int)) μ2 := e2
  have e3' : cl (k + 21) 1 [.loc p, .int 24] μ2 = .ok (.int ((c : Nat) : Int)) μ3 := e3
  have e5' : cl (k + 21) 1 [.loc p, .int 2] μ4 = .ok (.int ((r : Nat) : Int)) μ5 := e5
  have e6' : cl (k + 21) 7 [.loc p, .lst (iN (ls.drop (r * (ls.length / 2)))), .int ((b : Nat) : Int), .int ((1 + c : Nat) : Int)] μ5 = .ok (enc t) μ6 := e6
  have hcut := cut_drop ls (r * (ls.length / 2)) (by omega)
  have a1 : (1 : Int) + ((a : Nat) : Int) = ((1 + a : Nat) : Int) := by omega
  have a2 : (1 : Int) + ((c : Nat) : Int) = ((1 + c : Nat) : Int) := by omega
  have f2 := fdiv_p (i := ((ls.length : Nat) : Int)) (j := 2) (by decide) (by decide)
  have m2 : binop .mul (.int ((r : Nat) : Int)) (.int (((ls.length : Nat) : Int) / 2)) = some (.int ((r * (ls.length / 2) : Nat) : Int)) := by
    rw [v_mulI2 _ _ (by have : r = 0 ∨ r = 1 := by omega
                        rcases this with rfl | rfl <;> decide)]
    have : ((r * (ls.length / 2) : Nat) : Int) = ((r : Nat) : Int) * (((ls.length : Nat) : Int) / 2) := by
      rw [Int.natCast_mul, Int.natCast_ediv]; rfl
    rw [this]
  have eb : b40.drop 2 = [.asg [3] (.bin .add (.con (.int 1)) (.call 1 [(.var 1), (.con (.int 3))] [] [0, 1])),
  .asg [4] (.call 1 [(.var 1), (.con (.int 4))] [] [0, 1]),
  .asg [5] (.bin .add (.con (.int 1)) (.call 1 [(.var 1), (.con (.int 24))] [] [0, 1])),
  .ownd 6,
  .forr [7] (.var 2) l40_0 [7]] ++ ([.asg [8] (.sl (.var 2) (some (.bin .mul (.call 1 [(.var 1), (.con (.int 2))] [] [0, 1]) (.bin .fdiv (.bi .len [(.var 2)]) (.con (.int 2))))) none),
  .asg [9] (.call 7 [(.var 1), (.var 8), (.var 4), (.var 5)] [] [0, 1, 2, 3])] ++ b40.drop 9) := rfl
  have hk0 : dkE (fun _ => T.zero) [] = [] := rfl
  rw [hk0] at e4
  rw [eb]
  clear eb e1 e2 e3 e5 e6 hf hk hsub bt ht hdn hj
  generalize b40.drop 9 = BT at *
  generalize l40_0 = LO at *
  generalize cl (k + 21) = CL at *
  generalize dkE f ks = K at *
  generalize iN (ls.drop (r * (ls.length / 2))) = LD at *
  generalize iN ls = LS at *
  generalize enc t = TT at *
  simp only [List.cons_append, List.nil_append]
  have g1 : xSs gl CL (.asg [3] (.bin .add (.con (.int 1)) (.call 1 [(.var 1), (.con (.int 3))] [] [0, 1])) :: .asg [4] (.call 1 [(.var 1), (.con (.int 4))] [] [0, 1]) :: .asg [5] (.bin .add (.con (.int 1)) (.call 1 [(.var 1), (.con (.int 24))] [] [0, 1])) :: .ownd 6 :: .forr [7] (.var 2) LO [7] :: .asg [8] (.sl (.var 2) (some (.bin .mul (.call 1 [(.var 1), (.con (.int 2))] [] [0, 1]) (.bin .fdiv (.bi .len [(.var 2)]) (.con (.int 2))))) none) :: .asg [9] (.call 7 [(.var 1), (.var 8), (.var 4), (.var 5)] [] [0, 1, 2, 3]) :: BT) [A0, .val (.loc p), .val (.lst LS), .un, .un, .un, .un, .un, .un, .un, .un, .un, .un, .un, .un] μ = xSs gl CL (.asg [8] (.sl (.var 2) (some (.bin .mul (.call 1 [(.var 1), (.con (.int 2))] [] [0, 1]) (.bin .fdiv (.bi .len [(.var 2)]) (.con (.int 2))))) none) :: .asg [9] (.call 7 [(.var 1), (.var 8), (.var 4), (.var 5)] [] [0, 1, 2, 3]) :: BT) [A0, .val (.loc p), .val (.lst LS), .val (.int ((1 + a : Nat) : Int)), .val (.int ((b : Nat) : Int)), .val (.int ((1 + c : Nat) : Int)), .own (.dic K), .un, .un, .un, .un, .un, .un, .un, .un] μ4 := by
    generalize (.asg [8] (.sl (.var 2) (some (.bin .mul (.call 1 [(.var 1), (.con (.int 2))] [] [0, 1]) (.bin .fdiv (.bi .len [(.var 2)]) (.con (.int 2))))) none) :: .asg [9] (.call 7 [(.var 1), (.var 8), (.var 4), (.var 5)] [] [0, 1, 2, 3]) :: BT : List S) = REST
    simp only [v_ss1, v_asg, v_call, v_es1, v_es0, v_var, v_con, v_bin, List.getElem?_cons_succ, List.getElem?_cons_zero, bind_ok, List.append_nil, v_arr2, e1', e2', e3', back_ok, v_addi, orO_some, a1, a2, v_setT, List.set_cons_succ, List.set_cons_zero, v_ownd, v_for, v_il, e4]
  rw [g1]
  simp only [v_ss1, v_asg, v_call, v_es1, v_es0, v_var, v_con, v_bin, v_bi, v_sl, v_lenl, List.getElem?_cons_succ, List.getElem?_cons_zero, bind_ok, List.append_nil, v_arr2, v_arr4, e5', back_ok, orO_some, hlen, f2, m2, v_o1, v_o0, intR, hcut, v_setT, List.set_cons_succ, List.set_cons_zero, e6']
  exact tail
theorem main' (k : Nat) (ns : List Int) (hl : ns.length ≤ 63) : (cl (k + 22) 40 [.lst (ns.map D.int)] (fun _ => none)).All (fun d _ => d = .bl true) (fun _ _ _ => False) := by
  have es := start_k (k + 20) ns hl (fun _ => none)
  have e34 : cl (k + 22) 40 [.lst (ns.map D.int)] (fun _ => none) = (xSs gl (cl (k + 21)) b40 [.val (.lst (ns.map D.int)), .un, .un, .un, .un, .un, .un, .un, .un, .un, .un, .un, .un, .un, .un] (fun _ => none)).bind (outF false) := rfl
  have eb : b40 = .asg [1] (.call 0 [(.var 0)] [] [0]) :: .asg [2] (.call 2 [(.var 1), (.bin .add (.con (.int 1)) (.call 1 [(.var 1), (.con (.int 4))] [] [0, 1]))] [] [0, 1]) :: b40.drop 2 := rfl
  have lp := fun (p q : Nat) (ls : List Nat) (a : ∀ i ∈ ls, i < 5) (b : ls ≠ []) (c : ls.length ≤ 5) (μ : Sto) (hs : Sb p q μ) => law_b k ls a b c (.val (.lst (ns.map D.int))) hs
  have es' : (cl (k + 21) 0 [.lst (ns.map D.int)] (fun _ => none)).All (fun d μ' => ∃ p q, d = .loc p ∧ Sb p q μ' ∧ Frm [] (fun _ => none) μ') Wn := es
  have dr : ∀ p q μ, Sb p q μ → ∃ r μ', cl (k + 21) 1 [.loc p, .int 4] μ = .ok (.int ((r : Nat) : Int)) μ' ∧ r < 4 ∧ S2 p q μ μ' := fun p q μ h => draw_n (k + 20) h (m := 4) (by decide) (by decide)
  have sm : ∀ (p q m : Nat) (μ : Sto), m ≤ 5 → Sb p q μ → (cl (k + 21) 2 [.loc p, .int ((m : Nat) : Int)] μ).All (fun d μ' => ∃ ls : List Nat, d = .lst (iN ls) ∧ ls.length = m ∧ (∀ i ∈ ls, i < 5) ∧ S2 p q μ μ') Wn := fun p q m μ hm h => some_s (k + 19) hm h
  rw [e34, eb]
  clear e34 eb es
  generalize b40.drop 2 = BT at lp ⊢
  generalize cl (k + 21) = CL at *
  rw [v_ss1, bind_assoc]
  have e0 : xS gl CL (.asg [1] (.call 0 [(.var 0)] [] [0])) [.val (.lst (ns.map D.int)), .un, .un, .un, .un, .un, .un, .un, .un, .un, .un, .un, .un, .un, .un] (fun _ => none) = ((CL 0 [.lst (ns.map D.int)] (fun _ => none)).back [.val (.lst (ns.map D.int)), .un, .un, .un, .un, .un, .un, .un, .un, .un, .un, .un, .un, .un, .un]).bind fun x μ => .ok (.nx [.val (.lst (ns.map D.int)), .val x, .un, .un, .un, .un, .un, .un, .un, .un, .un, .un, .un, .un, .un]) μ := by
    simp only [v_asg, v_call, v_es1, v_es0, v_var, List.getElem?_cons_zero, bind_ok, List.append_nil, v_arr1]
    rfl
  rw [e0, bind_assoc]
  refine all_call es' fun d μ' h => ?_
  obtain ⟨p, q, rfl, hs, _⟩ := h
  obtain ⟨r, μ1, e1, h1, s1⟩ := dr p q μ' hs
  have hadd : (1 : Int) + ((r : Nat) : Int) = ((r + 1 : Nat) : Int) := by omega
  have hsome := sm p q (r + 1) μ1 (by omega) s1.sb
  generalize ns.map D.int = LL at *
  simp only [bind_ok]
  rw [v_ss1, bind_assoc]
  simp only [v_asg, v_call, v_es1, v_es0, v_var, v_con, v_bin, List.getElem?_cons_succ, List.getElem?_cons_zero, bind_ok, List.append_nil, v_arr2, e1, back_ok, v_addi, hadd, orO_some]
  rw [bind_assoc]
  refine all_call hsome fun d μ2 h2 => ?_
  obtain ⟨ls, rfl, l2, h5, s2⟩ := h2
  simp only [v_setT, List.set_cons_succ, List.set_cons_zero, bind_ok]
  exact lp p q ls h5 (fun e => by rw [e] at l2; simp at l2) (by omega) μ2 s2.sb
theorem main (ns : List Int) (hl : ns.length ≤ 63) : (call gl fns 60 40 [.lst (ns.map D.int)] (fun _ => none)).All (fun d _ => d = .bl true) (fun _ _ _ => False) := main' 38 ns hl

end Bs.K25
namespace Bs.K25
open PySem PySem.Spec PyProof.Rows L2 Bs
def hE0 : He.DefD := ⟨("_law_source", none), "_law_source", "_law_source", C8.fnArgs (top 30), C8.fnBody (top 30), C8.fnScope (top 30), [], []⟩
def hE1 : He.DefD := ⟨("_law_draw", none), "_law_draw", "_law_draw", C8.fnArgs (top 31), C8.fnBody (top 31), C8.fnScope (top 31), [], []⟩
def hE2 : He.DefD := ⟨("_law_some", none), "_law_some", "_law_some", C8.fnArgs (top 34), C8.fnBody (top 34), C8.fnScope (top 34), [], []⟩
def hE3 : He.DefD := ⟨("_law_leaf", none), "_law_leaf", "_law_leaf", C8.fnArgs (top 32), C8.fnBody (top 32), C8.fnScope (top 32), [], []⟩
def hE4 : He.DefD := ⟨("_law_tree", none), "_law_tree", "_law_tree", C8.fnArgs (top 33), C8.fnBody (top 33), C8.fnScope (top 33), [], []⟩
def hE5 : He.DefD := ⟨("_law_row", none), "_law_row", "_law_row", C8.fnArgs (top 47), C8.fnBody (top 47), C8.fnScope (top 47), [], []⟩
def hE6 : He.DefD := ⟨("_law_wrapped", none), "_law_wrapped", "_law_wrapped", C8.fnArgs (top 46), C8.fnBody (top 46), C8.fnScope (top 46), [], []⟩
def hE7 : He.DefD := ⟨("_law_outer", none), "_law_outer", "_law_outer", C8.fnArgs (top 48), C8.fnBody (top 48), C8.fnScope (top 48), [], []⟩
def hE8 : He.DefD := ⟨("_law_parts", none), "_law_parts", "_law_parts", C8.fnArgs (top 35), C8.fnBody (top 35), C8.fnScope (top 35), [], []⟩
def hE9 : He.DefD := ⟨("_law_node_fits", none), "_law_node_fits", "_law_node_fits", C8.fnArgs (top 44), C8.fnBody (top 44), C8.fnScope (top 44), [], []⟩
def hE10 : He.DefD := ⟨("_law_wrong", none), "_law_wrong", "_law_wrong", C8.fnArgs (top 45), C8.fnBody (top 45), C8.fnScope (top 45), [], []⟩
def hE11 : He.DefD := ⟨("_law_paths", none), "_law_paths", "_law_paths", C8.fnArgs (top 37), C8.fnBody (top 37), C8.fnScope (top 37), [], []⟩
def hE12 : He.DefD := ⟨("_law_at", none), "_law_at", "_law_at", C8.fnArgs (top 38), C8.fnBody (top 38), C8.fnScope (top 38), [], []⟩
def hE13 : He.DefD := ⟨("_law_size", none), "_law_size", "_law_size", C8.fnArgs (top 36), C8.fnBody (top 36), C8.fnScope (top 36), [], []⟩
def hE14 : He.DefD := ⟨("_law_due", none), "_law_due", "_law_due", C8.fnArgs (top 50), C8.fnBody (top 50), C8.fnScope (top 50), [], []⟩
def hE15 : He.DefD := ⟨("_law_inner", none), "_law_inner", "_law_inner", C8.fnArgs (top 49), C8.fnBody (top 49), C8.fnScope (top 49), [], []⟩
def hE16 : He.DefD := ⟨("_law_drawn_path", none), "_law_drawn_path", "_law_drawn_path", C8.fnArgs (top 40), C8.fnBody (top 40), C8.fnScope (top 40), [], []⟩
def hE17 : He.DefD := ⟨("_law_set", none), "_law_set", "_law_set", C8.fnArgs (top 39), C8.fnBody (top 39), C8.fnScope (top 39), [], []⟩
def hE18 : He.DefD := ⟨("_law_bad", none), "_law_bad", "_law_bad", C8.fnArgs (top 41), C8.fnBody (top 41), C8.fnScope (top 41), [], []⟩
def hE19 : He.DefD := ⟨("_law_apart", none), "_law_apart", "_law_apart", C8.fnArgs (top 42), C8.fnBody (top 42), C8.fnScope (top 42), [], []⟩
def hE20 : He.DefD := ⟨("_law_spoiled", none), "_law_spoiled", "_law_spoiled", C8.fnArgs (top 43), C8.fnBody (top 43), C8.fnScope (top 43), [], []⟩
def hE21 : He.DefD := ⟨("is_leaf", none), "is_leaf", "is_leaf", C8.fnArgs (top 17), C8.fnBody (top 17), C8.fnScope (top 17), [], []⟩
def hE22 : He.DefD := ⟨("parts_of", none), "parts_of", "parts_of", C8.fnArgs (top 18), C8.fnBody (top 18), C8.fnScope (top 18), [], []⟩
def hE23 : He.DefD := ⟨("is_number", none), "is_number", "is_number", C8.fnArgs (top 15), C8.fnBody (top 15), C8.fnScope (top 15), [], []⟩
def hE24 : He.DefD := ⟨("node_fits", none), "node_fits", "node_fits", C8.fnArgs (top 16), C8.fnBody (top 16), C8.fnScope (top 16), [], []⟩
def hE25 : He.DefD := ⟨("fault_from", none), "fault_from", "fault_from", C8.fnArgs (top 19), C8.fnBody (top 19), C8.fnScope (top 19), [], []⟩
def hE26 : He.DefD := ⟨("check_tree", none), "check_tree", "check_tree", C8.fnArgs (top 20), C8.fnBody (top 20), C8.fnScope (top 20), [], []⟩
def hE27 : He.DefD := ⟨("filled_in", none), "filled_in", "filled_in", C8.fnArgs (top 26), C8.fnBody (top 26), C8.fnScope (top 26), [], []⟩
def hE28 : He.DefD := ⟨("size_of", none), "size_of", "size_of", C8.fnArgs (top 21), C8.fnBody (top 21), C8.fnScope (top 21), [], []⟩
def hE29 : He.DefD := ⟨("check_size", none), "check_size", "check_size", C8.fnArgs (top 27), C8.fnBody (top 27), C8.fnScope (top 27), [], []⟩
def hE30 : He.DefD := ⟨("put_in", none), "put_in", "put_in", C8.fnArgs (top 28), C8.fnBody (top 28), C8.fnScope (top 28), [], []⟩
def hE31 : He.DefD := ⟨("_law_is_filled", none), "_law_is_filled", "_law_is_filled", C8.fnArgs (top 51), C8.fnBody (top 51), C8.fnScope (top 51), [], []⟩
def hE32 : He.DefD := ⟨("_law_points", none), "_law_points", "_law_points", C8.fnArgs (top 52), C8.fnBody (top 52), C8.fnScope (top 52), [], []⟩
def hE33 : He.DefD := ⟨("some_size", none), "some_size", "some_size", C8.fnArgs (top 9), C8.fnBody (top 9), C8.fnScope (top 9), [], []⟩
def hE34 : He.DefD := ⟨("exchanged", none), "exchanged", "exchanged", C8.fnArgs (top 11), C8.fnBody (top 11), C8.fnScope (top 11), [], []⟩
def hE35 : He.DefD := ⟨("sign_of", none), "sign_of", "sign_of", C8.fnArgs (top 22), C8.fnBody (top 22), C8.fnScope (top 22), [], []⟩
def hE36 : He.DefD := ⟨("signs_fit", none), "signs_fit", "signs_fit", C8.fnArgs (top 7), C8.fnBody (top 7), C8.fnScope (top 7), [], []⟩
def hE37 : He.DefD := ⟨("is_point", none), "is_point", "is_point", C8.fnArgs (top 8), C8.fnBody (top 8), C8.fnScope (top 8), [], []⟩
def hE38 : He.DefD := ⟨("at_point", none), "at_point", "at_point", C8.fnArgs (top 23), C8.fnBody (top 23), C8.fnScope (top 23), [], []⟩
def hE39 : He.DefD := ⟨("_law_agrees", none), "_law_agrees", "_law_agrees", C8.fnArgs (top 53), C8.fnBody (top 53), C8.fnScope (top 53), [], []⟩
def hE40 : He.DefD := ⟨("law", none), "law", "law", C8.fnArgs (top 54), C8.fnBody (top 54), C8.fnScope (top 54), [], []⟩
def ini8 : Stmt := L2.inClass (top 3) 0
def hI8 : He.DefD := ⟨("InvalidTree", some "__init__"), "__init__", "InvalidTree.__init__", C8.fnArgs ini8, C8.fnBody ini8, C8.fnScope ini8, [], []⟩
def ini28 : Stmt := L2.inClass (top 4) 0
def hI28 : He.DefD := ⟨("LimitExceeded", some "__init__"), "__init__", "LimitExceeded.__init__", C8.fnArgs ini28, C8.fnBody ini28, C8.fnScope ini28, [], []⟩
def ini2 : Stmt := L2.inClass (top 2) 0
def hI2 : He.DefD := ⟨("InvalidPoint", some "__init__"), "__init__", "InvalidPoint.__init__", C8.fnArgs ini2, C8.fnBody ini2, C8.fnScope ini2, [], []⟩
def hfn : List He.DefD := [hE0, hE1, hE2, hE3, hE4, hE5, hE6, hE7, hE8, hE9, hE10, hE11, hE12, hE13, hE14, hE15, hE16, hE17, hE18, hE19, hE20, hE21, hE22, hE23, hE24, hE25, hE26, hE27, hE28, hE29, hE30, hE31, hE32, hE33, hE34, hE35, hE36, hE37, hE38, hE39, hE40, hI8, hI28, hI2]
def tcs : List (Str × D) := []
def exB (K : PySem.W.Frag) : Bool := (factB K && xcs.all (xcB K)) && tcs.all fun q => conB K q.2 (.ref (He.ga K q.1))
def hfa : List He.Fa := [.glo "_law_source", .glo "_law_draw", .glo "_law_some", .glo "_law_leaf", .glo "_law_tree", .glo "_law_row", .glo "_law_wrapped", .glo "_law_outer", .glo "_law_parts", .glo "_law_node_fits", .glo "_law_wrong", .glo "_law_paths", .glo "_law_at", .glo "_law_size", .glo "_law_due", .glo "_law_inner", .glo "_law_drawn_path", .glo "_law_set", .glo "_law_bad", .glo "_law_apart", .glo "_law_spoiled", .glo "is_leaf", .glo "parts_of", .glo "is_number", .glo "node_fits", .glo "fault_from", .glo "check_tree", .glo "filled_in", .glo "size_of", .glo "check_size", .glo "put_in", .glo "_law_is_filled", .glo "_law_points", .glo "some_size", .glo "exchanged", .glo "sign_of", .glo "signs_fit", .glo "is_point", .glo "at_point", .glo "_law_agrees", .glo "law", .free "len", .free "abs", .free "max", .free "min", .free "int", .free "str", .free "list", .free "tuple", .free "sum", .free "any", .free "all", .free "isinstance", .free "range", .free "enumerate", .free "zip", .free "bool", .free "dict", .free "sorted", .free "set", .int "MOST_DEEP" 8, .int "MOST_LEAVES" 240, .int "LETTERS" 5, .int "MOST_INPUTS" 5, .glo "InvalidTree", .glo "LimitExceeded", .glo "InvalidPoint"]
abbrev R : PySem.W.OpenRow := PySem.W.OpenLaw.row PySem.Challenge.rw_burstshop_k25_trees_put_in
abbrev hk : PySem.W.Hook := Bs.hookB 55 hfa hfn exB
def ob (s : PySem.W.SharedT) : Bs.AlB := Bs.obsB 55 hfa hfn exB (HandSHeadRun.getT s)
theorem ob_eq (s : PySem.W.SharedT) : ob s = hk.obs s.abs := Bs.obsB_eq (HandSHeadRun.getT_eq s)
def loose0 : List Str := ["ShopError", "InvalidPoint", "InvalidTree", "LimitExceeded", "MOST_INPUTS", "signs_fit", "is_point", "some_size", "exchanged", "MOST_LEAVES", "MOST_DEEP", "is_number", "node_fits", "is_leaf", "parts_of", "fault_from", "check_tree", "size_of", "sign_of", "at_point", "LETTERS", "filled_in", "check_size", "put_in", "_law_source", "_law_draw", "_law_leaf", "_law_tree", "_law_some", "_law_parts"]
def loose1 : List Str := ["_law_size", "_law_paths", "_law_at", "_law_set", "_law_drawn_path", "_law_bad", "_law_apart", "_law_spoiled", "_law_node_fits", "_law_wrong", "_law_wrapped", "_law_row", "_law_outer", "_law_inner", "_law_due", "_law_is_filled", "_law_points", "_law_agrees"]
abbrev loose : List Str := loose0 ++ loose1
theorem run (w : World) : HandSHeadRun.RunEq R (PySem.W.view R.prog [54]) hk ob 20000 loose w := by
  intro os
  kernel_rfl
end Bs.K25
namespace Bs.K25
open PySem PySem.Spec PyProof.Rows L2 Bs
theorem sh0 : ShOk d1 ⟨1, 2, [], [0, 1]⟩ := ⟨fun _ _ _ _ _ _ us ws h1 h2 => match us, ws, h1, h2 with | [_, _], [], _, _ => rfl, fun xs h => match xs, h with | [_, _], _ => rfl⟩
theorem sh1 : ShOk d3 ⟨3, 2, [], [0, 1]⟩ := ⟨fun _ _ _ _ _ _ us ws h1 h2 => match us, ws, h1, h2 with | [_, _], [], _, _ => rfl, fun xs h => match xs, h with | [_, _], _ => rfl⟩
theorem sh2 : ShOk d4 ⟨4, 3, [], [0, 1, 2]⟩ := ⟨fun _ _ _ _ _ _ us ws h1 h2 => match us, ws, h1, h2 with | [_, _, _], [], _, _ => rfl, fun xs h => match xs, h with | [_, _, _], _ => rfl⟩
theorem sh3 : ShOk d5 ⟨5, 3, [], [0, 1, 2]⟩ := ⟨fun _ _ _ _ _ _ us ws h1 h2 => match us, ws, h1, h2 with | [_, _, _], [], _, _ => rfl, fun xs h => match xs, h with | [_, _, _], _ => rfl⟩
theorem sh4 : ShOk d6 ⟨6, 3, [], [0, 1, 2]⟩ := ⟨fun _ _ _ _ _ _ us ws h1 h2 => match us, ws, h1, h2 with | [_, _, _], [], _, _ => rfl, fun xs h => match xs, h with | [_, _, _], _ => rfl⟩
theorem sh5 : ShOk d9 ⟨9, 2, [], [0, 1]⟩ := ⟨fun _ _ _ _ _ _ us ws h1 h2 => match us, ws, h1, h2 with | [_, _], [], _, _ => rfl, fun xs h => match xs, h with | [_, _], _ => rfl⟩
theorem sh6 : ShOk d8 ⟨8, 1, [], [0]⟩ := ⟨fun _ _ _ _ _ _ us ws h1 h2 => match us, ws, h1, h2 with | [_], [], _, _ => rfl, fun xs h => match xs, h with | [_], _ => rfl⟩
theorem sh7 : ShOk d11 ⟨11, 2, [], [0, 1]⟩ := ⟨fun _ _ _ _ _ _ us ws h1 h2 => match us, ws, h1, h2 with | [_, _], [], _, _ => rfl, fun xs h => match xs, h with | [_, _], _ => rfl⟩
theorem sh8 : ShOk d13 ⟨13, 1, [], [0]⟩ := ⟨fun _ _ _ _ _ _ us ws h1 h2 => match us, ws, h1, h2 with | [_], [], _, _ => rfl, fun xs h => match xs, h with | [_], _ => rfl⟩
theorem sh9 : ShOk d10 ⟨10, 2, [], [0, 1]⟩ := ⟨fun _ _ _ _ _ _ us ws h1 h2 => match us, ws, h1, h2 with | [_, _], [], _, _ => rfl, fun xs h => match xs, h with | [_, _], _ => rfl⟩
theorem sh10 : ShOk d12 ⟨12, 2, [], [0, 1]⟩ := ⟨fun _ _ _ _ _ _ us ws h1 h2 => match us, ws, h1, h2 with | [_, _], [], _, _ => rfl, fun xs h => match xs, h with | [_, _], _ => rfl⟩
theorem sh11 : ShOk d17 ⟨17, 3, [], [0, 1, 2]⟩ := ⟨fun _ _ _ _ _ _ us ws h1 h2 => match us, ws, h1, h2 with | [_, _, _], [], _, _ => rfl, fun xs h => match xs, h with | [_, _, _], _ => rfl⟩
theorem sh12 : ShOk d16 ⟨16, 2, [], [0, 1]⟩ := ⟨fun _ _ _ _ _ _ us ws h1 h2 => match us, ws, h1, h2 with | [_, _], [], _, _ => rfl, fun xs h => match xs, h with | [_, _], _ => rfl⟩
theorem sh13 : ShOk d18 ⟨18, 2, [], [0, 1]⟩ := ⟨fun _ _ _ _ _ _ us ws h1 h2 => match us, ws, h1, h2 with | [_, _], [], _, _ => rfl, fun xs h => match xs, h with | [_, _], _ => rfl⟩
theorem sh14 : ShOk d19 ⟨19, 2, [], [0, 1]⟩ := ⟨fun _ _ _ _ _ _ us ws h1 h2 => match us, ws, h1, h2 with | [_, _], [], _, _ => rfl, fun xs h => match xs, h with | [_, _], _ => rfl⟩
theorem sh15 : ShOk d21 ⟨21, 1, [], [0]⟩ := ⟨fun _ _ _ _ _ _ us ws h1 h2 => match us, ws, h1, h2 with | [_], [], _, _ => rfl, fun xs h => match xs, h with | [_], _ => rfl⟩
theorem sh16 : ShOk d23 ⟨23, 1, [], [0]⟩ := ⟨fun _ _ _ _ _ _ us ws h1 h2 => match us, ws, h1, h2 with | [_], [], _, _ => rfl, fun xs h => match xs, h with | [_], _ => rfl⟩
theorem sh17 : ShOk d24 ⟨24, 2, [], [0, 1]⟩ := ⟨fun _ _ _ _ _ _ us ws h1 h2 => match us, ws, h1, h2 with | [_, _], [], _, _ => rfl, fun xs h => match xs, h with | [_, _], _ => rfl⟩
theorem sh18 : ShOk d25 ⟨25, 4, [], [0, 1, 2, 3]⟩ := ⟨fun _ _ _ _ _ _ us ws h1 h2 => match us, ws, h1, h2 with | [_, _, _, _], [], _, _ => rfl, fun xs h => match xs, h with | [_, _, _, _], _ => rfl⟩
theorem sh19 : ShOk d22 ⟨22, 1, [], [0]⟩ := ⟨fun _ _ _ _ _ _ us ws h1 h2 => match us, ws, h1, h2 with | [_], [], _, _ => rfl, fun xs h => match xs, h with | [_], _ => rfl⟩
theorem sh20 : ShOk d27 ⟨27, 2, [], [0, 1]⟩ := ⟨fun _ _ _ _ _ _ us ws h1 h2 => match us, ws, h1, h2 with | [_, _], [], _, _ => rfl, fun xs h => match xs, h with | [_, _], _ => rfl⟩
theorem sh21 : ShOk d28 ⟨28, 1, [], [0]⟩ := ⟨fun _ _ _ _ _ _ us ws h1 h2 => match us, ws, h1, h2 with | [_], [], _, _ => rfl, fun xs h => match xs, h with | [_], _ => rfl⟩
theorem sh22 : ShOk d26 ⟨26, 2, [], [0, 1]⟩ := ⟨fun _ _ _ _ _ _ us ws h1 h2 => match us, ws, h1, h2 with | [_, _], [], _, _ => rfl, fun xs h => match xs, h with | [_, _], _ => rfl⟩
theorem sh23 : ShOk d29 ⟨29, 1, [], [0]⟩ := ⟨fun _ _ _ _ _ _ us ws h1 h2 => match us, ws, h1, h2 with | [_], [], _, _ => rfl, fun xs h => match xs, h with | [_], _ => rfl⟩
theorem sh24 : ShOk d31 ⟨31, 3, [], [0, 1, 2]⟩ := ⟨fun _ _ _ _ _ _ us ws h1 h2 => match us, ws, h1, h2 with | [_, _, _], [], _, _ => rfl, fun xs h => match xs, h with | [_, _, _], _ => rfl⟩
theorem sh25 : ShOk d35 ⟨35, 2, [], [0, 1]⟩ := ⟨fun _ _ _ _ _ _ us ws h1 h2 => match us, ws, h1, h2 with | [_, _], [], _, _ => rfl, fun xs h => match xs, h with | [_, _], _ => rfl⟩
theorem sh26 : ShOk d34 ⟨34, 1, [], [0]⟩ := ⟨fun _ _ _ _ _ _ us ws h1 h2 => match us, ws, h1, h2 with | [_], [], _, _ => rfl, fun xs h => match xs, h with | [_], _ => rfl⟩
theorem sh27 : ShOk d36 ⟨36, 3, [], [0, 1, 2]⟩ := ⟨fun _ _ _ _ _ _ us ws h1 h2 => match us, ws, h1, h2 with | [_, _, _], [], _, _ => rfl, fun xs h => match xs, h with | [_, _, _], _ => rfl⟩
theorem sh28 : ShOk d33 ⟨33, 1, [], [0]⟩ := ⟨fun _ _ _ _ _ _ us ws h1 h2 => match us, ws, h1, h2 with | [_], [], _, _ => rfl, fun xs h => match xs, h with | [_], _ => rfl⟩
theorem sh29 : ShOk d37 ⟨37, 2, [], [0, 1]⟩ := ⟨fun _ _ _ _ _ _ us ws h1 h2 => match us, ws, h1, h2 with | [_, _], [], _, _ => rfl, fun xs h => match xs, h with | [_, _], _ => rfl⟩
theorem sh30 : ShOk d38 ⟨38, 2, [], [0, 1]⟩ := ⟨fun _ _ _ _ _ _ us ws h1 h2 => match us, ws, h1, h2 with | [_, _], [], _, _ => rfl, fun xs h => match xs, h with | [_, _], _ => rfl⟩
theorem sh31 : ShOk d32 ⟨32, 1, [], [0]⟩ := ⟨fun _ _ _ _ _ _ us ws h1 h2 => match us, ws, h1, h2 with | [_], [], _, _ => rfl, fun xs h => match xs, h with | [_], _ => rfl⟩
theorem sh32 : ShOk d0 ⟨0, 1, [], [0]⟩ := ⟨fun _ _ _ _ _ _ us ws h1 h2 => match us, ws, h1, h2 with | [_], [], _, _ => rfl, fun xs h => match xs, h with | [_], _ => rfl⟩
theorem sh33 : ShOk d2 ⟨2, 2, [], [0, 1]⟩ := ⟨fun _ _ _ _ _ _ us ws h1 h2 => match us, ws, h1, h2 with | [_, _], [], _, _ => rfl, fun xs h => match xs, h with | [_, _], _ => rfl⟩
theorem sh34 : ShOk d15 ⟨15, 4, [], [0, 1, 2, 3]⟩ := ⟨fun _ _ _ _ _ _ us ws h1 h2 => match us, ws, h1, h2 with | [_, _, _, _], [], _, _ => rfl, fun xs h => match xs, h with | [_, _, _, _], _ => rfl⟩
theorem sh35 : ShOk d7 ⟨7, 4, [], [0, 1, 2, 3]⟩ := ⟨fun _ _ _ _ _ _ us ws h1 h2 => match us, ws, h1, h2 with | [_, _, _, _], [], _, _ => rfl, fun xs h => match xs, h with | [_, _, _, _], _ => rfl⟩
theorem sh36 : ShOk d20 ⟨20, 2, [], [0, 1]⟩ := ⟨fun _ _ _ _ _ _ us ws h1 h2 => match us, ws, h1, h2 with | [_, _], [], _, _ => rfl, fun xs h => match xs, h with | [_, _], _ => rfl⟩
theorem sh37 : ShOk d14 ⟨14, 2, [], [0, 1]⟩ := ⟨fun _ _ _ _ _ _ us ws h1 h2 => match us, ws, h1, h2 with | [_, _], [], _, _ => rfl, fun xs h => match xs, h with | [_, _], _ => rfl⟩
theorem sh38 : ShOk d30 ⟨30, 0, ["tree", "trees"], [0, 1]⟩ := ⟨fun _ _ _ _ _ _ us ws h1 h2 => match us, ws, h1, h2 with | [], [_, _], _, _ => rfl, fun xs h => match xs, h with | [_, _], _ => rfl⟩
theorem sh39 : ShOk d39 ⟨39, 4, [], [0, 1, 2, 3]⟩ := ⟨fun _ _ _ _ _ _ us ws h1 h2 => match us, ws, h1, h2 with | [_, _, _, _], [], _, _ => rfl, fun xs h => match xs, h with | [_, _, _, _], _ => rfl⟩
theorem shs_ok : ∀ sh ∈ shs, ∀ d, drs[sh.f]? = some d → ShOk d sh := by
  intro sh h d e
  simp only [shs, List.mem_cons, List.not_mem_nil, or_false] at h
  rcases h with rfl | rfl | rfl | rfl | rfl | rfl | rfl | rfl | rfl | rfl | rfl | rfl | rfl | rfl | rfl | rfl | rfl | rfl | rfl | rfl | rfl | rfl | rfl | rfl | rfl | rfl | rfl | rfl | rfl | rfl | rfl | rfl | rfl | rfl | rfl | rfl | rfl | rfl | rfl | rfl
  · cases e; exact sh0
  · cases e; exact sh1
  · cases e; exact sh2
  · cases e; exact sh3
  · cases e; exact sh4
  · cases e; exact sh5
  · cases e; exact sh6
  · cases e; exact sh7
  · cases e; exact sh8
  · cases e; exact sh9
  · cases e; exact sh10
  · cases e; exact sh11
  · cases e; exact sh12
  · cases e; exact sh13
  · cases e; exact sh14
  · cases e; exact sh15
  · cases e; exact sh16
  · cases e; exact sh17
  · cases e; exact sh18
  · cases e; exact sh19
  · cases e; exact sh20
  · cases e; exact sh21
  · cases e; exact sh22
  · cases e; exact sh23
  · cases e; exact sh24
  · cases e; exact sh25
  · cases e; exact sh26
  · cases e; exact sh27
  · cases e; exact sh28
  · cases e; exact sh29
  · cases e; exact sh30
  · cases e; exact sh31
  · cases e; exact sh32
  · cases e; exact sh33
  · cases e; exact sh34
  · cases e; exact sh35
  · cases e; exact sh36
  · cases e; exact sh37
  · cases e; exact sh38
  · cases e; exact sh39
theorem facts {P : Program} {w : World} {K : PySem.W.Frag} {h : Heap} {mg : Str → Option Value} {f : Addr} (X0 : K.In h) (G : h.Ns mainGlobals mg) (hf : mg ("law" : Str) = some (.ref f)) (c : He.SaysD hfa hfn K) (cx : exB K = true) (k : Nat) :
    ∃ fd : FuncData, (∀ (s : Shared) (v : Value), BindsTo s fd ⟨[v], []⟩ [("_law_script", v)]) ∧ ∀ base : Heap, K.In base → base.Ns mainGlobals mg → FnOk P w K mg base C8.CX0 (k + 2) f fd ["_law_script"] (fun vs H Q _ => spF K (call gl fns k 40) 1 false vs H Q fun _ _ _ => False) := by
  have hdef : ∀ (f : Nat) d, drs[f]? = some d → ∃ a fd, FD K d a fd ∧ mg d.I.name = some (.ref a) := by
    intro f d hd
    match f, hd with
    | 0, hd => cases hd; obtain ⟨fd, F⟩ := c.def_ 0 (d := hE0) rfl; exact ⟨_, fd, F, He.glo_ok X0 G (c.fact 0 (f := .glo "_law_source") rfl)⟩
    | 1, hd => cases hd; obtain ⟨fd, F⟩ := c.def_ 1 (d := hE1) rfl; exact ⟨_, fd, F, He.glo_ok X0 G (c.fact 1 (f := .glo "_law_draw") rfl)⟩
    | 2, hd => cases hd; obtain ⟨fd, F⟩ := c.def_ 2 (d := hE2) rfl; exact ⟨_, fd, F, He.glo_ok X0 G (c.fact 2 (f := .glo "_law_some") rfl)⟩
    | 3, hd => cases hd; obtain ⟨fd, F⟩ := c.def_ 3 (d := hE3) rfl; exact ⟨_, fd, F, He.glo_ok X0 G (c.fact 3 (f := .glo "_law_leaf") rfl)⟩
    | 4, hd => cases hd; obtain ⟨fd, F⟩ := c.def_ 4 (d := hE4) rfl; exact ⟨_, fd, F, He.glo_ok X0 G (c.fact 4 (f := .glo "_law_tree") rfl)⟩
    | 5, hd => cases hd; obtain ⟨fd, F⟩ := c.def_ 5 (d := hE5) rfl; exact ⟨_, fd, F, He.glo_ok X0 G (c.fact 5 (f := .glo "_law_row") rfl)⟩
    | 6, hd => cases hd; obtain ⟨fd, F⟩ := c.def_ 6 (d := hE6) rfl; exact ⟨_, fd, F, He.glo_ok X0 G (c.fact 6 (f := .glo "_law_wrapped") rfl)⟩
    | 7, hd => cases hd; obtain ⟨fd, F⟩ := c.def_ 7 (d := hE7) rfl; exact ⟨_, fd, F, He.glo_ok X0 G (c.fact 7 (f := .glo "_law_outer") rfl)⟩
    | 8, hd => cases hd; obtain ⟨fd, F⟩ := c.def_ 8 (d := hE8) rfl; exact ⟨_, fd, F, He.glo_ok X0 G (c.fact 8 (f := .glo "_law_parts") rfl)⟩
    | 9, hd => cases hd; obtain ⟨fd, F⟩ := c.def_ 9 (d := hE9) rfl; exact ⟨_, fd, F, He.glo_ok X0 G (c.fact 9 (f := .glo "_law_node_fits") rfl)⟩
    | 10, hd => cases hd; obtain ⟨fd, F⟩ := c.def_ 10 (d := hE10) rfl; exact ⟨_, fd, F, He.glo_ok X0 G (c.fact 10 (f := .glo "_law_wrong") rfl)⟩
    | 11, hd => cases hd; obtain ⟨fd, F⟩ := c.def_ 11 (d := hE11) rfl; exact ⟨_, fd, F, He.glo_ok X0 G (c.fact 11 (f := .glo "_law_paths") rfl)⟩
    | 12, hd => cases hd; obtain ⟨fd, F⟩ := c.def_ 12 (d := hE12) rfl; exact ⟨_, fd, F, He.glo_ok X0 G (c.fact 12 (f := .glo "_law_at") rfl)⟩
    | 13, hd => cases hd; obtain ⟨fd, F⟩ := c.def_ 13 (d := hE13) rfl; exact ⟨_, fd, F, He.glo_ok X0 G (c.fact 13 (f := .glo "_law_size") rfl)⟩
    | 14, hd => cases hd; obtain ⟨fd, F⟩ := c.def_ 14 (d := hE14) rfl; exact ⟨_, fd, F, He.glo_ok X0 G (c.fact 14 (f := .glo "_law_due") rfl)⟩
    | 15, hd => cases hd; obtain ⟨fd, F⟩ := c.def_ 15 (d := hE15) rfl; exact ⟨_, fd, F, He.glo_ok X0 G (c.fact 15 (f := .glo "_law_inner") rfl)⟩
    | 16, hd => cases hd; obtain ⟨fd, F⟩ := c.def_ 16 (d := hE16) rfl; exact ⟨_, fd, F, He.glo_ok X0 G (c.fact 16 (f := .glo "_law_drawn_path") rfl)⟩
    | 17, hd => cases hd; obtain ⟨fd, F⟩ := c.def_ 17 (d := hE17) rfl; exact ⟨_, fd, F, He.glo_ok X0 G (c.fact 17 (f := .glo "_law_set") rfl)⟩
    | 18, hd => cases hd; obtain ⟨fd, F⟩ := c.def_ 18 (d := hE18) rfl; exact ⟨_, fd, F, He.glo_ok X0 G (c.fact 18 (f := .glo "_law_bad") rfl)⟩
    | 19, hd => cases hd; obtain ⟨fd, F⟩ := c.def_ 19 (d := hE19) rfl; exact ⟨_, fd, F, He.glo_ok X0 G (c.fact 19 (f := .glo "_law_apart") rfl)⟩
    | 20, hd => cases hd; obtain ⟨fd, F⟩ := c.def_ 20 (d := hE20) rfl; exact ⟨_, fd, F, He.glo_ok X0 G (c.fact 20 (f := .glo "_law_spoiled") rfl)⟩
    | 21, hd => cases hd; obtain ⟨fd, F⟩ := c.def_ 21 (d := hE21) rfl; exact ⟨_, fd, F, He.glo_ok X0 G (c.fact 21 (f := .glo "is_leaf") rfl)⟩
    | 22, hd => cases hd; obtain ⟨fd, F⟩ := c.def_ 22 (d := hE22) rfl; exact ⟨_, fd, F, He.glo_ok X0 G (c.fact 22 (f := .glo "parts_of") rfl)⟩
    | 23, hd => cases hd; obtain ⟨fd, F⟩ := c.def_ 23 (d := hE23) rfl; exact ⟨_, fd, F, He.glo_ok X0 G (c.fact 23 (f := .glo "is_number") rfl)⟩
    | 24, hd => cases hd; obtain ⟨fd, F⟩ := c.def_ 24 (d := hE24) rfl; exact ⟨_, fd, F, He.glo_ok X0 G (c.fact 24 (f := .glo "node_fits") rfl)⟩
    | 25, hd => cases hd; obtain ⟨fd, F⟩ := c.def_ 25 (d := hE25) rfl; exact ⟨_, fd, F, He.glo_ok X0 G (c.fact 25 (f := .glo "fault_from") rfl)⟩
    | 26, hd => cases hd; obtain ⟨fd, F⟩ := c.def_ 26 (d := hE26) rfl; exact ⟨_, fd, F, He.glo_ok X0 G (c.fact 26 (f := .glo "check_tree") rfl)⟩
    | 27, hd => cases hd; obtain ⟨fd, F⟩ := c.def_ 27 (d := hE27) rfl; exact ⟨_, fd, F, He.glo_ok X0 G (c.fact 27 (f := .glo "filled_in") rfl)⟩
    | 28, hd => cases hd; obtain ⟨fd, F⟩ := c.def_ 28 (d := hE28) rfl; exact ⟨_, fd, F, He.glo_ok X0 G (c.fact 28 (f := .glo "size_of") rfl)⟩
    | 29, hd => cases hd; obtain ⟨fd, F⟩ := c.def_ 29 (d := hE29) rfl; exact ⟨_, fd, F, He.glo_ok X0 G (c.fact 29 (f := .glo "check_size") rfl)⟩
    | 30, hd => cases hd; obtain ⟨fd, F⟩ := c.def_ 30 (d := hE30) rfl; exact ⟨_, fd, F, He.glo_ok X0 G (c.fact 30 (f := .glo "put_in") rfl)⟩
    | 31, hd => cases hd; obtain ⟨fd, F⟩ := c.def_ 31 (d := hE31) rfl; exact ⟨_, fd, F, He.glo_ok X0 G (c.fact 31 (f := .glo "_law_is_filled") rfl)⟩
    | 32, hd => cases hd; obtain ⟨fd, F⟩ := c.def_ 32 (d := hE32) rfl; exact ⟨_, fd, F, He.glo_ok X0 G (c.fact 32 (f := .glo "_law_points") rfl)⟩
    | 33, hd => cases hd; obtain ⟨fd, F⟩ := c.def_ 33 (d := hE33) rfl; exact ⟨_, fd, F, He.glo_ok X0 G (c.fact 33 (f := .glo "some_size") rfl)⟩
    | 34, hd => cases hd; obtain ⟨fd, F⟩ := c.def_ 34 (d := hE34) rfl; exact ⟨_, fd, F, He.glo_ok X0 G (c.fact 34 (f := .glo "exchanged") rfl)⟩
    | 35, hd => cases hd; obtain ⟨fd, F⟩ := c.def_ 35 (d := hE35) rfl; exact ⟨_, fd, F, He.glo_ok X0 G (c.fact 35 (f := .glo "sign_of") rfl)⟩
    | 36, hd => cases hd; obtain ⟨fd, F⟩ := c.def_ 36 (d := hE36) rfl; exact ⟨_, fd, F, He.glo_ok X0 G (c.fact 36 (f := .glo "signs_fit") rfl)⟩
    | 37, hd => cases hd; obtain ⟨fd, F⟩ := c.def_ 37 (d := hE37) rfl; exact ⟨_, fd, F, He.glo_ok X0 G (c.fact 37 (f := .glo "is_point") rfl)⟩
    | 38, hd => cases hd; obtain ⟨fd, F⟩ := c.def_ 38 (d := hE38) rfl; exact ⟨_, fd, F, He.glo_ok X0 G (c.fact 38 (f := .glo "at_point") rfl)⟩
    | 39, hd => cases hd; obtain ⟨fd, F⟩ := c.def_ 39 (d := hE39) rfl; exact ⟨_, fd, F, He.glo_ok X0 G (c.fact 39 (f := .glo "_law_agrees") rfl)⟩
    | 40, hd => cases hd; obtain ⟨fd, F⟩ := c.def_ 40 (d := hE40) rfl; exact ⟨_, fd, F, He.glo_ok X0 G (c.fact 40 (f := .glo "law") rfl)⟩
    | _ + 41, hd => cases hd
  have hblt : ∀ x, x ∈ bltL → mg x = none := by
    intro x hx
    simp only [bltL, List.mem_cons, List.not_mem_nil, or_false] at hx
    rcases hx with rfl | rfl | rfl | rfl | rfl | rfl | rfl | rfl | rfl | rfl | rfl | rfl | rfl | rfl | rfl | rfl | rfl | rfl | rfl
    · exact He.free_ok X0 G (c.fact 41 (f := .free "len") rfl)
    · exact He.free_ok X0 G (c.fact 42 (f := .free "abs") rfl)
    · exact He.free_ok X0 G (c.fact 43 (f := .free "max") rfl)
    · exact He.free_ok X0 G (c.fact 44 (f := .free "min") rfl)
    · exact He.free_ok X0 G (c.fact 45 (f := .free "int") rfl)
    · exact He.free_ok X0 G (c.fact 46 (f := .free "str") rfl)
    · exact He.free_ok X0 G (c.fact 47 (f := .free "list") rfl)
    · exact He.free_ok X0 G (c.fact 48 (f := .free "tuple") rfl)
    · exact He.free_ok X0 G (c.fact 49 (f := .free "sum") rfl)
    · exact He.free_ok X0 G (c.fact 50 (f := .free "any") rfl)
    · exact He.free_ok X0 G (c.fact 51 (f := .free "all") rfl)
    · exact He.free_ok X0 G (c.fact 52 (f := .free "isinstance") rfl)
    · exact He.free_ok X0 G (c.fact 53 (f := .free "range") rfl)
    · exact He.free_ok X0 G (c.fact 54 (f := .free "enumerate") rfl)
    · exact He.free_ok X0 G (c.fact 55 (f := .free "zip") rfl)
    · exact He.free_ok X0 G (c.fact 56 (f := .free "bool") rfl)
    · exact He.free_ok X0 G (c.fact 57 (f := .free "dict") rfl)
    · exact He.free_ok X0 G (c.fact 58 (f := .free "sorted") rfl)
    · exact He.free_ok X0 G (c.fact 59 (f := .free "set") rfl)
  unfold exB at cx
  rw [Bool.and_eq_true, Bool.and_eq_true] at cx
  have hgls : ∀ (g : Nat) x, gls[g]? = some x → ∃ d u v, gl g = some d ∧ mg x = some u ∧ RelV v u ∧ ∀ S H, Rel K S H d v := by
    intro g x hg
    match g, hg with
    | 0, hg => cases hg; obtain ⟨t, e⟩ := He.int_ok X0 G (c.fact 60 (f := .int "MOST_DEEP" 8) rfl); exact ⟨_, _, .int 8, rfl, e, ⟨t, rfl⟩, fun _ _ => rfl⟩
    | 1, hg => cases hg; obtain ⟨t, e⟩ := He.int_ok X0 G (c.fact 61 (f := .int "MOST_LEAVES" 240) rfl); exact ⟨_, _, .int 240, rfl, e, ⟨t, rfl⟩, fun _ _ => rfl⟩
    | 2, hg => cases hg; obtain ⟨t, e⟩ := He.int_ok X0 G (c.fact 62 (f := .int "LETTERS" 5) rfl); exact ⟨_, _, .int 5, rfl, e, ⟨t, rfl⟩, fun _ _ => rfl⟩
    | 3, hg => cases hg; obtain ⟨t, e⟩ := He.int_ok X0 G (c.fact 63 (f := .int "MOST_INPUTS" 5) rfl); exact ⟨_, _, .int 5, rfl, e, ⟨t, rfl⟩, fun _ _ => rfl⟩
    | _ + 4, hg => cases hg
  replace cx := cx.1
  rw [List.all_eq_true] at cx
  have hxc : ∀ (X : Cx), X.K = K → X.mg = mg → ∀ q ∈ xcs, XcOk X q.1 q.2 := by
    intro X hK hmg q hq
    have hF := xcB_ok (cx.2 q hq)
    simp only [xcs, List.mem_cons, List.not_mem_nil, or_false] at hq
    rcases hq with rfl | rfl | rfl
    · refine xc_ini (st := ini8) hK hF (by rw [hmg]; exact He.glo_ok X0 G (c.fact 64 (f := .glo "InvalidTree") rfl)) ⟨?_, C8.fnScope_by (by decide +kernel), fun _ _ _ _ _ _ _ us h => match us, h with | [_, _], _ => rfl, ⟨_, rfl, by decide +kernel⟩⟩ (by decide)
      obtain ⟨fd, F⟩ := c.def_ 41 (d := hI8) rfl
      exact ⟨_, fd, F⟩
    · refine xc_ini (st := ini28) hK hF (by rw [hmg]; exact He.glo_ok X0 G (c.fact 65 (f := .glo "LimitExceeded") rfl)) ⟨?_, C8.fnScope_by (by decide +kernel), fun _ _ _ _ _ _ _ us h => match us, h with | [_, _], _ => rfl, ⟨_, rfl, by decide +kernel⟩⟩ (by decide)
      obtain ⟨fd, F⟩ := c.def_ 42 (d := hI28) rfl
      exact ⟨_, fd, F⟩
    · refine xc_ini (st := ini2) hK hF (by rw [hmg]; exact He.glo_ok X0 G (c.fact 66 (f := .glo "InvalidPoint") rfl)) ⟨?_, C8.fnScope_by (by decide +kernel), fun _ _ _ _ _ _ _ us h => match us, h with | [_, _], _ => rfl, ⟨_, rfl, by decide +kernel⟩⟩ (by decide)
      obtain ⟨fd, F⟩ := c.def_ 43 (d := hI2) rfl
      exact ⟨_, fd, F⟩
  obtain ⟨a, fd, F, hm⟩ := hdef 40 d40 rfl
  have e := hf.symm.trans hm
  cases e
  refine ⟨fd, fun s v => ?_, fun base _ _ => (all_ok chk_ok (factB_ok cx.1) (fun X _ _ hK hmg _ => hxc X hK hmg) hblt hgls hdef shs_ok k 40 d40 rfl f fd F).drop⟩
  exact F.binds (sh := ⟨40, 1, [], [0]⟩) ⟨fun _ _ _ _ _ _ us ws h1 h2 => match us, ws, h1, h2 with | [_], [], _, _ => rfl, fun xs h => match xs, h with | [_], _ => rfl⟩ s [v] [] rfl rfl
end Bs.K25
open PySem PySem.W PySem.Calls PyProof.Rows
theorem PySem.Challenge.cw_burstshop_k25_trees_put_in_holds : PySem.Challenge.rw_burstshop_k25_trees_put_in.Holds := by
  w_on; o_law
  refine HandSHeadRun.head_any (r := OpenLaw.row PySem.Challenge.rw_burstshop_k25_trees_put_in) (q := view (OpenLaw.row PySem.Challenge.rw_burstshop_k25_trees_put_in).prog [54]) (H := Bs.K25.hk) (ob := Bs.K25.ob) (M := 20000) (loose := Bs.K25.loose) (d := HandSHeadRun.topDef (OpenLaw.row PySem.Challenge.rw_burstshop_k25_trees_put_in).prog 54) (kwd := []) Bs.K25.ob_eq
    (by kernel_rfl) (fun s => by kernel_rfl) Bs.K25.run (by kernel_rfl) (by kernel_rfl) (by kernel_rfl) (by rfl) (by first | assumption | decide +kernel) (by decide +kernel) ⟨rfl, rfl, rfl, rfl, rfl, by decide +kernel⟩ ?hw ?hc
  case hw => w_witness2
  case hc =>
    refine L2.walk_ofE (l := PySem.Challenge.rw_burstshop_k25_trees_put_in) (n := 63) (k := 60 + 2) (x := "_law_script") (CX := C8.CX0) rfl (by decide) (by kernel_rfl) ⟨rfl, by decide, by decide⟩ ?F (fun _ _ _ _ z => z)
    intro w mg fa h Y G hmg0
    obtain ⟨K, KX, c, cx⟩ := Y
    have hmg : mg ("law" : PySem.Str) = some (.ref fa) := by
      have e : (HandSHeadRun.topDef (OpenLaw.row PySem.Challenge.rw_burstshop_k25_trees_put_in).prog 54).name = ("law" : PySem.Str) := by kernel_rfl
      rw [← e]
      exact hmg0
    obtain ⟨fd, hb, hF⟩ := Bs.K25.facts (P := (PySem.Challenge.rw_burstshop_k25_trees_put_in).prog) (w := w) KX G hmg c cx 60
    exact ⟨K, fd, fun vs H Q _ => Bs.spF K (Bs.call Bs.K25.gl Bs.K25.fns 60 40) 1 false vs H Q fun _ _ _ => False, KX, hb, fun H a ns hl _ hS => Bs.sp_law hS (Bs.K25.main ns hl), hF⟩
