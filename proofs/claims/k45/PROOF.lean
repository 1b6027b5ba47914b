import PyProof.Rows.All
import Wide.All
import OpenK.AllK
import Wide.FinOn
import HandS.ForMost
import HandS.HeadHook1
import HandS.Exc
import HandS.Flow
import HandS.IsInst
import HandS.Walk
import HandS.TupAny
import PyProof.StrBlock2
import HandS.TupMul
import HandS.Style
import HandS.Deep
import HandS.TupLe
import HandS.Text
import KE.KEqDict
import HandS.DictEq
import HandS.SortInts
import PyProof.ListStr
import HandS.Conv
import PyProof.StrLawsTight
import KE.GoesNew
import HandS.ExcOwn
import HandS.Codes
import HandS.More
import HandS.Strs
import PyProof.Rows.StrRev
import HandS.SetFor
import HandS.ExcInit
import HandS.ExcField
import HandS.ExcIs
import HandS.TryMany
import KE.KExcInit
import PyProof.InstStoreFacts
import KE.KExcIs
import HandS.Defaults
import HandS.HeadHook2
import HandS.Words
import KE.KStateDown
import HandS.Ends
import HandS.WordsExc
import HandS.Head0
import HandS.Head1
import HandS.Head2
import HandS.HeadEnd
import PySem.Challenge.RW_burstshop_k45_openings_of_all_rests
set_option Elab.async false
set_option linter.all false
set_option maxRecDepth 100000
set_option maxHeartbeats 0
/-! Bs: a small language of data, its compact syntax and its denotation. -/
namespace Bs

/-- plain data -/
inductive D where
  | non | bl (b : Bool) | int (i : Int) | str (s : List Nat) | tup (xs : List D) | lst (xs : List D)
  | dic (kvs : List (D × D)) | obj (c : Nat) (fs : List (Nat × D)) | loc (p : Nat)
deriving Inhabited

/-- what may change: owned by a slot, or standing in the store -/
inductive Ob where
  | lst (xs : List D) | dic (kvs : List (D × D)) | ins (c : Nat) (fs : List (Nat × D))
inductive Sl where
  | un | val (d : D) | own (o : Ob)
abbrev Ga := List Sl
abbrev Sto := Nat → Option Ob
def Sto.put (μ : Sto) (p : Nat) (o : Ob) : Sto := fun q => if q = p then some o else μ q
structure Xc where
  c : Nat
  fs : List (Nat × D)

/-- outcomes -/
inductive R (α : Type) where
  | ok (a : α) (μ : Sto)
  | exc (x : Xc) (γ : Ga) (μ : Sto)
  | fail
  | any (P : Nat → Prop) (k : Nat → R α)
def R.bind {α β : Type} : R α → (α → Sto → R β) → R β
  | .ok a μ, f => f a μ
  | .exc x γ μ, _ => .exc x γ μ
  | .fail, _ => .fail
  | .any P k, f => .any P fun p => (k p).bind f
/-- every outcome is as wanted -/
def R.All {α : Type} : R α → (α → Sto → Prop) → (Xc → Ga → Sto → Prop) → Prop
  | .ok a μ, Q, _ => Q a μ
  | .exc x γ μ, _, W => W x γ μ
  | .fail, _, _ => False
  | .any P k, Q, W => ∀ p, P p → (k p).All Q W
theorem R.All_bind {α β : Type} (r : R α) (f : α → Sto → R β) (Q : β → Sto → Prop) (W : Xc → Ga → Sto → Prop) :
    (r.bind f).All Q W ↔ r.All (fun a μ => (f a μ).All Q W) W := by
  induction r with
  | ok a μ => exact Iff.rfl
  | exc x γ μ => exact Iff.rfl
  | fail => exact Iff.rfl
  | any P k ih => exact forall_congr' fun p => imp_congr_right fun _ => ih p
theorem R.All.mono {α : Type} {r : R α} {Q Q' : α → Sto → Prop} {W W' : Xc → Ga → Sto → Prop} (h : r.All Q W) (hq : ∀ a μ, Q a μ → Q' a μ) (hw : ∀ x γ μ, W x γ μ → W' x γ μ) : r.All Q' W' := by
  induction r with
  | ok a μ => exact hq _ _ h
  | exc x γ μ => exact hw _ _ _ h
  | fail => exact h
  | any P k ih => exact fun p hp => ih p (h p hp)
/-- what raises is out of reach (inside a comprehension) -/
def R.nox {α : Type} : R α → R α
  | .ok a μ => .ok a μ
  | .exc _ _ _ => .fail
  | .fail => .fail
  | .any P k => .any P fun p => (k p).nox
theorem R.All_nox {α : Type} {r : R α} {Q : α → Sto → Prop} {W W' : Xc → Ga → Sto → Prop} (h : r.nox.All Q W) : r.All Q W' := by
  induction r with
  | ok a μ => exact h
  | exc x γ μ => exact h.elim
  | fail => exact h
  | any P k ih => exact fun p hp => ih p (h p hp)
/-- an exception is caught -/
def R.catch {α : Type} (f : Xc → Ga → Sto → R α) : R α → R α
  | .ok a μ => .ok a μ
  | .exc x γ μ => f x γ μ
  | .fail => .fail
  | .any P k => .any P fun p => (k p).catch f
theorem R.All_catch {α : Type} {r : R α} {f : Xc → Ga → Sto → R α} {Q : α → Sto → Prop} {W : Xc → Ga → Sto → Prop} (h : (r.catch f).All Q W) : r.All Q fun x γ μ => (f x γ μ).All Q W := by
  induction r with
  | ok a μ => exact h
  | exc x γ μ => exact h
  | fail => exact h
  | any P k ih => exact fun p hp => ih p (h p hp)
/-- an exception of a callee is seen at the caller's slots -/
def R.back {α : Type} (γ : Ga) : R α → R α
  | .ok a μ => .ok a μ
  | .exc x _ μ => .exc x γ μ
  | .fail => .fail
  | .any P k => .any P fun p => (k p).back γ
def ofO (o : Option D) (μ : Sto) : R D := match o with
  | some d => .ok d μ
  | none => .fail

/-- names of classes, attributes and methods -/
def nmT : List String := ["ShopError", "InvalidCube", "InvalidPoint", "InvalidTable", "InvalidChange", "InvalidCover", "InvalidOrder", "InvalidWord", "InvalidTree", "InvalidPlay", "InvalidRule", "InvalidMachine", "InvalidStanding", "InvalidName", "InvalidNumber", "InvalidCoding", "InvalidTrees", "InvalidParts", "InvalidBurst", "InvalidText", "BadProgram", "UnknownName", "Unsound", "Unlike", "Choke", "Clash", "TwoSenders", "NotAMove", "LimitExceeded", "NothingLeft", "Board", "circuit", "inner", "leaves", "signs", "seen", "state", "arrived", "todo", "turned_lines", "rows", "first_wrong", "check_lines", "whole_arc", "new_signs", "old_signs", "shown", "late_leaves", "look", "note_wrong", "moves", "is_late", "__init__", "move", "standing", "signals", "is_resting", "done", "wrong", "twin", "Desk", "machine", "coding", "trees", "past", "future", "hold", "need_function", "net", "code", "attempt", "judged", "build", "do", "most_functions", "rewrite", "undo", "redo", "__getitem__", "__setitem__", "__contains__", "__iter__", "__len__", "is_right", "trial", "at", "why", "path", "which", "part", "name", "arc", "function", "limit", "word", "Demand", "table", "changes", "steep", "off_list", "__eq__", "__add__", "only", "Search", "sets_to_meet", "best", "found", "open_row", "record", "extend_set", "Machine", "inputs", "outputs", "arcs", "Net", "Table", "text", "n", "sign_at", "points_with", "clear_of_offs", "told", "value", "ons", "offs", "frees", "primes", "refines", "ProgramReader", "stack", "is_next", "take", "names", "begin_node", "sign", "end_node", "read", "LineReader", "lines", "words", "refuse", "next_arc", "whole_machine", "end", "tree", "TreeReader", "gates", "Web", "parts", "begin", "Reaction", "web", "steps", "bad", "arrive", "round", "Word", "zeros", "ones", "__str__", "__or__", "__and__", "__invert__", "cuts"]
def nm (i : Nat) : PySem.Str := PySem.Str.ofString (nmT.getD i "")
/-- the fields that errors have -/
def fldIds : List Nat := [85, 86, 87, 88, 89, 90, 91, 92, 93, 94]
/-! ### syntax -/
inductive Bop where | add | sub | mul | fdiv | mod | pow
deriving DecidableEq
inductive Cm where | eq | ne | lt | le | gt | ge | in_ | nin | is_ | isn
deriving DecidableEq
inductive Bi where | len | abs | max | min | int | str | list | tuple | sum | any | all | sorted
deriving DecidableEq
inductive Mt where | join | count
deriving DecidableEq
inductive Ty where | int | str | bool | tuple | list | dict
deriving DecidableEq
inductive E where
  | var (i : Nat) | ovar (i : Nat) | con (d : D) | glb (g : Nat)
  | bin (o : Bop) (a b : E) | neg (a : E)
  | cmp (o : Cm) (a b : E) | chn (o o' : Cm) (a b c : E)
  | not (a : E) | and (a b : E) | or (a b : E) | ite (c a b : E)
  | tup (es : List E) | lst (es : List E) | new (es : List E) | dsp1 (k v : E) | dsp (kvs : List (E × E))
  | ix (a i : E) | sl (a : E) (lo hi : Option E)
  | call (f : Nat) (es ks : List E) (pm : List Nat) | bi (b : Bi) (es : List E) | mt (m : Mt) (a e : E)
  | isi (a : E) (ts : List Ty)
  | rng1 (a : E) | rng2 (a b : E) | enu (a : E) | zip (a b : E)
  | tidx (g : Nat) (e : E) | rev (a : E) | dsp0 | odic (i : Nat) | rvl (a : E) | kys (a : E) | dcp (a : E) | mrg (a k v : E) | rng3 (a b c : E) | sset (a : E)
  | mko (c f : Nat) (es ks : List E) (pm : List Nat) | att (a : E) (f : Nat) | mth (a : E) (c m f : Nat) (es : List E)
  | sto (e : E) | popl (a i : E) | pop0 (a : E) | lop (o : Bop) (a b : E)
  | lc (t : List Nat) (it : E) (c : Option E) (e : E)
  | lc2 (t : List Nat) (it : E) (c : Option E) (t2 : List Nat) (it2 : E) (c2 : Option E) (e : E)
/-- what stands in an except suite -/
inductive HE where
  | con (d : D) | var (i : Nat) | fld (f : Nat) | isx (cs : List Nat) | not (a : HE) | and (a b : HE) | or (a b : HE) | tup (es : List HE)
inductive HS where | asg (i : Nat) (e : HE) | ret (e : HE)
structure Hd where
  cs : List Nat
  nm : Option Nat
  b : List HS
inductive Tg where | nm (i : Nat) | tp (is : List Nat)
inductive S where
  | asg (t : List Nat) (e : E) | aug (i : Nat) (o : Bop) (e : E)
  | own (i : Nat) (e : E)                 -- x = a new list (owned)
  | app (i : Nat) (e : E)                 -- x.append(e), x owned
  | popd (i : Nat)                        -- x.pop(), x owned, the value dropped
  | lset (a i e : E)                      -- o[i] = e, o in the store
  | lapp (a e : E)                        -- o.append(e), o in the store
  | oset (i : Nat) (j e : E)              -- x[j] = e, x owned
  | oagi (i : Nat) (j : E) (o : Bop) (e : E) -- x[j] o= e, x owned
  | oext (i : Nat) (e : E)                -- x += e, x owned
  | ownd (i : Nat)                        -- x = {}, owned
  | dset (i : Nat) (j e : E)              -- x[j] = e, x an owned dict
  | fset (a : E) (c f : Nat) (e : E)      -- o.f = e, o an object of the class c
  | faug (a : E) (c f : Nat) (o : Bop) (e : E) -- o.f op= e
  | expr (e : E) | ret (e : E) | retn | ite (c : E) (a b : List S)
  | forr (t : List Nat) (it : E) (b : List S) (kill : List Nat)
  | whil (c : E) (b : List S) (kill : List Nat)
  | par (i j : Nat) (a b : E)              -- x, y = a, b
  | pass | brk | cont | frz (i : Nat) | raise_
  | rais (c : Nat) (fl : List Nat) (es : List E)
  | try_ (b : List S) (hs : List Hd)
inductive Fl where | nx (γ : Ga) | rt (d : D) | bk (γ : Ga) | ct (γ : Ga)

/-! ### values -/
mutual
/-- == of plain data -/
def eqB : D → D → Bool
  | .non, .non => true
  | .bl a, .bl b => a == b
  | .bl a, .int j => (if a then 1 else 0) == j
  | .int i, .bl b => i == (if b then 1 else 0)
  | .int i, .int j => i == j
  | .str x, .str y => x == y
  | .lst xs, .lst ys => eqBs xs ys
  | .tup xs, .tup ys => eqBs xs ys
  | _, _ => false
def eqBs : List D → List D → Bool
  | [], [] => true
  | x :: xs, y :: ys => eqB x y && eqBs xs ys
  | _, _ => false
end
mutual
/-- plain: no dict, object, place of the store in it; its depth at most n -/
def plain (n : Nat) : D → Bool
  | .non => true | .bl _ => true | .int _ => true | .str _ => true
  | .tup xs => match n with
    | 0 => false
    | n + 1 => plains n xs
  | .lst xs => match n with
    | 0 => false
    | n + 1 => plains n xs
  | _ => false
def plains (n : Nat) : List D → Bool
  | [] => true
  | x :: xs => plain n x && plains n xs
end
def flat : D → Bool
  | .non => true | .bl _ => true | .int _ => true | .str _ => true
  | _ => false
def eqD (a b : D) : Option Bool := if plain 60 a && plain 60 b then some (eqB a b) else none
def inF (x : D) (ys : List D) : Option Bool := if flat x && ys.all flat then some (ys.any fun y => eqB y x) else none
def inD (x : D) (ys : List D) : Option Bool := if (flat x && ys.all flat) || (plain 58 x && plains 58 ys) then some (ys.any fun y => eqB y x) else none
def truth : D → Option Bool
  | .non => some false
  | .bl b => some b
  | .int i => some (i != 0)
  | .str s => some (!s.isEmpty)
  | .tup xs => some (!xs.isEmpty)
  | .lst xs => some (!xs.isEmpty)
  | _ => none
def keyD : D → Option L2.Key
  | .int i => some (.inl i)
  | .str s => some (.inr ⟨s.toArray⟩)
  | _ => none
def small (i : Int) : Bool := decide (-(2 ^ 64) < i) && decide (i < 2 ^ 64)
def binop : Bop → D → D → Option D
  | .add, .int i, .int j => some (.int (i + j))
  | .sub, .int i, .int j => some (.int (i - j))
  | .mul, .int i, .int j => if small i || small j then some (.int (i * j)) else none
  | .fdiv, .int i, .int j => if decide (0 < j) && decide (j < 1073741824) then some (.int (i / j)) else none
  | .mod, .int i, .int j => if decide (0 < j) then some (.int (i % j)) else none
  | .pow, .int i, .int j => if decide (0 ≤ j) && decide (j ≤ 1000) && decide (i.natAbs < 2 ^ 64) then some (.int (i ^ j.toNat)) else none
  | .add, .str s, .str t => if s.length + t.length ≤ 1000000 then some (.str (s ++ t)) else none
  | .add, .lst s, .lst t => if s.length + t.length ≤ 1000000 then some (.lst (s ++ t)) else none
  | .add, .tup s, .tup t => if s.length + t.length ≤ 1000000 then some (.tup (s ++ t)) else none
  | .mul, .tup s, .int n => if (decide (2 ≤ n) && decide (n ≤ 1000)) && (!s.isEmpty && decide (s.length ≤ 1000)) then some (.tup (List.replicate n.toNat s).flatten) else none
  | .mul, .lst s, .int n => if decide (s.length * n.toNat ≤ 1000000) && (decide (-(2 ^ 62) ≤ n) && decide (n < 2 ^ 62)) then some (.lst (List.replicate n.toNat s).flatten) else none
  | .mul, .str s, .int n => if decide (s.length * n.toNat ≤ 1000000) && (decide (-(2 ^ 62) ≤ n) && decide (n < 2 ^ 62)) then some (.str (List.replicate n.toNat s).flatten) else none
  | _, _, _ => none
/-- x o= y, where x cannot change -/
def augB : Bop → D → D → Option D
  | .add, .int i, .int j => some (.int (i + j))
  | .sub, .int i, .int j => some (.int (i - j))
  | .add, .str s, .str t => if s.length + t.length ≤ 1000000 then some (.str (s ++ t)) else none
  | _, _, _ => none
def getD (k : L2.Key) : List (D × D) → Option D
  | [] => none
  | q :: r => if keyD q.1 = some k then some q.2 else getD k r
def keysD : List (D × D) → Option (List L2.Key)
  | [] => some []
  | q :: r => match keyD q.1, keysD r with
    | some k, some ks => some (k :: ks)
    | _, _ => none
/-- d[k] = v -/
def putD (kvs : List (D × D)) (k v : D) : List (D × D) := if kvs.any (fun q => decide (keyD q.1 = keyD k)) then kvs.map (fun q => if keyD q.1 = keyD k then (q.1, v) else q) else kvs ++ [(k, v)]
/-- each key is there, its value the same -/
def hitsB (ls : List (D × D)) : List (D × D) → Bool
  | [] => true
  | q :: r => match keyD q.1 with
    | none => false
    | some k => match getD k ls with
      | none => false
      | some w => eqB q.2 w && hitsB ls r
def valsP (ks : List (D × D)) : Bool := ks.all fun q => (keyD q.1).isSome && plain 55 q.2
def eqDic (ks ls : List (D × D)) : Option Bool := if valsP ks && valsP ls then some ((ks.length == ls.length) && hitsB ls ks) else none
def index : D → D → Option D
  | .dic kvs, y => match keyD y with
    | some k => getD k kvs
    | none => none
  | .str s, .int i => (L2.atI s i).map fun c => .str [c]
  | .tup xs, .int i => L2.atI xs i
  | .lst xs, .int i => L2.atI xs i
  | _, _ => none
def cut {α : Type} (xs : List α) (lo hi : Option Int) : List α := (xs.drop (HT.sIx xs.length 0 lo)).take (HT.sIx xs.length xs.length hi - HT.sIx xs.length 0 lo)
def slice : D → Option Int → Option Int → Option D
  | .str s, lo, hi => some (.str (cut s lo hi))
  | .tup xs, lo, hi => some (.tup (cut xs lo hi))
  | .lst xs, lo, hi => some (.lst (cut xs lo hi))
  | _, _, _ => none
/-- one sign in a text; a flat thing in a list or tuple of flat ones -/
def inX (x : D) : D → Option Bool
  | .lst ys => inD x ys
  | .tup ys => inF x ys
  | .str s => match x with
    | .str [c] => some (s.contains c)
    | _ => none
  | .dic kvs => (keyD x).map fun k => (getD k kvs).isSome
  | _ => none
def ltL : List Nat → List Nat → Bool := fun a b => decide (a < b)
/-- sorted texts -/
def insS (x : List Nat) : List (List Nat) → List (List Nat)
  | [] => [x]
  | y :: r => if ltL y x then y :: insS x r else x :: y :: r
def sortS : List (List Nat) → List (List Nat)
  | [] => []
  | x :: r => insS x (sortS r)
def compare : Cm → D → D → Option D
  | .eq, .dic a, .dic b => (eqDic a b).map .bl
  | .ne, .dic a, .dic b => (eqDic a b).map fun r => .bl !r
  | .eq, a, b => (eqD a b).map .bl
  | .ne, a, b => (eqD a b).map fun r => .bl !r
  | .lt, .int i, .int j => some (.bl (decide (i < j)))
  | .le, .int i, .int j => some (.bl (decide (i ≤ j)))
  | .gt, .int i, .int j => some (.bl (decide (j < i)))
  | .ge, .int i, .int j => some (.bl (decide (j ≤ i)))
  | .lt, .str s, .str t => some (.bl (ltL s t))
  | .le, .str s, .str t => some (.bl (!ltL t s))
  | .gt, .str s, .str t => some (.bl (ltL t s))
  | .ge, .str s, .str t => some (.bl (!ltL s t))
  | .in_, x, y => (inX x y).map .bl
  | .nin, x, y => (inX x y).map fun r => .bl !r
  | .is_, x, .non => some (.bl (match x with | .non => true | _ => false))
  | .isn, x, .non => some (.bl (match x with | .non => false | _ => true))
  | .is_, .bl a, .bl b => some (.bl (decide (a = b)))
  | .isn, .bl a, .bl b => some (.bl (!decide (a = b)))
  | .is_, .non, .bl _ => some (.bl false)
  | _, _, _ => none
def intsD : List D → Option (List Int)
  | [] => some []
  | .int i :: r => (intsD r).map (i :: ·)
  | _ => none
def boolsD : List D → Option (List Bool)
  | [] => some []
  | .bl b :: r => (boolsD r).map (b :: ·)
  | _ => none
def strsD : List D → Option (List (List Nat))
  | [] => some []
  | .str b :: r => (strsD r).map (b :: ·)
  | _ => none
def maxL : List Int → Option Int
  | [] => none
  | i :: r => some (r.foldl (fun a b => if a < b then b else a) i)
def minL : List Int → Option Int
  | [] => none
  | i :: r => some (r.foldl (fun a b => if b < a then b else a) i)
def chars (s : List Nat) : List D := s.map fun c => .str [c]
def insI (x : Int) : List Int → List Int
  | [] => [x]
  | y :: r => if x ≤ y then x :: y :: r else y :: insI x r
def sortI : List Int → List Int
  | [] => []
  | x :: r => insI x (sortI r)
def insU (x : Int) : List Int → List Int
  | [] => [x]
  | y :: r => if x < y then x :: y :: r else if x = y then y :: r else y :: insU x r
/-- sorted, each once -/
def usort : List Int → List Int
  | [] => []
  | x :: r => insU x (usort r)
/-- sorted(set(x)) -/
def ssetD : D → Option D
  | .lst xs => (intsD xs).bind fun is => if decide (is.length ≤ 1000) && decide ((usort is).length < 64) then some (.lst ((usort is).map .int)) else none
  | _ => none
def bi1 : Bi → D → Option D
  | .len, .str s => some (.int s.length)
  | .len, .lst xs => some (.int xs.length)
  | .len, .tup xs => some (.int xs.length)
  | .abs, .int i => some (.int (if i < 0 then -i else i))
  | .max, .lst xs => ((intsD xs).bind maxL).map .int
  | .min, .lst xs => ((intsD xs).bind minL).map .int
  | .int, .int i => some (.int i)
  | .int, .bl b => some (.int (if b then 1 else 0))
  | .list, .lst xs => some (.lst xs)
  | .list, .tup xs => some (.lst xs)
  | .list, .str s => some (.lst (chars s))
  | .tuple, .lst xs => some (.tup xs)
  | .tuple, .tup xs => some (.tup xs)
  | .sum, .lst xs => (intsD xs).map fun is => .int is.sum
  | .any, .lst xs => (boolsD xs).map fun bs => .bl (bs.any id)
  | .all, .lst xs => (boolsD xs).map fun bs => .bl (bs.all id)
  | .sorted, .lst xs => match intsD xs with
    | some is => some (.lst ((sortI is).map .int))
    | none => (strsD xs).bind fun ss => if ss.length < 64 then some (.lst ((sortS ss).map .str)) else none
  | _, _ => none
def bi2 : Bi → D → D → Option D
  | .max, .str s, .str t => some (.str (if ltL s t then t else s))
  | .min, .str s, .str t => some (.str (if ltL t s then t else s))
  | .max, .int i, .int j => some (.int (if j > i then j else i))
  | .min, .int i, .int j => some (.int (if j < i then j else i))
  | _, _, _ => none
def builtin (b : Bi) : List D → Option D
  | [d] => bi1 b d
  | [d, e] => bi2 b d e
  | _ => none
def joinL (sep : List Nat) : List (List Nat) → List Nat
  | [] => []
  | [x] => x
  | x :: r => x ++ (sep ++ joinL sep r)
def one? : List Nat → Option Nat
  | [c] => some c
  | _ => none
def mt1 : Mt → D → D → Option D
  | .join, .str sep, .lst xs => (strsD xs).bind fun ss => if (ss.map List.length).sum + ss.length * sep.length ≤ 1000000 then some (.str (joinL sep ss)) else none
  | .count, .str s, .str t => (one? t).map fun c => .int (s.count c)
  | _, _, _ => none
def isTupO : Option D → Bool
  | some (.tup _) => true
  | _ => false
/-- t.index(x), t of texts -/
def tidxD (o : Option D) (y : D) : Option D := match o, y with
  | some (.tup xs), .str z => (strsD xs).bind fun ss => (ss.findIdx? fun s => decide (s = z)).map fun (j : Nat) => .int j
  | _, _ => none
/-- s[::-1] -/
def revD : D → Option D
  | .str s => some (.str s.reverse)
  | _ => none
/-- xs[::-1], a list -/
def rvlD : D → Option D
  | .lst xs => some (.lst xs.reverse)
  | _ => none
def isStr : D → Bool
  | .str _ => true
  | _ => false
def isTy : D → Ty → Option Bool
  | .non, _ => some false
  | .bl _, .int => some true
  | .bl _, .bool => some true
  | .bl _, _ => some false
  | .int _, .int => some true
  | .int _, _ => some false
  | .str _, .str => some true
  | .str _, _ => some false
  | .tup _, .tuple => some true
  | .tup _, _ => some false
  | .lst _, .list => some true
  | .lst _, _ => some false
  | .dic _, .dict => some true
  | .dic _, _ => some false
  | _, _ => none
def isTys (d : D) : List Ty → Option Bool
  | [] => some false
  | t :: r => match isTy d t with
    | some true => some true
    | some false => isTys d r
    | none => none
/-- what a loop walks -/
def items : D → Option (List D)
  | .lst xs => some xs
  | .tup xs => some xs
  | .str s => some (chars s)
  | _ => none
def enumL (k : Nat) : List D → List D
  | [] => []
  | x :: r => .tup [.int k, x] :: enumL (k + 1) r
def zipL : List D → List D → List D
  | x :: xs, y :: ys => .tup [x, y] :: zipL xs ys
  | _, _ => []
def rangeL (lo hi : Int) : List D := (List.range (hi - lo).toNat).map fun (i : Nat) => .int (lo + i)
def bnd (i : Int) : Bool := decide (-(2 ^ 62) ≤ i) && decide (i < 2 ^ 62)
/-- lo, lo + c, .. -/
def rangeC (lo c : Int) (n : Nat) : List D := (List.range n).map fun (i : Nat) => .int (lo + (i : Nat) * c)
def rgB (i j c : Int) : Bool := decide (c ≠ 0) && decide (c.natAbs < 1073741824) && PySem.Builtin.Range.small i j c && decide (0 ≤ PySem.Builtin.Range.rangeSize i j c)
def rangeD : List D → Option D
  | [.int i, .int j, .int c] => if rgB i j c then some (.lst (rangeC i c (PySem.Builtin.Range.rangeSize i j c).toNat)) else none
  | [.int j] => if bnd j then some (.lst (rangeL 0 j)) else none
  | [.int i, .int j] => if bnd i && bnd j then some (.lst (rangeL i j)) else none
  | _ => none

def arr {α : Type} (pm : List Nat) (xs : List α) : List α := pm.filterMap fun j => xs[j]?
/-! ### the denotation -/
def setT (γ : Ga) : List Nat → D → Option Ga
  | [i], d => some (γ.set i (.val d))
  | is, .tup xs => if is.length = xs.length then some ((is.zip xs).foldl (fun γ (p : Nat × D) => γ.set p.1 (.val p.2)) γ) else none
  | _, _ => none
def wipeG (γ : Ga) : List Nat → Ga
  | [] => γ
  | i :: r => (wipeG γ r).set i .un
/-- the datum of a place that is read -/
def deref (μ : Sto) : D → Option D
  | .loc p => match μ p with
    | some (.lst xs) => some (.lst xs)
    | _ => none
  | d => some d
/-- a place of the store is seen as its list -/
def dr (μ : Sto) : D → D
  | .loc p => match μ p with
    | some (.lst xs) => .lst xs
    | _ => .loc p
  | d => d
def orO (a b : Option D) (μ : Sto) : R D := match a with
  | some d => .ok d μ
  | none => ofO b μ
/-- o.pop(j) -/
def popR (o j : D) (μ : Sto) : R D := match o, j with
  | .loc p, .int j => match μ p with
    | some (.lst xs) => if xs.length ≤ 1000000 then match L2.ixN xs.length j with
        | some n => match xs[n]? with
          | some x => .ok x (μ.put p (.lst (xs.eraseIdx n)))
          | none => .fail
        | none => .fail
      else .fail
    | _ => .fail
  | _, _ => .fail
/-- a place with a list -/
def isL (μ : Sto) : D → Bool
  | .loc p => match μ p with
    | some (.lst _) => true
    | _ => false
  | _ => false
/-- a new list goes to the store -/
def stoR (x : D) (μ : Sto) : R D := match x with
  | .lst xs => .any (fun p => μ p = none) fun p => .ok (.loc p) (μ.put p (.lst xs))
  | _ => .fail
/-- + and * of lists alone -/
def lopD (o : Bop) (x y : D) : Option D := match binop o x y with
  | some (.lst zs) => some (.lst zs)
  | _ => none
/-- o[i] -/
def ixR (x y : D) (μ : Sto) : R D := match deref μ x with
  | some x => ofO (index x y) μ
  | none => .fail
/-- {k: v, ..}, the keys different -/
def dspR (ps : List (D × D)) (μ : Sto) : R D := match keysD ps with
  | some ks => if ks.Nodup then .ok (.dic ps) μ else .fail
  | none => .fail
/-- a comprehension's turns -/
def lcL (f : D → List D → Sto → R (List D)) : List D → List D → Sto → R (List D)
  | [], acc, μ => .ok acc μ
  | x :: r, acc, μ => (f x acc μ).bind fun acc μ => lcL f r acc μ
/-- one more item -/
def addL (acc : List D) (z : D) (μ : Sto) : R (List D) := if acc.length < 1000000 then .ok (acc ++ [z]) μ else .fail
/-- the keys of a dict -/
def keysR (x : D) (μ : Sto) : R D := match x with
  | .dic kvs => .ok (.lst (kvs.map (·.1))) μ
  | _ => .fail
/-- dict(d) -/
def dcpR (x : D) (μ : Sto) : R D := match x with
  | .dic kvs => .ok (.dic kvs) μ
  | _ => .fail
/-- o.f -/
def attR (f : Nat) (x : D) (μ : Sto) : R D := match x with
  | .loc p => match μ p with
    | some (.ins _ fs) => ofO (fs.lookup f) μ
    | _ => .fail
  | _ => .fail
def isOb (c : Nat) (μ : Sto) : D → Bool
  | .loc p => match μ p with
    | some (.ins c' _) => decide (c' = c)
    | _ => false
  | _ => false
def putFD (f : Nat) (v : D) : List (Nat × D) → List (Nat × D)
  | [] => [(f, v)]
  | (g, x) :: r => if g = f then (g, v) :: r else (g, x) :: putFD f v r
/-- o.f = y -/
def fsetR (c f : Nat) (y x : D) (γ : Ga) (μ : Sto) : R Fl := match x with
  | .loc p => match μ p with
    | some (.ins c' fs) => if c' = c ∧ fs.length < 900 then .ok (.nx γ) (μ.put p (.ins c (putFD f y fs))) else .fail
    | _ => .fail
  | _ => .fail
def madeR (p : Nat) (r : D) (μ : Sto) : R D := match r with
  | .non => .ok (.loc p) μ
  | _ => .fail
/-- {**a, k: v} -/
def mrgR (x k v : D) (μ : Sto) : R D := match x, keyD k with
  | .dic kvs, some _ => if kvs.length < 1000000 then .ok (.dic (putD kvs k v)) μ else .fail
  | _, _ => .fail
def itemsR (x : D) (μ : Sto) : R (List D) := match items x with
  | some xs => .ok xs μ
  | none => .fail
def setTR (γ : Ga) (t : List Nat) (y : D) (f : Ga → R (List D)) : R (List D) := match setT γ t y with
  | some γ' => f γ'
  | none => .fail
def forL (f : D → Ga → Sto → R Fl) (kill : List Nat) : List D → Ga → Sto → R Fl
  | [], γ, μ => .ok (.nx γ) μ
  | x :: r, γ, μ => (f x γ μ).bind fun fl μ => match fl with
    | .nx γ' => forL f kill r (wipeG γ' kill) μ
    | .ct γ' => forL f kill r (wipeG γ' kill) μ
    | .bk γ' => .ok (.nx (wipeG γ' kill)) μ
    | .rt d => .ok (.rt d) μ
def whileL (c : Ga → Sto → R Bool) (f : Ga → Sto → R Fl) (kill : List Nat) : Nat → Ga → Sto → R Fl
  | 0, _, _ => .fail
  | n + 1, γ, μ => (c γ μ).bind fun b μ => if b then (f γ μ).bind fun fl μ => match fl with
      | .nx γ' => whileL c f kill n (wipeG γ' kill) μ
      | .ct γ' => whileL c f kill n (wipeG γ' kill) μ
      | .bk γ' => .ok (.nx (wipeG γ' kill)) μ
      | .rt d => .ok (.rt d) μ
    else .ok (.nx γ) μ
/-- the classes of errors: each stands under the first one alone -/
def subX (c c' : Nat) : Bool := c == c' || c' == 0
mutual
def heE (x : Xc) (γ : Ga) : HE → Option D
  | .con d => some d
  | .var i => match γ[i]? with
    | some (.val d) => some d
    | _ => none
  | .fld f => x.fs.lookup f
  | .isx cs => some (.bl (cs.any (subX x.c)))
  | .not a => match heE x γ a with
    | some (.bl b) => some (.bl !b)
    | _ => none
  | .and a b => match heE x γ a with
    | some (.bl true) => heE x γ b
    | some (.bl false) => some (.bl false)
    | _ => none
  | .or a b => match heE x γ a with
    | some (.bl true) => some (.bl true)
    | some (.bl false) => heE x γ b
    | _ => none
  | .tup es => (heEs x γ es).map .tup
def heEs (x : Xc) (γ : Ga) : List HE → Option (List D)
  | [] => some []
  | e :: es => match heE x γ e, heEs x γ es with
    | some d, some ds => some (d :: ds)
    | _, _ => none
end
def heSs (x : Xc) (μ : Sto) : List HS → Ga → R Fl
  | [], γ => .ok (.nx γ) μ
  | .asg i e :: r, γ => match heE x γ e with
    | some d => heSs x μ r (γ.set i (.val d))
    | none => .fail
  | .ret e :: _, γ => match heE x γ e with
    | some d => .ok (.rt d) μ
    | none => .fail
def dropN (nm : Option Nat) (γ : Ga) : Ga := match nm with
  | some i => γ.set i .un
  | none => γ
def inJ (nm : Option Nat) (γ : Ga) : Bool := match nm with
  | some i => decide (i < γ.length)
  | none => true
def endH (nm : Option Nat) (fl : Fl) (μ : Sto) : R Fl := match fl with
  | .nx γ => .ok (.nx (dropN nm γ)) μ
  | .rt d => .ok (.rt d) μ
  | _ => .fail
def hdl (x : Xc) (γ : Ga) (μ : Sto) : List Hd → R Fl
  | [] => .exc x γ μ
  | h :: r => if h.cs.any (subX x.c) then (if inJ h.nm γ then (heSs x μ h.b (dropN h.nm γ)).bind (endH h.nm) else .fail) else hdl x γ μ r
/-- x[y] = v, x owned -/
def osetR (γ : Ga) (i : Nat) (xs : List D) (x y : D) (μ : Sto) : R Fl := match y with
  | .int k => match L2.ixN xs.length k with
    | some n => .ok (.nx (γ.set i (.own (.lst (xs.set n x))))) μ
    | none => .fail
  | _ => .fail
/-- the place that an index names, and what stands there -/
def ixD (xs : List D) (y : D) : Option (Nat × D) := match y with
  | .int k => match L2.ixN xs.length k with
    | some n => match xs[n]? with
      | some w => some (n, w)
      | none => none
    | none => none
  | _ => none
def truthR (d : D) (μ : Sto) : R Bool := match truth d with
  | some b => .ok b μ
  | none => .fail
def intR (x : D) (μ : Sto) : R (Option Int) := match x with
  | .int i => .ok (some i) μ
  | _ => .fail

def parR (i j : Nat) (γ : Ga) (ds : List D) (μ : Sto) : R Fl := match ds with
  | [x, y] => .ok (.nx ((γ.set i (.val x)).set j (.val y))) μ
  | _ => .fail
section
variable (gl : Nat → Option D) (cl : Nat → List D → Sto → R D)
mutual
def denE : E → Ga → Sto → R D
  | .var i, γ, μ => match γ[i]? with
    | some (.val d) => .ok d μ
    | _ => .fail
  | .ovar i, γ, μ => match γ[i]? with
    | some (.own (.lst xs)) => .ok (.lst xs) μ
    | _ => .fail
  | .odic i, γ, μ => match γ[i]? with
    | some (.own (.dic kvs)) => .ok (.dic kvs) μ
    | _ => .fail
  | .con d, _, μ => .ok d μ
  | .glb g, _, μ => ofO (gl g) μ
  | .bin o a b, γ, μ => (denE a γ μ).bind fun x μ => (denE b γ μ).bind fun y μ => orO (binop o x y) (binop o (dr μ x) (dr μ y)) μ
  | .lop o a b, γ, μ => (denE a γ μ).bind fun x μ => (denE b γ μ).bind fun y μ => orO (lopD o x y) (lopD o (dr μ x) (dr μ y)) μ
  | .sto e, γ, μ => (denE e γ μ).bind stoR
  | .popl a i, γ, μ => (denE a γ μ).bind fun x μ => if isL μ x then (denE i γ μ).bind fun y μ => popR x y μ else .fail
  | .pop0 a, γ, μ => (denE a γ μ).bind fun x μ => popR x (.int (-1)) μ
  | .neg a, γ, μ => (denE a γ μ).bind fun x μ => match x with
    | .int i => .ok (.int (-i)) μ
    | _ => .fail
  | .cmp o a b, γ, μ => (denE a γ μ).bind fun x μ => (denE b γ μ).bind fun y μ => orO (compare o x y) (compare o (dr μ x) (dr μ y)) μ
  | .chn o o' a b c, γ, μ => (denE a γ μ).bind fun x μ => (denE b γ μ).bind fun y μ => match compare o x y with
    | some (.bl true) => (denE c γ μ).bind fun z μ => ofO (compare o' y z) μ
    | some (.bl false) => .ok (.bl false) μ
    | _ => .fail
  | .not a, γ, μ => (denE a γ μ).bind fun x μ => (truthR x μ).bind fun b μ => .ok (.bl !b) μ
  | .and a b, γ, μ => (denE a γ μ).bind fun x μ => (truthR x μ).bind fun t μ => if t then denE b γ μ else .ok x μ
  | .or a b, γ, μ => (denE a γ μ).bind fun x μ => (truthR x μ).bind fun t μ => if t then .ok x μ else denE b γ μ
  | .ite c a b, γ, μ => (denE c γ μ).bind fun x μ => (truthR x μ).bind fun t μ => if t then denE a γ μ else denE b γ μ
  | .tup es, γ, μ => (denEs es γ μ).bind fun xs μ => .ok (.tup xs) μ
  | .lst es, γ, μ => (denEs es γ μ).bind fun xs μ => .ok (.lst xs) μ
  | .new es, γ, μ => (denEs es γ μ).bind fun xs μ => .any (fun p => μ p = none) fun p => .ok (.loc p) (μ.put p (.lst xs))
  | .dsp1 k v, γ, μ => (denE k γ μ).bind fun x μ => (denE v γ μ).bind fun y μ => match keyD x with
    | some _ => .ok (.dic [(x, y)]) μ
    | none => .fail
  | .dsp kvs, γ, μ => (denPs kvs γ μ).bind dspR
  | .ix a i, γ, μ => (denE a γ μ).bind fun x μ => (denE i γ μ).bind fun y μ => ixR x y μ
  | .sl a lo hi, γ, μ => (denE a γ μ).bind fun x μ => (denO lo γ μ).bind fun l μ => (denO hi γ μ).bind fun h μ => orO (slice x l h) (slice (dr μ x) l h) μ
  | .mko c f es ks pm, γ, μ => (denEs es γ μ).bind fun xs μ => (denEs ks γ μ).bind fun ys μ => .any (fun p => μ p = none) fun p => ((cl f (arr pm (.loc p :: (xs ++ ys))) (μ.put p (.ins c []))).back γ).bind fun r μ => madeR p r μ
  | .att a f, γ, μ => (denE a γ μ).bind (attR f)
  | .mth a c _ f es, γ, μ => (denE a γ μ).bind fun x μ => if isOb c μ x then (denEs es γ μ).bind fun xs μ => (cl f (x :: xs) μ).back γ else .fail
  | .call f es ks pm, γ, μ => (denEs es γ μ).bind fun xs μ => (denEs ks γ μ).bind fun ys μ => (cl f (arr pm (xs ++ ys)) μ).back γ
  | .bi b es, γ, μ => (denEs es γ μ).bind fun xs μ => orO (builtin b xs) (builtin b (xs.map (dr μ))) μ
  | .mt m a e, γ, μ => (denE a γ μ).bind fun x μ => if isStr x then (denE e γ μ).bind fun y μ => ofO (mt1 m x y) μ else .fail
  | .dsp0, _, μ => .ok (.dic []) μ
  | .rvl a, γ, μ => (denE a γ μ).bind fun x μ => orO (rvlD x) (rvlD (dr μ x)) μ
  | .kys a, γ, μ => (denE a γ μ).bind keysR
  | .dcp a, γ, μ => (denE a γ μ).bind dcpR
  | .mrg a k v, γ, μ => (denE a γ μ).bind fun x μ => (denE k γ μ).bind fun y μ => (denE v γ μ).bind fun z μ => mrgR x y z μ
  | .rng3 a b c, γ, μ => (denE a γ μ).bind fun x μ => (denE b γ μ).bind fun y μ => (denE c γ μ).bind fun z μ => ofO (rangeD [x, y, z]) μ
  | .sset a, γ, μ => (denE a γ μ).bind fun x μ => orO (ssetD x) (ssetD (dr μ x)) μ
  | .tidx g e, γ, μ => if isTupO (gl g) then (denE e γ μ).bind fun y μ => ofO (tidxD (gl g) y) μ else .fail
  | .rev a, γ, μ => (denE a γ μ).bind fun x μ => ofO (revD x) μ
  | .isi a ts, γ, μ => (denE a γ μ).bind fun x μ => orO ((isTys x ts).map .bl) ((isTys (dr μ x) ts).map .bl) μ
  | .rng1 a, γ, μ => (denE a γ μ).bind fun x μ => ofO (rangeD [x]) μ
  | .rng2 a b, γ, μ => (denE a γ μ).bind fun x μ => (denE b γ μ).bind fun y μ => ofO (rangeD [x, y]) μ
  | .enu a, γ, μ => (denE a γ μ).bind fun x μ => ofO ((items x).map fun xs => .lst (enumL 0 xs)) μ
  | .zip a b, γ, μ => (denE a γ μ).bind fun x μ => (denE b γ μ).bind fun y μ => match items x, items y with
    | some xs, some ys => .ok (.lst (zipL xs ys)) μ
    | _, _ => .fail
  | .lc t it c e, γ, μ => ((denE it γ μ).bind itemsR).bind fun xs μ =>
    (lcL (fun y acc μ => setTR (wipeG γ t) t y fun γ' => (denC c γ' μ).bind fun b μ => if b then (denE e γ' μ).bind fun z μ => addL acc z μ else .ok acc μ) xs [] μ).nox.bind fun zs μ => .ok (.lst zs) μ
  | .lc2 t it c t2 it2 c2 e, γ, μ => ((denE it γ μ).bind itemsR).bind fun xs μ =>
    (lcL (fun y acc μ => setTR (wipeG γ (t ++ t2)) t y fun γ' => (denC c γ' μ).bind fun b μ => if b then ((denE it2 γ' μ).bind itemsR).bind fun xs2 μ =>
      lcL (fun y2 acc μ => setTR (wipeG γ' t2) t2 y2 fun γ2 => (denC c2 γ2 μ).bind fun b μ => if b then (denE e γ2 μ).bind fun z μ => addL acc z μ else .ok acc μ) xs2 acc μ
      else .ok acc μ) xs [] μ).nox.bind fun zs μ => .ok (.lst zs) μ
def denO : Option E → Ga → Sto → R (Option Int)
  | none, _, μ => .ok none μ
  | some e, γ, μ => (denE e γ μ).bind intR
def denC : Option E → Ga → Sto → R Bool
  | none, _, μ => .ok true μ
  | some e, γ, μ => (denE e γ μ).bind fun x μ => truthR x μ
def denPs : List (E × E) → Ga → Sto → R (List (D × D))
  | [], _, μ => .ok [] μ
  | q :: r, γ, μ => (denP q γ μ).bind fun p μ => (denPs r γ μ).bind fun ps μ => .ok (p :: ps) μ
def denP : E × E → Ga → Sto → R (D × D)
  | (a, b), γ, μ => (denE a γ μ).bind fun x μ => (denE b γ μ).bind fun y μ => .ok (x, y) μ
def denEs : List E → Ga → Sto → R (List D)
  | [], _, μ => .ok [] μ
  | e :: es, γ, μ => (denE e γ μ).bind fun x μ => (denEs es γ μ).bind fun xs μ => .ok (x :: xs) μ
end
def condR (c : E) (γ : Ga) (μ : Sto) : R Bool := (denE gl cl c γ μ).bind fun x μ => truthR x μ
mutual
def denS : S → Ga → Sto → R Fl
  | .asg t e, γ, μ => (denE gl cl e γ μ).bind fun x μ => match setT γ t x with
    | some γ' => .ok (.nx γ') μ
    | none => .fail
  | .aug i o e, γ, μ => match γ[i]? with
    | some (.val x) => (denE gl cl e γ μ).bind fun y μ => match augB o x y with
      | some z => .ok (.nx (γ.set i (.val z))) μ
      | none => .fail
    | _ => .fail
  | .own i e, γ, μ => (denE gl cl e γ μ).bind fun x μ => match x with
    | .lst xs => .ok (.nx (γ.set i (.own (.lst xs)))) μ
    | _ => .fail
  | .app i e, γ, μ => match γ[i]? with
    | some (.own (.lst xs)) => (denE gl cl e γ μ).bind fun x μ => if xs.length < 1000000 then .ok (.nx (γ.set i (.own (.lst (xs ++ [x]))))) μ else .fail
    | _ => .fail
  | .popd i, γ, μ => match γ[i]? with
    | some (.own (.lst xs)) => if xs.isEmpty then .fail else .ok (.nx (γ.set i (.own (.lst xs.dropLast)))) μ
    | _ => .fail
  | .lset a i e, γ, μ => (denE gl cl e γ μ).bind fun x μ => (denE gl cl a γ μ).bind fun o μ => (denE gl cl i γ μ).bind fun j μ => match o, j with
    | .loc p, .int j => match μ p with
      | some (.lst xs) => match L2.ixN xs.length j with
        | some n => .ok (.nx γ) (μ.put p (.lst (xs.set n x)))
        | none => .fail
      | _ => .fail
    | _, _ => .fail
  | .lapp a e, γ, μ => (denE gl cl a γ μ).bind fun o μ => if isL μ o then (denE gl cl e γ μ).bind fun x μ => match o with
      | .loc p => match μ p with
        | some (.lst xs) => if xs.length < 1000000 then .ok (.nx γ) (μ.put p (.lst (xs ++ [x]))) else .fail
        | _ => .fail
      | _ => .fail
    else .fail
  | .oset i j e, γ, μ => match γ[i]? with
    | some (.own (.lst xs)) => (denE gl cl e γ μ).bind fun x μ => (denE gl cl j γ μ).bind fun y μ => osetR γ i xs x y μ
    | _ => .fail
  | .oagi i j o e, γ, μ => match γ[i]? with
    | some (.own (.lst xs)) => (denE gl cl j γ μ).bind fun y μ => match ixD xs y with
      | some (n, w) => (denE gl cl e γ μ).bind fun x μ => match augB o w x with
        | some z => .ok (.nx (γ.set i (.own (.lst (xs.set n z))))) μ
        | none => .fail
      | none => .fail
    | _ => .fail
  | .oext i e, γ, μ => match γ[i]? with
    | some (.own (.lst xs)) => (denE gl cl e γ μ).bind fun x μ => match x with
      | .lst ys => if xs.length + ys.length ≤ 1000000 then .ok (.nx (γ.set i (.own (.lst (xs ++ ys))))) μ else .fail
      | _ => .fail
    | _ => .fail
  | .ownd i, γ, μ => .ok (.nx (γ.set i (.own (.dic [])))) μ
  | .faug a c f o e, γ, μ => (denE gl cl a γ μ).bind fun x μ => if isOb c μ x then (attR f x μ).bind fun v μ => (denE gl cl e γ μ).bind fun y μ => (ofO (augB o v y) μ).bind fun z μ => fsetR c f z x γ μ else .fail
  | .fset a c f e, γ, μ => (denE gl cl e γ μ).bind fun y μ => (denE gl cl a γ μ).bind fun x μ => fsetR c f y x γ μ
  | .dset i j e, γ, μ => match γ[i]? with
    | some (.own (.dic kvs)) => (denE gl cl e γ μ).bind fun x μ => (denE gl cl j γ μ).bind fun y μ => match keyD y with
      | some _ => if kvs.length < 1000000 then .ok (.nx (γ.set i (.own (.dic (putD kvs y x))))) μ else .fail
      | none => .fail
    | _ => .fail
  | .expr e, γ, μ => (denE gl cl e γ μ).bind fun _ μ => .ok (.nx γ) μ
  | .ret e, γ, μ => (denE gl cl e γ μ).bind fun x μ => .ok (.rt x) μ
  | .retn, γ, μ => .ok (.rt .non) μ
  | .ite c a b, γ, μ => (condR gl cl c γ μ).bind fun t μ => if t then denSs a γ μ else denSs b γ μ
  | .forr t it b kill, γ, μ => ((denE gl cl it γ μ).bind itemsR).bind fun xs μ => forL (fun y γ μ => match setT γ t y with
      | some γ' => denSs b γ' μ
      | none => .fail) kill xs γ μ
  | .whil c b kill, γ, μ => whileL (condR gl cl c) (fun γ μ => denSs b γ μ) kill 100000 γ μ
  | .par i j a b, γ, μ => (denEs gl cl [a, b] γ μ).bind (parR i j γ)
  | .pass, γ, μ => .ok (.nx γ) μ
  | .brk, γ, μ => .ok (.bk γ) μ
  | .cont, γ, μ => .ok (.ct γ) μ
  | .frz i, γ, μ => match γ[i]? with
    | some (.own (.lst xs)) => .ok (.nx (γ.set i (.val (.lst xs)))) μ
    | some (.own (.dic kvs)) => .ok (.nx (γ.set i (.val (.dic kvs)))) μ
    | _ => .ok (.nx γ) μ
  | .raise_, _, _ => .fail
  | .rais c fl es, γ, μ => (denEs gl cl es γ μ).bind fun ds μ => if ds.length = fl.length then .exc ⟨c, (fl.zip ds).reverse⟩ γ μ else .fail
  | .try_ b hs, γ, μ => (denSs b γ μ).catch fun x γ' μ' => hdl x γ' μ' hs
def denSs : List S → Ga → Sto → R Fl
  | [], γ, μ => .ok (.nx γ) μ
  | s :: r, γ, μ => (denS s γ μ).bind fun fl μ => match fl with
    | .nx γ' => denSs r γ' μ
    | _ => .ok fl μ
end
end

/-! ### the same, sealed: what plain proofs see -/
section
variable (gl : Nat → Option D) (cl : Nat → List D → Sto → R D)
@[irreducible] def xE (e : E) (γ : Ga) (μ : Sto) : R D := denE gl cl e γ μ
@[irreducible] def xEs (e : List E) (γ : Ga) (μ : Sto) : R (List D) := denEs gl cl e γ μ
@[irreducible] def xO (e : Option E) (γ : Ga) (μ : Sto) : R (Option Int) := denO gl cl e γ μ
@[irreducible] def xC (e : Option E) (γ : Ga) (μ : Sto) : R Bool := denC gl cl e γ μ
@[irreducible] def xPs (e : List (E × E)) (γ : Ga) (μ : Sto) : R (List (D × D)) := denPs gl cl e γ μ
@[irreducible] def xS (e : S) (γ : Ga) (μ : Sto) : R Fl := denS gl cl e γ μ
@[irreducible] def xSs (e : List S) (γ : Ga) (μ : Sto) : R Fl := denSs gl cl e γ μ
end
/-- a def -/
structure Fn where
  np : Nat
  ns : Nat
  fr : Bool
  body : List S
def initG (F : Fn) (ds : List D) : Ga := ds.map .val ++ List.replicate (F.ns - ds.length) .un
def outF (fr : Bool) (fl : Fl) (μ : Sto) : R D := match fl with
  | .nx _ => if fr then .fail else .ok .non μ
  | .rt d => .ok d μ
  | _ => .fail
def call (gl : Nat → Option D) (fns : List Fn) : Nat → Nat → List D → Sto → R D
  | 0, _, _, _ => .fail
  | k + 1, f, ds, μ => match fns[f]? with
    | some F => if ds.length = F.np then (xSs gl (call gl fns k) F.body (initG F ds) μ).bind (outF F.fr) else .fail
    | none => .fail
end Bs
/-! Bs: how data stands in the heap. -/
namespace Bs
open PySem L2
abbrev Sa := Addr → Prop
/-- a key's text may stand -/
def okK : D → Prop
  | .str s => s.length ≤ 1000000 ∧ ∀ c ∈ s, c < 128
  | _ => True
def strV (s : List Nat) : V := .str ⟨s.toArray⟩
def KLs (K : PySem.W.Frag) (a : Addr) (xs : List V) : Prop := ∃ (o : Obj) (its : Array Value) (n : Nat), K.lookup a = some o ∧ o.cls = .type "list" ∧ o.dict = none ∧ o.data = .seq its n ∧ its.size ≤ sizeLine ∧ Vals xs its.toList
def KTs (K : PySem.W.Frag) (a : Addr) (xs : List V) : Prop := ∃ (o : Obj) (its : Array Value) (n : Nat), K.lookup a = some o ∧ o.cls = .type "tuple" ∧ o.data = .seq its n ∧ its.size ≤ sizeLine ∧ Vals xs its.toList ∧ o.dict = none
def LsR (K : PySem.W.Frag) (T : Sa) (H : Hp) (a : Addr) (xs : List V) : Prop := (Rd H a (.lst xs) ∧ ¬ T a) ∨ KLs K a xs
def TpR (K : PySem.W.Frag) (T : Sa) (H : Hp) (a : Addr) (xs : List V) : Prop := (Rd H a (.tup xs) ∧ ¬ T a) ∨ KTs K a xs
section
variable (K : PySem.W.Frag) (S : Sa) (H : Hp)
mutual
def Rel : D → V → Prop
  | .non, v => v = .non
  | .bl b, v => v = .bl b
  | .int i, v => v = .int i
  | .str s, v => v = strV s ∧ s.length ≤ 1000000 ∧ ∀ c ∈ s, c < 128
  | .tup xs, v => ∃ a vs, v = .ref a ∧ TpR K S H a vs ∧ Rels xs vs
  | .lst xs, v => ∃ a vs, v = .ref a ∧ LsR K S H a vs ∧ Rels xs vs
  | .dic kvs, v => ∃ a ps, v = .ref a ∧ (∃ od, H a = some (.frz od (.dK ps))) ∧ ¬ S a ∧ RelP kvs ps
  | .obj _ _, _ => False
  | .loc p, v => v = .ref p
def Rels : List D → List V → Prop
  | [], vs => vs = []
  | d :: r, vs => ∃ v ws, vs = v :: ws ∧ Rel d v ∧ Rels r ws
def RelP : List (D × D) → List (Key × V) → Prop
  | [], ps => ps = []
  | q :: r, ps => ∃ k v qs, ps = (k, v) :: qs ∧ RelQ q k v ∧ RelP r qs
def RelQ : D × D → Key → V → Prop
  | (d, e), k, v => keyD d = some k ∧ okK d ∧ Rel e v
end
end
/-- the top may be one that is owned -/
def RelW (K : PySem.W.Frag) (T S : Sa) (H : Hp) : D → V → Prop
  | .lst xs, v => ∃ a vs, v = .ref a ∧ LsR K T H a vs ∧ Rels K S H xs vs
  | .dic kvs, v => ∃ a ps, v = .ref a ∧ Rd H a (.dK ps) ∧ ¬ T a ∧ RelP K S H kvs ps
  | d, v => Rel K S H d v
def Rl (K : PySem.W.Frag) : Bool → Sa → Sa → Hp → D → V → Prop
  | true, _, S, H, d, v => Rel K S H d v
  | false, T, S, H, d, v => RelW K T S H d v

section
variable {K : PySem.W.Frag} {S S' T T' : Sa} {H H' : Hp}
theorem LsR.sq {a : Addr} {xs : List V} (h : LsR K T H a xs) : SqL K H a xs := by
  rcases h with h | h
  · exact .inl h.1
  · exact .inr h
theorem TpR.sq {a : Addr} {xs : List V} (h : TpR K T H a xs) : SqT K H a xs := by
  rcases h with h | ⟨o, its, n, h1, h2, h3, h4, h5, _⟩
  · exact .inl h.1
  · exact .inr ⟨o, its, n, h1, h2, h3, h4, h5⟩
/-- what is kept from H to H' -/
structure Kp (S S' : Sa) (H H' : Hp) : Prop where
  keep : ∀ a o, H a = some o → ¬ S a → H' a = some o
  sub : ∀ a, S' a → S a ∨ H a = none
theorem Kp.rd {a : Addr} {u : HO} (k : Kp S S' H H') (h : Rd H a u) (n : ¬ S a) : Rd H' a u ∧ ¬ S' a := by
  rcases h with h | ⟨o, h⟩
  · exact ⟨.inl (k.keep a _ h n), fun z => (k.sub a z).elim n fun e => by rw [e] at h; cases h⟩
  · exact ⟨.inr ⟨o, k.keep a _ h n⟩, fun z => (k.sub a z).elim n fun e => by rw [e] at h; cases h⟩
theorem Kp.ls {a : Addr} {xs : List V} (k : Kp S S' H H') (h : LsR K S H a xs) : LsR K S' H' a xs := by
  rcases h with h | h
  · exact .inl (k.rd h.1 h.2)
  · exact .inr h
theorem Kp.tp {a : Addr} {xs : List V} (k : Kp S S' H H') (h : TpR K S H a xs) : TpR K S' H' a xs := by
  rcases h with h | h
  · exact .inl (k.rd h.1 h.2)
  · exact .inr h
mutual
theorem Rel.kp (k : Kp S S' H H') : ∀ (d : D) (v : V), Rel K S H d v → Rel K S' H' d v
  | .non, _, h => h
  | .bl _, _, h => h
  | .int _, _, h => h
  | .str _, _, h => h
  | .tup xs, v, h => by
    obtain ⟨a, vs, e, q, r⟩ := h
    exact ⟨a, vs, e, k.tp q, Rels.kp k xs vs r⟩
  | .lst xs, v, h => by
    obtain ⟨a, vs, e, q, r⟩ := h
    exact ⟨a, vs, e, k.ls q, Rels.kp k xs vs r⟩
  | .dic kvs, v, h => by
    obtain ⟨a, ps, e, ⟨od, q⟩, n, r⟩ := h
    exact ⟨a, ps, e, ⟨od, k.keep a _ q n⟩, fun z => (k.sub a z).elim n fun e => (by rw [e] at q; cases q), RelP.kp k kvs ps r⟩
  | .obj _ _, _, h => h
  | .loc _, _, h => h
theorem Rels.kp (k : Kp S S' H H') : ∀ (ds : List D) (vs : List V), Rels K S H ds vs → Rels K S' H' ds vs
  | [], _, h => h
  | d :: r, vs, h => by
    obtain ⟨v, ws, e, q, z⟩ := h
    exact ⟨v, ws, e, Rel.kp k d v q, Rels.kp k r ws z⟩
theorem RelP.kp (k : Kp S S' H H') : ∀ (ds : List (D × D)) (vs : List (Key × V)), RelP K S H ds vs → RelP K S' H' ds vs
  | [], _, h => h
  | q :: r, vs, h => by
    obtain ⟨kk, v, ws, e, q1, z⟩ := h
    exact ⟨kk, v, ws, e, RelQ.kp k q kk v q1, RelP.kp k r ws z⟩
theorem RelQ.kp (k : Kp S S' H H') : ∀ (q : D × D) (kk : Key) (v : V), RelQ K S H q kk v → RelQ K S' H' q kk v
  | (_, e), _, v, h => ⟨h.1, h.2.1, Rel.kp k e v h.2.2⟩
end
theorem Rel.weak {d : D} {v : V} (h : Rel K S H d v) (ht : ∀ a, T a → S a) : RelW K T S H d v := by
  cases d with
  | lst xs =>
    obtain ⟨a, vs, e, q, r⟩ := h
    refine ⟨a, vs, e, ?_, r⟩
    rcases q with q | q
    · exact .inl ⟨q.1, fun z => q.2 (ht a z)⟩
    · exact .inr q
  | non => exact h
  | bl _ => exact h
  | int _ => exact h
  | str _ => exact h
  | tup _ => exact h
  | dic _ =>
    obtain ⟨a, ps, e, ⟨od, q⟩, n, r⟩ := h
    exact ⟨a, ps, e, .inr ⟨od, q⟩, fun z => n (ht a z), r⟩
  | obj _ _ => exact h
  | loc _ => exact h
theorem RelW.kp {d : D} {v : V} (k : Kp S S' H H') (k2 : Kp T T' H H') (h : RelW K T S H d v) : RelW K T' S' H' d v := by
  cases d with
  | lst xs =>
    obtain ⟨a, vs, e, q, r⟩ := h
    exact ⟨a, vs, e, k2.ls q, r.kp k⟩
  | non => exact h
  | bl _ => exact h
  | int _ => exact h
  | str _ => exact h
  | tup _ => exact Rel.kp k _ _ h
  | dic _ =>
    obtain ⟨a, ps, e, q, n, r⟩ := h
    obtain ⟨q1, q2⟩ := k2.rd q n
    exact ⟨a, ps, e, q1, q2, RelP.kp k _ _ r⟩
  | obj _ _ => exact h
  | loc _ => exact h
theorem Rels.length : ∀ {ds : List D} {vs : List V}, Rels K S H ds vs → vs.length = ds.length
  | [], _, h => by rw [h]; rfl
  | d :: r, vs, h => by
    obtain ⟨v, ws, rfl, q, z⟩ := h
    rw [List.length_cons, List.length_cons, Rels.length z]
theorem Rels.get : ∀ {ds : List D} {vs : List V} {i : Nat} {d : D}, Rels K S H ds vs → ds[i]? = some d → ∃ v, vs[i]? = some v ∧ Rel K S H d v
  | [], _, _, _, _, e => by simp at e
  | d :: r, vs, i, d', h, e => by
    obtain ⟨v, ws, rfl, q, z⟩ := h
    cases i with
    | zero => simp at e; subst e; exact ⟨v, rfl, q⟩
    | succ i => simp at e; simpa using Rels.get z e
theorem Rels.get' {ds : List D} {vs : List V} {i : Nat} {v : V} (h : Rels K S H ds vs) (e : vs[i]? = some v) : ∃ d, ds[i]? = some d ∧ Rel K S H d v := by
  have hl := h.length
  have hi : i < ds.length := by rw [← hl]; exact (List.getElem?_eq_some_iff.mp e).1
  obtain ⟨w, e1, r⟩ := h.get (List.getElem?_eq_getElem hi)
  rw [e] at e1; cases e1
  exact ⟨_, List.getElem?_eq_getElem hi, r⟩
theorem Rels.append : ∀ {ds : List D} {vs : List V} {es : List D} {ws : List V}, Rels K S H ds vs → Rels K S H es ws → Rels K S H (ds ++ es) (vs ++ ws)
  | [], _, _, _, h, h2 => by rw [h]; exact h2
  | d :: r, vs, es, ws, h, h2 => by
    obtain ⟨v, us, rfl, q, z⟩ := h
    exact ⟨v, us ++ ws, rfl, q, z.append h2⟩
theorem Rels.take : ∀ {ds : List D} {vs : List V} (n : Nat), Rels K S H ds vs → Rels K S H (ds.take n) (vs.take n)
  | _, _, 0, _ => by simp [Rels]
  | [], _, n + 1, h => by rw [h]; simp [Rels]
  | d :: r, vs, n + 1, h => by
    obtain ⟨v, us, rfl, q, z⟩ := h
    exact ⟨v, us.take n, rfl, q, z.take n⟩
theorem Rels.drop : ∀ {ds : List D} {vs : List V} (n : Nat), Rels K S H ds vs → Rels K S H (ds.drop n) (vs.drop n)
  | _, _, 0, h => h
  | [], _, n + 1, h => by rw [h]; simp [Rels]
  | d :: r, vs, n + 1, h => by
    obtain ⟨v, us, rfl, q, z⟩ := h
    exact z.drop n
theorem Rels.set : ∀ {ds : List D} {vs : List V} {d : D} {v : V} (n : Nat), Rels K S H ds vs → Rel K S H d v → Rels K S H (ds.set n d) (vs.set n v)
  | [], _, _, _, n, h, _ => by rw [h]; simp [Rels]
  | e :: r, vs, d, v, 0, h, q => by
    obtain ⟨w, us, rfl, q1, z⟩ := h
    exact ⟨v, us, rfl, q, z⟩
  | e :: r, vs, d, v, n + 1, h, q => by
    obtain ⟨w, us, rfl, q1, z⟩ := h
    exact ⟨w, us.set n v, rfl, q1, z.set n q⟩
theorem Rels.one {d : D} {v : V} (h : Rel K S H d v) : Rels K S H [d] [v] := ⟨v, [], rfl, h, rfl⟩
end

/-! ### owned objects, the store -/
def RelF (K : PySem.W.Frag) (S : Sa) (H : Hp) : List (Nat × D) → List (Str × V) → Prop
  | [], vs => vs = []
  | q :: r, vs => ∃ v ws, vs = (nm q.1, v) :: ws ∧ Rel K S H q.2 v ∧ RelF K S H r ws
theorem RelF.kp {K : PySem.W.Frag} {S S' : Sa} {H H' : Hp} (k : Kp S S' H H') : ∀ {fs : List (Nat × D)} {vs : List (Str × V)}, RelF K S H fs vs → RelF K S' H' fs vs
  | [], _, h => h
  | q :: r, vs, h => by
    obtain ⟨v, ws, e, r1, r2⟩ := h
    exact ⟨v, ws, e, Rel.kp k _ _ r1, RelF.kp k r2⟩
def ObR (K : PySem.W.Frag) (S : Sa) (H : Hp) (p : Addr) : Ob → Prop
  | .lst xs => ∃ vs, H p = some (.lst vs) ∧ Rels K S H xs vs
  | .dic kvs => ∃ ps, H p = some (.dK ps) ∧ RelP K S H kvs ps
  | .ins c fs => ∃ dx vs, H p = some (.ins (He.ga K (nm c)) dx vs) ∧ RelF K S H fs vs ∧ Cls K (He.ga K (nm c)) ∧ ∀ q ∈ fs, q.1 < 130 ∧ NoAttr K (He.ga K (nm c)) (nm q.1)
theorem ObR.there {K : PySem.W.Frag} {S : Sa} {H : Hp} {p : Addr} {o : Ob} (h : ObR K S H p o) : H p ≠ none := by
  cases o with
  | lst xs => obtain ⟨vs, e, _⟩ := h; rw [e]; exact fun z => nomatch z
  | dic _ => obtain ⟨vs, e, _⟩ := h; rw [e]; exact fun z => nomatch z
  | ins _ _ => obtain ⟨dx, vs, e, _⟩ := h; rw [e]; exact fun z => nomatch z
theorem ObR.kp {K : PySem.W.Frag} {S S' : Sa} {H H' : Hp} {p : Addr} {o : Ob} (k : Kp S S' H H') (e : H' p = H p) (h : ObR K S H p o) : ObR K S' H' p o := by
  cases o with
  | lst xs => obtain ⟨vs, e1, r⟩ := h; exact ⟨vs, e.trans e1, r.kp k⟩
  | dic _ => obtain ⟨vs, e1, r⟩ := h; exact ⟨vs, e.trans e1, RelP.kp k _ _ r⟩
  | ins _ _ => obtain ⟨dx, vs, e1, r, c, n⟩ := h; exact ⟨dx, vs, e.trans e1, r.kp k, c, n⟩
def Dm (μ : Sto) : Sa := fun a => μ a ≠ none
structure StoOk (K : PySem.W.Frag) (S : Sa) (μ : Sto) (H : Hp) : Prop where
  st : ∀ p o, μ p = some o → S p ∧ ObR K S H p o
  sd : ∀ a, S a → H a ≠ none
theorem StoOk.dm {K : PySem.W.Frag} {S : Sa} {μ : Sto} {H : Hp} (h : StoOk K S μ H) : ∀ a, Dm μ a → S a := fun a z => by
  cases e : μ a with
  | none => exact absurd e z
  | some o => exact (h.st a o e).1
structure Step (S : Sa) (μ : Sto) (H : Hp) (S' : Sa) (μ' : Sto) (H' : Hp) : Prop where
  keep : ∀ a o, H a = some o → μ a = none → H' a = some o
  there : ∀ a, H a ≠ none → H' a ≠ none
  sub : ∀ a, S' a → S a ∨ H a = none
  sup : ∀ a, S a → S' a
  dom : ∀ a, μ a ≠ none → μ' a ≠ none
  dsub : ∀ a, μ' a ≠ none → μ a ≠ none ∨ H a = none
section
variable {K : PySem.W.Frag} {S S' S2 : Sa} {μ μ' μ2 : Sto} {H H' H2 : Hp}
theorem Step.refl : Step S μ H S μ H := ⟨fun _ _ h _ => h, fun _ h => h, fun _ h => .inl h, fun _ h => h, fun _ h => h, fun _ h => .inl h⟩
theorem none_back {a : Addr} (t : ∀ a, H a ≠ none → H' a ≠ none) (h : H' a = none) : H a = none := by
  cases e : H a with
  | none => rfl
  | some o => exact absurd h (t a (by rw [e]; exact fun z => nomatch z))
theorem Step.trans (s : Step S μ H S' μ' H') (t : Step S' μ' H' S2 μ2 H2) : Step S μ H S2 μ2 H2 where
  keep := fun a o h m => by
    refine t.keep a o (s.keep a o h m) ?_
    cases e : μ' a with
    | none => rfl
    | some x => rcases s.dsub a (by rw [e]; exact fun z => nomatch z) with z | z
                · exact absurd m z
                · rw [z] at h; cases h
  there := fun a h => t.there a (s.there a h)
  sub := fun a h => by
    rcases t.sub a h with h | h
    · exact s.sub a h
    · exact .inr (none_back s.there h)
  sup := fun a h => t.sup a (s.sup a h)
  dom := fun a h => t.dom a (s.dom a h)
  dsub := fun a h => by
    rcases t.dsub a h with h | h
    · exact s.dsub a h
    · exact .inr (none_back s.there h)
theorem Step.kp (s : Step S μ H S' μ' H') (ok : ∀ a, Dm μ a → S a) : Kp S S' H H' :=
  ⟨fun a o h n => s.keep a o h (by cases e : μ a with
    | none => rfl
    | some x => exact absurd (ok a (by unfold Dm; rw [e]; exact fun z => nomatch z)) n), s.sub⟩
theorem Step.kpD (s : Step S μ H S' μ' H') : Kp (Dm μ) (Dm μ') H H' :=
  ⟨fun a o h n => s.keep a o h (by cases e : μ a with
    | none => rfl
    | some x => exact absurd (by unfold Dm; rw [e]; exact fun z => nomatch z) n), s.dsub⟩
end
structure KpT (S S' : Sa) (H H' : Hp) : Prop where
  kp : Kp S S' H H'
  th : ∀ a, H a ≠ none → H' a ≠ none
theorem KpT.refl {S : Sa} {H : Hp} : KpT S S H H := ⟨⟨fun _ _ h _ => h, fun _ h => .inl h⟩, fun _ h => h⟩
theorem KpT.trans {S S' S2 : Sa} {H H' H2 : Hp} (a : KpT S S' H H') (b : KpT S' S2 H' H2) : KpT S S2 H H2 := by
  refine ⟨⟨fun x o h n => b.kp.keep x o (a.kp.keep x o h n) fun z => (a.kp.sub x z).elim n fun e => ?_, fun x z => (b.kp.sub x z).elim (a.kp.sub x) fun e => .inr (none_back a.th e)⟩, fun x h => b.th x (a.th x h)⟩
  rw [e] at h; cases h
theorem Step.kpT {S S' : Sa} {μ μ' : Sto} {H H' : Hp} (s : Step S μ H S' μ' H') (ok : ∀ a, Dm μ a → S a) : KpT S S' H H' := ⟨s.kp ok, s.there⟩
theorem KpT.poke {S S' : Sa} {H H' : Hp} (k : KpT S S' H H') {p : Addr} {o : HO} (hp : S p ∨ H p = none) : KpT S S' H (upd H' p o) := by
  refine ⟨⟨fun a u h n => ?_, k.kp.sub⟩, fun a h => ?_⟩
  · rw [upd_ne (fun e => ?_)]
    · exact k.kp.keep a u h n
    · rcases hp with z | z
      · exact n (by rw [e]; exact z)
      · rw [e, z] at h; cases h
  · by_cases e : a = p
    · rw [e, upd_same]; exact fun z => nomatch z
    · rw [upd_ne e]; exact k.th a h
/-! ### exceptions -/
/-- an error's class that the text has -/
def XDef (K : PySem.W.Frag) (c : Nat) : Prop := c < 30 ∧ PySem.W.nsIn K mainGlobals (nm c) = some (some (.ref (He.ga K (nm c))))
def XRel (K : PySem.W.Frag) (S : Sa) (H : Hp) (x : Xc) (cls : Value) (d : Option Addr) : Prop := XDef K x.c ∧ cls = .ref (He.ga K (nm x.c)) ∧ ((x.fs = [] ∧ d = none) ∨ ∃ dd vs, d = some dd ∧ H dd = some (.xd vs) ∧ ¬ S dd ∧ RelF K S H x.fs vs) ∧ ∀ q ∈ x.fs, q.1 ∈ fldIds
theorem XRel.kp {K : PySem.W.Frag} {S S' : Sa} {H H' : Hp} {x : Xc} {cls : Value} {d : Option Addr} (k : Kp S S' H H') (h : XRel K S H x cls d) : XRel K S' H' x cls d := by
  obtain ⟨h0, h1, h2, h3⟩ := h
  refine ⟨h0, h1, h2.imp id fun h2 => ?_, h3⟩
  obtain ⟨dd, vs, e, hd, ns, r⟩ := h2
  exact ⟨dd, vs, e, k.keep dd _ hd ns, fun z => (k.sub dd z).elim ns fun z => (by rw [z] at hd; cases hd), r.kp k⟩
/-- fixed through a def's run: what stood at its entry -/
structure Ct where
  K : PySem.W.Frag
  S0 : Sa
  μ0 : Sto
  H0 : Hp
  V : Xc → Ga → Sto → Prop
  S1 : Sa
  H1 : Hp
/-- the same, but nothing may be raised -/
def Ct.nv (c : Ct) : Ct := { c with V := fun _ _ _ => False }
def SlR (c : Ct) (S : Sa) (μ : Sto) (σ : L2.St) (H : Hp) (i : Nat) : Sl → Prop
  | .un => True
  | .val d => ∃ v, σ[i]? = some (some v) ∧ Rel c.K S H d v
  | .own o => ∃ p, σ[i]? = some (some (V.ref p)) ∧ S p ∧ c.H0 p = none ∧ μ p = none ∧ ObR c.K S H p o
structure Good (c : Ct) (S : Sa) (γ : Ga) (μ : Sto) (σ : L2.St) (H : Hp) : Prop where
  len : γ.length = σ.length
  sl : ∀ (i : Nat) (s : Sl), γ[i]? = some s → SlR c S μ σ H i s
  ap : ∀ (i j : Nat) (o o' : Ob) (p : Addr), γ[i]? = some (Sl.own o) → γ[j]? = some (Sl.own o') → σ[i]? = some (some (V.ref p)) → σ[j]? = some (some (V.ref p)) → i = j
  st : StoOk c.K S μ H
  s0 : ∀ a, c.S0 a → S a
  ext : ∀ a o, c.H0 a = some o → c.μ0 a = none → H a = some o
  fr : ∀ p, μ p ≠ none → c.μ0 p ≠ none ∨ c.H0 p = none
  md : ∀ p, c.μ0 p ≠ none → μ p ≠ none
  kt : KpT c.S1 S c.H1 H
section
variable {c : Ct} {S S' : Sa} {γ γ' : Ga} {μ μ' : Sto} {σ : L2.St} {H H' : Hp}
theorem Good.wv {V' : Xc → Ga → Sto → Prop} (g : Good c S γ μ σ H) : Good { c with V := V' } S γ μ σ H := ⟨g.len, g.sl, g.ap, g.st, g.s0, g.ext, g.fr, g.md, g.kt⟩
theorem Good.unwv {V' : Xc → Ga → Sto → Prop} (g : Good { c with V := V' } S γ μ σ H) : Good c S γ μ σ H := ⟨g.len, g.sl, g.ap, g.st, g.s0, g.ext, g.fr, g.md, g.kt⟩
theorem Good.h0 (g : Good c S γ μ σ H) {a : Addr} (h : H a = none) : c.H0 a = none := by
  cases e : c.H0 a with
  | none => rfl
  | some o =>
    cases m : c.μ0 a with
    | none => rw [g.ext a o e m] at h; cases h
    | some x =>
      have z := g.md a (by rw [m]; exact fun z => nomatch z)
      cases q : μ a with
      | none => exact absurd q z
      | some y => exact absurd h (g.st.st a y q).2.there
/-- a step that keeps what the slots own -/
theorem Good.step (g : Good c S γ μ σ H) (s : Step S μ H S' μ' H') (ok : StoOk c.K S' μ' H') : Good c S' γ μ' σ H' where
  len := g.len
  sl := fun i x e => by
    have h := g.sl i x e
    have k := s.kp g.st.dm
    cases x with
    | un => trivial
    | val d => obtain ⟨v, e1, r⟩ := h; exact ⟨v, e1, r.kp k⟩
    | own o =>
      obtain ⟨p, e1, sp, h0, m, r⟩ := h
      have hp : H p ≠ none := r.there
      have hp' : H' p = H p := by
        cases q : H p with
        | none => exact absurd q hp
        | some u => exact s.keep p u q m
      refine ⟨p, e1, s.sup p sp, h0, ?_, r.kp k hp'⟩
      cases q : μ' p with
      | none => rfl
      | some u =>
        rcases s.dsub p (by rw [q]; exact fun z => nomatch z) with z | z
        · exact absurd m z
        · exact absurd z hp
  ap := g.ap
  st := ok
  s0 := fun a h => s.sup a (g.s0 a h)
  ext := fun a o h m => by
    have h1 := g.ext a o h m
    refine s.keep a o h1 ?_
    cases q : μ a with
    | none => rfl
    | some u =>
      rcases g.fr a (by rw [q]; exact fun z => nomatch z) with z | z
      · exact absurd m z
      · rw [z] at h; cases h
  fr := fun p h => by
    rcases s.dsub p h with z | z
    · exact g.fr p z
    · exact .inr (g.h0 z)
  md := fun p h => s.dom p (g.md p h)
  kt := g.kt.trans (s.kpT g.st.dm)
/-- what is wished of an exception that is in the air -/
def WV (c : Ct) : WX := fun cls d σ H => ∃ S γ μ x, Good c S γ μ σ H ∧ XRel c.K S H x cls d ∧ c.V x γ μ
/-- a new object that is not owned -/
theorem step_new (ok : StoOk c.K S μ H) {p : Addr} {o : HO} (hp : H p = none) : Step S μ H S μ (upd H p o) ∧ StoOk c.K S μ (upd H p o) := by
  have k : Kp S S H (upd H p o) := ⟨fun a u h _ => by rw [upd_ne (ne_of_none h hp)]; exact h, fun a h => .inl h⟩
  have t : ∀ a, H a ≠ none → (upd H p o) a ≠ none := fun a h => by
    by_cases e : a = p
    · rw [e, upd_same]; exact fun z => nomatch z
    · rw [upd_ne e]; exact h
  refine ⟨⟨fun a u h _ => by rw [upd_ne (ne_of_none h hp)]; exact h, t, fun a h => .inl h, fun a h => h, fun a h => h, fun a h => .inl h⟩, fun q ob e => ?_, fun a h => t a (ok.sd a h)⟩
  obtain ⟨h1, h2⟩ := ok.st q ob e
  refine ⟨h1, h2.kp k ?_⟩
  rw [upd_ne (fun z => h2.there (by rw [z]; exact hp))]
theorem ok_notS (ok : StoOk c.K S μ H) {p : Addr} (hp : H p = none) : ¬ S p := fun z => ok.sd p z hp
end
end Bs
/-! Bs: expressions are sound. -/
namespace Bs
open PySem L2
abbrev Wf : Xc → Ga → Sto → Prop := fun _ _ _ => False
section
variable (c : Ct)
/-- what is wanted behind an expression -/
def Aft (st : Bool) (S : Sa) (μ : Sto) (H : Hp) (γ : Ga) (σ : L2.St) (Q : VK) : D → Sto → Prop := fun d μ' => ∀ S' v H', Good c S' γ μ' σ H' → Step S μ H S' μ' H' → Rl c.K st (Dm μ') S' H' d v → Q v H'
def AftB (S : Sa) (μ : Sto) (H : Hp) (γ : Ga) (σ : L2.St) (Q : Bool → Hp → Prop) : Bool → Sto → Prop := fun b μ' => ∀ S' H', Good c S' γ μ' σ H' → Step S μ H S' μ' H' → Q b H'
def Rls (K : PySem.W.Frag) (st : Bool) (T S : Sa) (H : Hp) : List D → List V → Prop
  | [], vs => vs = []
  | d :: r, vs => ∃ v ws, vs = v :: ws ∧ Rl K st T S H d v ∧ Rls K st T S H r ws
def AftA (st : Bool) (S : Sa) (μ : Sto) (H : Hp) (γ : Ga) (σ : L2.St) (Q : List V → Hp → Prop) : List D → Sto → Prop := fun ds μ' => ∀ S' vs H', Good c S' γ μ' σ H' → Step S μ H S' μ' H' → Rls c.K st (Dm μ') S' H' ds vs → Q vs H'
def TEn (st : Bool) (r : Ga → Sto → R D) : TE := fun σ H Q => ∃ S γ μ, Good c S γ μ σ H ∧ (r γ μ).All (Aft c st S μ H γ σ Q) c.V
def TTn (r : Ga → Sto → R Bool) : TT := fun σ H Q => ∃ S γ μ, Good c S γ μ σ H ∧ (r γ μ).All (AftB c S μ H γ σ Q) c.V
def TAn (st : Bool) (r : Ga → Sto → R (List D)) : TA := fun σ H Q => ∃ S γ μ, Good c S γ μ σ H ∧ (r γ μ).All (AftA c st S μ H γ σ Q) c.V
end
section
variable {c : Ct} {S S' : Sa} {γ : Ga} {μ μ' : Sto} {σ : L2.St} {H H' : Hp} {Q : VK} {st : Bool}
theorem Aft.step {r : R D} {W : Xc → Ga → Sto → Prop} (h : r.All (Aft c st S μ H γ σ Q) W) (s : Step S μ H S' μ' H') : r.All (Aft c st S' μ' H' γ σ Q) W :=
  h.mono (fun _ _ q S2 v H2 g t rl => q S2 v H2 g (s.trans t) rl) fun _ _ _ w => w
theorem AftB.step {r : R Bool} {Q : Bool → Hp → Prop} {W : Xc → Ga → Sto → Prop} (h : r.All (AftB c S μ H γ σ Q) W) (s : Step S μ H S' μ' H') : r.All (AftB c S' μ' H' γ σ Q) W :=
  h.mono (fun _ _ q S2 H2 g t => q S2 H2 g (s.trans t)) fun _ _ _ w => w
theorem AftA.step {r : R (List D)} {Q : List V → Hp → Prop} {W : Xc → Ga → Sto → Prop} (h : r.All (AftA c st S μ H γ σ Q) W) (s : Step S μ H S' μ' H') : r.All (AftA c st S' μ' H' γ σ Q) W :=
  h.mono (fun _ _ q S2 v H2 g t rl => q S2 v H2 g (s.trans t) rl) fun _ _ _ w => w
theorem Rl.weak {K : PySem.W.Frag} {T : Sa} {d : D} {v : V} (h : Rl K st T S H d v) (ht : ∀ a, T a → S a) : RelW K T S H d v := by
  cases st with
  | true => exact Rel.weak h ht
  | false => exact h
/-- one that is strong is weak -/
theorem TEn.weak {r : Ga → Sto → R D} (h : TEn c false r σ H Q) : TEn c st r σ H Q := by
  obtain ⟨S, γ, μ, g, a⟩ := h
  exact ⟨S, γ, μ, g, a.mono (fun d μ' q S' v H' g' s rl => q S' v H' g' s (Rl.weak rl g'.st.dm)) fun _ _ _ w => w⟩
end
theorem _root_.L2.PE.imp {X : Cx} {e : Expr} {t t' : TE} (h : PE X e t) (i : ∀ σ H Q, t' σ H Q → t σ H Q) : PE X e t' := ⟨fun pins s σ H Q I w => h.run pins s σ H Q I (i σ H Q w)⟩
theorem _root_.L2.PT.imp {X : Cx} {e : Expr} {t t' : TT} (h : PT X e t) (i : ∀ σ H Q, t' σ H Q → t σ H Q) : PT X e t' := ⟨fun pins s σ H Q I w => h.run pins s σ H Q I (i σ H Q w)⟩
theorem _root_.L2.PA.imp {X : Cx} {e : List Expr} {t t' : TA} (h : PA X e t) (i : ∀ σ H Q, t' σ H Q → t σ H Q) : PA X e t' := ⟨fun pos pins s σ H Q I w => h.run pos pins s σ H Q I (i σ H Q w)⟩
theorem _root_.L2.PK.imp {X : Cx} {e : List Keyword} {t t' : TA} (h : PK X e t) (i : ∀ σ H Q, t' σ H Q → t σ H Q) : PK X e t' := ⟨fun pos pins s σ H Q I w => h.run pos pins s σ H Q I (i σ H Q w)⟩
theorem PEweak {c : Ct} {X : Cx} {e : Expr} {st : Bool} {r : Ga → Sto → R D} (h : PE X e (TEn c st r)) : PE X e (TEn c false r) := h.imp fun _ _ _ w => w.weak

/-! ### operators by values -/
/-- nothing is barred -/
abbrev T0 : Sa := fun _ => False
section
variable (c : Ct)
def Op2 (r : R2) (f : D → D → Sto → R D) : Prop := ∀ (S : Sa) (γ : Ga) (μ : Sto) (σ : L2.St) (H : Hp) (d e : D) (v w : V) (Q : VK), Good c S γ μ σ H → RelW c.K T0 S H d v → RelW c.K T0 S H e w → (f d e μ).All (Aft c true S μ H γ σ Q) c.V → r v w H Q
def Op1 (r : V → Hp → VK → Prop) (f : D → Sto → R D) : Prop := ∀ (S : Sa) (γ : Ga) (μ : Sto) (σ : L2.St) (H : Hp) (d : D) (v : V) (Q : VK), Good c S γ μ σ H → RelW c.K T0 S H d v → (f d μ).All (Aft c true S μ H γ σ Q) c.V → r v H Q
def OpA (r : List V → Hp → VK → Prop) (f : List D → Sto → R D) : Prop := ∀ (S : Sa) (γ : Ga) (μ : Sto) (σ : L2.St) (H : Hp) (ds : List D) (vs : List V) (Q : VK), Good c S γ μ σ H → Rls c.K false T0 S H ds vs → (f ds μ).All (Aft c true S μ H γ σ Q) c.V → r vs H Q
end
theorem RelW.zero {K : PySem.W.Frag} {T S : Sa} {H : Hp} {d : D} {v : V} (h : RelW K T S H d v) : RelW K T0 S H d v := by
  cases d with
  | lst xs =>
    obtain ⟨a, vs, e, q, r⟩ := h
    refine ⟨a, vs, e, ?_, r⟩
    rcases q with q | q
    · exact .inl ⟨q.1, fun z => z⟩
    · exact .inr q
  | non => exact h
  | bl _ => exact h
  | int _ => exact h
  | str _ => exact h
  | tup _ => exact h
  | dic _ =>
    obtain ⟨a, ps, e, q, n, r⟩ := h
    exact ⟨a, ps, e, q, fun z => z, r⟩
  | obj _ _ => exact h
  | loc _ => exact h
theorem Rls.zero {K : PySem.W.Frag} {T S : Sa} {H : Hp} : ∀ {ds : List D} {vs : List V}, Rls K false T S H ds vs → Rls K false T0 S H ds vs
  | [], _, h => h
  | d :: r, vs, h => by
    obtain ⟨v, ws, e, q, z⟩ := h
    exact ⟨v, ws, e, RelW.zero q, Rls.zero z⟩
/-- a place of the store read -/
theorem RelW.dr {c : Ct} {S : Sa} {γ : Ga} {μ : Sto} {σ : L2.St} {H : Hp} {d : D} {v : V} (g : Good c S γ μ σ H) (h : RelW c.K T0 S H d v) : RelW c.K T0 S H (dr μ d) v := by
  cases d with
  | loc p =>
    cases e : μ p with
    | none => simp only [Bs.dr, e]; exact h
    | some o =>
      cases o with
      | lst xs =>
        simp only [Bs.dr, e]
        obtain ⟨sp, vs, ep, r⟩ := g.st.st p _ e
        exact ⟨p, vs, h, .inl ⟨.inl ep, fun z => z⟩, r⟩
      | dic _ => simp only [Bs.dr, e]; exact h
      | ins _ _ => simp only [Bs.dr, e]; exact h
  | _ => exact h
theorem Rls.dr {c : Ct} {S : Sa} {γ : Ga} {μ : Sto} {σ : L2.St} {H : Hp} (g : Good c S γ μ σ H) : ∀ {ds : List D} {vs : List V}, Rls c.K false T0 S H ds vs → Rls c.K false T0 S H (ds.map (Bs.dr μ)) vs
  | [], _, h => h
  | d :: r, vs, h => by
    obtain ⟨v, ws, e, q, z⟩ := h
    exact ⟨v, ws, e, RelW.dr g q, Rls.dr g z⟩
theorem Op2.dr {c : Ct} {r : R2} {f : D → D → Option D} (h : Op2 c r fun x y μ => ofO (f x y) μ) : Op2 c r fun x y μ => orO (f x y) (f (Bs.dr μ x) (Bs.dr μ y)) μ := by
  intro S γ μ σ H d e v w Q g rd re q
  cases z : f d e with
  | some d' =>
    simp only [z, orO] at q
    exact h S γ μ σ H d e v w Q g rd re (by simp only [z]; exact q)
  | none =>
    simp only [z, orO] at q
    exact h S γ μ σ H _ _ v w Q g (rd.dr g) (re.dr g) q
theorem Op1.dr {c : Ct} {r : V → Hp → VK → Prop} {f : D → Option D} (h : Op1 c r fun x μ => ofO (f x) μ) : Op1 c r fun x μ => orO (f x) (f (Bs.dr μ x)) μ := by
  intro S γ μ σ H d v Q g rd q
  cases z : f d with
  | some d' =>
    simp only [z, orO] at q
    exact h S γ μ σ H d v Q g rd (by simp only [z]; exact q)
  | none =>
    simp only [z, orO] at q
    exact h S γ μ σ H _ v Q g (rd.dr g) q
theorem OpA.dr {c : Ct} {r : List V → Hp → VK → Prop} {f : List D → Option D} (h : OpA c r fun x μ => ofO (f x) μ) : OpA c r fun x μ => orO (f x) (f (x.map (Bs.dr μ))) μ := by
  intro S γ μ σ H d v Q g rd q
  cases z : f d with
  | some d' =>
    simp only [z, orO] at q
    exact h S γ μ σ H d v Q g rd (by simp only [z]; exact q)
  | none =>
    simp only [z, orO] at q
    exact h S γ μ σ H _ v Q g (rd.dr g) q
section
variable {c : Ct} {X : Cx} {σ : L2.St} {H : Hp} {Q : VK} {ra rb : Ga → Sto → R D}
theorem read2 {r : R2} {f : D → D → Sto → R D} (ho : Op2 c r f) (h : TEn c true (fun γ μ => (ra γ μ).bind fun x μ => (rb γ μ).bind fun y μ => f x y μ) σ H Q) : tOp r (TEn c false ra) (TEn c false rb) σ H Q := by
  obtain ⟨S, γ, μ, g, a⟩ := h
  refine ⟨S, γ, μ, g, (R.All_bind _ _ _ _ |>.mp a).mono (fun d μ1 q => ?_) fun _ _ _ w => w⟩
  intro S1 v H1 g1 s1 r1
  refine ⟨S1, γ, μ1, g1, (R.All_bind _ _ _ _ |>.mp q).mono (fun e μ2 q => ?_) fun _ _ _ w => w⟩
  intro S2 w H2 g2 s2 r2
  exact ho S2 γ μ2 σ H2 d e v w Q g2 (RelW.zero (RelW.kp (s2.kp g1.st.dm) s2.kpD r1)) (RelW.zero r2) (Aft.step q (s1.trans s2))
theorem read1 {r : V → Hp → VK → Prop} {f : D → Sto → R D} (ho : Op1 c r f) (h : TEn c true (fun γ μ => (ra γ μ).bind fun x μ => f x μ) σ H Q) : TEn c false ra σ H fun x H1 => r x H1 Q := by
  obtain ⟨S, γ, μ, g, a⟩ := h
  refine ⟨S, γ, μ, g, (R.All_bind _ _ _ _ |>.mp a).mono (fun d μ1 q => ?_) fun _ _ _ w => w⟩
  intro S1 v H1 g1 s1 r1
  exact ho S1 γ μ1 σ H1 d v Q g1 (RelW.zero r1) (Aft.step q s1)
theorem readA {r : List V → Hp → VK → Prop} {f : List D → Sto → R D} {ra : Ga → Sto → R (List D)} (ho : OpA c r f) (h : TEn c true (fun γ μ => (ra γ μ).bind fun x μ => f x μ) σ H Q) : TAn c false ra σ H fun x H1 => r x H1 Q := by
  obtain ⟨S, γ, μ, g, a⟩ := h
  refine ⟨S, γ, μ, g, (R.All_bind _ _ _ _ |>.mp a).mono (fun d μ1 q => ?_) fun _ _ _ w => w⟩
  intro S1 v H1 g1 s1 r1
  exact ho S1 γ μ1 σ H1 d v Q g1 (Rls.zero r1) (Aft.step q s1)
end
/-- what is new is locked -/
def tFz (t : TE) : TE := fun σ H Q => t σ H fun v H1 => ∃ d u, v = .ref d ∧ H1 d = some u ∧ Mut (some u) ∧ ∀ od, Q v (upd H1 d (.frz od u))
theorem pe_fz {X : Cx} {e : Expr} {t : TE} (h : PE X e t) : PE X e (tFz t) := by
  refine ⟨fun pins s σ H Q I w => ?_⟩
  refine thn (h.run pins s σ H _ I w) fun v s1 ⟨x, H1, I1, r, d, u, e, hd, mu, q⟩ => ?_
  obtain ⟨od, I2⟩ := I1.lock hd mu
  exact ⟨x, _, I2, r, q od⟩
/-- the same ahead of a block -/
def tFzS (t : TS) : TS := fun E σ H => t E σ H ∨ ∃ d u, H d = some u ∧ Mut (some u) ∧ ∀ od, t E σ (upd H d (.frz od u))
theorem pss_fz {X : Cx} {ss : List Stmt} {t : TS} (h : PSs X ss t) : PSs X ss (tFzS t) := by
  refine ⟨fun pins s σ H D I w => ?_⟩
  rcases w with w | ⟨d, u, hd, mu, w⟩
  · exact h.run pins s σ H D I w
  · obtain ⟨od, I2⟩ := I.lock hd mu
    exact h.run pins s σ _ D I2 (w od)
/-! ### results -/
section
variable {c : Ct} {S S' : Sa} {γ : Ga} {μ μ' : Sto} {σ : L2.St} {H H' : Hp} {Q : VK} {st : Bool} {d : D} {v : V}
/-- a value, nothing changed -/
theorem fin0 (g : Good c S γ μ σ H) (h : R.All (.ok d μ) (Aft c true S μ H γ σ Q) c.V) (r : Rel c.K S H d v) : Q v H := h S v H g Step.refl r
theorem finO {o : Option D} (g : Good c S γ μ σ H) (h : (ofO o μ).All (Aft c true S μ H γ σ Q) c.V) (r : ∀ d, o = some d → Rel c.K S H d v) : Q v H := by
  cases o with
  | none => exact h.elim
  | some d => exact fin0 g h (r d rfl)
theorem no_fail {α : Type} {o : Option α} {f : α → R D} {Z : Prop} {Qd : D → Sto → Prop} {W : Xc → Ga → Sto → Prop} (h : (match o with | some x => f x | none => R.fail).All Qd W) (k : ∀ x, o = some x → (f x).All Qd W → Z) : Z := by
  cases o with
  | none => exact h.elim
  | some x => exact k x rfl h
theorem ofO_some {o : Option D} {Qd : D → Sto → Prop} {W : Xc → Ga → Sto → Prop} (h : (ofO o μ).All Qd W) : ∃ d, o = some d ∧ Qd d μ := by
  cases o with
  | none => exact h.elim
  | some d => exact ⟨d, rfl, h⟩
/-- a new tuple, a new list -/
theorem fin_tup {ds : List D} {vs : List V} (g : Good c S γ μ σ H) (h : Aft c true S μ H γ σ Q (.tup ds) μ) (r : Rels c.K S H ds vs) (p : Addr) (hp : H p = none) : Q (.ref p) (upd H p (.tup vs)) := by
  obtain ⟨s, ok⟩ := step_new (c := c) (o := HO.tup vs) g.st hp
  exact h S (.ref p) _ (g.step s ok) s ⟨p, vs, rfl, .inl ⟨.inl upd_same, ok_notS g.st hp⟩, r.kp (s.kp g.st.dm)⟩
theorem fin_lst {ds : List D} {vs : List V} (g : Good c S γ μ σ H) (h : Aft c true S μ H γ σ Q (.lst ds) μ) (r : Rels c.K S H ds vs) (p : Addr) (hp : H p = none) : Q (.ref p) (upd H p (.lst vs)) := by
  obtain ⟨s, ok⟩ := step_new (c := c) (o := HO.lst vs) g.st hp
  exact h S (.ref p) _ (g.step s ok) s ⟨p, vs, rfl, .inl ⟨.inl upd_same, ok_notS g.st hp⟩, r.kp (s.kp g.st.dm)⟩
end
/-! ### what is known of a value by its datum -/
section
variable {K : PySem.W.Frag} {T S : Sa} {H : Hp} {v : V}
theorem rw_int {i : Int} (h : RelW K T S H (.int i) v) : v = .int i := h
theorem rw_bl {b : Bool} (h : RelW K T S H (.bl b) v) : v = .bl b := h
theorem rw_non (h : RelW K T S H .non v) : v = .non := h
theorem rw_str {s : List Nat} (h : RelW K T S H (.str s) v) : v = strV s ∧ s.length ≤ 1000000 ∧ ∀ c ∈ s, c < 128 := h
theorem rw_lst {xs : List D} (h : RelW K T S H (.lst xs) v) : ∃ a vs, v = .ref a ∧ SqL K H a vs ∧ Rels K S H xs vs := by
  obtain ⟨a, vs, e, q, r⟩ := h
  exact ⟨a, vs, e, q.sq, r⟩
theorem rw_tup {xs : List D} (h : RelW K T S H (.tup xs) v) : ∃ a vs, v = .ref a ∧ SqT K H a vs ∧ Rels K S H xs vs := by
  obtain ⟨a, vs, e, q, r⟩ := h
  exact ⟨a, vs, e, q.sq, r⟩
theorem rw_dic {kvs : List (D × D)} (h : RelW K T S H (.dic kvs) v) : ∃ a ps, v = .ref a ∧ Rd H a (.dK ps) ∧ RelP K S H kvs ps := by
  obtain ⟨a, ps, e, q, n, r⟩ := h
  exact ⟨a, ps, e, q, r⟩
theorem big_line {n : Nat} (h : n ≤ 1000000) : n ≤ sizeLine := Nat.le_trans h (by rw [sizeLine_eq]; decide)
theorem str_len (s : List Nat) : (⟨s.toArray⟩ : Str).length = s.length := by simp [Str.length]
end
end Bs
/-! Bs: operators. -/
namespace Bs
open PySem L2
theorem list_mulW (l : Addr) (items : Array Value) (n : Nat) (sl : Array (Option Value)) (x : Int) (u : Tok) (hc0 : ¬(!Builtin.List.listFitsIndex x) = true)
    (hc1 : ¬items.size * x.toNat > (2 ^ 63 - 1) / 8) (hc2 : ¬Builtin.List.listTooLong (items.size * x.toNat) = true) :
    Meets (Builtin.«list.__mul__» ⟨[.ref l, .int x u], []⟩) (fun _ R s => s.heap.get? l = some { cls := .type "list", data := .seq items n, slots := sl } ∧ R (.ok (.ret (Value.ref s.heap.objs.size))) { s with heap := s.heap.push { cls := Value.type "list", data := Data.seq (List.foldl (fun x1 x2 => x1 ++ x2) #[] (List.replicate (if items.isEmpty = true then 0 else x.toNat) items)) }, toks := s.toks }) :=
  .of_wp fun prog w A R s h => by
    obtain ⟨hp, g, d, tk, os⟩ := s; obtain ⟨hl, h⟩ := h
    have hsz := AutoListH.joined_fits hc2
    wp_walk; refine wpAny_ite_false (decide_eq_false (Nat.not_lt.mpr hsz)) ?_; wp_walk; exact ⟨_, rfl, h⟩
theorem rmul_listW (a : Int) (t : Tok) (l : Addr) (items : Array Value) (n : Nat) (sl : Array (Option Value)) :
    Meets (Builtin.«int.__rmul__» ⟨[.int a t, .ref l], []⟩) (fun _ R s => s.heap.get? l = some { cls := .type "list", data := .seq items n, slots := sl } ∧ R (.ok (.ret Value.notImplemented)) s) :=
  .of_wp fun prog w A R s h => by obtain ⟨hp, g, d, tk, os⟩ := s; obtain ⟨hl, h⟩ := h; wp_walk; exact ⟨_, rfl, h⟩
section
variable {X : Cx}
theorem op_catS : OpR X (binaryOp .Add) (fun x y H Q => ∃ l b xs zs, x = .ref l ∧ y = .ref b ∧ SqL X.K H l xs ∧ SqL X.K H b zs ∧ xs.length + zs.length ≤ sizeLine ∧ ∀ p, H p = none → Q (.ref p) (upd H p (.lst (xs ++ zs)))) := by
  intro pins s σ H x y v u Q I rx ry h
  obtain ⟨l, b, xs, zs, rfl, rfl, hH, hB, hz, q⟩ := h
  cases rx
  cases ry
  obtain ⟨its, r, p1, _⟩ := I.list hH
  obtain ⟨its2, r2, p2, _⟩ := I.list hB
  have hl := r.length
  have hl2 := r2.length
  obtain ⟨⟨cls, dd, data, sl⟩, ho, hc, n, hd⟩ := p1.isList
  obtain ⟨⟨cls2, dd2, data2, sl2⟩, ho2, hc2, n2, hd2⟩ := p2.isList
  simp only at hc hd hc2 hd2
  subst hc hd hc2 hd2
  have e : its.toArray ++ its2.toArray = (its ++ its2).toArray := by simp
  refine concat_meets ⟨_, ho, rfl⟩ ⟨_, ho2, rfl⟩ noFill_list_add seq_list_add PySem.F.slot_list_add PySem.F.entry_list_add (PySem.F.args_list_add_2 _ _) (PyProof.Rows.list_addW l b its.toArray its2.toArray n n2 dd dd2 sl sl2 (by rw [List.size_toArray, List.size_toArray]; omega)) ⟨ho, ho2, ?_⟩
  rw [e]
  exact ⟨.ref _, _, I.lnew (t' := s.toks) (r.append r2) (by rw [List.length_append]; omega), rfl, q _ I.fresh⟩
theorem mul_eq (s : List Nat) (n : Int) : Txt.mul ⟨s.toArray⟩ n = ⟨(List.replicate n.toNat s).flatten.toArray⟩ := by
  unfold Txt.mul
  by_cases h1 : n < 1
  · rw [if_pos h1]
    have : n.toNat = 0 := by omega
    rw [this]; rfl
  · rw [if_neg h1]
    by_cases h2 : (n == 1 || (⟨s.toArray⟩ : Str).length == 0) = true
    · rw [if_pos h2]
      rcases Bool.or_eq_true_iff.mp h2 with h | h
      · have : n = 1 := by simpa using h
        subst this
        simp
      · have hs : s = [] := by
          rw [str_len] at h
          simpa using h
        subst hs
        simp
    · rw [if_neg h2]
      congr 1
      have key : ∀ (k : Nat) (acc : List Nat), (List.replicate k s.toArray).foldl (· ++ ·) acc.toArray = (acc ++ (List.replicate k s).flatten).toArray := by
        intro k
        induction k with
        | zero => intro acc; simp
        | succ k ih =>
          intro acc
          rw [List.replicate_succ, List.foldl_cons, List.append_toArray, ih, List.replicate_succ]
          simp
      simpa using key n.toNat []
theorem op_mulS : OpR X (binaryOp .Mult) (fun x y H Q => ∃ (s : List Nat) (n : Int), x = strV s ∧ y = .int n ∧ s.length * n.toNat ≤ 1000000 ∧ -(2 ^ 62) ≤ n ∧ n < 2 ^ 62 ∧ Q (strV (List.replicate n.toNat s).flatten) H) := by
  intro pins s σ H x y v u Q I rx ry h
  obtain ⟨z, n, rfl, rfl, hz, h1, h2, q⟩ := h
  obtain ⟨t, rfl⟩ := rx
  obtain ⟨t', rfl⟩ := ry
  refine SB.mul ⟨?_, fun hn hc => ?_, fun hn hc => ?_⟩ fun t2 k => ⟨strV _, H, I.tok _, ⟨t2, ?_⟩, q⟩
  · rw [decide_eq_false (by omega), decide_eq_false (by omega)]; rfl
  · rw [str_len]
    intro hgt
    have hn1 : 1 ≤ n := by omega
    have hle : (z.length : Int) * n ≤ 1000000 := by
      have e : ((z.length * n.toNat : Nat) : Int) = (z.length : Int) * n := by
        rw [Int.natCast_mul, Int.toNat_of_nonneg (by omega)]
      rw [← e]; omega
    have h3 : (z.length : Int) ≤ (2 ^ 63 - 1) / n := by
      rw [Int.le_ediv_iff_mul_le (by omega)]
      omega
    omega
  · rw [str_len]
    unfold Builtin.Str.tooLong
    exact decide_eq_false (by have := big_line hz; omega)
  · rw [mul_eq]
theorem op_repS : OpR X (binaryOp .Mult) (fun x y H Q => ∃ l k xs, x = .ref l ∧ y = .int k ∧ SqL X.K H l xs ∧ -(2 ^ 63) ≤ k ∧ k < 2 ^ 63 ∧ xs.length * k.toNat ≤ 1000000 ∧ ∀ p, H p = none → Q (.ref p) (upd H p (.lst (List.replicate k.toNat xs).flatten))) := by
  intro pins s σ H x y v u Q I rx ry h
  obtain ⟨l, k, xs, rfl, rfl, hH, h1, h2, hz, q⟩ := h
  cases rx
  obtain ⟨t, rfl⟩ := ry
  obtain ⟨its, r, p1, _⟩ := I.list hH
  have hl := r.length
  obtain ⟨⟨cls, dd, data, sl⟩, n, ho, hc, hdn, hd⟩ := p1
  simp only at hc hd hdn
  subst hc hd hdn
  have hz' := big_line hz
  have hlen : its.toArray.size * k.toNat ≤ sizeLine := by rw [List.size_toArray, ← hl]; exact hz'
  have hcap : ¬ its.toArray.size * k.toNat > (2 ^ 63 - 1) / 8 := by
    have : (sizeLine : Nat) ≤ (2 ^ 63 - 1) / 8 := by decide
    omega
  have hfit : ¬ (!Builtin.List.listFitsIndex k) = true := by
    rw [fitsIndex_both h1 h2]
    exact Bool.false_ne_true
  have hlong : ¬ Builtin.List.listTooLong (its.toArray.size * k.toNat) = true := by
    rw [notLongL hlen]
    exact Bool.false_ne_true
  have hnew : List.foldl (fun x1 x2 => x1 ++ x2) #[] (List.replicate (if its.toArray.isEmpty = true then 0 else k.toNat) its.toArray) = (List.replicate k.toNat its).flatten.toArray := by
    rw [size_rep]
    cases its with
    | nil => simp
    | cons a r' => rw [if_neg (by simp)]
  refine wpAny_binaryOp_repeat_ref (T := "list") (U := "int") (by decide) ⟨_, ho, rfl⟩ (fun s' => typeIs_int s' k t) noFill_list_mul PySem.F.fills_int_mul PySem.F.slot_int_rmul repeat_list PySem.F.slot_int_index.lookup
    (call_meets PySem.F.slot_int_rmul (typeIs_int s k t) PySem.F.entry_int_rmul (PySem.F.args_int_rmul_2 _ _) (rmul_listW k t l its.toArray n sl)
      ⟨ho, rfl, ⟨_, ho, rfl⟩, call_meets PySem.F.slot_list_mul ⟨_, ho, rfl⟩ PySem.F.entry_list_mul (PySem.F.args_list_mul_2 _ _) (list_mulW l its.toArray n sl k t hfit hcap hlong) ⟨ho, ?_⟩⟩)
  rw [hnew]
  exact ⟨.ref _, _, I.lnew (t' := s.toks) (r.rep k.toNat) (by rw [PyProof.Rows.lm_len_rep_flat, Nat.mul_comm]; exact hz'), rfl, q _ I.fresh⟩
end
/-! ### the binary operators -/
def bopOf : Bop → Operator
  | .add => .Add | .sub => .Sub | .mul => .Mult | .fdiv => .FloorDiv | .mod => .Mod | .pow => .Pow
section
variable {X : Cx} {c : Ct}
theorem rls_cut {K : PySem.W.Frag} {S : Sa} {H : Hp} {xs : List D} {vs : List V} (r : Rels K S H xs vs) (lo hi : Option Int) : Rels K S H (cut xs lo hi) (cutV vs lo hi) := by
  unfold cut cutV
  rw [r.length]
  exact (r.drop _).take _
theorem add_cases {d e z : D} (h : binop .add d e = some z) : (∃ i j, d = .int i ∧ e = .int j ∧ z = .int (i + j)) ∨ (∃ s t, d = .str s ∧ e = .str t ∧ s.length + t.length ≤ 1000000 ∧ z = .str (s ++ t)) ∨
    (∃ s t, d = .lst s ∧ e = .lst t ∧ s.length + t.length ≤ 1000000 ∧ z = .lst (s ++ t)) ∨ (∃ s t, d = .tup s ∧ e = .tup t ∧ s.length + t.length ≤ 1000000 ∧ z = .tup (s ++ t)) := by
  cases d <;> cases e <;> simp only [binop, Option.ite_none_right_eq_some, Option.some.injEq, reduceCtorEq] at h
  · exact .inl ⟨_, _, rfl, rfl, h.symm⟩
  · exact .inr (.inl ⟨_, _, rfl, rfl, h.1, h.2.symm⟩)
  · exact .inr (.inr (.inr ⟨_, _, rfl, rfl, h.1, h.2.symm⟩))
  · exact .inr (.inr (.inl ⟨_, _, rfl, rfl, h.1, h.2.symm⟩))
theorem rel_str {K : PySem.W.Frag} {S : Sa} {H : Hp} {s : List Nat} (h : s.length ≤ 1000000) (h2 : ∀ c ∈ s, c < 128) : Rel K S H (.str s) (strV s) := ⟨rfl, h, h2⟩
theorem str_app (s t : List Nat) : (⟨s.toArray⟩ : Str) ++ (⟨t.toArray⟩ : Str) = ⟨(s ++ t).toArray⟩ := by
  show Str.mk (s.toArray ++ t.toArray) = _
  rw [List.append_toArray]
theorem op2_add (hK : X.K = c.K) : ∃ r, OpR X (binaryOp .Add) r ∧ Op2 c r (fun x y μ => ofO (binop .add x y) μ) := by
  refine ⟨_, op_add.or (op_add_str.or (op_catS.or op_catA)), fun S γ μ σ H d e v w Q g rd re h => ?_⟩
  obtain ⟨z, hz, q⟩ := ofO_some h
  rcases add_cases hz with ⟨i, j, rfl, rfl, rfl⟩ | ⟨s, t, rfl, rfl, hl, rfl⟩ | ⟨s, t, rfl, rfl, hl, rfl⟩ | ⟨s, t, rfl, rfl, hl, rfl⟩
  · exact .inl ⟨i, j, rw_int rd, rw_int re, fin0 g q rfl⟩
  · obtain ⟨rfl, l1, a1⟩ := rw_str rd
    obtain ⟨rfl, l2, a2⟩ := rw_str re
    refine .inr (.inl ⟨_, _, rfl, rfl, by rw [str_len, str_len]; exact big_line hl, ?_⟩)
    rw [str_app]
    exact fin0 g q (rel_str (by rw [List.length_append]; exact hl) fun c hc => (List.mem_append.mp hc).elim (a1 c) (a2 c))
  · obtain ⟨a, vs, rfl, q1, r1⟩ := rw_lst rd
    obtain ⟨b, ws, rfl, q2, r2⟩ := rw_lst re
    refine .inr (.inr (.inl ⟨a, b, vs, ws, rfl, rfl, by rw [hK]; exact q1, by rw [hK]; exact q2, by rw [r1.length, r2.length]; exact big_line hl, fin_lst g q (r1.append r2)⟩))
  · obtain ⟨a, vs, rfl, q1, r1⟩ := id rd
    obtain ⟨b, ws, rfl, q2, r2⟩ := id re
    refine .inr (.inr (.inr ⟨a, b, vs, ws, rfl, rfl, by rw [hK]; exact q1.sq, by rw [hK]; exact q2.sq, by rw [r1.length, r2.length]; exact big_line hl, fun hn => ?_, fun _ hn => ?_, fun hn1 hn2 => fin_tup g q (r1.append r2)⟩))
    · have e : s = [] := by
        have := r1.length
        rw [hn] at this
        exact List.length_eq_zero_iff.mp this.symm
      subst e
      exact fin0 g q re
    · have e : t = [] := by
        have := r2.length
        rw [hn] at this
        exact List.length_eq_zero_iff.mp this.symm
      subst e
      rw [List.append_nil] at q
      exact fin0 g q rd
theorem op2_sub : Op2 c (rI0 fun i j => .int (i - j)) (fun x y μ => ofO (binop .sub x y) μ) := fun S γ μ σ H d e v w Q g rd re h => by
  obtain ⟨z, hz, q⟩ := ofO_some h
  cases d <;> cases e <;> simp only [binop, Option.some.injEq, reduceCtorEq] at hz
  subst hz
  exact ⟨_, _, rw_int rd, rw_int re, fin0 g q rfl⟩
theorem op2_fdiv : Op2 c (rI CDiv fun i j => .int (i / j)) (fun x y μ => ofO (binop .fdiv x y) μ) := fun S γ μ σ H d e v w Q g rd re h => by
  obtain ⟨z, hz, q⟩ := ofO_some h
  cases d <;> cases e <;> simp only [binop, Option.ite_none_right_eq_some, Option.some.injEq, reduceCtorEq, Bool.and_eq_true, decide_eq_true_eq] at hz
  obtain ⟨hc, rfl⟩ := hz
  exact ⟨_, _, rw_int rd, rw_int re, hc, fin0 g q rfl⟩
theorem op2_mod : Op2 c (rI (fun _ j => 0 < j) fun i j => .int (i % j)) (fun x y μ => ofO (binop .mod x y) μ) := fun S γ μ σ H d e v w Q g rd re h => by
  obtain ⟨z, hz, q⟩ := ofO_some h
  cases d <;> cases e <;> simp only [binop, Option.ite_none_right_eq_some, Option.some.injEq, reduceCtorEq, Bool.and_eq_true, decide_eq_true_eq] at hz
  obtain ⟨hc, rfl⟩ := hz
  exact ⟨_, _, rw_int rd, rw_int re, hc, fin0 g q rfl⟩
theorem op2_pow : Op2 c (rI CPow fun i j => .int (i ^ j.toNat)) (fun x y μ => ofO (binop .pow x y) μ) := fun S γ μ σ H d e v w Q g rd re h => by
  obtain ⟨z, hz, q⟩ := ofO_some h
  cases d <;> cases e <;> simp only [binop, Option.ite_none_right_eq_some, Option.some.injEq, reduceCtorEq, Bool.and_eq_true, decide_eq_true_eq] at hz
  obtain ⟨⟨⟨h1, h2⟩, h3⟩, rfl⟩ := hz
  exact ⟨_, _, rw_int rd, rw_int re, ⟨h1, by omega, h3⟩, fin0 g q rfl⟩
theorem mem_rep {n : Nat} {s : List Nat} {x : Nat} (h : x ∈ (List.replicate n s).flatten) : x ∈ s := by
  obtain ⟨l, hl, hx⟩ := List.mem_flatten.mp h
  rw [List.eq_of_mem_replicate hl] at hx
  exact hx
theorem Rels.rep {K : PySem.W.Frag} {S : Sa} {H : Hp} {ds : List D} {vs : List V} (h : Rels K S H ds vs) : ∀ n : Nat, Rels K S H (List.replicate n ds).flatten (List.replicate n vs).flatten
  | 0 => rfl
  | n + 1 => by
    rw [List.replicate_succ, List.replicate_succ, List.flatten_cons, List.flatten_cons]
    exact h.append (Rels.rep h n)
theorem op2_mul (hK : X.K = c.K) : ∃ r, OpR X (binaryOp .Mult) r ∧ Op2 c r (fun x y μ => ofO (binop .mul x y) μ) := by
  refine ⟨_, op_mul.or (op_mulS.or (op_repT.or op_repS)), fun S γ μ σ H d e v w Q g rd re h => ?_⟩
  obtain ⟨z, hz, q⟩ := ofO_some h
  cases d <;> cases e <;> simp only [binop, Option.ite_none_right_eq_some, Option.some.injEq, reduceCtorEq] at hz
  · obtain ⟨hc, rfl⟩ := hz
    refine .inl ⟨_, _, rw_int rd, rw_int re, ?_, fin0 g q rfl⟩
    unfold small at hc
    simp only [Bool.or_eq_true, Bool.and_eq_true, decide_eq_true_eq] at hc
    exact hc
  · obtain ⟨hc, rfl⟩ := hz
    simp only [Bool.and_eq_true, decide_eq_true_eq] at hc
    obtain ⟨e1, l1, a1⟩ := rw_str rd
    refine .inr (.inl ⟨_, _, e1, rw_int re, hc.1, hc.2.1, hc.2.2, fin0 g q (rel_str ?_ fun x hx => a1 x (mem_rep hx))⟩)
    rw [List.length_flatten, List.map_replicate, List.sum_replicate_nat, Nat.mul_comm]
    exact hc.1
  · obtain ⟨hc, rfl⟩ := hz
    simp only [Bool.and_eq_true, decide_eq_true_eq, Bool.not_eq_true'] at hc
    obtain ⟨a, vs, rfl, q1, r1⟩ := rw_tup rd
    have hl := r1.length
    refine .inr (.inr (.inl ⟨a, _, vs, rfl, rw_int re, by rw [hK]; exact q1, fun z => ?_, hc.1.1, hc.1.2, by rw [hl]; exact hc.2.2, fin_tup g q (r1.rep _)⟩))
    rename_i s _
    rw [z] at hl
    have e0 : s = [] := List.length_eq_zero_iff.mp hl.symm
    rw [e0] at hc
    exact absurd hc.2.1 (by simp)
  · obtain ⟨hc, rfl⟩ := hz
    simp only [Bool.and_eq_true, decide_eq_true_eq] at hc
    obtain ⟨a, vs, rfl, q1, r1⟩ := rw_lst rd
    exact .inr (.inr (.inr ⟨a, _, vs, rfl, rw_int re, by rw [hK]; exact q1, by omega, by omega, by rw [r1.length]; exact hc.1, fin_lst g q (r1.rep _)⟩))
theorem op2_bin (hK : X.K = c.K) (o : Bop) : ∃ r, OpR X (binaryOp (bopOf o)) r ∧ Op2 c r (fun x y μ => ofO (binop o x y) μ) := by
  cases o with
  | add => exact op2_add hK
  | sub => exact ⟨_, op_sub, op2_sub⟩
  | mul => exact op2_mul hK
  | fdiv => exact ⟨_, op_fdiv, op2_fdiv⟩
  | mod => exact ⟨_, op_mod, op2_mod⟩
  | pow => exact ⟨_, op_pow, op2_pow⟩
end
end Bs
/-! Bs: comparisons, subscripts, slices. -/
namespace Bs
open PySem L2
mutual
def toPy : D → PyData
  | .non => .none
  | .bl b => .bool b
  | .int i => .int i
  | .str s => .str ⟨s.toArray⟩
  | .tup xs => .tuple (toPys xs)
  | .lst xs => .list (toPys xs)
  | _ => .none
def toPys : List D → List PyData
  | [] => []
  | x :: xs => toPy x :: toPys xs
end
section
variable {K : PySem.W.Frag} {T S : Sa} {H : Hp}
mutual
theorem Rel.dp : ∀ (n : Nat) (d : D) (v : V), plain n d = true → Rel K S H d v → Dp K H v (toPy d)
  | _, .non, _, _, h => by rw [show _ = V.non from h]; exact .non
  | _, .bl _, _, _, h => by rw [show _ = V.bl _ from h]; exact .bl _
  | _, .int _, _, _, h => by rw [show _ = V.int _ from h]; exact .int _
  | _, .str _, _, _, h => by rw [h.1]; exact .str _
  | 0, .tup _, _, p, _ => by simp [plain] at p
  | n + 1, .tup xs, v, p, h => by
    obtain ⟨a, vs, rfl, q, r⟩ := h
    exact .tup q.sq (Rels.dp n xs vs (by simpa [plain] using p) r)
  | 0, .lst _, _, p, _ => by simp [plain] at p
  | n + 1, .lst xs, v, p, h => by
    obtain ⟨a, vs, rfl, q, r⟩ := h
    exact .lst q.sq (Rels.dp n xs vs (by simpa [plain] using p) r)
  | _, .dic _, _, p, _ => by simp [plain] at p
  | _, .obj _ _, _, p, _ => by simp [plain] at p
  | _, .loc _, _, p, _ => by simp [plain] at p
theorem Rels.dp : ∀ (n : Nat) (ds : List D) (vs : List V), plains n ds = true → Rels K S H ds vs → DpAll K H vs (toPys ds)
  | _, [], _, _, h => by rw [show _ = [] from h]; exact .nil
  | n, d :: r, vs, p, h => by
    obtain ⟨v, ws, rfl, q, z⟩ := h
    simp only [plains, Bool.and_eq_true] at p
    exact .cons (Rel.dp n d v p.1 q) (Rels.dp n r ws p.2 z)
end
theorem RelW.dp {n : Nat} {d : D} {v : V} (p : plain n d = true) (h : RelW K T S H d v) : Dp K H v (toPy d) := by
  cases d with
  | lst xs =>
    obtain ⟨a, vs, rfl, q, r⟩ := h
    cases n with
    | zero => simp [plain] at p
    | succ n => exact .lst q.sq (Rels.dp n xs vs (by simpa [plain] using p) r)
  | non => exact Rel.dp (S := S) n _ v p h
  | bl _ => exact Rel.dp (S := S) n _ v p h
  | int _ => exact Rel.dp (S := S) n _ v p h
  | str _ => exact Rel.dp (S := S) n _ v p h
  | tup _ => exact Rel.dp (S := S) n _ v p h
  | dic _ => simp [plain] at p
  | obj _ _ => exact Rel.dp (S := S) n _ v p h
  | loc _ => exact Rel.dp (S := S) n _ v p h
theorem strOk_of {s : List Nat} (h : ∀ c ∈ s, c < 128) : PyData.strOk ⟨s.toArray⟩ = true := by
  unfold PyData.strOk
  rw [Array.all_eq_true']
  intro x hx
  have := h x (by simpa using hx)
  simp; omega
mutual
theorem Rel.lay : ∀ (d : D) (v : V), Rel K S H d v → PyData.canLay0 (toPy d) = true
  | .non, _, _ => rfl
  | .bl _, _, _ => rfl
  | .int _, _, _ => rfl
  | .str s, _, h => by simp only [toPy, PyData.canLay0]; exact strOk_of h.2.2
  | .tup xs, v, h => by
    obtain ⟨a, vs, rfl, q, r⟩ := h
    simp only [toPy, PyData.canLay0]
    exact Rels.lay xs vs r
  | .lst xs, v, h => by
    obtain ⟨a, vs, rfl, q, r⟩ := h
    simp only [toPy, PyData.canLay0]
    exact Rels.lay xs vs r
  | .dic _, _, _ => rfl
  | .obj _ _, _, _ => rfl
  | .loc _, _, _ => rfl
theorem Rels.lay : ∀ (ds : List D) (vs : List V), Rels K S H ds vs → PyData.canLayAll0 (toPys ds) = true
  | [], _, _ => rfl
  | d :: r, vs, h => by
    obtain ⟨v, ws, rfl, q, z⟩ := h
    simp only [toPys, PyData.canLayAll0, Bool.and_eq_true]
    exact ⟨Rel.lay d v q, Rels.lay r ws z⟩
end
mutual
theorem depth_le : ∀ (n : Nat) (d : D), plain n d = true → (toPy d).depth ≤ n
  | _, .non, _ => Nat.zero_le _
  | _, .bl _, _ => Nat.zero_le _
  | _, .int _, _ => Nat.zero_le _
  | _, .str _, _ => by simp [toPy, PyData.depth]
  | 0, .tup _, p => by simp [plain] at p
  | n + 1, .tup xs, p => by
    simp only [toPy, PyData.depth]
    have := depths_le n xs (by simpa [plain] using p)
    omega
  | 0, .lst _, p => by simp [plain] at p
  | n + 1, .lst xs, p => by
    simp only [toPy, PyData.depth]
    have := depths_le n xs (by simpa [plain] using p)
    omega
  | _, .dic _, p => by simp [plain] at p
  | _, .obj _ _, p => by simp [plain] at p
  | _, .loc _, p => by simp [plain] at p
theorem depths_le : ∀ (n : Nat) (ds : List D), plains n ds = true → PyData.depthAll (toPys ds) ≤ n
  | _, [], _ => Nat.zero_le _
  | n, d :: r, p => by
    simp only [plains, Bool.and_eq_true] at p
    simp only [toPys, PyData.depthAll]
    have := depth_le n d p.1
    have := depths_le n r p.2
    omega
end
theorem RelW.lay {d : D} {v : V} (h : RelW K T S H d v) : PyData.canLay0 (toPy d) = true := by
  cases d with
  | lst xs =>
    obtain ⟨a, vs, rfl, q, r⟩ := h
    simp only [toPy, PyData.canLay0]
    exact Rels.lay xs vs r
  | non => rfl
  | bl _ => exact Rel.lay (K := K) (S := S) (H := H) _ v h
  | int _ => exact Rel.lay (K := K) (S := S) (H := H) _ v h
  | str _ => exact Rel.lay (K := K) (S := S) (H := H) _ v h
  | tup _ => exact Rel.lay (K := K) (S := S) (H := H) _ v h
  | dic _ => rfl
  | obj _ _ => exact Rel.lay (K := K) (S := S) (H := H) _ v h
  | loc _ => exact Rel.lay (K := K) (S := S) (H := H) _ v h
theorem RelW.shaped {d : D} {v : V} (p : plain 60 d = true) (h : RelW K T S H d v) : SeqAt.shaped (toPy d) = true := by
  unfold SeqAt.shaped
  rw [h.lay, decide_eq_true (Nat.le_trans (depth_le 60 d p) (by decide))]
  rfl
end
theorem str_beq (x y : List Nat) : ((⟨x.toArray⟩ : Str) == ⟨y.toArray⟩) = (x == y) := by
  rw [Bool.eq_iff_iff]
  simp
mutual
theorem eqv_eq : ∀ (n m : Nat) (a b : D), plain n a = true → plain m b = true → PyData.eqv (toPy a) (toPy b) = eqB a b
  | _, _, .non, b, _, q => by cases b <;> first | rfl | (simp [plain] at q; done)
  | _, _, .bl _, b, _, q => by cases b <;> first | rfl | (simp [plain] at q; done)
  | _, _, .int _, b, _, q => by cases b <;> first | rfl | (simp [plain] at q; done)
  | _, _, .str x, b, _, q => by
    cases b <;> first | rfl | (simp [plain] at q; done) | skip
    simp only [toPy, PyData.eqv, eqB]
    exact str_beq _ _
  | 0, _, .tup _, _, p, _ => by simp [plain] at p
  | n + 1, m, .tup xs, b, p, q => by
    cases b <;> first | rfl | (simp [plain] at q; done) | skip
    cases m with
    | zero => simp [plain] at q
    | succ m =>
      simp only [toPy, PyData.eqv, eqB]
      exact eqvs_eq n m _ _ (by simpa [plain] using p) (by simpa [plain] using q)
  | 0, _, .lst _, _, p, _ => by simp [plain] at p
  | n + 1, m, .lst xs, b, p, q => by
    cases b <;> first | rfl | (simp [plain] at q; done) | skip
    cases m with
    | zero => simp [plain] at q
    | succ m =>
      simp only [toPy, PyData.eqv, eqB]
      exact eqvs_eq n m _ _ (by simpa [plain] using p) (by simpa [plain] using q)
  | _, _, .dic _, _, p, _ => by simp [plain] at p
  | _, _, .obj _ _, _, p, _ => by simp [plain] at p
  | _, _, .loc _, _, p, _ => by simp [plain] at p
theorem eqvs_eq : ∀ (n m : Nat) (a b : List D), plains n a = true → plains m b = true → PyData.eqvAll (toPys a) (toPys b) = eqBs a b
  | _, _, [], [], _, _ => rfl
  | _, _, [], _ :: _, _, _ => rfl
  | _, _, _ :: _, [], _, _ => rfl
  | n, m, x :: xs, y :: ys, p, q => by
    simp only [plains, Bool.and_eq_true] at p q
    simp only [toPys, PyData.eqvAll, eqBs]
    rw [eqv_eq n m x y p.1 q.1, eqvs_eq n m xs ys p.2 q.2]
end
/-! ### the comparisons -/
mutual
theorem plain_mono : ∀ (n m : Nat) (d : D), n ≤ m → plain n d = true → plain m d = true
  | _, _, .non, _, _ => rfl
  | _, _, .bl _, _, _ => rfl
  | _, _, .int _, _, _ => rfl
  | _, _, .str _, _, _ => by simp [plain]
  | 0, _, .tup _, _, p => by simp [plain] at p
  | n + 1, 0, .tup _, h, _ => by omega
  | n + 1, m + 1, .tup xs, h, p => by
    simp only [plain] at p ⊢
    exact plains_mono n m xs (by omega) p
  | 0, _, .lst _, _, p => by simp [plain] at p
  | n + 1, 0, .lst _, h, _ => by omega
  | n + 1, m + 1, .lst xs, h, p => by
    simp only [plain] at p ⊢
    exact plains_mono n m xs (by omega) p
  | _, _, .dic _, _, p => by simp [plain] at p
  | _, _, .obj _ _, _, p => by simp [plain] at p
  | _, _, .loc _, _, p => by simp [plain] at p
theorem plains_mono : ∀ (n m : Nat) (ds : List D), n ≤ m → plains n ds = true → plains m ds = true
  | _, _, [], _, _ => rfl
  | n, m, d :: r, h, p => by
    simp only [plains, Bool.and_eq_true] at p ⊢
    exact ⟨plain_mono n m d h p.1, plains_mono n m r h p.2⟩
end
def cmOf : Cm → CmpOp
  | .eq => .Eq | .ne => .NotEq | .lt => .Lt | .le => .LtE | .gt => .Gt | .ge => .GtE | .in_ => .In | .nin => .NotIn | .is_ => .Is | .isn => .IsNot
section
variable {X : Cx} {c : Ct}
/-! ### dicts compared -/
/-- what a dict's look-ups in another one answer, pair by pair -/
inductive Hits (K : PySem.W.Frag) (H : Hp) (ls : List (Key × V)) : List (Key × V) → Bool → Prop
  | nil : Hits K H ls [] true
  | miss (p : Key × V) (r : List (Key × V)) : valV ls p.1 = none → Hits K H ls (p :: r) false
  | hit (p : Key × V) (r : List (Key × V)) (u : V) (d e : PyData) (b : Bool) : valV ls p.1 = some u → Dp K H p.2 d → Dp K H u e → SeqAt.shaped d = true → SeqAt.shaped e = true → Hits K H ls r b → Hits K H ls (p :: r) (PyData.eqv d e && b)
theorem hits_go {pins : List (Addr × Obj)} {σ : L2.St} {H : Hp} {s : Shared} (I : Inv X pins σ H s) {A : Around} (hu : A.in1.units + 64 < cLine) {ls : List (Key × V)} {vb : List (Key × Value)} (rb : KV ls vb) {ks : List (Key × V)} {va : List (Key × Value)} (ra : KV ks va) : ∀ {b : Bool}, Hits X.K H ls ks b → PySem.W.KeqHits A.in1 s vb va b := by
  unfold KV at ra
  induction ra with
  | nil => intro b h; cases h; exact .nil
  | @cons p q ps qs h t ih =>
    intro b hh
    obtain ⟨h1, h2⟩ := h
    obtain ⟨k, v⟩ := q
    have h1' : p.1 = k := h1
    cases hh with
    | miss _ _ e =>
      rw [h1'] at e
      refine .miss ?_
      have rr : RelO (none : Option V) (valueAt vb k) := by rw [← e]; exact rb.val k
      cases ev : valueAt vb k with
      | none => rfl
      | some y => rw [ev] at rr; exact rr.elim
    | hit _ _ u d e b' eu d1 d2 s1 s2 hr =>
      have rr : RelO (some u) (valueAt vb p.1) := by rw [← eu]; exact rb.val p.1
      obtain ⟨y, hy, ry⟩ := rr.some_of
      rw [h1'] at hy
      obtain ⟨as, r1⟩ := Dp.reads I d p.2 v d1 h2
      obtain ⟨bs, r2⟩ := Dp.reads I e u y d2 ry
      exact .hit hy (PySem.W.keq_at r1 r2 s1 s2 hu) (ih hr)
def rEqH (K : PySem.W.Frag) (n : Bool) : R2 := fun x y H Q => ∃ a b ks ls r, x = .ref a ∧ y = .ref b ∧ Rd H a (.dK ks) ∧ Rd H b (.dK ls) ∧ Hits K H ls ks r ∧ Q (.bl (if n then !(ks.length == ls.length && r) else (ks.length == ls.length && r))) H
theorem op_eqH (hu : X.A.units + 65 < cLine) : OpR X (compareOp .Eq) (rEqH X.K false) := by
  intro pins s σ H x y v u Q I rx ry h
  obtain ⟨a, b, ks, ls, r, rfl, rfl, ea, eb, hh, q⟩ := h
  obtain rfl : v = Value.ref a := rx
  obtain rfl : u = Value.ref b := ry
  obtain ⟨_, ya, va, ra, da⟩ := dk_rd I.hok ea
  obtain ⟨_, yb, vb, rb, db⟩ := dk_rd I.hok eb
  refine PySem.W.keq_eq (knd := mixKind X.prog X.w) (r := r) ya yb da db (by omega) (fun _ => hits_go I (by show X.A.units + 1 + 64 < cLine; omega) rb ra hh) ?_
  rw [← ra.length, ← rb.length]
  exact ⟨.bl _, H, I, rfl, q⟩
theorem op_neH (hu : X.A.units + 65 < cLine) : OpR X (compareOp .NotEq) (rEqH X.K true) := by
  intro pins s σ H x y v u Q I rx ry h
  obtain ⟨a, b, ks, ls, r, rfl, rfl, ea, eb, hh, q⟩ := h
  obtain rfl : v = Value.ref a := rx
  obtain rfl : u = Value.ref b := ry
  obtain ⟨_, ya, va, ra, da⟩ := dk_rd I.hok ea
  obtain ⟨_, yb, vb, rb, db⟩ := dk_rd I.hok eb
  refine PySem.W.keq_ne (knd := mixKind X.prog X.w) (r := r) ya yb da db (by omega) (fun _ => hits_go I (by show X.A.units + 1 + 64 < cLine; omega) rb ra hh) ?_
  rw [← ra.length, ← rb.length]
  exact ⟨.bl _, H, I, rfl, q⟩
theorem getV_of {K : PySem.W.Frag} {S : Sa} {H : Hp} {k : Key} : ∀ {ps : List (D × D)} {vs : List (Key × V)}, RelP K S H ps vs → match getD k ps with
    | some d => ∃ v, valV vs k = some v ∧ Rel K S H d v
    | none => valV vs k = none
  | [], _, h => by rw [show _ = [] from h]; rfl
  | (kd, ke) :: r, vs, h => by
    obtain ⟨k', v, ws, rfl, ⟨hk, _, hr⟩, h2⟩ := h
    unfold getD
    by_cases e : k' = k
    · subst e
      rw [if_pos hk]
      exact ⟨v, valV_pos rfl, hr⟩
    · have hn : ¬ keyD kd = some k := fun z => by rw [hk] at z; exact e (Option.some.inj z)
      rw [if_neg hn, valV_neg e]
      exact getV_of h2
theorem hits_of {K : PySem.W.Frag} {S S' T : Sa} {H : Hp} {ls : List (D × D)} {vl : List (Key × V)} (rl : RelP K S' H ls vl) (pl : valsP ls = true) : ∀ {ks : List (D × D)} {vk : List (Key × V)}, RelP K S H ks vk → valsP ks = true → Hits K H vl vk (hitsB ls ks)
  | [], _, h, _ => by rw [show _ = [] from h]; exact .nil
  | (kd, ke) :: r, vs, h, p => by
    obtain ⟨k', v, ws, rfl, ⟨hk, _, hr⟩, h2⟩ := h
    unfold valsP at p pl
    rw [List.all_cons, Bool.and_eq_true, Bool.and_eq_true] at p
    have ih := hits_of (T := T) rl (by unfold valsP; exact pl) h2 (by unfold valsP; exact p.2)
    unfold hitsB
    dsimp only at hk ⊢
    rw [hk]
    have hg := getV_of (k := k') rl
    dsimp only
    cases e : getD k' ls with
    | none => rw [e] at hg; exact .miss _ _ hg
    | some w =>
      rw [e] at hg
      obtain ⟨u, eu, ru⟩ := hg
      have pw : plain 55 w = true := by
        have : ∀ l : List (D × D), getD k' l = some w → ∃ q ∈ l, q.2 = w := by
          intro l
          induction l with
          | nil => intro h; cases h
          | cons q l ih =>
            intro h
            unfold getD at h
            by_cases hq : keyD q.1 = some k'
            · rw [if_pos hq] at h; cases h; exact ⟨q, List.mem_cons_self, rfl⟩
            · rw [if_neg hq] at h
              obtain ⟨q', m, e⟩ := ih h
              exact ⟨q', List.mem_cons_of_mem _ m, e⟩
        obtain ⟨q', m, rfl⟩ := this ls e
        have := List.all_eq_true.mp pl q' m
        rw [Bool.and_eq_true] at this
        exact this.2
      dsimp only
      rw [← eqv_eq 55 55 ke w p.1.2 pw]
      exact .hit (k', v) ws u _ _ _ eu (Rel.dp 55 ke v p.1.2 hr) (Rel.dp 55 w u pw ru) ((Rel.weak hr (T := fun _ => False) fun _ z => z.elim).shaped (plain_mono 55 60 _ (by decide) p.1.2)) ((Rel.weak ru (T := fun _ => False) fun _ z => z.elim).shaped (plain_mono 55 60 _ (by decide) pw)) ih
theorem okK_of {K : PySem.W.Frag} {S : Sa} {H : Hp} {d : D} {v : V} (h : Rel K S H d v) : okK d := by
  cases d with
  | str s => exact h.2
  | _ => trivial
/-- a key as a value -/
theorem key_rel {K : PySem.W.Frag} {S : Sa} {H : Hp} {d : D} {k : Key} (h : keyD d = some k) (o : okK d) : Rel K S H d (kV k) := by
  cases d with
  | int i => cases h; rfl
  | str t => cases h; exact ⟨rfl, o⟩
  | _ => cases h
theorem relP_get {K : PySem.W.Frag} {S : Sa} {H : Hp} : ∀ {ps : List (D × D)} {vs : List (Key × V)} {i : Nat} {k : Key} {v : V}, RelP K S H ps vs → vs[i]? = some (k, v) → ∃ d e, ps[i]? = some (d, e) ∧ keyD d = some k ∧ okK d ∧ Rel K S H e v
  | [], _, _, _, _, h, e => by rw [show _ = [] from h] at e; simp at e
  | (d, e) :: r, vs, i, k, v, h, ei => by
    obtain ⟨k', v', ws, rfl, ⟨h1, h2, h3⟩, h4⟩ := h
    cases i with
    | zero => simp at ei; obtain ⟨rfl, rfl⟩ := ei; exact ⟨d, e, rfl, h1, h2, h3⟩
    | succ i => simp at ei; simpa using relP_get h4 ei
theorem relP_len {K : PySem.W.Frag} {S : Sa} {H : Hp} : ∀ {ps : List (D × D)} {vs : List (Key × V)}, RelP K S H ps vs → vs.length = ps.length
  | [], _, h => by rw [show _ = [] from h]; rfl
  | q :: r, vs, h => by
    obtain ⟨k', v, ws, rfl, _, h2⟩ := h
    rw [List.length_cons, List.length_cons, relP_len h2]
theorem eq_cases {d e : D} {z : D} (h : compare .eq d e = some z) : (∃ b, z = .bl b ∧ (plain 60 d = true ∧ plain 60 e = true) ∧ eqB d e = b) ∨ ∃ ks ls, d = .dic ks ∧ e = .dic ls ∧ (valsP ks = true ∧ valsP ls = true) ∧ z = .bl ((ks.length == ls.length) && hitsB ls ks) := by
  by_cases hd : ∃ ks ls, d = .dic ks ∧ e = .dic ls
  · obtain ⟨ks, ls, rfl, rfl⟩ := hd
    simp only [compare, eqDic, Option.map_eq_some_iff, Option.ite_none_right_eq_some, Bool.and_eq_true] at h
    obtain ⟨b, ⟨p, hb⟩, rfl⟩ := h
    cases hb
    exact .inr ⟨ks, ls, rfl, rfl, p, rfl⟩
  · have h' : (eqD d e).map D.bl = some z := by
        cases d <;> cases e <;> first | exact h | exact absurd ⟨_, _, rfl, rfl⟩ hd
    simp only [eqD, Option.map_eq_some_iff, Option.ite_none_right_eq_some, Bool.and_eq_true] at h'
    obtain ⟨b, ⟨p, hb⟩, rfl⟩ := h'
    cases hb
    exact .inl ⟨_, rfl, p, rfl⟩
theorem ne_eq {d e : D} : compare .ne d e = (compare .eq d e).map fun z => match z with | .bl b => .bl !b | z => z := by
  by_cases hd : ∃ ks ls, d = .dic ks ∧ e = .dic ls
  · obtain ⟨ks, ls, rfl, rfl⟩ := hd
    simp only [compare, Option.map_map]
    rfl
  · have h1 : compare .eq d e = (eqD d e).map D.bl := by
      cases d <;> cases e <;> first | rfl | exact absurd ⟨_, _, rfl, rfl⟩ hd
    have h2 : compare .ne d e = (eqD d e).map fun r => D.bl !r := by
      cases d <;> cases e <;> first | rfl | exact absurd ⟨_, _, rfl, rfl⟩ hd
    rw [h1, h2, Option.map_map]
    rfl
theorem op2_eq (hK : X.K = c.K) : Op2 c (fun x y H Q => rEqD X.K x y H Q ∨ rEqH X.K false x y H Q) (fun x y μ => ofO (compare .eq x y) μ) := fun S γ μ σ H d e v w Q g rd re h => by
  obtain ⟨z, hz, q⟩ := ofO_some h
  rcases eq_cases hz with ⟨b, rfl, ⟨p1, p2⟩, rfl⟩ | ⟨ks, ls, rfl, rfl, ⟨p1, p2⟩, rfl⟩
  · rw [hK]
    refine .inl ⟨toPy d, toPy e, rd.dp p1, re.dp p2, rd.shaped p1, re.shaped p2, ?_⟩
    rw [eqv_eq 60 60 d e p1 p2]
    exact fin0 g q rfl
  · obtain ⟨a, va, rfl, ra, pa⟩ := rw_dic rd
    obtain ⟨b, vb, rfl, rb, pb⟩ := rw_dic re
    refine .inr ⟨a, b, va, vb, _, rfl, rfl, ra, rb, by rw [hK]; exact hits_of (T := S) pb p2 pa p1, ?_⟩
    rw [if_neg (by simp), relP_len pa, relP_len pb]
    exact fin0 g q rfl
theorem op2_ne (hK : X.K = c.K) : Op2 c (fun x y H Q => rNeD X.K x y H Q ∨ rEqH X.K true x y H Q) (fun x y μ => ofO (compare .ne x y) μ) := fun S γ μ σ H d e v w Q g rd re h => by
  obtain ⟨z, hz, q⟩ := ofO_some h
  rw [ne_eq] at hz
  obtain ⟨z1, hz1, rfl⟩ := Option.map_eq_some_iff.mp hz
  rcases eq_cases hz1 with ⟨b, rfl, ⟨p1, p2⟩, rfl⟩ | ⟨ks, ls, rfl, rfl, ⟨p1, p2⟩, rfl⟩
  · rw [hK]
    refine .inl ⟨toPy d, toPy e, rd.dp p1, re.dp p2, rd.shaped p1, re.shaped p2, ?_⟩
    rw [eqv_eq 60 60 d e p1 p2]
    exact fin0 g q rfl
  · obtain ⟨a, va, rfl, ra, pa⟩ := rw_dic rd
    obtain ⟨b, vb, rfl, rb, pb⟩ := rw_dic re
    refine .inr ⟨a, b, va, vb, _, rfl, rfl, ra, rb, by rw [hK]; exact hits_of (T := S) pb p2 pa p1, ?_⟩
    rw [if_pos rfl, relP_len pa, relP_len pb]
    exact fin0 g q rfl
theorem flat_V {K : PySem.W.Frag} {T S : Sa} {H : Hp} {d : D} {v : V} (f : flat d = true) (h : RelW K T S H d v) : flatV v = true := by
  cases d <;> simp only [flat, Bool.false_eq_true] at f
  · rw [rw_non h]; rfl
  · rw [rw_bl h]; rfl
  · rw [rw_int h]; rfl
  · rw [(rw_str h).1]; rfl
theorem eqV_eq {K : PySem.W.Frag} {T T' S S' : Sa} {H : Hp} {d e : D} {v w : V} (f : flat d = true) (f' : flat e = true) (h : RelW K T S H d v) (h' : RelW K T' S' H e w) : eqV v w = eqB d e := by
  cases d <;> simp only [flat, Bool.false_eq_true] at f <;> cases e <;> simp only [flat, Bool.false_eq_true] at f'
  all_goals first
    | (rw [rw_non h]; first | (rw [rw_non h']; rfl) | (rw [rw_bl h']; rfl) | (rw [rw_int h']; rfl) | (rw [(rw_str h').1]; rfl))
    | (rw [rw_bl h]; first | (rw [rw_non h']; rfl) | (rw [rw_bl h']; rfl) | (rw [rw_int h']; rfl) | (rw [(rw_str h').1]; rfl))
    | (rw [rw_int h]; first | (rw [rw_non h']; rfl) | (rw [rw_bl h']; rfl) | (rw [rw_int h']; rfl) | (rw [(rw_str h').1]; rfl))
    | (rw [(rw_str h).1]; first | (rw [rw_non h']; rfl) | (rw [rw_bl h']; rfl) | (rw [rw_int h']; rfl) | (rw [(rw_str h').1]; simp only [strV, eqV, eqB]; exact str_beq _ _))
theorem inV_eq {K : PySem.W.Frag} {T S : Sa} {H : Hp} {d : D} {v : V} (f : flat d = true) (h : RelW K T S H d v) : ∀ (ys : List D) (vs : List V), ys.all flat = true → Rels K S H ys vs → vs.all flatV = true ∧ inV v vs = ys.any fun y => eqB y d
  | [], _, _, r => by rw [show _ = [] from r]; exact ⟨rfl, rfl⟩
  | y :: ys, vs, p, r => by
    obtain ⟨w, ws, rfl, q, z⟩ := r
    simp only [List.all_cons, Bool.and_eq_true] at p
    obtain ⟨h1, h2⟩ := inV_eq f h ys ws p.2 z
    have qw : RelW K S S H y w := q.weak fun _ z => z
    refine ⟨by simp only [List.all_cons, h1, Bool.and_true]; exact flat_V p.1 qw, ?_⟩
    have e1 := eqV_eq p.1 f qw h
    unfold inV at h2 ⊢
    rw [List.any_cons, List.any_cons, e1, h2]
theorem in_cases {d e : D} {b : Bool} (h : inX d e = some b) : (∃ a s, d = .str [a] ∧ e = .str s ∧ b = s.contains a) ∨ (∃ ys, (e = .lst ys ∨ e = .tup ys) ∧ (flat d = true ∧ ys.all flat = true) ∧ b = ys.any fun y => eqB y d) ∨ (∃ ys, e = .lst ys ∧ (plain 58 d = true ∧ plains 58 ys = true) ∧ b = ys.any fun y => eqB y d) ∨ (∃ kvs k, e = .dic kvs ∧ keyD d = some k ∧ b = (getD k kvs).isSome) := by
  cases e with
  | dic kvs =>
    obtain ⟨k, hk, rfl⟩ := Option.map_eq_some_iff.mp (show (keyD d).map (fun k => (getD k kvs).isSome) = some b from h)
    exact .inr (.inr (.inr ⟨kvs, k, rfl, hk, rfl⟩))
  | str s =>
    cases d <;> try (simp [inX] at h; done)
    rename_i t
    match t with
    | [] => simp [inX] at h
    | [a] => simp only [inX, Option.some.injEq] at h; exact .inl ⟨a, s, rfl, rfl, h.symm⟩
    | _ :: _ :: _ => simp [inX] at h
  | lst ys =>
    simp only [inX, inD, Option.ite_none_right_eq_some, Bool.or_eq_true, Bool.and_eq_true, Option.some.injEq] at h
    rcases h.1 with z | z
    · exact .inr (.inl ⟨ys, .inl rfl, z, h.2.symm⟩)
    · exact .inr (.inr (.inl ⟨ys, rfl, z, h.2.symm⟩))
  | tup ys =>
    simp only [inX, inF, Option.ite_none_right_eq_some, Bool.and_eq_true, Option.some.injEq] at h
    exact .inr (.inl ⟨ys, .inr rfl, h.1, h.2.symm⟩)
  | _ => simp [inX] at h
theorem any_eqv {n m : Nat} {d : D} (p : plain n d = true) : ∀ ys : List D, plains m ys = true → ((toPys ys).any fun z => PyData.eqv z (toPy d)) = ys.any fun y => eqB y d
  | [], _ => rfl
  | y :: r, q => by
    simp only [plains, Bool.and_eq_true] at q
    simp only [toPys, List.any_cons]
    rw [eqv_eq m n y d q.1 p, any_eqv p r q.2]
theorem contains_dec (s : List Nat) (a : Nat) : s.contains a = decide (a ∈ s) := by
  rw [Bool.eq_iff_iff]; simp
theorem op_inK (hu : X.A.units + 65 < cLine) : OpR X (compareOp .In) (fun x y H Q => ∃ a ks k, y = .ref a ∧ Rd H a (.dK ks) ∧ x = kV k ∧ Q (.bl (valV ks k).isSome) H) := by
  intro pins s σ H x y v u Q I rx ry h
  obtain ⟨a, ks, k, rfl, ea, rfl, q⟩ := h
  obtain rfl : u = Value.ref a := ry
  exact d_in (by omega) I (.inl ⟨ks, k, ea, rfl, rfl⟩) rx fun s3 I3 => ⟨.bl _, H, I3, rfl, q⟩
theorem op_notInK (hu : X.A.units + 65 < cLine) : OpR X (compareOp .NotIn) (fun x y H Q => ∃ a ks k, y = .ref a ∧ Rd H a (.dK ks) ∧ x = kV k ∧ Q (.bl (!(valV ks k).isSome)) H) := by
  intro pins s σ H x y v u Q I rx ry h
  obtain ⟨a, ks, k, rfl, ea, rfl, q⟩ := h
  obtain rfl : u = Value.ref a := ry
  exact d_notIn (by omega) I (.inl ⟨ks, k, ea, rfl, rfl⟩) rx fun s3 I3 => ⟨.bl _, H, I3, rfl, q⟩
theorem key_V {K : PySem.W.Frag} {T S : Sa} {H : Hp} {d : D} {v : V} {k : Key} (h : keyD d = some k) (r : RelW K T S H d v) : v = kV k := by
  cases d with
  | int i => cases h; exact r
  | str t => cases h; exact r.1
  | _ => cases h
theorem getV_is {K : PySem.W.Frag} {S : Sa} {H : Hp} {k : Key} {ps : List (D × D)} {vs : List (Key × V)} (h : RelP K S H ps vs) : (getD k ps).isSome = (valV vs k).isSome := by
  have := getV_of (k := k) h
  cases e : getD k ps with
  | none => rw [e] at this; rw [this]; rfl
  | some d => rw [e] at this; obtain ⟨v, e2, _⟩ := this; rw [e2]; rfl
theorem op2_in (hK : X.K = c.K) (hu : X.A.units + 65 < cLine) : ∃ r, OpR X (compareOp .In) r ∧ Op2 c r (fun x y μ => ofO (compare .in_ x y) μ) := by
  refine ⟨_, op_in_sign.or (op_in_seq.or ((op_inD hu).or (op_inK hu))), fun S γ μ σ H d e v w Q g rd re h => ?_⟩
  obtain ⟨z, hz, q⟩ := ofO_some h
  obtain ⟨b, hb, rfl⟩ := Option.map_eq_some_iff.mp (show (inX d e).map D.bl = some z from hz)
  rcases in_cases hb with ⟨a, s, rfl, rfl, rfl⟩ | ⟨ys, he, ⟨f1, f2⟩, rfl⟩ | ⟨ys, rfl, ⟨f1, f2⟩, rfl⟩ | ⟨kvs, k, rfl, hk, rfl⟩
  · refine .inl ⟨a, _, (rw_str rd).1, (rw_str re).1, ?_⟩
    rw [contains_dec] at q
    exact fin0 g q rfl
  · rcases he with rfl | rfl
    · obtain ⟨b, vs, rfl, q1, r1⟩ := rw_lst re
      obtain ⟨h1, h2⟩ := inV_eq f1 rd ys vs f2 r1
      refine .inr (.inl ⟨b, vs, rfl, .inl (by rw [hK]; exact q1), flat_V f1 rd, h1, ?_⟩)
      rw [← h2] at q
      exact fin0 g q rfl
    · obtain ⟨b, vs, rfl, q1, r1⟩ := rw_tup re
      obtain ⟨h1, h2⟩ := inV_eq f1 rd ys vs f2 r1
      refine .inr (.inl ⟨b, vs, rfl, .inr (by rw [hK]; exact q1), flat_V f1 rd, h1, ?_⟩)
      rw [← h2] at q
      exact fin0 g q rfl
  · have p2 : plain 60 (.lst ys) = true := by simp only [plain]; exact plains_mono 58 59 ys (by decide) f2
    have p1 := plain_mono 58 60 d (by decide) f1
    refine .inr (.inr (.inl ⟨toPy d, toPys ys, by rw [hK]; exact rd.dp p1, by rw [hK]; exact re.dp p2, rd.shaped p1, re.shaped p2, ?_⟩))
    rw [any_eqv f1 ys f2]
    exact fin0 g q rfl
  · obtain ⟨a, va, rfl, ra, pa⟩ := rw_dic re
    refine .inr (.inr (.inr ⟨a, va, k, rfl, ra, key_V hk rd, ?_⟩))
    rw [← getV_is pa]
    exact fin0 g q rfl
theorem op2_nin (hK : X.K = c.K) (hu : X.A.units + 65 < cLine) : ∃ r, OpR X (compareOp .NotIn) r ∧ Op2 c r (fun x y μ => ofO (compare .nin x y) μ) := by
  refine ⟨_, op_notIn_sign.or (op_notIn_seq.or ((op_notInD hu).or (op_notInK hu))), fun S γ μ σ H d e v w Q g rd re h => ?_⟩
  obtain ⟨z, hz, q⟩ := ofO_some h
  obtain ⟨b, hb, rfl⟩ := Option.map_eq_some_iff.mp (show (inX d e).map (fun r => D.bl !r) = some z from hz)
  rcases in_cases hb with ⟨a, s, rfl, rfl, rfl⟩ | ⟨ys, he, ⟨f1, f2⟩, rfl⟩ | ⟨ys, rfl, ⟨f1, f2⟩, rfl⟩ | ⟨kvs, k, rfl, hk, rfl⟩
  · refine .inl ⟨a, _, (rw_str rd).1, (rw_str re).1, ?_⟩
    rw [contains_dec] at q
    exact fin0 g q rfl
  · rcases he with rfl | rfl
    · obtain ⟨b, vs, rfl, q1, r1⟩ := rw_lst re
      obtain ⟨h1, h2⟩ := inV_eq f1 rd ys vs f2 r1
      refine .inr (.inl ⟨b, vs, rfl, .inl (by rw [hK]; exact q1), flat_V f1 rd, h1, ?_⟩)
      rw [← h2] at q
      exact fin0 g q rfl
    · obtain ⟨b, vs, rfl, q1, r1⟩ := rw_tup re
      obtain ⟨h1, h2⟩ := inV_eq f1 rd ys vs f2 r1
      refine .inr (.inl ⟨b, vs, rfl, .inr (by rw [hK]; exact q1), flat_V f1 rd, h1, ?_⟩)
      rw [← h2] at q
      exact fin0 g q rfl
  · have p2 : plain 60 (.lst ys) = true := by simp only [plain]; exact plains_mono 58 59 ys (by decide) f2
    have p1 := plain_mono 58 60 d (by decide) f1
    refine .inr (.inr (.inl ⟨toPy d, toPys ys, by rw [hK]; exact rd.dp p1, by rw [hK]; exact re.dp p2, rd.shaped p1, re.shaped p2, ?_⟩))
    rw [any_eqv f1 ys f2]
    exact fin0 g q rfl
  · obtain ⟨a, va, rfl, ra, pa⟩ := rw_dic re
    refine .inr (.inr (.inr ⟨a, va, k, rfl, ra, key_V hk rd, ?_⟩))
    rw [← getV_is pa]
    exact fin0 g q rfl
def isNon : D → Bool
  | .non => true
  | _ => false
theorem isN_eq {K : PySem.W.Frag} {T S : Sa} {H : Hp} {d : D} {v : V} (h : RelW K T S H d v) : decide (v = .non) = isNon d := by
  cases d with
  | non => rw [rw_non h]; rfl
  | bl _ => rw [rw_bl h]; rfl
  | int _ => rw [rw_int h]; rfl
  | str _ => rw [(rw_str h).1]; rfl
  | tup _ => obtain ⟨a, vs, rfl, _⟩ := h; rfl
  | lst _ => obtain ⟨a, vs, rfl, _⟩ := h; rfl
  | dic _ => obtain ⟨a, vs, rfl, _⟩ := h; rfl
  | obj _ _ => exact h.elim
  | loc p => rw [show v = V.ref p from h]; rfl
theorem op_isNB : OpR X (compareOp .Is) (fun x y H Q => ∃ b, x = .non ∧ y = .bl b ∧ Q (.bl false) H) := by
  intro pins s σ H x y v u Q I rx ry h
  obtain ⟨b, rfl, rfl, q⟩ := h
  cases (show v = Value.none from rx)
  cases (show u = Value.bool b from ry)
  exact wpAny_is_other rfl (fun z => nomatch z) ⟨.bl false, H, I, rfl, q⟩
theorem ltL_eq (s t : List Nat) : decide ((⟨s.toArray⟩ : Str).cps.toList < (⟨t.toArray⟩ : Str).cps.toList) = ltL s t := rfl
theorem op2_cmp (hK : X.K = c.K) (hu : X.A.units + 65 < cLine) (o : Cm) : ∃ r, OpR X (compareOp (cmOf o)) r ∧ Op2 c r (fun x y μ => ofO (compare o x y) μ) := by
  cases o with
  | eq => exact ⟨_, (op_eqD (by omega)).or (op_eqH hu), op2_eq hK⟩
  | ne => exact ⟨_, (op_neD (by omega)).or (op_neH hu), op2_ne hK⟩
  | in_ => exact op2_in hK hu
  | nin => exact op2_nin hK hu
  | lt =>
    refine ⟨_, op_lt.or op_lt_str, fun S γ μ σ H d e v w Q g rd re h => ?_⟩
    obtain ⟨z, hz, q⟩ := ofO_some h
    cases d <;> cases e <;> simp only [compare, Option.some.injEq, reduceCtorEq] at hz
    · subst hz
      exact .inl ⟨_, _, rw_int rd, rw_int re, fin0 g q rfl⟩
    · subst hz
      exact .inr ⟨_, _, (rw_str rd).1, (rw_str re).1, fin0 g q rfl⟩
  | le =>
    refine ⟨_, op_le.or op_le_str, fun S γ μ σ H d e v w Q g rd re h => ?_⟩
    obtain ⟨z, hz, q⟩ := ofO_some h
    cases d <;> cases e <;> simp only [compare, Option.some.injEq, reduceCtorEq] at hz
    · subst hz
      exact .inl ⟨_, _, rw_int rd, rw_int re, fin0 g q rfl⟩
    · subst hz
      exact .inr ⟨_, _, (rw_str rd).1, (rw_str re).1, fin0 g q rfl⟩
  | gt =>
    refine ⟨_, op_gt.or op_gt_str, fun S γ μ σ H d e v w Q g rd re h => ?_⟩
    obtain ⟨z, hz, q⟩ := ofO_some h
    cases d <;> cases e <;> simp only [compare, Option.some.injEq, reduceCtorEq] at hz
    · subst hz
      exact .inl ⟨_, _, rw_int rd, rw_int re, fin0 g q rfl⟩
    · subst hz
      exact .inr ⟨_, _, (rw_str rd).1, (rw_str re).1, fin0 g q rfl⟩
  | ge =>
    refine ⟨_, op_ge.or op_ge_str, fun S γ μ σ H d e v w Q g rd re h => ?_⟩
    obtain ⟨z, hz, q⟩ := ofO_some h
    cases d <;> cases e <;> simp only [compare, Option.some.injEq, reduceCtorEq] at hz
    · subst hz
      exact .inl ⟨_, _, rw_int rd, rw_int re, fin0 g q rfl⟩
    · subst hz
      exact .inr ⟨_, _, (rw_str rd).1, (rw_str re).1, fin0 g q rfl⟩
  | is_ =>
    refine ⟨_, op_isN.or (op_is_bl.or op_isNB), fun S γ μ σ H d e v w Q g rd re h => ?_⟩
    obtain ⟨z, hz, q⟩ := ofO_some h
    have he : (e = .non ∧ z = .bl (isNon d)) ∨ (∃ a b, d = .bl a ∧ e = .bl b ∧ z = .bl (decide (a = b))) ∨ (∃ b, d = .non ∧ e = .bl b ∧ z = .bl false) := by
      cases d <;> cases e <;> simp only [compare, Option.some.injEq, reduceCtorEq] at hz <;> first
        | exact .inl ⟨rfl, hz.symm⟩
        | exact .inr (.inl ⟨_, _, rfl, rfl, hz.symm⟩)
        | exact .inr (.inr ⟨_, rfl, rfl, hz.symm⟩)
    rcases he with ⟨rfl, rfl⟩ | ⟨a, b, rfl, rfl, rfl⟩ | ⟨b, rfl, rfl, rfl⟩
    · refine .inl ⟨rw_non re, ?_⟩
      rw [isN_eq rd]
      exact fin0 g q rfl
    · exact .inr (.inl ⟨a, b, rw_bl rd, rw_bl re, fin0 g q rfl⟩)
    · exact .inr (.inr ⟨b, rw_non rd, rw_bl re, fin0 g q rfl⟩)
  | isn =>
    refine ⟨_, op_notN.or op_isnot_bl, fun S γ μ σ H d e v w Q g rd re h => ?_⟩
    obtain ⟨z, hz, q⟩ := ofO_some h
    have he : (e = .non ∧ z = .bl !(isNon d)) ∨ (∃ a b, d = .bl a ∧ e = .bl b ∧ z = .bl (!decide (a = b))) := by
      cases d <;> cases e <;> simp only [compare, Option.some.injEq, reduceCtorEq] at hz <;> first
        | exact .inl ⟨rfl, hz.symm⟩
        | exact .inr ⟨_, _, rfl, rfl, hz.symm⟩
    rcases he with ⟨rfl, rfl⟩ | ⟨a, b, rfl, rfl, rfl⟩
    · refine .inl ⟨rw_non re, ?_⟩
      rw [isN_eq rd]
      exact fin0 g q rfl
    · exact .inr ⟨a, b, rw_bl rd, rw_bl re, fin0 g q rfl⟩
end
end Bs
/-! Bs: subscripts, slices, built-ins. -/
namespace Bs
open PySem L2
section
variable {X : Cx} {c : Ct}
theorem RelW.deref {S : Sa} {γ : Ga} {μ : Sto} {σ : L2.St} {H : Hp} {d d' : D} {v : V} (g : Good c S γ μ σ H) (h : RelW c.K T0 S H d v) (e : deref μ d = some d') :
    (∃ xs, d' = .lst xs ∧ ∃ a vs, v = .ref a ∧ SqL c.K H a vs ∧ Rels c.K S H xs vs) ∨ ((∀ xs, d' ≠ .lst xs) ∧ RelW c.K T0 S H d' v) := by
  cases d with
  | loc p =>
    simp only [Bs.deref] at e
    cases q : μ p with
    | none => rw [q] at e; cases e
    | some o =>
      rw [q] at e
      cases o with
      | lst xs =>
        simp only [Option.some.injEq] at e
        subst e
        obtain ⟨vs, e1, r⟩ := (g.st.st p _ q).2
        exact .inl ⟨xs, rfl, p, vs, h, .inl (.inl e1), r⟩
      | dic _ => cases e
      | ins _ _ => cases e
  | lst xs => cases e; exact .inl ⟨xs, rfl, rw_lst h⟩
  | non => cases e; exact .inr ⟨(fun _ z => by cases z), h⟩
  | bl _ => cases e; exact .inr ⟨(fun _ z => by cases z), h⟩
  | int _ => cases e; exact .inr ⟨(fun _ z => by cases z), h⟩
  | str _ => cases e; exact .inr ⟨(fun _ z => by cases z), h⟩
  | tup _ => cases e; exact .inr ⟨(fun _ z => by cases z), h⟩
  | dic _ => cases e; exact .inr ⟨(fun _ z => by cases z), h⟩
  | obj _ _ => cases e; exact .inr ⟨(fun _ z => by cases z), h⟩
theorem atI_rel {K : PySem.W.Frag} {S : Sa} {H : Hp} {xs : List D} {vs : List V} {i : Int} {d : D} (r : Rels K S H xs vs) (h : atI xs i = some d) : ∃ v, atI vs i = some v ∧ Rel K S H d v := by
  unfold atI at h ⊢
  rw [r.length]
  cases e : ixN xs.length i with
  | none => rw [e] at h; cases h
  | some j =>
    rw [e] at h
    exact r.get h
open PySem.Spec PyProof.Rows in
theorem ix_dct : IxR X (fun x y H Q => ∃ a kvs k v, x = .ref a ∧ Rd H a (.dK kvs) ∧ y = kV k ∧ valV kvs k = some v ∧ Q v H) := by
  intro value slice pins s σ H x y v u Q I rx ry h hs
  obtain ⟨a, kvs, k, z, rfl, e, rfl, l, q⟩ := h
  obtain rfl : v = Value.ref a := rx
  obtain ⟨zz, hd, vs, rel, dd⟩ := dk_rd I.hok e
  obtain ⟨w', hw, rw'⟩ := RelO.some_of (v := z) (o := valueAt vs k) (by rw [← l]; exact rel.val k)
  exact tail_any dd.mapOf.typeIs slot_dict_getitem.lookup (wpAny_getItem_of (kV_is ry) dd.mapOf hw ⟨z, H, I.tok _, rw', q⟩) hs
theorem kv_of {K : PySem.W.Frag} {T S : Sa} {H : Hp} {d : D} {v : V} {k : Key} (h : keyD d = some k) (r : RelW K T S H d v) : v = kV k := by
  cases d with
  | int i => cases h; exact r
  | str t => cases h; exact r.1
  | _ => cases h
theorem get_rel {K : PySem.W.Frag} {S : Sa} {H : Hp} {k : Key} {d : D} : ∀ {ps : List (D × D)} {vs : List (Key × V)}, RelP K S H ps vs → getD k ps = some d → ∃ v, valV vs k = some v ∧ Rel K S H d v
  | [], _, _, h => by cases h
  | (x, y) :: r, vs, hr, h => by
    obtain ⟨k', v, qs, rfl, ⟨h1, _, h2⟩, h3⟩ := hr
    unfold getD at h
    by_cases e : keyD x = some k
    · rw [if_pos e] at h
      cases h
      rw [h1] at e
      cases e
      exact ⟨v, valV_pos rfl, h2⟩
    · rw [if_neg e] at h
      obtain ⟨w, e1, e2⟩ := get_rel h3 h
      refine ⟨w, ?_, e2⟩
      rw [valV_neg (fun z => e (by rw [h1]; exact congrArg some z))]
      exact e1
theorem op2_ix (hK : X.K = c.K) : ∃ r, IxR X r ∧ Op2 c r ixR := by
  refine ⟨_, ix_list.or (ix_tup.or (ix_str.or ix_dct)), fun S γ μ σ H d e v w Q g rd re h => ?_⟩
  unfold ixR at h
  cases q : deref μ d with
  | none => rw [q] at h; exact h.elim
  | some d' =>
    rw [q] at h
    obtain ⟨z, hz, qq⟩ := ofO_some h
    rcases rd.deref g q with ⟨xs, rfl, a, vs, rfl, sq, r⟩ | ⟨nl, rd'⟩
    · cases e <;> simp only [index, reduceCtorEq] at hz
      obtain ⟨u, e1, ru⟩ := atI_rel r hz
      exact .inl ⟨a, vs, _, u, rfl, rw_int re, by rw [hK]; exact sq, e1, fin0 g qq ru⟩
    · cases d' with
      | lst xs => exact absurd rfl (nl xs)
      | tup xs =>
        cases e <;> simp only [index, reduceCtorEq] at hz
        obtain ⟨a, vs, rfl, sq, r⟩ := rw_tup rd'
        obtain ⟨u, e1, ru⟩ := atI_rel r hz
        exact .inr (.inl ⟨a, vs, _, u, rfl, rw_int re, by rw [hK]; exact sq, e1, fin0 g qq ru⟩)
      | str s =>
        cases e <;> simp only [index, reduceCtorEq, Option.map_eq_some_iff] at hz
        obtain ⟨ch, e1, rfl⟩ := hz
        obtain ⟨rfl, l1, a1⟩ := rw_str rd'
        refine .inr (.inr (.inl ⟨_, _, ch, rfl, rw_int re, by rw [str_len]; exact big_line l1, e1, fin0 g qq ⟨rfl, (by simp), fun x hx => ?_⟩⟩))
        have hm : ch ∈ s := by
          unfold atI at e1
          cases q2 : ixN s.length _ with
          | none => rw [q2] at e1; cases e1
          | some j => rw [q2] at e1; exact List.mem_of_getElem? e1
        have hxc : x = ch := by simpa using hx
        rw [hxc]
        exact a1 ch hm
      | dic kvs =>
        simp only [index] at hz
        cases ek : keyD e with
        | none => rw [ek] at hz; cases hz
        | some k =>
          rw [ek] at hz
          obtain ⟨a, ps, rfl, hR, _, rp⟩ := id rd'
          obtain ⟨u, e1, ru⟩ := get_rel rp hz
          exact .inr (.inr (.inr ⟨a, ps, k, u, rfl, hR, kv_of ek re, e1, fin0 g qq ru⟩))
      | _ => simp [index] at hz
/-! ### slices -/
theorem cutS_eq (s : List Nat) (lo hi : Option Int) : cutS ⟨s.toArray⟩ lo hi = ⟨(cut s lo hi).toArray⟩ := by
  unfold cutS cut
  rw [str_len]
theorem cut_len {α : Type} (xs : List α) (lo hi : Option Int) : (cut xs lo hi).length ≤ xs.length := by
  unfold cut
  rw [List.length_take, List.length_drop]
  omega
theorem cut_mem {α : Type} {xs : List α} {lo hi : Option Int} {x : α} (h : x ∈ cut xs lo hi) : x ∈ xs := List.mem_of_mem_drop (List.mem_of_mem_take h)
theorem sl_all (hK : X.K = c.K) : ∃ r, L2.SlR X r ∧ ∀ (S : Sa) (γ : Ga) (μ : Sto) (σ : L2.St) (H : Hp) (d : D) (v : V) (lo hi : Option Int) (Q : VK), Good c S γ μ σ H → RelW c.K T0 S H d v → (ofO (slice d lo hi) μ).All (Aft c true S μ H γ σ Q) c.V → r v lo hi H Q := by
  refine ⟨_, sl_list.or (sl_tupA.or sl_str), fun S γ μ σ H d v lo hi Q g rd h => ?_⟩
  obtain ⟨z, hz, q⟩ := ofO_some h
  cases d <;> simp only [slice, Option.some.injEq, reduceCtorEq] at hz
  · subst hz
    obtain ⟨rfl, l1, a1⟩ := rw_str rd
    refine .inr (.inr ⟨_, rfl, by rw [str_len]; exact big_line l1, ?_⟩)
    rw [cutS_eq]
    exact fin0 g q ⟨rfl, Nat.le_trans (cut_len _ _ _) l1, fun x hx => a1 x (cut_mem hx)⟩
  · subst hz
    rename_i xs
    obtain ⟨a, vs, rfl, sq, r⟩ := id rd
    refine .inr (.inl ⟨a, vs, rfl, by rw [hK]; exact sq.sq, fun hw => ?_, fun _ => fin_tup g q (rls_cut r lo hi)⟩)
    have e : cut xs lo hi = xs := by
      unfold cut
      rw [r.length] at hw
      rw [hw.1, hw.2]
      simp
    rw [e] at q
    exact fin0 g q rd
  · subst hz
    obtain ⟨a, vs, rfl, sq, r⟩ := rw_lst rd
    exact .inl ⟨a, vs, rfl, by rw [hK]; exact sq, fin_lst g q (rls_cut r lo hi)⟩
/-! ### built-ins -/
theorem one_of {K : PySem.W.Frag} {st : Bool} {T S : Sa} {H : Hp} {d : D} {vs : List V} (h : Rls K st T S H [d] vs) : ∃ v, vs = [v] ∧ Rl K st T S H d v := by
  obtain ⟨v, ws, rfl, r, e⟩ := h
  cases (show ws = [] from e)
  exact ⟨v, rfl, r⟩
theorem two_of {K : PySem.W.Frag} {st : Bool} {T S : Sa} {H : Hp} {d e : D} {vs : List V} (h : Rls K st T S H [d, e] vs) : ∃ v w, vs = [v, w] ∧ Rl K st T S H d v ∧ Rl K st T S H e w := by
  obtain ⟨v, ws, rfl, r, q⟩ := h
  obtain ⟨w, rfl, r2⟩ := one_of q
  exact ⟨v, w, rfl, r, r2⟩
theorem ints_of {K : PySem.W.Frag} {S : Sa} {H : Hp} : ∀ {xs : List D} {vs : List V} {is : List Int}, intsD xs = some is → Rels K S H xs vs → vs = is.map V.int
  | [], _, _, e, r => by cases e; exact r
  | d :: xs, vs, is, e, r => by
    obtain ⟨v, ws, rfl, q, z⟩ := r
    cases d <;> simp only [intsD, reduceCtorEq, Option.map_eq_some_iff] at e
    obtain ⟨js, e1, rfl⟩ := e
    rw [ints_of e1 z, show v = V.int _ from q]
    rfl
theorem bools_of {K : PySem.W.Frag} {S : Sa} {H : Hp} : ∀ {xs : List D} {vs : List V} {is : List Bool}, boolsD xs = some is → Rels K S H xs vs → vs = is.map V.bl
  | [], _, _, e, r => by cases e; exact r
  | d :: xs, vs, is, e, r => by
    obtain ⟨v, ws, rfl, q, z⟩ := r
    cases d <;> simp only [boolsD, reduceCtorEq, Option.map_eq_some_iff] at e
    obtain ⟨js, e1, rfl⟩ := e
    rw [bools_of e1 z, show v = V.bl _ from q]
    rfl
theorem strs_of {K : PySem.W.Frag} {S : Sa} {H : Hp} : ∀ {xs : List D} {vs : List V} {is : List (List Nat)}, strsD xs = some is → Rels K S H xs vs → vs = (is.map fun s => (⟨s.toArray⟩ : Str)).map V.str ∧ ∀ s ∈ is, ∀ c ∈ s, c < 128
  | [], _, _, e, r => by cases e; exact ⟨r, fun s hs => by cases hs⟩
  | d :: xs, vs, is, e, r => by
    obtain ⟨v, ws, rfl, q, z⟩ := r
    cases d <;> simp only [strsD, reduceCtorEq, Option.map_eq_some_iff] at e
    obtain ⟨js, e1, rfl⟩ := e
    obtain ⟨h1, h2⟩ := strs_of e1 z
    rw [h1, q.1]
    refine ⟨rfl, fun s hs => ?_⟩
    rcases List.mem_cons.mp hs with rfl | hs
    · exact q.2.2
    · exact h2 s hs
theorem maxL_uniq {is : List Int} {m : Int} (h : maxL is = some m) : 0 < is.length ∧ ∀ k, k ∈ is → (∀ y, y ∈ is → y ≤ k) → k = m := by
  cases is with
  | nil => cases h
  | cons i r =>
    simp only [maxL, Option.some.injEq] at h
    refine ⟨Nat.succ_pos _, fun k hk hy => ?_⟩
    have key : ∀ (r : List Int) (i : Int), (r.foldl (fun a b => if a < b then b else a) i) ∈ i :: r ∧ ∀ y ∈ i :: r, y ≤ r.foldl (fun a b => if a < b then b else a) i := by
      intro r
      induction r with
      | nil =>
        intro i
        refine ⟨List.mem_cons_self .., fun y hy => ?_⟩
        have : y = i := by simpa using hy
        rw [this]
        exact Int.le_refl _
      | cons j r ih =>
        intro i
        rw [List.foldl_cons]
        obtain ⟨h1, h2⟩ := ih (if i < j then j else i)
        constructor
        · rcases List.mem_cons.mp h1 with h | h
          · rw [h]; split <;> simp
          · exact List.mem_cons_of_mem _ (List.mem_cons_of_mem _ h)
        · intro y hy
          have h3 := h2 _ (List.mem_cons_self ..)
          rcases List.mem_cons.mp hy with rfl | hy
          · refine Int.le_trans ?_ h3; split <;> omega
          · rcases List.mem_cons.mp hy with rfl | hy
            · refine Int.le_trans ?_ h3; split <;> omega
            · exact h2 y (List.mem_cons_of_mem _ hy)
    obtain ⟨h1, h2⟩ := key r i
    rw [h] at h1 h2
    have := hy m h1
    have := h2 k hk
    omega
theorem minL_uniq {is : List Int} {m : Int} (h : minL is = some m) : 0 < is.length ∧ ∀ k, k ∈ is → (∀ y, y ∈ is → k ≤ y) → k = m := by
  cases is with
  | nil => cases h
  | cons i r =>
    simp only [minL, Option.some.injEq] at h
    refine ⟨Nat.succ_pos _, fun k hk hy => ?_⟩
    have key : ∀ (r : List Int) (i : Int), (r.foldl (fun a b => if b < a then b else a) i) ∈ i :: r ∧ ∀ y ∈ i :: r, r.foldl (fun a b => if b < a then b else a) i ≤ y := by
      intro r
      induction r with
      | nil =>
        intro i
        refine ⟨List.mem_cons_self .., fun y hy => ?_⟩
        have : y = i := by simpa using hy
        rw [this]
        exact Int.le_refl _
      | cons j r ih =>
        intro i
        rw [List.foldl_cons]
        obtain ⟨h1, h2⟩ := ih (if j < i then j else i)
        constructor
        · rcases List.mem_cons.mp h1 with h | h
          · rw [h]; split <;> simp
          · exact List.mem_cons_of_mem _ (List.mem_cons_of_mem _ h)
        · intro y hy
          have h3 := h2 _ (List.mem_cons_self ..)
          rcases List.mem_cons.mp hy with rfl | hy
          · refine Int.le_trans h3 ?_; split <;> omega
          · rcases List.mem_cons.mp hy with rfl | hy
            · refine Int.le_trans h3 ?_; split <;> omega
            · exact h2 y (List.mem_cons_of_mem _ hy)
    obtain ⟨h1, h2⟩ := key r i
    rw [h] at h1 h2
    have := hy m h1
    have := h2 k hk
    omega
/-- list(text) -/
theorem call_list_text (hc : X.calm = true) : CallR X (.type "list") (fun xs H Q => ∃ s : List Nat, xs = [strV s] ∧ s.length ≤ 1000000 ∧ ∀ l, H l = none → Q (.ref l) (upd H l (.lst (s.map fun c => strV [c])))) := by
  intro pins s σ H xs us Q I r h
  obtain ⟨z, rfl, hz, q⟩ := h
  obtain ⟨u, rfl, t, rfl⟩ := vals1 r
  refine PySem.call_list_str (I.ok.hd hc) _ t (fun h' tk acc c' hk hS hacc => ?_) (by simpa using big_line hz)
  have hv : Vals (z.map fun c => strV [c]) acc.toList := by
    refine vals_of_at ?_ fun j x u e1 e2 => ?_
    · rw [List.length_map, Array.length_toList]; exact hacc.1.symm
    · obtain ⟨ch, t', e3, rfl⟩ := hacc.2 j u (by simpa using e2)
      rw [List.getElem?_map] at e1
      cases e4 : z[j]? with
      | none => rw [e4] at e1; cases e1
      | some y =>
        rw [e4] at e1
        simp only [Option.map_some, Option.some.injEq] at e1
        subst e1
        have : y = ch := by
          have e5 : (⟨z.toArray⟩ : Str).cps[j]? = some ch := e3
          simp only [List.getElem?_toArray] at e5
          rw [e4] at e5
          exact Option.some.inj e5
        subst this
        exact ⟨t', rfl⟩
  refine ⟨.ref _, _, I.laid (o := .lst (z.map fun c => strV [c])) hk (Nat.le_refl _) ⟨by rw [List.length_map]; exact big_line hz, acc.toList, c', hv, by simpa using hS⟩, rfl, q _ (I.hok.fresh (Nat.le_refl _))⟩

theorem CmpOf.strs {prog : Program} {w : World} {A : Around} {P : Nat → Value → Prop} (val : Nat → Str) (hval : ∀ i v, P i v → ∃ t, v = .str (val i) t) : CmpOf prog w A .Gt P (fun i j => decide ((val j).cps.toList < (val i).cps.toList)) ∧ CmpOf prog w A .Lt P (fun i j => decide ((val i).cps.toList < (val j).cps.toList)) := by
  refine ⟨fun i j vi vj s Q E hi hj h => ?_, fun i j vi vj s Q E hi hj h => ?_⟩
  · obtain ⟨t, rfl⟩ := hval i vi hi
    obtain ⟨u, rfl⟩ := hval j vj hj
    exact PySem.P.gt_str (t := t) (u := u) h
  · obtain ⟨t, rfl⟩ := hval i vi hi
    obtain ⟨u, rfl⟩ := hval j vj hj
    exact PySem.P.lt_str (t := t) (u := u) h
section
variable {prog : Program} {w : World} {A : Around} {E : Value → Shared → Prop} {s : Shared}
def two (a b : Str) : Nat → Str
  | 0 => a
  | _ => b
theorem two_at {a b : Str} {t u : Tok} (i : Nat) (v : Value) (h : (#[Value.str a t, Value.str b u])[i]? = some v) : ∃ t', v = .str (two a b i) t' := by
  match i, h with
  | 0, h => exact ⟨t, (Option.some.inj h).symm⟩
  | 1, h => exact ⟨u, (Option.some.inj h).symm⟩
  | i + 2, h => simp at h
theorem max_two_strs {a b : Str} {t u : Tok} {Q : Value → Shared → Prop} (hh : A.handled = none)
    (h : ∀ h' tk, (∀ c o, s.heap.get? c = some o → h'.get? c = some o) → Q (if a.cps.toList < b.cps.toList then .str b u else .str a t) { s with heap := h', toks := tk }) :
    wpAny (model prog w) A (PySem.call (.builtin "max") [.str a t, .str b u]) Q E s := by
  have hT : (s.heap.push { cls := .type "tuple", data := .seq #[.str a t, .str b u] }).IsTuple s.heap.objs.size #[.str a t, .str b u] := ⟨_, Heap.get?_push_size _ rfl, rfl, 0, rfl⟩
  refine call_max_two (wpAny_pyIter_tuple hT ?_)
  have hsz : (s.heap.push { cls := .type "tuple", data := .seq #[.str a t, .str b u] }).objs.size = s.heap.objs.size + 1 := Heap.size_push ..
  refine ⟨_, [_, s.heap.objs.size], [_], _, _, _, _, rfl, Walks.tuple (A := A.in1) hh _ s.heap.objs.size (by rw [hsz]; exact Nat.ne_of_lt (Nat.lt_succ_self _)) #[.str a t, .str b u],
    ⟨⟨_, Heap.get?_push_size _ rfl, rfl, rfl⟩, hT.push _⟩, fun c hc => ?_, by simp, (CmpOf.strs (two a b) two_at).1, fun v h' tk hP hk => ?_⟩
  · show c < ((s.heap.push _).push _).objs.size
    rw [Heap.size_push, hsz]
    rcases List.mem_cons.mp hc with rfl | hc
    · rw [hsz]; exact Nat.lt_succ_self _
    · rcases List.mem_cons.mp hc with rfl | hc
      · exact Nat.lt_succ_of_lt (Nat.lt_succ_self _)
      · cases hc
  · have hold : ∀ c o, s.heap.get? c = some o → h'.get? c = some o := fun c o e => by
      refine hk c o (fun hm => ?_) (Heap.get?_push_of_some _ (Heap.get?_push_of_some _ e))
      rcases List.mem_cons.mp hm with e1 | hm
      · have := Heap.lt_size e; rw [e1, hsz] at this; exact Nat.lt_irrefl _ (Nat.lt_of_succ_lt this)
      · cases hm
    have := h h' tk hold
    have hv : v = if a.cps.toList < b.cps.toList then .str b u else .str a t := by
      have hP' : (#[Value.str a t, Value.str b u])[argBest (fun i j => decide ((two a b j).cps.toList < (two a b i).cps.toList)) 1]? = some v := hP
      by_cases hba : a.cps.toList < b.cps.toList
      · have e : argBest (fun i j => decide ((two a b j).cps.toList < (two a b i).cps.toList)) 1 = 1 := by simp [argBest, two, hba]
        rw [e] at hP'
        rw [if_pos hba]
        simpa using hP'.symm
      · have e : argBest (fun i j => decide ((two a b j).cps.toList < (two a b i).cps.toList)) 1 = 0 := by simp [argBest, two, hba]
        rw [e] at hP'
        rw [if_neg hba]
        simpa using hP'.symm
    rw [hv]; exact this
theorem min_two_strs {a b : Str} {t u : Tok} {Q : Value → Shared → Prop} (hh : A.handled = none)
    (h : ∀ h' tk, (∀ c o, s.heap.get? c = some o → h'.get? c = some o) → Q (if b.cps.toList < a.cps.toList then .str b u else .str a t) { s with heap := h', toks := tk }) :
    wpAny (model prog w) A (PySem.call (.builtin "min") [.str a t, .str b u]) Q E s := by
  have hT : (s.heap.push { cls := .type "tuple", data := .seq #[.str a t, .str b u] }).IsTuple s.heap.objs.size #[.str a t, .str b u] := ⟨_, Heap.get?_push_size _ rfl, rfl, 0, rfl⟩
  refine call_min_two (wpAny_pyIter_tuple hT ?_)
  have hsz : (s.heap.push { cls := .type "tuple", data := .seq #[.str a t, .str b u] }).objs.size = s.heap.objs.size + 1 := Heap.size_push ..
  refine ⟨_, [_, s.heap.objs.size], [_], _, _, _, _, rfl, Walks.tuple (A := A.in1) hh _ s.heap.objs.size (by rw [hsz]; exact Nat.ne_of_lt (Nat.lt_succ_self _)) #[.str a t, .str b u],
    ⟨⟨_, Heap.get?_push_size _ rfl, rfl, rfl⟩, hT.push _⟩, fun c hc => ?_, by simp, (CmpOf.strs (two a b) two_at).2, fun v h' tk hP hk => ?_⟩
  · show c < ((s.heap.push _).push _).objs.size
    rw [Heap.size_push, hsz]
    rcases List.mem_cons.mp hc with rfl | hc
    · rw [hsz]; exact Nat.lt_succ_self _
    · rcases List.mem_cons.mp hc with rfl | hc
      · exact Nat.lt_succ_of_lt (Nat.lt_succ_self _)
      · cases hc
  · have hold : ∀ c o, s.heap.get? c = some o → h'.get? c = some o := fun c o e => by
      refine hk c o (fun hm => ?_) (Heap.get?_push_of_some _ (Heap.get?_push_of_some _ e))
      rcases List.mem_cons.mp hm with e1 | hm
      · have := Heap.lt_size e; rw [e1, hsz] at this; exact Nat.lt_irrefl _ (Nat.lt_of_succ_lt this)
      · cases hm
    have := h h' tk hold
    have hv : v = if b.cps.toList < a.cps.toList then .str b u else .str a t := by
      have hP' : (#[Value.str a t, Value.str b u])[argBest (fun i j => decide ((two a b i).cps.toList < (two a b j).cps.toList)) 1]? = some v := hP
      by_cases hba : b.cps.toList < a.cps.toList
      · have e : argBest (fun i j => decide ((two a b i).cps.toList < (two a b j).cps.toList)) 1 = 1 := by simp [argBest, two, hba]
        rw [e] at hP'
        rw [if_pos hba]
        simpa using hP'.symm
      · have e : argBest (fun i j => decide ((two a b i).cps.toList < (two a b j).cps.toList)) 1 = 0 := by simp [argBest, two, hba]
        rw [e] at hP'
        rw [if_neg hba]
        simpa using hP'.symm
    rw [hv]; exact this
end
theorem call_max2s (hc : X.calm = true) : CallR X (.builtin "max") (fun xs H Q => ∃ s t : List Nat, xs = [strV s, strV t] ∧ Q (strV (if ltL s t then t else s)) H) := by
  intro pins s σ H xs us Q I r h
  obtain ⟨i, j, rfl, q⟩ := h
  obtain ⟨u, w', rfl, ⟨t, rfl⟩, ⟨t', rfl⟩⟩ := vals2 r
  refine max_two_strs (I.ok.hd hc) fun h' tk k => ⟨_, H, I.kept k, ?_, q⟩
  by_cases hj : i < j
  · rw [if_pos (show (⟨i.toArray⟩ : Str).cps.toList < (⟨j.toArray⟩ : Str).cps.toList from hj), if_pos (show ltL _ _ = true from decide_eq_true hj)]; exact ⟨_, rfl⟩
  · rw [if_neg (show ¬ (⟨i.toArray⟩ : Str).cps.toList < (⟨j.toArray⟩ : Str).cps.toList from hj), if_neg (by unfold ltL; simpa using hj)]; exact ⟨_, rfl⟩
theorem call_min2s (hc : X.calm = true) : CallR X (.builtin "min") (fun xs H Q => ∃ s t : List Nat, xs = [strV s, strV t] ∧ Q (strV (if ltL t s then t else s)) H) := by
  intro pins s σ H xs us Q I r h
  obtain ⟨i, j, rfl, q⟩ := h
  obtain ⟨u, w', rfl, ⟨t, rfl⟩, ⟨t', rfl⟩⟩ := vals2 r
  refine min_two_strs (I.ok.hd hc) fun h' tk k => ⟨_, H, I.kept k, ?_, q⟩
  by_cases hj : j < i
  · rw [if_pos (show (⟨j.toArray⟩ : Str).cps.toList < (⟨i.toArray⟩ : Str).cps.toList from hj), if_pos (show ltL _ _ = true from decide_eq_true hj)]; exact ⟨_, rfl⟩
  · rw [if_neg (show ¬ (⟨j.toArray⟩ : Str).cps.toList < (⟨i.toArray⟩ : Str).cps.toList from hj), if_neg (by unfold ltL; simpa using hj)]; exact ⟨_, rfl⟩
def biVal : Bi → Value
  | .len => .builtin "len" | .abs => .builtin "abs" | .max => .builtin "max" | .min => .builtin "min" | .sum => .builtin "sum" | .any => .builtin "any" | .all => .builtin "all" | .sorted => .builtin "sorted"
  | .int => .type "int" | .str => .type "str" | .list => .type "list" | .tuple => .type "tuple"
def biName : Bi → Str
  | .len => "len" | .abs => "abs" | .max => "max" | .min => "min" | .sum => "sum" | .any => "any" | .all => "all" | .sorted => "sorted"
  | .int => "int" | .str => "str" | .list => "list" | .tuple => "tuple"
theorem bi_boot (b : Bi) : bootBuiltins (biName b) = some (biVal b) := by cases b <;> decide +kernel
theorem rls_one {S : Sa} {γ : Ga} {μ : Sto} {H : Hp} {xs : List D} {vs : List V} (r : Rls c.K false T0 S H xs vs) {d : D} (e : xs = [d]) : ∃ v, vs = [v] ∧ RelW c.K T0 S H d v := by
  subst e
  exact one_of r
theorem chars_rel {K : PySem.W.Frag} {S : Sa} {H : Hp} : ∀ (s : List Nat), (∀ c ∈ s, c < 128) → Rels K S H (chars s) (s.map fun c => strV [c])
  | [], _ => rfl
  | a :: s, h => ⟨strV [a], _, rfl, ⟨rfl, (by simp), fun x hx => by
      have : x = a := by simpa using hx
      rw [this]
      exact h a (List.mem_cons_self ..)⟩, chars_rel s fun x hx => h x (List.mem_cons_of_mem _ hx)⟩
theorem insI_perm (x : Int) : ∀ l, (insI x l).Perm (x :: l)
  | [] => .refl _
  | y :: r => by
    unfold insI
    split
    · exact .refl _
    · exact ((insI_perm x r).cons y).trans (.swap x y r)
theorem sortI_perm : ∀ l, (sortI l).Perm l
  | [] => .refl _
  | x :: r => (insI_perm x _).trans ((sortI_perm r).cons x)
theorem insI_srt (x : Int) : ∀ l, List.Pairwise (· ≤ ·) l → List.Pairwise (· ≤ ·) (insI x l)
  | [], _ => by simp [insI]
  | y :: r, h => by
    unfold insI
    rw [List.pairwise_cons] at h
    split
    · rename_i hx
      refine List.pairwise_cons.mpr ⟨fun z hz => ?_, List.pairwise_cons.mpr h⟩
      rcases List.mem_cons.mp hz with rfl | hz
      · exact hx
      · have := h.1 z hz; omega
    · rename_i hx
      refine List.pairwise_cons.mpr ⟨fun z hz => ?_, insI_srt x r h.2⟩
      rcases List.mem_cons.mp ((insI_perm x r).mem_iff.mp hz) with rfl | hz
      · omega
      · exact h.1 z hz
theorem sortI_srt : ∀ l, List.Pairwise (· ≤ ·) (sortI l)
  | [] => .nil
  | x :: r => insI_srt x _ (sortI_srt r)
theorem srt_uniq : ∀ {l m : List Int}, l.Perm m → List.Pairwise (· ≤ ·) l → List.Pairwise (· ≤ ·) m → l = m
  | [], m, h, _, _ => (List.Perm.nil_eq h)
  | a :: l, [], h, _, _ => by have := h.length_eq; simp at this
  | a :: l, b :: m, h, h1, h2 => by
    rw [List.pairwise_cons] at h1 h2
    have e : a = b := by
      have m1 : a ∈ b :: m := h.mem_iff.mp List.mem_cons_self
      have m2 : b ∈ a :: l := h.mem_iff.mpr List.mem_cons_self
      rcases List.mem_cons.mp m1 with e | m1
      · exact e
      · rcases List.mem_cons.mp m2 with e | m2
        · exact e.symm
        · have := h1.1 b m2; have := h2.1 a m1; omega
    subst e
    rw [srt_uniq (List.Perm.cons_inv h) h1.2 h2.2]
theorem sortI_uniq {l is : List Int} (h : l.Perm is) (hs : List.Pairwise (· ≤ ·) l) : l = sortI is := srt_uniq (h.trans (sortI_perm is).symm) hs (sortI_srt is)
theorem rels_intsL {K : PySem.W.Frag} {S : Sa} {H : Hp} : ∀ is : List Int, Rels K S H (is.map D.int) (is.map V.int)
  | [] => rfl
  | i :: is => ⟨V.int i, _, rfl, rfl, rels_intsL is⟩
theorem strs_len {K : PySem.W.Frag} {S : Sa} {H : Hp} : ∀ {xs : List D} {vs : List V} {is : List (List Nat)}, strsD xs = some is → Rels K S H xs vs → ∀ s ∈ is, s.length ≤ 1000000
  | [], _, is, h, _ => by cases h; intro s hs; cases hs
  | .str t :: r, vs, is, h, rl => by
    obtain ⟨js, e1, rfl⟩ := Option.map_eq_some_iff.mp (show (strsD r).map (t :: ·) = some is from h)
    obtain ⟨v, ws, rfl, q, z⟩ := rl
    intro s hs
    rcases List.mem_cons.mp hs with rfl | hs
    · exact q.2.1
    · exact strs_len e1 z s hs
  | .non :: _, _, _, h, _ => by cases h
  | .bl _ :: _, _, _, h, _ => by cases h
  | .int _ :: _, _, _, h, _ => by cases h
  | .tup _ :: _, _, _, h, _ => by cases h
  | .lst _ :: _, _, _, h, _ => by cases h
  | .dic _ :: _, _, _, h, _ => by cases h
  | .obj _ _ :: _, _, _, h, _ => by cases h
  | .loc _ :: _, _, _, h, _ => by cases h
/-! sorted texts -/
abbrev leS (a b : List Nat) : Prop := ¬ b < a
theorem leS_refl (a : List Nat) : leS a a := List.lt_irrefl a
theorem leS_anti {a b : List Nat} (h : leS a b) (h' : leS b a) : a = b := List.le_antisymm h h'
theorem leS_trans {a b d : List Nat} (h : leS a b) (h' : leS b d) : leS a d := List.le_trans h h'
theorem insS_perm (x : List Nat) : ∀ l, (insS x l).Perm (x :: l)
  | [] => .refl _
  | y :: r => by
    unfold insS
    split
    · exact ((insS_perm x r).cons y).trans (.swap x y r)
    · exact .refl _
theorem sortS_perm : ∀ l, (sortS l).Perm l
  | [] => .refl _
  | x :: r => (insS_perm x _).trans ((sortS_perm r).cons x)
theorem insS_srt (x : List Nat) : ∀ l, List.Pairwise leS l → List.Pairwise leS (insS x l)
  | [], _ => by simp [insS]
  | y :: r, h => by
    rw [List.pairwise_cons] at h
    unfold insS
    split
    · rename_i hl
      have hl : y < x := by unfold ltL at hl; exact of_decide_eq_true hl
      refine List.pairwise_cons.mpr ⟨fun z hz => ?_, insS_srt x r h.2⟩
      rcases List.mem_cons.mp ((insS_perm x r).mem_iff.mp hz) with rfl | hz
      · exact List.le_of_lt hl
      · exact h.1 z hz
    · rename_i hl
      have hl : ¬ y < x := fun z => hl (by unfold ltL; exact decide_eq_true z)
      refine List.pairwise_cons.mpr ⟨fun z hz => ?_, List.pairwise_cons.mpr h⟩
      rcases List.mem_cons.mp hz with rfl | hz
      · exact hl
      · exact leS_trans hl (h.1 z hz)
theorem sortS_srt : ∀ l, List.Pairwise leS (sortS l)
  | [] => .nil
  | x :: r => insS_srt x _ (sortS_srt r)
theorem srtS_uniq : ∀ {l m : List (List Nat)}, l.Perm m → List.Pairwise leS l → List.Pairwise leS m → l = m
  | [], m, h, _, _ => (List.Perm.nil_eq h)
  | a :: l, [], h, _, _ => by have := h.length_eq; simp at this
  | a :: l, b :: m, h, h1, h2 => by
    rw [List.pairwise_cons] at h1 h2
    have e : a = b := by
      have m1 : a ∈ b :: m := h.mem_iff.mp List.mem_cons_self
      have m2 : b ∈ a :: l := h.mem_iff.mpr List.mem_cons_self
      rcases List.mem_cons.mp m1 with e | m1
      · exact e
      · rcases List.mem_cons.mp m2 with e | m2
        · exact e.symm
        · exact leS_anti (h1.1 b m2) (h2.1 a m1)
    subst e
    rw [srtS_uniq (List.Perm.cons_inv h) h1.2 h2.2]
open PySem.Spec PyProof.Rows in
theorem srt_rising : ∀ (r : List Str) (x : Str), risingS x r = true → List.Pairwise leS ((x :: r).map fun s => s.cps.toList)
  | [], x, _ => by simp
  | y :: r, x, h => by
    simp only [risingS, Bool.and_eq_true, Bool.not_eq_true', ltCps_eq, decide_eq_false_iff_not] at h
    have ih := srt_rising r y h.2
    rw [List.map_cons, List.pairwise_cons]
    refine ⟨fun z hz => ?_, ih⟩
    rw [List.map_cons] at hz
    rcases List.mem_cons.mp hz with rfl | hz
    · exact h.1
    · rw [List.map_cons, List.pairwise_cons] at ih
      exact leS_trans h.1 (ih.1 z hz)
open PySem.Spec PyProof.Rows in
theorem sortS_uniq {ys : List Str} {ss : List (List Nat)} (h : ys.Perm (ss.map fun s => (⟨s.toArray⟩ : Str))) (hs : sortedS ys = true) : ys = (sortS ss).map fun s => (⟨s.toArray⟩ : Str) := by
  have h1 : (ys.map fun s => s.cps.toList).Perm ss := by
    have := h.map fun s : Str => s.cps.toList
    rw [List.map_map] at this
    have e : (List.map ((fun s : Str => s.cps.toList) ∘ fun s => (⟨s.toArray⟩ : Str)) ss) = ss := by
      have : ((fun s : Str => s.cps.toList) ∘ fun s : List Nat => (⟨s.toArray⟩ : Str)) = id := by funext s; simp
      rw [this, List.map_id]
    rw [e] at this
    exact this
  have h2 : List.Pairwise leS (ys.map fun s => s.cps.toList) := by
    cases ys with
    | nil => exact .nil
    | cons y r => exact srt_rising r y hs
  have e := srtS_uniq (h1.trans (sortS_perm ss).symm) h2 (sortS_srt ss)
  rw [← e, List.map_map]
  have : ((fun s : List Nat => (⟨s.toArray⟩ : Str)) ∘ fun s : Str => s.cps.toList) = id := by funext s; simp
  rw [this, List.map_id]
theorem rels_strsL {K : PySem.W.Frag} {S : Sa} {H : Hp} : ∀ ss : List (List Nat), (∀ s ∈ ss, s.length ≤ 1000000 ∧ ∀ c ∈ s, c < 128) → Rels K S H (ss.map D.str) ((ss.map fun s => (⟨s.toArray⟩ : Str)).map V.str)
  | [], _ => rfl
  | s :: ss, h => ⟨strV s, _, rfl, ⟨rfl, h s List.mem_cons_self⟩, rels_strsL ss fun t ht => h t (List.mem_cons_of_mem _ ht)⟩
/-- the two shapes of arguments -/
theorem opA_of {b : Bi} {r : List V → Hp → VK → Prop} (h1 : ∀ (S : Sa) (γ : Ga) (μ : Sto) (σ : L2.St) (H : Hp) (d : D) (v : V) (z : D) (Q : VK), Good c S γ μ σ H → RelW c.K T0 S H d v → bi1 b d = some z → Aft c true S μ H γ σ Q z μ → r [v] H Q)
    (h2 : ∀ (S : Sa) (γ : Ga) (μ : Sto) (σ : L2.St) (H : Hp) (d e : D) (v w : V) (z : D) (Q : VK), Good c S γ μ σ H → RelW c.K T0 S H d v → RelW c.K T0 S H e w → bi2 b d e = some z → Aft c true S μ H γ σ Q z μ → r [v, w] H Q) : OpA c r (fun xs μ => ofO (builtin b xs) μ) := by
  intro S γ μ σ H ds vs Q g rd h
  obtain ⟨z, hz, q⟩ := ofO_some h
  match ds, rd, hz with
  | [], _, hz => cases hz
  | [d], rd, hz =>
    obtain ⟨v, rfl, r1⟩ := one_of rd
    exact h1 S γ μ σ H d v z Q g r1 hz q
  | [d, e], rd, hz =>
    obtain ⟨v, w, rfl, r1, r2⟩ := two_of rd
    exact h2 S γ μ σ H d e v w z Q g r1 r2 hz q
  | _ :: _ :: _ :: _, _, hz => cases hz
theorem op_bi (hK : X.K = c.K) (hc : X.calm = true) (b : Bi) : ∃ r, CallR X (biVal b) r ∧ OpA c r (fun xs μ => ofO (builtin b xs) μ) := by
  cases b with
  | len =>
    refine ⟨_, call_len, opA_of (fun S γ μ σ H d v z Q g r hz q => ?_) fun S γ μ σ H d e v w z Q g _ _ hz q => nomatch hz⟩
    cases d <;> simp only [bi1, Option.some.injEq, reduceCtorEq] at hz
    · subst hz
      obtain ⟨rfl, l1, _⟩ := rw_str r
      exact ⟨_, _, rfl, ⟨by rw [str_len]; exact big_line l1, (str_len _).symm⟩, fin0 g q rfl⟩
    · subst hz
      obtain ⟨a, ws, rfl, sq, rs⟩ := rw_tup r
      exact ⟨_, _, rfl, .inr ⟨ws, by rw [hK]; exact sq, rs.length.symm⟩, fin0 g q rfl⟩
    · subst hz
      obtain ⟨a, ws, rfl, sq, rs⟩ := rw_lst r
      exact ⟨_, _, rfl, .inl ⟨ws, by rw [hK]; exact sq, rs.length.symm⟩, fin0 g q rfl⟩
  | abs =>
    refine ⟨_, call_abs, opA_of (fun S γ μ σ H d v z Q g r hz q => ?_) fun S γ μ σ H d e v w z Q g _ _ hz q => nomatch hz⟩
    cases d <;> simp only [bi1, Option.some.injEq, reduceCtorEq] at hz
    subst hz
    rw [rw_int r]
    exact ⟨_, rfl, fin0 g q rfl⟩
  | max =>
    refine ⟨_, (call_max2 hc).or ((cr_max hc).or (call_max2s hc)), opA_of (fun S γ μ σ H d v z Q g r hz q => ?_) fun S γ μ σ H d e v w z Q g r r2 hz q => ?_⟩
    · cases d <;> simp only [bi1, Option.map_eq_some_iff, Option.bind_eq_some_iff, reduceCtorEq] at hz
      obtain ⟨m, ⟨is, e1, e2⟩, rfl⟩ := hz
      obtain ⟨a, ws, rfl, sq, rs⟩ := rw_lst r
      obtain ⟨h1, h2⟩ := maxL_uniq e2
      refine .inr (.inl ⟨a, is, rfl, by rw [hK, ← ints_of e1 rs]; exact sq, h1, fun k hk hy => ?_⟩)
      rw [h2 k hk hy]
      exact fin0 g q rfl
    · cases d <;> cases e <;> simp only [bi2, Option.some.injEq, reduceCtorEq] at hz
      · subst hz
        rw [rw_int r, rw_int r2]
        exact .inl ⟨_, _, rfl, fin0 g q rfl⟩
      · subst hz
        obtain ⟨e1, l1, a1⟩ := rw_str r
        obtain ⟨e2, l2, a2⟩ := rw_str r2
        rw [e1, e2]
        refine .inr (.inr ⟨_, _, rfl, fin0 g q ?_⟩)
        split
        · exact ⟨rfl, l2, a2⟩
        · exact ⟨rfl, l1, a1⟩
  | min =>
    refine ⟨_, (call_min2 hc).or ((cr_min hc).or (call_min2s hc)), opA_of (fun S γ μ σ H d v z Q g r hz q => ?_) fun S γ μ σ H d e v w z Q g r r2 hz q => ?_⟩
    · cases d <;> simp only [bi1, Option.map_eq_some_iff, Option.bind_eq_some_iff, reduceCtorEq] at hz
      obtain ⟨m, ⟨is, e1, e2⟩, rfl⟩ := hz
      obtain ⟨a, ws, rfl, sq, rs⟩ := rw_lst r
      obtain ⟨h1, h2⟩ := minL_uniq e2
      refine .inr (.inl ⟨a, is, rfl, by rw [hK, ← ints_of e1 rs]; exact sq, h1, fun k hk hy => ?_⟩)
      rw [h2 k hk hy]
      exact fin0 g q rfl
    · cases d <;> cases e <;> simp only [bi2, Option.some.injEq, reduceCtorEq] at hz
      · subst hz
        rw [rw_int r, rw_int r2]
        exact .inl ⟨_, _, rfl, fin0 g q rfl⟩
      · subst hz
        obtain ⟨e1, l1, a1⟩ := rw_str r
        obtain ⟨e2, l2, a2⟩ := rw_str r2
        rw [e1, e2]
        refine .inr (.inr ⟨_, _, rfl, fin0 g q ?_⟩)
        split
        · exact ⟨rfl, l2, a2⟩
        · exact ⟨rfl, l1, a1⟩
  | int =>
    refine ⟨_, call_int1, opA_of (fun S γ μ σ H d v z Q g r hz q => ?_) fun S γ μ σ H d e v w z Q g _ _ hz q => nomatch hz⟩
    cases d <;> simp only [bi1, Option.some.injEq, reduceCtorEq] at hz
    · subst hz
      rw [rw_bl r]
      exact .inr ⟨_, rfl, fin0 g q rfl⟩
    · subst hz
      rw [rw_int r]
      exact .inl ⟨_, rfl, fin0 g q rfl⟩
  | str =>
    refine ⟨_, call_str_int, opA_of (fun S γ μ σ H d v z Q g r hz q => ?_) fun S γ μ σ H d e v w z Q g _ _ hz q => nomatch hz⟩
    cases d <;> cases hz
  | list =>
    refine ⟨_, call_list_of.or (call_list_text hc), opA_of (fun S γ μ σ H d v z Q g r hz q => ?_) fun S γ μ σ H d e v w z Q g _ _ hz q => nomatch hz⟩
    cases d <;> simp only [bi1, Option.some.injEq, reduceCtorEq] at hz
    · subst hz
      obtain ⟨rfl, l1, a1⟩ := rw_str r
      exact .inr ⟨_, rfl, l1, fin_lst g q (chars_rel _ a1)⟩
    · subst hz
      obtain ⟨a, ws, rfl, sq, rs⟩ := rw_tup r
      exact .inl ⟨a, ws, rfl, .inr (by rw [hK]; exact sq), fin_lst g q rs⟩
    · subst hz
      obtain ⟨a, ws, rfl, sq, rs⟩ := rw_lst r
      exact .inl ⟨a, ws, rfl, .inl (by rw [hK]; exact sq), fin_lst g q rs⟩
  | tuple =>
    refine ⟨_, call_tuple_of, opA_of (fun S γ μ σ H d v z Q g r hz q => ?_) fun S γ μ σ H d e v w z Q g _ _ hz q => nomatch hz⟩
    cases d <;> simp only [bi1, Option.some.injEq, reduceCtorEq] at hz
    · subst hz
      obtain ⟨a, ws, rfl, sq, rs⟩ := id r
      exact ⟨a, ws, rfl, .inr ⟨by rw [hK]; exact sq.sq, fin0 g q r⟩⟩
    · subst hz
      obtain ⟨a, ws, rfl, sq, rs⟩ := rw_lst r
      exact ⟨a, ws, rfl, .inl ⟨by rw [hK]; exact sq, fin_tup g q rs⟩⟩
  | sum =>
    refine ⟨_, cr_sum hc, opA_of (fun S γ μ σ H d v z Q g r hz q => ?_) fun S γ μ σ H d e v w z Q g _ _ hz q => nomatch hz⟩
    cases d <;> simp only [bi1, Option.map_eq_some_iff, reduceCtorEq] at hz
    obtain ⟨is, e1, rfl⟩ := hz
    obtain ⟨a, ws, rfl, sq, rs⟩ := rw_lst r
    exact ⟨a, is, rfl, by rw [hK, ← ints_of e1 rs]; exact sq, fin0 g q rfl⟩
  | any =>
    refine ⟨_, cr_any hc, opA_of (fun S γ μ σ H d v z Q g r hz q => ?_) fun S γ μ σ H d e v w z Q g _ _ hz q => nomatch hz⟩
    cases d <;> simp only [bi1, Option.map_eq_some_iff, reduceCtorEq] at hz
    obtain ⟨is, e1, rfl⟩ := hz
    obtain ⟨a, ws, rfl, sq, rs⟩ := rw_lst r
    exact ⟨a, is, rfl, by rw [hK, ← bools_of e1 rs]; exact sq, fin0 g q rfl⟩
  | all =>
    refine ⟨_, cr_all hc, opA_of (fun S γ μ σ H d v z Q g r hz q => ?_) fun S γ μ σ H d e v w z Q g _ _ hz q => nomatch hz⟩
    cases d <;> simp only [bi1, Option.map_eq_some_iff, reduceCtorEq] at hz
    obtain ⟨is, e1, rfl⟩ := hz
    obtain ⟨a, ws, rfl, sq, rs⟩ := rw_lst r
    exact ⟨a, is, rfl, by rw [hK, ← bools_of e1 rs]; exact sq, fin0 g q rfl⟩
  | sorted =>
    refine ⟨_, cr_sortedI.or cr_sortedS, opA_of (fun S γ μ σ H d v z Q g r hz q => ?_) fun S γ μ σ H d e v w z Q g _ _ hz q => nomatch hz⟩
    cases d with
    | lst xs =>
      have hz : (match intsD xs with | some is => some (.lst ((sortI is).map .int)) | none => (strsD xs).bind fun ss => if ss.length < 64 then some (.lst ((sortS ss).map .str)) else none : Option D) = some z := hz
      obtain ⟨a, ws, rfl, sq, rs⟩ := rw_lst r
      cases e1 : intsD xs with
      | some is =>
        rw [e1] at hz
        cases hz
        refine .inl ⟨a, is, rfl, by rw [hK, ← ints_of e1 rs]; exact sq, fun ns' p hp hs hn => ?_⟩
        rw [sortI_uniq hp hs]
        exact fin_lst g q (rels_intsL _) p hn
      | none =>
        rw [e1] at hz
        obtain ⟨ss, e2, h3⟩ := Option.bind_eq_some_iff.mp hz
        obtain ⟨e3, a3⟩ := strs_of e2 rs
        have l3 := strs_len e2 rs
        by_cases h64 : ss.length < 64
        · rw [if_pos h64] at h3
          cases h3
          refine .inr ⟨a, ss.map fun s => ⟨s.toArray⟩, rfl, by rw [hK, ← e3]; exact sq, by rw [List.length_map]; exact h64, fun ys p hp hs hn => ?_⟩
          rw [sortS_uniq hp hs]
          exact fin_lst g q (rels_strsL _ fun s hs => have m := (sortS_perm ss).mem_iff.mp hs; ⟨l3 s m, a3 s m⟩) p hn
        · rw [if_neg h64] at h3; cases h3
    | _ => cases hz
end
section
variable {X : Cx} {c : Ct}
/-- list(x), its result open: what is asked -/
theorem op_listX (hK : X.K = c.K) (hc : X.calm = true) : ∃ r, CallR X (.type "list") r ∧ ∀ (S : Sa) (H : Hp) (d : D) (v : V) (zs : List D) (Q : VK), RelW c.K T0 S H d v → bi1 .list d = some (.lst zs) → (∀ vs, Rels c.K S H zs vs → ∀ p, H p = none → Q (.ref p) (upd H p (.lst vs))) → r [v] H Q := by
  refine ⟨_, call_list_of.or (call_list_text hc), fun S H d v zs Q r hz q => ?_⟩
  cases d <;> simp only [bi1, Option.some.injEq, reduceCtorEq, D.lst.injEq] at hz
  · subst hz
    obtain ⟨rfl, l1, a1⟩ := rw_str r
    exact .inr ⟨_, rfl, l1, q _ (chars_rel _ a1)⟩
  · subst hz
    obtain ⟨a, ws, rfl, sq, rs⟩ := rw_tup r
    exact .inl ⟨a, ws, rfl, .inr (by rw [hK]; exact sq), q _ rs⟩
  · subst hz
    obtain ⟨a, ws, rfl, sq, rs⟩ := rw_lst r
    exact .inl ⟨a, ws, rfl, .inl (by rw [hK]; exact sq), q _ rs⟩
/-- + and * of lists, the result open -/
theorem op_lopX (hK : X.K = c.K) (o : Bop) : ∃ r, OpR X (binaryOp (bopOf o)) r ∧ ∀ (S : Sa) (H : Hp) (d e : D) (v w : V) (zs : List D) (Q : VK), RelW c.K T0 S H d v → RelW c.K T0 S H e w → binop o d e = some (.lst zs) → (∀ vs, Rels c.K S H zs vs → ∀ p, H p = none → Q (.ref p) (upd H p (.lst vs))) → r v w H Q := by
  cases o with
  | add =>
    refine ⟨_, op_catS, fun S H d e v w zs Q rd re hz q => ?_⟩
    rcases add_cases hz with ⟨i, j, rfl, rfl, z⟩ | ⟨s, t, rfl, rfl, hl, z⟩ | ⟨s, t, rfl, rfl, hl, z⟩ | ⟨s, t, rfl, rfl, hl, z⟩ <;> first | cases z | skip
    obtain ⟨a, vs, rfl, q1, r1⟩ := rw_lst rd
    obtain ⟨b, ws, rfl, q2, r2⟩ := rw_lst re
    exact ⟨a, b, vs, ws, rfl, rfl, by rw [hK]; exact q1, by rw [hK]; exact q2, by rw [r1.length, r2.length]; exact big_line hl, q _ (r1.append r2)⟩
  | mul =>
    refine ⟨_, op_repS, fun S H d e v w zs Q rd re hz q => ?_⟩
    cases d <;> cases e <;> simp only [binop, Option.ite_none_right_eq_some, Option.some.injEq, reduceCtorEq, D.lst.injEq, and_false] at hz
    obtain ⟨hcc, rfl⟩ := hz
    simp only [Bool.and_eq_true, decide_eq_true_eq] at hcc
    obtain ⟨a, vs, rfl, q1, r1⟩ := rw_lst rd
    exact ⟨a, _, vs, rfl, rw_int re, by rw [hK]; exact q1, by omega, by omega, by rw [r1.length]; exact hcc.1, q _ (r1.rep _)⟩
  | sub => exact ⟨_, op_sub, fun S H d e v w zs Q rd re hz q => by cases d <;> cases e <;> simp [binop] at hz⟩
  | fdiv => exact ⟨_, op_fdiv, fun S H d e v w zs Q rd re hz q => by cases d <;> cases e <;> simp [binop] at hz⟩
  | mod => exact ⟨_, op_mod, fun S H d e v w zs Q rd re hz q => by cases d <;> cases e <;> simp [binop] at hz⟩
  | pow => exact ⟨_, op_pow, fun S H d e v w zs Q rd re hz q => by cases d <;> cases e <;> simp [binop] at hz⟩
end
end Bs
/-! Bs: methods, isinstance. -/
namespace Bs
open PySem L2
theorem chain_count (s : List Nat) (c : Nat) : ∀ (cuts : List Nat) (a f : Nat), StrLaws.ChainG ⟨s.toArray⟩ ⟨#[c]⟩ (⟨s.toArray⟩ : Str).length a cuts f → (∀ k, f ≤ k → ¬ StrLaws.At ⟨s.toArray⟩ ⟨#[c]⟩ (⟨s.toArray⟩ : Str).length k) → (s.drop a).count c = cuts.length := by
  have at_iff : ∀ k, StrLaws.At ⟨s.toArray⟩ ⟨#[c]⟩ (⟨s.toArray⟩ : Str).length k ↔ s[k]? = some c := fun k => by
    have h := StrLaws.subAt_one ⟨s.toArray⟩ c k
    simpa [StrLaws.At] using h
  have none : ∀ (a b : Nat), (∀ k, a ≤ k → k < b → s[k]? ≠ some c) → (s.drop a).count c = (s.drop b).count c ∨ b < a := by
    intro a b
    induction b with
    | zero =>
      intro _
      by_cases h : a = 0
      · subst h; exact .inl rfl
      · exact .inr (by omega)
    | succ b ih =>
      intro h
      by_cases hb : b < a
      · by_cases hb2 : b + 1 < a
        · exact .inr hb2
        · have : a = b + 1 := by omega
          subst this
          exact .inl rfl
      · rcases ih fun k h1 h2 => h k h1 (by omega) with e | e
        · left
          rw [e]
          have hn := h b (by omega) (by omega)
          by_cases hl : b < s.length
          · rw [List.drop_eq_getElem_cons hl, List.count_cons]
            have : (s[b] == c) = false := by
              rw [beq_eq_false_iff_ne]
              intro z
              exact hn (by rw [List.getElem?_eq_getElem hl, z])
            rw [this]
            simp
          · rw [List.drop_eq_nil_of_le (by omega), List.drop_eq_nil_of_le (by omega)]
        · exact absurd e hb
  intro cuts
  induction cuts with
  | nil =>
    intro a f h hn
    have e : f = a := h
    subst e
    rcases none f (max f s.length) fun k h1 _ z => hn k h1 ((at_iff k).mpr z) with e | e
    · rw [e, List.drop_eq_nil_of_le (by omega)]; rfl
    · omega
  | cons i r ih =>
    intro a f h hn
    obtain ⟨h1, h2, h3, h4⟩ := h
    have h2' := (at_iff i).mp h2
    have hi : i < s.length := (List.getElem?_eq_some_iff.mp h2').1
    have e1 : s[i] = c := (List.getElem?_eq_some_iff.mp h2').2
    rcases none a i fun k ha hb z => h3 k ha hb ((at_iff k).mpr z) with e | e
    · have h5 := ih (i + 1) f h4 hn
      rw [e, List.drop_eq_getElem_cons hi, List.count_cons, h5, e1]
      simp
    · omega
theorem count_eq (s : List Nat) (c : Nat) : Txt.count ⟨s.toArray⟩ ⟨[c].toArray⟩ = (s.count c : Int) := by
  obtain ⟨f, h1, h2⟩ := StrLaws.occ_tight ⟨s.toArray⟩ ⟨#[c]⟩ (by simp [Str.length])
  have := chain_count s c _ 0 f h1 h2
  rw [List.drop_zero] at this
  unfold Txt.count
  rw [this]
theorem join_eq (sep : List Nat) : ∀ ss : List (List Nat), Txt.join ⟨sep.toArray⟩ (ss.map fun s => (⟨s.toArray⟩ : Str)) = ⟨(joinL sep ss).toArray⟩ := by
  intro ss
  unfold Txt.join
  rw [StrLaws.glued_eq_join]
  induction ss with
  | nil => rfl
  | cons x r ih =>
    cases r with
    | nil => rfl
    | cons y r =>
      show (⟨x.toArray⟩ : Str) ++ ⟨sep.toArray⟩ ++ Str.join ⟨sep.toArray⟩ (List.map (fun s => (⟨s.toArray⟩ : Str)) (y :: r)) = _
      rw [ih, str_app, str_app, List.append_assoc]
      rfl

def mtId : Mt → String
  | .join => "str.join" | .count => "str.count"
def mtName : Mt → Str
  | .join => "join" | .count => "count"
theorem joinL_mem {sep : List Nat} {c : Nat} : ∀ {ss : List (List Nat)}, c ∈ joinL sep ss → c ∈ sep ∨ ∃ s ∈ ss, c ∈ s
  | [], h => by cases h
  | [x], h => .inr ⟨x, List.mem_singleton.mpr rfl, h⟩
  | x :: y :: r, h => by
    rcases List.mem_append.mp (show c ∈ x ++ (sep ++ joinL sep (y :: r)) from h) with h | h
    · exact .inr ⟨x, List.mem_cons_self .., h⟩
    · rcases List.mem_append.mp h with h | h
      · exact .inl h
      · rcases joinL_mem h with h | ⟨s, hs, h⟩
        · exact .inl h
        · exact .inr ⟨s, List.mem_cons_of_mem _ hs, h⟩
theorem joinL_len {sep : List Nat} : ∀ (ss : List (List Nat)), (joinL sep ss).length ≤ (ss.map List.length).sum + ss.length * sep.length
  | [] => Nat.zero_le _
  | [x] => by simp [joinL]
  | x :: y :: r => by
    have := joinL_len (sep := sep) (y :: r)
    show (x ++ (sep ++ joinL sep (y :: r))).length ≤ _
    simp only [List.length_append, List.map_cons, List.sum_cons, List.length_cons] at this ⊢
    have e : (r.length + 1 + 1) * sep.length = (r.length + 1) * sep.length + sep.length := by rw [Nat.succ_mul]
    omega
section
variable {X : Cx} {c : Ct}
theorem op_mt (hK : X.K = c.K) (m : Mt) : ∃ r, MtR X (mtId m) r ∧ ∀ (S : Sa) (γ : Ga) (μ : Sto) (σ : L2.St) (H : Hp) (d e : D) (v w : V) (Q : VK), Good c S γ μ σ H → RelW c.K T0 S H d v → RelW c.K T0 S H e w → (ofO (mt1 m d e) μ).All (Aft c true S μ H γ σ Q) c.V → r v [w] H Q := by
  cases m with
  | join =>
    refine ⟨_, mt_join, fun S γ μ σ H d e v w Q g rd re h => ?_⟩
    obtain ⟨z, hz, q⟩ := ofO_some h
    cases d <;> cases e <;> simp only [mt1, reduceCtorEq, Option.bind_eq_some_iff, Option.ite_none_right_eq_some, Option.some.injEq] at hz
    obtain ⟨ss, e1, hl, rfl⟩ := hz
    obtain ⟨a, ws, rfl, sq, r2⟩ := rw_lst re
    obtain ⟨rfl, l1, a1⟩ := rw_str rd
    obtain ⟨e2, a2⟩ := strs_of e1 r2
    have el : ((ss.map fun s => (⟨s.toArray⟩ : Str)).map (·.length)).sum = (ss.map List.length).sum := by
      rw [List.map_map]
      congr 1
    refine ⟨_, a, ss.map fun s => ⟨s.toArray⟩, rfl, rfl, .inl (by rw [hK, ← e2]; exact sq), ?_, ?_⟩
    · rw [el, List.length_map, str_len]
      exact Nat.le_trans hl (by decide)
    · rw [join_eq]
      refine fin0 g q ⟨rfl, Nat.le_trans (joinL_len ss) hl, fun x hx => ?_⟩
      rcases joinL_mem hx with h | ⟨s, hs, h⟩
      · exact a1 x h
      · exact a2 s hs x h
  | count =>
    refine ⟨_, mt_count, fun S γ μ σ H d e v w Q g rd re h => ?_⟩
    obtain ⟨z, hz, q⟩ := ofO_some h
    cases d <;> cases e <;> simp only [mt1, reduceCtorEq, Option.map_eq_some_iff] at hz
    obtain ⟨ch, e1, rfl⟩ := hz
    rename_i t
    have et : t = [ch] := by
      match t, e1 with
      | [x], e1 => cases e1; rfl
    subst et
    refine ⟨_, _, (rw_str rd).1, congrArg (fun x => [x]) (rw_str re).1, ?_⟩
    rw [count_eq]
    exact fin0 g q rfl
/-! ### isinstance -/
def tyName : Ty → String
  | .int => "int" | .str => "str" | .bool => "bool" | .tuple => "tuple" | .list => "list" | .dict => "dict"
def tyOf : D → Option String
  | .non => some "NoneType" | .bl _ => some "bool" | .int _ => some "int" | .str _ => some "str" | .tup _ => some "tuple" | .lst _ => some "list" | .dic _ => some "dict"
  | _ => none
theorem ty_boot (t : Ty) : bootBuiltins (Str.ofString (tyName t)) = some (.type (tyName t)) := by cases t <;> decide +kernel
theorem tyX_of {K : PySem.W.Frag} {T S : Sa} {H : Hp} {d : D} {v : V} {n : String} (e : tyOf d = some n) (h : RelW K T S H d v) : TyX K H v (.type n) := by
  cases d <;> simp only [tyOf, Option.some.injEq, reduceCtorEq] at e <;> subst e
  · rw [rw_non h]; exact .base .non
  · rw [rw_bl h]; exact .base (.bl _)
  · rw [rw_int h]; exact .base (.int _)
  · rw [(rw_str h).1]; exact .base (.str _)
  · obtain ⟨a, vs, rfl, q, _⟩ := h
    rcases q with ⟨q | ⟨o, q⟩, _⟩ | ⟨o, its, n, q1, q2, _⟩
    · exact .base (.tup q)
    · exact .fTuple q
    · exact .kTuple q1 q2
  · obtain ⟨a, vs, rfl, q, _⟩ := h
    rcases q with ⟨q | ⟨o, q⟩, _⟩ | ⟨o, its, n, q1, q2, _⟩
    · exact .base (.lst q)
    · exact .base (.frz q)
    · exact .kList q1 q2
  · obtain ⟨a, vs, rfl, q, _⟩ := h
    rcases q with q | ⟨o, q⟩
    · exact .base (.dK q)
    · exact .fDict q
theorem isTy_some {d : D} {t : Ty} {b : Bool} (h : isTy d t = some b) : ∃ n, tyOf d = some n ∧ kitB n (tyName t) = some b := by
  cases d <;> simp only [isTy, reduceCtorEq] at h
  all_goals cases t <;> simp only [isTy, Option.some.injEq] at h <;> subst h <;> exact ⟨_, rfl, by decide +kernel⟩
theorem isTys_some {K : PySem.W.Frag} {d : D} {n : String} (e : tyOf d = some n) : ∀ {ts : List Ty} {b : Bool}, isTys d ts = some b → PySem.W.kitAny K (.type n) (ts.map fun t => .type (tyName t)) = some b
  | [], b, h => by cases h; rfl
  | t :: ts, b, h => by
    simp only [isTys] at h
    cases q : isTy d t with
    | none => rw [q] at h; cases h
    | some a =>
      rw [q] at h
      obtain ⟨n', e', k⟩ := isTy_some q
      rw [e] at e'
      cases e'
      refine kitAny_cons (kit_ty k) (fun ha => ?_) fun ha => ?_
      · subst ha; exact isTys_some e h
      · subst ha; exact (Option.some.inj h).symm
end
end Bs
/-! Bs: what a loop walks: a list, a tuple, a text; enumerate and zip of these. -/
namespace PySem
open Sem (wp)
open AutoSeq1 (wpAny_loadPart')
set_option maxHeartbeats 1000000 in
theorem bs_enum_newT (l : Addr) (items : Array Value) (n : Nat) (dct : Option Addr) (sl : Array (Option Value)) :
    Meets (Builtin.«enumerate.__new__» ⟨[.type "enumerate", .ref l], []⟩) (fun _ R s => s.heap.get? l = some { cls := .type "tuple", dict := dct, data := .seq items n, slots := sl } ∧
      R (.ok (.ret (.ref (s.heap.push { cls := .type "tuple_iterator", data := .fields #[.ref l, .int 0 0] }).objs.size)))
        { s with heap := (s.heap.push { cls := .type "tuple_iterator", data := .fields #[.ref l, .int 0 0] }).push { cls := .type "enumerate", data := .fields #[.none, .bool false, .ref s.heap.objs.size, rawInt 0, .none, .none] } }) :=
  .of_wp fun prog w A R s h => by
    obtain ⟨hp, g, d, tk, os⟩ := s; obtain ⟨hl, h⟩ := h
    have hsub := sub_enumerate
    have hL : Heap.IsTuple (Shared.heap ⟨hp, g, d, tk, os⟩) l items := ⟨_, hl, rfl, n, rfl⟩
    wp_walk using wpAny_loadPart' hl
    refine wpAny_stack_any fun st => wpAny_pure ?_
    split
    · rename_i c _ _ _ _ _
      cases (c == Value.type "enumerate")
      · wp_walk using wpAny_loadPart' hl, wpAny_pyIter_tuple hL
        exact ⟨_, rfl, h⟩
      · wp_walk using wpAny_loadPart' hl, wpAny_pyIter_tuple hL
        exact ⟨_, rfl, h⟩
    · wp_walk using wpAny_loadPart' hl, wpAny_pyIter_tuple hL
      exact ⟨_, rfl, h⟩
theorem bs_enum_tuple {prog : Program} {w : World} {A : Around} {E : Value → Shared → Prop} {s : Shared} {l : Addr} {items : Array Value} {Q : Value → Shared → Prop} (hL : s.heap.IsTuple l items)
    (h : ∀ h', IsEnum h' (s.heap.objs.size + 1) s.heap.objs.size 0 .none → h'.IsTupleIter s.heap.objs.size l 0 → h'.objs.size = s.heap.objs.size + 2 →
      (∀ b o, s.heap.get? b = some o → h'.get? b = some o) → Q (.ref (s.heap.objs.size + 1)) { s with heap := h' }) :
    wpAny (model prog w) A (call (.type "enumerate") [.ref l]) Q E s := by
  obtain ⟨⟨c, dct, dt, sl⟩, hl, hc, n, hd⟩ := hL
  replace hc : c = .type "tuple" := hc
  replace hd : dt = .seq items n := hd
  subst hc hd
  refine callType_new F.called_enumerate (by decide) (F.typeCall_enumerate_1 _) (F.newCall_enumerate_1 _) (fun obj => F.args_object_init_2 obj _) F.entry_enumerate_new
    (bs_enum_newT l items n dct sl) ⟨hl, ?_⟩
  have hz : (s.heap.push { cls := .type "tuple_iterator", data := .fields #[.ref l, .int 0 0] }).objs.size = s.heap.objs.size + 1 := Heap.size_push ..
  show _ ∧ _
  rw [hz]
  have he : IsEnum ((s.heap.push { cls := .type "tuple_iterator", data := .fields #[.ref l, .int 0 0] }).push
      { cls := .type "enumerate", data := .fields #[.none, .bool false, .ref s.heap.objs.size, rawInt 0, .none, .none] }) (s.heap.objs.size + 1) s.heap.objs.size 0 .none := by
    have := Heap.get?_push_size (s.heap.push { cls := .type "tuple_iterator", data := .fields #[.ref l, .int 0 0] })
      (o := { cls := .type "enumerate", data := .fields #[.none, .bool false, .ref s.heap.objs.size, rawInt 0, .none, .none] }) rfl
    rw [hz] at this; exact this
  refine ⟨⟨_, he, rfl⟩, h _ he ⟨_, Heap.get?_push_of_some _ (Heap.get?_push_size _ rfl), rfl, rfl⟩ (by rw [Heap.size_push, hz]) fun b o x => Heap.get?_push_of_some _ (Heap.get?_push_of_some _ x)⟩
end PySem
namespace Bs
open PySem L2
inductive Sk where | lst (a : Addr) | tup (a : Addr) | txt (x : Str)
def Sk.is (K : PySem.W.Frag) (H : Hp) : Sk → List V → Prop
  | .lst a, xs => SqL K H a xs
  | .tup a, xs => SqT K H a xs
  | .txt x, xs => xs = x.cps.toList.map fun c => V.str ⟨#[c]⟩
def Sk.at (it : Addr) : Sk → Nat → Heap → Prop
  | .lst a, i, h => h.IsListIter it a i
  | .tup a, i, h => h.IsTupleIter it a i
  | .txt x, i, h => ∃ t, h.IsStrIter it (strIterType x) x t i
def Sk.val : Sk → V → Prop
  | .lst a, v => v = .ref a
  | .tup a, v => v = .ref a
  | .txt x, v => v = .str x
/-- the cell of the iterator of this source -/
def Sk.obj (x : Value) : Sk → Obj
  | .lst a => { cls := .type "list_iterator", data := .fields #[.ref a, .int 0 0] }
  | .tup a => { cls := .type "tuple_iterator", data := .fields #[.ref a, .int 0 0] }
  | .txt z => { cls := .type (strIterType z), data := .fields #[x, .int 0 0] }
theorem Sk.at_obj {it : Addr} {k : Sk} {i : Nat} {h : Heap} (st : k.at it i h) : ∃ o n vs, h.get? it = some o ∧ o.cls = .type n ∧ o.data = .fields vs ∧ n ≠ "enumerate" ∧ n ≠ "zip" := by
  cases k with
  | lst a => obtain ⟨o, e, c, d⟩ := st; exact ⟨o, _, _, e, c, d, by decide, by decide⟩
  | tup a => obtain ⟨o, e, c, d⟩ := st; exact ⟨o, _, _, e, c, d, by decide, by decide⟩
  | txt x =>
    obtain ⟨t, o, e, c, d⟩ := st
    refine ⟨o, _, _, e, c, d, ?_, ?_⟩
    · unfold strIterType; split <;> decide
    · unfold strIterType; split <;> decide
theorem Sk.at_keep {it : Addr} {k : Sk} {i : Nat} {h h' : Heap} (st : k.at it i h) (e : ∀ o, h.get? it = some o → h'.get? it = some o) : k.at it i h' := by
  cases k with
  | lst a => exact Heap.IsListIter.at st e
  | tup a => exact Heap.IsTupleIter.at st e
  | txt x => obtain ⟨t, o, ho, r⟩ := st; exact ⟨t, o, e o ho, r⟩
theorem sqL_known {K : PySem.W.Frag} {H : Hp} {a : Addr} {xs : List V} (h : SqL K H a xs) : H a ≠ none ∨ ∃ o, K.lookup a = some o := by
  rcases h with (h | ⟨o, h⟩) | ⟨o, _, _, h, _⟩
  · exact .inl (by rw [h]; exact fun z => nomatch z)
  · exact .inl (by rw [h]; exact fun z => nomatch z)
  · exact .inr ⟨o, h⟩
theorem sqT_known {K : PySem.W.Frag} {H : Hp} {a : Addr} {xs : List V} (h : SqT K H a xs) : H a ≠ none ∨ ∃ o, K.lookup a = some o := by
  rcases h with (h | ⟨o, h⟩) | ⟨o, _, _, h, _⟩
  · exact .inl (by rw [h]; exact fun z => nomatch z)
  · exact .inl (by rw [h]; exact fun z => nomatch z)
  · exact .inr ⟨o, h⟩
theorem fp_not {X : Cx} {pins pins' : List (Addr × Obj)} {σ : L2.St} {H : Hp} {s : Shared} (I : L2.Inv X pins σ H s) {b : Addr} (f : FpOk X pins' H b) : ¬ (H b ≠ none ∨ ∃ o, X.K.lookup b = some o) := by
  rintro (h | ⟨o, h⟩)
  · exact h f.1
  · have hb : X.base.get? b = some o := I.ok.mod.kin b o h
    rcases f.2.2.2.1 with z | z
    · exact I.ok.noex b o hb z
    · exact absurd (Nat.lt_of_lt_of_le (Heap.lt_size hb) (Nat.le_trans I.ok.bsz z)) (Nat.lt_irrefl _)
section
variable {X : Cx} {pins : List (Addr × Obj)} {σ : L2.St} {H : Hp} {s : Shared}
/-- what the library asks of such an iterator -/
theorem Sk.draws {k : Sk} {xs : List V} {it : Addr} {i : Nat} {A : Around} (I : L2.Inv X pins σ H s) (hh : A.handled = none) (hx : k.is X.K H xs) (st : k.at it i s.heap) :
    ∃ (fp : List Addr) (n : Nat) (P : Nat → Value → Prop) (St : Nat → Heap → Prop), Draws X.prog X.w A it fp n P St ∧ St i s.heap ∧ n = xs.length ∧ it ∈ fp ∧ (∀ b ∈ fp, b = it ∨ H b ≠ none ∨ ∃ o, X.K.lookup b = some o) ∧
       (∀ j v, P j v → ∃ x, xs[j]? = some x ∧ RelV x v) ∧ ∀ j h, St j h → k.at it j h := by
  cases k with
  | lst a =>
    obtain ⟨its, rv, p, hz⟩ := I.list hx
    obtain ⟨o, n, e, hc, hdi, hd⟩ := id p
    have hne : a ≠ it := fun z => by
      obtain ⟨o', e', c', _⟩ := st
      rw [z, e'] at e
      cases e
      rw [c'] at hc
      injection hc with hc
      exact absurd hc (by decide)
    have hl := rv.length
    refine ⟨_, _, _, _, Draws.list hh it a hne its.toArray, ⟨st, p.isList⟩, by rw [List.size_toArray]; exact hl.symm, by simp, fun b hb => ?_, fun j v hv => ?_, fun j h z => z.1⟩
    · have : b = it ∨ b = a := by simpa using hb
      rcases this with z | z
      · exact .inl z
      · rw [z]; exact .inr (sqL_known hx)
    · have hj : j < xs.length := by
        rw [hl]
        exact (List.getElem?_eq_some_iff.mp (show its[j]? = some v by simpa using hv)).1
      obtain ⟨u, hu, ru⟩ := rv.get (List.getElem?_eq_getElem hj)
      have hv' : its[j]? = some v := by simpa using hv
      rw [hu] at hv'
      cases hv'
      exact ⟨_, List.getElem?_eq_getElem hj, ru⟩
  | tup a =>
    obtain ⟨its, rv, p, hz⟩ := I.tuple hx
    obtain ⟨o, e, hc, n, hd⟩ := id p
    have hne : a ≠ it := fun z => by
      obtain ⟨o', e', c', _⟩ := st
      rw [z, e'] at e
      cases e
      rw [c'] at hc
      injection hc with hc
      exact absurd hc (by decide)
    have hl := rv.length
    refine ⟨_, _, _, _, Draws.tuple hh it a hne its.toArray, ⟨st, p⟩, by rw [List.size_toArray]; exact hl.symm, by simp, fun b hb => ?_, fun j v hv => ?_, fun j h z => z.1⟩
    · have : b = it ∨ b = a := by simpa using hb
      rcases this with z | z
      · exact .inl z
      · rw [z]; exact .inr (sqT_known hx)
    · have hj : j < xs.length := by
        rw [hl]
        exact (List.getElem?_eq_some_iff.mp (show its[j]? = some v by simpa using hv)).1
      obtain ⟨u, hu, ru⟩ := rv.get (List.getElem?_eq_getElem hj)
      have hv' : its[j]? = some v := by simpa using hv
      rw [hu] at hv'
      cases hv'
      exact ⟨_, List.getElem?_eq_getElem hj, ru⟩
  | txt x =>
    obtain ⟨t, st⟩ := st
    have hx' : xs = x.cps.toList.map fun c => V.str ⟨#[c]⟩ := hx
    refine ⟨_, _, _, _, Draws.text hh it x t, st, by rw [hx', List.length_map]; simp, by simp, fun b hb => .inl (by simpa using hb), fun j v hv => ?_, fun j h z => ⟨t, z⟩⟩
    · obtain ⟨c, u, hc, rfl⟩ := hv
      refine ⟨.str ⟨#[c]⟩, ?_, u, rfl⟩
      rw [hx', List.getElem?_map]
      have : x.cps.toList[j]? = some c := by simpa using hc
      rw [this]
      rfl
end
def IteG (K : PySem.W.Frag) (k : Sk) : It :=
  ⟨fun i H => ∃ (xs : List V) (x : V), k.is K H xs ∧ xs[i]? = some x, fun i H v H' => ∃ T x, v = .ref T ∧ H T = none ∧ H' = upd H T (.tup [.int (i : Nat), x]) ∧ ∀ xs, k.is K H xs → xs[i]? = some x, fun i H => ∃ xs : List V, k.is K H xs ∧ xs.length = i⟩
theorem Sk.inj {X : Cx} {pins : List (Addr × Obj)} {σ : L2.St} {H : Hp} {s : Shared} (I : L2.Inv X pins σ H s) {k : Sk} {xs ys : List V} (h : k.is X.K H xs) (h' : k.is X.K H ys) : xs = ys := by
  cases k with
  | lst a => exact I.list_inj h h'
  | tup a => exact I.tuple_inj h h'
  | txt x => exact (show xs = _ from h).trans (show ys = _ from h').symm
theorem turn_enumG {P : Program} {w : World} {K : PySem.W.Frag} {elts : List Expr} {kk : Nat} {tpos : Pos} (k : Sk) (e it : Addr) :
    Turn P w K (.Tuple elts kk tpos) (IteG K k) [e, it] e (fun i h => (∃ old, IsEnum h e it ((i : Nat) : Int) old) ∧ k.at it i h ∧ e ≠ it) where
  mem := by simp
  obj := fun i h st b hb => by
    obtain ⟨⟨old, he⟩, hi, _⟩ := st
    obtain ⟨o, n, vs, ho, _, hd, _⟩ := Sk.at_obj hi
    have e' : b = e ∨ b = it := by simpa using hb
    rcases e' with z | z
    · rw [z]; exact ⟨_, he, fun v q => nomatch q⟩
    · rw [z]; exact ⟨o, ho, fun v q => by rw [hd] at q; cases q⟩
  keep := fun i h h' st kp => let ⟨⟨old, he⟩, hi, hne⟩ := st; ⟨⟨old, kp e (by simp) _ he⟩, Sk.at_keep hi fun o q => kp it (by simp) o q, hne⟩
  item := by
    intro X hP hw hK hc i pins s σ H E I hf st hg
    subst hP hw hK
    obtain ⟨⟨old, he⟩, hit, hne⟩ := st
    obtain ⟨xs, x, hq, hx⟩ := hg
    obtain ⟨fp, n, Pr, St, D, st0, hn, hif, hfp, hP, hat⟩ := Sk.draws (A := X.A.in1) I (I.ok.hd hc) hq hit
    have hef : e ∉ fp := fun z => by
      rcases hfp e z with q | q
      · exact hne q
      · exact fp_not I (hf e (by simp)) q
    have hin : i < n := by rw [hn]; exact (List.getElem?_eq_some_iff.mp hx).1
    have W := GoesN.enumFrom (prog := X.prog) (w := X.w) (A := X.A) (elts := elts) (x1 := kk) (pos := tpos) 0 D e hne hef hif
    refine W.goes i s _ E hin ⟨⟨old, by rw [Int.zero_add]; exact he⟩, st0⟩ fun v h' tk hY st' hk _ => ?_
    obtain ⟨T, t, u, rfl, hT, hu, hTup⟩ := hY
    obtain ⟨x', hx', ru⟩ := hP i u hu
    rw [hx] at hx'
    cases hx'
    rw [Int.zero_add] at hTup
    have new : ObjOk X.prog X.w (upd H T (.tup [.int (i : Nat), x])) h' T (.tup [.int (i : Nat), x]) :=
      ⟨by show 2 ≤ sizeLine; decide, [.int i t, u], .cons ⟨_, rfl⟩ (.cons ru .nil), hTup⟩
    refine ⟨.ref T, _, I.turnedNew (ch := [e, it]) (fun b ob hb q => hk b ob hb q) hf hT new, rfl, ⟨T, x, rfl, I.hok.fresh hT, rfl, fun ys hy => by rw [Sk.inj I hy hq]; exact hx⟩, ⟨?_, hat _ _ st'.2, hne⟩, fun b hb => ?_⟩
    · obtain ⟨old', he'⟩ := st'.1
      refine ⟨old', ?_⟩
      have e1 : (0 : Int) + ((i + 1 : Nat) : Int) = ((i + 1 : Nat) : Int) := Int.zero_add _
      rw [← e1]
      exact he'
    · have hb' : b < s.heap.objs.size := by
        have e' : b = e ∨ b = it := by simpa using hb
        rcases e' with z | z
        · rw [z]; exact Heap.lt_size he
        · rw [z]
          obtain ⟨o, _, _, ho, _⟩ := Sk.at_obj hit
          exact Heap.lt_size ho
      rw [upd_ne (Nat.ne_of_lt (Nat.lt_of_lt_of_le hb' hT))]
      exact (hf b hb).1
  done := by
    intro X hP hw hK hc i pins s σ H E I hf st hg
    subst hP hw hK
    obtain ⟨⟨old, he⟩, hit, hne⟩ := st
    obtain ⟨xs, hq, hx⟩ := hg
    obtain ⟨fp, n, Pr, St, D, st0, hn, hif, hfp, hP, hat⟩ := Sk.draws (A := X.A.in1) I (I.ok.hd hc) hq hit
    have hef : e ∉ fp := fun z => by
      rcases hfp e z with q | q
      · exact hne q
      · exact fp_not I (hf e (by simp)) q
    have W := GoesN.enumFrom (prog := X.prog) (w := X.w) (A := X.A) (elts := elts) (x1 := kk) (pos := tpos) 0 D e hne hef hif
    have hin : i = n := by rw [hn]; exact hx.symm
    subst hin
    exact W.stops s _ E ⟨⟨old, by rw [Int.zero_add]; exact he⟩, st0⟩ fun h' tk hk _ => I.turnedL (ch := [e, it]) (fun b o hb q => hk b o hb q) hf
  self := fun A i s Q E st h => let ⟨⟨_, he⟩, _⟩ := st; wpAny_pyIter_enum he h
/-- the value of a source, its iterator -/
theorem Sk.begins {X : Cx} {pins : List (Addr × Obj)} {σ : L2.St} {H : Hp} {s : Shared} (I : L2.Inv X pins σ H s) {k : Sk} {xs : List V} {v : V} {u : Value} (hx : k.is X.K H xs) (hv : k.val v) (r : RelV v u) :
    ∃ (G : Heap → Prop), Begins u (k.obj u) G ∧ G s.heap ∧ ∀ it h, h.get? it = some (k.obj u) → k.at it 0 h := by
  cases k with
  | lst a =>
    obtain ⟨its, rv, p, hz⟩ := I.list hx
    subst hv
    cases r
    exact ⟨_, begins_list a its.toArray, p.isList, fun it h e => ⟨_, e, rfl, rfl⟩⟩
  | tup a =>
    obtain ⟨its, rv, p, hz⟩ := I.tuple hx
    subst hv
    cases r
    exact ⟨_, begins_tuple a its.toArray, p, fun it h e => ⟨_, e, rfl, rfl⟩⟩
  | txt x =>
    subst hv
    obtain ⟨t, rfl⟩ := r
    exact ⟨_, begins_text x t, trivial, fun it h e => ⟨t, _, e, rfl, rfl⟩⟩
/-! ### the walks' rules -/
def ItS (K : PySem.W.Frag) : Sk → It
  | .lst a => Itl K a
  | .tup a => Itt K a
  | .txt x => Its x
section
variable {X : Cx}
def iSrc (K : PySem.W.Frag) (te : TE) : TI := fun σ H R => te σ H fun v H1 => ∃ k xs, Sk.val k v ∧ Sk.is K H1 k xs ∧ R (ItS K k) H1
theorem pi_src {tg e : Expr} {te : TE} (he : PE X e te) : PI X tg e (iSrc X.K te) := by
  refine ⟨fun pins s σ H R I h => ?_⟩
  refine thn (he.run pins s σ H _ I h) fun v s1 ⟨y, H1, I1, r1, k, xs, hv, hx, q⟩ => ?_
  cases k with
  | lst a =>
    subst hv
    cases r1
    obtain ⟨its, rv, p, hz⟩ := I1.list hx
    exact wpAny_pyIter_list p.isList (pi_one (tk := s1.toks) I1 _ (turn_list a _) ⟨_, Heap.get?_push_size _ rfl, rfl, rfl⟩ q)
  | tup a =>
    subst hv
    cases r1
    obtain ⟨its, rv, p, hz⟩ := I1.tuple hx
    exact wpAny_pyIter_tuple (show s1.heap.IsTuple a its.toArray from p) (pi_one (tk := s1.toks) I1 _ (turn_tuple a _) ⟨_, Heap.get?_push_size _ rfl, rfl, rfl⟩ q)
  | txt x =>
    subst hv
    obtain ⟨t, rfl⟩ := r1
    cases ha : x.cps.all (· < 128)
    · exact wpAny_pyIter_wide ha (pi_one (tk := s1.toks) I1 _ (turn_str _ x t "str_iterator" (.inr rfl)) ⟨_, Heap.get?_push_size _ rfl, rfl, rfl⟩ q)
    · exact wpAny_pyIter_ascii ha (pi_one (tk := s1.toks) I1 _ (turn_str _ x t "str_ascii_iterator" (.inl rfl)) ⟨_, Heap.get?_push_size _ rfl, rfl, rfl⟩ q)
def iEnumG (K : PySem.W.Frag) (te : TE) : TI := fun σ H R => te σ H fun v H1 => ∃ k xs, Sk.val k v ∧ Sk.is K H1 k xs ∧ R (IteG K k) H1
theorem pi_enumG {e : Expr} {te : TE} {p pos tpos : Pos} {elts : List Expr} {kk : Nat} (hg : Gl X "enumerate") (hm : X.mg "enumerate" = none) (he : PE X e te) (hs : starEach [e] X.env = [(false, eval e X.env)]) :
    PI X (.Tuple elts kk tpos) (.Call (.Name "enumerate" p) [e] [] pos) (iEnumG X.K te) := by
  refine ⟨fun pins s σ H R I h => ?_⟩
  have ha : PA X [e] (tCons te tNil) := pa_cons he pa_nil hs
  refine PyProof.Rows.Call_ (ld_blt I hg hm PyProof.Rows.boot_enumerate (PyProof.Rows.callWith_type1 (thn (ha.run pos pins s σ H (fun vs H1 => ∃ v, vs = [v] ∧ ∃ k xs, Sk.val k v ∧ Sk.is X.K H1 k xs ∧ R (IteG X.K k) H1) I ?_) fun us s1 ⟨vs, H1, I1, r1, q1⟩ => ?_) hs rfl))
  · show te σ H fun x H1 => ∃ v, [x] = [v] ∧ ∃ k xs, Sk.val k v ∧ Sk.is X.K H1 k xs ∧ R (IteG X.K k) H1
    have e : (fun x H1 => ∃ v, [x] = [v] ∧ ∃ k xs, Sk.val k v ∧ Sk.is X.K H1 k xs ∧ R (IteG X.K k) H1) = fun (v : V) (H1 : Hp) => ∃ k xs, Sk.val k v ∧ Sk.is X.K H1 k xs ∧ R (IteG X.K k) H1 := by
      funext x H1
      exact propext ⟨fun ⟨v, e, z⟩ => by cases e; exact z, fun z => ⟨x, rfl, z⟩⟩
    rw [e]
    exact h
  · obtain ⟨v, rfl, k, xs, hv, hx, q⟩ := q1
    obtain ⟨u, rfl, r⟩ := vals1 r1
    have fin : ∀ h', IsEnum h' (s1.heap.objs.size + 1) s1.heap.objs.size 0 .none → k.at s1.heap.objs.size 0 h' → (∀ b o, s1.heap.get? b = some o → h'.get? b = some o) →
        PIE X pins σ (.Tuple elts kk tpos) R (.ref (s1.heap.objs.size + 1)) { s1 with heap := h' } := fun h' he hit hk => by
      have I2 : L2.Inv X pins σ H1 { s1 with heap := h' } := I1.kept (t' := s1.toks) hk
      refine ⟨s1.heap.objs.size + 1, [s1.heap.objs.size + 1, s1.heap.objs.size], _, _, H1, rfl, I2, turn_enumG k (s1.heap.objs.size + 1) s1.heap.objs.size, ⟨⟨.none, he⟩, hit, Nat.succ_ne_self _⟩, fun b hb => ?_, q⟩
      have e' : b = s1.heap.objs.size + 1 ∨ b = s1.heap.objs.size := by simpa using hb
      have hle : s1.heap.objs.size ≤ b := by
        rcases e' with z | z
        · rw [z]; exact Nat.le_add_right _ _
        · rw [z]; exact Nat.le_refl _
      exact I1.fpOk hle (I1.hok.fresh hle)
    cases k with
    | lst a =>
      subst hv
      cases r
      obtain ⟨its, rv, p', hz⟩ := I1.list hx
      exact call_enumerate_list p'.isList fun h' he hit hsz hk => wpAny_pyIter_enum he (fin h' he hit hk)
    | tup a =>
      subst hv
      cases r
      obtain ⟨its, rv, p', hz⟩ := I1.tuple hx
      exact bs_enum_tuple p' fun h' he hit hsz hk => wpAny_pyIter_enum he (fin h' he hit hk)
    | txt x =>
      subst hv
      obtain ⟨t, rfl⟩ := r
      exact call_enumerate_str fun h' he hit hsz hk => wpAny_pyIter_enum he (fin h' he ⟨t, hit⟩ hk)
end
/-! ### zip -/
def ItzG (K : PySem.W.Frag) (k1 k2 : Sk) : It :=
  ⟨fun i H => ∃ (xs ys : List V), k1.is K H xs ∧ k2.is K H ys ∧ i < min xs.length ys.length, fun i H v H' => ∃ T x y, v = .ref T ∧ H T = none ∧ H' = upd H T (.tup [x, y]) ∧ (∀ xs, k1.is K H xs → xs[i]? = some x) ∧ ∀ ys, k2.is K H ys → ys[i]? = some y,
    fun i H => ∃ xs ys : List V, k1.is K H xs ∧ k2.is K H ys ∧ i = min xs.length ys.length⟩
/-- the cells of a zip stand apart -/
structure ZA (z TI TO i1 i2 : Addr) : Prop where
  h1 : z ≠ TI
  h2 : z ≠ TO
  h3 : z ≠ i1
  h4 : z ≠ i2
  h5 : TI ≠ TO
  h6 : TI ≠ i1
  h7 : TI ≠ i2
  h8 : TO ≠ i1
  h9 : TO ≠ i2
  h10 : i1 ≠ i2
theorem zip_sub {b z TI TO i1 i2 : Addr} (h : b ∈ [z, TO, i1, i2]) : b ∈ [z, TI, TO, i1, i2] := by
  have : b = z ∨ b = TO ∨ b = i1 ∨ b = i2 := by simpa using h
  rcases this with e | e | e | e <;> rw [e] <;> simp
theorem turn_zipG {P : Program} {w : World} {K : PySem.W.Frag} {elts : List Expr} {kk : Nat} {tpos : Pos} (k1 k2 : Sk) {z TI TO i1 i2 : Addr} (D : ZA z TI TO i1 i2) :
    Turn P w K (.Tuple elts kk tpos) (ItzG K k1 k2) [z, TI, TO, i1, i2] z (fun i h => IsZip h z TI TO .none ∧ IsTupOf2 h TI (.ref i1) (.ref i2) ∧ (∃ x y, IsTupOf2 h TO x y) ∧ k1.at i1 i h ∧ k2.at i2 i h) where
  mem := by simp
  obj := fun i h st c hc => by
    obtain ⟨hz, hTI, ⟨x, y, hTO⟩, h1, h2⟩ := st
    obtain ⟨o1, _, _, e1, _, d1, _⟩ := Sk.at_obj h1
    obtain ⟨o2, _, _, e2, _, d2, _⟩ := Sk.at_obj h2
    have e' : c = z ∨ c = TI ∨ c = TO ∨ c = i1 ∨ c = i2 := by simpa using hc
    rcases e' with q | q | q | q | q
    · rw [q]; exact ⟨_, hz, fun v q => nomatch q⟩
    · rw [q]; exact ⟨_, hTI, fun v q => nomatch q⟩
    · rw [q]; exact ⟨_, hTO, fun v q => nomatch q⟩
    · rw [q]; exact ⟨o1, e1, fun v q => by rw [d1] at q; cases q⟩
    · rw [q]; exact ⟨o2, e2, fun v q => by rw [d2] at q; cases q⟩
  keep := fun i h h' st k => by
    obtain ⟨hz, hTI, ⟨x, y, hTO⟩, h1, h2⟩ := st
    exact ⟨k z (by simp) _ hz, k TI (by simp) _ hTI, ⟨x, y, k TO (by simp) _ hTO⟩, Sk.at_keep h1 fun o q => k i1 (by simp) o q, Sk.at_keep h2 fun o q => k i2 (by simp) o q⟩
  item := by
    intro X hP hw hK hc i pins s σ H E I hf st hg
    subst hP hw hK
    obtain ⟨hz, hTI, ⟨x0, y0, hTO⟩, h1, h2⟩ := st
    obtain ⟨xs, ys, hq1, hq2, hlt⟩ := hg
    obtain ⟨fp1, n1, P1, St1, D1, st1, hn1, hif1, hfp1, hP1, hat1⟩ := Sk.draws (A := X.A.in1) I (I.ok.hd hc) hq1 h1
    obtain ⟨fp2, n2, P2, St2, D2, st2, hn2, hif2, hfp2, hP2, hat2⟩ := Sk.draws (A := X.A.in1) I (I.ok.hd hc) hq2 h2
    have no1 : ∀ b ∈ [z, TI, TO, i1, i2], b ≠ i1 → b ∉ fp1 := fun b hb hne hm => (hfp1 b hm).elim hne fun q => fp_not I (hf b hb) q
    have no2 : ∀ b ∈ [z, TI, TO, i1, i2], b ≠ i2 → b ∉ fp2 := fun b hb hne hm => (hfp2 b hm).elim hne fun q => fp_not I (hf b hb) q
    have SP : ZipSep2 z TI TO i1 i2 fp1 fp2 := ⟨D.h1.symm, D.h2.symm, D.h5, D.h6, hif1, no1 z (by simp) D.h3, no1 TO (by simp) D.h8, D.h7, hif2, no2 z (by simp) D.h4, no2 TO (by simp) D.h9, no2 i1 (by simp) D.h10, no1 i2 (by simp) D.h10.symm⟩
    have W := GoesN.zip2 (prog := X.prog) (w := X.w) (A := X.A) (elts := elts) (x1 := kk) (pos := tpos) SP D1 D2
    refine W.goes i s _ E (by rw [hn1, hn2]; exact hlt) ⟨hz, hTI, ⟨x0, y0, hTO⟩, st1, st2⟩ fun v h' tk hY st' hk _ => ?_
    obtain ⟨T, u, u2, rfl, hT, hu, hu2, hTup⟩ := hY
    obtain ⟨x, hx, ru⟩ := hP1 i u hu
    obtain ⟨y, hy, ru2⟩ := hP2 i u2 hu2
    have new : ObjOk X.prog X.w (upd H T (.tup [x, y])) h' T (.tup [x, y]) := ⟨by show 2 ≤ sizeLine; decide, [u, u2], .cons ru (.cons ru2 .nil), hTup⟩
    refine ⟨.ref T, _, I.turnedNew (ch := [z, TI, TO, i1, i2]) (fun b ob hb q => hk b ob (fun q' => hb (zip_sub q')) q) hf hT new, rfl,
      ⟨T, x, y, rfl, I.hok.fresh hT, rfl, fun l hl => by rw [Sk.inj I hl hq1]; exact hx, fun l hl => by rw [Sk.inj I hl hq2]; exact hy⟩, ⟨st'.1, st'.2.1, st'.2.2.1, hat1 _ _ st'.2.2.2.1, hat2 _ _ st'.2.2.2.2⟩, fun b hb => ?_⟩
    have hb' : b < s.heap.objs.size := by
      have e' : b = z ∨ b = TI ∨ b = TO ∨ b = i1 ∨ b = i2 := by simpa using hb
      rcases e' with q | q | q | q | q
      · rw [q]; exact Heap.lt_size hz
      · rw [q]; exact Heap.lt_size hTI
      · rw [q]; exact Heap.lt_size hTO
      · rw [q]; obtain ⟨o, _, _, e1, _⟩ := Sk.at_obj h1; exact Heap.lt_size e1
      · rw [q]; obtain ⟨o, _, _, e1, _⟩ := Sk.at_obj h2; exact Heap.lt_size e1
    rw [upd_ne (Nat.ne_of_lt (Nat.lt_of_lt_of_le hb' hT))]
    exact (hf b hb).1
  done := by
    intro X hP hw hK hc i pins s σ H E I hf st hg
    subst hP hw hK
    obtain ⟨hz, hTI, ⟨x0, y0, hTO⟩, h1, h2⟩ := st
    obtain ⟨xs, ys, hq1, hq2, hlt⟩ := hg
    obtain ⟨fp1, n1, P1, St1, D1, st1, hn1, hif1, hfp1, hP1, hat1⟩ := Sk.draws (A := X.A.in1) I (I.ok.hd hc) hq1 h1
    obtain ⟨fp2, n2, P2, St2, D2, st2, hn2, hif2, hfp2, hP2, hat2⟩ := Sk.draws (A := X.A.in1) I (I.ok.hd hc) hq2 h2
    have no1 : ∀ b ∈ [z, TI, TO, i1, i2], b ≠ i1 → b ∉ fp1 := fun b hb hne hm => (hfp1 b hm).elim hne fun q => fp_not I (hf b hb) q
    have no2 : ∀ b ∈ [z, TI, TO, i1, i2], b ≠ i2 → b ∉ fp2 := fun b hb hne hm => (hfp2 b hm).elim hne fun q => fp_not I (hf b hb) q
    have SP : ZipSep2 z TI TO i1 i2 fp1 fp2 := ⟨D.h1.symm, D.h2.symm, D.h5, D.h6, hif1, no1 z (by simp) D.h3, no1 TO (by simp) D.h8, D.h7, hif2, no2 z (by simp) D.h4, no2 TO (by simp) D.h9, no2 i1 (by simp) D.h10, no1 i2 (by simp) D.h10.symm⟩
    have W := GoesN.zip2 (prog := X.prog) (w := X.w) (A := X.A) (elts := elts) (x1 := kk) (pos := tpos) SP D1 D2
    have hin : i = min n1 n2 := by rw [hn1, hn2]; exact hlt
    subst hin
    refine W.stops s _ E ⟨hz, hTI, ⟨x0, y0, hTO⟩, st1, st2⟩ fun h' tk hk _ => I.turnedL (ch := [z, TI, TO, i1, i2]) (fun b o hb q => hk b o (fun q' => hb (zip_sub q')) q) hf
  self := fun A i s Q E st h => wpAny_pyIter_zip st.1 h

section
variable {X : Cx}
def iZipG (K : PySem.W.Frag) (ta tb : TE) : TI := fun σ H R => ta σ H fun v H1 => tb σ H1 fun w H2 => ∃ k1 k2 xs ys, Sk.val k1 v ∧ Sk.val k2 w ∧ Sk.is K H2 k1 xs ∧ Sk.is K H2 k2 ys ∧ R (ItzG K k1 k2) H2
theorem za_ne (n : Nat) : n + 4 ≠ n + 2 ∧ n + 4 ≠ n + 3 ∧ n + 4 ≠ n ∧ n + 4 ≠ n + 1 ∧ n + 2 ≠ n + 3 ∧ n + 2 ≠ n ∧ n + 2 ≠ n + 1 ∧ n + 3 ≠ n ∧ n + 3 ≠ n + 1 ∧ n ≠ n + 1 := by omega
theorem za_new (n : Nat) : ZA (n + 4) (n + 2) (n + 3) n (n + 1) := let ⟨a, b, c, d, e, f, g, h, i, j⟩ := za_ne n; ⟨a, b, c, d, e, f, g, h, i, j⟩
theorem pi_zipG {e e2 : Expr} {ta tb : TE} {p pos tpos : Pos} {elts : List Expr} {kk : Nat} (hg : Gl X "zip") (hm : X.mg "zip" = none) (he : PE X e ta) (he2 : PE X e2 tb)
    (hs : starEach [e, e2] X.env = (false, eval e X.env) :: starEach [e2] X.env) (hs2 : starEach [e2] X.env = (false, eval e2 X.env) :: starEach [] X.env) (hpl : (backTo pos (starEach [e2] X.env)).any (·.1) = false) :
    PI X (.Tuple elts kk tpos) (.Call (.Name "zip" p) [e, e2] [] pos) (iZipG X.K ta tb) := by
  refine ⟨fun pins s σ H R I h => ?_⟩
  have ha : PA X [e, e2] (fun σ H Q => ta σ H fun v H1 => tb σ H1 fun w H2 => Q [v, w] H2) := pa_cons he (pa_cons he2 pa_nil hs2) hs
  refine PyProof.Rows.Call_ (ld_blt I hg hm PyProof.Rows.boot_zip (PyProof.Rows.callWith_type1 (thn (ha.run pos pins s σ H (fun vs H2 => ∃ v w, vs = [v, w] ∧ ∃ k1 k2 xs ys, Sk.val k1 v ∧ Sk.val k2 w ∧ Sk.is X.K H2 k1 xs ∧ Sk.is X.K H2 k2 ys ∧ R (ItzG X.K k1 k2) H2) I ?_) fun us s1 ⟨vs, H1, I1, r1, q1⟩ => ?_) hs hpl))
  · have e : (fun (v : V) (H1 : Hp) => tb σ H1 fun w H2 => ∃ v' w', [v, w] = [v', w'] ∧ ∃ k1 k2 xs ys, Sk.val k1 v' ∧ Sk.val k2 w' ∧ Sk.is X.K H2 k1 xs ∧ Sk.is X.K H2 k2 ys ∧ R (ItzG X.K k1 k2) H2) = fun v H1 => tb σ H1 fun w H2 => ∃ k1 k2 xs ys, Sk.val k1 v ∧ Sk.val k2 w ∧ Sk.is X.K H2 k1 xs ∧ Sk.is X.K H2 k2 ys ∧ R (ItzG X.K k1 k2) H2 := by
      funext v H1
      congr 1
      funext w H2
      exact propext ⟨fun ⟨v', w', e, z⟩ => by cases e; exact z, fun z => ⟨v, w, rfl, z⟩⟩
    show ta σ H (fun (v : V) (H1 : Hp) => tb σ H1 fun w H2 => ∃ v' w', [v, w] = [v', w'] ∧ ∃ k1 k2 xs ys, Sk.val k1 v' ∧ Sk.val k2 w' ∧ Sk.is X.K H2 k1 xs ∧ Sk.is X.K H2 k2 ys ∧ R (ItzG X.K k1 k2) H2)
    rw [e]
    exact h
  · obtain ⟨v, w, rfl, k1, k2, xs, ys, hv, hw, hx, hy, q⟩ := q1
    obtain ⟨u, u2, rfl, r, r2⟩ := vals2 r1
    obtain ⟨G1, B1, g1, a1⟩ := Sk.begins I1 hx hv r
    obtain ⟨G2, B2, g2, a2⟩ := Sk.begins I1 hy hw r2
    refine zip_begins2 B1 B2 g1 g2 fun h' hz hTI hTO h1 h2 hsz hk => wpAny_pyIter_zip hz ?_
    have I2 : L2.Inv X pins σ H1 { s1 with heap := h' } := I1.kept (t' := s1.toks) hk
    refine ⟨s1.heap.objs.size + 4, [s1.heap.objs.size + 4, s1.heap.objs.size + 2, s1.heap.objs.size + 3, s1.heap.objs.size, s1.heap.objs.size + 1], _, _, H1, rfl, I2, turn_zipG k1 k2 (za_new s1.heap.objs.size), ⟨hz, hTI, ⟨_, _, hTO⟩, a1 _ _ h1, a2 _ _ h2⟩, fun c hcm => ?_, q⟩
    have e' : c = s1.heap.objs.size + 4 ∨ c = s1.heap.objs.size + 2 ∨ c = s1.heap.objs.size + 3 ∨ c = s1.heap.objs.size ∨ c = s1.heap.objs.size + 1 := by simpa using hcm
    have hle : s1.heap.objs.size ≤ c := by
      rcases e' with z | z | z | z | z
      · rw [z]; exact Nat.le_add_right _ _
      · rw [z]; exact Nat.le_add_right _ _
      · rw [z]; exact Nat.le_add_right _ _
      · rw [z]; exact Nat.le_refl _
      · rw [z]; exact Nat.le_add_right _ _
    exact I1.fpOk hle (I1.hok.fresh hle)
/-! ### the walks -/
theorem walkS {K : PySem.W.Frag} {k : Sk} {xs : List V} : Walk (ItS K k) xs.length (fun H => Sk.is K H k xs) (YAt xs) := by
  cases k with
  | lst a => exact walk_list
  | tup a => exact walk_tup
  | txt x =>
    refine ⟨fun i H hi q => ?_, fun H q => ?_, fun i H v H' hi q y => ?_⟩
    · have q' : xs = x.cps.toList.map fun c => V.str ⟨#[c]⟩ := q
      show i < x.cps.size
      rw [q', List.length_map] at hi
      simpa using hi
    · have q' : xs = x.cps.toList.map fun c => V.str ⟨#[c]⟩ := q
      show x.cps.size ≤ xs.length
      rw [q', List.length_map]
      simp
    · have q' : xs = x.cps.toList.map fun c => V.str ⟨#[c]⟩ := q
      obtain ⟨h1, c, h2, h3⟩ := y
      refine ⟨h1, ?_⟩
      rw [q', List.getElem?_map, h3]
      have : x.cps.toList[i]? = some c := by simpa using h2
      rw [this]
      rfl
theorem walkE {K : PySem.W.Frag} {k : Sk} {xs : List V} : Walk (IteG K k) xs.length (fun H => Sk.is K H k xs) (YPair (fun i => some (.int (i : Nat))) (fun i => xs[i]?)) := by
  refine ⟨fun i _ hi q => ⟨xs, xs[i], q, by simp [hi]⟩, fun _ q => ⟨xs, q, rfl⟩, fun i H v H' _ q y => ?_⟩
  obtain ⟨T, x, h1, h2, h3, h4⟩ := y
  exact ⟨T, .int (i : Nat), x, h1, h2, h3, rfl, h4 xs q⟩
theorem walkZ {K : PySem.W.Frag} {k1 k2 : Sk} {xs ys : List V} : Walk (ItzG K k1 k2) (min xs.length ys.length) (fun H => Sk.is K H k1 xs ∧ Sk.is K H k2 ys) (YPair (fun i => xs[i]?) (fun i => ys[i]?)) := by
  refine ⟨fun i _ hi q => ⟨xs, ys, q.1, q.2, hi⟩, fun _ q => ⟨xs, ys, q.1, q.2, rfl⟩, fun i H v H' _ q y => ?_⟩
  obtain ⟨T, x, y, h1, h2, h3, h4, h5⟩ := y
  exact ⟨T, x, y, h1, h2, h3, h4 xs q.1, h5 ys q.2⟩
end
end Bs
/-! Bs: the rules of expressions, one for each form. -/
namespace Bs
open PySem L2
section
variable {c : Ct} {S S' S2 : Sa} {γ : Ga} {μ μ' : Sto} {σ : L2.St} {H H' : Hp} {Q : VK}
theorem Good.shrink (g : Good c S γ μ σ H) (sub : ∀ a, S2 a → S a) (s0 : ∀ a, c.S0 a → S2 a) (dm : ∀ a, μ a ≠ none → S2 a) (own : ∀ (i : Nat) o q, γ[i]? = some (.own o) → σ[i]? = some (some (V.ref q)) → S2 q) : Good c S2 γ μ σ H := by
  have k : Kp S S2 H H := ⟨fun _ _ h _ => h, fun a h => .inl (sub a h)⟩
  refine ⟨g.len, fun i s e => ?_, g.ap, ⟨fun p o e => ⟨dm p (by rw [e]; exact fun z => nomatch z), (g.st.st p o e).2.kp k rfl⟩, fun a h => g.st.sd a (sub a h)⟩, s0, g.ext, g.fr, g.md, g.kt.trans ⟨k, fun _ h => h⟩⟩
  have h := g.sl i s e
  cases s with
  | un => trivial
  | val d => obtain ⟨v, e1, r⟩ := h; exact ⟨v, e1, r.kp k⟩
  | own o => obtain ⟨p, e1, sp, h0, m, r⟩ := h; exact ⟨p, e1, own i o p e e1, h0, m, r.kp k rfl⟩
variable (c)
/-- a list that is new and not frozen -/
def AftF (S : Sa) (μ : Sto) (H : Hp) (γ : Ga) (σ : L2.St) (Q : VK) : D → Sto → Prop := fun d μ' => ∀ S' p vs H' xs, d = .lst xs → Good c S' γ μ' σ H' → Step S μ H S' μ' H' → H p = none → S' p → μ' p = none → H' p = some (.lst vs) → Rels c.K S' H' xs vs → Q (.ref p) H'
def TFn (r : Ga → Sto → R D) : TE := fun σ H Q => ∃ S γ μ, Good c S γ μ σ H ∧ (r γ μ).All (AftF c S μ H γ σ Q) c.V
variable {c}
theorem aftF_of {d : D} (g0 : Good c S γ μ σ H) (h : Aft c true S μ H γ σ Q d μ') : AftF c S μ H γ σ Q d μ' := by
  rintro S' p vs H' xs rfl g s hp sp mp hp' r
  have np : ¬ S p := fun z => g0.st.sd p z hp
  have kk : Kp S' (fun a => S' a ∧ a ≠ p) H' H' := ⟨fun _ _ h _ => h, fun a z => .inl z.1⟩
  refine h (fun a => S' a ∧ a ≠ p) (.ref p) H' (g.shrink (fun a z => z.1) (fun a z => ⟨g.s0 a z, fun e => np (e ▸ g0.s0 a z)⟩) (fun a z => ⟨g.st.dm a z, fun e => z (e ▸ mp)⟩) fun i o q e1 e2 => ?_) ⟨s.keep, s.there, fun a z => s.sub a z.1, fun a z => ⟨s.sup a z, fun e => np (e ▸ z)⟩, s.dom, s.dsub⟩ ⟨p, vs, rfl, .inl ⟨.inl hp', fun z => z.2 rfl⟩, r.kp kk⟩
  obtain ⟨q', e3, sq, _, _, rq⟩ := g0.sl i _ e1
  rw [e2] at e3; cases e3
  exact ⟨s.sup q sq, fun e => rq.there (by rw [e]; exact hp)⟩
theorem TFn_of {r : Ga → Sto → R D} (h : TEn c true r σ H Q) : TFn c r σ H Q := by
  obtain ⟨S, γ, μ, g, a⟩ := h
  exact ⟨S, γ, μ, g, a.mono (fun d μ' q => aftF_of g q) fun _ _ _ w => w⟩
theorem PE.fresh {X : Cx} {e : Expr} {r : Ga → Sto → R D} (h : PE X e (TFn c r)) : PE X e (TEn c true r) := h.imp fun _ _ _ w => TFn_of w
/-- a new list that stays open -/
theorem fin_new {ds : List D} {vs : List V} (g : Good c S γ μ σ H) (h : AftF c S μ H γ σ Q (.lst ds) μ) (r : Rels c.K S H ds vs) (p : Addr) (hp : H p = none) : Q (.ref p) (upd H p (.lst vs)) := by
  obtain ⟨s, ok⟩ := step_new (c := c) (o := HO.lst vs) g.st hp
  have np : ¬ S p := ok_notS g.st hp
  have mp : μ p = none := by
    cases e : μ p with
    | none => rfl
    | some o => exact absurd (g.st.st p o e).1 np
  have s2 : Step S μ H (fun a => S a ∨ a = p) μ (upd H p (.lst vs)) := ⟨s.keep, s.there, fun a z => z.elim .inl fun e => .inr (e ▸ hp), fun a z => .inl z, s.dom, s.dsub⟩
  have k2 := s2.kp g.st.dm
  refine h (fun a => S a ∨ a = p) p vs _ ds rfl (g.step s2 ⟨fun q o e => ⟨.inl (g.st.st q o e).1, (g.st.st q o e).2.kp k2 ?_⟩, fun a z => ?_⟩) s2 hp (.inr rfl) mp upd_same (r.kp k2)
  · rw [upd_ne (fun e2 => by rw [e2] at e; rw [mp] at e; cases e)]
  · rcases z with z | z
    · exact s.there a (g.st.sd a z)
    · rw [z, upd_same]; exact fun z => nomatch z
/-- where it was fresh behind a step -/
theorem AftF.step {r : R D} {W : Xc → Ga → Sto → Prop} (h : r.All (AftF c S μ H γ σ Q) W) (s : Step S μ H S' μ' H') : r.All (AftF c S' μ' H' γ σ Q) W :=
  h.mono (fun _ _ q S2 p vs H2 xs e g t hp => q S2 p vs H2 xs e g (s.trans t) (none_back s.there hp)) fun _ _ _ w => w
end

/-! ### truth -/
theorem tru_of {K : PySem.W.Frag} {T S : Sa} {H : Hp} {d : D} {v : V} {b : Bool} (h : RelW K T S H d v) (e : truth d = some b) : TruV K v H b := by
  cases d with
  | non => cases (rw_non h); cases e; rfl
  | bl k => cases (rw_bl h); cases e; rfl
  | int i => cases (rw_int h); cases e; rfl
  | str s =>
    obtain ⟨rfl, hl, _⟩ := rw_str h
    cases e
    refine ⟨by rw [str_len]; exact big_line hl, ?_⟩
    rw [str_len]
    cases s <;> simp <;> omega
  | tup xs =>
    obtain ⟨a, vs, rfl, q, r⟩ := rw_tup h
    cases e
    refine .inr (.inl ⟨vs, q, ?_⟩)
    have := r.length
    cases xs <;> cases vs <;> simp at this ⊢
  | lst xs =>
    obtain ⟨a, vs, rfl, q, r⟩ := rw_lst h
    cases e
    refine .inl ⟨vs, q, ?_⟩
    have := r.length
    cases xs <;> cases vs <;> simp at this ⊢
  | dic _ => cases e
  | obj _ _ => cases e
  | loc _ => cases e

section
variable {c : Ct} {X : Cx} {a b d x : Expr} {sa sb : Bool} {ra rb rc : Ga → Sto → R D} {pos : Pos}
theorem snd_var {i : Nat} {nm : Str} (hN : X.N[i]? = some nm) (hv : Vis X.env.scope nm) (hd : (nm == ("__debug__" : Str)) = false) (hcd : (nm == ("__classdict__" : Str)) = false) :
    PE X (.Name nm pos) (TEn c true fun γ μ => match γ[i]? with | some (.val d) => .ok d μ | _ => .fail) := by
  refine (pe_var hN hv hd hcd).imp fun σ H Q h => ?_
  obtain ⟨S, γ, μ, g, h⟩ := h; try dsimp only at h
  cases e : γ[i]? with
  | none => rw [e] at h; exact h.elim
  | some s =>
    rw [e] at h
    cases s with
    | un => exact h.elim
    | own o => exact h.elim
    | val d => obtain ⟨v, e1, r⟩ := g.sl i _ e; exact ⟨v, e1, fin0 g h r⟩
theorem snd_ovar {i : Nat} {nm : Str} (hN : X.N[i]? = some nm) (hv : Vis X.env.scope nm) (hd : (nm == ("__debug__" : Str)) = false) (hcd : (nm == ("__classdict__" : Str)) = false) :
    PE X (.Name nm pos) (TEn c false fun γ μ => match γ[i]? with | some (.own (.lst xs)) => .ok (.lst xs) μ | _ => .fail) := by
  refine (pe_var hN hv hd hcd).imp fun σ H Q h => ?_
  obtain ⟨S, γ, μ, g, h⟩ := h; try dsimp only at h
  cases e : γ[i]? with
  | none => rw [e] at h; exact h.elim
  | some s =>
    rw [e] at h
    cases s with
    | un => exact h.elim
    | val d => exact h.elim
    | own o =>
      cases o with
      | dic _ => exact h.elim
      | ins _ _ => exact h.elim
      | lst xs =>
        obtain ⟨p, e1, sp, h0, mp, vs, ep, r⟩ := g.sl i _ e
        exact ⟨.ref p, e1, h S (.ref p) H g Step.refl ⟨p, vs, rfl, .inl ⟨.inl ep, fun z => z mp⟩, r⟩⟩
theorem snd_odic {i : Nat} {nm : Str} (hN : X.N[i]? = some nm) (hv : Vis X.env.scope nm) (hd : (nm == ("__debug__" : Str)) = false) (hcd : (nm == ("__classdict__" : Str)) = false) :
    PE X (.Name nm pos) (TEn c false fun γ μ => match γ[i]? with | some (.own (.dic kvs)) => .ok (.dic kvs) μ | _ => .fail) := by
  refine (pe_var hN hv hd hcd).imp fun σ H Q h => ?_
  obtain ⟨S, γ, μ, g, h⟩ := h; try dsimp only at h
  cases e : γ[i]? with
  | none => rw [e] at h; exact h.elim
  | some s =>
    rw [e] at h
    cases s with
    | un => exact h.elim
    | val d => exact h.elim
    | own o =>
      cases o with
      | lst _ => exact h.elim
      | ins _ _ => exact h.elim
      | dic kvs =>
        obtain ⟨p, e1, sp, h0, mp, vs, ep, r⟩ := g.sl i _ e
        exact ⟨.ref p, e1, h S (.ref p) H g Step.refl ⟨p, vs, rfl, .inl ep, fun z => z mp, r⟩⟩
/-- a constant value -/
theorem snd_c {v : V} {d : D} {e : Expr} (h : PE X e (tC v)) (r : ∀ S H, Rel c.K S H d v) : PE X e (TEn c true fun _ μ => .ok d μ) :=
  h.imp fun σ H Q h => by obtain ⟨S, γ, μ, g, h⟩ := h; exact fin0 g h (r S H)
theorem snd_gl {v : V} {e : Expr} {o : Option D} (h : PE X e (tC v)) (r : ∀ d, o = some d → ∀ S H, Rel c.K S H d v) : PE X e (TEn c true fun _ μ => ofO o μ) :=
  h.imp fun σ H Q h => by obtain ⟨S, γ, μ, g, h⟩ := h; exact finO g h fun d e => r d e S H
theorem snd_bin (hK : X.K = c.K) (o : Bop) (ha : PE X a (TEn c sa ra)) (hb : PE X b (TEn c sb rb)) : PE X (.BinOp a (bopOf o) b pos) (TEn c true fun γ μ => (ra γ μ).bind fun x μ => (rb γ μ).bind fun y μ => orO (binop o x y) (binop o (dr μ x) (dr μ y)) μ) := by
  obtain ⟨r, h1, h2⟩ := op2_bin (X := X) (c := c) hK o
  exact (pe_op h1 (PEweak ha) (PEweak hb)).imp fun _ _ _ w => read2 h2.dr w
theorem op1_neg : Op1 c (rU fun i => .int (-i)) (fun x μ => match x with | .int i => .ok (.int (-i)) μ | _ => .fail) := by
  intro S γ μ σ H d v Q g rd h
  cases d with
  | int i => exact ⟨i, rw_int rd, fin0 g h rfl⟩
  | _ => exact h.elim
theorem snd_neg (ha : PE X a (TEn c sa ra)) : PE X (.UnaryOp .USub a pos) (TEn c true fun γ μ => (ra γ μ).bind fun x μ => match x with | .int i => .ok (.int (-i)) μ | _ => .fail) :=
  (pe_un un_neg (PEweak ha)).imp fun _ _ _ w => read1 op1_neg w
theorem snd_cmp (hK : X.K = c.K) (hu : X.A.units + 65 < cLine) (o : Cm) (ha : PE X a (TEn c sa ra)) (hb : PE X b (TEn c sb rb)) (hm : behindInMarks (cmOf o) b = false) :
    PE X (.Compare a [cmOf o] [b] pos) (TEn c true fun γ μ => (ra γ μ).bind fun x μ => (rb γ μ).bind fun y μ => orO (compare o x y) (compare o (dr μ x) (dr μ y)) μ) := by
  obtain ⟨r, h1, h2⟩ := op2_cmp (X := X) (c := c) hK hu o
  exact (pe_cmpR h1 (PEweak ha) (PEweak hb) hm).imp fun _ _ _ w => read2 h2.dr w
/-- what a comparison answers is a bool -/
theorem compare_bl {o : Cm} {x y z : D} (h : compare o x y = some z) : ∃ k, z = .bl k := by
  unfold compare at h
  split at h <;> first
    | (cases h; exact ⟨_, rfl⟩)
    | (obtain ⟨w, _, rfl⟩ := Option.map_eq_some_iff.mp h; exact ⟨_, rfl⟩)
    | cases h
/-- a comparison as a test -/
theorem sndT_cmp (hK : X.K = c.K) (hu : X.A.units + 65 < cLine) (o : Cm) (ha : PE X a (TEn c sa ra)) (hb : PE X b (TEn c sb rb)) (hm : behindInMarks (cmOf o) b = false) :
    PT X (.Compare a [cmOf o] [b] pos) (TTn c fun γ μ => ((ra γ μ).bind fun x μ => (rb γ μ).bind fun y μ => orO (compare o x y) (compare o (dr μ x) (dr μ y)) μ).bind truthR) := by
  obtain ⟨r, h1, h2⟩ := op2_cmp (X := X) (c := c) hK hu o
  refine (pt_cmpR h1 (PEweak ha) (PEweak hb) hm).imp fun σ H Q w => ?_
  show tOp r (TEn c false ra) (TEn c false rb) σ H _
  refine read2 h2.dr ?_
  obtain ⟨S, γ, μ, g, h⟩ := w; try dsimp only at h
  refine ⟨S, γ, μ, g, ?_⟩
  rw [R.All_bind, R.All_bind] at h
  rw [R.All_bind]
  refine h.mono (fun x μ1 h => ?_) fun _ _ _ w => w
  rw [R.All_bind] at h ⊢
  refine h.mono (fun y μ2 h => ?_) fun _ _ _ w => w
  cases e : compare o x y with
  | none =>
    rw [e] at h
    cases e2 : compare o (dr μ2 x) (dr μ2 y) with
    | none => rw [e2] at h; exact h.elim
    | some z =>
      rw [e2] at h
      obtain ⟨k, rfl⟩ := compare_bl e2
      intro S' v H' g' s rl
      exact ⟨k, rl, h S' H' g' s⟩
  | some z =>
    rw [e] at h
    obtain ⟨k, rfl⟩ := compare_bl e
    intro S' v H' g' s rl
    exact ⟨k, rl, h S' H' g' s⟩
theorem snd_chn (hK : X.K = c.K) (hu : X.A.units + 65 < cLine) (o o' : Cm) {sd : Bool} (ha : PE X a (TEn c sa ra)) (hb : PE X b (TEn c sb rb)) (hd : PE X d (TEn c sd rc)) (hm : lastMarks [cmOf o, cmOf o'] [b, d] = false) :
    PE X (.Compare a [cmOf o, cmOf o'] [b, d] pos) (TEn c true fun γ μ => (ra γ μ).bind fun x μ => (rb γ μ).bind fun y μ => match compare o x y with
      | some (.bl true) => (rc γ μ).bind fun z μ => ofO (compare o' y z) μ
      | some (.bl false) => .ok (.bl false) μ
      | _ => .fail) ∧
    PT X (.Compare a [cmOf o, cmOf o'] [b, d] pos) (TTn c fun γ μ => ((ra γ μ).bind fun x μ => (rb γ μ).bind fun y μ => match compare o x y with
      | some (.bl true) => (rc γ μ).bind fun z μ => ofO (compare o' y z) μ
      | some (.bl false) => .ok (.bl false) μ
      | _ => .fail).bind truthR) := by
  obtain ⟨r, h1, h2⟩ := op2_cmp (X := X) (c := c) hK hu o
  obtain ⟨r', h1', h2'⟩ := op2_cmp (X := X) (c := c) hK hu o'
  have key : ∀ σ H (Q : VK) S γ μ, Good c S γ μ σ H → ((ra γ μ).bind fun x μ => (rb γ μ).bind fun y μ => match compare o x y with
      | some (.bl true) => (rc γ μ).bind fun z μ => ofO (compare o' y z) μ
      | some (.bl false) => .ok (.bl false) μ
      | _ => .fail).All (Aft c true S μ H γ σ Q) c.V → tChain r r' (TEn c false ra) (TEn c false rb) (TEn c false rc) σ H Q := by
    intro σ H Q S γ μ g h
    rw [R.All_bind] at h
    refine ⟨S, γ, μ, g, h.mono (fun x μ1 h => ?_) fun _ _ _ w => w⟩
    intro S1 v H1 g1 s1 r1
    rw [R.All_bind] at h
    refine ⟨S1, γ, μ1, g1, h.mono (fun y μ2 h => ?_) fun _ _ _ w => w⟩
    intro S2 w H2 g2 s2 r2
    refine h2 S2 γ μ2 σ H2 x y v w _ g2 (RelW.zero (RelW.kp (s2.kp g1.st.dm) s2.kpD r1)) (RelW.zero r2) ?_
    cases e : compare o x y with
    | none => rw [e] at h; exact h.elim
    | some z =>
      rw [e] at h
      obtain ⟨k, rfl⟩ := compare_bl e
      show (ofO (compare o x y) μ2).All _ _
      rw [e]
      intro S3 u H3 g3 s3 rl
      refine ⟨k, rl, ?_⟩
      cases k with
      | false =>
        rw [if_neg (by decide)]
        exact h S3 _ H3 g3 ((s1.trans s2).trans s3) rfl
      | true =>
        rw [if_pos rfl]
        have h' : ((rc γ μ2).bind fun z μ => ofO (compare o' y z) μ).All (Aft c true S μ H γ σ Q) c.V := h
        rw [R.All_bind] at h'
        refine ⟨S3, γ, μ2, g3, h'.mono (fun z μ4 h => ?_) fun _ _ _ w => w⟩
        intro S4 t H4 g4 s4 r4
        have r2' : RelW c.K (Dm μ4) S4 H4 y w := RelW.kp (s4.kp g3.st.dm) s4.kpD (RelW.kp (s3.kp g2.st.dm) s3.kpD r2)
        exact h2' S4 γ μ4 σ H4 y z w t Q g4 (RelW.zero r2') (RelW.zero r4) (Aft.step h (((s1.trans s2).trans s3).trans s4))
  refine ⟨(pe_chain h1 h1' (PEweak ha) (PEweak hb) (PEweak hd) hm).imp fun σ H Q w => ?_, (pt_chain h1 h1' (PEweak ha) (PEweak hb) (PEweak hd) hm).imp fun σ H Q w => ?_⟩
  · obtain ⟨S, γ, μ, g, h⟩ := w; try dsimp only at h
    exact key σ H Q S γ μ g h
  · obtain ⟨S, γ, μ, g, h⟩ := w; try dsimp only at h
    refine key σ H _ S γ μ g ?_
    rw [R.All_bind, R.All_bind] at h
    rw [R.All_bind]
    refine h.mono (fun x μ1 h => ?_) fun _ _ _ w => w
    rw [R.All_bind] at h ⊢
    refine h.mono (fun y μ2 h => ?_) fun _ _ _ w => w
    cases e : compare o x y with
    | none => rw [e] at h; exact h.elim
    | some z =>
      rw [e] at h
      obtain ⟨k, rfl⟩ := compare_bl e
      cases k with
      | false => exact fun S' v H' g' s rl => ⟨false, rl, h S' H' g' s⟩
      | true =>
        have h' : (((rc γ μ2).bind fun z μ => ofO (compare o' y z) μ)).All (fun a μ => (truthR a μ).All (AftB c S _ H γ σ Q) c.V) c.V := h
        show ((rc γ μ2).bind fun z μ => ofO (compare o' y z) μ).All _ c.V
        rw [R.All_bind] at h' ⊢
        refine h'.mono (fun z μ3 h => ?_) fun _ _ _ w => w
        cases e3 : compare o' y z with
        | none => rw [e3] at h; exact h.elim
        | some t =>
          rw [e3] at h
          obtain ⟨k, rfl⟩ := compare_bl e3
          exact fun S' v H' g' s rl => ⟨k, rl, h S' H' g' s⟩
theorem truthR_some {d : D} {μ : Sto} {Q : Bool → Sto → Prop} {W : Xc → Ga → Sto → Prop} (h : (truthR d μ).All Q W) : ∃ b, truth d = some b ∧ Q b μ := by
  unfold truthR at h
  cases e : truth d with
  | none => rw [e] at h; exact h.elim
  | some b => rw [e] at h; exact ⟨b, rfl, h⟩
/-- the truth of a value as a test -/
theorem sndT_plain (hK : X.K = c.K) (ha : PE X a (TEn c sa ra)) (he : ∀ whole, isTrue a X.env whole = (do let v ← whole; standAt a.pos; holding [v] (truthy v))) : PT X a (TTn c fun γ μ => (ra γ μ).bind truthR) := by
  refine (pt_truth (PEweak ha) he).imp fun σ H Q w => ?_
  obtain ⟨S, γ, μ, g, h⟩ := w; try dsimp only at h
  rw [R.All_bind] at h
  refine ⟨S, γ, μ, g, h.mono (fun d μ1 h => ?_) fun _ _ _ w => w⟩
  intro S1 v H1 g1 s1 r1
  obtain ⟨b, e, q⟩ := truthR_some h
  exact ⟨b, by rw [hK]; exact tru_of r1 e, q S1 H1 g1 s1⟩
theorem snd_not (hK : X.K = c.K) (ha : PE X a (TEn c sa ra)) : PE X (.UnaryOp .Not a pos) (TEn c true fun γ μ => (ra γ μ).bind fun x μ => (truthR x μ).bind fun b μ => .ok (.bl !b) μ) := by
  refine (pe_notT (PEweak ha)).imp fun σ H Q w => ?_
  obtain ⟨S, γ, μ, g, h⟩ := w; try dsimp only at h
  rw [R.All_bind] at h
  refine ⟨S, γ, μ, g, h.mono (fun d μ1 h => ?_) fun _ _ _ w => w⟩
  intro S1 v H1 g1 s1 r1
  rw [R.All_bind] at h
  obtain ⟨b, e, q⟩ := truthR_some h
  exact ⟨b, by rw [hK]; exact tru_of r1 e, q S1 _ H1 g1 s1 rfl⟩
theorem sndT_not (ha : PT X a (TTn c fun γ μ => (ra γ μ).bind truthR)) : PT X (.UnaryOp .Not a pos) (TTn c fun γ μ => ((ra γ μ).bind fun x μ => (truthR x μ).bind fun b μ => .ok (.bl !b) μ).bind truthR) := by
  refine (pt_not ha).imp fun σ H Q w => ?_
  obtain ⟨S, γ, μ, g, h⟩ := w; try dsimp only at h
  refine ⟨S, γ, μ, g, ?_⟩
  rw [R.All_bind, R.All_bind] at h
  rw [R.All_bind]
  refine h.mono (fun d μ1 h => ?_) fun _ _ _ w => w
  rw [R.All_bind] at h
  exact h.mono (fun b μ2 h => h) fun _ _ _ w => w
/-- where both are strong so is the choice -/
theorem PEmode {e : Expr} {r : Ga → Sto → R D} {st st' : Bool} (h : PE X e (TEn c st r)) (hs : st' = true → st = true) : PE X e (TEn c st' r) := by
  cases st' with
  | true => cases (hs rfl); exact h
  | false => exact PEweak h
theorem Rl.mode {K : PySem.W.Frag} {T S : Sa} {H : Hp} {d : D} {v : V} {st st' : Bool} (h : Rl K st T S H d v) (ht : ∀ a, T a → S a) (hs : st' = true → st = true) : Rl K st' T S H d v := by
  cases st' with
  | true => cases (hs rfl); exact h
  | false => exact Rl.weak h ht
theorem snd_and (hK : X.K = c.K) {rest : List Expr} (ha : PE X a (TEn c sa ra)) (hb : PE X (.BoolOp .And (b :: rest) pos) (TEn c sb rb)) :
    PE X (.BoolOp .And (a :: b :: rest) pos) (TEn c (sa && sb) fun γ μ => (ra γ μ).bind fun x μ => (truthR x μ).bind fun t μ => if t then rb γ μ else .ok x μ) := by
  refine (pe_andT ha (PEmode hb (st' := sa && sb) fun z => (Bool.and_eq_true_iff.mp z).2)).imp fun σ H Q w => ?_
  obtain ⟨S, γ, μ, g, h⟩ := w; try dsimp only at h
  rw [R.All_bind] at h
  refine ⟨S, γ, μ, g, h.mono (fun d μ1 h => ?_) fun _ _ _ w => w⟩
  intro S1 v H1 g1 s1 r1
  rw [R.All_bind] at h
  obtain ⟨k, e, q⟩ := truthR_some h
  refine ⟨k, by rw [hK]; exact tru_of (Rl.weak r1 g1.st.dm) e, ?_⟩
  cases k with
  | true => rw [if_pos rfl] at q ⊢; exact ⟨S1, γ, μ1, g1, Aft.step q s1⟩
  | false => rw [if_neg (by decide)] at q ⊢; exact q S1 v H1 g1 s1 (r1.mode g1.st.dm fun z => (Bool.and_eq_true_iff.mp z).1)
theorem snd_or (hK : X.K = c.K) {rest : List Expr} (ha : PE X a (TEn c sa ra)) (hb : PE X (.BoolOp .Or (b :: rest) pos) (TEn c sb rb)) :
    PE X (.BoolOp .Or (a :: b :: rest) pos) (TEn c (sa && sb) fun γ μ => (ra γ μ).bind fun x μ => (truthR x μ).bind fun t μ => if t then .ok x μ else rb γ μ) := by
  refine (pe_orT ha (PEmode hb (st' := sa && sb) fun z => (Bool.and_eq_true_iff.mp z).2)).imp fun σ H Q w => ?_
  obtain ⟨S, γ, μ, g, h⟩ := w; try dsimp only at h
  rw [R.All_bind] at h
  refine ⟨S, γ, μ, g, h.mono (fun d μ1 h => ?_) fun _ _ _ w => w⟩
  intro S1 v H1 g1 s1 r1
  rw [R.All_bind] at h
  obtain ⟨k, e, q⟩ := truthR_some h
  refine ⟨k, by rw [hK]; exact tru_of (Rl.weak r1 g1.st.dm) e, ?_⟩
  cases k with
  | false => rw [if_neg (by decide)] at q ⊢; exact ⟨S1, γ, μ1, g1, Aft.step q s1⟩
  | true => rw [if_pos rfl] at q ⊢; exact q S1 v H1 g1 s1 (r1.mode g1.st.dm fun z => (Bool.and_eq_true_iff.mp z).1)
theorem sndT_and {rest : List Expr} (ha : PT X a (TTn c fun γ μ => (ra γ μ).bind truthR)) (hb : PW X (.BoolOp .And (b :: rest) pos) (TTn c fun γ μ => (rb γ μ).bind truthR)) :
    PW X (.BoolOp .And (a :: b :: rest) pos) (TTn c fun γ μ => ((ra γ μ).bind fun x μ => (truthR x μ).bind fun t μ => if t then rb γ μ else .ok x μ).bind truthR) := by
  refine ⟨fun whole pins s σ H Q I w => (pw_and ha hb).run whole pins s σ H Q I ?_⟩
  obtain ⟨S, γ, μ, g, h⟩ := w; try dsimp only at h
  refine ⟨S, γ, μ, g, ?_⟩
  rw [R.All_bind, R.All_bind] at h
  rw [R.All_bind]
  refine h.mono (fun d μ1 h => ?_) fun _ _ _ w => w
  rw [R.All_bind] at h
  obtain ⟨k, e, q⟩ := truthR_some h
  unfold truthR
  rw [e]
  intro S1 H1 g1 s1
  cases k with
  | true => rw [if_pos rfl] at q ⊢; exact ⟨S1, γ, μ1, g1, AftB.step (R.All_bind _ _ _ _ |>.mpr q) s1⟩
  | false =>
    rw [if_neg (by decide)] at q ⊢
    obtain ⟨k', e', q'⟩ := truthR_some q
    rw [e] at e'; cases e'
    exact q' S1 H1 g1 s1
theorem sndT_or {rest : List Expr} (ha : PT X a (TTn c fun γ μ => (ra γ μ).bind truthR)) (hb : PW X (.BoolOp .Or (b :: rest) pos) (TTn c fun γ μ => (rb γ μ).bind truthR)) :
    PW X (.BoolOp .Or (a :: b :: rest) pos) (TTn c fun γ μ => ((ra γ μ).bind fun x μ => (truthR x μ).bind fun t μ => if t then .ok x μ else rb γ μ).bind truthR) := by
  refine ⟨fun whole pins s σ H Q I w => (pw_or ha hb).run whole pins s σ H Q I ?_⟩
  obtain ⟨S, γ, μ, g, h⟩ := w; try dsimp only at h
  refine ⟨S, γ, μ, g, ?_⟩
  rw [R.All_bind, R.All_bind] at h
  rw [R.All_bind]
  refine h.mono (fun d μ1 h => ?_) fun _ _ _ w => w
  rw [R.All_bind] at h
  obtain ⟨k, e, q⟩ := truthR_some h
  unfold truthR
  rw [e]
  intro S1 H1 g1 s1
  cases k with
  | false => rw [if_neg (by decide)] at q ⊢; exact ⟨S1, γ, μ1, g1, AftB.step (R.All_bind _ _ _ _ |>.mpr q) s1⟩
  | true =>
    rw [if_pos rfl] at q ⊢
    obtain ⟨k', e', q'⟩ := truthR_some q
    rw [e] at e'; cases e'
    exact q' S1 H1 g1 s1
theorem snd_ite {cd : Expr} (hc : PT X cd (TTn c fun γ μ => (rc γ μ).bind truthR)) (ha : PE X a (TEn c sa ra)) (hb : PE X b (TEn c sb rb)) :
    PE X (.IfExp cd a b pos) (TEn c (sa && sb) fun γ μ => (rc γ μ).bind fun x μ => (truthR x μ).bind fun t μ => if t then ra γ μ else rb γ μ) := by
  refine (pe_ifExp hc (PEmode ha (st' := sa && sb) fun z => (Bool.and_eq_true_iff.mp z).1) (PEmode hb (st' := sa && sb) fun z => (Bool.and_eq_true_iff.mp z).2)).imp fun σ H Q w => ?_
  obtain ⟨S, γ, μ, g, h⟩ := w; try dsimp only at h
  refine ⟨S, γ, μ, g, ?_⟩
  rw [R.All_bind] at h ⊢
  refine h.mono (fun d μ1 h => ?_) fun _ _ _ w => w
  rw [R.All_bind] at h
  refine h.mono (fun k μ2 h => ?_) fun _ _ _ w => w
  intro S1 H1 g1 s1
  cases k with
  | true => rw [if_pos rfl] at h ⊢; exact ⟨S1, γ, μ2, g1, Aft.step h s1⟩
  | false => rw [if_neg (by decide)] at h ⊢; exact ⟨S1, γ, μ2, g1, Aft.step h s1⟩
end

/-! ### lists of expressions -/
def R.Sat {α : Type} : R α → (α → Prop) → Prop
  | .ok a _, P => P a
  | .exc _ _ _, _ => True
  | .fail, _ => True
  | .any P k, Q => ∀ p, P p → (k p).Sat Q
theorem R.All.both {α : Type} {r : R α} {P : α → Sto → Prop} {P' : α → Prop} {W : Xc → Ga → Sto → Prop} (h1 : r.All P W) (h2 : r.Sat P') : r.All (fun a μ => P a μ ∧ P' a) W := by
  induction r with
  | ok a μ => exact ⟨h1, h2⟩
  | exc _ _ _ => exact h1
  | fail => exact h1
  | any P k ih => exact fun p hp => ih p (h1 p hp) (h2 p hp)
theorem R.Sat.bind {α β : Type} {r : R α} {f : α → Sto → R β} {P : β → Prop} (h : ∀ a μ, (f a μ).Sat P) : (r.bind f).Sat P := by
  induction r with
  | ok a μ => exact h a μ
  | exc _ _ _ => trivial
  | fail => trivial
  | any P k ih => exact fun p hp => ih p
theorem R.Sat.bind' {α β : Type} {r : R α} {f : α → Sto → R β} {P0 : α → Prop} {P : β → Prop} (h0 : r.Sat P0) (h : ∀ a μ, P0 a → (f a μ).Sat P) : (r.bind f).Sat P := by
  induction r with
  | ok a μ => exact h a μ h0
  | exc _ _ _ => trivial
  | fail => trivial
  | any P k ih => exact fun p hp => ih p (h0 p hp)
section
variable {c : Ct} {X : Cx} {a : Expr} {es : List Expr} {st : Bool} {ra : Ga → Sto → R D} {rs : Ga → Sto → R (List D)} {pos : Pos}
theorem Rl.kp {K : PySem.W.Frag} {S S' : Sa} {μ μ' : Sto} {H H' : Hp} {d : D} {v : V} (h : Rl K st (Dm μ) S H d v) (s : Step S μ H S' μ' H') (ok : ∀ a, Dm μ a → S a) : Rl K st (Dm μ') S' H' d v := by
  cases st with
  | true => exact Rel.kp (s.kp ok) _ _ h
  | false => exact RelW.kp (s.kp ok) s.kpD h
theorem sndA_nil : PA X [] (TAn c st fun _ μ => .ok [] μ) := pa_nil.imp fun σ H Q w => by
  obtain ⟨S, γ, μ, g, h⟩ := w; try dsimp only at h
  exact h S [] H g Step.refl rfl
theorem tcons_of {σ : L2.St} {H : Hp} {Q : List V → Hp → Prop} (w : TAn c st (fun γ μ => (ra γ μ).bind fun x μ => (rs γ μ).bind fun xs μ => .ok (x :: xs) μ) σ H Q) : tCons (TEn c st ra) (TAn c st rs) σ H Q := by
  obtain ⟨S, γ, μ, g, h⟩ := w; try dsimp only at h
  rw [R.All_bind] at h
  refine ⟨S, γ, μ, g, h.mono (fun d μ1 h => ?_) fun _ _ _ w => w⟩
  intro S1 v H1 g1 s1 r1
  rw [R.All_bind] at h
  refine ⟨S1, γ, μ1, g1, h.mono (fun ds μ2 h => ?_) fun _ _ _ w => w⟩
  intro S2 vs H2 g2 s2 r2
  exact h S2 (v :: vs) H2 g2 (s1.trans s2) ⟨v, vs, rfl, r1.kp s2 g1.st.dm, r2⟩
theorem sndA_cons (ha : PE X a (TEn c st ra)) (hs : PA X es (TAn c st rs)) (hst : starEach (a :: es) X.env = (false, eval a X.env) :: starEach es X.env) :
    PA X (a :: es) (TAn c st fun γ μ => (ra γ μ).bind fun x μ => (rs γ μ).bind fun xs μ => .ok (x :: xs) μ) := (pa_cons ha hs hst).imp fun _ _ _ w => tcons_of w
theorem sndK_nil : PK X [] (TAn c st fun _ μ => .ok [] μ) := pk_nil.imp fun σ H Q w => by
  obtain ⟨S, γ, μ, g, h⟩ := w; try dsimp only at h
  exact h S [] H g Step.refl rfl
theorem sndK_cons {kws : List Keyword} {nm : Option Str} {kpos : Pos} (ha : PE X a (TEn c st ra)) (hs : PK X kws (TAn c st rs)) :
    PK X (⟨nm, a, kpos⟩ :: kws) (TAn c st fun γ μ => (ra γ μ).bind fun x μ => (rs γ μ).bind fun xs μ => .ok (x :: xs) μ) := (pk_cons ha hs).imp fun _ _ _ w => tcons_of w
theorem Rls.rels {K : PySem.W.Frag} {T S : Sa} {H : Hp} : ∀ {ds : List D} {vs : List V}, Rls K true T S H ds vs → Rels K S H ds vs
  | [], _, h => h
  | d :: r, vs, h => by obtain ⟨v, ws, e, q, z⟩ := h; exact ⟨v, ws, e, q, z.rels⟩
theorem snd_tup {x1} (h : PA X es (TAn c true rs)) (hl : ∀ γ μ, (rs γ μ).Sat fun ds => ds.length ≤ 1000) : PE X (.Tuple es x1 pos) (TEn c true fun γ μ => (rs γ μ).bind fun xs μ => .ok (.tup xs) μ) := by
  refine (pe_tup h).imp fun σ H Q w => ?_
  obtain ⟨S, γ, μ, g, h⟩ := w; try dsimp only at h
  rw [R.All_bind] at h
  refine ⟨S, γ, μ, g, ?_⟩
  refine R.All.mono (h.both (hl γ μ)) (fun ds μ1 h => ?_) fun _ _ _ w => w
  · intro S1 vs H1 g1 s1 r1
    have r1 := r1.rels
    refine ⟨by rw [r1.length]; exact big_line (by have := h.2; omega), fun p hp => fin_tup g1 (fun S2 v H2 g2 s2 r2 => h.1 S2 v H2 g2 (s1.trans s2) r2) r1 p hp⟩
theorem snd_lst (h : PA X es (TAn c true rs)) (hl : ∀ γ μ, (rs γ μ).Sat fun ds => ds.length ≤ 1000) : PE X (.List es pos) (TFn c fun γ μ => (rs γ μ).bind fun xs μ => .ok (.lst xs) μ) := by
  refine (pe_lst h).imp fun σ H Q w => ?_
  obtain ⟨S, γ, μ, g, h⟩ := w; try dsimp only at h
  rw [R.All_bind] at h
  refine ⟨S, γ, μ, g, ?_⟩
  refine R.All.mono (h.both (hl γ μ)) (fun ds μ1 h => ?_) fun _ _ _ w => w
  · intro S1 vs H1 g1 s1 r1
    have r1 := r1.rels
    refine ⟨by rw [r1.length]; exact big_line (by have := h.2; omega), fun p hp => fin_new g1 (AftF.step (r := .ok _ _) (W := c.V) h.1 s1) r1 p hp⟩
theorem snd_new (h : PA X es (TAn c true rs)) (hl : ∀ γ μ, (rs γ μ).Sat fun ds => ds.length ≤ 1000) :
    PE X (.List es pos) (TEn c true fun γ μ => (rs γ μ).bind fun xs μ => .any (fun p => μ p = none) fun p => .ok (.loc p) (μ.put p (.lst xs))) := by
  refine (snd_lst h hl).imp fun σ H Q w => ?_
  obtain ⟨S, γ, μ, g, h⟩ := w; try dsimp only at h
  refine ⟨S, γ, μ, g, ?_⟩
  rw [R.All_bind] at h ⊢
  refine h.mono (fun ds μ1 h => ?_) fun _ _ _ w => w
  rintro S' p vs H' xs e g' s hp sp mp hp' r
  obtain rfl : ds = xs := by injection e
  have h := h p mp
  have hne : ∀ q, μ1 q ≠ none → q ≠ p := fun q z e => z (by rw [e]; exact mp)
  have hput : ∀ q, q ≠ p → (μ1.put p (.lst ds)) q = μ1 q := fun q e => by unfold Sto.put; rw [if_neg e]
  have hput0 : (μ1.put p (.lst ds)) p = some (.lst ds) := by unfold Sto.put; rw [if_pos rfl]
  have s2 : Step S μ H S' (μ1.put p (.lst ds)) H' := by
    refine ⟨s.keep, s.there, s.sub, s.sup, fun a z => ?_, fun a z => ?_⟩
    · have := s.dom a z; rw [hput a (hne a this)]; exact this
    · by_cases e : a = p
      · rw [e]; exact .inr hp
      · rw [hput a e] at z; exact s.dsub a z
  refine h S' (.ref p) H' ⟨g'.len, fun i x e => ?_, g'.ap, ⟨fun q o e => ?_, g'.st.sd⟩, g'.s0, g'.ext, fun q z => ?_, fun q z => ?_, g'.kt⟩ s2 rfl
  · have hx := g'.sl i x e
    cases x with
    | un => trivial
    | val d => exact hx
    | own o =>
      obtain ⟨q, e1, sq, h0, mq, rq⟩ := hx
      refine ⟨q, e1, sq, h0, ?_, rq⟩
      rw [hput q ?_]; exact mq
      intro e2
      obtain ⟨q', e3, _, _, _, rq'⟩ := g.sl i _ e
      rw [e1] at e3; cases e3
      exact rq'.there (by rw [e2]; exact hp)
  · by_cases e2 : q = p
    · subst e2; rw [hput0] at e; cases e; exact ⟨sp, vs, hp', r⟩
    · rw [hput q e2] at e; exact g'.st.st q o e
  · by_cases e2 : q = p
    · rw [e2]; exact .inr (g.h0 hp)
    · rw [hput q e2] at z; exact g'.fr q z
  · have z2 := g'.md q z
    rw [hput q (hne q z2)]; exact z2
/-- a new list goes to the store -/
theorem sto_of {r : Ga → Sto → R D} {σ : L2.St} {H : Hp} {Q : VK} (w : TEn c true (fun γ μ => (r γ μ).bind stoR) σ H Q) : TFn c r σ H Q := by
  obtain ⟨S, γ, μ, g, h⟩ := w; try dsimp only at h
  refine ⟨S, γ, μ, g, ?_⟩
  rw [R.All_bind] at h
  refine h.mono (fun d μ1 h => ?_) fun _ _ _ w => w
  rintro S' p vs H' ds rfl g' s hp sp mp hp' r
  have h := h p mp
  have hne : ∀ q, μ1 q ≠ none → q ≠ p := fun q z e => z (by rw [e]; exact mp)
  have hput : ∀ q, q ≠ p → (μ1.put p (.lst ds)) q = μ1 q := fun q e => by unfold Sto.put; rw [if_neg e]
  have hput0 : (μ1.put p (.lst ds)) p = some (.lst ds) := by unfold Sto.put; rw [if_pos rfl]
  have s2 : Step S μ H S' (μ1.put p (.lst ds)) H' := by
    refine ⟨s.keep, s.there, s.sub, s.sup, fun a z => ?_, fun a z => ?_⟩
    · have := s.dom a z; rw [hput a (hne a this)]; exact this
    · by_cases e : a = p
      · rw [e]; exact .inr hp
      · rw [hput a e] at z; exact s.dsub a z
  refine h S' (.ref p) H' ⟨g'.len, fun i x e => ?_, g'.ap, ⟨fun q o e => ?_, g'.st.sd⟩, g'.s0, g'.ext, fun q z => ?_, fun q z => ?_, g'.kt⟩ s2 rfl
  · have hx := g'.sl i x e
    cases x with
    | un => trivial
    | val d => exact hx
    | own o =>
      obtain ⟨q, e1, sq, h0, mq, rq⟩ := hx
      refine ⟨q, e1, sq, h0, ?_, rq⟩
      rw [hput q ?_]; exact mq
      intro e2
      obtain ⟨q', e3, _, _, _, rq'⟩ := g.sl i _ e
      rw [e1] at e3; cases e3
      exact rq'.there (by rw [e2]; exact hp)
  · by_cases e2 : q = p
    · subst e2; rw [hput0] at e; cases e; exact ⟨sp, vs, hp', r⟩
    · rw [hput q e2] at e; exact g'.st.st q o e
  · by_cases e2 : q = p
    · rw [e2]; exact .inr (g.h0 hp)
    · rw [hput q e2] at z; exact g'.fr q z
  · have z2 := g'.md q z
    rw [hput q (hne q z2)]; exact z2
end
end Bs
/-! Bs: subscripts, built-ins, methods, isinstance, displays of dicts, calls of defs. -/
namespace Bs
open PySem L2
/-! ### what is seen of the text -/
def nst : Expr → Bool
  | .Starred _ _ => false
  | _ => true
theorem star_cons {e : Expr} {es : List Expr} {env : Env} (h : nst e = true) : starEach (e :: es) env = (false, eval e env) :: starEach es env := by
  cases e <;> first | rfl | cases h
theorem star_any {pos : Pos} {env : Env} : ∀ {es : List Expr}, es.all nst = true → (backTo pos (starEach es env)).any (·.1) = false
  | [], _ => rfl
  | e :: es, h => by
    simp only [List.all_cons, Bool.and_eq_true] at h
    rw [star_cons h.1]
    show (false || (backTo pos (starEach es env)).any (·.1)) = false
    rw [star_any h.2]; rfl
def kwOk (kws : List Keyword) : Bool := kws.all fun k => k.arg.isSome
def kwN (kws : List Keyword) : List Str := kws.filterMap fun k => k.arg
theorem kw_all {pos : Pos} {env : Env} : ∀ {kws : List Keyword}, kwOk kws = true → (backToKw pos (keywordEach kws env)).all (·.1.isSome) = true ∧ (backToKw pos (keywordEach kws env)).any (·.1.isNone) = false ∧ (backToKw pos (keywordEach kws env)).filterMap (·.1) = kwN kws ∧ (kwN kws).length = kws.length
  | [], _ => ⟨rfl, rfl, rfl, rfl⟩
  | ⟨nm, e, kp⟩ :: kws, h => by
    have h' : (nm.isSome && kwOk kws) = true := h
    rw [Bool.and_eq_true] at h'
    obtain ⟨a, b, c, d⟩ := kw_all (pos := pos) (env := env) h'.2
    cases nm with
    | none => exact absurd h'.1 (by decide)
    | some y =>
      refine ⟨?_, ?_, ?_, ?_⟩
      · show (true && (backToKw pos (keywordEach kws env)).all (·.1.isSome)) = true
        rw [a]; rfl
      · show (false || (backToKw pos (keywordEach kws env)).any (·.1.isNone)) = false
        rw [b]; rfl
      · show y :: (backToKw pos (keywordEach kws env)).filterMap (·.1) = y :: kwN kws
        rw [c]
      · show (y :: kwN kws).length = _
        rw [List.length_cons, List.length_cons, d]
def pIx : Expr → Bool
  | .Slice _ _ _ _ => false
  | _ => true
theorem plainIx {b : Expr} (h : pIx b = true) : PlainIx b := by
  intro o i
  cases b <;> first | rfl | cases h
def noCall : Expr → Bool
  | .Call _ es _ _ => !es.isEmpty
  | _ => true
theorem abase {o : Expr} {m : Str} {env : Env} (h : noCall o = true) : attributeBase o m env (eval o env) = eval o env := by
  cases o with
  | Call f es ks p =>
    cases es with
    | nil => cases h
    | cons e es => cases f <;> rfl
  | _ => rfl
def pT : Expr → Bool
  | .UnaryOp op _ _ => match op with
    | .Not => false
    | _ => true
  | .BoolOp _ _ _ => false
  | .IfExp _ _ _ _ => false
  | .Compare _ _ _ _ => false
  | _ => true
theorem plainT {a : Expr} {env : Env} (h : pT a = true) : ∀ whole, isTrue a env whole = (do let v ← whole; standAt a.pos; holding [v] (truthy v)) := by
  intro w
  cases a with
  | UnaryOp op x p => cases op <;> first | rfl | cases h
  | _ => first | rfl | cases h
def noSet : Expr → Bool
  | .Set _ _ _ => false
  | _ => true
theorem folded {e : Expr} (h : noSet e = true) : ∀ env x, foldedSetIterable e env x = pure x := by
  intro env x
  cases e <;> first | rfl | cases h

section
variable {c : Ct} {S S' : Sa} {γ : Ga} {μ μ' : Sto} {σ : L2.St} {H H' : Hp} {Q : VK}
theorem Good.poke (g : Good c S γ μ σ H) {p : Addr} {o : HO} (sp : S p) (mp : μ p = none) (h0 : c.H0 p = none) (ho : ∀ (i : Nat) ob q, γ[i]? = some (.own ob) → σ[i]? = some (some (V.ref q)) → q ≠ p) : Good c S γ μ σ (upd H p o) := by
  have k : Kp S S H (upd H p o) := ⟨fun a u h n => by rw [upd_ne (fun e => n (by rw [e]; exact sp))]; exact h, fun a h => .inl h⟩
  refine ⟨g.len, fun i s e => ?_, g.ap, ⟨fun q ob e => ⟨(g.st.st q ob e).1, (g.st.st q ob e).2.kp k (upd_ne fun e2 => by rw [e2, mp] at e; cases e)⟩, fun a h => ?_⟩, g.s0, fun a u h m => ?_, g.fr, g.md, g.kt.trans (KpT.refl.poke (.inl sp))⟩
  · have h := g.sl i s e
    cases s with
    | un => trivial
    | val d => obtain ⟨v, e1, r⟩ := h; exact ⟨v, e1, r.kp k⟩
    | own ob => obtain ⟨q, e1, sq, h0, m, r⟩ := h; exact ⟨q, e1, sq, h0, m, r.kp k (upd_ne (ho i ob q e e1))⟩
  · by_cases e : a = p
    · rw [e, upd_same]; exact fun z => nomatch z
    · rw [upd_ne e]; exact g.st.sd a h
  · rw [upd_ne (fun e => by rw [e, h0] at h; cases h)]; exact g.ext a u h m
theorem Step.poke (s : Step S μ H S' μ' H') {p : Addr} {o : HO} (hp : H p = none) : Step S μ H S' μ' (upd H' p o) :=
  ⟨fun a u h m => by rw [upd_ne (ne_of_none h hp)]; exact s.keep a u h m, fun a h => by
    by_cases e : a = p
    · rw [e, upd_same]; exact fun z => nomatch z
    · rw [upd_ne e]; exact s.there a h, s.sub, s.sup, s.dom, s.dsub⟩
/-- a slot's own object is not one that was new -/
theorem Good.own_ne (g : Good c S γ μ σ H) {p : Addr} (hp : H p = none) : ∀ (i : Nat) ob q, γ[i]? = some (.own ob) → σ[i]? = some (some (V.ref q)) → q ≠ p := fun i ob q e1 e2 e => by
  obtain ⟨q', e3, _, _, _, r⟩ := g.sl i _ e1
  rw [e2] at e3; cases e3
  exact r.there (by rw [e]; exact hp)
/-- a new object at p, ours for a while -/
theorem open_new (g : Good c S γ μ σ H) {p : Addr} (o : HO) (hp : H p = none) : Good c (fun a => S a ∨ a = p) γ μ σ (upd H p o) ∧ Step S μ H (fun a => S a ∨ a = p) μ (upd H p o) ∧ μ p = none ∧ ¬ S p := by
  obtain ⟨s, ok⟩ := step_new (c := c) (o := o) g.st hp
  have np : ¬ S p := ok_notS g.st hp
  have mp : μ p = none := by
    cases e : μ p with
    | none => rfl
    | some o => exact absurd (g.st.st p o e).1 np
  have s2 : Step S μ H (fun a => S a ∨ a = p) μ (upd H p o) := ⟨s.keep, s.there, fun a z => z.elim .inl fun e => .inr (e ▸ hp), fun a z => .inl z, s.dom, s.dsub⟩
  have k2 := s2.kp g.st.dm
  refine ⟨g.step s2 ⟨fun q ob e => ⟨.inl (g.st.st q ob e).1, (g.st.st q ob e).2.kp k2 ?_⟩, fun a z => ?_⟩, s2, mp, np⟩
  · rw [upd_ne (fun e2 => by rw [e2, mp] at e; cases e)]
  · rcases z with z | z
    · exact s.there a (g.st.sd a z)
    · rw [z, upd_same]; exact fun z => nomatch z
/-- .. and given up -/
theorem Good.give (g0 : Good c S γ μ σ H) (g : Good c S' γ μ' σ H') (s : Step S μ H S' μ' H') {p : Addr} (hp : H p = none) (mp : μ' p = none) : Good c (fun a => S' a ∧ a ≠ p) γ μ' σ H' ∧ Step S μ H (fun a => S' a ∧ a ≠ p) μ' H' := by
  have np : ¬ S p := fun z => g0.st.sd p z hp
  refine ⟨g.shrink (fun a z => z.1) (fun a z => ⟨g.s0 a z, fun e => np (e ▸ g0.s0 a z)⟩) (fun a z => ⟨g.st.dm a z, fun e => z (e ▸ mp)⟩) fun i o q e1 e2 => ?_, ⟨s.keep, s.there, fun a z => s.sub a z.1, fun a z => ⟨s.sup a z, fun e => np (e ▸ z)⟩, s.dom, s.dsub⟩⟩
  obtain ⟨q', e3, sq, _, _, _⟩ := g.sl i _ e1
  rw [e2] at e3; cases e3
  exact ⟨sq, g0.own_ne hp i o q e1 e2⟩
end

section
variable {c : Ct} {X : Cx} {a b x : Expr} {sa sb : Bool} {ra rb : Ga → Sto → R D} {pos : Pos} {es : List Expr} {rs : Ga → Sto → R (List D)}
theorem snd_ix (hK : X.K = c.K) (ha : PE X a (TEn c sa ra)) (hb : PE X b (TEn c sb rb)) (hp : pIx b = true) : PE X (.Subscript a b pos) (TEn c true fun γ μ => (ra γ μ).bind fun x μ => (rb γ μ).bind fun y μ => ixR x y μ) := by
  obtain ⟨r, h1, h2⟩ := op2_ix (X := X) (c := c) hK
  exact (pe_ix h1 (PEweak ha) (PEweak hb) (plainIx hp)).imp fun _ _ _ w => read2 h2 w
def TOn (c : Ct) (r : Ga → Sto → R (Option Int)) : TO := fun σ H Q => ∃ S γ μ, Good c S γ μ σ H ∧ (r γ μ).All (fun i μ' => ∀ S' H', Good c S' γ μ' σ H' → Step S μ H S' μ' H' → Q i H') c.V
theorem _root_.L2.PO.imp {X : Cx} {e : Option Expr} {t t' : TO} (h : PO X e t) (i : ∀ σ H Q, t' σ H Q → t σ H Q) : PO X e t' := ⟨fun pins s σ H Q I w => h.run pins s σ H Q I (i σ H Q w)⟩
theorem sndO_none : PO X none (TOn c fun _ μ => .ok none μ) := po_none.imp fun σ H Q w => by
  obtain ⟨S, γ, μ, g, h⟩ := w
  exact h S H g Step.refl
theorem sndO_some (ha : PE X a (TEn c sa ra)) : PO X (some a) (TOn c fun γ μ => (ra γ μ).bind intR) := (po_some (PEweak ha)).imp fun σ H Q w => by
  obtain ⟨S, γ, μ, g, h⟩ := w
  rw [R.All_bind] at h
  refine ⟨S, γ, μ, g, h.mono (fun d μ1 h => ?_) fun _ _ _ w => w⟩
  intro S1 v H1 g1 s1 r1
  cases d with
  | int j => exact ⟨j, r1, h S1 H1 g1 s1⟩
  | _ => exact h.elim
theorem snd_sl (hK : X.K = c.K) {lo hi : Option Expr} {rl rh : Ga → Sto → R (Option Int)} {p2 : Pos} (ha : PE X a (TEn c sa ra)) (hl : PO X lo (TOn c rl)) (hh : PO X hi (TOn c rh)) :
    PE X (.Subscript a (.Slice lo hi none p2) pos) (TEn c true fun γ μ => (ra γ μ).bind fun x μ => (rl γ μ).bind fun l μ => (rh γ μ).bind fun h μ => orO (slice x l h) (slice (dr μ x) l h) μ) := by
  obtain ⟨r, h1, h2⟩ := sl_all (X := X) (c := c) hK
  refine (pe_slice h1 (PEweak ha) hl hh).imp fun σ H Q w => ?_
  obtain ⟨S, γ, μ, g, h⟩ := w
  rw [R.All_bind] at h
  refine ⟨S, γ, μ, g, h.mono (fun d μ1 h => ?_) fun _ _ _ w => w⟩
  intro S1 v H1 g1 s1 r1
  rw [R.All_bind] at h
  refine ⟨S1, γ, μ1, g1, h.mono (fun l μ2 h => ?_) fun _ _ _ w => w⟩
  intro S2 H2 g2 s2
  rw [R.All_bind] at h
  refine ⟨S2, γ, μ2, g2, h.mono (fun u μ3 h => ?_) fun _ _ _ w => w⟩
  intro S3 H3 g3 s3
  have rz := RelW.zero (RelW.kp (s3.kp g2.st.dm) s3.kpD (RelW.kp (s2.kp g1.st.dm) s2.kpD r1))
  have h := Aft.step h ((s1.trans s2).trans s3)
  cases z : slice d l u with
  | some d' => rw [z] at h; exact h2 S3 γ μ3 σ H3 d v l u Q g3 rz (by rw [z]; exact h)
  | none => rw [z] at h; exact h2 S3 γ μ3 σ H3 _ v l u Q g3 (rz.dr g3) h
/-- a built-in by its name -/
theorem snd_bi (hK : X.K = c.K) (hc : X.calm = true) (bi : Bi) {e : Expr} {p : Pos} (hg : Gl X (biName bi)) (hm : X.mg (biName bi) = none) (ha : PA X (e :: es) (TAn c false rs)) (hs : (e :: es).all nst = true) :
    PE X (.Call (.Name (biName bi) p) (e :: es) [] pos) (TEn c true fun γ μ => (rs γ μ).bind fun xs μ => orO (builtin bi xs) (builtin bi (xs.map (dr μ))) μ) := by
  obtain ⟨r, h1, h2⟩ := op_bi (X := X) (c := c) hK hc bi
  simp only [List.all_cons, Bool.and_eq_true] at hs
  have hb := bi_boot bi
  have key : PE X (.Call (.Name (biName bi) p) (e :: es) [] pos) (tCB r (TAn c false rs)) := by
    cases bi <;> first
      | exact pe_callB h1 hg hm hb ha (by decide +kernel) (by decide +kernel) (star_cons hs.1) (star_any hs.2)
      | exact pe_callTy h1 hg hm hb ha (by decide +kernel) (by decide +kernel) (star_cons hs.1) (star_any hs.2)
  exact key.imp fun _ _ _ w => readA h2.dr w
/-- a method of a text -/
theorem snd_mt (hK : X.K = c.K) (m : Mt) {apos : Pos} (ha : PE X a (TEn c sa ra)) (hb : PE X b (TEn c sb rb)) (hs : nst b = true) (hn : noCall a = true) (hl : (apos.endLine == pos.line) = true) :
    PE X (.Call (.Attribute a (mtName m) apos) [b] [] pos) (TEn c true fun γ μ => (ra γ μ).bind fun x μ => if isStr x then (rb γ μ).bind fun y μ => ofO (mt1 m x y) μ else .fail) := by
  obtain ⟨r, h1, h2⟩ := op_mt (X := X) (c := c) hK m
  have key : PE X (.Call (.Attribute a (mtName m) apos) [b] [] pos) (tM1 r (TEn c false ra) (TEn c false rb)) := by
    cases m with
    | join => exact pe_m1 F.slot_str_join F.type_str_join h1 (PEweak ha) (PEweak hb) (star_cons hs) (abase hn) hl
    | count => exact pe_m1 F.slot_str_count F.type_str_count h1 (PEweak ha) (PEweak hb) (star_cons hs) (abase hn) hl
  refine key.imp fun σ H Q w => ?_
  obtain ⟨S, γ, μ, g, h⟩ := w
  rw [R.All_bind] at h
  refine ⟨S, γ, μ, g, h.mono (fun d μ1 h => ?_) fun _ _ _ w => w⟩
  intro S1 v H1 g1 s1 r1
  cases d with
  | str s =>
    have h : ((rb γ μ1).bind fun y μ => ofO (mt1 m (.str s) y) μ).All (Aft c true S μ H γ σ Q) c.V := h
    rw [R.All_bind] at h
    refine ⟨⟨_, r1.1⟩, S1, γ, μ1, g1, h.mono (fun e μ2 h => ?_) fun _ _ _ w => w⟩
    intro S2 w H2 g2 s2 r2
    exact h2 S2 γ μ2 σ H2 (.str s) e v w Q g2 (RelW.zero (RelW.kp (s2.kp g1.st.dm) s2.kpD r1)) (RelW.zero r2) (Aft.step h (s1.trans s2))
  | _ => exact h.elim
/-- {k: v} -/
theorem snd_dsp1 (ha : PE X a (TEn c true ra)) (hb : PE X b (TEn c true rb)) :
    PE X (.Dict [some a] [b] pos) (TEn c true fun γ μ => (ra γ μ).bind fun x μ => (rb γ μ).bind fun y μ => match keyD x with | some _ => .ok (.dic [(x, y)]) μ | none => .fail) := by
  refine (pe_fz (pe_disp (pps_cons ha hb pps_nil) rfl rfl (by simp) (by simp))).imp fun σ H Q w => ?_
  obtain ⟨S, γ, μ, g, h⟩ := w
  intro p hp
  obtain ⟨g0, s0, mp, np⟩ := open_new g (HO.dK []) hp
  rw [R.All_bind] at h
  refine ⟨_, γ, μ, g0, h.mono (fun d μ1 h => ?_) fun _ _ _ w => w⟩
  intro S1 v H1 g1 s1 r1
  rw [R.All_bind] at h
  refine ⟨S1, γ, μ1, g1, h.mono (fun e μ2 h => ?_) fun _ _ _ w => w⟩
  intro S2 w H2 g2 s2 r2
  have s02 := s1.trans s2
  have hp2 : H2 p = some (.dK []) := s02.keep p _ upd_same mp
  cases hk : keyD d with
  | none => rw [hk] at h; exact h.elim
  | some k =>
    rw [hk] at h
    have r1' : Rel c.K S2 H2 d v := Rel.kp (s2.kp g1.st.dm) d v r1
    have hv : v = kV k := by
      cases d with
      | int i => cases hk; exact r1'
      | str t => cases hk; exact r1'.1
      | _ => cases hk
    have mp2 : μ2 p = none := by
      cases e2 : μ2 p with
      | none => rfl
      | some ob =>
        rcases s02.dsub p (by rw [e2]; exact fun z => nomatch z) with z | z
        · exact absurd mp z
        · rw [upd_same] at z; cases z
    refine ⟨hp2, [(k, w)], by rw [List.map_cons, List.map_nil, hv], by simp, p, _, rfl, upd_same, trivial, fun od => ?_⟩
    rw [upd_upd]
    have sp2 : S2 p := s02.sup p (.inr rfl)
    have sA := (s0.trans s02).poke (o := HO.frz od (HO.dK (mergeK [] [(k, w)]))) hp
    have gA := g2.poke (o := HO.frz od (HO.dK (mergeK [] [(k, w)]))) sp2 mp2 (g.h0 hp) (g.own_ne hp)
    obtain ⟨gB, sB⟩ := g.give gA sA hp mp2
    refine h _ (.ref p) _ gB sB ⟨p, _, rfl, ⟨od, upd_same⟩, fun z => z.2 rfl, k, w, [], rfl, ⟨hk, okK_of r1', ?_⟩, rfl⟩
    refine Rel.kp (S := S2) (H := H2) ⟨fun a u h n => ?_, fun a z => .inl z.1⟩ e w r2
    rw [upd_ne (fun e => n (by rw [e]; exact sp2))]; exact h
end
/-! {k: v, ..} -/
section
variable {c : Ct} {X : Cx} {pos : Pos}
abbrev DR := Ga → Sto → R D
def dPs : List (DR × DR) → Ga → Sto → R (List (D × D))
  | [], _, μ => .ok [] μ
  | q :: r, γ, μ => ((q.1 γ μ).bind fun x μ => (q.2 γ μ).bind fun y μ => .ok (x, y) μ).bind fun p μ => (dPs r γ μ).bind fun ps μ => .ok (p :: ps) μ
def Rel2 (K : PySem.W.Frag) (S : Sa) (H : Hp) : List (D × D) → List (V × V) → Prop
  | [], vs => vs = []
  | q :: r, vs => ∃ k v ws, vs = (k, v) :: ws ∧ Rel K S H q.1 k ∧ Rel K S H q.2 v ∧ Rel2 K S H r ws
theorem tPairs_of {γ : Ga} {σ : L2.St} : ∀ (l : List (DR × DR)) {S : Sa} {μ : Sto} {H : Hp} {Q : List (V × V) → Hp → Prop}, Good c S γ μ σ H →
    (dPs l γ μ).All (fun ps μ' => ∀ S' vs H', Good c S' γ μ' σ H' → Step S μ H S' μ' H' → Rel2 c.K S' H' ps vs → Q vs H') c.V → tPairs (l.map fun q => (TEn c true q.1, TEn c true q.2)) σ H Q
  | [], S, μ, H, Q, g, h => h S [] H g Step.refl rfl
  | (a, b) :: l, S, μ, H, Q, g, h => by
    unfold dPs at h
    rw [R.All_bind, R.All_bind] at h
    refine ⟨S, γ, μ, g, h.mono (fun d μ1 h => ?_) fun _ _ _ w => w⟩
    intro S1 v H1 g1 s1 r1
    rw [R.All_bind] at h
    refine ⟨S1, γ, μ1, g1, h.mono (fun e μ2 h => ?_) fun _ _ _ w => w⟩
    intro S2 w H2 g2 s2 r2
    have h : ((dPs l γ μ2).bind fun ps μ => R.ok ((d, e) :: ps) μ).All _ c.V := h
    rw [R.All_bind] at h
    refine tPairs_of l g2 (h.mono (fun ps μ3 h => ?_) fun _ _ _ w => w)
    intro S3 vs H3 g3 s3 r3
    have k23 := s3.kp g2.st.dm
    exact h S3 ((v, w) :: vs) H3 g3 ((s1.trans s2).trans s3) ⟨v, w, vs, rfl, Rel.kp k23 d v (Rel.kp (s2.kp g1.st.dm) d v r1), Rel.kp k23 e w r2, r3⟩
theorem put_new {kvs : List (Key × V)} {k : Key} {v : V} (h : k ∉ kvs.map (·.1)) : putK kvs k v = kvs ++ [(k, v)] := by
  unfold putK
  rw [if_neg]
  intro z
  rw [List.any_eq_true] at z
  obtain ⟨q, hq, e⟩ := z
  exact h (List.mem_map.mpr ⟨q, hq, of_decide_eq_true e⟩)
theorem merge_new : ∀ (more kvs : List (Key × V)), ((kvs ++ more).map (·.1)).Nodup → mergeK kvs more = kvs ++ more
  | [], kvs, _ => by rw [List.append_nil]; rfl
  | p :: r, kvs, h => by
    show mergeK (putK kvs p.1 p.2) r = _
    have hn : p.1 ∉ kvs.map (·.1) := by
      rw [List.map_append, List.map_cons, List.nodup_append] at h
      intro z
      exact h.2.2 _ z _ List.mem_cons_self rfl
    rw [put_new hn, merge_new r (kvs ++ [(p.1, p.2)]) (by simpa using h)]
    simp
theorem dsp_rel {K : PySem.W.Frag} {S : Sa} {H : Hp} : ∀ {ps : List (D × D)} {ks : List Key} {vs : List (V × V)}, keysD ps = some ks → Rel2 K S H ps vs → ∃ kvs : List (Key × V), vs = kvs.map (fun kv => (kV kv.1, kv.2)) ∧ kvs.map (·.1) = ks ∧ kvs.length = ps.length ∧ RelP K S H ps kvs
  | [], ks, vs, h, r => by cases h; exact ⟨[], r, rfl, rfl, rfl⟩
  | q :: r, ks, vs, h, hr => by
    obtain ⟨k, v, ws, rfl, r1, r2, r3⟩ := hr
    unfold keysD at h
    cases e1 : keyD q.1 with
    | none => rw [e1] at h; cases h
    | some k1 =>
      cases e2 : keysD r with
      | none => rw [e1, e2] at h; cases h
      | some ks1 =>
        rw [e1, e2] at h
        cases h
        obtain ⟨kvs, h1, h2, h3, h4⟩ := dsp_rel e2 r3
        have hk : k = kV k1 := by
          cases hd : q.1 with
          | int i => rw [hd] at e1 r1; cases e1; exact r1
          | str t => rw [hd] at e1 r1; cases e1; exact r1.1
          | _ => rw [hd] at e1; cases e1
        exact ⟨(k1, v) :: kvs, by rw [h1, hk]; rfl, by rw [List.map_cons, h2], by simp [h3], k1, v, kvs, rfl, (by obtain ⟨qa, qb⟩ := q; exact ⟨e1, okK_of r1, r2⟩), h4⟩
theorem dPs_len : ∀ (l : List (DR × DR)) (γ : Ga) (μ : Sto) {P : List (D × D) → Sto → Prop}, (dPs l γ μ).All P c.V → (dPs l γ μ).All (fun ps μ => ps.length = l.length ∧ P ps μ) c.V
  | [], γ, μ, P, h => ⟨rfl, h⟩
  | q :: r, γ, μ, P, h => by
    unfold dPs at h ⊢
    rw [R.All_bind] at h ⊢
    refine h.mono (fun p μ1 h => ?_) fun _ _ _ w => w
    rw [R.All_bind] at h ⊢
    exact (dPs_len r γ μ1 h).mono (fun ps μ2 h => ⟨by simp [h.1], h.2⟩) fun _ _ _ w => w
theorem snd_dsp (l : List (DR × DR)) {keys : List (Option Expr)} {values : List Expr} (hp : PPs X pos keys values (l.map fun q => (TEn c true q.1, TEn c true q.2))) (hall : keys.all (·.isSome) = true) (hl : keys.length = values.length) (h0 : keys ≠ []) (h15 : keys.length ≤ 15) (hkl : keys.length = l.length) :
    PE X (.Dict keys values pos) (TEn c true fun γ μ => (dPs l γ μ).bind dspR) := by
  refine (pe_fz (pe_disp hp hall hl h0 h15)).imp fun σ H Q w => ?_
  obtain ⟨S, γ, μ, g, h⟩ := w
  intro p hp
  obtain ⟨g0, s0, mp, np⟩ := open_new g (HO.dK []) hp
  rw [R.All_bind] at h
  refine tPairs_of l g0 ((dPs_len l γ μ h).mono (fun ps μ2 h => ?_) fun _ _ _ w => w)
  obtain ⟨hpl, h⟩ := h
  intro S2 vs H2 g2 s02 r2
  have hp2 : H2 p = some (.dK []) := s02.keep p _ upd_same mp
  unfold dspR at h
  cases hk : keysD ps with
  | none => rw [hk] at h; exact h.elim
  | some ks =>
    rw [hk] at h
    by_cases hn : ks.Nodup
    · simp only [hn, if_true] at h
      have h : Aft c true S μ H γ σ Q (.dic ps) μ2 := h
      obtain ⟨kvs, rfl, h2, h3, h4⟩ := dsp_rel hk r2
      have mp2 : μ2 p = none := by
        cases e2 : μ2 p with
        | none => rfl
        | some ob =>
          rcases s02.dsub p (by rw [e2]; exact fun z => nomatch z) with z | z
          · exact absurd mp z
          · rw [upd_same] at z; cases z
      refine ⟨hp2, kvs, rfl, by rw [h3, hpl]; omega, p, _, rfl, upd_same, trivial, fun od => ?_⟩
      rw [upd_upd]
      have em : mergeK [] kvs = kvs := by
        have := merge_new kvs [] (by rw [List.nil_append, h2]; exact hn)
        simpa using this
      rw [em]
      have sp2 : S2 p := s02.sup p (.inr rfl)
      have sA := (s0.trans s02).poke (o := HO.frz od (HO.dK kvs)) hp
      have gA := g2.poke (o := HO.frz od (HO.dK kvs)) sp2 mp2 (g.h0 hp) (g.own_ne hp)
      obtain ⟨gB, sB⟩ := g.give gA sA hp mp2
      refine h _ (.ref p) _ gB sB ⟨p, kvs, rfl, ⟨od, upd_same⟩, fun z => z.2 rfl, ?_⟩
      refine RelP.kp (S := S2) (H := H2) ⟨fun a u h n => ?_, fun a z => .inl z.1⟩ ps kvs h4
      rw [upd_ne (fun e => n (by rw [e]; exact sp2))]; exact h
    · simp only [hn, if_false] at h
      exact h.elim
end

/-! ### isinstance -/
theorem paired_map {α β γ : Type} {R : β → γ → Prop} {f : α → β} {g : α → γ} (h : ∀ a, R (f a) (g a)) : ∀ l : List α, PySem.Paired R (l.map f) (l.map g)
  | [] => .nil
  | a :: l => .cons (h a) (paired_map h l)
section
variable {c : Ct} {X : Cx} {a x : Expr} {sa : Bool} {ra : Ga → Sto → R D} {pos : Pos}
def tyStr (t : Ty) : Str := Str.ofString (tyName t)
def isTyN (t : Ty) : Expr → Bool
  | .Name y _ => decide (y = tyStr t)
  | _ => false
structure TyNm (X : Cx) (t : Ty) : Prop where
  gl : Gl X (tyStr t)
  mg : X.mg (tyStr t) = none
theorem pe_ty {t : Ty} {p : Pos} (h : TyNm X t) : PE X (.Name (tyStr t) p) (tC (.ty (tyName t))) :=
  pe_bltn h.gl h.mg (ty_boot t) rfl (by cases t <;> decide +kernel) (by cases t <;> decide +kernel)
theorem op1_isi {ts : List Ty} {S : Sa} {γ : Ga} {μ : Sto} {σ : L2.St} {H : Hp} {d : D} {v : V} {Q : VK} (g : Good c S γ μ σ H) (rd : RelW c.K T0 S H d v) (h : (ofO ((isTys d ts).map D.bl) μ).All (Aft c true S μ H γ σ Q) c.V) (ht : ts ≠ []) :
    ∃ n b, tyOf d = some n ∧ isTys d ts = some b ∧ TyX c.K H v (.type n) ∧ Aft c true S μ H γ σ Q (.bl b) μ := by
  obtain ⟨z, e, q⟩ := ofO_some h
  obtain ⟨b, e2, rfl⟩ := Option.map_eq_some_iff.mp e
  cases ts with
  | nil => exact absurd rfl ht
  | cons t ts =>
    have : ∃ b', isTy d t = some b' := by
      cases e3 : isTy d t with
      | none => unfold isTys at e2; rw [e3] at e2; cases e2
      | some b' => exact ⟨b', rfl⟩
    obtain ⟨b', e3⟩ := this
    obtain ⟨n, en, _⟩ := isTy_some e3
    exact ⟨n, b, en, e2, tyX_of en rd, q⟩
theorem snd_isi1 (hK : X.K = c.K) {t : Ty} {p p2 : Pos} (hg : Gl X "isinstance") (hm : X.mg "isinstance" = none) (ht : TyNm X t) (ha : PE X a (TEn c sa ra)) (hs : nst a = true) :
    PE X (.Call (.Name "isinstance" p) [a, .Name (tyStr t) p2] [] pos) (TEn c true fun γ μ => (ra γ μ).bind fun x μ => orO ((isTys x [t]).map .bl) ((isTys (dr μ x) [t]).map .bl) μ) := by
  refine (pe_callB (id := "isinstance") call_isi hg hm (by decide +kernel) (pa_cons (PEweak ha) (pa_cons (pe_ty ht) pa_nil (star_cons rfl)) (star_cons hs)) (by decide +kernel) (by decide +kernel) (star_cons hs) rfl).imp fun σ H Q w => ?_
  refine read1 (c := c) (r := fun x H1 Q => rIsi X.K [x, .ty (tyName t)] H1 Q) (Op1.dr (f := fun x => (isTys x [t]).map .bl) fun S γ μ σ H d v Q g rd h => ?_) w
  obtain ⟨n, b, en, e2, tx, q⟩ := op1_isi g rd h (by simp)
  have e3 := isTys_some (K := X.K) en e2
  refine ⟨v, .ty (tyName t), .type n, .type (tyName t), b, rfl, .ty _, by rw [hK]; exact tx, ?_, q S _ H g Step.refl rfl⟩
  have e4 : PySem.W.kitAny X.K (.type n) [.type (tyName t)] = some b := e3
  unfold PySem.W.kitAny at e4
  cases e5 : PySem.W.kitOne X.K (.type n) (.type (tyName t)) with
  | none => rw [e5] at e4; cases e4
  | some k =>
    rw [e5] at e4
    cases k with
    | true => exact e4
    | false => rw [← e4]; rfl
theorem pa_tys : ∀ {ts : List Ty} {es : List Expr}, (∀ t ∈ ts, TyNm X t) → (es.length = ts.length ∧ (es.zip ts).all (fun p => isTyN p.2 p.1) = true) → PA X es (fun _ H Q => Q (ts.map fun t => V.ty (tyName t)) H)
  | [], [], _, _ => pa_nil.imp fun _ _ _ w => w
  | [], _ :: _, _, h => absurd h.1 (by simp)
  | _ :: _, [], _, h => absurd h.1 (by simp)
  | t :: ts, e :: es, hn, h => by
    obtain ⟨h1, h2⟩ := h
    simp only [List.zip_cons_cons, List.all_cons, Bool.and_eq_true] at h2
    cases e with
    | Name y p =>
      have ey : y = tyStr t := of_decide_eq_true h2.1
      subst ey
      exact (pa_cons (pe_ty (hn t List.mem_cons_self)) (pa_tys (fun t' ht => hn t' (List.mem_cons_of_mem _ ht)) ⟨by simpa using h1, h2.2⟩) (star_cons rfl)).imp fun _ _ _ w => w
    | _ => exact absurd h2.1 (by simp [isTyN])
theorem snd_isiT (hK : X.K = c.K) {ts : List Ty} {es : List Expr} {p p2 : Pos} {k : Nat} (hg : Gl X "isinstance") (hm : X.mg "isinstance" = none) (ht : ∀ t ∈ ts, TyNm X t) (hne : ts ≠ []) (hl : ts.length ≤ 100) (hz : es.length = ts.length ∧ (es.zip ts).all (fun p => isTyN p.2 p.1) = true) (ha : PE X a (TEn c sa ra)) (hs : nst a = true) :
    PE X (.Call (.Name "isinstance" p) [a, .Tuple es k p2] [] pos) (TEn c true fun γ μ => (ra γ μ).bind fun x μ => orO ((isTys x ts).map .bl) ((isTys (dr μ x) ts).map .bl) μ) := by
  refine (pe_callB (id := "isinstance") call_isiT hg hm (by decide +kernel) (pa_cons (PEweak ha) (pa_cons (pe_tup (pa_tys ht hz)) pa_nil (star_cons rfl)) (star_cons hs)) (by decide +kernel) (by decide +kernel) (star_cons hs) rfl).imp fun σ H Q w => ?_
  refine read1 (c := c) (r := fun x H1 Q => (ts.map fun t => V.ty (tyName t)).length ≤ sizeLine ∧ ∀ q, H1 q = none → rIsiT X.K [x, .ref q] (upd H1 q (.tup (ts.map fun t => V.ty (tyName t)))) Q) (Op1.dr (f := fun x => (isTys x ts).map .bl) fun S γ μ σ H d v Q g rd h => ?_) w
  refine ⟨by rw [List.length_map]; exact big_line (by omega), fun q hq => ?_⟩
  obtain ⟨s, ok⟩ := step_new (c := c) (o := HO.tup (ts.map fun t => V.ty (tyName t))) g.st hq
  have g' := g.step s ok
  have k0 : Kp T0 T0 H (upd H q (HO.tup (ts.map fun t => V.ty (tyName t)))) := ⟨fun a u h _ => by rw [upd_ne (ne_of_none h hq)]; exact h, fun a h => h.elim⟩
  obtain ⟨n, b, en, e2, tx, q2⟩ := op1_isi g' (RelW.kp (s.kp g.st.dm) k0 rd) (Aft.step h s) hne
  exact ⟨v, q, _, .type n, _, b, rfl, upd_same, paired_map (g := fun t => Value.type (tyName t)) (fun t => .ty _) ts, by rw [hK]; exact tx, isTys_some en e2, q2 S _ _ g' Step.refl rfl⟩
end

/-! ### calls of defs -/
/-- a def's promise -/
def postF (K : PySem.W.Frag) (fr : Bool) (S : Sa) (μ : Sto) (H : Hp) (Q : VK) : D → Sto → Prop := fun d μ' =>
  match fr with
  | true => ∀ S' p vs H' xs, d = .lst xs → Step S μ H S' μ' H' → StoOk K S' μ' H' → H p = none → S' p → μ' p = none → H' p = some (.lst vs) → Rels K S' H' xs vs → Q (.ref p) H'
  | false => ∀ S' v H', Step S μ H S' μ' H' → StoOk K S' μ' H' → Rel K S' H' d v → Q v H'
def postX (K : PySem.W.Frag) (S : Sa) (μ : Sto) (H : Hp) (E : XK) : Xc → Ga → Sto → Prop := fun x _ μ' => ∀ S' H' cls d, Step S μ H S' μ' H' → StoOk K S' μ' H' → XRel K S' H' x cls d → E cls d H'
def spF (K : PySem.W.Frag) (cl : List D → Sto → R D) (np : Nat) (fr : Bool) : Sp := fun vs H Q E => vs.length = np ∧ ∃ S μ ds, StoOk K S μ H ∧ Rels K S H ds vs ∧ (cl ds μ).All (postF K fr S μ H Q) (postX K S μ H E)
theorem All_back {α : Type} {r : R α} {γ : Ga} {Q : α → Sto → Prop} {W : Xc → Ga → Sto → Prop} (h : (r.back γ).All Q W) : r.All Q fun x _ μ => W x γ μ := by
  induction r with
  | ok a μ => exact h
  | exc _ _ _ => exact h
  | fail => exact h
  | any P k ih => exact fun p hp => ih p (h p hp)
theorem arr_vals : ∀ {pm : List Nat} {vs : List V} {us : List Value}, Vals vs us → Vals (arr pm vs) (arr pm us)
  | [], _, _, _ => .nil
  | j :: pm, vs, us, r => by
    unfold arr
    rw [List.filterMap_cons, List.filterMap_cons]
    cases e : vs[j]? with
    | none => rw [r.none_of e]; exact arr_vals r
    | some v => obtain ⟨u, e2, q⟩ := r.get e; rw [e2]; exact .cons q (arr_vals r)
theorem arr_rels {K : PySem.W.Frag} {S : Sa} {H : Hp} : ∀ {pm : List Nat} {ds : List D} {vs : List V}, Rels K S H ds vs → Rels K S H (arr pm ds) (arr pm vs)
  | [], _, _, _ => rfl
  | j :: pm, ds, vs, r => by
    unfold arr
    rw [List.filterMap_cons, List.filterMap_cons]
    cases e : ds[j]? with
    | none =>
      have : vs[j]? = none := by
        rw [List.getElem?_eq_none_iff] at e ⊢
        rw [r.length]; exact e
      rw [this]; exact arr_rels r
    | some d => obtain ⟨v, e2, q⟩ := r.get e; rw [e2]; exact ⟨v, _, rfl, q, arr_rels r⟩
section
variable {c : Ct} {X : Cx} {es : List Expr} {kws : List Keyword} {rs rk : Ga → Sto → R (List D)} {pos p : Pos} {x : Str} {k : Nat} {f : Addr} {fd : FuncData} {ps : List Str} {sp : Sp} {pm : List Nat} {t tk : TA}
def tCallG (W : WX) (pm : List Nat) (na nk : Nat) (sp : Sp) (t tk : TA) : TE := fun σ H Q => t σ H fun vs H1 => tk σ H1 fun zs H2 => vs.length = na ∧ zs.length = nk ∧ sp (arr pm (vs ++ zs)) H2 Q (WE W σ)
theorem run_G {W : WX} {na : Nat} {pins : List (Addr × Obj)} {σ : L2.St} {Q : VK} (tx : Takes X W) (F : FnOk X.prog X.w X.K X.mg X.base (L2.CX X.prog X.w) k f fd ps sp) (hr : Room k X.A)
    (hb : ∀ (s : Shared) (us ws : List Value), X.K.In s.heap → us.length = na → ws.length = kws.length → BindsTo s fd ⟨us, (kwN kws).zip ws⟩ (ps.zip (arr pm (us ++ ws)))) :
    ∀ (us ws : List Value) (vs zs : List V) (s2 : Shared) (H2 : Hp), Inv X pins σ H2 s2 → Vals vs us → Vals zs ws → vs.length = na ∧ zs.length = kws.length ∧ sp (arr pm (vs ++ zs)) H2 Q (WE W σ) →
      wpAny (model X.prog X.w) X.A (PySem.call (.ref f) us ((kwN kws).zip ws)) (EP X pins σ Q) X.xe s2 := by
  intro us ws vs zs s2 H2 I2 r rz q
  obtain ⟨l1, l2, q⟩ := q
  refine wpAny_call (codeAny_mono (F.run X.A X.stack s2 H2 ⟨us, (kwN kws).zip ws⟩ (arr pm (us ++ ws)) (arr pm (vs ++ zs)) Q (WE W σ) hr I2.env0 (hb s2 us ws I2.kIn (by rw [← r.length]; exact l1) (by rw [← rz.length]; exact l2)) (arr_vals (r.append rz)) q) fun r s' hq => ?_)
  cases r with
  | error e => exact passAt tx σ pins H2 s2 e s' I2 hq
  | ok fl =>
    cases fl with
    | ret u => exact I2.after hq
    | next => exact False.elim hq
    | brk => exact False.elim hq
    | cont => exact False.elim hq
theorem pe_callG {W : WX} {e : Expr} (tx : Takes X W) (F : FnOk X.prog X.w X.K X.mg X.base (L2.CX X.prog X.w) k f fd ps sp) (hr : Room k X.A) (hg : Gl X x) (hm : X.mg x = some (.ref f)) (hk : PySem.W.keepIn X.K (.ref f) = true)
    (hb : ∀ (s : Shared) (us ws : List Value), X.K.In s.heap → us.length = (e :: es).length → ws.length = kws.length → BindsTo s fd ⟨us, (kwN kws).zip ws⟩ (ps.zip (arr pm (us ++ ws))))
    (ha : PA X (e :: es) t) (hkw : PK X kws tk) (hs : (e :: es).all nst = true) (hkk : kwOk kws = true) (hdb : (x == ("__debug__" : Str)) = false) : PE X (.Call (.Name x p) (e :: es) kws pos) (tCallG W pm (e :: es).length kws.length sp t tk) := by
  refine ⟨fun pins s σ H Q I h => ?_⟩
  refine wpAny_Call_Name_kw (ld_glob I hg hm ?_ hdb)
  obtain ⟨k1, k2, k3, k4⟩ := kw_all (pos := pos) (env := X.env) hkk
  have hpl : ((backTo pos (starEach (e :: es) X.env)).any (·.1) || (backToKw pos (keywordEach kws X.env)).any (·.1.isNone)) = false := by rw [star_any hs, k2]; rfl
  have hs' : nst e = true := by simp only [List.all_cons, Bool.and_eq_true] at hs; exact hs.1
  refine PySem.W.callWith_KW (h₀ := X.base) I.ok.mod.kin hk k1 (thn (ha.run pos pins s σ H _ I h) fun us s1 ⟨vs, H1, I1, r, q⟩ => ?_) hpl (star_cons hs')
  refine thn (hkw.run pos pins s1 σ H1 _ I1 q) fun ws s2 ⟨zs, H2, I2, rz, q2⟩ => ⟨I2.kIn, ?_⟩
  rw [k3]
  exact run_G tx F hr hb us ws vs zs s2 H2 I2 r rz q2
theorem pe_callG0 {W : WX} (tx : Takes X W) (F : FnOk X.prog X.w X.K X.mg X.base (L2.CX X.prog X.w) k f fd ps sp) (hr : Room k X.A) (hg : Gl X x) (hm : X.mg x = some (.ref f)) (hk : PySem.W.keepIn X.K (.ref f) = true)
    (hb : ∀ (s : Shared) (us ws : List Value), X.K.In s.heap → us.length = 0 → ws.length = kws.length → BindsTo s fd ⟨us, (kwN kws).zip ws⟩ (ps.zip (arr pm (us ++ ws))))
    (hkw : PK X kws tk) (hkk : kwOk kws = true) (hdb : (x == ("__debug__" : Str)) = false) : PE X (.Call (.Name x p) [] kws pos) (tCallG W pm 0 kws.length sp tNil tk) := by
  refine ⟨fun pins s σ H Q I h => ?_⟩
  refine wpAny_Call_Name_kw (ld_glob I hg hm ?_ hdb)
  obtain ⟨k1, k2, k3, k4⟩ := kw_all (pos := pos) (env := X.env) hkk
  have hpl : ((backTo pos (starEach [] X.env)).any (·.1) || (backToKw pos (keywordEach kws X.env)).any (·.1.isNone)) = false := by rw [k2]; rfl
  refine PySem.W.callWith_KW0 (h₀ := X.base) I.ok.mod.kin hk k1 (thn (hkw.run pos pins s σ H _ I h) fun ws s2 ⟨zs, H2, I2, rz, q2⟩ => ⟨I2.kIn, ?_⟩) hpl
  rw [k3]
  exact run_G tx F hr hb [] ws [] zs s2 H2 I2 .nil rz q2
/-- the two modes -/
theorem callG_of {na nk : Nat} {cl : List D → Sto → R D} {np : Nat} {σ : L2.St} {H : Hp} {Q : VK} (fr : Bool) (hnp : ∀ (ds : List D), ds.length = na + nk → (arr pm ds).length = np)
    (hla : ∀ γ μ, (rs γ μ).Sat fun ds => ds.length = na) (hlk : ∀ γ μ, (rk γ μ).Sat fun ds => ds.length = nk)
    (h : ∃ S γ μ, Good c S γ μ σ H ∧ ((rs γ μ).bind fun xs μ => (rk γ μ).bind fun ys μ => (cl (arr pm (xs ++ ys)) μ).back γ).All (match fr with | true => AftF c S μ H γ σ Q | false => Aft c true S μ H γ σ Q) c.V) :
    tCallG (WV c) pm na nk (spF c.K cl np fr) (TAn c true rs) (TAn c true rk) σ H Q := by
  obtain ⟨S, γ, μ, g, h⟩ := h
  rw [R.All_bind] at h
  refine ⟨S, γ, μ, g, (h.both (hla γ μ)).mono (fun xs μ1 h => ?_) fun _ _ _ w => w⟩
  obtain ⟨h, lx⟩ := h
  intro S1 vs H1 g1 s1 r1
  rw [R.All_bind] at h
  refine ⟨S1, γ, μ1, g1, (h.both (hlk γ μ1)).mono (fun ys μ2 h => ?_) fun _ _ _ w => w⟩
  obtain ⟨h, ly⟩ := h
  intro S2 zs H2 g2 s2 r2
  have r1' := Rels.kp (s2.kp g1.st.dm) _ _ r1.rels
  have r2' := r2.rels
  have hh := All_back h
  have s12 := s1.trans s2
  refine ⟨by rw [r1'.length]; exact lx, by rw [r2'.length]; exact ly, ?_, S2, μ2, _, g2.st, arr_rels (r1'.append r2'), hh.mono (fun d μ3 q => ?_) fun x _ μ3 w S' H' cls dd st ok xr => ⟨S', γ, μ3, x, g2.step st ok, xr, w⟩⟩
  · rw [(arr_rels (r1'.append r2')).length]
    exact hnp _ (by rw [List.length_append, lx, ly])
  · cases fr with
    | true =>
      intro S' p vs H' xs e st ok hp sp mp hp' r
      exact q S' p vs H' xs e (g2.step st ok) (s12.trans st) (none_back s12.there hp) sp mp hp' r
    | false =>
      intro S' v H' st ok r
      exact q S' v H' (g2.step st ok) (s12.trans st) r
end
end Bs
/-! Bs: targets, sources of loops, comprehensions. -/
namespace Bs
open PySem L2
/-! ### targets -/
section
variable {c : Ct} {S S' : Sa} {γ γ' : Ga} {μ μ' : Sto} {σ : L2.St} {H H' : Hp}
theorem get_set {α : Type} (l : List α) (i j : Nat) (a b : α) (h : (l.set i a)[j]? = some b) : (j = i ∧ b = a ∧ i < l.length) ∨ (j ≠ i ∧ l[j]? = some b) := by
  rw [List.getElem?_set] at h
  by_cases e : i = j
  · rw [if_pos e] at h
    by_cases l' : i < l.length
    · rw [if_pos l'] at h; cases h; exact .inl ⟨e.symm, rfl, l'⟩
    · rw [if_neg l'] at h; cases h
  · rw [if_neg e] at h; exact .inr ⟨fun z => e z.symm, h⟩
theorem Good.set (g : Good c S γ μ σ H) (i : Nat) {d : D} {v : V} (r : Rel c.K S H d v) : Good c S (γ.set i (.val d)) μ (σ.set i (some v)) H := by
  refine ⟨by rw [List.length_set, List.length_set]; exact g.len, fun j s e => ?_, fun j k o o' p e1 e2 e3 e4 => ?_, g.st, g.s0, g.ext, g.fr, g.md, g.kt⟩
  · rcases get_set _ _ _ _ _ e with ⟨rfl, rfl, hl⟩ | ⟨hn, e⟩
    · exact ⟨v, by rw [List.getElem?_set_self (by rw [← g.len]; exact hl)], r⟩
    · have h := g.sl j s e
      cases s with
      | un => trivial
      | val d => obtain ⟨w, e1, r⟩ := h; exact ⟨w, by rw [List.getElem?_set_ne (Ne.symm hn)]; exact e1, r⟩
      | own o => obtain ⟨p, e1, r⟩ := h; exact ⟨p, by rw [List.getElem?_set_ne (Ne.symm hn)]; exact e1, r⟩
  · rcases get_set _ _ _ _ _ e1 with ⟨_, z, _⟩ | ⟨hn, e1⟩
    · cases z
    rcases get_set _ _ _ _ _ e2 with ⟨_, z, _⟩ | ⟨hn2, e2⟩
    · cases z
    rw [List.getElem?_set_ne (Ne.symm hn)] at e3
    rw [List.getElem?_set_ne (Ne.symm hn2)] at e4
    exact g.ap j k o o' p e1 e2 e3 e4
/-- a slot forgotten -/
theorem Good.forget (g : Good c S γ μ σ H) (i : Nat) (x : Option V) : Good c S (γ.set i .un) μ (σ.set i x) H := by
  refine ⟨by rw [List.length_set, List.length_set]; exact g.len, fun j s e => ?_, fun j k o o' p e1 e2 e3 e4 => ?_, g.st, g.s0, g.ext, g.fr, g.md, g.kt⟩
  · rcases get_set _ _ _ _ _ e with ⟨rfl, rfl, hl⟩ | ⟨hn, e⟩
    · trivial
    · have h := g.sl j s e
      cases s with
      | un => trivial
      | val d => obtain ⟨w, e1, r⟩ := h; exact ⟨w, by rw [List.getElem?_set_ne (Ne.symm hn)]; exact e1, r⟩
      | own o => obtain ⟨p, e1, r⟩ := h; exact ⟨p, by rw [List.getElem?_set_ne (Ne.symm hn)]; exact e1, r⟩
  · rcases get_set _ _ _ _ _ e1 with ⟨_, z, _⟩ | ⟨hn, e1⟩
    · cases z
    rcases get_set _ _ _ _ _ e2 with ⟨_, z, _⟩ | ⟨hn2, e2⟩
    · cases z
    rw [List.getElem?_set_ne (Ne.symm hn)] at e3
    rw [List.getElem?_set_ne (Ne.symm hn2)] at e4
    exact g.ap j k o o' p e1 e2 e3 e4
theorem Good.wipe (g : Good c S γ μ σ H) : ∀ t : List Nat, Good c S (wipeG γ t) μ (L2.wipe σ t) H
  | [] => g
  | i :: t => (Good.wipe g t).forget i none
theorem set_self_un {γ : Ga} {i : Nat} : γ.set i .un = γ ∨ True := .inr trivial
/-- the slots alone forgotten (the state keeps what it has) -/
theorem Good.forgetG (g : Good c S γ μ σ H) (i : Nat) : Good c S (γ.set i .un) μ σ H := by
  refine ⟨by rw [List.length_set]; exact g.len, fun j s e => ?_, fun j k o o' p e1 e2 e3 e4 => ?_, g.st, g.s0, g.ext, g.fr, g.md, g.kt⟩
  · rcases get_set _ _ _ _ _ e with ⟨rfl, rfl, hl⟩ | ⟨hn, e⟩
    · trivial
    · exact g.sl j s e
  · rcases get_set _ _ _ _ _ e1 with ⟨_, z, _⟩ | ⟨hn, e1⟩
    · cases z
    rcases get_set _ _ _ _ _ e2 with ⟨_, z, _⟩ | ⟨hn2, e2⟩
    · cases z
    exact g.ap j k o o' p e1 e2 e3 e4
theorem Good.wipeG (g : Good c S γ μ σ H) : ∀ t : List Nat, Good c S (Bs.wipeG γ t) μ σ H
  | [] => g
  | i :: t => (Good.wipeG g t).forgetG i
end
/-- the same apart from t -/
def Fr (t : List Nat) (σ σ' : L2.St) : Prop := σ'.length = σ.length ∧ ∀ j, j ∉ t → σ'[j]? = σ[j]?
theorem Fr.refl {t : List Nat} {σ : L2.St} : Fr t σ σ := ⟨rfl, fun _ _ => rfl⟩
theorem wipe_get {σ : L2.St} {j : Nat} : ∀ {t : List Nat}, (L2.wipe σ t)[j]? = if j ∈ t then (if j < σ.length then some none else none) else σ[j]?
  | [] => by simp [L2.wipe]
  | i :: t => by
    unfold L2.wipe
    rw [List.getElem?_set, L2.wipe_length, wipe_get (t := t)]
    by_cases e : i = j
    · subst e; simp
    · rw [if_neg e]
      have : (j ∈ i :: t) ↔ j ∈ t := by simp [Ne.symm e]
      simp only [this]
theorem Fr.wipe {t u : List Nat} {σ σ' : L2.St} (h : Fr t σ σ') (hs : ∀ j, j ∈ t → j ∈ u) : L2.wipe σ' u = L2.wipe σ u := by
  apply List.ext_getElem?
  intro j
  rw [wipe_get, wipe_get, h.1]
  by_cases e : j ∈ u
  · rw [if_pos e, if_pos e]
  · rw [if_neg e, if_neg e]; exact h.2 j fun z => e (hs j z)
theorem wipe_wipe {t : List Nat} {σ : L2.St} : L2.wipe (L2.wipe σ t) t = L2.wipe σ t := by
  apply List.ext_getElem?
  intro j
  rw [wipe_get, wipe_get, L2.wipe_length]
  by_cases e : j ∈ t
  · rw [if_pos e, if_pos e]
  · rw [if_neg e, if_neg e]
def TGn (c : Ct) (t : List Nat) : TG := fun v σ H Q => ∃ S γ μ d γ', Good c S γ μ σ H ∧ Rel c.K S H d v ∧ setT γ t d = some γ' ∧ ∀ σ', Good c S γ' μ σ' H → Fr t σ σ' → Q σ' H
def foldT (γ : Ga) (is : List Nat) (ds : List D) : Ga := (is.zip ds).foldl (fun γ (p : Nat × D) => γ.set p.1 (.val p.2)) γ
def TGsn (c : Ct) (is : List Nat) : TGs := fun vs σ H Q => ∃ S γ μ ds, Good c S γ μ σ H ∧ Rels c.K S H ds vs ∧ is.length = ds.length ∧ ∀ σ', Good c S (foldT γ is ds) μ σ' H → Fr is σ σ' → Q σ' H
/-- a name that may be stored -/
structure Sto1 (X : Cx) (i : Nat) (x : Str) : Prop where
  ix : X.N[i]? = some x
  loc : Loc X.env.scope x
  fn : X.fn x = true ∨ X.env.scope.names.lookup x = some .local
def nmsIs (X : Cx) : List Nat → List Expr → Prop
  | [], es => es = []
  | i :: is, es => ∃ x p r, es = .Name x p :: r ∧ Sto1 X i x ∧ nmsIs X is r
section
variable {c : Ct} {X : Cx}
theorem _root_.L2.PG.imp {e : Expr} {t t' : TG} (h : PG X e t) (i : ∀ v σ H Q, t' v σ H Q → t v σ H Q) : PG X e t' := ⟨fun pins s σ H v u Q I r w => h.run pins s σ H v u Q I r (i v σ H Q w)⟩
theorem _root_.L2.PGs.imp {e : List Expr} {t t' : TGs} (h : PGs X e t) (i : ∀ v σ H Q, t' v σ H Q → t v σ H Q) : PGs X e t' := ⟨fun pins s σ H v u Q I r w => h.run pins s σ H v u Q I r (i v σ H Q w)⟩
theorem fr_set {σ : L2.St} {i : Nat} {x : Option V} : Fr [i] σ (σ.set i x) := ⟨List.length_set .., fun j h => by rw [List.getElem?_set_ne (fun e => h (by rw [e]; exact List.mem_cons_self))]⟩
theorem Fr.trans {t u : List Nat} {σ σ1 σ2 : L2.St} (a : Fr t σ σ1) (b : Fr u σ1 σ2) : Fr (t ++ u) σ σ2 := ⟨b.1.trans a.1, fun j h => by
  rw [List.mem_append, not_or] at h; rw [b.2 j h.2, a.2 j h.1]⟩
theorem sndG_name (hN : X.N.Nodup) {i : Nat} {x : Str} {p : Pos} (h : Sto1 X i x) : PG X (.Name x p) (TGn c [i]) := by
  refine (pg_name hN h.ix h.loc h.fn).imp fun v σ H Q w => ?_
  obtain ⟨S, γ, μ, d, γ', g, r, e, q⟩ := w
  cases e
  exact q _ (g.set i r) fr_set
theorem sndGs (hN : X.N.Nodup) : ∀ {is : List Nat} {es : List Expr}, nmsIs X is es → PGs X es (TGsn c is) ∧ (assignEach es X.env).length = is.length ∧ (assignEach es X.env).findIdx? (·.1) = none
  | [], es, h => by
    cases (show es = [] from h)
    refine ⟨pgs_nil.imp fun vs σ H Q w => ?_, rfl, rfl⟩
    obtain ⟨S, γ, μ, ds, g, r, l, q⟩ := w
    cases ds with
    | nil => cases (show vs = [] from r); exact ⟨rfl, q σ g Fr.refl⟩
    | cons _ _ => cases l
  | i :: is, es, h => by
    obtain ⟨x, p, r, rfl, st, hr⟩ := h
    obtain ⟨h1, h2, h3⟩ := sndGs hN hr
    refine ⟨(pgs_cons (pg_name hN st.ix st.loc st.fn) h1 rfl).imp fun vs σ H Q w => ?_, ?_, ?_⟩
    · obtain ⟨S, γ, μ, ds, g, r, l, q⟩ := w
      cases ds with
      | nil => cases l
      | cons d ds =>
        obtain ⟨v, ws, rfl, r1, r2⟩ := r
        refine ⟨v, ws, rfl, S, γ.set i (.val d), μ, ds, g.set i r1, r2, by simpa using l, fun σ' g' f => q σ' g' ?_⟩
        exact (fr_set (i := i)).trans f
    · show (assignEach r X.env).length + 1 = is.length + 1
      rw [h2]
    · have hc : assignEach (.Name x p :: r) X.env = (false, assign (.Name x p) X.env) :: assignEach r X.env := rfl
      rw [hc, List.findIdx?_cons, h3]
      rfl
theorem sndG_tup (hK : X.K = c.K) (hc : X.calm = true) (hN : X.N.Nodup) {is : List Nat} {es : List Expr} {k : Nat} {p : Pos} (h : nmsIs X is es) (h2 : 2 ≤ is.length) : PG X (.Tuple es k p) (TGn c is) := by
  obtain ⟨h1, e1, e2⟩ := sndGs (c := c) hN h
  refine (pg_tup hc h1 e1 e2).imp fun v σ H Q w => ?_
  obtain ⟨S, γ, μ, d, γ', g, r, e, q⟩ := w
  match is, h2 with
  | i :: j :: is', _ =>
    cases d with
    | tup xs =>
      obtain ⟨a, vs, rfl, ht, r⟩ := r
      have e' : (if (i :: j :: is').length = xs.length then some (foldT γ (i :: j :: is') xs) else none) = some γ' := e
      by_cases l : (i :: j :: is').length = xs.length
      · rw [if_pos l] at e'; cases e'
        exact ⟨a, vs, rfl, by rw [hK]; exact ht.sq, by rw [r.length, l], S, γ, μ, xs, g, r, l, q⟩
      · rw [if_neg l] at e'; cases e'
    | _ => cases e
end

/-! ### sources -/
def Gd (c : Ct) (J : It) (ds : List D) (S : Sa) (H : Hp) : Prop := (∀ i, i < ds.length → J.go i H) ∧ J.stop ds.length H ∧ ∀ i x H', i < ds.length → J.yld i H x H' → (H' = H ∨ ∃ T u, H T = none ∧ H' = upd H T u) ∧ ∃ d, ds[i]? = some d ∧ Rel c.K S H' d x
def WkE (c : Ct) (J : It) (ds : List D) (S : Sa) (μ : Sto) (H : Hp) : Prop := ∀ S' μ' H', Step S μ H S' μ' H' → StoOk c.K S' μ' H' → Gd c J ds S' H'
def WkS (c : Ct) (J : It) (ds : List D) (S : Sa) (H : Hp) : Prop := ∀ S' H', Kp S S' H H' → (∀ a, S' a → H' a ≠ none) → Gd c J ds S' H'
def Wk (c : Ct) (st : Bool) (J : It) (ds : List D) (S : Sa) (μ : Sto) (H : Hp) : Prop := match st with
  | true => WkS c J ds S H
  | false => WkE c J ds S μ H
def TIn (c : Ct) (st : Bool) (r : Ga → Sto → R (List D)) : TI := fun σ H Q => ∃ S γ μ, Good c S γ μ σ H ∧ (r γ μ).All (fun ds μ' => ∀ S' J H', Good c S' γ μ' σ H' → Step S μ H S' μ' H' → Wk c st J ds S' μ' H' → Q J H') c.V
theorem Wk.weak {c : Ct} {st : Bool} {J : It} {ds : List D} {S : Sa} {μ : Sto} {H : Hp} (h : Wk c st J ds S μ H) (ok : ∀ a, Dm μ a → S a) : WkE c J ds S μ H := by
  cases st with
  | false => exact h
  | true => exact fun S' μ' H' s o => h S' H' (s.kp ok) o.sd
theorem _root_.L2.PI.imp {X : Cx} {tg e : Expr} {t t' : TI} (h : PI X tg e t) (i : ∀ σ H Q, t' σ H Q → t σ H Q) : PI X tg e t' := ⟨fun pins s σ H Q I w => h.run pins s σ H Q I (i σ H Q w)⟩
theorem src_of {K : PySem.W.Frag} {st : Bool} {T S : Sa} {H : Hp} {d : D} {v : V} {xs : List D} (h : Rl K st T S H d v) (e : items d = some xs) (ht : ∀ a, T a → S a) : ∃ k vs, Sk.val k v ∧ Sk.is K H k vs ∧ Rels K S H xs vs := by
  have h := Rl.weak h ht
  cases d with
  | lst ys => cases e; obtain ⟨a, vs, rfl, q, r⟩ := rw_lst h; exact ⟨.lst a, vs, rfl, q, r⟩
  | tup ys => cases e; obtain ⟨a, vs, rfl, q, r⟩ := rw_tup h; exact ⟨.tup a, vs, rfl, q, r⟩
  | str s => cases e; obtain ⟨rfl, _, hc⟩ := rw_str h; exact ⟨.txt ⟨s.toArray⟩, _, rfl, rfl, chars_rel s hc⟩
  | _ => cases e
/-- the source's own kind stays -/
theorem sk_same {K : PySem.W.Frag} {st : Bool} {T S T' S' : Sa} {H H' : Hp} {d : D} {v : V} {xs : List D} {k : Sk} {vs : List V} (h : Rl K st T S H d v) (h' : Rl K st T' S' H' d v) (e : items d = some xs) (ht' : ∀ a, T' a → S' a) (hv : Sk.val k v) (hk : Sk.is K H k vs) (ht : ∀ a, T a → S a)
    (hd : match d, k with | .lst _, .lst _ => True | .tup _, .tup _ => True | .str _, .txt _ => True | _, _ => False) : ∃ vs', Sk.is K H' k vs' ∧ Rels K S' H' xs vs' := by
  have h' := Rl.weak h' ht'
  cases d with
  | lst ys =>
    cases e
    cases k with
    | lst a => cases (show v = .ref a from hv); obtain ⟨a', vs', z, q, r⟩ := rw_lst h'; cases z; exact ⟨vs', q, r⟩
    | _ => exact hd.elim
  | tup ys =>
    cases e
    cases k with
    | tup a => cases (show v = .ref a from hv); obtain ⟨a', vs', z, q, r⟩ := rw_tup h'; cases z; exact ⟨vs', q, r⟩
    | _ => exact hd.elim
  | str s =>
    cases e
    cases k with
    | txt x => obtain ⟨z, _, hc⟩ := rw_str h'; cases (show v = .str x from hv); cases z; exact ⟨_, rfl, chars_rel s hc⟩
    | _ => exact hd.elim
  | _ => cases e
theorem src_of' {K : PySem.W.Frag} {st : Bool} {T S : Sa} {H : Hp} {d : D} {v : V} {xs : List D} (h : Rl K st T S H d v) (e : items d = some xs) (ht : ∀ a, T a → S a) : ∃ k, Sk.val k v ∧ (∃ vs, Sk.is K H k vs) ∧ ∀ T' S' H', Rl K st T' S' H' d v → (∀ a, T' a → S' a) → ∃ vs', Sk.is K H' k vs' ∧ Rels K S' H' xs vs' := by
  have h0 := Rl.weak h ht
  cases d with
  | lst ys =>
    obtain ⟨a, vs, ev, q, r⟩ := rw_lst h0
    exact ⟨.lst a, ev, ⟨vs, q⟩, fun T' S' H' h' ht' => sk_same h h' e ht' (k := .lst a) ev q ht trivial⟩
  | tup ys =>
    obtain ⟨a, vs, ev, q, r⟩ := rw_tup h0
    exact ⟨.tup a, ev, ⟨vs, q⟩, fun T' S' H' h' ht' => sk_same h h' e ht' (k := .tup a) ev q ht trivial⟩
  | str s =>
    obtain ⟨ev, _, hc⟩ := rw_str h0
    exact ⟨.txt ⟨s.toArray⟩, ev, ⟨_, rfl⟩, fun T' S' H' h' ht' => sk_same h h' e ht' (k := .txt ⟨s.toArray⟩) ev rfl ht trivial⟩
  | _ => cases e
theorem gd_walk {c : Ct} {J : It} {ds : List D} {S : Sa} {H : Hp} {vs : List V} {G : Hp → Prop} (w : Walk J vs.length G (YAt vs)) (hg : G H) (r : Rels c.K S H ds vs) : Gd c J ds S H := by
  refine ⟨fun i hi => w.goes i H (by rw [r.length]; exact hi) hg, by rw [← r.length]; exact w.stops H hg, fun i x H' hi y => ?_⟩
  obtain ⟨rfl, e⟩ := w.yields i H x H' (by rw [r.length]; exact hi) hg y
  obtain ⟨d, e1, q⟩ := r.get' e
  exact ⟨.inl rfl, d, e1, q⟩
theorem pair_rel {K : PySem.W.Frag} {S : Sa} {H : Hp} {d e : D} {x y : V} {T : Addr} (hT : H T = none) (hS : ¬ S T) (r : Rel K S H d x) (q : Rel K S H e y) : Rel K S (upd H T (.tup [x, y])) (.tup [d, e]) (.ref T) := by
  have k : Kp S S H (upd H T (.tup [x, y])) := ⟨fun a u h _ => by rw [upd_ne (ne_of_none h hT)]; exact h, fun a h => .inl h⟩
  exact ⟨T, [x, y], rfl, .inl ⟨.inl upd_same, hS⟩, x, [y], rfl, Rel.kp k _ _ r, y, [], rfl, Rel.kp k _ _ q, rfl⟩
theorem enumL_get : ∀ {xs : List D} {k i : Nat}, (enumL k xs)[i]? = (xs[i]?).map fun d => .tup [.int ((k + i : Nat) : Int), d]
  | [], k, i => by simp [enumL]
  | x :: r, k, 0 => by simp [enumL]
  | x :: r, k, i + 1 => by
    simp only [enumL, List.getElem?_cons_succ]
    rw [enumL_get (xs := r)]
    have : k + 1 + i = k + (i + 1) := by omega
    rw [this]
theorem enumL_len : ∀ {xs : List D} {k : Nat}, (enumL k xs).length = xs.length
  | [], k => rfl
  | x :: r, k => by simp [enumL, enumL_len (xs := r)]
theorem zipL_get : ∀ {xs ys : List D} {i : Nat} {x y : D}, xs[i]? = some x → ys[i]? = some y → (zipL xs ys)[i]? = some (.tup [x, y])
  | [], _, _, _, _, h, _ => by simp at h
  | _ :: _, [], _, _, _, _, h => by simp at h
  | x :: xs, y :: ys, 0, _, _, h, h' => by simp at h h'; subst h h'; rfl
  | x :: xs, y :: ys, i + 1, _, _, h, h' => by simp at h h'; simpa [zipL] using zipL_get h h'
theorem zipL_len : ∀ {xs ys : List D}, (zipL xs ys).length = min xs.length ys.length
  | [], _ => by simp [zipL]
  | _ :: _, [] => by simp [zipL]
  | x :: xs, y :: ys => by simp [zipL, zipL_len (xs := xs) (ys := ys)]
theorem gd_enum {c : Ct} {J : It} {ds : List D} {S : Sa} {H : Hp} {vs : List V} {G : Hp → Prop} (w : Walk J vs.length G (YPair (fun i => some (.int (i : Nat))) (fun i => vs[i]?))) (hg : G H) (hd : ∀ a, S a → H a ≠ none) (r : Rels c.K S H ds vs) : Gd c J (enumL 0 ds) S H := by
  unfold Gd
  rw [enumL_len]
  refine ⟨fun i hi => w.goes i H (by rw [r.length]; exact hi) hg, by rw [← r.length]; exact w.stops H hg, fun i x H' hi y => ?_⟩
  obtain ⟨T, a, b, rfl, hT, rfl, e1, e2⟩ := w.yields i H x H' (by rw [r.length]; exact hi) hg y
  cases e1
  obtain ⟨d, e3, q⟩ := r.get' e2
  refine ⟨.inr ⟨T, _, hT, rfl⟩, _, by rw [enumL_get, e3]; rfl, ?_⟩
  rw [Nat.zero_add]
  exact pair_rel hT (fun z => hd T z hT) rfl q
theorem gd_zip {c : Ct} {J : It} {ds es : List D} {S : Sa} {H : Hp} {vs ws : List V} {G : Hp → Prop} (w : Walk J (min vs.length ws.length) G (YPair (fun i => vs[i]?) (fun i => ws[i]?))) (hg : G H) (hd : ∀ a, S a → H a ≠ none) (r : Rels c.K S H ds vs) (r' : Rels c.K S H es ws) : Gd c J (zipL ds es) S H := by
  unfold Gd
  rw [zipL_len, ← r.length, ← r'.length]
  refine ⟨fun i hi => w.goes i H hi hg, w.stops H hg, fun i x H' hi y => ?_⟩
  obtain ⟨T, a, b, rfl, hT, rfl, e1, e2⟩ := w.yields i H x H' hi hg y
  obtain ⟨d, e3, q⟩ := r.get' e1
  obtain ⟨d', e3', q'⟩ := r'.get' e2
  exact ⟨.inr ⟨T, _, hT, rfl⟩, _, zipL_get e3 e3', pair_rel hT (fun z => hd T z hT) q q'⟩
theorem itemsR_some {x : D} {μ : Sto} {Q : List D → Sto → Prop} {W : Xc → Ga → Sto → Prop} (h : (itemsR x μ).All Q W) : ∃ xs, items x = some xs ∧ Q xs μ := by
  unfold itemsR at h
  cases e : items x with
  | none => rw [e] at h; exact h.elim
  | some xs => rw [e] at h; exact ⟨xs, rfl, h⟩
section
variable {c : Ct} {X : Cx} {tg a b : Expr} {sa sb st : Bool} {ra rb : Ga → Sto → R D} {pos : Pos}
theorem wk_of {J : It} {ds : List D} {S : Sa} {μ : Sto} {H : Hp} {d : D} {v : V} (g : StoOk c.K S μ H) (r : Rl c.K st (Dm μ) S H d v) (h : ∀ T' S' H', Rl c.K st T' S' H' d v → (∀ a, T' a → S' a) → (∀ a, S' a → H' a ≠ none) → Gd c J ds S' H') : Wk c st J ds S μ H := by
  cases st with
  | true => exact fun S' H' k hd => h (fun _ => False) S' H' (Rel.kp k d v r) (fun _ z => z.elim) hd
  | false => exact fun S' μ' H' s o => h (Dm μ') S' H' (RelW.kp (s.kp g.dm) s.kpD r) o.dm o.sd
theorem sndI_keys (ha : PE X a (TEn c true ra)) : PI X tg a (TIn c true fun γ μ => ((ra γ μ).bind keysR).bind itemsR) := by
  refine (pi_keys ha).imp fun σ H Q w => ?_
  obtain ⟨S, γ, μ, g, h⟩ := w
  rw [R.All_bind, R.All_bind] at h
  refine ⟨S, γ, μ, g, h.mono (fun d μ1 h => ?_) fun _ _ _ w => w⟩
  intro S1 v H1 g1 s1 r1
  cases d with
  | dic kvs =>
    have h : ∀ S' J H', Good c S' γ μ1 σ H' → Step S μ H S' μ1 H' → Wk c true J (kvs.map (·.1)) S' μ1 H' → Q J H' := h
    obtain ⟨b, ps, rfl, ⟨od, hb⟩, nS, rp⟩ := r1
    refine ⟨b, od, rfl, .inl ⟨ps, hb, h S1 _ H1 g1 s1 fun S' H' k hd' => ?_⟩⟩
    have hb' := k.keep b _ hb nS
    have len := relP_len rp
    refine ⟨fun i hi => ⟨hb', by rw [len]; simpa using hi⟩, ⟨hb', by rw [len]; simp⟩, fun i x H2 hi y => ?_⟩
    obtain ⟨rfl, kk, vv, e, rfl⟩ := y
    obtain ⟨d, e2, e3, e4, e5, _⟩ := relP_get rp e
    exact ⟨.inl rfl, d, by rw [List.getElem?_map, e3]; rfl, key_rel e4 e5⟩
  | _ => exact h.elim
theorem sndI_src (hK : X.K = c.K) (ha : PE X a (TEn c st ra)) : PI X tg a (TIn c st fun γ μ => (ra γ μ).bind itemsR) := by
  refine (pi_src ha).imp fun σ H Q w => ?_
  obtain ⟨S, γ, μ, g, h⟩ := w
  rw [R.All_bind] at h
  refine ⟨S, γ, μ, g, h.mono (fun d μ1 h => ?_) fun _ _ _ w => w⟩
  intro S1 v H1 g1 s1 r1
  obtain ⟨xs, e, h⟩ := itemsR_some h
  obtain ⟨k, hv, ⟨vs, hk⟩, hf⟩ := src_of' r1 e g1.st.dm
  refine ⟨k, vs, hv, by rw [hK]; exact hk, h S1 _ H1 g1 s1 (wk_of g1.st r1 fun T' S' H' r' ht hd => ?_)⟩
  obtain ⟨vs', hk', rr⟩ := hf T' S' H' r' ht
  exact gd_walk (walkS (K := X.K) (k := k) (xs := vs')) (by rw [hK]; exact hk') rr
theorem sndI_enu (hK : X.K = c.K) {p tpos : Pos} {elts : List Expr} {kk : Nat} (hg : Gl X "enumerate") (hm : X.mg "enumerate" = none) (ha : PE X a (TEn c st ra)) (hs : nst a = true) :
    PI X (.Tuple elts kk tpos) (.Call (.Name "enumerate" p) [a] [] pos) (TIn c st fun γ μ => ((ra γ μ).bind fun x μ => ofO ((items x).map fun xs => .lst (enumL 0 xs)) μ).bind itemsR) := by
  refine (pi_enumG hg hm ha (star_cons hs)).imp fun σ H Q w => ?_
  obtain ⟨S, γ, μ, g, h⟩ := w
  rw [R.All_bind, R.All_bind] at h
  refine ⟨S, γ, μ, g, h.mono (fun d μ1 h => ?_) fun _ _ _ w => w⟩
  intro S1 v H1 g1 s1 r1
  obtain ⟨z, e, h⟩ := ofO_some h
  obtain ⟨xs, ee, rfl⟩ := Option.map_eq_some_iff.mp e
  obtain ⟨k, hv, ⟨vs, hk⟩, hf⟩ := src_of' r1 ee g1.st.dm
  refine ⟨k, vs, hv, by rw [hK]; exact hk, h S1 _ H1 g1 s1 (wk_of g1.st r1 fun T' S' H' r' ht hd => ?_)⟩
  obtain ⟨vs', hk', rr⟩ := hf T' S' H' r' ht
  exact gd_enum (walkE (K := X.K) (k := k) (xs := vs')) (by rw [hK]; exact hk') hd rr
theorem sndI_zip (hK : X.K = c.K) {p tpos : Pos} {elts : List Expr} {kk : Nat} (hg : Gl X "zip") (hm : X.mg "zip" = none) (ha : PE X a (TEn c st ra)) (hb : PE X b (TEn c st rb)) (hs : nst a = true) (hs2 : nst b = true) :
    PI X (.Tuple elts kk tpos) (.Call (.Name "zip" p) [a, b] [] pos) (TIn c st fun γ μ => ((ra γ μ).bind fun x μ => (rb γ μ).bind fun y μ => match items x, items y with
      | some xs, some ys => R.ok (.lst (zipL xs ys)) μ
      | _, _ => .fail).bind itemsR) := by
  refine (pi_zipG hg hm ha hb (star_cons hs) (star_cons hs2) (star_any (by simp [hs2]))).imp fun σ H Q w => ?_
  obtain ⟨S, γ, μ, g, h⟩ := w
  rw [R.All_bind, R.All_bind] at h
  refine ⟨S, γ, μ, g, h.mono (fun d μ1 h => ?_) fun _ _ _ w => w⟩
  intro S1 v H1 g1 s1 r1
  rw [R.All_bind] at h
  refine ⟨S1, γ, μ1, g1, h.mono (fun e μ2 h => ?_) fun _ _ _ w => w⟩
  intro S2 w H2 g2 s2 r2
  have r1' := Rl.kp r1 s2 g1.st.dm
  cases e1 : items d with
  | none => rw [e1] at h; exact h.elim
  | some xs =>
    cases e2 : items e with
    | none => rw [e1, e2] at h; exact h.elim
    | some ys =>
      rw [e1, e2] at h
      obtain ⟨k, hv, ⟨vs, hk⟩, hf⟩ := src_of' r1' e1 g2.st.dm
      obtain ⟨k', hv', ⟨vs', hk'⟩, hf'⟩ := src_of' r2 e2 g2.st.dm
      refine ⟨k, k', vs, vs', hv, hv', by rw [hK]; exact hk, by rw [hK]; exact hk', h S2 _ H2 g2 (s1.trans s2) ?_⟩
      have fin : ∀ T' S' H', Rl c.K st T' S' H' d v → Rl c.K st T' S' H' e w → (∀ a, T' a → S' a) → (∀ a, S' a → H' a ≠ none) → Gd c (ItzG X.K k k') (zipL xs ys) S' H' := by
        intro T' S' H' q1 q2 ht hd
        obtain ⟨us, hu, rr⟩ := hf T' S' H' q1 ht
        obtain ⟨us', hu', rr'⟩ := hf' T' S' H' q2 ht
        exact gd_zip (walkZ (K := X.K) (k1 := k) (k2 := k') (xs := us) (ys := us')) ⟨by rw [hK]; exact hu, by rw [hK]; exact hu'⟩ hd rr rr'
      cases st with
      | true => exact fun S' H' kp hd => fin (fun _ => False) S' H' (Rel.kp kp d v r1') (Rel.kp kp e w r2) (fun _ z => z.elim) hd
      | false => exact fun S' μ' H' s o => fin (Dm μ') S' H' (RelW.kp (s.kp g2.st.dm) s.kpD r1') (RelW.kp (s.kp g2.st.dm) s.kpD r2) o.dm o.sd
theorem gd_range {lo : Int} {hi : Int} {S : Sa} {H : Hp} : Gd c (Itr lo (hi - lo).toNat) (rangeL lo hi) S H := by
  have hl : (rangeL lo hi).length = (hi - lo).toNat := by unfold rangeL; rw [List.length_map, List.length_range]
  unfold Gd
  rw [hl]
  refine ⟨fun i h => h, Nat.le_refl _, fun i x H' hi y => ?_⟩
  obtain ⟨rfl, rfl⟩ := y
  refine ⟨.inl rfl, .int (lo + i), ?_, rfl⟩
  unfold rangeL
  rw [List.getElem?_map, List.getElem?_range hi]
  rfl
theorem gd_rangeC {lo d : Int} {n : Nat} {S : Sa} {H : Hp} : Gd c (Itc lo d n) (rangeC lo d n) S H := by
  have hl : (rangeC lo d n).length = n := by unfold rangeC; rw [List.length_map, List.length_range]
  unfold Gd
  rw [hl]
  refine ⟨fun i h => h, Nat.le_refl _, fun i x H' hi y => ?_⟩
  obtain ⟨rfl, rfl⟩ := y
  refine ⟨.inl rfl, .int (lo + (i : Nat) * d), ?_, rfl⟩
  unfold rangeC
  rw [List.getElem?_map, List.getElem?_range hi]
  rfl
theorem sndI_rng3 {p : Pos} {b2 : Expr} {sb2 : Bool} {rb2 : Ga → Sto → R D} (hg : Gl X "range") (hm : X.mg "range" = none) (ha : PE X a (TEn c sa ra)) (hb : PE X b (TEn c sb rb)) (hb2 : PE X b2 (TEn c sb2 rb2)) (hs : nst a = true) (hs2 : nst b = true) (hs3 : nst b2 = true) :
    PI X tg (.Call (.Name "range" p) [a, b, b2] [] pos) (TIn c st fun γ μ => ((ra γ μ).bind fun x μ => (rb γ μ).bind fun y μ => (rb2 γ μ).bind fun z μ => ofO (rangeD [x, y, z]) μ).bind itemsR) := by
  refine (pi_range3 hg hm (pa_cons (PEweak ha) (pa_cons (PEweak hb) (pa_cons (PEweak hb2) pa_nil (star_cons hs3)) (star_cons hs2)) (star_cons hs)) (star_cons hs) (star_any (by simp [hs2, hs3]))).imp fun σ H Q w => ?_
  obtain ⟨S, γ, μ, g, h⟩ := w
  rw [R.All_bind, R.All_bind] at h
  refine ⟨S, γ, μ, g, h.mono (fun d μ1 h => ?_) fun _ _ _ w => w⟩
  intro S1 v H1 g1 s1 r1
  rw [R.All_bind] at h
  refine ⟨S1, γ, μ1, g1, h.mono (fun e μ2 h => ?_) fun _ _ _ w => w⟩
  intro S2 w H2 g2 s2 r2
  rw [R.All_bind] at h
  refine ⟨S2, γ, μ2, g2, h.mono (fun f μ3 h => ?_) fun _ _ _ w => w⟩
  intro S3 w3 H3 g3 s3 r3
  obtain ⟨z, e3, h⟩ := ofO_some (μ := μ3) (o := rangeD [d, e, f]) h
  cases d with
  | int i =>
    cases e with
    | int j =>
      cases f with
      | int k =>
        have ev : v = .int i := r1
        have ew : w = .int j := r2
        have ex : w3 = .int k := r3
        subst ev ew ex
        have e' : (if rgB i j k then some (D.lst (rangeC i k (PySem.Builtin.Range.rangeSize i j k).toNat)) else none) = some z := e3
        by_cases hb : rgB i j k = true
        · rw [if_pos hb] at e'; cases e'
          simp only [rgB, Bool.and_eq_true, decide_eq_true_eq] at hb
          obtain ⟨⟨⟨q1, q2⟩, q3⟩, q4⟩ := hb
          refine ⟨i, j, k, (PySem.Builtin.Range.rangeSize i j k).toNat, rfl, ⟨q1, q2, q3, by omega⟩, h S3 _ H3 g3 ((s1.trans s2).trans s3) ?_⟩
          have := @gd_rangeC c i k (PySem.Builtin.Range.rangeSize i j k).toNat
          cases st with
          | true => exact fun S' H' _ _ => this
          | false => exact fun S' μ' H' _ _ => this
        · rw [if_neg hb] at e'; cases e'
      | _ => cases e3
    | _ => cases e3
  | _ => cases e3
theorem sndI_rng1 {p : Pos} (hg : Gl X "range") (hm : X.mg "range" = none) (ha : PE X a (TEn c sa ra)) (hs : nst a = true) :
    PI X tg (.Call (.Name "range" p) [a] [] pos) (TIn c st fun γ μ => ((ra γ μ).bind fun x μ => ofO (rangeD [x]) μ).bind itemsR) := by
  refine (pi_range1 hg hm (pa_cons (PEweak ha) pa_nil (star_cons hs)) (star_cons hs)).imp fun σ H Q w => ?_
  obtain ⟨S, γ, μ, g, h⟩ := w
  rw [R.All_bind, R.All_bind] at h
  refine ⟨S, γ, μ, g, h.mono (fun d μ1 h => ?_) fun _ _ _ w => w⟩
  intro S1 v H1 g1 s1 r1
  obtain ⟨z, e, h⟩ := ofO_some (μ := μ1) (o := rangeD [d]) h
  cases d with
  | int j =>
    have ev : v = .int j := r1
    subst ev
    have e' : (if bnd j then some (D.lst (rangeL 0 j)) else none) = some z := e
    by_cases hb : bnd j = true
    · rw [if_pos hb] at e'; cases e'
      simp only [bnd, Bool.and_eq_true, decide_eq_true_eq] at hb
      refine ⟨j, rfl, hb.1, hb.2, h S1 _ H1 g1 s1 ?_⟩
      have := @gd_range c 0 j
      rw [Int.sub_zero] at this
      cases st with
      | true => exact fun S' H' _ _ => this
      | false => exact fun S' μ' H' _ _ => this
    · rw [if_neg hb] at e'; cases e'
  | _ => cases e
theorem sndI_rng2 {p : Pos} (hg : Gl X "range") (hm : X.mg "range" = none) (ha : PE X a (TEn c sa ra)) (hb : PE X b (TEn c sb rb)) (hs : nst a = true) (hs2 : nst b = true) :
    PI X tg (.Call (.Name "range" p) [a, b] [] pos) (TIn c st fun γ μ => ((ra γ μ).bind fun x μ => (rb γ μ).bind fun y μ => ofO (rangeD [x, y]) μ).bind itemsR) := by
  refine (pi_range2 hg hm (pa_cons (PEweak ha) (pa_cons (PEweak hb) pa_nil (star_cons hs2)) (star_cons hs)) (by rw [star_cons hs, star_cons hs2]; rfl) (star_cons hs2)).imp fun σ H Q w => ?_
  obtain ⟨S, γ, μ, g, h⟩ := w
  rw [R.All_bind, R.All_bind] at h
  refine ⟨S, γ, μ, g, h.mono (fun d μ1 h => ?_) fun _ _ _ w => w⟩
  intro S1 v H1 g1 s1 r1
  rw [R.All_bind] at h
  refine ⟨S1, γ, μ1, g1, h.mono (fun e μ2 h => ?_) fun _ _ _ w => w⟩
  intro S2 w H2 g2 s2 r2
  obtain ⟨z, e3, h⟩ := ofO_some (μ := μ2) (o := rangeD [d, e]) h
  cases d with
  | int i =>
    cases e with
    | int j =>
      have ev : v = .int i := r1
      have ew : w = .int j := r2
      subst ev ew
      have e' : (if bnd i && bnd j then some (D.lst (rangeL i j)) else none) = some z := e3
      by_cases hb : (bnd i && bnd j) = true
      · rw [if_pos hb] at e'; cases e'
        simp only [bnd, Bool.and_eq_true, decide_eq_true_eq] at hb
        refine ⟨i, j, rfl, ⟨hb.1.1, hb.1.2, hb.2.1, hb.2.2⟩, h S2 _ H2 g2 (s1.trans s2) ?_⟩
        have := @gd_range c i j
        cases st with
        | true => exact fun S' H' _ _ => this
        | false => exact fun S' μ' H' _ _ => this
      · rw [if_neg hb] at e'; cases e'
    | _ => cases e3
  | _ => cases e3
end
end Bs
/-! Bs: comprehensions. -/
namespace Bs
open PySem L2
theorem wipeG_own {γ : Ga} {i : Nat} {o : Ob} : ∀ {t : List Nat}, (wipeG γ t)[i]? = some (.own o) → i ∉ t ∧ γ[i]? = some (.own o)
  | [], h => ⟨by simp, h⟩
  | j :: t, h => by
    unfold wipeG at h
    rcases get_set _ _ _ _ _ h with ⟨_, z, _⟩ | ⟨hn, e⟩
    · cases z
    · obtain ⟨h1, h2⟩ := wipeG_own e
      exact ⟨by simp [hn, h1], h2⟩
theorem foldT_own {i : Nat} {o : Ob} : ∀ {is : List Nat} {ds : List D} {γ : Ga}, is.length = ds.length → (foldT γ is ds)[i]? = some (.own o) → i ∉ is ∧ γ[i]? = some (.own o)
  | [], _, _, _, h => ⟨by simp, h⟩
  | _ :: _, [], _, l, _ => by cases l
  | j :: is, d :: ds, γ, l, h => by
    have h' : (foldT (γ.set j (.val d)) is ds)[i]? = some (.own o) := h
    obtain ⟨h1, h2⟩ := foldT_own (by simpa using l) h'
    rcases get_set _ _ _ _ _ h2 with ⟨_, z, _⟩ | ⟨hn, e⟩
    · cases z
    · exact ⟨by simp [hn, h1], e⟩
theorem setT_own {γ γ' : Ga} {t : List Nat} {d : D} {i : Nat} {o : Ob} (e : setT γ t d = some γ') (h : γ'[i]? = some (.own o)) : i ∉ t ∧ γ[i]? = some (.own o) := by
  match t, d, e with
  | [j], d, e =>
    cases e
    rcases get_set _ _ _ _ _ h with ⟨_, z, _⟩ | ⟨hn, e⟩
    · cases z
    · exact ⟨by simp [hn], e⟩
  | [], .tup xs, e =>
    have e' : (if ([] : List Nat).length = xs.length then some (foldT γ [] xs) else none) = some γ' := e
    by_cases l : ([] : List Nat).length = xs.length
    · rw [if_pos l] at e'; cases e'; exact foldT_own l h
    · rw [if_neg l] at e'; cases e'
  | j :: k :: r, .tup xs, e =>
    have e' : (if (j :: k :: r).length = xs.length then some (foldT γ (j :: k :: r) xs) else none) = some γ' := e
    by_cases l : (j :: k :: r).length = xs.length
    · rw [if_pos l] at e'; cases e'; exact foldT_own l h
    · rw [if_neg l] at e'; cases e'
section
variable (c : Ct) (γ : Ga) (σ : L2.St) (L : Addr) (S1 : Sa) (μ1 : Sto) (H1 : Hp)
/-- while a list is built at L -/
structure Lp (S : Sa) (μ : Sto) (H : Hp) (acc : List D) : Prop where
  g : Good c S γ μ σ H
  s : Step S1 μ1 H1 S μ H
  sL : S L
  mL : μ L = none
  on : ∀ (i : Nat) ob q, γ[i]? = some (.own ob) → σ[i]? = some (some (V.ref q)) → q ≠ L
  hL : ∃ vs, H L = some (.lst vs) ∧ Rels c.K S H acc vs
end
section
variable {c : Ct} {γ γ' : Ga} {σ σ' : L2.St} {L : Addr} {S1 S S' : Sa} {μ1 μ μ' : Sto} {H1 H H' : Hp} {acc : List D}
theorem Lp.there (l : Lp c γ σ L S1 μ1 H1 S μ H acc) : H L ≠ none := by obtain ⟨vs, e, _⟩ := l.hL; rw [e]; exact fun z => nomatch z
theorem Lp.step (l : Lp c γ σ L S1 μ1 H1 S μ H acc) (s : Step S μ H S' μ' H') (ok : StoOk c.K S' μ' H') : Lp c γ σ L S1 μ1 H1 S' μ' H' acc := by
  obtain ⟨vs, e, r⟩ := l.hL
  refine ⟨l.g.step s ok, l.s.trans s, s.sup L l.sL, ?_, l.on, vs, s.keep L _ e l.mL, r.kp (s.kp l.g.st.dm)⟩
  cases e2 : μ' L with
  | none => rfl
  | some ob =>
    rcases s.dsub L (by rw [e2]; exact fun z => nomatch z) with z | z
    · exact absurd l.mL z
    · exact absurd z l.there
/-- another view of the slots -/
theorem Lp.view (l : Lp c γ σ L S1 μ1 H1 S μ H acc) (g : Good c S γ' μ σ' H) (on : ∀ (i : Nat) ob q, γ'[i]? = some (.own ob) → σ'[i]? = some (some (V.ref q)) → q ≠ L) : Lp c γ' σ' L S1 μ1 H1 S μ H acc := ⟨g, l.s, l.sL, l.mL, on, l.hL⟩
theorem Lp.put (l : Lp c γ σ L S1 μ1 H1 S μ H acc) (h0 : c.H0 L = none) (h1 : H1 L = none) {d : D} {v : V} (r : Rel c.K S H d v) {vs : List V} (e : H L = some (.lst vs)) : Lp c γ σ L S1 μ1 H1 S μ (upd H L (.lst (vs ++ [v]))) (acc ++ [d]) := by
  obtain ⟨vs', e', rs⟩ := l.hL
  rw [e] at e'; cases e'
  have k : Kp S S H (upd H L (.lst (vs ++ [v]))) := ⟨fun a u h n => by rw [upd_ne (fun e => n (by rw [e]; exact l.sL))]; exact h, fun a h => .inl h⟩
  exact ⟨l.g.poke l.sL l.mL h0 l.on, l.s.poke h1, l.sL, l.mL, l.on, _, upd_same, (rs.append (Rels.one r)).kp k⟩
/-- what an item's coming leaves -/
theorem yld_step (ok : StoOk c.K S μ H) (hy : H' = H ∨ ∃ T u, H T = none ∧ H' = upd H T u) : Step S μ H S μ H' ∧ StoOk c.K S μ H' := by
  rcases hy with rfl | ⟨T, u, hT, rfl⟩
  · exact ⟨Step.refl, ok⟩
  · exact step_new ok hT
/-- the store of an item and the tests: what stands then -/
theorem lp_target {t u : List Nat} {d : D} {x : V} {K : Ga → R (List D)} {Qr : List D → Sto → Prop} (l : Lp c γ σ L S1 μ1 H1 S μ H acc) (hy : H' = H ∨ ∃ T u, H T = none ∧ H' = upd H T u) (rx : Rel c.K S H' d x) (hu : ∀ j, j ∈ t → j ∈ u)
    (h : (setTR (wipeG γ u) t d K).All Qr c.V) {Q : L2.St → Hp → Prop}
    (fin : ∀ γ' σ', (K γ').All Qr c.V → Lp c γ σ L S1 μ1 H1 S μ H' acc → Lp c γ' σ' L S1 μ1 H1 S μ H' acc → L2.wipe σ' u = L2.wipe σ u → Q σ' H') : TGn c t x (L2.wipe σ u) H' Q := by
  obtain ⟨s', ok'⟩ := yld_step l.g.st hy
  have l' := l.step s' ok'
  have gw := l'.g.wipe u
  unfold setTR at h
  cases e : setT (wipeG γ u) t d with
  | none => rw [e] at h; exact h.elim
  | some γ' =>
    rw [e] at h
    refine ⟨S, wipeG γ u, μ, d, γ', gw, rx, e, fun σ' g' fr => fin γ' σ' h l' (l'.view g' fun i ob q e1 e2 => ?_) ?_⟩
    · obtain ⟨n1, e3⟩ := setT_own e e1
      obtain ⟨n2, e4⟩ := wipeG_own e3
      rw [fr.2 i n1, wipe_get, if_neg n2] at e2
      exact l.on i ob q e4 e2
    · rw [fr.wipe hu, wipe_wipe]
/-- the loop -/
theorem lp_loop {J : It} {ds : List D} {f : D → List D → Sto → R (List D)} {fin : Hp → Prop} {body : V → Hp → (Hp → Prop) → Prop} {acc0 : List D}
    (gd : ∀ S' μ' H' acc, Lp c γ σ L S1 μ1 H1 S' μ' H' acc → KpT S S' H H' → Gd c J ds S' H')
    (hb : ∀ S' μ' H' acc d x H2 Nx, Lp c γ σ L S1 μ1 H1 S' μ' H' acc → (H2 = H' ∨ ∃ T u, H' T = none ∧ H2 = upd H' T u) → Rel c.K S' H2 d x → (f d acc μ').All (fun acc' μ2 => ∀ S2 H3, Lp c γ σ L S1 μ1 H1 S2 μ2 H3 acc' → KpT S S2 H H3 → Nx H3) c.V → KpT S S' H H' → body x H2 Nx)
    (l0 : Lp c γ σ L S1 μ1 H1 S μ H acc0) (h : (lcL f ds acc0 μ).All (fun zs μ' => ∀ S' H', Lp c γ σ L S1 μ1 H1 S' μ' H' zs → KpT S S' H H' → fin H') c.V) :
    ∃ W : Nat → Nat → Hp → Prop, (∃ m, W 0 m H) ∧ ∀ i m H, W i m H → (J.stop i H ∧ fin H) ∨ (J.go i H ∧ ∃ Nx : Hp → Prop, (∀ H', Nx H' → ∃ m', m' < m ∧ W (i + 1) m' H') ∧ ∀ x H', J.yld i H x H' → body x H' Nx) := by
  refine ⟨fun i m H' => m = ds.length - i ∧ i ≤ ds.length ∧ ∃ S' μ' acc, Lp c γ σ L S1 μ1 H1 S' μ' H' acc ∧ KpT S S' H H' ∧ (lcL f (ds.drop i) acc μ').All (fun zs μ' => ∀ S' H', Lp c γ σ L S1 μ1 H1 S' μ' H' zs → KpT S S' H H' → fin H') c.V,
    ⟨_, rfl, Nat.zero_le _, S, μ, acc0, l0, KpT.refl, h⟩, ?_⟩
  rintro i m H' ⟨rfl, hi, S', μ', acc, l, kp, h⟩
  have gd' := gd S' μ' H' acc l kp
  by_cases hlt : i < ds.length
  · refine .inr ⟨gd'.1 i hlt, _, fun H2 p => ⟨ds.length - (i + 1), by omega, rfl, hlt, p⟩, fun x H2 y => ?_⟩
    obtain ⟨hy, d, e, rx⟩ := gd'.2.2 i x H2 hlt y
    have ed : ds[i]'hlt = d := by rw [List.getElem?_eq_getElem hlt] at e; exact Option.some.inj e
    rw [List.drop_eq_getElem_cons hlt, ed] at h
    unfold lcL at h
    rw [R.All_bind] at h
    refine hb S' μ' H' acc d x H2 _ l hy rx (h.mono (fun acc' μ2 h => ?_) fun _ _ _ w => w) kp
    exact fun S2 H3 l2 k2 => ⟨S2, μ2, acc', l2, k2, h⟩
  · have e : i = ds.length := by omega
    subst e
    rw [List.drop_length] at h
    exact .inl ⟨gd'.2.1, h S' H' l kp⟩
end
section
variable {c : Ct} {σ : L2.St} {H : Hp} {Q : VK} {t t2 : List Nat} {ri ri2 : Ga → Sto → R (List D)} {rc rc2 : Ga → Sto → R Bool} {re : Ga → Sto → R D}
/-- the last clause's turn -/
theorem lp_leaf {γ : Ga} {L : Addr} {S1 S : Sa} {μ1 μ : Sto} {H1 H' H0 : Hp} {S0 : Sa} {acc : List D} {d : D} {x : V} {Nx : Hp → Prop} (h0 : c.H0 L = none) (h1 : H1 L = none)
    (l : Lp c γ σ L S1 μ1 H1 S μ H acc) (hy : H' = H ∨ ∃ T u, H T = none ∧ H' = upd H T u) (rx : Rel c.K S H' d x) (kp : KpT S0 S H0 H) (sL0 : S0 L ∨ H0 L = none)
    (h : (setTR (wipeG γ t) t d fun γ' => (rc γ' μ).bind fun b μ => if b then (re γ' μ).bind fun z μ => addL acc z μ else .ok acc μ).All (fun acc' μ2 => ∀ S2 H3, Lp c γ σ L S1 μ1 H1 S2 μ2 H3 acc' → KpT S0 S2 H0 H3 → Nx H3) c.V) :
    TGn c t x (L2.wipe σ t) H' fun σ2 H2 => L2.wipe σ2 t = L2.wipe σ t ∧ TTn c rc σ2 H2 fun b H3 => if b = true then TEn c true re σ2 H3 fun y H4 => ∃ acc, H4 L = some (.lst acc) ∧ acc.length < sizeLine ∧ Nx (upd H4 L (.lst (acc ++ [y]))) else Nx H3 := by
  have sy := (yld_step l.g.st hy).1
  have ky : KpT S0 S H0 H' := kp.trans (sy.kpT l.g.st.dm)
  refine lp_target l hy rx (fun j h => h) h fun γ' σ' hk l0 l' ew => ⟨ew, ?_⟩
  rw [R.All_bind] at hk
  refine ⟨S, γ', μ, l'.g, hk.mono (fun b μ3 hk => ?_) fun _ _ _ w => w⟩
  intro S3 H3 g3 s3
  cases b with
  | false =>
    rw [if_neg (by decide)] at hk ⊢
    exact hk S3 H3 (l0.step s3 g3.st) (ky.trans (s3.kpT l'.g.st.dm))
  | true =>
    rw [if_pos rfl] at hk ⊢
    rw [R.All_bind] at hk
    refine ⟨S3, γ', μ3, g3, hk.mono (fun z μ4 hk => ?_) fun _ _ _ w => w⟩
    intro S4 v H4 g4 s4 r4
    have l4 := l0.step (s3.trans s4) g4.st
    obtain ⟨vs, e, rs⟩ := l4.hL
    unfold addL at hk
    by_cases hl : acc.length < 1000000
    · rw [if_pos hl] at hk
      refine ⟨vs, e, by rw [rs.length]; exact Nat.lt_of_lt_of_le hl (big_line (Nat.le_refl _)), hk S4 _ (l4.put h0 h1 r4 e) ((ky.trans ((s3.trans s4).kpT l'.g.st.dm)).poke sL0)⟩
    · rw [if_neg hl] at hk; exact hk.elim
theorem lc_imp (h : TFn c (fun γ μ => (ri γ μ).bind fun xs μ =>
    (lcL (fun y acc μ => setTR (wipeG γ t) t y fun γ' => (rc γ' μ).bind fun b μ => if b then (re γ' μ).bind fun z μ => addL acc z μ else .ok acc μ) xs [] μ).nox.bind fun zs μ => .ok (.lst zs) μ) σ H Q) :
    tLc (TIn c false ri) (TGn c.nv t) (TTn c.nv rc) (TEn c.nv true re) t σ H Q := by
  obtain ⟨S, γ, μ, g, h⟩ := h
  rw [R.All_bind] at h
  refine ⟨S, γ, μ, g, h.mono (fun ds μ1 h => ?_) fun _ _ _ w => w⟩
  intro S1 J H1 g1' s1 wk L hL
  have g1 : Good c.nv S1 γ μ1 σ H1 := g1'.wv
  obtain ⟨g2, s2, mL, nL⟩ := open_new g1 (HO.lst []) hL
  rw [R.All_bind] at h
  have h := R.All_nox (W' := c.nv.V) h
  have l0 : Lp c.nv γ σ L S1 μ1 H1 _ μ1 (upd H1 L (.lst [])) [] := ⟨g2, s2, .inr rfl, mL, g1.own_ne hL, [], upd_same, rfl⟩
  refine lp_loop (c := c.nv) (S := fun a => S1 a ∨ a = L) (fun S' μ' H' acc l _ => wk S' μ' H' l.s l.g.st) (fun S' μ' H' acc d x H2 Nx l hy rx h kp => ?_) l0 (h.mono (fun zs μ' h => ?_) fun _ _ _ w => w)
  · exact lp_leaf (c := c.nv) (g1.h0 hL) hL l hy rx kp (.inl (.inr rfl)) h
  · intro S' H' l _
    obtain ⟨vs, e, rs⟩ := l.hL
    exact h S' L vs H' zs rfl l.g.unwv (s1.trans l.s) (none_back s1.there hL) l.sL l.mL e rs
theorem lc2_imp (h : TFn c (fun γ μ => (ri γ μ).bind fun xs μ =>
    (lcL (fun y acc μ => setTR (wipeG γ (t ++ t2)) t y fun γ' => (rc γ' μ).bind fun b μ => if b then (ri2 γ' μ).bind fun xs2 μ =>
      lcL (fun y2 acc μ => setTR (wipeG γ' t2) t2 y2 fun γ2 => (rc2 γ2 μ).bind fun b μ => if b then (re γ2 μ).bind fun z μ => addL acc z μ else .ok acc μ) xs2 acc μ else .ok acc μ) xs [] μ).nox.bind fun zs μ => .ok (.lst zs) μ) σ H Q) :
    tLc2 (TIn c false ri) (TGn c.nv t) (TTn c.nv rc) (TIn c.nv true ri2) (TGn c.nv t2) (TTn c.nv rc2) (TEn c.nv true re) (t ++ t2) t2 σ H Q := by
  obtain ⟨S, γ, μ, g, h⟩ := h
  rw [R.All_bind] at h
  refine ⟨S, γ, μ, g, h.mono (fun ds μ1 h => ?_) fun _ _ _ w => w⟩
  intro S1 J H1 g1' s1 wk L hL
  have g1 : Good c.nv S1 γ μ1 σ H1 := g1'.wv
  obtain ⟨g2, s2, mL, nL⟩ := open_new g1 (HO.lst []) hL
  rw [R.All_bind] at h
  have h := R.All_nox (W' := c.nv.V) h
  have l0 : Lp c.nv γ σ L S1 μ1 H1 _ μ1 (upd H1 L (.lst [])) [] := ⟨g2, s2, .inr rfl, mL, g1.own_ne hL, [], upd_same, rfl⟩
  refine lp_loop (c := c.nv) (S := fun a => S1 a ∨ a = L) (fun S' μ' H' acc l _ => wk S' μ' H' l.s l.g.st) (fun S' μ' H' acc d x H2 Nx l hy rx h kp => ?_) l0 (h.mono (fun zs μ' h => ?_) fun _ _ _ w => w)
  · have sy := (yld_step l.g.st hy).1
    have ky := kp.trans (sy.kpT l.g.st.dm)
    refine lp_target (c := c.nv) l hy rx (fun j h => List.mem_append_left _ h) h fun γ' σ' hk lo l' ew => ⟨ew, ?_⟩
    rw [R.All_bind] at hk
    refine ⟨S', γ', μ', l'.g, hk.mono (fun b μ3 hk => ?_) fun _ _ _ w => w⟩
    intro S3 H3 g3 s3
    cases b with
    | false =>
      rw [if_neg (by decide)] at hk ⊢
      exact hk S3 H3 (lo.step s3 g3.st) (ky.trans (s3.kpT l'.g.st.dm))
    | true =>
      rw [if_pos rfl] at hk ⊢
      rw [R.All_bind] at hk
      refine ⟨S3, γ', μ3, g3, hk.mono (fun ds2 μ4 hk => ?_) fun _ _ _ w => w⟩
      intro S4 J1 H4 g4 s4 wk4
      have s34 := s3.trans s4
      have li := l'.step s34 g4.st
      have lo4 := lo.step s34 g4.st
      have k04 := ky.trans (s34.kpT l'.g.st.dm)
      refine lp_loop (c := c.nv) (S := S4) (fun S' μ' H' acc l k => wk4 S' H' k.kp l.g.st.sd) (fun S5 μ5 H5 acc d x H6 Nx l hy rx h kp => ?_) li (hk.mono (fun zs μ' h => ?_) fun _ _ _ w => w)
      · exact lp_leaf (c := c.nv) (g1.h0 hL) hL l hy rx kp (.inl li.sL) h
      · intro S' H' l5 k5
        exact h S' H' (l5.view (g1.step l5.s l5.g.st) lo.on) (k04.trans k5)
  · intro S' H' l _
    obtain ⟨vs, e, rs⟩ := l.hL
    exact h S' L vs H' zs rfl l.g.unwv (s1.trans l.s) (none_back s1.there hL) l.sL l.mL e rs
end
end Bs
/-! Bs: lists of the store; new lists by +, * and list(). -/
namespace L2
open PySem PySem.Spec PyProof.Rows
section
variable {X : Cx} {pos : Pos}
/-! ### s[::-1] -/
theorem rev_str (z : Str) (u : Tok) : Txt.sliceBy z none none (-1, u) = ⟨z.cps.toList.reverse.toArray⟩ := by
  have h := PyProof.Rows.step_rev_list z u
  have e : (Txt.sliceBy z none none (-1, u)).cps = z.cps.toList.reverse.toArray := by
    apply Array.toList_inj.mp
    rw [h]
    apply List.ext_getElem
    · simp [Str.length]
    · intro i h1 h2
      have h1' : i < z.cps.size := by simpa [Str.length] using h1
      simp only [List.getElem_map, List.getElem_range, List.getElem_reverse, Array.length_toList, Array.getElem_toList]
      have : z.length - 1 - i < z.cps.size := by show z.cps.size - 1 - i < z.cps.size; omega
      rw [Array.getD_eq_getD_getElem?, Array.getElem?_eq_getElem this]
      rfl
  cases hz : Txt.sliceBy z none none (-1, u)
  rw [hz] at e
  simp only at e
  rw [e]
def tRevS (te : TE) : TE := fun σ H Q => te σ H fun x H1 => ∃ z, x = .str z ∧ z.length ≤ sizeLine ∧ Q (.str ⟨z.cps.toList.reverse.toArray⟩) H1
theorem pe_revS {e : Expr} {te : TE} {k : Nat} {p1 p2 p3 : Pos} (he : PE X e te) : PE X (.Subscript e (.Slice none none (some (.UnaryOp .USub (.Constant (.int 1) k p1) p2)) p3) pos) (tRevS te) := by
  refine ⟨fun pins s σ H Q I h => ?_⟩
  refine Subscript_ (thn (he.run pins s σ H _ I h) fun v s1 ⟨x, H1, I1, r1, q1⟩ => ?_)
  obtain ⟨z, ex, hz, q⟩ := q1
  subst ex
  obtain ⟨tk, rfl⟩ := r1
  have hst : PO X (some (.UnaryOp .USub (.Constant (.int 1) k p1) p2)) (tPart (tUn (rU fun i => .int (-i)) (tC (.int 1)))) := po_some (pe_un un_neg pe_int)
  refine wpAny_Slice (thn (po_none.run pins s1 σ H1 (fun o H2 => o = none ∧ H2 = H1) I1 ⟨rfl, rfl⟩) fun vl s2 ⟨l, H2, I2, pl, el, e2⟩ => ?_)
  subst el e2
  refine thn (po_none.run pins s2 σ H2 (fun o H3 => o = none ∧ H3 = H2) I2 ⟨rfl, rfl⟩) fun vu s3 ⟨u, H3, I3, pu, eu, e3⟩ => ?_
  subst eu e3
  refine thn (hst.run pins s3 σ H3 (fun o H4 => o = some (-1) ∧ H4 = H3) I3 ⟨1, rfl, -1, rfl, rfl, rfl⟩) fun vs s4 ⟨o, H4, I4, ps, eo, e4⟩ => ?_
  subst eo e4
  have I5 : Inv X pins σ H4 { s4 with heap := s4.heap.push { cls := .type "slice", data := .fields #[vl, vu, vs] } } := I4.kept (t' := s4.toks) fun b ob q => Heap.get?_push_of_some _ q
  obtain ⟨l', hl1, hl2⟩ := IsPart.raw pl
  obtain ⟨u', hu1, hu2⟩ := IsPart.raw pu
  obtain ⟨st', hs1, hs2⟩ := IsPart.raw ps
  subst hl1 hu1 hs1
  have el : l' = none := by cases l' with | none => rfl | some _ => cases hl2
  have eu : u' = none := by cases u' with | none => rfl | some _ => cases hu2
  subst el eu
  obtain ⟨tk2, est⟩ : ∃ tk2, st' = some ((-1 : Int), tk2) := by
    cases st' with
    | none => cases hs2
    | some w => obtain ⟨w1, w2⟩ := w; cases hs2; exact ⟨w2, rfl⟩
  subst est
  show wpAny (model X.prog X.w) X.A (subscriptTail e (.Slice none none (some (.UnaryOp .USub (.Constant (.int 1) k p1) p2)) p3) (.str z tk) (.ref s4.heap.objs.size)) (EP X pins σ Q) X.xe _
  refine tail_any (ops := [.ref s4.heap.objs.size, .str z tk]) (typeIs_str _ _ _) F.slot_str_getitem.lookup ?_ (by with_unfolding_all rfl)
  refine wpAny_getItem_str_slice (l := none) (u := none) (st := some (-1, tk2)) (Heap.IsSliceOf.new ..) rfl ?_
  have hr := rev_str z tk2
  have hl : (Txt.sliceBy z none none (-1, tk2)).length ≤ sizeLine := by rw [PyProof.Rows.step_rev_len]; exact hz
  rw [← hr] at q
  have c1 : ¬ ((((some ((-1 : Int), tk2)).map (·.1)).getD 1 == 1 && (slicePicked z none none (some ((-1 : Int), tk2))).length == z.length) = true) := by
    have : (((some ((-1 : Int), tk2)).map (·.1)).getD 1 == 1) = false := rfl
    rw [this]; simp
  unfold Txt.sliceBy at q hl
  rw [if_neg c1] at q hl
  unfold sliceMade
  rw [if_neg c1]
  exact ⟨hl, .str _, H4, I5.tok _, ⟨_, rfl⟩, q⟩
end
end L2
namespace Bs
open PySem L2
section
variable {c : Ct} {S S' : Sa} {γ : Ga} {μ μ' : Sto} {σ : L2.St} {H H' : Hp} {Q : VK}
/-- the store's list at p changes -/
theorem Good.putSto (g : Good c S γ μ σ H) {p : Addr} {o : Ob} (ys : List D) (ws : List V) (e : μ p = some o) (r : Rels c.K S H ys ws) : Good c S γ (μ.put p (.lst ys)) σ (upd H p (.lst ws)) ∧ KpT S S H (upd H p (.lst ws)) := by
  have sp := (g.st.st p o e).1
  have k : KpT S S H (upd H p (.lst ws)) := KpT.refl.poke (.inl sp)
  have pn : ∀ q, q ≠ p → (μ.put p (.lst ys)) q = μ q := fun q h => by unfold Sto.put; rw [if_neg h]
  have pp : (μ.put p (.lst ys)) p = some (.lst ys) := by unfold Sto.put; rw [if_pos rfl]
  have hdom : ∀ q, (μ.put p (.lst ys)) q ≠ none ↔ μ q ≠ none := fun q => by
    by_cases z : q = p
    · subst z; rw [pp, e]; simp
    · rw [pn q z]
  have hx : c.μ0 p ≠ none ∨ c.H0 p = none := g.fr p (by rw [e]; exact fun z => nomatch z)
  refine ⟨⟨g.len, fun j s ej => ?_, g.ap, ⟨fun q ob eq => ?_, fun a z => k.th a (g.st.sd a z)⟩, g.s0, fun a u h m => ?_, fun q z => g.fr q ((hdom q).mp z), fun q z => (hdom q).mpr (g.md q z), g.kt.trans k⟩, k⟩
  · have h := g.sl j s ej
    cases s with
    | un => trivial
    | val d => obtain ⟨v, e1, r⟩ := h; exact ⟨v, e1, r.kp k.kp⟩
    | own ob =>
      obtain ⟨q, e2, sq, h0', m, rr⟩ := h
      have qp : q ≠ p := fun z => by rw [z, e] at m; cases m
      exact ⟨q, e2, sq, h0', by rw [pn q qp]; exact m, rr.kp k.kp (upd_ne qp)⟩
  · by_cases z : q = p
    · subst z; rw [pp] at eq; cases eq; exact ⟨sp, ws, upd_same, r.kp k.kp⟩
    · rw [pn q z] at eq; exact ⟨(g.st.st q ob eq).1, (g.st.st q ob eq).2.kp k.kp (upd_ne z)⟩
  · rw [upd_ne (fun z => ?_)]; exact g.ext a u h m
    rcases hx with hx | hx
    · rw [z] at m; exact hx m
    · rw [z, hx] at h; cases h
theorem Good.putStep (g : Good c S γ μ σ H) {p : Addr} {o : Ob} (ys : List D) (ws : List V) (e : μ p = some o) : Step S μ H S (μ.put p (.lst ys)) (upd H p (.lst ws)) := by
  have pn : ∀ q, q ≠ p → (μ.put p (.lst ys)) q = μ q := fun q h => by unfold Sto.put; rw [if_neg h]
  have pp : (μ.put p (.lst ys)) p = some (.lst ys) := by unfold Sto.put; rw [if_pos rfl]
  have hdom : ∀ q, (μ.put p (.lst ys)) q ≠ none ↔ μ q ≠ none := fun q => by
    by_cases z : q = p
    · subst z; rw [pp, e]; simp
    · rw [pn q z]
  refine ⟨fun a u h m => ?_, fun a h => ?_, fun a h => .inl h, fun a h => h, fun a h => (hdom a).mpr h, fun a h => .inl ((hdom a).mp h)⟩
  · rw [upd_ne (fun z => by rw [z, e] at m; cases m)]; exact h
  · by_cases z : a = p
    · rw [z, upd_same]; exact fun z => nomatch z
    · rw [upd_ne z]; exact h
theorem Rels.erase : ∀ {ds : List D} {vs : List V} {K : PySem.W.Frag} (n : Nat), Rels K S H ds vs → Rels K S H (ds.eraseIdx n) (vs.eraseIdx n)
  | [], _, _, n, h => by rw [h]; simp [Rels]
  | e :: r, vs, _, 0, h => by
    obtain ⟨w, us, rfl, q1, z⟩ := h
    exact z
  | e :: r, vs, _, n + 1, h => by
    obtain ⟨w, us, rfl, q1, z⟩ := h
    exact ⟨w, us.eraseIdx n, rfl, q1, z.erase n⟩
end
section
variable {c : Ct} {X : Cx} {a b : Expr} {sa sb : Bool} {ra rb : Ga → Sto → R D} {pos apos : Pos}
theorem pop_key {S : Sa} {γ : Ga} {μ : Sto} {σ : L2.St} {H : Hp} {Q : VK} {x : D} {j : Int} {v : V} (g : Good c S γ μ σ H) (r : RelW c.K T0 S H x v) (h : (popR x (.int j) μ).All (Aft c true S μ H γ σ Q) c.V) :
    ∃ l xs k y, v = .ref l ∧ H l = some (.lst xs) ∧ -(2 ^ 63) ≤ j ∧ j < 2 ^ 63 ∧ seqIndex? j xs.length = some k ∧ ixN xs.length j = some k ∧ xs[k]? = some y ∧ Q y (upd H l (.lst (xs.eraseIdx k))) := by
  cases x with
  | loc p =>
    unfold popR at h
    dsimp only at h
    cases eμ : μ p with
    | none => rw [eμ] at h; exact h.elim
    | some ob =>
      rw [eμ] at h
      cases ob with
      | lst xs =>
        dsimp only at h
        obtain ⟨sp, vs, ep, rs⟩ := g.st.st p _ eμ
        by_cases hl : xs.length ≤ 1000000
        case neg => rw [if_neg hl] at h; exact h.elim
        rw [if_pos hl] at h
        try dsimp only at h
        cases en : ixN xs.length j with
        | none => rw [en] at h; exact h.elim
        | some m =>
          rw [en] at h
          dsimp only at h
          cases ex : xs[m]? with
          | none => rw [ex] at h; exact h.elim
          | some d =>
            rw [ex] at h
            obtain ⟨y, ey, ry⟩ := rs.get ex
            have en' : ixN vs.length j = some m := by rw [rs.length]; exact en
            obtain ⟨h1, h2, h3, h4⟩ := ixN_seq en'
            obtain ⟨g2, k2⟩ := g.putSto (xs.eraseIdx m) (vs.eraseIdx m) eμ (rs.erase m)
            have hl2 := rs.length
            exact ⟨p, vs, m, y, r, ep, by omega, by omega, h1, en', ey, h S y _ g2 (g.putStep _ _ eμ) (Rel.kp k2.kp _ _ ry)⟩
      | dic _ => exact h.elim
      | ins _ _ => exact h.elim
  | _ => exact h.elim
theorem isL_ty {S : Sa} {γ : Ga} {μ : Sto} {σ : L2.St} {H : Hp} {x : D} {v : V} {T : Sa} (g : Good c S γ μ σ H) (r : RelW c.K T S H x v) (h : isL μ x = true) : ∃ p xs vs, x = .loc p ∧ v = .ref p ∧ μ p = some (.lst xs) ∧ H p = some (.lst vs) ∧ Rels c.K S H xs vs := by
  cases x with
  | loc p =>
    unfold isL at h
    dsimp only at h
    cases eμ : μ p with
    | none => rw [eμ] at h; cases h
    | some ob =>
      rw [eμ] at h
      cases ob with
      | lst xs => obtain ⟨sp, vs, ep, rs⟩ := g.st.st p _ eμ; exact ⟨p, xs, vs, rfl, r, eμ, ep, rs⟩
      | dic _ => cases h
      | ins _ _ => cases h
  | _ => cases h
theorem few_of {e : Expr} {cpos : Pos} (h : nst e = true) : ((backTo cpos (starEach [e] X.env)).all (fun x => !x.1) && (backToKw cpos (keywordEach [] X.env)).all (fun x => x.1.isSome) && decide (([e] : List Expr).length + ([] : List Keyword).length + (if ([] : List Keyword).isEmpty then 0 else 1) < 30)) = true := by
  rw [star_cons h]; rfl
/-- t.index(x), t a constant of the module -/
theorem snd_tidx (hK : X.K = c.K) {o : Option D} {v : V} (ha : PE X a (tC v)) (rg : ∀ d, o = some d → ∀ S H, Rel c.K S H d v) (hb : PE X b (TEn c sb rb)) (hs : nst b = true) (hn : noCall a = true) (hl : (apos.endLine == pos.line) = true) :
    PE X (.Call (.Attribute a "index" apos) [b] [] pos) (TEn c true fun γ μ => if isTupO o then (rb γ μ).bind fun y μ => ofO (tidxD o y) μ else .fail) := by
  refine (pe_bm (T := "tuple") PySem.F.plainAttrs_tuple PySem.F.slot_tuple_index PySem.F.type_tuple_index mt_tup_index ha (pa_cons (PEweak hb) pa_nil (star_cons hs)) (abase hn) (few_of hs) hl (star_cons hs) rfl).imp fun σ H Q w => ?_
  obtain ⟨S, γ, μ, g, h⟩ := w
  dsimp only at h
  by_cases ht : isTupO o = true
  · rw [if_pos ht] at h
    match o, ht, rg, h with
    | some (.tup xs), _, rg, h =>
      obtain ⟨a0, vs, rfl, q0, _⟩ := rg _ rfl (fun _ => False) (fun _ => none)
      have hk : KTs c.K a0 vs := by
        rcases q0 with ⟨q | ⟨_, q⟩, _⟩ | q
        · cases q
        · cases q
        · exact q
      obtain ⟨ob, its, n, k1, k2, k3, k4, k5, k6⟩ := hk
      refine ⟨.inr (.inl ⟨rfl, ob, by rw [hK]; exact k1, k2, k6⟩), ?_⟩
      rw [R.All_bind] at h
      refine ⟨S, γ, μ, g, h.mono (fun e μ1 h => ?_) fun _ _ _ w => w⟩
      intro S1 w H1 g1 s1 r1
      have h := Aft.step h s1
      obtain ⟨z, hz, q⟩ := ofO_some h
      obtain ⟨zz, rfl⟩ : ∃ zz, e = .str zz := by
        cases e with
        | str zz => exact ⟨zz, rfl⟩
        | _ => simp only [tidxD, reduceCtorEq] at hz
      simp only [tidxD, Option.bind_eq_some_iff, Option.map_eq_some_iff] at hz
      obtain ⟨ss, e1, j, e2, rfl⟩ := hz
      obtain ⟨a1, vs1, ea, q1, r2⟩ := rg _ rfl S1 H1
      cases ea
      obtain ⟨e3, _⟩ := strs_of e1 r2
      have r1' : w = strV zz ∧ zz.length ≤ 1000000 ∧ ∀ c ∈ zz, c < 128 := r1
      obtain ⟨f1, f2, f3⟩ := List.findIdx?_eq_some_iff_getElem.mp e2
      refine ⟨a0, ss.map fun s => ⟨s.toArray⟩, ⟨zz.toArray⟩, j, rfl, congrArg (fun x => [x]) r1'.1, ?_, ?_, ?_, fin0 g1 q rfl⟩
      · rw [hK, ← e3]; exact q1.sq
      · rw [List.getElem?_map, List.getElem?_eq_getElem f1, Option.map_some, of_decide_eq_true f2]
      · intro m hm z
        rw [List.getElem?_map, List.getElem?_eq_getElem (by omega), Option.map_some] at z
        have e4 : ss[m] = zz := by
          have := congrArg (fun s : Str => s.cps.toList) (Option.some.inj z)
          simpa using this
        have := f3 m hm
        rw [e4] at this
        exact this (decide_eq_true rfl)
  · rw [if_neg ht] at h; exact h.elim
theorem snd_dsp0 : PE X (.Dict [] [] pos) (TEn c true fun _ μ => .ok (.dic []) μ) := by
  refine (pe_fz pe_dnewK).imp fun σ H Q w => ?_
  obtain ⟨S, γ, μ, g, h⟩ := w
  intro p hp
  refine ⟨p, _, rfl, upd_same, trivial, fun od => ?_⟩
  rw [upd_upd]
  obtain ⟨s, ok⟩ := step_new (c := c) (o := HO.frz od (HO.dK [])) g.st hp
  exact h S (.ref p) _ (g.step s ok) s ⟨p, [], rfl, ⟨od, upd_same⟩, ok_notS g.st hp, rfl⟩
/-- dict(d) -/
theorem snd_dcp {p : Pos} (hc : X.calm = true) (hg : Gl X "dict") (hm : X.mg "dict" = none) (ha : PE X a (TEn c sa ra)) (hs : nst a = true) : PE X (.Call (.Name "dict" p) [a] [] pos) (TEn c true fun γ μ => (ra γ μ).bind dcpR) := by
  refine (pe_fz (pe_callTy call_dictD hg hm (by decide +kernel) (pa_cons (PEweak ha) pa_nil (star_cons hs)) (by decide +kernel) (by decide +kernel) (star_cons hs) rfl)).imp fun σ H Q w => ?_
  obtain ⟨S, γ, μ, g, h⟩ := w
  rw [R.All_bind] at h
  refine ⟨S, γ, μ, g, h.mono (fun d μ1 h => ?_) fun _ _ _ w => w⟩
  intro S1 v H1 g1 s1 r1
  cases d with
  | dic kvs =>
    have h : Aft c true S μ H γ σ Q (.dic kvs) μ1 := h
    obtain ⟨b, ps, rfl, rd, rp⟩ := rw_dic r1
    refine ⟨b, ps, rfl, rd, fun p hp => ⟨p, _, rfl, upd_same, trivial, fun od => ?_⟩⟩
    rw [upd_upd]
    obtain ⟨s2, ok⟩ := step_new (c := c) (o := HO.frz od (HO.dK ps)) g1.st hp
    exact h S1 (.ref p) _ (g1.step s2 ok) (s1.trans s2) ⟨p, ps, rfl, ⟨od, upd_same⟩, ok_notS g1.st hp, RelP.kp (s2.kp g1.st.dm) _ _ rp⟩
  | _ => exact h.elim
theorem snd_rev {k : Nat} {p1 p2 p3 : Pos} (ha : PE X a (TEn c sa ra)) :
    PE X (.Subscript a (.Slice none none (some (.UnaryOp .USub (.Constant (.int 1) k p1) p2)) p3) pos) (TEn c true fun γ μ => (ra γ μ).bind fun x μ => ofO (revD x) μ) := by
  refine (pe_revS (PEweak ha)).imp fun σ H Q w => ?_
  obtain ⟨S, γ, μ, g, h⟩ := w
  rw [R.All_bind] at h
  refine ⟨S, γ, μ, g, h.mono (fun d μ1 h => ?_) fun _ _ _ w => w⟩
  intro S1 v H1 g1 s1 r1
  have h := Aft.step h s1
  obtain ⟨z, hz, q⟩ := ofO_some h
  obtain ⟨zz, rfl⟩ : ∃ zz, d = .str zz := by
    cases d with
    | str zz => exact ⟨zz, rfl⟩
    | _ => simp only [revD, reduceCtorEq] at hz
  simp only [revD, Option.some.injEq] at hz
  subst hz
  obtain ⟨rfl, l1, a1⟩ : v = strV zz ∧ zz.length ≤ 1000000 ∧ ∀ c ∈ zz, c < 128 := r1
  refine ⟨_, rfl, ?_, ?_⟩
  · rw [str_len]; exact Nat.le_trans l1 (by decide)
  · refine fin0 g1 q ⟨?_, ?_, ?_⟩
    · rfl
    · rw [List.length_reverse]; exact l1
    · intro x hx; exact a1 x (List.mem_reverse.mp hx)
theorem rels_rev {K : PySem.W.Frag} {S : Sa} {H : Hp} : ∀ {xs : List D} {vs : List V}, Rels K S H xs vs → Rels K S H xs.reverse vs.reverse
  | [], _, h => by rw [show _ = [] from h]; rfl
  | x :: r, vs, h => by
    obtain ⟨v, ws, rfl, q, z⟩ := h
    rw [List.reverse_cons, List.reverse_cons]
    exact (rels_rev z).append (Rels.one q)
/-- xs[::-1] -/
theorem snd_rvl (hK : X.K = c.K) {k : Nat} {p1 p2 p3 : Pos} (ha : PE X a (TEn c sa ra)) :
    PE X (.Subscript a (.Slice none none (some (.UnaryOp .USub (.Constant (.int 1) k p1) p2)) p3) pos) (TEn c true fun γ μ => (ra γ μ).bind fun x μ => orO (rvlD x) (rvlD (dr μ x)) μ) := by
  have ho : Op1 c (fun x H Q => ∃ a xs, x = .ref a ∧ SqL X.K H a xs ∧ ∀ p, H p = none → Q (.ref p) (upd H p (.lst xs.reverse))) (fun x μ => ofO (rvlD x) μ) := by
    intro S γ μ σ H d v Q g rd h
    obtain ⟨z, hz, q⟩ := ofO_some h
    cases d with
    | lst xs =>
      cases hz
      obtain ⟨a, vs, rfl, sq, rs⟩ := rw_lst rd
      refine ⟨a, vs, rfl, by rw [hK]; exact sq, fun p hp => fin_lst g q (rels_rev rs) p hp⟩
    | _ => cases hz
  refine (pe_revL (PEweak ha)).imp fun σ H Q w => ?_
  show TEn c false ra σ H _
  exact read1 ho.dr w
/-- o.pop(i) -/
theorem snd_popl (hK : X.K = c.K) (ha : PE X a (TEn c sa ra)) (hb : PE X b (TEn c sb rb)) (hs : nst b = true) (hn : noCall a = true) (hl : (apos.endLine == pos.line) = true) :
    PE X (.Call (.Attribute a "pop" apos) [b] [] pos) (TEn c true fun γ μ => (ra γ μ).bind fun x μ => if isL μ x then (rb γ μ).bind fun y μ => popR x y μ else .fail) := by
  refine (pe_bm (T := "list") PySem.F.plainAttrs_list PySem.F.slot_list_pop PySem.F.type_list_pop mt_popAt (PEweak ha) (pa_cons (PEweak hb) pa_nil (star_cons hs)) (abase hn) (few_of hs) hl (star_cons hs) rfl).imp fun σ H Q w => ?_
  obtain ⟨S, γ, μ, g, h⟩ := w
  rw [R.All_bind] at h
  refine ⟨S, γ, μ, g, h.mono (fun d μ1 h => ?_) fun _ _ _ w => w⟩
  intro S1 v H1 g1 s1 r1
  by_cases hL : isL μ1 d = true
  · rw [if_pos hL] at h
    obtain ⟨p, xs, vs, rfl, rfl, eμ, ep, rs⟩ := isL_ty g1 r1 hL
    refine ⟨.inl ⟨rfl, vs, .inl (.inl ep)⟩, ?_⟩
    rw [R.All_bind] at h
    refine ⟨S1, γ, μ1, g1, h.mono (fun e μ2 h => ?_) fun _ _ _ w => w⟩
    intro S2 w H2 g2 s2 r2
    have h := Aft.step h (s1.trans s2)
    cases e with
    | int j =>
      obtain ⟨l, ys, k, y, e1, e2, e3, e4, e5, _, e7, e8⟩ := pop_key g2 (v := .ref p) (show RelW c.K T0 S2 H2 (.loc p) (.ref p) from rfl) h
      exact ⟨l, ys, j, k, y, e1, congrArg (fun z => [z]) r2, e2, e3, e4, e5, e7, e8⟩
    | _ => exact h.elim
  · rw [if_neg hL] at h; exact h.elim
theorem snd_pop0 (hK : X.K = c.K) (ha : PE X a (TEn c sa ra)) (hn : noCall a = true) (hl : (apos.endLine == pos.line) = true) :
    PE X (.Call (.Attribute a "pop" apos) [] [] pos) (TEn c true fun γ μ => (ra γ μ).bind fun x μ => popR x (.int (-1)) μ) := by
  refine (pe_bm0 (T := "list") PySem.F.plainAttrs_list PySem.F.slot_list_pop PySem.F.type_list_pop mt_pop (PEweak ha) (abase hn) hl).imp fun σ H Q w => ?_
  obtain ⟨S, γ, μ, g, h⟩ := w
  rw [R.All_bind] at h
  refine ⟨S, γ, μ, g, h.mono (fun d μ1 h => ?_) fun _ _ _ w => w⟩
  intro S1 v H1 g1 s1 r1
  obtain ⟨l, ys, k, y, rfl, e2, e3, e4, e5, e6, e7, e8⟩ := pop_key g1 (RelW.zero r1) (Aft.step h s1)
  refine ⟨.inl ⟨rfl, ys, .inl (.inl e2)⟩, l, ys, y, rfl, rfl, e2, ?_⟩
  have hk : k = ys.length - 1 := by
    obtain ⟨_, h2, h3, h4⟩ := ixN_seq e6
    unfold ixN at e6
    rw [if_neg (by decide)] at e6
    split at e6 <;> first | omega | (injection e6 with e6; omega)
  subst hk
  refine ⟨e7, ?_⟩
  have : ys.eraseIdx (ys.length - 1) = ys.dropLast := by
    rw [List.dropLast_eq_take, List.eraseIdx_eq_take_drop_succ, List.drop_eq_nil_of_le (by omega), List.append_nil]
  rw [← this]
  exact e8
/-- a built-in's list(), a + and a * of lists: the result is open -/
theorem snd_listF (hK : X.K = c.K) (hc : X.calm = true) {e : Expr} {es : List Expr} {rs : Ga → Sto → R (List D)} {p : Pos} (hg : Gl X (biName .list)) (hm : X.mg (biName .list) = none) (ha : PA X (e :: es) (TAn c false rs)) (hs : (e :: es).all nst = true) :
    PE X (.Call (.Name (biName .list) p) (e :: es) [] pos) (TFn c fun γ μ => (rs γ μ).bind fun xs μ => orO (builtin .list xs) (builtin .list (xs.map (dr μ))) μ) := by
  obtain ⟨r, h1, h2⟩ := op_listX (X := X) (c := c) hK hc
  simp only [List.all_cons, Bool.and_eq_true] at hs
  have hb : bootBuiltins (biName .list) = some (.type "list") := bi_boot .list
  have hn : biName .list ≠ "__name__" := by decide +kernel
  have hd : (biName .list == ("__debug__" : Str)) = false := by decide +kernel
  have key : PE X (.Call (.Name (biName .list) p) (e :: es) [] pos) (tCB r (TAn c false rs)) := pe_callTy h1 hg hm hb ha hn hd (star_cons hs.1) (star_any hs.2)
  refine key.imp fun σ H Q w => ?_
  obtain ⟨S, γ, μ, g, h⟩ := w
  rw [R.All_bind] at h
  refine ⟨S, γ, μ, g, h.mono (fun ds μ1 h => ?_) fun _ _ _ w => w⟩
  intro S1 vs H1 g1 s1 r1
  have r0 := Rls.zero r1
  have fin : ∀ ds', Rls c.K false T0 S1 H1 ds' vs → (ofO (builtin .list ds') μ1).All (AftF c S μ H γ σ Q) c.V → r vs H1 Q := fun ds' rr q => by
    obtain ⟨z, hz, q⟩ := ofO_some q
    cases ds' with
    | nil => cases hz
    | cons d dr =>
      cases dr with
      | cons e dr =>
        cases dr with
        | nil => cases hz
        | cons _ _ => cases hz
      | nil =>
        obtain ⟨v, rfl, rv⟩ := one_of rr
        have hz' : bi1 .list d = some z := hz
        have : ∃ zs, z = .lst zs := by cases d <;> simp only [bi1, Option.some.injEq, reduceCtorEq] at hz' <;> exact ⟨_, hz'.symm⟩
        obtain ⟨zs, rfl⟩ := this
        exact h2 S1 H1 d v zs Q rv hz' fun vs rz p hp => fin_new g1 (AftF.step (r := .ok _ _) (W := c.V) q s1) rz p hp
  cases z : builtin .list ds with
  | some d' => simp only [z, orO] at h; exact fin ds r0 (by rw [z]; exact h)
  | none => simp only [z, orO] at h; exact fin _ (r0.dr g1) h
theorem snd_lopF (hK : X.K = c.K) (o : Bop) (ha : PE X a (TEn c sa ra)) (hb : PE X b (TEn c sb rb)) :
    PE X (.BinOp a (bopOf o) b pos) (TFn c fun γ μ => (ra γ μ).bind fun x μ => (rb γ μ).bind fun y μ => orO (lopD o x y) (lopD o (dr μ x) (dr μ y)) μ) := by
  obtain ⟨r, h1, h2⟩ := op_lopX (X := X) (c := c) hK o
  refine (pe_op h1 (PEweak ha) (PEweak hb)).imp fun σ H Q w => ?_
  obtain ⟨S, γ, μ, g, h⟩ := w
  rw [R.All_bind] at h
  refine ⟨S, γ, μ, g, h.mono (fun d μ1 h => ?_) fun _ _ _ w => w⟩
  intro S1 v H1 g1 s1 r1
  rw [R.All_bind] at h
  refine ⟨S1, γ, μ1, g1, h.mono (fun e μ2 h => ?_) fun _ _ _ w => w⟩
  intro S2 w H2 g2 s2 r2
  have rd := RelW.zero (RelW.kp (s2.kp g1.st.dm) s2.kpD r1)
  have re := RelW.zero r2
  have fin : ∀ d' e', RelW c.K T0 S2 H2 d' v → RelW c.K T0 S2 H2 e' w → (ofO (lopD o d' e') μ2).All (AftF c S μ H γ σ Q) c.V → r v w H2 Q := fun d' e' rd re q => by
    obtain ⟨z, hz, q⟩ := ofO_some q
    unfold lopD at hz
    split at hz
    · rename_i zs e1
      cases hz
      exact h2 S2 H2 d' e' v w zs Q rd re e1 fun vs rz p hp => fin_new g2 (AftF.step (r := .ok _ _) (W := c.V) q (s1.trans s2)) rz p hp
    · cases hz
  cases z : lopD o d e with
  | some d' => simp only [z, orO] at h; exact fin d e rd re (by rw [z]; exact h)
  | none => simp only [z, orO] at h; exact fin _ _ (rd.dr g2) (re.dr g2) h
end
end Bs
/-! Bs: objects of the store: their fields. -/
namespace Bs
open PySem L2
theorem nm_all : ((List.range 130).all fun i => (List.range 130).all fun j => decide (nm i = nm j) == decide (i = j)) = true := by decide +kernel
theorem nm_inj1 {i j : Nat} (hi : i < 130) (hj : j < 130) (h : nm i = nm j) : i = j := by
  have h1 := List.all_eq_true.mp nm_all i (List.mem_range.mpr hi)
  have h2 := List.all_eq_true.mp h1 j (List.mem_range.mpr hj)
  rw [beq_iff_eq] at h2
  exact of_decide_eq_true (by rw [← h2]; exact decide_eq_true h)
section
variable {K : PySem.W.Frag} {S S' : Sa} {H H' : Hp}
theorem lookup_mem {f : Nat} {d : D} : ∀ {fs : List (Nat × D)}, fs.lookup f = some d → (f, d) ∈ fs
  | [], h => by cases h
  | (g, x) :: r, h => by
    rw [List.lookup_cons] at h
    by_cases e : f = g
    · subst e; simp at h; subst h; exact List.mem_cons_self
    · have : (f == g) = false := by simpa using e
      rw [this] at h; exact List.mem_cons_of_mem _ (lookup_mem h)
theorem RelF.get {f : Nat} {d : D} : ∀ {fs : List (Nat × D)} {vs : List (Str × V)}, RelF K S H fs vs → (∀ q ∈ fs, q.1 < 130) → fs.lookup f = some d → ∃ v, vs.lookup (nm f) = some v ∧ Rel K S H d v
  | [], vs, r, hn, h => by cases h
  | (g, x) :: fs, vs, r, hn, h => by
    obtain ⟨v, ws, rfl, r1, r2⟩ := r
    have hf : f < 130 := hn _ (lookup_mem h)
    have hg : g < 130 := hn (g, x) List.mem_cons_self
    rw [List.lookup_cons] at h ⊢
    by_cases e : f = g
    · subst e
      simp only [beq_self_eq_true] at h ⊢
      cases h
      exact ⟨v, rfl, r1⟩
    · have e1 : (f == g) = false := by simpa using e
      have e2 : (nm f == nm (g, x).1) = false := by
        have : nm f ≠ nm g := fun z => e (nm_inj1 hf hg z)
        simpa using this
      rw [e1] at h
      rw [e2]
      exact RelF.get r2 (fun q hq => hn q (List.mem_cons_of_mem _ hq)) h
theorem RelF.put {f : Nat} {d : D} {v : V} (hf : f < 130) (rd : Rel K S H d v) : ∀ {fs : List (Nat × D)} {vs : List (Str × V)}, RelF K S H fs vs → (∀ q ∈ fs, q.1 < 130) → RelF K S H (putFD f d fs) (putF (nm f) v vs)
  | [], vs, r, hn => by
    have r : vs = [] := r
    subst r
    exact ⟨v, [], rfl, rd, rfl⟩
  | (g, x) :: fs, vs, r, hn => by
    obtain ⟨w, ws, rfl, r1, r2⟩ := r
    have hg : g < 130 := hn (g, x) List.mem_cons_self
    unfold putFD putF
    by_cases e : g = f
    · subst e
      rw [if_pos rfl, if_pos rfl]
      exact ⟨v, ws, rfl, rd, r2⟩
    · have e2 : nm (g, x).1 ≠ nm f := fun z => e (nm_inj1 hg hf z)
      rw [if_neg e, if_neg e2]
      exact ⟨w, _, rfl, r1, RelF.put hf rd r2 fun q hq => hn q (List.mem_cons_of_mem _ hq)⟩
theorem RelF.length : ∀ {fs : List (Nat × D)} {vs : List (Str × V)}, RelF K S H fs vs → vs.length = fs.length
  | [], vs, r => by have r : vs = [] := r; rw [r]; rfl
  | q :: fs, vs, r => by obtain ⟨w, ws, rfl, r1, r2⟩ := r; simp [RelF.length r2]
theorem RelF.none {m : Str} : ∀ {fs : List (Nat × D)} {vs : List (Str × V)}, RelF K S H fs vs → (∀ q ∈ fs, nm q.1 ≠ m) → vs.lookup m = none
  | [], vs, r, hn => by have r : vs = [] := r; rw [r]; rfl
  | q :: fs, vs, r, hn => by
    obtain ⟨w, ws, rfl, r1, r2⟩ := r
    rw [List.lookup_cons]
    have : (m == nm q.1) = false := by
      have := hn q List.mem_cons_self
      simpa using fun z => this z.symm
    rw [this]
    exact RelF.none r2 fun q hq => hn q (List.mem_cons_of_mem _ hq)
theorem putFD_mem {f : Nat} {d : D} : ∀ {fs : List (Nat × D)} {q : Nat × D}, q ∈ putFD f d fs → q.1 = f ∨ ∃ q' ∈ fs, q'.1 = q.1
  | [], q, h => by
    have h : q ∈ [(f, d)] := h
    rw [List.mem_singleton.mp h]; exact .inl rfl
  | (g, x) :: fs, q, h => by
    unfold putFD at h
    by_cases e : g = f
    · rw [if_pos e] at h
      rcases List.mem_cons.mp h with rfl | h
      · exact .inl e
      · exact .inr ⟨q, List.mem_cons_of_mem _ h, rfl⟩
    · rw [if_neg e] at h
      rcases List.mem_cons.mp h with rfl | h
      · exact .inr ⟨_, List.mem_cons_self, rfl⟩
      · rcases putFD_mem h with z | ⟨q', h1, h2⟩
        · exact .inl z
        · exact .inr ⟨q', List.mem_cons_of_mem _ h1, h2⟩
end
section
variable {c : Ct} {S S' : Sa} {γ : Ga} {μ μ' : Sto} {σ : L2.St} {H H' : Hp} {Q : VK}
/-- what stands at p in the store changes -/
theorem Good.putOb (g : Good c S γ μ σ H) {p : Addr} {o o' : Ob} {u : HO} (e : μ p = some o) (r : ObR c.K S (upd H p u) p o') : Good c S γ (μ.put p o') σ (upd H p u) ∧ KpT S S H (upd H p u) := by
  have sp := (g.st.st p o e).1
  have k : KpT S S H (upd H p u) := KpT.refl.poke (.inl sp)
  have pn : ∀ q, q ≠ p → (μ.put p o') q = μ q := fun q h => by unfold Sto.put; rw [if_neg h]
  have pp : (μ.put p o') p = some o' := by unfold Sto.put; rw [if_pos rfl]
  have hdom : ∀ q, (μ.put p o') q ≠ none ↔ μ q ≠ none := fun q => by
    by_cases z : q = p
    · subst z; rw [pp, e]; simp
    · rw [pn q z]
  have hx : c.μ0 p ≠ none ∨ c.H0 p = none := g.fr p (by rw [e]; exact fun z => nomatch z)
  refine ⟨⟨g.len, fun j s ej => ?_, g.ap, ⟨fun q ob eq => ?_, fun a z => k.th a (g.st.sd a z)⟩, g.s0, fun a u h m => ?_, fun q z => g.fr q ((hdom q).mp z), fun q z => (hdom q).mpr (g.md q z), g.kt.trans k⟩, k⟩
  · have h := g.sl j s ej
    cases s with
    | un => trivial
    | val d => obtain ⟨v, e1, r⟩ := h; exact ⟨v, e1, r.kp k.kp⟩
    | own ob =>
      obtain ⟨q, e2, sq, h0', m, rr⟩ := h
      have qp : q ≠ p := fun z => by rw [z, e] at m; cases m
      exact ⟨q, e2, sq, h0', by rw [pn q qp]; exact m, rr.kp k.kp (upd_ne qp)⟩
  · by_cases z : q = p
    · subst z; rw [pp] at eq; cases eq; exact ⟨sp, r⟩
    · rw [pn q z] at eq; exact ⟨(g.st.st q ob eq).1, (g.st.st q ob eq).2.kp k.kp (upd_ne z)⟩
  · rw [upd_ne (fun z => ?_)]; exact g.ext a _ h m
    rcases hx with hx | hx
    · rw [z] at m; exact hx m
    · rw [z, hx] at h; cases h
/-- a new object and its dict -/
theorem step_newO (hst : StoOk c.K S μ H) {C : Nat} {x dx : Addr} (hx : H x = none) (hdx : H dx = none) (hne : dx ≠ x) (hc : Cls c.K (He.ga c.K (nm C))) :
    Step S μ H (fun a => S a ∨ a = x) (μ.put x (.ins C [])) (upd (upd H dx (.own x)) x (.ins (He.ga c.K (nm C)) dx [])) ∧ StoOk c.K (fun a => S a ∨ a = x) (μ.put x (.ins C [])) (upd (upd H dx (.own x)) x (.ins (He.ga c.K (nm C)) dx [])) ∧ μ x = none := by
  have mx : μ x = none := by
    cases e : μ x with
    | none => rfl
    | some o => exact absurd hx (hst.st x o e).2.there
  have pn : ∀ q, q ≠ x → (μ.put x (.ins C [])) q = μ q := fun q h => by unfold Sto.put; rw [if_neg h]
  have pp : (μ.put x (.ins C [])) x = some (.ins C []) := by unfold Sto.put; rw [if_pos rfl]
  have hk : ∀ a o, H a = some o → (upd (upd H dx (.own x)) x (.ins (He.ga c.K (nm C)) dx [])) a = some o := fun a o h => by
    rw [upd_ne (ne_of_none h hx), upd_ne (ne_of_none h hdx)]; exact h
  have k : Kp S (fun a => S a ∨ a = x) H (upd (upd H dx (.own x)) x (.ins (He.ga c.K (nm C)) dx [])) := ⟨fun a o h _ => hk a o h, fun a z => z.imp id fun z => by rw [z]; exact hx⟩
  have th : ∀ a, H a ≠ none → (upd (upd H dx (.own x)) x (.ins (He.ga c.K (nm C)) dx [])) a ≠ none := fun a h => by
    cases e : H a with
    | none => exact absurd e h
    | some o => rw [hk a o e]; exact fun z => nomatch z
  refine ⟨⟨fun a o h _ => hk a o h, th, fun a z => z.imp id fun z => by rw [z]; exact hx, fun a z => .inl z, fun a z => ?_, fun a z => ?_⟩, ⟨fun p o e => ?_, fun a z => ?_⟩, mx⟩
  · by_cases e : a = x
    · rw [e, pp]; exact fun z => nomatch z
    · rw [pn a e]; exact z
  · by_cases e : a = x
    · rw [e]; exact .inr hx
    · rw [pn a e] at z; exact .inl z
  · by_cases e2 : p = x
    · subst e2
      rw [pp] at e; cases e
      exact ⟨.inr rfl, dx, [], upd_same, rfl, hc, fun q hq => by cases hq⟩
    · rw [pn p e2] at e
      obtain ⟨sp, ob⟩ := hst.st p o e
      refine ⟨.inl sp, ob.kp k ?_⟩
      cases e3 : H p with
      | none => exact absurd e3 ob.there
      | some u => exact hk p u e3
  · rcases z with z | z
    · exact th a (hst.sd a z)
    · rw [z, upd_same]; exact fun z => nomatch z
/-- e.f -/
theorem snd_att {X : Cx} {ra : Ga → Sto → R D} {st : Bool} {e : Expr} {f : Nat} {pos : Pos} (hK : X.K = c.K) (he : PE X e (TEn c st ra)) (hn : noCall e = true) : PE X (.Attribute e (nm f) pos) (TEn c true fun γ μ => (ra γ μ).bind (attR f)) := by
  refine (pe_fld (PEweak he) (abase hn)).imp fun σ H Q w => ?_
  refine read1 (c := c) (r := fun x H1 Q => ∃ a C dx fs v, x = .ref a ∧ H1 a = some (.ins C dx fs) ∧ Cls X.K C ∧ NoAttr X.K C (nm f) ∧ fs.lookup (nm f) = some v ∧ Q v H1) (fun S γ μ σ H d v Q g rd h => ?_) w
  cases d with
  | loc p =>
    have rd : v = .ref p := rd
    subst rd
    unfold attR at h
    try dsimp only at h
    cases e : μ p with
    | none => rw [e] at h; exact h.elim
    | some o =>
      rw [e] at h
      cases o with
      | lst _ => exact h.elim
      | dic _ => exact h.elim
      | ins c' fs =>
        obtain ⟨sp, dx, vs, e1, r, hc, hn⟩ := g.st.st p _ e
        cases el : fs.lookup f with
        | none => simp only [el] at h; exact h.elim
        | some d =>
          simp only [el] at h
          obtain ⟨v, ev, rv⟩ := r.get (fun q hq => (hn q hq).1) el
          exact ⟨p, _, dx, vs, v, rfl, e1, by rw [hK]; exact hc, by rw [hK]; exact (hn _ (lookup_mem el)).2, ev, h S v H g Step.refl rv⟩
  | _ => exact h.elim
end
section
variable {c : Ct} {X : Cx} {es : List Expr} {kws : List Keyword} {rs rk : Ga → Sto → R (List D)} {pos p : Pos} {x : Str} {k : Nat} {f C : Addr} {fd : FuncData} {ps : List Str} {sp : Sp} {pm : List Nat} {t tk : TA}
def tMakeG (C : Addr) (W : WX) (pm : List Nat) (na nk : Nat) (sp : Sp) (t tk : TA) : TE := fun σ H Q => t σ H fun vs H1 => tk σ H1 fun zs H2 => vs.length = na ∧ zs.length = nk ∧
  ∀ x dx, H2 x = none → H2 dx = none → dx ≠ x → sp (arr pm (V.ref x :: (vs ++ zs))) (upd (upd H2 dx (.own x)) x (.ins C dx [])) (fun v H3 => v = .non ∧ Q (.ref x) H3) (WE W σ)
theorem run_makeG {W : WX} {na : Nat} {pins : List (Addr × Obj)} {σ : L2.St} {Q : VK} (M : Mk X.K C f) (tx : Takes X W) (F : FnOk X.prog X.w X.K X.mg X.base (L2.CX X.prog X.w) k f fd ps sp) (hr : Room (k + 1) X.A)
    (hb : ∀ (s : Shared) (us ws : List Value), X.K.In s.heap → us.length = na + 1 → ws.length = kws.length → BindsTo s fd ⟨us, (kwN kws).zip ws⟩ (ps.zip (arr pm (us ++ ws)))) :
    ∀ (us ws : List Value) (vs zs : List V) (s2 : Shared) (H2 : Hp), Inv X pins σ H2 s2 → Vals vs us → Vals zs ws → (vs.length = na ∧ zs.length = kws.length ∧ ∀ x dx, H2 x = none → H2 dx = none → dx ≠ x → sp (arr pm (V.ref x :: (vs ++ zs))) (upd (upd H2 dx (.own x)) x (.ins C dx [])) (fun v H3 => v = .non ∧ Q (.ref x) H3) (WE W σ)) →
      wpAny (model X.prog X.w) X.A (PySem.call (.ref C) us ((kwN kws).zip ws)) (EP X pins σ Q) X.xe s2 := by
  intro us ws vs zs s H I r rz q
  obtain ⟨l1, l2, q⟩ := q
  have hq := q (s.heap.objs.size + 1) s.heap.objs.size (I.hok.fresh (Nat.le_succ _)) (I.hok.fresh (Nat.le_refl _)) (Nat.ne_of_lt (Nat.lt_succ_self _))
  have I2 := Inv.made (C := C) I
  have r2 : Vals (arr pm (V.ref (s.heap.objs.size + 1) :: (vs ++ zs))) (arr pm ((Value.ref (s.heap.objs.size + 1) :: us) ++ ws)) := arr_vals (pm := pm) (.cons rfl (r.append rz))
  refine wpAny_call (make_map (f := f) I.kIn M.makes M.init (beq_iff_eq.mp M.fn) (codeAny_mono (F.run _ X.stack _ _ ⟨Value.ref (s.heap.objs.size + 1) :: us, (kwN kws).zip ws⟩ (arr pm ((Value.ref (s.heap.objs.size + 1) :: us) ++ ws)) _ _ (WE W σ) (hr.make C us ((kwN kws).zip ws))
    (I2.env0.make C us ((kwN kws).zip ws)) (hb _ (Value.ref (s.heap.objs.size + 1) :: us) ws I2.kIn (by rw [List.length_cons, ← r.length, l1]) (by rw [← rz.length]; exact l2)) r2 hq) fun r s' hq' => ?_))
  cases r with
  | error e => exact passAt tx σ pins _ _ e s' I2 hq'
  | ok fl =>
    cases fl with
    | ret u =>
      obtain ⟨v, H', I3, rv, ev, q3⟩ := I2.after hq'
      subst ev
      exact ⟨rv, ⟨V.ref (s.heap.objs.size + 1), H', I3, rfl, q3⟩⟩
    | next => exact False.elim hq'
    | brk => exact False.elim hq'
    | cont => exact False.elim hq'
theorem pe_makeG {W : WX} {e : Expr} (M : Mk X.K C f) (tx : Takes X W) (F : FnOk X.prog X.w X.K X.mg X.base (L2.CX X.prog X.w) k f fd ps sp) (hr : Room (k + 1) X.A) (hg : Gl X x) (hm : X.mg x = some (.ref C))
    (hb : ∀ (s : Shared) (us ws : List Value), X.K.In s.heap → us.length = (e :: es).length + 1 → ws.length = kws.length → BindsTo s fd ⟨us, (kwN kws).zip ws⟩ (ps.zip (arr pm (us ++ ws))))
    (ha : PA X (e :: es) t) (hkw : PK X kws tk) (hs : (e :: es).all nst = true) (hkk : kwOk kws = true) (hdb : (x == ("__debug__" : Str)) = false) : PE X (.Call (.Name x p) (e :: es) kws pos) (tMakeG C W pm (e :: es).length kws.length sp t tk) := by
  refine ⟨fun pins s σ H Q I h => ?_⟩
  refine wpAny_Call_Name_kw (ld_glob I hg hm ?_ hdb)
  obtain ⟨k1, k2, k3, k4⟩ := kw_all (pos := pos) (env := X.env) hkk
  have hpl : ((backTo pos (starEach (e :: es) X.env)).any (·.1) || (backToKw pos (keywordEach kws X.env)).any (·.1.isNone)) = false := by rw [star_any hs, k2]; rfl
  have hs' : nst e = true := by simp only [List.all_cons, Bool.and_eq_true] at hs; exact hs.1
  refine PySem.W.callWith_KW (h₀ := X.base) I.ok.mod.kin M.kp k1 (thn (ha.run pos pins s σ H _ I h) fun us s1 ⟨vs, H1, I1, r, q⟩ => ?_) hpl (star_cons hs')
  refine thn (hkw.run pos pins s1 σ H1 _ I1 q) fun ws s2 ⟨zs, H2, I2, rz, q2⟩ => ⟨I2.kIn, ?_⟩
  rw [k3]
  exact run_makeG M tx F hr hb us ws vs zs s2 H2 I2 r rz q2
theorem pe_makeG0 {W : WX} (M : Mk X.K C f) (tx : Takes X W) (F : FnOk X.prog X.w X.K X.mg X.base (L2.CX X.prog X.w) k f fd ps sp) (hr : Room (k + 1) X.A) (hg : Gl X x) (hm : X.mg x = some (.ref C))
    (hb : ∀ (s : Shared) (us ws : List Value), X.K.In s.heap → us.length = 0 + 1 → ws.length = kws.length → BindsTo s fd ⟨us, (kwN kws).zip ws⟩ (ps.zip (arr pm (us ++ ws))))
    (hkw : PK X kws tk) (hkk : kwOk kws = true) (hdb : (x == ("__debug__" : Str)) = false) : PE X (.Call (.Name x p) [] kws pos) (tMakeG C W pm 0 kws.length sp tNil tk) := by
  refine ⟨fun pins s σ H Q I h => ?_⟩
  refine wpAny_Call_Name_kw (ld_glob I hg hm ?_ hdb)
  obtain ⟨k1, k2, k3, k4⟩ := kw_all (pos := pos) (env := X.env) hkk
  have hpl : ((backTo pos (starEach [] X.env)).any (·.1) || (backToKw pos (keywordEach kws X.env)).any (·.1.isNone)) = false := by rw [k2]; rfl
  refine PySem.W.callWith_KW0 (h₀ := X.base) I.ok.mod.kin M.kp k1 (thn (hkw.run pos pins s σ H _ I h) fun ws s2 ⟨zs, H2, I2, rz, q2⟩ => ⟨I2.kIn, ?_⟩) hpl
  rw [k3]
  exact run_makeG M tx F hr hb [] ws [] zs s2 H2 I2 .nil rz q2
theorem makeG_of {na nk : Nat} {cl : List D → Sto → R D} {np C : Nat} {σ : L2.St} {H : Hp} {Q : VK} (hc : Cls c.K (He.ga c.K (nm C))) (hnp : ∀ (ds : List D), ds.length = na + 1 + nk → (arr pm ds).length = np)
    (hla : ∀ γ μ, (rs γ μ).Sat fun ds => ds.length = na) (hlk : ∀ γ μ, (rk γ μ).Sat fun ds => ds.length = nk)
    (h : TEn c true (fun γ μ => (rs γ μ).bind fun xs μ => (rk γ μ).bind fun ys μ => .any (fun p => μ p = none) fun p => ((cl (arr pm (.loc p :: (xs ++ ys))) (μ.put p (.ins C []))).back γ).bind fun r μ => madeR p r μ) σ H Q) :
    tMakeG (He.ga c.K (nm C)) (WV c) pm na nk (spF c.K cl np false) (TAn c true rs) (TAn c true rk) σ H Q := by
  obtain ⟨S, γ, μ, g, h⟩ := h
  rw [R.All_bind] at h
  refine ⟨S, γ, μ, g, (h.both (hla γ μ)).mono (fun xs μ1 h => ?_) fun _ _ _ w => w⟩
  obtain ⟨h, lx⟩ := h
  intro S1 vs H1 g1 s1 r1
  rw [R.All_bind] at h
  refine ⟨S1, γ, μ1, g1, (h.both (hlk γ μ1)).mono (fun ys μ2 h => ?_) fun _ _ _ w => w⟩
  obtain ⟨h, ly⟩ := h
  intro S2 zs H2 g2 s2 r2
  have r1' := Rels.kp (s2.kp g1.st.dm) _ _ r1.rels
  have r2' := r2.rels
  refine ⟨by rw [r1'.length]; exact lx, by rw [r2'.length]; exact ly, fun x dx hx hdx hne => ?_⟩
  obtain ⟨s3, o3, mx⟩ := step_newO g2.st hx hdx hne hc
  have h := h x mx
  rw [R.All_bind] at h
  have hh := All_back h
  have s12 := s1.trans s2
  have k3 := s3.kp g2.st.dm
  have rr : Rels c.K (fun a => S2 a ∨ a = x) (upd (upd H2 dx (.own x)) x (.ins (He.ga c.K (nm C)) dx [])) (D.loc x :: (xs ++ ys)) (V.ref x :: (vs ++ zs)) := ⟨_, _, rfl, rfl, Rels.kp k3 _ _ (r1'.append r2')⟩
  refine ⟨?_, fun a => S2 a ∨ a = x, μ2.put x (.ins C []), _, o3, arr_rels rr, hh.mono (fun d μ3 q => ?_) fun y _ μ3 w S' H' cls dd st ok xr => ⟨S', γ, μ3, y, g2.step (s3.trans st) ok, xr, w⟩⟩
  · rw [(arr_rels rr).length]
    exact hnp _ (by rw [List.length_cons, List.length_append, lx, ly]; omega)
  · intro S' v H' st ok rv
    cases d with
    | non =>
      have rv : v = .non := rv
      exact ⟨rv, q S' (.ref x) H' (g2.step (s3.trans st) ok) (s12.trans (s3.trans st)) rfl⟩
    | _ => exact q.elim
end
end Bs
/-! Bs: objects of the store: their methods. -/
namespace Bs
open PySem L2
theorem form_all {es : List Expr} {env : Env} {pos : Pos} (hs : es.all nst = true) (hl : es.length < 29) : methodCallForm (es.length + ([] : List Keyword).length) (backTo pos (starEach es env)) (backToKw pos (keywordEach [] env)) = true := by
  unfold methodCallForm
  have h1 : (backTo pos (starEach es env)).all (fun x => !x.1) = true := by
    have := star_any (pos := pos) (env := env) hs
    rw [List.all_eq_not_any_not]
    simp only [Bool.not_not]
    rw [this]; rfl
  rw [h1]
  have h2 : (backToKw pos (keywordEach [] env)) = [] := rfl
  rw [h2]
  simp
  omega
theorem eval_meth {o : Expr} {m : Str} {apos pos : Pos} {args : List Expr} {env : Env} (hn : noCall o = true) (hf : methodCallForm (args.length + ([] : List Keyword).length) (backTo pos (starEach args env)) (backToKw pos (keywordEach [] env)) = true) (hl : (apos.endLine == pos.line) = true) :
    eval (.Call (.Attribute o m apos) args [] pos) env = (do
      let ov ← eval o env
      standAt apos.atName
      let (f, first) ← holding [ov] (getMethod ov m (do return (← importBound o env).getD true))
      callWith pos f first (backTo pos (starEach args env)) (backToKw pos (keywordEach [] env))) := by
  rw [arm_eval_Call, abase hn]
  unfold methodCall calleeOf methodCallPos
  rw [hf]
  simp only [Bool.not_true, Bool.false_or, hl, if_true, pure_bind]
section
variable {c : Ct} {X : Cx} {es : List Expr} {rs : Ga → Sto → R (List D)} {pos p apos : Pos} {x : Str} {k : Nat} {f C : Addr} {fd : FuncData} {ps : List Str} {sp : Sp} {t : TA} {o : Expr} {ta : TE} {m : Str}
def tMthG (C : Addr) (m : Str) (W : WX) (na : Nat) (sp : Sp) (ta : TE) (t : TA) : TE := fun σ H Q => ta σ H fun x H1 => ∃ a dx fs, x = .ref a ∧ H1 a = some (.ins C dx fs) ∧ fs.lookup m = none ∧ t σ H1 fun vs H2 => vs.length = na ∧ sp (x :: vs) H2 Q (WE W σ)
theorem run_M {W : WX} {na : Nat} {pins : List (Addr × Obj)} {σ : L2.St} {Q : VK} (tx : Takes X W) (F : FnOk X.prog X.w X.K X.mg X.base (L2.CX X.prog X.w) k f fd ps sp) (hr : Room k X.A)
    (hb : ∀ (s : Shared) (us : List Value), X.K.In s.heap → us.length = na → BindsTo s fd ⟨us, []⟩ (ps.zip us)) :
    ∀ (us : List Value) (vs : List V) (s2 : Shared) (H2 : Hp), Inv X pins σ H2 s2 → Vals vs us → vs.length = na ∧ sp vs H2 Q (WE W σ) → wpAny (model X.prog X.w) X.A (PySem.call (.ref f) us) (EP X pins σ Q) X.xe s2 := by
  intro us vs s2 H2 I2 r q
  obtain ⟨l1, q⟩ := q
  refine wpAny_call (codeAny_mono (F.run X.A X.stack s2 H2 ⟨us, []⟩ us vs Q (WE W σ) hr I2.env0 (hb s2 us I2.kIn (by rw [← r.length]; exact l1)) r q) fun r s' hq => ?_)
  cases r with
  | error e => exact passAt tx σ pins H2 s2 e s' I2 hq
  | ok fl =>
    cases fl with
    | ret u => exact I2.after hq
    | next => exact False.elim hq
    | brk => exact False.elim hq
    | cont => exact False.elim hq
theorem pe_mthG {W : WX} {e : Expr} (he : PE X o ta) (hc : Cls X.K C) (hm : Meth X.K C m f) (tx : Takes X W) (F : FnOk X.prog X.w X.K X.mg X.base (L2.CX X.prog X.w) k f fd ps sp) (hr : Room k X.A)
    (hb : ∀ (s : Shared) (us : List Value), X.K.In s.heap → us.length = (e :: es).length + 1 → BindsTo s fd ⟨us, []⟩ (ps.zip us))
    (ha : PA X (e :: es) t) (hs : (e :: es).all nst = true) (hn : noCall o = true) (hl : (apos.endLine == pos.line) = true) (hlen : (e :: es).length < 29) : PE X (.Call (.Attribute o m apos) (e :: es) [] pos) (tMthG C m W (e :: es).length sp ta t) := by
  refine ⟨fun pins s σ H Q I h => ?_⟩
  refine PySem.W.methodCall_KW (thn (he.run pins s σ H _ I h) fun u s1 ⟨x, H1, I1, rx, a, dx, fs, ex, ea, l, q⟩ => ?_) (eval_meth hn (form_all hs hlen) hl)
  subst ex
  obtain rfl : u = Value.ref a := rx
  refine getmeth_ok I1 ea hc hm l ?_
  have hs' : nst e = true := by simp only [List.all_cons, Bool.and_eq_true] at hs; exact hs.1
  have hs2 : es.all nst = true := by simp only [List.all_cons, Bool.and_eq_true] at hs; exact hs.2
  refine PySem.W.callWith_K (first := [.ref a]) (h₀ := X.base) I.ok.mod.kin hm.kp (thn (ha.run pos pins s1 σ H1 _ I1 q) fun us s2 ⟨vs, H2, I2, r, q2⟩ => ⟨I2.kIn, ?_⟩) (star_cons hs') (star_any hs2)
  exact run_M tx F hr hb (.ref a :: us) (.ref a :: vs) s2 H2 I2 (.cons rfl r) ⟨by rw [List.length_cons, q2.1], q2.2⟩
theorem pe_mthG0 {W : WX} (he : PE X o ta) (hc : Cls X.K C) (hm : Meth X.K C m f) (tx : Takes X W) (F : FnOk X.prog X.w X.K X.mg X.base (L2.CX X.prog X.w) k f fd ps sp) (hr : Room k X.A)
    (hb : ∀ (s : Shared) (us : List Value), X.K.In s.heap → us.length = 0 + 1 → BindsTo s fd ⟨us, []⟩ (ps.zip us))
    (hn : noCall o = true) (hl : (apos.endLine == pos.line) = true) : PE X (.Call (.Attribute o m apos) [] [] pos) (tMthG C m W 0 sp ta tNil) := by
  refine ⟨fun pins s σ H Q I h => ?_⟩
  refine PySem.W.methodCall_KW (thn (he.run pins s σ H _ I h) fun u s1 ⟨x, H1, I1, rx, a, dx, fs, ex, ea, l, q⟩ => ?_) (eval_meth hn (form_all rfl (by decide)) hl)
  subst ex
  obtain rfl : u = Value.ref a := rx
  refine getmeth_ok I1 ea hc hm l ?_
  refine PySem.W.callWith_K0 (first := [.ref a]) I1.kIn hm.kp ?_
  have q : ([] : List V).length = 0 ∧ sp [V.ref a] H1 Q (WE W σ) := q
  exact run_M tx F hr hb [.ref a] [.ref a] s1 H1 I1 (.cons rfl .nil) ⟨rfl, q.2⟩
theorem mthG_of {na : Nat} {cl : List D → Sto → R D} {np C : Nat} {σ : L2.St} {H : Hp} {Q : VK} {ra : Ga → Sto → R D} {st : Bool} (hm : ∃ g : Addr, PySem.W.findIn c.K (.ref (He.ga c.K (nm C))) m = some (some (.ref g))) (hnp : na + 1 = np)
    (hla : ∀ γ μ, (rs γ μ).Sat fun ds => ds.length = na)
    (h : TEn c true (fun γ μ => (ra γ μ).bind fun x μ => if isOb C μ x then (rs γ μ).bind fun xs μ => (cl (x :: xs) μ).back γ else .fail) σ H Q) :
    tMthG (He.ga c.K (nm C)) m (WV c) na (spF c.K cl np false) (TEn c st ra) (TAn c true rs) σ H Q := by
  obtain ⟨S, γ, μ, g, h0⟩ := h
  rw [R.All_bind] at h0
  refine ⟨S, γ, μ, g, h0.mono (fun x μ1 h => ?_) fun _ _ _ w => w⟩
  clear h0
  intro S1 v H1 g1 s1 r1
  by_cases hO : isOb C μ1 x = true
  · rw [if_pos hO] at h
    cases x with
    | loc p =>
      have ev : v = .ref p := by cases st <;> exact r1
      subst ev
      unfold isOb at hO
      try dsimp only at hO
      cases em : μ1 p with
      | none => rw [em] at hO; cases hO
      | some ob =>
        rw [em] at hO
        cases ob with
        | lst _ => cases hO
        | dic _ => cases hO
        | ins c' fs =>
          have hO : c' = C := of_decide_eq_true hO
          subst hO
          obtain ⟨sp, dx, vs, e1, r, hcl, hn⟩ := g1.st.st p _ em
          refine ⟨p, dx, vs, rfl, e1, r.none fun q hq z => ?_, ?_⟩
          · obtain ⟨g', hg⟩ := hm
            have : PySem.W.findIn c.K (.ref (He.ga c.K (nm c'))) (nm q.1) = some none := (hn q hq).2
            rw [z, hg] at this
            cases this
          · rw [R.All_bind] at h
            refine ⟨S1, γ, μ1, g1, (h.both (hla γ μ1)).mono (fun xs μ2 h => ?_) fun _ _ _ w => w⟩
            obtain ⟨h, lx⟩ := h
            intro S2 ws H2 g2 s2 r2
            have hh := All_back h
            have s12 := s1.trans s2
            refine ⟨by rw [r2.rels.length]; exact lx, ?_, S2, μ2, D.loc p :: xs, g2.st, ⟨_, _, rfl, rfl, r2.rels⟩, hh.mono (fun d μ3 q => ?_) fun y _ μ3 w S' H' cls dd st ok xr => ⟨S', γ, μ3, y, g2.step st ok, xr, w⟩⟩
            · rw [List.length_cons, r2.rels.length, lx]; exact hnp
            · intro S' v H' st ok rv
              exact q S' v H' (g2.step st ok) (s12.trans st) rv
    | _ => cases hO
  · rw [if_neg hO] at h; exact h.elim
end
end Bs
/-! Bs: sorted(set(x)). -/
namespace L2
open PySem PySem.Spec PyProof.Rows
/-- an empty set, new -/
abbrev so (w : World) : Obj := { cls := .type "set", dict := none, data := .set #[] 0 (.fresh 0 0 (!w.params.followText "set-order")) }
section
variable {P : Program} {w : World} {A : Around} {E : Value → Shared → Prop} {s : Shared}
set_option maxHeartbeats 3200000 in
theorem set_ofL {l : Addr} {items : Array Value} (ns : List Int) {Q : Value → Shared → Prop} (hh : A.handled = none) (hl : s.heap.IsList l items) (hit : IntsAre items.toList ns) (hb : ns.length + 1 < scanBound)
    (h : ∀ (h' : Heap) (tk c : Nat), SetR w h' s.heap.objs.size (fun j => decide (j ∈ ns)) c → (∀ b o, s.heap.get? b = some o → h'.get? b = some o) → Q (.ref s.heap.objs.size) { s with heap := h', toks := tk }) :
    wpAny (model P w) A (call (.type "set") [.ref l]) Q E s := by
  have hisz : items.size = ns.length := by
    have q := IntsAre.length hit
    rw [Array.length_toList] at q
    exact q
  obtain ⟨c, tl, hmro⟩ := F.called_set.mro
  have hmade := F.called_set.made
  have hsub := F.called_set.sub
  refine wpAny_call (codeAny_of_tree ?_)
  show wpAny _ _ (callAny (.type "set") _) _ _ _
  refine wpAny_pure ⟨Code.quiet_builtin _ (by decide +kernel), codeAny_builtin F.entry_type_call ?_⟩
  rw [Around.under_plain (weight_type_call_type "set" [.ref l] []) rfl]
  have h1 := F.called_set.notType
  have h2 := F.called_set.canCreate
  have hct := F.typeCall_set_1 (.ref l)
  repeat (any_goals (first | assumption | wp_step))
  refine codeAny_mono (code_set_led1 (.ref l) (E := E) (Q₁ := fun obj s₁ => obj = .ref s.heap.objs.size ∧ s₁ = { s with heap := s.heap.push (so w) }) ⟨rfl, rfl⟩) fun r s₁ hr => ?_
  cases r with
  | error e => exact hr
  | ok fl =>
    cases fl with
    | ret obj =>
      obtain ⟨rfl, rfl⟩ := hr
      have hS : (s.heap.push (so w)).get? s.heap.objs.size = some (so w) := Heap.get?_push_size _ rfl
      have hT : Shared.TypeIs { s with heap := s.heap.push (so w) } (.ref s.heap.objs.size) "set" := ⟨_, hS, rfl⟩
      have hli := F.called_set.init.lookup
      have hbi := F.called_set.init.bind (.ref s.heap.objs.size)
      repeat (any_goals (first | assumption | wp_step))
      refine codeAny_mono (codeAny_call_builtin (R := wants (fun r s₂ => r = .none ∧ ∃ h' tk c, s₂ = { s with heap := h', toks := tk } ∧ SetR w h' s.heap.objs.size (fun j => decide (j ∈ ns)) c ∧ (∀ b o, s.heap.get? b = some o → h'.get? b = some o)) E) F.called_set.init.plain F.entry_set_init (check_set_init_1 hT ?_)) fun r₂ s₂ hr₂ => ?_
      · obtain ⟨ol, hol, hcl, nl, hdl⟩ := hl
        obtain ⟨ocls, odict, odata, oslots⟩ := ol
        simp only at hcl hdl
        subst hcl; subst hdl
        have hol' : (s.heap.push (so w)).get? l = some { cls := .type "list", dict := odict, data := .seq items nl, slots := oslots } := Heap.get?_push_of_some _ hol
        have hsls := F.sub_list_set
        have hslf := F.sub_list_frozenset
        have hne : (Value.type "list" == Value.type "dict") = false := by decide
        have hl1 : (s.heap.push (so w)).IsList l items := ⟨_, hol', rfl, nl, rfl⟩
        unfold Builtin.«set.__init__» noKeywords Builtin.Frozenset.updateFrom
        generalize hPI : pyIter = PI
        wp_walk
        subst hPI
        refine wpAny_pyIter_list hl1 ?_
        refine wpAny_bind (wpAny_runValue ?_)
        have hlS : l < s.heap.objs.size := Heap.lt_size hol
        have hh3 : A.in1.in1.in1.handled = none := by simp [hh]
        have hz1 : (s.heap.push (so w)).objs.size = s.heap.objs.size + 1 := Heap.size_push ..
        have hneI : l ≠ (s.heap.push (so w)).objs.size := by rw [hz1]; exact Nat.ne_of_lt (Nat.lt_succ_of_lt hlS)
        have hSf : s.heap.objs.size ∉ [(s.heap.push (so w)).objs.size, l] := by
          rw [hz1]
          simp only [List.mem_cons, List.not_mem_nil, or_false, not_or]
          exact ⟨Nat.ne_of_lt (Nat.lt_succ_self _), Nat.ne_of_gt hlS⟩
        have hval : ∀ (i : Nat) (v : Value), items[i]? = some v → ∃ k t, ns[i]? = some k ∧ v = .int k t := fun i v hv => by
          have hi : i < ns.length := by rw [← hisz]; exact (Array.getElem?_eq_some_iff.mp hv).1
          obtain ⟨t, e⟩ := PyProof.Rows.IntsAre.int_at hit i v (by rw [Array.getElem?_toList]; exact hv)
          refine ⟨ns[i], t, List.getElem?_eq_getElem hi, ?_⟩
          rw [e, List.getD_eq_getElem?_getD, List.getElem?_eq_getElem hi] <;> rfl
        refine set_update_ints ((Walks.list hh3 _ l hneI items).toS) s.heap.objs.size hSf ns hisz hb hval (items.size - 0) 0 _ (by omega) (Nat.zero_le _) ⟨⟨_, Heap.get?_push_size _ rfl, rfl, rfl⟩, (hl1.push _)⟩ ⟨0, Nat.le_refl 0, setR_new_at (Heap.get?_push_of_some _ hS)⟩ ?hR
        case hR =>
          intro s' c' hm hc' hS'
          obtain ⟨h', g2, d', tk', os'⟩ := s'
          have eg : g2 = s.gens := hm.gens
          have ed : d' = s.drawn := hm.drawn
          have eo : os' = s.os := hm.os
          subst eg; subst ed; subst eo
          show wpAny _ _ _ _ _ _
          refine wpAny_pure ?_
          show wpAny _ _ (ret Value.none) _ _ _
          refine wpAny_pure ⟨rfl, h', tk', c', rfl, hS', fun b o e => ?_⟩
          have hb0 : b < s.heap.objs.size := Heap.lt_size e
          exact hm.heap b o (by rw [hz1]; simp only [List.mem_cons, List.not_mem_nil, or_false, not_or]; exact ⟨Nat.ne_of_lt hb0, Nat.ne_of_lt (Nat.lt_succ_of_lt hb0)⟩) (Heap.get?_push_of_some _ (Heap.get?_push_of_some _ e))
      · cases r₂ with
        | error e => exact hr₂
        | ok fl₂ =>
          cases fl₂ with
          | ret r =>
            obtain ⟨rfl, h', tk, c', rfl, hS', hk'⟩ := hr₂
            repeat (any_goals (first | assumption | wp_step))
            exact h _ _ _ hS' hk'
          | _ => exact hr₂.elim
    | _ => exact hr.elim
end
theorem nodup_le : ∀ {a b : List Int}, a.Nodup → (∀ x ∈ a, x ∈ b) → a.length ≤ b.length
  | [], _, _, _ => Nat.zero_le _
  | x :: a, b, nd, h => by
    have hx : x ∈ b := h x List.mem_cons_self
    have nd' := List.nodup_cons.mp nd
    have := nodup_le (b := b.erase x) nd'.2 fun y hy => (List.mem_erase_of_ne (fun e => nd'.1 (by rw [← e]; exact hy))).mpr (h y (List.mem_cons_of_mem _ hy))
    rw [List.length_erase_of_mem hx] at this
    have := List.length_pos_of_mem hx
    rw [List.length_cons]; omega
theorem SetR.few {w : World} {h : Heap} {a : Addr} {ns us : List Int} {n : Nat} (R : SetR w h a (fun j => decide (j ∈ ns)) n) (hu : ∀ x ∈ ns, x ∈ us) : n ≤ us.length := by
  obtain ⟨o, es, ep, t, _, _, _, _, nd, hm, _, _, hn, _⟩ := R
  have := nodup_le nd (b := us) fun x hx => hu x (of_decide_eq_true ((hm x).mpr hx))
  rw [List.length_map, Array.length_toList] at this
  omega
section
variable {X : Cx}
def rSetLi (K : PySem.W.Frag) (w : World) : List V → Hp → VK → Prop := fun xs H Q => ∃ (l : Addr) (ns us : List Int), xs = [.ref l] ∧ SqL K H l (ns.map V.int) ∧ ns.length ≤ 1000 ∧ (∀ x ∈ ns, x ∈ us) ∧ us.length < 64 ∧ ∀ p n, H p = none → n < 64 → Q (.ref p) (upd H p (SetO w p (fun j => decide (j ∈ ns)) n))
theorem cr_setL (hc : X.calm = true) : CallR X (.type "set") (rSetLi X.K X.w) := by
  intro pins s σ H xs us Q I r h
  obtain ⟨l, ns, uu, rfl, hq, hl, hu, h64, q⟩ := h
  rw [Vals.ref1 r]
  obtain ⟨its, rv, pl, hz⟩ := I.list hq
  refine set_ofL ns (I.ok.hd hc) pl.isList (ints_of_vals rv) (by unfold scanBound; omega) fun h' tk c R k => ?_
  have hn := R.few hu
  exact ⟨.ref _, upd H s.heap.objs.size (SetO X.w s.heap.objs.size (fun j => decide (j ∈ ns)) c), I.laid (t' := tk) k (Nat.le_refl _) (setO_new R), rfl, q _ _ (I.hok.fresh (Nat.le_refl _)) (by omega)⟩
end
end L2
namespace Bs
open PySem L2
theorem insU_mem (x k : Int) : ∀ l : List Int, k ∈ insU x l ↔ k = x ∨ k ∈ l
  | [] => by simp [insU]
  | y :: r => by
    unfold insU
    split
    · simp
    · split
      · rename_i h; subst h; simp
      · simp only [List.mem_cons, insU_mem x k r]
        constructor
        · rintro (h | h | h) <;> simp [h]
        · rintro (h | h | h) <;> simp [h]
theorem usort_mem (k : Int) : ∀ l : List Int, k ∈ usort l ↔ k ∈ l
  | [] => by simp [usort]
  | x :: r => by simp only [usort, insU_mem, usort_mem k r, List.mem_cons]
theorem insU_pw (x : Int) : ∀ l : List Int, l.Pairwise (· < ·) → (insU x l).Pairwise (· < ·)
  | [], _ => by simp [insU]
  | y :: r, h => by
    have h' := List.pairwise_cons.mp h
    unfold insU
    split
    · rename_i hxy
      refine List.pairwise_cons.mpr ⟨fun z hz => ?_, h⟩
      rcases List.mem_cons.mp hz with rfl | hz
      · exact hxy
      · have := h'.1 z hz; omega
    · split
      · exact h
      · rename_i h1 h2
        refine List.pairwise_cons.mpr ⟨fun z hz => ?_, insU_pw x r h'.2⟩
        rcases (insU_mem x z r).mp hz with rfl | hz
        · omega
        · exact h'.1 z hz
theorem usort_pw : ∀ l : List Int, (usort l).Pairwise (· < ·)
  | [] => by simp [usort]
  | x :: r => insU_pw x _ (usort_pw r)
theorem pw_uniq : ∀ {a b : List Int}, a.Pairwise (· < ·) → b.Pairwise (· < ·) → (∀ k, k ∈ a ↔ k ∈ b) → a = b
  | [], [], _, _, _ => rfl
  | [], y :: b, _, _, h => by have := (h y).mpr List.mem_cons_self; cases this
  | x :: a, [], _, _, h => by have := (h x).mp List.mem_cons_self; cases this
  | x :: a, y :: b, ha, hb, h => by
    have ha' := List.pairwise_cons.mp ha
    have hb' := List.pairwise_cons.mp hb
    have exy : x = y := by
      rcases List.mem_cons.mp ((h x).mp List.mem_cons_self) with e | e
      · exact e
      · rcases List.mem_cons.mp ((h y).mpr List.mem_cons_self) with e2 | e2
        · exact e2.symm
        · have := ha'.1 y e2; have := hb'.1 x e; omega
    subst exy
    congr 1
    refine pw_uniq ha'.2 hb'.2 fun k => ⟨fun hk => ?_, fun hk => ?_⟩
    · rcases List.mem_cons.mp ((h k).mp (List.mem_cons_of_mem _ hk)) with e | e
      · subst e; have := ha'.1 _ hk; omega
      · exact e
    · rcases List.mem_cons.mp ((h k).mpr (List.mem_cons_of_mem _ hk)) with e | e
      · subst e; have := hb'.1 _ hk; omega
      · exact e
section
variable {X : Cx} {c : Ct} {a : Expr} {sa : Bool} {ra : Ga → Sto → R D} {pos : Pos}
theorem sset_key (hK : X.K = c.K) {S : Sa} {γ : Ga} {μ : Sto} {σ : L2.St} {H : Hp} {d : D} {v : V} {Q : VK} {z : D} (g : Good c S γ μ σ H) (r : RelW c.K T0 S H d v) (hz : ssetD d = some z) (q : Aft c true S μ H γ σ Q z μ) :
    rSetLi X.K X.w [v] H fun v1 H1 => rSortedSet X.w [v1] H1 Q := by
  obtain ⟨xs, rfl⟩ : ∃ xs, d = .lst xs := by
    cases d with
    | lst xs => exact ⟨xs, rfl⟩
    | _ => simp only [ssetD, reduceCtorEq] at hz
  simp only [ssetD, Option.bind_eq_some_iff, Option.ite_none_right_eq_some, Bool.and_eq_true, decide_eq_true_eq, Option.some.injEq] at hz
  obtain ⟨is, e1, ⟨hl, h64⟩, rfl⟩ := hz
  obtain ⟨l, ws, rfl, sq, rs⟩ := rw_lst r
  refine ⟨l, is, usort is, rfl, by rw [hK, ← ints_of e1 rs]; exact sq, hl, fun x hx => (usort_mem x is).mpr hx, h64, fun p n hp hn => ?_⟩
  obtain ⟨s1, ok⟩ := step_new (c := c) (o := SetO X.w p (fun j => decide (j ∈ is)) n) g.st hp
  have g1 := g.step s1 ok
  refine ⟨p, _, n, rfl, upd_same, hn, fun ns p2 hpw hmem hlen hp2 => ?_⟩
  have e : ns = usort is := pw_uniq hpw (usort_pw is) fun k => by rw [hmem k, usort_mem, decide_eq_true_eq]
  subst e
  exact fin_lst g1 (Aft.step (r := .ok _ _) (W := c.V) q s1) (rels_intsL _) p2 hp2
theorem snd_sset {p p3 p4 : Pos} (hK : X.K = c.K) (hc : X.calm = true) (hg : Gl X "sorted") (hm : X.mg "sorted" = none) (hg2 : Gl X "set") (hm2 : X.mg "set" = none) (ha : PE X a (TEn c sa ra)) (hs : nst a = true) :
    PE X (.Call (.Name "sorted" p) [.Call (.Name "set" p3) [a] [] p4] [] pos) (TEn c true fun γ μ => (ra γ μ).bind fun x μ => orO (ssetD x) (ssetD (dr μ x)) μ) := by
  have k1 : PE X (.Call (.Name "set" p3) [a] [] p4) (tCB (rSetLi X.K X.w) _) := pe_callTy (cr_setL hc) hg2 hm2 PyProof.Rows.boot_set (pa_cons (PEweak ha) pa_nil (star_cons hs)) (by decide +kernel) (by decide +kernel) (star_cons hs) rfl
  have hn : nst (.Call (.Name "set" p3) [a] [] p4) = true := rfl
  refine (pe_callB (cr_sortedSet hc) hg hm (bi_boot .sorted) (pa_cons k1 pa_nil (star_cons hn)) (by decide +kernel) (by decide +kernel) (star_cons hn) rfl).imp fun σ H Q w => ?_
  obtain ⟨S, γ, μ, g, h⟩ := w
  rw [R.All_bind] at h
  refine ⟨S, γ, μ, g, h.mono (fun d μ1 h => ?_) fun _ _ _ w => w⟩
  intro S1 v H1 g1 s1 r1
  have h := Aft.step h s1
  have r1 := RelW.zero r1
  cases z : ssetD d with
  | some d' => rw [z] at h; exact sset_key hK g1 r1 z h
  | none =>
    rw [z] at h
    obtain ⟨z', hz', q⟩ := ofO_some (μ := μ1) (o := ssetD (dr μ1 d)) h
    exact sset_key hK g1 (r1.dr g1) hz' q
end
end Bs
/-! Bs: the checker of expressions; every expression that it takes is sound. -/
namespace Bs
open PySem L2
structure FnI where
  name : Str
  ps : List Str
  fr : Bool
  cls : Option Nat
  q : Str
structure Sh where
  f : Nat
  na : Nat
  ks : List Str
  pm : List Nat
deriving DecidableEq
structure Nm where
  N : List Str
  fns : List FnI
  gls : List Str
  shs : List Sh
  xcs : List (Nat × List Nat)
  ocs : List (Nat × List Nat)
inductive Md where | v | t | i (tg : Expr)
def visB (sc : Scope) (x : Str) : Bool := match sc.names.lookup x with
  | some .local => true
  | some .cell => true
  | some .free => true
  | _ => false
def glB (sc : Scope) (x : Str) : Bool := decide (sc.names.lookup x = some .globalImplicit)
def okN (x : Str) : Bool := !(x == ("__debug__" : Str)) && !(x == ("__classdict__" : Str))
def bltL : List Str := ["len", "abs", "max", "min", "int", "str", "list", "tuple", "sum", "any", "all", "isinstance", "range", "enumerate", "zip", "bool", "dict", "sorted", "set"]
/-! views -/
def asName : Expr → Option Str
  | .Name y _ => some y
  | _ => none
theorem asName_eq {x : Expr} {y : Str} (h : asName x = some y) : ∃ p, x = .Name y p := by
  cases x <;> first | (cases h; exact ⟨_, rfl⟩) | cases h
def asBin : Expr → Option (Expr × Operator × Expr)
  | .BinOp a o b _ => some (a, o, b)
  | _ => none
theorem asBin_eq {x a b : Expr} {o : Operator} (h : asBin x = some (a, o, b)) : ∃ p, x = .BinOp a o b p := by
  cases x <;> first | (cases h; exact ⟨_, rfl⟩) | cases h
def asUn : Expr → Option (UnaryOp × Expr)
  | .UnaryOp o a _ => some (o, a)
  | _ => none
theorem asUn_eq {x a : Expr} {o : UnaryOp} (h : asUn x = some (o, a)) : ∃ p, x = .UnaryOp o a p := by
  cases x <;> first | (cases h; exact ⟨_, rfl⟩) | cases h
def asCmp : Expr → Option (Expr × List CmpOp × List Expr)
  | .Compare a os bs _ => some (a, os, bs)
  | _ => none
theorem asCmp_eq {x a : Expr} {os : List CmpOp} {bs : List Expr} (h : asCmp x = some (a, os, bs)) : ∃ p, x = .Compare a os bs p := by
  cases x <;> first | (cases h; exact ⟨_, rfl⟩) | cases h
/-- the first and what is left (a BoolOp again where more than one) -/
def asBool : Expr → Option (BoolOp × Expr × Expr)
  | .BoolOp o [a, b] _ => some (o, a, b)
  | .BoolOp o (a :: b :: d :: r) p => some (o, a, .BoolOp o (b :: d :: r) p)
  | _ => none
theorem asBool_eq {x a b : Expr} {o : BoolOp} (h : asBool x = some (o, a, b)) : ∃ p, x = .BoolOp o [a, b] p ∨ ∃ b' d r, x = .BoolOp o (a :: b' :: d :: r) p ∧ b = .BoolOp o (b' :: d :: r) p := by
  cases x with
  | BoolOp o' l p =>
    match l, h with
    | [a', b'], h => cases h; exact ⟨p, .inl rfl⟩
    | a' :: b' :: d :: r, h => cases h; exact ⟨p, .inr ⟨_, _, _, rfl, rfl⟩⟩
  | _ => cases h
def asIf : Expr → Option (Expr × Expr × Expr)
  | .IfExp a b c _ => some (a, b, c)
  | _ => none
theorem asIf_eq {x a b c : Expr} (h : asIf x = some (a, b, c)) : ∃ p, x = .IfExp a b c p := by
  cases x <;> first | (cases h; exact ⟨_, rfl⟩) | cases h
def asTup : Expr → Option (List Expr)
  | .Tuple es _ _ => some es
  | _ => none
theorem asTup_eq {x : Expr} {es : List Expr} (h : asTup x = some es) : ∃ k p, x = .Tuple es k p := by
  cases x <;> first | (cases h; exact ⟨_, _, rfl⟩) | cases h
def asLst : Expr → Option (List Expr)
  | .List es _ => some es
  | _ => none
theorem asLst_eq {x : Expr} {es : List Expr} (h : asLst x = some es) : ∃ p, x = .List es p := by
  cases x <;> first | (cases h; exact ⟨_, rfl⟩) | cases h
def asDic1 : Expr → Option (Expr × Expr)
  | .Dict [some a] [b] _ => some (a, b)
  | _ => none
theorem asDic1_eq {x a b : Expr} (h : asDic1 x = some (a, b)) : ∃ p, x = .Dict [some a] [b] p := by
  cases x with
  | Dict ks vs p =>
    match ks, vs, h with
    | [some a'], [b'], h => cases h; exact ⟨p, rfl⟩
  | _ => cases h
def asDic : Expr → Option (List (Option Expr) × List Expr)
  | .Dict ks vs _ => some (ks, vs)
  | _ => none
theorem asDic_eq {x : Expr} {ks : List (Option Expr)} {vs : List Expr} (h : asDic x = some (ks, vs)) : ∃ p, x = .Dict ks vs p := by
  cases x <;> first | (cases h; exact ⟨_, rfl⟩) | cases h
def asSub : Expr → Option (Expr × Expr)
  | .Subscript a i _ => some (a, i)
  | _ => none
theorem asSub_eq {x a b : Expr} (h : asSub x = some (a, b)) : ∃ p, x = .Subscript a b p := by
  cases x <;> first | (cases h; exact ⟨_, rfl⟩) | cases h
def isDic0 : Expr → Bool
  | .Dict [] [] _ => true
  | _ => false
theorem isDic0_eq {x : Expr} (h : isDic0 x = true) : ∃ p, x = .Dict [] [] p := by
  unfold isDic0 at h
  split at h
  · exact ⟨_, rfl⟩
  · cases h
/-- a[::-1] -/
def asRev : Expr → Option Expr
  | .Subscript a (.Slice none none (some (.UnaryOp .USub (.Constant (.int 1) _ _) _)) _) _ => some a
  | _ => none
theorem asRev_eq {x a : Expr} (h : asRev x = some a) : ∃ k p1 p2 p3 pos, x = .Subscript a (.Slice none none (some (.UnaryOp .USub (.Constant (.int 1) k p1) p2)) p3) pos := by
  unfold asRev at h
  split at h
  · cases h; exact ⟨_, _, _, _, _, rfl⟩
  · cases h
def asSlc : Expr → Option (Option Expr × Option Expr)
  | .Slice lo hi none _ => some (lo, hi)
  | _ => none
theorem asSlc_eq {x : Expr} {a b : Option Expr} (h : asSlc x = some (a, b)) : ∃ p, x = .Slice a b none p := by
  cases x with
  | Slice lo hi st p =>
    cases st with
    | none => cases h; exact ⟨p, rfl⟩
    | some _ => cases h
  | _ => cases h
def asCall : Expr → Option (Str × List Expr × List Keyword)
  | .Call (.Name f _) es ks _ => some (f, es, ks)
  | _ => none
theorem asCall_eq {x : Expr} {f : Str} {es : List Expr} {ks : List Keyword} (h : asCall x = some (f, es, ks)) : ∃ p p2, x = .Call (.Name f p) es ks p2 := by
  cases x with
  | Call g as kws p2 =>
    cases g with
    | Name y p => cases h; exact ⟨p, p2, rfl⟩
    | _ => cases h
  | _ => cases h
def asMth : Expr → Option (Expr × Str × List Expr)
  | .Call (.Attribute o m apos) es [] pos => if apos.endLine == pos.line then some (o, m, es) else none
  | _ => none
theorem asMth_eq {x o : Expr} {m : Str} {es : List Expr} (h : asMth x = some (o, m, es)) : ∃ apos pos, x = .Call (.Attribute o m apos) es [] pos ∧ (apos.endLine == pos.line) = true := by
  unfold asMth at h
  split at h
  · split at h
    · cases h; rename_i z; exact ⟨_, _, rfl, z⟩
    · cases h
  · cases h
def asAtr : Expr → Option (Expr × Str)
  | .Attribute o m _ => some (o, m)
  | _ => none
theorem asAtr_eq {x o : Expr} {m : Str} (h : asAtr x = some (o, m)) : ∃ p, x = .Attribute o m p := by
  unfold asAtr at h
  split at h
  · cases h; exact ⟨_, rfl⟩
  · cases h
def asMeth1 : Expr → Option (Expr × Str × Expr)
  | .Call (.Attribute o m apos) [e] [] pos => if apos.endLine == pos.line then some (o, m, e) else none
  | _ => none
theorem asMeth1_eq {x o e : Expr} {m : Str} (h : asMeth1 x = some (o, m, e)) : ∃ apos pos, x = .Call (.Attribute o m apos) [e] [] pos ∧ (apos.endLine == pos.line) = true := by
  cases x with
  | Call g as kws p2 =>
    cases g with
    | Attribute o' m' ap =>
      match as, kws, h with
      | [e'], [], h =>
        have h' : (if (ap.endLine == p2.line) = true then some (o', m', e') else none) = some (o, m, e) := h
        by_cases z : (ap.endLine == p2.line) = true
        · rw [if_pos z] at h'; cases h'; exact ⟨ap, p2, rfl, z⟩
        · rw [if_neg z] at h'; cases h'
    | _ => cases h
  | _ => cases h
def asMeth0 : Expr → Option (Expr × Str)
  | .Call (.Attribute o m apos) [] [] pos => if apos.endLine == pos.line then some (o, m) else none
  | _ => none
theorem asMeth0_eq {x o : Expr} {m : Str} (h : asMeth0 x = some (o, m)) : ∃ apos pos, x = .Call (.Attribute o m apos) [] [] pos ∧ (apos.endLine == pos.line) = true := by
  cases x with
  | Call g as kws p2 =>
    cases g with
    | Attribute o' m' ap =>
      match as, kws, h with
      | [], [], h =>
        have h' : (if (ap.endLine == p2.line) = true then some (o', m') else none) = some (o, m) := h
        by_cases z : (ap.endLine == p2.line) = true
        · rw [if_pos z] at h'; cases h'; exact ⟨ap, p2, rfl, z⟩
        · rw [if_neg z] at h'; cases h'
    | _ => cases h
  | _ => cases h
def asLc1 : Expr → Option (Expr × Expr × Expr × List Expr × Scope)
  | .ListComp e [⟨tg, it, ifs, 0⟩] sc _ => some (e, tg, it, ifs, sc)
  | _ => none
theorem asLc1_eq {x e tg it : Expr} {ifs : List Expr} {sc : Scope} (h : asLc1 x = some (e, tg, it, ifs, sc)) : ∃ p, x = .ListComp e [⟨tg, it, ifs, 0⟩] sc p := by
  cases x with
  | ListComp e' gs sc' p =>
    match gs, h with
    | [⟨tg', it', ifs', 0⟩], h => cases h; exact ⟨p, rfl⟩
  | _ => cases h
def asLc2 : Expr → Option (Expr × (Expr × Expr × List Expr) × (Expr × Expr × List Expr) × Scope)
  | .ListComp e [⟨tg, it, ifs, 0⟩, ⟨tg1, it1, ifs1, 0⟩] sc _ => some (e, (tg, it, ifs), (tg1, it1, ifs1), sc)
  | _ => none
theorem asLc2_eq {x e tg it tg1 it1 : Expr} {ifs ifs1 : List Expr} {sc : Scope} (h : asLc2 x = some (e, (tg, it, ifs), (tg1, it1, ifs1), sc)) : ∃ p, x = .ListComp e [⟨tg, it, ifs, 0⟩, ⟨tg1, it1, ifs1, 0⟩] sc p := by
  cases x with
  | ListComp e' gs sc' p =>
    match gs, h with
    | [⟨tg', it', ifs', 0⟩, ⟨tg1', it1', ifs1', 0⟩], h => cases h; exact ⟨p, rfl⟩
  | _ => cases h
def conIs : D → Expr → Bool
  | .int i, .Constant (.int j) _ _ => decide (i = j)
  | .bl b, .Constant (.bool b') _ _ => decide (b = b')
  | .non, .Constant .none _ _ => true
  | .str s, .Constant (.str y) _ _ => decide (y.cps.toList = s) && s.all (fun c => decide (c < 128)) && decide (s.length ≤ 1000000)
  | _, _ => false
/-- is what it gives frozen at the top -/
def sg : E → Bool
  | .ovar _ => false
  | .odic _ => false
  | .and a b => sg a && sg b
  | .or a b => sg a && sg b
  | .ite _ a b => sg a && sg b
  | .enu a => sg a
  | .zip a b => sg a && sg b
  | _ => true
def fresh (n : Nm) : E → Bool
  | .lst _ => true
  | .lc _ _ _ _ => true
  | .lc2 _ _ _ _ _ _ _ => true
  | .lop _ _ _ => true
  | .bi b _ => decide (b = .list)
  | .call f _ _ _ => match n.fns[f]? with
    | some I => I.fr
    | none => false
  | _ => false
def modeOk : Md → Expr → Bool
  | .v, _ => true
  | .t, x => pT x
  | .i _, x => noSet x
/-- a name that may be stored -/
def stoB (N : List Str) (sc : Scope) (F : Str → Bool) (i : Nat) (x : Str) : Bool := decide (N[i]? = some x) && (decide (sc.names.lookup x = some .local) || (decide (sc.names.lookup x = some .cell) && F x))
def tgsB (N : List Str) (sc : Scope) (F : Str → Bool) : List Nat → List Expr → Bool
  | [], [] => true
  | i :: is, .Name x _ :: r => stoB N sc F i x && tgsB N sc F is r
  | _, _ => false
def tgB (N : List Str) (sc : Scope) (F : Str → Bool) : List Nat → Expr → Bool
  | [i], .Name x _ => stoB N sc F i x
  | is, .Tuple es _ _ => decide (2 ≤ is.length) && tgsB N sc F is es
  | _, _ => false
def relF (scope : Scope) : Str → Bool := fun x => scope.names.lookup x == some .cell
def isTup2 : Expr → Bool
  | .Tuple _ _ _ => true
  | _ => false
def ownL (N : List Str) (t : List Nat) : List (Str × Nat) := t.filterMap fun i => (N[i]?).map fun x => (x, i)
def blkB (N : List Str) (sc scope : Scope) (t : List Nat) : Bool := blkC N sc scope (ownL N t) && decide ((ownL N t).map (·.2) = t)
mutual
def chk (n : Nm) : E → Scope → (Str → Bool) → Md → Expr → Bool
  | .var i, sc, F, m, x => modeOk m x && match asName x with
    | some y => decide (n.N[i]? = some y) && visB sc y && okN y
    | none => false
  | .ovar i, sc, F, m, x => modeOk m x && match asName x with
    | some y => decide (n.N[i]? = some y) && visB sc y && okN y
    | none => false
  | .odic i, sc, F, m, x => modeOk m x && match asName x with
    | some y => decide (n.N[i]? = some y) && visB sc y && okN y
    | none => false
  | .con d, sc, F, m, x => modeOk m x && conIs d x
  | .glb g, sc, F, m, x => modeOk m x && match asName x with
    | some y => decide (n.gls[g]? = some y) && glB sc y && okN y
    | none => false
  | .bin o a b, sc, F, m, x => modeOk m x && match asBin x with
    | some (p, op, q) => decide (op = bopOf o) && chk n a sc F .v p && chk n b sc F .v q
    | none => false
  | .lop o a b, sc, F, m, x => modeOk m x && match asBin x with
    | some (p, op, q) => decide (op = bopOf o) && chk n a sc F .v p && chk n b sc F .v q
    | none => false
  | .sto e, sc, F, m, x => modeOk m x && chk n e sc F .v x && fresh n e
  | .popl a e, sc, F, m, x => modeOk m x && match asMeth1 x with
    | some (p, nm, q) => decide (nm = "pop") && chk n a sc F .v p && chk n e sc F .v q && noCall p && nst q
    | none => false
  | .pop0 a, sc, F, m, x => modeOk m x && match asMeth0 x with
    | some (p, nm) => decide (nm = "pop") && chk n a sc F .v p && noCall p
    | none => false
  | .neg a, sc, F, m, x => modeOk m x && match asUn x with
    | some (op, p) => decide (op = .USub) && chk n a sc F .v p
    | none => false
  | .cmp o a b, sc, F, m, x => (match m with | .i _ => false | _ => true) && match asCmp x with
    | some (p, [op], [q]) => decide (op = cmOf o) && chk n a sc F .v p && chk n b sc F .v q && !(behindInMarks op q)
    | _ => false
  | .chn o o' a b d, sc, F, m, x => (match m with | .i _ => false | _ => true) && match asCmp x with
    | some (p, [op, op'], [q, r]) => decide (op = cmOf o) && decide (op' = cmOf o') && chk n a sc F .v p && chk n b sc F .v q && chk n d sc F .v r && !(lastMarks [op, op'] [q, r])
    | _ => false
  | .not a, sc, F, m, x => (match m with | .i _ => false | _ => true) && match asUn x with
    | some (op, p) => decide (op = .Not) && chk n a sc F m p
    | none => false
  | .and a b, sc, F, m, x => (match m with | .i _ => false | _ => true) && match asBool x with
    | some (op, p, q) => decide (op = .And) && chk n a sc F m p && chk n b sc F m q
    | none => false
  | .or a b, sc, F, m, x => (match m with | .i _ => false | _ => true) && match asBool x with
    | some (op, p, q) => decide (op = .Or) && chk n a sc F m p && chk n b sc F m q
    | none => false
  | .ite d a b, sc, F, m, x => modeOk m x && match asIf x with
    | some (p, q, r) => chk n d sc F .t p && chk n a sc F .v q && chk n b sc F .v r
    | none => false
  | .tup es, sc, F, m, x => modeOk m x && match asTup x with
    | some xs => isEs n es sc F xs && es.all sg && decide (es.length ≤ 1000)
    | none => false
  | .lst es, sc, F, m, x => modeOk m x && match asLst x with
    | some xs => isEs n es sc F xs && es.all sg && decide (es.length ≤ 1000)
    | none => false
  | .new es, sc, F, m, x => modeOk m x && match asLst x with
    | some xs => isEs n es sc F xs && es.all sg && decide (es.length ≤ 1000)
    | none => false
  | .dsp1 a b, sc, F, m, x => modeOk m x && match asDic1 x with
    | some (p, q) => chk n a sc F .v p && chk n b sc F .v q && sg a && sg b
    | none => false
  | .dsp kvs, sc, F, m, x => modeOk m x && match asDic x with
    | some (ks, vs) => isPs n kvs sc F ks vs && decide (1 ≤ ks.length) && decide (ks.length ≤ 15)
    | none => false
  | .ix a b, sc, F, m, x => modeOk m x && match asSub x with
    | some (p, q) => chk n a sc F .v p && chk n b sc F .v q && pIx q
    | none => false
  | .sl a lo hi, sc, F, m, x => modeOk m x && match asSub x with
    | some (p, q) => chk n a sc F .v p && match asSlc q with
      | some (l, h) => isO n lo sc F l && isO n hi sc F h
      | none => false
    | none => false
  | .call f es ks pm, sc, F, m, x => modeOk m x && match asCall x, n.fns[f]? with
    | some (y, xs, kws), some I => decide (I.cls = none) && decide (y = I.name) && glB sc y && okN y && isEs n es sc F xs && es.all sg && isKs n ks sc F kws && ks.all sg && decide ((⟨f, es.length, kwN kws, pm⟩ : Sh) ∈ n.shs)
    | _, _ => false
  | .bi b es, sc, F, m, x => modeOk m x && match asCall x with
    | some (y, xs, []) => decide (y = biName b) && glB sc y && isEs n es sc F xs && !xs.isEmpty
    | _ => false
  | .mt mm a e, sc, F, m, x => modeOk m x && match asMeth1 x with
    | some (p, nm, q) => decide (nm = mtName mm) && chk n a sc F .v p && chk n e sc F .v q && noCall p && nst q
    | none => false
  | .dsp0, sc, F, m, x => modeOk m x && isDic0 x
  | .rng3 e e2 e3, sc, F, m, x => match m, asCall x with
    | .i _, some (y, [p, q, r], []) => decide (y = "range") && glB sc y && chk n e sc F .v p && nst p && chk n e2 sc F .v q && nst q && chk n e3 sc F .v r && nst r
    | _, _ => false
  | .sset a, sc, F, m, x => modeOk m x && match asCall x with
    | some (y, [p], []) => decide (y = "sorted") && glB sc y && (match asCall p with
      | some (y2, [q], []) => decide (y2 = "set") && glB sc y2 && chk n a sc F .v q && nst q
      | _ => false)
    | _ => false
  | .tidx g e, sc, F, m, x => modeOk m x && match asMeth1 x with
    | some (p, nm, q) => decide (nm = "index") && chk n e sc F .v q && nst q && noCall p && (match asName p with
      | some y => decide (n.gls[g]? = some y) && glB sc y && okN y
      | none => false)
    | none => false
  | .rev a, sc, F, m, x => modeOk m x && match asRev x with
    | some p => chk n a sc F .v p
    | none => false
  | .rvl a, sc, F, m, x => modeOk m x && match asRev x with
    | some p => chk n a sc F .v p
    | none => false
  | .kys a, sc, F, m, x => match m with
    | .i _ => chk n a sc F .v x && sg a
    | _ => false
  | .dcp a, sc, F, m, x => modeOk m x && match asCall x with
    | some (y, [p], []) => decide (y = "dict") && glB sc y && chk n a sc F .v p && nst p
    | _ => false
  | .mrg a k v, sc, F, m, x => false
  | .mko cc f es ks pm, sc, F, m, x => modeOk m x && match asCall x, n.fns[f]? with
    | some (y, xs, kws), some I => decide (y = nm cc) && glB sc y && okN y && isEs n es sc F xs && es.all sg && isKs n ks sc F kws && ks.all sg && decide ((⟨f, es.length + 1, kwN kws, pm⟩ : Sh) ∈ n.shs) && decide (I.cls = some cc) && decide (I.name = "__init__") && decide (I.fr = false) && decide (cc ∈ n.ocs.map (·.1))
    | _, _ => false
  | .att a f, sc, F, m, x => modeOk m x && match asAtr x with
    | some (p, y) => decide (y = nm f) && chk n a sc F .v p && noCall p
    | none => false
  | .mth a cc mm f es, sc, F, m, x => modeOk m x && match asMth x, n.fns[f]? with
    | some (p, y, xs), some I => decide (y = nm mm) && chk n a sc F .v p && noCall p && isEs n es sc F xs && es.all sg && decide ((⟨f, es.length + 1, [], List.range (es.length + 1)⟩ : Sh) ∈ n.shs) && decide (I.cls = some cc) && decide (I.name = nm mm) && decide (I.fr = false) && decide (cc ∈ n.ocs.map (·.1)) && decide (xs.length < 29)
    | _, _ => false
  | .isi a ts, sc, F, m, x => modeOk m x && match asCall x with
    | some (y, [p, q], []) => decide (y = "isinstance") && glB sc y && chk n a sc F .v p && nst p && ts.all (fun t => glB sc (tyStr t)) && !ts.isEmpty && decide (ts.length ≤ 100) && (match asTup q with
      | some qs => decide (qs.length = ts.length) && (qs.zip ts).all (fun p => isTyN p.2 p.1)
      | none => match ts with
        | [t] => isTyN t q
        | _ => false)
    | _ => false
  | .rng1 e, sc, F, m, x => match m, asCall x with
    | .i _, some (y, [p], []) => decide (y = "range") && glB sc y && chk n e sc F .v p && nst p
    | _, _ => false
  | .rng2 e e2, sc, F, m, x => match m, asCall x with
    | .i _, some (y, [p, q], []) => decide (y = "range") && glB sc y && chk n e sc F .v p && nst p && chk n e2 sc F .v q && nst q
    | _, _ => false
  | .enu a, sc, F, m, x => match m, asCall x with
    | .i tg, some (y, [p], []) => decide (y = "enumerate") && glB sc y && chk n a sc F .v p && nst p && isTup2 tg
    | _, _ => false
  | .zip a b, sc, F, m, x => match m, asCall x with
    | .i tg, some (y, [p, q], []) => decide (y = "zip") && glB sc y && chk n a sc F .v p && nst p && chk n b sc F .v q && nst q && isTup2 tg
    | _, _ => false
  | .lc t it d e, sc, F, m, x => modeOk m x && match asLc1 x with
    | some (elt, tg, itx, ifs, scope) => chk n it sc F (.i tg) itx && noSet itx && blkB n.N sc scope t && tgB n.N (relS scope sc) (relF scope) t tg && isC n d (relS scope sc) (relF scope) ifs && chk n e (relS scope sc) (relF scope) .v elt && sg e
    | none => false
  | .lc2 t it d t2 it2 d2 e, sc, F, m, x => modeOk m x && match asLc2 x with
    | some (elt, (tg, itx, ifs), (tg1, itx1, ifs1), scope) => chk n it sc F (.i tg) itx && noSet itx && blkB n.N sc scope (t ++ t2) && tgB n.N (relS scope sc) (relF scope) t tg && isC n d (relS scope sc) (relF scope) ifs && chk n e (relS scope sc) (relF scope) .v elt && sg e &&
       (chk n it2 (relS scope sc) (relF scope) (.i tg1) itx1 && noSet itx1 && sg it2 && tgB n.N (relS scope sc) (relF scope) t2 tg1 && isC n d2 (relS scope sc) (relF scope) ifs1)
    | none => false
def isO (n : Nm) : Option E → Scope → (Str → Bool) → Option Expr → Bool
  | none, _, _, x => x.isNone
  | some e, sc, F, x => match x with
    | some y => chk n e sc F .v y
    | none => false
def isC (n : Nm) : Option E → Scope → (Str → Bool) → List Expr → Bool
  | none, _, _, xs => xs.isEmpty
  | some e, sc, F, xs => match xs with
    | [y] => chk n e sc F .t y
    | _ => false
def isEs (n : Nm) : List E → Scope → (Str → Bool) → List Expr → Bool
  | [], _, _, xs => xs.isEmpty
  | e :: es, sc, F, xs => match xs with
    | y :: ys => chk n e sc F .v y && nst y && isEs n es sc F ys
    | [] => false
def isPs (n : Nm) : List (E × E) → Scope → (Str → Bool) → List (Option Expr) → List Expr → Bool
  | [], _, _, ks, vs => ks.isEmpty && vs.isEmpty
  | q :: r, sc, F, ks, vs => match ks, vs with
    | some k :: ks, v :: vs => isP n q sc F k v && isPs n r sc F ks vs
    | _, _ => false
def isP (n : Nm) : E × E → Scope → (Str → Bool) → Expr → Expr → Bool
  | (a, b), sc, F, k, v => chk n a sc F .v k && chk n b sc F .v v && sg a && sg b
def isKs (n : Nm) : List E → Scope → (Str → Bool) → List Keyword → Bool
  | [], _, _, xs => xs.isEmpty
  | e :: es, sc, F, xs => match xs with
    | ⟨some _, y, _⟩ :: ys => chk n e sc F .v y && isKs n es sc F ys
    | _ => false
end
end Bs
/-! Bs: expressions are sound. -/
namespace Bs
open PySem L2
/-- where a def's function stands -/
def FAt (K : PySem.W.Frag) (mg : Str → Option Value) (I : FnI) (a : Addr) : Prop := match I.cls with
  | none => mg I.name = some (.ref a)
  | some cc => PySem.W.findIn K (.ref (He.ga K (nm cc))) I.name = some (some (.ref a)) ∧ PySem.W.isFn K (.ref a) = true
structure OcOk (K : PySem.W.Frag) (mg : Str → Option Value) (cc : Nat) (fl : List Nat) : Prop where
  at_ : mg (nm cc) = some (.ref (He.ga K (nm cc)))
  cls : Cls K (He.ga K (nm cc))
  makes : PySem.W.makesIn K (He.ga K (nm cc)) = true
  kp : PySem.W.keepIn K (.ref (He.ga K (nm cc))) = true
  no : ∀ f ∈ fl, f < 130 ∧ NoAttr K (He.ga K (nm cc)) (nm f)
structure XOk (c : Ct) (n : Nm) (gl : Nat → Option D) (cl : Nat → List D → Sto → R D) (k : Nat) (sc : Scope) (F : Str → Bool) (X : Cx) : Prop where
  hK : X.K = c.K
  nN : X.N = n.N
  nd : X.N.Nodup
  scp : X.env.scope = sc
  fn : ∀ x, F x = true → X.fn x = true
  calm : X.calm = true
  z0 : ∀ a, c.S0 a → c.H0 a ≠ none
  tk : Takes X (WV c)
  room : Room k X.A
  room1 : Room (k + 1) X.A
  ocs : ∀ q ∈ n.ocs, OcOk X.K X.mg q.1 q.2
  blt : ∀ x, x ∈ bltL → X.mg x = none
  gls : ∀ (g : Nat) x d, n.gls[g]? = some x → gl g = some d → ∃ u v, X.mg x = some u ∧ RelV v u ∧ ∀ S H, Rel c.K S H d v
  glx : ∀ (g : Nat) x, n.gls[g]? = some x → ∃ d, gl g = some d
  fns : ∀ (f : Nat) I, n.fns[f]? = some I → ∃ a fd, FAt X.K X.mg I a ∧ PySem.W.keepIn X.K (.ref a) = true ∧ FnOk X.prog X.w X.K X.mg X.base (L2.CX X.prog X.w) k a fd I.ps (spF X.K (cl f) I.ps.length I.fr) ∧
    ∀ sh ∈ n.shs, sh.f = f → (∀ (s : Shared) (us ws : List Value), X.K.In s.heap → us.length = sh.na → ws.length = sh.ks.length → BindsTo s fd ⟨us, sh.ks.zip ws⟩ (I.ps.zip (arr sh.pm (us ++ ws)))) ∧ ∀ ds : List D, ds.length = sh.na + sh.ks.length → (arr sh.pm ds).length = I.ps.length
section
variable {c : Ct} {n : Nm} {gl : Nat → Option D} {cl : Nat → List D → Sto → R D} {k : Nat} {sc : Scope} {F : Str → Bool} {X : Cx}
theorem XOk.oc (h : XOk c n gl cl k sc F X) {cc : Nat} (hc : cc ∈ n.ocs.map (·.1)) : ∃ fl, OcOk X.K X.mg cc fl := by
  obtain ⟨q, hq, rfl⟩ := List.mem_map.mp hc
  exact ⟨q.2, h.ocs q hq⟩
theorem takes_nv {X : Cx} {c : Ct} : Takes X (WV c.nv) := fun _ _ x => by
  obtain ⟨_, _, _, _, _, _, _, _, _, _, _, _, _, _, _, _, w⟩ := x
  obtain ⟨_, _, _, _, _, _, z⟩ := w
  exact z.elim
theorem XOk.blk (h : XOk c n gl cl k sc F X) (s : Shared) (H : Hp) (scope : Scope) (C : Addr) (cs : List (Str × Addr)) (fp : List Addr) : XOk c.nv n gl cl k (relS scope sc) (relF scope) (X.blk s H scope (compEnvC scope cs C X.env) fp) :=
  ⟨h.hK, h.nN, h.nd, by rw [← h.scp]; rfl, fun x z => z, h.calm, h.z0, takes_nv, h.room, h.room1, h.ocs, h.blt, h.gls, h.glx, h.fns⟩
theorem XOk.gl' (h : XOk c n gl cl k sc F X) {x : Str} (e : glB sc x = true) : Gl X x := by
  have := of_decide_eq_true e
  unfold Gl Env.kindOf
  rw [h.scp]; exact this
theorem XOk.vis (h : XOk c n gl cl k sc F X) {x : Str} (e : visB sc x = true) : Vis X.env.scope x := by
  rw [h.scp]
  unfold visB at e
  unfold Vis
  split at e <;> first | (rename_i z; simp [z]; done) | cases e
theorem XOk.sto (h : XOk c n gl cl k sc F X) {i : Nat} {x : Str} (e : stoB n.N sc F i x = true) : Sto1 X i x := by
  unfold stoB at e
  simp only [Bool.and_eq_true, Bool.or_eq_true, decide_eq_true_eq] at e
  obtain ⟨e1, e2⟩ := e
  refine ⟨by rw [h.nN]; exact e1, ?_, ?_⟩
  · rw [h.scp]; rcases e2 with e2 | e2
    · exact .inl e2
    · exact .inr e2.1
  · rw [h.scp]; rcases e2 with e2 | e2
    · exact .inr e2
    · exact .inl (h.fn x e2.2)
theorem XOk.tgs (h : XOk c n gl cl k sc F X) : ∀ {is : List Nat} {es : List Expr}, tgsB n.N sc F is es = true → nmsIs X is es
  | [], [], _ => rfl
  | [], _ :: _, e => by simp [tgsB] at e
  | _ :: _, [], e => by simp [tgsB] at e
  | i :: is, y :: r, e => by
    cases y with
    | Name x p =>
      have e' : (stoB n.N sc F i x && tgsB n.N sc F is r) = true := e
      rw [Bool.and_eq_true] at e'
      exact ⟨x, p, r, rfl, h.sto e'.1, h.tgs e'.2⟩
    | _ => exact absurd e (by simp [tgsB])
theorem XOk.tg (h : XOk c n gl cl k sc F X) {is : List Nat} {y : Expr} (e : tgB n.N sc F is y = true) : PG X y (TGn c is) := by
  unfold tgB at e
  split at e
  · exact sndG_name h.nd (h.sto e)
  · rw [Bool.and_eq_true, decide_eq_true_eq] at e
    exact sndG_tup h.hK h.calm h.nd (h.tgs e.2) e.1
  · cases e
theorem blk_of {N : List Str} {sc' scope : Scope} {t : List Nat} (e : blkB N sc' scope t = true) : BlkOk N sc' scope (ownL N t) ∧ (ownL N t).map (·.2) = t := by
  unfold blkB at e
  rw [Bool.and_eq_true, decide_eq_true_eq] at e
  exact ⟨blkOk_by e.1, e.2⟩
variable (c n gl cl)
def Post (X : Cx) (e : E) (x : Expr) : Md → Prop
  | .v => PE X x (TEn c (sg e) (denE gl cl e)) ∧ (fresh n e = true → PE X x (TFn c (denE gl cl e)))
  | .t => PT X x (TTn c fun γ μ => (denE gl cl e γ μ).bind truthR) ∧ (∀ op l p, x = .BoolOp op l p → PW X x (TTn c fun γ μ => (denE gl cl e γ μ).bind truthR))
  | .i tg => PI X tg x (TIn c (sg e) fun γ μ => (denE gl cl e γ μ).bind itemsR)
variable {c n gl cl}
theorem post_of {e : E} {x : Expr} {m : Md} (ok : XOk c n gl cl k sc F X) (hm : modeOk m x = true) (h : PE X x (TEn c (sg e) (denE gl cl e))) (hf : fresh n e = true → PE X x (TFn c (denE gl cl e))) : Post c n gl cl X e x m := by
  cases m with
  | v => exact ⟨h, hf⟩
  | t => exact ⟨sndT_plain ok.hK h (plainT hm), fun op l p e => by subst e; cases hm⟩
  | i tg => exact sndI_src ok.hK h
theorem con_of {d : D} {x : Expr} (h : conIs d x = true) : PE X x (TEn c true fun _ μ => .ok d μ) := by
  cases x with
  | Constant k j p =>
    cases k with
    | int i => cases d with
      | int i' => cases (of_decide_eq_true h); exact snd_c pe_int fun _ _ => rfl
      | _ => exact absurd h (by simp [conIs])
    | bool b => cases d with
      | bl b' => cases (of_decide_eq_true h); exact snd_c pe_bl fun _ _ => rfl
      | _ => exact absurd h (by simp [conIs])
    | none => cases d with
      | non => exact snd_c pe_non fun _ _ => rfl
      | _ => exact absurd h (by simp [conIs])
    | str y => cases d with
      | str s =>
        have h' : (decide (y.cps.toList = s) && s.all (fun c => decide (c < 128)) && decide (s.length ≤ 1000000)) = true := h
        simp only [Bool.and_eq_true, decide_eq_true_eq, List.all_eq_true] at h'
        obtain ⟨⟨h1, h2⟩, h3⟩ := h'
        refine snd_c pe_str fun _ _ => ⟨?_, h3, h2⟩
        subst h1
        rfl
      | _ => exact absurd h (by simp [conIs])
    | _ => cases d <;> exact absurd h (by simp [conIs])
  | _ => cases d <;> exact absurd h (by simp [conIs])
theorem denEs_len : ∀ (es : List E) (γ : Ga) (μ : Sto), (denEs gl cl es γ μ).Sat fun ds => ds.length = es.length
  | [], _, _ => by simp [denEs, R.Sat]
  | e :: es, γ, μ => by
    simp only [denEs]
    exact R.Sat.bind fun x μ => R.Sat.bind' (denEs_len es γ μ) fun xs μ h => by simp [R.Sat, h]
theorem sat_imp {α : Type} {r : R α} {P Q : α → Prop} (h : r.Sat P) (i : ∀ a, P a → Q a) : r.Sat Q := by
  induction r with
  | ok a μ => exact i a h
  | exc _ _ _ => trivial
  | fail => trivial
  | any P k ih => exact fun p hp => ih p (h p hp)
theorem PTs.of_none : PTs X [] (TTn c fun _ μ => .ok true μ) := ⟨fun pins s σ H Q I w => pts_nil.run pins s σ H Q I (by obtain ⟨S, γ, μ, g, h⟩ := w; exact h S H g Step.refl)⟩
theorem bool_single {op : BoolOp} {y : Expr} {p : Pos} {st : Bool} {r : Ga → Sto → R D} (h : PE X y (TEn c st r)) : PE X (.BoolOp op [y] p) (TEn c st r) := pe_one h
end
end Bs
/-! Bs: expressions are sound. -/
namespace Bs
open PySem L2
section
variable {n : Nm} {gl : Nat → Option D} {cl : Nat → List D → Sto → R D} {k : Nat}
theorem nofr {P : Prop} {b : Bool} (hb : b = false) : b = true → P := fun z => by rw [hb] at z; cases z
theorem snd_call {c : Ct} {X : Cx} {sc : Scope} {F : Str → Bool} (ok : XOk c n gl cl k sc F X) {f : Nat} {I : FnI} {es ks : List E} {pm : List Nat} {xs : List Expr} {kws : List Keyword} {p p2 : Pos} (hI : n.fns[f]? = some I) (hcl : I.cls = none)
    (hg : glB sc I.name = true) (hok : okN I.name = true) (ha : PA X xs (TAn c true (denEs gl cl es))) (hk : PK X kws (TAn c true (denEs gl cl ks))) (hs : xs.all nst = true) (hkk : kwOk kws = true) (l1 : xs.length = es.length) (l2 : kws.length = ks.length)
    (hsh : (⟨f, es.length, kwN kws, pm⟩ : Sh) ∈ n.shs) :
    PE X (.Call (.Name I.name p) xs kws p2) (TEn c true (denE gl cl (.call f es ks pm))) ∧ (I.fr = true → PE X (.Call (.Name I.name p) xs kws p2) (TFn c (denE gl cl (.call f es ks pm)))) := by
  obtain ⟨a, fd, hm, hkp, hF, hb⟩ := ok.fns f I hI
  have hm : X.mg I.name = some (.ref a) := by unfold FAt at hm; rw [hcl] at hm; exact hm
  obtain ⟨hb1, hb2⟩ := hb _ hsh rfl
  have kl : (kwN kws).length = kws.length := (kw_all (pos := p2) (env := X.env) hkk).2.2.2
  have hdb : (I.name == ("__debug__" : Str)) = false := by
    unfold okN at hok
    simp only [Bool.and_eq_true, Bool.not_eq_true'] at hok
    exact hok.1
  have key : PE X (.Call (.Name I.name p) xs kws p2) (tCallG (WV c) pm es.length ks.length (spF c.K (cl f) I.ps.length I.fr) (TAn c true (denEs gl cl es)) (TAn c true (denEs gl cl ks))) := by
    have hF' : FnOk X.prog X.w X.K X.mg X.base (L2.CX X.prog X.w) k a fd I.ps (spF c.K (cl f) I.ps.length I.fr) := by rw [← ok.hK]; exact hF
    rw [← l1, ← l2]
    match xs, ha, hs, l1 with
    | [], ha, hs, l1 =>
      refine (pe_callG0 ok.tk hF' ok.room (ok.gl' hg) hm hkp (fun s us ws hin h1 h2 => hb1 s us ws hin (by rw [h1]; exact l1) (by rw [h2, kl])) hk hkk hdb).imp fun σ H Q w => ?_
      obtain ⟨S, γ, μ, g, h⟩ := w
      have e0 : es = [] := by cases es with
        | nil => rfl
        | cons _ _ => cases l1
      subst e0
      exact h S [] H g Step.refl rfl
    | e :: xs', ha, hs, l1 =>
      exact pe_callG ok.tk hF' ok.room (ok.gl' hg) hm hkp (fun s us ws hin h1 h2 => hb1 s us ws hin (by rw [h1]; exact l1) (by rw [h2, kl])) ha hk hs hkk hdb
  have hnp : ∀ ds : List D, ds.length = es.length + ks.length → (arr pm ds).length = I.ps.length := fun ds h => hb2 ds (by rw [h, kl, l2])
  refine ⟨?_, fun hfr => ?_⟩
  · cases hfr : I.fr with
    | false =>
      rw [hfr] at key
      exact key.imp fun σ H Q w => callG_of false hnp (denEs_len es) (denEs_len ks) w
    | true =>
      rw [hfr] at key
      exact PE.fresh (key.imp fun σ H Q w => callG_of true hnp (denEs_len es) (denEs_len ks) w)
  · rw [hfr] at key
    exact key.imp fun σ H Q w => callG_of true hnp (denEs_len es) (denEs_len ks) w
theorem arr_range {α : Type} (us : List α) : (List.range us.length).filterMap (fun j => us[j]?) = us := by
  induction us with
  | nil => rfl
  | cons u us ih =>
    rw [List.length_cons, List.range_succ_eq_map, List.filterMap_cons]
    simp only [List.getElem?_cons_zero, List.filterMap_map]
    congr 1
theorem snd_mko {c : Ct} {X : Cx} {sc : Scope} {F : Str → Bool} (ok : XOk c n gl cl k sc F X) {cc f : Nat} {I : FnI} {es ks : List E} {pm : List Nat} {xs : List Expr} {kws : List Keyword} {p p2 : Pos} (hI : n.fns[f]? = some I) (hcl : I.cls = some cc) (hin : I.name = "__init__") (hfr : I.fr = false) (hoc : cc ∈ n.ocs.map (·.1))
    (hg : glB sc (nm cc) = true) (hok : okN (nm cc) = true) (ha : PA X xs (TAn c true (denEs gl cl es))) (hk : PK X kws (TAn c true (denEs gl cl ks))) (hs : xs.all nst = true) (hkk : kwOk kws = true) (l1 : xs.length = es.length) (l2 : kws.length = ks.length)
    (hsh : (⟨f, es.length + 1, kwN kws, pm⟩ : Sh) ∈ n.shs) :
    PE X (.Call (.Name (nm cc) p) xs kws p2) (TEn c true (denE gl cl (.mko cc f es ks pm))) := by
  obtain ⟨a, fd, hm, hkp, hF, hb⟩ := ok.fns f I hI
  obtain ⟨_, oc⟩ := ok.oc hoc
  have hm : PySem.W.findIn X.K (.ref (He.ga X.K (nm cc))) I.name = some (some (.ref a)) ∧ PySem.W.isFn X.K (.ref a) = true := by unfold FAt at hm; rw [hcl] at hm; exact hm
  obtain ⟨hb1, hb2⟩ := hb _ hsh rfl
  have kl : (kwN kws).length = kws.length := (kw_all (pos := p2) (env := X.env) hkk).2.2.2
  have hdb : (nm cc == ("__debug__" : Str)) = false := by
    unfold okN at hok
    simp only [Bool.and_eq_true, Bool.not_eq_true'] at hok
    exact hok.1
  have M : Mk X.K (He.ga X.K (nm cc)) a := ⟨oc.makes, by rw [← hin]; exact hm.1, hm.2, oc.kp⟩
  have hcK : Cls c.K (He.ga c.K (nm cc)) := by rw [← ok.hK]; exact oc.cls
  have key : PE X (.Call (.Name (nm cc) p) xs kws p2) (tMakeG (He.ga c.K (nm cc)) (WV c) pm es.length ks.length (spF c.K (cl f) I.ps.length false) (TAn c true (denEs gl cl es)) (TAn c true (denEs gl cl ks))) := by
    have hF' : FnOk X.prog X.w X.K X.mg X.base (L2.CX X.prog X.w) k a fd I.ps (spF c.K (cl f) I.ps.length false) := by rw [← ok.hK, ← hfr]; exact hF
    rw [← l1, ← l2, ← ok.hK]
    rw [← ok.hK] at hF'
    match xs, ha, hs, l1 with
    | [], ha, hs, l1 =>
      refine (pe_makeG0 M ok.tk hF' ok.room1 (ok.gl' hg) oc.at_ (fun s us ws hin h1 h2 => hb1 s us ws hin (by rw [h1]; show 0 + 1 = es.length + 1; rw [← l1]; rfl) (by rw [h2, kl])) hk hkk hdb).imp fun σ H Q w => ?_
      obtain ⟨S, γ, μ, g, h⟩ := w
      have e0 : es = [] := by cases es with
        | nil => rfl
        | cons _ _ => cases l1
      subst e0
      exact h S [] H g Step.refl rfl
    | e :: xs', ha, hs, l1 =>
      exact pe_makeG M ok.tk hF' ok.room1 (ok.gl' hg) oc.at_ (fun s us ws hin h1 h2 => hb1 s us ws hin (by rw [h1, l1]) (by rw [h2, kl])) ha hk hs hkk hdb
  exact key.imp fun σ H Q w => makeG_of hcK (fun ds h => hb2 ds (by rw [h, kl, l2])) (denEs_len es) (denEs_len ks) w
theorem snd_mth {c : Ct} {X : Cx} {sc : Scope} {F : Str → Bool} (ok : XOk c n gl cl k sc F X) {a : E} {cc mm f : Nat} {I : FnI} {es : List E} {o : Expr} {xs : List Expr} {ap p2 : Pos} (hI : n.fns[f]? = some I) (hcl : I.cls = some cc) (hin : I.name = nm mm) (hfr : I.fr = false) (hoc : cc ∈ n.ocs.map (·.1))
    (ho : PE X o (TEn c (sg a) (denE gl cl a))) (ha : PA X xs (TAn c true (denEs gl cl es))) (hs : xs.all nst = true) (hn : noCall o = true) (hl : (ap.endLine == p2.line) = true) (hlen : xs.length < 29) (l1 : xs.length = es.length)
    (hsh : (⟨f, es.length + 1, [], List.range (es.length + 1)⟩ : Sh) ∈ n.shs) :
    PE X (.Call (.Attribute o (nm mm) ap) xs [] p2) (TEn c true (denE gl cl (.mth a cc mm f es))) := by
  obtain ⟨a1, fd, hm, hkp, hF, hb⟩ := ok.fns f I hI
  obtain ⟨_, oc⟩ := ok.oc hoc
  have hm : PySem.W.findIn X.K (.ref (He.ga X.K (nm cc))) I.name = some (some (.ref a1)) ∧ PySem.W.isFn X.K (.ref a1) = true := by unfold FAt at hm; rw [hcl] at hm; exact hm
  obtain ⟨hb1, hb2⟩ := hb _ hsh rfl
  have M : Meth X.K (He.ga X.K (nm cc)) (nm mm) a1 := ⟨by rw [← hin]; exact hm.1, hm.2, hkp⟩
  have arr_id : ∀ us : List Value, us.length = es.length + 1 → arr (List.range (es.length + 1)) (us ++ []) = us := fun us h => by
    rw [List.append_nil]
    unfold arr
    rw [← h]
    exact arr_range us
  have hbb : ∀ (s : Shared) (us : List Value), X.K.In s.heap → us.length = es.length + 1 → BindsTo s fd ⟨us, []⟩ (I.ps.zip us) := fun s us hin h => by
    have := hb1 s us [] hin h rfl
    rw [arr_id us h] at this
    exact this
  have hnp : es.length + 1 = I.ps.length := by
    have := hb2 (List.replicate (es.length + 1) D.non) (by simp)
    rw [← this]
    have e := arr_range (List.replicate (es.length + 1) D.non)
    rw [List.length_replicate] at e
    unfold arr
    rw [e, List.length_replicate]
  have key : PE X (.Call (.Attribute o (nm mm) ap) xs [] p2) (tMthG (He.ga c.K (nm cc)) (nm mm) (WV c) es.length (spF c.K (cl f) I.ps.length false) (TEn c (sg a) (denE gl cl a)) (TAn c true (denEs gl cl es))) := by
    have hF' : FnOk X.prog X.w X.K X.mg X.base (L2.CX X.prog X.w) k a1 fd I.ps (spF X.K (cl f) I.ps.length false) := by rw [← hfr]; exact hF
    rw [← l1, ← ok.hK]
    match xs, ha, hs, l1, hlen with
    | [], ha, hs, l1, hlen =>
      refine (pe_mthG0 ho oc.cls M ok.tk hF' ok.room (fun s us hin h1 => hbb s us hin (by rw [h1, ← l1]; rfl)) hn hl).imp fun σ H Q w => ?_
      have e0 : es = [] := by cases es with
        | nil => rfl
        | cons _ _ => cases l1
      subst e0
      obtain ⟨S, γ, μ, g, h⟩ := w
      refine ⟨S, γ, μ, g, h.mono (fun x μ1 h => ?_) fun _ _ _ w => w⟩
      intro S1 v H1 g1 s1 r1
      obtain ⟨a, dx, fs, e1, e2, e3, q⟩ := h S1 v H1 g1 s1 r1
      refine ⟨a, dx, fs, e1, e2, e3, ?_⟩
      obtain ⟨S2, γ2, μ2, g2, q⟩ := q
      exact q S2 [] H1 g2 Step.refl rfl
    | e :: xs', ha, hs, l1, hlen =>
      exact pe_mthG ho oc.cls M ok.tk hF' ok.room (fun s us hin h1 => hbb s us hin (by rw [h1, l1])) ha hs hn hl hlen
  refine key.imp fun σ H Q w => mthG_of ⟨a1, by rw [← ok.hK, ← hin]; exact hm.1⟩ hnp (denEs_len es) w
theorem es_ne {es : List E} {xs : List Expr} (h : xs.length = es.length) (hn : (!xs.isEmpty) = true) : ∃ y ys, xs = y :: ys := by
  cases xs with
  | nil => cases hn
  | cons y ys => exact ⟨y, ys, rfl⟩
theorem mem_dict : ("dict" : Str) ∈ bltL := by decide +kernel
theorem mem_b (b : Bi) : biName b ∈ bltL := by cases b <;> decide +kernel
theorem mem_t (t : Ty) : tyStr t ∈ bltL := by cases t <;> decide +kernel
theorem mem_isi : ("isinstance" : Str) ∈ bltL := by decide +kernel
theorem mem_rng : ("range" : Str) ∈ bltL := by decide +kernel
theorem mem_enu : ("enumerate" : Str) ∈ bltL := by decide +kernel
theorem mem_set : ("set" : Str) ∈ bltL := by decide +kernel
theorem mem_zip : ("zip" : Str) ∈ bltL := by decide +kernel
theorem okN_of {x : Str} (h : okN x = true) : (x == ("__debug__" : Str)) = false ∧ (x == ("__classdict__" : Str)) = false := by
  unfold okN at h
  simp only [Bool.and_eq_true, Bool.not_eq_true'] at h
  exact h
theorem denPs_eq : ∀ (kvs : List (E × E)) (γ : Ga) (μ : Sto), denPs gl cl kvs γ μ = dPs (kvs.map fun q => (denE gl cl q.1, denE gl cl q.2)) γ μ
  | [], γ, μ => rfl
  | (a, b) :: r, γ, μ => by
    unfold denPs dPs
    rw [List.map_cons]
    have : denP gl cl (a, b) γ μ = (denE gl cl a γ μ).bind fun x μ => (denE gl cl b γ μ).bind fun y μ => .ok (x, y) μ := by unfold denP; rfl
    rw [this]
    congr 1
    funext p μ
    rw [denPs_eq r γ μ]
theorem XOk.u65 {c : Ct} {X : Cx} {sc : Scope} {F : Str → Bool} (ok : XOk c n gl cl k sc F X) : X.A.units + 65 < cLine := by have := ok.room.un; omega
mutual
theorem snd : ∀ (e : E) {c : Ct} (sc : Scope) (F : Str → Bool) (m : Md) (x : Expr) (X : Cx), chk n e sc F m x = true → XOk c n gl cl k sc F X → Post c n gl cl X e x m
  | .var i, c, sc, F, m, x, X, h, ok => by
    unfold chk at h
    rw [Bool.and_eq_true] at h
    cases e : asName x with
    | none => rw [e] at h; exact absurd h.2 (by simp)
    | some y =>
      rw [e] at h
      simp only [Bool.and_eq_true, decide_eq_true_eq] at h
      obtain ⟨hm, ⟨h1, h2⟩, h3⟩ := h
      obtain ⟨p, rfl⟩ := asName_eq e
      refine post_of ok hm ?_ (nofr rfl)
      exact snd_var (by rw [ok.nN]; exact h1) (ok.vis h2) (okN_of h3).1 (okN_of h3).2
  | .ovar i, c, sc, F, m, x, X, h, ok => by
    unfold chk at h
    rw [Bool.and_eq_true] at h
    cases e : asName x with
    | none => rw [e] at h; exact absurd h.2 (by simp)
    | some y =>
      rw [e] at h
      simp only [Bool.and_eq_true, decide_eq_true_eq] at h
      obtain ⟨hm, ⟨h1, h2⟩, h3⟩ := h
      obtain ⟨p, rfl⟩ := asName_eq e
      refine post_of ok hm ?_ (nofr rfl)
      exact snd_ovar (by rw [ok.nN]; exact h1) (ok.vis h2) (okN_of h3).1 (okN_of h3).2
  | .odic i, c, sc, F, m, x, X, h, ok => by
    unfold chk at h
    rw [Bool.and_eq_true] at h
    cases e : asName x with
    | none => rw [e] at h; exact absurd h.2 (by simp)
    | some y =>
      rw [e] at h
      simp only [Bool.and_eq_true, decide_eq_true_eq] at h
      obtain ⟨hm, ⟨h1, h2⟩, h3⟩ := h
      obtain ⟨p, rfl⟩ := asName_eq e
      refine post_of ok hm ?_ (nofr rfl)
      exact snd_odic (by rw [ok.nN]; exact h1) (ok.vis h2) (okN_of h3).1 (okN_of h3).2
  | .con d, c, sc, F, m, x, X, h, ok => by
    unfold chk at h
    rw [Bool.and_eq_true] at h
    exact post_of ok h.1 (con_of h.2) (nofr rfl)
  | .glb g, c, sc, F, m, x, X, h, ok => by
    unfold chk at h
    rw [Bool.and_eq_true] at h
    cases e : asName x with
    | none => rw [e] at h; exact absurd h.2 (by simp)
    | some y =>
      rw [e] at h
      simp only [Bool.and_eq_true, decide_eq_true_eq] at h
      obtain ⟨hm, ⟨h1, h2⟩, h3⟩ := h
      obtain ⟨p, rfl⟩ := asName_eq e
      refine post_of ok hm ?_ (nofr rfl)
      obtain ⟨d, ed⟩ := ok.glx g y h1
      obtain ⟨u, v, hm, r, hr⟩ := ok.gls g y d h1 ed
      exact snd_gl (o := gl g) (pe_glob (ok.gl' h2) hm r (okN_of h3).1) fun d' e' => by rw [ed] at e'; cases e'; exact hr
  | .bin o a b, c, sc, F, m, x, X, h, ok => by
    unfold chk at h
    rw [Bool.and_eq_true] at h
    cases e : asBin x with
    | none => rw [e] at h; exact absurd h.2 (by simp)
    | some z =>
      obtain ⟨p, op, q⟩ := z
      rw [e] at h
      simp only [Bool.and_eq_true, decide_eq_true_eq] at h
      obtain ⟨hm, ⟨h1, h2⟩, h3⟩ := h
      subst h1
      obtain ⟨pp, rfl⟩ := asBin_eq e
      exact post_of ok hm (snd_bin ok.hK o (snd a sc F .v p X h2 ok).1 (snd b sc F .v q X h3 ok).1) (nofr rfl)
  | .lop o a b, c, sc, F, m, x, X, h, ok => by
    unfold chk at h
    rw [Bool.and_eq_true] at h
    cases e : asBin x with
    | none => rw [e] at h; exact absurd h.2 (by simp)
    | some z =>
      obtain ⟨p, op, q⟩ := z
      rw [e] at h
      simp only [Bool.and_eq_true, decide_eq_true_eq] at h
      obtain ⟨hm, ⟨h1, h2⟩, h3⟩ := h
      subst h1
      obtain ⟨pp, rfl⟩ := asBin_eq e
      have key := snd_lopF (pos := pp) ok.hK o (snd a sc F .v p X h2 ok).1 (snd b sc F .v q X h3 ok).1
      exact post_of ok hm (PE.fresh key) fun _ => key
  | .sto e, c, sc, F, m, x, X, h, ok => by
    unfold chk at h
    simp only [Bool.and_eq_true] at h
    obtain ⟨⟨hm, h1⟩, h2⟩ := h
    exact post_of ok hm (((snd e sc F .v x X h1 ok).2 h2).imp fun σ H Q w => sto_of w) (nofr rfl)
  | .popl a e1, c, sc, F, m, x, X, h, ok => by
    unfold chk at h
    rw [Bool.and_eq_true] at h
    obtain ⟨hm, h⟩ := h
    cases e : asMeth1 x with
    | none => rw [e] at h; cases h
    | some z =>
      obtain ⟨p, nm, q⟩ := z
      rw [e] at h
      simp only [Bool.and_eq_true, decide_eq_true_eq] at h
      obtain ⟨⟨⟨⟨h1, h2⟩, h3⟩, h4⟩, h5⟩ := h
      subst h1
      obtain ⟨ap, pp, rfl, hl⟩ := asMeth1_eq e
      exact post_of ok hm (snd_popl ok.hK (snd a sc F .v p X h2 ok).1 (snd e1 sc F .v q X h3 ok).1 h5 h4 hl) (nofr rfl)
  | .pop0 a, c, sc, F, m, x, X, h, ok => by
    unfold chk at h
    rw [Bool.and_eq_true] at h
    obtain ⟨hm, h⟩ := h
    cases e : asMeth0 x with
    | none => rw [e] at h; cases h
    | some z =>
      obtain ⟨p, nm⟩ := z
      rw [e] at h
      simp only [Bool.and_eq_true, decide_eq_true_eq] at h
      obtain ⟨⟨h1, h2⟩, h4⟩ := h
      subst h1
      obtain ⟨ap, pp, rfl, hl⟩ := asMeth0_eq e
      exact post_of ok hm (snd_pop0 ok.hK (snd a sc F .v p X h2 ok).1 h4 hl) (nofr rfl)
  | .neg a, c, sc, F, m, x, X, h, ok => by
    unfold chk at h
    rw [Bool.and_eq_true] at h
    cases e : asUn x with
    | none => rw [e] at h; exact absurd h.2 (by simp)
    | some z =>
      obtain ⟨op, p⟩ := z
      rw [e] at h
      simp only [Bool.and_eq_true, decide_eq_true_eq] at h
      obtain ⟨hm, h1, h2⟩ := h
      subst h1
      obtain ⟨pp, rfl⟩ := asUn_eq e
      exact post_of ok hm (snd_neg (snd a sc F .v p X h2 ok).1) (nofr rfl)
  | .cmp o a b, c, sc, F, m, x, X, h, ok => by
    unfold chk at h
    rw [Bool.and_eq_true] at h
    obtain ⟨hm, h⟩ := h
    split at h
    · rename_i p op q e
      simp only [Bool.and_eq_true, decide_eq_true_eq, Bool.not_eq_true'] at h
      obtain ⟨⟨⟨h1, h2⟩, h3⟩, h4⟩ := h
      subst h1
      obtain ⟨pp, rfl⟩ := asCmp_eq e
      have ha := (snd a sc F .v p X h2 ok).1
      have hb := (snd b sc F .v q X h3 ok).1
      cases m with
      | v => exact ⟨snd_cmp ok.hK (ok.u65) o ha hb h4, nofr rfl⟩
      | t => exact ⟨sndT_cmp ok.hK (ok.u65) o ha hb h4, fun op l p e => nomatch e⟩
      | i tg => cases hm
    · cases h
  | .chn o o' a b d, c, sc, F, m, x, X, h, ok => by
    unfold chk at h
    rw [Bool.and_eq_true] at h
    obtain ⟨hm, h⟩ := h
    split at h
    · rename_i p op op' q r e
      simp only [Bool.and_eq_true, decide_eq_true_eq, Bool.not_eq_true'] at h
      obtain ⟨⟨⟨⟨⟨h1, h1'⟩, h2⟩, h3⟩, h3'⟩, h4⟩ := h
      subst h1 h1'
      obtain ⟨pp, rfl⟩ := asCmp_eq e
      have hh := snd_chn (pos := pp) ok.hK (ok.u65) o o' (snd a sc F .v p X h2 ok).1 (snd b sc F .v q X h3 ok).1 (snd d sc F .v r X h3' ok).1 h4
      cases m with
      | v => exact ⟨hh.1, nofr rfl⟩
      | t => exact ⟨hh.2, fun op l p e => nomatch e⟩
      | i tg => cases hm
    · cases h
  | .not a, c, sc, F, m, x, X, h, ok => by
    unfold chk at h
    rw [Bool.and_eq_true] at h
    obtain ⟨hm, h⟩ := h
    cases e : asUn x with
    | none => rw [e] at h; exact absurd h (by simp)
    | some z =>
      obtain ⟨op, p⟩ := z
      rw [e] at h
      simp only [Bool.and_eq_true, decide_eq_true_eq] at h
      obtain ⟨h1, h2⟩ := h
      subst h1
      obtain ⟨pp, rfl⟩ := asUn_eq e
      have ih := snd a sc F m p X h2 ok
      cases m with
      | v => exact ⟨snd_not ok.hK ih.1, nofr rfl⟩
      | t => exact ⟨sndT_not ih.1, fun op l p e => nomatch e⟩
      | i tg => cases hm
  | .and a b, c, sc, F, m, x, X, h, ok => by
    unfold chk at h
    rw [Bool.and_eq_true] at h
    obtain ⟨hm, h⟩ := h
    cases e : asBool x with
    | none => rw [e] at h; exact absurd h (by simp)
    | some z =>
      obtain ⟨op, p, q⟩ := z
      rw [e] at h
      simp only [Bool.and_eq_true, decide_eq_true_eq] at h
      obtain ⟨⟨h1, h2⟩, h3⟩ := h
      subst h1
      have iha := snd a sc F m p X h2 ok
      have ihb := snd b sc F m q X h3 ok
      obtain ⟨pp, hx⟩ := asBool_eq e
      cases m with
      | v =>
        rcases hx with rfl | ⟨b', d, r, rfl, rfl⟩
        · exact ⟨snd_and ok.hK iha.1 (pe_one ihb.1), nofr rfl⟩
        · exact ⟨snd_and ok.hK iha.1 ihb.1, nofr rfl⟩
      | t =>
        have key : PW X x (TTn c fun γ μ => (denE gl cl (.and a b) γ μ).bind truthR) := by
          rcases hx with rfl | ⟨b', d, r, rfl, rfl⟩
          · exact sndT_and iha.1 (pw_and1 ihb.1)
          · exact sndT_and iha.1 (ihb.2 _ _ _ rfl)
        exact ⟨key.pt, fun _ _ _ _ => key⟩
      | i tg => cases hm
  | .or a b, c, sc, F, m, x, X, h, ok => by
    unfold chk at h
    rw [Bool.and_eq_true] at h
    obtain ⟨hm, h⟩ := h
    cases e : asBool x with
    | none => rw [e] at h; exact absurd h (by simp)
    | some z =>
      obtain ⟨op, p, q⟩ := z
      rw [e] at h
      simp only [Bool.and_eq_true, decide_eq_true_eq] at h
      obtain ⟨⟨h1, h2⟩, h3⟩ := h
      subst h1
      have iha := snd a sc F m p X h2 ok
      have ihb := snd b sc F m q X h3 ok
      obtain ⟨pp, hx⟩ := asBool_eq e
      cases m with
      | v =>
        rcases hx with rfl | ⟨b', d, r, rfl, rfl⟩
        · exact ⟨snd_or ok.hK iha.1 (pe_one ihb.1), nofr rfl⟩
        · exact ⟨snd_or ok.hK iha.1 ihb.1, nofr rfl⟩
      | t =>
        have key : PW X x (TTn c fun γ μ => (denE gl cl (.or a b) γ μ).bind truthR) := by
          rcases hx with rfl | ⟨b', d, r, rfl, rfl⟩
          · exact sndT_or iha.1 (pw_or1 ihb.1)
          · exact sndT_or iha.1 (ihb.2 _ _ _ rfl)
        exact ⟨key.pt, fun _ _ _ _ => key⟩
      | i tg => cases hm
  | .ite d a b, c, sc, F, m, x, X, h, ok => by
    unfold chk at h
    rw [Bool.and_eq_true] at h
    cases e : asIf x with
    | none => rw [e] at h; exact absurd h.2 (by simp)
    | some z =>
      obtain ⟨p, q, r⟩ := z
      rw [e] at h
      simp only [Bool.and_eq_true] at h
      obtain ⟨hm, ⟨h1, h2⟩, h3⟩ := h
      obtain ⟨pp, rfl⟩ := asIf_eq e
      exact post_of ok hm (snd_ite (snd d sc F .t p X h1 ok).1 (snd a sc F .v q X h2 ok).1 (snd b sc F .v r X h3 ok).1) (nofr rfl)
  | .tup es, c, sc, F, m, x, X, h, ok => by
    unfold chk at h
    rw [Bool.and_eq_true] at h
    cases e : asTup x with
    | none => rw [e] at h; exact absurd h.2 (by simp)
    | some xs =>
      rw [e] at h
      simp only [Bool.and_eq_true, decide_eq_true_eq] at h
      obtain ⟨hm, ⟨h1, h2⟩, h3⟩ := h
      obtain ⟨k, pp, rfl⟩ := asTup_eq e
      exact post_of ok hm (snd_tup ((sndEs es sc F xs X h1 ok).2.1 h2) fun γ μ => sat_imp (denEs_len es γ μ) fun a e => by omega) (nofr rfl)
  | .lst es, c, sc, F, m, x, X, h, ok => by
    unfold chk at h
    rw [Bool.and_eq_true] at h
    cases e : asLst x with
    | none => rw [e] at h; exact absurd h.2 (by simp)
    | some xs =>
      rw [e] at h
      simp only [Bool.and_eq_true, decide_eq_true_eq] at h
      obtain ⟨hm, ⟨h1, h2⟩, h3⟩ := h
      obtain ⟨pp, rfl⟩ := asLst_eq e
      have key := snd_lst (pos := pp) ((sndEs es sc F xs X h1 ok).2.1 h2) fun γ μ => sat_imp (denEs_len es γ μ) fun a e => by omega
      exact post_of ok hm (PE.fresh key) fun _ => key
  | .new es, c, sc, F, m, x, X, h, ok => by
    unfold chk at h
    rw [Bool.and_eq_true] at h
    cases e : asLst x with
    | none => rw [e] at h; exact absurd h.2 (by simp)
    | some xs =>
      rw [e] at h
      simp only [Bool.and_eq_true, decide_eq_true_eq] at h
      obtain ⟨hm, ⟨h1, h2⟩, h3⟩ := h
      obtain ⟨pp, rfl⟩ := asLst_eq e
      exact post_of ok hm (snd_new ((sndEs es sc F xs X h1 ok).2.1 h2) fun γ μ => sat_imp (denEs_len es γ μ) fun a e => by omega) (nofr rfl)
  | .dsp1 a b, c, sc, F, m, x, X, h, ok => by
    unfold chk at h
    rw [Bool.and_eq_true] at h
    cases e : asDic1 x with
    | none => rw [e] at h; exact absurd h.2 (by simp)
    | some z =>
      obtain ⟨p, q⟩ := z
      rw [e] at h
      simp only [Bool.and_eq_true] at h
      obtain ⟨hm, ⟨⟨h1, h2⟩, h3⟩, h4⟩ := h
      obtain ⟨pp, rfl⟩ := asDic1_eq e
      have ha := (snd a sc F .v p X h1 ok).1
      have hb := (snd b sc F .v q X h2 ok).1
      rw [h3] at ha
      rw [h4] at hb
      exact post_of ok hm (snd_dsp1 ha hb) (nofr rfl)
  | .dsp kvs, c, sc, F, m, x, X, h, ok => by
    unfold chk at h
    rw [Bool.and_eq_true] at h
    cases e : asDic x with
    | none => rw [e] at h; exact absurd h.2 (by simp)
    | some z =>
      obtain ⟨ks, vs⟩ := z
      rw [e] at h
      simp only [Bool.and_eq_true, decide_eq_true_eq] at h
      obtain ⟨hm, ⟨h1, h2⟩, h3⟩ := h
      obtain ⟨pp, rfl⟩ := asDic_eq e
      obtain ⟨g1, g2, g3, g4⟩ := sndPs kvs sc F ks vs X pp h1 ok
      have key := snd_dsp _ g1 g2 g3 (by intro z; rw [z] at h2; simp at h2) h3 (by rw [g4, List.length_map])
      refine post_of ok hm (key.imp fun σ H Q w => ?_) (nofr rfl)
      obtain ⟨S, γ, μ, g, h⟩ := w
      refine ⟨S, γ, μ, g, ?_⟩
      show ((dPs _ γ μ).bind dspR).All _ _
      rw [← denPs_eq]
      exact h
  | .ix a b, c, sc, F, m, x, X, h, ok => by
    unfold chk at h
    rw [Bool.and_eq_true] at h
    cases e : asSub x with
    | none => rw [e] at h; exact absurd h.2 (by simp)
    | some z =>
      obtain ⟨p, q⟩ := z
      rw [e] at h
      simp only [Bool.and_eq_true] at h
      obtain ⟨hm, ⟨h1, h2⟩, h3⟩ := h
      obtain ⟨pp, rfl⟩ := asSub_eq e
      exact post_of ok hm (snd_ix ok.hK (snd a sc F .v p X h1 ok).1 (snd b sc F .v q X h2 ok).1 h3) (nofr rfl)
  | .sl a lo hi, c, sc, F, m, x, X, h, ok => by
    unfold chk at h
    rw [Bool.and_eq_true] at h
    obtain ⟨hm, h⟩ := h
    split at h
    · rename_i p q e
      rw [Bool.and_eq_true] at h
      obtain ⟨h1, h⟩ := h
      split at h
      · rename_i l u e2
        rw [Bool.and_eq_true] at h
        obtain ⟨pp, rfl⟩ := asSub_eq e
        obtain ⟨p2, rfl⟩ := asSlc_eq e2
        exact post_of ok hm (snd_sl ok.hK (snd a sc F .v p X h1 ok).1 (sndO lo sc F l X h.1 ok) (sndO hi sc F u X h.2 ok)) (nofr rfl)
      · cases h
    · cases h
  | .call f es ks pm, c, sc, F, m, x, X, h, ok => by
    unfold chk at h
    rw [Bool.and_eq_true] at h
    obtain ⟨hm, h⟩ := h
    split at h
    · rename_i y xs kws I e hI
      simp only [Bool.and_eq_true, decide_eq_true_eq] at h
      obtain ⟨⟨⟨⟨⟨⟨⟨⟨h0, h1⟩, h2⟩, h3⟩, h4⟩, h5⟩, h6⟩, h7⟩, h8⟩ := h
      subst h1
      obtain ⟨p, p2, rfl⟩ := asCall_eq e
      obtain ⟨_, ha, hs, l1⟩ := sndEs es sc F xs X h4 ok
      obtain ⟨hk, hkk, l2⟩ := sndKs ks sc F kws X h6 ok
      have key := snd_call (p := p) (p2 := p2) ok hI h0 h2 h3 (ha h5) (hk h7) hs hkk l1 l2 h8
      refine post_of ok hm key.1 fun hf => key.2 ?_
      have hf' : (match n.fns[f]? with | some I => I.fr | none => false) = true := hf
      rw [hI] at hf'
      exact hf'
    · cases h
  | .bi b es, c, sc, F, m, x, X, h, ok => by
    unfold chk at h
    rw [Bool.and_eq_true] at h
    obtain ⟨hm, h⟩ := h
    split at h
    · rename_i y xs e
      simp only [Bool.and_eq_true, decide_eq_true_eq] at h
      obtain ⟨⟨⟨h1, h2⟩, h3⟩, h4⟩ := h
      subst h1
      obtain ⟨p, p2, rfl⟩ := asCall_eq e
      obtain ⟨ha, _, hs, l1⟩ := sndEs es sc F xs X h3 ok
      obtain ⟨y, ys, rfl⟩ := es_ne l1 h4
      refine post_of ok hm (snd_bi ok.hK ok.calm b (ok.gl' h2) (ok.blt _ (mem_b b)) ha hs) fun hf => ?_
      cases (of_decide_eq_true hf : b = .list)
      exact snd_listF ok.hK ok.calm (ok.gl' h2) (ok.blt _ (mem_b .list)) ha hs
    · cases h
  | .mt mm a e1, c, sc, F, m, x, X, h, ok => by
    unfold chk at h
    rw [Bool.and_eq_true] at h
    obtain ⟨hm, h⟩ := h
    cases e : asMeth1 x with
    | none => rw [e] at h; cases h
    | some z =>
      obtain ⟨p, nm, q⟩ := z
      rw [e] at h
      simp only [Bool.and_eq_true, decide_eq_true_eq] at h
      obtain ⟨⟨⟨⟨h1, h2⟩, h3⟩, h4⟩, h5⟩ := h
      subst h1
      obtain ⟨ap, pp, rfl, hl⟩ := asMeth1_eq e
      exact post_of ok hm (snd_mt ok.hK mm (snd a sc F .v p X h2 ok).1 (snd e1 sc F .v q X h3 ok).1 h5 h4 hl) (nofr rfl)
  | .rng3 e1 e2 e3, c, sc, F, m, x, X, h, ok => by
    unfold chk at h
    split at h
    · rename_i tg y p q r e
      simp only [Bool.and_eq_true, decide_eq_true_eq] at h
      obtain ⟨⟨⟨⟨⟨⟨⟨h1, h2⟩, h3⟩, h4⟩, h5⟩, h6⟩, h7⟩, h8⟩ := h
      subst h1
      obtain ⟨p1, p2, rfl⟩ := asCall_eq e
      exact sndI_rng3 (ok.gl' h2) (ok.blt _ mem_rng) (snd e1 sc F .v p X h3 ok).1 (snd e2 sc F .v q X h5 ok).1 (snd e3 sc F .v r X h7 ok).1 h4 h6 h8
    · cases h
  | .sset a, c, sc, F, m, x, X, h, ok => by
    unfold chk at h
    rw [Bool.and_eq_true] at h
    obtain ⟨hm, h⟩ := h
    split at h
    · rename_i y p e
      simp only [Bool.and_eq_true, decide_eq_true_eq] at h
      obtain ⟨⟨h1, h2⟩, h3⟩ := h
      split at h3
      · rename_i y2 q e2
        simp only [Bool.and_eq_true, decide_eq_true_eq] at h3
        obtain ⟨⟨⟨g1, g2⟩, g3⟩, g4⟩ := h3
        subst h1 g1
        obtain ⟨p1, p2, rfl⟩ := asCall_eq e
        obtain ⟨p3, p4, rfl⟩ := asCall_eq e2
        exact post_of ok hm (snd_sset ok.hK ok.calm (ok.gl' h2) (ok.blt _ (mem_b .sorted)) (ok.gl' g2) (ok.blt _ mem_set) (snd a sc F .v q X g3 ok).1 g4) (nofr rfl)
      · cases h3
    · cases h
  | .rvl a, c, sc, F, m, x, X, h, ok => by
    unfold chk at h
    rw [Bool.and_eq_true] at h
    obtain ⟨hm, h⟩ := h
    cases e : asRev x with
    | none => rw [e] at h; cases h
    | some p =>
      rw [e] at h
      obtain ⟨k, p1, p2, p3, pos, rfl⟩ := asRev_eq e
      exact post_of ok hm (snd_rvl ok.hK (snd a sc F .v p X h ok).1) (nofr rfl)
  | .kys a, c, sc, F, m, x, X, h, ok => by
    unfold chk at h
    cases m with
    | v => cases h
    | t => cases h
    | i tg =>
      have h : (chk n a sc F .v x && sg a) = true := h
      rw [Bool.and_eq_true] at h
      have ha := (snd a sc F .v x X h.1 ok).1
      rw [h.2] at ha
      exact sndI_keys ha
  | .dcp a, c, sc, F, m, x, X, h, ok => by
    unfold chk at h
    rw [Bool.and_eq_true] at h
    obtain ⟨hm, h⟩ := h
    split at h
    · rename_i y p e
      simp only [Bool.and_eq_true, decide_eq_true_eq] at h
      obtain ⟨⟨⟨h1, h2⟩, h3⟩, h4⟩ := h
      subst h1
      obtain ⟨p1, p2, rfl⟩ := asCall_eq e
      exact post_of ok hm (snd_dcp ok.calm (ok.gl' h2) (ok.blt _ mem_dict) (snd a sc F .v p X h3 ok).1 h4) (nofr rfl)
    · cases h
  | .mrg a k v, c, sc, F, m, x, X, h, ok => by
    unfold chk at h
    cases h
  | .mko cc f es ks pm, c, sc, F, m, x, X, h, ok => by
    unfold chk at h
    rw [Bool.and_eq_true] at h
    obtain ⟨hm, h⟩ := h
    split at h
    · rename_i y xs kws I e hI
      simp only [Bool.and_eq_true, decide_eq_true_eq] at h
      obtain ⟨⟨⟨⟨⟨⟨⟨⟨⟨⟨⟨h1, h2⟩, h3⟩, h4⟩, h5⟩, h6⟩, h7⟩, h8⟩, h9⟩, h10⟩, h11⟩, h12⟩ := h
      subst h1
      obtain ⟨p, p2, rfl⟩ := asCall_eq e
      obtain ⟨_, ha, hs, l1⟩ := sndEs es sc F xs X h4 ok
      obtain ⟨hk, hkk, l2⟩ := sndKs ks sc F kws X h6 ok
      exact post_of ok hm (snd_mko (p := p) (p2 := p2) ok hI h9 h10 h11 h12 h2 h3 (ha h5) (hk h7) hs hkk l1 l2 h8) (nofr rfl)
    · cases h
  | .att a f, c, sc, F, m, x, X, h, ok => by
    unfold chk at h
    rw [Bool.and_eq_true] at h
    obtain ⟨hm, h⟩ := h
    split at h
    · rename_i p y e
      simp only [Bool.and_eq_true, decide_eq_true_eq] at h
      obtain ⟨⟨h1, h2⟩, h3⟩ := h
      subst h1
      obtain ⟨pp, rfl⟩ := asAtr_eq e
      exact post_of ok hm (snd_att ok.hK (snd a sc F .v p X h2 ok).1 h3) (nofr rfl)
    · cases h
  | .mth a cc mm f es, c, sc, F, m, x, X, h, ok => by
    unfold chk at h
    rw [Bool.and_eq_true] at h
    obtain ⟨hm, h⟩ := h
    split at h
    · rename_i p y xs I e hI
      simp only [Bool.and_eq_true, decide_eq_true_eq] at h
      obtain ⟨⟨⟨⟨⟨⟨⟨⟨⟨⟨h1, h2⟩, h3⟩, h4⟩, h5⟩, h6⟩, h7⟩, h8⟩, h9⟩, h10⟩, h11⟩ := h
      subst h1
      obtain ⟨ap, p2, rfl, hl⟩ := asMth_eq e
      obtain ⟨_, ha, hs, l1⟩ := sndEs es sc F xs X h4 ok
      exact post_of ok hm (snd_mth ok hI h7 h8 h9 h10 (snd a sc F .v p X h2 ok).1 (ha h5) hs h3 hl h11 l1 h6) (nofr rfl)
    · cases h
  | .dsp0, c, sc, F, m, x, X, h, ok => by
    unfold chk at h
    rw [Bool.and_eq_true] at h
    obtain ⟨p, rfl⟩ := isDic0_eq h.2
    exact post_of ok h.1 snd_dsp0 (nofr rfl)
  | .tidx gg e1, c, sc, F, m, x, X, h, ok => by
    unfold chk at h
    rw [Bool.and_eq_true] at h
    obtain ⟨hm, h⟩ := h
    cases e : asMeth1 x with
    | none => rw [e] at h; cases h
    | some z =>
      obtain ⟨p, nm, q⟩ := z
      rw [e] at h
      simp only [Bool.and_eq_true, decide_eq_true_eq] at h
      obtain ⟨⟨⟨⟨h1, h2⟩, h3⟩, h4⟩, h5⟩ := h
      subst h1
      obtain ⟨ap, pp, rfl, hl⟩ := asMeth1_eq e
      cases e2 : asName p with
      | none => rw [e2] at h5; cases h5
      | some y =>
        rw [e2] at h5
        simp only [Bool.and_eq_true, decide_eq_true_eq] at h5
        obtain ⟨⟨g1, g2⟩, g3⟩ := h5
        obtain ⟨pn, rfl⟩ := asName_eq e2
        obtain ⟨d, ed⟩ := ok.glx gg y g1
        obtain ⟨u, v, hmg, r, hr⟩ := ok.gls gg y d g1 ed
        exact post_of ok hm (snd_tidx ok.hK (o := gl gg) (pe_glob (ok.gl' g2) hmg r (okN_of g3).1) (fun d' e' => by rw [ed] at e'; cases e'; exact hr) (snd e1 sc F .v q X h2 ok).1 h3 h4 hl) (nofr rfl)
  | .rev a, c, sc, F, m, x, X, h, ok => by
    unfold chk at h
    rw [Bool.and_eq_true] at h
    obtain ⟨hm, h⟩ := h
    cases e : asRev x with
    | none => rw [e] at h; cases h
    | some p =>
      rw [e] at h
      obtain ⟨k, p1, p2, p3, pos, rfl⟩ := asRev_eq e
      exact post_of ok hm (snd_rev (snd a sc F .v p X h ok).1) (nofr rfl)
  | .isi a ts, c, sc, F, m, x, X, h, ok => by
    unfold chk at h
    rw [Bool.and_eq_true] at h
    obtain ⟨hm, h⟩ := h
    split at h
    · rename_i y p q e
      simp only [Bool.and_eq_true, decide_eq_true_eq] at h
      obtain ⟨⟨⟨⟨⟨⟨⟨h1, h2⟩, h3⟩, h4⟩, h5⟩, h6⟩, h7⟩, h8⟩ := h
      subst h1
      obtain ⟨p1, p2, rfl⟩ := asCall_eq e
      have ha := (snd a sc F .v p X h3 ok).1
      have hts : ∀ t ∈ ts, TyNm X t := fun t ht => ⟨ok.gl' (List.all_eq_true.mp h5 t ht), ok.blt _ (mem_t t)⟩
      have hne : ts ≠ [] := fun z => by rw [z] at h6; cases h6
      cases e2 : asTup q with
      | some qs =>
        rw [e2] at h8
        simp only [Bool.and_eq_true, decide_eq_true_eq] at h8
        obtain ⟨kk, p3, rfl⟩ := asTup_eq e2
        exact post_of ok hm (snd_isiT ok.hK (ok.gl' h2) (ok.blt _ mem_isi) hts hne h7 h8 ha h4) (nofr rfl)
      | none =>
        rw [e2] at h8
        match ts, h8, hts with
        | [t], h8, hts =>
          cases q with
          | Name yy pp =>
            cases (of_decide_eq_true h8 : yy = tyStr t)
            exact post_of ok hm (snd_isi1 ok.hK (ok.gl' h2) (ok.blt _ mem_isi) (hts t List.mem_cons_self) ha h4) (nofr rfl)
          | _ => exact absurd h8 (by simp [isTyN])
    · cases h
  | .rng1 e1, c, sc, F, m, x, X, h, ok => by
    unfold chk at h
    split at h
    · rename_i tg y p e
      simp only [Bool.and_eq_true, decide_eq_true_eq] at h
      obtain ⟨⟨⟨h1, h2⟩, h3⟩, h4⟩ := h
      subst h1
      obtain ⟨p1, p2, rfl⟩ := asCall_eq e
      exact sndI_rng1 (ok.gl' h2) (ok.blt _ mem_rng) (snd e1 sc F .v p X h3 ok).1 h4
    · cases h
  | .rng2 e1 e2, c, sc, F, m, x, X, h, ok => by
    unfold chk at h
    split at h
    · rename_i tg y p q e
      simp only [Bool.and_eq_true, decide_eq_true_eq] at h
      obtain ⟨⟨⟨⟨⟨h1, h2⟩, h3⟩, h4⟩, h5⟩, h6⟩ := h
      subst h1
      obtain ⟨p1, p2, rfl⟩ := asCall_eq e
      exact sndI_rng2 (ok.gl' h2) (ok.blt _ mem_rng) (snd e1 sc F .v p X h3 ok).1 (snd e2 sc F .v q X h5 ok).1 h4 h6
    · cases h
  | .enu a, c, sc, F, m, x, X, h, ok => by
    unfold chk at h
    split at h
    · rename_i tg y p e
      simp only [Bool.and_eq_true, decide_eq_true_eq] at h
      obtain ⟨⟨⟨⟨h1, h2⟩, h3⟩, h4⟩, h5⟩ := h
      subst h1
      obtain ⟨p1, p2, rfl⟩ := asCall_eq e
      cases tg with
      | Tuple es kk tp => exact sndI_enu ok.hK (ok.gl' h2) (ok.blt _ mem_enu) (snd a sc F .v p X h3 ok).1 h4
      | _ => cases h5
    · cases h
  | .zip a b, c, sc, F, m, x, X, h, ok => by
    unfold chk at h
    split at h
    · rename_i tg y p q e
      simp only [Bool.and_eq_true, decide_eq_true_eq] at h
      obtain ⟨⟨⟨⟨⟨⟨h1, h2⟩, h3⟩, h4⟩, h5⟩, h6⟩, h7⟩ := h
      subst h1
      obtain ⟨p1, p2, rfl⟩ := asCall_eq e
      have ha := PEmode (st' := sg a && sg b) (snd a sc F .v p X h3 ok).1 fun z => (Bool.and_eq_true_iff.mp z).1
      have hb := PEmode (st' := sg a && sg b) (snd b sc F .v q X h5 ok).1 fun z => (Bool.and_eq_true_iff.mp z).2
      cases tg with
      | Tuple es kk tp => exact sndI_zip ok.hK (ok.gl' h2) (ok.blt _ mem_zip) ha hb h4 h6
      | _ => cases h7
    · cases h
  | .lc t it d e, c, sc, F, m, x, X, h, ok => by
    unfold chk at h
    rw [Bool.and_eq_true] at h
    obtain ⟨hm, h⟩ := h
    split at h
    · rename_i elt tg itx ifs scope ee
      simp only [Bool.and_eq_true] at h
      obtain ⟨⟨⟨⟨⟨⟨h1, h2⟩, h3⟩, h4⟩, h5⟩, h6⟩, h7⟩ := h
      obtain ⟨pp, rfl⟩ := asLc1_eq ee
      obtain ⟨hb, ho⟩ := blk_of h3
      have hi : PI X tg itx (TIn c false fun γ μ => (denE gl cl it γ μ).bind itemsR) := PI.imp (snd it sc F (.i tg) itx X h1 ok) fun σ H Q w => by
        obtain ⟨S, γ, μ, g, w⟩ := w
        exact ⟨S, γ, μ, g, w.mono (fun ds μ' q S' J H' g' s wk => q S' J H' g' s (wk.weak g'.st.dm)) fun _ _ _ z => z⟩
      have key := pe_lc (X := X) (pos := pp) ok.calm ok.nd hi (by rw [ok.nN, ok.scp]; exact hb) (fun s H C cs fp => (ok.blk s H scope C cs fp).tg h4) (fun s H C cs fp => sndC d _ _ ifs _ h5 (ok.blk s H scope C cs fp))
        (fun s H C cs fp => by have := (snd e _ _ .v elt _ h6 (ok.blk s H scope C cs fp)).1; rw [h7] at this; exact this) (folded h2 _)
      rw [ho] at key
      have key2 : PE X _ (TFn c (denE gl cl (.lc t it d e))) := key.imp fun σ H Q w => lc_imp w
      exact post_of ok hm (PE.fresh key2) fun _ => key2
    · cases h
  | .lc2 t it d t2 it2 d2 e, c, sc, F, m, x, X, h, ok => by
    unfold chk at h
    rw [Bool.and_eq_true] at h
    obtain ⟨hm, h⟩ := h
    split at h
    · rename_i elt tg itx ifs tg1 itx1 ifs1 scope ee
      simp only [Bool.and_eq_true] at h
      obtain ⟨⟨⟨⟨⟨⟨⟨h1, h2⟩, h3⟩, h4⟩, h5⟩, h6⟩, h7⟩, ⟨⟨⟨h8, h9⟩, h10⟩, h11⟩, h12⟩ := h
      obtain ⟨pp, rfl⟩ := asLc2_eq ee
      obtain ⟨hb, ho⟩ := blk_of h3
      have hi : PI X tg itx (TIn c false fun γ μ => (denE gl cl it γ μ).bind itemsR) := PI.imp (snd it sc F (.i tg) itx X h1 ok) fun σ H Q w => by
        obtain ⟨S, γ, μ, g, w⟩ := w
        exact ⟨S, γ, μ, g, w.mono (fun ds μ' q S' J H' g' s wk => q S' J H' g' s (wk.weak g'.st.dm)) fun _ _ _ z => z⟩
      have key := pe_lc2 (X := X) (pos := pp) (vs1 := t2) ok.calm ok.nd hi (by rw [ok.nN, ok.scp]; exact hb) (by rw [ho]; exact fun i hi => List.mem_append_right _ hi) (fun s H C cs fp => (ok.blk s H scope C cs fp).tg h4) (fun s H C cs fp => sndC d _ _ ifs _ h5 (ok.blk s H scope C cs fp))
        (fun s H C cs fp => by have := snd it2 _ _ (.i tg1) itx1 _ h8 (ok.blk s H scope C cs fp); unfold Post at this; rw [h10] at this; exact this)
        (fun s H C cs fp => (ok.blk s H scope C cs fp).tg h11) (fun s H C cs fp => sndC d2 _ _ ifs1 _ h12 (ok.blk s H scope C cs fp))
        (fun s H C cs fp => by have := (snd e _ _ .v elt _ h6 (ok.blk s H scope C cs fp)).1; rw [h7] at this; exact this) (folded h2 _) (folded h9)
      rw [ho] at key
      have key2 : PE X _ (TFn c (denE gl cl (.lc2 t it d t2 it2 d2 e))) := key.imp fun σ H Q w => lc2_imp w
      exact post_of ok hm (PE.fresh key2) fun _ => key2
    · cases h
theorem sndO : ∀ (o : Option E) {c : Ct} (sc : Scope) (F : Str → Bool) (x : Option Expr) (X : Cx), isO n o sc F x = true → XOk c n gl cl k sc F X → PO X x (TOn c (denO gl cl o))
  | none, c, sc, F, x, X, h, ok => by
    unfold isO at h
    cases x with
    | none => exact sndO_none
    | some _ => cases h
  | some e, c, sc, F, x, X, h, ok => by
    unfold isO at h
    cases x with
    | none => cases h
    | some y => exact sndO_some (snd e sc F .v y X h ok).1
theorem sndC : ∀ (o : Option E) {c : Ct} (sc : Scope) (F : Str → Bool) (xs : List Expr) (X : Cx), isC n o sc F xs = true → XOk c n gl cl k sc F X → PTs X xs (TTn c (denC gl cl o))
  | none, c, sc, F, xs, X, h, ok => by
    unfold isC at h
    cases xs with
    | nil => exact PTs.of_none
    | cons _ _ => cases h
  | some e, c, sc, F, xs, X, h, ok => by
    unfold isC at h
    match xs, h with
    | [y], h => exact pts_one (snd e sc F .t y X h ok).1
theorem sndEs : ∀ (es : List E) {c : Ct} (sc : Scope) (F : Str → Bool) (xs : List Expr) (X : Cx), isEs n es sc F xs = true → XOk c n gl cl k sc F X → PA X xs (TAn c false (denEs gl cl es)) ∧ (es.all sg = true → PA X xs (TAn c true (denEs gl cl es))) ∧ xs.all nst = true ∧ xs.length = es.length
  | [], c, sc, F, xs, X, h, ok => by
    unfold isEs at h
    cases xs with
    | nil => exact ⟨sndA_nil, fun _ => sndA_nil, rfl, rfl⟩
    | cons _ _ => cases h
  | e :: es, c, sc, F, xs, X, h, ok => by
    unfold isEs at h
    cases xs with
    | nil => cases h
    | cons y ys =>
      simp only [Bool.and_eq_true] at h
      obtain ⟨⟨h1, h2⟩, h3⟩ := h
      have ih := (snd e sc F .v y X h1 ok).1
      obtain ⟨i1, i2, i3, i4⟩ := sndEs es sc F ys X h3 ok
      refine ⟨sndA_cons (PEweak ih) i1 (star_cons h2), fun z => ?_, by rw [List.all_cons, h2, i3]; rfl, by rw [List.length_cons, List.length_cons, i4]⟩
      rw [List.all_cons, Bool.and_eq_true] at z
      rw [z.1] at ih
      exact sndA_cons ih (i2 z.2) (star_cons h2)
theorem sndPs : ∀ (es : List (E × E)) {c : Ct} (sc : Scope) (F : Str → Bool) (ks : List (Option Expr)) (vs : List Expr) (X : Cx) (pos : Pos), isPs n es sc F ks vs = true → XOk c n gl cl k sc F X → PPs X pos ks vs ((es.map fun q => (denE gl cl q.1, denE gl cl q.2)).map fun q => (TEn c true q.1, TEn c true q.2)) ∧ ks.all (·.isSome) = true ∧ ks.length = vs.length ∧ ks.length = es.length
  | [], c, sc, F, ks, vs, X, pos, h, ok => by
    unfold isPs at h
    cases ks with
    | nil => cases vs with
      | nil => exact ⟨pps_nil, rfl, rfl, rfl⟩
      | cons _ _ => cases h
    | cons _ _ => cases h
  | q :: r, c, sc, F, ks, vs, X, pos, h, ok => by
    unfold isPs at h
    match ks, vs, h with
    | some y :: ks, z :: vs, h =>
      rw [Bool.and_eq_true] at h
      obtain ⟨i1, i2, i3, i4⟩ := sndPs r sc F ks vs X pos h.2 ok
      obtain ⟨j1, j2⟩ := sndP q sc F y z X h.1 ok
      exact ⟨pps_cons j1 j2 i1, by rw [List.all_cons, i2]; rfl, by rw [List.length_cons, List.length_cons, i3], by rw [List.length_cons, List.length_cons, i4]⟩
    | [], _, h => cases h
    | none :: _, _, h => cases h
    | some _ :: _, [], h => cases h
theorem sndP : ∀ (q : E × E) {c : Ct} (sc : Scope) (F : Str → Bool) (y z : Expr) (X : Cx), isP n q sc F y z = true → XOk c n gl cl k sc F X → PE X y (TEn c true (denE gl cl q.1)) ∧ PE X z (TEn c true (denE gl cl q.2))
  | (a, b), c, sc, F, y, z, X, h, ok => by
    unfold isP at h
    simp only [Bool.and_eq_true] at h
    obtain ⟨⟨⟨h1, h2⟩, h3⟩, h4⟩ := h
    have ha := (snd a sc F .v y X h1 ok).1
    have hb := (snd b sc F .v z X h2 ok).1
    rw [h3] at ha
    rw [h4] at hb
    exact ⟨ha, hb⟩
theorem sndKs : ∀ (es : List E) {c : Ct} (sc : Scope) (F : Str → Bool) (xs : List Keyword) (X : Cx), isKs n es sc F xs = true → XOk c n gl cl k sc F X → (es.all sg = true → PK X xs (TAn c true (denEs gl cl es))) ∧ kwOk xs = true ∧ xs.length = es.length
  | [], c, sc, F, xs, X, h, ok => by
    unfold isKs at h
    cases xs with
    | nil => exact ⟨fun _ => sndK_nil, rfl, rfl⟩
    | cons _ _ => cases h
  | e :: es, c, sc, F, xs, X, h, ok => by
    unfold isKs at h
    match xs, h with
    | ⟨some nm, y, kp⟩ :: ys, h =>
      simp only [Bool.and_eq_true] at h
      have ih := (snd e sc F .v y X h.1 ok).1
      obtain ⟨i1, i2, i3⟩ := sndKs es sc F ys X h.2 ok
      refine ⟨fun z => ?_, ?_, by rw [List.length_cons, List.length_cons, i3]⟩
      · rw [List.all_cons, Bool.and_eq_true] at z
        rw [z.1] at ih
        exact sndK_cons ih (i1 z.2)
      · show (true && kwOk ys) = true
        rw [i2]; rfl
end
end
end Bs
/-! Bs: statements. -/
namespace Bs
open PySem L2
/-- what a return leaves -/
def Rt (c : Ct) (fr : Bool) (d : D) (μ' : Sto) (v : V) (H' : Hp) : Prop := ∃ S' γ' σ', Good c S' γ' μ' σ' H' ∧ match fr with
  | false => Rel c.K S' H' d v
  | true => ∃ xs p vs, d = .lst xs ∧ v = .ref p ∧ S' p ∧ c.H0 p = none ∧ μ' p = none ∧ H' p = some (.lst vs) ∧ Rels c.K S' H' xs vs
def AftS (c : Ct) (fr : Bool) (S : Sa) (H : Hp) (E : Ends) : Fl → Sto → Prop := fun fl μ' => match fl with
  | .nx γ' => ∀ S' σ' H', Good c S' γ' μ' σ' H' → KpT S S' H H' → E.nx σ' H'
  | .bk γ' => ∀ S' σ' H', Good c S' γ' μ' σ' H' → KpT S S' H H' → E.bk σ' H'
  | .ct γ' => ∀ S' σ' H', Good c S' γ' μ' σ' H' → KpT S S' H H' → E.ct σ' H'
  | .rt d => ∀ v H', Rt c fr d μ' v H' → E.rt v H'
def TSn (c : Ct) (fr : Bool) (r : Ga → Sto → R Fl) : TS := fun E σ H => ∃ S γ μ, Good c S γ μ σ H ∧ (r γ μ).All (AftS c fr S H E) c.V
theorem _root_.L2.PS.imp {X : Cx} {e : Stmt} {t t' : TS} (h : PS X e t) (i : ∀ D σ H, t' D σ H → t D σ H) : PS X e t' := ⟨fun pins s σ H D I w => h.run pins s σ H D I (i D σ H w)⟩
theorem _root_.L2.PSs.imp {X : Cx} {e : List Stmt} {t t' : TS} (h : PSs X e t) (i : ∀ D σ H, t' D σ H → t D σ H) : PSs X e t' := ⟨fun pins s σ H D I w => h.run pins s σ H D I (i D σ H w)⟩
section
variable {c : Ct} {fr : Bool} {S S' : Sa} {γ : Ga} {μ μ' : Sto} {σ : L2.St} {H H' : Hp} {E : Ends} {X : Cx} {pos : Pos}
theorem AftS.step {fl : Fl} (k : KpT S S' H H') (h : AftS c fr S H E fl μ) : AftS c fr S' H' E fl μ := by
  cases fl with
  | nx γ' => exact fun S2 σ2 H2 g k2 => h S2 σ2 H2 g (k.trans k2)
  | bk γ' => exact fun S2 σ2 H2 g k2 => h S2 σ2 H2 g (k.trans k2)
  | ct γ' => exact fun S2 σ2 H2 g k2 => h S2 σ2 H2 g (k.trans k2)
  | rt d => exact h
theorem AftS.steps {r : R Fl} {W : Xc → Ga → Sto → Prop} (k : KpT S S' H H') (h : r.All (AftS c fr S H E) W) : r.All (AftS c fr S' H' E) W := h.mono (fun _ _ q => AftS.step k q) fun _ _ _ w => w
theorem ss_nil : PSs X [] (TSn c fr fun γ μ => .ok (.nx γ) μ) := pss_nil.imp fun E σ H w => by
  obtain ⟨S, γ, μ, g, h⟩ := w
  exact h S σ H g KpT.refl
theorem ss_cons {st : Stmt} {rest : List Stmt} {r : Ga → Sto → R Fl} {rr : Ga → Sto → R Fl} (h1 : PS X st (TSn c fr r)) (h2 : PSs X rest (TSn c fr rr)) : PSs X (st :: rest) (TSn c fr fun γ μ => (r γ μ).bind fun fl μ => match fl with | .nx γ' => rr γ' μ | _ => .ok fl μ) := by
  refine (pss_cons h1 h2).imp fun E σ H w => ?_
  obtain ⟨S, γ, μ, g, h⟩ := w
  rw [R.All_bind] at h
  refine ⟨S, γ, μ, g, h.mono (fun fl μ1 h => ?_) fun _ _ _ w => w⟩
  cases fl with
  | nx γ' => exact fun S' σ' H' g' k => ⟨S', γ', μ1, g', AftS.steps k h⟩
  | bk γ' => exact h
  | ct γ' => exact h
  | rt d => exact h
/-- an owned list is frozen -/
theorem Good.freeze (g : Good c S γ μ σ H) (z0 : ∀ a, c.S0 a → c.H0 a ≠ none) {i : Nat} {xs : List D} (e : γ[i]? = some (.own (.lst xs))) : ∃ S', Good c S' (γ.set i (.val (.lst xs))) μ σ H ∧ KpT S S' H H := by
  obtain ⟨p, e1, sp, h0, mp, vs, ep, r⟩ := g.sl i _ e
  have k : Kp S (fun a => S a ∧ a ≠ p) H H := ⟨fun _ _ h _ => h, fun a z => .inl z.1⟩
  refine ⟨fun a => S a ∧ a ≠ p, ⟨by rw [List.length_set]; exact g.len, fun j s ej => ?_, fun j l o o' q e1 e2 e3 e4 => ?_, ⟨fun q ob eq => ⟨⟨(g.st.st q ob eq).1, fun z => by rw [z, mp] at eq; cases eq⟩, (g.st.st q ob eq).2.kp k rfl⟩, fun a z => g.st.sd a z.1⟩, fun a z => ⟨g.s0 a z, fun e2 => z0 a z (by rw [e2]; exact h0)⟩, g.ext, g.fr, g.md, g.kt.trans ⟨k, fun _ h => h⟩⟩, ⟨k, fun _ h => h⟩⟩
  · rcases get_set _ _ _ _ _ ej with ⟨rfl, rfl, hl⟩ | ⟨hn, ej⟩
    · exact ⟨.ref p, e1, p, vs, rfl, .inl ⟨.inl ep, fun z => z.2 rfl⟩, r.kp k⟩
    · have h := g.sl j s ej
      cases s with
      | un => trivial
      | val d => obtain ⟨v, e1, r⟩ := h; exact ⟨v, e1, r.kp k⟩
      | own ob =>
        obtain ⟨q, e2, sq, h0', m, rr⟩ := h
        refine ⟨q, e2, ⟨sq, fun z => ?_⟩, h0', m, rr.kp k rfl⟩
        subst z
        exact hn (g.ap j i _ _ q ej e e2 e1)
  · rcases get_set _ _ _ _ _ e1 with ⟨_, z, _⟩ | ⟨hn, e1⟩
    · cases z
    rcases get_set _ _ _ _ _ e2 with ⟨_, z, _⟩ | ⟨hn2, e2⟩
    · cases z
    exact g.ap j l o o' q e1 e2 e3 e4
/-- a new owned list in a slot -/
theorem Good.setOwn (g0 : Good c S γ μ σ H) (g : Good c S' γ μ' σ H') {p : Addr} {xs : List D} {vs : List V} (i : Nat) (hp : H p = none) (sp : S' p) (mp : μ' p = none) (ep : H' p = some (.lst vs)) (r : Rels c.K S' H' xs vs) : Good c S' (γ.set i (.own (.lst xs))) μ' (σ.set i (some (V.ref p))) H' := by
  refine ⟨by rw [List.length_set, List.length_set]; exact g.len, fun j s e => ?_, fun j k o o' q e1 e2 e3 e4 => ?_, g.st, g.s0, g.ext, g.fr, g.md, g.kt⟩
  · rcases get_set _ _ _ _ _ e with ⟨rfl, rfl, hl⟩ | ⟨hn, e⟩
    · exact ⟨p, by rw [List.getElem?_set_self (by rw [← g.len]; exact hl)], sp, g0.h0 hp, mp, vs, ep, r⟩
    · have h := g.sl j s e
      cases s with
      | un => trivial
      | val d => obtain ⟨w, e1, r⟩ := h; exact ⟨w, by rw [List.getElem?_set_ne (Ne.symm hn)]; exact e1, r⟩
      | own o => obtain ⟨p, e1, r⟩ := h; exact ⟨p, by rw [List.getElem?_set_ne (Ne.symm hn)]; exact e1, r⟩
  · have hon := g0.own_ne hp
    rcases get_set _ _ _ _ _ e1 with ⟨rfl, z1, l1⟩ | ⟨hn, e1⟩
    · rcases get_set _ _ _ _ _ e2 with ⟨rfl, z2, _⟩ | ⟨hn2, e2⟩
      · rfl
      · rw [List.getElem?_set_self (by rw [← g.len]; exact l1)] at e3
        rw [List.getElem?_set_ne (Ne.symm hn2)] at e4
        cases e3
        exact absurd rfl (hon k o' _ e2 e4)
    · rcases get_set _ _ _ _ _ e2 with ⟨z, z2, l2⟩ | ⟨hn2, e2⟩
      · rw [z, List.getElem?_set_self (by rw [← g.len]; exact l2)] at e4
        rw [List.getElem?_set_ne (Ne.symm hn)] at e3
        cases e4
        exact absurd rfl (hon j o _ (by assumption) e3)
      · rw [List.getElem?_set_ne (Ne.symm hn)] at e3
        rw [List.getElem?_set_ne (Ne.symm hn2)] at e4
        exact g.ap j k o o' q e1 e2 e3 e4
/-- an owned list changes -/
theorem Good.change (g : Good c S γ μ σ H) {i : Nat} {p : Addr} {o : Ob} (ys : List D) (ws : List V) (e : γ[i]? = some (.own o)) (e1 : σ[i]? = some (some (V.ref p))) (r : Rels c.K S H ys ws) : Good c S (γ.set i (.own (.lst ys))) μ σ (upd H p (.lst ws)) ∧ KpT S S H (upd H p (.lst ws)) := by
  obtain ⟨p', e1', sp, h0, mp, _⟩ := g.sl i _ e
  rw [e1] at e1'; cases e1'
  have k : KpT S S H (upd H p (.lst ws)) := KpT.refl.poke (.inl sp)
  have hl : i < γ.length := (List.getElem?_eq_some_iff.mp e).1
  refine ⟨⟨by rw [List.length_set]; exact g.len, fun j s ej => ?_, fun j l oj ol q e1 e2 e3 e4 => ?_, ⟨fun q ob eq => ⟨(g.st.st q ob eq).1, (g.st.st q ob eq).2.kp k.kp (upd_ne fun z => by rw [z, mp] at eq; cases eq)⟩, fun a z => k.th a (g.st.sd a z)⟩, g.s0, fun a u h m => ?_, g.fr, g.md, g.kt.trans k⟩, k⟩
  · rcases get_set _ _ _ _ _ ej with ⟨rfl, rfl, _⟩ | ⟨hn, ej⟩
    · exact ⟨p, e1, sp, h0, mp, ws, upd_same, r.kp k.kp⟩
    · have h := g.sl j s ej
      cases s with
      | un => trivial
      | val d => obtain ⟨v, e1, r⟩ := h; exact ⟨v, e1, r.kp k.kp⟩
      | own ob =>
        obtain ⟨q, e2, sq, h0', m, rr⟩ := h
        refine ⟨q, e2, sq, h0', m, rr.kp k.kp (upd_ne fun z => ?_)⟩
        subst z
        exact hn (g.ap j i _ _ q ej e e2 e1)
  · have conv : ∀ (j : Nat) o', (γ.set i (.own (.lst ys)))[j]? = some (.own o') → ∃ o2, γ[j]? = some (.own o2) := fun j o' h => by
      rcases get_set _ _ _ _ _ h with ⟨rfl, _, _⟩ | ⟨_, h⟩
      · exact ⟨_, e⟩
      · exact ⟨_, h⟩
    obtain ⟨o1, f1⟩ := conv j oj e1
    obtain ⟨o2, f2⟩ := conv l ol e2
    exact g.ap j l o1 o2 q f1 f2 e3 e4
  · rw [upd_ne (fun z => by rw [z, h0] at h; cases h)]; exact g.ext a u h m
/-- an owned dict is frozen, and locked -/
theorem Good.freezeD (g : Good c S γ μ σ H) (z0 : ∀ a, c.S0 a → c.H0 a ≠ none) {i : Nat} {kvs : List (D × D)} (e : γ[i]? = some (.own (.dic kvs))) : ∃ p u, H p = some u ∧ Mut (some u) ∧ ∀ od, ∃ S', Good c S' (γ.set i (.val (.dic kvs))) μ σ (upd H p (.frz od u)) ∧ KpT S S' H (upd H p (.frz od u)) := by
  obtain ⟨p, e1, sp, h0, mp, vs, ep, r⟩ := g.sl i _ e
  refine ⟨p, _, ep, trivial, fun od => ?_⟩
  have k1 : KpT S S H (upd H p (.frz od (.dK vs))) := KpT.refl.poke (.inl sp)
  have k : KpT S (fun a => S a ∧ a ≠ p) H (upd H p (.frz od (.dK vs))) := ⟨⟨k1.kp.keep, fun a z => .inl z.1⟩, k1.th⟩
  refine ⟨fun a => S a ∧ a ≠ p, ⟨by rw [List.length_set]; exact g.len, fun j s ej => ?_, fun j l o o' q e1 e2 e3 e4 => ?_, ⟨fun q ob eq => ⟨⟨(g.st.st q ob eq).1, fun z => by rw [z, mp] at eq; cases eq⟩, (g.st.st q ob eq).2.kp k.kp (upd_ne fun z => by rw [z, mp] at eq; cases eq)⟩, fun a z => k.th a (g.st.sd a z.1)⟩, fun a z => ⟨g.s0 a z, fun e2 => z0 a z (by rw [e2]; exact h0)⟩, fun a u h m => ?_, g.fr, g.md, g.kt.trans k⟩, k⟩
  · rcases get_set _ _ _ _ _ ej with ⟨rfl, rfl, hl⟩ | ⟨hn, ej⟩
    · exact ⟨.ref p, e1, p, vs, rfl, ⟨od, upd_same⟩, fun z => z.2 rfl, RelP.kp k.kp _ _ r⟩
    · have h := g.sl j s ej
      cases s with
      | un => trivial
      | val d => obtain ⟨v, e1, r⟩ := h; exact ⟨v, e1, r.kp k.kp⟩
      | own ob =>
        obtain ⟨q, e2, sq, h0', m, rr⟩ := h
        have hq : q ≠ p := fun z => by
          subst z
          exact hn (g.ap j i _ _ q ej e e2 e1)
        exact ⟨q, e2, ⟨sq, hq⟩, h0', m, rr.kp k.kp (upd_ne hq)⟩
  · rcases get_set _ _ _ _ _ e1 with ⟨_, z, _⟩ | ⟨hn, e1⟩
    · cases z
    rcases get_set _ _ _ _ _ e2 with ⟨_, z, _⟩ | ⟨hn2, e2⟩
    · cases z
    exact g.ap j l o o' q e1 e2 e3 e4
  · rw [upd_ne (fun z => by rw [z, h0] at h; cases h)]; exact g.ext a u h m
/-- a new owned object in a slot -/
theorem Good.setOwnO (g0 : Good c S γ μ σ H) (g : Good c S' γ μ' σ H') {p : Addr} {ob : Ob} (i : Nat) (hp : H p = none) (sp : S' p) (mp : μ' p = none) (r : ObR c.K S' H' p ob) : Good c S' (γ.set i (.own ob)) μ' (σ.set i (some (V.ref p))) H' := by
  refine ⟨by rw [List.length_set, List.length_set]; exact g.len, fun j s e => ?_, fun j k o o' q e1 e2 e3 e4 => ?_, g.st, g.s0, g.ext, g.fr, g.md, g.kt⟩
  · rcases get_set _ _ _ _ _ e with ⟨rfl, rfl, hl⟩ | ⟨hn, e⟩
    · exact ⟨p, by rw [List.getElem?_set_self (by rw [← g.len]; exact hl)], sp, g0.h0 hp, mp, r⟩
    · have h := g.sl j s e
      cases s with
      | un => trivial
      | val d => obtain ⟨w, e1, r⟩ := h; exact ⟨w, by rw [List.getElem?_set_ne (Ne.symm hn)]; exact e1, r⟩
      | own o => obtain ⟨p, e1, r⟩ := h; exact ⟨p, by rw [List.getElem?_set_ne (Ne.symm hn)]; exact e1, r⟩
  · have hon := g0.own_ne hp
    rcases get_set _ _ _ _ _ e1 with ⟨rfl, z1, l1⟩ | ⟨hn, e1⟩
    · rcases get_set _ _ _ _ _ e2 with ⟨rfl, z2, _⟩ | ⟨hn2, e2⟩
      · rfl
      · rw [List.getElem?_set_self (by rw [← g.len]; exact l1)] at e3
        rw [List.getElem?_set_ne (Ne.symm hn2)] at e4
        cases e3
        exact absurd rfl (hon k o' _ e2 e4)
    · rcases get_set _ _ _ _ _ e2 with ⟨z, z2, l2⟩ | ⟨hn2, e2⟩
      · rw [z, List.getElem?_set_self (by rw [← g.len]; exact l2)] at e4
        rw [List.getElem?_set_ne (Ne.symm hn)] at e3
        cases e4
        exact absurd rfl (hon j o _ (by assumption) e3)
      · rw [List.getElem?_set_ne (Ne.symm hn)] at e3
        rw [List.getElem?_set_ne (Ne.symm hn2)] at e4
        exact g.ap j k o o' q e1 e2 e3 e4
/-- an owned object changes -/
theorem Good.changeO (g : Good c S γ μ σ H) {i : Nat} {p : Addr} {o : Ob} (ob : Ob) (u : HO) (e : γ[i]? = some (.own o)) (e1 : σ[i]? = some (some (V.ref p))) (r : ObR c.K S (upd H p u) p ob) : Good c S (γ.set i (.own ob)) μ σ (upd H p u) ∧ KpT S S H (upd H p u) := by
  obtain ⟨p', e1', sp, h0, mp, _⟩ := g.sl i _ e
  rw [e1] at e1'; cases e1'
  have k : KpT S S H (upd H p u) := KpT.refl.poke (.inl sp)
  have hl : i < γ.length := (List.getElem?_eq_some_iff.mp e).1
  refine ⟨⟨by rw [List.length_set]; exact g.len, fun j s ej => ?_, fun j l oj ol q e1 e2 e3 e4 => ?_, ⟨fun q ob2 eq => ⟨(g.st.st q ob2 eq).1, (g.st.st q ob2 eq).2.kp k.kp (upd_ne fun z => by rw [z, mp] at eq; cases eq)⟩, fun a z => k.th a (g.st.sd a z)⟩, g.s0, fun a u2 h m => ?_, g.fr, g.md, g.kt.trans k⟩, k⟩
  · rcases get_set _ _ _ _ _ ej with ⟨rfl, rfl, _⟩ | ⟨hn, ej⟩
    · exact ⟨p, e1, sp, h0, mp, r⟩
    · have h := g.sl j s ej
      cases s with
      | un => trivial
      | val d => obtain ⟨v, e1, r⟩ := h; exact ⟨v, e1, r.kp k.kp⟩
      | own ob2 =>
        obtain ⟨q, e2, sq, h0', m, rr⟩ := h
        refine ⟨q, e2, sq, h0', m, rr.kp k.kp (upd_ne fun z => ?_)⟩
        subst z
        exact hn (g.ap j i _ _ q ej e e2 e1)
  · have conv : ∀ (j : Nat) o', (γ.set i (.own ob))[j]? = some (.own o') → ∃ o2, γ[j]? = some (.own o2) := fun j o' h => by
      rcases get_set _ _ _ _ _ h with ⟨rfl, _, _⟩ | ⟨_, h⟩
      · exact ⟨_, e⟩
      · exact ⟨_, h⟩
    obtain ⟨o1, f1⟩ := conv j oj e1
    obtain ⟨o2, f2⟩ := conv l ol e2
    exact g.ap j l o1 o2 q f1 f2 e3 e4
  · rw [upd_ne (fun z => by rw [z, h0] at h; cases h)]; exact g.ext a u2 h m
end
def notComp : Expr → Bool
  | .ListComp _ _ _ _ => false
  | .SetComp _ _ _ _ => false
  | .DictComp _ _ _ _ _ => false
  | _ => true
theorem noSwap {x : Expr} {t : Option Expr} {l : Nat} {env : Env} (h : notComp x = true) : swapsWith x t l env = pure false := by
  cases x <;> first | rfl | cases h
/-- a comprehension that is stored in a cell -/
def cellT (sc : Scope) (y : Str) : Expr → Bool
  | .ListComp _ _ _ _ => decide (sc.names.lookup y = some .cell)
  | x => notComp x
theorem noSwapC {x : Expr} {y : Str} {py : Pos} {l : Nat} {env : Env} (h : cellT env.scope y x = true) : swapsWith x (some (.Name y py)) l env = pure false := by
  cases x with
  | ListComp elt gs scope pos =>
    have e : env.scope.names.lookup y = some .cell := of_decide_eq_true h
    have ky : env.kindOf y = some .cell := e
    have hn : ((some NameKind.cell : Option NameKind) == some .local) = false := rfl
    unfold swapsWith
    simp only [ky, hn, Bool.and_false, Bool.false_and]
    try rfl
  | _ => exact noSwap h
def notTupE : Expr → Bool
  | .Tuple _ _ _ => false
  | _ => true
section
variable {c : Ct} {fr : Bool} {X : Cx} {pos p1 : Pos} {x : Expr} {e : Expr} {st : Bool} {r : Ga → Sto → R D}
/-- target = value, the value frozen -/
def asgR (t : List Nat) (r : Ga → Sto → R D) : Ga → Sto → R Fl := fun γ μ => (r γ μ).bind fun x μ => match setT γ t x with | some γ' => .ok (.nx γ') μ | none => .fail
theorem asg_imp {t : List Nat} {E : Ends} {σ : L2.St} {H : Hp} (w : TSn c fr (asgR t r) E σ H) : tAsg (TEn c true r) (TGn c t) E σ H := by
  obtain ⟨S, γ, μ, g, h⟩ := w
  unfold asgR at h
  rw [R.All_bind] at h
  refine ⟨S, γ, μ, g, h.mono (fun d μ1 h => ?_) fun _ _ _ w => w⟩
  intro S1 v H1 g1 s1 r1
  cases e : setT γ t d with
  | none => rw [e] at h; exact h.elim
  | some γ' => rw [e] at h; exact ⟨S1, γ, μ1, d, γ', g1, r1, e, fun σ' g' _ => h S1 σ' H1 g' (s1.kpT g.st.dm)⟩
theorem st_asg (hN : X.N.Nodup) {i : Nat} {y : Str} (h : Sto1 X i y) (he : PE X x (TEn c true r)) (hs : cellT X.env.scope y x = true) : PS X (.Assign [.Name y p1] x pos) (TSn c fr (asgR [i] r)) := by
  refine (ps_set hN h.ix h.loc he (noSwapC hs) h.fn).imp fun E σ H w => ?_
  obtain ⟨S, γ, μ, g, a⟩ := asg_imp w
  refine ⟨S, γ, μ, g, a.mono (fun d μ1 q => ?_) fun _ _ _ w => w⟩
  intro S1 v H1 g1 s1 r1
  obtain ⟨S2, γ2, μ2, d2, γ3, g2, r2, e2, q2⟩ := q S1 v H1 g1 s1 r1
  cases e2
  exact q2 _ (g2.set i r2) fr_set
theorem st_asgT {t : List Nat} {es : List Expr} {k : Nat} (hK : X.K = c.K) (hc : X.calm = true) (hN : X.N.Nodup) (h : nmsIs X t es) (h2 : 2 ≤ t.length) (he : PE X x (TEn c true r)) (hs : notComp x = true) (hs2 : notTupE x = true) : PS X (.Assign [.Tuple es k p1] x pos) (TSn c fr (asgR t r)) := by
  refine (ps_asg (pos := pos) he (sndG_tup hK hc hN h h2) (by unfold swapsWithSole; exact noSwap hs) (by cases x <;> first | rfl | cases hs2) rfl).imp fun E σ H w => asg_imp w
/-- two names at once -/
theorem sw_par {env : Env} {y z : Str} {py pz p1 p2 : Pos} {k1 k2 : _} {a b : Expr} (hk : env.scope.kind = .function) (hy : env.scope.names.lookup y = some .local) (hz : env.scope.names.lookup z = some .local) (hn : y ≠ z) (hl : (pz.line == py.line) = true)
    (ha : nst a = true) (hb : nst b = true) (h1 : [a, b].all (foldedForSure 8) = false) (h2 : [a, b].all (constantsAlone 8) = false) : swappedStores [.Tuple [.Name y py, .Name z pz] k1 p1] (.Tuple [a, b] k2 p2) env = pure (some [y, z]) := by
  have ky : env.kindOf y = some .local := hy
  have kz : env.kindOf z = some .local := hz
  have hbk : env.blockKind = .function := by unfold Env.blockKind; rw [hk]; rfl
  have hzy : (z == y) = false := by simpa using Ne.symm hn
  have hyz : (y == z) = false := by simpa using hn
  unfold swappedStores
  simp [hbk, ky, kz, Expr.pos, hl, List.eraseDups_cons, hzy, hyz, hn, Ne.symm hn]
  rw [if_neg]
  · have hl' := eq_of_beq hl
    have hf : ([a, b].all (foldedForSure 8)) = false := h1
    simp only [List.all_cons, List.all_nil, Bool.and_true] at h1 h2
    simp [List.filterMap_cons, kz, hl', hzy, hyz, hn, Ne.symm hn]
    have h1' : ¬ (foldedForSure 8 a = true ∧ foldedForSure 8 b = true) := fun z => by rw [z.1, z.2] at h1; cases h1
    have h2' : ¬ (constantsAlone 8 a = true ∧ constantsAlone 8 b = true) := fun z => by rw [z.1, z.2] at h2; cases h2
    have hz1 : [z].eraseDups.length = 1 := by simp [List.eraseDups_cons]
    rw [if_pos hz1, if_neg h1', if_neg h2']
  · rintro (h | h)
    · cases a <;> first | (cases h; done) | (exact absurd ha (by decide)) | (simp [nst] at ha)
    · cases b <;> first | (cases h; done) | (exact absurd hb (by decide)) | (simp [nst] at hb)
theorem st_par {rs : Ga → Sto → R (List D)} {a b : Expr} {i j : Nat} {y z : Str} {py pz p2 : Pos} {kt k2 : _} (hc : X.calm = true) (hN : X.N.Nodup) (hi : X.N[i]? = some y) (hj : X.N[j]? = some z) (hij : i ≠ j) (hy : X.env.scope.names.lookup y = some .local) (hz : X.env.scope.names.lookup z = some .local)
    (ha : PA X [a, b] (TAn c true rs)) (hw : swappedStores [.Tuple [.Name y py, .Name z pz] kt p1] (.Tuple [a, b] k2 p2) X.env = pure (some [y, z])) : PS X (.Assign [.Tuple [.Name y py, .Name z pz] kt p1] (.Tuple [a, b] k2 p2) pos) (TSn c fr fun γ μ => (rs γ μ).bind (parR i j γ)) := by
  refine (ps_par (pos := pos) hc hN hi hj hij hy hz ha hw).imp fun E σ H w => ?_
  obtain ⟨S, γ, μ, g, h⟩ := w
  rw [R.All_bind] at h
  refine ⟨S, γ, μ, g, h.mono (fun ds μ1 h => ?_) fun _ _ _ w => w⟩
  intro S1 vs H1 g1 s1 r1
  have r1 := r1.rels
  match ds, h, r1 with
  | [d, e], h, r1 =>
    obtain ⟨v, ws, rfl, rv, r1⟩ := r1
    obtain ⟨w, ws, rfl, rw', r1⟩ := r1
    have : ws = [] := r1
    subst this
    exact ⟨v, w, rfl, h S1 _ H1 ((g1.set i rv).set j rw') (s1.kpT g.st.dm)⟩
  | [], h, _ => exact h.elim
  | [_], h, _ => exact h.elim
  | _ :: _ :: _ :: _, h, _ => exact h.elim
/-- a new list, owned -/
def ownR (i : Nat) (r : Ga → Sto → R D) : Ga → Sto → R Fl := fun γ μ => (r γ μ).bind fun x μ => match x with | .lst xs => .ok (.nx (γ.set i (.own (.lst xs)))) μ | _ => .fail
theorem own_imp {i : Nat} {E : Ends} {σ : L2.St} {H : Hp} (w : TSn c fr (ownR i r) E σ H) : tAsg (TFn c r) (gName i) E σ H := by
  obtain ⟨S, γ, μ, g, h⟩ := w
  unfold ownR at h
  rw [R.All_bind] at h
  refine ⟨S, γ, μ, g, h.mono (fun d μ1 h => ?_) fun _ _ _ w => w⟩
  rintro S' p vs H' xs rfl g' s hp sp mp ep rr
  exact h S' _ H' (g.setOwn g' i hp sp mp ep rr) (s.kpT g.st.dm)
theorem asg1_imp {i : Nat} {E : Ends} {σ : L2.St} {H : Hp} (w : TSn c fr (asgR [i] r) E σ H) : tAsg (TFn c r) (gName i) E σ H := by
  obtain ⟨S, γ, μ, g, a⟩ := asg_imp w
  refine TFn_of ⟨S, γ, μ, g, a.mono (fun d μ1 q => ?_) fun _ _ _ w => w⟩
  intro S1 v H1 g1 s1 r1
  obtain ⟨S2, γ2, μ2, d2, γ3, g2, r2, e2, q2⟩ := q S1 v H1 g1 s1 r1
  cases e2
  exact q2 _ (g2.set i r2) fr_set
theorem asgS_imp {i : Nat} {E : Ends} {σ : L2.St} {H : Hp} (w : TSn c fr (asgR [i] fun γ μ => (r γ μ).bind stoR) E σ H) : tAsg (TFn c r) (gName i) E σ H := by
  obtain ⟨S, γ, μ, g, a⟩ := asg_imp w
  refine sto_of ⟨S, γ, μ, g, a.mono (fun d μ1 q => ?_) fun _ _ _ w => w⟩
  intro S1 v H1 g1 s1 r1
  obtain ⟨S2, γ2, μ2, d2, γ3, g2, r2, e2, q2⟩ := q S1 v H1 g1 s1 r1
  cases e2
  exact q2 _ (g2.set i r2) fr_set
theorem st_own (hN : X.N.Nodup) {i : Nat} {y : Str} (h : Sto1 X i y) (he : PE X x (TFn c r)) (hs : cellT X.env.scope y x = true) : PS X (.Assign [.Name y p1] x pos) (TSn c fr (ownR i r)) :=
  (ps_set hN h.ix h.loc he (noSwapC hs) h.fn).imp fun E σ H w => own_imp w
/-- x = {} -/
theorem st_ownd (hN : X.N.Nodup) {i : Nat} {y : Str} (h : Sto1 X i y) : PS X (.Assign [.Name y p1] (.Dict [] [] p2) pos) (TSn c fr fun γ μ => .ok (.nx (γ.set i (.own (.dic [])))) μ) := by
  refine (ps_set hN h.ix h.loc pe_dnewK (noSwapC rfl) h.fn).imp fun E σ H w => ?_
  obtain ⟨S, γ, μ, g, q⟩ := w
  intro p hp
  obtain ⟨g0, s0, mp, np⟩ := open_new g (HO.dK []) hp
  exact q _ _ _ (g.setOwnO g0 i hp (.inr rfl) mp ⟨[], upd_same, rfl⟩) (s0.kpT g.st.dm)
/-- x.append(e) -/
theorem st_app (hK : X.K = c.K) {i : Nat} {y : Str} {p2 p3 p4 : Pos} (hy : X.N[i]? = some y) (hv : Vis X.env.scope y) (hd : (y == ("__debug__" : Str)) = false) (hcd : (y == ("__classdict__" : Str)) = false) (he : PE X x (TEn c true r)) (hs : nst x = true) (hl : (p2.endLine == p3.line) = true) :
    PS X (.Expr (.Call (.Attribute (.Name y p1) "append" p2) [x] [] p3) p4) (TSn c fr fun γ μ => match γ[i]? with
      | some (.own (.lst xs)) => (r γ μ).bind fun x μ => if xs.length < 1000000 then .ok (.nx (γ.set i (.own (.lst (xs ++ [x]))))) μ else .fail
      | _ => .fail) := by
  have hfew : ((backTo p3 (starEach [x] X.env)).all (fun x => !x.1) && (backToKw p3 (keywordEach [] X.env)).all (fun x => x.1.isSome) && decide (([x] : List Expr).length + ([] : List Keyword).length + (if ([] : List Keyword).isEmpty then 0 else 1) < 30)) = true := by
    rw [star_cons hs]; rfl
  refine (ps_expr (pe_bm (T := "list") PySem.F.plainAttrs_list PySem.F.slot_list_append PySem.F.type_list_append mt_append (pe_var hy hv hd hcd) (pa_cons he pa_nil (star_cons hs)) rfl hfew hl (star_cons hs) rfl) rfl).imp fun E σ H w => ?_
  obtain ⟨S, γ, μ, g, h⟩ := w
  try dsimp only at h
  cases eγ : γ[i]? with
  | none => rw [eγ] at h; exact h.elim
  | some s =>
    rw [eγ] at h
    cases s with
    | un => exact h.elim
    | val d => exact h.elim
    | own o =>
      cases o with
      | dic _ => exact h.elim
      | ins _ _ => exact h.elim
      | lst xs =>
        obtain ⟨p, e1, sp, h0, mp, vs, ep, rs⟩ := g.sl i _ eγ
        refine ⟨.ref p, e1, .inl ⟨rfl, vs, .inl (.inl ep)⟩, ?_⟩
        have h : ((r γ μ).bind fun x μ => if xs.length < 1000000 then R.ok (.nx (γ.set i (.own (.lst (xs ++ [x]))))) μ else .fail).All (AftS c fr S H E) c.V := h
        rw [R.All_bind] at h
        refine ⟨S, γ, μ, g, h.mono (fun d μ1 h => ?_) fun _ _ _ w => w⟩
        intro S1 v H1 g1 s1 r1
        by_cases hlen : xs.length < 1000000
        · rw [if_pos hlen] at h
          have ep1 : H1 p = some (.lst vs) := s1.keep p _ ep mp
          have rs1 := rs.kp (s1.kp g.st.dm)
          obtain ⟨g2, k2⟩ := g1.change (xs ++ [d]) (vs ++ [v]) eγ e1 (rs1.append (Rels.one r1))
          exact ⟨p, vs, v, rfl, rfl, ep1, by rw [rs.length]; exact Nat.lt_of_lt_of_le hlen (big_line (Nat.le_refl _)), h S1 σ _ g2 ((s1.kpT g.st.dm).trans k2)⟩
        · rw [if_neg hlen] at h; exact h.elim
/-- x.pop() -/
theorem st_pop (hK : X.K = c.K) {i : Nat} {y : Str} {p2 p3 p4 : Pos} (hy : X.N[i]? = some y) (hv : Vis X.env.scope y) (hd : (y == ("__debug__" : Str)) = false) (hcd : (y == ("__classdict__" : Str)) = false) (hl : (p2.endLine == p3.line) = true) :
    PS X (.Expr (.Call (.Attribute (.Name y p1) "pop" p2) [] [] p3) p4) (TSn c fr fun γ μ => match γ[i]? with
      | some (.own (.lst xs)) => if xs.isEmpty then .fail else .ok (.nx (γ.set i (.own (.lst xs.dropLast)))) μ
      | _ => .fail) := by
  refine (ps_expr (pe_bm0 (T := "list") PySem.F.plainAttrs_list PySem.F.slot_list_pop PySem.F.type_list_pop mt_pop (pe_var hy hv hd hcd) rfl hl) rfl).imp fun E σ H w => ?_
  obtain ⟨S, γ, μ, g, h⟩ := w
  try dsimp only at h
  cases eγ : γ[i]? with
  | none => rw [eγ] at h; exact h.elim
  | some s =>
    rw [eγ] at h
    cases s with
    | un => exact h.elim
    | val d => exact h.elim
    | own o =>
      cases o with
      | dic _ => exact h.elim
      | ins _ _ => exact h.elim
      | lst xs =>
        obtain ⟨p, e1, sp, h0, mp, vs, ep, rs⟩ := g.sl i _ eγ
        refine ⟨.ref p, e1, .inl ⟨rfl, vs, .inl (.inl ep)⟩, ?_⟩
        have h : (if xs.isEmpty then R.fail else R.ok (.nx (γ.set i (.own (.lst xs.dropLast)))) μ).All (AftS c fr S H E) c.V := h
        by_cases hne : xs.isEmpty = true
        · rw [if_pos hne] at h; exact h.elim
        · rw [if_neg hne] at h
          have hl2 := rs.length
          have hlen : xs.length - 1 < xs.length := by
            cases xs with
            | nil => exact absurd rfl hne
            | cons _ _ => simp
          obtain ⟨v, ev, _⟩ := rs.get (List.getElem?_eq_getElem hlen)
          have hdl : xs.dropLast = xs.take (xs.length - 1) := List.dropLast_eq_take
          have hdv : vs.dropLast = vs.take (xs.length - 1) := by rw [List.dropLast_eq_take, hl2]
          obtain ⟨g2, k2⟩ := g.change xs.dropLast vs.dropLast eγ e1 (by rw [hdl, hdv]; exact rs.take _)
          exact ⟨p, vs, v, rfl, rfl, ep, by rw [hl2]; exact ev, h S σ _ g2 k2⟩
/-- o[i] = e -/
theorem st_lset {o i : Expr} {ro ri : Ga → Sto → R D} {so si : Bool} (hK : X.K = c.K) (he : PE X x (TEn c true r)) (ho : PE X o (TEn c so ro)) (hi : PE X i (TEn c si ri)) (hs : notComp x = true) (hix : pIx i = true) :
    PS X (.Assign [.Subscript o i p1] x pos) (TSn c fr fun γ μ => (r γ μ).bind fun x μ => (ro γ μ).bind fun o μ => (ri γ μ).bind fun j μ => match o, j with
      | .loc p, .int j => match μ p with
        | some (.lst xs) => match L2.ixN xs.length j with
          | some n => .ok (.nx γ) (μ.put p (.lst (xs.set n x)))
          | none => .fail
        | _ => .fail
      | _, _ => .fail) := by
  refine (ps_asg (pos := pos) he (pg_sub (PEweak ho) (PEweak hi) set_list (by intro v; cases i <;> first | rfl | cases hix)) (by unfold swapsWithSole; exact noSwap hs) rfl rfl).imp fun E σ H w => ?_
  obtain ⟨S, γ, μ, g, h⟩ := w
  rw [R.All_bind] at h
  refine ⟨S, γ, μ, g, h.mono (fun d μ1 h => ?_) fun _ _ _ w => w⟩
  intro S1 v H1 g1 s1 r1
  rw [R.All_bind] at h
  refine ⟨S1, γ, μ1, g1, h.mono (fun od μ2 h => ?_) fun _ _ _ w => w⟩
  intro S2 ov H2 g2 s2 r2
  rw [R.All_bind] at h
  refine ⟨S2, γ, μ2, g2, h.mono (fun jd μ3 h => ?_) fun _ _ _ w => w⟩
  intro S3 jv H3 g3 s3 r3
  have r1' : Rel c.K S3 H3 d v := Rel.kp (s3.kp g2.st.dm) d v (Rel.kp (s2.kp g1.st.dm) d v r1)
  cases od with
  | loc p =>
    cases jd with
    | int j =>
      have eo : ov = .ref p := r2
      have ej : jv = .int j := r3
      subst eo ej
      dsimp only at h
      cases eμ : μ3 p with
      | none => rw [eμ] at h; exact h.elim
      | some ob =>
        rw [eμ] at h
        cases ob with
        | lst xs =>
          obtain ⟨sp, vs, ep, rs⟩ := g3.st.st p _ eμ
          dsimp only at h
          cases en : L2.ixN xs.length j with
          | none => rw [en] at h; exact h.elim
          | some m =>
            rw [en] at h
            obtain ⟨g4, k4⟩ := g3.putSto (xs.set m d) (vs.set m v) eμ (rs.set m r1')
            exact ⟨p, vs, j, m, rfl, rfl, ep, by rw [rs.length]; exact en, h S3 σ _ g4 (((s1.trans (s2.trans s3)).kpT g.st.dm).trans k4)⟩
        | dic _ => exact h.elim
        | ins _ _ => exact h.elim
    | _ => exact h.elim
  | _ => exact h.elim
theorem st_expr (he : PE X x (TEn c st r)) (hs : notComp x = true) : PS X (.Expr x pos) (TSn c fr fun γ μ => (r γ μ).bind fun _ μ => .ok (.nx γ) μ) := by
  refine (ps_expr (PEweak he) (noSwap hs)).imp fun E σ H w => ?_
  obtain ⟨S, γ, μ, g, h⟩ := w
  rw [R.All_bind] at h
  refine ⟨S, γ, μ, g, h.mono (fun d μ1 h => ?_) fun _ _ _ w => w⟩
  exact fun S1 v H1 g1 s1 r1 => h S1 σ H1 g1 (s1.kpT g.st.dm)
theorem st_ret (he : PE X x (TEn c true r)) : PS X (.Return (some x) pos) (TSn c false fun γ μ => (r γ μ).bind fun x μ => .ok (.rt x) μ) := by
  refine (ps_ret he).imp fun E σ H w => ?_
  obtain ⟨S, γ, μ, g, h⟩ := w
  rw [R.All_bind] at h
  refine ⟨S, γ, μ, g, h.mono (fun d μ1 h => ?_) fun _ _ _ w => w⟩
  exact fun S1 v H1 g1 s1 r1 => h v H1 ⟨S1, γ, σ, g1, r1⟩
theorem st_retF (he : PE X x (TFn c r)) : PS X (.Return (some x) pos) (TSn c true fun γ μ => (r γ μ).bind fun x μ => .ok (.rt x) μ) := by
  refine (ps_ret he).imp fun E σ H w => ?_
  obtain ⟨S, γ, μ, g, h⟩ := w
  rw [R.All_bind] at h
  refine ⟨S, γ, μ, g, h.mono (fun d μ1 h => ?_) fun _ _ _ w => w⟩
  rintro S' p vs H' xs rfl g' s hp sp mp ep rr
  exact h _ H' ⟨S', γ, σ, g', xs, p, vs, rfl, rfl, sp, g.h0 hp, mp, ep, rr⟩
theorem st_retO {i : Nat} {y : Str} (hy : X.N[i]? = some y) (hv : Vis X.env.scope y) (hd : (y == ("__debug__" : Str)) = false) (hcd : (y == ("__classdict__" : Str)) = false) :
    PS X (.Return (some (.Name y p1)) pos) (TSn c true fun γ μ => (match γ[i]? with | some (.own (.lst xs)) => R.ok (.lst xs) μ | _ => .fail : R D).bind fun x μ => .ok (.rt x) μ) := by
  refine (ps_ret (pe_var hy hv hd hcd)).imp fun E σ H w => ?_
  obtain ⟨S, γ, μ, g, h⟩ := w
  try dsimp only at h
  cases eγ : γ[i]? with
  | none => rw [eγ] at h; exact h.elim
  | some s =>
    rw [eγ] at h
    cases s with
    | un => exact h.elim
    | val d => exact h.elim
    | own o =>
      cases o with
      | dic _ => exact h.elim
      | ins _ _ => exact h.elim
      | lst xs =>
        obtain ⟨p, e1, sp, h0, mp, vs, ep, rs⟩ := g.sl i _ eγ
        exact ⟨.ref p, e1, h _ H ⟨S, γ, σ, g, xs, p, vs, rfl, rfl, sp, h0, mp, ep, rs⟩⟩
theorem st_retn : PS X (.Return none pos) (TSn c false fun γ μ => .ok (.rt .non) μ) := ps_retN.imp fun E σ H w => by
  obtain ⟨S, γ, μ, g, h⟩ := w
  exact h .non H ⟨S, γ, σ, g, rfl⟩
theorem st_pass : PS X (.Pass pos) (TSn c fr fun γ μ => .ok (.nx γ) μ) := ps_pass.imp fun E σ H w => by
  obtain ⟨S, γ, μ, g, h⟩ := w
  exact h S σ H g KpT.refl
theorem st_brk : PS X (.Break pos) (TSn c fr fun γ μ => .ok (.bk γ) μ) := ps_break.imp fun E σ H w => by
  obtain ⟨S, γ, μ, g, h⟩ := w
  exact h S σ H g KpT.refl
theorem st_cont : PS X (.Continue pos) (TSn c fr fun γ μ => .ok (.ct γ) μ) := ps_continue.imp fun E σ H w => by
  obtain ⟨S, γ, μ, g, h⟩ := w
  exact h S σ H g KpT.refl
theorem st_ite {cd : Expr} {a b : List Stmt} {rc : Ga → Sto → R Bool} {ra rb : Ga → Sto → R Fl} (hc : PT X cd (TTn c rc)) (ha : PSs X a (TSn c fr ra)) (hb : PSs X b (TSn c fr rb)) : PS X (.If cd a b pos) (TSn c fr fun γ μ => (rc γ μ).bind fun t μ => if t then ra γ μ else rb γ μ) := by
  refine (ps_if hc ha hb).imp fun E σ H w => ?_
  obtain ⟨S, γ, μ, g, h⟩ := w
  rw [R.All_bind] at h
  refine ⟨S, γ, μ, g, h.mono (fun t μ1 h => ?_) fun _ _ _ w => w⟩
  intro S1 H1 g1 s1
  cases t with
  | true => rw [if_pos rfl] at h ⊢; exact ⟨S1, γ, μ1, g1, AftS.steps (s1.kpT g.st.dm) h⟩
  | false => rw [if_neg (by decide)] at h ⊢; exact ⟨S1, γ, μ1, g1, AftS.steps (s1.kpT g.st.dm) h⟩
theorem st_for {tg it : Expr} {b : List Stmt} {t kill : List Nat} {ri : Ga → Sto → R (List D)} {rb : Ga → Sto → R Fl} (hp : PassesOwn (model X.prog X.w) X.A X.env X.xe) (hc : X.calm = true) (hi : PI X tg it (TIn c true ri)) (hg : PG X tg (TGn c t)) (hb : PSs X b (TSn c fr rb)) (hs : noSet it = true) :
    PS X (.For tg it b [] pos) (TSn c fr fun γ μ => (ri γ μ).bind fun xs μ => forL (fun y γ μ => match setT γ t y with | some γ' => rb γ' μ | none => .fail) kill xs γ μ) := by
  refine (ps_for hp hc hi hg hb (folded hs _)).imp fun E σ H w => ?_
  obtain ⟨S, γ, μ, g, h⟩ := w
  rw [R.All_bind] at h
  refine ⟨S, γ, μ, g, h.mono (fun ds μ1 h => ?_) fun _ _ _ w => w⟩
  intro S1 J H1 g1 s1 wk
  have wk : WkS c J ds S1 H1 := wk
  have k1 := s1.kpT g.st.dm
  refine ⟨fun i m σ' H' => m = ds.length - i ∧ i ≤ ds.length ∧ ∃ S' γ' μ', Good c S' γ' μ' σ' H' ∧ KpT S1 S' H1 H' ∧ (forL (fun y γ μ => match setT γ t y with | some γ' => rb γ' μ | none => .fail) kill (ds.drop i) γ' μ').All (AftS c fr S H E) c.V,
    ⟨_, rfl, Nat.zero_le _, S1, γ, μ1, g1, KpT.refl, h⟩, ?_⟩
  rintro i m σ' H' ⟨rfl, hi, S', γ', μ', g', k', h⟩
  have gd := wk S' H' k'.kp g'.st.sd
  by_cases hlt : i < ds.length
  · refine .inr ⟨gd.1 i hlt, _, fun σ2 H2 p => ⟨ds.length - (i + 1), by omega, rfl, hlt, p⟩, fun x H2 y => ?_⟩
    obtain ⟨hy, d, e, rx⟩ := gd.2.2 i x H2 hlt y
    have ed : ds[i]'hlt = d := by rw [List.getElem?_eq_getElem hlt] at e; exact Option.some.inj e
    rw [List.drop_eq_getElem_cons hlt, ed] at h
    unfold forL at h
    rw [R.All_bind] at h
    obtain ⟨sy, oky⟩ := yld_step g'.st hy
    have k2 := k'.trans (sy.kpT g'.st.dm)
    cases et : setT γ' t d with
    | none => rw [et] at h; exact h.elim
    | some γ2 =>
      rw [et] at h
      refine ⟨S', γ', μ', d, γ2, g'.step sy oky, rx, et, fun σ2 g2 _ => ⟨S', γ2, μ', g2, h.mono (fun fl μ3 h => ?_) fun _ _ _ w => w⟩⟩
      cases fl with
      | nx γ3 => exact fun S4 σ4 H4 g4 k4 => ⟨S4, wipeG γ3 kill, μ3, g4.wipeG kill, k2.trans k4, h⟩
      | ct γ3 => exact fun S4 σ4 H4 g4 k4 => ⟨S4, wipeG γ3 kill, μ3, g4.wipeG kill, k2.trans k4, h⟩
      | bk γ3 => exact fun S4 σ4 H4 g4 k4 => h S4 σ4 H4 (g4.wipeG kill) ((k1.trans k2).trans k4)
      | rt d => exact h
  · have e : i = ds.length := by omega
    subst e
    rw [List.drop_length] at h
    exact .inl ⟨gd.2.1, h S' σ' H' g' (k1.trans k')⟩
theorem st_while {cd : Expr} {b : List Stmt} {kill : List Nat} {rc : Ga → Sto → R Bool} {rb : Ga → Sto → R Fl} {n : Nat} (hp : PassesOwn (model X.prog X.w) X.A X.env X.xe) (hc : PT X cd (TTn c rc)) (hb : PSs X b (TSn c fr rb)) :
    PS X (.While cd b [] pos) (TSn c fr fun γ μ => whileL rc rb kill n γ μ) := by
  refine (ps_while hp hc hb).imp fun E σ H w => ?_
  obtain ⟨S, γ, μ, g, h⟩ := w
  refine ⟨fun m σ' H' => ∃ S' γ' μ', Good c S' γ' μ' σ' H' ∧ KpT S S' H H' ∧ (whileL rc rb kill m γ' μ').All (AftS c fr S H E) c.V, ⟨n, S, γ, μ, g, KpT.refl, h⟩, ?_⟩
  rintro m σ' H' ⟨S', γ', μ', g', k', h⟩
  cases m with
  | zero => exact h.elim
  | succ m =>
    unfold whileL at h
    rw [R.All_bind] at h
    refine ⟨S', γ', μ', g', h.mono (fun t μ1 h => ?_) fun _ _ _ w => w⟩
    intro S1 H1 g1 s1
    have k1 := k'.trans (s1.kpT g'.st.dm)
    cases t with
    | false => rw [if_neg (by decide)] at h ⊢; exact h S1 σ' H1 g1 k1
    | true =>
      rw [if_pos rfl] at h ⊢
      rw [R.All_bind] at h
      refine ⟨_, fun σ2 H2 p => ⟨m, Nat.lt_succ_self m, p⟩, S1, γ', μ1, g1, h.mono (fun fl μ3 h => ?_) fun _ _ _ w => w⟩
      cases fl with
      | nx γ3 => exact fun S4 σ4 H4 g4 k4 => ⟨S4, wipeG γ3 kill, μ3, g4.wipeG kill, k1.trans k4, h⟩
      | ct γ3 => exact fun S4 σ4 H4 g4 k4 => ⟨S4, wipeG γ3 kill, μ3, g4.wipeG kill, k1.trans k4, h⟩
      | bk γ3 => exact fun S4 σ4 H4 g4 k4 => h S4 σ4 H4 (g4.wipeG kill) (k1.trans k4)
      | rt d => exact h
end
end Bs
/-! Bs: assignments that change: x o= e, x[i] = e, x[i] o= e, x += [..], o.append(e). -/
namespace Bs
open PySem L2
section
variable {X : Cx} {c : Ct}
theorem get_list : PGet X (rIxL X.K) := by
  intro pins s σ H x y v u Q I rx ry h
  obtain ⟨p, xs, i, z, rfl, rfl, hq, he, q⟩ := h
  cases rx
  obtain ⟨t, rfl⟩ := ry
  obtain ⟨its, r, pl, hz⟩ := I.list hq
  obtain ⟨j, h1, h2, h3, h4, h5⟩ := atI_get he
  obtain ⟨w, ew, rw'⟩ := r.get h2
  have hl := r.length
  have hn := line63
  have fin : EP X pins σ Q w s := ⟨z, H, I, rw', q⟩
  by_cases h0 : 0 ≤ i
  · have hj : i.toNat = j := by
      rw [seqIndex_of h0 h5] at h1
      exact Option.some.inj h1
    exact wpAny_getItem_list pl.isList h0 (by omega) (by rw [hj]; simpa using ew) fin
  · have hj : (i + (its.toArray.size : Int)).toNat = j := by
      rw [seqIndex_neg (by omega) h4] at h1
      rw [List.size_toArray, ← hl]
      exact Option.some.inj h1
    exact wpAny_getItem_list_neg pl.isList (by omega) (by rw [List.size_toArray] <;> omega) (by omega) (by rw [hj]; simpa using ew) fin
theorem ip_aug (o : Bop) : ∃ r, PIp X (bopOf o) r ∧ ∀ (K : PySem.W.Frag) (T S : Sa) (H : Hp) (d e z : D) (v w : V) (Q : VK), RelW K T S H d v → RelW K T S H e w → augB o d e = some z → (∀ u, (∀ S H, Rel K S H z u) → Q u H) → r v w H Q := by
  cases o with
  | add =>
    refine ⟨_, iop_add.or iop_add_str, fun K T S H d e z v w Q rd re hz q => ?_⟩
    cases d <;> cases e <;> simp only [augB, Option.ite_none_right_eq_some, Option.some.injEq, reduceCtorEq] at hz
    · subst hz
      exact .inl ⟨_, _, rw_int rd, rw_int re, q _ fun _ _ => rfl⟩
    · obtain ⟨hl, rfl⟩ := hz
      obtain ⟨rfl, l1, a1⟩ := rw_str rd
      obtain ⟨rfl, l2, a2⟩ := rw_str re
      refine .inr ⟨_, _, rfl, rfl, by rw [str_len, str_len]; exact big_line hl, ?_⟩
      rw [str_app]
      exact q _ fun _ _ => rel_str (by rw [List.length_append]; exact hl) fun c hc => (List.mem_append.mp hc).elim (a1 c) (a2 c)
  | sub =>
    refine ⟨_, iop_sub, fun K T S H d e z v w Q rd re hz q => ?_⟩
    cases d <;> cases e <;> simp only [augB, Option.some.injEq, reduceCtorEq] at hz
    subst hz
    exact ⟨_, _, rw_int rd, rw_int re, q _ fun _ _ => rfl⟩
  | mul => exact ⟨fun _ _ _ _ => False, fun _ _ _ _ _ _ _ _ _ _ _ _ z => z.elim, fun K T S H d e z v w Q rd re hz q => by cases d <;> cases e <;> cases hz⟩
  | fdiv => exact ⟨fun _ _ _ _ => False, fun _ _ _ _ _ _ _ _ _ _ _ _ z => z.elim, fun K T S H d e z v w Q rd re hz q => by cases d <;> cases e <;> cases hz⟩
  | mod => exact ⟨fun _ _ _ _ => False, fun _ _ _ _ _ _ _ _ _ _ _ _ z => z.elim, fun K T S H d e z v w Q rd re hz q => by cases d <;> cases e <;> cases hz⟩
  | pow => exact ⟨fun _ _ _ _ => False, fun _ _ _ _ _ _ _ _ _ _ _ _ z => z.elim, fun K T S H d e z v w Q rd re hz q => by cases d <;> cases e <;> cases hz⟩
end
section
variable {c : Ct} {fr : Bool} {X : Cx} {pos p1 p2 p3 p4 : Pos} {x : Expr} {e : Expr} {st : Bool} {r : Ga → Sto → R D}
/-- x o= e -/
theorem st_aug (hN : X.N.Nodup) (o : Bop) {i : Nat} {y : Str} (h : Sto1 X i y) (he : PE X x (TEn c st r)) :
    PS X (.AugAssign (.Name y p1) (bopOf o) x pos) (TSn c fr fun γ μ => match γ[i]? with
      | some (.val x) => (r γ μ).bind fun y μ => match augB o x y with
        | some z => .ok (.nx (γ.set i (.val z))) μ
        | none => .fail
      | _ => .fail) := by
  obtain ⟨ri, h1, h2⟩ := ip_aug (X := X) o
  refine (ps_aug hN h.ix h.loc (PEweak he) h1 h.fn).imp fun E σ H w => ?_
  obtain ⟨S, γ, μ, g, h⟩ := w
  try dsimp only at h
  cases eγ : γ[i]? with
  | none => rw [eγ] at h; exact h.elim
  | some s =>
    rw [eγ] at h
    cases s with
    | un => exact h.elim
    | own o => exact h.elim
    | val d =>
      obtain ⟨v, e1, rv⟩ := g.sl i _ eγ
      refine ⟨v, e1, ?_⟩
      have h : ((r γ μ).bind fun y μ => match augB o d y with | some z => R.ok (.nx (γ.set i (.val z))) μ | none => .fail).All (AftS c fr S H E) c.V := h
      rw [R.All_bind] at h
      refine ⟨S, γ, μ, g, h.mono (fun e μ1 h => ?_) fun _ _ _ w => w⟩
      intro S1 w H1 g1 s1 r1
      cases ez : augB o d e with
      | none => rw [ez] at h; exact h.elim
      | some z =>
        rw [ez] at h
        exact h2 c.K (Dm μ1) S1 H1 d e z v w _ (Rel.weak (Rel.kp (s1.kp g.st.dm) _ _ rv) g1.st.dm) r1 ez fun u ru => h S1 _ H1 (g1.set i (ru S1 H1)) (s1.kpT g.st.dm)
/-- o.append(e), o in the store -/
theorem st_lapp {o : Expr} {ro : Ga → Sto → R D} {so : Bool} (ho : PE X o (TEn c so ro)) (he : PE X x (TEn c true r)) (hs : nst x = true) (hn : noCall o = true) (hl : (p2.endLine == p3.line) = true) :
    PS X (.Expr (.Call (.Attribute o "append" p2) [x] [] p3) p4) (TSn c fr fun γ μ => (ro γ μ).bind fun o μ => if isL μ o then (r γ μ).bind fun x μ => match o with
      | .loc p => match μ p with
        | some (.lst xs) => if xs.length < 1000000 then .ok (.nx γ) (μ.put p (.lst (xs ++ [x]))) else .fail
        | _ => .fail
      | _ => .fail
      else .fail) := by
  refine (ps_expr (pe_bm (T := "list") PySem.F.plainAttrs_list PySem.F.slot_list_append PySem.F.type_list_append mt_append (PEweak ho) (pa_cons he pa_nil (star_cons hs)) (abase hn) (few_of hs) hl (star_cons hs) rfl) rfl).imp fun E σ H w => ?_
  obtain ⟨S, γ, μ, g, h⟩ := w
  rw [R.All_bind] at h
  refine ⟨S, γ, μ, g, h.mono (fun d μ1 h => ?_) fun _ _ _ w => w⟩
  intro S1 v H1 g1 s1 r1
  by_cases hL : isL μ1 d = true
  · rw [if_pos hL] at h
    obtain ⟨p, xs, vs, rfl, rfl, eμ, ep, rs⟩ := isL_ty g1 r1 hL
    refine ⟨.inl ⟨rfl, vs, .inl (.inl ep)⟩, ?_⟩
    rw [R.All_bind] at h
    refine ⟨S1, γ, μ1, g1, h.mono (fun e μ2 h => ?_) fun _ _ _ w => w⟩
    intro S2 w H2 g2 s2 r2
    try dsimp only at h
    cases eμ2 : μ2 p with
    | none => rw [eμ2] at h; exact h.elim
    | some ob =>
      rw [eμ2] at h
      cases ob with
      | dic _ => exact h.elim
      | ins _ _ => exact h.elim
      | lst ys =>
        try dsimp only at h
        obtain ⟨sp, ws, ep2, rs2⟩ := g2.st.st p _ eμ2
        by_cases hlen : ys.length < 1000000
        · rw [if_pos hlen] at h
          obtain ⟨g3, k3⟩ := g2.putSto (ys ++ [e]) (ws ++ [w]) eμ2 (rs2.append (Rels.one r2))
          exact ⟨p, ws, w, rfl, rfl, ep2, by rw [rs2.length]; exact Nat.lt_of_lt_of_le hlen (big_line (Nat.le_refl _)), h S2 σ _ g3 (((s1.trans s2).kpT g.st.dm).trans k3)⟩
        · rw [if_neg hlen] at h; exact h.elim
  · rw [if_neg hL] at h; exact h.elim
variable {i : Nat} {y : Str} {j : Expr} {rj : Ga → Sto → R D} {sj : Bool}
theorem own_of {S : Sa} {γ : Ga} {μ : Sto} {σ : L2.St} {H : Hp} {f : List D → R Fl} {Qd : Fl → Sto → Prop} {W : Xc → Ga → Sto → Prop} (g : Good c S γ μ σ H) (h : (match γ[i]? with | some (.own (.lst xs)) => f xs | _ => .fail).All Qd W) :
    ∃ xs p vs, γ[i]? = some (.own (.lst xs)) ∧ σ[i]? = some (some (V.ref p)) ∧ μ p = none ∧ H p = some (.lst vs) ∧ Rels c.K S H xs vs ∧ (f xs).All Qd W := by
  cases eγ : γ[i]? with
  | none => rw [eγ] at h; exact h.elim
  | some s =>
    rw [eγ] at h
    cases s with
    | un => exact h.elim
    | val d => exact h.elim
    | own o =>
      cases o with
      | dic _ => exact h.elim
      | ins _ _ => exact h.elim
      | lst xs =>
        obtain ⟨p, e1, sp, h0, mp, vs, ep, rs⟩ := g.sl i _ eγ
        exact ⟨xs, p, vs, rfl, e1, mp, ep, rs, h⟩
/-- x[j] = e, x owned -/
theorem st_oset (hy : X.N[i]? = some y) (hv : Vis X.env.scope y) (hd : (y == ("__debug__" : Str)) = false) (hcd : (y == ("__classdict__" : Str)) = false) (he : PE X x (TEn c true r)) (hj : PE X j (TEn c sj rj)) (hs : notComp x = true) (hix : pIx j = true) :
    PS X (.Assign [.Subscript (.Name y p2) j p1] x pos) (TSn c fr fun γ μ => match γ[i]? with
      | some (.own (.lst xs)) => (r γ μ).bind fun x μ => (rj γ μ).bind fun y μ => osetR γ i xs x y μ
      | _ => .fail) := by
  refine (ps_asg (pos := pos) he (pg_sub (pe_var hy hv hd hcd) (PEweak hj) set_list (by intro v; cases j <;> first | rfl | cases hix)) (by unfold swapsWithSole; exact noSwap hs) rfl rfl).imp fun E σ H w => ?_
  obtain ⟨S, γ, μ, g, h⟩ := w
  obtain ⟨xs, p, vs, eγ, e1, mp, ep, rs, h⟩ := own_of g h
  rw [R.All_bind] at h
  refine ⟨S, γ, μ, g, h.mono (fun d μ1 h => ?_) fun _ _ _ w => w⟩
  intro S1 v H1 g1 s1 r1
  refine ⟨.ref p, e1, ?_⟩
  rw [R.All_bind] at h
  refine ⟨S1, γ, μ1, g1, h.mono (fun jd μ2 h => ?_) fun _ _ _ w => w⟩
  intro S2 jv H2 g2 s2 r2
  cases jd with
  | int k =>
    unfold osetR at h
    dsimp only at h
    cases en : L2.ixN xs.length k with
    | none => rw [en] at h; exact h.elim
    | some m =>
      rw [en] at h
      have s12 := s1.trans s2
      have rs2 := rs.kp (s12.kp g.st.dm)
      have ep2 : H2 p = some (.lst vs) := s12.keep p _ ep mp
      obtain ⟨g3, k3⟩ := g2.change (xs.set m d) (vs.set m v) eγ e1 (rs2.set m (Rel.kp (s2.kp g1.st.dm) _ _ r1))
      exact ⟨p, vs, k, m, rfl, r2, ep2, by rw [rs.length]; exact en, h S2 σ _ g3 ((s12.kpT g.st.dm).trans k3)⟩
  | _ => exact h.elim
theorem keyD_strong {K : PySem.W.Frag} {T S : Sa} {H : Hp} {d : D} {v : V} {k : Key} (h : keyD d = some k) (r : RelW K T S H d v) : v = kV k ∧ okK d := by
  cases d with
  | int i => cases h; exact ⟨r, trivial⟩
  | str t => cases h; exact ⟨r.1, r.2⟩
  | _ => cases h
theorem relP_app {K : PySem.W.Frag} {S : Sa} {H : Hp} : ∀ {ps qs : List (D × D)} {vs ws : List (Key × V)}, RelP K S H ps vs → RelP K S H qs ws → RelP K S H (ps ++ qs) (vs ++ ws)
  | [], _, _, _, h, h2 => by rw [show _ = [] from h]; exact h2
  | q :: r, qs, vs, ws, h, h2 => by
    obtain ⟨k, v, us, rfl, a, b⟩ := h
    exact ⟨k, v, us ++ ws, rfl, a, relP_app b h2⟩
theorem relP_any {K : PySem.W.Frag} {S : Sa} {H : Hp} {y : D} {k : Key} (hk : keyD y = some k) : ∀ {ps : List (D × D)} {vs : List (Key × V)}, RelP K S H ps vs → (ps.any fun q => decide (keyD q.1 = keyD y)) = (vs.any fun kv => decide (kv.1 = k))
  | [], _, h => by rw [show _ = [] from h]; rfl
  | (d, e) :: r, vs, h => by
    obtain ⟨k', v, us, rfl, ⟨a, _, _⟩, b⟩ := h
    rw [List.any_cons, List.any_cons, relP_any hk b]
    congr 1
    show decide (keyD d = keyD y) = decide (k' = k)
    rw [a, hk]
    by_cases z : k' = k
    · subst z; simp
    · have : ¬ (some k' = some k) := fun w => z (Option.some.inj w)
      rw [decide_eq_false z, decide_eq_false this]
theorem relP_map {K : PySem.W.Frag} {S : Sa} {H : Hp} {x y : D} {w : V} {k : Key} (hk : keyD y = some k) (r : Rel K S H x w) : ∀ {ps : List (D × D)} {vs : List (Key × V)}, RelP K S H ps vs → RelP K S H (ps.map fun q => if keyD q.1 = keyD y then (q.1, x) else q) (vs.map fun kv => if kv.1 = k then (kv.1, w) else kv)
  | [], _, h => by rw [show _ = [] from h]; rfl
  | (d, e) :: ps, vs, h => by
    obtain ⟨k', v, us, rfl, ⟨a, o, b⟩, z⟩ := h
    have ih := relP_map hk r z
    rw [List.map_cons, List.map_cons]
    by_cases e1 : k' = k
    · subst e1
      have : keyD (d, e).1 = keyD y := by rw [hk]; exact a
      rw [if_pos this, if_pos rfl]
      exact ⟨k', w, _, rfl, ⟨a, o, r⟩, ih⟩
    · have : ¬ keyD (d, e).1 = keyD y := fun z => by
        rw [hk] at z
        have z2 : keyD d = some k := z
        rw [a] at z2
        exact e1 (Option.some.inj z2)
      rw [if_neg this, if_neg e1]
      exact ⟨k', v, _, rfl, ⟨a, o, b⟩, ih⟩
theorem put_rel {K : PySem.W.Frag} {S : Sa} {H : Hp} {x y : D} {w : V} {k : Key} {ps : List (D × D)} {vs : List (Key × V)} (hk : keyD y = some k) (ho : okK y) (r : Rel K S H x w) (h : RelP K S H ps vs) : RelP K S H (putD ps y x) (putK vs k w) := by
  unfold putD putK
  rw [relP_any hk h]
  cases (vs.any fun kv => decide (kv.1 = k)) with
  | true => rw [if_pos rfl, if_pos rfl]; exact relP_map hk r h
  | false => rw [if_neg (by simp), if_neg (by simp)]; exact relP_app h ⟨k, w, [], rfl, ⟨hk, ho, r⟩, rfl⟩
/-- x[j] = e, x an owned dict -/
theorem st_dset (hu : X.A.units + 1 < cLine) (hy : X.N[i]? = some y) (hv : Vis X.env.scope y) (hd : (y == ("__debug__" : Str)) = false) (hcd : (y == ("__classdict__" : Str)) = false) (he : PE X x (TEn c true r)) (hj : PE X j (TEn c sj rj)) (hs : notComp x = true) :
    PS X (.Assign [.Subscript (.Name y p2) j p1] x pos) (TSn c fr fun γ μ => match γ[i]? with
      | some (.own (.dic kvs)) => (r γ μ).bind fun x μ => (rj γ μ).bind fun y μ => match keyD y with
        | some _ => if kvs.length < 1000000 then .ok (.nx (γ.set i (.own (.dic (putD kvs y x))))) μ else .fail
        | none => .fail
      | _ => .fail) := by
  refine (ps_dput (pos := pos) hu (pe_var hy hv hd hcd) (PEweak hj) he (noSwap hs)).imp fun E σ H w => ?_
  obtain ⟨S, γ, μ, g, h⟩ := w
  dsimp only at h
  cases eγ : γ[i]? with
  | none => rw [eγ] at h; exact h.elim
  | some s =>
    rw [eγ] at h
    cases s with
    | un => exact h.elim
    | val d => exact h.elim
    | own o =>
      cases o with
      | lst _ => exact h.elim
      | ins _ _ => exact h.elim
      | dic kvs =>
        obtain ⟨p, e1, sp, h0, mp, ps, ep, rs⟩ := g.sl i _ eγ
        have h : ((r γ μ).bind fun x μ => (rj γ μ).bind fun y μ => match keyD y with
          | some _ => if kvs.length < 1000000 then R.ok (.nx (γ.set i (.own (.dic (putD kvs y x))))) μ else .fail
          | none => .fail).All (AftS c fr S H E) c.V := h
        rw [R.All_bind] at h
        refine ⟨S, γ, μ, g, h.mono (fun d μ1 h => ?_) fun _ _ _ w => w⟩
        intro S1 v H1 g1 s1 r1
        refine ⟨.ref p, e1, ?_⟩
        rw [R.All_bind] at h
        refine ⟨S1, γ, μ1, g1, h.mono (fun jd μ2 h => ?_) fun _ _ _ w => w⟩
        intro S2 jv H2 g2 s2 r2
        cases hk : keyD jd with
        | none => rw [hk] at h; exact h.elim
        | some k =>
          rw [hk] at h
          dsimp only at h
          by_cases hl : kvs.length < 1000000
          · rw [if_pos hl] at h
            have s12 := s1.trans s2
            have rs2 := RelP.kp (s12.kp g.st.dm) _ _ rs
            have ep2 : H2 p = some (.dK ps) := s12.keep p _ ep mp
            obtain ⟨rfl, ho⟩ := keyD_strong hk r2
            have hput := put_rel hk ho (Rel.kp (s2.kp g1.st.dm) _ _ r1) rs2
            have sp2 : S2 p := s12.sup p sp
            have kk : KpT S2 S2 H2 (upd H2 p (.dK (putK ps k v))) := KpT.refl.poke (.inl sp2)
            obtain ⟨g3, k3⟩ := g2.changeO (.dic (putD kvs jd d)) (.dK (putK ps k v)) eγ e1 ⟨_, upd_same, RelP.kp kk.kp _ _ hput⟩
            exact ⟨p, _, rfl, DPut.k ep2 (by rw [relP_len rs]; exact Nat.lt_of_lt_of_le hl (big_line (Nat.le_refl _))), h S2 σ _ g3 ((s12.kpT g.st.dm).trans k3)⟩
          · rw [if_neg hl] at h; exact h.elim
/-- x[j] o= e, x owned -/
theorem st_oagi (hK : X.K = c.K) (o : Bop) (hy : X.N[i]? = some y) (hv : Vis X.env.scope y) (hd : (y == ("__debug__" : Str)) = false) (hcd : (y == ("__classdict__" : Str)) = false) (hj : PE X j (TEn c sj rj)) (he : PE X x (TEn c st r)) (hix : pIx j = true) :
    PS X (.AugAssign (.Subscript (.Name y p2) j p1) (bopOf o) x pos) (TSn c fr fun γ μ => match γ[i]? with
      | some (.own (.lst xs)) => (rj γ μ).bind fun y μ => match ixD xs y with
        | some (n, w) => (r γ μ).bind fun x μ => match augB o w x with
          | some z => .ok (.nx (γ.set i (.own (.lst (xs.set n z))))) μ
          | none => .fail
        | none => .fail
      | _ => .fail) := by
  obtain ⟨ri, hi1, hi2⟩ := ip_aug (X := X) o
  refine (ps_augS (pe_var hy hv hd hcd) (PEweak hj) get_list (PEweak he) hi1 set_list (by intro ov iv new; cases j <;> first | rfl | cases hix)).imp fun E σ H w => ?_
  obtain ⟨S, γ, μ, g, h⟩ := w
  obtain ⟨xs, p, vs, eγ, e1, mp, ep, rs, h⟩ := own_of g h
  refine ⟨.ref p, e1, ?_⟩
  rw [R.All_bind] at h
  refine ⟨S, γ, μ, g, h.mono (fun jd μ1 h => ?_) fun _ _ _ w => w⟩
  intro S1 jv H1 g1 s1 r1
  cases jd with
  | int k =>
    cases en : L2.ixN xs.length k with
    | none => simp only [ixD, en] at h; exact h.elim
    | some m =>
      cases ew : xs[m]? with
      | none => simp only [ixD, en, ew] at h; exact h.elim
      | some w0 =>
        simp only [ixD, en, ew] at h
        have rs1 := rs.kp (s1.kp g.st.dm)
        have ep1 : H1 p = some (.lst vs) := s1.keep p _ ep mp
        obtain ⟨u0, eu0, ru0⟩ := rs1.get ew
        have en' : ixN vs.length k = some m := by rw [rs.length]; exact en
        refine ⟨p, vs, k, u0, rfl, r1, .inl (.inl ep1), by unfold atI; rw [en']; exact eu0, ?_⟩
        rw [R.All_bind] at h
        refine ⟨S1, γ, μ1, g1, h.mono (fun xd μ2 h => ?_) fun _ _ _ w => w⟩
        intro S2 xv H2 g2 s2 r2
        cases ez : augB o w0 xd with
        | none => rw [ez] at h; exact h.elim
        | some z =>
          rw [ez] at h
          have mp1 : μ1 p = none := by
            cases q : μ1 p with
            | none => rfl
            | some ob =>
              rcases s1.dsub p (by rw [q]; exact fun z => nomatch z) with zz | zz
              · exact absurd mp zz
              · rw [zz] at ep; cases ep
          have ep2 : H2 p = some (.lst vs) := s2.keep p _ ep1 mp1
          have rs2 := rs1.kp (s2.kp g1.st.dm)
          refine hi2 c.K (Dm μ2) S2 H2 w0 xd z u0 xv _ (Rel.weak (Rel.kp (s2.kp g1.st.dm) _ _ ru0) g2.st.dm) r2 ez fun u ru => ?_
          obtain ⟨g3, k3⟩ := g2.change (xs.set m z) (vs.set m u) eγ e1 (rs2.set m (ru S2 H2))
          exact ⟨p, vs, k, m, rfl, r1, ep2, en', h S2 σ _ g3 (((s1.trans s2).kpT g.st.dm).trans k3)⟩
  | _ => exact h.elim
/-- x += [..], x owned -/
theorem st_oext (hN : X.N.Nodup) (h : Sto1 X i y) (he : PE X x (TFn c r)) :
    PS X (.AugAssign (.Name y p1) .Add x pos) (TSn c fr fun γ μ => match γ[i]? with
      | some (.own (.lst xs)) => (r γ μ).bind fun x μ => match x with
        | .lst ys => if xs.length + ys.length ≤ 1000000 then .ok (.nx (γ.set i (.own (.lst (xs ++ ys))))) μ else .fail
        | _ => .fail
      | _ => .fail) := by
  refine (ps_aug hN h.ix h.loc he iop_ext h.fn).imp fun E σ H w => ?_
  obtain ⟨S, γ, μ, g, h⟩ := w
  obtain ⟨xs, p, vs, eγ, e1, mp, ep, rs, h⟩ := own_of g h
  refine ⟨.ref p, e1, ?_⟩
  rw [R.All_bind] at h
  refine ⟨S, γ, μ, g, h.mono (fun d μ1 h => ?_) fun _ _ _ w => w⟩
  rintro S1 q ws H1 ys rfl g1 s1 hq sq mq eq rw1
  have h : (if xs.length + ys.length ≤ 1000000 then R.ok (.nx (γ.set i (.own (.lst (xs ++ ys))))) μ1 else .fail).All (AftS c fr S H E) c.V := h
  by_cases hl : xs.length + ys.length ≤ 1000000
  · rw [if_pos hl] at h
    have ep1 : H1 p = some (.lst vs) := s1.keep p _ ep mp
    obtain ⟨g3, k3⟩ := g1.change (xs ++ ys) (vs ++ ws) eγ e1 ((rs.kp (s1.kp g.st.dm)).append rw1)
    refine ⟨p, q, vs, ws, rfl, rfl, ep1, eq, by rw [rs.length, rw1.length]; exact big_line hl, ?_⟩
    have hl' : i < σ.length := (List.getElem?_eq_some_iff.mp e1).1
    have es : σ.set i (some (V.ref p)) = σ := by
      apply List.ext_getElem?
      intro n
      by_cases hn : i = n
      · subst hn; rw [List.getElem?_set_self hl', e1]
      · rw [List.getElem?_set_ne hn]
    show E.nx (List.set σ i (some (V.ref p))) _
    rw [es]
    exact h S1 σ _ g3 ((s1.kpT g.st.dm).trans k3)
  · rw [if_neg hl] at h; exact h.elim
end
end Bs
/-! Bs: objects of the store: a field is set. -/
namespace Bs
open PySem L2
section
variable {c : Ct} {S S' : Sa} {γ : Ga} {μ μ' : Sto} {σ : L2.St} {H H' : Hp} {Q : VK}
/-- o.f = e -/
theorem st_fset {X : Cx} {fr : Bool} {ro r : Ga → Sto → R D} {so : Bool} {o x : Expr} {cl f : Nat} {pos pos' : Pos} (hK : X.K = c.K) (ho : PE X o (TEn c so ro)) (he : PE X x (TEn c true r)) (hs : notComp x = true) (hf : f < 130) (hna : NoAttr c.K (He.ga c.K (nm cl)) (nm f)) :
    PS X (.Assign [.Attribute o (nm f) pos'] x pos) (TSn c fr fun γ μ => (r γ μ).bind fun y μ => (ro γ μ).bind fun x μ => fsetR cl f y x γ μ) := by
  refine (ps_fld (PEweak ho) he (noSwap hs)).imp fun E σ H w => ?_
  obtain ⟨S, γ, μ, g, h⟩ := w
  rw [R.All_bind] at h
  refine ⟨S, γ, μ, g, h.mono (fun d μ1 h => ?_) fun _ _ _ w => w⟩
  intro S1 v H1 g1 s1 r1
  rw [R.All_bind] at h
  refine ⟨S1, γ, μ1, g1, h.mono (fun e μ2 h => ?_) fun _ _ _ w => w⟩
  intro S2 w H2 g2 s2 r2
  have r1' := Rel.kp (s2.kp g1.st.dm) _ _ r1
  cases e with
  | loc p =>
    have r2 : w = .ref p := r2
    subst r2
    unfold fsetR at h
    try dsimp only at h
    cases em : μ2 p with
    | none => rw [em] at h; exact h.elim
    | some ob =>
      rw [em] at h
      cases ob with
      | lst _ => exact h.elim
      | dic _ => exact h.elim
      | ins c' fs =>
        try dsimp only at h
        by_cases hc : c' = cl ∧ fs.length < 900
        · rw [if_pos hc] at h
          obtain ⟨hc, hl⟩ := hc
          subst hc
          obtain ⟨sp, dx, vs, e1, r, hcl, hn⟩ := g2.st.st p _ em
          have sk : KpT S2 S2 H2 (upd H2 p (.ins (He.ga c.K (nm c')) dx (putF (nm f) v vs))) := KpT.refl.poke (.inl sp)
          have rr : RelF c.K S2 (upd H2 p (.ins (He.ga c.K (nm c')) dx (putF (nm f) v vs))) (putFD f d fs) (putF (nm f) v vs) := RelF.kp sk.kp (RelF.put hf r1' r fun q hq => (hn q hq).1)
          have ob : ObR c.K S2 (upd H2 p (.ins (He.ga c.K (nm c')) dx (putF (nm f) v vs))) p (.ins c' (putFD f d fs)) := by
            refine ⟨dx, _, upd_same, rr, hcl, fun q hq => ?_⟩
            rcases putFD_mem hq with z | ⟨q', h1, h2⟩
            · rw [z]; exact ⟨hf, hna⟩
            · rw [← h2]; exact hn q' h1
          obtain ⟨g3, k3⟩ := g2.putOb em ob
          refine ⟨p, _, dx, vs, rfl, e1, by rw [hK]; exact hcl, by rw [hK]; exact hna, by rw [r.length]; omega, ?_⟩
          exact h S2 σ _ g3 (((s1.trans s2).kpT g.st.dm).trans k3)
        · rw [if_neg hc] at h; exact h.elim
  | _ => exact h.elim
/-- o.f op= e -/
theorem st_faug {X : Cx} {fr : Bool} {ro r : Ga → Sto → R D} {so st : Bool} {o x : Expr} {cl f : Nat} {op : Bop} {pos pos' : Pos} (hK : X.K = c.K) (ho : PE X o (TEn c so ro)) (he : PE X x (TEn c st r)) (hf : f < 130) (hna : NoAttr c.K (He.ga c.K (nm cl)) (nm f)) :
    PS X (.AugAssign (.Attribute o (nm f) pos') (bopOf op) x pos) (TSn c fr fun γ μ => (ro γ μ).bind fun x μ => if isOb cl μ x then (attR f x μ).bind fun v μ => (r γ μ).bind fun y μ => (ofO (augB op v y) μ).bind fun z μ => fsetR cl f z x γ μ else .fail) := by
  obtain ⟨ri, h1, h2⟩ := ip_aug (X := X) op
  refine (ps_fldaug (PEweak ho) (PEweak he) h1).imp fun E σ H w => ?_
  obtain ⟨S, γ, μ, g, h⟩ := w
  rw [R.All_bind] at h
  refine ⟨S, γ, μ, g, h.mono (fun d μ1 h => ?_) fun _ _ _ w => w⟩
  intro S1 v H1 g1 s1 r1
  by_cases hO : isOb cl μ1 d = true
  case neg => rw [if_neg hO] at h; exact h.elim
  rw [if_pos hO] at h
  cases d with
  | loc p =>
    have r1 : v = .ref p := r1
    subst r1
    unfold attR at h
    unfold isOb at hO
    try dsimp only at h hO
    cases em : μ1 p with
    | none => rw [em] at hO; cases hO
    | some ob =>
      rw [em] at h hO
      cases ob with
      | lst _ => cases hO
      | dic _ => cases hO
      | ins c' fs =>
        try dsimp only at h
        have hcc : c' = cl := of_decide_eq_true hO
        subst hcc
        obtain ⟨sp, dx, vs, e1, rf, hcl, hn⟩ := g1.st.st p _ em
        cases el : fs.lookup f with
        | none => rw [el] at h; exact h.elim
        | some dv =>
          rw [el] at h
          obtain ⟨w0, ew, rw0⟩ := rf.get (fun q hq => (hn q hq).1) el
          refine ⟨p, _, dx, vs, w0, rfl, e1, by rw [hK]; exact hcl, by rw [hK]; exact (hn _ (lookup_mem el)).2, ew, ?_⟩
          have h : ((r γ μ1).bind fun y μ => (ofO (augB op dv y) μ).bind fun z μ => fsetR c' f z (.loc p) γ μ).All (AftS c fr S H E) c.V := h
          rw [R.All_bind] at h
          refine ⟨S1, γ, μ1, g1, h.mono (fun e μ2 h => ?_) fun _ _ _ w => w⟩
          intro S2 w H2 g2 s2 r2
          cases ez : augB op dv e with
          | none => rw [ez] at h; exact h.elim
          | some z =>
            rw [ez] at h
            refine h2 c.K (Dm μ2) S2 H2 dv e z w0 w _ (Rel.weak (Rel.kp (s2.kp g1.st.dm) _ _ rw0) g2.st.dm) r2 ez fun u ru => ?_
            have h : (fsetR c' f z (.loc p) γ μ2).All (AftS c fr S H E) c.V := h
            unfold fsetR at h
            try dsimp only at h
            cases em2 : μ2 p with
            | none => rw [em2] at h; exact h.elim
            | some ob2 =>
              rw [em2] at h
              cases ob2 with
              | lst _ => exact h.elim
              | dic _ => exact h.elim
              | ins c2 fs2 =>
                try dsimp only at h
                by_cases hc : c2 = c' ∧ fs2.length < 900
                · rw [if_pos hc] at h
                  obtain ⟨hc, hl⟩ := hc
                  subst hc
                  obtain ⟨sp2, dx2, vs2, e2, rf2, hcl2, hn2⟩ := g2.st.st p _ em2
                  have sk : KpT S2 S2 H2 (upd H2 p (.ins (He.ga c.K (nm c2)) dx2 (putF (nm f) u vs2))) := KpT.refl.poke (.inl sp2)
                  have rr : RelF c.K S2 (upd H2 p (.ins (He.ga c.K (nm c2)) dx2 (putF (nm f) u vs2))) (putFD f z fs2) (putF (nm f) u vs2) := RelF.kp sk.kp (RelF.put hf (ru S2 H2) rf2 fun q hq => (hn2 q hq).1)
                  have ob : ObR c.K S2 (upd H2 p (.ins (He.ga c.K (nm c2)) dx2 (putF (nm f) u vs2))) p (.ins c2 (putFD f z fs2)) := by
                    refine ⟨dx2, _, upd_same, rr, hcl2, fun q hq => ?_⟩
                    rcases putFD_mem hq with z | ⟨q', h1, h2⟩
                    · rw [z]; exact ⟨hf, hna⟩
                    · rw [← h2]; exact hn2 q' h1
                  obtain ⟨g3, k3⟩ := g2.putOb em2 ob
                  refine ⟨dx2, vs2, e2, by rw [rf2.length]; omega, ?_⟩
                  exact h S2 σ _ g3 (((s1.trans s2).kpT g.st.dm).trans k3)
                · rw [if_neg hc] at h; exact h.elim
  | _ => cases hO
end
end Bs
/-! Bs: errors: their making, raising, catching. -/
namespace Bs
open PySem L2 PySem.Spec PyProof.Rows
abbrev exT : List Value := [.type "Exception", .type "BaseException", .type "object"]
/-- what is asked of a class of errors -/
structure XcK (K : PySem.W.Frag) (C : Addr) : Prop where
  ini : PySem.W.excInitIn K C exT "Exception.__new__" = true
  ovr : PySem.W.excOver K C exT = true
  sa : PySem.W.findIn K (.ref C) "__setattr__" = some (some (.builtin "object.__setattr__"))
  hd : PySem.W.hasDictIn K C = true
  exC : PySem.W.subIn K (.ref C) (.type "BaseException") = some true
  tyC : PySem.W.typeIn K (.ref C) = some (.type "type")
  kC : PySem.W.keepIn K (.ref C) = true
section
open Builtin Builtin.ObjectAttr PySem.W PySem.Calls
variable {prog : Program} {w : World} {A : Around} {E : Value → Shared → Prop} {hp : Heap} {g : Array GenState} {d : Drawn} {t : Nat} {os : OsState}
theorem cd_of {K : W.Frag} {C : Addr} (h : W.hasDictIn K C = true) : ∃ cd, W.clsIn K C = some cd ∧ cd.hasDict = true := by
  unfold W.hasDictIn at h
  cases e : W.clsIn K C with
  | none => rw [e] at h; simp at h
  | some cd => rw [e] at h; exact ⟨cd, rfl, by simpa using h⟩
theorem sod_new {K : W.Frag} {name : Str} {tk : Tok} {v : Value} {x C : Addr} {fv : Array Value} {b : Bool} {Q : Fin → Shared → Prop} (X : K.In hp) (hx : hp.get? x = some { cls := .ref C, data := .fields fv }) (hh : W.hasDictIn K C = true)
    (hq : ∀ h' tk' dx, (∀ c o, c ≠ x → hp.get? c = some o → h'.get? c = some o) → hp.objs.size ≤ dx → dx ≠ x → h'.get? x = some { cls := .ref C, dict := some dx, data := .fields fv } →
      h'.Ns1 dx (fun y => if y = name then some v else none) → Q (.done (.ret .none)) ⟨h', g, d, tk', os⟩) :
    wpAny (model prog w) A (storeInOwnDict (.ref x) (.ref C) (.str name tk) name v b) Q E ⟨hp, g, d, t, os⟩ := by
  obtain ⟨cd, hcd, hh⟩ := cd_of hh
  have hxs : x ≠ hp.objs.size := Nat.ne_of_lt (Heap.lt_size hx)
  have hcls : W.Looks (model prog w) hp (classData C) cd := W.looks_clsIn X hcd
  obtain ⟨n1, n2, n3, n4, n5, hd, n6, n7, n8, n9, n10⟩ := cd
  have hh : hd = true := hh
  subst hh
  unfold storeInOwnDict ownDictForStores
  repeat (first | with_reducible refine HandSPX.store_in_new ?_ ?_ | with_reducible refine wpAny_loadPart_at hx ?_ | with_reducible refine hcls.at ?_ | wp_step)
  · exact ⟨_, #[], _, (Heap.get?_update_ne _ _ _ _ hxs.symm).trans (Heap.get?_push_at rfl rfl), rfl, fun e he => absurd he (by simp), fun _ => rfl⟩
  · intro h' tk' hn' hs
    have hx1 := Heap.get?_push_of_some (h := hp) { cls := .type "dict", data := .dict #[] } hx
    exact hq h' tk' hp.objs.size (fun c o hc ho => (hs.2 c (Nat.ne_of_lt (Heap.lt_size ho))).trans ((Heap.get?_update_ne _ _ _ _ hc).trans (Heap.get?_push_of_some _ ho))) (Nat.le_refl _) hxs.symm
      ((hs.2 x hxs).trans (Heap.get?_update_self _ hx1 rfl)) hn'
theorem sod_old {K : W.Frag} {name : Str} {tk : Tok} {v : Value} {x C dx : Addr} {fv : Array Value} {b : Bool} {m0 : Str → Option Value} {nl : List Str} {Q : Fin → Shared → Prop} (X : K.In hp) (hx : hp.get? x = some { cls := .ref C, dict := some dx, data := .fields fv })
    (hns : hp.Ns1 dx m0) (hw : Within m0 nl) (hz : nl.length ≤ 1000) (hh : W.hasDictIn K C = true)
    (hq : ∀ h' tk', (∀ c o, c ≠ dx → hp.get? c = some o → h'.get? c = some o) → h'.Ns1 dx (fun y => if y = name then some v else m0 y) → Q (.done (.ret .none)) ⟨h', g, d, tk', os⟩) :
    wpAny (model prog w) A (storeInOwnDict (.ref x) (.ref C) (.str name tk) name v b) Q E ⟨hp, g, d, t, os⟩ := by
  obtain ⟨cd, hcd, hh⟩ := cd_of hh
  have hcls : W.Looks (model prog w) hp (classData C) cd := W.looks_clsIn X hcd
  obtain ⟨n1, n2, n3, n4, n5, hd, n6, n7, n8, n9, n10⟩ := cd
  have hh : hd = true := hh
  subst hh
  unfold storeInOwnDict ownDictForStores
  repeat (first | with_reducible refine PySem.OEX.store_in_old hns hw hz ?_ | with_reducible refine wpAny_loadPart_at hx ?_ | with_reducible refine hcls.at ?_ | wp_step)
  intro h' tk' hn' hs
  exact hq h' tk' (fun c o hc ho => (hs.2 c hc).trans ho) hn'
end
/-! ### self.f = e, of an error that is being made -/
section
variable {X : Cx} {pins : List (Addr × Obj)} {σ : L2.St} {H : Hp} {s : Shared} {a C dx : Addr} {f : Str} {y : V} {u : Value} {fs : List (Str × V)} {Q : Unit → Shared → Prop} {E : Value → Shared → Prop} {A : Around}
theorem xst_new (T : XcK X.K C) (I : Inv X pins σ H s) (e : H a = some (exo a C none)) (ht : PySem.W.takerIn X.K C f = some none) (ry : RelV y u)
    (h : ∀ dx s', H dx = none → dx ≠ a → Inv X pins σ (upd (upd H dx (exd dx [(f, y)])) a (exo a C (some dx))) s' → Q () s') : wpAny (model X.prog X.w) A (setAttr (.ref a) f u) Q E s := by
  obtain ⟨t1, ho⟩ := exo_at I.hok e
  obtain ⟨hp, g, d, t, os⟩ := s
  have IA : PySem.W.InstAt hp a { cls := .ref C, dict := none, data := .fields #[.ref t1, .none, .none, .none, .bool false, .none] } C none := ⟨ho, rfl, rfl, trivial⟩
  refine PySem.W.set_plain I.kIn IA T.sa (PySem.W.osa_openX F.store_Exception I.kIn IA T.ovr ht fun b => ?_)
  refine sod_new I.kIn ho T.hd fun h' tk' dx k hsz hne hx hn => ?_
  have hnd : H dx = none := I.hok.fresh hsz
  let hm := h'.update a fun _ => { cls := .ref C, dict := none, data := .fields #[.ref t1, .none, .none, .none, .bool false, .none] }
  have ma : hm.get? a = some { cls := .ref C, dict := none, data := .fields #[.ref t1, .none, .none, .none, .bool false, .none] } := Heap.get?_update_self _ hx rfl
  have mo : ∀ c, c ≠ a → hm.get? c = h'.get? c := fun c hc => Heap.get?_update_ne _ _ _ _ hc
  have hn' : hm.Ns1 dx (fun z => if z = f then some u else none) := by
    obtain ⟨o, es, ep, e1, r⟩ := hn
    exact ⟨o, es, ep, (mo dx hne).trans e1, r⟩
  have I1 : Inv X pins σ (upd H dx (exd dx [(f, y)])) ⟨hm, g, d, tk', os⟩ := I.laid (t' := tk') (a := dx) (o := exd dx [(f, y)]) (h' := hm) (fun c o hc => by
      by_cases hca : c = a
      · subst hca
        rw [ho] at hc; cases hc
        exact ma
      · exact (mo c hca).trans (k c o hca hc)) hsz (exd_ok hn' (relO_put (fs := []) ry fun z => True.intro))
  have ea : (upd H dx (exd dx [(f, y)])) a = some (exo a C none) := by rw [upd_ne hne.symm]; exact e
  exact h dx _ hnd hne (I1.write (t' := tk') (x := a) (e := a) (o := exo a C (some dx)) (by rw [ea]; exact True.intro) (.inl rfl) (fun c o hc q => (mo c hc).symm.trans q) ⟨_, hx⟩ (exo_ok hx))
theorem xst_old (T : XcK X.K C) (I : Inv X pins σ H s) (e : H a = some (exo a C (some dx))) (ed : H dx = some (exd dx fs)) (hl : fs.length ≤ 900) (ht : PySem.W.takerIn X.K C f = some none) (ry : RelV y u)
    (h : ∀ s', Inv X pins σ (upd H dx (exd dx ((f, y) :: fs))) s' → Q () s') : wpAny (model X.prog X.w) A (setAttr (.ref a) f u) Q E s := by
  obtain ⟨t1, ho⟩ := exo_at I.hok e
  obtain ⟨mA, hns, rel⟩ := exd_at I.hok ed
  have hw := within_of rel
  obtain ⟨hp, g, d, t, os⟩ := s
  obtain ⟨oD, _, _, hoD, _, _⟩ := hns.count hw
  have IA : PySem.W.InstAt hp a { cls := .ref C, dict := some dx, data := .fields #[.ref t1, .none, .none, .none, .bool false, .none] } C (some oD) := ⟨ho, rfl, rfl, hoD⟩
  refine PySem.W.set_plain I.kIn IA T.sa (PySem.W.osa_openX F.store_Exception I.kIn IA T.ovr ht fun b => ?_)
  refine sod_old I.kIn ho hns hw (by rw [List.length_map]; omega) T.hd fun h' tk' k hn => ?_
  obtain ⟨o2, es, ep, e2, r2⟩ := id hn
  exact h _ (I.write (t' := tk') (x := dx) (e := dx) (o := exd dx ((f, y) :: fs)) (by rw [ed]; exact True.intro) (.inl rfl) k ⟨_, e2⟩ (exd_ok hn (relO_put ry rel)))
/-- self.f = e -/
def tXst (K : PySem.W.Frag) (C : Addr) (f : Str) (to te : TE) : TS := fun D σ H => te σ H fun y H1 => to σ H1 fun x H2 => ∃ a : Addr, x = .ref a ∧ PySem.W.takerIn K C f = some none ∧
  ((H2 a = some (exo a C none) ∧ ∀ dx, H2 dx = none → dx ≠ a → D.nx σ (upd (upd H2 dx (exd dx [(f, y)])) a (exo a C (some dx)))) ∨
    ∃ (dx : Addr) (fs : List (Str × V)), H2 a = some (exo a C (some dx)) ∧ H2 dx = some (exd dx fs) ∧ fs.length ≤ 900 ∧ D.nx σ (upd H2 dx (exd dx ((f, y) :: fs))))
theorem ps_xst {o e : Expr} {to te : TE} {p' pos : Pos} (T : XcK X.K C) (ho : PE X o to) (he : PE X e te) (hs : swapsWith e (some (.Attribute o f p')) pos.line X.env = pure false) : PS X (.Assign [.Attribute o f p'] e pos) (tXst X.K C f to te) := by
  refine ⟨fun pins s σ H D I h => ?_⟩
  refine plainObj_wpAny_Assign_Attribute (thn (he.run pins s σ H _ I h) fun v s1 ⟨y, H1, I1, r1, q1⟩ => thn (ho.run pins s1 σ H1 _ I1 q1) fun u s2 ⟨x, H2, I2, r2, a, ex, ht, q⟩ => ?_) hs
  subst ex
  obtain rfl : u = Value.ref a := r2
  rcases q with ⟨ea, q⟩ | ⟨dx, fs, ea, ed, hl, q⟩
  · exact xst_new T I2 ea ht r1 fun dx s' n ne J => ⟨σ, _, J, q dx n ne⟩
  · exact xst_old T I2 ea ed hl ht r1 fun s' J => ⟨σ, _, J, q⟩
end
/-! ### __init__ of one, of two fields -/
def isSt (self f y : Str) : Stmt → Bool
  | .Assign [.Attribute (.Name o _) f' _] (.Name y' _) _ => decide (o = self) && decide (f' = f) && decide (y' = y)
  | _ => false
theorem isSt_eq {self f y : Str} {st : Stmt} (h : isSt self f y st = true) : ∃ p1 p2 p3 p4, st = .Assign [.Attribute (.Name self p1) f p2] (.Name y p3) p4 := by
  unfold isSt at h
  split at h
  · simp only [Bool.and_eq_true, decide_eq_true_eq] at h
    obtain ⟨⟨rfl, rfl⟩, rfl⟩ := h
    exact ⟨_, _, _, _, rfl⟩
  · cases h
def sp1 (C : Addr) (f : Str) : Sp := fun vs H Q _ => ∃ a y, vs = [.ref a, y] ∧ H a = some (exo a C none) ∧ ∀ dx, H dx = none → dx ≠ a → Q .non (upd (upd H dx (exd dx [(f, y)])) a (exo a C (some dx)))
def sp2 (C : Addr) (f h : Str) : Sp := fun vs H Q _ => ∃ a y z, vs = [.ref a, y, z] ∧ H a = some (exo a C none) ∧ ∀ dx, H dx = none → dx ≠ a → Q .non (upd (upd (upd H dx (exd dx [(f, y)])) a (exo a C (some dx))) dx (exd dx [(h, z), (f, y)]))
structure IniK (K : PySem.W.Frag) (C : Addr) (f : Str) : Prop where
  tk : PySem.W.takerIn K C f = some none
  db : (f == ("__debug__" : Str)) = false
  cd : (f == ("__classdict__" : Str)) = false
section
variable {P : Program} {w : World} {K : PySem.W.Frag} {mg : Str → Option Value} {base : Heap} {CX : CXT} {C : Addr} {f h : Str} {q : Str} {st : Stmt} {fi : Addr} {fd : FuncData}
theorem vis_par {N P : List Str} {sc : Scope} (S : FnScope N P sc) {x : Str} (hx : x ∈ P) : Vis sc x := (S.par x hx).imp id fun z => .inl z
theorem sw_nm {y o f : Str} {p1 p2 p3 : Pos} {l : Nat} {env : Env} : swapsWith (.Name y p3) (some (.Attribute (.Name o p1) f p2)) l env = pure false := by rfl
theorem init1 (T : XcK K C) (i1 : IniK K C f) (F : C8.Fun K "__init__" q st fi fd) (S : FnScope ["self", f] ["self", f] (C8.fnScope st)) (hb : ∃ s1, C8.fnBody st = [s1] ∧ isSt "self" f f s1 = true) : FnOk P w K mg base CX 1 fi fd ["self", f] (sp1 C f) := by
  obtain ⟨oc, od, dV, kV, doc, pm, an, cdv, ct, osl, rfl, lk, hcd⟩ := F.ex
  obtain ⟨s1, hbd, hs1⟩ := hb
  obtain ⟨p1, p2, p3, p4, rfl⟩ := isSt_eq hs1
  refine fn_of lk hcd S (fun vs H Q E z => ?_) fun A outer s H vs Q E hr z => ?_
  · obtain ⟨a, y, rfl, _⟩ := z; rfl
  obtain ⟨a, y, rfl, ea, z⟩ := z
  rw [hbd]
  have v0 := vis_par S (x := "self") (by simp)
  have v1 := vis_par S (x := f) (by simp)
  refine ⟨_, pss_one (ps_xst T (pe_var (i := 0) rfl v0) (pe_var (i := 1) rfl v1 i1.db i1.cd) sw_nm), ?_⟩
  exact ⟨y, rfl, .ref a, rfl, a, rfl, i1.tk, .inl ⟨ea, fun dx n ne => z dx n ne⟩⟩
theorem init2 (T : XcK K C) (i1 : IniK K C f) (i2 : IniK K C h) (F : C8.Fun K "__init__" q st fi fd) (S : FnScope ["self", f, h] ["self", f, h] (C8.fnScope st)) (hb : ∃ s1 s2, C8.fnBody st = [s1, s2] ∧ isSt "self" f f s1 = true ∧ isSt "self" h h s2 = true) : FnOk P w K mg base CX 1 fi fd ["self", f, h] (sp2 C f h) := by
  obtain ⟨oc, od, dV, kV, doc, pm, an, cdv, ct, osl, rfl, lk, hcd⟩ := F.ex
  obtain ⟨s1, s2, hbd, hs1, hs2⟩ := hb
  obtain ⟨p1, p2, p3, p4, rfl⟩ := isSt_eq hs1
  obtain ⟨p5, p6, p7, p8, rfl⟩ := isSt_eq hs2
  refine fn_of lk hcd S (fun vs H Q E z => ?_) fun A outer s H vs Q E hr z => ?_
  · obtain ⟨a, y, y2, rfl, _⟩ := z; rfl
  obtain ⟨a, y, y2, rfl, ea, z⟩ := z
  rw [hbd]
  have v0 := vis_par S (x := "self") (by simp)
  have v1 := vis_par S (x := f) (by simp)
  have v2 := vis_par S (x := h) (by simp)
  refine ⟨_, pss_cons (ps_xst T (pe_var (i := 0) rfl v0) (pe_var (i := 1) rfl v1 i1.db i1.cd) sw_nm) (pss_one (ps_xst T (pe_var (i := 0) rfl v0) (pe_var (i := 2) rfl v2 i2.db i2.cd) sw_nm)), ?_⟩
  refine ⟨y, rfl, .ref a, rfl, a, rfl, i1.tk, .inl ⟨ea, fun dx n ne => ?_⟩⟩
  refine ⟨y2, rfl, .ref a, rfl, a, rfl, i2.tk, .inr ⟨dx, [(f, y)], upd_same, ?_, by simp, z dx n ne⟩⟩
  rw [upd_ne ne, upd_same]
end
/-! ### C(e, ..) -/
section
variable {X : Cx} {e : Expr} {es : List Expr} {ta : TA} {p pos : Pos}
theorem pmk_x {CX : CXT} {x : Str} {C fI : Addr} {k : Nat} {fd : FuncData} {ps : List Str} {sp : Sp} (T : XcK X.K C) (iC : PySem.W.findIn X.K (.ref C) "__init__" = some (some (.ref fI))) (tI : PySem.W.typeIn X.K (.ref fI) = some (.type "function"))
    (F1 : FnOk X.prog X.w X.K X.mg X.base CX k fI fd ps sp) (hr : Room (k + 1) X.A) (hb : Binds X.K fd ps []) (hx : Passes CX X (fun _ _ _ => False)) (hg : Gl X x) (hm : X.mg x = some (.ref C)) (ha : PA X (e :: es) ta)
    (hdb : (x == ("__debug__" : Str)) = false) (hs : (e :: es).all nst = true) : PMk X (.Call (.Name x p) (e :: es) [] pos) (tMkO C sp [] ta) := by
  intro pins s σ H Q I h
  have hs' : nst e = true ∧ es.all nst = true := by simpa using hs
  refine wpAny_Call_Name_kw (ld_glob I hg hm ?_ hdb)
  refine PySem.W.callWith_K (h₀ := X.base) I.ok.mod.kin T.kC (thn (ha.run pos pins s σ H _ I h) fun us s1 ⟨vs, H1, I1, r1, hz, q1⟩ => ⟨I1.kIn, ?_⟩) (star_cons hs'.1) (star_any hs'.2)
  obtain ⟨nm, N', qn, bs, bm, hdct, sn, sub, ab, col, dd, k0, k1, k2, k3, k5, hC, hT⟩ := PySem.W.excInit_of I1.kIn T.ini
  obtain ⟨hp, g, dr, tk, os⟩ := s1
  have hsz : hp.objs.size ≤ hp.objs.size + 1 := Nat.le_succ _
  have hq := q1 (hp.objs.size + 1) (I1.hok.fresh hsz)
  have kk : ∀ b o, hp.get? b = some o → ((hp.push (PySem.W.kdv_tup us)).push (PySem.HandSPX.excO C hp.objs.size)).get? b = some o := fun b o z => Heap.get?_push_of_some _ (Heap.get?_push_of_some _ z)
  have hget : ((hp.push (PySem.W.kdv_tup us)).push (PySem.HandSPX.excO C hp.objs.size)).get? (hp.objs.size + 1) = some (PySem.HandSPX.excO C hp.objs.size) := by heap_get
  have I2 := I1.laid (t' := tk) (a := hp.objs.size + 1) (o := exo (hp.objs.size + 1) C none) kk hsz (exo_ok hget)
  have r2 : Vals (V.ref (hp.objs.size + 1) :: (vs ++ [])) (Value.ref (hp.objs.size + 1) :: (us ++ [])) := .cons rfl (r1.append .nil)
  have hl : (Value.ref (hp.objs.size + 1) :: us ++ []).length = ps.length := by rw [← F1.len _ _ _ _ hq]; exact r2.length.symm
  have hus : us.length ≤ sizeLine := by rw [← Paired.length r1, sizeLine_eq]; omega
  refine wpAny_call (PySem.HandSPX.call_own F.excBase_Exception hT hC (PySem.W.looks_findIn I1.kIn iC) (fun self => PySem.W.bind_fn I1.kIn self tI) hus
    (codeAny_mono (F1.run _ X.stack _ _ ⟨Value.ref (hp.objs.size + 1) :: us, []⟩ _ _ _ (fun _ _ _ => False) (hr.make C us []) (I2.env0.make C us []) (hb _ (Value.ref (hp.objs.size + 1) :: us) I2.kIn hl) r2 hq) fun r s' hq' => ?_))
  cases r with
  | error er => exact hx pins σ _ _ er s' I2 hq'
  | ok fl =>
    cases fl with
    | ret u =>
      obtain ⟨v, H2, os2, bare2, un2, hok2, rv, ev, d, fs, ea, ed, hd1, q2⟩ := hq'
      subst ev
      obtain ⟨h2, g2, d2, t2, os'⟩ := s'
      exact ⟨rv, mk_end (raises_own T.exC T.tyC) I1 hsz kk un2 hok2 os2 bare2 ea ed hd1 q2⟩
    | next => exact False.elim hq'
    | brk => exact False.elim hq'
    | cont => exact False.elim hq'
end
end Bs
/-! Bs: raise. -/
namespace Bs
open PySem L2 PySem.Spec PyProof.Rows
/-- what is asked of a class of errors, with the fields that its __init__ stores -/
def XcOk (X : Cx) (c : Nat) (fl : List Nat) : Prop :=
  XDef X.K c ∧ X.mg (nm c) = some (.ref (He.ga X.K (nm c))) ∧ (nm c == ("__debug__" : Str)) = false ∧ PySem.W.subIn X.K (.ref (He.ga X.K (nm c))) (.type "BaseException") = some true ∧
  PySem.W.typeIn X.K (.ref (He.ga X.K (nm c))) = some (.type "type") ∧ PySem.W.keepIn X.K (.ref (He.ga X.K (nm c))) = true ∧
  match fl with
  | [] => PySem.W.excIn X.K (He.ga X.K (nm c)) exT "Exception.__new__" = true
  | [f] => XcK X.K (He.ga X.K (nm c)) ∧ ∃ fI fd, PySem.W.findIn X.K (.ref (He.ga X.K (nm c))) "__init__" = some (some (.ref fI)) ∧ PySem.W.typeIn X.K (.ref fI) = some (.type "function") ∧
      FnOk X.prog X.w X.K X.mg X.base (L2.CX X.prog X.w) 1 fI fd ["self", nm f] (sp1 (He.ga X.K (nm c)) (nm f)) ∧ Binds X.K fd ["self", nm f] []
  | [f, h] => XcK X.K (He.ga X.K (nm c)) ∧ ∃ fI fd, PySem.W.findIn X.K (.ref (He.ga X.K (nm c))) "__init__" = some (some (.ref fI)) ∧ PySem.W.typeIn X.K (.ref fI) = some (.type "function") ∧
      FnOk X.prog X.w X.K X.mg X.base (L2.CX X.prog X.w) 1 fI fd ["self", nm f, nm h] (sp2 (He.ga X.K (nm c)) (nm f) (nm h)) ∧ Binds X.K fd ["self", nm f, nm h] []
  | _ => False
section
variable {c : Ct} {X : Cx} {fr : Bool} {xc : Nat} {rs : Ga → Sto → R (List D)} {es : List Expr} {p p2 pos : Pos}
theorem pmk0 {C : Addr} {x : Str} (q : PySem.W.excIn X.K C exT "Exception.__new__" = true) (gC : X.mg x = some (.ref C)) (kC : PySem.W.keepIn X.K (.ref C) = true) (r : Raises X (.ref C)) (hg : Gl X x) (hdb : (x == ("__debug__" : Str)) = false) :
    PMk X (.Call (.Name x p) [] [] pos) (fun _ H Q => Q (.ref C) none H) := by
  intro pins s σ H Q I h
  refine wpAny_Call_Name_kw (ld_glob I hg gC ?_ hdb)
  refine PySem.W.callWith_K0 I.kIn kC ?_
  obtain ⟨bm, N, nm, qn, bs, hdct, sn, sub, ab, col, dd, k0, k1, k2, k3, k5, mN, hC, hN, hni, T⟩ := exc_obj I.kIn q
  refine wpAny_call_exc_subT F.excBase_Exception T hC hN hni (fun h' e hm => mk_of I hm r h (I.hok.gone hm.new)) (by show 0 ≤ sizeLine; exact Nat.zero_le _)
def raiR (xc : Nat) (fl : List Nat) (rs : Ga → Sto → R (List D)) : Ga → Sto → R Fl := fun γ μ => (rs γ μ).bind fun ds μ => if ds.length = fl.length then .exc ⟨xc, (fl.zip ds).reverse⟩ γ μ else .fail
theorem passF : Passes (L2.CX X.prog X.w) X (fun _ _ _ => False) := fun _ _ _ _ _ _ _ h => by
  obtain ⟨_, _, _, _, _, _, _, _, _, _, _, _, z⟩ := h
  exact z.elim
theorem end_eq {fs : List (Str × V)} {H1 : Hp} {a dx : Addr} {o1 o2 o3 : HO} (ha : H1 a = none) (hne : dx ≠ a) : upd (del (upd (upd (upd H1 a o1) dx o2) a o3) a) dx (.xd fs) = upd H1 dx (.xd fs) := by
  funext b
  by_cases h1 : b = dx
  · rw [h1, upd_same, upd_same]
  · rw [upd_ne h1, upd_ne h1]
    by_cases h2 : b = a
    · rw [h2, del_same, ha]
    · rw [del_ne h2, upd_ne h2, upd_ne h1, upd_ne h2]
theorem end_eq2 {fs : List (Str × V)} {H1 : Hp} {a dx : Addr} {o1 o2 o3 o4 : HO} (ha : H1 a = none) (hne : dx ≠ a) : upd (del (upd (upd (upd (upd H1 a o1) dx o2) a o3) dx o4) a) dx (.xd fs) = upd H1 dx (.xd fs) := by
  funext b
  by_cases h1 : b = dx
  · rw [h1, upd_same, upd_same]
  · rw [upd_ne h1, upd_ne h1]
    by_cases h2 : b = a
    · rw [h2, del_same, ha]
    · rw [del_ne h2, upd_ne h1, upd_ne h2, upd_ne h1, upd_ne h2]
theorem rais_put {S1 : Sa} {γ : Ga} {μ1 : Sto} {σ : L2.St} {H1 : Hp} (hK : X.K = c.K) (xd : XDef X.K xc) (g1 : Good c S1 γ μ1 σ H1) {fs : List (Nat × D)} (hid : ∀ q ∈ fs, q.1 ∈ fldIds) {vs : List (Str × V)} (r : RelF c.K S1 H1 fs vs) {dx : Addr} (hd : H1 dx = none) (h : c.V ⟨xc, fs⟩ γ μ1) :
    WV c (.ref (He.ga X.K (nm xc))) (some dx) σ (upd H1 dx (.xd vs)) := by
  obtain ⟨s, ok⟩ := step_new (c := c) (o := HO.xd vs) g1.st hd
  exact ⟨S1, γ, μ1, ⟨xc, fs⟩, g1.step s ok, ⟨hK ▸ xd, by rw [hK], .inr ⟨dx, vs, rfl, upd_same, ok_notS g1.st hd, r.kp (s.kp g1.st.dm)⟩, hid⟩, h⟩
theorem st_rais {fl : List Nat} (hK : X.K = c.K) (hc : X.calm = true) (tk : Takes X (WV c)) (hr : Room 2 X.A) (ok : XcOk X xc fl) (hg : Gl X (nm xc)) (ha : PA X es (TAn c true rs)) (hs : es.all nst = true) (hl : es.length = fl.length) (h0 : fl = [] → ∀ γ μ, rs γ μ = .ok [] μ) (hid : ∀ f ∈ fl, f ∈ fldIds) :
    PS X (.Raise (some (.Call (.Name (nm xc) p) es [] p2)) none pos) (TSn c fr (raiR xc fl rs)) := by
  obtain ⟨xd, hm, hdb, exC, tyC, kC, ok⟩ := ok
  match fl, ok, hl, h0, hid with
  | [], ok, hl, h0, hid =>
    have e0 : es = [] := List.length_eq_zero_iff.mp hl
    subst e0
    refine (ps_raise hc tk (pmk0 ok hm kC (raises_own exC tyC) hg hdb)).imp fun D σ H w => ?_
    obtain ⟨S, γ, μ, g, h⟩ := w
    unfold raiR at h
    rw [h0 rfl γ μ] at h
    exact ⟨S, γ, μ, ⟨xc, []⟩, g, ⟨hK ▸ xd, by rw [hK], .inl ⟨rfl, rfl⟩, fun _ z => nomatch z⟩, h⟩
  | [f], ok, hl, h0, hid =>
    obtain ⟨e1, rfl⟩ : ∃ e1, es = [e1] := by
      match es, hl with
      | [e1], _ => exact ⟨e1, rfl⟩
    obtain ⟨T, fI, fd, iC, tI, F1, hb⟩ := ok
    refine (ps_raise hc tk (pmk_x T iC tI F1 hr hb passF hg hm ha hdb hs)).imp fun D σ H w => ?_
    obtain ⟨S, γ, μ, g, h⟩ := w
    unfold raiR at h
    rw [R.All_bind] at h
    refine ⟨S, γ, μ, g, h.mono (fun ds μ1 h => ?_) fun _ _ _ w => w⟩
    intro S1 vs H1 g1 s1 r1
    match ds, h with
    | [d1], h =>
      obtain ⟨v1, ws, rfl, q1, rfl⟩ := r1.rels
      refine ⟨by simp, fun a ha => ⟨a, v1, rfl, upd_same, fun dx n ne => ⟨rfl, dx, [(nm f, v1)], upd_same, ?_, ?_, ?_⟩⟩⟩
      · rw [upd_ne ne, upd_same]
      · rw [upd_ne ne] at n; exact n
      · rw [upd_ne ne] at n
        rw [end_eq ha ne]
        exact rais_put hK xd g1 (fs := [(f, d1)]) (fun q hq => by cases List.mem_singleton.mp hq; exact hid f List.mem_cons_self) ⟨v1, [], rfl, q1, rfl⟩ n h
    | [], h => exact h.elim
    | _ :: _ :: _, h =>
      simp only [List.length_cons] at h
      rw [if_neg (by simp)] at h
      exact h.elim
  | [f, f2], ok, hl, h0, hid =>
    obtain ⟨e1, e2, rfl⟩ : ∃ e1 e2, es = [e1, e2] := by
      match es, hl with
      | [e1, e2], _ => exact ⟨e1, e2, rfl⟩
    obtain ⟨T, fI, fd, iC, tI, F1, hb⟩ := ok
    refine (ps_raise hc tk (pmk_x T iC tI F1 hr hb passF hg hm ha hdb hs)).imp fun D σ H w => ?_
    obtain ⟨S, γ, μ, g, h⟩ := w
    unfold raiR at h
    rw [R.All_bind] at h
    refine ⟨S, γ, μ, g, h.mono (fun ds μ1 h => ?_) fun _ _ _ w => w⟩
    intro S1 vs H1 g1 s1 r1
    match ds, h with
    | [d1, d2], h =>
      obtain ⟨v1, ws, rfl, q1, v2, ws2, rfl, q2, rfl⟩ := r1.rels
      refine ⟨by simp, fun a ha => ⟨a, v1, v2, rfl, upd_same, fun dx n ne => ⟨rfl, dx, [(nm f2, v2), (nm f, v1)], ?_, upd_same, ?_, ?_⟩⟩⟩
      · rw [upd_ne ne.symm, upd_same]
      · rw [upd_ne ne] at n; exact n
      · rw [upd_ne ne] at n
        rw [end_eq2 ha ne]
        exact rais_put hK xd g1 (fs := [(f2, d2), (f, d1)]) (fun q hq => by
          rcases List.mem_cons.mp hq with rfl | hq
          · exact hid f2 (List.mem_cons_of_mem _ List.mem_cons_self)
          · cases List.mem_singleton.mp hq; exact hid f List.mem_cons_self) ⟨v2, _, rfl, q2, v1, [], rfl, q1, rfl⟩ n h
    | [], h => exact h.elim
    | [_], h =>
      simp only [List.length_cons, List.length_nil] at h
      exact h.elim
    | _ :: _ :: _ :: _, h =>
      simp only [List.length_cons] at h
      rw [if_neg (by simp)] at h
      exact h.elim
  | _ :: _ :: _ :: _, ok, _, _, _ => exact ok.elim
end
end Bs
/-! Bs: try with clauses that may have a name. -/
namespace Bs
open PySem L2 PySem.Spec PyProof.Rows
abbrev SuT := Addr → Value → Option Addr → TS
def endO (i : Option Nat) (D : Ends) : Ends := match i with
  | none => D
  | some i => ⟨fun σ H => D.nx (σ.set i none) H, D.rt, fun σ H => D.bk (σ.set i none) H, fun σ H => D.ct (σ.set i none) H⟩
def setO (i : Option Nat) (a : Addr) (σ : L2.St) : L2.St := match i with
  | none => σ
  | some i => σ.set i (some (.ref a))
/-- what the clauses wish, one behind the other -/
def wX (K : PySem.W.Frag) (Wo : WX) (D : Ends) : List (Value × Option Nat × SuT) → WX
  | [] => Wo
  | (c, i, ts) :: r => fun cls d σ H => ∃ b, PySem.W.exmOne K cls c = some b ∧ (b = true → ∀ a, H a = none → ts a cls d (endO i D) (setO i a σ) H) ∧ (b = false → wX K Wo D r cls d σ H)
def SuOk (X : Cx) (ss : List Stmt) (ts : SuT) : Prop := ∀ (a : Addr) (oe : Obj) (cls : Value) (d : Option Addr) (pn : List (Addr × Obj)), Zc cls d oe → (∃ vs, oe.data = .fields vs) → PSs (X.suite a ((a, oe) :: pn)) ss (ts a cls d)
inductive HX (X : Cx) : List ExceptHandler → List (Value × Option Nat × SuT) → Prop
  | nil : HX X [] []
  | bare {x : Str} {c : Value} {ts : SuT} {s0 : Stmt} {ss : List Stmt} {p1 p2 : Pos} {hds : List ExceptHandler} {l : List (Value × Option Nat × SuT)} (hg : Gl X x) (hdb : (x == ("__debug__" : Str)) = false) (hm : X.mg x = some c) (hsu : SuOk X (s0 :: ss) ts) (r : HX X hds l) :
      HX X (.ExceptHandler (some (.Name x p1)) none (s0 :: ss) p2 :: hds) ((c, none, ts) :: l)
  | named {x n : Str} {i : Nat} {c : Value} {ts : SuT} {s0 : Stmt} {ss : List Stmt} {p1 p2 : Pos} {hds : List ExceptHandler} {l : List (Value × Option Nat × SuT)} (hg : Gl X x) (hdb : (x == ("__debug__" : Str)) = false) (hm : X.mg x = some c) (hi : X.N[i]? = some n) (hln : X.env.kindOf n = some .local) (hsu : SuOk X (s0 :: ss) ts) (r : HX X hds l) :
      HX X (.ExceptHandler (some (.Name x p1)) (some n) (s0 :: ss) p2 :: hds) ((c, some i, ts) :: l)
section
variable {X : Cx} {body : List Stmt} {h0 : ExceptHandler} {hds : List ExceptHandler} {l : List (Value × Option Nat × SuT)} {pos : Pos} {tb : WX → TS} {Wo : WX}
theorem ps_tryX (hs : X.stack = X.env :: X.outer) (hf : X.env.frame = some X.env.locals) (hN : X.N.Nodup) (tk : Takes X Wo)
    (hb : ∀ (W : WX) (pn : List (Addr × Obj)) (xe : Value → Shared → Prop), Takes (X.tr pn xe) W → PassesOwn (model X.prog X.w) X.A X.env xe → PSs (X.tr pn xe) body (tb W))
    (hh : HX X (h0 :: hds) l) : PS X (.Try body (h0 :: hds) [] [] pos) (fun D σ H => tb (wX X.K Wo D l) D σ H) := by
  refine ⟨fun pins s σ H D I h => ?_⟩
  have ok := I.ok
  have hfr : X.A.frames = some (X.env :: X.outer) := hs ▸ ok.frames
  refine wpAny_Try_except (wpAny_mono ((hb (wX X.K Wo D l) (X.pn ++ pins) _ (fun u s' xx => ?_) PassesOwn.looking).run [] s σ H D (I.toTry _) h) (fun f s1 hsp => ?_) fun _ _ z => z)
  · obtain ⟨a, B, sI, pins', σ', H', cls, d, rfl, J', nb, up, sky, na, os, ag, w⟩ := xx
    have J : Inv X pins σ' H' sI := J'.ofTry ok
    rw [show (X.tr (X.pn ++ pins) _).stack = X.env :: X.outer from hs] at sky
    refine Sky.land Zc.steady hfr hf sky fun h3 fl3 up3 => ?_
    have J3 : Inv X pins σ' H' { s' with heap := h3 } := J.landed nb fl3.1 (up.trans up3) os ag
    obtain ⟨oe3, vs3, he3, hz3, hd3⟩ := fl3.there
    have nfr : a ∉ frs (X.env :: X.outer) := fun hm => by
      obtain ⟨_, o', e', hnf⟩ := fl3.2.2.1.mem hm
      rw [he3] at e'; cases e'
      exact hnf _ hd3
    have nL : a ≠ X.env.locals := fun z => nfr (List.mem_filterMap.mpr ⟨X.env, List.mem_cons_self, z ▸ hf⟩)
    have nF : a ∉ X.fs := fun hm => (List.mem_filterMap.mp hm).elim fun e q => nfr (List.mem_filterMap.mpr ⟨e, List.mem_cons_of_mem _ q.1, q.2⟩)
    have S3 := J3.suite he3 hd3 na nL nF
    have LT : PySem.W.Looks (model X.prog X.w) h3 (typeOf (.ref a)) cls := fun A Q E s k q => wpAny_typeOf_ref (k _ _ he3) (hz3.1.symm ▸ q)
    have test : ∀ {x : Str} {c : Value} {np : Pos} {Q : Value → Shared → Prop} {E : Value → Shared → Prop}, Gl X x → (x == ("__debug__" : Str)) = false → X.mg x = some c → Q c { s' with heap := h3 } →
        wpAny (model X.prog X.w) (X.A.mark (some (.ref a))) (eval (.Name x np) X.env) Q E { s' with heap := h3 } := fun hg hdb hm q => ld_glob (X := X.suite a ((a, oe3) :: (X.pn ++ pins))) S3 hg hm q hdb
    have go : ∀ {hds' : List ExceptHandler} {l' : List (Value × Option Nat × SuT)}, HX X hds' l' → wX X.K Wo D l' cls d σ' H' → wpAny (model X.prog X.w) X.A (handleBy (.ref a) X.env hds') (SP X pins D) X.xe { s' with heap := h3 } := by
      intro hds' l' hk
      induction hk with
      | nil =>
        intro w
        refine wpAny_handleBy_nil ?_
        obtain ⟨_, _, _, oe, vs, T, oT, ts', he, hz, hd, h1, hr⟩ := id fl3
        unfold PySem.passOn
        refine wpAny_bind (wpAny_field he hd h1 ?_)
        rw [if_neg (show ¬ ((Value.ref T == Value.none) = true) from by simp)]
        have fin : wpAny (model X.prog X.w) X.A (setFlight (.ref a) X.env.frame) (fun _ s4 => wpAny (model X.prog X.w) X.A (throw (.ref a) : Sem Flow) (SP X pins D) X.xe s4) X.xe { s' with heap := h3 } := by
          rw [hf]
          exact HandSPX.setFlight_upZ fl3 fun h4 hh4 up4 => wpAny_throw (tk _ _ ⟨a, B, sI, pins, σ', H', cls, d, rfl, J, nb, (up.trans up3).trans up4, .inr (.inr (hs ▸ hh4)), na, os, ag, w⟩)
        first
          | exact wpAny_bind (wpAny_pure (wpAny_bind fin))
          | exact wpAny_bind fin
      | bare hg hdb hm hsu r ih =>
        intro w
        obtain ⟨b, hb1, hyes, hno⟩ := w
        refine wpAny_handleBy_cons (codeAny_handlers_test (test hg hdb hm ((PySem.W.exm_one (M := model X.prog X.w) J3.kIn LT hb1).here ?_))) (by intro q; cases q)
        cases b with
        | false => exact ih (hno rfl)
        | true =>
          refine codeAny_handlers_suite (HandSPX.lands_againZ fl3 fun h4 fl4 up4 => ?_)
          have J4 : Inv X pins σ' H' { s' with heap := h4 } := J.landed nb fl4.1 ((up.trans up3).trans up4) os ag
          obtain ⟨oe4, vs4, he4, hz4, hd4⟩ := fl4.there
          refine wpAny_mono ((hsu a oe4 cls d (X.pn ++ pins) hz4 ⟨_, hd4⟩).run [] _ _ H' _ (J4.suite he4 hd4 na nL nF) (hyes rfl a na)) (fun f s6 hsp => ?_) (fun _ _ z => False.elim z)
          cases f with
          | next => exact hsp.elim fun σ6 z => z.elim fun H6 z => ⟨σ6, H6, z.1.unsuite ok, z.2⟩
          | brk => exact hsp.elim fun σ6 z => z.elim fun H6 z => ⟨σ6, H6, z.1.unsuite ok, z.2⟩
          | cont => exact hsp.elim fun σ6 z => z.elim fun H6 z => ⟨σ6, H6, z.1.unsuite ok, z.2⟩
          | ret u => exact hsp.elim fun v6 z => z.elim fun σ6 z => z.elim fun H6 z => ⟨v6, σ6, H6, z.1.unsuite ok, z.2.1, z.2.2⟩
      | @named x n i c ts s0 ss p1 p2 hds2 l2 hg hdb hm hi hln hsu r ih =>
        intro w
        obtain ⟨b, hb1, hyes, hno⟩ := w
        refine wpAny_handleBy_cons (codeAny_handlers_test (test hg hdb hm ((PySem.W.exm_one (M := model X.prog X.w) J3.kIn LT hb1).here ?_))) (by intro q; cases q)
        cases b with
        | false => exact ih (hno rfl)
        | true =>
          refine codeAny_handlers_suite_as (HandSPX.lands_againZ fl3 fun h4 fl4 up4 => ?_)
          have J4 : Inv X pins σ' H' { s' with heap := h4 } := J.landed nb fl4.1 ((up.trans up3).trans up4) os ag
          obtain ⟨oe4, vs4, he4, hz4, hd4⟩ := fl4.there
          refine store_ok (X := X.suite a ((a, oe4) :: (X.pn ++ pins))) (v := .ref a) (J4.suite he4 hd4 na nL nF) hN hi (.inl hln) rfl (fun s5 S5 => ?_) (.inr hln)
          refine wpAny_mono ((hsu a oe4 cls d (X.pn ++ pins) hz4 ⟨_, hd4⟩).run [] s5 _ H' _ S5 (hyes rfl a na)) (fun f s6 hsp => ?_) (fun _ _ z => False.elim z)
          have last : ∀ {σ6 : L2.St} {H6 : Hp} {Q : Shared → Prop}, Inv (X.suite a ((a, oe4) :: (X.pn ++ pins))) [] σ6 H6 s6 → (∀ s7, Inv X pins (σ6.set i none) H6 s7 → Q s7) →
              wpAny (model X.prog X.w) X.A (do bindName X.env n .none; unbindBehindTheSuite X.env n p2) (fun _ s7 => Q s7) X.xe s6 := fun S6 hq => gone_ok (S6.unsuite ok) hN hi hln hq
          cases f with
          | next => exact hsp.elim fun σ6 z => z.elim fun H6 z => last z.1 fun s7 J7 => ⟨_, H6, J7, z.2⟩
          | brk => exact hsp.elim fun σ6 z => z.elim fun H6 z => last z.1 fun s7 J7 => ⟨_, H6, J7, z.2⟩
          | cont => exact hsp.elim fun σ6 z => z.elim fun H6 z => last z.1 fun s7 J7 => ⟨_, H6, J7, z.2⟩
          | ret u => exact hsp.elim fun v6 z => z.elim fun σ6 z => z.elim fun H6 z => last z.1 fun s7 J7 => ⟨v6, _, H6, J7, z.2.1, z.2.2⟩
    exact go hh w
  · cases f with
    | next => exact hsp.elim fun σ6 z => z.elim fun H6 z => wpAny_execs_nil ⟨σ6, H6, z.1.ofTry ok, z.2⟩
    | brk => exact hsp.elim fun σ6 z => z.elim fun H6 z => ⟨σ6, H6, z.1.ofTry ok, z.2⟩
    | cont => exact hsp.elim fun σ6 z => z.elim fun H6 z => ⟨σ6, H6, z.1.ofTry ok, z.2⟩
    | ret u => exact hsp.elim fun v6 z => z.elim fun σ6 z => z.elim fun H6 z => ⟨v6, σ6, H6, z.1.ofTry ok, z.2.1, z.2.2⟩
end
end Bs
/-! Bs: except suites. -/
namespace Bs
open PySem L2 PySem.Spec PyProof.Rows
/-- what the text says of its classes of errors -/
structure XfK (K : PySem.W.Frag) (C : Addr) : Prop where
  ga : PySem.W.findIn K (.ref C) "__getattribute__" = some (some (.builtin "BaseException.__getattribute__"))
  gt : PySem.W.findIn K (.ref C) "__getattr__" = some none
  ex : PySem.W.subIn K (.ref C) (.type "BaseException") = some true
  hd : PySem.W.hasDictIn K C = true
  ha : PySem.W.findIn K (.ref C) "__class__" = some (some (.builtin "object.__class__"))
  hn : PySem.W.specialIn K (.builtin "object.__class__") "__get__" = some (some (.builtin "getset_descriptor.__get__"))
  ht : PySem.W.takesIn K (.builtin "object.__class__") = some true
  hm : PySem.W.mroIn K C (.type "object") = some true
  cl : (PySem.W.clsIn K C).isSome = true
structure FactX (K : PySem.W.Frag) : Prop where
  xf : ∀ c, XDef K c → XfK K (He.ga K (nm c))
  no : ∀ c, XDef K c → ∀ f ∈ fldIds, PySem.W.findIn K (.ref (He.ga K (nm c))) (nm f) = some none
  exm : ∀ c c', XDef K c → XDef K c' → PySem.W.exmOne K (.ref (He.ga K (nm c))) (.ref (He.ga K (nm c'))) = some (subX c c')
  kit : ∀ c c', XDef K c → XDef K c' → PySem.W.kitOne K (.ref (He.ga K (nm c))) (.ref (He.ga K (nm c'))) = some (subX c c')
section
variable (c : Ct) (x : Xc) (a : Addr) (cls : Value) (d : Option Addr) (i : Option Nat)
structure XSt (S : Sa) (γ : Ga) (μ : Sto) (σ : L2.St) (H : Hp) : Prop where
  g : Good c S γ μ σ H
  x : XRel c.K S H x cls d
  n : ∀ j, i = some j → σ[j]? = some (some (.ref a))
def TXn (o : Ga → Option D) : TE := fun σ H Q => ∃ S γ μ v, XSt c x a cls d i S γ μ σ H ∧ o γ = some v ∧ ∀ S' w H', XSt c x a cls d i S' γ μ σ H' → KpT S S' H H' → Rel c.K S' H' v w → Q w H'
def TXa (o : Ga → Option (List D)) : TA := fun σ H Q => ∃ S γ μ v, XSt c x a cls d i S γ μ σ H ∧ o γ = some v ∧ ∀ S' w H', XSt c x a cls d i S' γ μ σ H' → KpT S S' H H' → Rels c.K S' H' v w → Q w H'
end
section
variable {c : Ct} {x : Xc} {a : Addr} {cls : Value} {d : Option Addr} {i : Option Nat} {X : Cx} {oe : Obj} {pn : List (Addr × Obj)} {e : Expr} {S S' : Sa} {γ : Ga} {μ : Sto} {σ : L2.St} {H H' : Hp}
theorem XSt.step (s : XSt c x a cls d i S γ μ σ H) (g' : Good c S' γ μ σ H') (k : KpT S S' H H') : XSt c x a cls d i S' γ μ σ H' := ⟨g', s.x.kp k.kp, s.n⟩
/-- an expression that is sound is sound here -/
theorem tx_of {o : Ga → Option D} (h : PE X e (TEn c true fun γ μ => ofO (o γ) μ)) : PE X e (TXn c x a cls d i o) := h.imp fun σ H Q w => by
  obtain ⟨S, γ, μ, v, st, eo, q⟩ := w
  refine ⟨S, γ, μ, st.g, ?_⟩
  show (ofO (o γ) μ).All _ _
  rw [eo]
  exact fun S' w H' g' s r => q S' w H' (st.step g' (s.kpT st.g.st.dm)) (s.kpT st.g.st.dm) r
theorem tx_bool {o : Ga → Option D} {b : Bool} {S : Sa} {γ : Ga} {μ : Sto} {Q : VK} (st : XSt c x a cls d i S γ μ σ H) (h : ∀ S' w H', XSt c x a cls d i S' γ μ σ H' → KpT S S' H H' → Rel c.K S' H' (.bl b) w → Q w H') : Q (.bl b) H := h S (.bl b) H st KpT.refl rfl
theorem tx_fld {f n : Str} {j : Nat} {fi : Nat} {p1 p2 : Pos} (hK : X.K = c.K) (FX : FactX X.K) (hf : f = nm fi) (hfi : fi ∈ fldIds) (hz : Zc cls d oe) (hd : ∃ vs, oe.data = .fields vs) (hi : i = some j) (hN : X.N[j]? = some n) (hv : Vis X.env.scope n)
    (h1 : (n == ("__debug__" : Str)) = false) (h2 : (n == ("__classdict__" : Str)) = false) (hb : attributeBase (.Name n p1) f X.env (eval (.Name n p1) X.env) = eval (.Name n p1) X.env) (inj : ∀ q ∈ x.fs, nm q.1 = nm fi → q.1 = fi) (inj2 : True) :
    PE (X.suite a ((a, oe) :: pn)) (.Attribute (.Name n p1) f p2) (TXn c x a cls d i fun _ => x.fs.lookup fi) := by
  by_cases xd : XDef X.K x.c
  · have xf := FX.xf _ xd
    refine (pe_xf (X := X) (C := He.ga X.K (nm x.c)) (cls := cls) (d := d) ⟨xf.ga, xf.gt, xf.ex, xf.hd⟩ (by rw [hf]; exact FX.no _ xd fi hfi) hz hd (pe_var (X := X.suite a ((a, oe) :: pn)) (i := j) hN hv h1 h2) hb).imp fun σ H Q w => ?_
    obtain ⟨S, γ, μ, v, st, eo, q⟩ := w
    refine ⟨.ref a, st.n j hi, rfl, by rw [st.x.2.1, hK], ?_⟩
    rcases st.x.2.2.1 with ⟨e0, _⟩ | ⟨dd, vs, ed, hdd, nS, rf⟩
    · rw [e0] at eo; cases eo
    · have key : ∀ (fs : List (Nat × D)) (vs : List (Str × V)), RelF c.K S H fs vs → (∀ q ∈ fs, nm q.1 = nm fi → q.1 = fi) → fs.lookup fi = some v → ∃ w, vs.lookup (nm fi) = some w ∧ Rel c.K S H v w := by
        intro fs
        induction fs with
        | nil => intro vs _ _ e; cases e
        | cons q r ih =>
          intro vs hr hin e
          obtain ⟨w, ws, rfl, r1, r2⟩ := hr
          obtain ⟨qn, qd⟩ := q
          by_cases hq : fi = qn
          · subst hq
            rw [List.lookup_cons_self] at e
            cases e
            exact ⟨w, List.lookup_cons_self, r1⟩
          · have hq' : (fi == qn) = false := by simpa using hq
            have e' : r.lookup fi = some v := by rw [List.lookup_cons, hq'] at e; exact e
            obtain ⟨w', e1, e2⟩ := ih ws r2 (fun q hm => hin q (List.mem_cons_of_mem _ hm)) e'
            refine ⟨w', ?_, e2⟩
            have hne : (nm fi == nm qn) = false := by
              rw [beq_eq_false_iff_ne]
              exact fun z => hq (hin (qn, qd) List.mem_cons_self z.symm).symm
            rw [List.lookup_cons, hne]
            exact e1
      obtain ⟨w, ew, rw'⟩ := key x.fs vs rf inj eo
      exact ⟨dd, vs, w, ed, hdd, by rw [hf]; exact ew, q S w H st KpT.refl rw'⟩
  · refine ⟨fun pins s σ H Q I w => ?_⟩
    obtain ⟨S, γ, μ, v, st, eo, q⟩ := w
    exact absurd (hK ▸ st.x.1) xd
/-- isinstance(e, C) -/
theorem call_isX {D : Addr} (T : XfK X.K D) (hz : Zc (.ref D) d oe) (hf : ∃ vs, oe.data = .fields vs) : CallR (X.suite a ((a, oe) :: pn)) (.builtin "isinstance") (fun xs H Q => ∃ (cv : Addr) (b : Bool) (od : Option Obj), xs = [.ref a, .ref cv] ∧ PySem.W.kitOne X.K (.ref D) (.ref cv) = some b ∧ (∀ h : Heap, True) ∧ Q (.bl b) H ∧ (d = none ∨ ∃ dd fs, d = some dd ∧ H dd = some (.xd fs))) := by
  intro pins s σ H xs us Q I r h
  obtain ⟨cv, b, _, rfl, e, _, q, hdd⟩ := h
  cases r with
  | cons rx rr =>
    cases rr with
    | cons rt rr =>
      cases rr
      cases rx
      cases rt
      obtain ⟨hget, _⟩ := I.pin (a, oe) (List.mem_append.mpr (.inl List.mem_cons_self))
      obtain ⟨vs, hv⟩ := hf
      have J : ∃ od, PySem.W.InstAt s.heap a oe D od := by
        rcases hdd with rfl | ⟨dd, fs, rfl, hx⟩
        · exact ⟨none, hget, hz.1, by unfold PySem.W.notCls; rw [hv] <;> rfl, by rw [hz.2]; trivial⟩
        · obtain ⟨mA, hns, hr⟩ := (show ObjOk X.prog X.w H s.heap dd (.xd fs) from I.hok dd _ hx)
          obtain ⟨od, ho, hl⟩ := lookIn_ns hns
          exact ⟨some od, hget, hz.1, by unfold PySem.W.notCls; rw [hv] <;> rfl, by rw [hz.2]; exact ho⟩
      obtain ⟨od, J⟩ := J
      exact PySem.W.kia_one (PySem.W.kitx_exc T.cl T.ga T.gt T.ex T.ha T.hn T.ht T.hm) I.kIn J e (fun z => nomatch z) fun tk => ⟨.bl b, H, I.kept (t' := tk) fun _ _ z => z, rfl, q⟩
/-! ### the expressions of a suite -/
def asAtt : Expr → Option (Str × Str)
  | .Attribute (.Name n _) f _ => some (n, f)
  | _ => none
theorem asAtt_eq {e : Expr} {n f : Str} (h : asAtt e = some (n, f)) : ∃ p1 p2, e = .Attribute (.Name n p1) f p2 := by
  cases e with
  | Attribute o f' p =>
    cases o with
    | Name n' p' => cases h; exact ⟨_, _, rfl⟩
    | _ => cases h
  | _ => cases h
def xNm (N : List Str) (sc : Scope) (i : Option Nat) (n : Str) : Bool := match i with
  | some j => decide (N[j]? = some n) && visB sc n && okN n
  | none => false
mutual
def chkHe (N : List Str) (sc : Scope) (i : Option Nat) (cs : List Nat) : HE → Expr → Bool
  | .con v, e => conIs v e
  | .var j, e => match asName e with
    | some y => decide (N[j]? = some y) && visB sc y && okN y
    | none => false
  | .fld f, e => match asAtt e with
    | some (n, g) => decide (g = nm f) && decide (f ∈ fldIds) && xNm N sc i n
    | none => false
  | .isx [k], e => match asCall e with
    | some (y, [p, q], []) => decide (y = "isinstance") && glB sc y && decide (k ∈ cs) && (match asName p with
      | some n => xNm N sc i n
      | none => false) && (match asName q with
      | some n => decide (n = nm k) && glB sc n && okN n
      | none => false)
    | _ => false
  | .isx _, _ => false
  | .not h, e => match asUn e with
    | some (op, p) => decide (op = .Not) && chkHe N sc i cs h p
    | none => false
  | .and h g, e => match asBool e with
    | some (op, p, q) => decide (op = .And) && chkHe N sc i cs h p && chkHe N sc i cs g q
    | none => false
  | .or h g, e => match asBool e with
    | some (op, p, q) => decide (op = .Or) && chkHe N sc i cs h p && chkHe N sc i cs g q
    | none => false
  | .tup hs, e => match asTup e with
    | some es => chkHes N sc i cs hs es && decide (es.length ≤ 1000)
    | none => false
def chkHes (N : List Str) (sc : Scope) (i : Option Nat) (cs : List Nat) : List HE → List Expr → Bool
  | [], es => es.isEmpty
  | h :: hs, es => match es with
    | e :: es => chkHe N sc i cs h e && nst e && chkHes N sc i cs hs es
    | [] => false
end
/-- the context of a suite -/
structure XS (c : Ct) (X : Cx) (N : List Str) (sc : Scope) (cs : List Nat) : Prop where
  hK : X.K = c.K
  nN : X.N = N
  scp : X.env.scope = sc
  fx : FactX X.K
  mis : X.mg "isinstance" = none
  cls : ∀ k ∈ cs, XDef X.K k ∧ X.mg (nm k) = some (.ref (He.ga X.K (nm k)))
theorem vis_of {sc : Scope} {n : Str} (h : visB sc n = true) : Vis sc n := by
  unfold visB at h
  unfold Vis
  split at h <;> first | (rename_i z; simp [z]; done) | cases h
theorem gl_of {X : Cx} {sc : Scope} (hs : X.env.scope = sc) {n : Str} (h : glB sc n = true) : Gl X n := by
  have := of_decide_eq_true h
  unfold Gl Env.kindOf
  rw [hs]; exact this
theorem nm_inj : ∀ f ∈ fldIds, ∀ q ∈ fldIds, nm q = nm f → q = f := by decide +kernel
theorem pe_boolop {op : BoolOp} {y : Expr} {p : Pos} {t : TE} (h : PE X y t) : PE X (.BoolOp op [y] p) t := pe_one h
mutual
theorem sndHe {N : List Str} {sc : Scope} {cs : List Nat} (xs : XS c X N sc cs) (hz : Zc cls d oe) (hd : ∃ vs, oe.data = .fields vs) (hfs : ∀ q ∈ x.fs, q.1 ∈ fldIds) : ∀ (h : HE) (e : Expr), chkHe N sc i cs h e = true → PE (X.suite a ((a, oe) :: pn)) e (TXn c x a cls d i fun γ => heE x γ h)
  | .con v, e, h => by
    unfold chkHe at h
    refine tx_of ((con_of (c := c) h).imp fun σ H Q w => ?_)
    unfold heE at w
    exact w
  | .var j, e, h => by
    unfold chkHe at h
    cases ee : asName e with
    | none => rw [ee] at h; cases h
    | some y =>
      rw [ee] at h
      simp only [Bool.and_eq_true, decide_eq_true_eq] at h
      obtain ⟨⟨h1, h2⟩, h3⟩ := h
      obtain ⟨p, rfl⟩ := asName_eq ee
      refine tx_of ((snd_var (c := c) (X := X.suite a ((a, oe) :: pn)) (i := j) (by rw [← xs.nN] at h1; exact h1) (by have := vis_of h2; rw [← xs.scp] at this; exact this) (okN_of h3).1 (okN_of h3).2).imp fun σ H Q w => ?_)
      obtain ⟨S, γ, μ, g, w⟩ := w
      refine ⟨S, γ, μ, g, ?_⟩
      unfold heE at w
      have w : (ofO (match γ[j]? with | some (.val d) => some d | _ => none) μ).All (Aft c true S μ H γ σ Q) c.V := w
      show (match γ[j]? with | some (.val d) => R.ok d μ | _ => .fail : R D).All _ _
      revert w
      generalize γ[j]? = o
      intro w
      match o, w with
      | some (.val d), w => exact w
      | some (.own _), w => exact w
      | some .un, w => exact w
      | none, w => exact w
  | .fld f, e, h => by
    unfold chkHe at h
    cases ee : asAtt e with
    | none => rw [ee] at h; cases h
    | some z =>
      obtain ⟨n, g⟩ := z
      rw [ee] at h
      simp only [Bool.and_eq_true, decide_eq_true_eq] at h
      obtain ⟨⟨h1, h2⟩, h3⟩ := h
      obtain ⟨p1, p2, rfl⟩ := asAtt_eq ee
      unfold xNm at h3
      cases hi : i with
      | none => rw [hi] at h3; cases h3
      | some j =>
        rw [hi] at h3
        simp only [Bool.and_eq_true, decide_eq_true_eq] at h3
        obtain ⟨⟨g1, g2⟩, g3⟩ := h3
        refine (tx_fld (i := some j) (j := j) (fi := f) xs.hK xs.fx h1 h2 hz hd rfl (by rw [xs.nN]; exact g1) (by rw [xs.scp]; exact vis_of g2) (okN_of g3).1 (okN_of g3).2 (by rfl) (fun q hq => nm_inj f h2 q.1 (hfs q hq)) trivial).imp fun σ H Q w => ?_
        obtain ⟨S, γ, μ, v, st, eo, q⟩ := w
        have eo : heE x γ (.fld f) = some v := eo
        unfold heE at eo
        exact ⟨S, γ, μ, v, st, eo, q⟩
  | .isx [k], e, h => by
    unfold chkHe at h
    split at h
    · rename_i y p q ee
      simp only [Bool.and_eq_true, decide_eq_true_eq] at h
      obtain ⟨⟨⟨⟨h1, h2⟩, h3⟩, h4⟩, h5⟩ := h
      obtain ⟨pp, p2, rfl⟩ := asCall_eq ee
      subst h1
      cases e1 : asName p with
      | none => rw [e1] at h4; cases h4
      | some n =>
        rw [e1] at h4
        cases e2 : asName q with
        | none => rw [e2] at h5; cases h5
        | some m =>
          rw [e2] at h5
          simp only [Bool.and_eq_true, decide_eq_true_eq] at h5
          obtain ⟨⟨h5, h6⟩, h7⟩ := h5
          obtain ⟨p3, rfl⟩ := asName_eq e1
          obtain ⟨p4, rfl⟩ := asName_eq e2
          unfold xNm at h4
          cases hi : i with
          | none => rw [hi] at h4; cases h4
          | some j =>
            rw [hi] at h4
            simp only [Bool.and_eq_true, decide_eq_true_eq] at h4
            obtain ⟨⟨g1, g2⟩, g3⟩ := h4
            obtain ⟨xk, mk⟩ := xs.cls k h3
            by_cases xd : XDef X.K x.c ∧ cls = .ref (He.ga X.K (nm x.c))
            · obtain ⟨xd, ec⟩ := xd
              subst ec
              have hgi : Gl (X.suite a ((a, oe) :: pn)) "isinstance" := gl_of (X := X) xs.scp h2
              have hgm : Gl (X.suite a ((a, oe) :: pn)) m := gl_of (X := X) xs.scp h6
              have pv : PE (X.suite a ((a, oe) :: pn)) (.Name n p3) (tVar j) := pe_var (X := X.suite a ((a, oe) :: pn)) (i := j) (by rw [← xs.nN] at g1; exact g1) (by have := vis_of g2; rw [← xs.scp] at this; exact this) (okN_of g3).1 (okN_of g3).2
              have pc : PE (X.suite a ((a, oe) :: pn)) (.Name m p4) (tC (.ref (He.ga X.K (nm k)))) := pe_glob (X := X.suite a ((a, oe) :: pn)) hgm (by rw [h5]; exact mk) rfl (okN_of h7).1
              refine (pe_callB (id := "isinstance") (call_isX (d := d) (xs.fx.xf _ xd) hz hd) hgi xs.mis (by decide +kernel) (pa_cons pv (pa_cons pc pa_nil (star_cons rfl)) (star_cons rfl)) (by decide +kernel) (by decide +kernel) (star_cons rfl) rfl).imp fun σ H Q w => ?_
              obtain ⟨S, γ, μ, v, st, eo, q⟩ := w
              have eo : heE x γ (.isx [k]) = some v := eo
              unfold heE at eo
              have ev : v = .bl (subX x.c k) := by simpa using eo.symm
              subst ev
              refine ⟨.ref a, st.n j rfl, _, _, none, rfl, xs.fx.kit _ _ xd xk, fun _ => trivial, q S _ H st KpT.refl rfl, ?_⟩
              rcases st.x.2.2.1 with ⟨_, e0⟩ | ⟨dd, vs, ed, hdd, nS, rf⟩
              · exact .inl e0
              · exact .inr ⟨dd, vs, ed, hdd⟩
            · refine ⟨fun pins s σ H Q I w => ?_⟩
              obtain ⟨S, γ, μ, v, st, eo, q⟩ := w
              exact absurd ⟨xs.hK ▸ st.x.1, by rw [xs.hK]; exact st.x.2.1⟩ xd
    · cases h
  | .isx [], e, h => by unfold chkHe at h; cases h
  | .isx (_ :: _ :: _), e, h => by unfold chkHe at h; cases h
  | .not g, e, h => by
    unfold chkHe at h
    cases ee : asUn e with
    | none => rw [ee] at h; cases h
    | some z =>
      obtain ⟨op, p⟩ := z
      rw [ee] at h
      simp only [Bool.and_eq_true, decide_eq_true_eq] at h
      obtain ⟨rfl, h2⟩ := h
      obtain ⟨pp, rfl⟩ := asUn_eq ee
      refine (pe_notT (sndHe xs hz hd hfs g p h2)).imp fun σ H Q w => ?_
      obtain ⟨S, γ, μ, v, st, eo, q⟩ := w
      have eo : heE x γ _ = some v := eo
      unfold heE at eo
      split at eo
      · rename_i b eb
        cases eo
        refine ⟨S, γ, μ, .bl b, st, eb, fun S' w H' st' k r => ⟨b, ?_, q S' _ H' st' k rfl⟩⟩
        cases (show w = .bl b from r)
        rfl
      · cases eo
  | .and g g2, e, h => by
    unfold chkHe at h
    cases ee : asBool e with
    | none => rw [ee] at h; cases h
    | some z =>
      obtain ⟨op, p, q⟩ := z
      rw [ee] at h
      simp only [Bool.and_eq_true, decide_eq_true_eq] at h
      obtain ⟨⟨rfl, h2⟩, h3⟩ := h
      have iha := sndHe xs hz hd hfs g p h2
      have ihb := sndHe xs hz hd hfs g2 q h3
      have key : PE (X.suite a ((a, oe) :: pn)) e (tAndT X.K (TXn c x a cls d i fun γ => heE x γ g) (TXn c x a cls d i fun γ => heE x γ g2)) := by
        obtain ⟨pp, hx⟩ := asBool_eq ee
        rcases hx with rfl | ⟨b', d', r, rfl, rfl⟩
        · exact pe_andT iha (pe_boolop ihb)
        · exact pe_andT iha ihb
      refine key.imp fun σ H Q w => ?_
      obtain ⟨S, γ, μ, v, st, eo, q⟩ := w
      have eo : heE x γ _ = some v := eo
      unfold heE at eo
      split at eo
      · rename_i eb
        refine ⟨S, γ, μ, .bl true, st, eb, fun S' w H' st' k r => ⟨true, ?_, ?_⟩⟩
        · cases (show w = .bl true from r); rfl
        · rw [if_pos rfl]
          exact ⟨S', γ, μ, v, st', eo, fun S2 w2 H2 st2 k2 r2 => q S2 w2 H2 st2 (k.trans k2) r2⟩
      · rename_i eb
        cases eo
        refine ⟨S, γ, μ, .bl false, st, eb, fun S' w H' st' k r => ⟨false, ?_, ?_⟩⟩
        · cases (show w = .bl false from r); rfl
        · rw [if_neg (by decide)]
          exact q S' w H' st' k r
      · cases eo
  | .or g g2, e, h => by
    unfold chkHe at h
    cases ee : asBool e with
    | none => rw [ee] at h; cases h
    | some z =>
      obtain ⟨op, p, q⟩ := z
      rw [ee] at h
      simp only [Bool.and_eq_true, decide_eq_true_eq] at h
      obtain ⟨⟨rfl, h2⟩, h3⟩ := h
      have iha := sndHe xs hz hd hfs g p h2
      have ihb := sndHe xs hz hd hfs g2 q h3
      have key : PE (X.suite a ((a, oe) :: pn)) e (tOrT X.K (TXn c x a cls d i fun γ => heE x γ g) (TXn c x a cls d i fun γ => heE x γ g2)) := by
        obtain ⟨pp, hx⟩ := asBool_eq ee
        rcases hx with rfl | ⟨b', d', r, rfl, rfl⟩
        · exact pe_orT iha (pe_boolop ihb)
        · exact pe_orT iha ihb
      refine key.imp fun σ H Q w => ?_
      obtain ⟨S, γ, μ, v, st, eo, q⟩ := w
      have eo : heE x γ _ = some v := eo
      unfold heE at eo
      split at eo
      · rename_i eb
        cases eo
        refine ⟨S, γ, μ, .bl true, st, eb, fun S' w H' st' k r => ⟨true, ?_, ?_⟩⟩
        · cases (show w = .bl true from r); rfl
        · rw [if_pos rfl]
          exact q S' w H' st' k r
      · rename_i eb
        refine ⟨S, γ, μ, .bl false, st, eb, fun S' w H' st' k r => ⟨false, ?_, ?_⟩⟩
        · cases (show w = .bl false from r); rfl
        · rw [if_neg (by decide)]
          exact ⟨S', γ, μ, v, st', eo, fun S2 w2 H2 st2 k2 r2 => q S2 w2 H2 st2 (k.trans k2) r2⟩
      · cases eo
  | .tup hs, e, h => by
    unfold chkHe at h
    cases ee : asTup e with
    | none => rw [ee] at h; cases h
    | some es =>
      rw [ee] at h
      simp only [Bool.and_eq_true, decide_eq_true_eq] at h
      obtain ⟨k, pp, rfl⟩ := asTup_eq ee
      obtain ⟨ih, il⟩ := sndHes xs hz hd hfs hs es h.1
      refine (pe_tup ih).imp fun σ H Q w => ?_
      obtain ⟨S, γ, μ, v, st, eo, q⟩ := w
      have eo : heE x γ (.tup hs) = some v := eo
      unfold heE at eo
      obtain ⟨vs, ev, rfl⟩ := Option.map_eq_some_iff.mp eo
      refine ⟨S, γ, μ, vs, st, ev, fun S' ws H' st' k r => ⟨?_, fun p hp => ?_⟩⟩
      · rw [r.length, il γ vs ev]; exact big_line (by omega)
      · obtain ⟨s, ok⟩ := step_new (c := c) (o := HO.tup ws) st'.g.st hp
        have k2 := s.kpT st'.g.st.dm
        exact q S' (.ref p) _ (st'.step (st'.g.step s ok) k2) (k.trans k2) ⟨p, ws, rfl, .inl ⟨.inl upd_same, ok_notS st'.g.st hp⟩, r.kp k2.kp⟩
theorem sndHes {N : List Str} {sc : Scope} {cs : List Nat} (xs : XS c X N sc cs) (hz : Zc cls d oe) (hd : ∃ vs, oe.data = .fields vs) (hfs : ∀ q ∈ x.fs, q.1 ∈ fldIds) : ∀ (hs : List HE) (es : List Expr), chkHes N sc i cs hs es = true → PA (X.suite a ((a, oe) :: pn)) es (TXa c x a cls d i fun γ => heEs x γ hs) ∧ ∀ γ vs, heEs x γ hs = some vs → vs.length = es.length
  | [], es, h => by
    unfold chkHes at h
    cases es with
    | cons _ _ => cases h
    | nil =>
      refine ⟨pa_nil.imp fun σ H Q w => ?_, fun γ vs e => ?_⟩
      · obtain ⟨S, γ, μ, v, st, eo, q⟩ := w
        have eo : heEs x γ [] = some v := eo
        unfold heEs at eo
        cases eo
        exact q S [] H st KpT.refl rfl
      · unfold heEs at e; cases e; rfl
  | g :: hs, es, h => by
    unfold chkHes at h
    cases es with
    | nil => cases h
    | cons e es =>
      simp only [Bool.and_eq_true] at h
      obtain ⟨⟨h1, h2⟩, h3⟩ := h
      obtain ⟨ih, il⟩ := sndHes xs hz hd hfs hs es h3
      have eq : ∀ γ vs, heEs x γ (g :: hs) = some vs → ∃ v ws, heE x γ g = some v ∧ heEs x γ hs = some ws ∧ vs = v :: ws := fun γ vs e => by
        unfold heEs at e
        split at e
        · rename_i v ws e1 e2
          cases e
          exact ⟨v, ws, e1, e2, rfl⟩
        · cases e
      refine ⟨(pa_cons (sndHe xs hz hd hfs g e h1) ih (star_cons h2)).imp fun σ H Q w => ?_, fun γ vs e => ?_⟩
      · obtain ⟨S, γ, μ, vs, st, eo, q⟩ := w
        obtain ⟨v, ws, e1, e2, rfl⟩ := eq γ vs eo
        refine ⟨S, γ, μ, v, st, e1, fun S' w H' st' k r => ⟨S', γ, μ, ws, st', e2, fun S2 us H2 st2 k2 r2 => ?_⟩⟩
        exact q S2 (w :: us) H2 st2 (k.trans k2) ⟨w, us, rfl, Rel.kp k2.kp _ _ r, r2⟩
      · obtain ⟨v, ws, e1, e2, rfl⟩ := eq γ vs e
        rw [List.length_cons, List.length_cons, il γ ws e2]
end
/-! ### the statements of a suite -/
def chkHs (N : List Str) (sc : Scope) (i : Option Nat) (cs : List Nat) (fr : Bool) : List HS → List Stmt → Bool
  | [], ss => ss.isEmpty
  | .asg j h :: r, ss => match ss with
    | .Assign [.Name y _] e _ :: ss => stoB N sc (fun _ => true) j y && notComp e && chkHe N sc i cs h e && decide (i ≠ some j) && chkHs N sc i cs fr r ss
    | _ => false
  | .ret h :: r, ss => match ss with
    | [.Return (some e) _] => chkHe N sc i cs h e && !fr && r.isEmpty
    | _ => false
def TXs (c : Ct) (x : Xc) (a : Addr) (cls : Value) (d : Option Addr) (i : Option Nat) (fr : Bool) (hs : List HS) : TS := fun D σ H => ∃ S γ μ, XSt c x a cls d i S γ μ σ H ∧ (heSs x μ hs γ).All (AftS c fr S H D) c.V
theorem sndHs {N : List Str} {sc : Scope} {cs : List Nat} {fr : Bool} (xs : XS c X N sc cs) (hnd : X.N.Nodup) (hfn : ∀ y, X.fn y = true) (hz : Zc cls d oe) (hd : ∃ vs, oe.data = .fields vs) (hfs : ∀ q ∈ x.fs, q.1 ∈ fldIds) :
    ∀ (hs : List HS) (ss : List Stmt), chkHs N sc i cs fr hs ss = true → PSs (X.suite a ((a, oe) :: pn)) ss (TXs c x a cls d i fr hs)
  | [], ss, h => by
    unfold chkHs at h
    cases ss with
    | cons _ _ => cases h
    | nil =>
      refine pss_nil.imp fun D σ H w => ?_
      obtain ⟨S, γ, μ, st, w⟩ := w
      exact w S σ H st.g KpT.refl
  | .asg j g :: r, ss, h => by
    unfold chkHs at h
    split at h
    · rename_i y p e pos ss'
      simp only [Bool.and_eq_true, decide_eq_true_eq] at h
      obtain ⟨⟨⟨⟨h1, h2⟩, h3⟩, h4⟩, h5⟩ := h
      have hst : stoB N sc (fun _ => true) j y = true := h1
      unfold stoB at h1
      simp only [Bool.and_eq_true, Bool.or_eq_true, decide_eq_true_eq] at h1
      obtain ⟨n1, n2⟩ := h1
      have hl : Loc X.env.scope y := by
        rw [xs.scp]
        rcases n2 with n2 | n2
        · exact .inl n2
        · exact .inr n2.1
      refine (pss_cons (ps_set (X := X.suite a ((a, oe) :: pn)) (i := j) hnd (by rw [← xs.nN] at n1; exact n1) hl (sndHe xs hz hd hfs g e h3) (noSwap h2) (.inl (hfn y))) (sndHs xs hnd hfn hz hd hfs r ss' h5)).imp fun D σ H w => ?_
      obtain ⟨S, γ, μ, st, w⟩ := w
      unfold heSs at w
      cases ev : heE x γ g with
      | none => rw [ev] at w; exact w.elim
      | some v =>
        rw [ev] at w
        refine ⟨S, γ, μ, v, st, ev, fun S' w' H' st' k r' => ⟨S', γ.set j (.val v), μ, ⟨st'.g.set j r', st'.x, fun m hm => ?_⟩, AftS.steps k w⟩⟩
        rw [List.getElem?_set_ne (fun z => h4 (by rw [hm, z]))]
        exact st'.n m hm
    · cases h
  | .ret g :: r, ss, h => by
    unfold chkHs at h
    split at h
    · rename_i e pos
      simp only [Bool.and_eq_true, Bool.not_eq_true'] at h
      obtain ⟨⟨h1, h2⟩, h3⟩ := h
      subst h2
      refine (pss_one (ps_ret (sndHe xs hz hd hfs g e h1))).imp fun D σ H w => ?_
      obtain ⟨S, γ, μ, st, w⟩ := w
      unfold heSs at w
      cases ev : heE x γ g with
      | none => rw [ev] at w; exact w.elim
      | some v =>
        rw [ev] at w
        exact ⟨S, γ, μ, v, st, ev, fun S' w' H' st' k r' => w w' H' ⟨S', γ, σ, st'.g, r'⟩⟩
    · cases h
end
theorem _root_.L2.PSs.ex {X : Cx} {ss : List Stmt} {α : Type} {P : α → Prop} {t : α → TS} (h : ∀ x, P x → PSs X ss (t x)) : PSs X ss (fun D σ H => ∃ x, P x ∧ t x D σ H) := ⟨fun pins s σ H D I w => by
  obtain ⟨x, px, w⟩ := w
  exact (h x px).run pins s σ H D I w⟩
/-! ### try -/
def suT (c : Ct) (fr : Bool) (i : Option Nat) (hs : List HS) : SuT := fun a cls d D σ H => ∃ x : Xc, (∀ q ∈ x.fs, q.1 ∈ fldIds) ∧ TXs c x a cls d i fr hs D σ H
def chkHd (N : List Str) (sc : Scope) (cs : List Nat) (fr : Bool) : List Hd → List ExceptHandler → Bool
  | [], es => es.isEmpty
  | ⟨[k], nm', b⟩ :: r, es => match es with
    | .ExceptHandler (some (.Name y _)) n' (s0 :: ss) _ :: es => decide (k ∈ cs) && decide (y = nm k) && glB sc y && okN y && (match nm', n' with
        | none, none => true
        | some j, some n => decide (N[j]? = some n) && decide (sc.names.lookup n = some .local)
        | _, _ => false) && chkHs N sc nm' cs fr b (s0 :: ss) && chkHd N sc cs fr r es
    | _ => false
  | _, _ => false
def hdV (K : PySem.W.Frag) (c : Ct) (fr : Bool) : List Hd → List (Value × Option Nat × SuT)
  | [] => []
  | h :: r => (.ref (He.ga K (nm (h.cs.headD 0))), h.nm, suT c fr h.nm h.b) :: hdV K c fr r
section
variable {c : Ct} {X : Cx} {fr : Bool} {N : List Str} {sc : Scope} {cs : List Nat}
theorem hx_of (xs : XS c X N sc cs) (hnd : X.N.Nodup) (hfn : ∀ y, X.fn y = true) : ∀ (hs : List Hd) (es : List ExceptHandler), chkHd N sc cs fr hs es = true → HX X es (hdV X.K c fr hs)
  | [], es, h => by
    unfold chkHd at h
    cases es with
    | cons _ _ => cases h
    | nil => exact .nil
  | ⟨[k], nm', b⟩ :: r, es, h => by
    unfold chkHd at h
    split at h
    · rename_i y p n' s0 ss pos es'
      simp only [Bool.and_eq_true, decide_eq_true_eq] at h
      obtain ⟨⟨⟨⟨⟨⟨h1, h2⟩, h3⟩, h4⟩, h5⟩, h6⟩, h7⟩ := h
      have ih := hx_of xs hnd hfn r es' h7
      obtain ⟨xk, mk⟩ := xs.cls k h1
      have su : SuOk X (s0 :: ss) (suT c fr nm' b) := fun a oe cls d pn hz hd => PSs.ex fun x px => sndHs xs hnd hfn hz hd px b _ h6
      match nm', n', h5, su with
      | none, none, _, su => exact .bare (gl_of xs.scp h3) (okN_of h4).1 (by rw [h2]; exact mk) su ih
      | some j, some n, h5, su =>
        simp only [Bool.and_eq_true, decide_eq_true_eq] at h5
        exact .named (gl_of xs.scp h3) (okN_of h4).1 (by rw [h2]; exact mk) (by rw [xs.nN]; exact h5.1) (by unfold Env.kindOf; rw [xs.scp]; exact h5.2) su ih
    · cases h
  | ⟨[], _, _⟩ :: _, es, h => by unfold chkHd at h; cases h
  | ⟨_ :: _ :: _, _, _⟩ :: _, es, h => by unfold chkHd at h; cases h
theorem Good.to2 {S S' : Sa} {γ γ' : Ga} {μ μ' : Sto} {σ σ' : L2.St} {H H' : Hp} (g : Good c S γ μ σ H) (g' : Good { c with S1 := S, H1 := H } S' γ' μ' σ' H') : Good c S' γ' μ' σ' H' := ⟨g'.len, g'.sl, g'.ap, g'.st, g'.s0, g'.ext, g'.fr, g'.md, g.kt.trans g'.kt⟩
def VW (c : Ct) (W : WX) (S1 : Sa) (H1 : Hp) : Ct := { c with V := fun x γ μ => ∀ S σ H cls d, Good { c with S1 := S1, H1 := H1 } S γ μ σ H → XRel c.K S H x cls d → W cls d σ H, S1 := S1, H1 := H1 }
theorem vw_of {W : WX} {S1 S : Sa} {H1 H : Hp} {γ : Ga} {μ : Sto} {σ : L2.St} (g : Good (VW c W S1 H1) S γ μ σ H) : Good { c with S1 := S1, H1 := H1 } S γ μ σ H := ⟨g.len, g.sl, g.ap, g.st, g.s0, g.ext, g.fr, g.md, g.kt⟩
theorem vw_start {W : WX} {S : Sa} {H : Hp} {γ : Ga} {μ : Sto} {σ : L2.St} (g : Good c S γ μ σ H) : Good (VW c W S H) S γ μ σ H := ⟨g.len, g.sl, g.ap, g.st, g.s0, g.ext, g.fr, g.md, KpT.refl⟩
theorem vw_takes {W : WX} {S1 : Sa} {H1 : Hp} (tk : Takes X W) : Takes X (WV (VW c W S1 H1)) := tk.imp fun cls d σ H w => by
  obtain ⟨S, γ, μ, x, g, xr, v⟩ := w
  exact v S σ H cls d (vw_of g) xr
theorem hd_of (xs : XS c X N sc cs) {S : Sa} {γ : Ga} {μ : Sto} {σ : L2.St} {H : Hp} {D : Ends} (g : Good c S γ μ σ H) {x : Xc} {γ' : Ga} {μ' : Sto} {S' : Sa} {σ' : L2.St} {H' : Hp} {cls : Value} {d : Option Addr} (g' : Good { c with S1 := S, H1 := H } S' γ' μ' σ' H') (xr : XRel c.K S' H' x cls d) :
    ∀ (hs : List Hd) (es : List ExceptHandler), chkHd N sc cs fr hs es = true → (hdl x γ' μ' hs).All (AftS c fr S H D) c.V → wX X.K (WV c) D (hdV X.K c fr hs) cls d σ' H'
  | [], es, _, h => ⟨S', γ', μ', x, g.to2 g', xr, h⟩
  | ⟨[k], nm', b⟩ :: r, es, hc, h => by
    unfold chkHd at hc
    split at hc
    · rename_i y p n' s0 ss pos es'
      simp only [Bool.and_eq_true, decide_eq_true_eq] at hc
      obtain ⟨⟨⟨⟨⟨⟨h1, _⟩, _⟩, _⟩, _⟩, _⟩, h7⟩ := hc
      obtain ⟨xk, mk⟩ := xs.cls k h1
      have xd : XDef X.K x.c := xs.hK ▸ xr.1
      have ec : cls = .ref (He.ga X.K (nm x.c)) := by rw [xs.hK]; exact xr.2.1
      have hany : ([k].any (subX x.c)) = subX x.c k := by simp
      unfold hdl at h
      refine ⟨subX x.c k, by rw [ec]; exact xs.fx.exm _ _ xd xk, fun e a na => ?_, fun e => ?_⟩
      · have e' : ([k].any (subX x.c)) = true := hany.trans e
        simp only [e', if_true] at h
        cases hj : inJ nm' γ' with
        | false => simp only [hj] at h; exact h.elim
        | true =>
          simp only [hj, if_true] at h
          rw [R.All_bind] at h
          have gc := g.to2 g'
          refine ⟨x, xr.2.2.2, S', dropN nm' γ', μ', ⟨?_, xr, fun j hm => ?_⟩, h.mono (fun fl μ2 h => ?_) fun _ _ _ w => w⟩
          · cases nm' with
            | none => exact gc
            | some j => exact gc.forget j (some (.ref a))
          · subst hm
            have hl : j < σ'.length := by rw [← g'.len]; exact of_decide_eq_true hj
            exact List.getElem?_set_self hl
          · cases fl with
            | nx γ2 =>
              intro S2 σ2 H2 g2 k2
              have h : ∀ S'' σ'' H'', Good c S'' (dropN nm' γ2) μ2 σ'' H'' → KpT S S'' H H'' → D.nx σ'' H'' := h
              cases nm' with
              | none => exact h S2 σ2 H2 g2 (g'.kt.trans k2)
              | some j => exact h S2 _ H2 (g2.forget j none) (g'.kt.trans k2)
            | rt d => cases nm' <;> exact h
            | bk _ => exact h.elim
            | ct _ => exact h.elim
      · have e' : ([k].any (subX x.c)) = false := hany.trans e
        simp only [e'] at h
        exact hd_of xs g g' xr r es' h7 h
    · cases hc
  | ⟨[], _, _⟩ :: _, es, h, _ => by unfold chkHd at h; cases h
  | ⟨_ :: _ :: _, _, _⟩ :: _, es, h, _ => by unfold chkHd at h; cases h
theorem st_try {body : List Stmt} {es : List ExceptHandler} {hs : List Hd} {rb : Ga → Sto → R Fl} {pos : Pos} (xs : XS c X N sc cs) (hst : X.stack = X.env :: X.outer) (hf : X.env.frame = some X.env.locals) (hnd : X.N.Nodup) (hfn : ∀ y, X.fn y = true) (tk : Takes X (WV c))
    (hb : ∀ (W : WX) (S1 : Sa) (H1 : Hp) (pn : List (Addr × Obj)) (xe : Value → Shared → Prop), Takes (X.tr pn xe) W → PassesOwn (model X.prog X.w) X.A X.env xe → PSs (X.tr pn xe) body (TSn (VW c W S1 H1) fr rb))
    (hc : chkHd N sc cs fr hs es = true) (hne : es ≠ []) : PS X (.Try body es [] [] pos) (TSn c fr fun γ μ => (rb γ μ).catch fun x γ' μ' => hdl x γ' μ' hs) := by
  have hx := hx_of (fr := fr) xs hnd hfn hs es hc
  match es, hne, hx, hc with
  | e0 :: es', _, hx, hc =>
    refine (ps_tryX (tb := fun W D σ H => ∃ q : Sa × Hp, True ∧ TSn (VW c W q.1 q.2) fr rb D σ H) hst hf hnd tk (fun W pn xe t1 t2 => PSs.ex fun q _ => hb W q.1 q.2 pn xe t1 t2) hx).imp fun D σ H w => ?_
    obtain ⟨S, γ, μ, g, h⟩ := w
    refine ⟨(S, H), trivial, S, γ, μ, vw_start g, (R.All_catch h).mono (fun fl μ' h => ?_) fun x γ' μ' h S' σ' H' cls d g' xr => hd_of xs g g' xr hs _ hc h⟩
    cases fl with
    | nx γ' => exact fun S' σ' H' g' k => h S' σ' H' (g.to2 (vw_of g')) k
    | bk γ' => exact fun S' σ' H' g' k => h S' σ' H' (g.to2 (vw_of g')) k
    | ct γ' => exact fun S' σ' H' g' k => h S' σ' H' (g.to2 (vw_of g')) k
    | rt d =>
      intro v H' z
      obtain ⟨S', γ', σ', g', z⟩ := z
      exact h v H' ⟨S', γ', σ', g.to2 (vw_of g'), z⟩
end
end Bs
/-! Bs: the checker of statements and of defs; a def keeps its promise. -/
namespace Bs
open PySem L2
def swT (sc : Scope) (y : Str) (py : Pos) : Expr → Bool
  | .ListComp _ _ scope p => decide (sc.names.lookup y = some .local) && (py.line == p.line) && !(scope.names.any fun (n, k) => n == y && (k == .local || k == .cell))
  | _ => false
def isLc : E → Bool
  | .lc _ _ _ _ => true
  | .lc2 _ _ _ _ _ _ _ => true
  | _ => false
def isSLc : E → Bool
  | .sto e => isLc e
  | _ => false
def isFrz : S → Bool
  | .frz _ => true
  | _ => false
mutual
def chkS (n : Nm) (fr : Bool) (sc : Scope) : S → Stmt → Bool
  | .asg t e, st => match st with
    | .Assign [.Name y py] x _ => chk n e sc (fun _ => true) .v x && (match t with
      | [i] => stoB n.N sc (fun _ => true) i y && (((cellT sc y x && sg e) || (swT sc y py x && isLc e)) || (swT sc y py x && isSLc e))
      | _ => false)
    | .Assign [.Tuple es _ _] x _ => chk n e sc (fun _ => true) .v x && sg e && tgsB n.N sc (fun _ => true) t es && decide (2 ≤ t.length) && notComp x && notTupE x
    | _ => false
  | .aug i o e, st => match st with
    | .AugAssign (.Name y _) op x _ => decide (op = bopOf o) && stoB n.N sc (fun _ => true) i y && chk n e sc (fun _ => true) .v x
    | _ => false
  | .oext i e, st => match st with
    | .AugAssign (.Name y _) op x _ => decide (op = .Add) && stoB n.N sc (fun _ => true) i y && chk n e sc (fun _ => true) .v x && fresh n e
    | _ => false
  | .oset i j e, st => match st with
    | .Assign [.Subscript (.Name y _) ix _] x _ => chk n e sc (fun _ => true) .v x && sg e && decide (n.N[i]? = some y) && visB sc y && okN y && chk n j sc (fun _ => true) .v ix && notComp x && pIx ix
    | _ => false
  | .ownd i, st => match st with
    | .Assign [.Name y _] (.Dict [] [] _) _ => stoB n.N sc (fun _ => true) i y
    | _ => false
  | .dset i j e, st => match st with
    | .Assign [.Subscript (.Name y _) ix _] x _ => chk n e sc (fun _ => true) .v x && sg e && decide (n.N[i]? = some y) && visB sc y && okN y && chk n j sc (fun _ => true) .v ix && notComp x
    | _ => false
  | .faug a cc f op e, st => match st with
    | .AugAssign (.Attribute o y _) o2 x _ => decide (y = nm f) && decide (o2 = bopOf op) && chk n e sc (fun _ => true) .v x && chk n a sc (fun _ => true) .v o && (n.ocs.any fun q => q.1 == cc && q.2.contains f)
    | _ => false
  | .fset a cc f e, st => match st with
    | .Assign [.Attribute o y _] x _ => decide (y = nm f) && chk n e sc (fun _ => true) .v x && sg e && chk n a sc (fun _ => true) .v o && notComp x && (n.ocs.any fun q => q.1 == cc && q.2.contains f)
    | _ => false
  | .oagi i j o e, st => match st with
    | .AugAssign (.Subscript (.Name y _) ix _) op x _ => decide (op = bopOf o) && chk n e sc (fun _ => true) .v x && decide (n.N[i]? = some y) && visB sc y && okN y && chk n j sc (fun _ => true) .v ix && pIx ix
    | _ => false
  | .lapp a e, st => match st with
    | .Expr (.Call (.Attribute o m p2) [x] [] p3) _ => decide (m = "append") && chk n a sc (fun _ => true) .v o && chk n e sc (fun _ => true) .v x && sg e && nst x && noCall o && (p2.endLine == p3.line)
    | _ => false
  | .own i e, st => match st with
    | .Assign [.Name y py] x _ => chk n e sc (fun _ => true) .v x && stoB n.N sc (fun _ => true) i y && fresh n e && (cellT sc y x || (swT sc y py x && isLc e))
    | _ => false
  | .app i e, st => match st with
    | .Expr (.Call (.Attribute (.Name y _) m p2) [x] [] p3) _ => decide (m = "append") && decide (n.N[i]? = some y) && visB sc y && okN y && chk n e sc (fun _ => true) .v x && sg e && nst x && (p2.endLine == p3.line)
    | _ => false
  | .popd i, st => match st with
    | .Expr (.Call (.Attribute (.Name y _) m p2) [] [] p3) _ => decide (m = "pop") && decide (n.N[i]? = some y) && visB sc y && okN y && (p2.endLine == p3.line)
    | _ => false
  | .lset a i e, st => match st with
    | .Assign [.Subscript o ix _] x _ => chk n e sc (fun _ => true) .v x && sg e && chk n a sc (fun _ => true) .v o && chk n i sc (fun _ => true) .v ix && notComp x && pIx ix
    | _ => false
  | .expr e, st => match st with
    | .Expr x _ => chk n e sc (fun _ => true) .v x && notComp x
    | _ => false
  | .ret e, st => match st with
    | .Return (some x) _ => chk n e sc (fun _ => true) .v x && (match fr with
      | false => sg e
      | true => fresh n e || (match e with | .ovar _ => true | _ => false))
    | _ => false
  | .retn, st => match st with
    | .Return none _ => !fr
    | _ => false
  | .ite d a b, st => match st with
    | .If t p q _ => chk n d sc (fun _ => true) .t t && chkSs n fr sc a p && chkSs n fr sc b q
    | _ => false
  | .forr t it b _, st => match st with
    | .For tg x body [] _ => chk n it sc (fun _ => true) (.i tg) x && sg it && noSet x && tgB n.N sc (fun _ => true) t tg && chkSs n fr sc b body
    | _ => false
  | .whil d b _, st => match st with
    | .While t body [] _ => chk n d sc (fun _ => true) .t t && chkSs n fr sc b body
    | _ => false
  | .par i j a b, st => match st with
    | .Assign [.Tuple [.Name y py, .Name z pz] _ _] (.Tuple [xa, xb] _ _) _ => isEs n [a, b] sc (fun _ => true) [xa, xb] && sg a && sg b && decide (i ≠ j) && decide (n.N[i]? = some y) && decide (n.N[j]? = some z) && decide (sc.names.lookup y = some .local) && decide (sc.names.lookup z = some .local) && decide (y ≠ z) && (pz.line == py.line) && nst xa && nst xb && !([xa, xb].all (foldedForSure 8)) && !([xa, xb].all (constantsAlone 8))
    | _ => false
  | .pass, st => match st with
    | .Pass _ => true
    | _ => false
  | .brk, st => match st with
    | .Break _ => true
    | _ => false
  | .cont, st => match st with
    | .Continue _ => true
    | _ => false
  | .frz _, _ => false
  | .raise_, _ => true
  | .rais c fl es, st => match st with
    | .Raise (some (.Call (.Name x _) xs [] _)) none _ => decide (x = nm c) && glB sc x && decide ((c, fl) ∈ n.xcs) && isEs n es sc (fun _ => true) xs && es.all sg && decide (xs.length = fl.length) && fl.all (fun f => decide (f ∈ fldIds))
    | _ => false
  | .try_ b hs, st => match st with
    | .Try body es [] [] _ => chkSs n fr sc b body && chkHd n.N sc (n.xcs.map (·.1)) fr hs es && !es.isEmpty
    | _ => false
def chkSs (n : Nm) (fr : Bool) (sc : Scope) : List S → List Stmt → Bool
  | [], ss => ss.isEmpty
  | s :: r, ss => (isFrz s && chkSs n fr sc r ss) || (match ss with
    | st :: ss' => chkS n fr sc s st && chkSs n fr sc r ss'
    | [] => false)
end
section
variable {c : Ct} {n : Nm} {gl : Nat → Option D} {cl : Nat → List D → Sto → R D} {k : Nat} {sc : Scope} {fr : Bool} {X : Cx}
theorem swap_of {y : Str} {py : Pos} {elt : Expr} {gs : List Comprehension} {scope : Scope} {p : Pos} {l : Nat} (hk : X.env.scope.kind = .function) (hsc : X.env.scope = sc) (h : swT sc y py (.ListComp elt gs scope p) = true) :
    swapsWith (.ListComp elt gs scope p) (some (.Name y py)) l X.env = pure true ∧ X.env.scope.names.lookup y = some .local := by
  have h' : (decide (sc.names.lookup y = some .local) && (py.line == p.line) && !(scope.names.any fun (n, k) => n == y && (k == .local || k == .cell))) = true := h
  simp only [Bool.and_eq_true, decide_eq_true_eq, Bool.not_eq_true'] at h'
  obtain ⟨⟨h1, h2⟩, h3⟩ := h'
  have h1' : X.env.scope.names.lookup y = some .local := by rw [hsc]; exact h1
  exact ⟨sw_true hk h1' h2 h3, h1'⟩
/-- name = [..] on one line -/
theorem lc_set {e : E} {i : Nat} {y : Str} {py pos : Pos} {x : Expr} (ok : XOk c n gl cl k sc (fun _ => true) X) (hk : X.env.scope.kind = .function) (he : isLc e = true) (h : chk n e sc (fun _ => true) .v x = true) (hs : stoB n.N sc (fun _ => true) i y = true) (hw : swT sc y py x = true) :
    PS X (.Assign [.Name y py] x pos) (tAsg (TFn c (denE gl cl e)) (gName i)) := by
  have st := ok.sto hs
  cases e with
  | lc t it d e =>
    unfold chk at h
    rw [Bool.and_eq_true] at h
    obtain ⟨hm, h⟩ := h
    split at h
    · rename_i elt tg itx ifs scope ee
      simp only [Bool.and_eq_true] at h
      obtain ⟨⟨⟨⟨⟨⟨h1, h2⟩, h3⟩, h4⟩, h5⟩, h6⟩, h7⟩ := h
      obtain ⟨pp, rfl⟩ := asLc1_eq ee
      obtain ⟨hb, ho⟩ := blk_of h3
      obtain ⟨hsw, hyl⟩ := swap_of (l := pos.line) hk ok.scp hw
      have hi : PI X tg itx (TIn c false fun γ μ => (denE gl cl it γ μ).bind itemsR) := PI.imp (snd it sc _ (.i tg) itx X h1 ok) fun σ H Q w => by
        obtain ⟨S, γ, μ, g, w⟩ := w
        exact ⟨S, γ, μ, g, w.mono (fun ds μ' q S' J H' g' s wk => q S' J H' g' s (wk.weak g'.st.dm)) fun _ _ _ z => z⟩
      have key := ps_setLc (X := X) (pos := pp) ok.calm ok.nd st.ix hyl hsw hi (by rw [ok.nN, ok.scp]; exact hb) (fun s H C cs fp => (ok.blk s H scope C cs fp).tg h4) (fun s H C cs fp => sndC d _ _ ifs _ h5 (ok.blk s H scope C cs fp))
        (fun s H C cs fp => by have := (snd e _ _ .v elt _ h6 (ok.blk s H scope C cs fp)).1; rw [h7] at this; exact this) (folded h2 _)
      rw [ho] at key
      exact key.imp fun E σ H w => lc_imp w
    · cases h
  | lc2 t it d t2 it2 d2 e =>
    unfold chk at h
    rw [Bool.and_eq_true] at h
    obtain ⟨hm, h⟩ := h
    split at h
    · rename_i elt tg itx ifs tg1 itx1 ifs1 scope ee
      simp only [Bool.and_eq_true] at h
      obtain ⟨⟨⟨⟨⟨⟨⟨h1, h2⟩, h3⟩, h4⟩, h5⟩, h6⟩, h7⟩, ⟨⟨⟨h8, h9⟩, h10⟩, h11⟩, h12⟩ := h
      obtain ⟨pp, rfl⟩ := asLc2_eq ee
      obtain ⟨hb, ho⟩ := blk_of h3
      obtain ⟨hsw, hyl⟩ := swap_of (l := pos.line) hk ok.scp hw
      have hi : PI X tg itx (TIn c false fun γ μ => (denE gl cl it γ μ).bind itemsR) := PI.imp (snd it sc _ (.i tg) itx X h1 ok) fun σ H Q w => by
        obtain ⟨S, γ, μ, g, w⟩ := w
        exact ⟨S, γ, μ, g, w.mono (fun ds μ' q S' J H' g' s wk => q S' J H' g' s (wk.weak g'.st.dm)) fun _ _ _ z => z⟩
      have key := ps_setLc2 (X := X) (pos := pp) (vs1 := t2) ok.calm ok.nd st.ix hyl hsw hi (by rw [ok.nN, ok.scp]; exact hb) (by rw [ho]; exact fun i hi => List.mem_append_right _ hi) (fun s H C cs fp => (ok.blk s H scope C cs fp).tg h4) (fun s H C cs fp => sndC d _ _ ifs _ h5 (ok.blk s H scope C cs fp))
        (fun s H C cs fp => by have := snd it2 _ _ (.i tg1) itx1 _ h8 (ok.blk s H scope C cs fp); unfold Post at this; rw [h10] at this; exact this)
        (fun s H C cs fp => (ok.blk s H scope C cs fp).tg h11) (fun s H C cs fp => sndC d2 _ _ ifs1 _ h12 (ok.blk s H scope C cs fp))
        (fun s H C cs fp => by have := (snd e _ _ .v elt _ h6 (ok.blk s H scope C cs fp)).1; rw [h7] at this; exact this) (folded h2 _) (folded h9)
      rw [ho] at key
      exact key.imp fun E σ H w => lc2_imp w
    · cases h
  | _ => cases he
end
structure SOk (c : Ct) (n : Nm) (gl : Nat → Option D) (cl : Nat → List D → Sto → R D) (k : Nat) (sc : Scope) (X : Cx) : Prop where
  ok : XOk c n gl cl k sc (fun _ => true) X
  hk : X.env.scope.kind = .function
  hp : PassesOwn (model X.prog X.w) X.A X.env X.xe
  hs : X.stack = X.env :: X.outer
  hf : X.env.frame = some X.env.locals
  fn : ∀ y, X.fn y = true
  fx : FactX X.K
  xc : ∀ q ∈ n.xcs, XcOk X q.1 q.2
  r2 : Room 2 X.A
theorem SOk.xs {c : Ct} {n : Nm} {gl : Nat → Option D} {cl : Nat → List D → Sto → R D} {k : Nat} {sc : Scope} {X : Cx} (o : SOk c n gl cl k sc X) : XS c X n.N sc (n.xcs.map (·.1)) where
  hK := o.ok.hK
  nN := o.ok.nN
  scp := o.ok.scp
  fx := o.fx
  mis := o.ok.blt _ mem_isi
  cls := fun k hk => by
    rw [List.mem_map] at hk
    obtain ⟨q, hq, rfl⟩ := hk
    exact ⟨(o.xc q hq).1, (o.xc q hq).2.1⟩
section
variable {n : Nm} {gl : Nat → Option D} {cl : Nat → List D → Sto → R D} {k : Nat} {sc : Scope} {fr : Bool}
mutual
theorem sndS : ∀ (s : S) (c : Ct) (X : Cx) (ok0 : SOk c n gl cl k sc X) (st : Stmt), chkS n fr sc s st = true → PS X st (TSn c fr (denS gl cl s))
  | .asg t e, c, X, ok0, st, h => by
    have ok := ok0.ok
    have hk := ok0.hk
    have hp := ok0.hp
    unfold chkS at h
    split at h
    · rename_i y py x pos
      rw [Bool.and_eq_true] at h
      obtain ⟨h1, h⟩ := h
      split at h
      · rename_i i
        simp only [Bool.and_eq_true, Bool.or_eq_true] at h
        obtain ⟨h2, (h | h) | h⟩ := h
        · have he := (snd e sc _ .v x X h1 ok).1
          rw [h.2] at he
          exact st_asg ok.nd (ok.sto h2) he (by rw [ok.scp]; exact h.1)
        · exact (lc_set ok hk h.2 h1 h2 h.1).imp fun E σ H w => asg1_imp w
        · cases e with
          | sto e' =>
            unfold chk at h1
            simp only [Bool.and_eq_true] at h1
            exact (lc_set ok hk h.2 h1.1.2 h2 h.1).imp fun E σ H w => asgS_imp w
          | _ => cases h.2
      · cases h
    · rename_i es kk pt x pos
      simp only [Bool.and_eq_true, decide_eq_true_eq] at h
      obtain ⟨⟨⟨⟨⟨h1, h2⟩, h3⟩, h4⟩, h5⟩, h6⟩ := h
      have he := (snd e sc _ .v x X h1 ok).1
      rw [h2] at he
      exact st_asgT ok.hK ok.calm ok.nd (ok.tgs h3) h4 he h5 h6
    · cases h
  | .par i j a b, c, X, ok0, st, h => by
    have ok := ok0.ok
    have hk := ok0.hk
    unfold chkS at h
    split at h
    · rename_i y py z pz k1 p1 xa xb k2 p2 pos
      simp only [Bool.and_eq_true, decide_eq_true_eq, Bool.not_eq_true'] at h
      obtain ⟨⟨⟨⟨⟨⟨⟨⟨⟨⟨⟨⟨⟨h1, h2⟩, h3⟩, h4⟩, h5⟩, h6⟩, h7⟩, h8⟩, h9⟩, h10⟩, h11⟩, h12⟩, h13⟩, h14⟩ := h
      have ha := (sndEs [a, b] sc (fun _ => true) [xa, xb] X h1 ok).2.1 (by rw [List.all_cons, List.all_cons, h2, h3]; rfl)
      have hy : X.env.scope.names.lookup y = some .local := by rw [ok.scp]; exact h7
      have hz : X.env.scope.names.lookup z = some .local := by rw [ok.scp]; exact h8
      exact st_par ok.calm ok.nd (by rw [ok.nN]; exact h5) (by rw [ok.nN]; exact h6) h4 hy hz ha (sw_par hk hy hz h9 h10 h11 h12 h13 h14)
    · cases h
  | .aug i o e, c, X, ok0, st, h => by
    have ok := ok0.ok
    unfold chkS at h
    split at h
    · rename_i y p1 op x pos
      simp only [Bool.and_eq_true, decide_eq_true_eq] at h
      obtain ⟨⟨h1, h2⟩, h3⟩ := h
      subst h1
      exact st_aug ok.nd o (ok.sto h2) (snd e sc _ .v x X h3 ok).1
    · cases h
  | .oext i e, c, X, ok0, st, h => by
    have ok := ok0.ok
    unfold chkS at h
    split at h
    · rename_i y p1 op x pos
      simp only [Bool.and_eq_true, decide_eq_true_eq] at h
      obtain ⟨⟨⟨h1, h2⟩, h3⟩, h4⟩ := h
      subst h1
      exact st_oext ok.nd (ok.sto h2) ((snd e sc _ .v x X h3 ok).2 h4)
    · cases h
  | .oset i j e, c, X, ok0, st, h => by
    have ok := ok0.ok
    unfold chkS at h
    split at h
    · rename_i y p2 ix p1 x pos
      simp only [Bool.and_eq_true, decide_eq_true_eq] at h
      obtain ⟨⟨⟨⟨⟨⟨⟨h1, h2⟩, h3⟩, h4⟩, h5⟩, h6⟩, h7⟩, h8⟩ := h
      have he := (snd e sc _ .v x X h1 ok).1
      rw [h2] at he
      exact st_oset (by rw [ok.nN]; exact h3) (ok.vis h4) (okN_of h5).1 (okN_of h5).2 he (snd j sc _ .v ix X h6 ok).1 h7 h8
    · cases h
  | .ownd i, c, X, ok0, st, h => by
    have ok := ok0.ok
    unfold chkS at h
    split at h
    · exact st_ownd ok.nd (ok.sto h)
    · cases h
  | .dset i j e, c, X, ok0, st, h => by
    have ok := ok0.ok
    unfold chkS at h
    split at h
    · rename_i y p2 ix p1 x pos
      simp only [Bool.and_eq_true, decide_eq_true_eq] at h
      obtain ⟨⟨⟨⟨⟨⟨h1, h2⟩, h3⟩, h4⟩, h5⟩, h6⟩, h7⟩ := h
      have he := (snd e sc _ .v x X h1 ok).1
      rw [h2] at he
      exact st_dset (by have := ok.u65; omega) (by rw [ok.nN]; exact h3) (ok.vis h4) (okN_of h5).1 (okN_of h5).2 he (snd j sc _ .v ix X h6 ok).1 h7
    · cases h
  | .oagi i j o e, c, X, ok0, st, h => by
    have ok := ok0.ok
    unfold chkS at h
    split at h
    · rename_i y p2 ix p1 op x pos
      simp only [Bool.and_eq_true, decide_eq_true_eq] at h
      obtain ⟨⟨⟨⟨⟨⟨h1, h2⟩, h3⟩, h4⟩, h5⟩, h6⟩, h8⟩ := h
      subst h1
      exact st_oagi ok.hK o (by rw [ok.nN]; exact h3) (ok.vis h4) (okN_of h5).1 (okN_of h5).2 (snd j sc _ .v ix X h6 ok).1 (snd e sc _ .v x X h2 ok).1 h8
    · cases h
  | .faug a cc f op e, c, X, ok0, st, h => by
    have ok := ok0.ok
    unfold chkS at h
    split at h
    · rename_i o y p1 o2 x p2
      simp only [Bool.and_eq_true, decide_eq_true_eq] at h
      obtain ⟨⟨⟨⟨h1, h2⟩, h3⟩, h4⟩, h6⟩ := h
      subst h1 h2
      obtain ⟨q, hq, hc⟩ := List.any_eq_true.mp h6
      simp only [Bool.and_eq_true, beq_iff_eq, List.contains_iff_mem] at hc
      have oc := ok.ocs q hq
      rw [hc.1] at oc
      obtain ⟨hf, hna⟩ := oc.no f hc.2
      exact st_faug ok.hK (snd a sc _ .v o X h4 ok).1 (snd e sc _ .v x X h3 ok).1 hf (by rw [← ok.hK]; exact hna)
    · cases h
  | .fset a cc f e, c, X, ok0, st, h => by
    have ok := ok0.ok
    unfold chkS at h
    split at h
    · rename_i o y p1 x p2
      simp only [Bool.and_eq_true, decide_eq_true_eq] at h
      obtain ⟨⟨⟨⟨⟨h1, h2⟩, h3⟩, h4⟩, h5⟩, h6⟩ := h
      subst h1
      obtain ⟨q, hq, hc⟩ := List.any_eq_true.mp h6
      simp only [Bool.and_eq_true, beq_iff_eq, List.contains_iff_mem] at hc
      have oc := ok.ocs q hq
      rw [hc.1] at oc
      obtain ⟨hf, hna⟩ := oc.no f hc.2
      have he := (snd e sc _ .v x X h2 ok).1
      rw [h3] at he
      exact st_fset ok.hK (snd a sc _ .v o X h4 ok).1 he h5 hf (by rw [← ok.hK]; exact hna)
    · cases h
  | .lapp a e, c, X, ok0, st, h => by
    have ok := ok0.ok
    unfold chkS at h
    split at h
    · rename_i o m p2 x p3 p4
      simp only [Bool.and_eq_true, decide_eq_true_eq] at h
      obtain ⟨⟨⟨⟨⟨⟨h1, h2⟩, h3⟩, h4⟩, h5⟩, h6⟩, h7⟩ := h
      subst h1
      have he := (snd e sc _ .v x X h3 ok).1
      rw [h4] at he
      exact st_lapp (snd a sc _ .v o X h2 ok).1 he h5 h6 h7
    · cases h
  | .own i e, c, X, ok0, st, h => by
    have ok := ok0.ok
    have hk := ok0.hk
    have hp := ok0.hp
    unfold chkS at h
    split at h
    · rename_i y py x pos
      simp only [Bool.and_eq_true, Bool.or_eq_true] at h
      obtain ⟨⟨⟨h1, h2⟩, h3⟩, h | h⟩ := h
      · exact st_own ok.nd (ok.sto h2) ((snd e sc _ .v x X h1 ok).2 h3) (by rw [ok.scp]; exact h)
      · exact (lc_set ok hk h.2 h1 h2 h.1).imp fun E σ H w => own_imp w
    · cases h
  | .app i e, c, X, ok0, st, h => by
    have ok := ok0.ok
    have hk := ok0.hk
    have hp := ok0.hp
    unfold chkS at h
    split at h
    · rename_i y p1 m p2 x p3 p4
      simp only [Bool.and_eq_true, decide_eq_true_eq] at h
      obtain ⟨⟨⟨⟨⟨⟨⟨h1, h2⟩, h3⟩, h4⟩, h5⟩, h6⟩, h7⟩, h8⟩ := h
      subst h1
      have he := (snd e sc _ .v x X h5 ok).1
      rw [h6] at he
      exact st_app ok.hK (by rw [ok.nN]; exact h2) (ok.vis h3) (okN_of h4).1 (okN_of h4).2 he h7 h8
    · cases h
  | .popd i, c, X, ok0, st, h => by
    have ok := ok0.ok
    have hk := ok0.hk
    have hp := ok0.hp
    unfold chkS at h
    split at h
    · rename_i y p1 m p2 p3 p4
      simp only [Bool.and_eq_true, decide_eq_true_eq] at h
      obtain ⟨⟨⟨⟨h1, h2⟩, h3⟩, h4⟩, h5⟩ := h
      subst h1
      exact st_pop ok.hK (by rw [ok.nN]; exact h2) (ok.vis h3) (okN_of h4).1 (okN_of h4).2 h5
    · cases h
  | .lset a i e, c, X, ok0, st, h => by
    have ok := ok0.ok
    have hk := ok0.hk
    have hp := ok0.hp
    unfold chkS at h
    split at h
    · rename_i o ix p1 x pos
      simp only [Bool.and_eq_true] at h
      obtain ⟨⟨⟨⟨⟨h1, h2⟩, h3⟩, h4⟩, h5⟩, h6⟩ := h
      have he := (snd e sc _ .v x X h1 ok).1
      rw [h2] at he
      exact st_lset ok.hK he (snd a sc _ .v o X h3 ok).1 (snd i sc _ .v ix X h4 ok).1 h5 h6
    · cases h
  | .expr e, c, X, ok0, st, h => by
    have ok := ok0.ok
    have hk := ok0.hk
    have hp := ok0.hp
    unfold chkS at h
    split at h
    · rename_i x pos
      rw [Bool.and_eq_true] at h
      exact st_expr (snd e sc _ .v x X h.1 ok).1 h.2
    · cases h
  | .ret e, c, X, ok0, st, h => by
    have ok := ok0.ok
    have hk := ok0.hk
    have hp := ok0.hp
    unfold chkS at h
    split at h
    · rename_i x pos
      rw [Bool.and_eq_true] at h
      obtain ⟨h1, h2⟩ := h
      have ih := snd e sc _ .v x X h1 ok
      cases fr with
      | false =>
        have he := ih.1
        have h2' : sg e = true := h2
        rw [h2'] at he
        exact st_ret he
      | true =>
        rw [Bool.or_eq_true] at h2
        rcases h2 with h2 | h2
        · exact st_retF (ih.2 h2)
        · cases e with
          | ovar i =>
            unfold chk at h1
            rw [Bool.and_eq_true] at h1
            cases ee : asName x with
            | none => rw [ee] at h1; exact absurd h1.2 (by simp)
            | some y =>
              rw [ee] at h1
              simp only [Bool.and_eq_true, decide_eq_true_eq] at h1
              obtain ⟨hm, ⟨g1, g2⟩, g3⟩ := h1
              obtain ⟨p, rfl⟩ := asName_eq ee
              exact st_retO (by rw [ok.nN]; exact g1) (ok.vis g2) (okN_of g3).1 (okN_of g3).2
          | _ => cases h2
    · cases h
  | .retn, c, X, ok0, st, h => by
    have ok := ok0.ok
    have hk := ok0.hk
    have hp := ok0.hp
    unfold chkS at h
    split at h
    · cases fr with
      | false => exact st_retn
      | true => cases h
    · cases h
  | .ite d a b, c, X, ok0, st, h => by
    have ok := ok0.ok
    have hk := ok0.hk
    have hp := ok0.hp
    unfold chkS at h
    split at h
    · rename_i t p q pos
      simp only [Bool.and_eq_true] at h
      obtain ⟨⟨h1, h2⟩, h3⟩ := h
      exact st_ite (snd d sc _ .t t X h1 ok).1 (sndSs a c X ok0 p h2) (sndSs b c X ok0 q h3)
    · cases h
  | .forr t it b kill, c, X, ok0, st, h => by
    have ok := ok0.ok
    have hk := ok0.hk
    have hp := ok0.hp
    unfold chkS at h
    split at h
    · rename_i tg x body pos
      simp only [Bool.and_eq_true] at h
      obtain ⟨⟨⟨⟨h1, h2⟩, h3⟩, h4⟩, h5⟩ := h
      have hi := snd it sc _ (.i tg) x X h1 ok
      unfold Post at hi
      rw [h2] at hi
      exact st_for hp ok.calm hi (ok.tg h4) (sndSs b c X ok0 body h5) h3
    · cases h
  | .whil d b kill, c, X, ok0, st, h => by
    have ok := ok0.ok
    have hk := ok0.hk
    have hp := ok0.hp
    unfold chkS at h
    split at h
    · rename_i t body pos
      simp only [Bool.and_eq_true] at h
      exact st_while hp (snd d sc _ .t t X h.1 ok).1 (sndSs b c X ok0 body h.2)
    · cases h
  | .pass, c, X, ok0, st, h => by
    have ok := ok0.ok
    have hk := ok0.hk
    have hp := ok0.hp
    unfold chkS at h
    split at h
    · exact st_pass
    · cases h
  | .brk, c, X, ok0, st, h => by
    have ok := ok0.ok
    have hk := ok0.hk
    have hp := ok0.hp
    unfold chkS at h
    split at h
    · exact st_brk
    · cases h
  | .cont, c, X, ok0, st, h => by
    have ok := ok0.ok
    have hk := ok0.hk
    have hp := ok0.hp
    unfold chkS at h
    split at h
    · exact st_cont
    · cases h
  | .frz _, c, X, ok0, st, h => by unfold chkS at h; cases h
  | .rais xc fl es, c, X, ok0, st, h => by
    unfold chkS at h
    split at h
    · rename_i x p xs p2 pos
      simp only [Bool.and_eq_true, decide_eq_true_eq, List.all_eq_true] at h
      obtain ⟨⟨⟨⟨⟨⟨h1, h2⟩, h3⟩, h4⟩, h5⟩, h6⟩, h7⟩ := h
      subst h1
      obtain ⟨i1, i2, i3, i4⟩ := sndEs es sc _ xs X h4 ok0.ok
      refine st_rais ok0.ok.hK ok0.ok.calm ok0.ok.tk ok0.r2 (ok0.xc _ h3) (ok0.ok.gl' h2) (i2 (by simpa using h5)) i3 h6 (fun e γ μ => ?_) (fun f hf => h7 f hf)
      have e0 : es = [] := List.length_eq_zero_iff.mp (by rw [← i4, h6, e]; rfl)
      subst e0
      unfold denEs
      rfl
    · cases h
  | .try_ b hs, c, X, ok0, st, h => by
    unfold chkS at h
    split at h
    · rename_i body es pos
      simp only [Bool.and_eq_true, Bool.not_eq_true'] at h
      obtain ⟨⟨h1, h2⟩, h3⟩ := h
      refine st_try ok0.xs ok0.hs ok0.hf ok0.ok.nd ok0.fn ok0.ok.tk (fun W S1 H1 pn xe t1 t2 => ?_) h2 (by intro z; rw [z] at h3; cases h3)
      have o := ok0.ok
      exact sndSs b (VW c W S1 H1) (X.tr pn xe) ⟨⟨o.hK, o.nN, o.nd, o.scp, o.fn, o.calm, o.z0, vw_takes t1, o.room, o.room1, o.ocs, o.blt, o.gls, o.glx, o.fns⟩, ok0.hk, t2, ok0.hs, ok0.hf, ok0.fn, ok0.fx, ok0.xc, ok0.r2⟩ body h1
    · cases h
  | .raise_, c, X, ok0, st, h => ps_never.imp fun E σ H w => by obtain ⟨S, γ, μ, g, h⟩ := w; exact h
theorem sndSs : ∀ (l : List S) (c : Ct) (X : Cx) (ok0 : SOk c n gl cl k sc X) (ss : List Stmt), chkSs n fr sc l ss = true → PSs X ss (TSn c fr (denSs gl cl l))
  | [], c, X, ok0, ss, h => by
    have ok := ok0.ok
    have hk := ok0.hk
    have hp := ok0.hp
    unfold chkSs at h
    cases ss with
    | nil => exact ss_nil
    | cons _ _ => cases h
  | s :: r, c, X, ok0, ss, h => by
    have ok := ok0.ok
    have hk := ok0.hk
    have hp := ok0.hp
    unfold chkSs at h
    rw [Bool.or_eq_true] at h
    rcases h with h | h
    · rw [Bool.and_eq_true] at h
      have ih := sndSs r c X ok0 ss h.2
      cases s with
      | frz i =>
        refine (pss_fz ih).imp fun E σ H w => ?_
        obtain ⟨S, γ, μ, g, h⟩ := w
        have h : ((denS gl cl (.frz i) γ μ).bind fun fl μ => match fl with | .nx γ' => denSs gl cl r γ' μ | _ => .ok fl μ).All (AftS c fr S H E) c.V := h
        rw [R.All_bind] at h
        have h : (match γ[i]? with | some (.own (.lst xs)) => R.ok (.nx (γ.set i (.val (.lst xs)))) μ | some (.own (.dic kvs)) => R.ok (.nx (γ.set i (.val (.dic kvs)))) μ | _ => .ok (.nx γ) μ : R Fl).All (fun fl μ => (match fl with | .nx γ' => denSs gl cl r γ' μ | _ => .ok fl μ : R Fl).All (AftS c fr S H E) c.V) c.V := h
        split at h
        · rename_i xs e
          obtain ⟨S', g', k'⟩ := g.freeze ok.z0 e
          exact .inl ⟨S', _, μ, g', AftS.steps k' h⟩
        · rename_i kvs e
          obtain ⟨p, u, hp, mu, hf⟩ := g.freezeD ok.z0 e
          refine .inr ⟨p, u, hp, mu, fun od => ?_⟩
          obtain ⟨S', g', k'⟩ := hf od
          exact ⟨S', _, μ, g', AftS.steps k' h⟩
        · exact .inl ⟨S, γ, μ, g, h⟩
      | _ => cases h.1
    · cases ss with
      | nil => cases h
      | cons st ss' =>
        rw [Bool.and_eq_true] at h
        exact ss_cons (sndS s c X ok0 st h.1) (sndSs r c X ok0 ss' h.2)
end
end
/-! ### defs -/
structure Dr where
  I : FnI
  N : List Str
  st : Stmt
  body : List S
def Dr.fn (d : Dr) : Fn := ⟨d.I.ps.length, d.N.length, d.I.fr, d.body⟩
def Dr.ok (fns : List FnI) (gls : List Str) (shs : List Sh) (xcs : List (Nat × List Nat)) (ocs : List (Nat × List Nat)) (d : Dr) : Bool := chkSs ⟨d.N, fns, gls, shs, xcs, ocs⟩ d.I.fr (C8.fnScope d.st) d.body (C8.fnBody d.st) && C8.scC d.N d.I.ps (C8.fnScope d.st)
section
variable {K : PySem.W.Frag} {S S' : Sa} {γ : Ga} {μ μ' : Sto} {σ : L2.St} {H H' : Hp}
theorem Good.out {S1 : Sa} {H1 : Hp} {W : Xc → Ga → Sto → Prop} (ok0 : StoOk K S μ H) (g : Good ⟨K, S, μ, H, W, S1, H1⟩ S' γ μ' σ H') (T : Sa) (hT : ∀ a, T a → S' a ∧ H a = none) : Step S μ H (fun a => S a ∨ Dm μ' a ∨ T a) μ' H' ∧ StoOk K (fun a => S a ∨ Dm μ' a ∨ T a) μ' H' ∧ Kp S' (fun a => S a ∨ Dm μ' a ∨ T a) H' H' := by
  have hsub : ∀ a, (S a ∨ Dm μ' a ∨ T a) → S' a := fun a z => by
    rcases z with z | z | z
    · exact g.s0 a z
    · exact g.st.dm a z
    · exact (hT a z).1
  have k : Kp S' (fun a => S a ∨ Dm μ' a ∨ T a) H' H' := ⟨fun _ _ h _ => h, fun a z => .inl (hsub a z)⟩
  refine ⟨⟨g.ext, fun a h h' => h (g.h0 h'), fun a z => ?_, fun a z => .inl z, g.md, g.fr⟩, ⟨fun p o e => ⟨.inr (.inl (by unfold Dm; rw [e]; exact fun z => nomatch z)), (g.st.st p o e).2.kp k rfl⟩, fun a z => g.st.sd a (hsub a z)⟩, k⟩
  rcases z with z | z | z
  · exact .inl z
  · rcases g.fr a z with y | y
    · exact .inl (ok0.dm a y)
    · exact .inr y
  · exact .inr (hT a z).2
theorem good_start {W : Xc → Ga → Sto → Prop} {N : List Str} {ds : List D} {vs : List V} (ok : StoOk K S μ H) (r : Rels K S H ds vs) (hl : ds.length ≤ N.length) : Good ⟨K, S, μ, H, W, S, H⟩ S (ds.map Sl.val ++ List.replicate (N.length - ds.length) .un) μ (start N vs) H := by
  have hv := r.length
  have case : ∀ (i : Nat) s, (ds.map Sl.val ++ List.replicate (N.length - ds.length) .un)[i]? = some s → (∃ d v, s = .val d ∧ (start N vs)[i]? = some (some v) ∧ Rel K S H d v) ∨ s = .un := by
    intro i s e
    by_cases hi : i < ds.length
    · rw [List.getElem?_append_left (by simpa using hi), List.getElem?_map, List.getElem?_eq_getElem hi] at e
      cases e
      obtain ⟨v, ev, rv⟩ := r.get (List.getElem?_eq_getElem hi)
      refine .inl ⟨_, v, rfl, ?_, rv⟩
      unfold L2.start
      rw [List.getElem?_append_left (by rw [List.length_map, hv]; exact hi), List.getElem?_map, ev]
      rfl
    · rw [List.getElem?_append_right (by simpa using hi), List.getElem?_replicate] at e
      split at e <;> cases e
      exact .inr rfl
  refine ⟨?_, fun i s e => ?_, fun i j o o' p e1 e2 _ _ => ?_, ok, fun _ h => h, fun _ _ h _ => h, fun _ h => .inl h, fun _ h => h, KpT.refl⟩
  · unfold L2.start
    rw [List.length_append, List.length_append, List.length_map, List.length_map, List.length_replicate, List.length_replicate, hv]
  · rcases case i s e with ⟨d, v, rfl, e1, r1⟩ | rfl
    · exact ⟨v, e1, r1⟩
    · trivial
  · rcases case i _ e1 with ⟨d, v, z, _⟩ | z <;> cases z
end
/-- every def, to every depth -/
def FD (K : PySem.W.Frag) (d : Dr) (a : Addr) (fd : FuncData) : Prop := FunD K d.I.name d.I.q (C8.fnArgs d.st) (C8.fnBody d.st) (C8.fnScope d.st) [] [] a fd
/-- a call of this shape binds -/
def ShOk (d : Dr) (sh : Sh) : Prop := (∀ (kV doc pm : Value) (an : Option Addr) (cdv ct : Value) (us ws : List Value), us.length = sh.na → ws.length = sh.ks.length → bindArgs (PySem.W.fnOf d.I.name d.I.q (C8.fnArgs d.st) (C8.fnBody d.st) (C8.fnScope d.st) .none kV doc pm an cdv ct) ⟨us, sh.ks.zip ws⟩ = pure (d.I.ps.zip (arr sh.pm (us ++ ws)))) ∧
  ∀ xs : List D, xs.length = sh.na + sh.ks.length → (arr sh.pm xs).length = d.I.ps.length
theorem FD.binds {K : PySem.W.Frag} {d : Dr} {a : Addr} {fd : FuncData} {sh : Sh} (F : FD K d a fd) (h : ShOk d sh) (s : Shared) (us ws : List Value) (h1 : us.length = sh.na) (h2 : ws.length = sh.ks.length) : BindsTo s fd ⟨us, sh.ks.zip ws⟩ (d.I.ps.zip (arr sh.pm (us ++ ws))) := by
  obtain ⟨oc, od, dV, kV, doc, pm, an, cdv, ct, osl, rfl, lk, hcd, hD, hK⟩ := F.ex
  rcases hD with ⟨_, rfl⟩ | ⟨e, _⟩
  · exact .of_eq (h.1 kV doc pm an cdv ct us ws h1 h2)
  · exact absurd rfl e
theorem FD.fn {K : PySem.W.Frag} {d : Dr} {a : Addr} {fd : FuncData} (F : FD K d a fd) : C8.Fun K d.I.name d.I.q d.st a fd := by
  obtain ⟨oc, od, dV, kV, doc, pm, an, cdv, ct, osl, e, lk, hcd, hD, hK⟩ := F.ex
  exact ⟨oc, od, dV, kV, doc, pm, an, cdv, ct, osl, e, lk, hcd⟩
/-- the levels that a depth of calls takes: making an object takes one more -/
def lv : Nat → Nat
  | 0 => 2
  | k + 1 => lv k + 2
theorem lv_le : ∀ k, 2 ≤ lv k
  | 0 => Nat.le_refl _
  | k + 1 => Nat.le_trans (lv_le k) (Nat.le_add_right _ _)
theorem all_ok {P : Program} {w : World} {K : PySem.W.Frag} {mg : Str → Option Value} {base : Heap} {ds : List Dr} {gls : List Str} {shs : List Sh} {xcs : List (Nat × List Nat)} {ocs : List (Nat × List Nat)} {gl : Nat → Option D}
    (hchk : ds.all (Dr.ok (ds.map (·.I)) gls shs xcs ocs) = true) (hfx : FactX K) (hxc : ∀ X : Cx, X.prog = P → X.w = w → X.K = K → X.mg = mg → X.base = base → ∀ q ∈ xcs, XcOk X q.1 q.2)
    (hoc : ∀ q ∈ ocs, OcOk K mg q.1 q.2)
    (hblt : ∀ x, x ∈ bltL → mg x = none)
    (hgls : ∀ (g : Nat) x, gls[g]? = some x → ∃ d u v, gl g = some d ∧ mg x = some u ∧ RelV v u ∧ ∀ S H, Rel K S H d v)
    (hdef : ∀ (f : Nat) d, ds[f]? = some d → ∃ a fd, FD K d a fd ∧ FAt K mg d.I a)
    (hsh : ∀ sh ∈ shs, ∀ d, ds[sh.f]? = some d → ShOk d sh) :
    ∀ (k f : Nat) (d : Dr), ds[f]? = some d → ∀ a fd, FD K d a fd → FnOk P w K mg base (L2.CX P w) (lv k) a fd d.I.ps (spF K (call gl (ds.map Dr.fn) k f) d.I.ps.length d.I.fr) := by
  intro k
  induction k with
  | zero =>
    intro f d hd a fd hD
    refine ⟨fun vs H Q E h => h.1, fun A outer s H args us vs Q E _ _ _ _ h => ?_⟩
    obtain ⟨_, S, μ, xs, _, _, h⟩ := h
    exact h.elim
  | succ k ih =>
    intro f d hd a fd hD
    have hmem : d ∈ ds := List.mem_of_getElem? hd
    have hok := List.all_eq_true.mp hchk d hmem
    unfold Dr.ok at hok
    rw [Bool.and_eq_true] at hok
    obtain ⟨hc, hs⟩ := hok
    have hsc := C8.fnScope_by hs
    obtain ⟨oc, od, dV, kV, doc, pm, an, cdv, ct, osl, rfl, lk, hcd⟩ := hD.fn.ex
    rw [show lv (k + 1) = (lv k + 1) + 1 from rfl]
    generalize hlv : lv k = j at ih ⊢
    have hj : 2 ≤ j := by rw [← hlv]; exact lv_le k
    refine fn_of lk hcd hsc (fun vs H Q E h => h.1) fun A outer s H vs Q E hr h => ?_
    obtain ⟨hl, S, μ, xs, ok0, rx, h⟩ := h
    have hpl : d.I.ps.length ≤ d.N.length := by
      have := hsc.pre
      rw [← this, List.length_take]; exact Nat.min_le_right _ _
    have hxl : xs.length = d.I.ps.length := by rw [← rx.length]; exact hl
    let c : Ct := ⟨K, S, μ, H, fun x γ' μ' => ∀ S' σ' H' cls dd, Good ⟨K, S, μ, H, fun _ _ _ => True, S, H⟩ S' γ' μ' σ' H' → XRel K S' H' x cls dd → E cls dd H', S, H⟩
    have X : XOk c ⟨d.N, ds.map (·.I), gls, shs, xcs, ocs⟩ gl (call gl (ds.map Dr.fn) k) j (C8.fnScope d.st) (fun _ => true) (cxOf (L2.CX P w) P w K mg base d.N d.I.q (C8.fnScope d.st) a cdv A outer s H E) := by
      refine ⟨rfl, rfl, hsc.nd, rfl, fun _ _ => rfl, rfl, ok0.sd, (takes_of (E := E) (X := cxOf (L2.CX P w) P w K mg base d.N d.I.q (C8.fnScope d.st) a cdv A outer s H E) rfl rfl rfl rfl).imp (fun cls dd σ H' z => by
        obtain ⟨S', γ', μ', x, g', xr, v⟩ := z
        exact v S' σ H' cls dd g'.wv xr), hr.mono (Nat.le_succ j), hr, hoc, hblt, fun g x e h1 h2 => ?_, fun g x h1 => ?_, fun f' I h1 => ?_⟩
      · obtain ⟨d', u, v, e1, e2, e3, e4⟩ := hgls g x h1
        rw [e1] at h2; cases h2
        exact ⟨u, v, e2, e3, e4⟩
      · obtain ⟨d', u, v, e1, _⟩ := hgls g x h1
        exact ⟨d', e1⟩
      · have h1 : (ds.map (·.I))[f']? = some I := h1
        rw [List.getElem?_map] at h1
        cases e : ds[f']? with
        | none => rw [e] at h1; cases h1
        | some d' =>
          rw [e] at h1; cases h1
          obtain ⟨a', fd', hD', hm'⟩ := hdef f' d' e
          refine ⟨a', fd', hm', hD'.kp, ih f' d' e a' fd' hD', fun sh hs he => ?_⟩
          subst he
          have so := hsh sh hs d' e
          exact ⟨fun s us ws _ h1 h2 => hD'.binds so s us ws h1 h2, so.2⟩
    refine ⟨TSn c d.I.fr (denSs gl (call gl (ds.map Dr.fn) k) d.body), sndSs d.body c _ ⟨X, hsc.kind, passes_of rfl, rfl, rfl, fun _ => rfl, hfx, hxc _ rfl rfl rfl rfl rfl, hr.mono (by omega)⟩ _ hc, S, initG d.fn xs, μ, ?_, ?_⟩
    · exact good_start ok0 rx (by rw [hxl]; exact hpl)
    · have hf : (ds.map Dr.fn)[f]? = some d.fn := by rw [List.getElem?_map, hd]; rfl
      have h : (match (ds.map Dr.fn)[f]? with | some F => if xs.length = F.np then (xSs gl (call gl (ds.map Dr.fn) k) F.body (initG F xs) μ).bind (outF F.fr) else .fail | none => .fail : R D).All (postF K d.I.fr S μ H Q) (postX K S μ H E) := h
      rw [hf] at h
      have h : (if xs.length = d.fn.np then (xSs gl (call gl (ds.map Dr.fn) k) d.fn.body (initG d.fn xs) μ).bind (outF d.fn.fr) else .fail : R D).All (postF K d.I.fr S μ H Q) (postX K S μ H E) := h
      rw [if_pos (show xs.length = d.fn.np from hxl), R.All_bind, xSs] at h
      refine h.mono (fun fl μ' h => ?_) fun x γ' μ' w S' σ' H' cls dd g' xr => by
        obtain ⟨s1, o1, k1⟩ := Good.out ok0 g' (fun _ => False) fun _ z => z.elim
        exact w _ H' cls dd s1 o1 (xr.kp k1)
      cases fl with
      | nx γ' =>
        intro S' σ' H' g' _
        have h : (if d.I.fr = true then R.fail else R.ok D.non μ').All (postF K d.I.fr S μ H Q) (postX K S μ H E) := h
        cases hfr : d.I.fr with
        | true => rw [hfr] at h; exact h.elim
        | false =>
          rw [hfr] at h
          obtain ⟨s1, o1, _⟩ := Good.out ok0 g' (fun _ => False) fun _ z => z.elim
          exact h _ .non H' s1 o1 rfl
      | bk γ' => exact h.elim
      | ct γ' => exact h.elim
      | rt e =>
        intro v H' hr
        obtain ⟨S', γ', σ', g', hr⟩ := hr
        cases hfr : d.I.fr with
        | false =>
          rw [hfr] at h hr
          obtain ⟨s1, o1, k1⟩ := Good.out ok0 g' (fun _ => False) fun _ z => z.elim
          exact h _ v H' s1 o1 (Rel.kp k1 e v hr)
        | true =>
          rw [hfr] at h hr
          obtain ⟨ys, p, ws, rfl, rfl, sp, h0, mp, ep, rr⟩ := hr
          obtain ⟨s1, o1, k1⟩ := Good.out ok0 g' (fun a => a = p) fun a z => by subst z; exact ⟨sp, h0⟩
          exact h _ p ws H' ys rfl s1 o1 h0 (.inr (.inr rfl)) mp ep (rr.kp k1)
theorem rels_ints {K : PySem.W.Frag} {S : Sa} {H : Hp} : ∀ ns : List Int, Rels K S H (ns.map D.int) (ns.map V.int)
  | [] => rfl
  | n :: ns => ⟨.int n, ns.map V.int, rfl, rfl, rels_ints ns⟩
/-- the law's end: from what its call answers -/
theorem sp_law {K : PySem.W.Frag} {H : Hp} {a : Addr} {ns : List Int} {cl : List D → Sto → R D} (hS : SqL K H a (ns.map V.int)) (h : (cl [.lst (ns.map D.int)] (fun _ => none)).All (fun d _ => d = .bl true) Wf) : spF K cl 1 false [.ref a] H (fun v _ => v = .bl true) fun _ _ _ => False := by
  refine ⟨rfl, fun _ => False, fun _ => none, [.lst (ns.map D.int)], ⟨fun p o e => absurd e (by simp), fun _ z => False.elim z⟩, ⟨.ref a, [], rfl, ⟨a, ns.map V.int, rfl, ?_, ?_⟩, rfl⟩, h.mono (fun d μ e S' v H' _ _ r => ?_) fun _ _ _ w => w.elim⟩
  · rcases hS with hS | hS
    · exact .inl ⟨hS, fun z => z⟩
    · exact .inr hS
  · exact rels_ints ns
  · subst e
    exact r
end Bs
/-! Bs: what is read off the text's top: errors' classes. -/
namespace Bs
open PySem L2 PySem.Spec PyProof.Rows
abbrev AlB : Type := He.AlD × Bool
def obsB (n : Nat) (fa : List He.Fa) (fn : List He.DefD) (ex : PySem.W.Frag → Bool) (g : Addr → Option Obj) : AlB := (He.obsD fa fn (He.frG g (He.asD g n)), ex (He.frG g (He.asD g n)))
def hookB (n : Nat) (fa : List He.Fa) (fn : List He.DefD) (ex : PySem.W.Frag → Bool) : PySem.W.Hook where
  α := AlB
  obs := fun s => obsB n fa fn ex s.heap.get?
  val := fun _ => (He.valD fn, true)
  says := fun _ h => ∃ K : PySem.W.Frag, K.In h ∧ He.SaysD fa fn K ∧ ex K = true
  of := fun _ _ e => ⟨_, He.frG_in, congrArg Prod.fst e, congrArg Prod.snd e⟩
  keeps := fun _ _ _ ⟨K, hK, c⟩ k => ⟨K, PySem.W.Frag.In.keeps hK k, c⟩
theorem obsB_eq {n : Nat} {fa : List He.Fa} {fn : List He.DefD} {ex : PySem.W.Frag → Bool} {g : Addr → Option Obj} {s : Shared} (h : ∀ a, g a = s.heap.get? a) : obsB n fa fn ex g = (hookB n fa fn ex).obs s := by
  have e : g = s.heap.get? := funext h
  rw [e] <;> rfl
def defB (K : PySem.W.Frag) (c : Nat) : Bool := decide (c < 30) && decide (PySem.W.nsIn K mainGlobals (nm c) = some (some (.ref (He.ga K (nm c)))))
theorem defB_ok {K : PySem.W.Frag} {c : Nat} : defB K c = true ↔ XDef K c := by unfold defB XDef; simp
def xfB (K : PySem.W.Frag) (C : Addr) : Bool := decide (PySem.W.findIn K (.ref C) "__getattribute__" = some (some (.builtin "BaseException.__getattribute__"))) && decide (PySem.W.findIn K (.ref C) "__getattr__" = some none) &&
  decide (PySem.W.subIn K (.ref C) (.type "BaseException") = some true) && PySem.W.hasDictIn K C && decide (PySem.W.findIn K (.ref C) "__class__" = some (some (.builtin "object.__class__"))) &&
  decide (PySem.W.specialIn K (.builtin "object.__class__") "__get__" = some (some (.builtin "getset_descriptor.__get__"))) && decide (PySem.W.takesIn K (.builtin "object.__class__") = some true) && decide (PySem.W.mroIn K C (.type "object") = some true) && (PySem.W.clsIn K C).isSome
theorem xfB_ok {K : PySem.W.Frag} {C : Addr} (h : xfB K C = true) : XfK K C := by
  unfold xfB at h
  simp only [Bool.and_eq_true, decide_eq_true_eq] at h
  obtain ⟨⟨⟨⟨⟨⟨⟨⟨h1, h2⟩, h3⟩, h4⟩, h5⟩, h6⟩, h7⟩, h8⟩, h9⟩ := h
  exact ⟨h1, h2, h3, h4, h5, h6, h7, h8, h9⟩
def pairB (K : PySem.W.Frag) (c c' : Nat) : Bool := decide (PySem.W.exmOne K (.ref (He.ga K (nm c))) (.ref (He.ga K (nm c'))) = some (subX c c')) && decide (PySem.W.kitOne K (.ref (He.ga K (nm c))) (.ref (He.ga K (nm c'))) = some (subX c c'))
def factB (K : PySem.W.Frag) : Bool :=
  let ds := (List.range 30).filter (defB K)
  ds.all fun c => xfB K (He.ga K (nm c)) && fldIds.all (fun f => decide (PySem.W.findIn K (.ref (He.ga K (nm c))) (nm f) = some none)) && ds.all (pairB K c)
theorem factB_ok {K : PySem.W.Frag} (h : factB K = true) : FactX K := by
  unfold factB at h
  simp only [List.all_eq_true, Bool.and_eq_true, decide_eq_true_eq] at h
  have mem : ∀ c, XDef K c → c ∈ (List.range 30).filter (defB K) := fun c hc => List.mem_filter.mpr ⟨List.mem_range.mpr hc.1, defB_ok.mpr hc⟩
  have pr : ∀ c c', XDef K c → XDef K c' → _ ∧ _ := fun c c' hc hc' => by
    have := (h c (mem c hc)).2 c' (mem c' hc')
    unfold pairB at this
    simpa only [Bool.and_eq_true, decide_eq_true_eq] using this
  exact ⟨fun c hc => xfB_ok (h c (mem c hc)).1.1, fun c hc f hf => (h c (mem c hc)).1.2 f hf, fun c c' hc hc' => (pr c c' hc hc').1, fun c c' hc hc' => (pr c c' hc hc').2⟩
mutual
/-- a constant of the top -/
def conB (K : PySem.W.Frag) : D → Value → Bool
  | .int i, u => match u with
    | .int j _ => decide (i = j)
    | _ => false
  | .str s, u => match u with
    | .str z _ => decide (z = ⟨s.toArray⟩) && s.all (fun c => decide (c < 128)) && decide (s.length ≤ 1000000)
    | _ => false
  | .tup xs, u => match u with
    | .ref a => match K.lookup a with
      | some o => decide (o.cls = .type "tuple") && o.dict.isNone && (match o.data with
        | .seq its _ => decide (its.size ≤ sizeLine) && conBs K xs its.toList
        | _ => false)
      | none => false
    | _ => false
  | _, _ => false
def conBs (K : PySem.W.Frag) : List D → List Value → Bool
  | [], us => us.isEmpty
  | d :: r, us => match us with
    | u :: us => conB K d u && conBs K r us
    | [] => false
end
mutual
theorem conB_ok {K : PySem.W.Frag} : ∀ (d : D) (u : Value), conB K d u = true → ∃ v, RelV v u ∧ ∀ S H, Rel K S H d v
  | .int i, u, h => by
    unfold conB at h
    split at h
    · cases of_decide_eq_true h; exact ⟨.int i, ⟨_, rfl⟩, fun _ _ => rfl⟩
    · cases h
  | .str s, u, h => by
    unfold conB at h
    split at h
    · simp only [Bool.and_eq_true, decide_eq_true_eq, List.all_eq_true] at h
      obtain ⟨⟨rfl, h2⟩, h3⟩ := h
      exact ⟨.str _, ⟨_, rfl⟩, fun _ _ => ⟨rfl, h3, h2⟩⟩
    · cases h
  | .tup xs, u, h => by
    unfold conB at h
    split at h
    · rename_i a
      split at h
      · rename_i o ho
        simp only [Bool.and_eq_true, decide_eq_true_eq] at h
        obtain ⟨⟨h1, h2⟩, h3⟩ := h
        split at h3
        · rename_i its n hd
          simp only [Bool.and_eq_true, decide_eq_true_eq] at h3
          obtain ⟨vs, r1, r2⟩ := conBs_ok xs its.toList h3.2
          exact ⟨.ref a, rfl, fun S H => ⟨a, vs, rfl, .inr ⟨o, its, n, ho, h1, hd, h3.1, r1, Option.isNone_iff_eq_none.mp h2⟩, r2 S H⟩⟩
        · cases h3
      · cases h
    · cases h
  | .non, _, h => by unfold conB at h; cases h
  | .bl _, _, h => by unfold conB at h; cases h
  | .lst _, _, h => by unfold conB at h; cases h
  | .dic _, _, h => by unfold conB at h; cases h
  | .obj _ _, _, h => by unfold conB at h; cases h
  | .loc _, _, h => by unfold conB at h; cases h
theorem conBs_ok {K : PySem.W.Frag} : ∀ (ds : List D) (us : List Value), conBs K ds us = true → ∃ vs, Vals vs us ∧ ∀ S H, Rels K S H ds vs
  | [], us, h => by
    unfold conBs at h
    cases us with
    | nil => exact ⟨[], .nil, fun _ _ => rfl⟩
    | cons _ _ => cases h
  | d :: r, us, h => by
    unfold conBs at h
    cases us with
    | nil => cases h
    | cons u us =>
      simp only [Bool.and_eq_true] at h
      obtain ⟨v, r1, r2⟩ := conB_ok d u h.1
      obtain ⟨vs, r3, r4⟩ := conBs_ok r us h.2
      exact ⟨v :: vs, .cons r1 r3, fun S H => ⟨v, vs, rfl, r2 S H, r4 S H⟩⟩
end
/-- a class that may be raised -/
def xcB (K : PySem.W.Frag) (q : Nat × List Nat) : Bool :=
  let C := He.ga K (nm q.1)
  defB K q.1 && decide (PySem.W.subIn K (.ref C) (.type "BaseException") = some true) && decide (PySem.W.typeIn K (.ref C) = some (.type "type")) && PySem.W.keepIn K (.ref C) &&
  (if q.2.isEmpty then PySem.W.excIn K C exT "Exception.__new__" else
    PySem.W.excInitIn K C exT "Exception.__new__" && PySem.W.excOver K C exT && decide (PySem.W.findIn K (.ref C) "__setattr__" = some (some (.builtin "object.__setattr__"))) && PySem.W.hasDictIn K C &&
    decide (PySem.W.findIn K (.ref C) "__init__" = some (some (.ref (He.ma K C "__init__")))) && decide (PySem.W.typeIn K (.ref (He.ma K C "__init__")) = some (.type "function")) && q.2.all fun f => decide (PySem.W.takerIn K C (nm f) = some none))
structure XcF (K : PySem.W.Frag) (q : Nat × List Nat) : Prop where
  df : XDef K q.1
  ex : PySem.W.subIn K (.ref (He.ga K (nm q.1))) (.type "BaseException") = some true
  ty : PySem.W.typeIn K (.ref (He.ga K (nm q.1))) = some (.type "type")
  kp : PySem.W.keepIn K (.ref (He.ga K (nm q.1))) = true
  no : q.2 = [] → PySem.W.excIn K (He.ga K (nm q.1)) exT "Exception.__new__" = true
  in_ : q.2 ≠ [] → XcK K (He.ga K (nm q.1)) ∧ PySem.W.findIn K (.ref (He.ga K (nm q.1))) "__init__" = some (some (.ref (He.ma K (He.ga K (nm q.1)) "__init__"))) ∧ PySem.W.typeIn K (.ref (He.ma K (He.ga K (nm q.1)) "__init__")) = some (.type "function") ∧ ∀ f ∈ q.2, PySem.W.takerIn K (He.ga K (nm q.1)) (nm f) = some none
theorem xcB_ok {K : PySem.W.Frag} {q : Nat × List Nat} (h : xcB K q = true) : XcF K q := by
  unfold xcB at h
  simp only [Bool.and_eq_true, decide_eq_true_eq] at h
  obtain ⟨⟨⟨⟨h1, h2⟩, h3⟩, h4⟩, h5⟩ := h
  refine ⟨defB_ok.mp h1, h2, h3, h4, fun e => ?_, fun e => ?_⟩
  · rw [e] at h5
    exact h5
  · have ne : q.2.isEmpty = false := by
      cases z : q.2 with
      | nil => exact absurd z e
      | cons _ _ => rfl
    rw [ne] at h5
    simp only [Bool.false_eq_true, if_false, Bool.and_eq_true, decide_eq_true_eq, List.all_eq_true] at h5
    obtain ⟨⟨⟨⟨⟨⟨g1, g2⟩, g3⟩, g4⟩, g5⟩, g6⟩, g7⟩ := h5
    exact ⟨⟨g1, g2, g3, g4, h2, h3, h4⟩, g5, g6, g7⟩
def iniSh (st : Stmt) : List Nat → Prop
  | [f] => ∃ s1, C8.fnBody st = [s1] ∧ isSt "self" (nm f) (nm f) s1 = true
  | [f, h] => ∃ s1 s2, C8.fnBody st = [s1, s2] ∧ isSt "self" (nm f) (nm f) s1 = true ∧ isSt "self" (nm h) (nm h) s2 = true
  | _ => False
/-- its def, of one or two fields -/
structure IniD (K : PySem.W.Frag) (c : Nat) (fl : List Nat) (st : Stmt) : Prop where
  fn : ∃ q fd, FunD K "__init__" q (C8.fnArgs st) (C8.fnBody st) (C8.fnScope st) [] [] (He.ma K (He.ga K (nm c)) "__init__") fd
  sc : FnScope ("self" :: fl.map nm) ("self" :: fl.map nm) (C8.fnScope st)
  bd : ∀ (q : Str) (kV doc pm : Value) (an : Option Addr) (cdv ct : Value) (us : List Value), us.length = fl.length + 1 → bindArgs (PySem.W.fnOf "__init__" q (C8.fnArgs st) (C8.fnBody st) (C8.fnScope st) .none kV doc pm an cdv ct) ⟨us, []⟩ = pure ((("self" : Str) :: fl.map nm).zip us)
  sh : iniSh st fl
theorem fld_nm : ∀ f ∈ fldIds, (nm f == ("__debug__" : Str)) = false ∧ (nm f == ("__classdict__" : Str)) = false := by decide +kernel
theorem err_nm : ∀ c, c < 30 → (nm c == ("__debug__" : Str)) = false := by decide +kernel
theorem xc_none {X : Cx} {K : PySem.W.Frag} (hK : X.K = K) {c : Nat} (h : XcF K (c, [])) (hm : X.mg (nm c) = some (.ref (He.ga K (nm c)))) : XcOk X c [] := by
  subst hK
  exact ⟨h.df, hm, err_nm c h.df.1, h.ex, h.ty, h.kp, h.no rfl⟩
theorem xc_ini {X : Cx} {K : PySem.W.Frag} (hK : X.K = K) {c : Nat} {fl : List Nat} {st : Stmt} (h : XcF K (c, fl)) (hm : X.mg (nm c) = some (.ref (He.ga K (nm c)))) (d : IniD K c fl st) (hid : ∀ f ∈ fl, f ∈ fldIds) : XcOk X c fl := by
  subst hK
  obtain ⟨⟨q, fd, F⟩, sc, bd, sh⟩ := d
  have hb : Binds X.K fd ("self" :: fl.map nm) [] := by
    obtain ⟨oc, od, dV, kV, doc, pm, an, cdv, ct, osl, rfl, lk, hcd, hD, hKk⟩ := F.ex
    rcases hD with ⟨_, rfl⟩ | ⟨e, _⟩
    · exact .all fun us hl => bd q kV doc pm an cdv ct us (by simpa using hl)
    · exact absurd rfl e
  have hF : C8.Fun X.K "__init__" q st (He.ma X.K (He.ga X.K (nm c)) "__init__") fd := by
    obtain ⟨oc, od, dV, kV, doc, pm, an, cdv, ct, osl, e, lk, hcd, hD, hKk⟩ := F.ex
    exact ⟨oc, od, dV, kV, doc, pm, an, cdv, ct, osl, e, lk, hcd⟩
  clear F bd
  match fl, h, sh, sc, hb, hid with
  | [f], h, sh, sc, hb, hid =>
    obtain ⟨T, i1, i2, i3⟩ := h.in_ (by simp)
    refine ⟨h.df, hm, err_nm c h.df.1, h.ex, h.ty, h.kp, T, _, fd, i1, i2, init1 T ⟨i3 f List.mem_cons_self, (fld_nm f (hid f List.mem_cons_self)).1, (fld_nm f (hid f List.mem_cons_self)).2⟩ hF sc sh, hb⟩
  | [f, g], h, sh, sc, hb, hid =>
    obtain ⟨T, i1, i2, i3⟩ := h.in_ (by simp)
    have hg : g ∈ [f, g] := List.mem_cons_of_mem _ List.mem_cons_self
    refine ⟨h.df, hm, err_nm c h.df.1, h.ex, h.ty, h.kp, T, _, fd, i1, i2, init2 T ⟨i3 f List.mem_cons_self, (fld_nm f (hid f List.mem_cons_self)).1, (fld_nm f (hid f List.mem_cons_self)).2⟩ ⟨i3 g hg, (fld_nm g (hid g hg)).1, (fld_nm g (hid g hg)).2⟩ hF sc sh, hb⟩
  | [], _, sh, _, _, _ => exact sh.elim
  | _ :: _ :: _ :: _, _, sh, _, _, _ => exact sh.elim
/-- a def from which nothing is let out -/
theorem _root_.L2.FnOk.drop {P : Program} {w : World} {K : PySem.W.Frag} {mg : Str → Option Value} {base : Heap} {k : Nat} {f : Addr} {fd : FuncData} {ps : List Str} {sp : Sp} (F : FnOk P w K mg base (L2.CX P w) k f fd ps sp) : FnOk P w K mg base C8.CX0 k f fd ps (fun vs H Q _ => sp vs H Q fun _ _ _ => False) :=
  ⟨fun vs H Q E z => F.len vs H Q _ z, fun A outer s H args us vs Q E hr he hb hv z => codeAny_mono (F.run A outer s H args us vs Q _ hr he hb hv z) fun r s' q => by
    cases r with
    | error e =>
      obtain ⟨_, _, _, _, _, _, _, _, _, _, _, _, y⟩ := (show L2.CX P w outer H s (fun _ _ _ => False) e s' from q)
      exact y.elim
    | ok fl => cases fl <;> exact q⟩
end Bs
namespace Bs
open PySem L2
/-- a class whose objects are made -/
def ocB (K : PySem.W.Frag) (q : Nat × List Nat) : Bool :=
  let C := He.ga K (nm q.1)
  decide (PySem.W.nsIn K mainGlobals (nm q.1) = some (some (.ref C))) && PySem.W.plainGet K C Str.empty && PySem.W.hasDictIn K C && PySem.W.plainOver K C &&
  decide (PySem.W.findIn K (.ref C) "__setattr__" = some (some (.builtin "object.__setattr__"))) && PySem.W.makesIn K C && PySem.W.keepIn K (.ref C) &&
  q.2.all fun f => decide (f < 130) && decide (PySem.W.findIn K (.ref C) (nm f) = some none)
/-- a method of a class -/
def mtB (K : PySem.W.Frag) (q : Nat × Str) : Bool :=
  decide (PySem.W.findIn K (.ref (He.ga K (nm q.1))) q.2 = some (some (.ref (He.ma K (He.ga K (nm q.1)) q.2)))) && PySem.W.isFn K (.ref (He.ma K (He.ga K (nm q.1)) q.2))
theorem ocB_ok {K : PySem.W.Frag} {mg : Str → Option Value} {q : Nat × List Nat} (hmg : ∀ x u, PySem.W.nsIn K mainGlobals x = some (some u) → mg x = some u) (h : ocB K q = true) : OcOk K mg q.1 q.2 := by
  unfold ocB at h
  simp only [Bool.and_eq_true, decide_eq_true_eq, List.all_eq_true] at h
  obtain ⟨⟨⟨⟨⟨⟨⟨h1, h2⟩, h3⟩, h4⟩, h5⟩, h6⟩, h7⟩, h8⟩ := h
  exact ⟨hmg _ _ h1, ⟨h2, h3, h4, h5⟩, h6, h7, fun f hf => (h8 f hf)⟩
theorem mtB_ok {K : PySem.W.Frag} {mg : Str → Option Value} {cc : Nat} {I : FnI} (hc : I.cls = some cc) (h : mtB K (cc, I.name) = true) : FAt K mg I (He.ma K (He.ga K (nm cc)) I.name) := by
  unfold mtB at h
  simp only [Bool.and_eq_true, decide_eq_true_eq] at h
  unfold FAt
  rw [hc]
  exact h
end Bs
/-! Bs: plain evaluation of the compact trees. -/
namespace Bs
@[simp] theorem bind_ok {α β : Type} (a : α) (μ : Sto) (f : α → Sto → R β) : (R.ok a μ).bind f = f a μ := Eq.trans rfl rfl
@[simp] theorem bind_fail {α β : Type} (f : α → Sto → R β) : (R.fail : R α).bind f = .fail := Eq.trans rfl rfl
@[simp] theorem bind_exc {α β : Type} (x : Xc) (γ : Ga) (μ : Sto) (f : α → Sto → R β) : (R.exc x γ μ : R α).bind f = .exc x γ μ := Eq.trans rfl rfl
@[simp] theorem nox_ok {α : Type} (a : α) (μ : Sto) : (R.ok a μ).nox = .ok a μ := Eq.trans rfl rfl
@[simp] theorem catch_ok {α : Type} (f : Xc → Ga → Sto → R α) (a : α) (μ : Sto) : (R.ok a μ).catch f = .ok a μ := Eq.trans rfl rfl
@[simp] theorem catch_exc {α : Type} (f : Xc → Ga → Sto → R α) (x : Xc) (γ : Ga) (μ : Sto) : (R.exc x γ μ : R α).catch f = f x γ μ := Eq.trans rfl rfl
@[simp] theorem ofO_s (d : D) (μ : Sto) : ofO (some d) μ = .ok d μ := Eq.trans rfl rfl
@[simp] theorem orO_some (d : D) (o : Option D) (μ : Sto) : orO (some d) o μ = .ok d μ := Eq.trans rfl rfl
@[simp] theorem orO_none (o : Option D) (μ : Sto) : orO none o μ = ofO o μ := Eq.trans rfl rfl
@[simp] theorem ofO_none (μ : Sto) : ofO none μ = .fail := Eq.trans rfl rfl
@[simp] theorem dr_non (μ : Sto) : dr μ .non = .non := Eq.trans rfl rfl
@[simp] theorem dr_bl (μ : Sto) (b : Bool) : dr μ (.bl b) = .bl b := Eq.trans rfl rfl
@[simp] theorem dr_int (μ : Sto) (i : Int) : dr μ (.int i) = .int i := Eq.trans rfl rfl
@[simp] theorem dr_str (μ : Sto) (s : List Nat) : dr μ (.str s) = .str s := Eq.trans rfl rfl
@[simp] theorem dr_tup (μ : Sto) (xs : List D) : dr μ (.tup xs) = .tup xs := Eq.trans rfl rfl
@[simp] theorem dr_lst (μ : Sto) (xs : List D) : dr μ (.lst xs) = .lst xs := Eq.trans rfl rfl
@[simp] theorem dr_dic (μ : Sto) (xs : List (D × D)) : dr μ (.dic xs) = .dic xs := Eq.trans rfl rfl
theorem dr_loc {μ : Sto} {p : Nat} {xs : List D} (h : μ p = some (.lst xs)) : dr μ (.loc p) = .lst xs := by simp [dr, h]
theorem isL_loc {μ : Sto} {p : Nat} {xs : List D} (h : μ p = some (.lst xs)) : isL μ (.loc p) = true := by simp [isL, h]
@[simp] theorem v_stoR (xs : List D) (μ : Sto) : stoR (.lst xs) μ = .any (fun p => μ p = none) fun p => .ok (.loc p) (μ.put p (.lst xs)) := Eq.trans rfl rfl
@[simp] theorem back_ok {α : Type} (a : α) (μ : Sto) (γ : Ga) : (R.ok a μ).back γ = .ok a μ := Eq.trans rfl rfl
@[simp] theorem back_exc {α : Type} (x : Xc) (γ γ' : Ga) (μ : Sto) : (R.exc x γ' μ : R α).back γ = .exc x γ μ := Eq.trans rfl rfl
@[simp] theorem put_same (μ : Sto) (p : Nat) (o : Ob) : (μ.put p o) p = some o := by simp [Sto.put]
@[simp] theorem put_put (μ : Sto) (p : Nat) (o o' : Ob) : (μ.put p o).put p o' = μ.put p o' := by
  funext q; by_cases h : q = p <;> simp [Sto.put, h]
/-- a turn of a for -/
def turn (gl : Nat → Option D) (cl : Nat → List D → Sto → R D) (t : List Nat) (b : List S) : D → Ga → Sto → R Fl := fun y γ μ => match setT γ t y with
  | some γ' => xSs gl cl b γ' μ
  | none => .fail
/-- a turn of a comprehension -/
def turnC (gl : Nat → Option D) (cl : Nat → List D → Sto → R D) (γ : Ga) (t : List Nat) (c : Option E) (e : E) : D → List D → Sto → R (List D) := fun y acc μ => setTR (wipeG γ t) t y fun γ' => (xC gl cl c γ' μ).bind fun b μ => if b then (xE gl cl e γ' μ).bind fun z μ => addL acc z μ else .ok acc μ
def turnC2 (gl : Nat → Option D) (cl : Nat → List D → Sto → R D) (γ : Ga) (t : List Nat) (c : Option E) (t2 : List Nat) (it2 : E) (c2 : Option E) (e : E) : D → List D → Sto → R (List D) := fun y acc μ => setTR (wipeG γ (t ++ t2)) t y fun γ' => (xC gl cl c γ' μ).bind fun b μ => if b then ((xE gl cl it2 γ' μ).bind itemsR).bind fun xs2 μ =>
      lcL (turnC gl cl γ' t2 c2 e) xs2 acc μ else .ok acc μ
theorem turn_eq (gl : Nat → Option D) (cl : Nat → List D → Sto → R D) (t : List Nat) (b : List S) : turn gl cl t b = fun y γ μ => match setT γ t y with
  | some γ' => denSs gl cl b γ' μ
  | none => .fail := by
  funext y γ μ
  simp only [turn, xSs]
theorem turnC_eq (gl : Nat → Option D) (cl : Nat → List D → Sto → R D) (γ : Ga) (t : List Nat) (c : Option E) (e : E) : turnC gl cl γ t c e = fun y acc μ => setTR (wipeG γ t) t y fun γ' => (denC gl cl c γ' μ).bind fun b μ => if b then (denE gl cl e γ' μ).bind fun z μ => addL acc z μ else .ok acc μ := by
  funext y acc μ
  simp only [turnC, xC, xE]
theorem turnC2_eq (gl : Nat → Option D) (cl : Nat → List D → Sto → R D) (γ : Ga) (t : List Nat) (c : Option E) (t2 : List Nat) (it2 : E) (c2 : Option E) (e : E) : turnC2 gl cl γ t c t2 it2 c2 e = fun y acc μ => setTR (wipeG γ (t ++ t2)) t y fun γ' => (denC gl cl c γ' μ).bind fun b μ => if b then ((denE gl cl it2 γ' μ).bind itemsR).bind fun xs2 μ =>
      lcL (fun y2 acc μ => setTR (wipeG γ' t2) t2 y2 fun γ2 => (denC gl cl c2 γ2 μ).bind fun b μ => if b then (denE gl cl e γ2 μ).bind fun z μ => addL acc z μ else .ok acc μ) xs2 acc μ else .ok acc μ := by
  funext y acc μ
  simp only [turnC2, turnC_eq, xC, xE]
section
variable (gl : Nat → Option D) (cl : Nat → List D → Sto → R D) (γ : Ga) (μ : Sto)
@[simp] theorem v_var (i : Nat) : xE gl cl (.var i) γ μ = match γ[i]? with | some (.val d) => .ok d μ | _ => .fail := by
  simp only [xE, xEs, xO, xC, xPs, xS, xSs, turn_eq, turnC_eq, turnC2_eq, cond]; try rfl
@[simp] theorem v_ovar (i : Nat) : xE gl cl (.ovar i) γ μ = match γ[i]? with | some (.own (.lst xs)) => .ok (.lst xs) μ | _ => .fail := by
  simp only [xE, xEs, xO, xC, xPs, xS, xSs, turn_eq, turnC_eq, turnC2_eq, cond]; try rfl
@[simp] theorem v_con (d : D) : xE gl cl (.con d) γ μ = .ok d μ := by
  simp only [xE, xEs, xO, xC, xPs, xS, xSs, turn_eq, turnC_eq, turnC2_eq, cond]; try rfl
@[simp] theorem v_glb (g : Nat) : xE gl cl (.glb g) γ μ = ofO (gl g) μ := by
  simp only [xE, xEs, xO, xC, xPs, xS, xSs, turn_eq, turnC_eq, turnC2_eq, cond]; try rfl
@[simp] theorem v_bin (o : Bop) (a b : E) : xE gl cl (.bin o a b) γ μ = (xE gl cl a γ μ).bind fun x μ => (xE gl cl b γ μ).bind fun y μ => orO (binop o x y) (binop o (dr μ x) (dr μ y)) μ := by
  simp only [xE, xEs, xO, xC, xPs, xS, xSs, turn_eq, turnC_eq, turnC2_eq, cond]; try rfl
@[simp] theorem v_lop (o : Bop) (a b : E) : xE gl cl (.lop o a b) γ μ = (xE gl cl a γ μ).bind fun x μ => (xE gl cl b γ μ).bind fun y μ => orO (lopD o x y) (lopD o (dr μ x) (dr μ y)) μ := by
  simp only [xE, xEs, xO, xC, xPs, xS, xSs, turn_eq, turnC_eq, turnC2_eq, cond]; try rfl
@[simp] theorem v_sto (e : E) : xE gl cl (.sto e) γ μ = (xE gl cl e γ μ).bind stoR := by
  simp only [xE, xEs, xO, xC, xPs, xS, xSs, turn_eq, turnC_eq, turnC2_eq, cond]; try rfl
@[simp] theorem v_popl (a i : E) : xE gl cl (.popl a i) γ μ = (xE gl cl a γ μ).bind fun x μ => if isL μ x then (xE gl cl i γ μ).bind fun y μ => popR x y μ else .fail := by
  simp only [xE, xEs, xO, xC, xPs, xS, xSs, turn_eq, turnC_eq, turnC2_eq, cond]; try rfl
@[simp] theorem v_pop0 (a : E) : xE gl cl (.pop0 a) γ μ = (xE gl cl a γ μ).bind fun x μ => popR x (.int (-1)) μ := by
  simp only [xE, xEs, xO, xC, xPs, xS, xSs, turn_eq, turnC_eq, turnC2_eq, cond]; try rfl
@[simp] theorem v_neg (a : E) : xE gl cl (.neg a) γ μ = (xE gl cl a γ μ).bind fun x μ => match x with | .int i => .ok (.int (-i)) μ | _ => .fail := by
  simp only [xE, xEs, xO, xC, xPs, xS, xSs, turn_eq, turnC_eq, turnC2_eq, cond]; try rfl
@[simp] theorem v_cmp (o : Cm) (a b : E) : xE gl cl (.cmp o a b) γ μ = (xE gl cl a γ μ).bind fun x μ => (xE gl cl b γ μ).bind fun y μ => orO (compare o x y) (compare o (dr μ x) (dr μ y)) μ := by
  simp only [xE, xEs, xO, xC, xPs, xS, xSs, turn_eq, turnC_eq, turnC2_eq, cond]; try rfl
@[simp] theorem v_chn (o o' : Cm) (a b c : E) : xE gl cl (.chn o o' a b c) γ μ = (xE gl cl a γ μ).bind fun x μ => (xE gl cl b γ μ).bind fun y μ => match compare o x y with
    | some (.bl true) => (xE gl cl c γ μ).bind fun z μ => ofO (compare o' y z) μ
    | some (.bl false) => .ok (.bl false) μ
    | _ => .fail := by
  simp only [xE, xEs, xO, xC, xPs, xS, xSs, turn_eq, turnC_eq, turnC2_eq, cond]; try rfl
@[simp] theorem v_not (a : E) : xE gl cl (.not a) γ μ = (xE gl cl a γ μ).bind fun x μ => (truthR x μ).bind fun b μ => .ok (.bl !b) μ := by
  simp only [xE, xEs, xO, xC, xPs, xS, xSs, turn_eq, turnC_eq, turnC2_eq, cond]; try rfl
@[simp] theorem v_and (a b : E) : xE gl cl (.and a b) γ μ = (xE gl cl a γ μ).bind fun x μ => (truthR x μ).bind fun t μ => if t then xE gl cl b γ μ else .ok x μ := by
  simp only [xE, xEs, xO, xC, xPs, xS, xSs, turn_eq, turnC_eq, turnC2_eq, cond]; try rfl
@[simp] theorem v_or (a b : E) : xE gl cl (.or a b) γ μ = (xE gl cl a γ μ).bind fun x μ => (truthR x μ).bind fun t μ => if t then .ok x μ else xE gl cl b γ μ := by
  simp only [xE, xEs, xO, xC, xPs, xS, xSs, turn_eq, turnC_eq, turnC2_eq, cond]; try rfl
@[simp] theorem v_ite (c a b : E) : xE gl cl (.ite c a b) γ μ = (xE gl cl c γ μ).bind fun x μ => (truthR x μ).bind fun t μ => if t then xE gl cl a γ μ else xE gl cl b γ μ := by
  simp only [xE, xEs, xO, xC, xPs, xS, xSs, turn_eq, turnC_eq, turnC2_eq, cond]; try rfl
@[simp] theorem v_tup (es : List E) : xE gl cl (.tup es) γ μ = (xEs gl cl es γ μ).bind fun xs μ => .ok (.tup xs) μ := by
  simp only [xE, xEs, xO, xC, xPs, xS, xSs, turn_eq, turnC_eq, turnC2_eq, cond]; try rfl
@[simp] theorem v_lst (es : List E) : xE gl cl (.lst es) γ μ = (xEs gl cl es γ μ).bind fun xs μ => .ok (.lst xs) μ := by
  simp only [xE, xEs, xO, xC, xPs, xS, xSs, turn_eq, turnC_eq, turnC2_eq, cond]; try rfl
@[simp] theorem v_new (es : List E) : xE gl cl (.new es) γ μ = (xEs gl cl es γ μ).bind fun xs μ => .any (fun p => μ p = none) fun p => .ok (.loc p) (μ.put p (.lst xs)) := by
  simp only [xE, xEs, xO, xC, xPs, xS, xSs, turn_eq, turnC_eq, turnC2_eq, cond]; try rfl
@[simp] theorem v_dsp1 (k v : E) : xE gl cl (.dsp1 k v) γ μ = (xE gl cl k γ μ).bind fun x μ => (xE gl cl v γ μ).bind fun y μ => match keyD x with | some _ => .ok (.dic [(x, y)]) μ | none => .fail := by
  simp only [xE, xEs, xO, xC, xPs, xS, xSs, turn_eq, turnC_eq, turnC2_eq, cond]; try rfl
@[simp] theorem v_dsp (kvs : List (E × E)) : xE gl cl (.dsp kvs) γ μ = (xPs gl cl kvs γ μ).bind dspR := by
  simp only [xE, xEs, xO, xC, xPs, xS, xSs, turn_eq, turnC_eq, turnC2_eq, cond]; try rfl
@[simp] theorem v_ps0 : xPs gl cl [] γ μ = .ok [] μ := by
  simp only [xE, xEs, xO, xC, xPs, xS, xSs, turn_eq, turnC_eq, turnC2_eq, cond]; try rfl
@[simp] theorem v_ps1 (a b : E) (r : List (E × E)) : xPs gl cl ((a, b) :: r) γ μ = ((xE gl cl a γ μ).bind fun x μ => (xE gl cl b γ μ).bind fun y μ => .ok (x, y) μ).bind fun p μ => (xPs gl cl r γ μ).bind fun ps μ => .ok (p :: ps) μ := by
  simp only [xE, xEs, xO, xC, xPs, xS, xSs, turn_eq, turnC_eq, turnC2_eq, cond]; try rfl
@[simp] theorem v_ix (a i : E) : xE gl cl (.ix a i) γ μ = (xE gl cl a γ μ).bind fun x μ => (xE gl cl i γ μ).bind fun y μ => ixR x y μ := by
  simp only [xE, xEs, xO, xC, xPs, xS, xSs, turn_eq, turnC_eq, turnC2_eq, cond]; try rfl
@[simp] theorem v_sl (a : E) (lo hi : Option E) : xE gl cl (.sl a lo hi) γ μ = (xE gl cl a γ μ).bind fun x μ => (xO gl cl lo γ μ).bind fun l μ => (xO gl cl hi γ μ).bind fun h μ => orO (slice x l h) (slice (dr μ x) l h) μ := by
  simp only [xE, xEs, xO, xC, xPs, xS, xSs, turn_eq, turnC_eq, turnC2_eq, cond]; try rfl
@[simp] theorem v_call (f : Nat) (es ks : List E) (pm : List Nat) : xE gl cl (.call f es ks pm) γ μ = (xEs gl cl es γ μ).bind fun xs μ => (xEs gl cl ks γ μ).bind fun ys μ => (cl f (arr pm (xs ++ ys)) μ).back γ := by
  simp only [xE, xEs, xO, xC, xPs, xS, xSs, turn_eq, turnC_eq, turnC2_eq, cond]; try rfl
@[simp] theorem v_bi (b : Bi) (es : List E) : xE gl cl (.bi b es) γ μ = (xEs gl cl es γ μ).bind fun xs μ => orO (builtin b xs) (builtin b (xs.map (dr μ))) μ := by
  simp only [xE, xEs, xO, xC, xPs, xS, xSs, turn_eq, turnC_eq, turnC2_eq, cond]; try rfl
@[simp] theorem v_rng3 (a b c : E) : xE gl cl (.rng3 a b c) γ μ = (xE gl cl a γ μ).bind fun x μ => (xE gl cl b γ μ).bind fun y μ => (xE gl cl c γ μ).bind fun z μ => ofO (rangeD [x, y, z]) μ := by
  unfold xE; rfl
@[simp] theorem v_sset (a : E) : xE gl cl (.sset a) γ μ = (xE gl cl a γ μ).bind fun x μ => orO (ssetD x) (ssetD (dr μ x)) μ := by
  unfold xE; rfl
@[simp] theorem v_dsp0 : xE gl cl .dsp0 γ μ = .ok (.dic []) μ := by
  unfold xE; rfl
@[simp] theorem v_tidx (g : Nat) (e : E) : xE gl cl (.tidx g e) γ μ = if isTupO (gl g) then (xE gl cl e γ μ).bind fun y μ => ofO (tidxD (gl g) y) μ else .fail := by
  unfold xE; rfl
@[simp] theorem v_rvl (a : E) : xE gl cl (.rvl a) γ μ = (xE gl cl a γ μ).bind fun x μ => orO (rvlD x) (rvlD (dr μ x)) μ := by
  unfold xE; rfl
@[simp] theorem v_kys (a : E) : xE gl cl (.kys a) γ μ = (xE gl cl a γ μ).bind keysR := by
  unfold xE; rfl
@[simp] theorem v_dcp (a : E) : xE gl cl (.dcp a) γ μ = (xE gl cl a γ μ).bind dcpR := by
  unfold xE; rfl
@[simp] theorem v_mko (c f : Nat) (es ks : List E) (pm : List Nat) : xE gl cl (.mko c f es ks pm) γ μ = (xEs gl cl es γ μ).bind fun xs μ => (xEs gl cl ks γ μ).bind fun ys μ => .any (fun p => μ p = none) fun p => ((cl f (arr pm (.loc p :: (xs ++ ys))) (μ.put p (.ins c []))).back γ).bind fun r μ => madeR p r μ := by
  simp only [xE, xEs, xO, xC, xPs, xS, xSs, turn_eq, turnC_eq, turnC2_eq, cond]; try rfl
@[simp] theorem v_att (a : E) (f : Nat) : xE gl cl (.att a f) γ μ = (xE gl cl a γ μ).bind (attR f) := by
  simp only [xE, xEs, xO, xC, xPs, xS, xSs, turn_eq, turnC_eq, turnC2_eq, cond]; try rfl
@[simp] theorem v_mth (a : E) (c m f : Nat) (es : List E) : xE gl cl (.mth a c m f es) γ μ = (xE gl cl a γ μ).bind fun x μ => if isOb c μ x then (xEs gl cl es γ μ).bind fun xs μ => (cl f (x :: xs) μ).back γ else .fail := by
  simp only [xE, xEs, xO, xC, xPs, xS, xSs, turn_eq, turnC_eq, turnC2_eq, cond]; try rfl
@[simp] theorem v_mrg (a k v : E) : xE gl cl (.mrg a k v) γ μ = (xE gl cl a γ μ).bind fun x μ => (xE gl cl k γ μ).bind fun y μ => (xE gl cl v γ μ).bind fun z μ => mrgR x y z μ := by
  unfold xE; rfl
@[simp] theorem v_odic (i : Nat) : xE gl cl (.odic i) γ μ = match γ[i]? with | some (.own (.dic kvs)) => .ok (.dic kvs) μ | _ => .fail := by
  unfold xE; rfl
@[simp] theorem v_keysR (kvs : List (D × D)) : keysR (.dic kvs) μ = .ok (.lst (kvs.map (·.1))) μ := Eq.trans rfl rfl
@[simp] theorem v_dcpR (kvs : List (D × D)) : dcpR (.dic kvs) μ = .ok (.dic kvs) μ := Eq.trans rfl rfl
@[simp] theorem v_rvlD (xs : List D) : rvlD (.lst xs) = some (.lst xs.reverse) := Eq.trans rfl rfl
@[simp] theorem v_rev (a : E) : xE gl cl (.rev a) γ μ = (xE gl cl a γ μ).bind fun x μ => ofO (revD x) μ := by
  unfold xE; rfl
@[simp] theorem v_mt (m : Mt) (a e : E) : xE gl cl (.mt m a e) γ μ = (xE gl cl a γ μ).bind fun x μ => if isStr x then (xE gl cl e γ μ).bind fun y μ => ofO (mt1 m x y) μ else .fail := by
  simp only [xE, xEs, xO, xC, xPs, xS, xSs, turn_eq, turnC_eq, turnC2_eq, cond]; try rfl
@[simp] theorem v_isi (a : E) (ts : List Ty) : xE gl cl (.isi a ts) γ μ = (xE gl cl a γ μ).bind fun x μ => orO ((isTys x ts).map .bl) ((isTys (dr μ x) ts).map .bl) μ := by
  simp only [xE, xEs, xO, xC, xPs, xS, xSs, turn_eq, turnC_eq, turnC2_eq, cond]; try rfl
@[simp] theorem v_rng1 (a : E) : xE gl cl (.rng1 a) γ μ = (xE gl cl a γ μ).bind fun x μ => ofO (rangeD [x]) μ := by
  simp only [xE, xEs, xO, xC, xPs, xS, xSs, turn_eq, turnC_eq, turnC2_eq, cond]; try rfl
@[simp] theorem v_rng2 (a b : E) : xE gl cl (.rng2 a b) γ μ = (xE gl cl a γ μ).bind fun x μ => (xE gl cl b γ μ).bind fun y μ => ofO (rangeD [x, y]) μ := by
  simp only [xE, xEs, xO, xC, xPs, xS, xSs, turn_eq, turnC_eq, turnC2_eq, cond]; try rfl
@[simp] theorem v_enu (a : E) : xE gl cl (.enu a) γ μ = (xE gl cl a γ μ).bind fun x μ => ofO ((items x).map fun xs => .lst (enumL 0 xs)) μ := by
  simp only [xE, xEs, xO, xC, xPs, xS, xSs, turn_eq, turnC_eq, turnC2_eq, cond]; try rfl
@[simp] theorem v_zip (a b : E) : xE gl cl (.zip a b) γ μ = (xE gl cl a γ μ).bind fun x μ => (xE gl cl b γ μ).bind fun y μ => match items x, items y with
    | some xs, some ys => .ok (.lst (zipL xs ys)) μ
    | _, _ => .fail := by
  simp only [xE, xEs, xO, xC, xPs, xS, xSs, turn_eq, turnC_eq, turnC2_eq, cond]; try rfl
@[simp] theorem v_lc (t : List Nat) (it : E) (c : Option E) (e : E) : xE gl cl (.lc t it c e) γ μ = ((xE gl cl it γ μ).bind itemsR).bind fun xs μ => (lcL (turnC gl cl γ t c e) xs [] μ).nox.bind fun zs μ => .ok (.lst zs) μ := by
  simp only [xE, xEs, xO, xC, xPs, xS, xSs, turn_eq, turnC_eq, turnC2_eq, cond]; try rfl
@[simp] theorem v_lc2 (t : List Nat) (it : E) (c : Option E) (t2 : List Nat) (it2 : E) (c2 : Option E) (e : E) : xE gl cl (.lc2 t it c t2 it2 c2 e) γ μ = ((xE gl cl it γ μ).bind itemsR).bind fun xs μ => (lcL (turnC2 gl cl γ t c t2 it2 c2 e) xs [] μ).nox.bind fun zs μ => .ok (.lst zs) μ := by
  simp only [xE, xEs, xO, xC, xPs, xS, xSs, turn_eq, turnC_eq, turnC2_eq, cond]; try rfl
@[simp] theorem v_o0 : xO gl cl none γ μ = .ok none μ := by
  simp only [xE, xEs, xO, xC, xPs, xS, xSs, turn_eq, turnC_eq, turnC2_eq, cond]; try rfl
@[simp] theorem v_o1 (e : E) : xO gl cl (some e) γ μ = (xE gl cl e γ μ).bind intR := by
  simp only [xE, xEs, xO, xC, xPs, xS, xSs, turn_eq, turnC_eq, turnC2_eq, cond]; try rfl
@[simp] theorem v_c0 : xC gl cl none γ μ = .ok true μ := by
  simp only [xE, xEs, xO, xC, xPs, xS, xSs, turn_eq, turnC_eq, turnC2_eq, cond]; try rfl
@[simp] theorem v_c1 (e : E) : xC gl cl (some e) γ μ = (xE gl cl e γ μ).bind fun x μ => truthR x μ := by
  simp only [xE, xEs, xO, xC, xPs, xS, xSs, turn_eq, turnC_eq, turnC2_eq, cond]; try rfl
@[simp] theorem v_es0 : xEs gl cl [] γ μ = .ok [] μ := by
  simp only [xE, xEs, xO, xC, xPs, xS, xSs, turn_eq, turnC_eq, turnC2_eq, cond]; try rfl
@[simp] theorem v_es1 (e : E) (es : List E) : xEs gl cl (e :: es) γ μ = (xE gl cl e γ μ).bind fun x μ => (xEs gl cl es γ μ).bind fun xs μ => .ok (x :: xs) μ := by
  simp only [xE, xEs, xO, xC, xPs, xS, xSs, turn_eq, turnC_eq, turnC2_eq, cond]; try rfl
def cond (c : E) (γ : Ga) (μ : Sto) : R Bool := (xE gl cl c γ μ).bind fun x μ => truthR x μ
@[simp] theorem v_cond (c : E) : cond gl cl c γ μ = (xE gl cl c γ μ).bind fun x μ => truthR x μ := Eq.trans rfl rfl
@[simp] theorem v_asg (t : List Nat) (e : E) : xS gl cl (.asg t e) γ μ = (xE gl cl e γ μ).bind fun x μ => match setT γ t x with | some γ' => .ok (.nx γ') μ | none => .fail := by
  simp only [xE, xEs, xO, xC, xPs, xS, xSs, turn_eq, turnC_eq, turnC2_eq, cond]; try rfl
@[simp] theorem v_own (i : Nat) (e : E) : xS gl cl (.own i e) γ μ = (xE gl cl e γ μ).bind fun x μ => match x with | .lst xs => .ok (.nx (γ.set i (.own (.lst xs)))) μ | _ => .fail := by
  simp only [xE, xEs, xO, xC, xPs, xS, xSs, turn_eq, turnC_eq, turnC2_eq, cond]; try rfl
@[simp] theorem v_app (i : Nat) (e : E) : xS gl cl (.app i e) γ μ = match γ[i]? with
    | some (.own (.lst xs)) => (xE gl cl e γ μ).bind fun x μ => if xs.length < 1000000 then .ok (.nx (γ.set i (.own (.lst (xs ++ [x]))))) μ else .fail
    | _ => .fail := by
  simp only [xE, xEs, xO, xC, xPs, xS, xSs, turn_eq, turnC_eq, turnC2_eq, cond]; try rfl
@[simp] theorem v_popd (i : Nat) : xS gl cl (.popd i) γ μ = match γ[i]? with
    | some (.own (.lst xs)) => if xs.isEmpty then .fail else .ok (.nx (γ.set i (.own (.lst xs.dropLast)))) μ
    | _ => .fail := by
  simp only [xE, xEs, xO, xC, xPs, xS, xSs, turn_eq, turnC_eq, turnC2_eq, cond]; try rfl
@[simp] theorem v_lset (a i e : E) : xS gl cl (.lset a i e) γ μ = (xE gl cl e γ μ).bind fun x μ => (xE gl cl a γ μ).bind fun o μ => (xE gl cl i γ μ).bind fun j μ => match o, j with
    | .loc p, .int j => match μ p with
      | some (.lst xs) => match L2.ixN xs.length j with
        | some n => .ok (.nx γ) (μ.put p (.lst (xs.set n x)))
        | none => .fail
      | _ => .fail
    | _, _ => .fail := by
  simp only [xE, xEs, xO, xC, xPs, xS, xSs, turn_eq, turnC_eq, turnC2_eq, cond]; try rfl
@[simp] theorem v_aug (i : Nat) (o : Bop) (e : E) : xS gl cl (.aug i o e) γ μ = match γ[i]? with
    | some (.val x) => (xE gl cl e γ μ).bind fun y μ => match augB o x y with
      | some z => .ok (.nx (γ.set i (.val z))) μ
      | none => .fail
    | _ => .fail := by
  simp only [xE, xEs, xO, xC, xPs, xS, xSs, turn_eq, turnC_eq, turnC2_eq, cond]; try rfl
@[simp] theorem v_lapp (a e : E) : xS gl cl (.lapp a e) γ μ = (xE gl cl a γ μ).bind fun o μ => if isL μ o then (xE gl cl e γ μ).bind fun x μ => match o with
      | .loc p => match μ p with
        | some (.lst xs) => if xs.length < 1000000 then .ok (.nx γ) (μ.put p (.lst (xs ++ [x]))) else .fail
        | _ => .fail
      | _ => .fail
    else .fail := by
  simp only [xE, xEs, xO, xC, xPs, xS, xSs, turn_eq, turnC_eq, turnC2_eq, cond]; try rfl
@[simp] theorem v_oset (i : Nat) (j e : E) : xS gl cl (.oset i j e) γ μ = match γ[i]? with
    | some (.own (.lst xs)) => (xE gl cl e γ μ).bind fun x μ => (xE gl cl j γ μ).bind fun y μ => osetR γ i xs x y μ
    | _ => .fail := by
  simp only [xE, xEs, xO, xC, xPs, xS, xSs, turn_eq, turnC_eq, turnC2_eq, cond]; try rfl
@[simp] theorem v_oagi (i : Nat) (j : E) (o : Bop) (e : E) : xS gl cl (.oagi i j o e) γ μ = match γ[i]? with
    | some (.own (.lst xs)) => (xE gl cl j γ μ).bind fun y μ => match ixD xs y with
      | some (n, w) => (xE gl cl e γ μ).bind fun x μ => match augB o w x with
        | some z => .ok (.nx (γ.set i (.own (.lst (xs.set n z))))) μ
        | none => .fail
      | none => .fail
    | _ => .fail := by
  simp only [xE, xEs, xO, xC, xPs, xS, xSs, turn_eq, turnC_eq, turnC2_eq, cond]; try rfl
@[simp] theorem v_oext (i : Nat) (e : E) : xS gl cl (.oext i e) γ μ = match γ[i]? with
    | some (.own (.lst xs)) => (xE gl cl e γ μ).bind fun x μ => match x with
      | .lst ys => if xs.length + ys.length ≤ 1000000 then .ok (.nx (γ.set i (.own (.lst (xs ++ ys))))) μ else .fail
      | _ => .fail
    | _ => .fail := by
  simp only [xE, xEs, xO, xC, xPs, xS, xSs, turn_eq, turnC_eq, turnC2_eq, cond]; try rfl
@[simp] theorem v_expr (e : E) : xS gl cl (.expr e) γ μ = (xE gl cl e γ μ).bind fun _ μ => .ok (.nx γ) μ := by
  simp only [xE, xEs, xO, xC, xPs, xS, xSs, turn_eq, turnC_eq, turnC2_eq, cond]; try rfl
@[simp] theorem v_ret (e : E) : xS gl cl (.ret e) γ μ = (xE gl cl e γ μ).bind fun x μ => .ok (.rt x) μ := by
  simp only [xE, xEs, xO, xC, xPs, xS, xSs, turn_eq, turnC_eq, turnC2_eq, cond]; try rfl
@[simp] theorem v_retn : xS gl cl .retn γ μ = .ok (.rt .non) μ := by
  simp only [xE, xEs, xO, xC, xPs, xS, xSs, turn_eq, turnC_eq, turnC2_eq, cond]; try rfl
@[simp] theorem v_if (c : E) (a b : List S) : xS gl cl (.ite c a b) γ μ = (cond gl cl c γ μ).bind fun t μ => if t then xSs gl cl a γ μ else xSs gl cl b γ μ := by
  simp only [xE, xEs, xO, xC, xPs, xS, xSs, turn_eq, turnC_eq, turnC2_eq, cond]; try rfl
@[simp] theorem v_for (t : List Nat) (it : E) (b : List S) (kill : List Nat) : xS gl cl (.forr t it b kill) γ μ = ((xE gl cl it γ μ).bind itemsR).bind fun xs μ => forL (turn gl cl t b) kill xs γ μ := by
  simp only [xE, xEs, xO, xC, xPs, xS, xSs, turn_eq, turnC_eq, turnC2_eq, cond]; try rfl
@[simp] theorem v_par (i j : Nat) (a b : E) : xS gl cl (.par i j a b) γ μ = (xEs gl cl [a, b] γ μ).bind (parR i j γ) := by
  unfold xS xEs; rfl
@[simp] theorem v_parR (i j : Nat) (γ : Ga) (x y : D) (μ : Sto) : parR i j γ [x, y] μ = .ok (.nx ((γ.set i (.val x)).set j (.val y))) μ := Eq.trans rfl rfl
@[simp] theorem v_pass : xS gl cl .pass γ μ = .ok (.nx γ) μ := by
  simp only [xE, xEs, xO, xC, xPs, xS, xSs, turn_eq, turnC_eq, turnC2_eq, cond]; try rfl
@[simp] theorem v_brk : xS gl cl .brk γ μ = .ok (.bk γ) μ := by
  simp only [xE, xEs, xO, xC, xPs, xS, xSs, turn_eq, turnC_eq, turnC2_eq, cond]; try rfl
@[simp] theorem v_cont : xS gl cl .cont γ μ = .ok (.ct γ) μ := by
  simp only [xE, xEs, xO, xC, xPs, xS, xSs, turn_eq, turnC_eq, turnC2_eq, cond]; try rfl
@[simp] theorem v_frz (i : Nat) : xS gl cl (.frz i) γ μ = match γ[i]? with
    | some (.own (.lst xs)) => .ok (.nx (γ.set i (.val (.lst xs)))) μ
    | some (.own (.dic kvs)) => .ok (.nx (γ.set i (.val (.dic kvs)))) μ
    | _ => .ok (.nx γ) μ := by
  simp only [xE, xEs, xO, xC, xPs, xS, xSs, turn_eq, turnC_eq, turnC2_eq, cond]; try rfl
@[simp] theorem v_ownd (i : Nat) : xS gl cl (.ownd i) γ μ = .ok (.nx (γ.set i (.own (.dic [])))) μ := by
  unfold xS; rfl
@[simp] theorem v_fset (a : E) (c f : Nat) (e : E) : xS gl cl (.fset a c f e) γ μ = (xE gl cl e γ μ).bind fun y μ => (xE gl cl a γ μ).bind fun x μ => fsetR c f y x γ μ := by
  simp only [xE, xEs, xO, xC, xPs, xS, xSs, turn_eq, turnC_eq, turnC2_eq, cond]; try rfl
@[simp] theorem v_faug (a : E) (c f : Nat) (o : Bop) (e : E) : xS gl cl (.faug a c f o e) γ μ = (xE gl cl a γ μ).bind fun x μ => if isOb c μ x then (attR f x μ).bind fun v μ => (xE gl cl e γ μ).bind fun y μ => (ofO (augB o v y) μ).bind fun z μ => fsetR c f z x γ μ else .fail := by
  simp only [xE, xEs, xO, xC, xPs, xS, xSs, turn_eq, turnC_eq, turnC2_eq, cond]; try rfl
@[simp] theorem v_dset (i : Nat) (j e : E) : xS gl cl (.dset i j e) γ μ = match γ[i]? with
    | some (.own (.dic kvs)) => (xE gl cl e γ μ).bind fun x μ => (xE gl cl j γ μ).bind fun y μ => match keyD y with
      | some _ => if kvs.length < 1000000 then .ok (.nx (γ.set i (.own (.dic (putD kvs y x))))) μ else .fail
      | none => .fail
    | _ => .fail := by
  simp only [xE, xEs, xO, xC, xPs, xS, xSs, turn_eq, turnC_eq, turnC2_eq, cond]; try rfl
@[simp] theorem v_raise : xS gl cl .raise_ γ μ = .fail := by
  simp only [xE, xEs, xO, xC, xPs, xS, xSs, turn_eq, turnC_eq, turnC2_eq, cond]; try rfl
@[simp] theorem v_rais (c : Nat) (fl : List Nat) (es : List E) : xS gl cl (.rais c fl es) γ μ = (xEs gl cl es γ μ).bind fun ds μ => if ds.length = fl.length then .exc ⟨c, (fl.zip ds).reverse⟩ γ μ else .fail := by
  simp only [xE, xEs, xO, xC, xPs, xS, xSs, turn_eq, turnC_eq, turnC2_eq, cond]; try rfl
@[simp] theorem v_try (b : List S) (hs : List Hd) : xS gl cl (.try_ b hs) γ μ = (xSs gl cl b γ μ).catch fun x γ' μ' => hdl x γ' μ' hs := by
  simp only [xE, xEs, xO, xC, xPs, xS, xSs, turn_eq, turnC_eq, turnC2_eq, cond]; try rfl
@[simp] theorem v_ss0 : xSs gl cl [] γ μ = .ok (.nx γ) μ := by
  simp only [xE, xEs, xO, xC, xPs, xS, xSs, turn_eq, turnC_eq, turnC2_eq, cond]; try rfl
@[simp] theorem v_ss1 (s : S) (r : List S) : xSs gl cl (s :: r) γ μ = (xS gl cl s γ μ).bind fun fl μ => match fl with | .nx γ' => xSs gl cl r γ' μ | _ => .ok fl μ := by
  simp only [xE, xEs, xO, xC, xPs, xS, xSs, turn_eq, turnC_eq, turnC2_eq, cond]; try rfl
end
@[simp] theorem v_out0 (γ : Ga) (μ : Sto) : outF false (.nx γ) μ = .ok .non μ := Eq.trans rfl rfl
@[simp] theorem v_out1 (fr : Bool) (d : D) (μ : Sto) : outF fr (.rt d) μ = .ok d μ := Eq.trans rfl rfl
@[simp] theorem v_setT (γ : Ga) (i : Nat) (d : D) : setT γ [i] d = some (γ.set i (.val d)) := Eq.trans rfl rfl
@[simp] theorem v_setT2 (γ : Ga) (i j : Nat) (d e : D) : setT γ [i, j] (.tup [d, e]) = some ((γ.set i (.val d)).set j (.val e)) := Eq.trans rfl rfl
@[simp] theorem v_tbl (b : Bool) (μ : Sto) : truthR (.bl b) μ = .ok b μ := Eq.trans rfl rfl
@[simp] theorem v_tint (i : Int) (μ : Sto) : truthR (.int i) μ = .ok (i != 0) μ := Eq.trans rfl rfl
@[simp] theorem v_tlst (xs : List D) (μ : Sto) : truthR (.lst xs) μ = .ok (!xs.isEmpty) μ := Eq.trans rfl rfl
@[simp] theorem v_il (xs : List D) (μ : Sto) : itemsR (.lst xs) μ = .ok xs μ := Eq.trans rfl rfl
@[simp] theorem v_is (s : List Nat) (μ : Sto) : itemsR (.str s) μ = .ok (chars s) μ := Eq.trans rfl rfl
@[simp] theorem v_i1 (xs : List D) : items (.lst xs) = some xs := Eq.trans rfl rfl
@[simp] theorem v_i2 (s : List Nat) : items (.str s) = some (chars s) := Eq.trans rfl rfl
@[simp] theorem v_wipe0 (γ : Ga) : wipeG γ [] = γ := Eq.trans rfl rfl
@[simp] theorem v_wipe1 (γ : Ga) (i : Nat) (r : List Nat) : wipeG γ (i :: r) = (wipeG γ r).set i .un := Eq.trans rfl rfl
@[simp] theorem v_eqss (a b : List Nat) : compare .eq (.str a) (.str b) = some (.bl (decide (a = b))) := by
  simp [compare, eqD, plain, eqB, Bool.beq_eq_decide_eq]
@[simp] theorem v_ness (a b : List Nat) : compare .ne (.str a) (.str b) = some (.bl (!decide (a = b))) := by
  simp [compare, eqD, plain, eqB, Bool.beq_eq_decide_eq]
@[simp] theorem v_eqii (a b : Int) : compare .eq (.int a) (.int b) = some (.bl (decide (a = b))) := by
  simp [compare, eqD, plain, eqB, Bool.beq_eq_decide_eq]
@[simp] theorem v_neii (a b : Int) : compare .ne (.int a) (.int b) = some (.bl (!decide (a = b))) := by
  simp [compare, eqD, plain, eqB, Bool.beq_eq_decide_eq]
@[simp] theorem v_eqbb (a b : Bool) : compare .eq (.bl a) (.bl b) = some (.bl (decide (a = b))) := by
  cases a <;> cases b <;> simp [compare, eqD, plain, eqB]
@[simp] theorem v_nebb (a b : Bool) : compare .ne (.bl a) (.bl b) = some (.bl (!decide (a = b))) := by
  cases a <;> cases b <;> simp [compare, eqD, plain, eqB]
@[simp] theorem v_lt (a b : Int) : compare .lt (.int a) (.int b) = some (.bl (decide (a < b))) := Eq.trans rfl rfl
@[simp] theorem v_le (a b : Int) : compare .le (.int a) (.int b) = some (.bl (decide (a ≤ b))) := Eq.trans rfl rfl
@[simp] theorem v_gt (a b : Int) : compare .gt (.int a) (.int b) = some (.bl (decide (b < a))) := Eq.trans rfl rfl
@[simp] theorem v_ge (a b : Int) : compare .ge (.int a) (.int b) = some (.bl (decide (b ≤ a))) := Eq.trans rfl rfl
@[simp] theorem v_in (c : Nat) (s : List Nat) : compare .in_ (.str [c]) (.str s) = some (.bl (s.contains c)) := Eq.trans rfl rfl
@[simp] theorem v_nin (c : Nat) (s : List Nat) : compare .nin (.str [c]) (.str s) = some (.bl (!s.contains c)) := Eq.trans rfl rfl
@[simp] theorem v_isn0 (d : D) : compare .is_ d .non = some (.bl (match d with | .non => true | _ => false)) := by cases d <;> rfl
@[simp] theorem v_isn1 (d : D) : compare .isn d .non = some (.bl (match d with | .non => false | _ => true)) := by cases d <;> rfl
@[simp] theorem v_isbb (a b : Bool) : compare .is_ (.bl a) (.bl b) = some (.bl (decide (a = b))) := Eq.trans rfl rfl
@[simp] theorem v_isnb (b : Bool) : compare .is_ .non (.bl b) = some (.bl false) := Eq.trans rfl rfl
@[simp] theorem v_augi (a b : Int) : augB .add (.int a) (.int b) = some (.int (a + b)) := Eq.trans rfl rfl
@[simp] theorem v_augs (a b : List Nat) (h : a.length + b.length ≤ 1000000) : augB .add (.str a) (.str b) = some (.str (a ++ b)) := by simp [augB, h]
@[simp] theorem v_lens (s : List Nat) : builtin .len [.str s] = some (.int s.length) := Eq.trans rfl rfl
@[simp] theorem v_lenl (s : List D) : builtin .len [.lst s] = some (.int s.length) := Eq.trans rfl rfl
@[simp] theorem v_int (i : Int) : builtin .int [.int i] = some (.int i) := Eq.trans rfl rfl
@[simp] theorem v_arr1 {α : Type} (a : α) : arr [0] [a] = [a] := Eq.trans rfl rfl
@[simp] theorem v_arr2 {α : Type} (a b : α) : arr [0, 1] [a, b] = [a, b] := Eq.trans rfl rfl
@[simp] theorem v_arr2' {α : Type} (a b : α) : arr [1, 0] [a, b] = [b, a] := Eq.trans rfl rfl
@[simp] theorem v_arr3 {α : Type} (a b c : α) : arr [0, 1, 2] [a, b, c] = [a, b, c] := Eq.trans rfl rfl
@[simp] theorem v_arr4 {α : Type} (a b c d : α) : arr [0, 1, 2, 3] [a, b, c, d] = [a, b, c, d] := Eq.trans rfl rfl
@[simp] theorem v_arr5 {α : Type} (a b c d e : α) : arr [0, 1, 2, 3, 4] [a, b, c, d, e] = [a, b, c, d, e] := Eq.trans rfl rfl
@[simp] theorem v_arr6 {α : Type} (a b c d e f : α) : arr [0, 1, 2, 3, 4, 5] [a, b, c, d, e, f] = [a, b, c, d, e, f] := Eq.trans rfl rfl
@[simp] theorem v_arr0 {α : Type} : arr [] ([] : List α) = [] := Eq.trans rfl rfl
@[simp] theorem v_adds (a b : List Nat) (h : a.length + b.length ≤ 1000000) : binop .add (.str a) (.str b) = some (.str (a ++ b)) := by simp [binop, h]
@[simp] theorem v_addi (a b : Int) : binop .add (.int a) (.int b) = some (.int (a + b)) := Eq.trans rfl rfl
@[simp] theorem v_subi (a b : Int) : binop .sub (.int a) (.int b) = some (.int (a - b)) := Eq.trans rfl rfl
@[simp] theorem v_isistr (s : List Nat) : isTys (.str s) [.str] = some true := Eq.trans rfl rfl
@[simp] theorem v_join (xs : List D) (sep : List Nat) (ss : List (List Nat)) (h : strsD xs = some ss) (hl : (ss.map List.length).sum + ss.length * sep.length ≤ 1000000) : mt1 .join (.str sep) (.lst xs) = some (.str (joinL sep ss)) := by simp [mt1, h, hl]
theorem forL_cons (f : D → Ga → Sto → R Fl) (kill : List Nat) (x : D) (r : List D) (γ : Ga) (μ : Sto) : forL f kill (x :: r) γ μ = (f x γ μ).bind fun fl μ => match fl with
    | .nx γ' => forL f kill r (wipeG γ' kill) μ
    | .ct γ' => forL f kill r (wipeG γ' kill) μ
    | .bk γ' => .ok (.nx (wipeG γ' kill)) μ
    | .rt d => .ok (.rt d) μ := Eq.trans rfl rfl
@[simp] theorem forL_nil (f : D → Ga → Sto → R Fl) (kill : List Nat) (γ : Ga) (μ : Sto) : forL f kill [] γ μ = .ok (.nx γ) μ := Eq.trans rfl rfl
/-- a for without a return: by its turns on the slots -/
theorem forL_run {f : D → Ga → Sto → R Fl} {kill : List Nat} {μ : Sto} {st : Ga → D → Ga} {I : List D → Ga → Prop} (h : ∀ x r γ, I (x :: r) γ → f x γ μ = .ok (.nx (st γ x)) μ ∧ I r (wipeG (st γ x) kill)) :
    ∀ xs γ, I xs γ → forL f kill xs γ μ = .ok (.nx (xs.foldl (fun γ x => wipeG (st γ x) kill) γ)) μ
  | [], γ, _ => rfl
  | x :: r, γ, hi => by
    obtain ⟨e, h'⟩ := h x r γ hi
    rw [forL_cons, e]
    exact forL_run h r _ h'
/-- a comprehension whose turns are plain -/
theorem lcL_flat {f : D → List D → Sto → R (List D)} {g : D → List D} {μ : Sto} : ∀ (xs acc : List D), (∀ x ∈ xs, ∀ acc : List D, acc.length + (g x).length ≤ 1000000 → f x acc μ = .ok (acc ++ g x) μ) → acc.length + (xs.flatMap g).length ≤ 1000000 → lcL f xs acc μ = .ok (acc ++ xs.flatMap g) μ
  | [], acc, _, _ => by simp [lcL]
  | x :: r, acc, h, hl => by
    simp only [List.flatMap_cons, List.length_append] at hl
    unfold lcL
    rw [h x List.mem_cons_self acc (by omega)]
    simp only [bind_ok]
    rw [lcL_flat r (acc ++ g x) (fun y hy => h y (List.mem_cons_of_mem _ hy)) (by rw [List.length_append]; omega)]
    simp
theorem flat_fm {α β : Type} {b : α → Bool} {v : α → β} : ∀ xs : List α, xs.flatMap (fun x => if b x then [v x] else []) = (xs.filter b).map v
  | [] => rfl
  | x :: r => by
    rw [List.flatMap_cons, flat_fm r]
    cases h : b x <;> simp [h]
theorem fm_le {α β : Type} {b : α → Bool} {v : α → β} (xs : List α) : ((xs.filter b).map v).length ≤ xs.length := by
  rw [List.length_map]; exact List.length_filter_le _ _
/-- .. with one item at most each -/
theorem lcL_map {f : D → List D → Sto → R (List D)} {b : D → Bool} {v : D → D} {μ : Sto} (xs : List D) (h : ∀ x ∈ xs, ∀ acc : List D, acc.length < 1000000 → f x acc μ = .ok (if b x then acc ++ [v x] else acc) μ) (hl : xs.length ≤ 1000000) : lcL f xs [] μ = .ok ((xs.filter b).map v) μ := by
  have key : ∀ (xs acc : List D), (∀ x ∈ xs, ∀ acc : List D, acc.length < 1000000 → f x acc μ = .ok (if b x then acc ++ [v x] else acc) μ) → acc.length + xs.length ≤ 1000000 → lcL f xs acc μ = .ok (acc ++ (xs.filter b).map v) μ := by
    intro xs
    induction xs with
    | nil => intro acc _ _; simp [lcL]
    | cons x r ih =>
      intro acc h hl
      rw [List.length_cons] at hl
      unfold lcL
      rw [h x List.mem_cons_self acc (by omega)]
      simp only [bind_ok]
      cases hb : b x with
      | true =>
        rw [if_pos rfl, ih _ (fun y hy => h y (List.mem_cons_of_mem _ hy)) (by rw [List.length_append, List.length_singleton]; omega)]
        simp [hb]
      | false =>
        rw [if_neg (by simp), ih _ (fun y hy => h y (List.mem_cons_of_mem _ hy)) (by omega)]
        simp [hb]
  simpa using key xs [] h (by simpa using hl)
/-- a turn with a test and a value that are plain -/
theorem turnC_ok {gl : Nat → Option D} {cl : Nat → List D → Sto → R D} {γ γ' : Ga} {t : List Nat} {c : Option E} {e : E} {y v : D} {b : Bool} {acc : List D} {μ : Sto} (h1 : setT (wipeG γ t) t y = some γ') (h2 : xC gl cl c γ' μ = .ok b μ) (h3 : b = true → xE gl cl e γ' μ = .ok v μ) (hl : acc.length < 1000000) : turnC gl cl γ t c e y acc μ = .ok (if b then acc ++ [v] else acc) μ := by
  unfold turnC setTR
  rw [h1]
  simp only [h2, bind_ok]
  cases b with
  | true => rw [if_pos rfl, if_pos rfl, h3 rfl]; simp [addL, hl]
  | false => rw [if_neg (by simp), if_neg (by simp)]
end Bs
/-! Bs: plain lemmas and the bodies that stand in many laws. -/
namespace Bs
theorem ix_str {s : List Nat} {j : Nat} {t : Nat} (h : s[j]? = some t) (μ : Sto) : ixR (.str s) (.int (j : Nat)) μ = .ok (.str [t]) μ := by
  have hj : j < s.length := (List.getElem?_eq_some_iff.mp h).1
  have h1 : (j : Int) < s.length := by omega
  have h2 : (0 : Int) ≤ j := by omega
  simp [ixR, deref, index, L2.atI, L2.ixN, h1, h2, h]
theorem strs_chars : ∀ w : List Nat, strsD (chars w) = some (w.map fun c => [c])
  | [] => rfl
  | c :: w => by
    have := strs_chars w
    unfold chars at this ⊢
    simp [strsD, this]
theorem join_one : ∀ w : List Nat, joinL [] (w.map fun c => [c]) = w
  | [] => rfl
  | [c] => rfl
  | c :: d :: w => by
    have := join_one (d :: w)
    simp only [List.map_cons] at this ⊢
    simp [joinL, this]
theorem sum_one (w : List Nat) : ((w.map fun c => [c]).map List.length).sum = w.length := by
  induction w with
  | nil => rfl
  | cons c w ih => simp at ih ⊢; omega
theorem join_chars (w : List Nat) (h : w.length ≤ 1000000) : mt1 .join (.str []) (.lst (chars w)) = some (.str w) := by
  rw [v_join _ _ _ (strs_chars w) (by rw [sum_one]; simpa using h), join_one]
/-! ### inside -/
def ins : List Nat → List Nat → Bool
  | s :: c, t :: d => (s == 45 || s == t) && ins c d
  | _, _ => true
theorem enum_cons (j s : Nat) (r : List Nat) : enumL j (chars (s :: r)) = .tup [.int j, .str [s]] :: enumL (j + 1) (chars r) := rfl
abbrev SL (rows : List (List Nat)) : List D := rows.map D.str
def ch (sg : List Nat) (s : Nat) : List Nat := if s = 45 then sg else [s]
def ext1 (cs : List Nat) (rows : List (List Nat)) : List (List Nat) := rows.flatMap fun r => cs.map fun x => r ++ [x]
def Q (sg : List Nat) : List Nat → List (List Nat)
  | [] => [[]]
  | s :: c => (ch sg s).flatMap fun x => (Q sg c).map (x :: ·)
theorem foldl_Q (sg : List Nat) : ∀ (c : List Nat) (rows : List (List Nat)), c.foldl (fun rows s => ext1 (ch sg s) rows) rows = rows.flatMap fun r => (Q sg c).map (r ++ ·)
  | [], rows => by simp [Q]
  | s :: c, rows => by
    rw [List.foldl_cons, foldl_Q sg c]
    simp [Q, ext1, List.flatMap_assoc, List.map_flatMap, List.flatMap_map, Function.comp_def]
theorem ext1_len (cs : List Nat) (rows : List (List Nat)) : (ext1 cs rows).length = rows.length * cs.length := by
  unfold ext1
  induction rows with
  | nil => simp
  | cons r rows ih => rw [List.flatMap_cons, List.length_append, ih, List.length_map, List.length_cons, Nat.succ_mul]; omega
/-- rows of one length, not too many -/
structure Rw (n m : Nat) (rows : List (List Nat)) : Prop where
  len : ∀ r ∈ rows, r.length = n
  num : rows.length ≤ m
theorem Rw.ext {n m : Nat} {rows : List (List Nat)} {cs : List Nat} (h : Rw n m rows) (hc : cs.length ≤ 3) : Rw (n + 1) (m * 3) (ext1 cs rows) := by
  refine ⟨fun r hr => ?_, ?_⟩
  · unfold ext1 at hr
    rw [List.mem_flatMap] at hr
    obtain ⟨a, ha, hr⟩ := hr
    rw [List.mem_map] at hr
    obtain ⟨x, _, rfl⟩ := hr
    rw [List.length_append, h.len a ha]; rfl
  · rw [ext1_len]; exact Nat.mul_le_mul h.num hc
abbrev c01 : List Nat := [48, 49]
abbrev c01d : List Nat := [48, 49, 45]
theorem bnd_nat {n : Nat} (h : n ≤ 1000) : bnd (n : Int) = true := by
  have e : (2 : Int) ^ 62 = 4611686018427387904 := rfl
  unfold bnd
  rw [e, Bool.and_eq_true, decide_eq_true_eq, decide_eq_true_eq]
  omega
theorem rng_int {i : Int} (h : bnd i = true) : rangeD [.int i] = some (.lst (rangeL 0 i)) := by
  simp only [rangeD]
  generalize bnd i = b at h ⊢
  subst h
  rfl
theorem rng_nat {n : Nat} (h : n ≤ 1000) : rangeD [.int (n : Int)] = some (.lst (rangeL 0 n)) := rng_int (bnd_nat h)
/-! ### _law_points -/
def add01 (s : Nat) (r : List Nat) : List (List Nat) := (if s = 49 then [] else [r ++ [48]]) ++ (if s = 48 then [] else [r ++ [49]])
theorem pts_inner (gl : Nat → Option D) (cl : Nat → List D → Sto → R D) (C R0 : D) (s : Nat) (μ : Sto) : ∀ (rows : List (List Nat)) (acc : List D), (∀ r ∈ rows, r.length ≤ 100) → acc.length + rows.length * 2 ≤ 900000 →
    forL (turn gl cl [4] [.ite (.cmp .ne (.var 2) (.con (.str [49]))) [.app 3 (.bin .add (.var 4) (.con (.str [48])))] [], .ite (.cmp .ne (.var 2) (.con (.str [48]))) [.app 3 (.bin .add (.var 4) (.con (.str [49])))] []]) [4] (SL rows) [.val C, .val R0, .val (.str [s]), .own (.lst acc), .un] μ =
    .ok (.nx [.val C, .val R0, .val (.str [s]), .own (.lst (acc ++ SL (rows.flatMap (add01 s)))), .un]) μ
  | [], acc, _, _ => by simp
  | r :: rows, acc, hr, ha => by
    rw [List.length_cons] at ha
    have ih := pts_inner gl cl C R0 s μ rows (acc ++ SL (add01 s r)) (fun r h => hr r (List.mem_cons_of_mem _ h)) (by
      have : (add01 s r).length ≤ 2 := by unfold add01; split <;> split <;> simp
      simp; omega)
    have hr1 := hr r List.mem_cons_self
    have l0 : r.length + [48].length ≤ 1000000 := by simp; omega
    have l1 : r.length + [49].length ≤ 1000000 := by simp; omega
    have a0 : acc.length < 1000000 := by omega
    have a1 : acc.length + 1 < 1000000 := by omega
    show forL _ _ (.str r :: SL rows) _ _ = _
    rw [forL_cons]
    have e0 := v_adds r [48] l0
    have e1 := v_adds r [49] l1
    have ef : acc ++ SL ((r :: rows).flatMap (add01 s)) = acc ++ SL (add01 s r) ++ SL (rows.flatMap (add01 s)) := by simp
    rw [ef]
    by_cases h1 : s = 49
    · have h : add01 s r = [r ++ [49]] := by simp [add01, h1]
      rw [h] at ih ⊢
      simp [h1] at ih
      simp [turn, h1, e1, a0, ih]
    · by_cases h2 : s = 48
      · have h : add01 s r = [r ++ [48]] := by simp [add01, h2]
        rw [h] at ih ⊢
        simp [h2] at ih
        simp [turn, h2, e0, a0, ih]
      · have h : add01 s r = [r ++ [48], r ++ [49]] := by simp [add01, h1, h2]
        rw [h] at ih ⊢
        simp at ih
        simp [turn, h1, h2, e0, e1, a0, a1, ih]
theorem add_ext {s : Nat} (h : s = 48 ∨ s = 49 ∨ s = 45) (rows : List (List Nat)) : rows.flatMap (add01 s) = ext1 (ch c01 s) rows := by
  unfold ext1
  congr 1
  funext r
  rcases h with rfl | rfl | rfl <;> simp [add01, ch]
theorem pts_loop (gl : Nat → Option D) (cl : Nat → List D → Sto → R D) (C : D) (μ : Sto) : ∀ (c : List Nat) (n m : Nat) (rows : List (List Nat)), (∀ x ∈ c, x = 48 ∨ x = 49 ∨ x = 45) → Rw n m rows → n + c.length ≤ 10 → m * 3 ^ c.length ≤ 100000 →
    forL (turn gl cl [2] [.own 3 (.lst []), .forr [4] (.var 1) [.ite (.cmp .ne (.var 2) (.con (.str [49]))) [.app 3 (.bin .add (.var 4) (.con (.str [48])))] [], .ite (.cmp .ne (.var 2) (.con (.str [48]))) [.app 3 (.bin .add (.var 4) (.con (.str [49])))] []] [4], .frz 3, .asg [1] (.var 3)]) [2, 3, 4] (chars c) [.val C, .val (.lst (SL rows)), .un, .un, .un] μ =
    .ok (.nx [.val C, .val (.lst (SL (c.foldl (fun rows s => ext1 (ch c01 s) rows) rows))), .un, .un, .un]) μ
  | [], n, m, rows, _, _, _, _ => rfl
  | s :: c, n, m, rows, hc, hr, hn, hm => by
    rw [List.length_cons] at hn hm
    rw [Nat.pow_succ] at hm
    have hmm : m * 3 ^ c.length * 3 ≤ 100000 := by rw [Nat.mul_assoc]; exact hm
    have hm1 : m ≤ 100000 := by
      have h1 : 1 ≤ 3 ^ c.length := Nat.one_le_pow _ _ (by decide)
      have := Nat.mul_le_mul_left m h1
      omega
    have hch : (ch c01 s).length ≤ 3 := by unfold ch; split <;> simp
    have ih := pts_loop gl cl C μ c (n + 1) (m * 3) (ext1 (ch c01 s) rows) (fun x h => hc x (List.mem_cons_of_mem _ h)) (hr.ext hch) (by omega) (by rw [Nat.mul_right_comm]; exact hmm)
    have e := pts_inner gl cl C (.lst (SL rows)) s μ rows [] (fun r h => by rw [hr.len r h]; omega) (by have := hr.num; simp; omega)
    rw [add_ext (hc s List.mem_cons_self)] at e
    show forL _ _ (.str [s] :: chars c) _ _ = _
    rw [forL_cons]
    have e2 : turn gl cl [2] [.own 3 (.lst []), .forr [4] (.var 1) [.ite (.cmp .ne (.var 2) (.con (.str [49]))) [.app 3 (.bin .add (.var 4) (.con (.str [48])))] [], .ite (.cmp .ne (.var 2) (.con (.str [48]))) [.app 3 (.bin .add (.var 4) (.con (.str [49])))] []] [4], .frz 3, .asg [1] (.var 3)] (.str [s]) [.val C, .val (.lst (SL rows)), .un, .un, .un] μ = .ok (.nx [.val C, .val (.lst (SL (ext1 (ch c01 s) rows))), .val (.str [s]), .val (.lst (SL (ext1 (ch c01 s) rows))), .un]) μ := by
      simp only [List.nil_append] at e
      unfold turn
      simp [e]
    rw [e2]
    simp only [bind_ok, v_wipe1, v_wipe0, List.set_cons_succ, List.set_cons_zero, List.set_nil]
    rw [ih]
    rfl
/-! ### _law_rows -/
theorem rows_in (gl : Nat → Option D) (cl : Nat → List D → Sto → R D) (N Sg R0 : D) (x3 : Sl) (r : List Nat) (hr : r.length ≤ 100) (μ : Sto) : ∀ (sg : List Nat) (acc : List D), acc.length + sg.length ≤ 900000 →
    forL (turn gl cl [6] [.app 4 (.bin .add (.var 5) (.var 6))]) [6] (chars sg) [.val N, .val Sg, .val R0, x3, .own (.lst acc), .val (.str r), .un] μ =
    .ok (.nx [.val N, .val Sg, .val R0, x3, .own (.lst (acc ++ SL (sg.map fun x => r ++ [x]))), .val (.str r), .un]) μ
  | [], acc, _ => by simp [chars]
  | x :: sg, acc, ha => by
    rw [List.length_cons] at ha
    have ih := rows_in gl cl N Sg R0 x3 r hr μ sg (acc ++ [.str (r ++ [x])]) (by rw [List.length_append, List.length_singleton]; omega)
    have l0 : r.length + [x].length ≤ 1000000 := by simp; omega
    have a0 : acc.length < 1000000 := by omega
    show forL _ _ (.str [x] :: chars sg) _ _ = _
    rw [forL_cons]
    simp [turn, v_adds r [x] l0, a0]
    simpa [turn] using ih
theorem rows_mid (gl : Nat → Option D) (cl : Nat → List D → Sto → R D) (N R0 : D) (x3 : Sl) (sg : List Nat) (hs : sg.length ≤ 3) (μ : Sto) : ∀ (rows : List (List Nat)) (acc : List D), (∀ r ∈ rows, r.length ≤ 100) → acc.length + rows.length * 3 ≤ 900000 →
    forL (turn gl cl [5] [.forr [6] (.var 1) [.app 4 (.bin .add (.var 5) (.var 6))] [6]]) [5, 6] (SL rows) [.val N, .val (.str sg), .val R0, x3, .own (.lst acc), .un, .un] μ =
    .ok (.nx [.val N, .val (.str sg), .val R0, x3, .own (.lst (acc ++ SL (ext1 sg rows))), .un, .un]) μ
  | [], acc, _, _ => by simp [ext1]
  | r :: rows, acc, hr, ha => by
    rw [List.length_cons] at ha
    have ih := rows_mid gl cl N R0 x3 sg hs μ rows (acc ++ SL (sg.map fun x => r ++ [x])) (fun r h => hr r (List.mem_cons_of_mem _ h)) (by simp; omega)
    have e := rows_in gl cl N (.str sg) R0 x3 r (hr r List.mem_cons_self) μ sg acc (by omega)
    show forL _ _ (.str r :: SL rows) _ _ = _
    rw [forL_cons]
    have e2 : turn gl cl [5] [.forr [6] (.var 1) [.app 4 (.bin .add (.var 5) (.var 6))] [6]] (.str r) [.val N, .val (.str sg), .val R0, x3, .own (.lst acc), .un, .un] μ = .ok (.nx [.val N, .val (.str sg), .val R0, x3, .own (.lst (acc ++ SL (sg.map fun x => r ++ [x]))), .val (.str r), .un]) μ := by
      simp at e
      unfold turn
      simp [e]
    rw [e2]
    simp only [bind_ok, v_wipe1, v_wipe0, List.set_cons_succ, List.set_cons_zero, List.set_nil]
    rw [ih]
    simp [ext1]
theorem rows_out (gl : Nat → Option D) (cl : Nat → List D → Sto → R D) (N : D) (sg : List Nat) (hs : sg.length ≤ 3) (μ : Sto) : ∀ (xs : List D) (n m : Nat) (rows : List (List Nat)), Rw n m rows → n + xs.length ≤ 10 → m * 3 ^ xs.length ≤ 100000 →
    forL (turn gl cl [3] [.own 4 (.lst []), .forr [5] (.var 2) [.forr [6] (.var 1) [.app 4 (.bin .add (.var 5) (.var 6))] [6]] [5, 6], .frz 4, .asg [2] (.var 4)]) [3, 4, 5, 6] xs [.val N, .val (.str sg), .val (.lst (SL rows)), .un, .un, .un, .un] μ =
    .ok (.nx [.val N, .val (.str sg), .val (.lst (SL ((List.replicate xs.length 45).foldl (fun rows s => ext1 (ch sg s) rows) rows))), .un, .un, .un, .un]) μ
  | [], n, m, rows, _, _, _ => rfl
  | x :: xs, n, m, rows, hr, hn, hm => by
    rw [List.length_cons] at hn hm
    rw [Nat.pow_succ] at hm
    have hmm : m * 3 ^ xs.length * 3 ≤ 100000 := by rw [Nat.mul_assoc]; exact hm
    have hm1 : m ≤ 100000 := by
      have h1 : 1 ≤ 3 ^ xs.length := Nat.one_le_pow _ _ (by decide)
      have := Nat.mul_le_mul_left m h1
      omega
    have ih := rows_out gl cl N sg hs μ xs (n + 1) (m * 3) (ext1 sg rows) (hr.ext hs) (by omega) (by rw [Nat.mul_right_comm]; exact hmm)
    have e := rows_mid gl cl N (.lst (SL rows)) (.val x) sg hs μ rows [] (fun r h => by rw [hr.len r h]; omega) (by have := hr.num; simp; omega)
    rw [forL_cons]
    have e2 : turn gl cl [3] [.own 4 (.lst []), .forr [5] (.var 2) [.forr [6] (.var 1) [.app 4 (.bin .add (.var 5) (.var 6))] [6]] [5, 6], .frz 4, .asg [2] (.var 4)] x [.val N, .val (.str sg), .val (.lst (SL rows)), .un, .un, .un, .un] μ = .ok (.nx [.val N, .val (.str sg), .val (.lst (SL (ext1 sg rows))), .val x, .val (.lst (SL (ext1 sg rows))), .un, .un]) μ := by
      simp only [List.nil_append] at e
      unfold turn
      simp [e]
    rw [e2]
    simp only [bind_ok, v_wipe1, v_wipe0, List.set_cons_succ, List.set_cons_zero, List.set_nil]
    rw [ih]
    simp [List.replicate_succ, ch]
theorem bools_bl : ∀ bs : List Bool, boolsD (bs.map D.bl) = some bs
  | [] => rfl
  | b :: bs => by simp [boolsD, bools_bl bs]
theorem chars_len (w : List Nat) : (chars w).length = w.length := by simp [chars]
theorem t_ll (xs : List D) : isTys (.lst xs) [.list] = some true := rfl
theorem t_ii (i : Int) : isTys (.int i) [.int] = some true := rfl
theorem t_ib (i : Int) : isTys (.int i) [.bool] = some false := rfl
theorem t_bb (b : Bool) : isTys (.bl b) [.bool] = some true := rfl
theorem plains_SL : ∀ (n : Nat) (rows : List (List Nat)), plains n (SL rows) = true
  | _, [] => by simp [plains]
  | n, r :: rows => by
    have := plains_SL n rows
    simp only [SL, List.map_cons] at this ⊢
    simp [plains, plain, this]
theorem eqBs_SL : ∀ (rows : List (List Nat)), eqBs (SL rows) (SL rows) = true
  | [] => by simp [eqBs]
  | r :: rows => by
    have := eqBs_SL rows
    simp only [SL, List.map_cons] at this ⊢
    simp [eqBs, eqB, this]
theorem eqD_SL (rows : List (List Nat)) : eqD (.lst (SL rows)) (.lst (SL rows)) = some true := by
  have h : plain 60 (.lst (SL rows)) = true := by simp only [plain]; exact plains_SL 59 rows
  have h2 : eqB (.lst (SL rows)) (.lst (SL rows)) = true := by simp only [eqB]; exact eqBs_SL rows
  unfold eqD; rw [h, h2]; rfl
theorem eq_SL (rows : List (List Nat)) : compare .eq (.lst (SL rows)) (.lst (SL rows)) = some (.bl true) := by
  show (eqD _ _).map D.bl = _
  rw [eqD_SL]; rfl
theorem ne_SL (rows : List (List Nat)) : compare .ne (.lst (SL rows)) (.lst (SL rows)) = some (.bl false) := by
  show (eqD _ _).map (fun r => D.bl !r) = _
  rw [eqD_SL]; rfl
theorem inD_SL (p : List Nat) : ∀ rows : List (List Nat), inD (.str p) (SL rows) = some (decide (p ∈ rows)) := by
  intro rows
  have h1 : (SL rows).all flat = true := by simp [flat]
  have h2 : (SL rows).any (fun y => eqB y (.str p)) = decide (p ∈ rows) := by
    induction rows with
    | nil => simp
    | cons r rows ih =>
      simp only [SL, List.map_cons] at ih ⊢
      rw [List.any_cons, ih (by simp [flat])]
      simp only [eqB, List.mem_cons, Bool.beq_eq_decide_eq, Bool.decide_or]
      congr 1
      simp [eq_comm]
  unfold inD
  rw [h1, h2]
  rfl
theorem inF_SL (p : List Nat) : ∀ rows : List (List Nat), inF (.str p) (SL rows) = some (decide (p ∈ rows)) := by
  intro rows
  have h1 : (SL rows).all flat = true := by simp [flat]
  have h2 : (SL rows).any (fun y => eqB y (.str p)) = decide (p ∈ rows) := by
    induction rows with
    | nil => simp
    | cons r rows ih =>
      simp only [SL, List.map_cons] at ih ⊢
      rw [List.any_cons, ih (by simp [flat])]
      simp only [eqB, List.mem_cons, Bool.beq_eq_decide_eq, Bool.decide_or]
      congr 1
      simp [eq_comm]
  unfold inF
  rw [h1, h2]
  rfl
theorem in_SL (p : List Nat) (rows : List (List Nat)) : compare .in_ (.str p) (.lst (SL rows)) = some (.bl (decide (p ∈ rows))) := by
  show (inD (.str p) (SL rows)).map D.bl = _
  rw [inD_SL]; rfl
theorem nin_SL (p : List Nat) (rows : List (List Nat)) : compare .nin (.str p) (.lst (SL rows)) = some (.bl (!decide (p ∈ rows))) := by
  show (inD (.str p) (SL rows)).map (fun r => D.bl !r) = _
  rw [inD_SL]; rfl
/-- comprehensions over data of one kind -/
theorem lc_gen {α : Type} {f : D → List D → Sto → R (List D)} (emb : α → D) (g : α → List D) {μ : Sto} : ∀ (l : List α) (acc : List D), (∀ a ∈ l, ∀ acc : List D, acc.length < 1000000 → f (emb a) acc μ = .ok (acc ++ g a) μ) → (∀ a, (g a).length ≤ 1) → acc.length + l.length ≤ 1000000 → lcL f (l.map emb) acc μ = .ok (acc ++ l.flatMap g) μ
  | [], acc, _, _, _ => by simp [lcL]
  | a :: l, acc, h, h1, hl => by
    rw [List.length_cons] at hl
    rw [List.map_cons]
    unfold lcL
    rw [h a List.mem_cons_self acc (by omega)]
    simp only [bind_ok]
    have := h1 a
    rw [lc_gen emb g l (acc ++ g a) (fun b hb => h b (List.mem_cons_of_mem _ hb)) h1 (by rw [List.length_append]; omega)]
    simp
theorem lc_filt {f : D → List D → Sto → R (List D)} (q : List Nat → Bool) {μ : Sto} (rows : List (List Nat)) (h : ∀ p ∈ rows, ∀ acc : List D, acc.length < 1000000 → f (.str p) acc μ = .ok (if q p then acc ++ [.str p] else acc) μ) (hl : rows.length ≤ 1000000) : lcL f (SL rows) [] μ = .ok (SL (rows.filter q)) μ := by
  have := lc_gen D.str (fun p => if q p then [D.str p] else []) (f := f) (μ := μ) rows [] (fun p hp acc ha => by rw [h p hp acc ha]; cases q p <;> simp) (fun p => by split <;> simp) (by simpa using hl)
  rw [flat_fm] at this
  simpa using this
theorem lc_bool {α : Type} {f : D → List D → Sto → R (List D)} (emb : α → D) (q : α → Bool) {μ : Sto} (l : List α) (h : ∀ p ∈ l, ∀ acc : List D, acc.length < 1000000 → f (emb p) acc μ = .ok (acc ++ [.bl (q p)]) μ) (hl : l.length ≤ 1000000) : lcL f (l.map emb) [] μ = .ok ((l.map q).map D.bl) μ := by
  have := lc_gen emb (fun p => [D.bl (q p)]) (f := f) (μ := μ) l [] h (fun p => by simp) (by simpa using hl)
  rw [this]
  congr 1
  rw [List.nil_append]
  clear h hl this
  induction l with
  | nil => rfl
  | cons a l ih => rw [List.flatMap_cons, ih]; rfl
theorem all_bl (bs : List Bool) : builtin .all [.lst (bs.map D.bl)] = some (.bl (bs.all id)) := by
  show ((boolsD (bs.map D.bl)).map fun bs => D.bl (bs.all id)) = _
  rw [bools_bl]; rfl
/-- signs in 01- -/
theorem all_in (gl : Nat → Option D) (cl : Nat → List D → Sto → R D) (γ : Ga) (i : Nat) (hi : i < γ.length) (s g : List Nat) (hs : s.length ≤ 1000) (μ : Sto) : lcL (turnC gl cl γ [i] none (.cmp .in_ (.var i) (.con (.str g)))) (chars s) [] μ = .ok ((s.map fun c => g.contains c).map D.bl) μ := by
  refine lc_bool (fun c => D.str [c]) (fun c => g.contains c) s (fun c _ acc ha => ?_) (by omega)
  rw [turnC_ok (γ' := γ.set i (.val (.str [c]))) (b := true) (v := .bl (g.contains c)) (by simp) (v_c0 _ _ _ _) (fun _ => by
    have : (γ.set i (.val (.str [c])))[i]? = some (.val (.str [c])) := List.getElem?_set_self hi
    simp only [v_cmp, v_var, this, bind_ok, v_con, v_in, ofO_s, orO_some]) ha]
  simp
def Al (c : List Nat) : Prop := ∀ x ∈ c, x = 48 ∨ x = 49 ∨ x = 45
theorem Al.tl {s : Nat} {c : List Nat} (h : Al (s :: c)) : (s = 48 ∨ s = 49 ∨ s = 45) ∧ Al c := ⟨h s List.mem_cons_self, fun x hx => h x (List.mem_cons_of_mem _ hx)⟩
theorem mem_Q (sg : List Nat) {p : List Nat} {x s : Nat} {c : List Nat} : (x :: p) ∈ Q sg (s :: c) ↔ x ∈ ch sg s ∧ p ∈ Q sg c := by
  simp [Q]
theorem len_flat {α β : Type} (l : List α) (f : α → β → β) (ys : List β) : (l.flatMap fun x => ys.map (f x)).length = l.length * ys.length := by
  induction l with
  | nil => simp
  | cons x l ih => rw [List.flatMap_cons, List.length_append, ih, List.length_map, List.length_cons, Nat.succ_mul]; omega
/-- all rows of n signs of -01 -/
abbrev dd3 : List Nat := [45, 48, 49]
theorem mem_all : ∀ (n : Nat) (e : List Nat), e ∈ Q dd3 (List.replicate n 45) ↔ e.length = n ∧ Al e
  | 0, e => by
    simp [Q, Al]
    cases e <;> simp
  | n + 1, [] => by simp [List.replicate_succ, Q]
  | n + 1, x :: e => by
    rw [List.replicate_succ, mem_Q, mem_all n e]
    simp only [ch, if_pos, List.length_cons, Al, List.mem_cons, List.not_mem_nil, or_false]
    constructor
    · rintro ⟨h1, h2, h3⟩
      exact ⟨by omega, fun y hy => hy.elim (fun z => by subst z; omega) (h3 y)⟩
    · rintro ⟨h1, h2⟩
      have := h2 x (.inl rfl)
      exact ⟨by omega, by omega, fun y hy => h2 y (.inr hy)⟩
theorem num_le {sg : List Nat} (hs : sg.length ≤ 3) : ∀ c : List Nat, (Q sg c).length ≤ 3 ^ c.length
  | [] => by simp [Q]
  | s :: c => by
    have := num_le hs c
    have h2 : (ch sg s).length ≤ 3 := by unfold ch; split; exact hs; simp
    have e : (Q sg (s :: c)).length = (ch sg s).length * (Q sg c).length := len_flat _ _ _
    rw [e, List.length_cons, Nat.pow_succ, Nat.mul_comm (3 ^ _)]
    exact Nat.mul_le_mul h2 this
theorem num5 {sg : List Nat} (hs : sg.length ≤ 3) {c : List Nat} (h5 : c.length ≤ 5) : (Q sg c).length ≤ 243 := by
  have := Nat.pow_le_pow_right (n := 3) (by decide) h5
  exact Nat.le_trans (num_le hs c) this
theorem fit_loop (gl : Nat → Option D) (cl : Nat → List D → Sto → R D) (s g : List Nat) (n : Int) (μ : Sto) : ∀ (r : List Nat), forL (turn gl cl [3] [.ite (.cmp .nin (.var 3) (.var 2)) [.ret (.con (.bl false))] []]) [3] (chars r) [.val (.str s), .val (.int n), .val (.str g), .un] μ =
    .ok (if (r.all fun c => g.contains c) then .nx [.val (.str s), .val (.int n), .val (.str g), .un] else .rt (.bl false)) μ
  | [] => rfl
  | c :: r => by
    have ih := fit_loop gl cl s g n μ r
    show forL _ _ (.str [c] :: chars r) _ _ = _
    rw [forL_cons]
    by_cases hc : c ∈ g
    · simp [turn, hc, ih]
    · simp [turn, hc]
theorem small_of {i : Int} (h0 : 0 ≤ i) (h1 : i < 4294967296) : small i = true := by
  have e : (2 : Int) ^ 64 = 18446744073709551616 := rfl
  unfold small
  rw [e, Bool.and_eq_true, decide_eq_true_eq, decide_eq_true_eq]
  omega
theorem mul_l {i j : Int} (h : small i = true) : binop .mul (.int i) (.int j) = some (.int (i * j)) := by
  show (if (small i || small j) = true then some (D.int (i * j)) else none) = _
  rw [h]; rfl
theorem mul_r {i j : Int} (h : small j = true) : binop .mul (.int i) (.int j) = some (.int (i * j)) := by
  show (if (small i || small j) = true then some (D.int (i * j)) else none) = _
  rw [h, Bool.or_true]; rfl
theorem mod_p {i j : Int} (h : 0 < j) : binop .mod (.int i) (.int j) = some (.int (i % j)) := by
  show (if decide (0 < j) = true then some (D.int (i % j)) else none) = _
  rw [decide_eq_true h]; rfl
theorem fdiv_p {i j : Int} (h : 0 < j) (h2 : j < 1073741824) : binop .fdiv (.int i) (.int j) = some (.int (i / j)) := by
  show (if (decide (0 < j) && decide (j < 1073741824)) = true then some (D.int (i / j)) else none) = _
  rw [decide_eq_true h, decide_eq_true h2]; rfl
def mk (a b : Int) (bs ss : List Int) : Ob := .lst [.int a, .int b, .lst (bs.map D.int), .lst (ss.map D.int)]
structure StA (p : Nat) (a b : Int) (bs ss : List Int) (μ : Sto) : Prop where
  at_ : μ p = some (mk a b bs ss)
  a0 : 0 ≤ a
  bp : ∀ x ∈ bs, 0 ≤ x
def St (p : Nat) (μ : Sto) : Prop := ∃ a b bs ss, StA p a b bs ss μ
section
variable {p : Nat} {a b : Int} {bs ss : List Int} {μ : Sto}
theorem ix0 (h : μ p = some (mk a b bs ss)) : ixR (.loc p) (.int 0) μ = .ok (.int a) μ := by simp [ixR, deref, h, mk, index, L2.atI, L2.ixN]
theorem ix1 (h : μ p = some (mk a b bs ss)) : ixR (.loc p) (.int 1) μ = .ok (.int b) μ := by simp [ixR, deref, h, mk, index, L2.atI, L2.ixN]
theorem ix2 (h : μ p = some (mk a b bs ss)) : ixR (.loc p) (.int 2) μ = .ok (.lst (bs.map D.int)) μ := by simp [ixR, deref, h, mk, index, L2.atI, L2.ixN]
theorem ix3 (h : μ p = some (mk a b bs ss)) : ixR (.loc p) (.int 3) μ = .ok (.lst (ss.map D.int)) μ := by simp [ixR, deref, h, mk, index, L2.atI, L2.ixN]
end
theorem ixl {ss : List Int} {i : Int} (h0 : 0 ≤ i) (h1 : i < ss.length) (μ : Sto) : ∃ x, x ∈ ss ∧ ixR (.lst (ss.map D.int)) (.int i) μ = .ok (.int x) μ := by
  have hn : i.toNat < ss.length := by omega
  refine ⟨ss[i.toNat], List.getElem_mem hn, ?_⟩
  have h1' : i < ((ss.map D.int).length : Int) := by simpa using h1
  simp [ixR, deref, index, L2.atI, L2.ixN, h0, h1, hn]
section
variable (μ : Sto) (p : Nat) (a b c d : D)
theorem px0 : ixR (.loc p) (.int 0) (μ.put p (.lst [a, b, c, d])) = .ok a (μ.put p (.lst [a, b, c, d])) := by simp [ixR, deref, index, L2.atI, L2.ixN]
theorem px1 : ixR (.loc p) (.int 1) (μ.put p (.lst [a, b, c, d])) = .ok b (μ.put p (.lst [a, b, c, d])) := by simp [ixR, deref, index, L2.atI, L2.ixN]
theorem px2 : ixR (.loc p) (.int 2) (μ.put p (.lst [a, b, c, d])) = .ok c (μ.put p (.lst [a, b, c, d])) := by simp [ixR, deref, index, L2.atI, L2.ixN]
theorem px3 : ixR (.loc p) (.int 3) (μ.put p (.lst [a, b, c, d])) = .ok d (μ.put p (.lst [a, b, c, d])) := by simp [ixR, deref, index, L2.atI, L2.ixN]
end
/-- _law_draw -/
theorem draw1 (gl : Nat → Option D) (cl : Nat → List D → Sto → R D) {p : Nat} {m : Int} {μ : Sto} (h : St p μ) : ∃ μ', St p μ' ∧ xS gl cl (.ite (.and (.cmp .eq (.ix (.var 0) (.con (.int 0))) (.con (.int 0))) (.cmp .gt (.bi .len [(.ix (.var 0) (.con (.int 2)))]) (.con (.int 0)))) [.lset (.var 0) (.con (.int 0)) (.ix (.ix (.var 0) (.con (.int 2))) (.con (.int 0))), .lset (.var 0) (.con (.int 2)) (.sl (.ix (.var 0) (.con (.int 2))) (some (.con (.int 1))) none)] []) [.val (.loc p), .val (.int m), .un, .un, .un] μ = .ok (.nx [.val (.loc p), .val (.int m), .un, .un, .un]) μ' := by
  obtain ⟨a, b, bs, ss, hA⟩ := h
  have hat := hA.at_
  by_cases ha : a = 0
  · cases bs with
    | nil =>
      refine ⟨μ, ⟨a, b, [], ss, hA⟩, ?_⟩
      simp [ix0 hat, ix2 hat, ha]
    | cons x bs =>
      have hx := hA.bp x List.mem_cons_self
      have e1 : ixR (.lst (D.int x :: bs.map D.int)) (.int 0) μ = .ok (.int x) μ := by simp [ixR, deref, index, L2.atI, L2.ixN]
      have at1 : (μ.put p (mk x b (x :: bs) ss)) p = some (mk x b (x :: bs) ss) := put_same _ _ _
      refine ⟨μ.put p (mk x b bs ss), ⟨x, b, bs, ss, put_same _ _ _, hx, fun y hy => hA.bp y (List.mem_cons_of_mem _ hy)⟩, ?_⟩
      have ix2' : ∀ (ν : Sto), ν p = some (mk x b (x :: bs) ss) → ixR (.loc p) (.int 2) ν = .ok (.lst (D.int x :: bs.map D.int)) ν := fun ν h => by have := ix2 h; simpa using this
      have ix2'' : ixR (.loc p) (.int 2) μ = .ok (.lst (D.int x :: bs.map D.int)) μ := by have := ix2 hat; simpa using this
      have es : slice (.lst (D.int x :: bs.map D.int)) (some 1) none = some (.lst (bs.map D.int)) := by
        simp [slice, cut, HT.sIx]
        exact List.take_of_length_le (by simp)
      have l0 : L2.ixN 4 0 = some 0 := by decide
      have l2 : L2.ixN 4 2 = some 2 := by decide
      have hat' : μ p = some (.lst [.int a, .int b, .lst ((x :: bs).map D.int), .lst (ss.map D.int)]) := hat
      simp [ix0 hat, ix2'', ha, e1, hat', l0, l2, intR, px2, es, mk]
  · refine ⟨μ, ⟨a, b, bs, ss, hA⟩, ?_⟩
    simp [ix0 hat, ha]

/-! ### bodies that stand in many laws -/
def fitL : List S := [.ite (.cmp .nin (.var 3) (.var 2)) [.ret (.con (.bl false))] []]
def fitB : List S := [.ite (.or (.not (.isi (.var 0) [.str])) (.cmp .ne (.bi .len [(.var 0)]) (.var 1))) [.ret (.con (.bl false))] [],
  .forr [3] (.var 0) [.ite (.cmp .nin (.var 3) (.var 2)) [.ret (.con (.bl false))] []] [3],
  .ret (.con (.bl true))]
section
variable (gl : Nat → Option D) (cl : Nat → List D → Sto → R D)
theorem fit_yes (s g : List Nat) (n : Int) (μ : Sto) : (xSs gl cl fitB [.val (.str s), .val (.int n), .val (.str g), .un] μ).bind (outF false) = .ok (.bl (decide ((s.length : Int) = n) && s.all fun c => g.contains c)) μ := by
  by_cases hn : (s.length : Int) = n
  · have hl := fit_loop gl cl s g n μ s
    generalize (s.all fun c => g.contains c) = q at hl ⊢
    cases q <;> simp [fitB, hn, hl]
  · simp [fitB, hn]
def pointsB : List S := [.asg [1] (.lst [(.con (.str []))]),
  .forr [2] (.var 0) [.own 3 (.lst []), .forr [4] (.var 1) [.ite (.cmp .ne (.var 2) (.con (.str [49]))) [.app 3 (.bin .add (.var 4) (.con (.str [48])))] [], .ite (.cmp .ne (.var 2) (.con (.str [48]))) [.app 3 (.bin .add (.var 4) (.con (.str [49])))] []] [4], .frz 3, .asg [1] (.var 3)] [2, 3, 4],
  .ret (.var 1)]
theorem points_s {c : List Nat} (hc : ∀ x ∈ c, x = 48 ∨ x = 49 ∨ x = 45) (h5 : c.length ≤ 5) (μ : Sto) : (xSs gl cl pointsB [.val (.str c), .un, .un, .un, .un] μ).bind (outF false) = .ok (.lst (SL (Q c01 c))) μ := by
  have hp : 1 * 3 ^ c.length ≤ 100000 := by
    have := Nat.pow_le_pow_right (n := 3) (by decide) h5
    omega
  have e := pts_loop gl cl (.str c) μ c 0 1 [[]] hc ⟨fun r h => by simp at h; simp [h], by simp⟩ (by omega) hp
  rw [foldl_Q] at e
  simp at e
  simp [pointsB, e]
def rowsB : List S := [.asg [2] (.lst [(.con (.str []))]),
  .forr [3] (.rng1 (.var 0)) [.own 4 (.lst []), .forr [5] (.var 2) [.forr [6] (.var 1) [.app 4 (.bin .add (.var 5) (.var 6))] [6]] [5, 6], .frz 4, .asg [2] (.var 4)] [3, 4, 5, 6],
  .ret (.var 2)]
theorem rows_s (n : Nat) (sg : List Nat) (hs : sg.length ≤ 3) (h5 : n ≤ 5) (μ : Sto) : (xSs gl cl rowsB [.val (.int n), .val (.str sg), .un, .un, .un, .un, .un] μ).bind (outF false) = .ok (.lst (SL (Q sg (List.replicate n 45)))) μ := by
  have hl : (rangeL 0 n).length = n := by simp [rangeL]
  have hp : 1 * 3 ^ (rangeL 0 n).length ≤ 100000 := by
    rw [hl]
    have := Nat.pow_le_pow_right (n := 3) (by decide) h5
    omega
  have e := rows_out gl cl (.int n) sg hs μ (rangeL 0 n) 0 1 [[]] ⟨fun r h => by simp at h; simp [h], by simp⟩ (by omega) hp
  rw [foldl_Q, hl] at e
  simp at e
  have hr := rng_nat (show n ≤ 1000 by omega)
  simp [rowsB, hr, e]
def drawB : List S := [.ite (.and (.cmp .eq (.ix (.var 0) (.con (.int 0))) (.con (.int 0))) (.cmp .gt (.bi .len [(.ix (.var 0) (.con (.int 2)))]) (.con (.int 0)))) [.lset (.var 0) (.con (.int 0)) (.ix (.ix (.var 0) (.con (.int 2))) (.con (.int 0))), .lset (.var 0) (.con (.int 2)) (.sl (.ix (.var 0) (.con (.int 2))) (some (.con (.int 1))) none)] [],
  .ite (.cmp .gt (.ix (.var 0) (.con (.int 0))) (.con (.int 0))) [.asg [4] (.bin .mod (.bi .int [(.ix (.var 0) (.con (.int 0)))]) (.var 1)), .lset (.var 0) (.con (.int 0)) (.bin .fdiv (.ix (.var 0) (.con (.int 0))) (.var 1)), .ret (.var 4)] [],
  .lset (.var 0) (.con (.int 1)) (.bin .add (.ix (.var 0) (.con (.int 1))) (.con (.int 1))),
  .asg [2] (.con (.int 0)),
  .ite (.cmp .gt (.bi .len [(.ix (.var 0) (.con (.int 3)))]) (.con (.int 0))) [.asg [2] (.ix (.ix (.var 0) (.con (.int 3))) (.bin .mod (.ix (.var 0) (.con (.int 1))) (.bi .len [(.ix (.var 0) (.con (.int 3)))])))] [],
  .asg [3] (.bin .mod (.bin .add (.bin .add (.bin .mul (.bi .int [(.var 2)]) (.con (.int 48271))) (.bin .mul (.ix (.var 0) (.con (.int 1))) (.con (.int 69621)))) (.con (.int 17))) (.con (.int 2147483647))),
  .asg [3] (.bin .mod (.bin .add (.bin .mul (.var 3) (.bin .add (.bin .fdiv (.var 3) (.con (.int 1009))) (.con (.int 69623)))) (.ix (.var 0) (.con (.int 1)))) (.con (.int 2147483629))),
  .asg [3] (.bin .mod (.bin .add (.bin .mul (.var 3) (.bin .add (.bin .fdiv (.var 3) (.con (.int 2003))) (.con (.int 40693)))) (.bin .mul (.ix (.var 0) (.con (.int 1))) (.con (.int 31)))) (.con (.int 2147483399))),
  .ret (.bin .mod (.bin .fdiv (.var 3) (.con (.int 16))) (.var 1))]
theorem draw_s {p : Nat} {m : Int} {μ : Sto} (h : St p μ) (hm : 0 < m) (hm2 : m < 1073741824) : ∃ r μ', (xSs gl cl drawB [.val (.loc p), .val (.int m), .un, .un, .un] μ).bind (outF false) = .ok (.int r) μ' ∧ 0 ≤ r ∧ r < m ∧ St p μ' := by
  obtain ⟨μ1, h1, e1⟩ := draw1 gl cl (m := m) h
  obtain ⟨a, b, bs, ss, hA⟩ := h1
  have hat := hA.at_
  have hat' : μ1 p = some (.lst [.int a, .int b, .lst (bs.map D.int), .lst (ss.map D.int)]) := hat
  have l0 : L2.ixN 4 0 = some 0 := by decide
  have l1 : L2.ixN 4 1 = some 1 := by decide
  unfold drawB
  rw [v_ss1, e1, bind_ok]
  by_cases ha : 0 < a
  · refine ⟨a % m, μ1.put p (mk (a / m) b bs ss), ?_, Int.emod_nonneg a (by omega), Int.emod_lt_of_pos a hm, a / m, b, bs, ss, put_same _ _ _, Int.ediv_nonneg hA.a0 (by omega), hA.bp⟩
    simp [ix0 hat, ha, mod_p hm, fdiv_p hm hm2, hat', l0, mk]
  · have fin : ∀ (seed : Int) (o : Int), o = b + 1 → ∃ r, 0 ≤ r ∧ r < m ∧ (xSs gl cl [.asg [3] (.bin .mod (.bin .add (.bin .add (.bin .mul (.bi .int [(.var 2)]) (.con (.int 48271))) (.bin .mul (.ix (.var 0) (.con (.int 1))) (.con (.int 69621)))) (.con (.int 17))) (.con (.int 2147483647))),
  .asg [3] (.bin .mod (.bin .add (.bin .mul (.var 3) (.bin .add (.bin .fdiv (.var 3) (.con (.int 1009))) (.con (.int 69623)))) (.ix (.var 0) (.con (.int 1)))) (.con (.int 2147483629))),
  .asg [3] (.bin .mod (.bin .add (.bin .mul (.var 3) (.bin .add (.bin .fdiv (.var 3) (.con (.int 2003))) (.con (.int 40693)))) (.bin .mul (.ix (.var 0) (.con (.int 1))) (.con (.int 31)))) (.con (.int 2147483399))),
  .ret (.bin .mod (.bin .fdiv (.var 3) (.con (.int 16))) (.var 1))] [.val (.loc p), .val (.int m), .val (.int seed), .un, .un] (μ1.put p (.lst [.int a, .int o, .lst (bs.map D.int), .lst (ss.map D.int)]))).bind (outF false) = .ok (.int r) (μ1.put p (.lst [.int a, .int o, .lst (bs.map D.int), .lst (ss.map D.int)])) := by
      intro seed o _
      generalize hx : (seed * 48271 + o * 69621 + 17) % 2147483647 = x
      have hx0 : small x = true := small_of (by omega) (by omega)
      generalize hy : (x * (x / 1009 + 69623) + o) % 2147483629 = y
      have hy0 : small y = true := small_of (by omega) (by omega)
      generalize hz : (y * (y / 2003 + 40693) + o * 31) % 2147483399 = z
      refine ⟨z / 16 % m, Int.emod_nonneg _ (by omega), Int.emod_lt_of_pos _ hm, ?_⟩
      have s1 : small 48271 = true := small_of (by decide) (by decide)
      have s2 : small 69621 = true := small_of (by decide) (by decide)
      have s3 : small 31 = true := small_of (by decide) (by decide)
      have m1 := fun i => mod_p (i := i) (j := 2147483647) (by decide)
      have m2 := fun i => mod_p (i := i) (j := 2147483629) (by decide)
      have m3 := fun i => mod_p (i := i) (j := 2147483399) (by decide)
      have f1 := fun i => fdiv_p (i := i) (j := 1009) (by decide) (by decide)
      have f2 := fun i => fdiv_p (i := i) (j := 2003) (by decide) (by decide)
      have f3 := fun i => fdiv_p (i := i) (j := 16) (by decide) (by decide)
      simp [px1, mul_r s1, mul_r s2, mul_r s3, m1, m2, m3, f1, f2, f3, hx, mul_l hx0, hy, mul_l hy0, hz, mod_p hm]
    have a0 : a = 0 := by have := hA.a0; omega
    generalize hrest : ([.asg [3] (.bin .mod (.bin .add (.bin .add (.bin .mul (.bi .int [(.var 2)]) (.con (.int 48271))) (.bin .mul (.ix (.var 0) (.con (.int 1))) (.con (.int 69621)))) (.con (.int 17))) (.con (.int 2147483647))),
  .asg [3] (.bin .mod (.bin .add (.bin .mul (.var 3) (.bin .add (.bin .fdiv (.var 3) (.con (.int 1009))) (.con (.int 69623)))) (.ix (.var 0) (.con (.int 1)))) (.con (.int 2147483629))),
  .asg [3] (.bin .mod (.bin .add (.bin .mul (.var 3) (.bin .add (.bin .fdiv (.var 3) (.con (.int 2003))) (.con (.int 40693)))) (.bin .mul (.ix (.var 0) (.con (.int 1))) (.con (.int 31)))) (.con (.int 2147483399))),
  .ret (.bin .mod (.bin .fdiv (.var 3) (.con (.int 16))) (.var 1))] : List S) = rest at fin ⊢
    by_cases hs : ss = []
    · obtain ⟨r, r0, r1, e⟩ := fin 0 (b + 1) rfl
      refine ⟨r, μ1.put p (.lst [.int a, .int (b + 1), .lst (bs.map D.int), .lst (ss.map D.int)]), ?_, r0, r1, a, b + 1, bs, ss, put_same _ _ _, hA.a0, hA.bp⟩
      subst hs
      simp [ix0 hat, ix1 hat, hat', ha, l1, px3] at e ⊢
      exact e
    · have hlen : 0 < ss.length := List.length_pos_iff.mpr hs
      have hl0 : (0 : Int) < ss.length := by omega
      obtain ⟨x, hx, ex⟩ := ixl (ss := ss) (i := (b + 1) % ss.length) (Int.emod_nonneg _ (by omega)) (Int.emod_lt_of_pos _ hl0) (μ1.put p (.lst [.int a, .int (b + 1), .lst (bs.map D.int), .lst (ss.map D.int)]))
      obtain ⟨r, r0, r1, e⟩ := fin x (b + 1) rfl
      refine ⟨r, μ1.put p (.lst [.int a, .int (b + 1), .lst (bs.map D.int), .lst (ss.map D.int)]), ?_, r0, r1, a, b + 1, bs, ss, put_same _ _ _, hA.a0, hA.bp⟩
      simp [ix0 hat, ix1 hat, hat', ha, l1, px3, px1, hlen, mod_p hl0, ex] at e ⊢
      exact e
def startB : List S := [.asg [1] (.lc [3] (.var 0) (some (.cmp .ge (.bi .abs [(.var 3)]) (.bin .pow (.con (.int 10)) (.con (.int 18))))) (.bi .abs [(.var 3)])),
  .asg [2] (.lc [3] (.var 0) (some (.cmp .lt (.bi .abs [(.var 3)]) (.bin .pow (.con (.int 10)) (.con (.int 18))))) (.var 3)),
  .ret (.new [(.con (.int 0)), (.con (.int 0)), (.var 1), (.var 2)])]
theorem pw : binop .pow (.int 10) (.int 18) = some (.int 1000000000000000000) := rfl
def ab (i : Int) : Int := if i < 0 then -i else i
theorem start_s (ns : List Int) (hl : ns.length ≤ 63) (μ : Sto) : ∃ bs ss : List Int, (∀ x ∈ bs, 0 ≤ x) ∧ (xSs gl cl startB [.val (.lst (ns.map D.int)), .un, .un, .un] μ).bind (outF false) = .any (fun p => μ p = none) fun p => .ok (.loc p) (μ.put p (mk 0 0 bs ss)) := by
  have ea : ∀ i : Int, builtin .abs [.int i] = some (.int (ab i)) := fun i => rfl
  have g1 := lc_gen D.int (fun n => if decide (1000000000000000000 ≤ ab n) then [D.int (ab n)] else []) (f := turnC gl cl [.val (.lst (ns.map D.int)), .un, .un, .un] [3] (some (.cmp .ge (.bi .abs [(.var 3)]) (.bin .pow (.con (.int 10)) (.con (.int 18))))) (.bi .abs [(.var 3)])) (μ := μ) ns [] (fun n _ acc ha => by
    rw [turnC_ok (γ' := [.val (.lst (ns.map D.int)), .un, .un, .val (.int n)]) (b := decide (1000000000000000000 ≤ ab n)) (v := .int (ab n)) rfl (by simp [ea, pw]) (fun _ => by simp [ea]) ha]
    by_cases h : 1000000000000000000 ≤ ab n <;> simp [h]) (fun n => by split <;> simp) (by simp; omega)
  have g2 := fun X : List D => lc_gen D.int (fun n => if decide (ab n < 1000000000000000000) then [D.int n] else []) (f := turnC gl cl [.val (.lst (ns.map D.int)), .val (.lst X), .un, .un] [3] (some (.cmp .lt (.bi .abs [(.var 3)]) (.bin .pow (.con (.int 10)) (.con (.int 18))))) (.var 3)) (μ := μ) ns [] (fun n _ acc ha => by
    rw [turnC_ok (γ' := [.val (.lst (ns.map D.int)), .val (.lst X), .un, .val (.int n)]) (b := decide (ab n < 1000000000000000000)) (v := .int n) rfl (by simp [ea, pw]) (fun _ => by simp) ha]
    by_cases h : ab n < 1000000000000000000 <;> simp [h]) (fun n => by split <;> simp) (by simp; omega)
  rw [flat_fm] at g1
  simp only [flat_fm, List.nil_append] at g1 g2
  have m1 : (ns.filter fun n => decide (1000000000000000000 ≤ ab n)).map (fun n => D.int (ab n)) = ((ns.filter fun n => decide (1000000000000000000 ≤ ab n)).map ab).map D.int := by rw [List.map_map]; rfl
  rw [m1] at g1
  refine ⟨(ns.filter fun n => decide (1000000000000000000 ≤ ab n)).map ab, ns.filter fun n => decide (ab n < 1000000000000000000), fun x hx => ?_, ?_⟩
  · rw [List.mem_map] at hx
    obtain ⟨n, _, rfl⟩ := hx
    unfold ab; split <;> omega
  · skip
    generalize ((ns.filter fun n => decide (1000000000000000000 ≤ ab n)).map ab) = bs at g1 ⊢
    generalize (ns.filter fun n => decide (ab n < 1000000000000000000)) = ss at g2 ⊢
    generalize hL : ns.map D.int = L at g1 g2 ⊢
    simp [startB, g1, g2, R.bind, mk]
end
end Bs
/-! Bs: trees as data. -/
namespace Bs
inductive T where | inp (i : Nat) | one | zero | not (t : T) | gate (a : Bool) (ts : List T)
abbrev sIn : List Nat := [105, 110]
abbrev sOne : List Nat := [111, 110, 101]
abbrev sZero : List Nat := [122, 101, 114, 111]
abbrev sNot : List Nat := [110, 111, 116]
abbrev sAnd : List Nat := [97, 110, 100]
abbrev sOr : List Nat := [111, 114]
def sGate (a : Bool) : List Nat := if a then sAnd else sOr
mutual
def enc : T → D
  | .inp i => .tup [.str sIn, .int i]
  | .one => .tup [.str sOne]
  | .zero => .tup [.str sZero]
  | .not t => .tup [.str sNot, enc t]
  | .gate a ts => .tup [.str (sGate a), .tup (encs ts)]
def encs : List T → List D
  | [] => []
  | t :: r => enc t :: encs r
end
theorem encs_map : ∀ ts : List T, encs ts = ts.map enc
  | [] => by simp [encs]
  | t :: r => by simp [encs, encs_map r]
mutual
def T.leaves : T → Nat
  | .inp _ => 1
  | .one => 1
  | .zero => 1
  | .not t => t.leaves
  | .gate _ ts => leavesS ts
def leavesS : List T → Nat
  | [] => 0
  | t :: r => t.leaves + leavesS r
end
mutual
def T.depth : T → Nat
  | .inp _ => 1
  | .one => 1
  | .zero => 1
  | .not t => t.depth + 1
  | .gate _ ts => depthS ts + 1
def depthS : List T → Nat
  | [] => 0
  | t :: r => max t.depth (depthS r)
end
/-! each gate has a part, not too many -/
mutual
def T.full : T → Prop
  | .not t => t.full
  | .gate _ ts => ts ≠ [] ∧ ts.length ≤ 1000 ∧ fullS ts
  | _ => True
def fullS : List T → Prop
  | [] => True
  | t :: r => t.full ∧ fullS r
end
/-! the letters are below n -/
mutual
def T.lt (n : Nat) : T → Bool
  | .inp i => decide (i < n)
  | .not t => t.lt n
  | .gate _ ts => ltS n ts
  | _ => true
def ltS (n : Nat) : List T → Bool
  | [] => true
  | t :: r => t.lt n && ltS n r
end
/-- the sign on a cube -/
def swp (s : Nat) : Nat := if s = 45 then 45 else if s = 48 then 49 else 48
def str01 (a : Bool) : Nat := if a then 48 else 49
def comb (a : Bool) (l : List Nat) : Nat := if str01 a ∈ l then str01 a else if 45 ∈ l then 45 else str01 (!a)
mutual
def T.sgn (c : List Nat) : T → Nat
  | .inp i => c[i]?.getD 0
  | .one => 49
  | .zero => 48
  | .not t => swp (t.sgn c)
  | .gate a ts => comb a (sgnS c ts)
def sgnS (c : List Nat) : List T → List Nat
  | [] => []
  | t :: r => t.sgn c :: sgnS c r
end
def mx (l : List Int) : Int := (maxL l).getD 0
mutual
def T.sz : T → Int × Int
  | .not t => ((t.sz).1, 1 + (t.sz).2)
  | .gate _ ts => (((szS ts).map (·.1)).sum, 1 + mx ((szS ts).map (·.2)))
  | _ => (1, 1)
def szS : List T → List (Int × Int)
  | [] => []
  | t :: r => t.sz :: szS r
end
def T.isLeaf : T → Bool
  | .inp _ => true
  | .one => true
  | .zero => true
  | _ => false
def T.parts : T → List T
  | .not t => [t]
  | .gate _ ts => ts
  | _ => []
def T.fits (n : Nat) : T → Bool
  | .inp i => decide (i < n)
  | _ => true
theorem T.depth_pos (t : T) : 0 < t.depth := by cases t <;> simp [T.depth]
section
variable (μ : Sto) (a b c : D)
@[simp] theorem tix20 : ixR (.tup [a, b]) (.int 0) μ = .ok a μ := by simp [ixR, deref, index, L2.atI, L2.ixN]
@[simp] theorem tix21 : ixR (.tup [a, b]) (.int 1) μ = .ok b μ := by simp [ixR, deref, index, L2.atI, L2.ixN]
@[simp] theorem tix10 : ixR (.tup [a]) (.int 0) μ = .ok a μ := by simp [ixR, deref, index, L2.atI, L2.ixN]
@[simp] theorem lix10 (r : List D) : ixR (.lst (a :: r)) (.int 0) μ = .ok a μ := by
  have : (0 : Int) < (r.length : Int) + 1 := by omega
  simp [ixR, deref, index, L2.atI, L2.ixN, this]
end
@[simp] theorem v_lent (xs : List D) : builtin .len [.tup xs] = some (.int xs.length) := Eq.trans rfl rfl
@[simp] theorem v_itt (xs : List D) (μ : Sto) : itemsR (.tup xs) μ = .ok xs μ := Eq.trans rfl rfl
@[simp] theorem v_it (xs : List D) : items (.tup xs) = some xs := Eq.trans rfl rfl
@[simp] theorem v_isitup (xs : List D) : isTys (.tup xs) [.tuple] = some true := Eq.trans rfl rfl
@[simp] theorem v_isibl (b : Bool) : isTys (.bl b) [.bool] = some true := Eq.trans rfl rfl
@[simp] theorem v_isiint (i : Int) : isTys (.int i) [.int] = some true := Eq.trans rfl rfl
@[simp] theorem v_isiintb (i : Int) : isTys (.int i) [.bool] = some false := Eq.trans rfl rfl
@[simp] theorem v_isilst (xs : List D) : isTys (.lst xs) [.list] = some true := Eq.trans rfl rfl
@[simp] theorem v_addt (a b : List D) (h : a.length + b.length ≤ 1000000) : binop .add (.tup a) (.tup b) = some (.tup (a ++ b)) := by simp [binop, h]
theorem ix_lst {xs : List D} {j : Nat} {x : D} (h : xs[j]? = some x) (μ : Sto) : ixR (.lst xs) (.int (j : Nat)) μ = .ok x μ := by
  have hj : j < xs.length := (List.getElem?_eq_some_iff.mp h).1
  have h1 : (j : Int) < xs.length := by omega
  have h2 : (0 : Int) ≤ j := by omega
  simp [ixR, deref, index, L2.atI, L2.ixN, h1, h2, h]
theorem ix_tup {xs : List D} {j : Nat} {x : D} (h : xs[j]? = some x) (μ : Sto) : ixR (.tup xs) (.int (j : Nat)) μ = .ok x μ := by
  have hj : j < xs.length := (List.getElem?_eq_some_iff.mp h).1
  have h1 : (j : Int) < xs.length := by omega
  have h2 : (0 : Int) ≤ j := by omega
  simp [ixR, deref, index, L2.atI, L2.ixN, h1, h2, h]
theorem in_strs (p : List Nat) (rows : List (List Nat)) : compare .in_ (.str p) (.tup (SL rows)) = some (.bl (decide (p ∈ rows))) := by
  show (inF (.str p) (SL rows)).map D.bl = _
  rw [inF_SL]; rfl
theorem in_str2 (p a b : List Nat) : compare .in_ (.str p) (.tup [.str a, .str b]) = some (.bl (decide (p = a ∨ p = b))) := by
  have := in_strs p [a, b]; simpa using this
theorem in_str3 (p a b c : List Nat) : compare .in_ (.str p) (.tup [.str a, .str b, .str c]) = some (.bl (decide (p = a ∨ p = b ∨ p = c))) := by
  have := in_strs p [a, b, c]; simpa using this
theorem in_lstr2 (p a b : List Nat) : compare .in_ (.str p) (.lst [.str a, .str b]) = some (.bl (decide (p = a ∨ p = b))) := by
  have := in_SL p [a, b]; simpa using this
theorem ints_int : ∀ l : List Int, intsD (l.map D.int) = some l
  | [] => rfl
  | i :: l => by simp [intsD, ints_int l]
theorem sum_i (l : List Int) : builtin .sum [.lst (l.map D.int)] = some (.int l.sum) := by
  show (intsD (l.map D.int)).map (fun is => D.int is.sum) = _
  rw [ints_int]; rfl
theorem max_i {l : List Int} (h : l ≠ []) : builtin .max [.lst (l.map D.int)] = some (.int (mx l)) := by
  show ((intsD (l.map D.int)).bind maxL).map D.int = _
  rw [ints_int]
  cases l with
  | nil => exact absurd rfl h
  | cons i r => rfl
theorem lc_map1 {α : Type} {f : D → List D → Sto → R (List D)} (emb v : α → D) {μ : Sto} (l : List α) (h : ∀ a ∈ l, ∀ acc : List D, acc.length < 1000000 → f (emb a) acc μ = .ok (acc ++ [v a]) μ) (hl : l.length ≤ 1000000) : lcL f (l.map emb) [] μ = .ok (l.map v) μ := by
  have := lc_gen emb (fun a => [v a]) (f := f) (μ := μ) l [] h (fun a => by simp) (by simpa using hl)
  rw [this]
  congr 1
  rw [List.nil_append]
  clear h hl this
  induction l with
  | nil => rfl
  | cons a l ih => rw [List.flatMap_cons, ih]; rfl
theorem chars_SL (l : List Nat) : chars l = SL (l.map fun c => [c]) := by simp [chars]
theorem in_chars (s : Nat) (l : List Nat) : compare .in_ (.str [s]) (.lst (chars l)) = some (.bl (decide (s ∈ l))) := by
  rw [chars_SL, in_SL]
  congr 2
  simp
theorem mx_lt (m : Int) : ∀ (l : List Int) (i : Int), mx (i :: l) < m ↔ i < m ∧ ∀ x ∈ l, x < m := by
  intro l
  show ∀ i, l.foldl (fun a b => if a < b then b else a) i < m ↔ _
  induction l with
  | nil => intro i; simp
  | cons x l ih =>
    intro i
    rw [List.foldl_cons, ih]
    constructor
    · rintro ⟨h1, h2⟩
      split at h1
      · exact ⟨by omega, fun y hy => (List.mem_cons.mp hy).elim (fun e => by subst e; exact h1) (h2 y)⟩
      · exact ⟨h1, fun y hy => (List.mem_cons.mp hy).elim (fun e => by subst e; omega) (h2 y)⟩
    · rintro ⟨h1, h2⟩
      have := h2 x List.mem_cons_self
      exact ⟨by split <;> omega, fun y hy => h2 y (List.mem_cons_of_mem _ hy)⟩
def encSz (p : Int × Int) : D := .tup [.int p.1, .int p.2]
theorem szS_len : ∀ ts : List T, (szS ts).length = ts.length
  | [] => rfl
  | t :: r => by simp [szS, szS_len r]
theorem sgnS_len (c : List Nat) : ∀ ts : List T, (sgnS c ts).length = ts.length
  | [] => rfl
  | t :: r => by simp [sgnS, sgnS_len c r]
theorem swp_al {s : Nat} (h : s = 48 ∨ s = 49 ∨ s = 45) : swp s = 48 ∨ swp s = 49 ∨ swp s = 45 := by rcases h with rfl | rfl | rfl <;> decide
theorem comb_al (a : Bool) (l : List Nat) : comb a l = 48 ∨ comb a l = 49 ∨ comb a l = 45 := by
  unfold comb
  by_cases h1 : str01 a ∈ l
  · rw [if_pos h1]; cases a <;> simp [str01]
  · rw [if_neg h1]
    by_cases h2 : 45 ∈ l
    · rw [if_pos h2]; simp
    · rw [if_neg h2]; cases a <;> simp [str01]
theorem T.sgn_al {c : List Nat} (hc : Al c) : ∀ t : T, t.lt c.length = true → t.sgn c = 48 ∨ t.sgn c = 49 ∨ t.sgn c = 45
  | .inp i, h => by
    have hi : i < c.length := by simpa [T.lt] using h
    simp only [T.sgn, List.getElem?_eq_getElem hi, Option.getD_some]
    exact hc _ (List.getElem_mem hi)
  | .one, _ => by simp [T.sgn]
  | .zero, _ => by simp [T.sgn]
  | .not t, h => by simp only [T.sgn]; exact swp_al (T.sgn_al hc t h)
  | .gate a ts, _ => by simp only [T.sgn]; exact comb_al a _
end Bs
/-! Bs: outcomes by wishes; the draws of type C. -/
namespace Bs
theorem bind_any {α β : Type} (P : Nat → Prop) (k : Nat → R α) (f : α → Sto → R β) : (R.any P k).bind f = .any P fun p => (k p).bind f := Eq.trans rfl rfl
theorem bind_assoc {α β δ : Type} (r : R α) (f : α → Sto → R β) (g : β → Sto → R δ) : (r.bind f).bind g = r.bind fun a μ => (f a μ).bind g := by
  induction r with
  | ok a μ => rfl
  | exc x γ μ => rfl
  | fail => rfl
  | any P k ih => simp only [R.bind]; congr 1; funext p; exact ih p
theorem back_bind {α β : Type} (r : R α) (f : α → Sto → R β) (γ : Ga) : (r.bind f).back γ = (r.back γ).bind fun a μ => (f a μ).back γ := by
  induction r with
  | ok a μ => rfl
  | exc x γ μ => rfl
  | fail => rfl
  | any P k ih => simp only [R.bind, R.back]; congr 1; funext p; exact ih p
abbrev Wn : Xc → Ga → Sto → Prop := fun _ _ _ => False
theorem all_back {α : Type} {r : R α} {γ : Ga} {Q : α → Sto → Prop} (h : r.All Q Wn) : (r.back γ).All Q Wn := by
  induction r with
  | ok a μ => exact h
  | exc x γ μ => exact h.elim
  | fail => exact h
  | any P k ih => exact fun p hp => ih p (h p hp)
theorem all_nox {α : Type} {r : R α} {Q : α → Sto → Prop} {W : Xc → Ga → Sto → Prop} (h : r.All Q Wn) : r.nox.All Q W := by
  induction r with
  | ok a μ => exact h
  | exc x γ μ => exact h.elim
  | fail => exact h
  | any P k ih => exact fun p hp => ih p (h p hp)
/-- a step, then the rest -/
theorem all_step {α β : Type} {r : R α} {f : α → Sto → R β} {P : α → Sto → Prop} {Q : β → Sto → Prop} {W : Xc → Ga → Sto → Prop} (h : r.All P W) (k : ∀ a μ, P a μ → (f a μ).All Q W) : (r.bind f).All Q W := by
  rw [R.All_bind]; exact h.mono k fun _ _ _ w => w
/-- a call, then the rest -/
theorem all_call {β : Type} {r : R D} {γ : Ga} {f : D → Sto → R β} {P : D → Sto → Prop} {Q : β → Sto → Prop} (h : r.All P Wn) (k : ∀ a μ, P a μ → (f a μ).All Q Wn) : ((r.back γ).bind f).All Q Wn := all_step (all_back h) k
theorem all_is {α : Type} {a : α} {μ : Sto} {Q : α → Sto → Prop} {W : Xc → Ga → Sto → Prop} (h : Q a μ) : (R.ok a μ).All Q W := h
theorem all_any {α : Type} {P : Nat → Prop} {k : Nat → R α} {Q : α → Sto → Prop} {W : Xc → Ga → Sto → Prop} (h : ∀ p, P p → (k p).All Q W) : (R.any P k).All Q W := h
theorem all_call1 {r : R D} {γ : Ga} {P : D → Sto → Prop} {Q : D → Sto → Prop} (h : r.All P Wn) (k : ∀ a μ, P a μ → Q a μ) : (r.back γ).All Q Wn := all_back (h.mono k fun _ _ _ w => w)
/-! ### the state of the draws of type C -/
/-- the state stands at p, its cells at q -/
structure Sc (p q : Nat) (μ : Sto) : Prop where
  ne : p ≠ q
  st : ∃ n : Int, 0 ≤ n ∧ μ p = some (.lst [.loc q, .int n])
  ce : ∃ cs : List Int, cs ≠ [] ∧ cs.length ≤ 63 ∧ μ q = some (.lst (cs.map D.int))
/-- nothing else is changed -/
def Frm (L : List Nat) (μ μ' : Sto) : Prop := ∀ r, μ r ≠ none → r ∉ L → μ' r = μ r
theorem Frm.refl {L : List Nat} {μ : Sto} : Frm L μ μ := fun _ _ _ => rfl
theorem Frm.trans {L : List Nat} {μ μ1 μ2 : Sto} (a : Frm L μ μ1) (b : Frm L μ1 μ2) : Frm L μ μ2 := fun r h n => by
  have e := a r h n
  rw [b r (by rw [e]; exact h) n, e]
theorem Frm.weak {L L' : List Nat} {μ μ' : Sto} (a : Frm L μ μ') (h : ∀ r, r ∈ L → r ∈ L') : Frm L' μ μ' := fun r m n => a r m fun z => n (h r z)
theorem put_ne {μ : Sto} {p r : Nat} {o : Ob} (h : r ≠ p) : (μ.put p o) r = μ r := by simp [Sto.put, h]
theorem Frm.put {L : List Nat} {μ : Sto} {p : Nat} {o : Ob} (h : p ∈ L ∨ μ p = none) : Frm L μ (μ.put p o) := fun r m n => put_ne fun e => by
  subst e
  rcases h with h | h
  · exact n h
  · exact m h
theorem ix_cells {cs : List Int} {n : Nat} (h : n < cs.length) (q : Nat) (μ : Sto) (e : μ q = some (.lst (cs.map D.int))) : ixR (.loc q) (.int (n : Nat)) μ = .ok (.int (cs[n]'h)) μ := by
  have h1 : (n : Int) < cs.length := by omega
  have h2 : (0 : Int) ≤ n := by omega
  simp [ixR, deref, e, index, L2.atI, L2.ixN, h1, h2, h]
section
variable (gl : Nat → Option D) (cl : Nat → List D → Sto → R D)
abbrev drawC : List S := [.asg [2] (.ix (.var 0) (.con (.int 0))),
  .asg [3] (.bin .mod (.bi .int [(.ix (.var 0) (.con (.int 1)))]) (.bi .len [(.var 2)])),
  .lset (.var 0) (.con (.int 1)) (.bin .add (.bi .int [(.ix (.var 0) (.con (.int 1)))]) (.con (.int 1))),
  .asg [4] (.bi .int [(.ix (.var 2) (.var 3))]),
  .ite (.cmp .ge (.var 4) (.bin .pow (.con (.int 10)) (.con (.int 18)))) [.lset (.var 2) (.var 3) (.bin .fdiv (.var 4) (.var 1)), .ret (.bin .mod (.bi .int [(.var 4)]) (.var 1))] [],
  .asg [5] (.bin .mod (.bin .mul (.bi .int [(.bin .add (.bin .add (.bin .mul (.var 4) (.con (.int 69621))) (.bin .mul (.con (.int 7919)) (.bi .int [(.ix (.var 0) (.con (.int 1)))]))) (.con (.int 1)))]) (.con (.int 48271))) (.con (.int 2147483647))),
  .asg [5] (.bin .mod (.bi .int [(.bin .mul (.var 5) (.bin .add (.bin .fdiv (.var 5) (.con (.int 1009))) (.con (.int 69621))))]) (.con (.int 2147483647))),
  .asg [5] (.bin .mod (.bi .int [(.bin .mul (.var 5) (.bin .add (.bin .fdiv (.var 5) (.con (.int 2003))) (.con (.int 40692))))]) (.con (.int 2147483399))),
  .ret (.bin .mod (.bi .int [(.bin .fdiv (.var 5) (.con (.int 16)))]) (.var 1))]
@[simp] theorem v_lenloc (p : Nat) : builtin .len [.loc p] = none := Eq.trans rfl rfl
theorem drawC_s {p q : Nat} {m : Int} {μ : Sto} (h : Sc p q μ) (hm : 0 < m) (hm2 : m < 1073741824) : ∃ r μ', (xSs gl cl drawC [.val (.loc p), .val (.int m), .un, .un, .un, .un] μ).bind (outF false) = .ok (.int r) μ' ∧ 0 ≤ r ∧ r < m ∧ Sc p q μ' ∧ Frm [p, q] μ μ' := by
  obtain ⟨n, hn, hst⟩ := h.st
  obtain ⟨cs, hne, hl, hce⟩ := h.ce
  have hlen : 0 < cs.length := List.length_pos_iff.mpr hne
  have hl0 : (0 : Int) < cs.length := by omega
  obtain ⟨j, hj, ej⟩ : ∃ j : Nat, j < cs.length ∧ n % (cs.length : Int) = (j : Int) := by
    have h1 := Int.emod_nonneg n (b := cs.length) (by omega)
    have h2 := Int.emod_lt_of_pos n hl0
    exact ⟨(n % (cs.length : Int)).toNat, by omega, by omega⟩
  have hqp : q ≠ p := fun e => h.ne e.symm
  have l20 : L2.ixN 2 0 = some 0 := by decide
  have l21 : L2.ixN 2 1 = some 1 := by decide
  have e0 : ∀ (μ : Sto) (n : Int), μ p = some (.lst [.loc q, .int n]) → ixR (.loc p) (.int 0) μ = .ok (.loc q) μ := fun μ n e => by simp [ixR, deref, e, index, L2.atI, l20]
  have e1 : ∀ (μ : Sto) (n : Int), μ p = some (.lst [.loc q, .int n]) → ixR (.loc p) (.int 1) μ = .ok (.int n) μ := fun μ n e => by simp [ixR, deref, e, index, L2.atI, l21]
  generalize hμ1 : μ.put p (.lst [.loc q, .int (n + 1)]) = μ1
  have hst1 : μ1 p = some (.lst [.loc q, .int (n + 1)]) := by rw [← hμ1]; exact put_same _ _ _
  have hce1 : μ1 q = some (.lst (cs.map D.int)) := by rw [← hμ1, put_ne hqp]; exact hce
  have hf1 : Frm [p, q] μ μ1 := by rw [← hμ1]; exact Frm.put (.inl (by simp))
  have hlj : L2.ixN cs.length (j : Int) = some j := by
    have h1 : (j : Int) < cs.length := by omega
    have h2 : (0 : Int) ≤ j := by omega
    simp [L2.ixN, h1, h2]
  have ec := ix_cells hj q μ1 hce1
  have hmod := fun i => mod_p (i := i) hl0
  have hlenq : orO (builtin .len [.loc q]) (builtin .len [dr μ (.loc q)]) μ = .ok (.int cs.length) μ := by
    rw [dr_loc hce]; simp
  have c10 : binop .pow (.int 10) (.int 18) = some (.int 1000000000000000000) := by rfl
  have pre : ∀ rest : List S, xSs gl cl ([.asg [2] (.ix (.var 0) (.con (.int 0))),
      .asg [3] (.bin .mod (.bi .int [(.ix (.var 0) (.con (.int 1)))]) (.bi .len [(.var 2)])),
      .lset (.var 0) (.con (.int 1)) (.bin .add (.bi .int [(.ix (.var 0) (.con (.int 1)))]) (.con (.int 1))),
      .asg [4] (.bi .int [(.ix (.var 2) (.var 3))])] ++ rest) [.val (.loc p), .val (.int m), .un, .un, .un, .un] μ = xSs gl cl rest [.val (.loc p), .val (.int m), .val (.loc q), .val (.int j), .val (.int (cs[j]'hj)), .un] μ1 := by
    intro rest
    simp [e0 μ n hst, e1 μ n hst, dr_loc hce, hmod, ej, hst, l21, hμ1, ec]
  have sp := pre [.ite (.cmp .ge (.var 4) (.bin .pow (.con (.int 10)) (.con (.int 18)))) [.lset (.var 2) (.var 3) (.bin .fdiv (.var 4) (.var 1)), .ret (.bin .mod (.bi .int [(.var 4)]) (.var 1))] [],
  .asg [5] (.bin .mod (.bin .mul (.bi .int [(.bin .add (.bin .add (.bin .mul (.var 4) (.con (.int 69621))) (.bin .mul (.con (.int 7919)) (.bi .int [(.ix (.var 0) (.con (.int 1)))]))) (.con (.int 1)))]) (.con (.int 48271))) (.con (.int 2147483647))),
  .asg [5] (.bin .mod (.bi .int [(.bin .mul (.var 5) (.bin .add (.bin .fdiv (.var 5) (.con (.int 1009))) (.con (.int 69621))))]) (.con (.int 2147483647))),
  .asg [5] (.bin .mod (.bi .int [(.bin .mul (.var 5) (.bin .add (.bin .fdiv (.var 5) (.con (.int 2003))) (.con (.int 40692))))]) (.con (.int 2147483399))),
  .ret (.bin .mod (.bi .int [(.bin .fdiv (.var 5) (.con (.int 16)))]) (.var 1))]
  simp only [List.cons_append, List.nil_append] at sp
  unfold drawC
  rw [sp]
  clear sp pre
  generalize cs[j]'hj = x
  by_cases hx : (1000000000000000000 : Int) ≤ x
  · refine ⟨x % m, μ1.put q (.lst ((cs.set j (x / m)).map D.int)), ?_, Int.emod_nonneg _ (by omega), Int.emod_lt_of_pos _ hm, ⟨h.ne, ⟨n + 1, by omega, by rw [put_ne h.ne]; exact hst1⟩, cs.set j (x / m), fun z => hne (by simpa using z), by simpa using hl, put_same _ _ _⟩, hf1.trans (Frm.put (.inl (by simp)))⟩
    simp [c10, hx, mod_p hm, fdiv_p hm hm2, hce1, hlj, List.map_set]
  · generalize hy : (x * 69621 + 7919 * (n + 1) + 1) * 48271 % 2147483647 = y
    have hy0 : small y = true := small_of (by omega) (by omega)
    generalize hz : (y * (y / 1009 + 69621)) % 2147483647 = z
    have hz0 : small z = true := small_of (by omega) (by omega)
    generalize hw : (z * (z / 2003 + 40692)) % 2147483399 = w
    refine ⟨w / 16 % m, μ1, ?_, Int.emod_nonneg _ (by omega), Int.emod_lt_of_pos _ hm, ⟨h.ne, ⟨n + 1, by omega, hst1⟩, cs, hne, hl, hce1⟩, hf1⟩
    have s1 : small 48271 = true := small_of (by decide) (by decide)
    have s2 : small 69621 = true := small_of (by decide) (by decide)
    have s3 : small 7919 = true := small_of (by decide) (by decide)
    have m1 := fun i => mod_p (i := i) (j := 2147483647) (by decide)
    have m3 := fun i => mod_p (i := i) (j := 2147483399) (by decide)
    have f1 := fun i => fdiv_p (i := i) (j := 1009) (by decide) (by decide)
    have f2 := fun i => fdiv_p (i := i) (j := 2003) (by decide) (by decide)
    have f3 := fun i => fdiv_p (i := i) (j := 16) (by decide) (by decide)
    simp [c10, hx, e1 μ1 (n + 1) hst1, mul_r s1, mul_r s2, mul_l s3, m1, m3, f1, f2, f3, hy, mul_l hy0, hz, mul_l hz0, hw, mod_p hm]
abbrev startC : List S := [.asg [1] (.sto (.lc [2] (.sl (.var 0) none (some (.con (.int 63)))) none (.bi .int [(.var 2)]))),
  .ite (.cmp .eq (.var 1) (.lst [])) [.asg [1] (.sto (.lst [(.con (.int 0))]))] [],
  .ret (.new [(.var 1), (.con (.int 0))])]
theorem cut_all {α : Type} (xs : List α) (h : xs.length ≤ 63) : cut xs none (some 63) = xs := by
  unfold cut
  have h1 : HT.sIx xs.length 0 none = 0 := by simp [HT.sIx]
  have h2 : HT.sIx xs.length xs.length (some 63) = xs.length := by
    unfold HT.sIx
    simp
    omega
  rw [h1, h2]
  simp
theorem lc_ints (γ : Ga) (hγ : 2 < γ.length) (μ : Sto) : ∀ (ns : List Int) (acc : List D), acc.length + ns.length ≤ 1000000 → lcL (turnC gl cl γ [2] none (.bi .int [(.var 2)])) (ns.map D.int) acc μ = .ok (acc ++ ns.map D.int) μ
  | [], acc, _ => by simp [lcL]
  | n :: ns, acc, h => by
    rw [List.length_cons] at h
    have ih := lc_ints γ hγ μ ns (acc ++ [.int n]) (by simp; omega)
    have ha : acc.length < 1000000 := by omega
    have g : (γ.set 2 (.val (.int n)))[2]? = some (.val (.int n)) := List.getElem?_set_self hγ
    rw [List.map_cons]
    unfold lcL
    have e : turnC gl cl γ [2] none (.bi .int [(.var 2)]) (.int n) acc μ = .ok (acc ++ [.int n]) μ := by
      unfold turnC setTR
      simp only [v_wipe1, v_wipe0, v_setT, List.set_set, v_c0, bind_ok, if_true, v_bi, v_es1, v_es0, v_var, g, v_int, orO_some]
      simp [addL, ha]
    rw [e]
    simp only [bind_ok]
    rw [ih]
    simp
theorem startC_s (ns : List Int) (hl : ns.length ≤ 63) (μ : Sto) : ((xSs gl cl startC [.val (.lst (ns.map D.int)), .un, .un] μ).bind (outF false)).All (fun d μ' => ∃ p q, d = .loc p ∧ Sc p q μ' ∧ Frm [] μ μ') Wn := by
  have ec : slice (.lst (ns.map D.int)) none (some 63) = some (.lst (ns.map D.int)) := by
    simp only [slice]
    rw [cut_all _ (by simpa using hl)]
  have el := lc_ints gl cl [.val (.lst (ns.map D.int)), .un, .un] (by simp) μ ns [] (by simp; omega)
  simp only [List.nil_append] at el
  unfold startC
  simp only [v_ss1, v_asg, v_sto, v_lc, v_sl, v_var, List.getElem?_cons_zero, bind_ok, v_o0, v_o1, v_con, intR, ec, orO_some, v_il, el, nox_ok, v_stoR]
  show ∀ q0, μ q0 = none → _
  intro q0 hq0
  simp only [bind_ok, v_setT, List.set_cons_succ, List.set_cons_zero]
  have h1 : (μ.put q0 (.lst (ns.map D.int))) q0 = some (.lst (ns.map D.int)) := put_same _ _ _
  have hf1 : Frm [] μ (μ.put q0 (.lst (ns.map D.int))) := Frm.put (.inr hq0)
  by_cases hn : ns = []
  · subst hn
    have eq0 : compare .eq (.loc q0) (.lst []) = none := rfl
    have eq1 : compare .eq (.lst []) (.lst []) = some (.bl true) := rfl
    simp only [List.map_nil] at h1 hf1 ⊢
    simp only [v_if, v_cond, v_cmp, v_var, v_lst, v_es0, List.getElem?_cons_succ, List.getElem?_cons_zero, bind_ok, eq0, orO_none, dr_loc h1, dr_lst, eq1, ofO_s, v_tbl, if_true, v_ss1, v_asg, v_sto, v_es1, v_con, v_stoR]
    show ∀ q, _ → _
    intro q hq
    simp only [bind_ok, v_setT, v_ss0, List.set_cons_succ, List.set_cons_zero, v_ret, v_new, v_es1, v_es0, v_var, v_con, List.getElem?_cons_succ, List.getElem?_cons_zero]
    intro p hp
    have hpq : p ≠ q := fun e => by rw [e, put_same] at hp; cases hp
    refine ⟨p, q, rfl, ⟨hpq, ⟨0, by decide, put_same _ _ _⟩, [0], by simp, by simp, ?_⟩, hf1.trans ((Frm.put (.inr hq)).trans (Frm.put (.inr hp)))⟩
    rw [put_ne (Ne.symm hpq), put_same]; rfl
  · obtain ⟨n, ns', rfl⟩ := List.exists_cons_of_ne_nil hn
    have eq0 : compare .eq (.loc q0) (.lst []) = none := rfl
    have hpl : ∀ l : List Int, plains 59 (l.map D.int) = true := fun l => by induction l with
      | nil => rfl
      | cons a l ih => simp [plains, plain, ih]
    have eq1 : compare .eq (.lst ((n :: ns').map D.int)) (.lst []) = some (.bl false) := by
      have h2 := hpl (n :: ns')
      simp only [compare, eqD, plain, h2, plains, Bool.and_self, if_true, Option.map_some]
      rfl
    simp only [v_if, v_cond, v_cmp, v_var, v_lst, v_es0, List.getElem?_cons_succ, List.getElem?_cons_zero, bind_ok, eq0, orO_none, dr_loc h1, dr_lst, eq1, ofO_s, v_tbl, if_false, v_ss1, v_ss0, Bool.false_eq_true, v_ret, v_new, v_es1, v_con]
    intro p hp
    have hpq : p ≠ q0 := fun e => by rw [e, put_same] at hp; cases hp
    refine ⟨p, q0, rfl, ⟨hpq, ⟨0, by decide, put_same _ _ _⟩, n :: ns', by simp, hl, ?_⟩, hf1.trans (Frm.put (.inr hp))⟩
    rw [put_ne (Ne.symm hpq), put_same]
end
end Bs
/-! Bs: programs as data. -/
namespace Bs
abbrev sDo : List Nat := [100, 111]
abbrev sStop : List Nat := [115, 116, 111, 112]
abbrev sRow : List Nat := [114, 111, 119]
abbrev sCho : List Nat := [99, 104, 111, 111, 115, 101]
abbrev sLoop : List Nat := [108, 111, 111, 112]
def sPar (a : Bool) : List Nat := if a then sRow else sCho
/-- a for that runs to its end, by its wish -/
theorem all_for {f : D → Ga → Sto → R Fl} {kill : List Nat} {W : Xc → Ga → Sto → Prop} (I : List D → Ga → Sto → Prop) (h : ∀ x xs γ μ, I (x :: xs) γ μ → (f x γ μ).All (fun fl μ' => ∃ γ', fl = .nx γ' ∧ I xs (wipeG γ' kill) μ') W) : ∀ xs γ μ, I xs γ μ → (forL f kill xs γ μ).All (fun fl μ' => ∃ γ', fl = .nx γ' ∧ I [] γ' μ') W
  | [], γ, μ, hi => ⟨γ, rfl, hi⟩
  | x :: xs, γ, μ, hi => by
    rw [forL_cons]
    refine all_step (h x xs γ μ hi) ?_
    rintro fl μ' ⟨γ', rfl, hi'⟩
    exact all_for I h xs _ μ' hi'
theorem SL_flat : ∀ ws : List (List Nat), (SL ws).all flat = true
  | [] => rfl
  | w :: ws => by
    have := SL_flat ws
    simp only [SL, List.map_cons, List.all_cons, flat, Bool.true_and] at this ⊢
    exact this
def flT : D → Bool
  | .tup a => a.all flat
  | _ => true
/-- the names of a do are flat -/
def doF : List D → Bool
  | [.str s, x, y] => !decide (s = sDo) || (flT x && flT y)
  | _ => true
mutual
/-- plain, tuples of no great length, names flat -/
def gd (n : Nat) : D → Bool
  | .non => true | .bl _ => true | .int _ => true | .str _ => true
  | .tup xs => match n with
    | 0 => false
    | n + 1 => decide (xs.length ≤ 1000) && doF xs && gds n xs
  | .lst xs => match n with
    | 0 => false
    | n + 1 => gds n xs
  | _ => false
def gds (n : Nat) : List D → Bool
  | [] => true
  | x :: xs => gd n x && gds n xs
end
theorem gds_all {n : Nat} : ∀ {xs : List D}, gds n xs = true ↔ ∀ x ∈ xs, gd n x = true
  | [] => by simp [gds]
  | x :: xs => by simp [gds, gds_all (xs := xs)]
theorem gd_tup {n : Nat} {xs : List D} : gd (n + 1) (.tup xs) = true ↔ xs.length ≤ 1000 ∧ doF xs = true ∧ ∀ x ∈ xs, gd n x = true := by
  simp [gd, gds_all, and_assoc]
mutual
theorem gd_plain : ∀ (n : Nat) (d : D), gd n d = true → plain n d = true
  | n, .non, _ => rfl
  | n, .bl _, _ => rfl
  | n, .int _, _ => rfl
  | n, .str _, _ => rfl
  | 0, .tup xs, h => by simp [gd] at h
  | n + 1, .tup xs, h => by simp only [gd, Bool.and_eq_true] at h; simp only [plain]; exact gds_plain n xs h.2
  | 0, .lst xs, h => by simp [gd] at h
  | n + 1, .lst xs, h => by simp only [gd] at h; simp only [plain]; exact gds_plain n xs h
  | n, .dic _, h => by simp [gd] at h
  | n, .obj _ _, h => by simp [gd] at h
  | n, .loc _, h => by simp [gd] at h
theorem gds_plain : ∀ (n : Nat) (xs : List D), gds n xs = true → plains n xs = true
  | n, [], _ => by simp [plains]
  | n, x :: xs, h => by
    simp only [gds, Bool.and_eq_true] at h
    simp only [plains, gd_plain n x h.1, gds_plain n xs h.2, Bool.and_self]
end
mutual
theorem gd_succ : ∀ (n : Nat) (d : D), gd n d = true → gd (n + 1) d = true
  | n, .non, _ => rfl
  | n, .bl _, _ => rfl
  | n, .int _, _ => rfl
  | n, .str _, _ => rfl
  | 0, .tup xs, h => by simp [gd] at h
  | n + 1, .tup xs, h => by
    simp only [gd, Bool.and_eq_true] at h
    simp only [gd, h.1.1, h.1.2, gds_succ n xs h.2, Bool.and_self]
  | 0, .lst xs, h => by simp [gd] at h
  | n + 1, .lst xs, h => by simp only [gd] at h; simp only [gd]; exact gds_succ n xs h
  | n, .dic _, h => by simp [gd] at h
  | n, .obj _ _, h => by simp [gd] at h
  | n, .loc _, h => by simp [gd] at h
theorem gds_succ : ∀ (n : Nat) (xs : List D), gds n xs = true → gds (n + 1) xs = true
  | n, [], _ => by simp [gds]
  | n, x :: xs, h => by
    simp only [gds, Bool.and_eq_true] at h
    simp only [gds, gd_succ n x h.1, gds_succ n xs h.2, Bool.and_self]
end
theorem gd_mono {n m : Nat} (h : n ≤ m) {d : D} (g : gd n d = true) : gd m d = true := by
  induction h with
  | refl => exact g
  | step _ ih => exact gd_succ _ _ ih
/-- a program of at most so many levels -/
inductive Pgm : Nat → D → Prop
  | doo (f : Nat) (a b : List (List Nat)) : a.length ≤ 100 → b.length ≤ 100 → Pgm (f + 1) (.tup [.str sDo, .tup (SL a), .tup (SL b)])
  | stop (f : Nat) : Pgm (f + 1) (.tup [.str sStop])
  | loop (f : Nat) (x : D) : Pgm f x → Pgm (f + 1) (.tup [.str sLoop, x])
  | par (f : Nat) (c : Bool) (xs : List D) : xs ≠ [] → xs.length ≤ 8 → (∀ x ∈ xs, Pgm f x) → Pgm (f + 1) (.tup [.str (sPar c), .tup xs])
theorem Pgm.gd : ∀ {f : Nat} {d : D}, Pgm f d → Bs.gd (2 * f) d = true := by
  intro f d h
  induction h with
  | doo f a b la lb =>
    have ha : ∀ (n : Nat) (ws : List (List Nat)), gds n (SL ws) = true := fun n ws => by
      rw [gds_all]; intro x hx; simp only [SL, List.mem_map] at hx; obtain ⟨w, _, rfl⟩ := hx; rfl
    have hd : ∀ ws : List (List Nat), doF (SL ws) = true := fun ws => by
      match ws with
      | [] => rfl
      | [_] => rfl
      | [_, _] => rfl
      | [a, b, c] => simp [SL, doF, flT]
      | _ :: _ :: _ :: _ :: _ => rfl
    have h1 : (SL a).length ≤ 1000 := by simp; omega
    have h2 : (SL b).length ≤ 1000 := by simp; omega
    rw [show 2 * (f + 1) = (2 * f + 1) + 1 from by omega, gd_tup]
    refine ⟨by simp, by simp only [doF, flT, SL_flat]; simp, fun x hx => ?_⟩
    simp only [List.mem_cons, List.not_mem_nil, or_false] at hx
    rcases hx with rfl | rfl | rfl
    · rfl
    · simp only [Bs.gd, h1, hd, ha, decide_true, Bool.and_self]
    · simp only [Bs.gd, h2, hd, ha, decide_true, Bool.and_self]
  | stop f => rw [show 2 * (f + 1) = (2 * f + 1) + 1 from by omega]; simp [Bs.gd, gds, doF]
  | loop f x _ ih =>
    rw [show 2 * (f + 1) = (2 * f + 1) + 1 from by omega, gd_tup]
    refine ⟨by simp, rfl, fun y hy => ?_⟩
    simp only [List.mem_cons, List.not_mem_nil, or_false] at hy
    rcases hy with rfl | rfl
    · rfl
    · exact gd_succ _ _ ih
  | par f c xs h1 h2 _ ih =>
    rw [show 2 * (f + 1) = (2 * f + 1) + 1 from by omega, gd_tup]
    have hd : doF xs = true := by
      unfold doF
      split
      · have h3 := ‹∀ x ∈ _, Pgm f x› (.str _) List.mem_cons_self
        cases h3
      · rfl
    refine ⟨by simp, rfl, fun y hy => ?_⟩
    simp only [List.mem_cons, List.not_mem_nil, or_false] at hy
    rcases hy with rfl | rfl
    · rfl
    · rw [gd_tup]; exact ⟨by omega, hd, ih⟩
theorem Pgm.mono {f g : Nat} (h : f ≤ g) {d : D} (p : Pgm f d) : Pgm g d := by
  induction p generalizing g with
  | doo f a b la lb => obtain ⟨g, rfl⟩ : ∃ g', g = g' + 1 := ⟨g - 1, by omega⟩; exact .doo g a b la lb
  | stop f => obtain ⟨g, rfl⟩ : ∃ g', g = g' + 1 := ⟨g - 1, by omega⟩; exact .stop g
  | loop f x _ ih => obtain ⟨g, rfl⟩ : ∃ g', g = g' + 1 := ⟨g - 1, by omega⟩; exact .loop g x (ih (by omega))
  | par f c xs h1 h2 _ ih => obtain ⟨g, rfl⟩ : ∃ g', g = g' + 1 := ⟨g - 1, by omega⟩; exact .par g c xs h1 h2 fun x hx => ih x hx (by omega)
/-- the parts of a program -/
def ppar : D → List D
  | .tup [.str s, x] => if s = sLoop then [x] else match x with
    | .tup xs => if s = sRow ∨ s = sCho then xs else []
    | _ => []
  | _ => []
/-- a way into data, by loops, rows and chooses -/
inductive Wak : D → List Nat → Prop
  | nil (d : D) : Wak d []
  | loop (x : D) (p : List Nat) : Wak x p → Wak (.tup [.str sLoop, x]) (0 :: p)
  | par (c : Bool) (xs : List D) (j : Nat) (x : D) (p : List Nat) : (∀ y ∈ xs, y ≠ .str sDo) → xs[j]? = some x → Wak x p → Wak (.tup [.str (sPar c), .tup xs]) (j :: p)
def getW (d : D) : List Nat → D
  | [] => d
  | j :: p => getW ((ppar d)[j]?.getD .non) p
def repW (new : D) (d : D) : List Nat → D
  | [] => new
  | j :: p => match d with
    | .tup [.str s, .tup xs] => if s = sLoop then .tup [.str s, repW new (.tup xs) p] else .tup [.str s, .tup (xs.set j (repW new (xs[j]?.getD .non) p))]
    | .tup [.str s, x] => .tup [.str s, repW new x p]
    | _ => d
theorem sPar_ne (c : Bool) : sPar c ≠ sLoop := by cases c <;> decide
theorem ppar_par (c : Bool) (xs : List D) : ppar (.tup [.str (sPar c), .tup xs]) = xs := by cases c <;> simp [ppar, sPar]
theorem repW_loop (new x : D) (j : Nat) (p : List Nat) : repW new (.tup [.str sLoop, x]) (j :: p) = .tup [.str sLoop, repW new x p] := by
  conv => lhs; unfold repW
  split
  · rename_i e; cases e; simp
  · rename_i e; cases e; rfl
  · rename_i h1 h2; exact absurd rfl (h2 _ _)
theorem repW_par (new : D) (c : Bool) (xs : List D) (j : Nat) (p : List Nat) : repW new (.tup [.str (sPar c), .tup xs]) (j :: p) = .tup [.str (sPar c), .tup (xs.set j (repW new (xs[j]?.getD .non) p))] := by
  simp [repW, sPar_ne]
/-- neither of two ways begins the other one -/
def apart (p q : List Nat) : Prop := ¬ p <+: q ∧ ¬ q <+: p
theorem repW_no {new : D} (hn : new ≠ .str sDo) {d : D} {p : List Nat} (h : Wak d p) : repW new d p ≠ .str sDo := by
  cases h with
  | nil d => exact hn
  | loop x p h => rw [repW_loop]; exact fun z => nomatch z
  | par c xs j x p _ hj h => rw [repW_par]; exact fun z => nomatch z
theorem Wak.rep {new : D} (hn : new ≠ .str sDo) : ∀ {d : D} {p q : List Nat}, Wak d p → Wak d q → apart p q → Wak (repW new d p) q := by
  intro d p q h
  induction h generalizing q with
  | nil d => intro _ a; exact absurd (List.nil_prefix) a.1
  | loop x p h ih =>
    intro h2 a
    rw [repW_loop]
    generalize hd : D.tup [.str sLoop, x] = d at h2
    cases h2 with
    | nil => exact absurd (List.nil_prefix) a.2
    | loop y q h2 =>
      cases hd
      exact .loop _ _ (ih h2 ⟨fun z => a.1 (by simpa using z), fun z => a.2 (by simpa using z)⟩)
    | par c' ys i y q _ hi h2 => injection hd with hd; injection hd with hd _; injection hd with hd; exact absurd hd.symm (sPar_ne c')
  | par c xs j x p hno hj h ih =>
    intro h2 a
    have hjl : j < xs.length := (List.getElem?_eq_some_iff.mp hj).1
    have hno' : ∀ y ∈ xs.set j (repW new (xs[j]?.getD .non) p), y ≠ .str sDo := fun y hy => by
      rcases List.mem_or_eq_of_mem_set hy with h1 | h1
      · exact hno y h1
      · rw [h1, hj]; exact repW_no hn h
    rw [repW_par]
    generalize hd : D.tup [.str (sPar c), .tup xs] = d at h2
    cases h2 with
    | nil => exact absurd (List.nil_prefix) a.2
    | loop y q h2 => injection hd with hd; injection hd with hd _; injection hd with hd; exact absurd hd (sPar_ne c)
    | par c' ys i y q hno2 hi h2 =>
      have e1 : xs = ys := by injection hd with hd; injection hd with _ hd; injection hd with hd; injection hd
      subst e1
      by_cases e : i = j
      · subst e
        rw [hj] at hi; cases hi
        refine .par c _ i (repW new x p) q hno' ?_ (ih h2 ⟨fun z => a.1 (by simpa using z), fun z => a.2 (by simpa using z)⟩)
        rw [hj, List.getElem?_set_self hjl]; rfl
      · exact .par c _ i y q hno' (by rw [List.getElem?_set_ne (fun z => e z.symm)]; exact hi) h2
theorem getW_gd {n : Nat} : ∀ {d : D} {p : List Nat}, Wak d p → gd n d = true → gd n (getW d p) = true := by
  intro d p h
  induction h generalizing n with
  | nil d => exact fun g => g
  | loop x p h ih =>
    intro g
    obtain ⟨m, rfl⟩ : ∃ m, n = m + 1 := by cases n with | zero => simp [gd] at g | succ m => exact ⟨m, rfl⟩
    rw [gd_tup] at g
    have := ih (g.2.2 x (by simp))
    simp only [getW, ppar, if_true, List.getElem?_cons_zero, Option.getD_some]
    exact gd_succ _ _ this
  | par c xs j x p _ hj h ih =>
    intro g
    obtain ⟨m, rfl⟩ : ∃ m, n = m + 1 := by cases n with | zero => simp [gd] at g | succ m => exact ⟨m, rfl⟩
    rw [gd_tup] at g
    have g2 := g.2.2 (.tup xs) (by simp)
    obtain ⟨m, rfl⟩ : ∃ m', m = m' + 1 := by cases m with | zero => simp [gd] at g2 | succ m => exact ⟨m, rfl⟩
    rw [gd_tup] at g2
    have := ih (g2.2.2 x (List.mem_of_getElem? hj))
    simp only [getW, ppar_par, hj, Option.getD_some]
    exact gd_succ _ _ (gd_succ _ _ this)
theorem doF_no {xs : List D} (h : ∀ x ∈ xs, x ≠ .str sDo) : doF xs = true := by
  unfold doF
  split
  · rename_i s x y
    have h1 := h (.str _) List.mem_cons_self
    have h2 : ¬ s = sDo := fun e => h1 (by rw [e])
    simp [h2]
  · rfl
theorem repW_gd {m : Nat} {new : D} (hn : new ≠ .str sDo) (hm : gd m new = true) : ∀ {d : D} {p : List Nat} {n : Nat}, Wak d p → gd n d = true → 2 * p.length + m ≤ n → gd n (repW new d p) = true := by
  intro d p n h
  induction h generalizing n with
  | nil d => exact fun _ h => gd_mono (by simpa using h) hm
  | loop x p h ih =>
    intro g hl
    obtain ⟨k, rfl⟩ : ∃ k, n = k + 1 := by cases n with | zero => simp [gd] at g | succ k => exact ⟨k, rfl⟩
    rw [gd_tup] at g
    rw [repW_loop, gd_tup]
    rw [List.length_cons] at hl
    refine ⟨by simp, rfl, fun y hy => ?_⟩
    simp only [List.mem_cons, List.not_mem_nil, or_false] at hy
    rcases hy with rfl | rfl
    · rfl
    · exact ih (g.2.2 x (by simp)) (by omega)
  | par c xs j x p hno hj h ih =>
    intro g hl
    obtain ⟨k, rfl⟩ : ∃ k, n = k + 1 := by cases n with | zero => simp [gd] at g | succ k => exact ⟨k, rfl⟩
    rw [gd_tup] at g
    have g2 := g.2.2 (.tup xs) (by simp)
    obtain ⟨k, rfl⟩ : ∃ k', k = k' + 1 := by cases k with | zero => simp [gd] at g2 | succ k => exact ⟨k, rfl⟩
    rw [gd_tup] at g2
    rw [List.length_cons] at hl
    have hx := ih (g2.2.2 x (List.mem_of_getElem? hj)) (by omega)
    rw [repW_par, gd_tup]
    refine ⟨by simp, rfl, fun y hy => ?_⟩
    simp only [List.mem_cons, List.not_mem_nil, or_false] at hy
    rcases hy with rfl | rfl
    · rfl
    · rw [gd_tup]
      refine ⟨by simpa using g2.1, doF_no fun y hy => ?_, fun y hy => ?_⟩
      · rcases List.mem_or_eq_of_mem_set hy with h1 | h1
        · exact hno y h1
        · rw [h1, hj]; exact repW_no hn h
      · rcases List.mem_or_eq_of_mem_set hy with h1 | h1
        · exact g2.2.2 y h1
        · rw [h1, hj]; exact hx
theorem Pgm.no {f : Nat} {d : D} (h : Pgm f d) : d ≠ .str sDo := by cases h <;> exact fun z => nomatch z
/-- a path as data -/
def IL (w : List Nat) : List D := w.map fun j => .int ((j : Nat) : Int)
theorem plains_IL (n : Nat) : ∀ w : List Nat, plains n (IL w) = true
  | [] => by simp [IL, plains]
  | j :: w => by
    have := plains_IL n w
    simp only [IL, List.map_cons, plains, plain, Bool.true_and] at this ⊢
    exact this
theorem eqBs_IL : ∀ v w : List Nat, eqBs (IL v) (IL w) = decide (v = w)
  | [], [] => by simp [IL, eqBs]
  | [], _ :: _ => by simp [IL, eqBs]
  | _ :: _, [] => by simp [IL, eqBs]
  | i :: v, j :: w => by
    have := eqBs_IL v w
    simp only [IL, List.map_cons, eqBs, eqB] at this ⊢
    rw [this]
    rw [Bool.eq_iff_iff]
    simp
    intro _
    omega
theorem cmp_IL (v w : List Nat) : compare .eq (.tup (IL v)) (.tup (IL w)) = some (.bl (decide (v = w))) := by
  simp [compare, eqD, plain, plains_IL, eqB, eqBs_IL]
theorem cmpn_IL (v w : List Nat) : compare .ne (.tup (IL v)) (.tup (IL w)) = some (.bl (!decide (v = w))) := by
  simp [compare, eqD, plain, plains_IL, eqB, eqBs_IL]
theorem cmpn_nil (xs : List D) (h : plains 59 xs = true) : compare .ne (.tup xs) (.tup []) = some (.bl (!xs.isEmpty)) := by
  cases xs with
  | nil => simp [compare, eqD, plain, plains, eqB, eqBs]
  | cons x r =>
    simp only [plains, Bool.and_eq_true] at h
    simp [compare, eqD, plain, plains, h.1, h.2, eqB, eqBs]
theorem cmp_nil (xs : List D) (h : plains 59 xs = true) : compare .eq (.tup xs) (.tup []) = some (.bl xs.isEmpty) := by
  cases xs with
  | nil => simp [compare, eqD, plain, plains, eqB, eqBs]
  | cons x r =>
    simp only [plains, Bool.and_eq_true] at h
    simp [compare, eqD, plain, plains, h.1, h.2, eqB, eqBs]
theorem cut_tl {α : Type} (xs : List α) : cut xs (some 1) none = xs.tail := by
  unfold cut
  have h1 : HT.sIx xs.length 0 (some 1) = min 1 xs.length := by unfold HT.sIx; first | (simp; done) | (simp; omega)
  have h2 : HT.sIx xs.length xs.length none = xs.length := by simp [HT.sIx]
  rw [h1, h2]
  cases xs with
  | nil => simp
  | cons x r => 
    have : min 1 (x :: r).length = 1 := by simp
    rw [this]
    simp
theorem cut_to {α : Type} (xs : List α) (n : Nat) : cut xs none (some (n : Int)) = xs.take n := by
  unfold cut
  have h1 : HT.sIx xs.length 0 none = 0 := by simp [HT.sIx]
  have h2 : HT.sIx xs.length xs.length (some (n : Int)) = min n xs.length := by unfold HT.sIx; first | (simp; done) | (simp; omega)
  rw [h1, h2]
  simp
theorem plains_of {n : Nat} : ∀ {xs : List D}, (∀ x ∈ xs, plain n x = true) → plains n xs = true
  | [], _ => by simp [plains]
  | x :: r, h => by simp [plains, h x List.mem_cons_self, plains_of fun y hy => h y (List.mem_cons_of_mem _ hy)]
theorem Pgm.part {f : Nat} {d : D} (h : Pgm f d) {j : Nat} {x : D} (e : (ppar d)[j]? = some x) : Pgm f x ∧ ∀ v, Wak x v → Wak d (j :: v) := by
  cases h with
  | doo f a b _ _ => simp [ppar] at e
  | stop f => simp [ppar] at e
  | loop f y h =>
    simp only [ppar, if_true] at e
    obtain ⟨rfl, rfl⟩ : j = 0 ∧ y = x := by
      cases j with
      | zero => simpa using e
      | succ j => simp at e
    exact ⟨h.mono (by omega), fun v hv => .loop _ _ hv⟩
  | par f c xs h1 h2 h3 =>
    rw [ppar_par] at e
    exact ⟨(h3 x (List.mem_of_getElem? e)).mono (by omega), fun v hv => .par c xs j x v (fun y hy => (h3 y hy).no) e hv⟩
theorem Pgm.plain {f : Nat} {d : D} (h : Pgm f d) (hf : f ≤ 6) : Bs.plain 12 d = true := gd_plain _ _ (gd_mono (by omega) h.gd)
theorem Pgm.pars {f : Nat} {d : D} (h : Pgm f d) (hf : f ≤ 6) : plains 59 (ppar d) = true := plains_of fun x hx => by
  obtain ⟨j, e⟩ := List.mem_iff_getElem?.mp hx
  exact plain_mono 12 59 x (by decide) ((h.part e).1.plain hf)
theorem Pgm.lens {f : Nat} {d : D} (h : Pgm f d) : (ppar d).length ≤ 8 := by
  cases h with
  | doo f a b _ _ => simp [ppar]
  | stop f => simp [ppar]
  | loop f y h => simp [ppar]
  | par f c xs h1 h2 h3 => rw [ppar_par]; exact h2
theorem pix0 (x : D) (r : List D) (μ : Sto) : ixR (.tup (x :: r)) (.int 0) μ = .ok x μ := by
  have : (0 : Int) < (r.length : Int) + 1 := by omega
  simp [ixR, deref, index, L2.atI, L2.ixN, this]
theorem pix1 (x y : D) (r : List D) (μ : Sto) : ixR (.tup (x :: y :: r)) (.int 1) μ = .ok y μ := by
  have : (1 : Int) < (r.length : Int) + 1 + 1 := by omega
  simp [ixR, deref, index, L2.atI, L2.ixN, this]
theorem pix2 (x y z : D) (r : List D) (μ : Sto) : ixR (.tup (x :: y :: z :: r)) (.int 2) μ = .ok z μ := by
  have : (2 : Int) < (r.length : Int) + 1 + 1 + 1 := by omega
  simp [ixR, deref, index, L2.atI, L2.ixN, this]
/-- so many rows of one part around it -/
def wrp : Nat → D → D
  | 0, d => d
  | n + 1, d => wrp n (.tup [.str sRow, .tup [d]])
theorem wrp_gd {m : Nat} : ∀ (n : Nat) {d : D}, (d ≠ .str sDo) → gd m d = true → gd (m + 2 * n) (wrp n d) = true
  | 0, d, _, h => h
  | n + 1, d, hd, h => by
    rw [show m + 2 * (n + 1) = (m + 2) + 2 * n from by omega]
    refine wrp_gd n (fun z => nomatch z) ?_
    rw [gd_tup]
    refine ⟨by simp, rfl, fun y hy => ?_⟩
    simp only [List.mem_cons, List.not_mem_nil, or_false] at hy
    rcases hy with rfl | rfl
    · rfl
    · rw [gd_tup]; exact ⟨by simp, by cases d <;> rfl, fun y hy => by simp only [List.mem_cons, List.not_mem_nil, or_false] at hy; rw [hy]; exact h⟩
theorem wrp_no {n : Nat} {d : D} (hd : d ≠ .str sDo) : wrp n d ≠ .str sDo := by
  induction n generalizing d with
  | zero => exact hd
  | succ n ih => exact ih (fun z => nomatch z)
/-! ### forms -/
abbrev A26 : List Nat := [97, 98, 99, 100, 101, 102, 103, 104, 105, 106, 107, 108, 109, 110, 111, 112, 113, 114, 115, 116, 117, 118, 119, 120, 121, 122]
abbrev D10 : List Nat := [48, 49, 50, 51, 52, 53, 54, 55, 56, 57]
def nmW (w : List Nat) : Bool := decide (1 ≤ w.length) && (decide (w.length ≤ 8) && (A26.contains (w.headD 0) && w.all fun c => (A26 ++ D10).contains c))
def nmB : D → Bool
  | .str w => nmW w
  | _ => false
/-- names, none twice, behind some -/
def nmsL : List D → List D → List Bool
  | _, [] => []
  | pre, x :: r => (nmB x && !(pre.any fun y => eqB y x)) :: nmsL (pre ++ [x]) r
def nmsB (least : Nat) : D → Bool
  | .tup xs => decide (least ≤ xs.length) && (nmsL [] xs).all id
  | _ => false
theorem nmsL_len : ∀ (r pre : List D), (nmsL pre r).length = r.length
  | [], _ => rfl
  | x :: r, pre => by simp [nmsL, nmsL_len r]
inductive Vp where | no | doo | stop | one (x : D) | row (xs : List D) | cho (xs : List D)
def Vp.parts : Vp → List D
  | .one x => [x]
  | .row xs => xs
  | .cho xs => xs
  | _ => []
def formB : D → Bool
  | .tup (.str s :: r) => if s = sStop then r.isEmpty else if s = sDo then (match r with | [x, y] => nmsB 1 x && nmsB 0 y | _ => false) else if s = sLoop then (match r with | [_] => true | _ => false)
    else if s = sRow then (match r with | [.tup xs] => decide (1 ≤ xs.length) && decide (xs.length ≤ 8) | _ => false) else if s = sCho then (match r with | [.tup xs] => decide (2 ≤ xs.length) && decide (xs.length ≤ 4) | _ => false) else false
  | _ => false
/-- the forms of a node -/
inductive Fp : D → Vp → Prop
  | doo (x y : D) : Fp (.tup [.str sDo, x, y]) .doo
  | stop : Fp (.tup [.str sStop]) .stop
  | loop (x : D) : Fp (.tup [.str sLoop, x]) (.one x)
  | row (xs : List D) : 1 ≤ xs.length → xs.length ≤ 8 → Fp (.tup [.str sRow, .tup xs]) (.row xs)
  | cho (xs : List D) : 2 ≤ xs.length → xs.length ≤ 4 → Fp (.tup [.str sCho, .tup xs]) (.cho xs)
def vp : D → Vp
  | .tup (.str s :: r) => if s = sStop then .stop else if s = sDo then .doo else match r with
    | [x] => if s = sLoop then .one x else match x with
      | .tup xs => if s = sRow then .row xs else .cho xs
      | _ => .no
    | _ => .no
  | _ => .no
theorem form_fp {d : D} (h : formB d = true) : Fp d (vp d) := by
  unfold formB at h
  split at h
  · rename_i s r
    by_cases h1 : s = sStop
    · subst h1
      rw [if_pos rfl] at h
      cases r with
      | nil => exact .stop
      | cons _ _ => simp at h
    · rw [if_neg h1] at h
      by_cases h2 : s = sDo
      · subst h2
        rw [if_pos rfl] at h
        split at h
        · exact .doo _ _
        · cases h
      · rw [if_neg h2] at h
        by_cases h3 : s = sLoop
        · subst h3
          rw [if_pos rfl] at h
          split at h
          · exact .loop _
          · cases h
        · rw [if_neg h3] at h
          by_cases h4 : s = sRow
          · subst h4
            rw [if_pos rfl] at h
            split at h
            · simp only [Bool.and_eq_true, decide_eq_true_eq] at h
              exact .row _ h.1 h.2
            · cases h
          · rw [if_neg h4] at h
            by_cases h5 : s = sCho
            · subst h5
              rw [if_pos rfl] at h
              split at h
              · simp only [Bool.and_eq_true, decide_eq_true_eq] at h
                exact .cho _ h.1 h.2
              · cases h
            · rw [if_neg h5] at h; cases h
  · cases h
/-- formed to so many levels -/
inductive Fo : Nat → D → Prop
  | mk (f : Nat) (d : D) (v : Vp) : Fp d v → (∀ x ∈ v.parts, Fo f x) → Fo (f + 1) d
def Vp.ends (g : D → Bool) : Vp → Bool
  | .doo => true
  | .row xs => g (xs.getLast?.getD .non)
  | .cho xs => xs.any g
  | _ => false
def endB : Nat → D → Bool
  | 0, _ => false
  | f + 1, d => (vp d).ends (endB f)
theorem Fp.vp {d : D} {v : Vp} (h : Fp d v) : Bs.vp d = v := by cases h <;> rfl
/-- the first wrong part -/
def wrs (g : D → List D → Nat → Option (List D) × Nat) (me : Nat → Bool) (en : D → Bool) : List D → Nat → List D → Nat → Option (List D) × Nat
  | [], _, _, c => (none, c)
  | x :: r, j, p, c => match g x (p ++ [.int ((j : Nat) : Int)]) c with
    | (some q, c') => (some q, c')
    | (none, c') => if me j && !en x then (some (p ++ [.int ((j : Nat) : Int)]), c') else wrs g me en r (j + 1) p c'
def Vp.must : Vp → Nat → Bool
  | .one _, _ => true
  | .row xs, j => decide (j + 1 < xs.length)
  | _, _ => false
def Vp.isDo : Vp → Bool
  | .doo => true
  | _ => false
/-- the path of the first wrong node, the dos so far -/
def wr : Nat → D → List D → Nat → Option (List D) × Nat
  | 0, _, p, c => (some p, c)
  | f + 1, d, p, c => if formB d = false then (some p, c) else if (vp d).isDo then (if 16 ≤ c then (some p, c) else (none, c + 1)) else wrs (wr f) (vp d).must (endB f) (vp d).parts 0 p c
theorem wrs_fo {f : Nat} (ih : ∀ (d : D) (p : List D) (c c' : Nat), wr f d p c = (none, c') → Fo f d) {me : Nat → Bool} {en : D → Bool} : ∀ (xs : List D) (j : Nat) (p : List D) (c c' : Nat), wrs (wr f) me en xs j p c = (none, c') → ∀ x ∈ xs, Fo f x
  | [], _, _, _, _, _ => by simp
  | x :: r, j, p, c, c', h => by
    unfold wrs at h
    cases hx : wr f x (p ++ [.int ((j : Nat) : Int)]) c with
    | mk o c1 =>
      rw [hx] at h
      cases o with
      | some q => cases h
      | none =>
        simp only at h
        by_cases hm : (me j && !en x) = true
        · rw [if_pos hm] at h; cases h
        · rw [if_neg hm] at h
          intro y hy
          rcases List.mem_cons.mp hy with rfl | hy
          · exact ih y _ _ _ hx
          · exact wrs_fo ih r (j + 1) p c1 c' h y hy
theorem wr_fo : ∀ (f : Nat) (d : D) (p : List D) (c c' : Nat), wr f d p c = (none, c') → Fo f d
  | 0, _, _, _, _, h => by cases h
  | f + 1, d, p, c, c', h => by
    unfold wr at h
    by_cases h1 : formB d = false
    · rw [if_pos h1] at h; cases h
    · rw [if_neg h1] at h
      have hf := form_fp (d := d) (by simpa using h1)
      by_cases h2 : (vp d).isDo = true
      · refine .mk f d (vp d) hf fun x hx => ?_
        cases hv : vp d <;> rw [hv] at h2 hx <;> simp [Vp.isDo, Vp.parts] at h2 hx
      · rw [if_neg h2] at h
        exact .mk f d (vp d) hf (wrs_fo (fun d p c c' => wr_fo f d p c c') _ _ _ _ _ h)
theorem wrs_le {f : Nat} (ih : ∀ (d : D) (p : List D) (c c' : Nat), c ≤ 16 → wr f d p c = (none, c') → c' ≤ 16) {me : Nat → Bool} {en : D → Bool} : ∀ (xs : List D) (j : Nat) (p : List D) (c c' : Nat), c ≤ 16 → wrs (wr f) me en xs j p c = (none, c') → c' ≤ 16
  | [], _, _, c, c', hc, h => by cases h; exact hc
  | x :: r, j, p, c, c', hc, h => by
    unfold wrs at h
    cases hx : wr f x (p ++ [.int ((j : Nat) : Int)]) c with
    | mk o c1 =>
      rw [hx] at h
      cases o with
      | some q => cases h
      | none =>
        simp only at h
        by_cases hm : (me j && !en x) = true
        · rw [if_pos hm] at h; cases h
        · rw [if_neg hm] at h
          exact wrs_le ih r (j + 1) p c1 c' (ih x _ _ _ hc hx) h
theorem wr_le : ∀ (f : Nat) (d : D) (p : List D) (c c' : Nat), c ≤ 16 → wr f d p c = (none, c') → c' ≤ 16
  | 0, _, _, _, _, _, h => by cases h
  | f + 1, d, p, c, c', hc, h => by
    unfold wr at h
    by_cases h1 : formB d = false
    · rw [if_pos h1] at h; cases h
    · rw [if_neg h1] at h
      by_cases h2 : (vp d).isDo = true
      · rw [if_pos h2] at h
        by_cases h3 : 16 ≤ c
        · rw [if_pos h3] at h; cases h
        · rw [if_neg h3] at h; cases h; omega
      · rw [if_neg h2] at h
        exact wrs_le (fun d p c c' => wr_le f d p c c') _ _ _ _ _ hc h
theorem pixl {xs : List D} (h : xs ≠ []) (μ : Sto) : ixR (.tup xs) (.int (-1)) μ = .ok (xs.getLast?.getD .non) μ := by
  have hl : 0 < xs.length := List.length_pos_iff.mpr h
  have h1 : ¬ (0 : Int) ≤ -1 := by decide
  have h2 : (-1 : Int) + xs.length = ((xs.length - 1 : Nat) : Int) := by omega
  have h3 : xs.length - 1 < xs.length := by omega
  rw [List.getLast?_eq_getElem?, List.getElem?_eq_getElem h3]
  have hn : L2.ixN xs.length (-1) = some (xs.length - 1) := by
    unfold L2.ixN
    first
      | (simp; omega)
      | (rw [if_neg (by omega)]; simp; omega)
  simp [ixR, deref, index, L2.atI, hn]
  simp [h3]
theorem gd_isS {n : Nat} {d : D} (h : gd n d = true) : isTys d [.str] = some (isStr d) := by
  cases d <;> first | rfl | (simp [gd] at h)
def isTupD : D → Bool
  | .tup _ => true
  | _ => false
theorem gd_isT {n : Nat} {d : D} (h : gd n d = true) : isTys d [.tuple] = some (isTupD d) := by
  cases d <;> first | rfl | (simp [gd] at h)
theorem gd_part {n : Nat} {d : D} {v : Vp} (h : Fp d v) (g : gd n d = true) : ∀ x ∈ v.parts, gd n x = true := by
  intro x hx
  obtain ⟨m, rfl⟩ : ∃ m, n = m + 1 := by
    cases n with
    | zero => cases h <;> simp [gd] at g
    | succ m => exact ⟨m, rfl⟩
  cases h with
  | doo a b => cases hx
  | stop => cases hx
  | loop y =>
    rw [gd_tup] at g
    simp only [Vp.parts, List.mem_singleton] at hx
    rw [hx]
    exact gd_succ _ _ (g.2.2 y (by simp))
  | row xs _ _ =>
    rw [gd_tup] at g
    have g2 := g.2.2 (.tup xs) (by simp)
    obtain ⟨k, rfl⟩ : ∃ k, m = k + 1 := by cases m with | zero => simp [gd] at g2 | succ k => exact ⟨k, rfl⟩
    rw [gd_tup] at g2
    exact gd_succ _ _ (gd_succ _ _ (g2.2.2 x hx))
  | cho xs _ _ =>
    rw [gd_tup] at g
    have g2 := g.2.2 (.tup xs) (by simp)
    obtain ⟨k, rfl⟩ : ∃ k, m = k + 1 := by cases m with | zero => simp [gd] at g2 | succ k => exact ⟨k, rfl⟩
    rw [gd_tup] at g2
    exact gd_succ _ _ (gd_succ _ _ (g2.2.2 x hx))
/-- a path of ints, of no great length -/
def Nums6 (p : List D) : Prop := ∀ x ∈ p, ∃ i : Int, x = .int i
theorem wrs_path {f : Nat} (ih : ∀ (d : D) (p q : List D) (c c' : Nat), Nums6 p → wr f d p c = (some q, c') → Nums6 q ∧ q.length ≤ p.length + f) {me : Nat → Bool} {en : D → Bool} : ∀ (xs : List D) (j : Nat) (p q : List D) (c c' : Nat), Nums6 p → wrs (wr f) me en xs j p c = (some q, c') → Nums6 q ∧ q.length ≤ p.length + (f + 1)
  | [], _, _, _, _, _, _, h => by cases h
  | x :: r, j, p, q, c, c', hp, h => by
    have hp1 : Nums6 (p ++ [.int ((j : Nat) : Int)]) := fun y hy => by
      rw [List.mem_append, List.mem_singleton] at hy
      rcases hy with hy | rfl
      · exact hp y hy
      · exact ⟨_, rfl⟩
    unfold wrs at h
    cases hx : wr f x (p ++ [.int ((j : Nat) : Int)]) c with
    | mk o c1 =>
      rw [hx] at h
      cases o with
      | some q1 =>
        cases h
        have := ih x _ _ _ _ hp1 hx
        rw [List.length_append, List.length_singleton] at this
        exact ⟨this.1, by omega⟩
      | none =>
        simp only at h
        by_cases hm : (me j && !en x) = true
        · rw [if_pos hm] at h; cases h
          exact ⟨hp1, by rw [List.length_append, List.length_singleton]; omega⟩
        · rw [if_neg hm] at h
          exact wrs_path ih r (j + 1) p q c1 c' hp h
theorem wr_path : ∀ (f : Nat) (d : D) (p q : List D) (c c' : Nat), Nums6 p → wr f d p c = (some q, c') → Nums6 q ∧ q.length ≤ p.length + f
  | 0, _, _, _, _, _, hp, h => by cases h; exact ⟨hp, by omega⟩
  | f + 1, d, p, q, c, c', hp, h => by
    unfold wr at h
    by_cases h1 : formB d = false
    · rw [if_pos h1] at h; cases h; exact ⟨hp, by omega⟩
    · rw [if_neg h1] at h
      by_cases h2 : (vp d).isDo = true
      · rw [if_pos h2] at h
        by_cases h3 : 16 ≤ c
        · rw [if_pos h3] at h; cases h; exact ⟨hp, by omega⟩
        · rw [if_neg h3] at h; cases h
      · rw [if_neg h2] at h
        exact wrs_path (fun d p q c c' => wr_path f d p q c c') _ _ _ _ _ _ hp h
end Bs
/-! Bs: drawn programs that are right, what may come next of a rest. -/
namespace Bs
/-- no more different ones than a list has -/
theorem nd_len {α : Type} : ∀ (l m : List α), l.Nodup → (∀ x ∈ l, x ∈ m) → l.length ≤ m.length
  | [], m, _, _ => by simp
  | x :: l, m, h, s => by
    rw [List.nodup_cons] at h
    obtain ⟨a, b, rfl⟩ := List.append_of_mem (s x List.mem_cons_self)
    have := nd_len l (a ++ b) h.2 (fun y hy => by
      have h1 := s y (List.mem_cons_of_mem _ hy)
      have h2 : y ≠ x := fun e => h.1 (e ▸ hy)
      simp only [List.mem_append, List.mem_cons] at h1 ⊢
      rcases h1 with h1 | h1 | h1
      · exact .inl h1
      · exact absurd h1 h2
      · exact .inr h1)
    simp only [List.length_append, List.length_cons] at this ⊢
    omega
/-- names as they are drawn -/
def nmsOk (a : List (List Nat)) : Prop := (∀ w ∈ a, nmW w = true) ∧ a.Nodup
theorem nmsL_ok : ∀ (r pre : List (List Nat)), (∀ w ∈ r, nmW w = true) → r.Nodup → (∀ w ∈ r, w ∉ pre) → (nmsL (SL pre) (SL r)).all id = true
  | [], _, _, _, _ => rfl
  | w :: r, pre, h1, h2, h3 => by
    rw [List.nodup_cons] at h2
    have ih := nmsL_ok r (pre ++ [w]) (fun v hv => h1 v (List.mem_cons_of_mem _ hv)) h2.2 (fun v hv => by
      rw [List.mem_append, List.mem_singleton, not_or]
      exact ⟨h3 v (List.mem_cons_of_mem _ hv), fun e => h2.1 (e ▸ hv)⟩)
    have e : (SL pre).any (fun y => eqB y (.str w)) = false := by
      rw [List.any_eq_false]
      intro y hy
      simp only [SL, List.mem_map] at hy
      obtain ⟨v, hv, rfl⟩ := hy
      intro z
      have z2 : v = w := by simpa [eqB] using z
      exact h3 w List.mem_cons_self (z2 ▸ hv)
    have e2 : SL (pre ++ [w]) = SL pre ++ [.str w] := by simp [SL]
    rw [e2] at ih
    show ((nmB (.str w) && !((SL pre).any fun y => eqB y (.str w))) :: nmsL (SL pre ++ [.str w]) (SL r)).all id = true
    rw [List.all_cons, e, ih, show nmB (.str w) = true from h1 w List.mem_cons_self]; rfl
theorem nmsB_ok {a : List (List Nat)} {n : Nat} (h : nmsOk a) (hn : n ≤ a.length) : nmsB n (.tup (SL a)) = true := by
  have := nmsL_ok a [] h.1 h.2 (fun w _ => by simp)
  have h2 : n ≤ (SL a).length := by simpa using hn
  show (decide (n ≤ (SL a).length) && (nmsL [] (SL a)).all id) = true
  rw [decide_eq_true h2, Bool.true_and]
  exact this
/-- a drawn program of at most so many levels; it can end -/
inductive Pgx : Nat → Bool → D → Prop
  | doo (f : Nat) (b : Bool) (a c : List (List Nat)) : nmsOk a → nmsOk c → 1 ≤ a.length → a.length ≤ 100 → c.length ≤ 100 → Pgx (f + 1) b (.tup [.str sDo, .tup (SL a), .tup (SL c)])
  | stop (f : Nat) : Pgx (f + 1) false (.tup [.str sStop])
  | loop (f : Nat) (x : D) : Pgx f true x → Pgx (f + 1) false (.tup [.str sLoop, x])
  | row (f : Nat) (b : Bool) (xs : List D) : 1 ≤ xs.length → xs.length ≤ 4 → (∀ (i : Nat) x, xs[i]? = some x → Pgx f (b || decide (i + 1 < xs.length)) x) → Pgx (f + 1) b (.tup [.str sRow, .tup xs])
  | cho (f : Nat) (b : Bool) (xs : List D) (n : Nat) : 2 ≤ xs.length → xs.length ≤ 4 → n < xs.length → (∀ (i : Nat) x, xs[i]? = some x → Pgx f (b && decide (i = n)) x) → Pgx (f + 1) b (.tup [.str sCho, .tup xs])
theorem Pgx.mono {f g : Nat} (h : f ≤ g) {b : Bool} {d : D} (p : Pgx f b d) : Pgx g b d := by
  induction p generalizing g with
  | doo f b a c h1 h2 h3 h4 h5 => obtain ⟨g, rfl⟩ : ∃ g', g = g' + 1 := ⟨g - 1, by omega⟩; exact .doo g b a c h1 h2 h3 h4 h5
  | stop f => obtain ⟨g, rfl⟩ : ∃ g', g = g' + 1 := ⟨g - 1, by omega⟩; exact .stop g
  | loop f x _ ih => obtain ⟨g, rfl⟩ : ∃ g', g = g' + 1 := ⟨g - 1, by omega⟩; exact .loop g x (ih (by omega))
  | row f b xs h1 h2 _ ih => obtain ⟨g, rfl⟩ : ∃ g', g = g' + 1 := ⟨g - 1, by omega⟩; exact .row g b xs h1 h2 fun i x e => ih i x e (by omega)
  | cho f b xs n h1 h2 h3 _ ih => obtain ⟨g, rfl⟩ : ∃ g', g = g' + 1 := ⟨g - 1, by omega⟩; exact .cho g b xs n h1 h2 h3 fun i x e => ih i x e (by omega)
theorem Pgx.pgm {f : Nat} {b : Bool} {d : D} (p : Pgx f b d) : Pgm f d := by
  induction p with
  | doo f b a c h1 h2 h3 h4 h5 => exact .doo f a c h4 h5
  | stop f => exact .stop f
  | loop f x _ ih => exact .loop f x ih
  | row f b xs h1 h2 _ ih => exact .par f true xs (fun z => by rw [z] at h1; simp at h1) (by omega) (fun x hx => by obtain ⟨i, e⟩ := List.mem_iff_getElem?.mp hx; exact ih i x e)
  | cho f b xs n h1 h2 h3 _ ih => exact .par f false xs (fun z => by rw [z] at h1; simp at h1) (by omega) (fun x hx => by obtain ⟨i, e⟩ := List.mem_iff_getElem?.mp hx; exact ih i x e)
theorem Pgx.end_ {f : Nat} {b : Bool} {d : D} (p : Pgx f b d) : b = true → endB f d = true := by
  induction p with
  | doo f b a c h1 h2 h3 h4 h5 => intro _; rw [endB, (Fp.doo _ _).vp]; rfl
  | stop f => exact fun z => nomatch z
  | loop f x _ ih => exact fun z => nomatch z
  | row f b xs h1 h2 _ ih =>
    intro hb
    rw [endB, (Fp.row xs h1 (by omega)).vp]
    have hl : xs.length - 1 < xs.length := by omega
    have e := List.getElem?_eq_getElem hl
    show endB f (xs.getLast?.getD .non) = true
    rw [List.getLast?_eq_getElem?, e]
    exact ih _ _ e (by rw [hb]; rfl)
  | cho f b xs n h1 h2 h3 _ ih =>
    intro hb
    rw [endB, (Fp.cho xs h1 h2).vp]
    show xs.any (endB f) = true
    rw [List.any_eq_true]
    exact ⟨xs[n], List.getElem_mem h3, ih n _ (List.getElem?_eq_getElem h3) (by rw [hb]; simp)⟩
/-- the dos of a program -/
def dosD : Nat → D → List D
  | 0, _ => []
  | f + 1, d => if (vp d).isDo then [d] else (vp d).parts.flatMap (dosD f)
theorem len_fm {α β : Type} {g : α → List β} {m : Nat} : ∀ xs : List α, (∀ x ∈ xs, (g x).length ≤ m) → (xs.flatMap g).length ≤ xs.length * m
  | [], _ => by simp
  | x :: xs, h => by
    have h1 := h x List.mem_cons_self
    have h2 := len_fm xs fun y hy => h y (List.mem_cons_of_mem _ hy)
    rw [List.flatMap_cons, List.length_append, List.length_cons, Nat.succ_mul]
    omega
theorem four_mul {n m : Nat} (h : n ≤ 4) : n * m ≤ 4 * m := Nat.mul_le_mul_right _ h
theorem pow4 (f : Nat) : 1 ≤ 4 ^ f := Nat.pos_of_ne_zero (by simp)
theorem Pgx.dlen {f : Nat} {b : Bool} {d : D} (p : Pgx f b d) : (dosD f d).length ≤ 4 ^ f := by
  induction p with
  | doo f b a c h1 h2 h3 h4 h5 => rw [dosD, (Fp.doo _ _).vp]; exact pow4 _
  | stop f => rw [dosD, (Fp.stop).vp]; exact Nat.zero_le _
  | loop f x _ ih =>
    rw [dosD, (Fp.loop x).vp, if_neg (by simp [Vp.isDo])]
    have := len_fm (g := dosD f) (m := 4 ^ f) [x] (fun y hy => by rw [List.mem_singleton] at hy; rw [hy]; exact ih)
    show ([x].flatMap (dosD f)).length ≤ _
    simp only [List.length_singleton] at this
    rw [Nat.pow_succ]; omega
  | row f b xs h1 h2 _ ih =>
    rw [dosD, (Fp.row xs h1 (by omega)).vp, if_neg (by simp [Vp.isDo])]
    have := len_fm (g := dosD f) (m := 4 ^ f) xs (fun y hy => by obtain ⟨i, e⟩ := List.mem_iff_getElem?.mp hy; exact ih i y e)
    have h3 := four_mul (m := 4 ^ f) h2
    show (xs.flatMap (dosD f)).length ≤ _
    rw [Nat.pow_succ]; omega
  | cho f b xs n h1 h2 h3 _ ih =>
    rw [dosD, (Fp.cho xs h1 h2).vp, if_neg (by simp [Vp.isDo])]
    have := len_fm (g := dosD f) (m := 4 ^ f) xs (fun y hy => by obtain ⟨i, e⟩ := List.mem_iff_getElem?.mp hy; exact ih i y e)
    have h3 := four_mul (m := 4 ^ f) h2
    show (xs.flatMap (dosD f)).length ≤ _
    rw [Nat.pow_succ]; omega
/-! ### they are right -/
theorem wrs_all {g : D → List D → Nat → Option (List D) × Nat} {me : Nat → Bool} {en : D → Bool} {h : D → List D} : ∀ (xs : List D) (j : Nat) (p : List D) (c : Nat), (∀ (i : Nat) x, xs[i]? = some x → (∀ p c, c + (h x).length ≤ 16 → g x p c = (none, c + (h x).length)) ∧ (me (j + i) && !en x) = false) → c + (xs.flatMap h).length ≤ 16 → wrs g me en xs j p c = (none, c + (xs.flatMap h).length)
  | [], j, p, c, _, _ => rfl
  | x :: r, j, p, c, hx, hc => by
    rw [List.flatMap_cons, List.length_append] at hc ⊢
    have h0 := hx 0 x rfl
    unfold wrs
    rw [h0.1 _ c (by omega)]
    simp only
    rw [if_neg (by rw [Nat.add_zero] at h0; rw [h0.2]; simp)]
    rw [wrs_all r (j + 1) p (c + (h x).length) (fun i y e => by have := hx (i + 1) y e; rw [show j + 1 + i = j + (i + 1) from by omega]; exact this) (by omega)]
    rw [Nat.add_assoc]
theorem Pgx.form {f : Nat} {b : Bool} {d : D} (p : Pgx f b d) : formB d = true := by
  cases p with
  | doo f b a c h1 h2 h3 h4 h5 =>
    have e1 := nmsB_ok (n := 1) h1 h3
    have e2 := nmsB_ok (n := 0) h2 (Nat.zero_le _)
    show (nmsB 1 (.tup (SL a)) && nmsB 0 (.tup (SL c))) = true
    rw [e1, e2]; rfl
  | stop f => rfl
  | loop f x _ => rfl
  | row f _ xs h1 h2 _ =>
    have h3 : xs.length ≤ 8 := by omega
    show (decide (1 ≤ xs.length) && decide (xs.length ≤ 8)) = true
    rw [decide_eq_true h1, decide_eq_true h3]; rfl
  | cho f _ xs n h1 h2 _ _ =>
    show (decide (2 ≤ xs.length) && decide (xs.length ≤ 4)) = true
    rw [decide_eq_true h1, decide_eq_true h2]; rfl
theorem Pgx.wr {f : Nat} {b : Bool} {d : D} (p : Pgx f b d) : ∀ (q : List D) (c : Nat), c + (dosD f d).length ≤ 16 → Bs.wr f d q c = (none, c + (dosD f d).length) := by
  induction p with
  | doo f b a c h1 h2 h3 h4 h5 =>
    intro q n hn
    have hf := (Pgx.doo f b a c h1 h2 h3 h4 h5).form
    rw [dosD, (Fp.doo _ _).vp, if_pos (show Vp.doo.isDo = true from rfl)] at hn ⊢
    unfold Bs.wr
    rw [if_neg (by rw [hf]; simp), (Fp.doo _ _).vp, if_pos (show Vp.doo.isDo = true from rfl), if_neg (by simp at hn; omega)]; rfl
  | stop f =>
    intro q n hn
    have hf := (Pgx.stop f).form
    rw [dosD, Fp.stop.vp, if_neg (by simp [Vp.isDo])] at hn ⊢
    unfold Bs.wr
    rw [if_neg (by rw [hf]; simp), Fp.stop.vp, if_neg (by simp [Vp.isDo])]; rfl
  | loop f x hx ih =>
    intro q n hn
    have hf := (Pgx.loop f x hx).form
    rw [dosD, (Fp.loop x).vp, if_neg (by simp [Vp.isDo])] at hn ⊢
    unfold Bs.wr
    rw [if_neg (by rw [hf]; simp), (Fp.loop x).vp, if_neg (by simp [Vp.isDo])]
    refine wrs_all _ 0 q n (fun i y e => ?_) hn
    have e1 : y = x := by
      cases i with
      | zero => simpa [Vp.parts] using e.symm
      | succ i => simp [Vp.parts] at e
    rw [e1]
    exact ⟨ih, by rw [hx.end_ rfl]; simp⟩
  | row f b xs h1 h2 hx ih =>
    intro q n hn
    have hf := (Pgx.row f b xs h1 h2 hx).form
    rw [dosD, (Fp.row xs h1 (by omega)).vp, if_neg (by simp [Vp.isDo])] at hn ⊢
    unfold Bs.wr
    rw [if_neg (by rw [hf]; simp), (Fp.row xs h1 (by omega)).vp, if_neg (by simp [Vp.isDo])]
    refine wrs_all _ 0 q n (fun i y e => ?_) hn
    refine ⟨ih i y e, ?_⟩
    show (decide (0 + i + 1 < xs.length) && !endB f y) = false
    rw [Nat.zero_add]
    by_cases h : i + 1 < xs.length
    · rw [(hx i y e).end_ (by rw [decide_eq_true h, Bool.or_true])]; simp
    · rw [decide_eq_false h]; rfl
  | cho f b xs m h1 h2 h3 hx ih =>
    intro q n hn
    have hf := (Pgx.cho f b xs m h1 h2 h3 hx).form
    rw [dosD, (Fp.cho xs h1 h2).vp, if_neg (by simp [Vp.isDo])] at hn ⊢
    unfold Bs.wr
    rw [if_neg (by rw [hf]; simp), (Fp.cho xs h1 h2).vp, if_neg (by simp [Vp.isDo])]
    exact wrs_all _ 0 q n (fun i y e => ⟨ih i y e, rfl⟩) hn
theorem Pgx.fo {f : Nat} {b : Bool} {d : D} (p : Pgx f b d) : Fo f d := by
  induction p with
  | doo f b a c h1 h2 h3 h4 h5 => exact .mk f _ .doo (.doo _ _) fun x hx => by cases hx
  | stop f => exact .mk f _ .stop .stop fun x hx => by cases hx
  | loop f x _ ih => exact .mk f _ (.one x) (.loop x) fun y hy => by rw [show y = x from by simpa [Vp.parts] using hy]; exact ih
  | row f b xs h1 h2 _ ih => exact .mk f _ (.row xs) (.row xs h1 (by omega)) fun y hy => by obtain ⟨i, e⟩ := List.mem_iff_getElem?.mp hy; exact ih i y e
  | cho f b xs n h1 h2 h3 _ ih => exact .mk f _ (.cho xs) (.cho xs h1 h2) fun y hy => by obtain ⟨i, e⟩ := List.mem_iff_getElem?.mp hy; exact ih i y e
/-! ### what may come next -/
def opD : Nat → D → List D → List D
  | 0, _, _ => []
  | f + 1, d, R => match vp d with
    | .doo => (match d with
      | .tup [_, x, y] => [.tup [x, y, .tup R]]
      | _ => [])
    | .one x => opD f x (d :: R)
    | .row (x :: r) => opD f x (r ++ R)
    | .cho xs => xs.flatMap fun x => opD f x R
    | _ => []
def rowA (g : D → List D → List (List D)) : List D → List D → List (List D)
  | [], _ => []
  | x :: r, R => g x (r ++ R) ++ rowA g r R
/-- the rests behind the dos of a program -/
def allo : Nat → D → List D → List (List D)
  | 0, _, _ => []
  | f + 1, d, R => match vp d with
    | .doo => [R]
    | .one x => allo f x (d :: R)
    | .row xs => rowA (allo f) xs R
    | .cho xs => xs.flatMap fun x => allo f x R
    | _ => []
theorem op_do (f : Nat) (x y : D) (R : List D) : opD (f + 1) (.tup [.str sDo, x, y]) R = [.tup [x, y, .tup R]] := by rw [opD, (Fp.doo x y).vp]
theorem op_stop (f : Nat) (R : List D) : opD (f + 1) (.tup [.str sStop]) R = [] := by rw [opD, Fp.stop.vp]; intro _ _ _ e; cases e
theorem op_loop (f : Nat) (x : D) (R : List D) : opD (f + 1) (.tup [.str sLoop, x]) R = opD f x (.tup [.str sLoop, x] :: R) := by rw [opD, (Fp.loop x).vp]; intro _ _ _ e; cases e
theorem op_row (f : Nat) (x : D) (r : List D) (R : List D) (h : (x :: r).length ≤ 8) : opD (f + 1) (.tup [.str sRow, .tup (x :: r)]) R = opD f x (r ++ R) := by rw [opD, (Fp.row (x :: r) (by simp) h).vp]; intro _ _ _ e; cases e
theorem op_cho (f : Nat) (xs : List D) (R : List D) (h1 : 2 ≤ xs.length) (h2 : xs.length ≤ 4) : opD (f + 1) (.tup [.str sCho, .tup xs]) R = xs.flatMap fun x => opD f x R := by rw [opD, (Fp.cho xs h1 h2).vp]; intro _ _ _ e; cases e
theorem al_do (f : Nat) (x y : D) (R : List D) : allo (f + 1) (.tup [.str sDo, x, y]) R = [R] := by rw [allo, (Fp.doo x y).vp]
theorem al_stop (f : Nat) (R : List D) : allo (f + 1) (.tup [.str sStop]) R = [] := by rw [allo, Fp.stop.vp]
theorem al_loop (f : Nat) (x : D) (R : List D) : allo (f + 1) (.tup [.str sLoop, x]) R = allo f x (.tup [.str sLoop, x] :: R) := by rw [allo, (Fp.loop x).vp]
theorem al_row (f : Nat) (xs : List D) (R : List D) (h1 : 1 ≤ xs.length) (h : xs.length ≤ 8) : allo (f + 1) (.tup [.str sRow, .tup xs]) R = rowA (allo f) xs R := by rw [allo, (Fp.row xs h1 h).vp]
theorem al_cho (f : Nat) (xs : List D) (R : List D) (h1 : 2 ≤ xs.length) (h2 : xs.length ≤ 4) : allo (f + 1) (.tup [.str sCho, .tup xs]) R = xs.flatMap fun x => allo f x R := by rw [allo, (Fp.cho xs h1 h2).vp]
theorem rowA_len {f : Nat} : ∀ (xs R : List D), (∀ x ∈ xs, ∀ R, (allo f x R).length = (dosD f x).length) → (rowA (allo f) xs R).length = (xs.flatMap (dosD f)).length
  | [], _, _ => rfl
  | x :: r, R, h => by
    rw [rowA, List.length_append, List.flatMap_cons, List.length_append, h x List.mem_cons_self, rowA_len r R fun y hy => h y (List.mem_cons_of_mem _ hy)]
theorem fm_len {f : Nat} {R : List D} : ∀ (xs : List D), (∀ x ∈ xs, ∀ R, (allo f x R).length = (dosD f x).length) → (xs.flatMap fun x => allo f x R).length = (xs.flatMap (dosD f)).length
  | [], _ => rfl
  | x :: r, h => by
    rw [List.flatMap_cons, List.length_append, List.flatMap_cons, List.length_append, h x List.mem_cons_self, fm_len r fun y hy => h y (List.mem_cons_of_mem _ hy)]
theorem Pgx.alen {f : Nat} {b : Bool} {d : D} (p : Pgx f b d) : ∀ R, (allo f d R).length = (dosD f d).length := by
  induction p with
  | doo f b a c h1 h2 h3 h4 h5 => intro R; rw [al_do, dosD, (Fp.doo _ _).vp]; rfl
  | stop f => intro R; rw [al_stop, dosD, Fp.stop.vp]; rfl
  | loop f x _ ih => intro R; rw [al_loop, dosD, (Fp.loop x).vp, ih, if_neg (by simp [Vp.isDo])]; simp [Vp.parts]
  | row f b xs h1 h2 _ ih =>
    intro R; rw [al_row _ _ _ h1 (by omega), dosD, (Fp.row xs h1 (by omega)).vp, if_neg (by simp [Vp.isDo])]
    exact rowA_len xs R fun x hx => by obtain ⟨i, e⟩ := List.mem_iff_getElem?.mp hx; exact ih i x e
  | cho f b xs n h1 h2 h3 _ ih =>
    intro R; rw [al_cho _ _ _ h1 h2, dosD, (Fp.cho xs h1 h2).vp, if_neg (by simp [Vp.isDo])]
    exact fm_len xs fun x hx => by obtain ⟨i, e⟩ := List.mem_iff_getElem?.mp hx; exact ih i x e
theorem fm_le2 {f : Nat} {R : List D} : ∀ (xs : List D), (∀ x ∈ xs, ∀ R, (opD f x R).length ≤ (allo f x R).length) → (xs.flatMap fun x => opD f x R).length ≤ (xs.flatMap fun x => allo f x R).length
  | [], _ => Nat.le_refl _
  | x :: r, h => by
    rw [List.flatMap_cons, List.length_append, List.flatMap_cons, List.length_append]
    exact Nat.add_le_add (h x List.mem_cons_self R) (fm_le2 r fun y hy => h y (List.mem_cons_of_mem _ hy))
theorem Pgx.olen {f : Nat} {b : Bool} {d : D} (p : Pgx f b d) : ∀ R, (opD f d R).length ≤ (allo f d R).length := by
  induction p with
  | doo f b a c h1 h2 h3 h4 h5 => intro R; rw [op_do, al_do]; exact Nat.le_refl _
  | stop f => intro R; rw [op_stop]; exact Nat.zero_le _
  | loop f x _ ih => intro R; rw [op_loop, al_loop]; exact ih _
  | row f b xs h1 h2 _ ih =>
    intro R
    cases xs with
    | nil => simp at h1
    | cons x r =>
      rw [op_row _ _ _ _ (by omega), al_row _ _ _ h1 (by omega), rowA, List.length_append]
      exact Nat.le_trans (ih 0 x rfl _) (Nat.le_add_right _ _)
  | cho f b xs n h1 h2 h3 _ ih =>
    intro R; rw [op_cho _ _ _ h1 h2, al_cho _ _ _ h1 h2]
    exact fm_le2 xs fun x hx => by obtain ⟨i, e⟩ := List.mem_iff_getElem?.mp hx; exact ih i x e
/-- rests that can be come to: what is behind their dos stands in B -/
inductive Grs (B : List (List D)) : List D → Prop
  | nil : Grs B []
  | cons (f : Nat) (b : Bool) (d : D) (R : List D) : Pgx f b d → f ≤ 6 → R.length + 4 * f ≤ 40 → (allo f d R).Sublist B → Grs B R → Grs B (d :: R)
theorem Grs.row {B : List (List D)} {f : Nat} (hf : f ≤ 6) {R : List D} (hR : Grs B R) : ∀ xs : List D, (∀ x ∈ xs, ∃ b, Pgx f b x) → xs.length + R.length + 4 * f ≤ 41 → (rowA (allo f) xs R).Sublist B → Grs B (xs ++ R)
  | [], _, _, _ => hR
  | x :: r, h, hl, hs => by
    obtain ⟨b, hx⟩ := h x List.mem_cons_self
    rw [List.length_cons] at hl
    rw [rowA] at hs
    exact .cons f b x (r ++ R) hx hf (by rw [List.length_append]; omega) ((List.sublist_append_left _ _).trans hs) (Grs.row hf hR r (fun y hy => h y (List.mem_cons_of_mem _ hy)) (by omega) ((List.sublist_append_right _ _).trans hs))
/-- one thing that may come next -/
def OpOk (B : List (List D)) (o : D) : Prop := ∃ (a c : List (List Nat)) (r : List D), o = .tup [.tup (SL a), .tup (SL c), .tup r] ∧ a.length ≤ 100 ∧ c.length ≤ 100 ∧ r ∈ B ∧ Grs B r
theorem fm_sub {α β : Type} {g : α → List β} : ∀ {xs : List α} {x : α}, x ∈ xs → (g x).Sublist (xs.flatMap g)
  | y :: r, x, h => by
    rw [List.flatMap_cons]
    rcases List.mem_cons.mp h with rfl | h
    · exact List.sublist_append_left _ _
    · exact (fm_sub h).trans (List.sublist_append_right _ _)
theorem Pgx.ops {B : List (List D)} {f : Nat} {b : Bool} {d : D} (p : Pgx f b d) : ∀ R, f ≤ 6 → R.length + 4 * f ≤ 40 → (allo f d R).Sublist B → Grs B R → ∀ o ∈ opD f d R, OpOk B o := by
  induction p with
  | doo f b a c h1 h2 h3 h4 h5 =>
    intro R hf hl hs hR o ho
    rw [op_do, List.mem_singleton] at ho
    rw [al_do] at hs
    exact ⟨a, c, R, ho, h4, h5, hs.subset List.mem_cons_self, hR⟩
  | stop f => intro R hf hl hs hR o ho; rw [op_stop] at ho; cases ho
  | loop f x hx ih =>
    intro R hf hl hs hR o ho
    rw [op_loop] at ho
    have hs' := hs
    rw [al_loop] at hs
    exact ih _ (by omega) (by rw [List.length_cons]; omega) hs (.cons (f + 1) false _ R (.loop f x hx) hf hl hs' hR) o ho
  | row f b xs h1 h2 hx ih =>
    intro R hf hl hs hR o ho
    cases xs with
    | nil => simp at h1
    | cons x r =>
      rw [op_row _ _ _ _ (by omega)] at ho
      rw [al_row _ _ _ h1 (by omega), rowA] at hs
      rw [List.length_cons] at h2
      refine ih 0 x rfl _ (by omega) (by rw [List.length_append]; omega) ((List.sublist_append_left _ _).trans hs) (Grs.row (by omega) hR r (fun y hy => ?_) (by omega) ((List.sublist_append_right _ _).trans hs)) o ho
      obtain ⟨i, e⟩ := List.mem_iff_getElem?.mp hy
      exact ⟨_, hx (i + 1) y e⟩
  | cho f b xs n h1 h2 h3 hx ih =>
    intro R hf hl hs hR o ho
    rw [op_cho _ _ _ h1 h2, List.mem_flatMap] at ho
    obtain ⟨x, hm, ho⟩ := ho
    rw [al_cho _ _ _ h1 h2] at hs
    obtain ⟨i, e⟩ := List.mem_iff_getElem?.mp hm
    exact ih i x e R (by omega) (by omega) ((fm_sub (g := fun x => allo f x R) hm).trans hs) hR o ho
/-- what may come next of a rest -/
def opR : List D → List D
  | [] => []
  | d :: R => opD 6 d R
theorem fm_eq {α β : Type} {g h : α → List β} : ∀ {xs : List α}, (∀ x ∈ xs, g x = h x) → xs.flatMap g = xs.flatMap h
  | [], _ => rfl
  | x :: r, e => by rw [List.flatMap_cons, List.flatMap_cons, e x List.mem_cons_self, fm_eq fun y hy => e y (List.mem_cons_of_mem _ hy)]
theorem Pgx.omono {f : Nat} {b : Bool} {d : D} (p : Pgx f b d) : ∀ g R, f ≤ g → opD g d R = opD f d R := by
  induction p with
  | doo f b a c h1 h2 h3 h4 h5 => intro g R h; obtain ⟨g, rfl⟩ : ∃ g', g = g' + 1 := ⟨g - 1, by omega⟩; rw [op_do, op_do]
  | stop f => intro g R h; obtain ⟨g, rfl⟩ : ∃ g', g = g' + 1 := ⟨g - 1, by omega⟩; rw [op_stop, op_stop]
  | loop f x _ ih => intro g R h; obtain ⟨g, rfl⟩ : ∃ g', g = g' + 1 := ⟨g - 1, by omega⟩; rw [op_loop, op_loop]; exact ih _ _ (by omega)
  | row f b xs h1 h2 _ ih =>
    intro g R h; obtain ⟨g, rfl⟩ : ∃ g', g = g' + 1 := ⟨g - 1, by omega⟩
    cases xs with
    | nil => simp at h1
    | cons x r => rw [op_row _ _ _ _ (by omega), op_row _ _ _ _ (by omega)]; exact ih 0 x rfl _ _ (by omega)
  | cho f b xs n h1 h2 h3 _ ih =>
    intro g R h; obtain ⟨g, rfl⟩ : ∃ g', g = g' + 1 := ⟨g - 1, by omega⟩
    rw [op_cho _ _ _ h1 h2, op_cho _ _ _ h1 h2]
    refine fm_eq fun x hx => ?_
    obtain ⟨i, e⟩ := List.mem_iff_getElem?.mp hx
    exact ih i x e _ _ (by omega)
theorem Grs.ops {B : List (List D)} {r : List D} (h : Grs B r) : (∀ o ∈ opR r, OpOk B o) ∧ (opR r).length ≤ B.length := by
  cases h with
  | nil => exact ⟨fun o ho => (List.not_mem_nil ho).elim, Nat.zero_le _⟩
  | cons f b d R hx hf hl hs hR =>
    have e : opR (d :: R) = opD f d R := hx.omono 6 R hf
    rw [e]
    exact ⟨hx.ops R hf hl hs hR, Nat.le_trans (hx.olen R) hs.length_le⟩
/-! ### the law's own walk -/
/-- of no great size -/
def Rok (r : List D) : Prop := r.length ≤ 60 ∧ ∀ x ∈ r, plain 12 x = true
inductive OpL : List (List D) → Nat → List D → Prop
  | nil : OpL [] 0 []
  | none (T : List (List D)) (n : Nat) (res : List D) : OpL T n res → OpL ([] :: T) (n + 1) res
  | stop (R : List D) (T : List (List D)) (n : Nat) (res : List D) : Rok (.tup [.str sStop] :: R) → OpL T n res → OpL ((.tup [.str sStop] :: R) :: T) (n + 1) res
  | doo (x y : D) (R : List D) (T : List (List D)) (n : Nat) (res : List D) : Rok (.tup [.str sDo, x, y] :: R) → OpL T n res → OpL ((.tup [.str sDo, x, y] :: R) :: T) (n + 1) (.tup [x, y, .tup R] :: res)
  | row (x : D) (r R : List D) (T : List (List D)) (n : Nat) (res : List D) : Rok (.tup [.str sRow, .tup (x :: r)] :: R) → r.length ≤ 8 → OpL ((x :: (r ++ R)) :: T) n res → OpL ((.tup [.str sRow, .tup (x :: r)] :: R) :: T) (n + 1) res
  | loop (x : D) (R : List D) (T : List (List D)) (n : Nat) (res : List D) : Rok (.tup [.str sLoop, x] :: R) → OpL ((x :: .tup [.str sLoop, x] :: R) :: T) n res → OpL ((.tup [.str sLoop, x] :: R) :: T) (n + 1) res
  | cho (xs : List D) (R : List D) (T : List (List D)) (n : Nat) (res : List D) : Rok (.tup [.str sCho, .tup xs] :: R) → xs.length ≤ 8 → OpL (xs.map (fun x => x :: R) ++ T) n res → OpL ((.tup [.str sCho, .tup xs] :: R) :: T) (n + 1) res
theorem OpL.lens {T : List (List D)} {n : Nat} {res : List D} (h : OpL T n res) : T.length ≤ n ∧ res.length ≤ n := by
  induction h with
  | nil => exact ⟨Nat.le_refl _, Nat.le_refl _⟩
  | none T n res _ ih => simp only [List.length_cons]; omega
  | stop R T n res _ _ ih => simp only [List.length_cons]; omega
  | doo x y R T n res _ _ ih => simp only [List.length_cons]; omega
  | row x r R T n res _ _ _ ih => simp only [List.length_cons] at ih ⊢; omega
  | loop x R T n res _ _ ih => simp only [List.length_cons] at ih ⊢; omega
  | cho xs R T n res h1 h2 _ ih =>
    simp only [List.length_cons, List.length_append, List.length_map] at ih ⊢
    by_cases hx : xs.length = 0
    · have : xs = [] := List.length_eq_zero_iff.mp hx
      omega
    · omega
theorem OpL.cho_l {f : Nat} {R : List D} {T : List (List D)} {n : Nat} {res : List D} (hT : OpL T n res) : ∀ xs : List D, (∀ x ∈ xs, ∀ T n res, OpL T n res → ∃ m, 3 * m + 1 ≤ 4 ^ f ∧ OpL ((x :: R) :: T) (m + n) (opD f x R ++ res)) →
    ∃ m, 3 * m + xs.length ≤ xs.length * 4 ^ f ∧ OpL (xs.map (fun x => x :: R) ++ T) (m + n) ((xs.flatMap fun x => opD f x R) ++ res)
  | [], _ => ⟨0, by simp, by simpa using hT⟩
  | x :: r, h => by
    obtain ⟨m, h1, h2⟩ := OpL.cho_l hT r fun y hy => h y (List.mem_cons_of_mem _ hy)
    obtain ⟨m', h3, h4⟩ := h x List.mem_cons_self _ _ _ h2
    refine ⟨m' + m, by simp only [List.length_cons, Nat.succ_mul]; omega, ?_⟩
    rw [List.flatMap_cons, List.append_assoc, Nat.add_assoc]
    exact h4
theorem Pgx.plain {f : Nat} {b : Bool} {d : D} (p : Pgx f b d) (hf : f ≤ 6) : Bs.plain 12 d = true := p.pgm.plain hf
theorem Pgx.opl {f : Nat} {b : Bool} {d : D} (p : Pgx f b d) : ∀ (R : List D) (T : List (List D)) (n : Nat) (res : List D), f ≤ 6 → R.length + 4 * f ≤ 50 → (∀ x ∈ R, Bs.plain 12 x = true) → OpL T n res → ∃ m, 3 * m + 1 ≤ 4 ^ f ∧ OpL ((d :: R) :: T) (m + n) (opD f d R ++ res) := by
  have rk : ∀ {f : Nat} {b : Bool} {d : D}, Pgx f b d → ∀ R : List D, f ≤ 6 → R.length + 4 * f ≤ 54 → (∀ x ∈ R, Bs.plain 12 x = true) → Rok (d :: R) := fun hx R hf hl hp => by
    refine ⟨by rw [List.length_cons]; omega, fun y hy => ?_⟩
    rcases List.mem_cons.mp hy with rfl | hy
    · exact hx.plain hf
    · exact hp y hy
  induction p with
  | doo f b a c h1 h2 h3 h4 h5 =>
    intro R T n res hf hl hp hT
    refine ⟨1, ?_, ?_⟩
    · have := pow4 f; rw [Nat.pow_succ]; omega
    · rw [op_do, Nat.add_comm]
      exact .doo _ _ R T n res (rk (.doo f b a c h1 h2 h3 h4 h5) R hf (by omega) hp) hT
  | stop f =>
    intro R T n res hf hl hp hT
    refine ⟨1, ?_, ?_⟩
    · have := pow4 f; rw [Nat.pow_succ]; omega
    · rw [op_stop, Nat.add_comm]
      exact .stop R T n res (rk (.stop f) R hf (by omega) hp) hT
  | loop f x hx ih =>
    intro R T n res hf hl hp hT
    have hk := rk (.loop f x hx) R hf (by omega) hp
    obtain ⟨m, h1, h2⟩ := ih (.tup [.str sLoop, x] :: R) T n res (by omega) (by rw [List.length_cons]; omega) hk.2 hT
    refine ⟨m + 1, by rw [Nat.pow_succ]; omega, ?_⟩
    rw [op_loop, show m + 1 + n = m + n + 1 from by omega]
    exact .loop x R T _ _ hk h2
  | row f b xs h1 h2 hx ih =>
    intro R T n res hf hl hp hT
    have hk := rk (.row f b xs h1 h2 hx) R hf (by omega) hp
    cases xs with
    | nil => simp at h1
    | cons x r =>
      have hr : ∀ y ∈ r ++ R, Bs.plain 12 y = true := fun y hy => by
        rcases List.mem_append.mp hy with hy | hy
        · obtain ⟨i, e⟩ := List.mem_iff_getElem?.mp hy
          exact (hx (i + 1) y e).plain (by omega)
        · exact hp y hy
      rw [List.length_cons] at h2
      obtain ⟨m, h3, h4⟩ := ih 0 x rfl (r ++ R) T n res (by omega) (by rw [List.length_append]; omega) hr hT
      refine ⟨m + 1, by rw [Nat.pow_succ]; omega, ?_⟩
      rw [op_row _ _ _ _ (by rw [List.length_cons]; omega), show m + 1 + n = m + n + 1 from by omega]
      exact .row x r R T _ _ hk (by omega) h4
  | cho f b xs j h1 h2 h3 hx ih =>
    intro R T n res hf hl hp hT
    have hk := rk (.cho f b xs j h1 h2 h3 hx) R hf (by omega) hp
    obtain ⟨m, h4, h5⟩ := OpL.cho_l (f := f) (R := R) hT xs fun x hm T n res hT => by
      obtain ⟨i, e⟩ := List.mem_iff_getElem?.mp hm
      exact ih i x e R T n res (by omega) (by omega) hp hT
    refine ⟨m + 1, ?_, ?_⟩
    · have h6 := pow4 f
      have h7 : xs.length * 4 ^ f + (4 - xs.length) * 4 ^ f = 4 * 4 ^ f := by rw [← Nat.add_mul]; congr 1; omega
      have h8 : 4 - xs.length ≤ (4 - xs.length) * 4 ^ f := Nat.le_mul_of_pos_right _ h6
      rw [Nat.pow_succ]; omega
    · rw [op_cho _ _ _ h1 h2, show m + 1 + n = m + n + 1 from by omega]
      exact .cho xs R T _ _ hk (by omega) h5
theorem Grs.opl {B : List (List D)} {r : List D} (h : Grs B r) : ∃ n, n ≤ 4096 ∧ OpL [r] n (opR r) := by
  cases h with
  | nil => exact ⟨1, by decide, .none [] 0 [] .nil⟩
  | cons f b d R hx hf hl hs hR =>
    have hp : ∀ {r : List D}, Grs B r → ∀ x ∈ r, Bs.plain 12 x = true := fun h => by
      induction h with
      | nil => intro x hx; cases hx
      | cons f b d R hx hf _ _ _ ih =>
        intro y hy
        rcases List.mem_cons.mp hy with rfl | hy
        · exact hx.plain hf
        · exact ih y hy
    obtain ⟨m, h1, h2⟩ := hx.opl R [] 0 [] hf (by omega) (hp hR) .nil
    have e : opR (d :: R) = opD f d R := hx.omono 6 R hf
    rw [e]
    rw [List.append_nil] at h2
    have : 4 ^ f ≤ 4 ^ 6 := Nat.pow_le_pow_right (by decide) hf
    exact ⟨m, by omega, h2⟩
/-! ### texts and tuples alone -/
mutual
def strT : D → Bool
  | .str _ => true
  | .tup xs => strTs xs
  | _ => false
def strTs : List D → Bool
  | [] => true
  | x :: xs => strT x && strTs xs
end
theorem strTs_all : ∀ {xs : List D}, strTs xs = true ↔ ∀ x ∈ xs, strT x = true
  | [] => by simp [strTs]
  | x :: xs => by simp [strTs, strTs_all (xs := xs)]
mutual
theorem eqB_strT : ∀ (d e : D), strT d = true → (eqB e d = true ↔ e = d)
  | .str s, e, _ => by cases e <;> simp [eqB]
  | .tup xs, e, h => by
    cases e with
    | tup ys =>
      simp only [eqB, D.tup.injEq]
      exact eqBs_strT xs ys (by simpa [strT] using h)
    | _ => simp [eqB]
  | .non, _, h => by simp [strT] at h
  | .bl _, _, h => by simp [strT] at h
  | .int _, _, h => by simp [strT] at h
  | .lst _, _, h => by simp [strT] at h
  | .dic _, _, h => by simp [strT] at h
  | .obj _ _, _, h => by simp [strT] at h
  | .loc _, _, h => by simp [strT] at h
theorem eqBs_strT : ∀ (xs ys : List D), strTs xs = true → (eqBs ys xs = true ↔ ys = xs)
  | [], ys, _ => by cases ys <;> simp [eqBs]
  | x :: xs, ys, h => by
    simp only [strTs, Bool.and_eq_true] at h
    cases ys with
    | nil => simp [eqBs]
    | cons y ys => simp only [eqBs, Bool.and_eq_true, eqB_strT x y h.1, eqBs_strT xs ys h.2, List.cons.injEq]
end
theorem SL_strT (a : List (List Nat)) : strTs (SL a) = true := by
  rw [strTs_all]
  intro x hx
  simp only [SL, List.mem_map] at hx
  obtain ⟨w, _, rfl⟩ := hx
  rfl
theorem Pgm.strT {f : Nat} {d : D} (h : Pgm f d) : Bs.strT d = true := by
  induction h with
  | doo f a b _ _ =>
    have h1 := SL_strT a
    have h2 := SL_strT b
    simp only [Bs.strT, strTs, h1, h2, Bool.and_self]
  | stop f => rfl
  | loop f x _ ih => simp [Bs.strT, strTs, ih]
  | par f c xs _ _ _ ih =>
    have h1 : strTs xs = true := strTs_all.mpr ih
    simp only [Bs.strT, strTs, h1, Bool.and_self]
theorem Grs.good {B : List (List D)} {r : List D} (h : Grs B r) : (∀ x ∈ r, Pgm 6 x) ∧ r.length ≤ 41 := by
  induction h with
  | nil => exact ⟨fun x hx => (List.not_mem_nil hx).elim, Nat.zero_le _⟩
  | cons f b d R hx hf hl _ _ ih =>
    refine ⟨fun y hy => ?_, by rw [List.length_cons]; omega⟩
    rcases List.mem_cons.mp hy with rfl | hy
    · exact hx.pgm.mono hf
    · exact ih.1 y hy
theorem Grs.strT {B : List (List D)} {r : List D} (h : Grs B r) : Bs.strT (.tup r) = true := by
  simp only [Bs.strT]
  exact strTs_all.mpr fun x hx => (h.good.1 x hx).strT
theorem Grs.plain {B : List (List D)} {r : List D} (h : Grs B r) : Bs.plain 58 (.tup r) = true := by
  simp only [Bs.plain]
  exact plains_of fun x hx => plain_mono 12 57 x (by decide) ((h.good.1 x hx).plain (by decide))
/-- is a rest among those that were met -/
theorem nin_rests {B : List (List D)} {r : List D} (h : Grs B r) (rs : List (List D)) (hr : ∀ x ∈ rs, Grs B x) : ∃ b : Bool, compare .nin (.tup r) (.lst (rs.map D.tup)) = some (.bl b) ∧ (b = true ↔ r ∉ rs) := by
  have hp : plains 58 (rs.map D.tup) = true := plains_of fun x hx => by
    obtain ⟨y, hy, rfl⟩ := List.mem_map.mp hx
    exact (hr y hy).plain
  refine ⟨!((rs.map D.tup).any fun y => eqB y (.tup r)), ?_, ?_⟩
  · simp only [compare, inX, inD, h.plain, hp, Bool.and_self, Bool.or_true, if_true, Option.map_some]
  · rw [Bool.not_eq_true', List.any_eq_false]
    constructor
    · intro z hm
      exact z _ (List.mem_map_of_mem hm) ((eqB_strT _ _ h.strT).mpr rfl)
    · intro z x hx e
      obtain ⟨y, hy, rfl⟩ := List.mem_map.mp hx
      have := (eqB_strT _ _ h.strT).mp e
      injection this with this
      exact z (this ▸ hy)
end Bs
namespace Bs.K45
open PySem L2 Bs
def top (i : Nat) : Stmt := PySem.Challenge.pw_burstshop_k45_openings_of_all_rests.main.body.getD i (.Pass ⟨0, 0, 0, 0⟩)
/-- _law_start -/
def c0_0 : E := (.bi .int [(.var 2)])
def b0 : List S := [.asg [1] (.sto (.lc [2] (.sl (.var 0) none (some (.con (.int 63)))) none c0_0)),
  .ite (.cmp .eq (.var 1) (.lst [])) [.asg [1] (.sto (.lst [(.con (.int 0))]))] [],
  .ret (.new [(.var 1), (.con (.int 0))])]
def i0 : FnI := ⟨"_law_start", ["_law_script"], false, none, "_law_start"⟩
def d0 : Dr := ⟨i0, ["_law_script", "_law_cells", "_law_cell"], top 21, b0⟩
/-- _law_draw -/
def b1 : List S := [.asg [2] (.ix (.var 0) (.con (.int 0))),
  .asg [3] (.bin .mod (.bi .int [(.ix (.var 0) (.con (.int 1)))]) (.bi .len [(.var 2)])),
  .lset (.var 0) (.con (.int 1)) (.bin .add (.bi .int [(.ix (.var 0) (.con (.int 1)))]) (.con (.int 1))),
  .asg [4] (.bi .int [(.ix (.var 2) (.var 3))]),
  .ite (.cmp .ge (.var 4) (.bin .pow (.con (.int 10)) (.con (.int 18)))) [.lset (.var 2) (.var 3) (.bin .fdiv (.var 4) (.var 1)), .ret (.bin .mod (.bi .int [(.var 4)]) (.var 1))] [],
  .asg [5] (.bin .mod (.bin .mul (.bi .int [(.bin .add (.bin .add (.bin .mul (.var 4) (.con (.int 69621))) (.bin .mul (.con (.int 7919)) (.bi .int [(.ix (.var 0) (.con (.int 1)))]))) (.con (.int 1)))]) (.con (.int 48271))) (.con (.int 2147483647))),
  .asg [5] (.bin .mod (.bi .int [(.bin .mul (.var 5) (.bin .add (.bin .fdiv (.var 5) (.con (.int 1009))) (.con (.int 69621))))]) (.con (.int 2147483647))),
  .asg [5] (.bin .mod (.bi .int [(.bin .mul (.var 5) (.bin .add (.bin .fdiv (.var 5) (.con (.int 2003))) (.con (.int 40692))))]) (.con (.int 2147483399))),
  .ret (.bin .mod (.bi .int [(.bin .fdiv (.var 5) (.con (.int 16)))]) (.var 1))]
def i1 : FnI := ⟨"_law_draw", ["_law_state", "_law_many"], false, none, "_law_draw"⟩
def d1 : Dr := ⟨i1, ["_law_state", "_law_many", "_law_cells", "_law_at", "_law_cell", "_law_number"], top 22, b1⟩
/-- _law_name -/
def l2_0 : List S := [.asg [3] (.bin .add (.var 3) (.ix (.bin .add (.var 2) (.con (.str [48, 49, 50, 51, 52, 53, 54, 55, 56, 57]))) (.call 1 [(.var 0), (.con (.int 36))] [] [0, 1])))]
def l2_1 : List S := [.ite (.cmp .in_ (.var 3) (.var 1)) [.asg [3] (.bin .add (.var 6) (.sl (.var 3) (some (.con (.int 1))) none))] []]
def b2 : List S := [.asg [2] (.con (.str [97, 98, 99, 100, 101, 102, 103, 104, 105, 106, 107, 108, 109, 110, 111, 112, 113, 114, 115, 116, 117, 118, 119, 120, 121, 122])),
  .asg [3] (.ix (.var 2) (.call 1 [(.var 0), (.con (.int 26))] [] [0, 1])),
  .asg [4] (.con (.int 0)),
  .ite (.cmp .eq (.call 1 [(.var 0), (.con (.int 3))] [] [0, 1]) (.con (.int 0))) [.asg [4] (.call 1 [(.var 0), (.con (.int 8))] [] [0, 1])] [],
  .forr [5] (.rng1 (.var 4)) l2_0 [5],
  .forr [6] (.var 2) l2_1 [6],
  .ret (.var 3)]
def i2 : FnI := ⟨"_law_name", ["_law_state", "_law_taken"], false, none, "_law_name"⟩
def d2 : Dr := ⟨i2, ["_law_state", "_law_taken", "_law_letters", "_law_name_here", "_law_size", "_law_k", "_law_letter"], top 25, b2⟩
/-- _law_names -/
def l3_0 : List S := [.app 3 (.call 2 [(.var 0), (.bin .add (.bi .list [(.var 2)]) (.ovar 3))] [] [0, 1])]
def b3 : List S := [.own 3 (.lst []),
  .forr [4] (.rng1 (.var 1)) l3_0 [4],
  .frz 3,
  .ret (.var 3)]
def i3 : FnI := ⟨"_law_names", ["_law_state", "_law_many", "_law_taken"], false, none, "_law_names"⟩
def d3 : Dr := ⟨i3, ["_law_state", "_law_many", "_law_taken", "_law_names_here", "_law_k"], top 26, b3⟩
/-- _law_shuffled -/
def l4_0 : List S := [.app 3 (.popl (.var 2) (.call 1 [(.var 0), (.bi .len [(.var 2)])] [] [0, 1]))]
def b4 : List S := [.asg [2] (.sto (.bi .list [(.var 1)])),
  .own 3 (.lst []),
  .forr [4] (.rng1 (.bi .len [(.var 1)])) l4_0 [4],
  .frz 3,
  .ret (.var 3)]
def i4 : FnI := ⟨"_law_shuffled", ["_law_state", "_law_things"], false, none, "_law_shuffled"⟩
def d4 : Dr := ⟨i4, ["_law_state", "_law_things", "_law_rows", "_law_found", "_law_k"], top 24, b4⟩
/-- _law_some -/
def q5_0 : E := (.cmp .eq (.call 1 [(.var 0), (.con (.int 2))] [] [0, 1]) (.con (.int 1)))
def c5_0 : E := (.var 2)
def b5 : List S := [.ret (.lc [2] (.var 1) (some q5_0) c5_0)]
def i5 : FnI := ⟨"_law_some", ["_law_state", "_law_names_here"], false, none, "_law_some"⟩
def d5 : Dr := ⟨i5, ["_law_state", "_law_names_here", "_law_name_here"], top 23, b5⟩
/-- _law_do -/
def b6 : List S := [.asg [3] (.call 4 [(.var 0), (.call 5 [(.var 0), (.var 1)] [] [0, 1])] [] [0, 1]),
  .ite (.cmp .eq (.var 3) (.lst [])) [.asg [3] (.lst [(.ix (.var 1) (.call 1 [(.var 0), (.bi .len [(.var 1)])] [] [0, 1]))])] [],
  .ret (.tup [(.con (.str [100, 111])), (.bi .tuple [(.var 3)]), (.bi .tuple [(.call 4 [(.var 0), (.call 5 [(.var 0), (.var 2)] [] [0, 1])] [] [0, 1])])])]
def i6 : FnI := ⟨"_law_do", ["_law_state", "_law_ins", "_law_outs"], false, none, "_law_do"⟩
def d6 : Dr := ⟨i6, ["_law_state", "_law_ins", "_law_outs", "_law_burst"], top 28, b6⟩
/-- _law_program -/
def l7_0 : List S := [.app 7 (.call 7 [(.var 0), (.var 1), (.var 2), (.bin .sub (.var 3) (.con (.int 1))), (.or (.var 4) (.cmp .lt (.var 9) (.bin .sub (.var 8) (.con (.int 1))))), (.var 5)] [] [0, 1, 2, 3, 4, 5])]
def l7_1 : List S := [.app 7 (.call 7 [(.var 0), (.var 1), (.var 2), (.bin .sub (.var 3) (.con (.int 1))), (.and (.var 4) (.cmp .eq (.var 9) (.var 10))), (.var 5)] [] [0, 1, 2, 3, 4, 5])]
def b7 : List S := [.asg [6] (.call 1 [(.var 0), (.con (.int 9))] [] [0, 1]),
  .lset (.var 5) (.con (.int 0)) (.bin .sub (.ix (.var 5) (.con (.int 0))) (.con (.int 1))),
  .ite (.or (.cmp .lt (.ix (.var 5) (.con (.int 0))) (.con (.int 0))) (.cmp .lt (.var 3) (.con (.int 2)))) [.asg [6] (.bin .mul (.bi .int [(.cmp .eq (.var 6) (.con (.int 8)))]) (.con (.int 8)))] [],
  .own 7 (.lst []),
  .ite (.cmp .in_ (.var 6) (.tup [(.con (.int 3)), (.con (.int 4)), (.con (.int 5))])) [.asg [8] (.bin .add (.con (.int 1)) (.call 1 [(.var 0), (.con (.int 4))] [] [0, 1])), .forr [9] (.rng1 (.var 8)) l7_0 [9], .ret (.tup [(.con (.str [114, 111, 119])), (.bi .tuple [(.ovar 7)])])] [],
  .ite (.cmp .eq (.var 6) (.con (.int 6))) [.asg [8] (.bin .add (.con (.int 2)) (.call 1 [(.var 0), (.con (.int 3))] [] [0, 1])), .asg [10] (.call 1 [(.var 0), (.var 8)] [] [0, 1]), .forr [9] (.rng1 (.var 8)) l7_1 [9], .ret (.tup [(.con (.str [99, 104, 111, 111, 115, 101])), (.bi .tuple [(.ovar 7)])])] [],
  .ite (.and (.cmp .eq (.var 6) (.con (.int 7))) (.not (.var 4))) [.ret (.tup [(.con (.str [108, 111, 111, 112])), (.call 7 [(.var 0), (.var 1), (.var 2), (.bin .sub (.var 3) (.con (.int 1))), (.con (.bl true)), (.var 5)] [] [0, 1, 2, 3, 4, 5])])] [],
  .ite (.and (.cmp .eq (.var 6) (.con (.int 8))) (.not (.var 4))) [.ret (.tup [(.con (.str [115, 116, 111, 112]))])] [],
  .ret (.call 6 [(.var 0), (.var 1), (.var 2)] [] [0, 1, 2])]
def i7 : FnI := ⟨"_law_program", ["_law_state", "_law_ins", "_law_outs", "_law_deep", "_law_must_end", "_law_room"], false, none, "_law_program"⟩
def d7 : Dr := ⟨i7, ["_law_state", "_law_ins", "_law_outs", "_law_deep", "_law_must_end", "_law_room", "_law_kind", "_law_parts_here", "_law_many", "_law_k", "_law_chosen"], top 29, b7⟩
/-- _law_parts -/
def b8 : List S := [.ite (.cmp .in_ (.ix (.var 0) (.con (.int 0))) (.tup [(.con (.str [114, 111, 119])), (.con (.str [99, 104, 111, 111, 115, 101]))])) [.ret (.ix (.var 0) (.con (.int 1)))] [],
  .ret (.ite (.cmp .eq (.ix (.var 0) (.con (.int 0))) (.con (.str [108, 111, 111, 112]))) (.tup [(.ix (.var 0) (.con (.int 1)))]) (.tup []))]
def i8 : FnI := ⟨"_law_parts", ["_law_node"], false, none, "_law_parts"⟩
def d8 : Dr := ⟨i8, ["_law_node"], top 27, b8⟩
/-- _law_dos -/
def l9_0 : List S := [.asg [1] (.bin .add (.var 1) (.call 9 [(.var 2)] [] [0]))]
def b9 : List S := [.ite (.cmp .eq (.ix (.var 0) (.con (.int 0))) (.con (.str [100, 111]))) [.ret (.lst [(.var 0)])] [],
  .asg [1] (.lst []),
  .forr [2] (.call 8 [(.var 0)] [] [0]) l9_0 [2],
  .ret (.var 1)]
def i9 : FnI := ⟨"_law_dos", ["_law_node"], false, none, "_law_dos"⟩
def d9 : Dr := ⟨i9, ["_law_node", "_law_found", "_law_part"], top 30, b9⟩
/-- _law_good -/
def b10 : List S := [.asg [5] (.call 7 [(.var 0), (.var 1), (.var 2), (.var 3), (.con (.bl false)), (.sto (.lst [(.var 4)]))] [] [0, 1, 2, 3, 4, 5]),
  .ite (.cmp .gt (.bi .len [(.call 9 [(.var 5)] [] [0])]) (.con (.int 16))) [.ret (.tup [(.con (.str [114, 111, 119])), (.tup [(.call 6 [(.var 0), (.var 1), (.var 2)] [] [0, 1, 2]), (.call 6 [(.var 0), (.var 1), (.var 2)] [] [0, 1, 2])])])] [],
  .ret (.var 5)]
def i10 : FnI := ⟨"_law_good", ["_law_state", "_law_ins", "_law_outs", "_law_deep", "_law_room"], false, none, "_law_good"⟩
def d10 : Dr := ⟨i10, ["_law_state", "_law_ins", "_law_outs", "_law_deep", "_law_room", "_law_program_here"], top 31, b10⟩
/-- inner -/
def b11 : List S := [.ite (.cmp .in_ (.ix (.var 0) (.con (.int 0))) (.tup [(.con (.str [114, 111, 119])), (.con (.str [99, 104, 111, 111, 115, 101]))])) [.ret (.ix (.var 0) (.con (.int 1)))] [],
  .ret (.ite (.cmp .eq (.ix (.var 0) (.con (.int 0))) (.con (.str [108, 111, 111, 112]))) (.tup [(.ix (.var 0) (.con (.int 1)))]) (.tup []))]
def i11 : FnI := ⟨"inner", ["node"], false, none, "inner"⟩
def d11 : Dr := ⟨i11, ["node"], top 15, b11⟩
/-- is_name -/
def c12_0 : E := (.cmp .in_ (.var 1) (.bin .add (.glb 0) (.glb 2)))
def b12 : List S := [.ite (.or (.not (.isi (.var 0) [.str])) (.or (.not (.chn .le .le (.con (.int 1)) (.bi .len [(.var 0)]) (.glb 1))) (.cmp .nin (.ix (.var 0) (.con (.int 0))) (.glb 0)))) [.ret (.con (.bl false))] [],
  .ret (.bi .all [(.lc [1] (.var 0) none c12_0)])]
def i12 : FnI := ⟨"is_name", ["thing"], false, none, "is_name"⟩
def d12 : Dr := ⟨i12, ["thing", "sign"], top 7, b12⟩
/-- are_names -/
def c13_0 : E := (.and (.call 12 [(.var 3)] [] [0]) (.cmp .nin (.var 3) (.sl (.var 0) none (some (.var 2)))))
def b13 : List S := [.ite (.or (.not (.isi (.var 0) [.tuple])) (.cmp .lt (.bi .len [(.var 0)]) (.var 1))) [.ret (.con (.bl false))] [],
  .ret (.bi .all [(.lc [2, 3] (.enu (.var 0)) none c13_0)])]
def i13 : FnI := ⟨"are_names", ["thing", "least"], false, none, "are_names"⟩
def d13 : Dr := ⟨i13, ["thing", "least", "at", "name"], top 13, b13⟩
/-- has_form -/
def b14 : List S := [.ite (.or (.not (.isi (.var 0) [.tuple])) (.or (.cmp .eq (.bi .len [(.var 0)]) (.con (.int 0))) (.not (.isi (.ix (.var 0) (.con (.int 0))) [.str])))) [.ret (.con (.bl false))] [],
  .ite (.cmp .eq (.ix (.var 0) (.con (.int 0))) (.con (.str [115, 116, 111, 112]))) [.ret (.cmp .eq (.bi .len [(.var 0)]) (.con (.int 1)))] [],
  .ite (.cmp .eq (.ix (.var 0) (.con (.int 0))) (.con (.str [100, 111]))) [.ret (.and (.cmp .eq (.bi .len [(.var 0)]) (.con (.int 3))) (.and (.call 13 [(.ix (.var 0) (.con (.int 1))), (.con (.int 1))] [] [0, 1]) (.call 13 [(.ix (.var 0) (.con (.int 2))), (.con (.int 0))] [] [0, 1])))] [],
  .ite (.cmp .eq (.ix (.var 0) (.con (.int 0))) (.con (.str [108, 111, 111, 112]))) [.ret (.cmp .eq (.bi .len [(.var 0)]) (.con (.int 2)))] [],
  .ite (.cmp .eq (.ix (.var 0) (.con (.int 0))) (.con (.str [114, 111, 119]))) [.ret (.and (.cmp .eq (.bi .len [(.var 0)]) (.con (.int 2))) (.and (.isi (.ix (.var 0) (.con (.int 1))) [.tuple]) (.chn .le .le (.con (.int 1)) (.bi .len [(.ix (.var 0) (.con (.int 1)))]) (.glb 3))))] [],
  .ite (.cmp .eq (.ix (.var 0) (.con (.int 0))) (.con (.str [99, 104, 111, 111, 115, 101]))) [.ret (.and (.cmp .eq (.bi .len [(.var 0)]) (.con (.int 2))) (.and (.isi (.ix (.var 0) (.con (.int 1))) [.tuple]) (.chn .le .le (.con (.int 2)) (.bi .len [(.ix (.var 0) (.con (.int 1)))]) (.glb 4))))] [],
  .ret (.con (.bl false))]
def i14 : FnI := ⟨"has_form", ["node"], false, none, "has_form"⟩
def d14 : Dr := ⟨i14, ["node"], top 14, b14⟩
/-- can_end -/
def c15_0 : E := (.call 15 [(.var 1)] [] [0])
def b15 : List S := [.ite (.cmp .eq (.ix (.var 0) (.con (.int 0))) (.con (.str [114, 111, 119]))) [.ret (.call 15 [(.ix (.ix (.var 0) (.con (.int 1))) (.neg (.con (.int 1))))] [] [0])] [],
  .ite (.cmp .eq (.ix (.var 0) (.con (.int 0))) (.con (.str [99, 104, 111, 111, 115, 101]))) [.ret (.bi .any [(.lc [1] (.ix (.var 0) (.con (.int 1))) none c15_0)])] [],
  .ret (.cmp .eq (.ix (.var 0) (.con (.int 0))) (.con (.str [100, 111])))]
def i15 : FnI := ⟨"can_end", ["node"], false, none, "can_end"⟩
def d15 : Dr := ⟨i15, ["node", "part"], top 16, b15⟩
/-- wrong_node -/
def l16_0 : List S := [.asg [7, 2] (.call 16 [(.var 5), (.bin .add (.var 1) (.tup [(.var 4)])), (.var 2)] [] [0, 1, 2]), .ite (.cmp .isn (.var 7) (.con .non)) [.ret (.tup [(.var 7), (.var 2)])] [], .asg [6] (.or (.cmp .eq (.ix (.var 0) (.con (.int 0))) (.con (.str [108, 111, 111, 112]))) (.and (.cmp .eq (.ix (.var 0) (.con (.int 0))) (.con (.str [114, 111, 119]))) (.cmp .lt (.var 4) (.bin .sub (.bi .len [(.var 3)]) (.con (.int 1)))))), .ite (.and (.var 6) (.not (.call 15 [(.var 5)] [] [0]))) [.ret (.tup [(.bin .add (.var 1) (.tup [(.var 4)])), (.var 2)])] []]
def b16 : List S := [.ite (.or (.cmp .ge (.bi .len [(.var 1)]) (.glb 5)) (.not (.call 14 [(.var 0)] [] [0]))) [.ret (.tup [(.var 1), (.var 2)])] [],
  .ite (.cmp .eq (.ix (.var 0) (.con (.int 0))) (.con (.str [100, 111]))) [.ret (.ite (.cmp .ge (.var 2) (.glb 6)) (.tup [(.var 1), (.var 2)]) (.tup [(.con .non), (.bin .add (.var 2) (.con (.int 1)))]))] [],
  .asg [3] (.call 11 [(.var 0)] [] [0]),
  .forr [4, 5] (.enu (.var 3)) l16_0 [4, 5, 6, 7],
  .ret (.tup [(.con .non), (.var 2)])]
def i16 : FnI := ⟨"wrong_node", ["node", "path", "dos"], false, none, "wrong_node"⟩
def d16 : Dr := ⟨i16, ["node", "path", "dos", "parts", "at", "part", "must_end", "found"], top 17, b16⟩
/-- need_program -/
def b17 : List S := [.asg [1] (.ix (.call 16 [(.var 0), (.tup []), (.con (.int 0))] [] [0, 1, 2]) (.con (.int 0))),
  .ite (.cmp .isn (.var 1) (.con .non)) [.raise_] []]
def i17 : FnI := ⟨"need_program", ["thing"], false, none, "need_program"⟩
def d17 : Dr := ⟨i17, ["thing", "path"], top 18, b17⟩
/-- _law_open -/
def c18_0 : E := (.bin .add (.tup [(.var 5)]) (.sl (.var 4) (some (.con (.int 1))) none))
def l18_0 : List S := [.ite (.cmp .eq (.var 2) (.lst [])) [.frz 1, .ret (.var 1)] [], .asg [4] (.ix (.var 2) (.con (.int 0))), .asg [2] (.sl (.var 2) (some (.con (.int 1))) none), .ite (.and (.cmp .ne (.var 4) (.tup [])) (.cmp .eq (.ix (.ix (.var 4) (.con (.int 0))) (.con (.int 0))) (.con (.str [100, 111])))) [.app 1 (.tup [(.ix (.ix (.var 4) (.con (.int 0))) (.con (.int 1))), (.ix (.ix (.var 4) (.con (.int 0))) (.con (.int 2))), (.sl (.var 4) (some (.con (.int 1))) none)])] [.ite (.and (.cmp .ne (.var 4) (.tup [])) (.cmp .eq (.ix (.ix (.var 4) (.con (.int 0))) (.con (.int 0))) (.con (.str [114, 111, 119])))) [.asg [2] (.bin .add (.lst [(.bin .add (.ix (.ix (.var 4) (.con (.int 0))) (.con (.int 1))) (.sl (.var 4) (some (.con (.int 1))) none))]) (.var 2))] [.ite (.and (.cmp .ne (.var 4) (.tup [])) (.cmp .eq (.ix (.ix (.var 4) (.con (.int 0))) (.con (.int 0))) (.con (.str [108, 111, 111, 112])))) [.asg [2] (.bin .add (.lst [(.bin .add (.tup [(.ix (.ix (.var 4) (.con (.int 0))) (.con (.int 1))), (.ix (.var 4) (.con (.int 0)))]) (.sl (.var 4) (some (.con (.int 1))) none))]) (.var 2))] [.ite (.and (.cmp .ne (.var 4) (.tup [])) (.cmp .eq (.ix (.ix (.var 4) (.con (.int 0))) (.con (.int 0))) (.con (.str [99, 104, 111, 111, 115, 101])))) [.asg [2] (.bin .add (.lc [5] (.ix (.ix (.var 4) (.con (.int 0))) (.con (.int 1))) none c18_0) (.var 2))] []]]]]
def b18 : List S := [.own 1 (.lst []),
  .asg [2] (.lst [(.bi .tuple [(.var 0)])]),
  .forr [3] (.rng1 (.con (.int 9000))) l18_0 [3, 4],
  .frz 1,
  .ret (.var 1)]
def i18 : FnI := ⟨"_law_open", ["_law_left"], false, none, "_law_open"⟩
def d18 : Dr := ⟨i18, ["_law_left", "_law_found", "_law_todo", "_law_k", "_law_now", "_law_part"], top 32, b18⟩
/-- openings -/
def l19_0 : List S := [.own 1 (.lop .add (.ovar 1) (.call 19 [(.bin .add (.tup [(.var 4)]) (.var 3))] [] [0]))]
def b19 : List S := [.ite (.cmp .eq (.bi .len [(.var 0)]) (.con (.int 0))) [.ret (.lst [])] [],
  .par 2 3 (.ix (.var 0) (.con (.int 0))) (.bi .tuple [(.sl (.var 0) (some (.con (.int 1))) none)]),
  .ite (.cmp .eq (.ix (.var 2) (.con (.int 0))) (.con (.str [100, 111]))) [.ret (.lst [(.tup [(.ix (.var 2) (.con (.int 1))), (.ix (.var 2) (.con (.int 2))), (.var 3)])])] [],
  .ite (.cmp .eq (.ix (.var 2) (.con (.int 0))) (.con (.str [114, 111, 119]))) [.ret (.call 19 [(.bin .add (.ix (.var 2) (.con (.int 1))) (.var 3))] [] [0])] [],
  .ite (.cmp .eq (.ix (.var 2) (.con (.int 0))) (.con (.str [108, 111, 111, 112]))) [.ret (.call 19 [(.bin .add (.tup [(.ix (.var 2) (.con (.int 1))), (.var 2)]) (.var 3))] [] [0])] [],
  .own 1 (.lst []),
  .ite (.cmp .eq (.ix (.var 2) (.con (.int 0))) (.con (.str [99, 104, 111, 111, 115, 101]))) [.forr [4] (.ix (.var 2) (.con (.int 1))) l19_0 [4]] [],
  .ret (.ovar 1)]
def i19 : FnI := ⟨"openings", ["rest"], true, none, "openings"⟩
def d19 : Dr := ⟨i19, ["rest", "found", "node", "behind", "part"], top 19, b19⟩
/-- _law_same -/
def c20_0 : E := (.call 20 [(.ix (.var 0) (.var 3)), (.ix (.var 1) (.var 3))] [] [0, 1])
def b20 : List S := [.ite (.or (.cmp .is_ (.var 1) (.con .non)) (.cmp .is_ (.var 0) (.con .non))) [.ret (.and (.cmp .is_ (.var 1) (.con .non)) (.cmp .is_ (.var 0) (.con .non)))] [],
  .ite (.or (.isi (.var 1) [.bool]) (.isi (.var 0) [.bool])) [.ret (.and (.isi (.var 1) [.bool]) (.and (.isi (.var 0) [.bool]) (.cmp .eq (.var 0) (.var 1))))] [],
  .ite (.or (.and (.isi (.var 1) [.int]) (.isi (.var 0) [.int])) (.and (.isi (.var 1) [.str]) (.isi (.var 0) [.str]))) [.ret (.cmp .eq (.var 0) (.var 1))] [],
  .asg [2] (.and (.isi (.var 1) [.list]) (.isi (.var 0) [.list])),
  .ite (.and (.not (.var 2)) (.not (.and (.isi (.var 1) [.tuple]) (.isi (.var 0) [.tuple])))) [.ret (.con (.bl false))] [],
  .ite (.cmp .ne (.bi .len [(.var 0)]) (.bi .len [(.var 1)])) [.ret (.con (.bl false))] [],
  .ret (.bi .all [(.lc [3] (.rng1 (.bi .len [(.var 1)])) none c20_0)])]
def i20 : FnI := ⟨"_law_same", ["_law_actual", "_law_due"], false, none, "_law_same"⟩
def d20 : Dr := ⟨i20, ["_law_actual", "_law_due", "_law_is_list", "_law_at"], top 33, b20⟩
/-- law -/
def l21_0 : List S := [.ite (.cmp .nin (.var 12) (.ovar 6)) [.app 6 (.var 12)] []]
def l21_1 : List S := [.ite (.cmp .lt (.var 7) (.bi .len [(.ovar 6)])) [.asg [8] (.call 18 [(.ix (.ovar 6) (.var 7))] [] [0]), .asg [9] (.sto (.call 19 [] [(.ix (.ovar 6) (.var 7))] [0])), .ite (.or (.not (.call 20 [(.var 9), (.var 8)] [] [0, 1])) (.cmp .gt (.bi .len [(.var 9)]) (.var 5))) [.ret (.con (.bl false))] [], .forr [10, 11, 12] (.bi .list [(.var 9)]) l21_0 [10, 11, 12], .lapp (.var 9) (.con .non), .ite (.not (.call 20 [(.call 19 [(.ix (.ovar 6) (.var 7))] [] [0]), (.var 8)] [] [0, 1])) [.ret (.con (.bl false))] []] []]
def b21 : List S := [.asg [1] (.call 0 [(.var 0)] [] [0]),
  .asg [2] (.call 3 [(.var 1), (.bin .add (.con (.int 1)) (.call 1 [(.var 1), (.con (.int 3))] [] [0, 1])), (.lst [])] [] [0, 1, 2]),
  .asg [3] (.call 3 [(.var 1), (.call 1 [(.var 1), (.con (.int 4))] [] [0, 1]), (.var 2)] [] [0, 1, 2]),
  .asg [4] (.call 10 [(.var 1), (.var 2), (.var 3), (.bin .add (.con (.int 2)) (.call 1 [(.var 1), (.con (.int 5))] [] [0, 1])), (.bin .add (.con (.int 1)) (.call 1 [(.var 1), (.con (.int 10))] [] [0, 1]))] [] [0, 1, 2, 3, 4]),
  .asg [5] (.bi .len [(.call 9 [(.var 4)] [] [0])]),
  .ite (.cmp .isn (.call 17 [] [(.var 4)] [0]) (.con .non)) [.ret (.con (.bl false))] [],
  .own 6 (.lst [(.tup [(.var 4)])]),
  .forr [7] (.rng1 (.con (.int 18))) l21_1 [7, 8, 9, 10, 11, 12],
  .ret (.cmp .le (.bi .len [(.ovar 6)]) (.bin .add (.var 5) (.con (.int 1))))]
def i21 : FnI := ⟨"law", ["_law_script"], false, none, "law"⟩
def d21 : Dr := ⟨i21, ["_law_script", "_law_state", "_law_ins", "_law_outs", "_law_program_here", "_law_many", "_law_rests", "_law_k", "_law_due", "_law_told", "_law_burst", "_law_flips", "_law_behind"], top 34, b21⟩
def drs : List Dr := [d0, d1, d2, d3, d4, d5, d6, d7, d8, d9, d10, d11, d12, d13, d14, d15, d16, d17, d18, d19, d20, d21]
def gls : List Str := ["FIRST", "MOST_SIGNS", "DIGITS", "MOST_PARTS", "MOST_CHOICES", "MOST_DEEP", "MOST_DOS"]
def gl : Nat → Option D
  | 0 => some (.str [97, 98, 99, 100, 101, 102, 103, 104, 105, 106, 107, 108, 109, 110, 111, 112, 113, 114, 115, 116, 117, 118, 119, 120, 121, 122])
  | 1 => some (.int 8)
  | 2 => some (.str [48, 49, 50, 51, 52, 53, 54, 55, 56, 57])
  | 3 => some (.int 8)
  | 4 => some (.int 4)
  | 5 => some (.int 6)
  | 6 => some (.int 16)
  | _ => none
def shs : List Sh := [⟨1, 2, [], [0, 1]⟩,
  ⟨2, 2, [], [0, 1]⟩,
  ⟨4, 2, [], [0, 1]⟩,
  ⟨5, 2, [], [0, 1]⟩,
  ⟨7, 6, [], [0, 1, 2, 3, 4, 5]⟩,
  ⟨6, 3, [], [0, 1, 2]⟩,
  ⟨9, 1, [], [0]⟩,
  ⟨8, 1, [], [0]⟩,
  ⟨12, 1, [], [0]⟩,
  ⟨13, 2, [], [0, 1]⟩,
  ⟨15, 1, [], [0]⟩,
  ⟨14, 1, [], [0]⟩,
  ⟨11, 1, [], [0]⟩,
  ⟨16, 3, [], [0, 1, 2]⟩,
  ⟨19, 1, [], [0]⟩,
  ⟨20, 2, [], [0, 1]⟩,
  ⟨0, 1, [], [0]⟩,
  ⟨3, 3, [], [0, 1, 2]⟩,
  ⟨10, 5, [], [0, 1, 2, 3, 4]⟩,
  ⟨17, 0, ["thing"], [0]⟩,
  ⟨18, 1, [], [0]⟩,
  ⟨19, 0, ["rest"], [0]⟩]
def xcs : List (Nat × List Nat) := []
def ocs : List (Nat × List Nat) := []
def fns : List Fn := drs.map Dr.fn
end Bs.K45
namespace Bs.K45
theorem chk_ok : drs.all (Dr.ok (drs.map (·.I)) gls shs xcs ocs) = true := by decide +kernel
end Bs.K45
namespace Bs.K45
open Bs

abbrev cl (k : Nat) := call gl fns k
theorem draw_k (k : Nat) {p q : Nat} {m : Int} {μ : Sto} (h : Sc p q μ) (hm : 0 < m) (hm2 : m < 1073741824) : ∃ r μ', cl (k + 1) 1 [.loc p, .int m] μ = .ok (.int r) μ' ∧ 0 ≤ r ∧ r < m ∧ Sc p q μ' ∧ Frm [p, q] μ μ' := drawC_s gl (cl k) h hm hm2
theorem start_k (k : Nat) (ns : List Int) (hl : ns.length ≤ 63) (μ : Sto) : (cl (k + 1) 0 [.lst (ns.map D.int)] μ).All (fun d μ' => ∃ p q, d = .loc p ∧ Sc p q μ' ∧ Frm [] μ μ') Wn := startC_s gl (cl k) ns hl μ
theorem pick_str {s : List Nat} {r : Int} (h0 : 0 ≤ r) (h1 : r < s.length) (μ : Sto) : ∃ c, c ∈ s ∧ ixR (.str s) (.int r) μ = .ok (.str [c]) μ := by
  obtain ⟨j, rfl⟩ := Int.eq_ofNat_of_zero_le h0
  have hj : j < s.length := by omega
  exact ⟨_, List.getElem_mem hj, ix_str (List.getElem?_eq_getElem hj) μ⟩
theorem pick_lst {xs : List D} {r : Int} (h0 : 0 ≤ r) (h1 : r < xs.length) (μ : Sto) : ∃ d, d ∈ xs ∧ ixR (.lst xs) (.int r) μ = .ok d μ := by
  obtain ⟨j, rfl⟩ := Int.eq_ofNat_of_zero_le h0
  have hj : j < xs.length := by omega
  refine ⟨xs[j], List.getElem_mem hj, ?_⟩
  have h2 : (j : Int) < xs.length := by omega
  simp [ixR, deref, index, L2.atI, L2.ixN, h2, hj]
abbrev L26 : List Nat := [97, 98, 99, 100, 101, 102, 103, 104, 105, 106, 107, 108, 109, 110, 111, 112, 113, 114, 115, 116, 117, 118, 119, 120, 121, 122]
/-! ### names -/
abbrev Dg : List Nat := [48, 49, 50, 51, 52, 53, 54, 55, 56, 57]
theorem name_l0 (k : Nat) {p q : Nat} (T Z : Sl) : ∀ (xs : List D) (w : List Nat) (μ : Sto), Sc p q μ → w.length + xs.length ≤ 1000 → ∃ t μ', t.length = xs.length ∧ (∀ c ∈ t, c ∈ L26 ++ Dg) ∧ Sc p q μ' ∧ Frm [p, q] μ μ' ∧
    forL (turn gl (cl (k + 1)) [5] l2_0) [5] xs [.val (.loc p), T, .val (.str L26), .val (.str w), Z, .un, .un] μ = .ok (.nx [.val (.loc p), T, .val (.str L26), .val (.str (w ++ t)), Z, .un, .un]) μ'
  | [], w, μ, hs, _ => ⟨[], μ, rfl, by simp, hs, .refl, by simp⟩
  | x :: xs, w, μ, hs, hl => by
    rw [List.length_cons] at hl
    obtain ⟨r, μ1, e, r0, r1, s1, f1⟩ := draw_k k hs (m := 36) (by decide) (by decide)
    obtain ⟨c, mc, ec⟩ := pick_str (s := L26 ++ Dg) r0 (by simpa using r1) μ1
    obtain ⟨t, μ', lw, mt, s', f', e'⟩ := name_l0 k T Z xs (w ++ [c]) μ1 s1 (by simp; omega)
    refine ⟨c :: t, μ', by simp [lw], fun d hd => ?_, s', f1.trans f', ?_⟩
    · rcases List.mem_cons.mp hd with rfl | hd
      · exact mc
      · exact mt d hd
    have a1 := v_adds w [c] (by simp; omega)
    have a0 := v_adds L26 Dg (by decide)
    have et : turn gl (cl (k + 1)) [5] l2_0 x [.val (.loc p), T, .val (.str L26), .val (.str w), Z, .un, .un] μ = .ok (.nx [.val (.loc p), T, .val (.str L26), .val (.str (w ++ [c])), Z, .val x, .un]) μ1 := by
      simp only [List.cons_append, List.nil_append] at ec a0
      simp [turn, l2_0, a0, e, ec, a1]
    rw [forL_cons, et]
    rw [List.append_assoc, List.singleton_append] at e'
    simpa using e'
theorem name_l1 (k : Nat) {p : Nat} (Z : Sl) (ts : List (List Nat)) (μ : Sto) (t : List Nat) (ht : t.length ≤ 100) : ∀ (cs : List Nat) (h : Nat), (∀ c ∈ cs, c ∈ L26) → h ∈ L26 → ∃ h', h' ∈ L26 ∧ ((h' :: t) ∉ ts ∨ ((h :: t) ∈ ts ∧ ∀ c ∈ cs, (c :: t) ∈ ts)) ∧
    forL (turn gl (cl k) [6] l2_1) [6] (chars cs) [.val (.loc p), .val (.lst (SL ts)), .val (.str L26), .val (.str (h :: t)), Z, .un, .un] μ = .ok (.nx [.val (.loc p), .val (.lst (SL ts)), .val (.str L26), .val (.str (h' :: t)), Z, .un, .un]) μ
  | [], h, _, hh => ⟨h, hh, by
      by_cases e : (h :: t) ∈ ts
      · exact .inr ⟨e, fun c hc => by cases hc⟩
      · exact .inl e, by simp [chars]⟩
  | c :: cs, h, hcs, hh => by
    have hin := in_SL (h :: t) ts
    by_cases e : (h :: t) ∈ ts
    · have hc : cut (h :: t) (some 1) none = t := cut_tl (h :: t)
      obtain ⟨h', m', d', e'⟩ := name_l1 k Z ts μ t ht cs c (fun d hd => hcs d (List.mem_cons_of_mem _ hd)) (hcs c List.mem_cons_self)
      refine ⟨h', m', ?_, ?_⟩
      · rcases d' with d' | ⟨d1, d2⟩
        · exact .inl d'
        · refine .inr ⟨e, fun d hd => ?_⟩
          rcases List.mem_cons.mp hd with rfl | hd
          · exact d1
          · exact d2 d hd
      have a1 := v_adds [c] t (by simp; omega)
      have hsl : slice (.str (h :: t)) (some 1) none = some (.str t) := by simp only [slice, hc]
      have et : turn gl (cl k) [6] l2_1 (.str [c]) [.val (.loc p), .val (.lst (SL ts)), .val (.str L26), .val (.str (h :: t)), Z, .un, .un] μ = .ok (.nx [.val (.loc p), .val (.lst (SL ts)), .val (.str L26), .val (.str (c :: t)), Z, .un, .val (.str [c])]) μ := by
        simp only [List.cons_append, List.nil_append] at a1
        simp [turn, l2_1, hin, e, hsl, intR, a1]
      show forL _ _ (.str [c] :: chars cs) _ _ = _
      rw [forL_cons, et]
      simpa using e'
    · obtain ⟨h', m', d', e'⟩ := name_l1 k Z ts μ t ht cs h (fun d hd => hcs d (List.mem_cons_of_mem _ hd)) hh
      refine ⟨h', m', ?_, ?_⟩
      · rcases d' with d' | ⟨d1, d2⟩
        · exact .inl d'
        · exact absurd d1 e
      have et : turn gl (cl k) [6] l2_1 (.str [c]) [.val (.loc p), .val (.lst (SL ts)), .val (.str L26), .val (.str (h :: t)), Z, .un, .un] μ = .ok (.nx [.val (.loc p), .val (.lst (SL ts)), .val (.str L26), .val (.str (h :: t)), Z, .un, .val (.str [c])]) μ := by
        simp [turn, l2_1, hin, e]
      show forL _ _ (.str [c] :: chars cs) _ _ = _
      rw [forL_cons, et]
      simpa using e'
theorem nmW_ok {h : Nat} {t : List Nat} (hh : h ∈ L26) (lt : t.length ≤ 7) (ht : ∀ c ∈ t, c ∈ L26 ++ Dg) : nmW (h :: t) = true := by
  have h1 : (h :: t).length ≤ 8 := by simp; omega
  have h2 : 1 ≤ (h :: t).length := by simp
  have h3 : A26.contains h = true := List.contains_iff_mem.mpr hh
  have h4 : (h :: t).all (fun c => (A26 ++ D10).contains c) = true := by
    rw [List.all_eq_true]
    intro c hc
    rw [List.contains_iff_mem]
    rcases List.mem_cons.mp hc with rfl | hc
    · exact List.mem_append.mpr (.inl hh)
    · exact ht c hc
  unfold nmW
  rw [decide_eq_true h1, decide_eq_true h2, List.headD_cons, h3, h4]; rfl
theorem name_s (k : Nat) {p q : Nat} {μ : Sto} (ts : List (List Nat)) (hts : ts.length ≤ 20) (hs : Sc p q μ) : ∃ w μ', cl (k + 2) 2 [.loc p, .lst (SL ts)] μ = .ok (.str w) μ' ∧ nmW w = true ∧ w ∉ ts ∧ Sc p q μ' ∧ Frm [p, q] μ μ' := by
  obtain ⟨r, μ1, e1, r0, r1, s1, f1⟩ := draw_k k hs (m := 26) (by decide) (by decide)
  obtain ⟨c, mc, ec⟩ := pick_str (s := L26) r0 (by simpa using r1) μ1
  obtain ⟨r2, μ2, e2, r20, r21, s2, f2⟩ := draw_k k s1 (m := 3) (by decide) (by decide)
  have key : ∀ (z : Int) (μ3 : Sto), 0 ≤ z → z < 8 → Sc p q μ3 → Frm [p, q] μ μ3 → ∃ w μ', (xSs gl (cl (k + 1)) [.forr [5] (.rng1 (.var 4)) l2_0 [5], .forr [6] (.var 2) l2_1 [6], .ret (.var 3)] [.val (.loc p), .val (.lst (SL ts)), .val (.str L26), .val (.str [c]), .val (.int z), .un, .un] μ3).bind (outF false) = .ok (.str w) μ' ∧ nmW w = true ∧ w ∉ ts ∧ Sc p q μ' ∧ Frm [p, q] μ μ' := by
    intro z μ3 z0 z8 s3 f3
    obtain ⟨zn, rfl⟩ := Int.eq_ofNat_of_zero_le z0
    have hr := rng_nat (n := zn) (by omega)
    have hll : (rangeL 0 (zn : Int)).length = zn := by simp [rangeL]
    obtain ⟨t, μ4, l1, mt, s4, f4, e4⟩ := name_l0 k (p := p) (q := q) (.val (.lst (SL ts))) (.val (.int zn)) (rangeL 0 zn) [c] μ3 s3 (by rw [hll]; simp; omega)
    rw [hll] at l1
    obtain ⟨h', m', d', e5⟩ := name_l1 (k + 1) (p := p) (.val (.int zn)) ts μ4 t (by omega) L26 c (fun _ h => h) mc
    refine ⟨h' :: t, μ4, ?_, nmW_ok m' (by omega) mt, ?_, s4, f3.trans f4⟩
    · rw [List.singleton_append] at e4
      simp [hr, e4, e5]
    · rcases d' with d' | ⟨_, d2⟩
      · exact d'
      · have := nd_len (L26.map (· :: t)) ts (List.Pairwise.map (· :: t) (fun a b hne e => hne (by injection e)) (show L26.Nodup by decide)) (fun x hx => by
          obtain ⟨c, hc, rfl⟩ := List.mem_map.mp hx
          exact d2 c hc)
        simp at this
        omega
  show ∃ w μ', (xSs gl (cl (k + 1)) b2 [.val (.loc p), .val (.lst (SL ts)), .un, .un, .un, .un, .un] μ).bind (outF false) = .ok (.str w) μ' ∧ _
  by_cases h0 : r2 = 0
  · obtain ⟨r3, μ3, e3, r30, r31, s3, f3⟩ := draw_k k s2 (m := 8) (by decide) (by decide)
    obtain ⟨w, μ', e, hw⟩ := key r3 μ3 r30 r31 s3 (f1.trans (f2.trans f3))
    refine ⟨w, μ', ?_, hw⟩
    rw [← e]
    simp [b2, e1, ec, e2, h0, e3]
  · obtain ⟨w, μ', e, hw⟩ := key 0 μ2 (by decide) (by decide) s2 (f1.trans f2)
    refine ⟨w, μ', ?_, hw⟩
    rw [← e]
    simp [b2, e1, ec, e2, h0]
theorem nmsOk_app {ws : List (List Nat)} {w : List Nat} (h : nmsOk ws) (h1 : nmW w = true) (h2 : w ∉ ws) : nmsOk (ws ++ [w]) := by
  refine ⟨fun v hv => ?_, ?_⟩
  · rw [List.mem_append, List.mem_singleton] at hv
    rcases hv with hv | rfl
    · exact h.1 v hv
    · exact h1
  · rw [List.nodup_append]
    exact ⟨h.2, by simp, fun a ha b hb e => by rw [List.mem_singleton] at hb; rw [hb] at e; exact h2 (e ▸ ha)⟩
theorem names_l (k : Nat) {p q : Nat} (M : Sl) (ts : List (List Nat)) : ∀ (xs : List D) (ws : List (List Nat)) (μ : Sto), Sc p q μ → ts.length + ws.length + xs.length ≤ 20 → nmsOk ws → ∃ ws' μ', ws'.length = ws.length + xs.length ∧ nmsOk ws' ∧ Sc p q μ' ∧ Frm [p, q] μ μ' ∧
    forL (turn gl (cl (k + 2)) [4] l3_0) [4] xs [.val (.loc p), M, .val (.lst (SL ts)), .own (.lst (SL ws)), .un] μ = .ok (.nx [.val (.loc p), M, .val (.lst (SL ts)), .own (.lst (SL ws')), .un]) μ'
  | [], ws, μ, hs, _, hw => ⟨ws, μ, by simp, hw, hs, .refl, by simp⟩
  | x :: xs, ws, μ, hs, hl, hw => by
    rw [List.length_cons] at hl
    obtain ⟨w, μ1, e, lw, nw, s1, f1⟩ := name_s k (ts ++ ws) (by rw [List.length_append]; omega) hs
    rw [List.mem_append, not_or] at nw
    obtain ⟨ws', μ', l', w', s', f', e'⟩ := names_l k M ts xs (ws ++ [w]) μ1 s1 (by simp; omega) (nmsOk_app hw lw nw.2)
    refine ⟨ws', μ', by rw [l']; simp; omega, w', s', f1.trans f', ?_⟩
    have a1 : binop .add (.lst (SL ts)) (.lst (SL ws)) = some (.lst (SL (ts ++ ws))) := by
      have : (SL ts).length + (SL ws).length ≤ 1000000 := by simp; omega
      simp only [binop, this, if_true, SL, List.map_append]
    have hlen : (SL ws).length < 1000000 := by simp; omega
    have et : turn gl (cl (k + 2)) [4] l3_0 x [.val (.loc p), M, .val (.lst (SL ts)), .own (.lst (SL ws)), .un] μ = .ok (.nx [.val (.loc p), M, .val (.lst (SL ts)), .own (.lst (SL (ws ++ [w]))), .val x]) μ1 := by
      simp only [turn, l3_0, v_setT, List.set_cons_succ, List.set_cons_zero, v_ss1, v_ss0, v_app, List.getElem?_cons_succ, List.getElem?_cons_zero, v_call, v_es1, v_es0, v_var, v_bin, v_bi, v_ovar, builtin, bi1, orO_some, bind_ok, a1, List.append_nil, v_arr2, e, back_ok, hlen, if_true]
      simp [SL]
    rw [forL_cons, et]
    simpa using e'
theorem names_s (k : Nat) {p q : Nat} {μ : Sto} (m : Nat) (ts : List (List Nat)) (ht : ts.length + m ≤ 20) (hs : Sc p q μ) : ∃ ws μ', cl (k + 3) 3 [.loc p, .int m, .lst (SL ts)] μ = .ok (.lst (SL ws)) μ' ∧ ws.length = m ∧ nmsOk ws ∧ Sc p q μ' ∧ Frm [p, q] μ μ' := by
  have hr := rng_nat (n := m) (by omega)
  have hll : (rangeL 0 (m : Int)).length = m := by simp [rangeL]
  obtain ⟨ws, μ', l', w', s', f', e'⟩ := names_l k (.val (.int m)) ts (rangeL 0 m) [] μ hs (by rw [hll]; simp; omega) ⟨fun v hv => (List.not_mem_nil hv).elim, List.nodup_nil⟩
  refine ⟨ws, μ', ?_, by rw [l', hll]; simp, w', s', f'⟩
  show (xSs gl (cl (k + 2)) b3 [.val (.loc p), .val (.int m), .val (.lst (SL ts)), .un, .un] μ).bind (outF false) = _
  simp only [SL, List.map_nil] at e'
  simp [b3, hr, e']
/-! ### some of a list, in any order -/
theorem some_l (k : Nat) {p q : Nat} (γ : Ga) (hγ : γ.length = 3) (h0 : γ[0]? = some (.val (.loc p))) : ∀ (ns acc : List (List Nat)) (μ : Sto), Sc p q μ → acc.length + ns.length ≤ 1000 → ∃ ws μ', ws.Sublist ns ∧ Sc p q μ' ∧ Frm [p, q] μ μ' ∧
    lcL (turnC gl (cl (k + 1)) γ [2] (some q5_0) c5_0) (SL ns) (SL acc) μ = .ok (SL (acc ++ ws)) μ'
  | [], acc, μ, hs, _ => ⟨[], μ, .slnil, hs, .refl, by simp [lcL]⟩
  | n :: ns, acc, μ, hs, hl => by
    rw [List.length_cons] at hl
    obtain ⟨r, μ1, e, r0, r1, s1, f1⟩ := draw_k k hs (m := 2) (by decide) (by decide)
    have g0 : (γ.set 2 (.val (.str n)))[0]? = some (.val (.loc p)) := by rw [List.getElem?_set_ne (by decide)]; exact h0
    have g2 : (γ.set 2 (.val (.str n)))[2]? = some (.val (.str n)) := List.getElem?_set_self (by rw [hγ]; decide)
    have hla : (SL acc).length < 1000000 := by simp; omega
    have et : turnC gl (cl (k + 1)) γ [2] (some q5_0) c5_0 (.str n) (SL acc) μ = .ok (if r = 1 then SL (acc ++ [n]) else SL acc) μ1 := by
      unfold turnC setTR q5_0 c5_0
      simp only [v_wipe1, v_wipe0, v_setT, List.set_set, v_c1, v_cmp, v_call, v_es1, v_es0, v_var, v_con, g0, bind_ok, List.append_nil, v_arr2, e, back_ok, v_eqii, orO_some, v_tbl, g2]
      by_cases h : r = 1
      · simp only [h, decide_true, if_true, addL, hla]
        simp [SL]
      · simp [h]
    by_cases h : r = 1
    · obtain ⟨ws, μ', l', s', f', e'⟩ := some_l k γ hγ h0 ns (acc ++ [n]) μ1 s1 (by simp; omega)
      refine ⟨n :: ws, μ', .cons_cons _ l', s', f1.trans f', ?_⟩
      · show lcL _ (.str n :: SL ns) _ _ = _
        unfold lcL
        rw [et, if_pos h]
        simp only [bind_ok]
        rw [e', List.append_assoc]; rfl
    · obtain ⟨ws, μ', l', s', f', e'⟩ := some_l k γ hγ h0 ns acc μ1 s1 (by omega)
      refine ⟨ws, μ', .cons _ l', s', f1.trans f', ?_⟩
      show lcL _ (.str n :: SL ns) _ _ = _
      unfold lcL
      rw [et, if_neg h]
      simp only [bind_ok]
      exact e'
theorem some_s (k : Nat) {p q : Nat} {μ : Sto} (ns : List (List Nat)) (hn : ns.length ≤ 100) (hs : Sc p q μ) : ∃ ws μ', cl (k + 2) 5 [.loc p, .lst (SL ns)] μ = .ok (.lst (SL ws)) μ' ∧ ws.Sublist ns ∧ Sc p q μ' ∧ Frm [p, q] μ μ' := by
  obtain ⟨ws, μ', l', s', f', e'⟩ := some_l k (p := p) (q := q) [.val (.loc p), .val (.lst (SL ns)), .un] rfl rfl ns [] μ hs (by simp; omega)
  refine ⟨ws, μ', ?_, l', s', f'⟩
  show (xSs gl (cl (k + 1)) b5 [.val (.loc p), .val (.lst (SL ns)), .un] μ).bind (outF false) = _
  simp only [SL, List.map_nil, List.nil_append] at e'
  simp [b5, e']
theorem era_map {α β : Type} (f : α → β) : ∀ (l : List α) (n : Nat), (l.map f).eraseIdx n = (l.eraseIdx n).map f
  | [], _ => by simp
  | a :: l, 0 => by simp
  | a :: l, n + 1 => by simp [era_map f l n]
theorem era_perm : ∀ (l : List (List Nat)) (j : Nat) (h : j < l.length), (l[j] :: l.eraseIdx j).Perm l
  | [], _, h => by simp at h
  | a :: l, 0, _ => List.Perm.refl _
  | a :: l, j + 1, h => (List.Perm.swap _ _ _).trans (List.Perm.cons _ (era_perm l j (by simpa using h)))
theorem shuf_l (k : Nat) {p q r : Nat} (A : Sl) (hp : r ≠ p) (hq : r ≠ q) : ∀ (xs : List D) (rows ws : List (List Nat)) (μ : Sto), Sc p q μ → μ r = some (.lst (SL rows)) → rows.length = xs.length → ws.length + xs.length ≤ 1000 → ∃ ws' μ', ws'.Perm (ws ++ rows) ∧ Sc p q μ' ∧ Frm [p, q, r] μ μ' ∧
    forL (turn gl (cl (k + 1)) [4] l4_0) [4] xs [.val (.loc p), A, .val (.loc r), .own (.lst (SL ws)), .un] μ = .ok (.nx [.val (.loc p), A, .val (.loc r), .own (.lst (SL ws')), .un]) μ'
  | [], rows, ws, μ, hs, _, hl, _ => ⟨ws, μ, by rw [show rows = [] from List.length_eq_zero_iff.mp (by simpa using hl)]; simp, hs, .refl, by simp⟩
  | x :: xs, rows, ws, μ, hs, hr, hl, hw => by
    rw [List.length_cons] at hl hw
    have hpos : (0 : Int) < (SL rows).length := by simp; omega
    obtain ⟨i, μ1, e, i0, i1, s1, f1⟩ := draw_k k hs (m := ((SL rows).length : Nat)) hpos (by simp; omega)
    have hr1 : μ1 r = some (.lst (SL rows)) := by rw [f1 r (by rw [hr]; exact fun z => nomatch z) (by simp [hp, hq])]; exact hr
    obtain ⟨j, rfl⟩ := Int.eq_ofNat_of_zero_le i0
    have hj : j < rows.length := by simp at i1; omega
    have hix : L2.ixN (SL rows).length (j : Int) = some j := by
      have h2 : (j : Int) < ((SL rows).length : Nat) := i1
      simp only [L2.ixN, h2, if_true]
      simp
    have hget : (SL rows)[j]? = some (.str rows[j]) := by simp [hj]
    have her : (SL rows).eraseIdx j = SL (rows.eraseIdx j) := era_map D.str rows j
    have hpop : popR (.loc r) (.int (j : Nat)) μ1 = .ok (.str rows[j]) (μ1.put r (.lst (SL (rows.eraseIdx j)))) := by
      have hll : (SL rows).length ≤ 1000000 := by simp; omega
      simp only [popR, hr1, hll, if_true, hix, hget, her]
    have s2 : Sc p q (μ1.put r (.lst (SL (rows.eraseIdx j)))) := by
      obtain ⟨a, ⟨n, b1, b2⟩, cs, c1, c2, c3⟩ := s1
      exact ⟨a, ⟨n, b1, by rw [put_ne (Ne.symm hp)]; exact b2⟩, cs, c1, c2, by rw [put_ne (Ne.symm hq)]; exact c3⟩
    obtain ⟨ws', μ', w', s', f', e'⟩ := shuf_l k A hp hq xs (rows.eraseIdx j) (ws ++ [rows[j]]) _ s2 (put_same _ _ _) (by rw [List.length_eraseIdx]; simp [hj]; omega) (by simp; omega)
    refine ⟨ws', μ', ?_, s', ((f1.weak (by simp)).trans (Frm.put (.inl (by simp)))).trans f', ?_⟩
    · refine w'.trans ?_
      rw [List.append_assoc]
      exact List.Perm.append_left ws (era_perm rows j hj)
    · have hlen : (SL ws).length < 1000000 := by simp; omega
      have hb : builtin .len [.lst (SL rows)] = some (.int (((SL rows).length : Nat) : Int)) := rfl
      have et : turn gl (cl (k + 1)) [4] l4_0 x [.val (.loc p), A, .val (.loc r), .own (.lst (SL ws)), .un] μ = .ok (.nx [.val (.loc p), A, .val (.loc r), .own (.lst (SL (ws ++ [rows[j]]))), .val x]) (μ1.put r (.lst (SL (rows.eraseIdx j)))) := by
        simp only [turn, l4_0, v_setT, List.set_cons_succ, List.set_cons_zero, v_ss1, v_ss0, v_app, List.getElem?_cons_succ, List.getElem?_cons_zero, v_popl, v_call, v_es1, v_es0, v_var, v_bi, bind_ok, isL_loc hr, if_true, v_lenloc, orO_none, List.map_cons, List.map_nil, dr_loc hr, hb, ofO_s, List.append_nil, v_arr2, e, back_ok, hpop, hlen]
        simp [SL]
      rw [forL_cons, et]
      simpa using e'
theorem shuf_r (k : Nat) {p q r : Nat} {μ : Sto} (ns : List (List Nat)) (hn : ns.length ≤ 100) (hs : Sc p q μ) (hr : μ r = none) : ∃ ws μ', (xSs gl (cl (k + 1)) [.own 3 (.lst []), .forr [4] (.rng1 (.bi .len [(.var 1)])) l4_0 [4], .frz 3, .ret (.var 3)] [.val (.loc p), .val (.lst (SL ns)), .val (.loc r), .un, .un] (μ.put r (.lst (SL ns)))).bind (outF false) = .ok (.lst (SL ws)) μ' ∧ ws.Perm ns ∧ Sc p q μ' ∧ Frm [p, q] μ μ' := by
  have hp : r ≠ p := fun e => by obtain ⟨n, _, h⟩ := hs.st; rw [← e, hr] at h; cases h
  have hq : r ≠ q := fun e => by obtain ⟨n, _, _, h⟩ := hs.ce; rw [← e, hr] at h; cases h
  have s1 : Sc p q (μ.put r (.lst (SL ns))) := by
    obtain ⟨a, ⟨n, b1, b2⟩, cs, c1, c2, c3⟩ := hs
    exact ⟨a, ⟨n, b1, by rw [put_ne (Ne.symm hp)]; exact b2⟩, cs, c1, c2, by rw [put_ne (Ne.symm hq)]; exact c3⟩
  have hrn := rng_nat (n := ns.length) (by omega)
  have hll : (rangeL 0 ((ns.length : Nat) : Int)).length = ns.length := by simp [rangeL]
  obtain ⟨ws, μ', w', s', f', e'⟩ := shuf_l k (.val (.lst (SL ns))) hp hq (rangeL 0 ((ns.length : Nat) : Int)) ns [] (μ.put r (.lst (SL ns))) s1 (put_same _ _ _) hll.symm (by rw [hll, List.length_nil]; omega)
  refine ⟨ws, μ', ?_, by simpa using w', s', fun x hx hm => ?_⟩
  · have hb : builtin .len [.lst (SL ns)] = some (.int ((ns.length : Nat) : Int)) := by simp
    have e0 : (SL []) = ([] : List D) := rfl
    rw [e0] at e'
    simp only [v_ss1, v_ss0, v_own, v_lst, v_es0, v_es1, bind_ok, List.set_cons_succ, List.set_cons_zero, v_for, v_rng1, v_bi, v_var, List.getElem?_cons_succ, List.getElem?_cons_zero, hb, orO_some, hrn, ofO_s, v_il, e', v_frz, v_ret, v_out1]
  · have hxr : x ≠ r := fun e => hx (by rw [e]; exact hr)
    have hx1 : (μ.put r (.lst (SL ns))) x = μ x := put_ne hxr
    rw [f' x (by rw [hx1]; exact hx) (by simp at hm; simp [hm, hxr]), hx1]
theorem shuf_s (k : Nat) {p q : Nat} {μ : Sto} (ns : List (List Nat)) (hn : ns.length ≤ 100) (hs : Sc p q μ) : (cl (k + 2) 4 [.loc p, .lst (SL ns)] μ).All (fun d μ' => (∃ ws, d = .lst (SL ws) ∧ ws.Perm ns) ∧ Sc p q μ' ∧ Frm [p, q] μ μ') Wn := by
  have key := fun r hr => shuf_r k (r := r) ns hn hs hr
  have e : cl (k + 2) 4 [.loc p, .lst (SL ns)] μ = .any (fun r => μ r = none) fun r => (xSs gl (cl (k + 1)) [.own 3 (.lst []), .forr [4] (.rng1 (.bi .len [(.var 1)])) l4_0 [4], .frz 3, .ret (.var 3)] [.val (.loc p), .val (.lst (SL ns)), .val (.loc r), .un, .un] (μ.put r (.lst (SL ns)))).bind (outF false) := by
    show (xSs gl (cl (k + 1)) b4 [.val (.loc p), .val (.lst (SL ns)), .un, .un, .un] μ).bind (outF false) = _
    rw [b4, v_ss1]
    simp only [v_asg, v_sto, v_bi, v_es1, v_es0, v_var, List.getElem?_cons_succ, List.getElem?_cons_zero, bind_ok, builtin, bi1, orO_some, v_stoR, bind_any, v_setT, List.set_cons_succ, List.set_cons_zero]
  generalize hb : (fun r => (xSs gl (cl (k + 1)) [.own 3 (.lst []), .forr [4] (.rng1 (.bi .len [(.var 1)])) l4_0 [4], .frz 3, .ret (.var 3)] [.val (.loc p), .val (.lst (SL ns)), .val (.loc r), .un, .un] (μ.put r (.lst (SL ns)))).bind (outF false)) = body at e
  rw [e]
  have key2 : ∀ r, μ r = none → ∃ ws μ', body r = .ok (.lst (SL ws)) μ' ∧ ws.Perm ns ∧ Sc p q μ' ∧ Frm [p, q] μ μ' := fun r hr => by
    rw [← hb]; exact key r hr
  clear e hb key
  refine all_any fun r hr => ?_
  obtain ⟨ws, μ', e1, h1, h3, h4⟩ := key2 r hr
  rw [e1]
  exact ⟨⟨ws, rfl, h1⟩, h3, h4⟩

end Bs.K45
namespace Bs.K45
open Bs

theorem eq_nilS (ws : List (List Nat)) : compare .eq (.lst (SL ws)) (.lst []) = some (.bl (decide (ws = []))) := by
  have h := plains_SL 59 ws
  cases ws with
  | nil => rfl
  | cons w ws =>
    simp only [compare, eqD, plain, h, plains, Bool.and_self, if_true, Option.map_some]
    rfl
theorem do_s (k : Nat) {p q : Nat} {μ : Sto} (is os : List (List Nat)) (hi : is.length ≤ 20) (ho : os.length ≤ 20) (hn : is ≠ []) (wi : nmsOk is) (wo : nmsOk os) (hs : Sc p q μ) : (cl (k + 3) 6 [.loc p, .lst (SL is), .lst (SL os)] μ).All (fun d μ' => (∃ a b, d = .tup [.str sDo, .tup (SL a), .tup (SL b)] ∧ nmsOk a ∧ nmsOk b ∧ 1 ≤ a.length ∧ a.length ≤ 100 ∧ b.length ≤ 100) ∧ Sc p q μ' ∧ Frm [p, q] μ μ') Wn := by
  have sub : ∀ {a b : List (List Nat)}, nmsOk b → a.Sublist b → nmsOk a := fun h s => ⟨fun w hw => h.1 w (s.subset hw), h.2.sublist s⟩
  have prm : ∀ {a b : List (List Nat)}, nmsOk b → a.Perm b → nmsOk a := fun h s => ⟨fun w hw => h.1 w (s.mem_iff.mp hw), s.nodup_iff.mpr h.2⟩
  obtain ⟨ws, μ1, e1, l1, s1, f1⟩ := some_s k is (by omega) hs
  have ll1 := l1.length_le
  have h2 := shuf_s k ws (by omega) s1
  show ((xSs gl (cl (k + 2)) b6 [.val (.loc p), .val (.lst (SL is)), .val (.lst (SL os)), .un] μ).bind (outF false)).All _ _
  have tail : ∀ (a : List (List Nat)) (μ3 : Sto), nmsOk a → 1 ≤ a.length → a.length ≤ 100 → Sc p q μ3 → Frm [p, q] μ μ3 → ((xSs gl (cl (k + 2)) [.ret (.tup [(.con (.str [100, 111])), (.bi .tuple [(.var 3)]), (.bi .tuple [(.call 4 [(.var 0), (.call 5 [(.var 0), (.var 2)] [] [0, 1])] [] [0, 1])])])] [.val (.loc p), .val (.lst (SL is)), .val (.lst (SL os)), .val (.lst (SL a))] μ3).bind (outF false)).All (fun d μ' => (∃ a b, d = .tup [.str sDo, .tup (SL a), .tup (SL b)] ∧ nmsOk a ∧ nmsOk b ∧ 1 ≤ a.length ∧ a.length ≤ 100 ∧ b.length ≤ 100) ∧ Sc p q μ' ∧ Frm [p, q] μ μ') Wn := by
    intro a μ3 na la la2 s3 f3
    obtain ⟨vs, μ4, e4, l4, s4, f4⟩ := some_s k os (by omega) s3
    have ll4 := l4.length_le
    have h5 := shuf_s k vs (by omega) s4
    simp only [v_ss1, v_ss0, v_ret, v_tup, v_es1, v_es0, v_con, bind_ok, v_bi, v_var, List.getElem?_cons_succ, List.getElem?_cons_zero, builtin, bi1, orO_some, v_call, List.append_nil, v_arr2, e4, back_ok, bind_assoc]
    refine all_call h5 fun d μ5 hd => ?_
    obtain ⟨⟨us, rfl, pu⟩, s5, f5⟩ := hd
    simp only [bind_ok, builtin, bi1, orO_some, v_out1]
    exact ⟨⟨a, us, rfl, na, prm (sub wo l4) pu, la, la2, by have := pu.length_eq; omega⟩, s5, f3.trans (f4.trans f5)⟩
  rw [b6, v_ss1]
  simp only [v_asg, v_call, v_es1, v_es0, v_var, List.getElem?_cons_succ, List.getElem?_cons_zero, bind_ok, List.append_nil, v_arr2, e1, back_ok, bind_assoc]
  refine all_call h2 fun d μ2 hd => ?_
  obtain ⟨⟨us, rfl, pu⟩, s2, f2⟩ := hd
  have en := eq_nilS us
  simp only [bind_ok, v_setT, List.set_cons_succ, List.set_cons_zero]
  rw [v_ss1, v_if, v_cond]
  simp only [v_cmp, v_var, v_lst, v_es0, List.getElem?_cons_succ, List.getElem?_cons_zero, bind_ok, en, orO_some, v_tbl]
  by_cases hu : us = []
  · obtain ⟨r, μ3, e3, r0, r1, s3, f3⟩ := draw_k (k + 1) s2 (m := (is.length : Nat)) (by have := List.length_pos_iff.mpr hn; omega) (by omega)
    obtain ⟨d, dm, ed⟩ := pick_lst (xs := SL is) r0 (by simpa using r1) μ3
    rw [List.mem_map] at dm
    obtain ⟨w, hw, rfl⟩ := dm
    have hb : builtin .len [.lst (SL is)] = some (.int ((is.length : Nat) : Int)) := by simp
    have t := tail [w] μ3 ⟨fun v hv => by rw [List.mem_singleton] at hv; rw [hv]; exact wi.1 w hw, by simp⟩ (by simp) (by simp) s3 (f1.trans (f2.trans f3))
    simp only [hu, decide_true, if_true]
    rw [v_ss1, v_asg]
    simp only [v_lst, v_es1, v_es0, v_ix, v_var, v_call, v_bi, List.getElem?_cons_succ, List.getElem?_cons_zero, bind_ok, hb, orO_some, List.append_nil, v_arr2, e3, back_ok, ed, v_setT, List.set_cons_succ, List.set_cons_zero, v_ss0]
    exact t
  · have t := tail us μ2 (prm (sub wi l1) pu) (List.length_pos_iff.mpr hu) (by have := pu.length_eq; omega) s2 (f1.trans f2)
    simp only [hu, decide_false, Bool.false_eq_true, if_false, v_ss0, bind_ok]
    exact t

end Bs.K45
namespace Bs.K45
open Bs

/-- a room for one count -/
structure Rm (p q r : Nat) (μ : Sto) : Prop where
  np : r ≠ p
  nq : r ≠ q
  is : ∃ z : Int, μ r = some (.lst [.int z])
theorem Rm.frm {p q r : Nat} {μ μ' : Sto} (h : Rm p q r μ) (f : Frm [p, q] μ μ') : Rm p q r μ' := by
  obtain ⟨a, b, z, e⟩ := h
  exact ⟨a, b, z, by rw [f r (by rw [e]; exact fun z => nomatch z) (by simp [a, b])]; exact e⟩
theorem e_prog (k : Nat) (a b c d e f : D) (μ : Sto) : cl (k + 1) 7 [a, b, c, d, e, f] μ = (xSs gl (cl k) b7 [.val a, .val b, .val c, .val d, .val e, .val f, .un, .un, .un, .un, .un] μ).bind (outF false) := rfl
theorem in345 (r : Int) : compare .in_ (.int r) (.tup [.int 3, .int 4, .int 5]) = some (.bl (decide (r = 3 ∨ r = 4 ∨ r = 5))) := by
  have : compare .in_ (.int r) (.tup [.int 3, .int 4, .int 5]) = some (.bl ((3 : Int) == r || ((4 : Int) == r || ((5 : Int) == r || false)))) := rfl
  rw [this]
  congr 2
  rw [Bool.eq_iff_iff]
  simp
  omega
/-- the result of a drawn program -/
def PgR (p q r f : Nat) (b : Bool) (μ : Sto) : D → Sto → Prop := fun d μ' => Pgx f b d ∧ Sc p q μ' ∧ Rm p q r μ' ∧ Frm [p, q, r] μ μ'
theorem prog_loop (K : Nat) (L : List S) {p q r f : Nat} {μ0 : Sto} {A B E : D} {Z N : Sl} {b : Bool} {m : Int} (G : Nat → Bool)
    (hL : ∀ (γ : Ga) (μ : Sto) (acc : List D) (i : Nat), Sc p q μ → Rm p q r μ → acc.length < 1000000 → γ = [.val (.loc p), .val A, .val B, .val E, .val (.bl b), .val (.loc r), Z, .own (.lst acc), .val (.int m), .val (.int ((i : Nat) : Int)), N] → (xSs gl (cl K) L γ μ).All (fun fl μ' => ∃ d, fl = .nx [.val (.loc p), .val A, .val B, .val E, .val (.bl b), .val (.loc r), Z, .own (.lst (acc ++ [d])), .val (.int m), .val (.int ((i : Nat) : Int)), N] ∧ PgR p q r f (G i) μ d μ') Wn) (n : Nat) (hn : n ≤ 8) (hs : Sc p q μ0) (hr : Rm p q r μ0) :
    (forL (turn gl (cl K) [9] L) [9] (rangeL 0 (n : Int)) [.val (.loc p), .val A, .val B, .val E, .val (.bl b), .val (.loc r), Z, .own (.lst []), .val (.int m), .un, N] μ0).All (fun fl μ' => ∃ ps, fl = .nx [.val (.loc p), .val A, .val B, .val E, .val (.bl b), .val (.loc r), Z, .own (.lst ps), .val (.int m), .un, N] ∧ ps.length = n ∧ (∀ (i : Nat) x, ps[i]? = some x → Pgx f (G i) x) ∧ Sc p q μ' ∧ Rm p q r μ' ∧ Frm [p, q, r] μ0 μ') Wn := by
  have hll : (rangeL 0 (n : Int)).length = n := by simp [rangeL]
  refine (all_for (fun xs γ μ => ∃ ps, γ = [.val (.loc p), .val A, .val B, .val E, .val (.bl b), .val (.loc r), Z, .own (.lst ps), .val (.int m), .un, N] ∧ ps.length + xs.length = n ∧ (∀ (i : Nat) x, ps[i]? = some x → Pgx f (G i) x) ∧ Sc p q μ ∧ Rm p q r μ ∧ Frm [p, q, r] μ0 μ ∧ ∀ (i : Nat) x, xs[i]? = some x → x = .int ((ps.length + i : Nat) : Int)) (fun x xs γ μ hi => ?_) _ _ _ ⟨[], rfl, by rw [hll]; simp, by simp, hs, hr, .refl, fun i x hx => ?_⟩).mono (fun fl μ' h => ?_) (fun _ _ _ w => w)
  · obtain ⟨ps, rfl, hl, hp, hs, hr, hf, hx⟩ := hi
    have h0 := hx 0 x rfl
    rw [Nat.add_zero] at h0
    subst h0
    rw [List.length_cons] at hl
    have h1 := hL _ μ ps ps.length hs hr (by omega) rfl
    unfold turn
    simp only [v_setT, List.set_cons_succ, List.set_cons_zero]
    refine h1.mono (fun fl μ' h => ?_) fun _ _ _ w => w
    obtain ⟨d, rfl, hd, hs', hr', hf'⟩ := h
    refine ⟨_, rfl, ps ++ [d], by simp, by rw [List.length_append, List.length_singleton]; omega, fun i y hy => ?_, hs', hr', hf.trans hf', fun i y hy => ?_⟩
    · by_cases hi : i < ps.length
      · rw [List.getElem?_append_left hi] at hy
        exact hp i y hy
      · rw [List.getElem?_append_right (by omega)] at hy
        have hi2 : i - ps.length = 0 := by
          cases h9 : i - ps.length with
          | zero => rfl
          | succ j => rw [h9] at hy; simp at hy
        rw [hi2] at hy
        have e1 : i = ps.length := by omega
        have e2 : d = y := by simpa using hy
        rw [e1, ← e2]; exact hd
    · have := hx (i + 1) y hy
      rw [this, List.length_append, List.length_singleton]
      congr 2; omega
  · simp only [rangeL, List.getElem?_map, Option.map_eq_some_iff] at hx
    obtain ⟨j, hj, rfl⟩ := hx
    rw [List.getElem?_eq_some_iff] at hj
    obtain ⟨h1, h2⟩ := hj
    rw [List.getElem_range] at h2
    rw [← h2]; simp
  · obtain ⟨γ', rfl, ps, rfl, hl, hp, hs, hr, hf, _⟩ := h
    exact ⟨ps, rfl, by simpa using hl, hp, hs, hr, hf⟩
theorem prog_s (is os : List (List Nat)) (hi : is.length ≤ 20) (ho : os.length ≤ 20) (hn : is ≠ []) (wi : nmsOk is) (wo : nmsOk os) {p q r : Nat} : ∀ (f k : Nat) (b : Bool) (μ : Sto), Sc p q μ → Rm p q r μ → (cl (k + f + 4) 7 [.loc p, .lst (SL is), .lst (SL os), .int ((f + 1 : Nat) : Int), .bl b, .loc r] μ).All (PgR p q r (f + 1) b μ) Wn := by
  intro f
  induction f with
  | zero =>
    intro k b μ hs hr
    obtain ⟨z, hz⟩ := hr.is
    obtain ⟨i, μ1, e1, i0, i1, s1, f1⟩ := draw_k (k + 2) hs (m := 9) (by decide) (by decide)
    obtain ⟨z1, hz1⟩ := (hr.frm f1).is
    have s2 : Sc p q (μ1.put r (.lst [.int (z1 - 1)])) := by
      obtain ⟨a, ⟨n, b1, b2⟩, cs, c1, c2, c3⟩ := s1
      exact ⟨a, ⟨n, b1, by rw [put_ne (Ne.symm hr.np)]; exact b2⟩, cs, c1, c2, by rw [put_ne (Ne.symm hr.nq)]; exact c3⟩
    have f2 : Frm [p, q, r] μ (μ1.put r (.lst [.int (z1 - 1)])) := (f1.weak (by simp)).trans (Frm.put (.inl (by simp)))
    have hdo := do_s k is os hi ho hn wi wo s2
    have l20 : L2.ixN 1 0 = some 0 := by decide
    have x0 : ∀ (μ : Sto) (z : Int), μ r = some (.lst [.int z]) → ixR (.loc r) (.int 0) μ = .ok (.int z) μ := fun μ z e => by simp [ixR, deref, e, index, L2.atI, l20]
    have xa := x0 μ1 z1 hz1
    have xb := x0 (μ1.put r (.lst [.int (z1 - 1)])) (z1 - 1) (put_same _ _ _)
    have m81 : binop .mul (.int 1) (.int 8) = some (.int 8) := rfl
    have m80 : binop .mul (.int 0) (.int 8) = some (.int 0) := rfl
    have bi8 : ∀ b : Bool, builtin .int [.bl b] = some (.int (if b = true then 1 else 0)) := fun b => rfl
    rw [show k + 0 + 4 = (k + 3) + 1 from rfl, e_prog]
    have pre : ∀ rest : List S, xSs gl (cl (k + 3)) (b7.take 3 ++ rest) [.val (.loc p), .val (.lst (SL is)), .val (.lst (SL os)), .val (.int ((0 + 1 : Nat) : Int)), .val (.bl b), .val (.loc r), .un, .un, .un, .un, .un] μ = xSs gl (cl (k + 3)) rest [.val (.loc p), .val (.lst (SL is)), .val (.lst (SL os)), .val (.int ((0 + 1 : Nat) : Int)), .val (.bl b), .val (.loc r), .val (.int (if i = 8 then 8 else 0)), .un, .un, .un, .un] (μ1.put r (.lst [.int (z1 - 1)])) := by
      intro rest
      by_cases h : i = 8
      · by_cases h2 : z1 - 1 < 0 <;> simp [b7, e1, xa, hz1, l20, xb, h, bi8, m81, m80, h2]
      · by_cases h2 : z1 - 1 < 0 <;> simp [b7, e1, xa, hz1, l20, xb, h, bi8, m81, m80, h2]
    have sp := pre (b7.drop 3)
    rw [List.take_append_drop] at sp
    rw [sp]
    by_cases h : i = 8 ∧ b = false
    · obtain ⟨h, rfl⟩ := h
      have : (xSs gl (cl (k + 3)) (b7.drop 3) [.val (.loc p), .val (.lst (SL is)), .val (.lst (SL os)), .val (.int ((0 + 1 : Nat) : Int)), .val (.bl false), .val (.loc r), .val (.int (if i = 8 then 8 else 0)), .un, .un, .un, .un] (μ1.put r (.lst [.int (z1 - 1)]))).bind (outF false) = .ok (.tup [.str sStop]) (μ1.put r (.lst [.int (z1 - 1)])) := by
        simp [b7, h, in345]
      rw [this]
      exact ⟨.stop 0, s2, ⟨hr.np, hr.nq, _, put_same _ _ _⟩, f2⟩
    · have : (xSs gl (cl (k + 3)) (b7.drop 3) [.val (.loc p), .val (.lst (SL is)), .val (.lst (SL os)), .val (.int ((0 + 1 : Nat) : Int)), .val (.bl b), .val (.loc r), .val (.int (if i = 8 then 8 else 0)), .un, .un, .un, .un] (μ1.put r (.lst [.int (z1 - 1)]))).bind (outF false) = (((cl (k + 3) 6 [.loc p, .lst (SL is), .lst (SL os)] (μ1.put r (.lst [.int (z1 - 1)]))).back [.val (.loc p), .val (.lst (SL is)), .val (.lst (SL os)), .val (.int ((0 + 1 : Nat) : Int)), .val (.bl b), .val (.loc r), .val (.int (if i = 8 then 8 else 0)), .own (.lst []), .un, .un, .un]).bind fun x μ => .ok x μ) := by
        by_cases h8 : i = 8
        · have hb : b = true := by cases b with | true => rfl | false => exact absurd ⟨h8, rfl⟩ h
          subst hb
          simp [b7, h8, in345, bind_assoc]
        · simp [b7, h8, in345, bind_assoc]
      rw [this]
      refine all_call hdo fun d μ' hd => ?_
      obtain ⟨⟨a, c, rfl, na, nc, l1, la, lc⟩, s', f'⟩ := hd
      exact ⟨.doo 0 b a c na nc l1 la lc, s', Rm.frm ⟨hr.np, hr.nq, _, put_same _ _ _⟩ f', f2.trans (f'.weak (by simp))⟩
  | succ f ih =>
    intro k b μ hs hr
    obtain ⟨z, hz⟩ := hr.is
    obtain ⟨i, μ1, e1, i0, i1, s1, f1⟩ := draw_k (k + f + 3) hs (m := 9) (by decide) (by decide)
    obtain ⟨z1, hz1⟩ := (hr.frm f1).is
    have s2 : Sc p q (μ1.put r (.lst [.int (z1 - 1)])) := by
      obtain ⟨a, ⟨n, b1, b2⟩, cs, c1, c2, c3⟩ := s1
      exact ⟨a, ⟨n, b1, by rw [put_ne (Ne.symm hr.np)]; exact b2⟩, cs, c1, c2, by rw [put_ne (Ne.symm hr.nq)]; exact c3⟩
    have f2 : Frm [p, q, r] μ (μ1.put r (.lst [.int (z1 - 1)])) := (f1.weak (by simp)).trans (Frm.put (.inl (by simp)))
    have r2 : Rm p q r (μ1.put r (.lst [.int (z1 - 1)])) := ⟨hr.np, hr.nq, _, put_same _ _ _⟩
    have l20 : L2.ixN 1 0 = some 0 := by decide
    have x0 : ∀ (μ : Sto) (z : Int), μ r = some (.lst [.int z]) → ixR (.loc r) (.int 0) μ = .ok (.int z) μ := fun μ z e => by simp [ixR, deref, e, index, L2.atI, l20]
    have xa := x0 μ1 z1 hz1
    have xb := x0 (μ1.put r (.lst [.int (z1 - 1)])) (z1 - 1) (put_same _ _ _)
    have m81 : binop .mul (.int 1) (.int 8) = some (.int 8) := rfl
    have m80 : binop .mul (.int 0) (.int 8) = some (.int 0) := rfl
    have bi8 : ∀ b : Bool, builtin .int [.bl b] = some (.int (if b = true then 1 else 0)) := fun b => rfl
    have hf2 : ¬ ((f : Int) + 1 + 1 < 2) := by omega
    rw [show k + (f + 1) + 4 = (k + f + 4) + 1 from by omega, e_prog]
    generalize hμ : μ1.put r (.lst [.int (z1 - 1)]) = μ2 at s2 f2 r2 xb
    obtain ⟨j, pre⟩ : ∃ j : Int, ∀ rest : List S, xSs gl (cl (k + f + 4)) (b7.take 3 ++ rest) [.val (.loc p), .val (.lst (SL is)), .val (.lst (SL os)), .val (.int ((f + 1 + 1 : Nat) : Int)), .val (.bl b), .val (.loc r), .un, .un, .un, .un, .un] μ = xSs gl (cl (k + f + 4)) rest [.val (.loc p), .val (.lst (SL is)), .val (.lst (SL os)), .val (.int ((f + 1 + 1 : Nat) : Int)), .val (.bl b), .val (.loc r), .val (.int j), .un, .un, .un, .un] μ2 := by
      by_cases h2 : z1 - 1 < 0
      · refine ⟨if i = 8 then 8 else 0, fun rest => ?_⟩
        by_cases h : i = 8 <;> simp [b7, e1, xa, hz1, l20, hμ, xb, h, bi8, m81, m80, h2]
      · refine ⟨i, fun rest => ?_⟩
        simp only [b7, List.take_succ_cons, List.take_zero, List.cons_append, List.nil_append]
        simp [e1, xa, hz1, l20, hμ, xb, h2, hf2]
    have sp := pre (b7.drop 3)
    rw [List.take_append_drop] at sp
    rw [sp]
    clear sp pre
    have sub1 : binop .sub (.int ((f + 1 + 1 : Nat) : Int)) (.int 1) = some (.int ((f + 1 : Nat) : Int)) := by simp
    have recp : ∀ (K : Nat) (b : Bool) (μ : Sto), K = k + f + 4 → Sc p q μ → Rm p q r μ → (cl K 7 [.loc p, .lst (SL is), .lst (SL os), .int ((f + 1 : Nat) : Int), .bl b, .loc r] μ).All (PgR p q r (f + 1) b μ) Wn := fun K b μ e => by rw [e]; exact ih k b μ
    have lp0 : ∀ (m : Nat) (γ : Ga) (μ : Sto) (acc : List D) (i : Nat), Sc p q μ → Rm p q r μ → acc.length < 1000000 → γ = [.val (.loc p), .val (.lst (SL is)), .val (.lst (SL os)), .val (.int ((f + 1 + 1 : Nat) : Int)), .val (.bl b), .val (.loc r), .val (.int j), .own (.lst acc), .val (.int ((m : Nat) : Int)), .val (.int ((i : Nat) : Int)), .un] → (xSs gl (cl (k + f + 4)) l7_0 γ μ).All (fun fl μ' => ∃ d, fl = .nx [.val (.loc p), .val (.lst (SL is)), .val (.lst (SL os)), .val (.int ((f + 1 + 1 : Nat) : Int)), .val (.bl b), .val (.loc r), .val (.int j), .own (.lst (acc ++ [d])), .val (.int ((m : Nat) : Int)), .val (.int ((i : Nat) : Int)), .un] ∧ PgR p q r (f + 1) (b || decide (i + 1 < m)) μ d μ') Wn := by
      intro m γ μ acc i hs hr ha hγ
      subst hγ
      have hrec := recp (k + f + 4) (b || decide ((i : Int) < (m : Int) - 1)) μ rfl hs hr
      have hdm : decide ((i : Int) < (m : Int) - 1) = decide (i + 1 < m) := by rw [decide_eq_decide]; omega
      have e : xSs gl (cl (k + f + 4)) l7_0 [.val (.loc p), .val (.lst (SL is)), .val (.lst (SL os)), .val (.int ((f + 1 + 1 : Nat) : Int)), .val (.bl b), .val (.loc r), .val (.int j), .own (.lst acc), .val (.int ((m : Nat) : Int)), .val (.int ((i : Nat) : Int)), .un] μ = ((cl (k + f + 4) 7 [.loc p, .lst (SL is), .lst (SL os), .int ((f + 1 : Nat) : Int), .bl (b || decide ((i : Int) < (m : Int) - 1)), .loc r] μ).back [.val (.loc p), .val (.lst (SL is)), .val (.lst (SL os)), .val (.int ((f + 1 + 1 : Nat) : Int)), .val (.bl b), .val (.loc r), .val (.int j), .own (.lst acc), .val (.int ((m : Nat) : Int)), .val (.int ((i : Nat) : Int)), .un]).bind fun d μ => .ok (.nx [.val (.loc p), .val (.lst (SL is)), .val (.lst (SL os)), .val (.int ((f + 1 + 1 : Nat) : Int)), .val (.bl b), .val (.loc r), .val (.int j), .own (.lst (acc ++ [d])), .val (.int ((m : Nat) : Int)), .val (.int ((i : Nat) : Int)), .un]) μ := by
        rw [l7_0, v_ss1]
        cases b <;> simp only [v_app, v_call, v_es1, v_es0, v_var, v_con, v_bin, v_or, v_cmp, List.getElem?_cons_succ, List.getElem?_cons_zero, bind_ok, sub1, orO_some, v_tbl, if_true, if_false, Bool.false_eq_true, v_subi, v_lt, List.append_nil, v_arr6, bind_assoc, ha, List.set_cons_succ, List.set_cons_zero, v_ss0, Bool.true_or, Bool.false_or]
      rw [e]
      refine all_call hrec fun d μ' hd => ?_
      rw [hdm] at hd
      exact ⟨d, rfl, hd⟩
    have lp1 : ∀ (m : Int) (n : Nat) (γ : Ga) (μ : Sto) (acc : List D) (i : Nat), Sc p q μ → Rm p q r μ → acc.length < 1000000 → γ = [.val (.loc p), .val (.lst (SL is)), .val (.lst (SL os)), .val (.int ((f + 1 + 1 : Nat) : Int)), .val (.bl b), .val (.loc r), .val (.int j), .own (.lst acc), .val (.int m), .val (.int ((i : Nat) : Int)), .val (.int ((n : Nat) : Int))] → (xSs gl (cl (k + f + 4)) l7_1 γ μ).All (fun fl μ' => ∃ d, fl = .nx [.val (.loc p), .val (.lst (SL is)), .val (.lst (SL os)), .val (.int ((f + 1 + 1 : Nat) : Int)), .val (.bl b), .val (.loc r), .val (.int j), .own (.lst (acc ++ [d])), .val (.int m), .val (.int ((i : Nat) : Int)), .val (.int ((n : Nat) : Int))] ∧ PgR p q r (f + 1) (b && decide (i = n)) μ d μ') Wn := by
      intro m n γ μ acc i hs hr ha hγ
      subst hγ
      have hrec := recp (k + f + 4) (b && decide ((i : Int) = (n : Int))) μ rfl hs hr
      have hdm : decide ((i : Int) = (n : Int)) = decide (i = n) := by rw [decide_eq_decide]; omega
      have e : xSs gl (cl (k + f + 4)) l7_1 [.val (.loc p), .val (.lst (SL is)), .val (.lst (SL os)), .val (.int ((f + 1 + 1 : Nat) : Int)), .val (.bl b), .val (.loc r), .val (.int j), .own (.lst acc), .val (.int m), .val (.int ((i : Nat) : Int)), .val (.int ((n : Nat) : Int))] μ = ((cl (k + f + 4) 7 [.loc p, .lst (SL is), .lst (SL os), .int ((f + 1 : Nat) : Int), .bl (b && decide ((i : Int) = (n : Int))), .loc r] μ).back [.val (.loc p), .val (.lst (SL is)), .val (.lst (SL os)), .val (.int ((f + 1 + 1 : Nat) : Int)), .val (.bl b), .val (.loc r), .val (.int j), .own (.lst acc), .val (.int m), .val (.int ((i : Nat) : Int)), .val (.int ((n : Nat) : Int))]).bind fun d μ => .ok (.nx [.val (.loc p), .val (.lst (SL is)), .val (.lst (SL os)), .val (.int ((f + 1 + 1 : Nat) : Int)), .val (.bl b), .val (.loc r), .val (.int j), .own (.lst (acc ++ [d])), .val (.int m), .val (.int ((i : Nat) : Int)), .val (.int ((n : Nat) : Int))]) μ := by
        rw [l7_1, v_ss1]
        cases b <;> simp only [v_app, v_call, v_es1, v_es0, v_var, v_con, v_bin, v_and, v_cmp, List.getElem?_cons_succ, List.getElem?_cons_zero, bind_ok, sub1, orO_some, v_tbl, if_true, if_false, Bool.false_eq_true, v_eqii, List.append_nil, v_arr6, bind_assoc, ha, List.set_cons_succ, List.set_cons_zero, v_ss0, Bool.true_and, Bool.false_and]
      rw [e]
      refine all_call hrec fun d μ' hd => ?_
      rw [hdm] at hd
      exact ⟨d, rfl, hd⟩
    by_cases h3 : j = 3 ∨ j = 4 ∨ j = 5
    · obtain ⟨m, μ3, e3, m0, m1, s3, f3⟩ := draw_k (k + f + 3) s2 (m := 4) (by decide) (by decide)
      obtain ⟨mn, rfl⟩ := Int.eq_ofNat_of_zero_le m0
      have r3 := r2.frm f3
      have hr := rng_nat (n := mn + 1) (by omega)
      have h4 := prog_loop (k + f + 4) l7_0 (fun i => b || decide (i + 1 < mn + 1)) (lp0 (mn + 1)) (mn + 1) (by omega) s3 r3
      have e : (xSs gl (cl (k + f + 4)) (b7.drop 3) [.val (.loc p), .val (.lst (SL is)), .val (.lst (SL os)), .val (.int ((f + 1 + 1 : Nat) : Int)), .val (.bl b), .val (.loc r), .val (.int j), .un, .un, .un, .un] μ2).bind (outF false) = (forL (turn gl (cl (k + f + 4)) [9] l7_0) [9] (rangeL 0 ((mn + 1 : Nat) : Int)) [.val (.loc p), .val (.lst (SL is)), .val (.lst (SL os)), .val (.int ((f + 1 + 1 : Nat) : Int)), .val (.bl b), .val (.loc r), .val (.int j), .own (.lst []), .val (.int ((mn + 1 : Nat) : Int)), .un, .un] μ3).bind fun fl μ => ((match fl with | .nx γ' => xSs gl (cl (k + f + 4)) [.ret (.tup [(.con (.str [114, 111, 119])), (.bi .tuple [(.ovar 7)])])] γ' μ | _ => .ok fl μ).bind fun fl μ => match fl with | .nx γ' => xSs gl (cl (k + f + 4)) (b7.drop 5) γ' μ | _ => .ok fl μ).bind (outF false) := by
        have e1 : (1 : Int) + (mn : Int) = ((mn + 1 : Nat) : Int) := by omega
        have a1 : binop .add (.int 1) (.int (mn : Int)) = some (.int ((mn + 1 : Nat) : Int)) := by rw [v_addi, e1]
        simp only [b7, List.drop_succ_cons, List.drop_zero]
        rw [v_ss1, v_own]
        simp only [v_lst, v_es0, bind_ok, List.set_cons_succ, List.set_cons_zero]
        rw [v_ss1, v_if, v_cond]
        simp only [v_cmp, v_var, v_con, v_tup, v_es1, v_es0, List.getElem?_cons_succ, List.getElem?_cons_zero, bind_ok, in345, decide_eq_true h3, orO_some, v_tbl, if_true]
        rw [v_ss1, v_asg]
        simp only [v_bin, v_con, v_call, v_es1, v_es0, v_var, List.getElem?_cons_succ, List.getElem?_cons_zero, bind_ok, List.append_nil, v_arr2, e3, back_ok, a1, orO_some, v_setT, List.set_cons_succ, List.set_cons_zero]
        rw [v_ss1, v_for]
        simp only [v_rng1, v_var, List.getElem?_cons_succ, List.getElem?_cons_zero, bind_ok, hr, ofO_s, v_il, bind_assoc]
        try rfl
      rw [e]
      refine all_step h4 ?_
      rintro fl μ4 ⟨ps, rfl, lp, hp, s4, r4, f4⟩
      simp only [v_ss1, v_ss0, v_ret, v_tup, v_es1, v_es0, v_con, bind_ok, v_bi, v_ovar, List.getElem?_cons_succ, List.getElem?_cons_zero, builtin, bi1, orO_some, v_out1]
      exact ⟨.row (f + 1) b ps (by omega) (by omega) (by rw [lp]; exact hp), s4, r4, f2.trans ((f3.weak (by simp)).trans f4)⟩
    · by_cases h6 : j = 6
      · obtain ⟨m, μ3, e3, m0, m1, s3, f3⟩ := draw_k (k + f + 3) s2 (m := 3) (by decide) (by decide)
        obtain ⟨mn, rfl⟩ := Int.eq_ofNat_of_zero_le m0
        have e1 : (2 : Int) + (mn : Int) = ((mn + 2 : Nat) : Int) := by omega
        obtain ⟨c, μ4, e4, c0, c1, s4, f4⟩ := draw_k (k + f + 3) s3 (m := ((mn + 2 : Nat) : Int)) (by omega) (by omega)
        have r4 := (r2.frm f3).frm f4
        have hr := rng_nat (n := mn + 2) (by omega)
        obtain ⟨cn, rfl⟩ := Int.eq_ofNat_of_zero_le c0
        have h4 := prog_loop (k + f + 4) l7_1 (fun i => b && decide (i = cn)) (lp1 ((mn + 2 : Nat) : Int) cn) (mn + 2) (by omega) s4 r4
        have e : (xSs gl (cl (k + f + 4)) (b7.drop 3) [.val (.loc p), .val (.lst (SL is)), .val (.lst (SL os)), .val (.int ((f + 1 + 1 : Nat) : Int)), .val (.bl b), .val (.loc r), .val (.int j), .un, .un, .un, .un] μ2).bind (outF false) = (forL (turn gl (cl (k + f + 4)) [9] l7_1) [9] (rangeL 0 ((mn + 2 : Nat) : Int)) [.val (.loc p), .val (.lst (SL is)), .val (.lst (SL os)), .val (.int ((f + 1 + 1 : Nat) : Int)), .val (.bl b), .val (.loc r), .val (.int j), .own (.lst []), .val (.int ((mn + 2 : Nat) : Int)), .un, .val (.int ((cn : Nat) : Int))] μ4).bind fun fl μ => ((match fl with | .nx γ' => xSs gl (cl (k + f + 4)) [.ret (.tup [(.con (.str [99, 104, 111, 111, 115, 101])), (.bi .tuple [(.ovar 7)])])] γ' μ | _ => .ok fl μ).bind fun fl μ => match fl with | .nx γ' => xSs gl (cl (k + f + 4)) (b7.drop 6) γ' μ | _ => .ok fl μ).bind (outF false) := by
          have a1 : binop .add (.int 2) (.int (mn : Int)) = some (.int ((mn + 2 : Nat) : Int)) := by rw [v_addi, e1]
          simp only [b7, List.drop_succ_cons, List.drop_zero]
          rw [v_ss1, v_own]
          simp only [v_lst, v_es0, bind_ok, List.set_cons_succ, List.set_cons_zero]
          rw [v_ss1, v_if, v_cond]
          simp only [v_cmp, v_var, v_con, v_tup, v_es1, v_es0, List.getElem?_cons_succ, List.getElem?_cons_zero, bind_ok, in345, decide_eq_false h3, orO_some, v_tbl, if_false, Bool.false_eq_true, v_ss0]
          rw [v_ss1, v_if, v_cond]
          simp only [v_cmp, v_var, v_con, List.getElem?_cons_succ, List.getElem?_cons_zero, bind_ok, v_eqii, decide_eq_true h6, orO_some, v_tbl, if_true]
          rw [v_ss1, v_asg]
          simp only [v_bin, v_con, v_call, v_es1, v_es0, v_var, List.getElem?_cons_succ, List.getElem?_cons_zero, bind_ok, List.append_nil, v_arr2, e3, back_ok, a1, orO_some, v_setT, List.set_cons_succ, List.set_cons_zero]
          rw [v_ss1, v_asg]
          simp only [v_bin, v_con, v_call, v_es1, v_es0, v_var, List.getElem?_cons_succ, List.getElem?_cons_zero, bind_ok, List.append_nil, v_arr2, e4, back_ok, v_setT, List.set_cons_succ, List.set_cons_zero]
          rw [v_ss1, v_for]
          simp only [v_rng1, v_var, List.getElem?_cons_succ, List.getElem?_cons_zero, bind_ok, hr, ofO_s, v_il, bind_assoc]
          try rfl
        rw [e]
        refine all_step h4 ?_
        rintro fl μ5 ⟨ps, rfl, lp, hp, s5, r5, f5⟩
        simp only [v_ss1, v_ss0, v_ret, v_tup, v_es1, v_es0, v_con, bind_ok, v_bi, v_ovar, List.getElem?_cons_succ, List.getElem?_cons_zero, builtin, bi1, orO_some, v_out1]
        exact ⟨.cho (f + 1) b ps cn (by omega) (by omega) (by omega) hp, s5, r5, f2.trans ((f3.weak (by simp)).trans ((f4.weak (by simp)).trans f5))⟩
      · by_cases h7 : j = 7 ∧ b = false
        · obtain ⟨h7, rfl⟩ := h7
          have hrec := recp (k + f + 4) true μ2 rfl s2 r2
          have e : (xSs gl (cl (k + f + 4)) (b7.drop 3) [.val (.loc p), .val (.lst (SL is)), .val (.lst (SL os)), .val (.int ((f + 1 + 1 : Nat) : Int)), .val (.bl false), .val (.loc r), .val (.int j), .un, .un, .un, .un] μ2).bind (outF false) = ((cl (k + f + 4) 7 [.loc p, .lst (SL is), .lst (SL os), .int ((f + 1 : Nat) : Int), .bl true, .loc r] μ2).back [.val (.loc p), .val (.lst (SL is)), .val (.lst (SL os)), .val (.int ((f + 1 + 1 : Nat) : Int)), .val (.bl false), .val (.loc r), .val (.int j), .own (.lst []), .un, .un, .un]).bind fun d μ => .ok (.tup [.str sLoop, d]) μ := by
            simp only [b7, List.drop_succ_cons, List.drop_zero]
            simp [in345, h3, h6, h7, bind_assoc]
          rw [e]
          refine all_call hrec fun d μ' hd => ?_
          exact ⟨.loop (f + 1) d hd.1, hd.2.1, hd.2.2.1, f2.trans hd.2.2.2⟩
        · by_cases h8 : j = 8 ∧ b = false
          · obtain ⟨h8, rfl⟩ := h8
            have e : (xSs gl (cl (k + f + 4)) (b7.drop 3) [.val (.loc p), .val (.lst (SL is)), .val (.lst (SL os)), .val (.int ((f + 1 + 1 : Nat) : Int)), .val (.bl false), .val (.loc r), .val (.int j), .un, .un, .un, .un] μ2).bind (outF false) = .ok (.tup [.str sStop]) μ2 := by
              simp [b7, in345, h8]
            rw [e]
            exact ⟨.stop (f + 1), s2, r2, f2⟩
          · have hdo := do_s (k + f + 1) is os hi ho hn wi wo s2
            have e : (xSs gl (cl (k + f + 4)) (b7.drop 3) [.val (.loc p), .val (.lst (SL is)), .val (.lst (SL os)), .val (.int ((f + 1 + 1 : Nat) : Int)), .val (.bl b), .val (.loc r), .val (.int j), .un, .un, .un, .un] μ2).bind (outF false) = ((cl (k + f + 4) 6 [.loc p, .lst (SL is), .lst (SL os)] μ2).back [.val (.loc p), .val (.lst (SL is)), .val (.lst (SL os)), .val (.int ((f + 1 + 1 : Nat) : Int)), .val (.bl b), .val (.loc r), .val (.int j), .own (.lst []), .un, .un, .un]).bind fun d μ => .ok d μ := by
              cases b with
              | true => 
                by_cases h9 : j = 7
                · simp [b7, in345, h9, bind_assoc]
                · by_cases h10 : j = 8
                  · simp [b7, in345, h10, bind_assoc]
                  · simp [b7, in345, h3, h6, h9, h10, bind_assoc]
              | false =>
                have h9 : ¬ j = 7 := fun z => h7 ⟨z, rfl⟩
                have h10 : ¬ j = 8 := fun z => h8 ⟨z, rfl⟩
                simp [b7, in345, h3, h6, h9, h10, bind_assoc]
            rw [e]
            refine all_call hdo fun d μ' hd => ?_
            obtain ⟨⟨a, c, rfl, na, nc, l1, la, lc⟩, s', f'⟩ := hd
            exact ⟨.doo (f + 1) b a c na nc l1 la lc, s', r2.frm f', f2.trans (f'.weak (by simp))⟩

end Bs.K45
namespace Bs.K45
open Bs

/-! ### names -/
theorem len18 (n : Nat) : ((1 : Int) ≤ (n : Int)) = (1 ≤ n) := by rw [eq_iff_iff]; omega
theorem len8 (n : Nat) : ((n : Int) ≤ (8 : Int)) = (n ≤ 8) := by rw [eq_iff_iff]; omega
theorem is_name_s (k : Nat) {n : Nat} {d : D} (h : gd n d = true) (μ : Sto) : cl (k + 1) 12 [d] μ = .ok (.bl (nmB d)) μ := by
  show (xSs gl (cl k) b12 [.val d, .un] μ).bind (outF false) = _
  have hi := gd_isS h
  cases d with
  | str w =>
    have e8 : gl 1 = some (.int 8) := rfl
    have eF : gl 0 = some (.str A26) := rfl
    have eD : gl 2 = some (.str D10) := rfl
    cases w with
    | nil => simp [b12, nmB, nmW]
    | cons c r =>
      have h1 : ∀ m : Nat, (1 : Int) ≤ (m : Int) + 1 := fun m => by omega
      by_cases h8 : (c :: r).length ≤ 8
      · have h8' : ((r.length : Int) + 1 ≤ 8) := by simp at h8; omega
        have hx : ixR (.str (c :: r)) (.int 0) μ = .ok (.str [c]) μ := ix_str (j := 0) rfl μ
        by_cases hc : A26.contains c = true
        · have hl : lcL (turnC gl (cl k) [.val (.str (c :: r)), .un] [1] none c12_0) ((c :: r).map fun c => .str [c]) [] μ = .ok (((c :: r).map fun c => (A26 ++ D10).contains c).map D.bl) μ := by
            refine lc_bool (fun c => .str [c]) (fun c => (A26 ++ D10).contains c) (c :: r) (fun a _ acc hacc => ?_) (by simp at h8 ⊢; omega)
            have ha := v_adds A26 D10 (by decide)
            unfold turnC setTR
            simp only [v_wipe1, v_wipe0, v_setT, List.set_cons_succ, List.set_cons_zero, v_c0, bind_ok, if_true, c12_0, v_cmp, v_var, v_bin, v_glb, eF, eD, ofO_s, ha, orO_some, List.getElem?_cons_succ, List.getElem?_cons_zero, v_in, addL, hacc]
          have hal := all_bl ((c :: r).map fun c => (A26 ++ D10).contains c)
          have hn : nmB (.str (c :: r)) = ((c :: r).map fun c => (A26 ++ D10).contains c).all id := by
            have e1 : (1 ≤ (c :: r).length) := by simp
            simp only [nmB, nmW, e1, h8, hc, List.headD_cons, decide_true, Bool.true_and, List.all_map]
            rfl
          rw [hn]
          have hch : chars (c :: r) = (c :: r).map fun c => (.str [c] : D) := rfl
          rw [b12, v_ss1, v_if, v_cond]
          simp only [v_or, v_not, v_isi, v_var, List.getElem?_cons_succ, List.getElem?_cons_zero, bind_ok, v_isistr, Option.map_some, orO_some, v_tbl, Bool.not_true, Bool.false_eq_true, if_false, v_chn, v_con, v_bi, v_es1, v_es0, v_lens, v_le, List.length_cons, Int.natCast_add, Int.cast_ofNat_Int, h1, decide_true, v_glb, e8, ofO_s, h8', v_cmp, v_ix, hx, eF, v_nin, hc, v_ss0, v_ss1, v_ret, v_lc, v_is, hch, hl, nox_ok, hal, v_out1]
        · have hc' : A26.contains c = false := by simpa using hc
          have hn : nmB (.str (c :: r)) = false := by simp only [nmB, nmW, List.headD_cons, hc', Bool.false_and, Bool.and_false]
          rw [hn]
          rw [b12, v_ss1, v_if, v_cond]
          simp only [v_or, v_not, v_isi, v_var, List.getElem?_cons_succ, List.getElem?_cons_zero, bind_ok, v_isistr, Option.map_some, orO_some, v_tbl, Bool.not_true, Bool.false_eq_true, if_false, v_chn, v_con, v_bi, v_es1, v_es0, v_lens, v_le, List.length_cons, Int.natCast_add, Int.cast_ofNat_Int, h1, decide_true, v_glb, e8, ofO_s, h8', v_cmp, v_ix, hx, eF, v_nin, hc', Bool.not_false, if_true, v_ss0, v_ss1, v_ret, v_out1]
      · have h8' : ¬ ((r.length : Int) + 1 ≤ 8) := by simp at h8; omega
        have hn : nmB (.str (c :: r)) = false := by simp only [nmB, nmW, decide_eq_false h8, Bool.false_and, Bool.and_false]
        rw [hn]
        simp [b12, h1, e8, h8']
  | _ => simp [isStr] at hi; simp [b12, hi, nmB]

end Bs.K45
namespace Bs.K45
open Bs

theorem inF_flat (x : D) (pre : List D) (h1 : flat x = true) (h2 : pre.all flat = true) : inF x pre = some (pre.any fun y => eqB y x) := by simp only [inF, h1, h2, Bool.and_self, if_true]
theorem nin_flat (x : D) (pre : List D) (h1 : flat x = true) (h2 : pre.all flat = true) : compare .nin x (.tup pre) = some (.bl (!(pre.any fun y => eqB y x))) := by
  show (inF x pre).map (fun r => D.bl !r) = _
  rw [inF_flat x pre h1 h2]; rfl
theorem inn_flat (x : D) (pre : List D) (h1 : flat x = true) (h2 : pre.all flat = true) : compare .in_ x (.tup pre) = some (.bl (pre.any fun y => eqB y x)) := by
  show (inF x pre).map D.bl = _
  rw [inF_flat x pre h1 h2]; rfl
theorem flat_gd {x : D} (h : flat x = true) : gd 1 x = true := by cases x <;> first | rfl | (simp [flat] at h)
theorem are_l (k : Nat) (A : Sl) (xs : List D) (hf : xs.all flat = true) (μ : Sto) : ∀ (r pre acc : List D), pre ++ r = xs → acc.length + r.length ≤ 1000000 → lcL (turnC gl (cl (k + 1)) [.val (.tup xs), A, .un, .un] [2, 3] none c13_0) (enumL pre.length r) acc μ = .ok (acc ++ (nmsL pre r).map D.bl) μ
  | [], pre, acc, _, _ => by simp [enumL, lcL, nmsL]
  | x :: r, pre, acc, e, hl => by
    rw [List.length_cons] at hl
    have ih := are_l k A xs hf μ r (pre ++ [x]) (acc ++ [.bl (nmB x && !(pre.any fun y => eqB y x))]) (by rw [← e]; simp) (by simp; omega)
    have hx : flat x = true := by rw [← e] at hf; simp [List.all_append] at hf; exact hf.2.1
    have hp : pre.all flat = true := by rw [← e, List.all_append, Bool.and_eq_true] at hf; exact hf.1
    have h1 := is_name_s k (flat_gd hx) μ
    have h2 := nin_flat x pre hx hp
    have hs : slice (.tup xs) none (some ((pre.length : Nat) : Int)) = some (.tup pre) := by
      simp only [slice, cut_to]; rw [← e]; simp
    have ha : acc.length < 1000000 := by omega
    rw [show enumL pre.length (x :: r) = .tup [.int ((pre.length : Nat) : Int), x] :: enumL (pre.length + 1) r from rfl]
    unfold lcL
    have et : turnC gl (cl (k + 1)) [.val (.tup xs), A, .un, .un] [2, 3] none c13_0 (.tup [.int ((pre.length : Nat) : Int), x]) acc μ = .ok (acc ++ [.bl (nmB x && !(pre.any fun y => eqB y x))]) μ := by
      unfold turnC setTR
      cases hb : nmB x with
      | true =>
        rw [hb] at h1
        simp only [v_wipe1, v_wipe0, v_setT2, List.set_cons_succ, List.set_cons_zero, v_c0, bind_ok, if_true, c13_0, v_and, v_call, v_es1, v_es0, v_var, List.getElem?_cons_succ, List.getElem?_cons_zero, List.append_nil, v_arr1, h1, back_ok, v_tbl, v_cmp, v_sl, v_o0, v_o1, intR, hs, orO_some, h2, addL, ha, Bool.true_and]
      | false =>
        rw [hb] at h1
        simp only [v_wipe1, v_wipe0, v_setT2, List.set_cons_succ, List.set_cons_zero, v_c0, bind_ok, if_true, c13_0, v_and, v_call, v_es1, v_es0, v_var, List.getElem?_cons_succ, List.getElem?_cons_zero, List.append_nil, v_arr1, h1, back_ok, v_tbl, Bool.false_eq_true, if_false, addL, ha, Bool.false_and]
    rw [et]
    simp only [bind_ok]
    rw [show (pre ++ [x]).length = pre.length + 1 from by simp] at ih
    rw [ih, List.append_assoc]
    rfl
theorem ltN (a b : Nat) : ((a : Int) < (b : Int)) = (a < b) := by rw [eq_iff_iff]; omega
theorem are_s (k : Nat) {n : Nat} {d : D} (h : gd n d = true) (hf : flT d = true) (least : Nat) (μ : Sto) : cl (k + 2) 13 [d, .int ((least : Nat) : Int)] μ = .ok (.bl (nmsB least d)) μ := by
  show (xSs gl (cl (k + 1)) b13 [.val d, .val (.int least), .un, .un] μ).bind (outF false) = _
  have ht := gd_isT h
  cases d with
  | tup xs =>
    by_cases hl : xs.length < least
    · have h1 : ¬ least ≤ xs.length := by omega
      simp [b13, ltN, hl, nmsB, h1]
    · have h1 : least ≤ xs.length := by omega
      have hlen : xs.length ≤ 1000 := by
        cases n with
        | zero => simp [gd] at h
        | succ n => rw [gd_tup] at h; exact h.1
      have h2 := are_l k (.val (.int least)) xs hf μ xs [] [] rfl (by simp; omega)
      have h3 := all_bl (nmsL [] xs)
      simp only [List.length_nil, List.nil_append] at h2
      simp [b13, ltN, hl, nmsB, h1, h2, h3]
  | _ => simp [isTupD] at ht; simp [b13, ht, nmsB]
theorem eqB_flat {x y : D} (h : flat y = true) : eqB y x = true → flat x = true := by
  cases y <;> cases x <;> simp [eqB, flat] at h ⊢
theorem rng_map (n : Nat) (h : n ≤ 1000) : rangeD [.int ((n : Nat) : Int)] = some (.lst ((List.range n).map fun i => .int ((0 + i : Nat) : Int))) := by
  rw [rng_nat (by omega)]
  congr 2
end Bs.K45
namespace Bs.K45
open Bs

theorem form_s (k : Nat) {n : Nat} {d : D} (h : gd n d = true) (μ : Sto) : cl (k + 3) 14 [d] μ = .ok (.bl (formB d)) μ := by
  show (xSs gl (cl (k + 2)) b14 [.val d] μ).bind (outF false) = _
  have ht := gd_isT h
  have g8 : gl 3 = some (.int 8) := rfl
  have g4 : gl 4 = some (.int 4) := rfl
  cases d with
  | tup xs =>
    obtain ⟨m, rfl⟩ : ∃ m, n = m + 1 := by cases n with | zero => simp [gd] at h | succ m => exact ⟨m, rfl⟩
    rw [gd_tup] at h
    obtain ⟨hl, hd, hx⟩ := h
    cases xs with
    | nil => simp [b14, formB]
    | cons x r =>
      have hsx := gd_isS (hx x (by simp))
      have hl0 : ¬ ((r.length : Int) + 1 = 0) := by omega
      cases x with
      | str s =>
        by_cases h1 : s = sStop
        · subst h1
          cases r with
          | nil => simp [b14, pix0, formB]
          | cons y r =>
            have h3 : ¬ ((r.length : Int) + 1 + 1 = 0) := by omega
            have h2 : ¬ ((r.length : Int) + 1 + 1 = 1) := by omega
            simp [b14, pix0, formB, h2, h3]
        · by_cases h2 : s = sDo
          · subst h2
            match r, hl, hd, hx with
            | [], _, _, _ => simp [b14, pix0, formB]
            | [y], _, _, _ => simp [b14, pix0, formB]
            | [y, z], _, hd, hx =>
              simp only [doF, decide_true, Bool.not_true, Bool.false_or, Bool.and_eq_true] at hd
              have e1 := are_s k (hx y (by simp)) hd.1 1 μ
              have e2 := are_s k (hx z (by simp)) hd.2 0 μ
              simp only [Int.ofNat_one] at e1
              have e1' : cl (k + 2) 13 [y, .int 1] μ = .ok (.bl (nmsB 1 y)) μ := e1
              have e2' : cl (k + 2) 13 [z, .int 0] μ = .ok (.bl (nmsB 0 z)) μ := e2
              cases hb : nmsB 1 y <;> rw [hb] at e1' <;> simp [b14, pix0, pix1, pix2, formB, e1', e2', hb]
            | y :: z :: w :: r, _, _, _ =>
              have h3 : ¬ ((r.length : Int) + 1 + 1 + 1 + 1 = 0) := by omega
              have h2 : ¬ ((r.length : Int) + 1 + 1 + 1 + 1 = 3) := by omega
              simp [b14, pix0, formB, h2, h3]
          · by_cases h3 : s = sLoop
            · subst h3
              match r with
              | [] => simp [b14, pix0, formB]
              | [y] => simp [b14, pix0, formB]
              | y :: z :: r =>
                have h3 : ¬ ((r.length : Int) + 1 + 1 + 1 = 0) := by omega
                have h2 : ¬ ((r.length : Int) + 1 + 1 + 1 = 2) := by omega
                simp [b14, pix0, formB, h2, h3]
            · by_cases h4 : s = sRow
              · subst h4
                match r, hx with
                | [], _ => simp [b14, pix0, formB]
                | [y], hx =>
                  have hty := gd_isT (hx y (by simp))
                  cases y with
                  | tup ys =>
                    by_cases a1 : 1 ≤ ys.length
                    · have a1' : (1 : Int) ≤ (ys.length : Int) := by omega
                      by_cases a2 : ys.length ≤ 8
                      · have a2' : (ys.length : Int) ≤ 8 := by omega
                        simp [b14, pix0, pix1, formB, g8, a1, a1', a2, a2']
                      · have a2' : ¬ (ys.length : Int) ≤ 8 := by omega
                        simp [b14, pix0, pix1, formB, g8, a1, a1', a2, a2']
                    · have a1' : ¬ (1 : Int) ≤ (ys.length : Int) := by omega
                      simp [b14, pix0, pix1, formB, g8, a1, a1']
                  | _ => simp [isTupD] at hty; simp [b14, pix0, pix1, formB, hty]
                | y :: z :: r, _ =>
                  have h3 : ¬ ((r.length : Int) + 1 + 1 + 1 = 0) := by omega
                  have h2 : ¬ ((r.length : Int) + 1 + 1 + 1 = 2) := by omega
                  simp [b14, pix0, formB, h2, h3]
              · by_cases h5 : s = sCho
                · subst h5
                  match r, hx with
                  | [], _ => simp [b14, pix0, formB]
                  | [y], hx =>
                    have hty := gd_isT (hx y (by simp))
                    cases y with
                    | tup ys =>
                      by_cases a1 : 2 ≤ ys.length
                      · have a1' : (2 : Int) ≤ (ys.length : Int) := by omega
                        by_cases a2 : ys.length ≤ 4
                        · have a2' : (ys.length : Int) ≤ 4 := by omega
                          simp [b14, pix0, pix1, formB, g4, a1, a1', a2, a2']
                        · have a2' : ¬ (ys.length : Int) ≤ 4 := by omega
                          simp [b14, pix0, pix1, formB, g4, a1, a1', a2, a2']
                      · have a1' : ¬ (2 : Int) ≤ (ys.length : Int) := by omega
                        simp [b14, pix0, pix1, formB, g4, a1, a1']
                    | _ => simp [isTupD] at hty; simp [b14, pix0, pix1, formB, hty]
                  | y :: z :: r, _ =>
                    have h3 : ¬ ((r.length : Int) + 1 + 1 + 1 = 0) := by omega
                    have h2 : ¬ ((r.length : Int) + 1 + 1 + 1 = 2) := by omega
                    simp [b14, pix0, formB, h2, h3]
                · simp [b14, pix0, formB, h1, h2, h3, h4, h5, hl0]
      | _ => simp [isStr] at hsx; simp [b14, pix0, hsx, hl0, formB]
  | _ => simp [isTupD] at ht; simp [b14, ht, formB]
end Bs.K45
namespace Bs.K45
open Bs

/-! ### ends -/
theorem any_bl (bs : List Bool) : builtin .any [.lst (bs.map D.bl)] = some (.bl (bs.any id)) := by
  show ((boolsD (bs.map D.bl)).map fun bs => D.bl (bs.any id)) = _
  rw [bools_bl]; rfl
theorem end_s (μ : Sto) : ∀ (f k : Nat) (d : D), Fo f d → cl (k + f) 15 [d] μ = .ok (.bl (endB f d)) μ
  | 0, k, d, h => by cases h
  | f + 1, k, d, h => by
    show (xSs gl (cl (k + f)) b15 [.val d, .un] μ).bind (outF false) = _
    cases h with
    | mk f d v hv hp =>
      have ih := fun x hx => end_s μ f k x (hp x hx)
      have e : endB (f + 1) d = v.ends (endB f) := by
        rw [endB, hv.vp]
      rw [e]
      cases hv with
      | doo x y => simp [b15, pix0, Vp.ends]
      | stop => simp [b15, pix0, Vp.ends]
      | loop x => simp [b15, pix0, Vp.ends]
      | row xs h1 h2 =>
        have hne : xs ≠ [] := fun z => by rw [z] at h1; simp at h1
        have hl := pixl hne μ
        have hm : xs.getLast?.getD .non ∈ xs := by rw [List.getLast?_eq_some_getLast hne]; exact List.getLast_mem hne
        have := ih _ hm
        simp [b15, pix0, pix1, hl, this, Vp.ends]
      | cho xs h1 h2 =>
        have hc : lcL (turnC gl (cl (k + f)) [.val (.tup [.str sCho, .tup xs]), .un] [1] none c15_0) (xs.map id) [] μ = .ok ((xs.map (endB f)).map D.bl) μ := by
          refine lc_bool id (endB f) xs (fun x hx acc hacc => ?_) (by omega)
          have := ih x hx
          unfold turnC setTR
          simp only [id, v_wipe1, v_wipe0, v_setT, List.set_cons_succ, List.set_cons_zero, v_c0, bind_ok, if_true, c15_0, v_call, v_es1, v_es0, v_var, List.getElem?_cons_succ, List.getElem?_cons_zero, List.append_nil, v_arr1, this, back_ok, addL, hacc]
        rw [List.map_id] at hc
        show _ = R.ok (D.bl (xs.any (endB f))) μ
        have ha := any_bl (xs.map (endB f))
        have hq : (xs.map (endB f)).any id = xs.any (endB f) := by rw [List.any_map]; rfl
        rw [hq] at ha
        rw [b15, v_ss1, v_if, v_cond]
        have c1 : compare .eq (.str sCho) (.str [114, 111, 119]) = some (.bl false) := by simp
        have c2 : compare .eq (.str sCho) (.str [99, 104, 111, 111, 115, 101]) = some (.bl true) := by simp
        simp only [v_cmp, v_ix, v_var, v_con, List.getElem?_cons_succ, List.getElem?_cons_zero, bind_ok, pix0, c1, orO_some, v_tbl, Bool.false_eq_true, if_false, v_ss0]
        rw [v_ss1, v_if, v_cond]
        simp only [v_cmp, v_ix, v_var, v_con, List.getElem?_cons_succ, List.getElem?_cons_zero, bind_ok, pix0, pix1, c2, orO_some, v_tbl, if_true, v_ss0, v_ss1, v_ret, v_bi, v_es1, v_es0, v_lc, v_itt, hc, nox_ok, ha, v_out1]
/-! ### the first wrong node -/
def optD : Option (List D) → D
  | none => .non
  | some p => .tup p
def encW (r : Option (List D) × Nat) : D := .tup [optD r.1, .int ((r.2 : Nat) : Int)]
theorem inner_s (k : Nat) {d : D} {v : Vp} (h : Fp d v) (hd : v.isDo = false) (μ : Sto) : cl (k + 1) 11 [d] μ = .ok (.tup v.parts) μ := by
  show (xSs gl (cl k) b11 [.val d] μ).bind (outF false) = _
  cases h with
  | doo x y => cases hd
  | stop => simp [b11, pix0, in_str2, Vp.parts]
  | loop x => simp [b11, pix0, pix1, in_str2, Vp.parts]
  | row xs _ _ => simp [b11, pix0, pix1, in_str2, Vp.parts]
  | cho xs _ _ => simp [b11, pix0, pix1, in_str2, Vp.parts]
theorem lparts_s (k : Nat) {d : D} {v : Vp} (h : Fp d v) (hd : v.isDo = false) (μ : Sto) : cl (k + 1) 8 [d] μ = .ok (.tup v.parts) μ := by
  show (xSs gl (cl k) b8 [.val d] μ).bind (outF false) = _
  cases h with
  | doo x y => cases hd
  | stop => simp [b8, pix0, in_str2, Vp.parts]
  | loop x => simp [b8, pix0, pix1, in_str2, Vp.parts]
  | row xs _ _ => simp [b8, pix0, pix1, in_str2, Vp.parts]
  | cho xs _ _ => simp [b8, pix0, pix1, in_str2, Vp.parts]
/-- the test that a part must end -/
theorem must_e (K : Nat) (γ : Ga) {d : D} {v : Vp} {j : Nat} (h : Fp d v) (hj : j < v.parts.length) (h0 : γ[0]? = some (.val d)) (h3 : γ[3]? = some (.val (.tup v.parts))) (h4 : γ[4]? = some (.val (.int ((j : Nat) : Int)))) (μ : Sto) : xE gl (cl K) (.or (.cmp .eq (.ix (.var 0) (.con (.int 0))) (.con (.str [108, 111, 111, 112]))) (.and (.cmp .eq (.ix (.var 0) (.con (.int 0))) (.con (.str [114, 111, 119]))) (.cmp .lt (.var 4) (.bin .sub (.bi .len [(.var 3)]) (.con (.int 1)))))) γ μ = .ok (.bl (v.must j)) μ := by
  cases h with
  | doo x y => simp [Vp.parts] at hj
  | stop => simp [Vp.parts] at hj
  | loop x => simp [h0, pix0, Vp.must]
  | row xs _ _ =>
    have e : ((j : Int) < (xs.length : Int) - 1) = (j + 1 < xs.length) := by rw [eq_iff_iff]; omega
    simp only [Vp.parts] at h3
    simp [h0, h3, h4, pix0, Vp.must, e]
  | cho xs _ _ => simp [h0, pix0, Vp.must]
theorem e_wrong (k : Nat) (a b c : D) (μ : Sto) : cl (k + 1) 16 [a, b, c] μ = (xSs gl (cl k) b16 [.val a, .val b, .val c, .un, .un, .un, .un, .un] μ).bind (outF false) := rfl
theorem wrong_l (μ : Sto) {f K : Nat} (hK : f + 1 ≤ K) {d : D} {v : Vp} (hv : Fp d v) (ih : ∀ (d : D) (path : List D) (c : Nat), gd 50 d = true → path.length + f = 6 → cl K 16 [d, .tup path, .int ((c : Nat) : Int)] μ = .ok (encW (wr f d path c)) μ) : ∀ (xs : List D) (j : Nat) (path : List D) (c : Nat), (∀ x ∈ xs, gd 50 x = true) → path.length + (f + 1) = 6 → j + xs.length ≤ v.parts.length →
    ((forL (turn gl (cl K) [4, 5] l16_0) [4, 5, 6, 7] (enumL j xs) [.val d, .val (.tup path), .val (.int ((c : Nat) : Int)), .val (.tup v.parts), .un, .un, .un, .un] μ).bind fun fl μ => match fl with | .nx γ' => xSs gl (cl K) [.ret (.tup [(.con .non), (.var 2)])] γ' μ | _ => .ok fl μ) = .ok (.rt (encW (wrs (wr f) v.must (endB f) xs j path c))) μ
  | [], j, path, c, hn, hp, hj => by simp [enumL, wrs, encW, optD]
  | x :: r, j, path, c, hn, hp, hj => by
    rw [List.length_cons] at hj
    have h1 := ih x (path ++ [.int ((j : Nat) : Int)]) c (hn x (by simp)) (by simp; omega)
    have ha := v_addt path [.int ((j : Nat) : Int)] (by simp; omega)
    rw [show enumL j (x :: r) = .tup [.int ((j : Nat) : Int), x] :: enumL (j + 1) r from rfl, forL_cons]
    unfold wrs
    cases hr : wr f x (path ++ [.int ((j : Nat) : Int)]) c with
    | mk o c1 =>
      rw [hr] at h1
      cases o with
      | some q =>
        have nq : compare .isn (.tup q) .non = some (.bl true) := rfl
        simp only [encW, optD] at h1
        have et : turn gl (cl K) [4, 5] l16_0 (.tup [.int ((j : Nat) : Int), x]) [.val d, .val (.tup path), .val (.int ((c : Nat) : Int)), .val (.tup v.parts), .un, .un, .un, .un] μ = .ok (.rt (encW (some q, c1))) μ := by
          simp [turn, l16_0, ha, h1, nq, encW, optD]
        rw [et]
        simp
      | none =>
        have nq : compare .isn .non .non = some (.bl false) := rfl
        simp only [encW, optD] at h1
        have hm := must_e K [.val d, .val (.tup path), .val (.int ((c1 : Nat) : Int)), .val (.tup v.parts), .val (.int ((j : Nat) : Int)), .val x, .un, .val .non] hv (j := j) (by omega) rfl rfl rfl μ
        have hfo := wr_fo f x _ _ _ hr
        have he := end_s μ f (K - f) x hfo
        rw [show K - f + f = K from by omega] at he
        by_cases hme : (v.must j && !endB f x) = true
        · rw [Bool.and_eq_true] at hme
          have hb : endB f x = false := by simpa using hme.2
          rw [hme.1] at hm
          rw [hb] at he
          have et : turn gl (cl K) [4, 5] l16_0 (.tup [.int ((j : Nat) : Int), x]) [.val d, .val (.tup path), .val (.int ((c : Nat) : Int)), .val (.tup v.parts), .un, .un, .un, .un] μ = .ok (.rt (encW (some (path ++ [.int ((j : Nat) : Int)]), c1))) μ := by
            unfold turn l16_0
            simp only [v_setT2, List.set_cons_succ, List.set_cons_zero]
            rw [v_ss1, v_asg]
            simp only [v_call, v_es1, v_es0, v_var, v_bin, v_tup, List.getElem?_cons_succ, List.getElem?_cons_zero, bind_ok, ha, orO_some, List.append_nil, v_arr3, h1, back_ok, v_setT2, List.set_cons_succ, List.set_cons_zero]
            rw [v_ss1, v_if, v_cond]
            simp only [v_cmp, v_var, v_con, List.getElem?_cons_succ, List.getElem?_cons_zero, bind_ok, nq, orO_some, v_tbl, Bool.false_eq_true, if_false, v_ss0]
            rw [v_ss1, v_asg, hm]
            simp only [bind_ok, v_setT, List.set_cons_succ, List.set_cons_zero]
            rw [v_ss1, v_if, v_cond]
            simp only [v_and, v_not, v_var, List.getElem?_cons_succ, List.getElem?_cons_zero, bind_ok, v_tbl, if_true, v_call, v_es1, v_es0, List.append_nil, v_arr1, he, back_ok, Bool.not_false, v_ss1, v_ret, v_tup, v_bin, ha, orO_some, encW, optD]
          rw [et, hme.1, hb]
          simp
        · have et : turn gl (cl K) [4, 5] l16_0 (.tup [.int ((j : Nat) : Int), x]) [.val d, .val (.tup path), .val (.int ((c : Nat) : Int)), .val (.tup v.parts), .un, .un, .un, .un] μ = .ok (.nx [.val d, .val (.tup path), .val (.int ((c1 : Nat) : Int)), .val (.tup v.parts), .val (.int ((j : Nat) : Int)), .val x, .val (.bl (v.must j)), .val .non]) μ := by
            unfold turn l16_0
            simp only [v_setT2, List.set_cons_succ, List.set_cons_zero]
            rw [v_ss1, v_asg]
            simp only [v_call, v_es1, v_es0, v_var, v_bin, v_tup, List.getElem?_cons_succ, List.getElem?_cons_zero, bind_ok, ha, orO_some, List.append_nil, v_arr3, h1, back_ok, v_setT2, List.set_cons_succ, List.set_cons_zero]
            rw [v_ss1, v_if, v_cond]
            simp only [v_cmp, v_var, v_con, List.getElem?_cons_succ, List.getElem?_cons_zero, bind_ok, nq, orO_some, v_tbl, Bool.false_eq_true, if_false, v_ss0]
            rw [v_ss1, v_asg, hm]
            simp only [bind_ok, v_setT, List.set_cons_succ, List.set_cons_zero]
            rw [v_ss1, v_if, v_cond]
            cases hmu : v.must j with
            | false => simp only [v_and, v_not, v_var, List.getElem?_cons_succ, List.getElem?_cons_zero, bind_ok, v_tbl, Bool.false_eq_true, if_false, v_ss0]
            | true =>
              have hb : endB f x = true := by rw [hmu] at hme; simpa using hme
              rw [hb] at he
              simp only [v_and, v_not, v_var, List.getElem?_cons_succ, List.getElem?_cons_zero, bind_ok, v_tbl, if_true, v_call, v_es1, v_es0, List.append_nil, v_arr1, he, back_ok, Bool.not_true, Bool.false_eq_true, if_false, v_ss0]
          rw [et]
          dsimp only
          rw [if_neg hme]
          have := wrong_l μ hK hv ih r (j + 1) path c1 (fun y hy => hn y (by simp [hy])) hp (by omega)
          simp only [bind_ok, v_wipe1, v_wipe0, List.set_cons_succ, List.set_cons_zero]
          exact this
theorem wrong_s (μ : Sto) : ∀ (f k : Nat) (d : D) (path : List D) (c : Nat), gd 50 d = true → path.length + f = 6 → cl (k + f + 4) 16 [d, .tup path, .int ((c : Nat) : Int)] μ = .ok (encW (wr f d path c)) μ
  | 0, k, d, path, c, hn, hp => by
    rw [e_wrong]
    have h6 : (6 : Int) ≤ path.length := by omega
    have g6 : gl 5 = some (.int 6) := rfl
    simp [b16, g6, h6, wr, encW, optD]
  | f + 1, k, d, path, c, hn, hp => by
    have h6 : ¬ (6 : Int) ≤ path.length := by omega
    have g6 : gl 5 = some (.int 6) := rfl
    have g16 : gl 6 = some (.int 16) := rfl
    have h1 : cl (k + f + 4) 14 [d] μ = .ok (.bl (formB d)) μ := form_s (k + f + 1) hn μ
    rw [show k + (f + 1) + 4 = (k + f + 4) + 1 from by omega, e_wrong]
    unfold wr
    cases hf : formB d with
    | false =>
      rw [hf] at h1
      simp [b16, g6, h6, h1, encW, optD]
    | true =>
      rw [hf] at h1
      have hv := form_fp hf
      rw [if_neg (by simp)]
      cases hd : (vp d).isDo with
      | true =>
        rw [if_pos rfl]
        have hdd : ∃ x y, d = .tup [.str sDo, x, y] := by
          cases hq : vp d <;> rw [hq] at hd hv <;> simp [Vp.isDo] at hd
          cases hv; exact ⟨_, _, rfl⟩
        obtain ⟨x, y, rfl⟩ := hdd
        by_cases h16 : 16 ≤ c
        · have : (16 : Int) ≤ (c : Int) := by omega
          simp [b16, g6, g16, h6, h1, pix0, h16, this, encW, optD]
        · have : ¬ (16 : Int) ≤ (c : Int) := by omega
          simp [b16, g6, g16, h6, h1, pix0, h16, this, encW, optD]
      | false =>
        rw [if_neg (by simp)]
        have h2 : cl (k + f + 4) 11 [d] μ = .ok (.tup (vp d).parts) μ := inner_s (k + f + 3) hv hd μ
        have key := wrong_l μ (f := f) (K := k + f + 4) (by omega) hv (fun d path c a b => wrong_s μ f k d path c a b) (vp d).parts 0 path c (gd_part hv hn) (by omega) (by omega)
        generalize wrs (wr f) (vp d).must (endB f) (vp d).parts 0 path c = RR at key ⊢
        obtain ⟨s, r, e1, e2⟩ : ∃ s r, d = .tup (.str s :: r) ∧ s ≠ sDo := by
          cases hq : vp d <;> rw [hq] at hd hv <;> cases hv
          · cases hd
          · exact ⟨_, _, rfl, by decide⟩
          · exact ⟨_, _, rfl, by decide⟩
          · exact ⟨_, _, rfl, by decide⟩
          · exact ⟨_, _, rfl, by decide⟩
        have c1 : compare .eq (.str s) (.str [100, 111]) = some (.bl false) := by rw [v_eqss, decide_eq_false e2]
        have hx0 : ixR d (.int 0) μ = .ok (.str s) μ := by rw [e1]; exact pix0 _ _ _
        rw [b16, v_ss1, v_if, v_cond]
        simp only [v_or, v_not, v_cmp, v_bi, v_es1, v_es0, v_var, v_glb, List.getElem?_cons_succ, List.getElem?_cons_zero, bind_ok, v_lent, orO_some, g6, ofO_s, v_ge, decide_eq_false h6, v_tbl, Bool.false_eq_true, if_false, v_call, List.append_nil, v_arr1, h1, back_ok, Bool.not_true, v_ss0]
        rw [v_ss1, v_if, v_cond]
        simp only [v_cmp, v_ix, v_var, v_con, List.getElem?_cons_succ, List.getElem?_cons_zero, bind_ok, hx0, c1, orO_some, v_tbl, Bool.false_eq_true, if_false, v_ss0]
        rw [v_ss1, v_asg]
        simp only [v_call, v_es1, v_es0, v_var, List.getElem?_cons_succ, List.getElem?_cons_zero, bind_ok, List.append_nil, v_arr1, h2, back_ok, v_setT, List.set_cons_succ, List.set_cons_zero]
        rw [v_ss1, v_for]
        simp only [v_enu, v_var, List.getElem?_cons_succ, List.getElem?_cons_zero, bind_ok, v_it, Option.map_some, ofO_s, v_il]
        exact (congrArg (fun r : R Fl => r.bind (outF false)) key).trans (by simp)

end Bs.K45
namespace Bs.K45
open Bs

theorem v_addt (a b : List D) (h : a.length + b.length ≤ 1000000) : binop .add (.tup a) (.tup b) = some (.tup (a ++ b)) := by simp [binop, h]
theorem v_addl (a b : List D) (h : a.length + b.length ≤ 1000000) : binop .add (.lst a) (.lst b) = some (.lst (a ++ b)) := by simp [binop, h]
theorem v_lopl (a b : List D) (h : a.length + b.length ≤ 1000000) : lopD .add (.lst a) (.lst b) = some (.lst (a ++ b)) := by simp [lopD, binop, h]
theorem sl_tup (d : D) (R : List D) : slice (.tup (d :: R)) (some 1) none = some (.tup R) := by simp only [slice, cut_tl, List.tail_cons]
theorem sl_lst (d : D) (R : List D) : slice (.lst (d :: R)) (some 1) none = some (.lst R) := by simp only [slice, cut_tl, List.tail_cons]
theorem tup_tup (R : List D) : builtin .tuple [.tup R] = some (.tup R) := Eq.trans rfl rfl
/-! ### openings -/
theorem op_nil (k : Nat) (μ : Sto) : cl (k + 1) 19 [.tup []] μ = .ok (.lst []) μ := by
  show (xSs gl (cl k) b19 [.val (.tup []), .un, .un, .un, .un] μ).bind (outF true) = _
  simp [b19]
theorem e_op (k : Nat) (a : D) (μ : Sto) : cl (k + 1) 19 [a] μ = (xSs gl (cl k) b19 [.val a, .un, .un, .un, .un] μ).bind (outF true) := rfl
theorem op_l (K f : Nat) (A d : D) (R : List D) (hR : R.length ≤ 1000) (μ : Sto) : ∀ (xs acc : List D), (∀ x ∈ xs, cl K 19 [.tup (x :: R)] μ = .ok (.lst (opD f x R)) μ ∧ (opD f x R).length ≤ 4096) → acc.length + xs.length * 4096 ≤ 1000000 → forL (turn gl (cl K) [4] l19_0) [4] xs [.val A, .own (.lst acc), .val d, .val (.tup R), .un] μ = .ok (.nx [.val A, .own (.lst (acc ++ xs.flatMap fun x => opD f x R)), .val d, .val (.tup R), .un]) μ
  | [], acc, _, _ => by simp
  | x :: xs, acc, h, hl => by
    obtain ⟨h1, h2⟩ := h x List.mem_cons_self
    rw [List.length_cons, Nat.succ_mul] at hl
    have ih := op_l K f A d R hR μ xs (acc ++ opD f x R) (fun y hy => h y (List.mem_cons_of_mem _ hy)) (by rw [List.length_append]; omega)
    have a1 := v_addt [x] R (by simp; omega)
    have a2 := v_lopl acc (opD f x R) (by omega)
    have et : turn gl (cl K) [4] l19_0 x [.val A, .own (.lst acc), .val d, .val (.tup R), .un] μ = .ok (.nx [.val A, .own (.lst (acc ++ opD f x R)), .val d, .val (.tup R), .val x]) μ := by
      unfold turn l19_0
      simp only [v_setT, List.set_cons_succ, List.set_cons_zero, v_ss1, v_ss0, v_own, v_lop, v_ovar, v_call, v_es1, v_es0, v_bin, v_tup, v_var, List.getElem?_cons_succ, List.getElem?_cons_zero, bind_ok, a1, orO_some, List.append_nil, v_arr1, List.singleton_append, h1, back_ok, a2]
    rw [forL_cons, et]
    simp only [bind_ok, v_wipe1, v_wipe0, List.set_cons_succ, List.set_cons_zero]
    rw [ih, List.flatMap_cons, List.append_assoc]
theorem op_s (μ : Sto) {f : Nat} {b : Bool} {d : D} (p : Pgx f b d) : ∀ (k : Nat) (R : List D), f ≤ 6 → R.length + 4 * f ≤ 100 → cl (k + f) 19 [.tup (d :: R)] μ = .ok (.lst (opD f d R)) μ := by
  have hn : ∀ R : List D, ¬ ((R.length : Int) + 1 = 0) := fun R => by omega
  induction p with
  | doo f b a c h1 h2 h3 h4 h5 =>
    intro k R hf hl
    rw [← Nat.add_assoc, e_op, op_do]
    simp [b19, hn, pix0, pix1, pix2, sl_tup, tup_tup, intR]
  | stop f =>
    intro k R hf hl
    rw [← Nat.add_assoc, e_op, op_stop]
    simp [b19, hn, pix0, pix1, pix2, sl_tup, tup_tup, intR]
  | loop f x hx ih =>
    intro k R hf hl
    have a1 := v_addt [x, .tup [.str sLoop, x]] R (by simp; omega)
    have := ih k (.tup [.str sLoop, x] :: R) (by omega) (by rw [List.length_cons]; omega)
    rw [← Nat.add_assoc, e_op, op_loop]
    simp only [List.cons_append, List.nil_append] at a1
    simp [b19, hn, pix0, pix1, pix2, sl_tup, tup_tup, intR, a1, this]
  | row f b xs h1 h2 hx ih =>
    intro k R hf hl
    cases xs with
    | nil => simp at h1
    | cons x r =>
      rw [List.length_cons] at h2
      have a1 := v_addt (x :: r) R (by simp; omega)
      have := ih 0 x rfl k (r ++ R) (by omega) (by rw [List.length_append]; omega)
      rw [← Nat.add_assoc, e_op, op_row _ _ _ _ (by rw [List.length_cons]; omega)]
      simp only [List.cons_append] at a1
      simp [b19, hn, pix0, pix1, pix2, sl_tup, tup_tup, intR, a1, this]
  | cho f b xs n h1 h2 h3 hx ih =>
    intro k R hf hl
    have hl := op_l (k + f) f (.tup (.tup [.str sCho, .tup xs] :: R)) (.tup [.str sCho, .tup xs]) R (by omega) μ xs [] (fun x hm => by
      obtain ⟨i, e⟩ := List.mem_iff_getElem?.mp hm
      have h9 := (hx i x e).dlen
      have h10 := (hx i x e).olen R
      rw [(hx i x e).alen] at h10
      have : 4 ^ f ≤ 4 ^ 6 := Nat.pow_le_pow_right (by decide) (by omega)
      exact ⟨ih i x e k R (by omega) (by omega), by omega⟩) (by simp; omega)
    rw [List.nil_append] at hl
    rw [← Nat.add_assoc, e_op, op_cho _ _ _ h1 h2]
    simp [b19, hn, pix0, pix1, pix2, sl_tup, tup_tup, intR, hl]
/-! ### dos -/
theorem pgx_parts {f : Nat} {b : Bool} {d : D} (p : Pgx (f + 1) b d) : ∃ v, Fp d v ∧ v.parts.length ≤ 4 ∧ ∀ x ∈ v.parts, ∃ b', Pgx f b' x := by
  cases p with
  | doo f b a c h1 h2 h3 h4 h5 => exact ⟨_, .doo _ _, by simp [Vp.parts], fun x hx => by cases hx⟩
  | stop f => exact ⟨_, .stop, by simp [Vp.parts], fun x hx => by cases hx⟩
  | loop f x h => exact ⟨_, .loop x, by simp [Vp.parts], fun y hy => by rw [show y = x from by simpa [Vp.parts] using hy]; exact ⟨_, h⟩⟩
  | row f b xs h1 h2 h => exact ⟨_, .row xs h1 (by omega), h2, fun y hy => by obtain ⟨i, e⟩ := List.mem_iff_getElem?.mp hy; exact ⟨_, h i y e⟩⟩
  | cho f b xs n h1 h2 h3 h => exact ⟨_, .cho xs h1 h2, h2, fun y hy => by obtain ⟨i, e⟩ := List.mem_iff_getElem?.mp hy; exact ⟨_, h i y e⟩⟩
theorem dos_l (K f : Nat) (d : D) (μ : Sto) : ∀ (xs acc : List D), (∀ x ∈ xs, cl K 9 [x] μ = .ok (.lst (dosD f x)) μ ∧ (dosD f x).length ≤ 4096) → acc.length + xs.length * 4096 ≤ 1000000 → forL (turn gl (cl K) [2] l9_0) [2] xs [.val d, .val (.lst acc), .un] μ = .ok (.nx [.val d, .val (.lst (acc ++ xs.flatMap (dosD f))), .un]) μ
  | [], acc, _, _ => by simp
  | x :: xs, acc, h, hl => by
    obtain ⟨h1, h2⟩ := h x List.mem_cons_self
    rw [List.length_cons, Nat.succ_mul] at hl
    have ih := dos_l K f d μ xs (acc ++ dosD f x) (fun y hy => h y (List.mem_cons_of_mem _ hy)) (by rw [List.length_append]; omega)
    have a2 := v_addl acc (dosD f x) (by omega)
    have et : turn gl (cl K) [2] l9_0 x [.val d, .val (.lst acc), .un] μ = .ok (.nx [.val d, .val (.lst (acc ++ dosD f x)), .val x]) μ := by
      unfold turn l9_0
      simp only [v_setT, List.set_cons_succ, List.set_cons_zero, v_ss1, v_ss0, v_asg, v_call, v_es1, v_es0, v_bin, v_var, List.getElem?_cons_succ, List.getElem?_cons_zero, bind_ok, orO_some, List.append_nil, v_arr1, h1, back_ok, a2]
    rw [forL_cons, et]
    simp only [bind_ok, v_wipe1, v_wipe0, List.set_cons_succ, List.set_cons_zero]
    rw [ih, List.flatMap_cons, List.append_assoc]
theorem e_dos (k : Nat) (a : D) (μ : Sto) : cl (k + 1) 9 [a] μ = (xSs gl (cl k) b9 [.val a, .un, .un] μ).bind (outF false) := rfl
theorem dos_s (μ : Sto) : ∀ (f k : Nat) (b : Bool) (d : D), Pgx f b d → f ≤ 6 → cl (k + f + 1) 9 [d] μ = .ok (.lst (dosD f d)) μ
  | 0, k, b, d, p, _ => by cases p
  | f + 1, k, b, d, p, hf => by
    obtain ⟨v, hv, lv, pv⟩ := pgx_parts p
    rw [e_dos, dosD, hv.vp]
    cases hd : v.isDo with
    | true => cases hv <;> first | (cases hd; done) | (simp [b9, pix0])
    | false =>
      have hp := lparts_s (k + f) hv hd μ
      have hl := dos_l (k + (f + 1)) f d μ v.parts [] (fun x hx => by
        obtain ⟨b', px⟩ := pv x hx
        have h9 := px.dlen
        have : 4 ^ f ≤ 4 ^ 6 := Nat.pow_le_pow_right (by decide) (by omega)
        exact ⟨dos_s μ f k b' x px (by omega), by omega⟩) (by simp; omega)
      rw [List.nil_append] at hl
      have hp : cl (k + (f + 1)) 8 [d] μ = .ok (.tup v.parts) μ := hp
      rw [if_neg (by simp)]
      cases hv <;> first | (cases hd; done) | (simp [b9, pix0, hp, hl])

end Bs.K45
namespace Bs.K45
open Bs

abbrev TL (T : List (List D)) : List D := T.map D.tup
theorem _root_.Bs.OpL.rok {T : List (List D)} {n : Nat} {res : List D} (h : OpL T n res) : ∀ r ∈ T, Rok r := by
  induction h with
  | nil => intro r hr; cases hr
  | none T n res _ ih =>
    intro r hr
    rcases List.mem_cons.mp hr with rfl | hr
    · exact ⟨Nat.zero_le _, fun x hx => (List.not_mem_nil hx).elim⟩
    · exact ih r hr
  | stop R T n res h1 _ ih =>
    intro r hr
    rcases List.mem_cons.mp hr with rfl | hr
    · exact h1
    · exact ih r hr
  | doo x y R T n res h1 _ ih =>
    intro r hr
    rcases List.mem_cons.mp hr with rfl | hr
    · exact h1
    · exact ih r hr
  | row x r R T n res h1 _ _ ih =>
    intro r hr
    rcases List.mem_cons.mp hr with rfl | hr
    · exact h1
    · exact ih r (List.mem_cons_of_mem _ hr)
  | loop x R T n res h1 _ ih =>
    intro r hr
    rcases List.mem_cons.mp hr with rfl | hr
    · exact h1
    · exact ih r (List.mem_cons_of_mem _ hr)
  | cho xs R T n res h1 _ _ ih =>
    intro r hr
    rcases List.mem_cons.mp hr with rfl | hr
    · exact h1
    · exact ih r (List.mem_append.mpr (.inr hr))
theorem rok_pl {T : List (List D)} (h : ∀ r ∈ T, Rok r) : plains 59 (TL T) = true := plains_of fun x hx => by
  obtain ⟨r, hr, rfl⟩ := List.mem_map.mp hx
  simp only [plain]
  exact plains_of fun y hy => plain_mono 12 58 y (by decide) ((h r hr).2 y hy)
theorem cmp_nilL (xs : List D) (h : plains 59 xs = true) : compare .eq (.lst xs) (.lst []) = some (.bl xs.isEmpty) := by
  cases xs with
  | nil => simp [compare, eqD, plain, plains, eqB, eqBs]
  | cons x r =>
    simp only [plains, Bool.and_eq_true] at h
    simp [compare, eqD, plain, plains, h.1, h.2, eqB, eqBs]
theorem lc_cho (K : Nat) (γ : Ga) (d : D) (R : List D) (h4 : γ[4]? = some (.val (.tup (d :: R)))) (hl : γ.length = 6) (hR : R.length ≤ 1000) (μ : Sto) : ∀ (xs : List D) (acc : List (List D)), acc.length + xs.length ≤ 1000 → lcL (turnC gl (cl K) γ [5] none c18_0) xs (TL acc) μ = .ok (TL (acc ++ xs.map fun x => x :: R)) μ
  | [], acc, _ => by simp [lcL]
  | x :: xs, acc, ha => by
    rw [List.length_cons] at ha
    have a1 := v_addt [x] R (by simp; omega)
    have g4 : (γ.set 5 (.val x))[4]? = some (.val (.tup (d :: R))) := by rw [List.getElem?_set_ne (by decide)]; exact h4
    have g5 : (γ.set 5 (.val x))[5]? = some (.val x) := List.getElem?_set_self (by rw [hl]; decide)
    have hal : (TL acc).length < 1000000 := by simp; omega
    have et : turnC gl (cl K) γ [5] none c18_0 x (TL acc) μ = .ok (TL (acc ++ [x :: R])) μ := by
      unfold turnC setTR c18_0
      simp only [v_wipe1, v_wipe0, v_setT, List.set_set, v_c0, bind_ok, if_true, v_bin, v_tup, v_es1, v_es0, v_var, g5, v_sl, g4, v_o0, v_o1, v_con, intR, sl_tup, orO_some, a1, addL, hal]
      simp [TL]
    unfold lcL
    rw [et]
    simp only [bind_ok]
    rw [lc_cho K γ d R h4 hl hR μ xs (acc ++ [x :: R]) (by rw [List.length_append, List.length_singleton]; omega)]
    simp
theorem open_l (K : Nat) (A : Sl) (μ : Sto) {T : List (List D)} {n : Nat} {res : List D} (h : OpL T n res) : ∀ (xs acc : List D), n < xs.length → n + acc.length ≤ 9000 →
    forL (turn gl (cl K) [3] l18_0) [3, 4] xs [A, .own (.lst acc), .val (.lst (TL T)), .un, .un, .un] μ = .ok (.rt (.lst (acc ++ res))) μ := by
  have bd : ∀ {T : List (List D)} {n : Nat} {res : List D}, OpL T n res → (TL T).length ≤ n := fun h => by simpa using h.lens.1
  induction h with
  | nil =>
    intro xs acc hn ha
    cases xs with
    | nil => simp at hn
    | cons x xs =>
      have c1 : compare .eq (.lst []) (.lst []) = some (.bl true) := rfl
      rw [forL_cons]
      simp [turn, l18_0, c1]
  | none T n res hT ih =>
    intro xs acc hn ha
    cases xs with
    | nil => simp at hn
    | cons x xs =>
      have hp := rok_pl (OpL.none T n res hT).rok
      have c1 := cmp_nilL _ hp
      have i0 : ixR (.lst (TL ([] :: T))) (.int 0) μ = .ok (.tup []) μ := ix_lst (j := 0) rfl μ
      have c2 : compare .ne (.tup []) (.tup []) = some (.bl false) := cmpn_nil [] rfl
      have := ih xs acc (by simpa using hn) (by omega)
      simp only [TL, List.map_cons, List.isEmpty_cons] at c1 i0
      rw [forL_cons]
      simp [turn, l18_0, c1, i0, sl_lst, c2, intR]
      exact this
  | stop R T n res hk hT ih =>
    intro xs acc hn ha
    cases xs with
    | nil => simp at hn
    | cons x xs =>
      have hp := rok_pl (OpL.stop R T n res hk hT).rok
      have c1 := cmp_nilL _ hp
      have i0 : ixR (.lst (TL ((.tup [.str sStop] :: R) :: T))) (.int 0) μ = .ok (.tup (.tup [.str sStop] :: R)) μ := ix_lst (j := 0) rfl μ
      have c2 := cmpn_nil (.tup [.str sStop] :: R) (plains_of fun x hx => plain_mono 12 59 x (by decide) (hk.2 x hx))
      have := ih xs acc (by simpa using hn) (by omega)
      simp only [TL, List.map_cons, List.isEmpty_cons] at c1 i0
      rw [forL_cons]
      simp [turn, l18_0, c1, i0, sl_lst, c2, intR, pix0]
      exact this
  | doo a b R T n res hk hT ih =>
    intro xs acc hn ha
    cases xs with
    | nil => simp at hn
    | cons x xs =>
      have hp := rok_pl (OpL.doo a b R T n res hk hT).rok
      have c1 := cmp_nilL _ hp
      have i0 : ixR (.lst (TL ((.tup [.str sDo, a, b] :: R) :: T))) (.int 0) μ = .ok (.tup (.tup [.str sDo, a, b] :: R)) μ := ix_lst (j := 0) rfl μ
      have c2 := cmpn_nil (.tup [.str sDo, a, b] :: R) (plains_of fun x hx => plain_mono 12 59 x (by decide) (hk.2 x hx))
      have hal : acc.length < 1000000 := by omega
      have := ih xs (acc ++ [.tup [a, b, .tup R]]) (by simpa using hn) (by rw [List.length_append, List.length_singleton]; omega)
      rw [List.append_assoc, List.singleton_append] at this
      simp only [TL, List.map_cons, List.isEmpty_cons] at c1 i0
      rw [forL_cons]
      simp [turn, l18_0, c1, i0, sl_lst, c2, intR, pix0, pix1, pix2, sl_tup, hal]
      exact this
  | row y r R T n res hk h8 hT ih =>
    intro xs acc hn ha
    cases xs with
    | nil => simp at hn
    | cons x xs =>
      have hp := rok_pl (OpL.row y r R T n res hk h8 hT).rok
      have c1 := cmp_nilL _ hp
      have i0 : ixR (.lst (TL ((.tup [.str sRow, .tup (y :: r)] :: R) :: T))) (.int 0) μ = .ok (.tup (.tup [.str sRow, .tup (y :: r)] :: R)) μ := ix_lst (j := 0) rfl μ
      have c2 := cmpn_nil (.tup [.str sRow, .tup (y :: r)] :: R) (plains_of fun x hx => plain_mono 12 59 x (by decide) (hk.2 x hx))
      have hkl := hk.1
      have a1 := v_addt (y :: r) R (by simp at hkl ⊢; omega)
      have hb := bd hT
      have a2 := v_addl [.tup (y :: (r ++ R))] (TL T) (by simp at hb ⊢; omega)
      have := ih xs acc (by simpa using hn) (by omega)
      simp only [TL, List.map_cons, List.isEmpty_cons] at c1 i0
      simp only [List.cons_append, List.nil_append] at a1 a2
      rw [forL_cons]
      simp [turn, l18_0, c1, i0, sl_lst, c2, intR, pix0, pix1, pix2, sl_tup, a1, a2]
      exact this
  | loop y R T n res hk hT ih =>
    intro xs acc hn ha
    cases xs with
    | nil => simp at hn
    | cons x xs =>
      have hp := rok_pl (OpL.loop y R T n res hk hT).rok
      have c1 := cmp_nilL _ hp
      have i0 : ixR (.lst (TL ((.tup [.str sLoop, y] :: R) :: T))) (.int 0) μ = .ok (.tup (.tup [.str sLoop, y] :: R)) μ := ix_lst (j := 0) rfl μ
      have c2 := cmpn_nil (.tup [.str sLoop, y] :: R) (plains_of fun x hx => plain_mono 12 59 x (by decide) (hk.2 x hx))
      have hkl := hk.1
      have a1 := v_addt [y, .tup [.str sLoop, y]] R (by simp at hkl ⊢; omega)
      have hb := bd hT
      have a2 := v_addl [.tup (y :: .tup [.str sLoop, y] :: R)] (TL T) (by simp at hb ⊢; omega)
      have := ih xs acc (by simpa using hn) (by omega)
      simp only [TL, List.map_cons, List.isEmpty_cons] at c1 i0
      simp only [List.cons_append, List.nil_append] at a1 a2
      rw [forL_cons]
      simp [turn, l18_0, c1, i0, sl_lst, c2, intR, pix0, pix1, pix2, sl_tup, a1, a2]
      exact this
  | cho ys R T n res hk h8 hT ih =>
    intro xs acc hn ha
    cases xs with
    | nil => simp at hn
    | cons x xs =>
      have hp := rok_pl (OpL.cho ys R T n res hk h8 hT).rok
      have c1 := cmp_nilL _ hp
      have i0 : ixR (.lst (TL ((.tup [.str sCho, .tup ys] :: R) :: T))) (.int 0) μ = .ok (.tup (.tup [.str sCho, .tup ys] :: R)) μ := ix_lst (j := 0) rfl μ
      have c2 := cmpn_nil (.tup [.str sCho, .tup ys] :: R) (plains_of fun x hx => plain_mono 12 59 x (by decide) (hk.2 x hx))
      have hkl := hk.1
      have hb := bd hT
      have hc := lc_cho K [A, .own (.lst acc), .val (.lst (TL T)), .val x, .val (.tup (.tup [.str sCho, .tup ys] :: R)), .un] (.tup [.str sCho, .tup ys]) R rfl rfl (by simp at hkl; omega) μ ys [] (by simp; omega)
      have a2 := v_addl (TL (ys.map fun x => x :: R)) (TL T) (by simp at hb ⊢; omega)
      have := ih xs acc (by simpa using hn) (by omega)
      simp only [TL, List.map_cons, List.isEmpty_cons] at c1 i0
      simp only [List.nil_append, TL, List.map_nil, List.map_map] at hc a2
      rw [forL_cons]
      simp only [TL, List.map_append, List.map_map] at this
      simp [turn, l18_0, c1, i0, sl_lst, c2, intR, pix0, pix1, pix2, sl_tup, hc, a2]
      exact this
theorem open_s (k : Nat) (μ : Sto) {r : List D} {n : Nat} (hn : n ≤ 4096) (h : OpL [r] n (opR r)) : cl (k + 1) 18 [.tup r] μ = .ok (.lst (opR r)) μ := by
  show (xSs gl (cl k) b18 [.val (.tup r), .un, .un, .un, .un, .un] μ).bind (outF false) = _
  have hr : rangeD [.int 9000] = some (.lst (rangeL 0 9000)) := rng_int (by decide)
  have hll : (rangeL 0 9000).length = 9000 := by simp [rangeL]
  have hl := open_l k (.val (.tup r)) μ h (rangeL 0 9000) [] (by rw [hll]; omega) (by simp; omega)
  simp only [TL, List.map_cons, List.map_nil, List.nil_append] at hl
  generalize rangeL 0 9000 = L at hr hl
  rw [b18, v_ss1]
  simp only [v_own, v_lst, v_es0, bind_ok, List.set_cons_succ, List.set_cons_zero]
  rw [v_ss1]
  simp only [v_asg, v_lst, v_es1, v_es0, v_bi, v_var, List.getElem?_cons_succ, List.getElem?_cons_zero, bind_ok, tup_tup, orO_some, v_setT, List.set_cons_succ, List.set_cons_zero]
  rw [v_ss1]
  simp only [v_for, v_rng1, v_con, bind_ok, hr, ofO_s, v_il, hl, v_out1]
/-! ### a good program -/
theorem need_s (k : Nat) {d : D} (p : Pgx 6 false d) (hd : (dosD 6 d).length ≤ 16) (μ : Sto) : cl (k + 11) 17 [d] μ = .ok .non μ := by
  have e1 : cl (k + 11) 17 [d] μ = (xSs gl (cl (k + 10)) b17 [.val d, .un] μ).bind (outF false) := rfl
  have hw : cl (k + 10) 16 [d, .tup [], .int 0] μ = .ok (encW (wr 6 d [] 0)) μ := wrong_s μ 6 k d [] 0 (gd_mono (by decide) p.pgm.gd) rfl
  rw [p.wr [] 0 (by omega)] at hw
  have n1 : compare .isn .non .non = some (.bl false) := rfl
  rw [e1]
  simp [b17, hw, encW, optD, n1, outF]
theorem good_s (k : Nat) {p q : Nat} {μ : Sto} (is os : List (List Nat)) (hi : is.length ≤ 20) (ho : os.length ≤ 20) (hn : is ≠ []) (wi : nmsOk is) (wo : nmsOk os) (hs : Sc p q μ) (f : Nat) (hf : f + 1 ≤ 6) (room : Int) :
    (cl (k + 11) 10 [.loc p, .lst (SL is), .lst (SL os), .int ((f + 1 : Nat) : Int), .int room] μ).All (fun d μ' => Pgx 6 false d ∧ (dosD 6 d).length ≤ 16 ∧ Sc p q μ' ∧ Frm [p, q] μ μ') Wn := by
  show ((xSs gl (cl (k + 10)) b10 [.val (.loc p), .val (.lst (SL is)), .val (.lst (SL os)), .val (.int ((f + 1 : Nat) : Int)), .val (.int room), .un] μ).bind (outF false)).All _ _
  have tail : ∀ (r : Nat) (d : D) (μ2 : Sto), Pgx 6 false d → Sc p q μ2 → Frm [p, q] μ μ2 → ((xSs gl (cl (k + 10)) b10.tail [.val (.loc p), .val (.lst (SL is)), .val (.lst (SL os)), .val (.int ((f + 1 : Nat) : Int)), .val (.int room), .val d] μ2).bind (outF false)).All (fun d μ' => Pgx 6 false d ∧ (dosD 6 d).length ≤ 16 ∧ Sc p q μ' ∧ Frm [p, q] μ μ') Wn := by
    intro r d μ2 pd s2 f2
    have hds : cl (k + 10) 9 [d] μ2 = .ok (.lst (dosD 6 d)) μ2 := dos_s μ2 6 (k + 3) false d pd (by decide)
    simp only [b10, List.tail_cons]
    rw [v_ss1, v_if, v_cond]
    simp only [v_cmp, v_bi, v_es1, v_es0, v_call, v_var, v_con, List.getElem?_cons_succ, List.getElem?_cons_zero, bind_ok, List.append_nil, v_arr1, hds, back_ok, v_lenl, orO_some, v_gt, v_tbl]
    by_cases h16 : (16 : Int) < ((dosD 6 d).length : Int)
    · have d1 := do_s (k + 7) is os hi ho hn wi wo s2
      simp only [decide_eq_true h16, if_true]
      simp only [v_ss1, v_ss0, v_ret, v_tup, v_es1, v_es0, v_con, v_call, v_var, List.getElem?_cons_succ, List.getElem?_cons_zero, bind_ok, List.append_nil, v_arr3, bind_assoc]
      refine all_call d1 fun x μ3 hx => ?_
      obtain ⟨⟨a, c, rfl, na, nc, l1, la, lc⟩, s3, f3⟩ := hx
      have d2 := do_s (k + 7) is os hi ho hn wi wo s3
      refine all_call d2 fun y μ4 hy => ?_
      obtain ⟨⟨a2, c2, rfl, na2, nc2, l12, la2, lc2⟩, s4, f4⟩ := hy
      simp only [bind_ok, v_out1]
      have px : ∀ b, Pgx 1 b (.tup [.str sDo, .tup (SL a), .tup (SL c)]) := fun b => .doo 0 b a c na nc l1 la lc
      have py : ∀ b, Pgx 1 b (.tup [.str sDo, .tup (SL a2), .tup (SL c2)]) := fun b => .doo 0 b a2 c2 na2 nc2 l12 la2 lc2
      have pr : Pgx 2 false (.tup [.str sRow, .tup [.tup [.str sDo, .tup (SL a), .tup (SL c)], .tup [.str sDo, .tup (SL a2), .tup (SL c2)]]]) := .row 1 false _ (by simp) (by simp) fun i x hx => by
        match i, hx with
        | 0, hx => cases hx; exact px _
        | 1, hx => cases hx; exact py _
        | i + 2, hx => simp at hx
      have pr6 : Pgx 6 false _ := pr.mono (by decide)
      refine ⟨pr6, ?_, s4, f2.trans (f3.trans f4)⟩
      rw [← pr6.alen [], show (6 : Nat) = 5 + 1 from rfl, al_row _ _ _ (by simp) (by simp)]
      simp [rowA, al_do, show (5 : Nat) = 4 + 1 from rfl]
    · simp only [decide_eq_false h16, Bool.false_eq_true, if_false, v_ss0, bind_ok, v_ss1, v_ret, v_var, List.getElem?_cons_succ, List.getElem?_cons_zero, v_out1]
      exact ⟨pd, by omega, s2, f2⟩
  generalize hB : b10.tail = B at tail
  have e : b10 = .asg [5] (.call 7 [(.var 0), (.var 1), (.var 2), (.var 3), (.con (.bl false)), (.sto (.lst [(.var 4)]))] [] [0, 1, 2, 3, 4, 5]) :: B := by rw [← hB]; rfl
  rw [e, v_ss1]
  simp only [v_asg, v_call, v_es1, v_es0, v_var, v_con, v_sto, v_lst, List.getElem?_cons_succ, List.getElem?_cons_zero, bind_ok, v_stoR, bind_any]
  refine all_any fun r hr => ?_
  have hp : r ≠ p := fun e => by obtain ⟨n, _, h⟩ := hs.st; rw [← e, hr] at h; cases h
  have hq : r ≠ q := fun e => by obtain ⟨n, _, _, h⟩ := hs.ce; rw [← e, hr] at h; cases h
  have s1 : Sc p q (μ.put r (.lst [.int room])) := by
    obtain ⟨a, ⟨n, b1, b2⟩, cs, c1, c2, c3⟩ := hs
    exact ⟨a, ⟨n, b1, by rw [put_ne (Ne.symm hp)]; exact b2⟩, cs, c1, c2, by rw [put_ne (Ne.symm hq)]; exact c3⟩
  have hg := prog_s is os hi ho hn wi wo f (k + 6 - f) false (μ.put r (.lst [.int room])) s1 ⟨hp, hq, _, put_same _ _ _⟩
  rw [show k + 6 - f + f + 4 = k + 10 from by omega] at hg
  simp only [bind_ok, List.append_nil, v_arr6, bind_assoc]
  refine all_call hg fun d μ2 hd => ?_
  obtain ⟨pd, s2, r2, f2⟩ := hd
  simp only [bind_ok, v_setT, List.set_cons_succ, List.set_cons_zero]
  refine tail r d μ2 (pd.mono hf) s2 fun x hx hm => ?_
  have hxr : x ≠ r := fun e => hx (by rw [e]; exact hr)
  have hx1 : (μ.put r (.lst [.int room])) x = μ x := put_ne hxr
  rw [f2 x (by rw [hx1]; exact hx) (by simp at hm ⊢; exact ⟨hm.1, hm.2, hxr⟩), hx1]

end Bs.K45
namespace Bs.K45
open Bs

/-! ### the same -/
inductive Sq : Nat → D → Prop
  | str (n : Nat) (s : List Nat) : Sq n (.str s)
  | tup (n : Nat) (xs : List D) : xs.length ≤ 1000 → (∀ x ∈ xs, Sq n x) → Sq (n + 1) (.tup xs)
theorem Sq.mono {n m : Nat} (h : n ≤ m) {d : D} (p : Sq n d) : Sq m d := by
  induction p generalizing m with
  | str n s => exact .str m s
  | tup n xs hl _ ih => obtain ⟨m, rfl⟩ : ∃ m', m = m' + 1 := ⟨m - 1, by omega⟩; exact .tup m xs hl fun x hx => ih x hx (by omega)
theorem e_same (k : Nat) (a b : D) (μ : Sto) : cl (k + 1) 20 [a, b] μ = (xSs gl (cl k) b20 [.val a, .val b, .un, .un] μ).bind (outF false) := rfl
/-- both are sequences of one kind, their items alike -/
theorem same_q (K : Nat) (μ : Sto) (A B : D) (xs : List D) (tl : Bool) (hl : xs.length ≤ 1000)
    (a1 : compare .is_ A .non = some (.bl false)) (b1 : compare .is_ B .non = some (.bl false))
    (a2 : ∀ t, orO ((isTys A [t]).map .bl) ((isTys (dr μ A) [t]).map .bl) μ = .ok (.bl (decide (t = if tl then .list else .tuple))) μ)
    (b2 : ∀ t, orO ((isTys B [t]).map .bl) ((isTys (dr μ B) [t]).map .bl) μ = .ok (.bl (decide (t = if tl then .list else .tuple))) μ)
    (a3 : orO (builtin .len [A]) (builtin .len [dr μ A]) μ = .ok (.int ((xs.length : Nat) : Int)) μ) (b3 : orO (builtin .len [B]) (builtin .len [dr μ B]) μ = .ok (.int ((xs.length : Nat) : Int)) μ)
    (a4 : ∀ (i : Nat) x, xs[i]? = some x → ixR A (.int ((i : Nat) : Int)) μ = .ok x μ) (b4 : ∀ (i : Nat) x, xs[i]? = some x → ixR B (.int ((i : Nat) : Int)) μ = .ok x μ)
    (h : ∀ x ∈ xs, cl K 20 [x, x] μ = .ok (.bl true) μ) : cl (K + 1) 20 [A, B] μ = .ok (.bl true) μ := by
  have hr := rng_map xs.length hl
  have hc : ∀ C : Sl, lcL (turnC gl (cl K) [.val A, .val B, C, .un] [3] none c20_0) ((List.range xs.length).map fun i => .int ((0 + i : Nat) : Int)) [] μ = .ok (((List.range xs.length).map fun _ => true).map D.bl) μ := by
    intro C
    refine lc_bool (fun i : Nat => .int ((0 + i : Nat) : Int)) (fun _ => true) (List.range xs.length) (fun i hi acc hacc => ?_) (by simp; omega)
    have hi' : i < xs.length := List.mem_range.mp hi
    have h1 := a4 i _ (List.getElem?_eq_getElem hi')
    have h2 := b4 i _ (List.getElem?_eq_getElem hi')
    have := h _ (List.getElem_mem hi')
    unfold turnC setTR
    simp only [Nat.zero_add, v_wipe1, v_wipe0, v_setT, List.set_cons_succ, List.set_cons_zero, v_c0, bind_ok, if_true, c20_0, v_call, v_es1, v_es0, v_ix, v_var, List.getElem?_cons_succ, List.getElem?_cons_zero, h1, h2, List.append_nil, v_arr2, this, back_ok, addL, hacc]
  have ha := all_bl ((List.range xs.length).map fun _ => true)
  have hall : ((List.range xs.length).map fun _ => true).all id = true := by simp
  rw [hall] at ha
  rw [e_same]
  rw [b20, v_ss1, v_if, v_cond]
  simp only [v_or, v_cmp, v_var, v_con, List.getElem?_cons_succ, List.getElem?_cons_zero, bind_ok, a1, b1, orO_some, v_tbl, Bool.false_eq_true, if_false, v_ss0]
  rw [v_ss1, v_if, v_cond]
  cases tl with
  | true =>
    simp only [v_or, v_isi, v_var, List.getElem?_cons_succ, List.getElem?_cons_zero, bind_ok, a2, b2, v_tbl, if_true, reduceCtorEq, decide_false, Bool.false_eq_true, if_false, v_ss0]
    rw [v_ss1, v_if, v_cond]
    simp only [v_or, v_and, v_isi, v_var, List.getElem?_cons_succ, List.getElem?_cons_zero, bind_ok, a2, b2, if_true, reduceCtorEq, decide_false, v_tbl, Bool.false_eq_true, if_false, v_ss0]
    rw [v_ss1, v_asg]
    simp only [v_and, v_isi, v_var, List.getElem?_cons_succ, List.getElem?_cons_zero, bind_ok, a2, b2, if_true, decide_true, v_tbl, v_setT, List.set_cons_succ, List.set_cons_zero]
    rw [v_ss1, v_if, v_cond]
    simp only [v_and, v_not, v_isi, v_var, List.getElem?_cons_succ, List.getElem?_cons_zero, bind_ok, v_tbl, Bool.not_true, Bool.false_eq_true, if_false, v_ss0]
    rw [v_ss1, v_if, v_cond]
    simp only [v_cmp, v_bi, v_es1, v_es0, v_var, List.getElem?_cons_succ, List.getElem?_cons_zero, bind_ok, List.map_cons, List.map_nil, a3, b3, orO_some, v_neii, decide_true, Bool.not_true, v_tbl, Bool.false_eq_true, if_false, v_ss0]
    simp only [v_ss1, v_ret, v_bi, v_es1, v_es0, v_lc, v_rng1, v_var, List.getElem?_cons_succ, List.getElem?_cons_zero, bind_ok, List.map_cons, List.map_nil, b3, orO_some, hr, ofO_s, v_il, hc, nox_ok, ha, v_out1]
  | false =>
    simp only [v_or, v_isi, v_var, List.getElem?_cons_succ, List.getElem?_cons_zero, bind_ok, a2, b2, v_tbl, if_true, reduceCtorEq, decide_false, Bool.false_eq_true, if_false, v_ss0]
    rw [v_ss1, v_if, v_cond]
    simp only [v_or, v_and, v_isi, v_var, List.getElem?_cons_succ, List.getElem?_cons_zero, bind_ok, a2, b2, if_true, reduceCtorEq, decide_false, v_tbl, Bool.false_eq_true, if_false, v_ss0]
    rw [v_ss1, v_asg]
    simp only [v_and, v_isi, v_var, List.getElem?_cons_succ, List.getElem?_cons_zero, bind_ok, a2, b2, if_true, reduceCtorEq, Bool.false_eq_true, if_false, decide_false, v_tbl, v_setT, List.set_cons_succ, List.set_cons_zero]
    rw [v_ss1, v_if, v_cond]
    simp only [v_and, v_not, v_isi, v_var, List.getElem?_cons_succ, List.getElem?_cons_zero, bind_ok, a2, b2, Bool.false_eq_true, if_false, decide_true, v_tbl, Bool.not_true, Bool.not_false, if_true, v_ss0]
    rw [v_ss1, v_if, v_cond]
    simp only [v_cmp, v_bi, v_es1, v_es0, v_var, List.getElem?_cons_succ, List.getElem?_cons_zero, bind_ok, List.map_cons, List.map_nil, a3, b3, orO_some, v_neii, decide_true, Bool.not_true, v_tbl, Bool.false_eq_true, if_false, v_ss0]
    simp only [v_ss1, v_ret, v_bi, v_es1, v_es0, v_lc, v_rng1, v_var, List.getElem?_cons_succ, List.getElem?_cons_zero, bind_ok, List.map_cons, List.map_nil, b3, orO_some, hr, ofO_s, v_il, hc, nox_ok, ha, v_out1]
theorem same_s (μ : Sto) : ∀ (n k : Nat) (d : D), Sq n d → cl (k + n + 1) 20 [d, d] μ = .ok (.bl true) μ := by
  intro n k d h
  induction h with
  | str n s =>
    have n1 : compare .is_ (.str s) .non = some (.bl false) := rfl
    have t1 : isTys (.str s) [.bool] = some false := rfl
    have t2 : isTys (.str s) [.int] = some false := rfl
    rw [e_same]; simp [b20, n1, t1, t2]
  | tup n xs hl hx ih =>
    rw [show k + (n + 1) + 1 = (k + n + 1) + 1 from by omega]
    have t2 : ∀ t, orO ((isTys (.tup xs) [t]).map .bl) ((isTys (dr μ (.tup xs)) [t]).map .bl) μ = .ok (.bl (decide (t = if false then .list else .tuple))) μ := fun t => by cases t <;> rfl
    exact same_q (k + n + 1) μ (.tup xs) (.tup xs) xs false hl rfl rfl t2 t2 (by rw [v_lent]; rfl) (by rw [v_lent]; rfl) (fun i x e => ix_tup e μ) (fun i x e => ix_tup e μ) ih
theorem same_ll (K : Nat) (μ : Sto) (xs : List D) (hl : xs.length ≤ 1000) (h : ∀ x ∈ xs, cl K 20 [x, x] μ = .ok (.bl true) μ) : cl (K + 1) 20 [.lst xs, .lst xs] μ = .ok (.bl true) μ := by
  have t2 : ∀ t, orO ((isTys (.lst xs) [t]).map .bl) ((isTys (dr μ (.lst xs)) [t]).map .bl) μ = .ok (.bl (decide (t = if true then .list else .tuple))) μ := fun t => by cases t <;> rfl
  exact same_q K μ (.lst xs) (.lst xs) xs true hl rfl rfl t2 t2 (by rw [v_lenl]; rfl) (by rw [v_lenl]; rfl) (fun i x e => ix_lst e μ) (fun i x e => ix_lst e μ) h
theorem ix_loc {μ : Sto} {p : Nat} {xs : List D} (h : μ p = some (.lst xs)) (y : D) : ixR (.loc p) y μ = ixR (.lst xs) y μ := by simp [ixR, deref, h]
theorem same_lc (K t : Nat) (μ : Sto) (xs : List D) (ht : μ t = some (.lst xs)) (hl : xs.length ≤ 1000) (h : ∀ x ∈ xs, cl K 20 [x, x] μ = .ok (.bl true) μ) : cl (K + 1) 20 [.loc t, .lst xs] μ = .ok (.bl true) μ := by
  have t2 : ∀ t, orO ((isTys (.lst xs) [t]).map .bl) ((isTys (dr μ (.lst xs)) [t]).map .bl) μ = .ok (.bl (decide (t = if true then .list else .tuple))) μ := fun t => by cases t <;> rfl
  have t3 : ∀ ty, orO ((isTys (.loc t) [ty]).map .bl) ((isTys (dr μ (.loc t)) [ty]).map .bl) μ = .ok (.bl (decide (ty = if true then .list else .tuple))) μ := fun ty => by
    rw [dr_loc ht]; cases ty <;> rfl
  exact same_q K μ (.loc t) (.lst xs) xs true hl rfl rfl t3 t2 (by rw [dr_loc ht, v_lenloc, orO_none, v_lenl]; rfl) (by rw [v_lenl]; rfl) (fun i x e => by rw [ix_loc ht]; exact ix_lst e μ) (fun i x e => ix_lst e μ) h
theorem _root_.Bs.Pgm.sq {f : Nat} {d : D} (h : Pgm f d) : Sq (2 * f) d := by
  have sl : ∀ (n : Nat) (a : List (List Nat)), a.length ≤ 100 → Sq (n + 1) (.tup (SL a)) := fun n a ha => .tup n _ (by simp; omega) fun x hx => by
    simp only [SL, List.mem_map] at hx
    obtain ⟨w, _, rfl⟩ := hx
    exact .str n w
  induction h with
  | doo f a b h1 h2 =>
    refine .tup (2 * f + 1) _ (by simp) fun x hx => ?_
    simp only [List.mem_cons, List.not_mem_nil, or_false] at hx
    rcases hx with rfl | rfl | rfl
    · exact .str _ _
    · exact sl _ a h1
    · exact sl _ b h2
  | stop f =>
    refine .tup (2 * f + 1) _ (by simp) fun x hx => ?_
    simp only [List.mem_cons, List.not_mem_nil, or_false] at hx
    rw [hx]; exact .str _ _
  | loop f x _ ih =>
    refine .tup (2 * f + 1) _ (by simp) fun y hy => ?_
    simp only [List.mem_cons, List.not_mem_nil, or_false] at hy
    rcases hy with rfl | rfl
    · exact .str _ _
    · exact ih.mono (by omega)
  | par f c xs h1 h2 _ ih =>
    refine .tup (2 * f + 1) _ (by simp) fun y hy => ?_
    simp only [List.mem_cons, List.not_mem_nil, or_false] at hy
    rcases hy with rfl | rfl
    · exact .str _ _
    · exact .tup (2 * f) _ (by omega) ih
theorem _root_.Bs.OpOk.sq {B : List (List D)} {o : D} (h : OpOk B o) : Sq 14 o := by
  have sl : ∀ (n : Nat) (a : List (List Nat)), a.length ≤ 100 → Sq (n + 1) (.tup (SL a)) := fun n a ha => .tup n _ (by simp; omega) fun x hx => by
    simp only [SL, List.mem_map] at hx
    obtain ⟨w, _, rfl⟩ := hx
    exact .str n w
  obtain ⟨a, c, r, rfl, ha, hc, _, hr⟩ := h
  refine .tup 13 _ (by simp) fun x hx => ?_
  simp only [List.mem_cons, List.not_mem_nil, or_false] at hx
  rcases hx with rfl | rfl | rfl
  · exact sl _ a ha
  · exact sl _ c hc
  · exact .tup 12 _ (by have := hr.good.2; omega) fun x hx => (hr.good.1 x hx).sq

end Bs.K45
namespace Bs.K45
open Bs

/-- the rests that were met -/
structure Met (B : List (List D)) (P : List D) (rs : List (List D)) : Prop where
  nd : rs.Nodup
  gd : ∀ r ∈ rs, Grs B r
  mem : ∀ r ∈ rs, r ∈ P :: B
theorem Met.le {B : List (List D)} {P : List D} {rs : List (List D)} (h : Met B P rs) : rs.length ≤ B.length + 1 := nd_len rs (P :: B) h.nd h.mem
theorem inner_l (K : Nat) {B : List (List D)} {P : List D} (hB : B.length ≤ 16) (a0 a1 a2 a3 a4 a5 a7 a8 a9 : Sl) (μ : Sto) : ∀ (os : List D) (rs : List (List D)), (∀ o ∈ os, OpOk B o) → Met B P rs → ∃ ex, Met B P (rs ++ ex) ∧
    forL (turn gl (cl K) [10, 11, 12] l21_0) [10, 11, 12] os [a0, a1, a2, a3, a4, a5, .own (.lst (TL rs)), a7, a8, a9, .un, .un, .un] μ = .ok (.nx [a0, a1, a2, a3, a4, a5, .own (.lst (TL (rs ++ ex))), a7, a8, a9, .un, .un, .un]) μ
  | [], rs, _, hm => ⟨[], by simpa using hm, by simp⟩
  | o :: os, rs, ho, hm => by
    obtain ⟨a, c, r, rfl, _, _, rB, rG⟩ := ho o List.mem_cons_self
    have hos := fun x hx => ho x (List.mem_cons_of_mem _ hx)
    obtain ⟨b, e, hb⟩ := nin_rests rG rs hm.gd
    have e : compare .nin (.tup r) (.lst (TL rs)) = some (.bl b) := e
    have st : setT [a0, a1, a2, a3, a4, a5, .own (.lst (TL rs)), a7, a8, a9, .un, .un, .un] [10, 11, 12] (.tup [.tup (SL a), .tup (SL c), .tup r]) = some [a0, a1, a2, a3, a4, a5, .own (.lst (TL rs)), a7, a8, a9, .val (.tup (SL a)), .val (.tup (SL c)), .val (.tup r)] := rfl
    have hlen : (TL rs).length < 1000000 := by have := hm.le; simp; omega
    cases b with
    | true =>
      have hn := hb.mp rfl
      have hm' : Met B P (rs ++ [r]) := ⟨by
          rw [List.nodup_append]
          exact ⟨hm.nd, by simp, fun x hx y hy e => by rw [List.mem_singleton] at hy; rw [hy] at e; exact hn (e ▸ hx)⟩, fun x hx => by
          rw [List.mem_append, List.mem_singleton] at hx
          rcases hx with hx | rfl
          · exact hm.gd x hx
          · exact rG, fun x hx => by
          rw [List.mem_append, List.mem_singleton] at hx
          rcases hx with hx | rfl
          · exact hm.mem x hx
          · exact List.mem_cons_of_mem _ rB⟩
      obtain ⟨ex, hm2, e2⟩ := inner_l K hB a0 a1 a2 a3 a4 a5 a7 a8 a9 μ os (rs ++ [r]) hos hm'
      refine ⟨r :: ex, by simpa using hm2, ?_⟩
      have et : turn gl (cl K) [10, 11, 12] l21_0 (.tup [.tup (SL a), .tup (SL c), .tup r]) [a0, a1, a2, a3, a4, a5, .own (.lst (TL rs)), a7, a8, a9, .un, .un, .un] μ = .ok (.nx [a0, a1, a2, a3, a4, a5, .own (.lst (TL (rs ++ [r]))), a7, a8, a9, .val (.tup (SL a)), .val (.tup (SL c)), .val (.tup r)]) μ := by
        unfold turn l21_0
        simp only [st, v_ss1, v_ss0, v_if, v_cond, v_cmp, v_var, v_ovar, List.getElem?_cons_succ, List.getElem?_cons_zero, bind_ok, e, orO_some, v_tbl, if_true, v_app, hlen, List.set_cons_succ, List.set_cons_zero]
        simp [TL]
      rw [forL_cons, et]
      simp only [bind_ok, v_wipe1, v_wipe0, List.set_cons_succ, List.set_cons_zero]
      rw [e2]; simp
    | false =>
      obtain ⟨ex, hm2, e2⟩ := inner_l K hB a0 a1 a2 a3 a4 a5 a7 a8 a9 μ os rs hos hm
      refine ⟨ex, hm2, ?_⟩
      have et : turn gl (cl K) [10, 11, 12] l21_0 (.tup [.tup (SL a), .tup (SL c), .tup r]) [a0, a1, a2, a3, a4, a5, .own (.lst (TL rs)), a7, a8, a9, .un, .un, .un] μ = .ok (.nx [a0, a1, a2, a3, a4, a5, .own (.lst (TL rs)), a7, a8, a9, .val (.tup (SL a)), .val (.tup (SL c)), .val (.tup r)]) μ := by
        unfold turn l21_0
        simp only [st, v_ss1, v_ss0, v_if, v_cond, v_cmp, v_var, v_ovar, List.getElem?_cons_succ, List.getElem?_cons_zero, bind_ok, e, orO_some, v_tbl, Bool.false_eq_true, if_false]
      rw [forL_cons, et]
      simp only [bind_ok, v_wipe1, v_wipe0, List.set_cons_succ, List.set_cons_zero]
      rw [e2]
theorem _root_.Bs.Grs.opens {B : List (List D)} {r : List D} (h : Grs B r) (k : Nat) (μ : Sto) : cl (k + 30) 19 [.tup r] μ = .ok (.lst (opR r)) μ := by
  cases h with
  | nil => exact op_nil (k + 29) μ
  | cons f b d R hx hf hl hs hR =>
    have e : opR (d :: R) = opD f d R := hx.omono 6 R hf
    rw [e]
    have := op_s μ hx (k + 30 - f) R hf (by omega)
    rw [show k + 30 - f + f = k + 30 from by omega] at this
    exact this
/-- what stands behind the first asking -/
abbrev restB : List S := [.ite (.or (.not (.call 20 [(.var 9), (.var 8)] [] [0, 1])) (.cmp .gt (.bi .len [(.var 9)]) (.var 5))) [.ret (.con (.bl false))] [], .forr [10, 11, 12] (.bi .list [(.var 9)]) l21_0 [10, 11, 12], .lapp (.var 9) (.con .non), .ite (.not (.call 20 [(.call 19 [(.ix (.ovar 6) (.var 7))] [] [0]), (.var 8)] [] [0, 1])) [.ret (.con (.bl false))] []]
theorem rest_s (k : Nat) {B : List (List D)} {P : List D} (hB : B.length ≤ 16) (a0 a1 a2 a3 a4 : Sl) (μ : Sto) (t i : Nat) (rs : List (List D)) (r : List D) (hm : Met B P rs) (hi : rs[i]? = some r) (ht : μ t = some (.lst (opR r))) :
    ∃ ex μ', Met B P (rs ++ ex) ∧ xSs gl (cl (k + 30)) restB [a0, a1, a2, a3, a4, .val (.int ((B.length : Nat) : Int)), .own (.lst (TL rs)), .val (.int ((i : Nat) : Int)), .val (.lst (opR r)), .val (.loc t), .un, .un, .un] μ = .ok (.nx [a0, a1, a2, a3, a4, .val (.int ((B.length : Nat) : Int)), .own (.lst (TL (rs ++ ex))), .val (.int ((i : Nat) : Int)), .val (.lst (opR r)), .val (.loc t), .un, .un, .un]) μ' := by
  have hg := hm.gd r (List.mem_of_getElem? hi)
  obtain ⟨ho, hol⟩ := hg.ops
  have sq : ∀ (μ : Sto), ∀ x ∈ opR r, cl (k + 29) 20 [x, x] μ = .ok (.bl true) μ := fun μ x hx => same_s μ 14 (k + 14) x (ho x hx).sq
  have e1 := same_lc (k + 29) t μ (opR r) ht (by omega) (sq μ)
  obtain ⟨ex, hm2, e2⟩ := inner_l (k + 30) hB a0 a1 a2 a3 a4 (.val (.int ((B.length : Nat) : Int))) (.val (.int ((i : Nat) : Int))) (.val (.lst (opR r))) (.val (.loc t)) μ (opR r) rs ho hm
  have hi2 : (rs ++ ex)[i]? = some r := by rw [List.getElem?_append_left (List.getElem?_eq_some_iff.mp hi).1]; exact hi
  have hi3 : (TL (rs ++ ex))[i]? = some (.tup r) := by rw [List.getElem?_map, hi2]; rfl
  generalize hμ2 : μ.put t (.lst (opR r ++ [.non])) = μ2
  have i2 := ix_lst hi3 μ2
  have e3 := hg.opens k μ2
  have e4 := same_ll (k + 29) μ2 (opR r) (by omega) (sq μ2)
  have hlen : (opR r).length < 1000000 := by omega
  have hnb : ¬ ((B.length : Int) < ((opR r).length : Int)) := by omega
  have hll : builtin .list [.loc t] = none := rfl
  have hl2 : builtin .list [.lst (opR r)] = some (.lst (opR r)) := rfl
  refine ⟨ex, μ2, hm2, ?_⟩
  unfold restB
  rw [v_ss1, v_if, v_cond]
  simp only [v_or, v_not, v_call, v_es1, v_es0, v_var, List.getElem?_cons_succ, List.getElem?_cons_zero, bind_ok, List.append_nil, v_arr2, e1, back_ok, v_tbl, Bool.not_true, Bool.false_eq_true, if_false, v_cmp, v_bi, v_lenloc, orO_none, List.map_cons, List.map_nil, dr_loc ht, v_lenl, ofO_s, v_gt, decide_eq_false hnb, orO_some, v_ss0]
  rw [v_ss1, v_for]
  simp only [v_bi, v_es1, v_es0, v_var, List.getElem?_cons_succ, List.getElem?_cons_zero, bind_ok, hll, orO_none, List.map_cons, List.map_nil, dr_loc ht, hl2, ofO_s, v_il, e2]
  rw [v_ss1, v_lapp]
  simp only [v_var, List.getElem?_cons_succ, List.getElem?_cons_zero, bind_ok, isL_loc ht, if_true, v_con, ht, hlen, hμ2]
  rw [v_ss1, v_if, v_cond]
  simp only [v_not, v_call, v_es1, v_es0, v_ix, v_ovar, v_var, List.getElem?_cons_succ, List.getElem?_cons_zero, bind_ok, i2, List.append_nil, v_arr1, e3, back_ok, v_arr2, e4, v_tbl, Bool.not_true, Bool.false_eq_true, if_false, v_ss0]
abbrev Yes : D → Sto → Prop := fun d _ => d = .bl true
theorem turn_s (k : Nat) {B : List (List D)} {P : List D} (hB : B.length ≤ 16) (a0 a1 a2 a3 a4 : Sl) (μ : Sto) (i : Nat) (rs : List (List D)) (hm : Met B P rs) :
    (turn gl (cl (k + 30)) [7] l21_1 (.int ((i : Nat) : Int)) [a0, a1, a2, a3, a4, .val (.int ((B.length : Nat) : Int)), .own (.lst (TL rs)), .un, .un, .un, .un, .un, .un] μ).All (fun fl _ => ∃ rs' b c d, fl = .nx [a0, a1, a2, a3, a4, .val (.int ((B.length : Nat) : Int)), .own (.lst (TL rs')), b, c, d, .un, .un, .un] ∧ Met B P rs') Wn := by
  have hl : builtin .len [.lst (TL rs)] = some (.int ((rs.length : Nat) : Int)) := by simp
  by_cases h : i < rs.length
  · have hi := List.getElem?_eq_getElem h
    generalize rs[i] = r at hi
    have hi3 : (TL rs)[i]? = some (.tup r) := by rw [List.getElem?_map, hi]; rfl
    have i1 := ix_lst hi3 μ
    have hg := hm.gd r (List.mem_of_getElem? hi)
    obtain ⟨n, hn, hop⟩ := hg.opl
    have e1 := open_s (k + 29) μ hn hop
    have e2 := hg.opens k μ
    have key := fun (t : Nat) (ht : μ t = none) => rest_s k hB a0 a1 a2 a3 a4 (μ.put t (.lst (opR r))) t i rs r hm hi (put_same _ _ _)
    have hlt : ((i : Int) < (rs.length : Int)) := by omega
    have e : turn gl (cl (k + 30)) [7] l21_1 (.int ((i : Nat) : Int)) [a0, a1, a2, a3, a4, .val (.int ((B.length : Nat) : Int)), .own (.lst (TL rs)), .un, .un, .un, .un, .un, .un] μ = .any (fun t => μ t = none) fun t => (xSs gl (cl (k + 30)) restB [a0, a1, a2, a3, a4, .val (.int ((B.length : Nat) : Int)), .own (.lst (TL rs)), .val (.int ((i : Nat) : Int)), .val (.lst (opR r)), .val (.loc t), .un, .un, .un] (μ.put t (.lst (opR r)))).bind fun fl μ => match fl with | .nx γ' => xSs gl (cl (k + 30)) [] γ' μ | _ => .ok fl μ := by
      unfold turn l21_1
      simp only [v_setT, List.set_cons_succ, List.set_cons_zero]
      rw [v_ss1, v_if, v_cond]
      simp only [v_cmp, v_var, v_bi, v_es1, v_es0, v_ovar, List.getElem?_cons_succ, List.getElem?_cons_zero, bind_ok, hl, orO_some, v_lt, decide_eq_true hlt, v_tbl, if_true]
      rw [v_ss1, v_asg]
      simp only [v_call, v_es1, v_es0, v_ix, v_ovar, v_var, List.getElem?_cons_succ, List.getElem?_cons_zero, bind_ok, i1, List.append_nil, v_arr1, e1, back_ok, v_setT, List.set_cons_succ, List.set_cons_zero]
      rw [v_ss1, v_asg]
      simp only [v_sto, v_call, v_es1, v_es0, v_ix, v_ovar, v_var, List.getElem?_cons_succ, List.getElem?_cons_zero, bind_ok, i1, List.nil_append, v_arr1, e2, back_ok, v_stoR, bind_any, v_setT, List.set_cons_succ, List.set_cons_zero]
      try rfl
    rw [e]
    have key2 : ∀ t, μ t = none → ∃ rs' b c d μ', (xSs gl (cl (k + 30)) restB [a0, a1, a2, a3, a4, .val (.int ((B.length : Nat) : Int)), .own (.lst (TL rs)), .val (.int ((i : Nat) : Int)), .val (.lst (opR r)), .val (.loc t), .un, .un, .un] (μ.put t (.lst (opR r)))) = .ok (.nx [a0, a1, a2, a3, a4, .val (.int ((B.length : Nat) : Int)), .own (.lst (TL rs')), b, c, d, .un, .un, .un]) μ' ∧ Met B P rs' := fun t ht => by
      obtain ⟨ex, μ', h1, h2⟩ := key t ht
      exact ⟨_, _, _, _, _, h2, h1⟩
    clear key e e1 e2
    generalize restB = RB at key2 ⊢
    generalize cl (k + 30) = CL at key2 ⊢
    refine all_any fun t ht => ?_
    obtain ⟨rs', b, c, d, μ', h2, h1⟩ := key2 t ht
    rw [h2]
    simp only [bind_ok, v_ss0]
    exact ⟨rs', b, c, d, rfl, h1⟩
  · have hlt : ¬ ((i : Int) < (rs.length : Int)) := by omega
    have e : turn gl (cl (k + 30)) [7] l21_1 (.int ((i : Nat) : Int)) [a0, a1, a2, a3, a4, .val (.int ((B.length : Nat) : Int)), .own (.lst (TL rs)), .un, .un, .un, .un, .un, .un] μ = .ok (.nx [a0, a1, a2, a3, a4, .val (.int ((B.length : Nat) : Int)), .own (.lst (TL rs)), .val (.int ((i : Nat) : Int)), .un, .un, .un, .un, .un]) μ := by
      unfold turn l21_1
      simp only [v_setT, List.set_cons_succ, List.set_cons_zero]
      rw [v_ss1, v_if, v_cond]
      simp only [v_cmp, v_var, v_bi, v_es1, v_es0, v_ovar, List.getElem?_cons_succ, List.getElem?_cons_zero, bind_ok, hl, orO_some, v_lt, decide_eq_false hlt, v_tbl, Bool.false_eq_true, if_false, v_ss0]
    rw [e]
    exact ⟨rs, _, _, _, rfl, hm⟩
/-- all the rests -/
theorem loop_s (k : Nat) {B : List (List D)} {P : List D} (hB : B.length ≤ 16) (a0 a1 a2 a3 a4 : Sl) (μ : Sto) (xs : List D) (hx : ∀ x ∈ xs, ∃ i : Nat, x = .int ((i : Nat) : Int)) (rs : List (List D)) (hm : Met B P rs) :
    (forL (turn gl (cl (k + 30)) [7] l21_1) [7, 8, 9, 10, 11, 12] xs [a0, a1, a2, a3, a4, .val (.int ((B.length : Nat) : Int)), .own (.lst (TL rs)), .un, .un, .un, .un, .un, .un] μ).All (fun fl _ => ∃ rs', fl = .nx [a0, a1, a2, a3, a4, .val (.int ((B.length : Nat) : Int)), .own (.lst (TL rs')), .un, .un, .un, .un, .un, .un] ∧ Met B P rs') Wn := by
  refine (all_for (fun xs γ _ => ∃ rs, γ = [a0, a1, a2, a3, a4, .val (.int ((B.length : Nat) : Int)), .own (.lst (TL rs)), .un, .un, .un, .un, .un, .un] ∧ Met B P rs ∧ ∀ x ∈ xs, ∃ i : Nat, x = .int ((i : Nat) : Int)) (fun x xs γ μ hi => ?_) xs _ μ ⟨rs, rfl, hm, hx⟩).mono (fun fl μ' h => ?_) (fun _ _ _ w => w)
  · obtain ⟨rs, rfl, hm, hx⟩ := hi
    obtain ⟨i, rfl⟩ := hx x List.mem_cons_self
    refine (turn_s k hB a0 a1 a2 a3 a4 μ i rs hm).mono (fun fl μ' h => ?_) fun _ _ _ w => w
    obtain ⟨rs', b, c, d, rfl, hm'⟩ := h
    exact ⟨_, rfl, rs', rfl, hm', fun y hy => hx y (List.mem_cons_of_mem _ hy)⟩
  · obtain ⟨γ', rfl, rs, rfl, hm, _⟩ := h
    exact ⟨rs, rfl, hm⟩
theorem law_t (k : Nat) (A B C E : Sl) {d : D} (pd : Pgx 6 false d) (hd : (dosD 6 d).length ≤ 16) (μ : Sto) : ((xSs gl (cl (k + 30)) (b21.drop 4) [A, B, C, E, .val d, .un, .un, .un, .un, .un, .un, .un, .un] μ).bind (outF false)).All Yes Wn := by
  have e1 : cl (k + 30) 9 [d] μ = .ok (.lst (dosD 6 d)) μ := dos_s μ 6 (k + 23) false d pd (by decide)
  have e2 : cl (k + 30) 17 [d] μ = .ok .non μ := need_s (k + 19) pd hd μ
  have hal := pd.alen []
  have hm : Met (allo 6 d []) [d] [[d]] := ⟨by simp, fun r hr => by
      rw [List.mem_singleton] at hr; rw [hr]
      exact .cons 6 false d [] pd (by decide) (by simp) (List.Sublist.refl _) .nil, fun r hr => by rw [List.mem_singleton] at hr; rw [hr]; exact List.mem_cons_self⟩
  have hr := rng_nat (n := 18) (by decide)
  have hL := loop_s k (B := allo 6 d []) (P := [d]) (by omega) A B C E (.val d) μ (rangeL 0 18) (fun x hx => by
    simp only [rangeL, List.mem_map] at hx
    obtain ⟨i, _, rfl⟩ := hx
    exact ⟨i, by simp⟩) [[d]] hm
  have hr : rangeD [.int 18] = some (.lst (rangeL 0 18)) := hr
  rw [hal] at hL
  simp only [TL, List.map_cons, List.map_nil] at hL
  have hn : compare .isn .non .non = some (.bl false) := rfl
  simp only [b21, List.drop_succ_cons, List.drop_zero]
  generalize rangeL 0 18 = RL at hr hL
  rw [v_ss1, v_asg]
  simp only [v_bi, v_es1, v_es0, v_call, v_var, List.getElem?_cons_succ, List.getElem?_cons_zero, bind_ok, List.append_nil, v_arr1, e1, back_ok, v_lenl, orO_some, v_setT, List.set_cons_succ, List.set_cons_zero]
  rw [v_ss1, v_if, v_cond]
  simp only [v_cmp, v_call, v_es1, v_es0, v_var, v_con, List.getElem?_cons_succ, List.getElem?_cons_zero, bind_ok, List.nil_append, v_arr1, e2, back_ok, hn, orO_some, v_tbl, Bool.false_eq_true, if_false, v_ss0]
  rw [v_ss1, v_own]
  simp only [v_lst, v_tup, v_es1, v_es0, v_var, List.getElem?_cons_succ, List.getElem?_cons_zero, bind_ok, List.set_cons_succ, List.set_cons_zero]
  rw [v_ss1, v_for]
  simp only [v_rng1, v_con, bind_ok, hr, ofO_s, v_il, bind_assoc]
  refine all_step hL fun fl μ' h => ?_
  obtain ⟨rs, rfl, hm'⟩ := h
  have hle := hm'.le
  have hle2 : ((rs.length : Int) ≤ ((dosD 6 d).length : Int) + 1) := by omega
  simp only [v_ss1, v_ss0, v_ret, v_cmp, v_bi, v_es1, v_es0, v_ovar, v_var, v_con, v_bin, List.getElem?_cons_succ, List.getElem?_cons_zero, bind_ok, v_lenl, TL, List.length_map, orO_some, v_addi, v_le, decide_eq_true hle2, v_out1]
  exact rfl
theorem draw_r (k : Nat) {p q : Nat} {m : Int} {μ : Sto} (h : Sc p q μ) (hm : 0 < m) (hm2 : m < 1073741824) : ∃ r : Nat, ∃ μ', cl (k + 30) 1 [.loc p, .int m] μ = .ok (.int ((r : Nat) : Int)) μ' ∧ (r : Int) < m ∧ Sc p q μ' ∧ Frm [p, q] μ μ' := by
  obtain ⟨r, μ', e, r0, r1, s, f⟩ := draw_k (k + 29) h hm hm2
  obtain ⟨n, rfl⟩ := Int.eq_ofNat_of_zero_le r0
  exact ⟨n, μ', e, r1, s, f⟩
theorem law_p (k p q : Nat) (L : Sl) {μ0 : Sto} (hs : Sc p q μ0) : ((xSs gl (cl (k + 30)) b21.tail [L, .val (.loc p), .un, .un, .un, .un, .un, .un, .un, .un, .un, .un, .un] μ0).bind (outF false)).All Yes Wn := by
  obtain ⟨a, μ2, e2, a3, s2, f2⟩ := draw_r k hs (m := 3) (by decide) (by decide)
  obtain ⟨is, μ3, e3, li, wi, s3, f3⟩ := names_s (k + 27) (a + 1) [] (by simp; omega) s2
  obtain ⟨b, μ4, e4, b4, s4, f4⟩ := draw_r k s3 (m := 4) (by decide) (by decide)
  obtain ⟨os, μ5, e5, lo, wo, s5, f5⟩ := names_s (k + 27) b is (by omega) s4
  obtain ⟨c, μ6, e6, c5, s6, f6⟩ := draw_r k s5 (m := 5) (by decide) (by decide)
  obtain ⟨z, μ7, e7, z10, s7, f7⟩ := draw_r k s6 (m := 10) (by decide) (by decide)
  have a1 : binop .add (.int 1) (.int ((a : Nat) : Int)) = some (.int ((a + 1 : Nat) : Int)) := by rw [v_addi]; congr 2; omega
  have c1 : binop .add (.int 2) (.int ((c : Nat) : Int)) = some (.int ((c + 1 + 1 : Nat) : Int)) := by rw [v_addi]; congr 2; omega
  have e3' : cl (k + 30) 3 [.loc p, .int ((a + 1 : Nat) : Int), .lst []] μ2 = .ok (.lst (SL is)) μ3 := e3
  have e5' : cl (k + 30) 3 [.loc p, .int ((b : Nat) : Int), .lst (SL is)] μ4 = .ok (.lst (SL os)) μ5 := e5
  have hne : is ≠ [] := fun z => by rw [z] at li; simp at li
  have hg : (cl (k + 30) 10 [.loc p, .lst (SL is), .lst (SL os), .int ((c + 1 + 1 : Nat) : Int), .int (1 + ((z : Nat) : Int))] μ7).All (fun d μ' => Pgx 6 false d ∧ (dosD 6 d).length ≤ 16 ∧ Sc p q μ' ∧ Frm [p, q] μ7 μ') Wn := good_s (k + 19) is os (by omega) (by omega) hne wi wo s7 (c + 1) (by omega) _
  have tail := fun (A B C E : Sl) (d : D) (pd : Pgx 6 false d) (hd : (dosD 6 d).length ≤ 16) (μ : Sto) => law_t k A B C E pd hd μ
  have hb : b21.tail = [.asg [2] (.call 3 [(.var 1), (.bin .add (.con (.int 1)) (.call 1 [(.var 1), (.con (.int 3))] [] [0, 1])), (.lst [])] [] [0, 1, 2]),
    .asg [3] (.call 3 [(.var 1), (.call 1 [(.var 1), (.con (.int 4))] [] [0, 1]), (.var 2)] [] [0, 1, 2]),
    .asg [4] (.call 10 [(.var 1), (.var 2), (.var 3), (.bin .add (.con (.int 2)) (.call 1 [(.var 1), (.con (.int 5))] [] [0, 1])), (.bin .add (.con (.int 1)) (.call 1 [(.var 1), (.con (.int 10))] [] [0, 1]))] [] [0, 1, 2, 3, 4])] ++ b21.drop 4 := rfl
  rw [hb]
  clear hb e3 e5
  generalize b21.drop 4 = BT at *
  generalize cl (k + 30) = CL at *
  simp only [List.cons_append, List.nil_append]
  rw [v_ss1]
  simp only [v_asg, v_call, v_es1, v_es0, v_var, v_con, v_bin, v_lst, List.getElem?_cons_succ, List.getElem?_cons_zero, bind_ok, List.append_nil, v_arr2, v_arr3, e2, a1, orO_some, e3', back_ok, v_setT, List.set_cons_succ, List.set_cons_zero]
  rw [v_ss1]
  simp only [v_asg, v_call, v_es1, v_es0, v_var, v_con, List.getElem?_cons_succ, List.getElem?_cons_zero, bind_ok, List.append_nil, v_arr2, v_arr3, e4, e5', back_ok, v_setT, List.set_cons_succ, List.set_cons_zero]
  rw [v_ss1]
  simp only [v_asg, v_call, v_es1, v_es0, v_var, v_con, v_bin, List.getElem?_cons_succ, List.getElem?_cons_zero, bind_ok, List.append_nil, v_arr2, e6, c1, e7, orO_some, v_addi, back_ok, v_arr5, bind_assoc]
  refine all_call hg fun d μ8 h8 => ?_
  obtain ⟨pd, hd, _, _⟩ := h8
  simp only [bind_ok, v_setT, List.set_cons_succ, List.set_cons_zero]
  exact tail L (.val (.loc p)) (.val (.lst (SL is))) (.val (.lst (SL os))) d pd hd μ8
theorem main' (k : Nat) (ns : List Int) (hl : ns.length ≤ 63) : (cl (k + 31) 21 [.lst (ns.map D.int)] (fun _ => none)).All (fun d _ => d = .bl true) (fun _ _ _ => False) := by
  have es := start_k (k + 29) ns hl (fun _ => none)
  have e34 : cl (k + 31) 21 [.lst (ns.map D.int)] (fun _ => none) = (xSs gl (cl (k + 30)) b21 [.val (.lst (ns.map D.int)), .un, .un, .un, .un, .un, .un, .un, .un, .un, .un, .un, .un] (fun _ => none)).bind (outF false) := rfl
  have eb : b21 = .asg [1] (.call 0 [(.var 0)] [] [0]) :: b21.tail := rfl
  have lp := fun (p q : Nat) (μ : Sto) (hs : Sc p q μ) => law_p k p q (.val (.lst (ns.map D.int))) hs
  rw [e34, eb]
  clear e34 eb
  have es' : (cl (k + 30) 0 [.lst (ns.map D.int)] (fun _ => none)).All (fun d μ' => ∃ p q, d = .loc p ∧ Sc p q μ' ∧ Frm [] (fun _ => none) μ') Wn := es
  clear es
  generalize b21.tail = BT at lp ⊢
  generalize cl (k + 30) = CL at lp es' ⊢
  rw [v_ss1, bind_assoc]
  have e0 : xS gl CL (.asg [1] (.call 0 [(.var 0)] [] [0])) [.val (.lst (ns.map D.int)), .un, .un, .un, .un, .un, .un, .un, .un, .un, .un, .un, .un] (fun _ => none) = ((CL 0 [.lst (ns.map D.int)] (fun _ => none)).back [.val (.lst (ns.map D.int)), .un, .un, .un, .un, .un, .un, .un, .un, .un, .un, .un, .un]).bind fun x μ => .ok (.nx [.val (.lst (ns.map D.int)), .val x, .un, .un, .un, .un, .un, .un, .un, .un, .un, .un, .un]) μ := by
    simp only [v_asg, v_call, v_es1, v_es0, v_var, List.getElem?_cons_zero, bind_ok, List.append_nil, v_arr1]
    rfl
  rw [e0, bind_assoc]
  refine all_call es' fun d μ' h => ?_
  obtain ⟨p, q, rfl, hs, _⟩ := h
  exact lp p q μ' hs
theorem main (ns : List Int) (hl : ns.length ≤ 63) : (call gl fns 60 21 [.lst (ns.map D.int)] (fun _ => none)).All (fun d _ => d = .bl true) (fun _ _ _ => False) := main' 29 ns hl

end Bs.K45
namespace Bs.K45
open PySem PySem.Spec PyProof.Rows L2 Bs
def hE0 : He.DefD := ⟨("_law_start", none), "_law_start", "_law_start", C8.fnArgs (top 21), C8.fnBody (top 21), C8.fnScope (top 21), [], []⟩
def hE1 : He.DefD := ⟨("_law_draw", none), "_law_draw", "_law_draw", C8.fnArgs (top 22), C8.fnBody (top 22), C8.fnScope (top 22), [], []⟩
def hE2 : He.DefD := ⟨("_law_name", none), "_law_name", "_law_name", C8.fnArgs (top 25), C8.fnBody (top 25), C8.fnScope (top 25), [], []⟩
def hE3 : He.DefD := ⟨("_law_names", none), "_law_names", "_law_names", C8.fnArgs (top 26), C8.fnBody (top 26), C8.fnScope (top 26), [], []⟩
def hE4 : He.DefD := ⟨("_law_shuffled", none), "_law_shuffled", "_law_shuffled", C8.fnArgs (top 24), C8.fnBody (top 24), C8.fnScope (top 24), [], []⟩
def hE5 : He.DefD := ⟨("_law_some", none), "_law_some", "_law_some", C8.fnArgs (top 23), C8.fnBody (top 23), C8.fnScope (top 23), [], []⟩
def hE6 : He.DefD := ⟨("_law_do", none), "_law_do", "_law_do", C8.fnArgs (top 28), C8.fnBody (top 28), C8.fnScope (top 28), [], []⟩
def hE7 : He.DefD := ⟨("_law_program", none), "_law_program", "_law_program", C8.fnArgs (top 29), C8.fnBody (top 29), C8.fnScope (top 29), [], []⟩
def hE8 : He.DefD := ⟨("_law_parts", none), "_law_parts", "_law_parts", C8.fnArgs (top 27), C8.fnBody (top 27), C8.fnScope (top 27), [], []⟩
def hE9 : He.DefD := ⟨("_law_dos", none), "_law_dos", "_law_dos", C8.fnArgs (top 30), C8.fnBody (top 30), C8.fnScope (top 30), [], []⟩
def hE10 : He.DefD := ⟨("_law_good", none), "_law_good", "_law_good", C8.fnArgs (top 31), C8.fnBody (top 31), C8.fnScope (top 31), [], []⟩
def hE11 : He.DefD := ⟨("inner", none), "inner", "inner", C8.fnArgs (top 15), C8.fnBody (top 15), C8.fnScope (top 15), [], []⟩
def hE12 : He.DefD := ⟨("is_name", none), "is_name", "is_name", C8.fnArgs (top 7), C8.fnBody (top 7), C8.fnScope (top 7), [], []⟩
def hE13 : He.DefD := ⟨("are_names", none), "are_names", "are_names", C8.fnArgs (top 13), C8.fnBody (top 13), C8.fnScope (top 13), [], []⟩
def hE14 : He.DefD := ⟨("has_form", none), "has_form", "has_form", C8.fnArgs (top 14), C8.fnBody (top 14), C8.fnScope (top 14), [], []⟩
def hE15 : He.DefD := ⟨("can_end", none), "can_end", "can_end", C8.fnArgs (top 16), C8.fnBody (top 16), C8.fnScope (top 16), [], []⟩
def hE16 : He.DefD := ⟨("wrong_node", none), "wrong_node", "wrong_node", C8.fnArgs (top 17), C8.fnBody (top 17), C8.fnScope (top 17), [], []⟩
def hE17 : He.DefD := ⟨("need_program", none), "need_program", "need_program", C8.fnArgs (top 18), C8.fnBody (top 18), C8.fnScope (top 18), [], []⟩
def hE18 : He.DefD := ⟨("_law_open", none), "_law_open", "_law_open", C8.fnArgs (top 32), C8.fnBody (top 32), C8.fnScope (top 32), [], []⟩
def hE19 : He.DefD := ⟨("openings", none), "openings", "openings", C8.fnArgs (top 19), C8.fnBody (top 19), C8.fnScope (top 19), [], []⟩
def hE20 : He.DefD := ⟨("_law_same", none), "_law_same", "_law_same", C8.fnArgs (top 33), C8.fnBody (top 33), C8.fnScope (top 33), [], []⟩
def hE21 : He.DefD := ⟨("law", none), "law", "law", C8.fnArgs (top 34), C8.fnBody (top 34), C8.fnScope (top 34), [], []⟩
def mts : List (Nat × Str) := []
def hfn : List He.DefD := [hE0, hE1, hE2, hE3, hE4, hE5, hE6, hE7, hE8, hE9, hE10, hE11, hE12, hE13, hE14, hE15, hE16, hE17, hE18, hE19, hE20, hE21]
def tcs : List (Str × D) := []
def exB (K : PySem.W.Frag) : Bool := (factB K && xcs.all (xcB K)) && tcs.all (fun q => conB K q.2 (.ref (He.ga K q.1))) && (ocs.all (ocB K) && mts.all (mtB K))
def hfa : List He.Fa := [.glo "_law_start", .glo "_law_draw", .glo "_law_name", .glo "_law_names", .glo "_law_shuffled", .glo "_law_some", .glo "_law_do", .glo "_law_program", .glo "_law_parts", .glo "_law_dos", .glo "_law_good", .glo "inner", .glo "is_name", .glo "are_names", .glo "has_form", .glo "can_end", .glo "wrong_node", .glo "need_program", .glo "_law_open", .glo "openings", .glo "_law_same", .glo "law", .free "len", .free "abs", .free "max", .free "min", .free "int", .free "str", .free "list", .free "tuple", .free "sum", .free "any", .free "all", .free "isinstance", .free "range", .free "enumerate", .free "zip", .free "bool", .free "dict", .free "sorted", .free "set", .str "FIRST" "abcdefghijklmnopqrstuvwxyz", .int "MOST_SIGNS" 8, .str "DIGITS" "0123456789", .int "MOST_PARTS" 8, .int "MOST_CHOICES" 4, .int "MOST_DEEP" 6, .int "MOST_DOS" 16]
abbrev R : PySem.W.OpenRow := PySem.W.OpenLaw.row PySem.Challenge.rw_burstshop_k45_openings_of_all_rests
abbrev hk : PySem.W.Hook := Bs.hookB 35 hfa hfn exB
def ob (s : PySem.W.SharedT) : Bs.AlB := Bs.obsB 35 hfa hfn exB (HandSHeadRun.getT s)
theorem ob_eq (s : PySem.W.SharedT) : ob s = hk.obs s.abs := Bs.obsB_eq (HandSHeadRun.getT_eq s)
def loose0 : List Str := ["ShopError", "BadProgram", "FIRST", "DIGITS", "MOST_SIGNS", "is_name", "MOST_DEEP", "MOST_DOS", "MOST_PARTS", "MOST_CHOICES", "are_names", "has_form", "inner", "can_end", "wrong_node", "need_program", "openings", "_law_start", "_law_draw", "_law_some", "_law_shuffled", "_law_name", "_law_names", "_law_parts", "_law_do", "_law_program", "_law_dos", "_law_good", "_law_open", "_law_same"]
abbrev loose : List Str := loose0
theorem run (w : World) : HandSHeadRun.RunEq R (PySem.W.view R.prog [34]) hk ob 20000 loose w := by
  intro os
  kernel_rfl
end Bs.K45
namespace Bs.K45
open PySem PySem.Spec PyProof.Rows L2 Bs
theorem sh0 : ShOk d1 ⟨1, 2, [], [0, 1]⟩ := ⟨fun _ _ _ _ _ _ us ws h1 h2 => match us, ws, h1, h2 with | [_, _], [], _, _ => rfl, fun xs h => match xs, h with | [_, _], _ => rfl⟩
theorem sh1 : ShOk d2 ⟨2, 2, [], [0, 1]⟩ := ⟨fun _ _ _ _ _ _ us ws h1 h2 => match us, ws, h1, h2 with | [_, _], [], _, _ => rfl, fun xs h => match xs, h with | [_, _], _ => rfl⟩
theorem sh2 : ShOk d4 ⟨4, 2, [], [0, 1]⟩ := ⟨fun _ _ _ _ _ _ us ws h1 h2 => match us, ws, h1, h2 with | [_, _], [], _, _ => rfl, fun xs h => match xs, h with | [_, _], _ => rfl⟩
theorem sh3 : ShOk d5 ⟨5, 2, [], [0, 1]⟩ := ⟨fun _ _ _ _ _ _ us ws h1 h2 => match us, ws, h1, h2 with | [_, _], [], _, _ => rfl, fun xs h => match xs, h with | [_, _], _ => rfl⟩
theorem sh4 : ShOk d7 ⟨7, 6, [], [0, 1, 2, 3, 4, 5]⟩ := ⟨fun _ _ _ _ _ _ us ws h1 h2 => match us, ws, h1, h2 with | [_, _, _, _, _, _], [], _, _ => rfl, fun xs h => match xs, h with | [_, _, _, _, _, _], _ => rfl⟩
theorem sh5 : ShOk d6 ⟨6, 3, [], [0, 1, 2]⟩ := ⟨fun _ _ _ _ _ _ us ws h1 h2 => match us, ws, h1, h2 with | [_, _, _], [], _, _ => rfl, fun xs h => match xs, h with | [_, _, _], _ => rfl⟩
theorem sh6 : ShOk d9 ⟨9, 1, [], [0]⟩ := ⟨fun _ _ _ _ _ _ us ws h1 h2 => match us, ws, h1, h2 with | [_], [], _, _ => rfl, fun xs h => match xs, h with | [_], _ => rfl⟩
theorem sh7 : ShOk d8 ⟨8, 1, [], [0]⟩ := ⟨fun _ _ _ _ _ _ us ws h1 h2 => match us, ws, h1, h2 with | [_], [], _, _ => rfl, fun xs h => match xs, h with | [_], _ => rfl⟩
theorem sh8 : ShOk d12 ⟨12, 1, [], [0]⟩ := ⟨fun _ _ _ _ _ _ us ws h1 h2 => match us, ws, h1, h2 with | [_], [], _, _ => rfl, fun xs h => match xs, h with | [_], _ => rfl⟩
theorem sh9 : ShOk d13 ⟨13, 2, [], [0, 1]⟩ := ⟨fun _ _ _ _ _ _ us ws h1 h2 => match us, ws, h1, h2 with | [_, _], [], _, _ => rfl, fun xs h => match xs, h with | [_, _], _ => rfl⟩
theorem sh10 : ShOk d15 ⟨15, 1, [], [0]⟩ := ⟨fun _ _ _ _ _ _ us ws h1 h2 => match us, ws, h1, h2 with | [_], [], _, _ => rfl, fun xs h => match xs, h with | [_], _ => rfl⟩
theorem sh11 : ShOk d14 ⟨14, 1, [], [0]⟩ := ⟨fun _ _ _ _ _ _ us ws h1 h2 => match us, ws, h1, h2 with | [_], [], _, _ => rfl, fun xs h => match xs, h with | [_], _ => rfl⟩
theorem sh12 : ShOk d11 ⟨11, 1, [], [0]⟩ := ⟨fun _ _ _ _ _ _ us ws h1 h2 => match us, ws, h1, h2 with | [_], [], _, _ => rfl, fun xs h => match xs, h with | [_], _ => rfl⟩
theorem sh13 : ShOk d16 ⟨16, 3, [], [0, 1, 2]⟩ := ⟨fun _ _ _ _ _ _ us ws h1 h2 => match us, ws, h1, h2 with | [_, _, _], [], _, _ => rfl, fun xs h => match xs, h with | [_, _, _], _ => rfl⟩
theorem sh14 : ShOk d19 ⟨19, 1, [], [0]⟩ := ⟨fun _ _ _ _ _ _ us ws h1 h2 => match us, ws, h1, h2 with | [_], [], _, _ => rfl, fun xs h => match xs, h with | [_], _ => rfl⟩
theorem sh15 : ShOk d20 ⟨20, 2, [], [0, 1]⟩ := ⟨fun _ _ _ _ _ _ us ws h1 h2 => match us, ws, h1, h2 with | [_, _], [], _, _ => rfl, fun xs h => match xs, h with | [_, _], _ => rfl⟩
theorem sh16 : ShOk d0 ⟨0, 1, [], [0]⟩ := ⟨fun _ _ _ _ _ _ us ws h1 h2 => match us, ws, h1, h2 with | [_], [], _, _ => rfl, fun xs h => match xs, h with | [_], _ => rfl⟩
theorem sh17 : ShOk d3 ⟨3, 3, [], [0, 1, 2]⟩ := ⟨fun _ _ _ _ _ _ us ws h1 h2 => match us, ws, h1, h2 with | [_, _, _], [], _, _ => rfl, fun xs h => match xs, h with | [_, _, _], _ => rfl⟩
theorem sh18 : ShOk d10 ⟨10, 5, [], [0, 1, 2, 3, 4]⟩ := ⟨fun _ _ _ _ _ _ us ws h1 h2 => match us, ws, h1, h2 with | [_, _, _, _, _], [], _, _ => rfl, fun xs h => match xs, h with | [_, _, _, _, _], _ => rfl⟩
theorem sh19 : ShOk d17 ⟨17, 0, ["thing"], [0]⟩ := ⟨fun _ _ _ _ _ _ us ws h1 h2 => match us, ws, h1, h2 with | [], [_], _, _ => rfl, fun xs h => match xs, h with | [_], _ => rfl⟩
theorem sh20 : ShOk d18 ⟨18, 1, [], [0]⟩ := ⟨fun _ _ _ _ _ _ us ws h1 h2 => match us, ws, h1, h2 with | [_], [], _, _ => rfl, fun xs h => match xs, h with | [_], _ => rfl⟩
theorem sh21 : ShOk d19 ⟨19, 0, ["rest"], [0]⟩ := ⟨fun _ _ _ _ _ _ us ws h1 h2 => match us, ws, h1, h2 with | [], [_], _, _ => rfl, fun xs h => match xs, h with | [_], _ => rfl⟩
theorem shs_ok : ∀ sh ∈ shs, ∀ d, drs[sh.f]? = some d → ShOk d sh := by
  intro sh h d e
  simp only [shs, List.mem_cons, List.not_mem_nil, or_false] at h
  rcases h with rfl | rfl | rfl | rfl | rfl | rfl | rfl | rfl | rfl | rfl | rfl | rfl | rfl | rfl | rfl | rfl | rfl | rfl | rfl | rfl | rfl | rfl
  · cases e; exact sh0
  · cases e; exact sh1
  · cases e; exact sh2
  · cases e; exact sh3
  · cases e; exact sh4
  · cases e; exact sh5
  · cases e; exact sh6
  · cases e; exact sh7
  · cases e; exact sh8
  · cases e; exact sh9
  · cases e; exact sh10
  · cases e; exact sh11
  · cases e; exact sh12
  · cases e; exact sh13
  · cases e; exact sh14
  · cases e; exact sh15
  · cases e; exact sh16
  · cases e; exact sh17
  · cases e; exact sh18
  · cases e; exact sh19
  · cases e; exact sh20
  · cases e; exact sh21
theorem facts {P : Program} {w : World} {K : PySem.W.Frag} {h : Heap} {mg : Str → Option Value} {f : Addr} (X0 : K.In h) (G : h.Ns mainGlobals mg) (hf : mg ("law" : Str) = some (.ref f)) (c : He.SaysD hfa hfn K) (cx : exB K = true) (k : Nat) :
    ∃ fd : FuncData, (∀ (s : Shared) (v : Value), BindsTo s fd ⟨[v], []⟩ [("_law_script", v)]) ∧ ∀ base : Heap, K.In base → base.Ns mainGlobals mg → FnOk P w K mg base C8.CX0 (lv k) f fd ["_law_script"] (fun vs H Q _ => spF K (call gl fns k 21) 1 false vs H Q fun _ _ _ => False) := by
  unfold exB at cx
  rw [Bool.and_eq_true, Bool.and_eq_true, Bool.and_eq_true, Bool.and_eq_true] at cx
  have cxo := cx.2
  replace cx := cx.1
  have hoc : ∀ q ∈ ocs, OcOk K mg q.1 q.2 := fun q hq => ocB_ok (fun x u e => PySem.W.mg_of X0 G e) (List.all_eq_true.mp cxo.1 q hq)
  have hdef : ∀ (f : Nat) d, drs[f]? = some d → ∃ a fd, FD K d a fd ∧ FAt K mg d.I a := by
    intro f d hd
    match f, hd with
    | 0, hd => cases hd; obtain ⟨fd, F⟩ := c.def_ 0 (d := hE0) rfl; exact ⟨_, fd, F, He.glo_ok X0 G (c.fact 0 (f := .glo "_law_start") rfl)⟩
    | 1, hd => cases hd; obtain ⟨fd, F⟩ := c.def_ 1 (d := hE1) rfl; exact ⟨_, fd, F, He.glo_ok X0 G (c.fact 1 (f := .glo "_law_draw") rfl)⟩
    | 2, hd => cases hd; obtain ⟨fd, F⟩ := c.def_ 2 (d := hE2) rfl; exact ⟨_, fd, F, He.glo_ok X0 G (c.fact 2 (f := .glo "_law_name") rfl)⟩
    | 3, hd => cases hd; obtain ⟨fd, F⟩ := c.def_ 3 (d := hE3) rfl; exact ⟨_, fd, F, He.glo_ok X0 G (c.fact 3 (f := .glo "_law_names") rfl)⟩
    | 4, hd => cases hd; obtain ⟨fd, F⟩ := c.def_ 4 (d := hE4) rfl; exact ⟨_, fd, F, He.glo_ok X0 G (c.fact 4 (f := .glo "_law_shuffled") rfl)⟩
    | 5, hd => cases hd; obtain ⟨fd, F⟩ := c.def_ 5 (d := hE5) rfl; exact ⟨_, fd, F, He.glo_ok X0 G (c.fact 5 (f := .glo "_law_some") rfl)⟩
    | 6, hd => cases hd; obtain ⟨fd, F⟩ := c.def_ 6 (d := hE6) rfl; exact ⟨_, fd, F, He.glo_ok X0 G (c.fact 6 (f := .glo "_law_do") rfl)⟩
    | 7, hd => cases hd; obtain ⟨fd, F⟩ := c.def_ 7 (d := hE7) rfl; exact ⟨_, fd, F, He.glo_ok X0 G (c.fact 7 (f := .glo "_law_program") rfl)⟩
    | 8, hd => cases hd; obtain ⟨fd, F⟩ := c.def_ 8 (d := hE8) rfl; exact ⟨_, fd, F, He.glo_ok X0 G (c.fact 8 (f := .glo "_law_parts") rfl)⟩
    | 9, hd => cases hd; obtain ⟨fd, F⟩ := c.def_ 9 (d := hE9) rfl; exact ⟨_, fd, F, He.glo_ok X0 G (c.fact 9 (f := .glo "_law_dos") rfl)⟩
    | 10, hd => cases hd; obtain ⟨fd, F⟩ := c.def_ 10 (d := hE10) rfl; exact ⟨_, fd, F, He.glo_ok X0 G (c.fact 10 (f := .glo "_law_good") rfl)⟩
    | 11, hd => cases hd; obtain ⟨fd, F⟩ := c.def_ 11 (d := hE11) rfl; exact ⟨_, fd, F, He.glo_ok X0 G (c.fact 11 (f := .glo "inner") rfl)⟩
    | 12, hd => cases hd; obtain ⟨fd, F⟩ := c.def_ 12 (d := hE12) rfl; exact ⟨_, fd, F, He.glo_ok X0 G (c.fact 12 (f := .glo "is_name") rfl)⟩
    | 13, hd => cases hd; obtain ⟨fd, F⟩ := c.def_ 13 (d := hE13) rfl; exact ⟨_, fd, F, He.glo_ok X0 G (c.fact 13 (f := .glo "are_names") rfl)⟩
    | 14, hd => cases hd; obtain ⟨fd, F⟩ := c.def_ 14 (d := hE14) rfl; exact ⟨_, fd, F, He.glo_ok X0 G (c.fact 14 (f := .glo "has_form") rfl)⟩
    | 15, hd => cases hd; obtain ⟨fd, F⟩ := c.def_ 15 (d := hE15) rfl; exact ⟨_, fd, F, He.glo_ok X0 G (c.fact 15 (f := .glo "can_end") rfl)⟩
    | 16, hd => cases hd; obtain ⟨fd, F⟩ := c.def_ 16 (d := hE16) rfl; exact ⟨_, fd, F, He.glo_ok X0 G (c.fact 16 (f := .glo "wrong_node") rfl)⟩
    | 17, hd => cases hd; obtain ⟨fd, F⟩ := c.def_ 17 (d := hE17) rfl; exact ⟨_, fd, F, He.glo_ok X0 G (c.fact 17 (f := .glo "need_program") rfl)⟩
    | 18, hd => cases hd; obtain ⟨fd, F⟩ := c.def_ 18 (d := hE18) rfl; exact ⟨_, fd, F, He.glo_ok X0 G (c.fact 18 (f := .glo "_law_open") rfl)⟩
    | 19, hd => cases hd; obtain ⟨fd, F⟩ := c.def_ 19 (d := hE19) rfl; exact ⟨_, fd, F, He.glo_ok X0 G (c.fact 19 (f := .glo "openings") rfl)⟩
    | 20, hd => cases hd; obtain ⟨fd, F⟩ := c.def_ 20 (d := hE20) rfl; exact ⟨_, fd, F, He.glo_ok X0 G (c.fact 20 (f := .glo "_law_same") rfl)⟩
    | 21, hd => cases hd; obtain ⟨fd, F⟩ := c.def_ 21 (d := hE21) rfl; exact ⟨_, fd, F, He.glo_ok X0 G (c.fact 21 (f := .glo "law") rfl)⟩
    | _ + 22, hd => cases hd
  have hblt : ∀ x, x ∈ bltL → mg x = none := by
    intro x hx
    simp only [bltL, List.mem_cons, List.not_mem_nil, or_false] at hx
    rcases hx with rfl | rfl | rfl | rfl | rfl | rfl | rfl | rfl | rfl | rfl | rfl | rfl | rfl | rfl | rfl | rfl | rfl | rfl | rfl
    · exact He.free_ok X0 G (c.fact 22 (f := .free "len") rfl)
    · exact He.free_ok X0 G (c.fact 23 (f := .free "abs") rfl)
    · exact He.free_ok X0 G (c.fact 24 (f := .free "max") rfl)
    · exact He.free_ok X0 G (c.fact 25 (f := .free "min") rfl)
    · exact He.free_ok X0 G (c.fact 26 (f := .free "int") rfl)
    · exact He.free_ok X0 G (c.fact 27 (f := .free "str") rfl)
    · exact He.free_ok X0 G (c.fact 28 (f := .free "list") rfl)
    · exact He.free_ok X0 G (c.fact 29 (f := .free "tuple") rfl)
    · exact He.free_ok X0 G (c.fact 30 (f := .free "sum") rfl)
    · exact He.free_ok X0 G (c.fact 31 (f := .free "any") rfl)
    · exact He.free_ok X0 G (c.fact 32 (f := .free "all") rfl)
    · exact He.free_ok X0 G (c.fact 33 (f := .free "isinstance") rfl)
    · exact He.free_ok X0 G (c.fact 34 (f := .free "range") rfl)
    · exact He.free_ok X0 G (c.fact 35 (f := .free "enumerate") rfl)
    · exact He.free_ok X0 G (c.fact 36 (f := .free "zip") rfl)
    · exact He.free_ok X0 G (c.fact 37 (f := .free "bool") rfl)
    · exact He.free_ok X0 G (c.fact 38 (f := .free "dict") rfl)
    · exact He.free_ok X0 G (c.fact 39 (f := .free "sorted") rfl)
    · exact He.free_ok X0 G (c.fact 40 (f := .free "set") rfl)
  have hgls : ∀ (g : Nat) x, gls[g]? = some x → ∃ d u v, gl g = some d ∧ mg x = some u ∧ RelV v u ∧ ∀ S H, Rel K S H d v := by
    intro g x hg
    match g, hg with
    | 0, hg => cases hg; obtain ⟨t, e⟩ := He.str_ok X0 G (c.fact 41 (f := .str "FIRST" "abcdefghijklmnopqrstuvwxyz") rfl); exact ⟨_, _, .str "abcdefghijklmnopqrstuvwxyz", rfl, e, ⟨t, rfl⟩, fun _ _ => ⟨by decide +kernel, by decide, by decide⟩⟩
    | 1, hg => cases hg; obtain ⟨t, e⟩ := He.int_ok X0 G (c.fact 42 (f := .int "MOST_SIGNS" 8) rfl); exact ⟨_, _, .int 8, rfl, e, ⟨t, rfl⟩, fun _ _ => rfl⟩
    | 2, hg => cases hg; obtain ⟨t, e⟩ := He.str_ok X0 G (c.fact 43 (f := .str "DIGITS" "0123456789") rfl); exact ⟨_, _, .str "0123456789", rfl, e, ⟨t, rfl⟩, fun _ _ => ⟨by decide +kernel, by decide, by decide⟩⟩
    | 3, hg => cases hg; obtain ⟨t, e⟩ := He.int_ok X0 G (c.fact 44 (f := .int "MOST_PARTS" 8) rfl); exact ⟨_, _, .int 8, rfl, e, ⟨t, rfl⟩, fun _ _ => rfl⟩
    | 4, hg => cases hg; obtain ⟨t, e⟩ := He.int_ok X0 G (c.fact 45 (f := .int "MOST_CHOICES" 4) rfl); exact ⟨_, _, .int 4, rfl, e, ⟨t, rfl⟩, fun _ _ => rfl⟩
    | 5, hg => cases hg; obtain ⟨t, e⟩ := He.int_ok X0 G (c.fact 46 (f := .int "MOST_DEEP" 6) rfl); exact ⟨_, _, .int 6, rfl, e, ⟨t, rfl⟩, fun _ _ => rfl⟩
    | 6, hg => cases hg; obtain ⟨t, e⟩ := He.int_ok X0 G (c.fact 47 (f := .int "MOST_DOS" 16) rfl); exact ⟨_, _, .int 16, rfl, e, ⟨t, rfl⟩, fun _ _ => rfl⟩
    | _ + 7, hg => cases hg
  replace cx := cx.1
  rw [List.all_eq_true] at cx
  have hxc : ∀ (X : Cx), X.K = K → X.mg = mg → ∀ q ∈ xcs, XcOk X q.1 q.2 := by
    intro X hK hmg q hq
    have hF := xcB_ok (cx.2 q hq)
    cases hq
  obtain ⟨a, fd, F, hm⟩ := hdef 21 d21 rfl
  have e := hf.symm.trans hm
  cases e
  refine ⟨fd, fun s v => ?_, fun base _ _ => (all_ok chk_ok (factB_ok cx.1) (fun X _ _ hK hmg _ => hxc X hK hmg) hoc hblt hgls hdef shs_ok k 21 d21 rfl f fd F).drop⟩
  exact F.binds (sh := ⟨21, 1, [], [0]⟩) ⟨fun _ _ _ _ _ _ us ws h1 h2 => match us, ws, h1, h2 with | [_], [], _, _ => rfl, fun xs h => match xs, h with | [_], _ => rfl⟩ s [v] [] rfl rfl
end Bs.K45
open PySem PySem.W PySem.Calls PyProof.Rows
theorem PySem.Challenge.cw_burstshop_k45_openings_of_all_rests_holds : PySem.Challenge.rw_burstshop_k45_openings_of_all_rests.Holds := by
  w_on; o_law
  refine HandSHeadRun.head_any (r := OpenLaw.row PySem.Challenge.rw_burstshop_k45_openings_of_all_rests) (q := view (OpenLaw.row PySem.Challenge.rw_burstshop_k45_openings_of_all_rests).prog [34]) (H := Bs.K45.hk) (ob := Bs.K45.ob) (M := 20000) (loose := Bs.K45.loose) (d := HandSHeadRun.topDef (OpenLaw.row PySem.Challenge.rw_burstshop_k45_openings_of_all_rests).prog 34) (kwd := []) Bs.K45.ob_eq
    (by kernel_rfl) (fun s => by kernel_rfl) Bs.K45.run (by kernel_rfl) (by kernel_rfl) (by kernel_rfl) (by rfl) (by first | assumption | decide +kernel) (by decide +kernel) ⟨rfl, rfl, rfl, rfl, rfl, by decide +kernel⟩ ?hw ?hc
  case hw => w_witness2
  case hc =>
    refine L2.walk_ofE (l := PySem.Challenge.rw_burstshop_k45_openings_of_all_rests) (n := 63) (k := Bs.lv 60) (x := "_law_script") (CX := C8.CX0) rfl (by decide) (by kernel_rfl) ⟨rfl, by decide, by decide⟩ ?F (fun _ _ _ _ z => z)
    intro w mg fa h Y G hmg0
    obtain ⟨K, KX, c, cx⟩ := Y
    have hmg : mg ("law" : PySem.Str) = some (.ref fa) := by
      have e : (HandSHeadRun.topDef (OpenLaw.row PySem.Challenge.rw_burstshop_k45_openings_of_all_rests).prog 34).name = ("law" : PySem.Str) := by kernel_rfl
      rw [← e]
      exact hmg0
    obtain ⟨fd, hb, hF⟩ := Bs.K45.facts (P := (PySem.Challenge.rw_burstshop_k45_openings_of_all_rests).prog) (w := w) KX G hmg c cx 60
    exact ⟨K, fd, fun vs H Q _ => Bs.spF K (Bs.call Bs.K45.gl Bs.K45.fns 60 21) 1 false vs H Q fun _ _ _ => False, KX, hb, fun H a ns hl _ hS => Bs.sp_law hS (Bs.K45.main ns hl), hF⟩
