import PyProof.Rows.All
import Wide.All
import OpenK.AllK
import Wide.FinOn
import HandS.ForMost
import HandS.Exc
import HandS.ExcOwn
import HandS.WordsExc
import HandS.Flow
import HandS.IsInst
import HandS.Conv
import HandS.Deep
import HandS.TupAny
import HandS.TupMul
import HandS.Style
import HandS.CallSlots
import KE.GoesMore
import PyProof.EnumMake
import PyProof.Draws
import HandS.DictComp
import HandS.Defaults
import HandS.MakeKwOnly
import HandS.ExcInit
import HandS.ExcField
import HandS.TryMany
import KE.KExcInit
import PyProof.ExcBaseAll.OverflowError
import PyProof.ExcBaseAll.RuntimeError
import HandS.Strs
import HandS.Star
import HandS.RaiseMore
import HandS.HeadHook1
import HandS.HeadHook2
import HandS.Head0
import HandS.Head1
import HandS.Head2
import HandS.HeadEnd
import PySem.Challenge.RW_steadycalls_k03_whole_terms
set_option Elab.async false
set_option linter.all false
set_option maxRecDepth 100000
set_option maxHeartbeats 0
namespace Ev
open PySem

/-- the built-in classes that are named -/
inductive Ty where
  | int | bool | str | list | tuple | dict | vale | keye | ovfe | rune
  deriving DecidableEq
def Ty.name : Ty → String
  | .int => "int"
  | .bool => "bool"
  | .str => "str"
  | .list => "list"
  | .tuple => "tuple"
  | .dict => "dict"
  | .vale => "ValueError"
  | .keye => "KeyError"
  | .ovfe => "OverflowError"
  | .rune => "RuntimeError"
/-- a value: what is never written again is what it holds (a tuple, a list, a dict: its keys, its values; an instance: its fields' names, their values); what may be
written is a place -/
inductive W where
  | non | bl (b : Bool) | int (i : Int) | str (x : Str) | tup (xs : List W) | lst (xs : List W) | dct (kvs : List (W × W)) | ins (c : Nat) (fs : List (Nat × W))
  | ref (a : Nat) | cls (c : Nat) | ty (t : Ty)
  /-- the script -/
  | scr (ns : List Int)

/-- what stands at a place -/
inductive Ob where
  /-- a list -/
  | lst (xs : List W)
  /-- a dict, its keys in order, its values; locked while it is walked -/
  | dic (lk : Bool) (kvs : List (W × W))
  /-- an instance of class c -/
  | ins (c : Nat) (fs : List (Nat × W))
  /-- it is a value now -/
  | ded

def nth {α : Type} : List α → Nat → Option α
  | [], _ => none
  | x :: r, k => match k with
    | 0 => some x
    | k + 1 => nth r k
theorem nth_eq {α : Type} : ∀ (l : List α) (k : Nat), nth l k = l[k]?
  | [], _ => by simp [nth]
  | _ :: _, 0 => by simp [nth]
  | _ :: r, k + 1 => by simp [nth, nth_eq r k]

structure Hep where
  l : List Ob
namespace Hep
def n (h : Hep) : Nat := h.l.length
def get (h : Hep) (a : Nat) : Option Ob := nth h.l a
def set (h : Hep) (a : Nat) (o : Ob) : Hep := ⟨h.l.set a o⟩
def push (h : Hep) (o : Ob) : Hep := ⟨h.l ++ [o]⟩
def cut (h : Hep) (k : Nat) : Hep := ⟨h.l.take k⟩
def nil : Hep := ⟨[]⟩
theorem get_eq (h : Hep) (a : Nat) : h.get a = h.l[a]? := nth_eq _ _
theorem get_lt {h : Hep} {a : Nat} {o : Ob} (e : h.get a = some o) : a < h.n := by
  rw [get_eq] at e
  exact (List.getElem?_eq_some_iff.mp e).1
theorem get_set {h : Hep} {a : Nat} {u : Ob} (e : h.get a = some u) (b : Nat) (o : Ob) : (h.set a o).get b = if b = a then some o else h.get b := by
  have hl := get_lt e
  rw [get_eq, get_eq]
  show (h.l.set a o)[b]? = _
  rw [List.getElem?_set]
  by_cases z : b = a
  · subst z
    rw [if_pos rfl, if_pos rfl]
    exact if_pos hl
  · rw [if_neg (fun q => z q.symm), if_neg z]
theorem get_push (h : Hep) (b : Nat) (o : Ob) : (h.push o).get b = if b = h.n then some o else h.get b := by
  rw [get_eq, get_eq]
  show (h.l ++ [o])[b]? = _
  rw [List.getElem?_append]
  by_cases z : b = h.n
  · subst z
    rw [if_pos rfl]
    show (if h.l.length < h.l.length then h.l[h.l.length]? else [o][h.l.length - h.l.length]?) = _
    rw [if_neg (Nat.lt_irrefl _), Nat.sub_self]
    rfl
  · rw [if_neg z]
    by_cases l : b < h.l.length
    · rw [if_pos l]
    · rw [if_neg l, List.getElem?_eq_none (by show 1 ≤ b - h.l.length; have : b ≠ h.l.length := z; omega), List.getElem?_eq_none (by omega)]
theorem get_cut (h : Hep) (k b : Nat) : (h.cut k).get b = if b < k then h.get b else none := by
  rw [get_eq, get_eq]
  show (h.l.take k)[b]? = _
  rw [List.getElem?_take]
theorem n_set (h : Hep) (a : Nat) (o : Ob) : (h.set a o).n = h.n := List.length_set
theorem n_push (h : Hep) (o : Ob) : (h.push o).n = h.n + 1 := by
  show (h.l ++ [o]).length = _
  rw [List.length_append]
  rfl
theorem n_cut {h : Hep} {k : Nat} (l : k ≤ h.n) : (h.cut k).n = k := by
  show (h.l.take k).length = _
  rw [List.length_take]
  exact Nat.min_eq_left l
end Hep
mutual
def W.blw (n : Nat) : W → Bool
  | .tup xs => W.blws n xs
  | .lst xs => W.blws n xs
  | .dct kvs => W.blwKs n kvs
  | .ins _ fs => W.blwFs n fs
  | .ref a => decide (a < n)
  | _ => true
def W.blws (n : Nat) : List W → Bool
  | [] => true
  | x :: r => W.blw n x && W.blws n r
def W.blwK (n : Nat) : W × W → Bool
  | (x, y) => W.blw n x && W.blw n y
def W.blwKs (n : Nat) : List (W × W) → Bool
  | [] => true
  | p :: r => W.blwK n p && W.blwKs n r
def W.blwF (n : Nat) : Nat × W → Bool
  | (_, y) => W.blw n y
def W.blwFs (n : Nat) : List (Nat × W) → Bool
  | [] => true
  | p :: r => W.blwF n p && W.blwFs n r
end
def Ob.blw (n : Nat) : Ob → Bool
  | .lst xs => W.blws n xs
  | .dic _ kvs => W.blwKs n kvs
  | .ins _ fs => W.blwFs n fs
  | .ded => true
def Hep.blw (n : Nat) : Nat → List Ob → Bool
  | 0, _ => true
  | _ + 1, [] => true
  | k + 1, o :: r => o.blw n && Hep.blw n k r
/-- the places from n on are left behind, if nothing names them -/
def Hep.ends (n : Nat) (w : W) (h : Hep) : Hep := if h.n ≤ n then h else if w.blw n && Hep.blw n n h.l then h.cut n else h

inductive Out (α : Type) where
  | ok (a : α) (h : Hep)
  /-- an own error of class c with its one attribute -/
  | exc (c : Nat) (p : W) (h : Hep)
  | bad
namespace Out
def bind {α β : Type} (m : Out α) (f : α → Hep → Out β) : Out β := match m with
  | .ok a h => f a h
  | .exc c p h => .exc c p h
  | .bad => .bad
def some' {α : Type} (o : Option α) (h : Hep) : Out α := match o with
  | some a => .ok a h
  | none => .bad
/-- nothing may be raised here -/
def calm {α : Type} (m : Out α) : Out α := match m with
  | .exc _ _ _ => .bad
  | m => m
end Out

/-- built-in functions -/
inductive Bf where
  | len | abs | max2 | min2 | maxl | minl | int | str | sum | all | any | sorted | list | listM | tuple | isi | repr | dict | dictM
  deriving DecidableEq
/-- methods of built-in classes -/
inductive Bm where
  | append | extend | pop | clear | get1 | get2 | index | items | join | split | update | count | replace
  deriving DecidableEq
/-- what is walked -/
inductive Ik where
  | seq | rng | enu | zip | itm
  deriving DecidableEq
/-- a target: a name, names -/
inductive Tg where
  | nm (i : Nat) | tp (is : List Nat)
/-- expressions; where a Bool m stands: what is made is written later on (a place) -/
inductive Ex where
  | var (i : Nat)
  | non | bl (b : Bool) | int (i : Int) | str (x : Str)
  /-- a constant of the module; a built-in class; an own class -/
  | glb (g : Nat) | ty (t : Ty) | cln (c : Nat)
  | bin (op : Operator) (a b : Ex)
  | neg (a : Ex)
  | cmp (op : CmpOp) (a b : Ex)
  | chn (o1 o2 : CmpOp) (a b c : Ex)
  | and (a b : Ex) | or (a b : Ex) | not (a : Ex)
  | ife (c a b : Ex)
  | fld (a : Ex) (f : Nat)
  | idx (a i : Ex)
  | slL (a lo : Ex) | slH (a hi : Ex) | slB (a lo hi : Ex) | rev (a : Ex)
  | tup (es : List Ex) | lst (m : Bool) (es : List Ex)
  /-- [a, .., *b] -/
  | lsS (es : List Ex) (b : Ex)
  | cal (f : Nat) (es : List Ex)
  | mth (m : Nat) (a : Ex) (es : List Ex)
  /-- C(e, .., k = e, ..), f(e, .., k = e, ..): bound in the way b -/
  | mak (c : Nat) (b : Nat) (es : List Ex)
  | clk (b : Nat) (es : List Ex)
  | bfn (b : Bf) (es : List Ex)
  | bmt (m : Bm) (a : Ex) (es : List Ex)
  /-- [elt for tg in it (if c)]; two for -/
  | lco (m : Bool) (elt : Ex) (tg : Tg) (k : Ik) (it : List Ex) (cs : List Ex) (own : List Nat)
  | lc2 (m : Bool) (elt : Ex) (tg : Tg) (k : Ik) (it : List Ex) (tg1 : Tg) (k1 : Ik) (it1 : List Ex) (cs1 : List Ex) (own own1 : List Nat)
  /-- {k: v, ..}: keys and values in turn -/
  | dct (m : Bool) (es : List Ex)
  /-- {k: v for tg in it (if c)} -/
  | dco (m : Bool) (k v : Ex) (tg : Tg) (ik : Ik) (it : List Ex) (cs : List Ex) (own : List Nat)
  /-- it is not written any more -/
  | frz (i : Nat)
  /-- what is never come to -/
  | nev
/-- what an except suite tells: the error's attribute, a constant, a list of such -/
inductive Sx where
  | pay | cst (w : W) | lst (xs : List Sx)
inductive Sm where
  | exp (e : Ex)
  | asg (t : Tg) (e : Ex)
  /-- a[i], b[j], .. = x -/
  | sbs (ts : List (Ex × Ex)) (x : Ex)
  | sfl (a : Ex) (f : Nat) (e : Ex)
  | sub (a i e : Ex)
  | aug (i : Nat) (op : Operator) (e : Ex)
  | ret (e : Ex) | retN
  | iff (c : Ex) (a b : List Sm)
  | whl (c : Ex) (b : List Sm)
  | for (tg : Tg) (k : Ik) (it : List Ex) (b : List Sm)
  | pas | brk | cnt
  /-- raise C(e) -/
  | rai (c : Nat) (e : Ex)
  /-- try: b / except C as x: return s / .. -/
  | tri (b : List Sm) (hs : List (Nat × Nat × Sx))
  | nev

structure Fn where
  np : Nat
  nl : Nat
  body : List Sm
/-- a way of binding: n arguments by place, m by name; where each parameter's value comes from (behind self, for a class): an argument, a default -/
structure Kb where
  f : Nat
  n : Nat
  m : Nat
  src : List (Sum Nat W)
/-- a class: its __init__, whether its instances are written later on, its fields, its methods, what it stands under -/
structure Cl where
  ini : Nat
  mu : Bool
  flds : List Nat
  mts : List (Nat × Nat)
  sup : List Nat
  sut : List Ty
structure Pg where
  fns : List Fn
  cls : List Cl
  glb : List W
  kbs : List Kb
  /-- the classes that isinstance, that an except clause names -/
  isd : List Nat
  exh : List Nat
/-- the callees -/
structure Orc where
  call : Nat → List W → Hep → Out W
  make : Nat → List W → Hep → Out W
  /-- there is room for an error -/
  ok : Bool

abbrev Env := List (Option W)

def lim : Nat := 16777216
def strEq (a b : Str) : Bool := a.cps.toList == b.cps.toList
def listOf (h : Hep) (w : W) : Option (List W) := match w with
  | .lst xs => some xs
  | .scr ns => some (ns.map W.int)
  | .ref a => (match h.get a with
    | some (.lst xs) => some xs
    | _ => none)
  | _ => none
def seqOf (h : Hep) (w : W) : Option (List W) := match w with
  | .tup xs => some xs
  | w => listOf h w
def intsOf : List W → Option (List Int)
  | [] => some []
  | .int i :: r => (intsOf r).map (i :: ·)
  | _ => none
def blsOf : List W → Option (List Bool)
  | [] => some []
  | .bl i :: r => (blsOf r).map (i :: ·)
  | _ => none
def strsOf : List W → Option (List Str)
  | [] => some []
  | .str i :: r => (strsOf r).map (i :: ·)
  | _ => none
def truth (h : Hep) (w : W) : Option Bool := match w with
  | .non => some false
  | .bl b => some b
  | .int i => some (i != 0)
  | .str x => if x.length ≤ lim then some (((x.length : Nat) : Int) != 0) else none
  | .tup xs => some (!xs.isEmpty)
  | .lst xs => some (!xs.isEmpty)
  | .scr ns => some (!ns.isEmpty)
  | .ref a => (match h.get a with
    | some (.lst xs) => some (!xs.isEmpty)
    | some (.dic false kvs) => some (!kvs.isEmpty)
    | _ => none)
  | _ => none
def newL (m : Bool) (h : Hep) (xs : List W) : Out W := if xs.length ≤ lim then (match m with
    | true => .ok (.ref h.n) (h.push (.lst xs))
    | false => .ok (.lst xs) h) else .bad
def newT (h : Hep) (xs : List W) : Out W := if xs.length ≤ lim then .ok (.tup xs) h else .bad
def keyOk : W → Bool
  | .int _ => true
  | .str _ => true
  | _ => false
def keyEq : W → W → Bool
  | .int i, .int j => i == j
  | .str i, .str j => strEq i j
  | _, _ => false
def dget (kvs : List (W × W)) (k : W) : Option W := match kvs with
  | [] => none
  | (k', v) :: r => if keyEq k' k then some v else dget r k
def dput (kvs : List (W × W)) (k v : W) : List (W × W) := if kvs.any (fun p => keyEq p.1 k) then kvs.map (fun p => if keyEq p.1 k then (p.1, v) else p) else kvs ++ [(k, v)]
def keyW : W → Option L2.Key
  | .int i => some (.inl i)
  | .str x => some (.inr x)
  | _ => none
def dicOf (h : Hep) (x : W) : Option (List (W × W)) := match x with
  | .dct kvs => some kvs
  | .ref a => (match h.get a with
    | some (.dic _ kvs) => some kvs
    | _ => none)
  | _ => none
/-- keys and values in turn -/
def pairW : List W → Option (List (W × W))
  | [] => some []
  | k :: v :: r => (match keyW k with
    | some _ => (pairW r).map ((k, v) :: ·)
    | none => none)
  | _ => none
def laidD (m : Bool) (h : Hep) (kvs : List (W × W)) : Out W := match m with
  | true => .ok (.ref h.n) (h.push (.dic false kvs))
  | false => .ok (.dct kvs) h
def newD (m : Bool) (h : Hep) (ws : List W) : Out W := match pairW ws with
  | some ps => if ps.length ≤ 15 then laidD m h (ps.foldl (fun acc p => dput acc p.1 p.2) []) else .bad
  | none => .bad
def mulOk (i j : Int) : Bool := (decide (-18446744073709551616 < i) && decide (i < 18446744073709551616)) || (decide (-18446744073709551616 < j) && decide (j < 18446744073709551616))
def binop (op : Operator) (x y : W) (h : Hep) : Out W := match op with
  | .Add => (match x, y with
    | .int i, .int j => .ok (.int (i + j)) h
    | .str i, .str j => if i.length + j.length ≤ lim then .ok (.str (i ++ j)) h else .bad
    | .tup us, .tup vs => newT h (us ++ vs)
    | x, y => (match listOf h x, listOf h y with
      | some us, some vs => newL false h (us ++ vs)
      | _, _ => .bad))
  | .Sub => (match x, y with
    | .int i, .int j => .ok (.int (i - j)) h
    | _, _ => .bad)
  | .Mult => (match x, y with
    | .int i, .int j => if mulOk i j then .ok (.int (i * j)) h else .bad
    | .tup (u :: us), .int j => if 2 ≤ j then (if j ≤ 1000 then (if us.length < 1000 then .ok (.tup (List.replicate j.toNat (u :: us)).flatten) h else .bad) else .bad) else .bad
    | _, _ => .bad)
  | .Mod => (match x, y with
    | .int i, .int j => if 0 < j then .ok (.int (i % j)) h else .bad
    | _, _ => .bad)
  | .FloorDiv => (match x, y with
    | .int i, .int j => if 0 < j then (if j < 1073741824 then .ok (.int (i / j)) h else .bad) else .bad
    | _, _ => .bad)
  | .Pow => (match x, y with
    | .int i, .int j => if 0 ≤ j ∧ j ≤ 1000000 ∧ i.natAbs < 18446744073709551616 then .ok (.int (i ^ j.toNat)) h else .bad
    | _, _ => .bad)
  | _ => .bad
/-- data that is compared whole -/
def toD : Nat → Hep → W → Option PyData
  | 0, _, _ => none
  | f + 1, h, w => match w with
    | .non => some .none
    | .bl b => some (.bool b)
    | .int i => some (.int i)
    | .str x => some (.str x)
    | .tup xs => (xs.mapM (toD f h)).map .tuple
    | .lst xs => (xs.mapM (toD f h)).map .list
    | .ref a => (match h.get a with
      | some (.lst xs) => (xs.mapM (toD f h)).map .list
      | _ => none)
    | _ => none
def eqD (h : Hep) (x y : W) : Option Bool := match toD 65 h x, toD 65 h y with
  | some d, some e => if SeqAt.shaped d then (if SeqAt.shaped e then some (PyData.eqv d e) else none) else none
  | _, _ => none
def eqW (h : Hep) (x y : W) : Option Bool := match x, y with
  | .int i, .int j => some (i == j)
  | .str i, .str j => some (strEq i j)
  | .bl i, .bl j => some (i == j)
  | x, y => (match listOf h x, listOf h y with
    | some xs, some ys => if xs.length = ys.length then eqD h x y else some false
    | _, _ => eqD h x y)
def isW (x y : W) : Option Bool := match y with
  | .non => (match x with
    | .non => some true
    | _ => some false)
  | .bl b => (match x with
    | .bl a => some (decide (a = b))
    | _ => none)
  | _ => none
def flatW : W → Bool
  | .non => true
  | .bl _ => true
  | .int _ => true
  | .str _ => true
  | _ => false
def eqF : W → W → Bool
  | .non, .non => true
  | .bl a, .bl b => a == b
  | .bl a, .int b => (if a then 1 else 0) == b
  | .int a, .bl b => a == (if b then 1 else 0)
  | .int a, .int b => a == b
  | .str a, .str b => strEq a b
  | _, _ => false
def inW (h : Hep) (x y : W) : Option Bool := match y with
  | .str z => (match x with
    | .str c => (match c.cps.toList with
      | [k] => some (z.cps.toList.any (Nat.beq k))
      | _ => none)
    | _ => none)
  | .tup xs => if flatW x then (if xs.all flatW then some (xs.any fun y => eqF y x) else none) else none
  | y => (match dicOf h y with
    | some kvs => (match keyW x with
      | some _ => some (dget kvs x).isSome
      | none => none)
    | none => (match toD 65 h y, toD 65 h x with
      | some (.list ds), some d => if SeqAt.shaped (.list ds) then (if SeqAt.shaped d then some (ds.any fun z => PyData.eqv z d) else none) else none
      | _, _ => none))
def cmpop (op : CmpOp) (x y : W) (h : Hep) : Out W := match op with
  | .Eq => .some' ((eqW h x y).map .bl) h
  | .NotEq => .some' ((eqW h x y).map fun b => .bl (!b)) h
  | .Lt => (match x, y with
    | .int i, .int j => .ok (.bl (decide (i < j))) h
    | _, _ => .bad)
  | .LtE => (match x, y with
    | .int i, .int j => .ok (.bl (decide (i ≤ j))) h
    | _, _ => .bad)
  | .Gt => (match x, y with
    | .int i, .int j => .ok (.bl (decide (j < i))) h
    | _, _ => .bad)
  | .GtE => (match x, y with
    | .int i, .int j => .ok (.bl (decide (j ≤ i))) h
    | _, _ => .bad)
  | .Is => .some' ((isW x y).map .bl) h
  | .IsNot => .some' ((isW x y).map fun b => .bl (!b)) h
  | .In => .some' ((inW h x y).map .bl) h
  | .NotIn => .some' ((inW h x y).map fun b => .bl (!b)) h
/-- a place of a sequence, counted from either end -/
def ixW (n : Nat) (i : Int) : Option Nat := if 0 ≤ i then (if i < n then some i.toNat else none) else if -(n : Int) ≤ i then some (i + n).toNat else none
def atW (xs : List W) (i : Int) : Option W := (ixW xs.length i).bind fun j => nth xs j
/-- d[k] -/
def datW (x k : W) (h : Hep) : Out W := match dicOf h x with
  | some kvs => .some' (dget kvs k) h
  | none => .bad
def index (x i : W) (h : Hep) : Out W := match i with
  | .int k => (match x with
    | .str z => if z.length ≤ lim then (match ixW z.cps.toList.length k with
      | some j => (match nth z.cps.toList j with
        | some c => .ok (.str ⟨#[c]⟩) h
        | none => .bad)
      | none => .bad) else .bad
    | x => (match seqOf h x with
      | some xs => .some' (atW xs k) h
      | none => datW x (.int k) h))
  | .str k => datW x (.str k) h
  | _ => .bad
/-- the bounds of a slice -/
def slI (n d : Nat) : Option Int → Nat
  | none => d
  | some v => if v < 0 then (v + n).toNat else min v.toNat n
def cut (xs : List W) (lo hi : Option Int) : List W := (xs.drop (slI xs.length 0 lo)).take (slI xs.length xs.length hi - slI xs.length 0 lo)
def slice (x : W) (lo hi : Option Int) (h : Hep) : Out W := match x with
  | .tup xs => .ok (.tup (cut xs lo hi)) h
  | x => (match listOf h x with
    | some xs => newL false h (cut xs lo hi)
    | none => .bad)
def asInt : W → Option Int
  | .int i => some i
  | _ => none
/-- the class of a value among the built-in ones -/
def tyOf (h : Hep) : W → Option Ty
  | .bl _ => some .bool
  | .int _ => some .int
  | .str _ => some .str
  | .tup _ => some .tuple
  | .lst _ => some .list
  | .scr _ => some .list
  | .dct _ => some .dict
  | .ref a => (match h.get a with
    | some (.lst _) => some .list
    | some (.dic _ _) => some .dict
    | _ => none)
  | _ => none
/-- an instance: its class, its fields -/
def clsFs (h : Hep) (x : W) : Option (Nat × List (Nat × W)) := match x with
  | .ins c fs => some (c, fs)
  | .ref a => (match h.get a with
    | some (.ins c fs) => some (c, fs)
    | _ => none)
  | _ => none
def flook : List (Nat × W) → Nat → Option W
  | [], _ => none
  | p :: r, i => if Nat.beq p.1 i then some p.2 else flook r i
def fput : List (Nat × W) → Nat → W → List (Nat × W)
  | [], i, w => [(i, w)]
  | p :: r, i, w => if Nat.beq p.1 i then (p.1, w) :: r else p :: fput r i w
def mlook : List (Nat × Nat) → Nat → Option Nat
  | [], _ => none
  | p :: r, i => if Nat.beq p.1 i then some p.2 else mlook r i
def hasN (l : List Nat) (i : Nat) : Bool := l.any (Nat.beq i)
def hasT (l : List Ty) (t : Ty) : Bool := l.any fun u => decide (u = t)
def isi1 (P : Pg) (h : Hep) (x t : W) : Option Bool := match clsFs h x with
  | some (c, _) => (match nth P.cls c with
    | some cl => (match t with
      | .ty b => some (hasT cl.sut b)
      | .cls d => if hasN P.isd d then some (hasN cl.sup d) else none
      | _ => none)
    | none => none)
  | none => (match t with
    | .ty b => (match x with
      | .non => some false
      | x => (tyOf h x).map fun a => decide (a = b) || (decide (a = .bool) && decide (b = .int)))
    | .cls d => if hasN P.isd d then (match x with
      | .non => some false
      | x => (tyOf h x).map fun _ => false) else none
    | _ => none)
def isiA (P : Pg) (h : Hep) (x : W) : List W → Option Bool
  | [] => some false
  | t :: ts => (match isi1 P h x t with
    | some true => (match isiA P h x ts with
      | some _ => some true
      | none => none)
    | some false => isiA P h x ts
    | none => none)
def isi (P : Pg) (h : Hep) (x t : W) : Option Bool := match t with
  | .tup (t :: ts) => isiA P h x (t :: ts)
  | t => isi1 P h x t
def maxI : List Int → Option Int
  | [] => none
  | x :: r => some (r.foldl (fun m y => if m < y then y else m) x)
def minI : List Int → Option Int
  | [] => none
  | x :: r => some (r.foldl (fun m y => if y < m then y else m) x)
def bLen (vs : List W) (h : Hep) : Out W := match vs with
  | [x] => (match x with
    | .str z => if z.length ≤ lim then .ok (.int z.length) h else .bad
    | x => (match seqOf h x with
      | some xs => .ok (.int xs.length) h
      | none => (match dicOf h x with
        | some kvs => .ok (.int kvs.length) h
        | none => .bad)))
  | _ => .bad
def bAbs (vs : List W) (h : Hep) : Out W := match vs with
  | [.int i] => .ok (.int (if i < 0 then -i else i)) h
  | _ => .bad
def bMax2 (vs : List W) (h : Hep) : Out W := match vs with
  | [.int i, .int j] => .ok (.int (if j > i then j else i)) h
  | _ => .bad
def bMin2 (vs : List W) (h : Hep) : Out W := match vs with
  | [.int i, .int j] => .ok (.int (if j < i then j else i)) h
  | _ => .bad
def bMaxl (vs : List W) (h : Hep) : Out W := match vs with
  | [x] => .some' ((listOf h x).bind fun xs => (intsOf xs).bind fun ns => (maxI ns).map .int) h
  | _ => .bad
def bMinl (vs : List W) (h : Hep) : Out W := match vs with
  | [x] => .some' ((listOf h x).bind fun xs => (intsOf xs).bind fun ns => (minI ns).map .int) h
  | _ => .bad
def bInt (vs : List W) (h : Hep) : Out W := match vs with
  | [.int i] => .ok (.int i) h
  | [.bl k] => .ok (.int (if k then 1 else 0)) h
  | _ => .bad
def bSum (vs : List W) (h : Hep) : Out W := match vs with
  | [x] => .some' ((listOf h x).bind fun xs => (intsOf xs).map fun ns => .int ns.sum) h
  | _ => .bad
def bAll (vs : List W) (h : Hep) : Out W := match vs with
  | [x] => .some' ((listOf h x).bind fun xs => (blsOf xs).map fun bs => .bl (bs.all id)) h
  | _ => .bad
def bAny (vs : List W) (h : Hep) : Out W := match vs with
  | [x] => .some' ((listOf h x).bind fun xs => (blsOf xs).map fun bs => .bl (bs.any id)) h
  | _ => .bad
def bList (vs : List W) (h : Hep) : Out W := match vs with
  | [x] => (match seqOf h x with
    | some xs => newL false h xs
    | none => .bad)
  | _ => .bad
def bListM (vs : List W) (h : Hep) : Out W := match vs with
  | [x] => (match seqOf h x with
    | some xs => newL true h xs
    | none => .bad)
  | _ => .bad
def bTuple (vs : List W) (h : Hep) : Out W := match vs with
  | [x] => (match seqOf h x with
    | some xs => .ok (.tup xs) h
    | none => .bad)
  | _ => .bad
def ltS (a b : Str) : Bool := PySem.Spec.ltCps a.cps.toList b.cps.toList
def insS (x : Str) : List Str → List Str
  | [] => [x]
  | y :: r => if ltS y x then y :: insS x r else x :: y :: r
def sortS : List Str → List Str
  | [] => []
  | x :: r => insS x (sortS r)
def bStr (vs : List W) (h : Hep) : Out W := match vs with
  | [.str x] => .ok (.str x) h
  | _ => .bad
def bSorted (vs : List W) (h : Hep) : Out W := match vs with
  | [x] => (match listOf h x with
    | some xs => (match strsOf xs with
      | some ss => if ss.length < 64 then newL false h ((sortS ss).map W.str) else .bad
      | none => .bad)
    | none => .bad)
  | _ => .bad
def bIsi (P : Pg) (vs : List W) (h : Hep) : Out W := match vs with
  | [x, t] => .some' ((isi P h x t).map .bl) h
  | _ => .bad
def bfn (P : Pg) (b : Bf) : List W → Hep → Out W := match b with
  | .len => bLen
  | .abs => bAbs
  | .max2 => bMax2
  | .min2 => bMin2
  | .maxl => bMaxl
  | .minl => bMinl
  | .int => bInt
  | .sum => bSum
  | .all => bAll
  | .any => bAny
  | .list => bList
  | .listM => bListM
  | .tuple => bTuple
  | .isi => bIsi P
  | .str => bStr
  | .sorted => bSorted
  | _ => fun _ _ => .bad
def mAppend (x : W) (vs : List W) (h : Hep) : Out W := match x, vs with
  | .ref a, [y] => (match h.get a with
    | some (.lst xs) => if xs.length < lim then .ok .non (h.set a (.lst (xs ++ [y]))) else .bad
    | _ => .bad)
  | _, _ => .bad
/-- what an extend takes in -/
def exSrc (h : Hep) (w : W) : Option (List W) := match w with
  | .lst zs => some zs
  | .ref b => (match h.get b with
    | some (.lst zs) => some zs
    | _ => none)
  | _ => none
def mExtend (x : W) (vs : List W) (h : Hep) : Out W := match x, vs with
  | .ref a, [y] => (match h.get a, exSrc h y with
    | some (.lst xs), some zs => if xs.length + zs.length ≤ lim then .ok .non (h.set a (.lst (xs ++ zs))) else .bad
    | _, _ => .bad)
  | _, _ => .bad
def mGet1 (x : W) (vs : List W) (h : Hep) : Out W := match vs with
  | [y] => (match dicOf h x, keyW y with
    | some kvs, some _ => .ok ((dget kvs y).getD .non) h
    | _, _ => .bad)
  | _ => .bad
def mGet2 (x : W) (vs : List W) (h : Hep) : Out W := match vs with
  | [y, z] => (match dicOf h x, keyW y with
    | some kvs, some _ => .ok ((dget kvs y).getD z) h
    | _, _ => .bad)
  | _ => .bad
def ixS (z : Str) : List Str → Option Nat
  | [] => none
  | y :: r => if strEq y z then some 0 else (ixS z r).map (· + 1)
def mIndex (x : W) (vs : List W) (h : Hep) : Out W := match x, vs with
  | .tup xs, [.str z] => (match strsOf xs with
    | some ys => (match ixS z ys with
      | some j => .ok (.int (j : Nat)) h
      | none => .bad)
    | none => .bad)
  | _, _ => .bad
def bmt (m : Bm) : W → List W → Hep → Out W := match m with
  | .append => mAppend
  | .extend => mExtend
  | .get1 => mGet1
  | .get2 => mGet2
  | .index => mIndex
  | _ => fun _ _ _ => .bad

/-- whose method it is -/
def recv (m : Bm) (x : W) (h : Hep) : Bool := match m with
  | .append => (listOf h x).isSome
  | .extend => (listOf h x).isSome
  | .get1 => (dicOf h x).isSome
  | .get2 => (dicOf h x).isSome
  | .index => (match x with
    | .tup _ => true
    | _ => false)
  | _ => false
def setItem (x y z : W) (h : Hep) : Option Hep := match x, y with
  | .ref p, .int k => (match h.get p with
    | some (.lst xs) => (match ixW xs.length k with
      | some j => some (h.set p (.lst (xs.set j z)))
      | none => none)
    | some (.dic false kvs) => if kvs.length < lim then some (h.set p (.dic false (dput kvs (.int k) z))) else none
    | _ => none)
  | .ref p, .str k => (match h.get p with
    | some (.dic false kvs) => if kvs.length < lim then some (h.set p (.dic false (dput kvs (.str k) z))) else none
    | _ => none)
  | _, _ => none
/-- x.f = z -/
def setFld (P : Pg) (x : W) (f : Nat) (z : W) (h : Hep) : Option Hep := match x with
  | .ref a => (match h.get a with
    | some (.ins c fs) => (match nth P.cls c with
      | some cl => if hasN cl.flds f then (if fs.length < 900 then some (h.set a (.ins c (fput fs f z))) else none) else none
      | none => none)
    | _ => none)
  | _ => none
/-- x op= y -/
def augop (op : Operator) (x y : W) (h : Hep) : Out W := match op with
  | .Add => (match x, y with
    | .int i, .int j => .ok (.int (i + j)) h
    | _, _ => .bad)
  | .Sub => (match x, y with
    | .int i, .int j => .ok (.int (i - j)) h
    | _, _ => .bad)
  | .Mult => (match x, y with
    | .int i, .int j => if mulOk i j then .ok (.int (i * j)) h else .bad
    | _, _ => .bad)
  | .FloorDiv => (match x, y with
    | .int i, .int j => if 0 < j then (if j < 1073741824 then .ok (.int (i / j)) h else .bad) else .bad
    | _, _ => .bad)
  | _ => .bad
mutual
/-- what an except suite returns -/
def evx : Sx → Option W → Hep → Out W
  | .pay, p, h => .some' p h
  | .cst w, _, h => .ok w h
  | .lst xs, p, h => (evxs xs p h).bind fun ws h1 => newL false h1 ws
def evxs : List Sx → Option W → Hep → Out (List W)
  | [], _, h => .ok [] h
  | x :: r, p, h => (evx x p h).bind fun w h1 => (evxs r p h1).bind fun ws h2 => .ok (w :: ws) h2
end
def Kb.at_ (ws : List W) : List (Sum Nat W) → Option (List W)
  | [] => some []
  | .inl i :: r => (match nth ws i, Kb.at_ ws r with
    | some w, some l => some (w :: l)
    | _, _ => none)
  | .inr w :: r => (match Kb.at_ ws r with
    | some l => some (w :: l)
    | none => none)
/-- the arguments in the parameters' order -/
def Kb.arr (b : Kb) (ws : List W) : Option (List W) := if ws.length = b.n + b.m then Kb.at_ ws b.src else none
/-- a new instance: its __init__ has run -/
def made (cl : Cl) (a : Nat) (r : W) (h : Hep) : Out W := match r with
  | .non => (match cl.mu with
    | true => .ok (.ref a) h
    | false => (match h.get a with
      | some (.ins c fs) => .ok (.ins c fs) ((h.set a .ded).ends a (.ins c fs))
      | _ => .bad))
  | _ => .bad
/-- a place that is written no more -/
def freeze (x : W) (h : Hep) : Out W := match x with
  | .ref a => (match h.get a with
    | some (.lst xs) => .ok (.lst xs) (h.set a .ded)
    | some (.dic false kvs) => .ok (.dct kvs) (h.set a .ded)
    | _ => .bad)
  | x => .ok x h
inductive Src where
  | fix (xs : List W)
  | lis (a n : Nat)
  | rng (lo c : Int) (n : Nat)
def Src.len : Src → Nat
  | .fix xs => xs.length
  | .lis _ n => n
  | .rng _ _ n => n
/-- the i-th item, if what is walked still stands -/
def Src.at (s : Src) (i : Nat) (h : Hep) : Option W := match s with
  | .fix xs => nth xs i
  | .lis a n => (listOf h (.ref a)).bind fun xs => if xs.length = n then nth xs i else none
  | .rng lo c _ => some (.int (lo + (i : Nat) * c))
def Src.ends (s : Src) (h : Hep) : Bool := match s with
  | .lis a n => (match listOf h (.ref a) with
    | some xs => decide (xs.length = n)
    | none => false)
  | _ => true
def rngOk (i : Int) : Bool := decide (-4611686018427387904 ≤ i) && decide (i < 4611686018427387904)
def chars (z : Str) : List W := z.cps.toList.map fun c => W.str ⟨#[c]⟩
/-- pairs of a number and an item -/
def enumW : Nat → List W → List W
  | _, [] => []
  | i, x :: r => .tup [.int (i : Nat), x] :: enumW (i + 1) r
def walk (k : Ik) (vs : List W) (h : Hep) : Option Src := match k, vs with
  | .enu, [x] => (match x with
    | .tup xs => some (.fix (enumW 0 xs))
    | .lst xs => some (.fix (enumW 0 xs))
    | _ => none)
  | .itm, [.dct kvs] => some (.fix (kvs.map fun p => .tup [p.1, p.2]))
  | .seq, [x] => (match x with
    | .dct kvs => some (.fix (kvs.map fun p => p.1))
    | .tup xs => some (.fix xs)
    | .str z => some (.fix (chars z))
    | .lst xs => some (.fix xs)
    | .scr ns => some (.fix (ns.map W.int))
    | .ref a => (listOf h (.ref a)).map fun xs => .lis a xs.length
    | _ => none)
  | .rng, [.int n] => if rngOk n then some (.rng 0 1 n.toNat) else none
  | .rng, [.int i, .int j] => if rngOk i && rngOk j then some (.rng i 1 (j - i).toNat) else none
  | .rng, [.int i, .int j, .int c] => if decide (0 < c) && decide (c < 1073741824) && Builtin.Range.small i j c then some (.rng i c (if i < j then (j - i - 1) / c + 1 else 0).toNat) else none
  | _, _ => none
def setVs (e : Env) : List Nat → List W → Option Env
  | [], [] => some e
  | i :: is, w :: ws => setVs (e.set i (some w)) is ws
  | _, _ => none
def Tg.put (t : Tg) (e : Env) (w : W) : Option Env := match t with
  | .nm i => some (e.set i (some w))
  | .tp is => (match w with
    | .tup ws => setVs e is ws
    | _ => none)
def wipeE (e : Env) : List Nat → Env
  | [] => e
  | v :: vs => (wipeE e vs).set v none
/-- the turns of a walk: k left, i done -/
def turns (s : Src) (f : List W → W → Hep → Out (List W)) : Nat → Nat → List W → Hep → Out (List W)
  | 0, _, x, h => if s.ends h then .ok x h else .bad
  | k + 1, i, x, h => (match s.at i h with
    | some w => (f x w h).bind fun y h1 => turns s f k (i + 1) y h1
    | none => .bad)
/-- the same, a dict being made -/
def turnsD (s : Src) (f : List (W × W) → W → Hep → Out (List (W × W))) : Nat → Nat → List (W × W) → Hep → Out (List (W × W))
  | 0, _, x, h => if s.ends h then .ok x h else .bad
  | k + 1, i, x, h => (match s.at i h with
    | some w => (f x w h).bind fun y h1 => turnsD s f k (i + 1) y h1
    | none => .bad)
inductive Fl where
  | nx | ret (w : W) | brk | cnt
/-- how a statement ends -/
inductive OutS where
  | ok (f : Fl) (e : Env) (h : Hep)
  | exc (c : Nat) (p : W) (e : Env) (h : Hep)
  | bad
def Out.stm {α : Type} (m : Out α) (e : Env) (k : α → Hep → OutS) : OutS := match m with
  | .ok a h => k a h
  | .exc c p h => .exc c p e h
  | .bad => .bad
def OutS.seq (m : OutS) (k : Env → Hep → OutS) : OutS := match m with
  | .ok .nx e h => k e h
  | m => m
/-- behind a turn: on, or out of the loop -/
def OutS.turn (m : OutS) (k : Env → Hep → OutS) : OutS := match m with
  | .ok .nx e h => k e h
  | .ok .cnt e h => k e h
  | .ok .brk e h => .ok .nx e h
  | m => m
/-- the first clause that takes an error of class c -/
def takes (P : Pg) (c : Nat) : List (Nat × Nat × Sx) → Option (Nat × Nat × Sx)
  | [] => none
  | q :: r => (match nth P.cls c with
    | some cl => if hasN cl.sup q.1 then some q else takes P c r
    | none => none)
def turnsS (s : Src) (f : Env → W → Hep → OutS) : Nat → Nat → Env → Hep → OutS
  | 0, _, e, h => if s.ends h then .ok .nx e h else .bad
  | k + 1, i, e, h => (match s.at i h with
    | some w => (f e w h).turn fun e1 h1 => turnsS s f k (i + 1) e1 h1
    | none => .bad)
def whileN (c : Env → Hep → Out Bool) (b : Env → Hep → OutS) : Nat → Env → Hep → OutS
  | 0, _, _ => .bad
  | k + 1, e, h => (c e h).stm e fun t h1 => if t then (b e h1).turn fun e1 h2 => whileN c b k e1 h2 else .ok .nx e h1

def grow (acc : List W) (y : W) (h : Hep) : Out (List W) := if acc.length < lim then .ok (acc ++ [y]) h else .bad
def growD (acc : List (W × W)) (x y : W) (h : Hep) : Out (List (W × W)) := match keyW x with
  | some _ => if acc.length < lim then .ok (dput acc x y) h else .bad
  | none => .bad
section
variable (P : Pg) (C : Orc)
mutual
def ev : Ex → Env → Hep → Out W
  | .var i, e, h => .some' ((nth e i).join) h
  | .non, _, h => .ok .non h
  | .bl b, _, h => .ok (.bl b) h
  | .int i, _, h => .ok (.int i) h
  | .str x, _, h => .ok (.str x) h
  | .glb g, _, h => .some' (nth P.glb g) h
  | .ty t, _, h => .ok (.ty t) h
  | .cln c, _, h => .ok (.cls c) h
  | .bin op a b, e, h => (ev a e h).bind fun x h1 => (ev b e h1).bind fun y h2 => binop op x y h2
  | .neg a, e, h => (ev a e h).bind fun x h1 => (match x with
    | .int i => .ok (.int (-i)) h1
    | _ => .bad)
  | .cmp op a b, e, h => (ev a e h).bind fun x h1 => (ev b e h1).bind fun y h2 => cmpop op x y h2
  | .chn o1 o2 a b c, e, h => (ev a e h).bind fun x h1 => (ev b e h1).bind fun y h2 => (cmpop o1 x y h2).bind fun r h3 => (match r with
    | .bl true => (ev c e h3).bind fun z h4 => cmpop o2 y z h4
    | .bl false => .ok (.bl false) h3
    | _ => .bad)
  | .and a b, e, h => (ev a e h).bind fun x h1 => (match truth h1 x with
    | some true => ev b e h1
    | some false => .ok x h1
    | none => .bad)
  | .or a b, e, h => (ev a e h).bind fun x h1 => (match truth h1 x with
    | some true => .ok x h1
    | some false => ev b e h1
    | none => .bad)
  | .not a, e, h => (ev a e h).bind fun x h1 => .some' ((truth h1 x).map fun k => .bl (!k)) h1
  | .ife c a b, e, h => (ev c e h).bind fun x h1 => (match truth h1 x with
    | some true => ev a e h1
    | some false => ev b e h1
    | none => .bad)
  | .fld a f, e, h => (ev a e h).bind fun x h1 => (match clsFs h1 x with
    | some (_, fs) => .some' (flook fs f) h1
    | none => .bad)
  | .idx a i, e, h => (ev a e h).bind fun x h1 => (ev i e h1).bind fun y h2 => index x y h2
  | .slL a lo, e, h => (ev a e h).bind fun x h1 => (ev lo e h1).bind fun y h2 => (match asInt y with
    | some i => slice x (some i) none h2
    | none => .bad)
  | .slH a hi, e, h => (ev a e h).bind fun x h1 => (ev hi e h1).bind fun y h2 => (match asInt y with
    | some i => slice x none (some i) h2
    | none => .bad)
  | .slB a lo hi, e, h => (ev a e h).bind fun x h1 => (ev lo e h1).bind fun y h2 => (match asInt y with
    | some i => (ev hi e h2).bind fun z h3 => (match asInt z with
      | some j => slice x (some i) (some j) h3
      | none => .bad)
    | none => .bad)
  | .rev a, e, h => (ev a e h).bind fun x h1 => (match listOf h1 x with
    | some xs => newL false h1 xs.reverse
    | none => .bad)
  | .tup es, e, h => (evs es e h).bind fun ws h1 => newT h1 ws
  | .lst m es, e, h => (evs es e h).bind fun ws h1 => newL m h1 ws
  | .lsS es b, e, h => (evs es e h).bind fun ws h1 => (ev b e h1).bind fun x h2 => (match seqOf h2 x with
    | some xs => newL false h2 (ws ++ xs)
    | none => .bad)
  | .cal f es, e, h => (evs es e h).bind fun ws h1 => C.call f ws h1
  | .mth m a es, e, h => (ev a e h).bind fun x h1 => (match clsFs h1 x with
    | some (c, fs) => (match flook fs m, nth P.cls c with
      | none, some cl => (match mlook cl.mts m with
        | some g => (evs es e h1).bind fun ws h2 => C.call g (x :: ws) h2
        | none => .bad)
      | _, _ => .bad)
    | none => .bad)
  | .mak c b es, e, h => (match C.ok, nth P.cls c, nth P.kbs b with
    | true, some cl, some kb => if Nat.beq kb.f cl.ini then (evs es e h).bind fun ws h1 => (match kb.arr ws with
        | some as => (C.make cl.ini (.ref h1.n :: as) (h1.push (.ins c []))).bind fun r h2 => made cl h1.n r h2
        | none => .bad) else .bad
    | _, _, _ => .bad)
  | .clk b es, e, h => (match nth P.kbs b with
    | some kb => (evs es e h).bind fun ws h1 => (match kb.arr ws with
        | some as => C.call kb.f as h1
        | none => .bad)
    | none => .bad)
  | .bfn b es, e, h => (evs es e h).bind fun ws h1 => bfn P b ws h1
  | .bmt m a es, e, h => (ev a e h).bind fun x h1 => if recv m x h1 then (evs es e h1).bind fun ws h2 => bmt m x ws h2 else .bad
  | .lco m elt tg k it cs own, e, h => (evs it e h).bind fun vs h1 => (match walk k vs h1 with
    | some s => (turns s (fun acc w h2 => (match tg.put (wipeE e own) w with
        | some e2 => (evt cs e2 h2).bind fun b h3 => if b then (ev elt e2 h3).bind fun y h4 => grow acc y h4 else .ok acc h3
        | none => .bad)) s.len 0 [] h1).calm.bind fun acc h5 => newL m h5 acc
    | none => .bad)
  | .lc2 m elt tg k it tg1 k1 it1 cs1 own own1, e, h => (evs it e h).bind fun vs h1 => (match walk k vs h1 with
    | some s => (turns s (fun acc w h2 => (match tg.put (wipeE e own) w with
        | some e2 => (evs it1 e2 h2).bind fun vs1 h3 => (match walk k1 vs1 h3 with
          | some s1 => turns s1 (fun acc1 w1 h4 => (match tg1.put (wipeE e2 own1) w1 with
              | some e3 => (evt cs1 e3 h4).bind fun b h5 => if b then (ev elt e3 h5).bind fun y h6 => grow acc1 y h6 else .ok acc1 h5
              | none => .bad)) s1.len 0 acc h3
          | none => .bad)
        | none => .bad)) s.len 0 [] h1).calm.bind fun acc h5 => newL m h5 acc
    | none => .bad)
  | .dct m es, e, h => (evs es e h).bind fun ws h1 => newD m h1 ws
  | .dco m ke ve tg k it cs own, e, h => (evs it e h).bind fun vs h1 => (match walk k vs h1 with
    | some s => (turnsD s (fun acc w h2 => (match tg.put (wipeE e own) w with
        | some e2 => (evt cs e2 h2).bind fun b h3 => if b then (ev ke e2 h3).bind fun x h4 => (ev ve e2 h4).bind fun y h5 => growD acc x y h5 else .ok acc h3
        | none => .bad)) s.len 0 [] h1).calm.bind fun acc h5 => laidD m h5 acc
    | none => .bad)
  | .frz i, e, h => (Out.some' ((nth e i).join) h).bind fun x h1 => freeze x h1
  | .nev, _, _ => .bad
def evs : List Ex → Env → Hep → Out (List W)
  | [], _, h => .ok [] h
  | a :: r, e, h => (ev a e h).bind fun x h1 => (evs r e h1).bind fun xs h2 => .ok (x :: xs) h2
/-- the tests of a comprehension: none or one -/
def evt : List Ex → Env → Hep → Out Bool
  | [], _, h => .ok true h
  | a :: _, e, h => (ev a e h).bind fun x h1 => .some' (truth h1 x) h1
end
/-- stores, one after another -/
def setAll : List (Ex × Ex) → List W → Env → Hep → OutS
  | [], [], e, h => .ok .nx e h
  | t :: ts, w :: ws, e, h => (ev P C t.1 e h).stm e fun x h1 => (ev P C t.2 e h1).stm e fun y h2 => (match setItem x y w h2 with
    | some h3 => setAll ts ws e h3
    | none => .bad)
  | _, _, _, _ => .bad
mutual
def evS : Sm → Env → Hep → OutS
  | .exp a, e, h => (ev P C a e h).stm e fun _ h1 => .ok .nx e h1
  | .asg t a, e, h => (ev P C a e h).stm e fun x h1 => (match t.put e x with
    | some e1 => .ok .nx e1 h1
    | none => .bad)
  | .sbs ts a, e, h => (ev P C a e h).stm e fun x h1 => (match x with
    | .tup ws => if ws.length = ts.length then setAll P C ts ws e h1 else .bad
    | _ => .bad)
  | .sfl a f v, e, h => (ev P C v e h).stm e fun z h1 => (ev P C a e h1).stm e fun x h2 => (match setFld P x f z h2 with
    | some h3 => .ok .nx e h3
    | none => .bad)
  | .sub a i v, e, h => (ev P C v e h).stm e fun z h1 => (ev P C a e h1).stm e fun x h2 => (ev P C i e h2).stm e fun y h3 => (match setItem x y z h3 with
    | some h4 => .ok .nx e h4
    | none => .bad)
  | .aug i op a, e, h => (match (nth e i).join with
    | some x => (ev P C a e h).stm e fun y h1 => (augop op x y h1).stm e fun z h2 => .ok .nx (e.set i (some z)) h2
    | none => .bad)
  | .ret a, e, h => (ev P C a e h).stm e fun x h1 => .ok (.ret x) e h1
  | .retN, e, h => .ok (.ret .non) e h
  | .iff c a b, e, h => (ev P C c e h).stm e fun x h1 => (match truth h1 x with
    | some true => evSs a e h1
    | some false => evSs b e h1
    | none => .bad)
  | .whl c b, e, h => whileN (fun e1 h1 => (ev P C c e1 h1).bind fun x h2 => .some' (truth h2 x) h2) (fun e1 h1 => evSs b e1 h1) 1000000 e h
  | .for tg k it b, e, h => (evs P C it e h).stm e fun vs h1 => (match walk k vs h1 with
    | some s => turnsS s (fun e1 w h2 => (match tg.put e1 w with
        | some e2 => evSs b e2 h2
        | none => .bad)) s.len 0 e h1
    | none => .bad)
  | .pas, e, h => .ok .nx e h
  | .brk, e, h => .ok .brk e h
  | .cnt, e, h => .ok .cnt e h
  | .rai c a, e, h => if C.ok then (ev P C a e h).stm e fun x h1 => .exc c x e h1 else .bad
  | .tri b hs, e, h => (match evSs b e h with
    | .exc c p e1 h1 => (match takes P c hs with
      | some (k, i, s) => (evx s (if Nat.beq c k then some p else none) h1).stm (e1.set i none) fun w h2 => .ok (.ret w) (e1.set i none) h2
      | none => if (nth P.cls c).isSome then .exc c p e1 h1 else .bad)
    | o => o)
  | .nev, _, _ => .bad
def evSs : List Sm → Env → Hep → OutS
  | [], e, h => .ok .nx e h
  | s :: r, e, h => (evS s e h).seq fun e1 h1 => evSs r e1 h1
end
end
def pad : Nat → List W → Env
  | n, ws => ws.map some ++ List.replicate (n - ws.length) none
def OutS.res (m : OutS) : Out W := match m with
  | .ok (.ret w) _ h => .ok w h
  | .ok .nx _ h => .ok .non h
  | .exc c p _ h => .exc c p h
  | _ => .bad
/-- a call's end: its own places are left behind -/
def Out.fin (n : Nat) (m : Out W) : Out W := match m with
  | .ok w h => .ok w (h.ends n w)
  | .exc c p h => .exc c p (h.ends n p)
  | .bad => .bad
def callN (P : Pg) : Nat → Nat → List W → Hep → Out W
  | 0, _, _, _ => .bad
  | n + 1, f, ws, h => match nth P.fns f with
    | some fn => if ws.length = fn.np then (evSs P ⟨callN P n, match n with
        | 0 => fun _ _ _ => .bad
        | m + 1 => callN P m, Nat.ble 2 n⟩ fn.body (pad fn.nl ws) h).res.fin h.n else .bad
    | none => .bad
end Ev

namespace Ev
open PySem PySem.Spec PyProof.Rows L2

/-- where places lie; what is never written again -/
structure Rho where
  f : Nat → Option Addr
  z : Addr → Prop
instance : CoeFun Rho (fun _ => Nat → Option Addr) := ⟨Rho.f⟩
/-- a list of the written part -/
def KqL (K : PySem.W.Frag) (p : Addr) (vs : List V) : Prop := ∃ (o : Obj) (its : Array Value) (n : Nat), K.lookup p = some o ∧ o.cls = .type "list" ∧ o.dict = none ∧ o.data = .seq its n ∧ its.size ≤ sizeLine ∧ Vals vs its.toList
/-- a list that is only read -/
def ZqL (K : PySem.W.Frag) (r : Rho) (H : Hp) (p : Addr) (vs : List V) : Prop := (r.z p ∧ Rd H p (.lst vs)) ∨ KqL K p vs
theorem ZqL.sq {K : PySem.W.Frag} {r : Rho} {H : Hp} {p : Addr} {vs : List V} (h : ZqL K r H p vs) : SqL K H p vs := by
  rcases h with ⟨_, h⟩ | h
  · exact .inl h
  · exact .inr h
/-- a tuple that stands -/
def TqT (K : PySem.W.Frag) (H : Hp) (p : Addr) (vs : List V) : Prop :=
  H p = some (.tup vs) ∨
    ∃ (o : Obj) (its : Array Value) (n : Nat), K.lookup p = some o ∧ o.cls = .type "tuple" ∧ o.dict = none ∧ o.data = .seq its n ∧ its.size ≤ sizeLine ∧ Vals vs its.toList
theorem TqT.sq {K : PySem.W.Frag} {H : Hp} {p : Addr} {vs : List V} (h : TqT K H p vs) : SqT K H p vs := by
  rcases h with h | ⟨o, its, n, h1, h2, _, h3⟩
  · exact .inl (.inl h)
  · exact .inr ⟨o, its, n, h1, h2, h3⟩
/-- the addresses of classes, the names of fields -/
structure Tab where
  K : PySem.W.Frag
  cA : Nat → Addr
  fN : Nat → Str
  fI : ∀ i j, fN i = fN j → i = j
/-- what an instance's class has -/
structure CI (K : PySem.W.Frag) (C : Addr) : Prop extends Cls K C where
  ca : PySem.W.findIn K (.ref C) "__class__" = some (some (.builtin "object.__class__"))
  cn : PySem.W.specialIn K (.builtin "object.__class__") "__get__" = some (some (.builtin "getset_descriptor.__get__"))
  ct : PySem.W.takesIn K (.builtin "object.__class__") = some true
  cm : PySem.W.mroIn K C (.type "object") = some true
section
variable (T : Tab)
mutual
inductive RelW (r : Rho) (H : Hp) : W → V → Prop
  | non : RelW r H .non .non
  | bl (b : Bool) : RelW r H (.bl b) (.bl b)
  | int (i : Int) : RelW r H (.int i) (.int i)
  | str (x : Str) : RelW r H (.str x) (.str x)
  | ref {a : Nat} {p : Addr} : r a = some p → RelW r H (.ref a) (.ref p)
  | cls (c : Nat) : RelW r H (.cls c) (.ref (T.cA c))
  | ty (t : Ty) : RelW r H (.ty t) (.ty t.name)
  | tup {p : Addr} {xs : List W} {vs : List V} : TqT T.K H p vs → RelWs r H xs vs → RelW r H (.tup xs) (.ref p)
  | lst {p : Addr} {xs : List W} {vs : List V} : r.z p → Rd H p (.lst vs) → RelWs r H xs vs → RelW r H (.lst xs) (.ref p)
  | scr {p : Addr} {ns : List Int} : ZqL T.K r H p (ns.map V.int) → RelW r H (.scr ns) (.ref p)
  | dct {p : Addr} {kvs : List (W × W)} {ks : List (L2.Key × V)} : r.z p → Rd H p (.dK ks) → RelKv r H kvs ks → RelW r H (.dct kvs) (.ref p)
  | ins {p dx : Addr} {c : Nat} {fs : List (Nat × W)} {gs : List (Str × V)} : r.z p → CI T.K (T.cA c) → H p = some (.ins (T.cA c) dx gs) → RelFs r H c fs gs → RelW r H (.ins c fs) (.ref p)
inductive RelWs (r : Rho) (H : Hp) : List W → List V → Prop
  | nil : RelWs r H [] []
  | cons {x : W} {v : V} {xs : List W} {vs : List V} : RelW r H x v → RelWs r H xs vs → RelWs r H (x :: xs) (v :: vs)
/-- the pairs of a dict -/
inductive RelKv (r : Rho) (H : Hp) : List (W × W) → List (L2.Key × V) → Prop
  | nil : RelKv r H [] []
  | cons {k w : W} {q : L2.Key} {v : V} {kvs : List (W × W)} {ks : List (L2.Key × V)} : keyW k = some q → RelW r H w v → RelKv r H kvs ks → RelKv r H ((k, w) :: kvs) ((q, v) :: ks)
/-- the fields of an instance -/
inductive RelFs (r : Rho) (H : Hp) : Nat → List (Nat × W) → List (Str × V) → Prop
  | nil {c : Nat} : RelFs r H c [] []
  | cons {c i : Nat} {w : W} {v : V} {fs : List (Nat × W)} {gs : List (Str × V)} : NoAttr T.K (T.cA c) (T.fN i) → RelW r H w v → RelFs r H c fs gs → RelFs r H c ((i, w) :: fs) ((T.fN i, v) :: gs)
end
end
/-- what is read of it is kept -/
def Bs : HO → Prop
  | .lst _ => True
  | .dK _ => True
  | .dT _ => True
  | _ => False
structure Kz (H H' : Hp) (p : Addr) : Prop where
  rd : ∀ u, Bs u → Rd H p u → Rd H' p u
  ins : ∀ C dx gs, H p = some (.ins C dx gs) → H' p = some (.ins C dx gs)
  fz : ∀ o u, H p = some (.frz o u) → H' p = some (.frz o u)
theorem Kz.refl (H : Hp) (p : Addr) : Kz H H p := ⟨fun _ _ h => h, fun _ _ _ h => h, fun _ _ h => h⟩
theorem Kz.trans {H H1 H2 : Hp} {p : Addr} (a : Kz H H1 p) (b : Kz H1 H2 p) : Kz H H2 p := ⟨fun u x h => b.rd u x (a.rd u x h), fun C dx gs h => b.ins C dx gs (a.ins C dx gs h), fun o u h => b.fz o u (a.fz o u h)⟩
theorem Kz.same {H H' : Hp} {p : Addr} (e : H' p = H p) : Kz H H' p := ⟨fun u _ h => by
  rcases h with h | ⟨o, h⟩
  · exact .inl (e.trans h)
  · exact .inr ⟨o, e.trans h⟩, fun C dx gs h => e.trans h, fun o u h => e.trans h⟩
/-- what later states keep -/
structure Ext (r r' : Rho) (H H' : Hp) : Prop where
  sub : ∀ a p, r a = some p → r' a = some p
  tup : ∀ p xs, H p = some (.tup xs) → H' p = some (.tup xs)
  frz : ∀ p o u, H p = some (.frz o u) → H' p = some (.frz o u)
  oth : ∀ p o, H p = some o → (∀ a, r a ≠ some p) → ¬ r.z p → H' p = some o ∧ ¬ r'.z p
  liv : ∀ p o, H p = some o → ∃ o', H' p = some o'
  new : ∀ a p, r' a = some p → r a = none → H p = none
  zed : ∀ p, r.z p → r'.z p ∧ Kz H H' p
theorem Ext.refl (r : Rho) (H : Hp) : Ext r r H H := ⟨fun _ _ h => h, fun _ _ h => h, fun _ _ _ h => h, fun _ _ h _ n => ⟨h, n⟩, fun _ o h => ⟨o, h⟩, fun a p h h' => (by rw [h] at h'; cases h'), fun p h => ⟨h, Kz.refl H p⟩⟩
/-- what is not named stays so -/
theorem Ext.off {r r' : Rho} {H H' : Hp} (x : Ext r r' H H') {p : Addr} {o : HO} (h : H p = some o) (hn : ∀ a, r a ≠ some p) : ∀ a, r' a ≠ some p := fun a ha => by
  cases e : r a with
  | none =>
    have := x.new a p ha e
    rw [h] at this
    cases this
  | some q =>
    have := x.sub a q e
    rw [ha] at this
    cases this
    exact hn a e
theorem Ext.trans {r r1 r2 : Rho} {H H1 H2 : Hp} (a : Ext r r1 H H1) (b : Ext r1 r2 H1 H2) : Ext r r2 H H2 where
  sub := fun x p h => b.sub x p (a.sub x p h)
  tup := fun p xs h => b.tup p xs (a.tup p xs h)
  frz := fun p o u h => b.frz p o u (a.frz p o u h)
  oth := fun p o h hn hz => by
    obtain ⟨h1, z1⟩ := a.oth p o h hn hz
    exact b.oth p o h1 (a.off h hn) z1
  liv := fun p o h => by
    obtain ⟨o1, h1⟩ := a.liv p o h
    exact b.liv p o1 h1
  new := fun x p h hn => by
    cases e : r1 x with
    | none =>
      have h1 := b.new x p h e
      cases e2 : H p with
      | none => rfl
      | some o =>
        obtain ⟨o1, h2⟩ := a.liv p o e2
        rw [h2] at h1
        cases h1
    | some q =>
      have := b.sub x q e
      rw [h] at this
      cases this
      exact a.new x p e hn
  zed := fun p h => by
    obtain ⟨h1, k1⟩ := a.zed p h
    obtain ⟨h2, k2⟩ := b.zed p h1
    exact ⟨h2, k1.trans k2⟩
/-- what a value leans on -/
structure Kp (r r' : Rho) (H H' : Hp) : Prop where
  sub : ∀ a p, r a = some p → r' a = some p
  tup : ∀ p xs, H p = some (.tup xs) → H' p = some (.tup xs)
  zed : ∀ p, r.z p → r'.z p ∧ Kz H H' p
theorem Ext.kp {r r' : Rho} {H H' : Hp} (x : Ext r r' H H') : Kp r r' H H' := ⟨x.sub, x.tup, x.zed⟩
theorem Kp.trans {r r1 r2 : Rho} {H H1 H2 : Hp} (a : Kp r r1 H H1) (b : Kp r1 r2 H1 H2) : Kp r r2 H H2 :=
  ⟨fun x p h => b.sub x p (a.sub x p h), fun p xs h => b.tup p xs (a.tup p xs h), fun p h => ⟨(b.zed p (a.zed p h).1).1, (a.zed p h).2.trans (b.zed p (a.zed p h).1).2⟩⟩
theorem Kp.refl (r : Rho) (H : Hp) : Kp r r H H := ⟨fun _ _ h => h, fun _ _ h => h, fun p h => ⟨h, Kz.refl H p⟩⟩
theorem Kp.sqT {r r' : Rho} {H H' : Hp} (x : Kp r r' H H') {K : PySem.W.Frag} {p : Addr} {vs : List V} (h : TqT K H p vs) : TqT K H' p vs := by
  rcases h with h | h
  · exact .inl (x.tup _ _ h)
  · exact .inr h
theorem Kp.zqL {r r' : Rho} {H H' : Hp} (x : Kp r r' H H') {K : PySem.W.Frag} {p : Addr} {vs : List V} (h : ZqL K r H p vs) : ZqL K r' H' p vs := by
  rcases h with ⟨z, h⟩ | h
  · exact .inl ⟨(x.zed p z).1, (x.zed p z).2.rd _ True.intro h⟩
  · exact .inr h
section
variable {T : Tab} {r r' : Rho} {H H' : Hp}
mutual
theorem RelW.kp (x : Kp r r' H H') : ∀ {w : W} {v : V}, RelW T r H w v → RelW T r' H' w v
  | _, _, .non => .non
  | _, _, .bl b => .bl b
  | _, _, .int i => .int i
  | _, _, .str z => .str z
  | _, _, .ref h => .ref (x.sub _ _ h)
  | _, _, .cls c => .cls c
  | _, _, .ty t => .ty t
  | _, _, .tup h hs => .tup (x.sqT h) (RelWs.kp x hs)
  | _, _, .lst z h hs => .lst (x.zed _ z).1 ((x.zed _ z).2.rd _ True.intro h) (RelWs.kp x hs)
  | _, _, .scr h => .scr (x.zqL h)
  | _, _, .dct z h hs => .dct (x.zed _ z).1 ((x.zed _ z).2.rd _ True.intro h) (RelKv.kp x hs)
  | _, _, .ins z k h hs => .ins (x.zed _ z).1 k ((x.zed _ z).2.ins _ _ _ h) (RelFs.kp x hs)
theorem RelWs.kp (x : Kp r r' H H') : ∀ {ws : List W} {vs : List V}, RelWs T r H ws vs → RelWs T r' H' ws vs
  | _, _, .nil => .nil
  | _, _, .cons h t => .cons (RelW.kp x h) (RelWs.kp x t)
theorem RelKv.kp (x : Kp r r' H H') : ∀ {ws : List (W × W)} {vs : List (L2.Key × V)}, RelKv T r H ws vs → RelKv T r' H' ws vs
  | _, _, .nil => .nil
  | _, _, .cons k h t => .cons k (RelW.kp x h) (RelKv.kp x t)
theorem RelFs.kp (x : Kp r r' H H') : ∀ {c : Nat} {ws : List (Nat × W)} {vs : List (Str × V)}, RelFs T r H c ws vs → RelFs T r' H' c ws vs
  | _, _, _, .nil => .nil
  | _, _, _, .cons n h t => .cons n (RelW.kp x h) (RelFs.kp x t)
end
theorem RelW.mono (x : Ext r r' H H') {w : W} {v : V} (h : RelW T r H w v) : RelW T r' H' w v := h.kp x.kp
theorem RelWs.mono (x : Ext r r' H H') {w : List W} {v : List V} (h : RelWs T r H w v) : RelWs T r' H' w v := h.kp x.kp
theorem RelWs.length : ∀ {ws : List W} {vs : List V}, RelWs T r H ws vs → ws.length = vs.length
  | _, _, .nil => rfl
  | _, _, .cons _ t => by rw [List.length_cons, List.length_cons, RelWs.length t]
theorem RelWs.get : ∀ {ws : List W} {vs : List V} {i : Nat} {w : W}, RelWs T r H ws vs → ws[i]? = some w → ∃ v, vs[i]? = some v ∧ RelW T r H w v
  | _, _, _, _, .nil, e => by simp at e
  | _, _, 0, _, .cons h _, e => by simp at e; subst e; exact ⟨_, rfl, h⟩
  | _, _, i + 1, w, .cons _ t, e => by
    obtain ⟨v, h1, h2⟩ := RelWs.get (i := i) (w := w) t (by simpa using e)
    exact ⟨v, by simpa using h1, h2⟩
theorem RelWs.app : ∀ {ws us : List W} {vs zs : List V}, RelWs T r H ws vs → RelWs T r H us zs → RelWs T r H (ws ++ us) (vs ++ zs)
  | _, _, _, _, .nil, s => s
  | _, _, _, _, .cons h t, s => .cons h (RelWs.app t s)
theorem RelWs.take : ∀ {ws : List W} {vs : List V} (n : Nat), RelWs T r H ws vs → RelWs T r H (ws.take n) (vs.take n)
  | _, _, 0, _ => .nil
  | _, _, _ + 1, .nil => .nil
  | _, _, n + 1, .cons h t => .cons h (RelWs.take n t)
theorem RelWs.drop : ∀ {ws : List W} {vs : List V} (n : Nat), RelWs T r H ws vs → RelWs T r H (ws.drop n) (vs.drop n)
  | _, _, 0, h => h
  | _, _, _ + 1, .nil => .nil
  | _, _, n + 1, .cons _ t => RelWs.drop n t
theorem RelWs.set {w : W} {v : V} (h : RelW T r H w v) : ∀ {ws : List W} {vs : List V} (i : Nat), RelWs T r H ws vs → RelWs T r H (ws.set i w) (vs.set i v)
  | _, _, _, .nil => .nil
  | _, _, 0, .cons _ t => .cons h t
  | _, _, i + 1, .cons q t => .cons q (RelWs.set h i t)
theorem RelWs.rev {ws : List W} {vs : List V} (h : RelWs T r H ws vs) : RelWs T r H ws.reverse vs.reverse := by
  induction ws generalizing vs with
  | nil => cases h; exact .nil
  | cons x xs ih =>
    cases h with
    | cons h t =>
      rw [List.reverse_cons, List.reverse_cons]
      exact RelWs.app (ih t) (.cons h .nil)
theorem RelWs.rep {ws : List W} {vs : List V} (h : RelWs T r H ws vs) : ∀ n : Nat, RelWs T r H (List.replicate n ws).flatten (List.replicate n vs).flatten
  | 0 => .nil
  | n + 1 => by
    rw [List.replicate_succ, List.replicate_succ, List.flatten_cons, List.flatten_cons]
    exact RelWs.app h (RelWs.rep h n)
theorem RelWs.ints : ∀ (ns : List Int), RelWs T r H (ns.map W.int) (ns.map V.int)
  | [] => .nil
  | n :: ns => .cons (.int n) (RelWs.ints ns)
theorem RelWs.of_ints : ∀ {ws : List W} {vs : List V} {ns : List Int}, RelWs T r H ws vs → intsOf ws = some ns → vs = ns.map V.int
  | [], _, ns, .nil, e => by
    cases e
    rfl
  | w :: ws, _, ns, .cons h t, e => by
    cases h with
    | int i =>
      simp only [intsOf] at e
      cases q : intsOf ws with
      | none => rw [q] at e; cases e
      | some ms =>
        rw [q] at e
        cases e
        rw [RelWs.of_ints t q]
        rfl
    | _ => simp [intsOf] at e
theorem RelWs.of_bls : ∀ {ws : List W} {vs : List V} {ns : List Bool}, RelWs T r H ws vs → blsOf ws = some ns → vs = ns.map V.bl
  | [], _, ns, .nil, e => by
    cases e
    rfl
  | w :: ws, _, ns, .cons h t, e => by
    cases h with
    | bl i =>
      simp only [blsOf] at e
      cases q : blsOf ws with
      | none => rw [q] at e; cases e
      | some ms =>
        rw [q] at e
        cases e
        rw [RelWs.of_bls t q]
        rfl
    | _ => simp [blsOf] at e
end
theorem RelKv.length {T : Tab} {r : Rho} {H : Hp} : ∀ {kvs : List (W × W)} {ks : List (L2.Key × V)}, RelKv T r H kvs ks → kvs.length = ks.length
  | _, _, .nil => rfl
  | _, _, .cons _ _ t => by rw [List.length_cons, List.length_cons, RelKv.length t]
theorem strEq_eq (a b : Str) : strEq a b = (a == b) := by
  unfold strEq
  obtain ⟨a⟩ := a
  obtain ⟨b⟩ := b
  by_cases h : a = b
  · subst h
    simp
  · have h1 : ¬ ((⟨a⟩ : Str) = ⟨b⟩) := fun z => h (by injection z)
    have h2 : ¬ a.toList = b.toList := fun z => h (Array.ext' z)
    rw [beq_eq_false_iff_ne.mpr h1, beq_eq_false_iff_ne.mpr h2]
theorem keyEq_of {a b : W} {p q : L2.Key} (ha : keyW a = some p) (hb : keyW b = some q) : keyEq a b = decide (p = q) := by
  cases a with
  | int i => cases b with
    | int j => cases ha; cases hb; simp only [keyEq]; rw [Bool.eq_iff_iff]; simp
    | str j => cases ha; cases hb; simp [keyEq]
    | _ => cases hb
  | str i => cases b with
    | int j => cases ha; cases hb; simp [keyEq]
    | str j => cases ha; cases hb; simp only [keyEq]; rw [strEq_eq, Bool.eq_iff_iff]; simp
    | _ => cases hb
  | _ => cases ha
theorem RelKv.get {T : Tab} {r : Rho} {H : Hp} {k : W} {q : L2.Key} (hk : keyW k = some q) : ∀ {kvs : List (W × W)} {ks : List (L2.Key × V)}, RelKv T r H kvs ks → (∀ w, dget kvs k = some w → ∃ v, valV ks q = some v ∧ RelW T r H w v) ∧ (dget kvs k).isSome = (valV ks q).isSome
  | _, _, .nil => ⟨fun w e => (by cases e), rfl⟩
  | _, _, .cons (k := k') (w := w') (q := q') (v := v') (kvs := kvs) (ks := ks) a b t => by
    have ih := RelKv.get hk t
    have e := keyEq_of a hk
    by_cases z : q' = q
    · rw [decide_eq_true z] at e
      have e1 : dget ((k', w') :: kvs) k = some w' := by unfold dget; rw [if_pos e]
      have e2 : valV ((q', v') :: ks) q = some v' := valV_pos z
      rw [e1, e2]
      exact ⟨fun w hw => by cases hw; exact ⟨v', rfl, b⟩, rfl⟩
    · rw [decide_eq_false z] at e
      have e1 : dget ((k', w') :: kvs) k = dget kvs k := by
        conv => lhs; unfold dget
        rw [e]
        rfl
      have e2 : valV ((q', v') :: ks) q = valV ks q := valV_neg z
      rw [e1, e2]
      exact ih
theorem RelKv.any {T : Tab} {r : Rho} {H : Hp} {k : W} {q : L2.Key} (hk : keyW k = some q) : ∀ {kvs : List (W × W)} {ks : List (L2.Key × V)}, RelKv T r H kvs ks → kvs.any (fun p => keyEq p.1 k) = ks.any (fun p => decide (p.1 = q))
  | _, _, .nil => rfl
  | _, _, .cons a b t => by rw [List.any_cons, List.any_cons, RelKv.any hk t, keyEq_of a hk]
theorem RelKv.repl {T : Tab} {r : Rho} {H : Hp} {k w : W} {q : L2.Key} {v : V} (hk : keyW k = some q) (hw : RelW T r H w v) : ∀ {kvs : List (W × W)} {ks : List (L2.Key × V)}, RelKv T r H kvs ks → RelKv T r H (kvs.map fun p => if keyEq p.1 k then (p.1, w) else p) (ks.map fun p => if p.1 = q then (p.1, v) else p)
  | _, _, .nil => .nil
  | _, _, .cons (q := q') a b t => by
    have ih := RelKv.repl hk hw t
    have e := keyEq_of a hk
    rw [List.map_cons, List.map_cons]
    by_cases z : q' = q
    · rw [decide_eq_true z] at e
      rw [if_pos e, if_pos z]
      exact .cons a hw ih
    · rw [decide_eq_false z] at e
      rw [if_neg (by rw [e]; exact Bool.false_ne_true), if_neg z]
      exact .cons a b ih
theorem RelKv.app {T : Tab} {r : Rho} {H : Hp} {us : List (W × W)} {vs : List (L2.Key × V)} (g : RelKv T r H us vs) : ∀ {kvs : List (W × W)} {ks : List (L2.Key × V)}, RelKv T r H kvs ks → RelKv T r H (kvs ++ us) (ks ++ vs)
  | _, _, .nil => g
  | _, _, .cons a b t => .cons a b (RelKv.app g t)
theorem RelKv.put {T : Tab} {r : Rho} {H : Hp} {kvs : List (W × W)} {ks : List (L2.Key × V)} {k w : W} {q : L2.Key} {v : V} (h : RelKv T r H kvs ks) (hk : keyW k = some q) (hw : RelW T r H w v) : RelKv T r H (dput kvs k w) (putK ks q v) := by
  unfold dput putK
  rw [RelKv.any hk h]
  by_cases z : (ks.any fun p => decide (p.1 = q)) = true
  · rw [if_pos z, if_pos z]
    exact RelKv.repl hk hw h
  · rw [if_neg z, if_neg z]
    exact RelKv.app (.cons hk hw .nil) h
/-- a thing that is walked is not written; what is a value now neither -/
def Ob.lk : Ob → Bool
  | .dic b _ => b
  | .ded => true
  | _ => false
def RelDk (lk : Bool) (H : Hp) (ks : List (L2.Key × V)) (p : Addr) : Prop := match lk with
  | false => H p = some (.dK ks)
  | true => ∃ o, H p = some (.frz o (.dK ks))
/-- not an error's dict -/
def Nx (u : HO) : Prop := ∀ fs, u ≠ .xd fs
/-- what an object is -/
def RelOb (T : Tab) (r : Rho) (H : Hp) (o : Ob) (p : Addr) : Prop := match o with
  | .lst xs => ∃ vs, H p = some (.lst vs) ∧ RelWs T r H xs vs
  | .dic lk kvs => ∃ ks, RelDk lk H ks p ∧ RelKv T r H kvs ks
  | .ins c fs => ∃ dx gs, H p = some (.ins (T.cA c) dx gs) ∧ CI T.K (T.cA c) ∧ RelFs T r H c fs gs
  | .ded => ∃ u, H p = some u ∧ Nx u
structure RelH (T : Tab) (r : Rho) (h : Hep) (H : Hp) : Prop where
  obj : ∀ a o, h.get a = some o → ∃ p, r a = some p ∧ RelOb T r H o p
  inj : ∀ a b p, r a = some p → r b = some p → a = b
  liv : ∀ a p, r a = some p → ∃ o, h.get a = some o
  nz : ∀ a p o, h.get a = some o → o ≠ .ded → r a = some p → ¬ r.z p
  zl : ∀ p, r.z p → ∃ u, H p = some u ∧ Nx u
theorem RelH.dom {T : Tab} {r : Rho} {h : Hep} {H : Hp} (_ : RelH T r h H) (a : Nat) (o : Ob) (e : h.get a = some o) : a < h.n := Hep.get_lt e
theorem RelDk.here {lk : Bool} {H : Hp} {ks : List (L2.Key × V)} {p : Addr} (h : RelDk lk H ks p) : ∃ u, H p = some u := by
  cases lk with
  | false => exact ⟨_, h⟩
  | true => obtain ⟨o, h⟩ := h; exact ⟨_, h⟩
theorem RelDk.rd {lk : Bool} {H : Hp} {ks : List (L2.Key × V)} {p : Addr} (h : RelDk lk H ks p) : Rd H p (.dK ks) := by
  cases lk with
  | false => exact .inl h
  | true => exact .inr h
theorem RelDk.keep {lk : Bool} {H H' : Hp} {ks : List (L2.Key × V)} {p : Addr} (h : RelDk lk H ks p) (e : ∀ u, H p = some u → H' p = some u) : RelDk lk H' ks p := by
  cases lk with
  | false => exact e _ h
  | true => obtain ⟨o, h⟩ := h; exact ⟨o, e _ h⟩
theorem RelOb.here {T : Tab} {r : Rho} {H : Hp} {o : Ob} {p : Addr} (h : RelOb T r H o p) : ∃ u, H p = some u := by
  cases o with
  | lst xs => obtain ⟨vs, e, _⟩ := h; exact ⟨_, e⟩
  | dic lk kvs => obtain ⟨ks, e, _⟩ := h; exact e.here
  | ins _ _ => obtain ⟨dx, gs, e, _⟩ := h; exact ⟨_, e⟩
  | ded => obtain ⟨u, e, _⟩ := h; exact ⟨u, e⟩
theorem RelOb.nx {T : Tab} {r : Rho} {H : Hp} {o : Ob} {p : Addr} (h : RelOb T r H o p) : ∃ u, H p = some u ∧ Nx u := by
  cases o with
  | lst xs => obtain ⟨vs, e, _⟩ := h; exact ⟨_, e, fun _ z => by cases z⟩
  | dic lk kvs =>
    obtain ⟨ks, e, _⟩ := h
    cases lk with
    | false => exact ⟨_, e, fun _ z => by cases z⟩
    | true => obtain ⟨o, e⟩ := e; exact ⟨_, e, fun _ z => by cases z⟩
  | ins _ _ => obtain ⟨dx, gs, e, _⟩ := h; exact ⟨_, e, fun _ z => by cases z⟩
  | ded => exact h
theorem RelOb.notup {T : Tab} {r : Rho} {H : Hp} {o : Ob} {p : Addr} (h : RelOb T r H o p) (hl : o.lk = false) : (∀ xs, H p ≠ some (.tup xs)) ∧ ∀ x u, H p ≠ some (.frz x u) := by
  cases o with
  | lst xs => obtain ⟨vs, e, _⟩ := h; rw [e]; exact ⟨fun _ z => (by cases z), fun _ _ z => (by cases z)⟩
  | dic lk kvs =>
    have hl : lk = false := hl
    subst hl
    obtain ⟨ks, e, _⟩ := h
    have e : H p = some (.dK ks) := e
    rw [e]
    exact ⟨fun _ z => (by cases z), fun _ _ z => (by cases z)⟩
  | ins _ _ => obtain ⟨dx, gs, e, _⟩ := h; rw [e]; exact ⟨fun _ z => (by cases z), fun _ _ z => (by cases z)⟩
  | ded => cases hl
theorem Ob.live {o : Ob} (h : o.lk = false) : o ≠ .ded := fun z => by rw [z] at h; cases h
def ins (r : Rho) (a : Nat) (p : Addr) : Rho := ⟨fun b => if b = a then some p else r b, r.z⟩
/-- p is never written again -/
def fz (r : Rho) (p : Addr) : Rho := ⟨r.f, fun q => q = p ∨ r.z q⟩
theorem RelH.here {T : Tab} {r : Rho} {h : Hep} {H : Hp} (x : RelH T r h H) {a : Nat} {p : Addr} (e : r a = some p) : ∃ u, H p = some u := by
  obtain ⟨o, ho⟩ := x.liv a p e
  obtain ⟨q, hq, hr⟩ := x.obj a o ho
  rw [e] at hq
  cases hq
  exact hr.here
/-- an object of another place, carried over a change of H that leaves it -/
theorem RelOb.keep {T : Tab} {r r' : Rho} {H H' : Hp} {o : Ob} {p : Addr} (h : RelOb T r H o p) (x : Kp r r' H H') (e : ∀ u, H p = some u → H' p = some u) : RelOb T r' H' o p := by
  cases o with
  | lst xs => obtain ⟨vs, q, rs⟩ := h; exact ⟨vs, e _ q, rs.kp x⟩
  | dic lk kvs => obtain ⟨ks, q, rs⟩ := h; exact ⟨ks, q.keep e, rs.kp x⟩
  | ins _ _ => obtain ⟨dx, gs, q, ci, rs⟩ := h; exact ⟨dx, gs, e _ q, ci, rs.kp x⟩
  | ded => obtain ⟨u, q, n⟩ := h; exact ⟨u, e _ q, n⟩
/-- the same heap, with more that is never written again -/
theorem Kp.fz {r : Rho} {H : Hp} (p : Addr) : Kp r (fz r p) H H := ⟨fun _ _ h => h, fun _ _ h => h, fun q h => ⟨.inr h, Kz.refl H q⟩⟩
/-- a new object that the evaluator does not name (a tuple, say) -/
theorem Ext.alloc {T : Tab} {r : Rho} {h : Hep} {H : Hp} (x : RelH T r h H) {p : Addr} {u : HO} (hp : H p = none) : Ext r r H (upd H p u) where
  sub := fun _ _ h => h
  tup := fun q xs h => by rw [upd_ne (ne_of_none h hp)]; exact h
  frz := fun q o u h => by rw [upd_ne (ne_of_none h hp)]; exact h
  oth := fun q o h _ n => ⟨by rw [upd_ne (ne_of_none h hp)]; exact h, n⟩
  liv := fun q o h => ⟨o, by rw [upd_ne (ne_of_none h hp)]; exact h⟩
  new := fun a q h h' => by rw [h] at h'; cases h'
  zed := fun q h => ⟨h, Kz.same (by
    obtain ⟨u, hu, _⟩ := x.zl q h
    exact upd_ne (ne_of_none hu hp))⟩
theorem RelH.alloc {T : Tab} {r : Rho} {h : Hep} {H : Hp} (x : RelH T r h H) {p : Addr} {u : HO} (hp : H p = none) : RelH T r h (upd H p u) where
  obj := fun a o e => by
    obtain ⟨q, hq, hr⟩ := x.obj a o e
    exact ⟨q, hq, hr.keep (Ext.alloc x hp).kp fun u e => by rw [upd_ne (ne_of_none e hp)]; exact e⟩
  inj := x.inj
  liv := x.liv
  nz := x.nz
  zl := fun q h => by
    obtain ⟨u, hu, n⟩ := x.zl q h
    exact ⟨u, by rw [upd_ne (ne_of_none hu hp)]; exact hu, n⟩
/-- a value that is read is locked -/
theorem Ext.lockZ {r : Rho} {H : Hp} {d : Addr} {o : Obj} {u : HO} (z : r.z d) (e : H d = some u) (nt : ∀ xs, u ≠ .tup xs) (nf : ∀ x y, u ≠ .frz x y) (ni : ∀ C dx gs, u ≠ .ins C dx gs) : Ext r r H (upd H d (.frz o u)) where
  sub := fun _ _ h => h
  tup := fun q xs h => by
    rw [upd_ne (fun y => by rw [y, e] at h; cases h; exact nt _ rfl)]; exact h
  frz := fun q x y h => by
    rw [upd_ne (fun z => by rw [z, e] at h; cases h; exact nf _ _ rfl)]; exact h
  oth := fun q x h _ n => ⟨by rw [upd_ne (fun y => n (by rw [y]; exact z))]; exact h, n⟩
  liv := fun q x h => by
    by_cases y : q = d
    · rw [y]; exact ⟨_, upd_same⟩
    · exact ⟨x, by rw [upd_ne y]; exact h⟩
  new := fun a q h h' => by rw [h] at h'; cases h'
  zed := fun q h => ⟨h, by
    by_cases y : q = d
    · subst y
      refine ⟨fun v _ hv => ?_, fun C dx gs hi => ?_, fun x y hf => ?_⟩
      · rcases hv with hv | ⟨x, hv⟩
        · rw [e] at hv
          cases hv
          exact .inr ⟨o, upd_same⟩
        · rw [e] at hv
          cases hv
          exact (nf _ _ rfl).elim
      · rw [e] at hi; cases hi; exact (ni _ _ _ rfl).elim
      · rw [e] at hf; cases hf; exact (nf _ _ rfl).elim
    · exact Kz.same (upd_ne y)⟩
theorem RelH.lockZ {T : Tab} {r : Rho} {h : Hep} {H : Hp} {d : Addr} {o : Obj} {u : HO} (x : RelH T r h H) (z : r.z d) (e : H d = some u) (nt : ∀ xs, u ≠ .tup xs) (nf : ∀ x y, u ≠ .frz x y) (ni : ∀ C dx gs, u ≠ .ins C dx gs) : RelH T r h (upd H d (.frz o u)) where
  obj := fun a b ea => by
    obtain ⟨q, hq, hr⟩ := x.obj a b ea
    refine ⟨q, hq, ?_⟩
    by_cases y : q = d
    · subst y
      by_cases w : b = .ded
      · subst w
        exact ⟨_, upd_same, fun fs q => by cases q⟩
      · exact (x.nz a q b ea w hq z).elim
    · exact hr.keep (Ext.lockZ z e nt nf ni).kp fun v ev => by rw [upd_ne y]; exact ev
  inj := x.inj
  liv := x.liv
  nz := x.nz
  zl := fun q h => by
    by_cases y : q = d
    · rw [y]; exact ⟨_, upd_same, fun fs q => by cases q⟩
    · obtain ⟨v, hv, n⟩ := x.zl q h
      exact ⟨v, by rw [upd_ne y]; exact hv, n⟩
/-- what stands at D, which no place names, is never written again -/
theorem RelH.fz {T : Tab} {r : Rho} {h : Hep} {H : Hp} (x : RelH T r h H) {D : Addr} {u : HO} (e : H D = some u) (nx : Nx u) (hn : ∀ a, r a ≠ some D) : RelH T (fz r D) h H where
  obj := fun a o ea => by
    obtain ⟨q, hq, hr⟩ := x.obj a o ea
    exact ⟨q, hq, hr.keep (Kp.fz D) fun _ h => h⟩
  inj := x.inj
  liv := x.liv
  nz := fun a p o ea l q z => by
    rcases z with z | z
    · subst z; exact hn a q
    · exact x.nz a p o ea l q z
  zl := fun q z => by
    rcases z with z | z
    · subst z; exact ⟨u, e, nx⟩
    · exact x.zl q z
theorem Ext.fzG {r r' : Rho} {H H' : Hp} (x : Ext r r' H H') {D : Addr} (hD : H D = none) : Ext r (fz r' D) H H' where
  sub := x.sub
  tup := x.tup
  frz := x.frz
  oth := fun p o h hn hz => ⟨(x.oth p o h hn hz).1, fun z => by
    rcases z with z | z
    · subst z; rw [h] at hD; cases hD
    · exact (x.oth p o h hn hz).2 z⟩
  liv := x.liv
  new := x.new
  zed := fun p h => ⟨.inr (x.zed p h).1, (x.zed p h).2⟩
/-- a new value -/
theorem Ext.laid {T : Tab} {r : Rho} {h : Hep} {H : Hp} (x : RelH T r h H) {p : Addr} {u : HO} (hp : H p = none) : Ext r (Ev.fz r p) H (upd H p u) := (Ext.alloc x hp).fzG hp
theorem RelH.off {T : Tab} {r : Rho} {h : Hep} {H : Hp} (x : RelH T r h H) {p : Addr} (hp : H p = none) : ∀ a, r a ≠ some p := fun a ha => by
  obtain ⟨u, hu⟩ := x.here ha
  rw [hu] at hp
  cases hp
theorem RelH.laid {T : Tab} {r : Rho} {h : Hep} {H : Hp} (x : RelH T r h H) {p : Addr} {u : HO} (hp : H p = none) (nx : Nx u) : RelH T (Ev.fz r p) h (upd H p u) := (x.alloc hp).fz upd_same nx (x.off hp)
/-- a new list -/
theorem Ext.push {T : Tab} {r : Rho} {h : Hep} {H : Hp} (x : RelH T r h H) {p : Addr} {u : HO} (hp : H p = none) : Ext r (ins r h.n p) H (upd H p u) where
  sub := fun a q e => by
    show (if a = h.n then some p else r a) = _
    obtain ⟨o, ho⟩ := x.liv a q e
    rw [if_neg (Nat.ne_of_lt (x.dom a o ho))]
    exact e
  tup := fun q xs h => by rw [upd_ne (ne_of_none h hp)]; exact h
  frz := fun q o u h => by rw [upd_ne (ne_of_none h hp)]; exact h
  oth := fun q o h _ n => ⟨by rw [upd_ne (ne_of_none h hp)]; exact h, n⟩
  liv := fun q o h => ⟨o, by rw [upd_ne (ne_of_none h hp)]; exact h⟩
  new := fun a q e e' => by
    have e : (if a = h.n then some p else r a) = some q := e
    by_cases z : a = h.n
    · rw [if_pos z] at e
      cases e
      exact hp
    · rw [if_neg z, e'] at e
      cases e
  zed := (Ext.alloc x hp).zed
theorem ins_same (r : Rho) (a : Nat) (p : Addr) : ins r a p a = some p := if_pos rfl
theorem ins_at (r : Rho) (a b : Nat) (p : Addr) : ins r a p b = if b = a then some p else r b := rfl
theorem RelH.push {T : Tab} {r : Rho} {h : Hep} {H : Hp} (x : RelH T r h H) {p : Addr} {o : Ob} {u : HO} (hp : H p = none) (new : RelOb T (ins r h.n p) (upd H p u) o p) : RelH T (ins r h.n p) (h.push o) (upd H p u) where
  obj := fun a o' e => by
    rw [Hep.get_push] at e
    by_cases z : a = h.n
    · rw [if_pos z] at e
      cases e
      subst z
      exact ⟨p, ins_same _ _ _, new⟩
    · rw [if_neg z] at e
      obtain ⟨q, hq, hr⟩ := x.obj a o' e
      exact ⟨q, (Ext.push x (u := u) hp).sub a q hq, hr.keep (Ext.push x hp).kp fun u e => by rw [upd_ne (ne_of_none e hp)]; exact e⟩
  inj := fun a b q ea eb => by
    rw [ins_at] at ea eb
    by_cases za : a = h.n
    · by_cases zb : b = h.n
      · rw [za, zb]
      · rw [if_pos za] at ea
        rw [if_neg zb] at eb
        cases ea
        exact absurd eb (x.off hp b)
    · rw [if_neg za] at ea
      by_cases zb : b = h.n
      · rw [if_pos zb] at eb
        cases eb
        exact absurd ea (x.off hp a)
      · rw [if_neg zb] at eb
        exact x.inj a b q ea eb
  liv := fun a q e => by
    rw [ins_at] at e
    by_cases z : a = h.n
    · exact ⟨o, by rw [Hep.get_push, if_pos z]⟩
    · rw [if_neg z] at e
      obtain ⟨o', ho⟩ := x.liv a q e
      exact ⟨o', by rw [Hep.get_push, if_neg z]; exact ho⟩
  nz := fun a q o' e l ea zz => by
    rw [Hep.get_push] at e
    rw [ins_at] at ea
    by_cases z : a = h.n
    · rw [if_pos z] at ea
      cases ea
      obtain ⟨w, hw, _⟩ := x.zl _ zz
      rw [hw] at hp
      cases hp
    · rw [if_neg z] at e ea
      exact x.nz a q o' e l ea zz
  zl := fun q z => by
    obtain ⟨w, hw, n⟩ := x.zl q z
    exact ⟨w, by rw [upd_ne (ne_of_none hw hp)]; exact hw, n⟩
/-- an object changed -/
theorem Ext.set {T : Tab} {r : Rho} {h : Hep} {H : Hp} (x : RelH T r h H) {a : Nat} {p : Addr} {u : HO} (e : r a = some p) (hl : ∀ o, h.get a = some o → o.lk = false) : Ext r r H (upd H p u) := by
  obtain ⟨o, ho⟩ := x.liv a p e
  obtain ⟨q, hq, hr⟩ := x.obj a o ho
  rw [e] at hq
  cases hq
  obtain ⟨n1, n2⟩ := hr.notup (hl o ho)
  have nz := x.nz a p o ho (Ob.live (hl o ho)) e
  refine ⟨fun _ _ h => h, fun q xs h => ?_, fun q o u h => ?_, fun q o h hn hz => ⟨?_, hz⟩, fun q o h => ?_, fun b q h h' => (by rw [h] at h'; cases h'), fun q hz => ⟨hz, Kz.same (upd_ne (by rintro rfl; exact nz hz))⟩⟩
  · rw [upd_ne (by rintro rfl; exact n1 _ h)]; exact h
  · rw [upd_ne (by rintro rfl; exact n2 _ _ h)]; exact h
  · rw [upd_ne (by rintro rfl; exact hn a e)]; exact h
  · by_cases z : q = p
    · subst z; exact ⟨u, upd_same⟩
    · exact ⟨o, by rw [upd_ne z]; exact h⟩
theorem RelH.set {T : Tab} {r : Rho} {h : Hep} {H : Hp} (x : RelH T r h H) {a : Nat} {p : Addr} {o : Ob} {u : HO} (e : r a = some p) (hl : ∀ o, h.get a = some o → o.lk = false) (new : RelOb T r (upd H p u) o p) : RelH T r (h.set a o) (upd H p u) := by
  obtain ⟨o0, h0⟩ := x.liv a p e
  have nz0 := x.nz a p o0 h0 (Ob.live (hl o0 h0)) e
  refine ⟨fun b o' eb => ?_, x.inj, fun b q eb => ?_, fun b q o' eb l ea zz => ?_, fun q z => ?_⟩
  · rw [Hep.get_set h0] at eb
    by_cases z : b = a
    · rw [if_pos z] at eb
      cases eb
      subst z
      exact ⟨p, e, new⟩
    · rw [if_neg z] at eb
      obtain ⟨q, hq, hr⟩ := x.obj b o' eb
      exact ⟨q, hq, hr.keep (Ext.set x e hl).kp fun w hw => by rw [upd_ne (by rintro rfl; exact z (x.inj b a _ hq e))]; exact hw⟩
  · by_cases z : b = a
    · exact ⟨o, by rw [Hep.get_set h0, if_pos z]⟩
    · obtain ⟨o', ho⟩ := x.liv b q eb
      exact ⟨o', by rw [Hep.get_set h0, if_neg z]; exact ho⟩
  · rw [Hep.get_set h0] at eb
    by_cases z : b = a
    · subst z
      rw [e] at ea
      cases ea
      exact nz0 zz
    · rw [if_neg z] at eb
      exact x.nz b q o' eb l ea zz
  · by_cases y : q = p
    · subst y; exact absurd z nz0
    · obtain ⟨w, hw, n⟩ := x.zl q z
      exact ⟨w, by rw [upd_ne y]; exact hw, n⟩
/-- an object is a value from now on -/
theorem Ext.dead {r : Rho} {H : Hp} {a : Nat} {p : Addr} (e : r a = some p) : Ext r (Ev.fz r p) H H where
  sub := fun _ _ h => h
  tup := fun _ _ h => h
  frz := fun _ _ _ h => h
  oth := fun q o h hn hz => ⟨h, fun z => by
    rcases z with z | z
    · subst z; exact hn a e
    · exact hz z⟩
  liv := fun _ o h => ⟨o, h⟩
  new := fun b q h h' => by
    have h : r b = some q := h
    rw [h] at h'
    cases h'
  zed := fun q h => ⟨.inr h, Kz.refl H q⟩
theorem RelH.dead {T : Tab} {r : Rho} {h : Hep} {H : Hp} (x : RelH T r h H) {a : Nat} {p : Addr} {o : Ob} (e : r a = some p) (g : h.get a = some o) : RelH T (Ev.fz r p) (h.set a .ded) H := by
  refine ⟨fun b o' eb => ?_, x.inj, fun b q eb => ?_, fun b q o' eb l ea zz => ?_, fun q z => ?_⟩
  · rw [Hep.get_set g] at eb
    by_cases z : b = a
    · rw [if_pos z] at eb
      cases eb
      subst z
      obtain ⟨p', hp', hr'⟩ := x.obj b o g
      rw [e] at hp'
      cases hp'
      exact ⟨p, e, hr'.nx⟩
    · rw [if_neg z] at eb
      obtain ⟨q, hq, hr⟩ := x.obj b o' eb
      exact ⟨q, hq, hr.keep (Ext.dead e).kp fun _ h => h⟩
  · by_cases z : b = a
    · exact ⟨.ded, by rw [Hep.get_set g, if_pos z]⟩
    · obtain ⟨o', ho⟩ := x.liv b q eb
      exact ⟨o', by rw [Hep.get_set g, if_neg z]; exact ho⟩
  · rw [Hep.get_set g] at eb
    by_cases z : b = a
    · rw [if_pos z] at eb
      cases eb
      exact l rfl
    · rw [if_neg z] at eb
      rcases zz with zz | zz
      · subst zz
        exact z (x.inj b a _ ea e)
      · exact x.nz b q o' eb l ea zz
  · rcases z with z | z
    · subst z
      obtain ⟨p', hp', hr'⟩ := x.obj a o g
      rw [e] at hp'
      cases hp'
      exact hr'.nx
    · exact x.zl q z
theorem Kp.sideG {r : Rho} {H : Hp} {D : Addr} {u u0 : HO} (e : H D = some u0) (n1 : ∀ xs, u0 ≠ .tup xs) (nz : ¬ r.z D) : Kp r r H (upd H D u) :=
  ⟨fun _ _ h => h, fun p xs h => by rw [upd_ne (by rintro rfl; rw [e] at h; exact n1 xs (Option.some.inj h))]; exact h, fun p hz => ⟨hz, Kz.same (upd_ne (by rintro rfl; exact nz hz))⟩⟩
theorem RelH.sideG {T : Tab} {r : Rho} {h : Hep} {H : Hp} (x : RelH T r h H) {D : Addr} {u u0 : HO} (e : H D = some u0) (n1 : ∀ xs, u0 ≠ .tup xs) (hn : ∀ a, r a ≠ some D) (nz : ¬ r.z D) : RelH T r h (upd H D u) where
  obj := fun a o ea => by
    obtain ⟨q, hq, hr⟩ := x.obj a o ea
    exact ⟨q, hq, hr.keep (Kp.sideG e n1 nz) fun w hw => by rw [upd_ne (by rintro rfl; exact hn a hq)]; exact hw⟩
  inj := x.inj
  liv := x.liv
  nz := x.nz
  zl := fun q z => by
    by_cases y : q = D
    · subst y; exact absurd z nz
    · obtain ⟨w, hw, n⟩ := x.zl q z
      exact ⟨w, by rw [upd_ne y]; exact hw, n⟩
theorem Ext.over {T : Tab} {r r' : Rho} {h : Hep} {H H' : Hp} (x : Ext r r' H H') (y : RelH T r h H) {D : Addr} {u : HO} (hD : H D = none) : Ext r r' H (upd H' D u) where
  sub := x.sub
  tup := fun p xs h => by rw [upd_ne (ne_of_none h hD)]; exact x.tup p xs h
  frz := fun p o w h => by rw [upd_ne (ne_of_none h hD)]; exact x.frz p o w h
  oth := fun p o h hn hz => by rw [upd_ne (ne_of_none h hD)]; exact x.oth p o h hn hz
  liv := fun p o h => by rw [upd_ne (ne_of_none h hD)]; exact x.liv p o h
  new := x.new
  zed := fun p hz => by
    obtain ⟨w, hw, _⟩ := y.zl p hz
    obtain ⟨z1, k1⟩ := x.zed p hz
    exact ⟨z1, k1.trans (Kz.same (upd_ne (ne_of_none hw hD)))⟩
/-- it is done: it gets a place -/
theorem RelH.subN {T : Tab} {r : Rho} {h : Hep} {H : Hp} (x : RelH T r h H) (D : Addr) : ∀ a p, r a = some p → ins r h.n D a = some p := fun a p ea => by
  rw [ins_at]
  obtain ⟨o, ho⟩ := x.liv a p ea
  rw [if_neg (Nat.ne_of_lt (x.dom a o ho))]
  exact ea
theorem RelH.kpN {T : Tab} {r : Rho} {h : Hep} {H : Hp} (x : RelH T r h H) (D : Addr) : Kp r (ins r h.n D) H H := ⟨x.subN D, fun _ _ h => h, fun p h => ⟨h, Kz.refl H p⟩⟩
theorem RelH.nameG {T : Tab} {r : Rho} {h : Hep} {H : Hp} (x : RelH T r h H) {D : Addr} {o : Ob} (hn : ∀ a, r a ≠ some D) (nz : ¬ r.z D) (new : RelOb T (ins r h.n D) H o D) : RelH T (ins r h.n D) (h.push o) H := by
  refine ⟨fun a o' ea => ?_, fun a b p ea eb => ?_, fun a p ea => ?_, fun a p o' e l ea zz => ?_, x.zl⟩
  · rw [Hep.get_push] at ea
    by_cases z : a = h.n
    · rw [if_pos z] at ea
      cases ea
      subst z
      exact ⟨D, ins_same _ _ _, new⟩
    · rw [if_neg z] at ea
      obtain ⟨q, hq, hr⟩ := x.obj a o' ea
      exact ⟨q, x.subN D a q hq, hr.keep (x.kpN D) fun _ h => h⟩
  · rw [ins_at] at ea eb
    by_cases za : a = h.n
    · by_cases zb : b = h.n
      · rw [za, zb]
      · rw [if_pos za] at ea
        rw [if_neg zb] at eb
        cases ea
        exact absurd eb (hn b)
    · rw [if_neg za] at ea
      by_cases zb : b = h.n
      · rw [if_pos zb] at eb
        cases eb
        exact absurd ea (hn a)
      · rw [if_neg zb] at eb
        exact x.inj a b p ea eb
  · rw [ins_at] at ea
    by_cases z : a = h.n
    · exact ⟨_, by rw [Hep.get_push, if_pos z]⟩
    · rw [if_neg z] at ea
      obtain ⟨o', ho⟩ := x.liv a p ea
      exact ⟨o', by rw [Hep.get_push, if_neg z]; exact ho⟩
  · rw [Hep.get_push] at e
    rw [ins_at] at ea
    by_cases z : a = h.n
    · rw [if_pos z] at ea
      cases ea
      exact nz zz
    · rw [if_neg z] at e ea
      exact x.nz a p o' e l ea zz
theorem Ext.nameG {T : Tab} {r r' : Rho} {h : Hep} {H H' : Hp} (x : Ext r r' H H') (y : RelH T r' h H') {D : Addr} (hD : H D = none) : Ext r (ins r' h.n D) H H' where
  sub := fun a p e => y.subN D a p (x.sub a p e)
  tup := x.tup
  frz := x.frz
  oth := x.oth
  liv := x.liv
  new := fun a p e e' => by
    rw [ins_at] at e
    by_cases z : a = h.n
    · rw [if_pos z] at e
      cases e
      exact hD
    · rw [if_neg z] at e
      exact x.new a p e e'
  zed := x.zed
/-- names and heap -/
structure RelS (T : Tab) (r : Rho) (e : Env) (h : Hep) (s : L2.St) (H : Hp) : Prop where
  hp : RelH T r h H
  len : e.length = s.length
  var : ∀ (i : Nat) (w : W), e[i]? = some (some w) → ∃ v, s[i]? = some (some v) ∧ RelW T r H w v
theorem RelS.next {T : Tab} {r r' : Rho} {e : Env} {h h' : Hep} {s : L2.St} {H H' : Hp} (x : RelS T r e h s H) (y : Ext r r' H H') (z : RelH T r' h' H') : RelS T r' e h' s H' :=
  ⟨z, x.len, fun i w q => by
    obtain ⟨v, h1, h2⟩ := x.var i w q
    exact ⟨v, h1, h2.mono y⟩⟩
theorem RelS.kp {T : Tab} {r r' : Rho} {e : Env} {h h' : Hep} {s : L2.St} {H H' : Hp} (x : RelS T r e h s H) (y : Kp r r' H H') (z : RelH T r' h' H') : RelS T r' e h' s H' :=
  ⟨z, x.len, fun i w q => by
    obtain ⟨v, h1, h2⟩ := x.var i w q
    exact ⟨v, h1, h2.kp y⟩⟩
theorem RelS.wipe {T : Tab} {r : Rho} {e : Env} {h : Hep} {s : L2.St} {H : Hp} (x : RelS T r e h s H) (vs : List Nat) : RelS T r (wipeE e vs) h (L2.wipe s vs) H := by
  induction vs with
  | nil => exact x
  | cons v vs ih =>
    refine ⟨ih.hp, ?_, fun j u hj => ?_⟩
    · show ((wipeE e vs).set v none).length = ((L2.wipe s vs).set v none).length
      rw [List.length_set, List.length_set]
      exact ih.len
    · have hj : ((wipeE e vs).set v none)[j]? = some (some u) := hj
      show ∃ w, ((L2.wipe s vs).set v none)[j]? = some (some w) ∧ _
      rw [List.getElem?_set] at hj
      rw [List.getElem?_set]
      by_cases z : v = j
      · rw [if_pos z] at hj
        by_cases l : v < (wipeE e vs).length
        · rw [if_pos l] at hj; cases hj
        · rw [if_neg l] at hj; cases hj
      · rw [if_neg z] at hj ⊢
        exact ih.var j u hj
theorem RelS.put {T : Tab} {r : Rho} {e : Env} {h : Hep} {s : L2.St} {H : Hp} (x : RelS T r e h s H) {w : W} {v : V} (q : RelW T r H w v) (i : Nat) : RelS T r (e.set i (some w)) h (s.set i (some v)) H :=
  ⟨x.hp, by rw [List.length_set, List.length_set]; exact x.len, fun j u hj => by
    rw [List.getElem?_set] at hj
    rw [List.getElem?_set]
    by_cases z : i = j
    · rw [if_pos z] at hj ⊢
      by_cases l : i < e.length
      · rw [if_pos l] at hj
        rw [if_pos (by rw [← x.len]; exact l)]
        cases hj
        exact ⟨v, rfl, q⟩
      · rw [if_neg l] at hj
        cases hj
    · rw [if_neg z] at hj ⊢
      exact x.var j u hj⟩
theorem RelFs.look {T : Tab} {r : Rho} {H : Hp} {i : Nat} : ∀ {c : Nat} {fs : List (Nat × W)} {gs : List (Str × V)}, RelFs T r H c fs gs → (∀ w, flook fs i = some w → NoAttr T.K (T.cA c) (T.fN i) ∧ ∃ v, gs.lookup (T.fN i) = some v ∧ RelW T r H w v) ∧ (flook fs i = none → gs.lookup (T.fN i) = none)
  | _, _, _, .nil => ⟨fun w e => (by cases e), fun _ => rfl⟩
  | c, _, _, .cons (i := j) (w := w') (v := v') (fs := fs) (gs := gs) n h t => by
    obtain ⟨h1, h2⟩ := RelFs.look (i := i) t
    by_cases z : j = i
    · subst z
      have e1 : flook ((j, w') :: fs) j = some w' := by unfold flook; rw [if_pos (Nat.beq_refl j)]
      have e2 : ((T.fN j, v') :: gs).lookup (T.fN j) = some v' := by simp [List.lookup]
      rw [e1, e2]
      exact ⟨fun w e => by cases e; exact ⟨n, v', rfl, h⟩, fun e => by cases e⟩
    · have e1 : flook ((j, w') :: fs) i = flook fs i := by
        conv => lhs; unfold flook
        rw [if_neg (fun q => z (Nat.eq_of_beq_eq_true q))]
      have e2 : ((T.fN j, v') :: gs).lookup (T.fN i) = gs.lookup (T.fN i) := by
        have : (T.fN i == T.fN j) = false := beq_eq_false_iff_ne.mpr fun q => z (T.fI _ _ q).symm
        simp [List.lookup, this]
      rw [e1, e2]
      exact ⟨h1, h2⟩
theorem RelFs.put {T : Tab} {r : Rho} {H : Hp} {i : Nat} {w : W} {v : V} {c : Nat} (n : NoAttr T.K (T.cA c) (T.fN i)) (h : RelW T r H w v) : ∀ {fs : List (Nat × W)} {gs : List (Str × V)}, RelFs T r H c fs gs → RelFs T r H c (fput fs i w) (putF (T.fN i) v gs)
  | _, _, .nil => .cons n h .nil
  | _, _, .cons (i := j) (w := w') (v := v') (fs := fs) (gs := gs) n' h' t => by
    by_cases z : j = i
    · subst z
      have e1 : fput ((j, w') :: fs) j w = (j, w) :: fs := by unfold fput; rw [if_pos (Nat.beq_refl j)]
      have e2 : putF (T.fN j) v ((T.fN j, v') :: gs) = (T.fN j, v) :: gs := by unfold putF; rw [if_pos rfl]
      rw [e1, e2]
      exact .cons n' h t
    · have e1 : fput ((j, w') :: fs) i w = (j, w') :: fput fs i w := by
        conv => lhs; unfold fput
        rw [if_neg (fun q => z (Nat.eq_of_beq_eq_true q))]
      have e2 : putF (T.fN i) v ((T.fN j, v') :: gs) = (T.fN j, v') :: putF (T.fN i) v gs := by
        conv => lhs; unfold putF
        rw [if_neg (fun q => z (T.fI _ _ q))]
      rw [e1, e2]
      exact .cons n' h' (RelFs.put n h t)
theorem RelFs.length {T : Tab} {r : Rho} {H : Hp} : ∀ {c : Nat} {fs : List (Nat × W)} {gs : List (Str × V)}, RelFs T r H c fs gs → fs.length = gs.length
  | _, _, _, .nil => rfl
  | _, _, _, .cons _ _ t => by rw [List.length_cons, List.length_cons, RelFs.length t]
theorem clsFs_at {T : Tab} {r : Rho} {h : Hep} {H : Hp} {x : W} {v : V} {c : Nat} {fs : List (Nat × W)} (rh : RelH T r h H) (rx : RelW T r H x v) (e : clsFs h x = some (c, fs)) : ∃ p dx gs, v = .ref p ∧ H p = some (.ins (T.cA c) dx gs) ∧ CI T.K (T.cA c) ∧ RelFs T r H c fs gs := by
  cases rx with
  | ins z k q rs => cases e; exact ⟨_, _, _, rfl, q, k, rs⟩
  | ref q =>
    rename_i a p
    simp only [clsFs] at e
    split at e
    · rename_i c' fs' g
      cases e
      obtain ⟨p', hp, dx, gs, h1, h2, h3⟩ := rh.obj a _ g
      rw [q] at hp
      cases hp
      exact ⟨p, dx, gs, rfl, h1, h2, h3⟩
    · cases e
  | _ => cases e
def cutR (r : Rho) (n : Nat) : Rho := ⟨fun a => if a < n then r a else none, r.z⟩
theorem cutR_at (r : Rho) (n a : Nat) : cutR r n a = if a < n then r a else none := rfl
section
variable {T : Tab} {r : Rho} {H : Hp} {n : Nat}
mutual
theorem RelW.cut : ∀ {w : W} {v : V}, RelW T r H w v → w.blw n = true → RelW T (cutR r n) H w v
  | _, _, .non, _ => .non
  | _, _, .bl b, _ => .bl b
  | _, _, .int i, _ => .int i
  | _, _, .str z, _ => .str z
  | _, _, .ref (a := a) h, e => .ref (by
    rw [cutR_at, if_pos (of_decide_eq_true (by simpa only [W.blw] using e))]
    exact h)
  | _, _, .cls c, _ => .cls c
  | _, _, .ty t, _ => .ty t
  | _, _, .tup h hs, e => .tup h (RelWs.cut hs (by simpa only [W.blw] using e))
  | _, _, .lst z h hs, e => .lst z h (RelWs.cut hs (by simpa only [W.blw] using e))
  | _, _, .scr h, _ => .scr h
  | _, _, .dct z h hs, e => .dct z h (RelKv.cut hs (by simpa only [W.blw] using e))
  | _, _, .ins z k h hs, e => .ins z k h (RelFs.cut hs (by simpa only [W.blw] using e))
theorem RelWs.cut : ∀ {ws : List W} {vs : List V}, RelWs T r H ws vs → W.blws n ws = true → RelWs T (cutR r n) H ws vs
  | _, _, .nil, _ => .nil
  | _, _, .cons h t, e => by
    simp only [W.blws, Bool.and_eq_true] at e
    exact .cons (RelW.cut h e.1) (RelWs.cut t e.2)
theorem RelKv.cut : ∀ {ws : List (W × W)} {vs : List (L2.Key × V)}, RelKv T r H ws vs → W.blwKs n ws = true → RelKv T (cutR r n) H ws vs
  | _, _, .nil, _ => .nil
  | _, _, .cons k h t, e => by
    simp only [W.blwKs, W.blwK, Bool.and_eq_true] at e
    exact .cons k (RelW.cut h e.1.2) (RelKv.cut t e.2)
theorem RelFs.cut : ∀ {c : Nat} {ws : List (Nat × W)} {vs : List (Str × V)}, RelFs T r H c ws vs → W.blwFs n ws = true → RelFs T (cutR r n) H c ws vs
  | _, _, _, .nil, _ => .nil
  | _, _, _, .cons q h t, e => by
    simp only [W.blwFs, W.blwF, Bool.and_eq_true] at e
    exact .cons q (RelW.cut h e.1) (RelFs.cut t e.2)
end
theorem RelOb.cut {o : Ob} {p : Addr} (h : RelOb T r H o p) (e : o.blw n = true) : RelOb T (cutR r n) H o p := by
  cases o with
  | lst xs => obtain ⟨vs, q, rs⟩ := h; exact ⟨vs, q, rs.cut e⟩
  | dic lk kvs => obtain ⟨ks, q, rs⟩ := h; exact ⟨ks, q, rs.cut e⟩
  | ins _ _ => obtain ⟨dx, gs, q, ci, rs⟩ := h; exact ⟨dx, gs, q, ci, rs.cut e⟩
  | ded => exact h
end
theorem blw_at (n : Nat) : ∀ (k : Nat) (l : List Ob) (a : Nat) (o : Ob), Hep.blw n k l = true → a < k → nth l a = some o → o.blw n = true
  | 0, _, _, _, _, h, _ => absurd h (Nat.not_lt_zero _)
  | _ + 1, [], _, _, _, _, e => by cases e
  | k + 1, x :: l, 0, o, h, _, e => by
    simp only [Hep.blw, Bool.and_eq_true] at h
    cases e
    exact h.1
  | k + 1, x :: l, a + 1, o, h, hl, e => by
    simp only [Hep.blw, Bool.and_eq_true] at h
    exact blw_at n k l a o h.2 (Nat.lt_of_succ_lt_succ hl) e
theorem RelH.cut {T : Tab} {r : Rho} {h : Hep} {H : Hp} (x : RelH T r h H) {n : Nat} (e : Hep.blw n n h.l = true) : RelH T (cutR r n) (h.cut n) H := by
  refine ⟨fun a o ea => ?_, fun a b p ea eb => ?_, fun a p ea => ?_, fun a p o ea l er => ?_, x.zl⟩
  · rw [Hep.get_cut] at ea
    by_cases z : a < n
    · rw [if_pos z] at ea
      obtain ⟨p, hp, hr⟩ := x.obj a o ea
      exact ⟨p, by rw [cutR_at, if_pos z]; exact hp, hr.cut (blw_at n n h.l a o e z ea)⟩
    · rw [if_neg z] at ea; cases ea
  · rw [cutR_at] at ea eb
    by_cases za : a < n
    · by_cases zb : b < n
      · rw [if_pos za] at ea
        rw [if_pos zb] at eb
        exact x.inj a b p ea eb
      · rw [if_neg zb] at eb; cases eb
    · rw [if_neg za] at ea; cases ea
  · rw [cutR_at] at ea
    by_cases z : a < n
    · rw [if_pos z] at ea
      obtain ⟨o, ho⟩ := x.liv a p ea
      exact ⟨o, by rw [Hep.get_cut, if_pos z]; exact ho⟩
    · rw [if_neg z] at ea; cases ea
  · rw [cutR_at] at er
    rw [Hep.get_cut] at ea
    by_cases z : a < n
    · rw [if_pos z] at ea er
      exact x.nz a p o ea l er
    · rw [if_neg z] at ea; cases ea
/-- from the call's begin, where there were n places -/
theorem Ext.cut {T : Tab} {r r' : Rho} {h : Hep} {H H' : Hp} (x : Ext r r' H H') (y : RelH T r h H) : Ext r (cutR r' h.n) H H' where
  sub := fun a p e => by
    obtain ⟨o, ho⟩ := y.liv a p e
    rw [cutR_at, if_pos (y.dom a o ho)]
    exact x.sub a p e
  tup := x.tup
  frz := x.frz
  oth := x.oth
  liv := x.liv
  new := fun a p e e' => by
    rw [cutR_at] at e
    by_cases z : a < h.n
    · rw [if_pos z] at e
      exact x.new a p e e'
    · rw [if_neg z] at e; cases e
  zed := x.zed
/-- the end of a call: a state for what the evaluator leaves -/
theorem RelH.ends {T : Tab} {r r' : Rho} {h h' : Hep} {H H' : Hp} {w : W} {v : V} (y : RelH T r h H) (x : Ext r r' H H') (z : RelH T r' h' H') (rv : RelW T r' H' w v) :
    ∃ r2, Ext r r2 H H' ∧ RelH T r2 (h'.ends h.n w) H' ∧ RelW T r2 H' w v := by
  unfold Hep.ends
  by_cases q : h'.n ≤ h.n
  · rw [if_pos q]; exact ⟨r', x, z, rv⟩
  · rw [if_neg q]
    cases e1 : w.blw h.n && Hep.blw h.n h.n h'.l with
    | false => exact ⟨r', x, z, rv⟩
    | true =>
      rw [Bool.and_eq_true] at e1
      exact ⟨cutR r' h.n, x.cut y, z.cut e1.2, rv.cut e1.1⟩
end Ev

namespace Ev
open PySem PySem.Spec PyProof.Rows L2

def tE (X : Cx) (a : Expr) : TE := fun s H Q => ∀ (pins : List (Addr × Obj)) (t : Shared), Inv X pins s H t → wpAny (model X.prog X.w) X.A (eval a X.env) (EP X pins s Q) X.xe t
theorem pe_E {X : Cx} {a : Expr} : PE X a (tE X a) := ⟨fun pins t _ _ _ I h => h pins t I⟩
def tT (X : Cx) (a : Expr) : TT := fun s H Q => ∀ (pins : List (Addr × Obj)) (t : Shared), Inv X pins s H t → wpAny (model X.prog X.w) X.A (isTrue a X.env (eval a X.env)) (TP X pins s Q) X.xe t
theorem pt_T {X : Cx} {a : Expr} : PT X a (tT X a) := ⟨fun pins t _ _ _ I h => h pins t I⟩
def tA (X : Cx) (as : List Expr) : TA := fun s H Q => ∀ (pos : Pos) (pins : List (Addr × Obj)) (t : Shared), Inv X pins s H t → wpAny (model X.prog X.w) X.A (spliced (backTo pos (starEach as X.env))) (AP X pins s Q) X.xe t
theorem pa_A {X : Cx} {as : List Expr} : PA X as (tA X as) := ⟨fun pos pins t _ _ _ I h => h pos pins t I⟩

/-- the errors' own attribute -/
structure TabX extends Tab where
  eA : Nat → Str
def Post {α β : Type} (T : TabX) (Wx : WX) (R : Rho → Hp → α → β → Prop) (r : Rho) (s : L2.St) (H : Hp) (o : Out α) (Q : β → Hp → Prop) : Prop := match o with
  | .ok w h' => ∀ r' v H', Ext r r' H H' → RelH T.toTab r' h' H' → R r' H' w v → Q v H'
  | .exc c p h' => ∀ r' d H' v, Ext r r' H H' → RelH T.toTab r' h' H' → RelW T.toTab r' H' p v → H' d = some (.xd [(T.eA c, v)]) → Wx (.ref (T.cA c)) (some d) s H'
  | .bad => False
theorem Post.later {α β : Type} {T : TabX} {Wx : WX} {R : Rho → Hp → α → β → Prop} {r r1 : Rho} {s : L2.St} {H H1 : Hp} {o : Out α} {Q : β → Hp → Prop} (x : Ext r r1 H H1) (h : Post T Wx R r s H o Q) : Post T Wx R r1 s H1 o Q := by
  cases o with
  | ok w h' => exact fun r' v H' e => h r' v H' (x.trans e)
  | exc c p h' => exact fun r' d H' v e => h r' d H' v (x.trans e)
  | bad => exact h
theorem Post.bind {α β γ δ : Type} {T : TabX} {Wx : WX} {R1 : Rho → Hp → α → β → Prop} {R : Rho → Hp → γ → δ → Prop} {r : Rho} {s : L2.St} {H : Hp} {o : Out α} {f : α → Hep → Out γ} {Q : δ → Hp → Prop} {Q1 : β → Hp → Prop}
    (hm : Post T Wx R r s H (o.bind f) Q) (k : ∀ (r1 : Rho) (v : β) (H1 : Hp) (a : α) (h1 : Hep), Ext r r1 H H1 → RelH T.toTab r1 h1 H1 → R1 r1 H1 a v → Post T Wx R r1 s H1 (f a h1) Q → Q1 v H1) : Post T Wx R1 r s H o Q1 := by
  cases o with
  | ok a h1 => exact fun r1 v H1 e rh rv => k r1 v H1 a h1 e rh rv (Post.later e hm)
  | exc c p h1 => exact hm
  | bad => exact hm
theorem Post.some' {α β : Type} {T : TabX} {Wx : WX} {R : Rho → Hp → α → β → Prop} {r : Rho} {s : L2.St} {H : Hp} {o : Option α} {h : Hep} {Q : β → Hp → Prop} (hm : Post T Wx R r s H (.some' o h) Q) (rh : RelH T.toTab r h H) :
    ∃ a, o = some a ∧ ∀ v, R r H a v → Q v H := by
  cases o with
  | none => exact hm.elim
  | some a => exact ⟨a, rfl, fun v rv => hm r v H (Ext.refl _ _) rh rv⟩
theorem Post.ok {α β : Type} {T : TabX} {Wx : WX} {R : Rho → Hp → α → β → Prop} {r : Rho} {s : L2.St} {H : Hp} {a : α} {h : Hep} {Q : β → Hp → Prop} (hm : Post T Wx R r s H (.ok a h) Q) (rh : RelH T.toTab r h H) {v : β} (rv : R r H a v) : Q v H :=
  hm r v H (Ext.refl _ _) rh rv
section
variable (T : TabX) (X : Cx) (Wx : WX)
abbrev PostE := Post (α := W) (β := V) T Wx (RelW T.toTab)
abbrev PostT := Post (α := Bool) (β := Bool) T Wx (fun _ _ a b => a = b)
abbrev PostA := Post (α := List W) (β := List V) T Wx (RelWs T.toTab)
def SimE (a : Expr) (m : Env → Hep → Out W) : Prop := ∀ (r : Rho) (s : L2.St) (H : Hp) (e : Env) (h : Hep) (Q : VK), RelS T.toTab r e h s H → PostE T Wx r s H (m e h) Q → tE X a s H Q
def SimT (a : Expr) (m : Env → Hep → Out Bool) : Prop := ∀ (r : Rho) (s : L2.St) (H : Hp) (e : Env) (h : Hep) (Q : Bool → Hp → Prop), RelS T.toTab r e h s H → PostT T Wx r s H (m e h) Q → tT X a s H Q
def SimA (as : List Expr) (m : Env → Hep → Out (List W)) : Prop := ∀ (r : Rho) (s : L2.St) (H : Hp) (e : Env) (h : Hep) (Q : List V → Hp → Prop), RelS T.toTab r e h s H → PostA T Wx r s H (m e h) Q → tA X as s H Q
end
section
variable {T : TabX} {X : Cx} {Wx : WX}
theorem nth_join {e : Env} {i : Nat} {w : W} (h : (nth e i).join = some w) : e[i]? = some (some w) := by
  rw [nth_eq] at h
  cases q : e[i]? with
  | none => rw [q] at h; cases h
  | some o =>
    rw [q] at h
    cases o with
    | none => cases h
    | some u => cases h; rfl
theorem sim_var {i : Nat} {x : Str} {pos : Pos} (hN : X.N[i]? = some x) (hv : Vis X.env.scope x) (hd : (x == ("__debug__" : Str)) = false) (hc : (x == ("__classdict__" : Str)) = false) : SimE T X Wx (.Name x pos) (fun e h => .some' ((nth e i).join) h) := by
  intro r s H e h Q S hq pins t I
  refine (pe_var hN hv hd hc).run pins t s H Q I ?_
  obtain ⟨w, hw, k⟩ := hq.some' S.hp
  obtain ⟨v, h1, h2⟩ := S.var i w (nth_join hw)
  exact ⟨v, h1, k v h2⟩
theorem sim_c {a : Expr} {w : W} {v : V} (hp : PE X a (tC v)) (hw : ∀ r H, RelW T.toTab r H w v) : SimE T X Wx a (fun _ h => .ok w h) := by
  intro r s H e h Q S hq pins t I
  exact hp.run pins t s H Q I (hq.ok S.hp (hw r H))
theorem sim_int {i : Int} {j : Nat} {pos : Pos} : SimE T X Wx (.Constant (.int i) j pos) (fun _ h => .ok (.int i) h) := sim_c pe_int fun _ _ => .int i
theorem sim_str {i : Str} {j : Nat} {pos : Pos} : SimE T X Wx (.Constant (.str i) j pos) (fun _ h => .ok (.str i) h) := sim_c pe_str fun _ _ => .str i
theorem sim_bl {i : Bool} {j : Nat} {pos : Pos} : SimE T X Wx (.Constant (.bool i) j pos) (fun _ h => .ok (.bl i) h) := sim_c pe_bl fun _ _ => .bl i
theorem sim_non {j : Nat} {pos : Pos} : SimE T X Wx (.Constant .none j pos) (fun _ h => .ok .non h) := sim_c pe_non fun _ _ => .non

def OpSim (T : TabX) (X : Cx) (g : W → W → Hep → Out W) (rr : R2) : Prop := ∀ (Wx : WX) (r : Rho) (s : L2.St) (H : Hp) (h : Hep) (x y : W) (v w : V) (Q : VK), RelH T.toTab r h H → RelW T.toTab r H x v → RelW T.toTab r H y w → PostE T Wx r s H (g x y h) Q → rr v w H Q
theorem sim_bin {op : Operator} {rr : R2} {a b : Expr} {ma mb : Env → Hep → Out W} {pos : Pos} (ho : OpR X (binaryOp op) rr) (hr : OpSim T X (binop op) rr) (ha : SimE T X Wx a ma) (hb : SimE T X Wx b mb) :
    SimE T X Wx (.BinOp a op b pos) (fun e h => (ma e h).bind fun x h1 => (mb e h1).bind fun y h2 => binop op x y h2) := by
  intro r s H e h Q S hq pins t I
  refine (pe_op ho pe_E pe_E).run pins t s H Q I ?_
  show tE X a s H fun x H1 => tE X b s H1 fun y H2 => rr x y H2 Q
  refine ha r s H e h _ S (hq.bind fun r1 v H1 a h1 e1 rh1 rv hq1 => ?_)
  refine hb r1 s H1 e h1 _ (S.next e1 rh1) (hq1.bind fun r2 w H2 b h2 e2 rh2 rw hq2 => ?_)
  exact hr Wx r2 s H2 h2 a b v w Q rh2 (rv.mono e2) rw hq2
theorem sim_cmp {op : CmpOp} {rr : R2} {a b : Expr} {ma mb : Env → Hep → Out W} {pos : Pos} (ho : OpR X (compareOp op) rr) (hr : OpSim T X (cmpop op) rr) (ha : SimE T X Wx a ma) (hb : SimE T X Wx b mb) (hm : behindInMarks op b = false) :
    SimE T X Wx (.Compare a [op] [b] pos) (fun e h => (ma e h).bind fun x h1 => (mb e h1).bind fun y h2 => cmpop op x y h2) := by
  intro r s H e h Q S hq pins t I
  refine (pe_cmpR ho pe_E pe_E hm).run pins t s H Q I ?_
  show tE X a s H fun x H1 => tE X b s H1 fun y H2 => rr x y H2 Q
  refine ha r s H e h _ S (hq.bind fun r1 v H1 a h1 e1 rh1 rv hq1 => ?_)
  refine hb r1 s H1 e h1 _ (S.next e1 rh1) (hq1.bind fun r2 w H2 b h2 e2 rh2 rw hq2 => ?_)
  exact hr Wx r2 s H2 h2 a b v w Q rh2 (rv.mono e2) rw hq2
theorem lim_eq : lim = sizeLine := by rw [sizeLine_eq]; rfl
/-- a new list, a new tuple -/
theorem newL_ok {m : Bool} {r : Rho} {s : L2.St} {H : Hp} {h : Hep} {xs : List W} {vs : List V} {Q : VK} (rh : RelH T.toTab r h H) (rv : RelWs T.toTab r H xs vs) (hq : PostE T Wx r s H (newL m h xs) Q) :
    vs.length ≤ sizeLine ∧ ∀ p, H p = none → Q (.ref p) (upd H p (.lst vs)) := by
  unfold newL at hq
  by_cases z : xs.length ≤ lim
  · rw [if_pos z] at hq
    refine ⟨by rw [← rv.length, ← lim_eq]; exact z, fun p hp => ?_⟩
    cases m with
    | true =>
      have e := Ext.push rh (u := .lst vs) hp
      exact hq (ins r h.n p) (.ref p) _ e (rh.push hp ⟨vs, upd_same, rv.mono e⟩) (.ref (ins_same _ _ _))
    | false =>
      have e := Ext.laid rh (u := .lst vs) hp
      exact hq (fz r p) (.ref p) _ e (rh.laid hp fun _ z => by cases z) (.lst (.inl rfl) (.inl upd_same) (rv.mono e))
  · rw [if_neg z] at hq
    exact hq.elim
theorem newT_ok {r : Rho} {s : L2.St} {H : Hp} {h : Hep} {xs : List W} {vs : List V} {Q : VK} (rh : RelH T.toTab r h H) (rv : RelWs T.toTab r H xs vs) (hq : PostE T Wx r s H (.ok (.tup xs) h) Q) :
    ∀ p, H p = none → Q (.ref p) (upd H p (.tup vs)) := by
  intro p hp
  have e := Ext.alloc rh (u := .tup vs) hp
  exact hq r (.ref p) _ e (rh.alloc hp) (.tup (.inl upd_same) (rv.mono e))
theorem bnd64 {i : Int} : (decide (-18446744073709551616 < i) && decide (i < 18446744073709551616)) = true ↔ -(2 ^ 64) < i ∧ i < 2 ^ 64 := by
  rw [Bool.and_eq_true, decide_eq_true_eq, decide_eq_true_eq]
  have e : (2 : Int) ^ 64 = 18446744073709551616 := by decide
  rw [e]
theorem lst_at {r : Rho} {H : Hp} {h : Hep} {a : Nat} {p : Addr} {xs : List W} (rh : RelH T.toTab r h H) (q : r a = some p) (g : h.get a = some (.lst xs)) : ∃ vs, H p = some (.lst vs) ∧ RelWs T.toTab r H xs vs := by
  obtain ⟨p2, hp, vs, hv, rs⟩ := rh.obj a _ g
  rw [q] at hp
  cases hp
  exact ⟨vs, hv, rs⟩
theorem listOf_at {r : Rho} {H : Hp} {h : Hep} {x : W} {v : V} {xs : List W} (rh : RelH T.toTab r h H) (rx : RelW T.toTab r H x v) (e : listOf h x = some xs) : ∃ p vs, v = .ref p ∧ SqL T.K H p vs ∧ RelWs T.toTab r H xs vs := by
  cases rx with
  | lst z q rs =>
    cases e
    exact ⟨_, _, rfl, .inl q, rs⟩
  | scr q =>
    cases e
    exact ⟨_, _, rfl, q.sq, .ints _⟩
  | ref q =>
    simp only [listOf] at e
    split at e
    · rename_i g
      cases e
      obtain ⟨vs, hv, rs⟩ := lst_at rh q g
      exact ⟨_, vs, rfl, SqL.of hv, rs⟩
    · cases e
  | _ => cases e
/-- list + list -/
def rCatL (K : PySem.W.Frag) : R2 := fun x y H Q => ∃ (a b : Addr) (xs ys : List V), x = .ref a ∧ y = .ref b ∧ SqL K H a xs ∧ SqL K H b ys ∧ xs.length + ys.length ≤ sizeLine ∧ ∀ p, H p = none → Q (.ref p) (upd H p (.lst (xs ++ ys)))
theorem op_catL : OpR X (binaryOp .Add) (rCatL X.K) := by
  intro pins s σ H x y v u Q I rx ry h
  obtain ⟨a, b, xs, ys, rfl, rfl, ha, hb, hz, q⟩ := h
  cases rx
  cases ry
  obtain ⟨its, r, ⟨o1, n1, e1, c1, _, d1⟩, z1⟩ := I.list ha
  obtain ⟨its2, r2, ⟨o2, n2, e2, c2, _, d2⟩, z2⟩ := I.list hb
  obtain ⟨cls, dd, data, sl⟩ := o1
  obtain ⟨cls2, dd2, data2, sl2⟩ := o2
  simp only at c1 c2 d1 d2
  subst c1 c2 d1 d2
  have hl := r.length
  have hl2 := r2.length
  have ea : its.toArray ++ its2.toArray = (its ++ its2).toArray := by simp
  refine concat_meets ⟨_, e1, rfl⟩ ⟨_, e2, rfl⟩ noFill_list_add seq_list_add PySem.F.slot_list_add PySem.F.entry_list_add (PySem.F.args_list_add_2 _ _) (list_addW a b its.toArray its2.toArray n1 n2 dd dd2 sl sl2 (by rw [List.size_toArray, List.size_toArray]; omega)) ⟨e1, e2, ?_⟩
  rw [ea]
  exact ⟨.ref _, _, I.lnew (t' := s.toks) (r.append r2) (by rw [List.length_append]; omega), rfl, q _ I.fresh⟩
theorem opS_add : OpR X (binaryOp .Add) (fun x y H Q => rI0 (fun i j => .int (i + j)) x y H Q ∨ (∃ i j, x = .str i ∧ y = .str j ∧ i.length + j.length ≤ sizeLine ∧ Q (.str (i ++ j)) H) ∨ rCatA X.K x y H Q ∨ rCatL X.K x y H Q) := op_add.or (op_add_str.or (op_catA.or op_catL))
theorem sim_add (hK : T.K = X.K) : OpSim T X (binop .Add) (fun x y H Q => rI0 (fun i j => .int (i + j)) x y H Q ∨ (∃ i j, x = .str i ∧ y = .str j ∧ i.length + j.length ≤ sizeLine ∧ Q (.str (i ++ j)) H) ∨ rCatA X.K x y H Q ∨ rCatL X.K x y H Q) := by
  intro Wx r s H h x y v w Q rh rx ry hq
  unfold binop at hq
  simp only at hq
  split at hq
  · cases rx; cases ry
    exact .inl ⟨_, _, rfl, rfl, hq.ok rh (.int _)⟩
  · rename_i i j
    cases rx; cases ry
    by_cases z : i.length + j.length ≤ lim
    · rw [if_pos z] at hq
      exact .inr (.inl ⟨i, j, rfl, rfl, by rw [← lim_eq]; exact z, hq.ok rh (.str _)⟩)
    · rw [if_neg z] at hq
      exact hq.elim
  · rename_i xs ys
    cases rx with
    | tup h1 r1 => cases ry with
      | tup h2 r2 =>
        rename_i p vs p2 zs
        simp only [newT] at hq
        by_cases z : (xs ++ ys).length ≤ lim
        · rw [if_pos z] at hq
          refine .inr (.inr (.inl ⟨p, p2, vs, zs, rfl, rfl, hK ▸ h1.sq, hK ▸ h2.sq, ?_, fun e => ?_, fun _ e => ?_, fun _ _ => newT_ok rh (r1.app r2) hq⟩))
          · rw [← r1.length, ← r2.length, ← List.length_append, ← lim_eq]; exact z
          · subst e
            cases r1
            exact hq.ok rh (.tup h2 r2)
          · subst e
            cases r2
            rw [List.append_nil] at hq
            exact hq.ok rh (.tup h1 r1)
        · rw [if_neg z] at hq
          exact hq.elim
  · split at hq
    · rename_i us vs e1 e2
      obtain ⟨p, vs1, rfl, g1, s1⟩ := listOf_at rh rx e1
      obtain ⟨p2, vs2, rfl, g2, s2⟩ := listOf_at rh ry e2
      obtain ⟨z, k⟩ := newL_ok rh (s1.app s2) hq
      exact .inr (.inr (.inr ⟨p, p2, vs1, vs2, rfl, rfl, hK ▸ g1, hK ▸ g2, by rw [List.length_append] at z; exact z, k⟩))
    · exact hq.elim
theorem sim_sub : OpSim T X (binop .Sub) (rI0 fun i j => .int (i - j)) := by
  intro Wx r s H h x y v w Q rh rx ry hq
  unfold binop at hq
  cases rx with
  | int i => cases ry with
    | int j => exact ⟨i, j, rfl, rfl, hq.ok rh (.int _)⟩
    | _ => exact hq.elim
  | _ => exact hq.elim
theorem opS_mul : OpR X (binaryOp .Mult) (fun x y H Q => rI CMul (fun i j => .int (i * j)) x y H Q ∨ rRepT X.K x y H Q) := op_mul.or op_repT
theorem sim_mul (hK : T.K = X.K) : OpSim T X (binop .Mult) (fun x y H Q => rI CMul (fun i j => .int (i * j)) x y H Q ∨ rRepT X.K x y H Q) := by
  intro Wx r s H h x y v w Q rh rx ry hq
  unfold binop at hq
  cases rx with
  | int i => cases ry with
    | int j =>
      simp only at hq
      cases z : mulOk i j with
      | true =>
        rw [z, if_pos rfl] at hq
        refine .inl ⟨i, j, rfl, rfl, ?_, hq.ok rh (.int _)⟩
        unfold mulOk at z
        rw [Bool.or_eq_true, bnd64, bnd64] at z
        exact z
      | false =>
        rw [z, if_neg (by decide)] at hq
        exact hq.elim
    | _ => exact hq.elim
  | tup h1 r1 =>
    rename_i p xs vs
    cases xs with
    | nil => cases ry <;> exact hq.elim
    | cons u us => cases ry with
      | int j =>
        simp only at hq
        by_cases z1 : 2 ≤ j
        · rw [if_pos z1] at hq
          by_cases z2 : j ≤ 1000
          · rw [if_pos z2] at hq
            by_cases z3 : us.length < 1000
            · rw [if_pos z3] at hq
              refine .inr ⟨p, j, vs, rfl, rfl, hK ▸ h1.sq, ?_, z1, z2, ?_, newT_ok rh (r1.rep _) hq⟩
              · intro e; subst e; cases r1
              · rw [← r1.length, List.length_cons]; exact z3
            · rw [if_neg z3] at hq; exact hq.elim
          · rw [if_neg z2] at hq; exact hq.elim
        · rw [if_neg z1] at hq; exact hq.elim
      | _ => exact hq.elim
  | _ => exact hq.elim
theorem sim_mod : OpSim T X (binop .Mod) (rI (fun _ j => 0 < j) fun i j => .int (i % j)) := by
  intro Wx r s H h x y v w Q rh rx ry hq
  unfold binop at hq
  cases rx with
  | int i => cases ry with
    | int j =>
      simp only at hq
      by_cases z : 0 < j
      · rw [if_pos z] at hq
        exact ⟨i, j, rfl, rfl, z, hq.ok rh (.int _)⟩
      · rw [if_neg z] at hq; exact hq.elim
    | _ => exact hq.elim
  | _ => exact hq.elim
theorem sim_fdv : OpSim T X (binop .FloorDiv) (rI CDiv fun i j => .int (i / j)) := by
  intro Wx r s H h x y v w Q rh rx ry hq
  unfold binop at hq
  cases rx with
  | int i => cases ry with
    | int j =>
      simp only at hq
      by_cases z : 0 < j
      · rw [if_pos z] at hq
        by_cases z2 : j < 1073741824
        · rw [if_pos z2] at hq
          exact ⟨i, j, rfl, rfl, ⟨z, z2⟩, hq.ok rh (.int _)⟩
        · rw [if_neg z2] at hq; exact hq.elim
      · rw [if_neg z] at hq; exact hq.elim
    | _ => exact hq.elim
  | _ => exact hq.elim
theorem sim_pow : OpSim T X (binop .Pow) (rI CPow fun i j => .int (i ^ j.toNat)) := by
  intro Wx r s H h x y v w Q rh rx ry hq
  unfold binop at hq
  cases rx with
  | int i => cases ry with
    | int j =>
      simp only at hq
      by_cases z : 0 ≤ j ∧ j ≤ 1000000 ∧ i.natAbs < 18446744073709551616
      · rw [if_pos z] at hq
        have e : (2 : Nat) ^ 64 = 18446744073709551616 := by decide
        exact ⟨i, j, rfl, rfl, ⟨z.1, z.2.1, by rw [e]; exact z.2.2⟩, hq.ok rh (.int _)⟩
      · rw [if_neg z] at hq; exact hq.elim
    | _ => exact hq.elim
  | _ => exact hq.elim
theorem mapM_cons {α β : Type} {f : α → Option β} {x : α} {xs : List α} {l : List β} (h : (x :: xs).mapM f = some l) : ∃ y ys, f x = some y ∧ xs.mapM f = some ys ∧ l = y :: ys := by
  rw [List.mapM_cons] at h
  cases e : f x with
  | none => rw [e] at h; cases h
  | some y =>
    cases e2 : xs.mapM f with
    | none => rw [e, e2] at h; cases h
    | some ys =>
      rw [e, e2] at h
      cases h
      exact ⟨y, ys, rfl, rfl, rfl⟩
theorem dpAll_of {r : Rho} {H : Hp} {g : W → Option PyData} (ih : ∀ w v d, RelW T.toTab r H w v → g w = some d → Dp T.K H v d) : ∀ {ws : List W} {vs : List V} {ds : List PyData}, RelWs T.toTab r H ws vs → ws.mapM g = some ds → DpAll T.K H vs ds
  | _, _, ds, .nil, e => by
    have e2 : some [] = some ds := e
    cases e2
    exact .nil
  | _, _, ds, .cons h t, e => by
    obtain ⟨y, ys, e1, e2, rfl⟩ := mapM_cons e
    exact .cons (ih _ _ _ h e1) (dpAll_of ih t e2)
theorem dp_of {r : Rho} {H : Hp} {h : Hep} (rh : RelH T.toTab r h H) : ∀ (f : Nat) (w : W) (v : V) (d : PyData), RelW T.toTab r H w v → toD f h w = some d → Dp T.K H v d
  | 0, _, _, _, _, e => by cases e
  | f + 1, w, v, d, rw, e => by
    unfold toD at e
    cases rw with
    | non => cases e; exact .non
    | bl b => cases e; exact .bl b
    | int i => cases e; exact .int i
    | str z => cases e; exact .str z
    | cls c => cases e
    | ty t => cases e
    | dct _ _ _ => cases e
    | ins _ _ _ _ => cases e
    | scr _ => cases e
    | lst z q rs =>
      rename_i p xs vs
      simp only at e
      cases m : xs.mapM (toD f h) with
      | none => rw [m] at e; cases e
      | some ds =>
        rw [m] at e
        cases e
        exact .lst (.inl q) (dpAll_of (dp_of rh f) rs m)
    | tup q rs =>
      rename_i p xs vs
      simp only at e
      cases m : xs.mapM (toD f h) with
      | none => rw [m] at e; cases e
      | some ds =>
        rw [m] at e
        cases e
        exact .tup q.sq (dpAll_of (dp_of rh f) rs m)
    | ref q =>
      rename_i a p
      simp only at e
      cases g : h.get a with
      | none => rw [g] at e; cases e
      | some o => cases o with
        | lst xs =>
          rw [g] at e
          simp only at e
          obtain ⟨p2, hp, vs, hv, rs⟩ := rh.obj a _ g
          rw [q] at hp
          cases hp
          cases m : xs.mapM (toD f h) with
          | none => rw [m] at e; cases e
          | some ds =>
            rw [m] at e
            cases e
            exact .lst (SqL.of hv) (dpAll_of (dp_of rh f) rs m)
        | _ => rw [g] at e; cases e
theorem eqD_of {r : Rho} {H : Hp} {h : Hep} {x y : W} {v w : V} {b : Bool} (rh : RelH T.toTab r h H) (rx : RelW T.toTab r H x v) (ry : RelW T.toTab r H y w) (e : eqD h x y = some b) :
    ∃ d d', Dp T.K H v d ∧ Dp T.K H w d' ∧ SeqAt.shaped d = true ∧ SeqAt.shaped d' = true ∧ PyData.eqv d d' = b := by
  unfold eqD at e
  cases q : toD 65 h x with
  | none => rw [q] at e; cases e
  | some d => cases q2 : toD 65 h y with
    | none => rw [q, q2] at e; cases e
    | some d' =>
      rw [q, q2] at e
      simp only at e
      cases s1 : SeqAt.shaped d with
      | false => rw [s1, if_neg (by decide)] at e; cases e
      | true => cases s2 : SeqAt.shaped d' with
        | false => rw [s1, s2, if_pos rfl, if_neg (by decide)] at e; cases e
        | true =>
          rw [s1, s2, if_pos rfl, if_pos rfl] at e
          cases e
          exact ⟨d, d', dp_of rh 65 x v d rx q, dp_of rh 65 y w d' ry q2, s1, s2, rfl⟩
theorem eqW_of {r : Rho} {H : Hp} {h : Hep} {x y : W} {v w : V} {b : Bool} (rh : RelH T.toTab r h H) (rx : RelW T.toTab r H x v) (ry : RelW T.toTab r H y w) (e : eqW h x y = some b) :
    (scal v w = true ∧ decide (v = w) = b) ∨ (∃ d d', Dp T.K H v d ∧ Dp T.K H w d' ∧ SeqAt.shaped d = true ∧ SeqAt.shaped d' = true ∧ PyData.eqv d d' = b) ∨ (b = false ∧ ∃ p q us vs, v = .ref p ∧ w = .ref q ∧ SqL T.K H p us ∧ SqL T.K H q vs ∧ us.length ≠ vs.length) := by
  unfold eqW at e
  split at e
  · cases rx; cases ry; cases e
    exact .inl ⟨rfl, dec_int⟩
  · cases rx; cases ry; cases e
    exact .inl ⟨rfl, by rw [strEq_eq]; exact dec_str⟩
  · cases rx; cases ry; cases e
    exact .inl ⟨rfl, dec_bl⟩
  · split at e
    · rename_i xs ys hx hy
      split at e
      · exact .inr (.inl (eqD_of rh rx ry e))
      · rename_i z
        cases e
        obtain ⟨p, us, rfl, h1, h2⟩ := listOf_at rh rx hx
        obtain ⟨q, vs, rfl, h3, h4⟩ := listOf_at rh ry hy
        exact .inr (.inr ⟨rfl, p, q, us, vs, rfl, rfl, h1, h3, by rw [← h2.length, ← h4.length]; exact z⟩)
    · exact .inr (.inl (eqD_of rh rx ry e))
/-- two lists of different lengths -/
def rLen (K : PySem.W.Frag) (k : Bool) : R2 := fun x y H Q => ∃ a b xs ys, x = .ref a ∧ y = .ref b ∧ SqL K H a xs ∧ SqL K H b ys ∧ xs.length ≠ ys.length ∧ Q (.bl k) H
theorem PlainL.isL {h : Heap} {a : Addr} {its : Array Value} (p : PlainL h a its) : h.IsList a its := by
  obtain ⟨o, n, e, hc, _, hd⟩ := p
  exact ⟨o, e, hc, n, hd⟩
theorem op_eqLen {n : Nat} (hr : Room n X.A) : OpR X (compareOp .Eq) (rLen X.K false) := by
  intro pins s σ H x y v u Q I rx ry h
  obtain ⟨a, b, xs, ys, rfl, rfl, h1, h2, hl, q⟩ := h
  cases rx
  cases ry
  obtain ⟨its, r1, p1, _⟩ := I.list h1
  obtain ⟨jts, r2, p2, _⟩ := I.list h2
  exact SeqAt.RcAt.lists_lengths (PlainL.isL p1) (PlainL.isL p2) (by simp [← r1.length, ← r2.length, hl]) (by have := hr.un; omega) _ _ _ _ ⟨.bl false, H, I, rfl, q⟩
theorem op_neLen {n : Nat} (hr : Room n X.A) : OpR X (compareOp .NotEq) (rLen X.K true) := by
  intro pins s σ H x y v u Q I rx ry h
  obtain ⟨a, b, xs, ys, rfl, rfl, h1, h2, hl, q⟩ := h
  cases rx
  cases ry
  obtain ⟨its, r1, p1, _⟩ := I.list h1
  obtain ⟨jts, r2, p2, _⟩ := I.list h2
  exact SeqAt.RcNeAt.lists_lengths (PlainL.isL p1) (PlainL.isL p2) (by simp [← r1.length, ← r2.length, hl]) (by have := hr.un; omega) _ _ _ _ ⟨.bl true, H, I, rfl, q⟩
def rEqS (K : PySem.W.Frag) : R2 := fun x y H Q => (rEq x y H Q ∨ rEqD K x y H Q) ∨ rLen K false x y H Q
def rNeS (K : PySem.W.Frag) : R2 := fun x y H Q => (rNe x y H Q ∨ rNeD K x y H Q) ∨ rLen K true x y H Q
theorem opS_eq {n : Nat} (hr : Room n X.A) : OpR X (compareOp .Eq) (rEqS X.K) := (op_eq.or (op_eqD hr.units)).or (op_eqLen hr)
theorem opS_ne {n : Nat} (hr : Room n X.A) : OpR X (compareOp .NotEq) (rNeS X.K) := (op_ne.or (op_neD hr.units)).or (op_neLen hr)
theorem sim_eq (hK : T.K = X.K) : OpSim T X (cmpop .Eq) (rEqS X.K) := by
  intro Wx r s H h x y v w Q rh rx ry hq
  obtain ⟨z, e, k⟩ := Post.some' hq rh
  cases q : eqW h x y with
  | none => rw [q] at e; cases e
  | some b =>
    rw [q] at e
    cases e
    rcases eqW_of rh rx ry q with ⟨h1, h2⟩ | ⟨d, d', h1, h2, s1, s2, e⟩ | ⟨rfl, p, q, us, vs, e1, e2, h1, h2, h3⟩
    · exact .inl (.inl ⟨h1, by rw [h2]; exact k _ (.bl _)⟩)
    · exact .inl (.inr ⟨d, d', hK ▸ h1, hK ▸ h2, s1, s2, by rw [e]; exact k _ (.bl _)⟩)
    · exact .inr ⟨p, q, us, vs, e1, e2, hK ▸ h1, hK ▸ h2, h3, k _ (.bl _)⟩
theorem sim_ne (hK : T.K = X.K) : OpSim T X (cmpop .NotEq) (rNeS X.K) := by
  intro Wx r s H h x y v w Q rh rx ry hq
  obtain ⟨z, e, k⟩ := Post.some' hq rh
  cases q : eqW h x y with
  | none => rw [q] at e; cases e
  | some b =>
    rw [q] at e
    cases e
    rcases eqW_of rh rx ry q with ⟨h1, h2⟩ | ⟨d, d', h1, h2, s1, s2, e⟩ | ⟨rfl, p, q, us, vs, e1, e2, h1, h2, h3⟩
    · exact .inl (.inl ⟨h1, by rw [h2]; exact k _ (.bl _)⟩)
    · exact .inl (.inr ⟨d, d', hK ▸ h1, hK ▸ h2, s1, s2, by rw [e]; exact k _ (.bl _)⟩)
    · exact .inr ⟨p, q, us, vs, e1, e2, hK ▸ h1, hK ▸ h2, h3, k _ (.bl _)⟩
theorem sim_ord {op : CmpOp} {g : Int → Int → Bool} (hg : ∀ x y h, cmpop op x y h = (match x, y with
    | .int i, .int j => .ok (.bl (g i j)) h
    | _, _ => .bad)) : OpSim T X (cmpop op) (rI0 fun i j => .bl (g i j)) := by
  intro Wx r s H h x y v w Q rh rx ry hq
  rw [hg] at hq
  cases rx with
  | int i => cases ry with
    | int j => exact ⟨i, j, rfl, rfl, hq.ok rh (.bl _)⟩
    | _ => exact hq.elim
  | _ => exact hq.elim
def rIs : R2 := fun x y H Q => (y = .non ∧ Q (.bl (decide (x = .non))) H) ∨ rIsB x y H Q
def rIsn : R2 := fun x y H Q => (y = .non ∧ Q (.bl (!decide (x = .non))) H) ∨ rNotB x y H Q
theorem op_isE : OpR X (compareOp .Is) rIs := by
  intro pins s σ H x y v u Q I rx ry h
  rcases h with h | h
  · exact op_isN pins s σ H x y v u Q I rx ry h
  · exact op_isBl pins s σ H x y v u Q I rx ry h
theorem op_notE : OpR X (compareOp .IsNot) rIsn := by
  intro pins s σ H x y v u Q I rx ry h
  rcases h with h | h
  · exact op_notN pins s σ H x y v u Q I rx ry h
  · exact op_notBl pins s σ H x y v u Q I rx ry h
theorem sim_is : OpSim T X (cmpop .Is) rIs := by
  intro Wx r s H h x y v w Q rh rx ry hq
  obtain ⟨z, e, k⟩ := Post.some' hq rh
  cases ry with
  | non =>
    refine .inl ⟨rfl, ?_⟩
    cases rx <;> (simp only [isW, Option.map] at e; cases e; first | exact k _ (.bl _) | (rw [decide_eq_false (by intro z; cases z)]; exact k _ (.bl _)))
  | bl b =>
    cases rx with
    | bl a =>
      simp only [isW, Option.map] at e
      cases e
      exact .inr ⟨a, b, rfl, rfl, k _ (.bl _)⟩
    | _ => simp [isW] at e
  | _ => simp [isW] at e
theorem sim_isn : OpSim T X (cmpop .IsNot) rIsn := by
  intro Wx r s H h x y v w Q rh rx ry hq
  obtain ⟨z, e, k⟩ := Post.some' hq rh
  cases ry with
  | non =>
    refine .inl ⟨rfl, ?_⟩
    cases rx <;> (simp only [isW, Option.map] at e; cases e; first | exact k _ (.bl _) | (rw [decide_eq_false (by intro z; cases z)]; exact k _ (.bl _)))
  | bl b =>
    cases rx with
    | bl a =>
      simp only [isW, Option.map] at e
      cases e
      exact .inr ⟨a, b, rfl, rfl, k _ (.bl _)⟩
    | _ => simp [isW] at e
  | _ => simp [isW] at e
theorem flat_of {r : Rho} {H : Hp} {x : W} {v : V} (rx : RelW T.toTab r H x v) (f : flatW x = true) : flatV v = true := by
  cases rx <;> first | rfl | cases f
theorem eqF_of {r : Rho} {H : Hp} {x y : W} {v w : V} (rx : RelW T.toTab r H x v) (ry : RelW T.toTab r H y w) (fx : flatW x = true) (fy : flatW y = true) : eqV v w = eqF x y := by
  cases rx <;> first | (cases fx; done) | (cases ry <;> first | (cases fy; done) | rfl | (simp only [eqV, eqF, strEq_eq]))
theorem flats_of {r : Rho} {H : Hp} : ∀ {xs : List W} {vs : List V}, RelWs T.toTab r H xs vs → xs.all flatW = true → vs.all flatV = true
  | _, _, .nil, _ => rfl
  | _, _, .cons h t, f => by
    rw [List.all_cons, Bool.and_eq_true] at f ⊢
    exact ⟨flat_of h f.1, flats_of t f.2⟩
theorem anyF_of {r : Rho} {H : Hp} {x : W} {v : V} (rx : RelW T.toTab r H x v) (fx : flatW x = true) : ∀ {xs : List W} {vs : List V}, RelWs T.toTab r H xs vs → xs.all flatW = true → inV v vs = xs.any fun y => eqF y x
  | _, _, .nil, _ => rfl
  | _, _, .cons h t, f => by
    rw [List.all_cons, Bool.and_eq_true] at f
    have i1 := anyF_of rx fx t f.2
    unfold inV at i1 ⊢
    rw [List.any_cons, List.any_cons, i1, eqF_of h rx f.1 fx]
theorem key_rel {r : Rho} {H : Hp} {x : W} {v : V} {q : L2.Key} (rx : RelW T.toTab r H x v) (e : keyW x = some q) : v = kV q := by
  cases rx with
  | int i => cases e; rfl
  | str i => cases e; rfl
  | _ => cases e
theorem dicOf_at {r : Rho} {H : Hp} {h : Hep} {x : W} {v : V} {kvs : List (W × W)} (rh : RelH T.toTab r h H) (rx : RelW T.toTab r H x v) (e : dicOf h x = some kvs) : ∃ p ks, v = .ref p ∧ Rd H p (.dK ks) ∧ RelKv T.toTab r H kvs ks := by
  cases rx with
  | dct z h1 h2 => cases e; exact ⟨_, _, rfl, h1, h2⟩
  | ref q =>
    rename_i a p
    unfold dicOf at e
    simp only at e
    split at e
    · rename_i lk kvs' g
      cases e
      obtain ⟨p', hp, ks, h1, h2⟩ := rh.obj a _ g
      rw [q] at hp
      cases hp
      exact ⟨p, ks, rfl, h1.rd, h2⟩
    · cases e
  | _ => cases e
theorem dget_at {r : Rho} {H : Hp} {h : Hep} {x k : W} {v u : V} {q : L2.Key} {kvs : List (W × W)} (rh : RelH T.toTab r h H) (rx : RelW T.toTab r H x v) (rk : RelW T.toTab r H k u) (e : dicOf h x = some kvs) (ek : keyW k = some q) :
    ∃ p o, v = .ref p ∧ DGet H p u o ∧ o.isSome = (dget kvs k).isSome ∧ ∀ w, dget kvs k = some w → ∃ z, o = some z ∧ RelW T.toTab r H w z := by
  obtain ⟨p, ks, rfl, h1, h2⟩ := dicOf_at rh rx e
  obtain ⟨g1, g2⟩ := RelKv.get ek h2
  refine ⟨p, valV ks q, rfl, .inl ⟨ks, q, h1, key_rel rk ek, rfl⟩, g2.symm, fun w hw => ?_⟩
  exact g1 w hw
theorem in_of {r : Rho} {H : Hp} {h : Hep} {x y : W} {v w : V} {b : Bool} (rh : RelH T.toTab r h H) (rx : RelW T.toTab r H x v) (ry : RelW T.toTab r H y w) (e : inW h x y = some b) :
    (∃ (c : Nat) (z : Str), v = .str ⟨#[c]⟩ ∧ w = .str z ∧ decide (c ∈ z.cps.toList) = b) ∨ (∃ p xs, w = .ref p ∧ (SqL T.K H p xs ∨ SqT T.K H p xs) ∧ flatV v = true ∧ xs.all flatV = true ∧ inV v xs = b) ∨
      (∃ d ds, Dp T.K H v d ∧ Dp T.K H w (.list ds) ∧ SeqAt.shaped d = true ∧ SeqAt.shaped (.list ds) = true ∧ (ds.any fun z => PyData.eqv z d) = b) ∨ ∃ p o, w = .ref p ∧ DGet H p v o ∧ o.isSome = b := by
  have deep : ∀ {y : W}, RelW T.toTab r H y w → (match toD 65 h y, toD 65 h x with
    | some (.list ds), some d => if SeqAt.shaped (.list ds) then (if SeqAt.shaped d then some (ds.any fun z => PyData.eqv z d) else none) else none
    | _, _ => none) = some b → ∃ d ds, Dp T.K H v d ∧ Dp T.K H w (.list ds) ∧ SeqAt.shaped d = true ∧ SeqAt.shaped (.list ds) = true ∧ (ds.any fun z => PyData.eqv z d) = b := by
    intro y ry e
    cases q : toD 65 h y with
    | none => rw [q] at e; cases e
    | some d' => cases q2 : toD 65 h x with
      | none => rw [q, q2] at e; cases d' <;> cases e
      | some d =>
        rw [q, q2] at e
        cases d' with
        | list ds =>
          simp only at e
          cases s1 : SeqAt.shaped (.list ds) with
          | false => rw [s1, if_neg (by decide)] at e; cases e
          | true => cases s2 : SeqAt.shaped d with
            | false => rw [s1, s2, if_pos rfl, if_neg (by decide)] at e; cases e
            | true =>
              rw [s1, s2, if_pos rfl, if_pos rfl] at e
              cases e
              exact ⟨d, ds, dp_of rh 65 x v d rx q2, dp_of rh 65 y w _ ry q, s2, s1, rfl⟩
        | _ => cases e
  have oth : ∀ {y : W}, RelW T.toTab r H y w → (match dicOf h y with
    | some kvs => (match keyW x with
      | some _ => some (dget kvs x).isSome
      | none => none)
    | none => (match toD 65 h y, toD 65 h x with
      | some (.list ds), some d => if SeqAt.shaped (.list ds) then (if SeqAt.shaped d then some (ds.any fun z => PyData.eqv z d) else none) else none
      | _, _ => none)) = some b → (∃ (c : Nat) (z : Str), v = .str ⟨#[c]⟩ ∧ w = .str z ∧ decide (c ∈ z.cps.toList) = b) ∨ (∃ p xs, w = .ref p ∧ (SqL T.K H p xs ∨ SqT T.K H p xs) ∧ flatV v = true ∧ xs.all flatV = true ∧ inV v xs = b) ∨
      (∃ d ds, Dp T.K H v d ∧ Dp T.K H w (.list ds) ∧ SeqAt.shaped d = true ∧ SeqAt.shaped (.list ds) = true ∧ (ds.any fun z => PyData.eqv z d) = b) ∨ ∃ p o, w = .ref p ∧ DGet H p v o ∧ o.isSome = b := by
    intro y ry e
    split at e
    · rename_i kvs hd
      split at e
      · rename_i k hk
        cases e
        obtain ⟨p, o, h1, h2, h3, _⟩ := dget_at rh ry rx hd hk
        exact .inr (.inr (.inr ⟨p, o, h1, h2, h3⟩))
      · cases e
    · exact .inr (.inr (.inl (deep ry e)))
  cases ry with
  | str z => cases rx with
    | str c =>
      simp only [inW] at e
      cases q : c.cps.toList with
      | nil => rw [q] at e; cases e
      | cons k r => cases r with
        | nil =>
          rw [q] at e
          cases e
          refine .inl ⟨k, z, ?_, rfl, ?_⟩
          · have : c.cps = #[k] := Array.ext' q
            obtain ⟨c⟩ := c
            cases this
            rfl
          · have hb : ∀ x, Nat.beq k x = decide (k = x) := fun x => by
              cases z : Nat.beq k x with
              | true => exact (decide_eq_true (Nat.eq_of_beq_eq_true z)).symm
              | false => exact (decide_eq_false (Nat.ne_of_beq_eq_false z)).symm
            rw [show (Nat.beq k) = fun x => decide (k = x) from funext hb]
            induction z.cps.toList with
            | nil => simp
            | cons a l ih => simp [ih, List.any_cons, List.mem_cons]
        | cons _ _ => rw [q] at e; cases e
    | _ => simp [inW] at e
  | tup q rs =>
    rename_i p xs vs
    simp only [inW] at e
    cases f1 : flatW x with
    | false => rw [f1, if_neg (by decide)] at e; cases e
    | true => cases f2 : xs.all flatW with
      | false => rw [f1, f2, if_pos rfl, if_neg (by decide)] at e; cases e
      | true =>
        rw [f1, f2, if_pos rfl, if_pos rfl] at e
        cases e
        exact .inr (.inl ⟨p, vs, rfl, .inr q.sq, flat_of rx f1, flats_of rs f2, anyF_of rx f1 rs f2⟩)
  | non => exact oth .non e
  | bl c => exact oth (.bl c) e
  | int c => exact oth (.int c) e
  | cls c => exact oth (.cls c) e
  | ty c => exact oth (.ty c) e
  | ref q => exact oth (.ref q) e
  | lst z q rs => exact oth (.lst z q rs) e
  | scr q => exact oth (.scr q) e
  | dct q h1 h2 => exact oth (.dct q h1 h2) e
  | ins q k h1 h2 => exact oth (.ins q k h1 h2) e
/-- a key in a dict -/
def rDIn (neg : Bool) : R2 := fun x y H Q => ∃ p o, y = .ref p ∧ DGet H p x o ∧ Q (.bl (if neg then !o.isSome else o.isSome)) H
theorem op_dIn {n : Nat} (hr : Room n X.A) : OpR X (compareOp .In) (rDIn false) := by
  intro pins s σ H x y v u Q I rx ry h
  obtain ⟨p, o, rfl, g, q⟩ := h
  obtain rfl : u = Value.ref p := ry
  exact d_in (by have := hr.un; omega) I g rx fun s' I' => ⟨.bl o.isSome, H, I', rfl, q⟩
theorem op_dNin {n : Nat} (hr : Room n X.A) : OpR X (compareOp .NotIn) (rDIn true) := by
  intro pins s σ H x y v u Q I rx ry h
  obtain ⟨p, o, rfl, g, q⟩ := h
  obtain rfl : u = Value.ref p := ry
  exact d_notIn (by have := hr.un; omega) I g rx fun s' I' => ⟨.bl (!o.isSome), H, I', rfl, q⟩
def rInS (K : PySem.W.Frag) (neg : Bool) : R2 := fun x y H Q => (∃ (c : Nat) (z : Str), x = .str ⟨#[c]⟩ ∧ y = .str z ∧ Q (.bl (if neg then !decide (c ∈ z.cps.toList) else decide (c ∈ z.cps.toList))) H) ∨ rIn K neg x y H Q ∨ (if neg then rNotInD K x y H Q else rInD K x y H Q) ∨ rDIn neg x y H Q
theorem opS_in {n : Nat} (hr : Room n X.A) : OpR X (compareOp .In) (rInS X.K false) := op_in_sign.or (op_in_seq.or ((op_inD (by have := hr.un; omega)).or (op_dIn hr)))
theorem opS_nin {n : Nat} (hr : Room n X.A) : OpR X (compareOp .NotIn) (rInS X.K true) := op_notIn_sign.or (op_notIn_seq.or ((op_notInD (by have := hr.un; omega)).or (op_dNin hr)))
theorem sim_in (hK : T.K = X.K) : OpSim T X (cmpop .In) (rInS X.K false) := by
  intro Wx r s H h x y v w Q rh rx ry hq
  obtain ⟨z, e, k⟩ := Post.some' hq rh
  cases q : inW h x y with
  | none => rw [q] at e; cases e
  | some b =>
    rw [q] at e
    cases e
    rcases in_of rh rx ry q with ⟨c, z, h1, h2, h3⟩ | ⟨p, xs, h1, h2, h3, h4, h5⟩ | ⟨d, ds, h1, h2, h3, h4, h5⟩ | ⟨p, o, h1, h2, h3⟩
    · exact .inl ⟨c, z, h1, h2, by rw [h3]; exact k _ (.bl _)⟩
    · exact .inr (.inl ⟨p, xs, h1, hK ▸ h2, h3, h4, by rw [h5]; exact k _ (.bl _)⟩)
    · exact .inr (.inr (.inl ⟨d, ds, hK ▸ h1, hK ▸ h2, h3, h4, by rw [h5]; exact k _ (.bl _)⟩))
    · exact .inr (.inr (.inr ⟨p, o, h1, h2, by rw [h3]; exact k _ (.bl _)⟩))
theorem sim_nin (hK : T.K = X.K) : OpSim T X (cmpop .NotIn) (rInS X.K true) := by
  intro Wx r s H h x y v w Q rh rx ry hq
  obtain ⟨z, e, k⟩ := Post.some' hq rh
  cases q : inW h x y with
  | none => rw [q] at e; cases e
  | some b =>
    rw [q] at e
    cases e
    rcases in_of rh rx ry q with ⟨c, z, h1, h2, h3⟩ | ⟨p, xs, h1, h2, h3, h4, h5⟩ | ⟨d, ds, h1, h2, h3, h4, h5⟩ | ⟨p, o, h1, h2, h3⟩
    · exact .inl ⟨c, z, h1, h2, by rw [h3]; exact k _ (.bl _)⟩
    · exact .inr (.inl ⟨p, xs, h1, hK ▸ h2, h3, h4, by rw [h5]; exact k _ (.bl _)⟩)
    · exact .inr (.inr (.inl ⟨d, ds, hK ▸ h1, hK ▸ h2, h3, h4, by rw [h5]; exact k _ (.bl _)⟩))
    · exact .inr (.inr (.inr ⟨p, o, h1, h2, by rw [h3]; exact k _ (.bl _)⟩))
end
end Ev

namespace Ev
open PySem PySem.Spec PyProof.Rows L2
section
variable {T : TabX} {X : Cx} {Wx : WX}
theorem Post.bindE {α β γ δ : Type} {R1 : Rho → Hp → α → β → Prop} {R : Rho → Hp → γ → δ → Prop} {r : Rho} {s : L2.St} {H : Hp} {o : Out α} {f : α → Hep → Out γ} {Q : δ → Hp → Prop} {Q1 : β → Hp → Prop}
    (hm : Post T Wx R r s H (o.bind f) Q) (k : ∀ (r1 : Rho) (v : β) (H1 : Hp) (a : α) (h1 : Hep), o = .ok a h1 → Ext r r1 H H1 → RelH T.toTab r1 h1 H1 → R1 r1 H1 a v → Post T Wx R r1 s H1 (f a h1) Q → Q1 v H1) : Post T Wx R1 r s H o Q1 := by
  cases o with
  | ok a h1 => exact fun r1 v H1 e rh rv => k r1 v H1 a h1 rfl e rh rv (Post.later e hm)
  | exc c p h1 => exact hm
  | bad => exact hm
def tru (m : Env → Hep → Out W) : Env → Hep → Out Bool := fun e h => (m e h).bind fun x h1 => .some' (truth h1 x) h1
theorem seqOf_at {r : Rho} {H : Hp} {h : Hep} {x : W} {v : V} {xs : List W} (rh : RelH T.toTab r h H) (rx : RelW T.toTab r H x v) (e : seqOf h x = some xs) : ∃ p vs, v = .ref p ∧ (SqL T.K H p vs ∨ (TqT T.K H p vs ∧ x = .tup xs)) ∧ RelWs T.toTab r H xs vs := by
  unfold seqOf at e
  split at e
  · cases e
    cases rx with
    | tup q rs => exact ⟨_, _, rfl, .inr ⟨q, rfl⟩, rs⟩
  · obtain ⟨p, vs, h1, h2, h3⟩ := listOf_at rh rx e
    exact ⟨p, vs, h1, .inl h2, h3⟩
theorem isEmpty_of {r : Rho} {H : Hp} {xs : List W} {vs : List V} (h : RelWs T.toTab r H xs vs) : xs.isEmpty = vs.isEmpty := by
  cases h <;> rfl
theorem truth_of {r : Rho} {H : Hp} {h : Hep} {x : W} {v : V} {k : Bool} (rh : RelH T.toTab r h H) (rx : RelW T.toTab r H x v) (e : truth h x = some k) : TruV T.K v H k := by
  cases rx with
  | non => cases e; rfl
  | bl b => cases e; rfl
  | int i => cases e; rfl
  | str z =>
    simp only [truth] at e
    split at e
    · rename_i q
      cases e
      exact ⟨by rw [← lim_eq]; exact q, rfl⟩
    · cases e
  | cls c => cases e
  | ty c => cases e
  | tup q rs => cases e; exact .inr (.inl ⟨_, q.sq, by rw [isEmpty_of rs]⟩)
  | lst z q rs => cases e; exact .inl ⟨_, .inl q, by rw [isEmpty_of rs]⟩
  | scr q =>
    cases e
    refine .inl ⟨_, q.sq, ?_⟩
    cases ‹List Int› <;> rfl
  | dct z h1 h2 =>
    cases e
  | ins _ _ _ _ => cases e
  | ref q =>
    simp only [truth] at e
    split at e
    · rename_i g
      cases e
      obtain ⟨vs, hv, rs⟩ := lst_at rh q g
      exact .inl ⟨vs, SqL.of hv, by rw [isEmpty_of rs]⟩
    · rename_i g
      cases e
      obtain ⟨p2, hp, ks, h1, h2⟩ := rh.obj _ _ g
      rw [q] at hp
      cases hp
      exact .inr (.inr ⟨ks, h1, by cases h2 <;> rfl⟩)
    · cases e
theorem tru_post {a : Expr} {ma : Env → Hep → Out W} (ha : SimE T X Wx a ma) (hK : T.K = X.K) {r : Rho} {s : L2.St} {H : Hp} {e : Env} {h : Hep} {Q : Bool → Hp → Prop} (S : RelS T.toTab r e h s H) (hq : PostT T Wx r s H (tru ma e h) Q) :
    tE X a s H fun x H1 => ∃ k, TruV X.K x H1 k ∧ Q k H1 := by
  refine ha r s H e h _ S (hq.bind fun r1 v H1 x h1 e1 rh1 rv hq1 => ?_)
  obtain ⟨k, hk, g⟩ := hq1.some' rh1
  exact ⟨k, hK ▸ truth_of rh1 rv hk, g k rfl⟩
theorem simT_plain {a : Expr} {ma : Env → Hep → Out W} (hK : T.K = X.K) (ha : SimE T X Wx a ma) (he : ∀ whole, isTrue a X.env whole = (do let v ← whole; standAt a.pos; holding [v] (truthy v))) : SimT T X Wx a (tru ma) := by
  intro r s H e h Q S hq pins t I
  exact (pt_truth pe_E he).run pins t s H Q I (tru_post ha hK S hq)
def andM (ma mb : Env → Hep → Out W) : Env → Hep → Out W := fun e h => (ma e h).bind fun x h1 => (match truth h1 x with
    | some true => mb e h1
    | some false => .ok x h1
    | none => .bad)
def orM (ma mb : Env → Hep → Out W) : Env → Hep → Out W := fun e h => (ma e h).bind fun x h1 => (match truth h1 x with
    | some true => .ok x h1
    | some false => mb e h1
    | none => .bad)
def notM (ma : Env → Hep → Out W) : Env → Hep → Out W := fun e h => (ma e h).bind fun x h1 => .some' ((truth h1 x).map fun k => .bl (!k)) h1
theorem tru_and (ma mb : Env → Hep → Out W) (e : Env) (h : Hep) : tru (andM ma mb) e h = (tru ma e h).bind fun b h1 => if b then tru mb e h1 else .ok false h1 := by
  unfold tru andM
  cases ma e h with
  | ok x h1 =>
    simp only [Out.bind]
    cases q : truth h1 x with
    | none => rfl
    | some k => cases k with
      | true => rfl
      | false => simp only [Out.some', q]; rfl
  | exc c p h1 => rfl
  | bad => rfl
theorem tru_or (ma mb : Env → Hep → Out W) (e : Env) (h : Hep) : tru (orM ma mb) e h = (tru ma e h).bind fun b h1 => if b then .ok true h1 else tru mb e h1 := by
  unfold tru orM
  cases ma e h with
  | ok x h1 =>
    simp only [Out.bind]
    cases q : truth h1 x with
    | none => rfl
    | some k => cases k with
      | true => simp only [Out.some', q]; rfl
      | false => rfl
  | exc c p h1 => rfl
  | bad => rfl
theorem tru_not (ma : Env → Hep → Out W) (e : Env) (h : Hep) : tru (notM ma) e h = (tru ma e h).bind fun b h1 => .ok (!b) h1 := by
  unfold tru notM
  cases ma e h with
  | ok x h1 =>
    simp only [Out.bind]
    cases q : truth h1 x with
    | none => rfl
    | some k => rfl
  | exc c p h1 => rfl
  | bad => rfl
/-- a test whatever its whole is -/
def tWw (X : Cx) (a : Expr) : TT := fun s H Q => ∀ (whole : Sem Value) (pins : List (Addr × Obj)) (t : Shared), Inv X pins s H t → wpAny (model X.prog X.w) X.A (isTrue a X.env whole) (TP X pins s Q) X.xe t
theorem pw_W {X : Cx} {a : Expr} : PW X a (tWw X a) := ⟨fun whole pins t _ _ _ I h => h whole pins t I⟩
def SimW (T : TabX) (X : Cx) (Wx : WX) (a : Expr) (m : Env → Hep → Out Bool) : Prop := ∀ (r : Rho) (s : L2.St) (H : Hp) (e : Env) (h : Hep) (Q : Bool → Hp → Prop), RelS T.toTab r e h s H → PostT T Wx r s H (m e h) Q → tWw X a s H Q
theorem SimW.t {a : Expr} {m : Env → Hep → Out Bool} (h : SimW T X Wx a m) : SimT T X Wx a m := fun r s H e h' Q S hq pins t I => h r s H e h' Q S hq _ pins t I
theorem simW_one {op : BoolOp} {a : Expr} {m : Env → Hep → Out Bool} {pos : Pos} (ha : SimT T X Wx a m) : SimW T X Wx (.BoolOp op [a] pos) m := by
  intro r s H e h Q S hq whole pins t I
  cases op with
  | And => exact (pw_and1 pt_T).run whole pins t s H Q I (ha r s H e h Q S hq)
  | Or => exact (pw_or1 pt_T).run whole pins t s H Q I (ha r s H e h Q S hq)
theorem simW_and {a b : Expr} {rest : List Expr} {pos : Pos} {ma mb : Env → Hep → Out W} (ha : SimT T X Wx a (tru ma)) (hb : SimW T X Wx (.BoolOp .And (b :: rest) pos) (tru mb)) : SimW T X Wx (.BoolOp .And (a :: b :: rest) pos) (tru (andM ma mb)) := by
  intro r s H e h Q S hq whole pins t I
  refine (pw_and pt_T pw_W).run whole pins t s H Q I ?_
  rw [tru_and] at hq
  refine ha r s H e h _ S (hq.bind fun r1 v H1 x h1 e1 rh1 rv hq1 => ?_)
  subst rv
  cases x with
  | true => exact iteT (hb r1 s H1 e h1 Q (S.next e1 rh1) hq1)
  | false => exact iteF (hq1.ok rh1 rfl)
theorem simW_or {a b : Expr} {rest : List Expr} {pos : Pos} {ma mb : Env → Hep → Out W} (ha : SimT T X Wx a (tru ma)) (hb : SimW T X Wx (.BoolOp .Or (b :: rest) pos) (tru mb)) : SimW T X Wx (.BoolOp .Or (a :: b :: rest) pos) (tru (orM ma mb)) := by
  intro r s H e h Q S hq whole pins t I
  refine (pw_or pt_T pw_W).run whole pins t s H Q I ?_
  rw [tru_or] at hq
  refine ha r s H e h _ S (hq.bind fun r1 v H1 x h1 e1 rh1 rv hq1 => ?_)
  subst rv
  cases x with
  | true => exact iteT (hq1.ok rh1 rfl)
  | false => exact iteF (hb r1 s H1 e h1 Q (S.next e1 rh1) hq1)
theorem simT_not {a : Expr} {pos : Pos} {ma : Env → Hep → Out W} (ha : SimT T X Wx a (tru ma)) : SimT T X Wx (.UnaryOp .Not a pos) (tru (notM ma)) := by
  intro r s H e h Q S hq pins t I
  refine (pt_not pt_T).run pins t s H Q I ?_
  rw [tru_not] at hq
  refine ha r s H e h _ S (hq.bind fun r1 v H1 x h1 e1 rh1 rv hq1 => ?_)
  subst rv
  exact hq1.ok rh1 rfl
theorem simE_one {op : BoolOp} {a : Expr} {m : Env → Hep → Out W} {pos : Pos} (ha : SimE T X Wx a m) : SimE T X Wx (.BoolOp op [a] pos) m := by
  intro r s H e h Q S hq pins t I
  exact (pe_one pe_E).run pins t s H Q I (ha r s H e h Q S hq)
theorem simE_and {a b : Expr} {rest : List Expr} {pos : Pos} {ma mb : Env → Hep → Out W} (hK : T.K = X.K) (ha : SimE T X Wx a ma) (hb : SimE T X Wx (.BoolOp .And (b :: rest) pos) mb) : SimE T X Wx (.BoolOp .And (a :: b :: rest) pos) (andM ma mb) := by
  intro r s H e h Q S hq pins t I
  refine (pe_andT pe_E pe_E).run pins t s H Q I ?_
  unfold andM at hq
  refine ha r s H e h _ S (hq.bind fun r1 v H1 x h1 e1 rh1 rv hq1 => ?_)
  cases q : truth h1 x with
  | none => rw [q] at hq1; exact hq1.elim
  | some k =>
    rw [q] at hq1
    refine ⟨k, hK ▸ truth_of rh1 rv q, ?_⟩
    cases k with
    | true => exact iteT (hb r1 s H1 e h1 Q (S.next e1 rh1) hq1)
    | false => exact iteF (hq1.ok rh1 rv)
theorem simE_or {a b : Expr} {rest : List Expr} {pos : Pos} {ma mb : Env → Hep → Out W} (hK : T.K = X.K) (ha : SimE T X Wx a ma) (hb : SimE T X Wx (.BoolOp .Or (b :: rest) pos) mb) : SimE T X Wx (.BoolOp .Or (a :: b :: rest) pos) (orM ma mb) := by
  intro r s H e h Q S hq pins t I
  refine (pe_orT pe_E pe_E).run pins t s H Q I ?_
  unfold orM at hq
  refine ha r s H e h _ S (hq.bind fun r1 v H1 x h1 e1 rh1 rv hq1 => ?_)
  cases q : truth h1 x with
  | none => rw [q] at hq1; exact hq1.elim
  | some k =>
    rw [q] at hq1
    refine ⟨k, hK ▸ truth_of rh1 rv q, ?_⟩
    cases k with
    | true => exact iteT (hq1.ok rh1 rv)
    | false => exact iteF (hb r1 s H1 e h1 Q (S.next e1 rh1) hq1)
theorem simE_not {a : Expr} {pos : Pos} {ma : Env → Hep → Out W} (hK : T.K = X.K) (ha : SimE T X Wx a ma) : SimE T X Wx (.UnaryOp .Not a pos) (notM ma) := by
  intro r s H e h Q S hq pins t I
  refine (pe_notT pe_E).run pins t s H Q I ?_
  unfold notM at hq
  refine ha r s H e h _ S (hq.bind fun r1 v H1 x h1 e1 rh1 rv hq1 => ?_)
  obtain ⟨z, e, k⟩ := hq1.some' rh1
  cases q : truth h1 x with
  | none => rw [q] at e; cases e
  | some b =>
    rw [q] at e
    cases e
    exact ⟨b, hK ▸ truth_of rh1 rv q, k _ (.bl _)⟩
theorem simE_neg {a : Expr} {pos : Pos} {ma : Env → Hep → Out W} (ha : SimE T X Wx a ma) : SimE T X Wx (.UnaryOp .USub a pos) (fun e h => (ma e h).bind fun x h1 => (match x with
    | .int i => .ok (.int (-i)) h1
    | _ => .bad)) := by
  intro r s H e h Q S hq pins t I
  refine (pe_un un_neg pe_E).run pins t s H Q I ?_
  refine ha r s H e h _ S (hq.bind fun r1 v H1 x h1 e1 rh1 rv hq1 => ?_)
  cases rv with
  | int i => exact ⟨i, rfl, hq1.ok rh1 (.int _)⟩
  | _ => exact hq1.elim
theorem simE_ife {c a b : Expr} {pos : Pos} {mc ma mb : Env → Hep → Out W} (hc : SimT T X Wx c (tru mc)) (ha : SimE T X Wx a ma) (hb : SimE T X Wx b mb) : SimE T X Wx (.IfExp c a b pos) (fun e h => (mc e h).bind fun x h1 => (match truth h1 x with
    | some true => ma e h1
    | some false => mb e h1
    | none => .bad)) := by
  intro r s H e h Q S hq pins t I
  refine (pe_ifExp pt_T pe_E pe_E).run pins t s H Q I ?_
  have e0 : ((mc e h).bind fun x h1 => (match truth h1 x with
    | some true => ma e h1
    | some false => mb e h1
    | none => .bad)) = (tru mc e h).bind fun b h1 => if b then ma e h1 else mb e h1 := by
    unfold tru
    cases mc e h with
    | ok x h1 =>
      simp only [Out.bind]
      cases q : truth h1 x with
      | none => rfl
      | some k => cases k <;> rfl
    | exc c p h1 => rfl
    | bad => rfl
  simp only [e0] at hq
  refine hc r s H e h _ S (hq.bind fun r1 v H1 x h1 e1 rh1 rv hq1 => ?_)
  subst rv
  cases x with
  | true => exact iteT (ha r1 s H1 e h1 Q (S.next e1 rh1) hq1)
  | false => exact iteF (hb r1 s H1 e h1 Q (S.next e1 rh1) hq1)
theorem cmp_bl {op : CmpOp} {x y w : W} {h h1 : Hep} (e : cmpop op x y h = .ok w h1) : ∃ b, w = .bl b := by
  unfold cmpop at e
  cases op <;> simp only at e
  case Eq => cases q : eqW h x y <;> rw [q] at e <;> cases e; exact ⟨_, rfl⟩
  case NotEq => cases q : eqW h x y <;> rw [q] at e <;> cases e; exact ⟨_, rfl⟩
  case Is => cases q : isW x y <;> rw [q] at e <;> cases e; exact ⟨_, rfl⟩
  case IsNot => cases q : isW x y <;> rw [q] at e <;> cases e; exact ⟨_, rfl⟩
  case In => cases q : inW h x y <;> rw [q] at e <;> cases e; exact ⟨_, rfl⟩
  case NotIn => cases q : inW h x y <;> rw [q] at e <;> cases e; exact ⟨_, rfl⟩
  all_goals (split at e <;> cases e; exact ⟨_, rfl⟩)
theorem simT_cmp {op : CmpOp} {rr : R2} {a b : Expr} {ma mb : Env → Hep → Out W} {pos : Pos} (ho : OpR X (compareOp op) rr) (hr : OpSim T X (cmpop op) rr) (ha : SimE T X Wx a ma) (hb : SimE T X Wx b mb) (hm : behindInMarks op b = false) :
    SimT T X Wx (.Compare a [op] [b] pos) (tru fun e h => (ma e h).bind fun x h1 => (mb e h1).bind fun y h2 => cmpop op x y h2) := by
  intro r s H e h Q S hq pins t I
  refine (pt_cmpR ho pe_E pe_E hm).run pins t s H Q I ?_
  show tE X a s H fun x H1 => tE X b s H1 fun y H2 => rr x y H2 fun z H3 => ∃ k, z = .bl k ∧ Q k H3
  have hq : PostE T Wx r s H ((ma e h).bind fun x h1 => (mb e h1).bind fun y h2 => cmpop op x y h2) (fun z H3 => ∃ k, z = .bl k ∧ Q k H3) := by
    unfold tru at hq
    refine hq.bindE fun r1 v H1 w h1 eq e1 rh1 rv hq1 => ?_
    obtain ⟨k, hk, g⟩ := hq1.some' rh1
    have hb : ∃ b, w = .bl b := by
      cases q : ma e h with
      | ok x h2 => cases q2 : mb e h2 with
        | ok y h3 =>
          simp only [q, q2, Out.bind] at eq
          exact cmp_bl eq
        | exc _ _ _ => simp only [q, q2, Out.bind] at eq; cases eq
        | bad => simp only [q, q2, Out.bind] at eq; cases eq
      | exc _ _ _ => simp only [q, Out.bind] at eq; cases eq
      | bad => simp only [q, Out.bind] at eq; cases eq
    obtain ⟨b, rfl⟩ := hb
    cases rv
    cases hk
    exact ⟨_, rfl, g _ rfl⟩
  refine ha r s H e h _ S (hq.bind fun r1 v H1 a h1 e1 rh1 rv hq1 => ?_)
  refine hb r1 s H1 e h1 _ (S.next e1 rh1) (hq1.bind fun r2 w H2 b h2 e2 rh2 rw hq2 => ?_)
  exact hr Wx r2 s H2 h2 a b v w _ rh2 (rv.mono e2) rw hq2
def chnM (o1 o2 : CmpOp) (ma mb mc : Env → Hep → Out W) : Env → Hep → Out W := fun e h => (ma e h).bind fun x h1 => (mb e h1).bind fun y h2 => (cmpop o1 x y h2).bind fun r h3 => (match r with
    | .bl true => (mc e h3).bind fun z h4 => cmpop o2 y z h4
    | .bl false => .ok (.bl false) h3
    | _ => .bad)
theorem simE_chn {o1 o2 : CmpOp} {r1 r2 : R2} {a b c : Expr} {ma mb mc : Env → Hep → Out W} {pos : Pos} (h1 : OpR X (compareOp o1) r1) (h2 : OpR X (compareOp o2) r2) (g1 : OpSim T X (cmpop o1) r1) (g2 : OpSim T X (cmpop o2) r2)
    (ha : SimE T X Wx a ma) (hb : SimE T X Wx b mb) (hc : SimE T X Wx c mc) (hm : lastMarks [o1, o2] [b, c] = false) : SimE T X Wx (.Compare a [o1, o2] [b, c] pos) (chnM o1 o2 ma mb mc) := by
  intro r s H e h Q S hq pins t I
  refine (pe_chain h1 h2 pe_E pe_E pe_E hm).run pins t s H Q I ?_
  unfold chnM at hq
  refine ha r s H e h _ S (hq.bind fun ra v H1 a k1 e1 rh1 rv hq1 => ?_)
  refine hb ra s H1 e k1 _ (S.next e1 rh1) (hq1.bind fun rb w H2 b k2 e2 rh2 rw hq2 => ?_)
  refine g1 Wx rb s H2 k2 a b v w _ rh2 (rv.mono e2) rw (hq2.bindE fun rc z H3 y k3 eq e3 rh3 rz hq3 => ?_)
  obtain ⟨k, rfl⟩ := cmp_bl eq
  cases rz
  refine ⟨k, rfl, ?_⟩
  cases k with
  | true =>
    refine iteT (hc rc s H3 e k3 _ ((S.next e1 rh1).next (e2.trans e3) rh3) (hq3.bind fun rd u H4 c k4 e4 rh4 ru hq4 => ?_))
    exact g2 Wx rd s H4 k4 b c w u Q rh4 (rw.mono (e3.trans e4)) ru hq4
  | false => exact iteF (hq3.ok rh3 (.bl _))
theorem simT_chn {o1 o2 : CmpOp} {r1 r2 : R2} {a b c : Expr} {ma mb mc : Env → Hep → Out W} {pos : Pos} (h1 : OpR X (compareOp o1) r1) (h2 : OpR X (compareOp o2) r2) (g1 : OpSim T X (cmpop o1) r1) (g2 : OpSim T X (cmpop o2) r2)
    (ha : SimE T X Wx a ma) (hb : SimE T X Wx b mb) (hc : SimE T X Wx c mc) (hm : lastMarks [o1, o2] [b, c] = false) : SimT T X Wx (.Compare a [o1, o2] [b, c] pos) (tru (chnM o1 o2 ma mb mc)) := by
  intro r s H e h Q S hq pins t I
  refine (pt_chain h1 h2 pe_E pe_E pe_E hm).run pins t s H Q I ?_
  have hq : PostE T Wx r s H (chnM o1 o2 ma mb mc e h) (fun z H3 => ∃ k, z = .bl k ∧ Q k H3) := by
    unfold tru at hq
    refine hq.bindE fun r1 v H1 w h1 eq e1 rh1 rv hq1 => ?_
    obtain ⟨k, hk, g⟩ := hq1.some' rh1
    have hb : ∃ b, w = .bl b := by
      unfold chnM at eq
      cases q : ma e h with
      | ok x h2 => cases q2 : mb e h2 with
        | ok y h3 => cases q3 : cmpop o1 x y h3 with
          | ok z h4 =>
            obtain ⟨b1, rfl⟩ := cmp_bl q3
            simp only [q, q2, q3, Out.bind] at eq
            cases b1 with
            | false => cases eq; exact ⟨_, rfl⟩
            | true => cases q4 : mc e h4 with
              | ok u h5 =>
                simp only [q4] at eq
                exact cmp_bl eq
              | exc _ _ _ => simp only [q4] at eq; cases eq
              | bad => simp only [q4] at eq; cases eq
          | exc _ _ _ => simp only [q, q2, q3, Out.bind] at eq; cases eq
          | bad => simp only [q, q2, q3, Out.bind] at eq; cases eq
        | exc _ _ _ => simp only [q, q2, Out.bind] at eq; cases eq
        | bad => simp only [q, q2, Out.bind] at eq; cases eq
      | exc _ _ _ => simp only [q, Out.bind] at eq; cases eq
      | bad => simp only [q, Out.bind] at eq; cases eq
    obtain ⟨b, rfl⟩ := hb
    cases rv
    cases hk
    exact ⟨_, rfl, g _ rfl⟩
  unfold chnM at hq
  refine ha r s H e h _ S (hq.bind fun ra v H1 a k1 e1 rh1 rv hq1 => ?_)
  refine hb ra s H1 e k1 _ (S.next e1 rh1) (hq1.bind fun rb w H2 b k2 e2 rh2 rw hq2 => ?_)
  refine g1 Wx rb s H2 k2 a b v w _ rh2 (rv.mono e2) rw (hq2.bindE fun rc z H3 y k3 eq e3 rh3 rz hq3 => ?_)
  obtain ⟨k, rfl⟩ := cmp_bl eq
  cases rz
  refine ⟨k, rfl, ?_⟩
  cases k with
  | true =>
    refine iteT (hc rc s H3 e k3 _ ((S.next e1 rh1).next (e2.trans e3) rh3) (hq3.bind fun rd u H4 c k4 e4 rh4 ru hq4 => ?_))
    exact g2 Wx rd s H4 k4 b c w u _ rh4 (rw.mono (e3.trans e4)) ru hq4
  | false => exact iteF (hq3.ok rh3 (.bl _))
end
end Ev

namespace Ev
open PySem PySem.Spec PyProof.Rows L2
section
variable {T : TabX} {X : Cx} {Wx : WX}
theorem ixW_eq (n : Nat) (i : Int) : ixW n i = ixN n i := rfl
theorem atW_at {r : Rho} {H : Hp} {xs : List W} {vs : List V} {i : Int} {w : W} (rs : RelWs T.toTab r H xs vs) (e : atW xs i = some w) : ∃ v, atI vs i = some v ∧ RelW T.toTab r H w v := by
  unfold atW at e
  unfold atI
  rw [ixW_eq, rs.length] at e
  cases q : ixN vs.length i with
  | none => rw [q] at e; cases e
  | some j =>
    rw [q] at e
    have e : nth xs j = some w := e
    rw [nth_eq] at e
    obtain ⟨v, h1, h2⟩ := rs.get e
    exact ⟨v, h1, h2⟩
/-- d[k] -/
def rIxD : R2 := fun x y H Q => ∃ p z, x = .ref p ∧ DGet H p y (some z) ∧ Q z H
theorem ix_dict {n : Nat} (hr : Room n X.A) : IxR X rIxD := by
  intro value slice pins s σ H x y v u Q I rx ry h hs
  obtain ⟨p, z, rfl, g, q⟩ := h
  obtain rfl : v = Value.ref p := rx
  have hT := dict_typeIs I g
  have hu : X.A.units + 1 < cLine := by have := hr.un; omega
  have h2 : wpAny (model X.prog X.w) X.A (getItem (.ref p) u) (EP X pins σ Q) X.xe s := d_getItem hu I g ry fun w' s3 I3 rw' => ⟨z, H, I3, rw', q⟩
  unfold subscriptTail
  refine wpAny_bind ?_
  rw [getitemInPython_of_ne hT.not_modules]
  refine wpAny_bind (wpAny_specialOf hT PySem.F.slot_dict_getitem.lookup ?_)
  have fin : wpAny (model X.prog X.w) X.A (subscripted slice false (.ref p) u) (fun r s₃ => wpAny (model X.prog X.w) X.A (letTemporaryGo value (.ref p) r >>= fun _ => pure r) (EP X pins σ Q) X.xe s₃) X.xe s := by
    rw [hs]
    exact wpAny_operating (wpAny_mono h2 (fun r s₃ h₃ => wpAny_bind (wpAny_letTemporaryGo (wpAny_pure h₃))) fun _ _ x => x)
  first
    | exact wpAny_pure (wpAny_bind fin)
    | exact wpAny_bind (wpAny_pure (wpAny_bind fin))
    | exact wpAny_bind fin
def rIxE (K : PySem.W.Frag) : R2 := fun x y H Q => rIx K x y H Q ∨ rIxD x y H Q
theorem ix_any {n : Nat} (hr : Room n X.A) : IxR X (rIxE X.K) := ix_seq.or (ix_dict hr)
theorem datW_sim {r : Rho} {s : L2.St} {H : Hp} {h : Hep} {x k : W} {v u : V} {q : L2.Key} {Q : VK} (rh : RelH T.toTab r h H) (rx : RelW T.toTab r H x v) (rk : RelW T.toTab r H k u) (ek : keyW k = some q) (hq : PostE T Wx r s H (datW x k h) Q) : rIxD v u H Q := by
  unfold datW at hq
  split at hq
  · rename_i kvs hd
    obtain ⟨w, hw, g⟩ := hq.some' rh
    obtain ⟨p, o, rfl, h1, _, h3⟩ := dget_at rh rx rk hd ek
    obtain ⟨z, rfl, rz⟩ := h3 w hw
    exact ⟨p, z, rfl, h1, g z rz⟩
  · exact hq.elim
theorem sim_ix (hK : T.K = X.K) : OpSim T X index (rIxE X.K) := by
  intro Wx r s H h x y v w Q rh rx ry hq
  unfold index at hq
  cases ry with
  | int k =>
    simp only at hq
    split at hq
    · rename_i z
      cases rx with
      | str _ =>
        split at hq
        · rename_i hl
          split at hq
          · rename_i j hj
            split at hq
            · rename_i c hc
              refine .inl (.inr (.inr ⟨z, k, c, rfl, rfl, by rw [← lim_eq]; exact hl, ?_, hq.ok rh (.str _)⟩))
              unfold atI
              rw [← ixW_eq, hj]
              rw [nth_eq] at hc
              exact hc
            · exact hq.elim
          · exact hq.elim
        · exact hq.elim
    · split at hq
      · rename_i xs hs
        obtain ⟨u, hu, g⟩ := hq.some' rh
        obtain ⟨p, vs, rfl, hsq, rs⟩ := seqOf_at rh rx hs
        obtain ⟨z, h1, h2⟩ := atW_at rs hu
        rcases hsq with hsq | ⟨hsq, _⟩
        · exact .inl (.inl ⟨p, vs, k, z, rfl, rfl, hK ▸ hsq, h1, g z h2⟩)
        · exact .inl (.inr (.inl ⟨p, vs, k, z, rfl, rfl, hK ▸ hsq.sq, h1, g z h2⟩))
      · exact .inr (datW_sim rh rx (.int k) rfl hq)
  | str k => exact .inr (datW_sim rh rx (.str k) rfl hq)
  | _ => exact hq.elim
theorem plainIx_of {b : Expr} (h : (match b with
    | .Slice _ _ _ _ => false
    | _ => true) = true) : PlainIx b := by
  intro o i
  cases b <;> first | rfl | cases h
theorem simE_idx {n : Nat} {a b : Expr} {pos : Pos} {ma mb : Env → Hep → Out W} (hr : Room n X.A) (hK : T.K = X.K) (ha : SimE T X Wx a ma) (hb : SimE T X Wx b mb) (hs : PlainIx b) :
    SimE T X Wx (.Subscript a b pos) (fun e h => (ma e h).bind fun x h1 => (mb e h1).bind fun y h2 => index x y h2) := by
  intro r s H e h Q S hq pins t I
  refine (pe_ix (ix_any hr) pe_E pe_E hs).run pins t s H Q I ?_
  refine ha r s H e h _ S (hq.bind fun r1 v H1 a h1 e1 rh1 rv hq1 => ?_)
  refine hb r1 s H1 e h1 _ (S.next e1 rh1) (hq1.bind fun r2 w H2 b h2 e2 rh2 rw hq2 => ?_)
  exact sim_ix hK Wx r2 s H2 h2 a b v w Q rh2 (rv.mono e2) rw hq2
theorem slI_eq (n d : Nat) (o : Option Int) : slI n d o = HT.sIx n d o := by
  cases o with
  | none => rfl
  | some v =>
    have h : (if v < 0 then max (v + (n : Int)) 0 else min v (n : Int)) = ((HT.sIx n d (some v) : Nat) : Int) := HT.clip_eq v n d
    unfold slI
    simp only
    by_cases z : v < 0
    · rw [if_pos z] at h ⊢
      omega
    · rw [if_neg z] at h ⊢
      omega
theorem cut_of {r : Rho} {H : Hp} {xs : List W} {vs : List V} (rs : RelWs T.toTab r H xs vs) (lo hi : Option Int) : RelWs T.toTab r H (cut xs lo hi) (cutV vs lo hi) := by
  unfold cut cutV
  rw [slI_eq, slI_eq, rs.length]
  exact (rs.drop _).take _
theorem cut_whole {xs : List W} {lo hi : Option Int} (h1 : HT.sIx xs.length 0 lo = 0) (h2 : HT.sIx xs.length xs.length hi = xs.length) : cut xs lo hi = xs := by
  unfold cut
  rw [slI_eq, slI_eq, h1, h2]
  simp
def rSlS (K : PySem.W.Frag) : V → Option Int → Option Int → Hp → VK → Prop := fun x lo hi H Q => rSlA K x lo hi H Q ∨ rSlL K x lo hi H Q
theorem sl_S : SlR X (rSlS X.K) := sl_tupA.or sl_list
theorem sim_sl (hK : T.K = X.K) {r : Rho} {s : L2.St} {H : Hp} {h : Hep} {x : W} {v : V} {lo hi : Option Int} {Q : VK} (rh : RelH T.toTab r h H) (rx : RelW T.toTab r H x v) (hq : PostE T Wx r s H (slice x lo hi h) Q) : rSlS X.K v lo hi H Q := by
  unfold slice at hq
  split at hq
  · cases rx with
    | tup q rs =>
      rename_i p vs
      refine .inl ⟨p, vs, rfl, hK ▸ q.sq, fun hw => ?_, fun _ => newT_ok rh (cut_of rs lo hi) hq⟩
      rw [← rs.length] at hw
      rw [cut_whole hw.1 hw.2] at hq
      exact hq.ok rh (.tup q rs)
  · split at hq
    · rename_i xs hs
      obtain ⟨p, vs, rfl, h1, rs⟩ := listOf_at rh rx hs
      exact .inr ⟨p, vs, rfl, hK ▸ h1, (newL_ok rh (cut_of rs lo hi) hq).2⟩
    · exact hq.elim
theorem asInt_at {r : Rho} {H : Hp} {x : W} {v : V} {i : Int} (rx : RelW T.toTab r H x v) (e : asInt x = some i) : v = .int i := by
  cases rx <;> cases e
  rfl
theorem simE_slL {a b : Expr} {p2 pos : Pos} {ma mb : Env → Hep → Out W} (hK : T.K = X.K) (ha : SimE T X Wx a ma) (hb : SimE T X Wx b mb) :
    SimE T X Wx (.Subscript a (.Slice (some b) none none p2) pos) (fun e h => (ma e h).bind fun x h1 => (mb e h1).bind fun y h2 => (match asInt y with
    | some i => slice x (some i) none h2
    | none => .bad)) := by
  intro r s H e h Q S hq pins t I
  refine (pe_slice sl_S pe_E (po_some pe_E) po_none).run pins t s H Q I ?_
  refine ha r s H e h _ S (hq.bind fun r1 v H1 a h1 e1 rh1 rv hq1 => ?_)
  refine hb r1 s H1 e h1 _ (S.next e1 rh1) (hq1.bind fun r2 w H2 b h2 e2 rh2 rw hq2 => ?_)
  split at hq2
  · rename_i i hi
    exact ⟨i, asInt_at rw hi, sim_sl hK rh2 (rv.mono e2) hq2⟩
  · exact hq2.elim
theorem simE_slH {a b : Expr} {p2 pos : Pos} {ma mb : Env → Hep → Out W} (hK : T.K = X.K) (ha : SimE T X Wx a ma) (hb : SimE T X Wx b mb) :
    SimE T X Wx (.Subscript a (.Slice none (some b) none p2) pos) (fun e h => (ma e h).bind fun x h1 => (mb e h1).bind fun y h2 => (match asInt y with
    | some i => slice x none (some i) h2
    | none => .bad)) := by
  intro r s H e h Q S hq pins t I
  refine (pe_slice sl_S pe_E po_none (po_some pe_E)).run pins t s H Q I ?_
  refine ha r s H e h _ S (hq.bind fun r1 v H1 a h1 e1 rh1 rv hq1 => ?_)
  refine hb r1 s H1 e h1 _ (S.next e1 rh1) (hq1.bind fun r2 w H2 b h2 e2 rh2 rw hq2 => ?_)
  split at hq2
  · rename_i i hi
    exact ⟨i, asInt_at rw hi, sim_sl hK rh2 (rv.mono e2) hq2⟩
  · exact hq2.elim
theorem simE_slB {a b c : Expr} {p2 pos : Pos} {ma mb mc : Env → Hep → Out W} (hK : T.K = X.K) (ha : SimE T X Wx a ma) (hb : SimE T X Wx b mb) (hc : SimE T X Wx c mc) :
    SimE T X Wx (.Subscript a (.Slice (some b) (some c) none p2) pos) (fun e h => (ma e h).bind fun x h1 => (mb e h1).bind fun y h2 => (match asInt y with
    | some i => (mc e h2).bind fun z h3 => (match asInt z with
      | some j => slice x (some i) (some j) h3
      | none => .bad)
    | none => .bad)) := by
  intro r s H e h Q S hq pins t I
  refine (pe_slice sl_S pe_E (po_some pe_E) (po_some pe_E)).run pins t s H Q I ?_
  refine ha r s H e h _ S (hq.bind fun r1 v H1 a h1 e1 rh1 rv hq1 => ?_)
  refine hb r1 s H1 e h1 _ (S.next e1 rh1) (hq1.bind fun r2 w H2 b h2 e2 rh2 rw hq2 => ?_)
  split at hq2
  · rename_i i hi
    refine ⟨i, asInt_at rw hi, ?_⟩
    refine hc r2 s H2 e h2 _ ((S.next e1 rh1).next e2 rh2) (hq2.bind fun r3 u H3 c h3 e3 rh3 ru hq3 => ?_)
    split at hq3
    · rename_i j hj
      exact ⟨j, asInt_at ru hj, sim_sl hK rh3 (rv.mono (e2.trans e3)) hq3⟩
    · exact hq3.elim
  · exact hq2.elim
theorem simE_rev {a : Expr} {k : Nat} {p1 p2 p3 pos : Pos} {ma : Env → Hep → Out W} (hK : T.K = X.K) (ha : SimE T X Wx a ma) :
    SimE T X Wx (.Subscript a (.Slice none none (some (.UnaryOp .USub (.Constant (.int 1) k p1) p2)) p3) pos) (fun e h => (ma e h).bind fun x h1 => (match listOf h1 x with
    | some xs => newL false h1 xs.reverse
    | none => .bad)) := by
  intro r s H e h Q S hq pins t I
  refine (pe_revL pe_E).run pins t s H Q I ?_
  refine ha r s H e h _ S (hq.bind fun r1 v H1 a h1 e1 rh1 rv hq1 => ?_)
  split at hq1
  · rename_i xs hs
    obtain ⟨p, vs, rfl, h1, rs⟩ := listOf_at rh1 rv hs
    exact ⟨p, vs, rfl, hK ▸ h1, (newL_ok rh1 rs.rev hq1).2⟩
  · exact hq1.elim
def noStar : Expr → Bool
  | .Starred _ _ => false
  | _ => true
theorem star_cons {a : Expr} (as : List Expr) (env : PySem.Env) (h : noStar a = true) : starEach (a :: as) env = (false, eval a env) :: starEach as env := by
  cases a <;> first | rfl | cases h
theorem star_any : ∀ {as : List Expr} {env : PySem.Env}, as.all noStar = true → (starEach as env).any (·.1) = false
  | [], _, _ => rfl
  | a :: as, env, h => by
    rw [List.all_cons, Bool.and_eq_true] at h
    rw [star_cons as env h.1, List.any_cons, star_any h.2]
    rfl
theorem backTo_any (pos : Pos) : ∀ l : List (Bool × Sem Value), (backTo pos l).any (·.1) = l.any (·.1)
  | [] => rfl
  | (b, t) :: r => by
    show (b || (backTo pos r).any (·.1)) = (b || r.any (·.1))
    rw [backTo_any pos r]
theorem simA_nil : SimA T X Wx [] (fun _ h => .ok [] h) := by
  intro r s H e h Q S hq pos pins t I
  exact pa_nil.run pos pins t s H Q I (hq.ok S.hp .nil)
theorem simA_cons {a : Expr} {as : List Expr} {ma : Env → Hep → Out W} {ms : Env → Hep → Out (List W)} (ha : SimE T X Wx a ma) (hs : SimA T X Wx as ms) (hn : noStar a = true) :
    SimA T X Wx (a :: as) (fun e h => (ma e h).bind fun x h1 => (ms e h1).bind fun xs h2 => .ok (x :: xs) h2) := by
  intro r s H e h Q S hq pos pins t I
  refine (pa_cons pe_E pa_A (star_cons as X.env hn)).run pos pins t s H Q I ?_
  refine ha r s H e h _ S (hq.bind fun r1 v H1 a h1 e1 rh1 rv hq1 => ?_)
  refine hs r1 s H1 e h1 _ (S.next e1 rh1) (hq1.bind fun r2 w H2 b h2 e2 rh2 rw hq2 => ?_)
  exact hq2.ok rh2 (.cons (rv.mono e2) rw)
theorem simE_tup {as : List Expr} {k : Nat} {pos : Pos} {ms : Env → Hep → Out (List W)} (hs : SimA T X Wx as ms) : SimE T X Wx (.Tuple as k pos) (fun e h => (ms e h).bind fun ws h1 => newT h1 ws) := by
  intro r s H e h Q S hq pins t I
  refine (pe_tup pa_A).run pins t s H Q I ?_
  refine hs r s H e h _ S (hq.bind fun r1 v H1 a h1 e1 rh1 rv hq1 => ?_)
  unfold newT at hq1
  by_cases z : a.length ≤ lim
  · rw [if_pos z] at hq1
    exact ⟨by rw [← rv.length, ← lim_eq]; exact z, newT_ok rh1 rv hq1⟩
  · rw [if_neg z] at hq1
    exact hq1.elim
theorem simE_lst {m : Bool} {as : List Expr} {pos : Pos} {ms : Env → Hep → Out (List W)} (hs : SimA T X Wx as ms) : SimE T X Wx (.List as pos) (fun e h => (ms e h).bind fun ws h1 => newL m h1 ws) := by
  intro r s H e h Q S hq pins t I
  refine (pe_lst pa_A).run pins t s H Q I ?_
  refine hs r s H e h _ S (hq.bind fun r1 v H1 a h1 e1 rh1 rv hq1 => ?_)
  exact newL_ok rh1 rv hq1
def FnSim (T : TabX) (X : Cx) (g : List W → Hep → Out W) (rr : List V → Hp → VK → Prop) : Prop := ∀ (Wx : WX) (r : Rho) (s : L2.St) (H : Hp) (h : Hep) (ws : List W) (vs : List V) (Q : VK), RelH T.toTab r h H → RelWs T.toTab r H ws vs → PostE T Wx r s H (g ws h) Q → rr vs H Q
theorem simE_callB {id : String} {rr : List V → Hp → VK → Prop} {g : List W → Hep → Out W} {x : Str} {p pos : Pos} {a : Expr} {as : List Expr} {ms : Env → Hep → Out (List W)} (hc : CallR X (.builtin id) rr) (hr : FnSim T X g rr) (hs : SimA T X Wx (a :: as) ms)
    (hg : Gl X x) (hm : X.mg x = none) (hv : bootBuiltins x = some (.builtin id)) (hn : x ≠ "__name__") (hd : (x == ("__debug__" : Str)) = false) (hst : (a :: as).all noStar = true) :
    SimE T X Wx (.Call (.Name x p) (a :: as) [] pos) (fun e h => (ms e h).bind fun ws h1 => g ws h1) := by
  intro r s H e h Q S hq pins t I
  have h1 : noStar a = true ∧ as.all noStar = true := by rw [List.all_cons, Bool.and_eq_true] at hst; exact hst
  refine (pe_callB hc hg hm hv pa_A hn hd (star_cons as X.env h1.1) (by rw [backTo_any]; exact star_any h1.2)).run pins t s H Q I ?_
  refine hs r s H e h _ S (hq.bind fun r1 v H1 a h1 e1 rh1 rv hq1 => ?_)
  exact hr Wx r1 s H1 h1 a v Q rh1 rv hq1
theorem simE_callTy {id : String} {rr : List V → Hp → VK → Prop} {g : List W → Hep → Out W} {x : Str} {p pos : Pos} {a : Expr} {as : List Expr} {ms : Env → Hep → Out (List W)} (hc : CallR X (.type id) rr) (hr : FnSim T X g rr) (hs : SimA T X Wx (a :: as) ms)
    (hg : Gl X x) (hm : X.mg x = none) (hv : bootBuiltins x = some (.type id)) (hn : x ≠ "__name__") (hd : (x == ("__debug__" : Str)) = false) (hst : (a :: as).all noStar = true) :
    SimE T X Wx (.Call (.Name x p) (a :: as) [] pos) (fun e h => (ms e h).bind fun ws h1 => g ws h1) := by
  intro r s H e h Q S hq pins t I
  have h1 : noStar a = true ∧ as.all noStar = true := by rw [List.all_cons, Bool.and_eq_true] at hst; exact hst
  refine (pe_callTy hc hg hm hv pa_A hn hd (star_cons as X.env h1.1) (by rw [backTo_any]; exact star_any h1.2)).run pins t s H Q I ?_
  refine hs r s H e h _ S (hq.bind fun r1 v H1 a h1 e1 rh1 rv hq1 => ?_)
  exact hr Wx r1 s H1 h1 a v Q rh1 rv hq1
theorem one_of {r : Rho} {H : Hp} {w : W} {vs : List V} (h : RelWs T.toTab r H [w] vs) : ∃ v, vs = [v] ∧ RelW T.toTab r H w v := by
  cases h with
  | cons h t => cases t; exact ⟨_, rfl, h⟩
theorem two_of {r : Rho} {H : Hp} {w w' : W} {vs : List V} (h : RelWs T.toTab r H [w, w'] vs) : ∃ v v', vs = [v, v'] ∧ RelW T.toTab r H w v ∧ RelW T.toTab r H w' v' := by
  cases h with
  | cons h t => cases t with
    | cons h' t' => cases t'; exact ⟨_, _, rfl, h, h'⟩
def rLenE (K : PySem.W.Frag) : List V → Hp → VK → Prop := fun xs H Q => (∃ x n, xs = [x] ∧ LenV K x H n ∧ Q (.int n) H) ∨ ∃ p kvs, xs = [.ref p] ∧ Rd H p (.dK kvs) ∧ Q (.int kvs.length) H
theorem call_lenE : CallR X (.builtin "len") (rLenE X.K) := by
  intro pins s σ H xs us Q I r h
  rcases h with h | ⟨p, kvs, rfl, e, q⟩
  · exact call_len pins s σ H xs us Q I r h
  · obtain ⟨u, rfl, rx⟩ := vals1 r
    obtain rfl : u = Value.ref p := rx
    exact d_len I e fun t s' I' => ⟨.int kvs.length, H, I', ⟨t, rfl⟩, q⟩
theorem fs_len (hK : T.K = X.K) : FnSim T X bLen (rLenE X.K) := by
  intro Wx r s H h ws vs Q rh rs hq
  unfold bLen at hq
  split at hq
  · rename_i x
    obtain ⟨v, rfl, rv⟩ := one_of rs
    split at hq
    · rename_i z
      cases rv
      split at hq
      · rename_i hl
        exact .inl ⟨.str z, z.length, rfl, ⟨by rw [← lim_eq]; exact hl, rfl⟩, hq.ok rh (.int _)⟩
      · exact hq.elim
    · split at hq
      · rename_i xs hs
        obtain ⟨p, us, rfl, h1, r1⟩ := seqOf_at rh rv hs
        refine .inl ⟨.ref p, us.length, rfl, ?_, hq.ok rh (by rw [r1.length]; exact .int _)⟩
        rcases h1 with h1 | ⟨h1, _⟩
        · exact .inl ⟨us, hK ▸ h1, rfl⟩
        · exact .inr ⟨us, hK ▸ h1.sq, rfl⟩
      · split at hq
        · rename_i kvs hd
          obtain ⟨p, ks, rfl, h1, h2⟩ := dicOf_at rh rv hd
          exact .inr ⟨p, ks, rfl, h1, hq.ok rh (by rw [h2.length]; exact .int _)⟩
        · exact hq.elim
  · exact hq.elim
theorem fs_abs : FnSim T X bAbs (fun xs H Q => ∃ i, xs = [.int i] ∧ Q (.int (if i < 0 then -i else i)) H) := by
  intro Wx r s H h ws vs Q rh rs hq
  unfold bAbs at hq
  split at hq
  · obtain ⟨v, rfl, rv⟩ := one_of rs
    cases rv
    exact ⟨_, rfl, hq.ok rh (.int _)⟩
  · exact hq.elim
theorem fs_max2 : FnSim T X bMax2 (fun xs H Q => ∃ i j, xs = [.int i, .int j] ∧ Q (.int (if j > i then j else i)) H) := by
  intro Wx r s H h ws vs Q rh rs hq
  unfold bMax2 at hq
  split at hq
  · obtain ⟨v, w, rfl, rv, rw⟩ := two_of rs
    cases rv
    cases rw
    exact ⟨_, _, rfl, hq.ok rh (.int _)⟩
  · exact hq.elim
theorem fs_min2 : FnSim T X bMin2 (fun xs H Q => ∃ i j, xs = [.int i, .int j] ∧ Q (.int (if j < i then j else i)) H) := by
  intro Wx r s H h ws vs Q rh rs hq
  unfold bMin2 at hq
  split at hq
  · obtain ⟨v, w, rfl, rv, rw⟩ := two_of rs
    cases rv
    cases rw
    exact ⟨_, _, rfl, hq.ok rh (.int _)⟩
  · exact hq.elim
theorem fs_int : FnSim T X bInt (fun xs H Q => (∃ i, xs = [.int i] ∧ Q (.int i) H) ∨ ∃ k, xs = [.bl k] ∧ Q (.int (if k then 1 else 0)) H) := by
  intro Wx r s H h ws vs Q rh rs hq
  unfold bInt at hq
  split at hq
  · obtain ⟨v, rfl, rv⟩ := one_of rs
    cases rv
    exact .inl ⟨_, rfl, hq.ok rh (.int _)⟩
  · obtain ⟨v, rfl, rv⟩ := one_of rs
    cases rv
    exact .inr ⟨_, rfl, hq.ok rh (.int _)⟩
  · exact hq.elim
theorem ints_at {r : Rho} {H : Hp} {h : Hep} {x : W} {v : V} {β : Type} {f : List Int → Option β} {b : β} (rh : RelH T.toTab r h H) (rx : RelW T.toTab r H x v) (e : ((listOf h x).bind fun xs => (intsOf xs).bind f) = some b) :
    ∃ p ns, v = .ref p ∧ SqL T.K H p (ns.map V.int) ∧ f ns = some b := by
  cases q : listOf h x with
  | none => rw [q] at e; cases e
  | some xs =>
    rw [q] at e
    have e : (intsOf xs).bind f = some b := e
    cases q2 : intsOf xs with
    | none => rw [q2] at e; cases e
    | some ns =>
      rw [q2] at e
      obtain ⟨p, vs, h1, h2, h3⟩ := listOf_at rh rx q
      exact ⟨p, ns, h1, h3.of_ints q2 ▸ h2, e⟩
theorem bls_at {r : Rho} {H : Hp} {h : Hep} {x : W} {v : V} {β : Type} {f : List Bool → β} {b : β} (rh : RelH T.toTab r h H) (rx : RelW T.toTab r H x v) (e : ((listOf h x).bind fun xs => (blsOf xs).map f) = some b) :
    ∃ p ns, v = .ref p ∧ SqL T.K H p (ns.map V.bl) ∧ f ns = b := by
  cases q : listOf h x with
  | none => rw [q] at e; cases e
  | some xs =>
    rw [q] at e
    have e : (blsOf xs).map f = some b := e
    cases q2 : blsOf xs with
    | none => rw [q2] at e; cases e
    | some ns =>
      rw [q2] at e
      obtain ⟨p, vs, h1, h2, h3⟩ := listOf_at rh rx q
      exact ⟨p, ns, h1, h3.of_bls q2 ▸ h2, Option.some.inj e⟩
theorem fs_sum (hK : T.K = X.K) : FnSim T X bSum (rSum X.K) := by
  intro Wx r s H h ws vs Q rh rs hq
  unfold bSum at hq
  split at hq
  · rename_i x
    obtain ⟨v, rfl, rv⟩ := one_of rs
    obtain ⟨z, e, k⟩ := hq.some' rh
    have e2 : ((listOf h x).bind fun xs => (intsOf xs).bind fun ns => some (W.int ns.sum)) = some z := by
      rw [← e]
      congr
      funext xs
      cases intsOf xs <;> rfl
    obtain ⟨p, ns, rfl, h1, h2⟩ := ints_at rh rv e2
    cases h2
    exact ⟨p, ns, rfl, hK ▸ h1, k _ (.int _)⟩
  · exact hq.elim
theorem fold_max (m : Int) (ns : List Int) (x : Int) (h : ns.foldl (fun m y => if m < y then y else m) x = m) : m ∈ x :: ns ∧ ∀ y ∈ x :: ns, y ≤ m := by
  induction ns generalizing x with
  | nil =>
    have h : x = m := h
    subst h
    exact ⟨List.mem_cons_self, fun y hy => by simp at hy; omega⟩
  | cons a l ih =>
    obtain ⟨h1, h2⟩ := ih (if x < a then a else x) h
    by_cases z : x < a
    · rw [if_pos z] at h1 h2
      refine ⟨List.mem_cons_of_mem _ h1, fun y hy => ?_⟩
      rcases List.mem_cons.mp hy with e | hy
      · have := h2 a List.mem_cons_self
        omega
      · exact h2 y hy
    · rw [if_neg z] at h1 h2
      refine ⟨?_, fun y hy => ?_⟩
      · rcases List.mem_cons.mp h1 with e | h1
        · rw [e]; exact List.mem_cons_self
        · exact List.mem_cons_of_mem _ (List.mem_cons_of_mem _ h1)
      · rcases List.mem_cons.mp hy with e | hy
        · rw [e]; exact h2 x List.mem_cons_self
        · rcases List.mem_cons.mp hy with e | hy
          · have := h2 x List.mem_cons_self
            omega
          · exact h2 y (List.mem_cons_of_mem _ hy)
theorem fold_min (m : Int) (ns : List Int) (x : Int) (h : ns.foldl (fun m y => if y < m then y else m) x = m) : m ∈ x :: ns ∧ ∀ y ∈ x :: ns, m ≤ y := by
  induction ns generalizing x with
  | nil =>
    have h : x = m := h
    subst h
    exact ⟨List.mem_cons_self, fun y hy => by simp at hy; omega⟩
  | cons a l ih =>
    obtain ⟨h1, h2⟩ := ih (if a < x then a else x) h
    by_cases z : a < x
    · rw [if_pos z] at h1 h2
      refine ⟨List.mem_cons_of_mem _ h1, fun y hy => ?_⟩
      rcases List.mem_cons.mp hy with e | hy
      · have := h2 a List.mem_cons_self
        omega
      · exact h2 y hy
    · rw [if_neg z] at h1 h2
      refine ⟨?_, fun y hy => ?_⟩
      · rcases List.mem_cons.mp h1 with e | h1
        · rw [e]; exact List.mem_cons_self
        · exact List.mem_cons_of_mem _ (List.mem_cons_of_mem _ h1)
      · rcases List.mem_cons.mp hy with e | hy
        · rw [e]; exact h2 x List.mem_cons_self
        · rcases List.mem_cons.mp hy with e | hy
          · have := h2 x List.mem_cons_self
            omega
          · exact h2 y (List.mem_cons_of_mem _ hy)
theorem fs_maxl (hK : T.K = X.K) : FnSim T X bMaxl (rMax X.K) := by
  intro Wx r s H h ws vs Q rh rs hq
  unfold bMaxl at hq
  split at hq
  · obtain ⟨v, rfl, rv⟩ := one_of rs
    obtain ⟨z, e, k⟩ := hq.some' rh
    obtain ⟨p, ns, rfl, h1, h2⟩ := ints_at rh rv e
    cases ns with
    | nil => cases h2
    | cons x l =>
      cases h2
      refine ⟨p, x :: l, rfl, hK ▸ h1, Nat.succ_pos _, fun m hm hle => ?_⟩
      obtain ⟨g1, g2⟩ := fold_max _ l x rfl
      have e1 := hle _ g1
      have e2 := g2 m hm
      rw [show m = l.foldl (fun m y => if m < y then y else m) x by omega]
      exact k _ (.int _)
  · exact hq.elim
theorem fs_minl (hK : T.K = X.K) : FnSim T X bMinl (rMin X.K) := by
  intro Wx r s H h ws vs Q rh rs hq
  unfold bMinl at hq
  split at hq
  · obtain ⟨v, rfl, rv⟩ := one_of rs
    obtain ⟨z, e, k⟩ := hq.some' rh
    obtain ⟨p, ns, rfl, h1, h2⟩ := ints_at rh rv e
    cases ns with
    | nil => cases h2
    | cons x l =>
      cases h2
      refine ⟨p, x :: l, rfl, hK ▸ h1, Nat.succ_pos _, fun m hm hle => ?_⟩
      obtain ⟨g1, g2⟩ := fold_min _ l x rfl
      have e1 := hle _ g1
      have e2 := g2 m hm
      rw [show m = l.foldl (fun m y => if y < m then y else m) x by omega]
      exact k _ (.int _)
  · exact hq.elim
theorem fs_all (hK : T.K = X.K) : FnSim T X bAll (rAll X.K) := by
  intro Wx r s H h ws vs Q rh rs hq
  unfold bAll at hq
  split at hq
  · obtain ⟨v, rfl, rv⟩ := one_of rs
    obtain ⟨z, e, k⟩ := hq.some' rh
    obtain ⟨p, ns, rfl, h1, h2⟩ := bls_at rh rv e
    subst h2
    exact ⟨p, ns, rfl, hK ▸ h1, k _ (.bl _)⟩
  · exact hq.elim
theorem fs_any (hK : T.K = X.K) : FnSim T X bAny (rAny X.K) := by
  intro Wx r s H h ws vs Q rh rs hq
  unfold bAny at hq
  split at hq
  · obtain ⟨v, rfl, rv⟩ := one_of rs
    obtain ⟨z, e, k⟩ := hq.some' rh
    obtain ⟨p, ns, rfl, h1, h2⟩ := bls_at rh rv e
    subst h2
    exact ⟨p, ns, rfl, hK ▸ h1, k _ (.bl _)⟩
  · exact hq.elim
theorem fs_list (hK : T.K = X.K) : FnSim T X bList (fun xs H Q => ∃ p ys, xs = [.ref p] ∧ (SqL X.K H p ys ∨ SqT X.K H p ys) ∧ ∀ l, H l = none → Q (.ref l) (upd H l (.lst ys))) := by
  intro Wx r s H h ws vs Q rh rs hq
  unfold bList at hq
  split at hq
  · obtain ⟨v, rfl, rv⟩ := one_of rs
    split at hq
    · rename_i xs hs
      obtain ⟨p, us, rfl, h1, r1⟩ := seqOf_at rh rv hs
      refine ⟨p, us, rfl, ?_, (newL_ok rh r1 hq).2⟩
      rcases h1 with h1 | ⟨h1, _⟩
      · exact .inl (hK ▸ h1)
      · exact .inr (hK ▸ h1.sq)
    · exact hq.elim
  · exact hq.elim
theorem fs_listM (hK : T.K = X.K) : FnSim T X bListM (fun xs H Q => ∃ p ys, xs = [.ref p] ∧ (SqL X.K H p ys ∨ SqT X.K H p ys) ∧ ∀ l, H l = none → Q (.ref l) (upd H l (.lst ys))) := by
  intro Wx r s H h ws vs Q rh rs hq
  unfold bListM at hq
  split at hq
  · obtain ⟨v, rfl, rv⟩ := one_of rs
    split at hq
    · rename_i xs hs
      obtain ⟨p, us, rfl, h1, r1⟩ := seqOf_at rh rv hs
      refine ⟨p, us, rfl, ?_, (newL_ok rh r1 hq).2⟩
      rcases h1 with h1 | ⟨h1, _⟩
      · exact .inl (hK ▸ h1)
      · exact .inr (hK ▸ h1.sq)
    · exact hq.elim
  · exact hq.elim
theorem fs_tuple (hK : T.K = X.K) : FnSim T X bTuple (fun xs H Q => ∃ p ys, xs = [.ref p] ∧ ((SqL X.K H p ys ∧ ∀ l, H l = none → Q (.ref l) (upd H l (.tup ys))) ∨ (SqT X.K H p ys ∧ Q (.ref p) H))) := by
  intro Wx r s H h ws vs Q rh rs hq
  unfold bTuple at hq
  split at hq
  · obtain ⟨v, rfl, rv⟩ := one_of rs
    split at hq
    · rename_i xs hs
      obtain ⟨p, us, rfl, h1, r1⟩ := seqOf_at rh rv hs
      refine ⟨p, us, rfl, ?_⟩
      rcases h1 with h1 | ⟨h1, _⟩
      · exact .inl ⟨hK ▸ h1, newT_ok rh r1 hq⟩
      · exact .inr ⟨hK ▸ h1.sq, hq.ok rh (.tup h1 r1)⟩
    · exact hq.elim
  · exact hq.elim
def Ty.all : List Ty := [.int, .bool, .str, .list, .tuple, .dict, .vale, .keye, .ovfe, .rune]
def Ty.dat : List Ty := [.int, .bool, .str, .list, .tuple, .dict]
theorem kit_tab : (Ty.dat.all fun a => Ty.all.all fun b => decide (kitB a.name b.name = some (decide (a = b) || (decide (a = .bool) && decide (b = .int))))) = true := by decide +kernel
theorem kit_non : (Ty.all.all fun b => decide (kitB "NoneType" b.name = some false)) = true := by decide +kernel
theorem Ty.mem (a : Ty) : a ∈ Ty.all := by cases a <;> decide
theorem kit_at (a b : Ty) (ha : a ∈ Ty.dat) : kitB a.name b.name = some (decide (a = b) || (decide (a = .bool) && decide (b = .int))) := by
  have h := List.all_eq_true.mp kit_tab a ha
  exact of_decide_eq_true (List.all_eq_true.mp h b b.mem)
theorem kit_n (b : Ty) : kitB "NoneType" b.name = some false := of_decide_eq_true (List.all_eq_true.mp kit_non b b.mem)
theorem tyOf_dat {h : Hep} {x : W} {a : Ty} (e : tyOf h x = some a) : a ∈ Ty.dat := by
  unfold tyOf at e
  split at e <;> first | (cases e; decide) | (cases e; done) | (split at e <;> first | (cases e; decide) | cases e)
theorem tyX_of {r : Rho} {H : Hp} {h : Hep} {x : W} {v : V} {a : Ty} (rh : RelH T.toTab r h H) (rx : RelW T.toTab r H x v) (e : tyOf h x = some a) : TyX T.K H v (.type a.name) := by
  cases rx with
  | non => cases e
  | bl b => cases e; exact .base (.bl b)
  | int i => cases e; exact .base (.int i)
  | str z => cases e; exact .base (.str z)
  | cls c => cases e
  | ty c => cases e
  | tup q rs =>
    cases e
    rcases q with q | ⟨o, its, n, h1, h2, _⟩
    · exact .base (.tup q)
    · exact .kTuple h1 h2
  | lst z q rs =>
    cases e
    rcases q with q | ⟨o, q⟩
    · exact .base (.lst q)
    · exact .base (.frz q)
  | scr q =>
    cases e
    rcases q with ⟨_, q | ⟨o, q⟩⟩ | ⟨o, its, n, h1, h2, _⟩
    · exact .base (.lst q)
    · exact .base (.frz q)
    · exact .kList h1 h2
  | dct z q rs =>
    cases e
    rcases q with q | ⟨o, q⟩
    · exact .base (.dK q)
    · exact .fDict q
  | ins _ _ _ _ => cases e
  | ref q =>
    simp only [tyOf] at e
    split at e
    · rename_i g
      cases e
      obtain ⟨vs, hv, _⟩ := lst_at rh q g
      exact .base (.lst hv)
    · rename_i lk kvs g
      cases e
      obtain ⟨p2, hp, ks, h1, _⟩ := rh.obj _ _ g
      rw [q] at hp
      cases hp
      cases lk with
      | false => exact .base (.dK h1)
      | true =>
        obtain ⟨o, h1⟩ := h1
        exact .fDict h1
    · cases e
/-- what isinstance says of the classes -/
structure KitP (P : Pg) (T : Tab) : Prop where
  ii : ∀ c cl d, nth P.cls c = some cl → hasN P.isd d = true → PySem.W.kitOne T.K (.ref (T.cA c)) (.ref (T.cA d)) = some (hasN cl.sup d)
  it : ∀ c cl (b : Ty), nth P.cls c = some cl → PySem.W.kitOne T.K (.ref (T.cA c)) (.type b.name) = some (hasT cl.sut b)
  bi : ∀ (a : Ty) d, a ∈ Ty.dat → hasN P.isd d = true → PySem.W.kitOne T.K (.type a.name) (.ref (T.cA d)) = some false
  ni : ∀ d, hasN P.isd d = true → PySem.W.kitOne T.K (.type "NoneType") (.ref (T.cA d)) = some false
theorem ty_at {P : Pg} (kp : KitP P T.toTab) {r : Rho} {H : Hp} {h : Hep} {x : W} {v : V} (rh : RelH T.toTab r h H) (rx : RelW T.toTab r H x v) :
    (∃ ty, TyX T.K H v ty ∧ ∀ (t : W) (c : V) (b : Bool), RelW T.toTab r H t c → isi1 P h x t = some b → ∃ u, ClsV c u ∧ PySem.W.kitOne T.K ty u = some b) ∨ ∀ t, isi1 P h x t = none := by
  cases qc : clsFs h x with
  | some p =>
    obtain ⟨c, fs⟩ := p
    obtain ⟨p, dx, gs, rfl, h1, h2, h3⟩ := clsFs_at rh rx qc
    refine .inl ⟨_, .base (.ins h1 h2.toCls h2.ca h2.cn h2.ct h2.cm), fun t u b rt e => ?_⟩
    unfold isi1 at e
    rw [qc] at e
    simp only at e
    split at e
    · rename_i cl hcl
      split at e
      · rename_i bt
        cases rt
        cases e
        exact ⟨_, .ty _, kp.it c cl bt hcl⟩
      · rename_i d
        cases rt
        split at e
        · rename_i hd
          cases e
          exact ⟨_, .own _, kp.ii c cl d hcl hd⟩
        · cases e
      · cases e
    · cases e
  | none =>
    by_cases z : x = .non
    · subst z
      cases rx
      refine .inl ⟨_, .base .non, fun t c b rt e => ?_⟩
      unfold isi1 at e
      rw [qc] at e
      simp only at e
      split at e
      · rename_i bt
        cases rt
        cases e
        exact ⟨_, .ty _, kit_ty (kit_n bt)⟩
      · rename_i d
        cases rt
        split at e
        · rename_i hd
          cases e
          exact ⟨_, .own _, kp.ni d hd⟩
        · cases e
      · cases e
    · cases q : tyOf h x with
      | none =>
        refine .inr fun t => ?_
        unfold isi1
        rw [qc]
        simp only
        split
        · rw [q]; rfl
        · split
          · rw [q]; rfl
          · rfl
        · rfl
      | some a =>
        refine .inl ⟨_, tyX_of rh rx q, fun t c b rt e => ?_⟩
        unfold isi1 at e
        rw [qc] at e
        simp only at e
        split at e
        · rename_i bt
          cases rt
          rw [q] at e
          cases e
          exact ⟨_, .ty _, kit_ty (kit_at a bt (tyOf_dat q))⟩
        · rename_i d
          cases rt
          split at e
          · rename_i hd
            rw [q] at e
            cases e
            exact ⟨_, .own _, kp.bi a d (tyOf_dat q) hd⟩
          · cases e
        · cases e
theorem isiA_at {P : Pg} {r : Rho} {H : Hp} {h : Hep} {x : W} {ty : Value} (hy : ∀ (t : W) (c : V) (b : Bool), RelW T.toTab r H t c → isi1 P h x t = some b → ∃ u, ClsV c u ∧ PySem.W.kitOne T.K ty u = some b) :
    ∀ {ts : List W} {cs : List V} {b : Bool}, RelWs T.toTab r H ts cs → isiA P h x ts = some b → ∃ us, Paired ClsV cs us ∧ PySem.W.kitAny T.K ty us = some b
  | _, _, b, .nil, e => by
    cases e
    exact ⟨[], .nil, kitAny_nil⟩
  | _, _, b, .cons (x := t) (xs := ts) rt rs, e => by
    simp only [isiA] at e
    cases q : isi1 P h x t with
    | none => rw [q] at e; cases e
    | some k =>
      rw [q] at e
      obtain ⟨u, h1, h2⟩ := hy t _ k rt q
      cases k with
      | true =>
        cases q2 : isiA P h x ts with
        | none => rw [q2] at e; cases e
        | some b2 =>
          rw [q2] at e
          cases e
          obtain ⟨us, g1, g2⟩ := isiA_at hy rs q2
          exact ⟨u :: us, .cons h1 g1, kitAny_cons h2 (fun z => by cases z) fun _ => rfl⟩
      | false =>
        obtain ⟨us, g1, g2⟩ := isiA_at hy rs e
        exact ⟨u :: us, .cons h1 g1, kitAny_cons h2 (fun _ => g2) fun z => by cases z⟩
def rIsiS (K : PySem.W.Frag) : List V → Hp → VK → Prop := fun xs H Q => rIsi K xs H Q ∨ rIsiT K xs H Q ∨ rIsiK K xs H Q
theorem call_isiS : CallR X (.builtin "isinstance") (rIsiS X.K) := call_isi.or (call_isiT.or call_isiK)
theorem clsV_rel : ∀ {cs : List V} {us ws : List Value}, Paired ClsV cs us → Vals cs ws → ws = us := ClsV.all
theorem fs_isi {P : Pg} (kp : KitP P T.toTab) (hK : T.K = X.K) : FnSim T X (bIsi P) (rIsiS X.K) := by
  intro Wx r s H h ws vs Q rh rs hq
  unfold bIsi at hq
  split at hq
  · rename_i x t
    obtain ⟨v, c, rfl, rv, rc⟩ := two_of rs
    obtain ⟨z, e, k⟩ := hq.some' rh
    cases q : isi P h x t with
    | none => rw [q] at e; cases e
    | some b =>
      rw [q] at e
      cases e
      have g := k (.bl b) (.bl b)
      unfold isi at q
      split at q
      · rename_i t ts
        cases rc with
        | tup hp hs =>
          rename_i p us
          rcases ty_at kp rh rv with ⟨ty, h1, h2⟩ | h0
          · obtain ⟨ws, g1, g2⟩ := isiA_at h2 hs q
            rcases hp with hp | ⟨o, its, n, l1, l2, l0, l3, l4, l5⟩
            · exact .inr (.inl ⟨v, p, us, ty, ws, b, rfl, hp, g1, hK ▸ h1, hK ▸ g2, g⟩)
            · have e5 := clsV_rel g1 l5
              obtain ⟨oc, od, dt, sl⟩ := o
              simp only at l2 l3
              subst l2 l3
              refine .inr (.inr ⟨v, p, od, ws, n, sl, ty, b, rfl, ?_, hK ▸ h1, hK ▸ g2, g⟩)
              rw [← hK, l1, ← e5]
          · simp only [isiA, h0 t] at q
            cases q
      · rcases ty_at kp rh rv with ⟨ty, h1, h2⟩ | h0
        · obtain ⟨u, g1, g2⟩ := h2 t c b rc q
          exact .inl ⟨v, c, ty, u, b, rfl, g1, hK ▸ h1, hK ▸ g2, g⟩
        · rw [h0 t] at q
          cases q
  · exact hq.elim
end
end Ev

namespace PySem
namespace EvU
open PyProof.Rows
theorem meets_new (l : Addr) (items : Array Value) (n : Nat) (dct : Option Addr) (sl : Array (Option Value)) :
    Meets (Builtin.«enumerate.__new__» ⟨[.type "enumerate", .ref l], []⟩) (fun _ R s => s.heap.get? l = some { cls := .type "tuple", dict := dct, data := .seq items n, slots := sl } ∧
      R (.ok (.ret (.ref (s.heap.push { cls := .type "tuple_iterator", data := .fields #[.ref l, .int 0 0] }).objs.size)))
        { s with heap := (s.heap.push { cls := .type "tuple_iterator", data := .fields #[.ref l, .int 0 0] }).push { cls := .type "enumerate", data := .fields #[.none, .bool false, .ref s.heap.objs.size, rawInt 0, .none, .none] } }) :=
  .of_wp fun prog w A R s h => by
    obtain ⟨hp, g, d, tk, os⟩ := s; obtain ⟨hl, h⟩ := h
    have hsub := sub_enumerate
    have hT : Heap.IsTuple (Shared.heap ⟨hp, g, d, tk, os⟩) l items := ⟨_, hl, rfl, n, rfl⟩
    wp_walk using wpAny_loadPart' hl
    refine wpAny_stack_any fun st => wpAny_pure ?_
    split
    · rename_i c _ _ _ _ _
      cases (c == Value.type "enumerate")
      · wp_walk using wpAny_loadPart' hl, wpAny_pyIter_tuple hT
        exact ⟨_, rfl, h⟩
      · wp_walk using wpAny_loadPart' hl, wpAny_pyIter_tuple hT
        exact ⟨_, rfl, h⟩
    · wp_walk using wpAny_loadPart' hl, wpAny_pyIter_tuple hT
      exact ⟨_, rfl, h⟩
section
variable {prog : Program} {w : World} {A : Around} {E : Value → Shared → Prop} {s : Shared}
theorem call_tup {l : Addr} {items : Array Value} {Q : Value → Shared → Prop} (hL : s.heap.IsTuple l items)
    (h : ∀ h', IsEnum h' (s.heap.objs.size + 1) s.heap.objs.size 0 .none → h'.IsTupleIter s.heap.objs.size l 0 → h'.objs.size = s.heap.objs.size + 2 →
      (∀ b o, s.heap.get? b = some o → h'.get? b = some o) → Q (.ref (s.heap.objs.size + 1)) { s with heap := h' }) :
    wpAny (model prog w) A (call (.type "enumerate") [.ref l]) Q E s := by
  obtain ⟨⟨c, dct, dt, sl⟩, hl, hc, n, hd⟩ := hL
  replace hc : c = .type "tuple" := hc
  replace hd : dt = .seq items n := hd
  subst hc hd
  refine callType_new F.called_enumerate (by decide) (F.typeCall_enumerate_1 _) (F.newCall_enumerate_1 _) (fun obj => F.args_object_init_2 obj _) F.entry_enumerate_new
    (meets_new l items n dct sl) ⟨hl, ?_⟩
  have hz : (s.heap.push { cls := .type "tuple_iterator", data := .fields #[.ref l, .int 0 0] }).objs.size = s.heap.objs.size + 1 := Heap.size_push ..
  show _ ∧ _
  rw [hz]
  have he : IsEnum ((s.heap.push { cls := .type "tuple_iterator", data := .fields #[.ref l, .int 0 0] }).push
      { cls := .type "enumerate", data := .fields #[.none, .bool false, .ref s.heap.objs.size, rawInt 0, .none, .none] }) (s.heap.objs.size + 1) s.heap.objs.size 0 .none := by
    have := Heap.get?_push_size (s.heap.push { cls := .type "tuple_iterator", data := .fields #[.ref l, .int 0 0] })
      (o := { cls := .type "enumerate", data := .fields #[.none, .bool false, .ref s.heap.objs.size, rawInt 0, .none, .none] }) rfl
    rw [hz] at this; exact this
  refine ⟨⟨_, he, rfl⟩, h _ he ⟨_, Heap.get?_push_of_some _ (Heap.get?_push_size _ rfl), rfl, rfl⟩ (by rw [Heap.size_push, hz]) fun b o x => Heap.get?_push_of_some _ (Heap.get?_push_of_some _ x)⟩
end
end EvU
end PySem
namespace Ev
open PySem PySem.Spec PyProof.Rows L2
/-- the tuple at a, each item in a new pair -/
def IteT (K : PySem.W.Frag) (a : Addr) : It :=
  ⟨fun i H => ∃ (xs : List V) (x : V), SqT K H a xs ∧ xs[i]? = some x, fun i H v H' => ∃ T x, v = .ref T ∧ H T = none ∧ H' = upd H T (.tup [.int (i : Nat), x]) ∧ ∀ xs, SqT K H a xs → xs[i]? = some x, fun i H => ∃ xs : List V, SqT K H a xs ∧ xs.length ≤ i⟩
theorem turn_enumT {P : Program} {w : World} {K : PySem.W.Frag} {elts : List Expr} {kk : Nat} {tpos : Pos} (a e it : Addr) :
    Turn P w K (.Tuple elts kk tpos) (IteT K a) [e, it] e (fun i h => (∃ old, IsEnum h e it ((i : Nat) : Int) old) ∧ h.IsTupleIter it a i ∧ e ≠ it) where
  mem := by simp
  obj := fun i h st b hb => by
    obtain ⟨⟨old, he⟩, ⟨o, ho, hc, hd⟩, _⟩ := st
    have e' : b = e ∨ b = it := by simpa using hb
    rcases e' with z | z
    · rw [z]; exact ⟨_, he, fun v q => nomatch q⟩
    · rw [z]; exact ⟨o, ho, fun v q => by rw [hd] at q; cases q⟩
  keep := fun i h h' st k => let ⟨⟨old, he⟩, hi, hne⟩ := st; ⟨⟨old, k e (by simp) _ he⟩, hi.at fun o q => k it (by simp) o q, hne⟩
  item := by
    intro X hP hw hK hc i pins s σ H E I hf st hg
    subst hP hw hK
    obtain ⟨⟨old, he⟩, hit, hne⟩ := st
    obtain ⟨xs, x, hq, hx⟩ := hg
    obtain ⟨its, rv, p, hz⟩ := I.tuple hq
    obtain ⟨u, hu, ru⟩ := rv.get hx
    have p : s.heap.IsTuple a its.toArray := p
    have hel : e < s.heap.objs.size := Heap.lt_size he
    have hil : it < s.heap.objs.size := by obtain ⟨_, q, _⟩ := hit; exact Heap.lt_size q
    have nai : a ≠ it := fun z => by
      obtain ⟨o1, q1, c1, _⟩ := hit
      obtain ⟨o2, q2, c2, _⟩ := p
      rw [z, q1] at q2
      cases q2
      rw [c1] at c2
      injection c2 with c2
      exact absurd c2 (by decide)
    have nea : e ≠ a := fun z => by
      obtain ⟨o2, q2, c2, _⟩ := p
      have q1 := he
      rw [z] at q1
      have q1' := Option.some.inj (q1.symm.trans q2)
      rw [← q1'] at c2
      injection c2 with c2
      exact absurd c2 (by decide)
    have hi : i < its.toArray.size := by
      have := (List.getElem?_eq_some_iff.mp hu).1
      simpa using this
    refine wpAny_pyNext_enum_itemD (Draws.tuple (A := X.A.in1) (I.ok.hd hc) it a nai its.toArray) he ⟨hit, p⟩ hi hne (by simp [hne, nea]) fun y h' tk hy ho hst hT hsz hk => ?_
    have ey : y = u := by
      have hy : its.toArray[i]? = some y := hy
      rw [List.getElem?_toArray, hu] at hy
      exact (Option.some.inj hy).symm
    subst ey
    refine ⟨_, rfl, wpAny_letOwnedTupleGo_enum (s := { s with heap := h', toks := tk + 1 }) ho fun h'' he' sb => ?_⟩
    have hT2 : h''.get? s.heap.objs.size = some { cls := .type "tuple", data := .seq #[.int i tk, y] } := (sb.2 _ (Nat.ne_of_gt hel)).trans hT
    have new : ObjOk X.prog X.w (upd H s.heap.objs.size (.tup [.int (i : Nat), x])) h'' s.heap.objs.size (.tup [.int (i : Nat), x]) :=
      ⟨by show 2 ≤ sizeLine; decide, [.int i tk, y], .cons ⟨_, rfl⟩ (.cons ru .nil), ⟨_, hT2, rfl, _, rfl⟩⟩
    have I1 : Inv X pins σ (upd H s.heap.objs.size (.tup [.int (i : Nat), x])) { s with heap := h'', toks := tk + 1 } :=
      I.turnedNew (ch := [e, it]) (fun b ob hb q => (sb.2 b (fun z => hb (by simp [z]))).trans (hk b ob (fun z => hb (by simp [z])) (fun z => hb (by simp [z])) q)) hf (Nat.le_refl _) new
    refine ⟨.ref s.heap.objs.size, _, I1, rfl, ⟨_, x, rfl, I.hok.fresh (Nat.le_refl _), rfl, fun ys hy => by rw [I.tuple_inj hy hq]; exact hx⟩, ⟨⟨y, ?_⟩, hst.1.at fun o q => (sb.2 it (Ne.symm hne)).trans q, hne⟩, fun b hb => ?_⟩
    · have e1 : ((i + 1 : Nat) : Int) = (i : Int) + 1 := by omega
      rw [e1]; exact he'
    · have hb' : b < s.heap.objs.size := by
        have e' : b = e ∨ b = it := by simpa using hb
        rcases e' with z | z
        · rw [z]; exact hel
        · rw [z]; exact hil
      rw [upd_ne (Nat.ne_of_lt hb')]
      exact (hf b hb).1
  done := by
    intro X hP hw hK hc i pins s σ H E I hf st hg
    subst hP hw hK
    obtain ⟨⟨old, he⟩, hit, hne⟩ := st
    obtain ⟨xs, hq, hx⟩ := hg
    obtain ⟨its, rv, p, hz⟩ := I.tuple hq
    have p : s.heap.IsTuple a its.toArray := p
    obtain ⟨f0, f1, f2, f3, f4, f5⟩ := hf it (by simp)
    have hl := rv.length
    have nai : a ≠ it := fun z => by
      obtain ⟨o1, q1, c1, _⟩ := hit
      obtain ⟨o2, q2, c2, _⟩ := p
      rw [z, q1] at q2
      cases q2
      rw [c1] at c2
      injection c2 with c2
      exact absurd c2 (by decide)
    have hT : s.TypeIs (.ref e) "enumerate" := ⟨_, he, rfl⟩
    unfold pyNext
    refine wpAny_bind (wpAny_attempt (wpAny_callSpecial?_slot (name := Str.ofString "__next__") hT F.slot_enumerate_next
      (wpAny_call_entry F.slot_enumerate_next hT F.entry_enumerate_next ?_ (F.args_enumerate_next_1 _))))
    show wpAny _ _ (field (.ref e) 2 >>= _) _ _ _
    refine wpAny_bind (wpAny_field he rfl (x := .ref it) rfl ?_)
    refine wpAny_bind (wpAny_nextOf_tuple_end (A := X.A.in1) (I.ok.hd hc) hit p (by simp; omega) fun h' x he' hx' => ?_)
    obtain ⟨o, ho, hc'⟩ := hx'
    refine wpAny_bind (wpAny_isInstance (T := "StopIteration") (b := true) ⟨o, ho, hc'⟩ isSubtype_stop ?_)
    exact wpAny_pure ⟨rfl, I.turned (t' := s.toks) (fun b o hb q => he' b o hb q) f0 f1 f3 f4 f5⟩
  self := fun A i s Q E st h => let ⟨⟨_, he⟩, _⟩ := st; wpAny_pyIter_enum he h
def iEnumT (K : PySem.W.Frag) (ta : TA) : TI := fun σ H R => ta σ H fun vs H1 => ∃ a xs, vs = [.ref a] ∧ SqT K H1 a xs ∧ R (IteT K a) H1
theorem pi_enumT {X : Cx} {e : Expr} {ta : TA} {p pos tpos : Pos} {elts : List Expr} {kk : Nat} (hg : Gl X "enumerate") (hm : X.mg "enumerate" = none) (ha : PA X [e] ta) (hs : starEach [e] X.env = [(false, eval e X.env)]) :
    PI X (.Tuple elts kk tpos) (.Call (.Name "enumerate" p) [e] [] pos) (iEnumT X.K ta) := by
  refine ⟨fun pins s σ H R I h => ?_⟩
  refine Call_ (ld_blt I hg hm boot_enumerate (PyProof.Rows.callWith_type1 (thn (ha.run pos pins s σ H _ I h) fun us s1 ⟨vs, H1, I1, r1, q1⟩ => ?_) hs rfl))
  obtain ⟨a, xs, ex, hq, q⟩ := q1
  subst ex
  cases r1 with
  | cons r rr =>
    cases rr
    cases r
    obtain ⟨its, rv, p', hz⟩ := I1.tuple hq
    refine PySem.EvU.call_tup (show s1.heap.IsTuple a its.toArray from p') fun h' he hit hsz hk => wpAny_pyIter_enum he ?_
    have I2 : Inv X pins σ H1 { s1 with heap := h' } := I1.kept (t' := s1.toks) hk
    refine ⟨s1.heap.objs.size + 1, [s1.heap.objs.size + 1, s1.heap.objs.size], _, _, H1, rfl, I2, turn_enumT a (s1.heap.objs.size + 1) s1.heap.objs.size, ⟨⟨.none, he⟩, hit, Nat.succ_ne_self _⟩, fun b hb => ?_, q⟩
    have e' : b = s1.heap.objs.size + 1 ∨ b = s1.heap.objs.size := by simpa using hb
    have hle : s1.heap.objs.size ≤ b := by
      rcases e' with z | z
      · rw [z]; exact Nat.le_add_right _ _
      · rw [z]; exact Nat.le_refl _
    exact I1.fpOk hle (I1.hok.fresh hle)
/-- the dict at d, locked as it begins -/
def iLk (J : Addr → Obj → List (L2.Key × V) → It) (td : TE) : TI := fun σ H R => td σ H fun x H1 => ∃ d kvs, x = .ref d ∧ ((∃ o, H1 d = some (.frz o (.dK kvs)) ∧ R (J d o kvs) H1) ∨ (H1 d = some (.dK kvs) ∧ ∀ o, R (J d o kvs) (upd H1 d (.frz o (.dK kvs)))))
theorem pi_keysZ {X : Cx} {tg e : Expr} {td : TE} (he : PE X e td) : PI X tg e (iLk Itk td) := by
  refine ⟨fun pins s σ H R I h => ?_⟩
  refine thn (he.run pins s σ H _ I h) fun u s1 ⟨x, H1, I1, rx, d, kvs, ex, q⟩ => ?_
  subst ex
  obtain rfl : u = Value.ref d := rx
  have go : ∀ H2 o, Inv X pins σ H2 s1 → H2 d = some (.frz o (.dK kvs)) → R (Itk d o kvs) H2 → wpAny (model X.prog X.w) X.A (pyIter (.ref d)) (PIE X pins σ tg R) X.xe s1 := fun H2 o I2 hd q => by
    obtain ⟨hs, hgd, hx, es, ep, vs, hdt, hsz, kv, hm⟩ := I2.frzK hd
    refine iter_keys hs hgd hx hdt (pi_one (tk := s1.toks) I2 _ (turn_keys _ hdt) ⟨_, Heap.get?_push_size _ rfl, rfl, ?_⟩ q)
    rw [hsz] <;> rfl
  rcases q with ⟨o, hd, q⟩ | ⟨hd, q⟩
  · exact go H1 o I1 hd q
  · obtain ⟨o, I2⟩ := I1.lock hd True.intro
    exact go _ o I2 upd_same (q o)
theorem pi_itemsZ {X : Cx} {e : Expr} {td : TE} {apos cpos : Pos} {elts : List Expr} {kk : Nat} {tpos : Pos} (he : PE X e td) (hbase : attributeBase e "items" X.env (eval e X.env) = eval e X.env) (hline : (apos.endLine == cpos.line) = true) :
    PI X (.Tuple elts kk tpos) (.Call (.Attribute e "items" apos) [] [] cpos) (iLk Iti td) := by
  refine ⟨fun pins s σ H R I h => ?_⟩
  refine wpAny_Call_method (T := "dict") (id := "dict.items") hbase rfl hline F.plainAttrs_dict F.slot_dict_items F.type_dict_items (thn (he.run pins s σ H _ I h) fun u s1 ⟨x, H1, I1, rx, d, kvs, ex, q⟩ => ?_)
  subst ex
  obtain rfl : u = Value.ref d := rx
  obtain ⟨o, H2, I2, hd, q⟩ : ∃ o H2, Inv X pins σ H2 s1 ∧ H2 d = some (.frz o (.dK kvs)) ∧ R (Iti d o kvs) H2 := by
    rcases q with ⟨o, hd, q⟩ | ⟨hd, q⟩
    · exact ⟨o, H1, I1, hd, q⟩
    · obtain ⟨o, I2⟩ := I1.lock hd True.intro
      exact ⟨o, _, I2, upd_same, q o⟩
  obtain ⟨hs, hgd, hx, es, ep, vs, hdt, hsz, kv, hm⟩ := I2.frzK hd
  have hl : kvs.length = vs.length := Paired.length kv
  refine ⟨hm.dictOf.typeIs, hm.dictOf.mapOf.noDict, ?_⟩
  have I3 : Inv X pins σ H2 { s1 with heap := s1.heap.push { cls := .type "dict_items", data := .fields #[.ref d] } } := I2.kept (t' := s1.toks) fun b ob q => Heap.get?_push_of_some _ q
  have fin : wpAny (model X.prog X.w) X.A (pyIter (.ref s1.heap.objs.size)) (PIE X pins σ (.Tuple elts kk tpos) R) X.xe { s1 with heap := s1.heap.push { cls := .type "dict_items", data := .fields #[.ref d] } } := by
    refine wpAny_pyIter_items (d := d) (knd := mixKind X.prog X.w) ⟨_, Heap.get?_push_size _ rfl, rfl, rfl⟩ (hm.push _) (pi_one (tk := s1.toks) I3 _ (turn_items _ hdt) ⟨.none, .none, ?_⟩ q)
    rw [hl]
    exact Heap.get?_push_size _ rfl
  show wpAny _ _ (callWith cpos (.builtin "dict.items") [.ref d] [] []) _ X.xe s1
  exact method_meetsIn F.slot_dict_items F.entry_dict_items rfl (PySem.evalArgs_none ⟨rfl, hm.dictOf.typeIs, F.args_dict_items_1 _, _, meets_dict_items (mixKind X.prog X.w) d hs, ⟨vs, hm.dictOf⟩, fin⟩)
end Ev

namespace Ev
open PySem PySem.Spec PyProof.Rows L2
section
variable {T : TabX} {X : Cx} {Wx : WX}
inductive SrcOk (T : TabX) (r : Rho) (H : Hp) : Src → It → Prop
  | tup {p : Addr} {xs : List W} {vs : List V} : TqT T.K H p vs → RelWs T.toTab r H xs vs → SrcOk T r H (.fix xs) (Itt T.K p)
  | lst {p : Addr} {xs : List W} {vs : List V} : ZqL T.K r H p vs → RelWs T.toTab r H xs vs → SrcOk T r H (.fix xs) (Itl T.K p)
  | str {z : Str} : SrcOk T r H (.fix (chars z)) (Its z)
  | lis {a : Nat} {p : Addr} {n : Nat} : r a = some p → SrcOk T r H (.lis a n) (Itl T.K p)
  | rng {lo : Int} {n : Nat} : SrcOk T r H (.rng lo 1 n) (Itr lo n)
  | rngC {lo c : Int} {n : Nat} : SrcOk T r H (.rng lo c n) (Itc lo c n)
  | enl {p : Addr} {xs : List W} {vs : List V} : ZqL T.K r H p vs → RelWs T.toTab r H xs vs → SrcOk T r H (.fix (enumW 0 xs)) (Ite T.K p)
  | ent {p : Addr} {xs : List W} {vs : List V} : TqT T.K H p vs → RelWs T.toTab r H xs vs → SrcOk T r H (.fix (enumW 0 xs)) (IteT T.K p)
  | key {d : Addr} {o : Obj} {kvs : List (W × W)} {ks : List (L2.Key × V)} : r.z d → H d = some (.frz o (.dK ks)) → RelKv T.toTab r H kvs ks → SrcOk T r H (.fix (kvs.map fun p => p.1)) (Itk d o ks)
  | itm {d : Addr} {o : Obj} {kvs : List (W × W)} {ks : List (L2.Key × V)} : r.z d → H d = some (.frz o (.dK ks)) → RelKv T.toTab r H kvs ks → SrcOk T r H (.fix (kvs.map fun p => .tup [p.1, p.2])) (Iti d o ks)
theorem enum_nth : ∀ (xs : List W) (k i : Nat), nth (enumW k xs) i = (nth xs i).map fun x => .tup [.int ((k + i : Nat) : Int), x]
  | [], _, _ => rfl
  | x :: r, k, 0 => rfl
  | x :: r, k, i + 1 => by
    show nth (enumW (k + 1) r) i = (nth r i).map _
    rw [enum_nth r (k + 1) i]
    rw [show k + 1 + i = k + (i + 1) by omega]
theorem enum_len : ∀ (xs : List W) (k : Nat), (enumW k xs).length = xs.length
  | [], _ => rfl
  | x :: r, k => by
    show (enumW (k + 1) r).length + 1 = r.length + 1
    rw [enum_len r (k + 1)]
theorem kv_at {r : Rho} {H : Hp} : ∀ {kvs : List (W × W)} {ks : List (L2.Key × V)} {i : Nat} {p : W × W}, RelKv T.toTab r H kvs ks → kvs[i]? = some p → ∃ q v, ks[i]? = some (q, v) ∧ RelW T.toTab r H p.1 (kV q) ∧ RelW T.toTab r H p.2 v
  | _, _, _, _, .nil, e => by simp at e
  | _, _, 0, _, .cons (k := k) (w := w) (q := q) (v := v) a b t, e => by
    simp at e
    subst e
    refine ⟨q, v, rfl, ?_, b⟩
    cases k <;> first
      | (cases a; exact .int _)
      | (cases a; exact .str _)
      | cases a
  | _, _, i + 1, p, .cons a b t, e => by
    obtain ⟨q, v, h1, h2⟩ := kv_at (i := i) (p := p) t (by simpa using e)
    exact ⟨q, v, by simpa using h1, h2⟩
theorem SrcOk.kp {r r' : Rho} {H H' : Hp} {s : Src} {J : It} (x : Kp r r' H H') (h : SrcOk T r H s J) : SrcOk T r' H' s J := by
  cases h with
  | tup h1 h2 => exact .tup (x.sqT h1) (h2.kp x)
  | lst h1 h2 => exact .lst (x.zqL h1) (h2.kp x)
  | str => exact .str
  | lis h1 => exact .lis (x.sub _ _ h1)
  | rng => exact .rng
  | rngC => exact .rngC
  | enl h1 h2 => exact .enl (x.zqL h1) (h2.kp x)
  | ent h1 h2 => exact .ent (x.sqT h1) (h2.kp x)
  | key z h1 h2 => exact .key (x.zed _ z).1 ((x.zed _ z).2.fz _ _ h1) (h2.kp x)
  | itm z h1 h2 => exact .itm (x.zed _ z).1 ((x.zed _ z).2.fz _ _ h1) (h2.kp x)
theorem SrcOk.go {r : Rho} {H : Hp} {h : Hep} {s : Src} {J : It} {i : Nat} {w : W} (S : SrcOk T r H s J) (rh : RelH T.toTab r h H) (hi : i < s.len) (e : s.at i h = some w) :
    J.go i H ∧ ∀ x H', J.yld i H x H' → Ext r r H H' ∧ RelH T.toTab r h H' ∧ RelW T.toTab r H' w x := by
  cases S with
  | tup h1 h2 =>
    have e : nth _ i = some w := e
    rw [nth_eq] at e
    obtain ⟨v, g1, g2⟩ := h2.get e
    refine ⟨⟨_, v, h1.sq, g1⟩, fun x H' y => ?_⟩
    obtain ⟨rfl, y⟩ := y
    have := y _ h1.sq
    rw [g1] at this
    cases this
    exact ⟨Ext.refl _ _, rh, g2⟩
  | lst h1 h2 =>
    have e : nth _ i = some w := e
    rw [nth_eq] at e
    obtain ⟨v, g1, g2⟩ := h2.get e
    refine ⟨⟨_, v, h1.sq, g1⟩, fun x H' y => ?_⟩
    obtain ⟨rfl, y⟩ := y
    have := y _ h1.sq
    rw [g1] at this
    cases this
    exact ⟨Ext.refl _ _, rh, g2⟩
  | str =>
    rename_i z
    have e : nth (chars z) i = some w := e
    rw [nth_eq] at e
    have hi : i < (chars z).length := hi
    unfold chars at e hi
    rw [List.length_map, Array.length_toList] at hi
    refine ⟨hi, fun x H' y => ?_⟩
    obtain ⟨rfl, c, hc, rfl⟩ := y
    rw [List.getElem?_map, Array.getElem?_toList, hc] at e
    cases e
    exact ⟨Ext.refl _ _, rh, .str _⟩
  | lis h1 =>
    rename_i a p n
    have e : ((listOf h (.ref a)).bind fun xs => if xs.length = n then nth xs i else none) = some w := e
    cases q : listOf h (.ref a) with
    | none => rw [q] at e; cases e
    | some xs =>
      rw [q] at e
      have e : (if xs.length = n then nth xs i else none) = some w := e
      by_cases z : xs.length = n
      · rw [if_pos z, nth_eq] at e
        obtain ⟨p2, vs, hp, hs, rs⟩ := listOf_at rh (.ref h1) q
        cases hp
        obtain ⟨v, g1, g2⟩ := rs.get e
        refine ⟨⟨_, v, hs, g1⟩, fun x H' y => ?_⟩
        obtain ⟨rfl, y⟩ := y
        have := y _ hs
        rw [g1] at this
        cases this
        exact ⟨Ext.refl _ _, rh, g2⟩
      · rw [if_neg z] at e; cases e
  | rng =>
    rename_i lo n
    cases e
    refine ⟨hi, fun x H' y => ?_⟩
    obtain ⟨rfl, rfl⟩ := y
    exact ⟨Ext.refl _ _, rh, by rw [Int.mul_one]; exact .int _⟩
  | rngC =>
    cases e
    refine ⟨hi, fun x H' y => ?_⟩
    obtain ⟨rfl, rfl⟩ := y
    exact ⟨Ext.refl _ _, rh, .int _⟩
  | enl h1 h2 =>
    rename_i p xs vs
    have e : nth (enumW 0 xs) i = some w := e
    rw [enum_nth] at e
    cases q : nth xs i with
    | none => rw [q] at e; cases e
    | some w0 =>
      rw [q] at e
      cases e
      rw [nth_eq] at q
      obtain ⟨v, g1, g2⟩ := h2.get q
      refine ⟨⟨_, v, h1.sq, g1⟩, fun x H' y => ?_⟩
      obtain ⟨D, x', rfl, hD, rfl, y⟩ := y
      have := y _ h1.sq
      rw [g1] at this
      cases this
      have ex := Ext.alloc rh (u := .tup [.int (i : Nat), v]) hD
      refine ⟨ex, rh.alloc hD, .tup (vs := [.int (i : Nat), v]) (.inl upd_same) (.cons ?_ (.cons (g2.mono ex) .nil))⟩
      rw [Nat.zero_add]
      exact .int _
  | ent h1 h2 =>
    rename_i p xs vs
    have e : nth (enumW 0 xs) i = some w := e
    rw [enum_nth] at e
    cases q : nth xs i with
    | none => rw [q] at e; cases e
    | some w0 =>
      rw [q] at e
      cases e
      rw [nth_eq] at q
      obtain ⟨v, g1, g2⟩ := h2.get q
      refine ⟨⟨_, v, h1.sq, g1⟩, fun x H' y => ?_⟩
      obtain ⟨D, x', rfl, hD, rfl, y⟩ := y
      have := y _ h1.sq
      rw [g1] at this
      cases this
      have ex := Ext.alloc rh (u := .tup [.int (i : Nat), v]) hD
      refine ⟨ex, rh.alloc hD, .tup (vs := [.int (i : Nat), v]) (.inl upd_same) (.cons ?_ (.cons (g2.mono ex) .nil))⟩
      rw [Nat.zero_add]
      exact .int _
  | key z h1 h2 =>
    rename_i d o kvs ks
    have e : nth (kvs.map fun p => p.1) i = some w := e
    rw [nth_eq, List.getElem?_map] at e
    cases q : kvs[i]? with
    | none => rw [q] at e; cases e
    | some p =>
      rw [q] at e
      cases e
      obtain ⟨k, v, g1, g2, g3⟩ := kv_at h2 q
      refine ⟨⟨h1, (List.getElem?_eq_some_iff.mp g1).1⟩, fun x H' y => ?_⟩
      obtain ⟨rfl, k', v', y, rfl⟩ := y
      rw [g1] at y
      cases y
      exact ⟨Ext.refl _ _, rh, g2⟩
  | itm z h1 h2 =>
    rename_i d o kvs ks
    have e : nth (kvs.map fun p => W.tup [p.1, p.2]) i = some w := e
    rw [nth_eq, List.getElem?_map] at e
    cases q : kvs[i]? with
    | none => rw [q] at e; cases e
    | some p =>
      rw [q] at e
      cases e
      obtain ⟨k, v, g1, g2, g3⟩ := kv_at h2 q
      refine ⟨⟨h1, (List.getElem?_eq_some_iff.mp g1).1⟩, fun x H' y => ?_⟩
      obtain ⟨D, k', v', y, rfl, hD, rfl⟩ := y
      rw [g1] at y
      cases y
      have ex := Ext.alloc rh (u := .tup [kV k, v]) hD
      exact ⟨ex, rh.alloc hD, .tup (vs := [kV k, v]) (.inl upd_same) (.cons (g2.mono ex) (.cons (g3.mono ex) .nil))⟩
theorem SrcOk.stop {r : Rho} {H : Hp} {h : Hep} {s : Src} {J : It} (S : SrcOk T r H s J) (rh : RelH T.toTab r h H) (e : s.ends h = true) : J.stop s.len H := by
  cases S with
  | tup h1 h2 => exact ⟨_, h1.sq, by rw [← h2.length]; exact Nat.le_refl _⟩
  | lst h1 h2 => exact ⟨_, h1.sq, by rw [← h2.length]; exact Nat.le_refl _⟩
  | str =>
    rename_i z
    show z.cps.size ≤ (chars z).length
    unfold chars
    rw [List.length_map, Array.length_toList]
    exact Nat.le_refl _
  | lis h1 =>
    rename_i a p n
    have e : (match listOf h (.ref a) with
      | some xs => decide (xs.length = n)
      | none => false) = true := e
    cases q : listOf h (.ref a) with
    | none => rw [q] at e; cases e
    | some xs =>
      rw [q] at e
      obtain ⟨p2, vs, hp, hs, rs⟩ := listOf_at rh (.ref h1) q
      cases hp
      have e2 : xs.length = n := of_decide_eq_true e
      exact ⟨vs, hs, by rw [← rs.length, e2]; exact Nat.le_refl _⟩
  | rng => exact Nat.le_refl _
  | rngC => exact Nat.le_refl _
  | enl h1 h2 =>
    rename_i p xs vs
    exact ⟨_, h1.sq, by
      show vs.length ≤ (enumW 0 xs).length
      rw [enum_len, ← h2.length]; exact Nat.le_refl _⟩
  | ent h1 h2 =>
    rename_i p xs vs
    exact ⟨_, h1.sq, by
      show vs.length ≤ (enumW 0 xs).length
      rw [enum_len, ← h2.length]; exact Nat.le_refl _⟩
  | key z h1 h2 =>
    rename_i d o kvs ks
    exact ⟨h1, by
      show ks.length ≤ (kvs.map fun p => p.1).length
      rw [List.length_map, h2.length]; exact Nat.le_refl _⟩
  | itm z h1 h2 =>
    rename_i d o kvs ks
    exact ⟨h1, by
      show ks.length ≤ (kvs.map fun p => W.tup [p.1, p.2]).length
      rw [List.length_map, h2.length]; exact Nat.le_refl _⟩
theorem bind_assoc'' {α β γ : Type} (o : Out α) (f : α → Hep → Out β) (g : β → Hep → Out γ) : (o.bind f).bind g = o.bind fun a h => (f a h).bind g := by
  cases o <;> rfl
def tI (X : Cx) (tg iter : Expr) : TI := fun s H R => ∀ (pins : List (Addr × Obj)) (t : Shared), Inv X pins s H t →
  wpAny (model X.prog X.w) X.A (eval iter X.env) (fun v t1 => wpAny (model X.prog X.w) X.A (pyIter v) (PIE X pins s tg R) X.xe t1) X.xe t
theorem pi_I {tg iter : Expr} : PI X tg iter (tI X tg iter) := ⟨fun pins t _ _ _ I h => h pins t I⟩
def walkM (k : Ik) (o : Out (List W)) : Out Src := o.bind fun vs h => .some' (walk k vs h) h
def PostI (T : TabX) (Wx : WX) (r : Rho) (s : L2.St) (H : Hp) (k : Ik) (o : Out (List W)) (R : It → Hp → Prop) : Prop := Post T Wx (fun r' H' src J => SrcOk T r' H' src J) r s H (walkM k o) R
def SimI (T : TabX) (X : Cx) (Wx : WX) (tg iter : Expr) (k : Ik) (m : Env → Hep → Out (List W)) : Prop := ∀ (r : Rho) (s : L2.St) (H : Hp) (e : Env) (h : Hep) (R : It → Hp → Prop), RelS T.toTab r e h s H → PostI T Wx r s H k (m e h) R → tI X tg iter s H R
def isTupE : Expr → Bool
  | .Tuple _ _ _ => true
  | _ => false
theorem isTupE_at {p : Expr} (h : isTupE p = true) : ∃ elts kk tpos, p = .Tuple elts kk tpos := by
  cases p <;> first | exact ⟨_, _, _, rfl⟩ | cases h
theorem simI_seq {tg a : Expr} {ma : Env → Hep → Out W} (hK : T.K = X.K) (ha : SimE T X Wx a ma) : SimI T X Wx tg a .seq (fun e h => (ma e h).bind fun x h1 => .ok [x] h1) := by
  intro r s H e h R S hq pins t I
  unfold PostI walkM at hq
  cases q : ma e h with
  | bad => simp only [q, Out.bind] at hq; exact hq.elim
  | exc c p h1 =>
    simp only [q, Out.bind] at hq
    refine (pi_tup pe_E).run pins t s H R I ?_
    exact ha r s H e h _ S (by rw [q]; exact hq)
  | ok x h1 =>
    simp only [q, Out.bind] at hq
    have start : ∀ (G : VK), (∀ r1 v H1, Ext r r1 H H1 → RelH T.toTab r1 h1 H1 → RelW T.toTab r1 H1 x v → G v H1) → tE X a s H G := fun G k => ha r s H e h _ S (by rw [q]; exact k)
    have use : ∀ (src : Src), walk .seq [x] h1 = some src → ∀ r1 H1 J, Ext r r1 H H1 → RelH T.toTab r1 h1 H1 → SrcOk T r1 H1 src J → R J H1 := fun src hw r1 H1 J e1 rh so => by
      rw [hw] at hq
      exact hq r1 J H1 e1 rh so
    cases x with
    | tup xs =>
      refine (pi_tup pe_E).run pins t s H R I (start _ fun r1 v H1 e1 rh1 rv => ?_)
      cases rv with
      | tup h2 rs => exact ⟨_, rfl, ⟨_, hK ▸ h2.sq⟩, hK ▸ use _ rfl r1 H1 _ e1 rh1 (.tup h2 rs)⟩
    | str z =>
      refine (pi_str pe_E).run pins t s H R I (start _ fun r1 v H1 e1 rh1 rv => ?_)
      cases rv
      exact ⟨_, rfl, use _ rfl r1 H1 _ e1 rh1 .str⟩
    | lst xs =>
      refine (pi_list pe_E).run pins t s H R I (start _ fun r1 v H1 e1 rh1 rv => ?_)
      cases rv with
      | lst z h2 rs => exact ⟨_, rfl, ⟨_, Or.inl h2⟩, hK ▸ use _ rfl r1 H1 _ e1 rh1 (.lst (.inl ⟨z, h2⟩) rs)⟩
    | scr ns =>
      refine (pi_list pe_E).run pins t s H R I (start _ fun r1 v H1 e1 rh1 rv => ?_)
      cases rv with
      | scr h2 => exact ⟨_, rfl, ⟨_, hK ▸ h2.sq⟩, hK ▸ use _ rfl r1 H1 _ e1 rh1 (.lst h2 (.ints ns))⟩
    | ref a =>
      cases q2 : listOf h1 (.ref a) with
      | none => simp only [walk, q2] at hq; exact hq.elim
      | some xs =>
        refine (pi_list pe_E).run pins t s H R I (start _ fun r1 v H1 e1 rh1 rv => ?_)
        obtain ⟨p, vs, rfl, hs, rs⟩ := listOf_at rh1 rv q2
        cases rv with
        | ref h2 => exact ⟨_, rfl, ⟨_, hK ▸ hs⟩, hK ▸ use _ (by simp only [walk, q2]; rfl) r1 H1 _ e1 rh1 (.lis h2)⟩
    | dct kvs =>
      refine (pi_keysZ pe_E).run pins t s H R I (start _ fun r1 v H1 e1 rh1 rv => ?_)
      cases rv with
      | dct z h2 rs =>
        rename_i p ks
        refine ⟨p, ks, rfl, ?_⟩
        rcases h2 with h2 | ⟨o, h2⟩
        · refine .inr ⟨h2, fun o => ?_⟩
          have nt : ∀ xs, HO.dK ks ≠ .tup xs := fun _ z => by cases z
          have nf : ∀ x y, HO.dK ks ≠ .frz x y := fun _ _ z => by cases z
          have ni : ∀ C dx gs, HO.dK ks ≠ .ins C dx gs := fun _ _ _ z => by cases z
          have ex := Ext.lockZ (o := o) z h2 nt nf ni
          exact use _ rfl r1 _ _ (e1.trans ex) (rh1.lockZ z h2 nt nf ni) (.key z upd_same (rs.kp ex.kp))
        · exact .inl ⟨o, h2, use _ rfl r1 H1 _ e1 rh1 (.key z h2 rs)⟩
    | _ => exact hq.elim
theorem simI_itm {tg a : Expr} {ap cp : Pos} {ma : Env → Hep → Out W} (hK : T.K = X.K) (ha : SimE T X Wx a ma) (ht : isTupE tg = true) (hb : attributeBase a "items" X.env (eval a X.env) = eval a X.env) (hl : (ap.endLine == cp.line) = true) :
    SimI T X Wx tg (.Call (.Attribute a "items" ap) [] [] cp) .itm (fun e h => (ma e h).bind fun x h1 => .ok [x] h1) := by
  intro r s H e h R S hq pins t I
  obtain ⟨elts, kk, tpos, rfl⟩ := isTupE_at ht
  unfold PostI walkM at hq
  refine (pi_itemsZ pe_E hb hl).run pins t s H R I ?_
  cases q : ma e h with
  | bad => simp only [q, Out.bind] at hq; exact hq.elim
  | exc c p h1 =>
    simp only [q, Out.bind] at hq
    exact ha r s H e h _ S (by rw [q]; exact hq)
  | ok x h1 =>
    simp only [q, Out.bind] at hq
    have start : ∀ (G : VK), (∀ r1 v H1, Ext r r1 H H1 → RelH T.toTab r1 h1 H1 → RelW T.toTab r1 H1 x v → G v H1) → tE X a s H G := fun G k => ha r s H e h _ S (by rw [q]; exact k)
    have use : ∀ (src : Src), walk .itm [x] h1 = some src → ∀ r1 H1 J, Ext r r1 H H1 → RelH T.toTab r1 h1 H1 → SrcOk T r1 H1 src J → R J H1 := fun src hw r1 H1 J e1 rh so => by
      rw [hw] at hq
      exact hq r1 J H1 e1 rh so
    cases x with
    | dct kvs =>
      refine start _ fun r1 v H1 e1 rh1 rv => ?_
      cases rv with
      | dct z h2 rs =>
        rename_i p ks
        refine ⟨p, ks, rfl, ?_⟩
        rcases h2 with h2 | ⟨o, h2⟩
        · refine .inr ⟨h2, fun o => ?_⟩
          have nt : ∀ xs, HO.dK ks ≠ .tup xs := fun _ z => by cases z
          have nf : ∀ x y, HO.dK ks ≠ .frz x y := fun _ _ z => by cases z
          have ni : ∀ C dx gs, HO.dK ks ≠ .ins C dx gs := fun _ _ _ z => by cases z
          have ex := Ext.lockZ (o := o) z h2 nt nf ni
          exact use _ rfl r1 _ _ (e1.trans ex) (rh1.lockZ z h2 nt nf ni) (.itm z upd_same (rs.kp ex.kp))
        · exact .inl ⟨o, h2, use _ rfl r1 H1 _ e1 rh1 (.itm z h2 rs)⟩
    | _ => exact hq.elim
theorem simI_enu {tg a : Expr} {p pos : Pos} {ma : Env → Hep → Out W} (hK : T.K = X.K) (ha : SimE T X Wx a ma) (hn : noStar a = true) (hg : Gl X "enumerate") (hm : X.mg "enumerate" = none) (ht : isTupE tg = true) :
    SimI T X Wx tg (.Call (.Name "enumerate" p) [a] [] pos) .enu (fun e h => (ma e h).bind fun x h1 => .ok [x] h1) := by
  intro r s H e h R S hq pins t I
  obtain ⟨elts, kk, tpos, rfl⟩ := isTupE_at ht
  unfold PostI walkM at hq
  have tup : tE X a s H (fun v H1 => ∃ a xs, [v] = [.ref a] ∧ SqT X.K H1 a xs ∧ R (IteT X.K a) H1) → wpAny (model X.prog X.w) X.A (eval (.Call (.Name "enumerate" p) [a] [] pos) X.env) (fun v t1 => wpAny (model X.prog X.w) X.A (pyIter v) (PIE X pins s (.Tuple elts kk tpos) R) X.xe t1) X.xe t := fun k => by
    refine (pi_enumT hg hm (pa_cons pe_E pa_nil (star_cons [] X.env hn)) (star_cons [] X.env hn)).run pins t s H R I ?_
    exact k
  have lis : tE X a s H (fun v H1 => ∃ a xs, [v] = [.ref a] ∧ SqL X.K H1 a xs ∧ R (Ite X.K a) H1) → wpAny (model X.prog X.w) X.A (eval (.Call (.Name "enumerate" p) [a] [] pos) X.env) (fun v t1 => wpAny (model X.prog X.w) X.A (pyIter v) (PIE X pins s (.Tuple elts kk tpos) R) X.xe t1) X.xe t := fun k => by
    refine (pi_enum hg hm (pa_cons pe_E pa_nil (star_cons [] X.env hn)) (star_cons [] X.env hn)).run pins t s H R I ?_
    exact k
  cases q : ma e h with
  | bad => simp only [q, Out.bind] at hq; exact hq.elim
  | exc c p h1 =>
    simp only [q, Out.bind] at hq
    exact tup (ha r s H e h _ S (by rw [q]; exact hq))
  | ok x h1 =>
    simp only [q, Out.bind] at hq
    have start : ∀ (G : VK), (∀ r1 v H1, Ext r r1 H H1 → RelH T.toTab r1 h1 H1 → RelW T.toTab r1 H1 x v → G v H1) → tE X a s H G := fun G k => ha r s H e h _ S (by rw [q]; exact k)
    have use : ∀ (src : Src), walk .enu [x] h1 = some src → ∀ r1 H1 J, Ext r r1 H H1 → RelH T.toTab r1 h1 H1 → SrcOk T r1 H1 src J → R J H1 := fun src hw r1 H1 J e1 rh so => by
      rw [hw] at hq
      exact hq r1 J H1 e1 rh so
    cases x with
    | tup xs =>
      refine tup (start _ fun r1 v H1 e1 rh1 rv => ?_)
      cases rv with
      | tup h2 rs => exact ⟨_, _, rfl, hK ▸ h2.sq, hK ▸ use _ rfl r1 H1 _ e1 rh1 (.ent h2 rs)⟩
    | lst xs =>
      refine lis (start _ fun r1 v H1 e1 rh1 rv => ?_)
      cases rv with
      | lst z h2 rs => exact ⟨_, _, rfl, Or.inl h2, hK ▸ use _ rfl r1 H1 _ e1 rh1 (.enl (.inl ⟨z, h2⟩) rs)⟩
    | _ => exact hq.elim
theorem rngOk_at {i : Int} (h : rngOk i = true) : -(2 ^ 62) ≤ i ∧ i < 2 ^ 62 := by
  unfold rngOk at h
  rw [Bool.and_eq_true, decide_eq_true_eq, decide_eq_true_eq] at h
  have e : (2 : Int) ^ 62 = 4611686018427387904 := by decide
  rw [e]
  exact h
theorem simI_rng1 {tg a : Expr} {p pos : Pos} {ma : Env → Hep → Out W} (ha : SimE T X Wx a ma) (hn : noStar a = true) (hg : Gl X "range") (hm : X.mg "range" = none) :
    SimI T X Wx tg (.Call (.Name "range" p) [a] [] pos) .rng (fun e h => (ma e h).bind fun x h1 => .ok [x] h1) := by
  intro r s H e h R S hq pins t I
  unfold PostI walkM at hq
  refine (pi_range1 hg hm (pa_cons pe_E pa_nil (star_cons [] X.env hn)) (star_cons [] X.env hn)).run pins t s H R I ?_
  show tE X a s H fun x H1 => ∃ j : Int, [x] = [.int j] ∧ -(2 ^ 62) ≤ j ∧ j < 2 ^ 62 ∧ R (Itr 0 j.toNat) H1
  have hq : Post T Wx (fun r' H' src J => SrcOk T r' H' src J) r s H ((ma e h).bind fun x h1 => .some' (walk .rng [x] h1) h1) R := by
    cases q : ma e h <;> simp only [q, Out.bind] at hq ⊢ <;> exact hq
  refine ha r s H e h _ S (hq.bind fun r1 v H1 x h1 e1 rh1 rv hq1 => ?_)
  cases rv with
  | int n =>
    simp only [walk] at hq1
    by_cases z : rngOk n = true
    · rw [if_pos z] at hq1
      exact ⟨n, rfl, (rngOk_at z).1, (rngOk_at z).2, hq1.ok rh1 .rng⟩
    · rw [if_neg z] at hq1; exact hq1.elim
  | _ => exact hq1.elim
theorem simI_rng2 {tg a b : Expr} {p pos : Pos} {ma mb : Env → Hep → Out W} (ha : SimE T X Wx a ma) (hb : SimE T X Wx b mb) (hn : noStar a = true) (hn2 : noStar b = true) (hg : Gl X "range") (hm : X.mg "range" = none) :
    SimI T X Wx tg (.Call (.Name "range" p) [a, b] [] pos) .rng (fun e h => (ma e h).bind fun x h1 => (mb e h1).bind fun y h2 => .ok [x, y] h2) := by
  intro r s H e h R S hq pins t I
  unfold PostI walkM at hq
  refine (pi_range2 hg hm (pa_cons pe_E (pa_cons pe_E pa_nil (star_cons [] X.env hn2)) (star_cons [b] X.env hn)) (by rw [star_cons [b] X.env hn, star_cons [] X.env hn2]; rfl) (star_cons [] X.env hn2)).run pins t s H R I ?_
  show tE X a s H fun x H1 => tE X b s H1 fun y H2 => ∃ i j : Int, [x, y] = [.int i, .int j] ∧ (-(2 ^ 62) ≤ i ∧ i < 2 ^ 62 ∧ -(2 ^ 62) ≤ j ∧ j < 2 ^ 62) ∧ R (Itr i (j - i).toNat) H2
  have hq : Post T Wx (fun r' H' src J => SrcOk T r' H' src J) r s H ((ma e h).bind fun x h1 => (mb e h1).bind fun y h2 => .some' (walk .rng [x, y] h2) h2) R := by
    cases q : ma e h with
    | ok x h1 => simp only [q, Out.bind] at hq ⊢; cases q2 : mb e h1 <;> simp only [q2, Out.bind] at hq ⊢ <;> exact hq
    | exc _ _ _ => simp only [q, Out.bind] at hq ⊢; exact hq
    | bad => simp only [q, Out.bind] at hq ⊢; exact hq
  refine ha r s H e h _ S (hq.bind fun r1 v H1 x h1 e1 rh1 rv hq1 => ?_)
  refine hb r1 s H1 e h1 _ (S.next e1 rh1) (hq1.bind fun r2 w H2 y h2 e2 rh2 rw hq2 => ?_)
  have rv := rv.mono e2
  cases rv with
  | int i => cases rw with
    | int j =>
      simp only [walk] at hq2
      by_cases z : (rngOk i && rngOk j) = true
      · rw [if_pos z] at hq2
        rw [Bool.and_eq_true] at z
        exact ⟨i, j, rfl, ⟨(rngOk_at z.1).1, (rngOk_at z.1).2, (rngOk_at z.2).1, (rngOk_at z.2).2⟩, hq2.ok rh2 .rng⟩
      · rw [if_neg z] at hq2; exact hq2.elim
    | _ => exact hq2.elim
  | _ => cases rw <;> exact hq2.elim
theorem rngC_at {i j c : Int} (h0 : 0 < c) (h1 : c < 1073741824) (hs : Builtin.Range.small i j c = true) : RgC i j c (if i < j then (j - i - 1) / c + 1 else 0).toNat := by
  refine ⟨by omega, by omega, hs, ?_⟩
  unfold Builtin.Range.rangeSize
  rw [if_pos h0]
  by_cases z : i < j
  · rw [if_pos z]
    have : 0 ≤ (j - i - 1) / c := Int.ediv_nonneg (by omega) (by omega)
    omega
  · rw [if_neg z]
    rfl
theorem simI_rng3 {tg a b d : Expr} {p pos : Pos} {ma mb md : Env → Hep → Out W} (ha : SimE T X Wx a ma) (hb : SimE T X Wx b mb) (hd : SimE T X Wx d md) (hn : noStar a = true) (hn2 : noStar b = true) (hn3 : noStar d = true) (hg : Gl X "range") (hm : X.mg "range" = none) :
    SimI T X Wx tg (.Call (.Name "range" p) [a, b, d] [] pos) .rng (fun e h => (ma e h).bind fun x h1 => (mb e h1).bind fun y h2 => (md e h2).bind fun z h3 => .ok [x, y, z] h3) := by
  intro r s H e h R S hq pins t I
  unfold PostI walkM at hq
  refine (pi_range3 hg hm (pa_cons pe_E (pa_cons pe_E (pa_cons pe_E pa_nil (star_cons [] X.env hn3)) (star_cons [d] X.env hn2)) (star_cons [b, d] X.env hn)) (star_cons [b, d] X.env hn) (by rw [backTo_any, star_cons [d] X.env hn2, star_cons [] X.env hn3]; rfl)).run pins t s H R I ?_
  show tE X a s H fun x H1 => tE X b s H1 fun y H2 => tE X d s H2 fun z H3 => ∃ (i j c : Int) (n : Nat), [x, y, z] = [.int i, .int j, .int c] ∧ RgC i j c n ∧ R (Itc i c n) H3
  rw [bind_assoc''] at hq
  refine ha r s H e h _ S (hq.bind fun r1 v H1 x h1 e1 rh1 rv hq1 => ?_)
  rw [bind_assoc''] at hq1
  refine hb r1 s H1 e h1 _ (S.next e1 rh1) (hq1.bind fun r2 w H2 y h2 e2 rh2 rw hq2 => ?_)
  rw [bind_assoc''] at hq2
  refine hd r2 s H2 e h2 _ ((S.next e1 rh1).next e2 rh2) (hq2.bind fun r3 u H3 z h3 e3 rh3 ru hq3 => ?_)
  have hq3 : Post T Wx (fun r' H' src J => SrcOk T r' H' src J) r3 s H3 (.some' (walk .rng [x, y, z] h3) h3) R := hq3
  have rv := rv.mono (e2.trans e3)
  have rw := rw.mono e3
  cases rv with
  | int i => cases rw with
    | int j => cases ru with
      | int c =>
        simp only [walk] at hq3
        by_cases q : (decide (0 < c) && decide (c < 1073741824) && Builtin.Range.small i j c) = true
        · rw [if_pos q] at hq3
          rw [Bool.and_eq_true, Bool.and_eq_true, decide_eq_true_eq, decide_eq_true_eq] at q
          exact ⟨i, j, c, _, rfl, rngC_at q.1.1 q.1.2 q.2, hq3.ok rh3 .rngC⟩
        · rw [if_neg q] at hq3; exact hq3.elim
      | _ => exact hq3.elim
    | _ => cases ru <;> exact hq3.elim
  | _ => cases rw <;> first | exact hq3.elim | (cases ru <;> exact hq3.elim)
def gIs : List Nat → TGs
  | [] => gNil
  | i :: is => gCons (gName i) (gIs is)
def gTg (K : PySem.W.Frag) : Tg → TG
  | .nm i => gName i
  | .tp is => gTup K is.length (gIs is)
def Tg.slots : Tg → List Nat
  | .nm i => [i]
  | .tp is => is
theorem set_wipe {s : L2.St} {v : Option V} {i : Nat} : ∀ {own : List Nat}, i ∈ own → L2.wipe (s.set i v) own = L2.wipe s own
  | [], h => by cases h
  | j :: own, h => by
    show (L2.wipe (s.set i v) own).set j none = (L2.wipe s own).set j none
    by_cases z : i ∈ own
    · rw [set_wipe z]
    · have e : i = j := by
        rcases List.mem_cons.mp h with e | h
        · exact e
        · exact absurd h z
      subst e
      have : ∀ own : List Nat, i ∉ own → L2.wipe (s.set i v) own = (L2.wipe s own).set i v := by
        intro own
        induction own with
        | nil => intro _; rfl
        | cons k own ih =>
          intro hk
          rw [List.mem_cons, not_or] at hk
          show (L2.wipe (s.set i v) own).set k none = ((L2.wipe s own).set k none).set i v
          rw [ih hk.2, List.set_comm _ _ (Ne.symm hk.1)]
      rw [this own z, List.set_set]
theorem gIs_ok {r : Rho} {H : Hp} {h : Hep} {Q : L2.St → Hp → Prop} : ∀ {is : List Nat} {ws : List W} {vs : List V} {e e' : Env} {s : L2.St}, RelS T.toTab r e h s H → RelWs T.toTab r H ws vs → setVs e is ws = some e' →
    (∀ s', RelS T.toTab r e' h s' H → (∀ own, (∀ i ∈ is, i ∈ own) → L2.wipe s' own = L2.wipe s own) → Q s' H) → gIs is vs s H Q
  | [], [], _, e, e', s, S, .nil, q, k => by
    cases q
    exact ⟨rfl, k s S fun _ _ => rfl⟩
  | [], _ :: _, _, _, _, _, _, _, q, _ => by cases q
  | _ :: _, [], _, _, _, _, _, _, q, _ => by cases q
  | i :: is, w :: ws, _, e, e', s, S, .cons hv hs, q, k => by
    refine ⟨_, _, rfl, ?_⟩
    have q : setVs (e.set i (some w)) is ws = some e' := q
    refine gIs_ok (S.put hv i) hs q fun s' S' hw => k s' S' fun own ho => ?_
    rw [hw own fun j hj => ho j (List.mem_cons_of_mem _ hj)]
    exact set_wipe (ho i List.mem_cons_self)
theorem gTg_ok {K : PySem.W.Frag} (hK : T.K = K) {r : Rho} {H : Hp} {h : Hep} {Q : L2.St → Hp → Prop} {tg : Tg} {w : W} {v : V} {e e' : Env} {s : L2.St} (S : RelS T.toTab r e h s H) (rv : RelW T.toTab r H w v) (q : tg.put e w = some e')
    (k : ∀ s', RelS T.toTab r e' h s' H → (∀ own, (∀ i ∈ tg.slots, i ∈ own) → L2.wipe s' own = L2.wipe s own) → Q s' H) : gTg K tg v s H Q := by
  cases tg with
  | nm i =>
    cases q
    exact k _ (S.put rv i) fun own ho => set_wipe (ho i List.mem_cons_self)
  | tp is =>
    cases rv with
    | tup h2 rs =>
      have q : setVs e is _ = some e' := q
      refine ⟨_, _, rfl, hK ▸ h2.sq, ?_, gIs_ok S rs q k⟩
      have len : ∀ {is : List Nat} {ws : List W} {e e' : Env}, setVs e is ws = some e' → ws.length = is.length := by
        intro is
        induction is with
        | nil => intro ws e e' q; cases ws with
          | nil => rfl
          | cons _ _ => cases q
        | cons i is ih => intro ws e e' q; cases ws with
          | nil => cases q
          | cons w ws => rw [List.length_cons, List.length_cons, ih (show setVs (e.set i (some w)) is ws = some e' from q)]
      rw [← rs.length]
      exact len q
    | _ => cases q
def tTs (X : Cx) (ifs : List Expr) : TT := fun s H Q => ∀ (pins : List (Addr × Obj)) (t : Shared), Inv X pins s H t →
  wpAny (model X.prog X.w) X.A (forIn ifs true fun c r => if r = true then do let ok ← isTrue c X.env (eval c X.env); pure (ForInStep.yield ok) else pure (ForInStep.yield r)) (TP X pins s Q) X.xe t
theorem pts_T {ifs : List Expr} : PTs X ifs (tTs X ifs) := ⟨fun pins t _ _ _ I h => h pins t I⟩
def SimTs (T : TabX) (X : Cx) (Wx : WX) (ifs : List Expr) (m : Env → Hep → Out Bool) : Prop := ∀ (r : Rho) (s : L2.St) (H : Hp) (e : Env) (h : Hep) (Q : Bool → Hp → Prop), RelS T.toTab r e h s H → PostT T Wx r s H (m e h) Q → tTs X ifs s H Q
theorem simTs_nil : SimTs T X Wx [] (fun _ h => .ok true h) := by
  intro r s H e h Q S hq pins t I
  exact pts_nil.run pins t s H Q I (hq.ok S.hp rfl)
theorem simTs_one {c : Expr} {m : Env → Hep → Out Bool} (hc : SimT T X Wx c m) : SimTs T X Wx [c] m := by
  intro r s H e h Q S hq pins t I
  exact (pts_one pt_T).run pins t s H Q I (hc r s H e h Q S hq)
end
end Ev

namespace Ev
open PySem PySem.Spec PyProof.Rows L2
section
variable {T : TabX} {X : Cx} {Wx : WX} {mu : Bool}
/-- no error is wished for -/
def Wno : WX := fun _ _ _ _ => False
/-- what the whole comprehension is to come to, from the state r1, H1 on -/
def Big (T : TabX) (Wx : WX) (mu : Bool) (r1 : Rho) (s : L2.St) (H1 : Hp) (Q : VK) (o : Out (List W)) : Prop := PostE T Wx r1 s H1 (o.calm.bind fun acc h5 => newL mu h5 acc) Q
theorem Big.ok {r1 : Rho} {s : L2.St} {H1 : Hp} {Q : VK} {α : Type} {o : Out α} {g : α → Hep → Out (List W)} (B : Big T Wx mu r1 s H1 Q (o.bind g)) : ∃ a h, o = .ok a h ∧ Big T Wx mu r1 s H1 Q (g a h) := by
  cases o with
  | ok a h => exact ⟨a, h, rfl, B⟩
  | exc c p h => exact B.elim
  | bad => exact B.elim
theorem Big.post {r1 : Rho} {s : L2.St} {H1 : Hp} {Q : VK} {α β : Type} {o : Out α} {g : α → Hep → Out (List W)} (B : Big T Wx mu r1 s H1 Q (o.bind g)) {R : Rho → Hp → α → β → Prop} {r : Rho} {s2 : L2.St} {H : Hp} {Q1 : β → Hp → Prop}
    (k : ∀ (r2 : Rho) (v : β) (H2 : Hp) (a : α) (h2 : Hep), Ext r r2 H H2 → RelH T.toTab r2 h2 H2 → R r2 H2 a v → Big T Wx mu r1 s H1 Q (g a h2) → Q1 v H2) : Post T Wno R r s2 H o Q1 := by
  obtain ⟨a, h, rfl, B⟩ := B.ok
  exact fun r2 v H2 e rh rv => k r2 v H2 a h e rh rv B
/-- the list under way, at D -/
structure Mid (T : TabX) (r1 : Rho) (H1 : Hp) (D : Addr) (r : Rho) (h : Hep) (H : Hp) (acc : List W) (vs : List V) : Prop where
  ext : Ext r1 r H1 H
  hp : RelH T.toTab r h H
  off : ∀ a, r a ≠ some D
  nz : ¬ r.z D
  at_ : H D = some (.lst vs)
  rel : RelWs T.toTab r H acc vs
theorem Mid.step {r1 r r2 : Rho} {H1 H H2 : Hp} {D : Addr} {h h2 : Hep} {acc : List W} {vs : List V} (M : Mid T r1 H1 D r h H acc vs) (e : Ext r r2 H H2) (rh : RelH T.toTab r2 h2 H2) : Mid T r1 H1 D r2 h2 H2 acc vs :=
  ⟨M.ext.trans e, rh, e.off M.at_ M.off, (e.oth D _ M.at_ M.off M.nz).2, (e.oth D _ M.at_ M.off M.nz).1, M.rel.mono e⟩
theorem Mid.add {r1 r : Rho} {H1 H : Hp} {D : Addr} {h h1 : Hep} {acc : List W} {vs : List V} (rh1 : RelH T.toTab r1 h1 H1) (hD : H1 D = none) (M : Mid T r1 H1 D r h H acc vs) {w : W} {v : V} (rv : RelW T.toTab r H w v) : Mid T r1 H1 D r h (upd H D (.lst (vs ++ [v]))) (acc ++ [w]) (vs ++ [v]) :=
  ⟨M.ext.over rh1 hD, M.hp.sideG M.at_ (fun _ z => by cases z) M.off M.nz, M.off, M.nz, upd_same, (M.rel.app (.cons rv .nil)).kp (Kp.sideG M.at_ (fun _ z => by cases z) M.nz)⟩
theorem Mid.start {r1 : Rho} {H1 : Hp} {D : Addr} {h : Hep} (rh : RelH T.toTab r1 h H1) (hD : H1 D = none) : Mid T r1 H1 D r1 h (upd H1 D (.lst [])) [] [] :=
  ⟨Ext.alloc rh hD, rh.alloc hD, rh.off hD, fun z => (by
    obtain ⟨u, hu, _⟩ := rh.zl D z
    rw [hu] at hD
    cases hD), upd_same, .nil⟩
theorem Mid.done {r1 r : Rho} {H1 H : Hp} {D : Addr} {h : Hep} {acc : List W} {vs : List V} {s : L2.St} {Q : VK} (hD : H1 D = none) (M : Mid T r1 H1 D r h H acc vs) (B : Big T Wx mu r1 s H1 Q (.ok acc h)) : Q (.ref D) H := by
  have B : PostE T Wx r1 s H1 (newL mu h acc) Q := B
  unfold newL at B
  by_cases z : acc.length ≤ lim
  · rw [if_pos z] at B
    cases mu with
    | true => exact B (ins r h.n D) (.ref D) H (M.ext.nameG M.hp hD) (M.hp.nameG M.off M.nz ⟨vs, M.at_, M.rel.kp (M.hp.kpN D)⟩) (.ref (ins_same _ _ _))
    | false => exact B (fz r D) (.ref D) H (M.ext.fzG hD) (M.hp.fz M.at_ (fun _ z => by cases z) M.off) (.lst (.inl rfl) (.inl M.at_) (M.rel.kp (Kp.fz D)))
  · rw [if_neg z] at B
    exact B.elim
theorem Mid.grow {r1 r : Rho} {H1 H : Hp} {D : Addr} {h : Hep} {acc : List W} {vs : List V} {s : L2.St} {Q : VK} {y : W} {g : List W → Hep → Out (List W)} (M : Mid T r1 H1 D r h H acc vs) (B : Big T Wx mu r1 s H1 Q ((grow acc y h).bind g)) :
    vs.length < sizeLine ∧ Big T Wx mu r1 s H1 Q (g (acc ++ [y]) h) := by
  unfold Ev.grow at B
  by_cases z : acc.length < lim
  · rw [if_pos z] at B
    exact ⟨by rw [← M.rel.length, ← lim_eq]; exact z, B⟩
  · rw [if_neg z] at B
    exact B.elim
/-- the readings of a block, whatever its frame -/
def tEb (X : Cx) (scope : Scope) (a : Expr) : TE := fun s H Q => ∀ (t : Shared) (H0 : Hp) (C : Addr) (cl : List (Str × Addr)) (fp : List Addr), tE (X.blk t H0 scope (compEnvC scope cl C X.env) fp) a s H Q
def tTb (X : Cx) (scope : Scope) (ifs : List Expr) : TT := fun s H Q => ∀ (t : Shared) (H0 : Hp) (C : Addr) (cl : List (Str × Addr)) (fp : List Addr), tTs (X.blk t H0 scope (compEnvC scope cl C X.env) fp) ifs s H Q
def tIb (X : Cx) (scope : Scope) (tg iter : Expr) : TI := fun s H R => ∀ (t : Shared) (H0 : Hp) (C : Addr) (cl : List (Str × Addr)) (fp : List Addr), tI (X.blk t H0 scope (compEnvC scope cl C X.env) fp) tg iter s H R
/-- a turn: the target, the test, the element -/
def turnM (tg : Tg) (own : List Nat) (mt : Env → Hep → Out Bool) (me : Env → Hep → Out W) (e : Env) : List W → W → Hep → Out (List W) := fun acc w h2 => (match tg.put (wipeE e own) w with
    | some e2 => (mt e2 h2).bind fun b h3 => if b then (me e2 h3).bind fun y h4 => grow acc y h4 else .ok acc h3
    | none => .bad)
def lcM (mu : Bool) (tg : Tg) (k : Ik) (own : List Nat) (mi : Env → Hep → Out (List W)) (mt : Env → Hep → Out Bool) (me : Env → Hep → Out W) : Env → Hep → Out W := fun e h => (mi e h).bind fun vs h1 => (match walk k vs h1 with
    | some s => (turns s (turnM tg own mt me e) s.len 0 [] h1).calm.bind fun acc h5 => newL mu h5 acc
    | none => .bad)
theorem bind_assoc' {α β γ : Type} (o : Out α) (f : α → Hep → Out β) (g : β → Hep → Out γ) : (o.bind f).bind g = o.bind fun a h => (f a h).bind g := by
  cases o <;> rfl
theorem wipe_get (s : L2.St) (i : Nat) : ∀ own : List Nat, (wipe s own)[i]? = if i ∈ own then s[i]?.map (fun _ => none) else s[i]?
  | [] => by simp [wipe]
  | j :: own => by
    show ((wipe s own).set j none)[i]? = _
    rw [List.getElem?_set, wipe_get s i own]
    by_cases z : j = i
    · subst z
      rw [if_pos rfl, if_pos List.mem_cons_self, wipe_length]
      by_cases l : j < s.length
      · rw [if_pos l, List.getElem?_eq_getElem l]; rfl
      · rw [if_neg l, List.getElem?_eq_none (by omega)]; rfl
    · rw [if_neg z]
      by_cases m : i ∈ own
      · rw [if_pos m, if_pos (List.mem_cons_of_mem _ m)]
      · rw [if_neg m, if_neg (by rw [List.mem_cons, not_or]; exact ⟨fun e => z e.symm, m⟩)]
theorem wipe_wipe (s : L2.St) (own : List Nat) : wipe (wipe s own) own = wipe s own := by
  apply List.ext_getElem?
  intro i
  rw [wipe_get (wipe s own) i own, wipe_get s i own]
  by_cases m : i ∈ own
  · rw [if_pos m, if_pos m]
    cases s[i]? <;> rfl
  · rw [if_neg m, if_neg m]
section
variable {elt tg iter : Expr} {ifs : List Expr} {scope : Scope} {own' : List (Str × Nat)} {pos : Pos} {tgt : Tg} {k : Ik} {mi : Env → Hep → Out (List W)} {mt : Env → Hep → Out Bool} {me : Env → Hep → Out W}
/-- one turn of the loop, from the target on; Nx: the next turn's start -/
theorem lc_turn (hK : T.K = X.K) (ht : ∀ (t : Shared) (H0 : Hp) (C : Addr) (cl : List (Str × Addr)) (fp : List Addr), SimTs T (X.blk t H0 scope (compEnvC scope cl C X.env) fp) Wno ifs mt)
    (he : ∀ (t : Shared) (H0 : Hp) (C : Addr) (cl : List (Str × Addr)) (fp : List Addr), SimE T (X.blk t H0 scope (compEnvC scope cl C X.env) fp) Wno elt me)
    {own : List Nat} (hsl : ∀ i ∈ tgt.slots, i ∈ own) {r1 : Rho} {H1 : Hp} {k1 : Hep} (rh1 : RelH T.toTab r1 k1 H1) {s0 : L2.St} {Q : VK} {D : Addr} (hD : H1 D = none) {r : Rho} {h : Hep} {H : Hp} {acc : List W} {vs : List V} {e : Env} {s : L2.St} {w : W} {v : V} {g : List W → Hep → Out (List W)} {Nx : Hp → Prop}
    (M : Mid T r1 H1 D r h H acc vs) (S : RelS T.toTab r e h s H) (rv : RelW T.toTab r H w v) (B : Big T Wx mu r1 s0 H1 Q ((turnM tgt own mt me e acc w h).bind g))
    (hN : ∀ r2 h2 H2 acc2 vs2, Kp r r2 H H2 → Mid T r1 H1 D r2 h2 H2 acc2 vs2 → Big T Wx mu r1 s0 H1 Q (g acc2 h2) → Nx H2) :
    gTg X.K tgt v (wipe s own) H fun s2 H2 => wipe s2 own = wipe s own ∧ tTb X scope ifs s2 H2 fun b H3 => if b = true then tEb X scope elt s2 H3 fun y H4 => ∃ acc', H4 D = some (.lst acc') ∧ acc'.length < sizeLine ∧ Nx (upd H4 D (.lst (acc' ++ [y]))) else Nx H3 := by
  unfold turnM at B
  cases q : tgt.put (wipeE e own) w with
  | none => simp only [q] at B; exact B.elim
  | some e2 =>
    simp only [q] at B
    rw [bind_assoc'] at B
    refine gTg_ok hK (S.wipe own) rv q fun s2 S2 hw => ⟨?_, ?_⟩
    · rw [hw own hsl]
      exact wipe_wipe s own
    · intro t H0 C cl fp
      refine ht t H0 C cl fp r s2 H e2 h _ S2 (B.post fun r3 b H3 b' h3 e3 rh3 rb B3 => ?_)
      subst rb
      cases b' with
      | false =>
        exact iteF (hN r3 h3 H3 acc vs e3.kp (M.step e3 rh3) B3)
      | true =>
        refine iteT fun t H0 C cl fp => ?_
        have B3 : Big T Wx mu r1 s0 H1 Q (((me e2 h3).bind fun y h4 => grow acc y h4).bind g) := B3
        rw [bind_assoc'] at B3
        refine he t H0 C cl fp r3 s2 H3 e2 h3 _ (S2.next e3 rh3) (B3.post fun r4 y H4 y' h4 e4 rh4 ry B4 => ?_)
        have M4 := (M.step e3 rh3).step e4 rh4
        obtain ⟨g1, g2⟩ := M4.grow B4
        exact ⟨vs, M4.at_, g1, hN r4 h4 _ _ _ ((e3.kp.trans e4.kp).trans (Kp.sideG M4.at_ (fun _ z => by cases z) M4.nz)) (M4.add rh1 hD ry) g2⟩
theorem Kp.relS {r r' : Rho} {e : Env} {h h' : Hep} {s : L2.St} {H H' : Hp} (x : RelS T.toTab r e h s H) (y : Kp r r' H H') (z : RelH T.toTab r' h' H') : RelS T.toTab r' e h' s H' := x.kp y z
/-- the loop of a walk in a comprehension: from the state of turn i on -/
theorem lc_loop {J : It} {src : Src} {r1 : Rho} {H1 : Hp} {s0 : L2.St} {Q : VK} {D : Addr} (hD : H1 D = none) {rS : Rho} {HS : Hp} (so : SrcOk T rS HS src J) {f : List W → W → Hep → Out (List W)} {g : List W → Hep → Out (List W)} {st : V → Hp → (Hp → Prop) → Prop} {Fin : Hp → Prop}
    (step : ∀ (r : Rho) (h : Hep) (H : Hp) (acc : List W) (vs : List V) (w : W) (v : V) (g' : List W → Hep → Out (List W)) (Nx : Hp → Prop), Kp rS r HS H → Mid T r1 H1 D r h H acc vs → RelW T.toTab r H w v → Big T Wx mu r1 s0 H1 Q ((f acc w h).bind g') →
      (∀ r2 h2 H2 acc2 vs2, Kp r r2 H H2 → Mid T r1 H1 D r2 h2 H2 acc2 vs2 → Big T Wx mu r1 s0 H1 Q (g' acc2 h2) → Nx H2) → st v H Nx)
    (fin : ∀ (r : Rho) (h : Hep) (H : Hp) (acc : List W) (vs : List V), Kp rS r HS H → Mid T r1 H1 D r h H acc vs → Big T Wx mu r1 s0 H1 Q (g acc h) → Fin H)
    {r : Rho} {h : Hep} {H : Hp} {acc : List W} {vs : List V} (k0 : Kp rS r HS H) (M : Mid T r1 H1 D r h H acc vs) (B : Big T Wx mu r1 s0 H1 Q ((turns src f src.len 0 acc h).bind g)) :
    ∃ W : Nat → Nat → Hp → Prop, (∃ m, W 0 m H) ∧ ∀ i m H, W i m H → (J.stop i H ∧ Fin H) ∨ (J.go i H ∧ ∃ Nx : Hp → Prop, (∀ H', Nx H' → ∃ m', m' < m ∧ W (i + 1) m' H') ∧ ∀ x H', J.yld i H x H' → st x H' Nx) := by
  refine ⟨fun i m H => i + m = src.len ∧ ∃ r h acc vs, Kp rS r HS H ∧ Mid T r1 H1 D r h H acc vs ∧ Big T Wx mu r1 s0 H1 Q ((turns src f m i acc h).bind g), ⟨src.len, Nat.zero_add _, r, h, acc, vs, k0, M, B⟩, ?_⟩
  rintro i m H ⟨hm, r, h, acc, vs, kp, M, B⟩
  cases m with
  | zero =>
    have hi : i = src.len := by omega
    subst hi
    refine .inl ?_
    unfold turns at B
    cases q : src.ends h with
    | false => rw [q, if_neg (by decide)] at B; exact B.elim
    | true =>
      rw [q, if_pos rfl] at B
      exact ⟨(so.kp kp).stop M.hp q, fin r h H acc vs kp M B⟩
  | succ m =>
    refine .inr ?_
    unfold turns at B
    cases q : src.at i h with
    | none => simp only [q] at B; exact B.elim
    | some w =>
      simp only [q] at B
      rw [bind_assoc'] at B
      obtain ⟨g1, g2⟩ := (so.kp kp).go M.hp (by omega) q
      refine ⟨g1, fun H' => ∃ r h acc vs, Kp rS r HS H' ∧ Mid T r1 H1 D r h H' acc vs ∧ Big T Wx mu r1 s0 H1 Q ((turns src f m (i + 1) acc h).bind g), fun H' hN => ⟨m, Nat.lt_succ_self _, by omega, hN⟩, fun x H' y => ?_⟩
      obtain ⟨e1, rh1, rx⟩ := g2 x H' y
      refine step r h H' acc vs w x _ _ (kp.trans e1.kp) (M.step e1 rh1) rx B fun r2 h2 H2 acc2 vs2 k2 M2 B2 => ?_
      exact ⟨r2, h2, acc2, vs2, (kp.trans e1.kp).trans k2, M2, B2⟩
theorem simE_lc (hK : T.K = X.K) (hc : X.calm = true) (hN : X.N.Nodup) (hi : SimI T X Wx tg iter k mi) (ok : BlkOk X.N X.env.scope scope own')
    (hg : ∀ (t : Shared) (H0 : Hp) (C : Addr) (cl : List (Str × Addr)) (fp : List Addr), PG (X.blk t H0 scope (compEnvC scope cl C X.env) fp) tg (gTg X.K tgt))
    (ht : ∀ (t : Shared) (H0 : Hp) (C : Addr) (cl : List (Str × Addr)) (fp : List Addr), SimTs T (X.blk t H0 scope (compEnvC scope cl C X.env) fp) Wno ifs mt)
    (he : ∀ (t : Shared) (H0 : Hp) (C : Addr) (cl : List (Str × Addr)) (fp : List Addr), SimE T (X.blk t H0 scope (compEnvC scope cl C X.env) fp) Wno elt me)
    (hs : ∀ x, foldedSetIterable iter X.env x = pure x) {own : List Nat} (ho : own'.map (·.2) = own) (hsl : ∀ i ∈ tgt.slots, i ∈ own)
    {r : Rho} {s : L2.St} {H : Hp} {e : Env} {h : Hep} {Q : VK} (S : RelS T.toTab r e h s H) (hq : PostE T Wx r s H (lcM mu tgt k own mi mt me e h) Q) :
    tLc (tI X tg iter) (gTg X.K tgt) (tTb X scope ifs) (tEb X scope elt) (own'.map (·.2)) s H Q := by
  rw [ho]
  unfold lcM at hq
  refine hi r s H e h _ S ?_
  unfold PostI walkM
  have hq : PostE T Wx r s H (((mi e h).bind fun vs h1 => .some' (walk k vs h1) h1).bind fun src h1 => (turns src (turnM tgt own mt me e) src.len 0 [] h1).calm.bind fun acc h5 => newL mu h5 acc) Q := by
    rw [bind_assoc']
    cases q : mi e h with
    | ok vs h1 =>
      simp only [q, Out.bind] at hq ⊢
      cases q2 : walk k vs h1 <;> simp only [q2, Out.some'] at hq ⊢ <;> exact hq
    | exc _ _ _ => simp only [q, Out.bind] at hq ⊢; exact hq
    | bad => simp only [q, Out.bind] at hq ⊢; exact hq
  refine hq.bind fun r1 J H1 src h1 e1 rh1 so B => fun D hD => ?_
  have S1 := S.next e1 rh1
  have B : Big T Wx mu r1 s H1 Q ((turns src (turnM tgt own mt me e) src.len 0 [] h1).bind fun acc h => .ok acc h) := by
    have z : (turns src (turnM tgt own mt me e) src.len 0 [] h1).bind (fun acc h => .ok acc h) = turns src (turnM tgt own mt me e) src.len 0 [] h1 := by
      cases turns src (turnM tgt own mt me e) src.len 0 [] h1 <;> rfl
    rw [z]
    exact B
  refine lc_loop (Wx := Wx) (rS := r1) (HS := H1) hD so (st := fun x H' Nx => gTg X.K tgt x (wipe s own) H' fun s2 H2 => wipe s2 own = wipe s own ∧ tTb X scope ifs s2 H2 fun b H3 => if b = true then tEb X scope elt s2 H3 fun y H4 => ∃ acc, H4 D = some (.lst acc) ∧ acc.length < sizeLine ∧ Nx (upd H4 D (.lst (acc ++ [y]))) else Nx H3)
    (fun ra ha Ha acc vs w v g' Nx kp M rv B' hN' => lc_turn hK ht he hsl rh1 hD M (S1.kp kp M.hp) rv B' hN') (fun ra ha Ha acc vs kp M B' => M.done hD B') (Ext.alloc rh1 hD).kp (Mid.start rh1 hD) B
theorem pe_tEb {a : Expr} {scope : Scope} (t : Shared) (H0 : Hp) (C : Addr) (cl : List (Str × Addr)) (fp : List Addr) : PE (X.blk t H0 scope (compEnvC scope cl C X.env) fp) a (tEb X scope a) := ⟨fun pins t' _ _ _ I h => h t H0 C cl fp pins t' I⟩
theorem pts_tTb {ifs : List Expr} {scope : Scope} (t : Shared) (H0 : Hp) (C : Addr) (cl : List (Str × Addr)) (fp : List Addr) : PTs (X.blk t H0 scope (compEnvC scope cl C X.env) fp) ifs (tTb X scope ifs) := ⟨fun pins t' _ _ _ I h => h t H0 C cl fp pins t' I⟩
theorem pi_tIb {tg iter : Expr} {scope : Scope} (t : Shared) (H0 : Hp) (C : Addr) (cl : List (Str × Addr)) (fp : List Addr) : PI (X.blk t H0 scope (compEnvC scope cl C X.env) fp) tg iter (tIb X scope tg iter) := ⟨fun pins t' _ _ _ I h => h t H0 C cl fp pins t' I⟩
theorem simE_lco (hK : T.K = X.K) (hc : X.calm = true) (hN : X.N.Nodup) (hi : SimI T X Wx tg iter k mi) (ok : BlkOk X.N X.env.scope scope own')
    (hg : ∀ (t : Shared) (H0 : Hp) (C : Addr) (cl : List (Str × Addr)) (fp : List Addr), PG (X.blk t H0 scope (compEnvC scope cl C X.env) fp) tg (gTg X.K tgt))
    (ht : ∀ (t : Shared) (H0 : Hp) (C : Addr) (cl : List (Str × Addr)) (fp : List Addr), SimTs T (X.blk t H0 scope (compEnvC scope cl C X.env) fp) Wno ifs mt)
    (he : ∀ (t : Shared) (H0 : Hp) (C : Addr) (cl : List (Str × Addr)) (fp : List Addr), SimE T (X.blk t H0 scope (compEnvC scope cl C X.env) fp) Wno elt me)
    (hs : ∀ x, foldedSetIterable iter X.env x = pure x) {own : List Nat} (ho : own'.map (·.2) = own) (hsl : ∀ i ∈ tgt.slots, i ∈ own) : SimE T X Wx (.ListComp elt [⟨tg, iter, ifs, 0⟩] scope pos) (lcM mu tgt k own mi mt me) := by
  intro r s H e h Q S hq pins t I
  exact (pe_lc hc hN pi_I ok hg pts_tTb pe_tEb hs).run pins t s H Q I (simE_lc hK hc hN hi ok hg ht he hs ho hsl S hq)
def turn2M (tg : Tg) (own : List Nat) (k1 : Ik) (mi1 : Env → Hep → Out (List W)) (f : Env → List W → W → Hep → Out (List W)) (e : Env) : List W → W → Hep → Out (List W) := fun acc w h2 => (match tg.put (wipeE e own) w with
    | some e2 => (mi1 e2 h2).bind fun vs1 h3 => (match walk k1 vs1 h3 with
      | some s1 => turns s1 (f e2) s1.len 0 acc h3
      | none => .bad)
    | none => .bad)
def lc2M (mu : Bool) (tg : Tg) (k : Ik) (own : List Nat) (mi : Env → Hep → Out (List W)) (tg1 : Tg) (k1 : Ik) (own1 : List Nat) (mi1 : Env → Hep → Out (List W)) (mt : Env → Hep → Out Bool) (me : Env → Hep → Out W) : Env → Hep → Out W := fun e h => (mi e h).bind fun vs h1 => (match walk k vs h1 with
    | some s => (turns s (turn2M tg own k1 mi1 (turnM tg1 own1 mt me) e) s.len 0 [] h1).calm.bind fun acc h5 => newL mu h5 acc
    | none => .bad)
theorem simE_lc2 {tg1 iter1 : Expr} {tgt1 : Tg} {k1 : Ik} {mi1 : Env → Hep → Out (List W)} (hK : T.K = X.K) (hc : X.calm = true) (hN : X.N.Nodup) (hi : SimI T X Wx tg iter k mi) (ok : BlkOk X.N X.env.scope scope own')
    (hg : ∀ (t : Shared) (H0 : Hp) (C : Addr) (cl : List (Str × Addr)) (fp : List Addr), PG (X.blk t H0 scope (compEnvC scope cl C X.env) fp) tg (gTg X.K tgt))
    (hg1 : ∀ (t : Shared) (H0 : Hp) (C : Addr) (cl : List (Str × Addr)) (fp : List Addr), PG (X.blk t H0 scope (compEnvC scope cl C X.env) fp) tg1 (gTg X.K tgt1))
    (hi1 : ∀ (t : Shared) (H0 : Hp) (C : Addr) (cl : List (Str × Addr)) (fp : List Addr), SimI T (X.blk t H0 scope (compEnvC scope cl C X.env) fp) Wno tg1 iter1 k1 mi1)
    (ht : ∀ (t : Shared) (H0 : Hp) (C : Addr) (cl : List (Str × Addr)) (fp : List Addr), SimTs T (X.blk t H0 scope (compEnvC scope cl C X.env) fp) Wno ifs mt)
    (he : ∀ (t : Shared) (H0 : Hp) (C : Addr) (cl : List (Str × Addr)) (fp : List Addr), SimE T (X.blk t H0 scope (compEnvC scope cl C X.env) fp) Wno elt me)
    (hs : ∀ x, foldedSetIterable iter X.env x = pure x) (hs1 : ∀ env x, foldedSetIterable iter1 env x = pure x) {own own1 : List Nat} (ho : own'.map (·.2) = own) (hv : ∀ i ∈ own1, i ∈ own) (hsl : ∀ i ∈ tgt.slots, i ∈ own) (hsl1 : ∀ i ∈ tgt1.slots, i ∈ own1)
    {r : Rho} {s : L2.St} {H : Hp} {e : Env} {h : Hep} {Q : VK} (S : RelS T.toTab r e h s H) (hq : PostE T Wx r s H (lc2M mu tgt k own mi tgt1 k1 own1 mi1 mt me e h) Q) :
    tLc2 (tI X tg iter) (gTg X.K tgt) tYes (tIb X scope tg1 iter1) (gTg X.K tgt1) (tTb X scope ifs) (tEb X scope elt) (own'.map (·.2)) own1 s H Q := by
  rw [ho]
  unfold lc2M at hq
  refine hi r s H e h _ S ?_
  unfold PostI walkM
  have hq : PostE T Wx r s H (((mi e h).bind fun vs h1 => .some' (walk k vs h1) h1).bind fun src h1 => (turns src (turn2M tgt own k1 mi1 (turnM tgt1 own1 mt me) e) src.len 0 [] h1).calm.bind fun acc h5 => newL mu h5 acc) Q := by
    rw [bind_assoc']
    cases q : mi e h with
    | ok vs h1 =>
      simp only [q, Out.bind] at hq ⊢
      cases q2 : walk k vs h1 <;> simp only [q2, Out.some'] at hq ⊢ <;> exact hq
    | exc _ _ _ => simp only [q, Out.bind] at hq ⊢; exact hq
    | bad => simp only [q, Out.bind] at hq ⊢; exact hq
  refine hq.bind fun r1 J H1 src h1 e1 rh1 so B => fun D hD => ?_
  have S1 := S.next e1 rh1
  generalize hf : turn2M tgt own k1 mi1 (turnM tgt1 own1 mt me) e = f at B
  have B : Big T Wx mu r1 s H1 Q ((turns src f src.len 0 [] h1).bind fun acc h => .ok acc h) := by
    have z : (turns src f src.len 0 [] h1).bind (fun acc h => .ok acc h) = turns src f src.len 0 [] h1 := by
      cases turns src f src.len 0 [] h1 <;> rfl
    rw [z]
    exact B
  refine lc_loop (Wx := Wx) (rS := r1) (HS := H1) hD so (st := fun x H' Nx => gTg X.K tgt x (wipe s own) H' fun s2 H2 => wipe s2 own = wipe s own ∧ tYes s2 H2 fun b H3 => if b = true then tIb X scope tg1 iter1 s2 H3 fun J1 H4 => ∃ W1 : Nat → Nat → Hp → Prop, (∃ m, W1 0 m H4) ∧ ∀ j k H, W1 j k H →
      (J1.stop j H ∧ Nx H) ∨ (J1.go j H ∧ ∃ Nx1 : Hp → Prop, (∀ H', Nx1 H' → ∃ k', k' < k ∧ W1 (j + 1) k' H') ∧ ∀ x H', J1.yld j H x H' → gTg X.K tgt1 x (wipe s2 own1) H' fun s3 H5 => wipe s3 own1 = wipe s2 own1 ∧ tTb X scope ifs s3 H5 fun b H6 =>
        if b = true then tEb X scope elt s3 H6 fun y H7 => ∃ acc, H7 D = some (.lst acc) ∧ acc.length < sizeLine ∧ Nx1 (upd H7 D (.lst (acc ++ [y]))) else Nx1 H6) else Nx H3)
    (fun ra ha Ha acc vs w v g' Nx kp M rv B' hN' => ?_) (fun ra ha Ha acc vs kp M B' => M.done hD B') (Ext.alloc rh1 hD).kp (Mid.start rh1 hD) B
  subst hf
  unfold turn2M at B'
  cases q : tgt.put (wipeE e own) w with
  | none => simp only [q] at B'; exact B'.elim
  | some e2 =>
    simp only [q] at B'
    refine gTg_ok hK ((S1.kp kp M.hp).wipe own) rv q fun s2 S2 hw => ⟨?_, ?_⟩
    · rw [hw own hsl]
      exact wipe_wipe s own
    · show (if true = true then _ else Nx Ha)
      rw [if_pos rfl]
      intro t H0 C cl fp
      refine hi1 t H0 C cl fp ra s2 Ha e2 ha _ S2 ?_
      unfold PostI walkM
      have B2 : Big T Wx mu r1 s H1 Q (((mi1 e2 ha).bind fun vs h => .some' (walk k1 vs h) h).bind fun s1 h3 => (turns s1 (turnM tgt1 own1 mt me e2) s1.len 0 acc h3).bind g') := by
        rw [bind_assoc'] at B' ⊢
        cases q1 : mi1 e2 ha with
        | ok vs1 h1 =>
          simp only [q1, Out.bind] at B' ⊢
          cases q2 : walk k1 vs1 h1 <;> simp only [q2, Out.some'] at B' ⊢ <;> exact B'
        | exc _ _ _ => simp only [q1, Out.bind] at B' ⊢; exact B'
        | bad => simp only [q1, Out.bind] at B' ⊢; exact B'
      refine B2.post fun r3 J1 H4 src1 h3 e3 rh3 so1 B3 => ?_
      have S3 := S2.next e3 rh3
      exact lc_loop (Wx := Wx) (rS := r3) (HS := H4) hD so1 (st := fun x H' Nx1 => gTg X.K tgt1 x (wipe s2 own1) H' fun s3 H5 => wipe s3 own1 = wipe s2 own1 ∧ tTb X scope ifs s3 H5 fun b H6 =>
        if b = true then tEb X scope elt s3 H6 fun y H7 => ∃ acc, H7 D = some (.lst acc) ∧ acc.length < sizeLine ∧ Nx1 (upd H7 D (.lst (acc ++ [y]))) else Nx1 H6)
        (fun rb hb Hb acc2 vs2 w2 v2 g2 Nx2 kp2 M2 rv2 B4 hN2 => lc_turn hK ht he hsl1 rh1 hD M2 (S3.kp kp2 M2.hp) rv2 B4 hN2) (fun rb hb Hb acc2 vs2 kp2 M2 B4 => hN' rb hb Hb acc2 vs2 (e3.kp.trans kp2) M2 B4) (Kp.refl _ _) (M.step e3 rh3) B3
theorem simE_lco2 {tg1 iter1 : Expr} {tgt1 : Tg} {k1 : Ik} {mi1 : Env → Hep → Out (List W)} (hK : T.K = X.K) (hc : X.calm = true) (hN : X.N.Nodup) (hi : SimI T X Wx tg iter k mi) (ok : BlkOk X.N X.env.scope scope own')
    (hg : ∀ (t : Shared) (H0 : Hp) (C : Addr) (cl : List (Str × Addr)) (fp : List Addr), PG (X.blk t H0 scope (compEnvC scope cl C X.env) fp) tg (gTg X.K tgt))
    (hg1 : ∀ (t : Shared) (H0 : Hp) (C : Addr) (cl : List (Str × Addr)) (fp : List Addr), PG (X.blk t H0 scope (compEnvC scope cl C X.env) fp) tg1 (gTg X.K tgt1))
    (hi1 : ∀ (t : Shared) (H0 : Hp) (C : Addr) (cl : List (Str × Addr)) (fp : List Addr), SimI T (X.blk t H0 scope (compEnvC scope cl C X.env) fp) Wno tg1 iter1 k1 mi1)
    (ht : ∀ (t : Shared) (H0 : Hp) (C : Addr) (cl : List (Str × Addr)) (fp : List Addr), SimTs T (X.blk t H0 scope (compEnvC scope cl C X.env) fp) Wno ifs mt)
    (he : ∀ (t : Shared) (H0 : Hp) (C : Addr) (cl : List (Str × Addr)) (fp : List Addr), SimE T (X.blk t H0 scope (compEnvC scope cl C X.env) fp) Wno elt me)
    (hs : ∀ x, foldedSetIterable iter X.env x = pure x) (hs1 : ∀ env x, foldedSetIterable iter1 env x = pure x) {own own1 : List Nat} (ho : own'.map (·.2) = own) (hv : ∀ i ∈ own1, i ∈ own) (hsl : ∀ i ∈ tgt.slots, i ∈ own) (hsl1 : ∀ i ∈ tgt1.slots, i ∈ own1) :
    SimE T X Wx (.ListComp elt [⟨tg, iter, [], 0⟩, ⟨tg1, iter1, ifs, 0⟩] scope pos) (lc2M mu tgt k own mi tgt1 k1 own1 mi1 mt me) := by
  intro r s H e h Q S hq pins t I
  exact (pe_lc2 (tt := tYes) hc hN pi_I ok (by rw [ho]; exact hv) hg (fun _ _ _ _ _ => pts_nil) pi_tIb hg1 pts_tTb pe_tEb hs hs1).run pins t s H Q I (simE_lc2 hK hc hN hi ok hg hg1 hi1 ht he hs hs1 ho hv hsl hsl1 S hq)
end
def MtSim (T : TabX) (X : Cx) (g : W → List W → Hep → Out W) (ty : String) (rr : V → List V → Hp → VK → Prop) : Prop := ∀ (Wx : WX) (r : Rho) (s : L2.St) (H : Hp) (h : Hep) (x : W) (ws : List W) (v : V) (vs : List V) (Q : VK), RelH T.toTab r h H → RelW T.toTab r H x v → RelWs T.toTab r H ws vs → PostE T Wx r s H (g x ws h) Q → rr v vs H Q
theorem ms_append : MtSim T X mAppend "list" rAppend := by
  intro Wx r s H h x ws v vs Q rh rx rs hq
  unfold mAppend at hq
  split at hq
  · rename_i a y
    obtain ⟨u, rfl, ru⟩ := one_of rs
    split at hq
    · rename_i xs g
      split at hq
      · rename_i hl
        cases rx with
        | ref h1 =>
          obtain ⟨us, hu, rus⟩ := lst_at rh h1 g
          refine ⟨_, us, u, rfl, rfl, hu, by rw [← rus.length, ← lim_eq]; exact hl, ?_⟩
          have nl : ∀ o, h.get a = some o → o.lk = false := fun o ho => by rw [g] at ho; cases ho; rfl
          have e := Ext.set rh (u := .lst (us ++ [u])) h1 nl
          exact hq r .non _ e (rh.set h1 nl ⟨_, upd_same, (rus.app (.cons ru .nil)).mono e⟩) .non
      · exact hq.elim
    · exact hq.elim
  · exact hq.elim
theorem base_of {o : Expr} {x : Str} {env : PySem.Env} {whole : Sem Value} (h : (match o with
    | .Call (.Name _ _) [] [] _ => false
    | _ => true) = true) : attributeBase o x env whole = whole := by
  unfold attributeBase
  split
  · cases h
  · rfl
theorem simE_bm {id : String} {x : Str} {ty : String} {rr : V → List V → Hp → VK → Prop} {g : W → List W → Hep → Out W} {ok : W → Hep → Bool} {o a : Expr} {as : List Expr} {ap cp : Pos} {mo : Env → Hep → Out W} {ms : Env → Hep → Out (List W)}
    (pa : PlainAttrs ty) (slot : Slot ty x id) (hty : typeOf (.builtin id) = pure (.type "method_descriptor")) (hm : MtR X id rr) (hr : MtSim T X g ty rr) (hk : ∀ r h H w v, RelH T.toTab r h H → RelW T.toTab r H w v → ok w h = true → tyV X.K ty v H)
    (ho : SimE T X Wx o mo) (hs : SimA T X Wx (a :: as) ms) (hb : attributeBase o x X.env (eval o X.env) = eval o X.env) (hst : (a :: as).all noStar = true) (hl : as.length < 20) (hline : (ap.endLine == cp.line) = true) :
    SimE T X Wx (.Call (.Attribute o x ap) (a :: as) [] cp) (fun e h => (mo e h).bind fun x h1 => if ok x h1 then (ms e h1).bind fun ws h2 => g x ws h2 else .bad) := by
  intro r s H e h Q S hq pins t I
  have h1 : noStar a = true ∧ as.all noStar = true := by rw [List.all_cons, Bool.and_eq_true] at hst; exact hst
  have few : ∀ (l : List Expr), l.all noStar = true → (backTo cp (starEach l X.env)).all (fun x => !x.1) = true := by
    intro l hl
    have h2 := star_any (env := X.env) hl
    rw [← backTo_any cp] at h2
    rw [List.all_eq_not_any_not]
    simpa using h2
  refine (pe_bm pa slot hty hm pe_E pa_A hb ?_ hline (star_cons as X.env h1.1) (by rw [backTo_any]; exact star_any h1.2)).run pins t s H Q I ?_
  · rw [few _ hst, Bool.true_and, Bool.and_eq_true]
    exact ⟨rfl, decide_eq_true (by simp only [List.length_cons]; show as.length + 1 + 0 + 0 < 30; omega)⟩
  · refine ho r s H e h _ S (hq.bind fun r1 v H1 w h1 e1 rh1 rv hq1 => ?_)
    by_cases z : ok w h1 = true
    · rw [if_pos z] at hq1
      refine ⟨hk r1 h1 H1 w v rh1 rv z, hs r1 s H1 e h1 _ (S.next e1 rh1) (hq1.bind fun r2 vs H2 ws h2 e2 rh2 rs hq2 => ?_)⟩
      exact hr Wx r2 s H2 h2 w ws v vs Q rh2 (rv.mono e2) rs hq2
    · rw [if_neg z] at hq1
      exact hq1.elim
theorem recv_list (hK : T.K = X.K) {r : Rho} {h : Hep} {H : Hp} {w : W} {v : V} (rh : RelH T.toTab r h H) (rv : RelW T.toTab r H w v) (e : (listOf h w).isSome = true) : tyV X.K "list" v H := by
  cases q : listOf h w with
  | none => rw [q] at e; cases e
  | some xs =>
    obtain ⟨p, vs, rfl, h1, _⟩ := listOf_at rh rv q
    exact .inl ⟨rfl, _, hK ▸ h1⟩
/-- what the evaluator says of a call, as a promise -/
def spEv (P : Pg) (T : TabX) (n f m : Nat) : Sp := fun vs H Q E => vs.length = m ∧ ∃ (r : Rho) (ws : List W) (h : Hep), RelH T.toTab r h H ∧ RelWs T.toTab r H ws vs ∧ PostE T (fun c d _ H' => E c d H') r [] H (callN P n f ws h) Q
theorem spEv_of {P : Pg} {n f m : Nat} {r : Rho} {ws : List W} {vs : List V} {h : Hep} {H : Hp} {Q : VK} {s : L2.St} (rh : RelH T.toTab r h H) (rs : RelWs T.toTab r H ws vs) (hl : vs.length = m) (hq : PostE T Wx r s H (callN P n f ws h) Q) : spEv P T n f m vs H Q (WE Wx s) := by
  refine ⟨hl, r, ws, h, rh, rs, ?_⟩
  cases q : callN P n f ws h with
  | ok w h' => rw [q] at hq; exact hq
  | exc c p h' => rw [q] at hq; exact hq
  | bad => rw [q] at hq; exact hq
theorem callN_len {P : Pg} {n f : Nat} {ws : List W} {h : Hep} {fn : Fn} (hf : nth P.fns f = some fn) (hl : ws.length ≠ fn.np) : callN P n f ws h = .bad := by
  cases n with
  | zero => rfl
  | succ n =>
    unfold callN
    rw [hf]
    simp only
    rw [if_neg hl]
theorem simE_cal {P : Pg} {n f : Nat} {fn : Fn} {fa : Addr} {fd : FuncData} {ps : List Str} {x : Str} {p pos : Pos} {a : Expr} {as : List Expr} {ms : Env → Hep → Out (List W)} (tk : Takes X Wx) (F : FnOk X.prog X.w X.K X.mg X.base (L2.CX X.prog X.w) n fa fd ps (spEv P T n f fn.np)) (hf : nth P.fns f = some fn)
    (hr : Room n X.A) (hg : Gl X x) (hm : X.mg x = some (.ref fa)) (hk : PySem.W.keepIn X.K (.ref fa) = true) (hb : Binds X.K fd ps []) (hd : (x == ("__debug__" : Str)) = false) (hs : SimA T X Wx (a :: as) ms) (hst : (a :: as).all noStar = true) :
    SimE T X Wx (.Call (.Name x p) (a :: as) [] pos) (fun e h => (ms e h).bind fun ws h1 => callN P n f ws h1) := by
  intro r s H e h Q S hq pins t I
  have h1 : noStar a = true ∧ as.all noStar = true := by rw [List.all_cons, Bool.and_eq_true] at hst; exact hst
  refine (pe_callS (E := WE Wx) F hr hg hm hk hb (fun σ => passAt tk σ) pa_A hd (star_cons as X.env h1.1) (by rw [backTo_any]; exact star_any h1.2)).run pins t s H Q I ?_
  refine hs r s H e h _ S (hq.bind fun r1 v H1 a h1 e1 rh1 rv hq1 => ?_)
  refine spEv_of rh1 rv ?_ hq1
  rw [← rv.length]
  by_cases z : a.length = fn.np
  · exact z
  · rw [callN_len hf z] at hq1; exact hq1.elim
theorem simE_cal0 {P : Pg} {n f : Nat} {fn : Fn} {fa : Addr} {fd : FuncData} {ps : List Str} {x : Str} {p pos : Pos} (tk : Takes X Wx) (F : FnOk X.prog X.w X.K X.mg X.base (L2.CX X.prog X.w) n fa fd ps (spEv P T n f fn.np)) (hf : nth P.fns f = some fn)
    (hr : Room n X.A) (hg : Gl X x) (hm : X.mg x = some (.ref fa)) (hk : PySem.W.keepIn X.K (.ref fa) = true) (hb : Binds X.K fd ps []) (hd : (x == ("__debug__" : Str)) = false) :
    SimE T X Wx (.Call (.Name x p) [] [] pos) (fun _ h => callN P n f [] h) := by
  intro r s H e h Q S hq pins t I
  have hq : PostE T Wx r s H (callN P n f [] h) Q := hq
  refine wpAny_Call_Name_kw (ld_glob I hg hm ?_ hd)
  refine PySem.W.callWith_K0 I.kIn hk (run_fnS (us := []) (E := WE Wx) F hr hb (passAt tk s) I .nil (spEv_of S.hp .nil ?_ hq))
  by_cases z : ([] : List W).length = fn.np
  · exact z
  · rw [callN_len hf z] at hq; exact hq.elim
end
end Ev

namespace Ev
open PySem PySem.Spec PyProof.Rows L2
section
variable {T : TabX} {X : Cx} {Wx : WX} {mu : Bool}
def BigD (T : TabX) (Wx : WX) (mu : Bool) (r1 : Rho) (s : L2.St) (H1 : Hp) (Q : VK) (o : Out (List (W × W))) : Prop := PostE T Wx r1 s H1 (o.calm.bind fun acc h5 => laidD mu h5 acc) Q
theorem BigD.ok {r1 : Rho} {s : L2.St} {H1 : Hp} {Q : VK} {α : Type} {o : Out α} {g : α → Hep → Out (List (W × W))} (B : BigD T Wx mu r1 s H1 Q (o.bind g)) : ∃ a h, o = .ok a h ∧ BigD T Wx mu r1 s H1 Q (g a h) := by
  cases o with
  | ok a h => exact ⟨a, h, rfl, B⟩
  | exc c p h => exact B.elim
  | bad => exact B.elim
theorem BigD.post {r1 : Rho} {s : L2.St} {H1 : Hp} {Q : VK} {α β : Type} {o : Out α} {g : α → Hep → Out (List (W × W))} (B : BigD T Wx mu r1 s H1 Q (o.bind g)) {R : Rho → Hp → α → β → Prop} {r : Rho} {s2 : L2.St} {H : Hp} {Q1 : β → Hp → Prop}
    (k : ∀ (r2 : Rho) (v : β) (H2 : Hp) (a : α) (h2 : Hep), Ext r r2 H H2 → RelH T.toTab r2 h2 H2 → R r2 H2 a v → BigD T Wx mu r1 s H1 Q (g a h2) → Q1 v H2) : Post T Wno R r s2 H o Q1 := by
  obtain ⟨a, h, rfl, B⟩ := B.ok
  exact fun r2 v H2 e rh rv => k r2 v H2 a h e rh rv B
/-- the dict under way, at D -/
structure MidD (T : TabX) (r1 : Rho) (H1 : Hp) (D : Addr) (r : Rho) (h : Hep) (H : Hp) (acc : List (W × W)) (ks : List (L2.Key × V)) : Prop where
  ext : Ext r1 r H1 H
  hp : RelH T.toTab r h H
  off : ∀ a, r a ≠ some D
  nz : ¬ r.z D
  at_ : H D = some (.dK ks)
  rel : RelKv T.toTab r H acc ks
theorem dk_notup {ks : List (L2.Key × V)} : ∀ xs, (HO.dK ks : HO) ≠ .tup xs := fun xs z => by cases z
theorem MidD.step {r1 r r2 : Rho} {H1 H H2 : Hp} {D : Addr} {h h2 : Hep} {acc : List (W × W)} {ks : List (L2.Key × V)} (M : MidD T r1 H1 D r h H acc ks) (e : Ext r r2 H H2) (rh : RelH T.toTab r2 h2 H2) : MidD T r1 H1 D r2 h2 H2 acc ks :=
  ⟨M.ext.trans e, rh, e.off M.at_ M.off, (e.oth D _ M.at_ M.off M.nz).2, (e.oth D _ M.at_ M.off M.nz).1, M.rel.kp e.kp⟩
theorem MidD.add {r1 r : Rho} {H1 H : Hp} {D : Addr} {h h1 : Hep} {acc : List (W × W)} {ks : List (L2.Key × V)} (rh1 : RelH T.toTab r1 h1 H1) (hD : H1 D = none) (M : MidD T r1 H1 D r h H acc ks) {x w : W} {q : L2.Key} {v : V} (hk : keyW x = some q) (rv : RelW T.toTab r H w v) : MidD T r1 H1 D r h (upd H D (.dK (putK ks q v))) (dput acc x w) (putK ks q v) :=
  ⟨M.ext.over rh1 hD, M.hp.sideG M.at_ dk_notup M.off M.nz, M.off, M.nz, upd_same, (M.rel.put hk rv).kp (Kp.sideG M.at_ dk_notup M.nz)⟩
theorem MidD.start {r1 : Rho} {H1 : Hp} {D : Addr} {h : Hep} (rh : RelH T.toTab r1 h H1) (hD : H1 D = none) : MidD T r1 H1 D r1 h (upd H1 D (.dK [])) [] [] :=
  ⟨Ext.alloc rh hD, rh.alloc hD, rh.off hD, fun z => (by
    obtain ⟨u, hu, _⟩ := rh.zl D z
    rw [hu] at hD
    cases hD), upd_same, .nil⟩
theorem MidD.done {r1 r : Rho} {H1 H : Hp} {D : Addr} {h : Hep} {acc : List (W × W)} {ks : List (L2.Key × V)} {s : L2.St} {Q : VK} (hD : H1 D = none) (M : MidD T r1 H1 D r h H acc ks) (B : BigD T Wx mu r1 s H1 Q (.ok acc h)) : Q (.ref D) H := by
  have B : PostE T Wx r1 s H1 (laidD mu h acc) Q := B
  cases mu with
  | true => exact B _ _ _ (Ext.nameG M.ext M.hp hD) (M.hp.nameG M.off M.nz ⟨ks, M.at_, M.rel.kp (M.hp.kpN D)⟩) (.ref (ins_same _ _ _))
  | false => exact B (fz r D) (.ref D) H (M.ext.fzG hD) (M.hp.fz M.at_ (fun _ z => by cases z) M.off) (.dct (.inl rfl) (.inl M.at_) (M.rel.kp (Kp.fz D)))
theorem MidD.grow {r1 r : Rho} {H1 H : Hp} {D : Addr} {h : Hep} {acc : List (W × W)} {ks : List (L2.Key × V)} {s : L2.St} {Q : VK} {x y : W} {g : List (W × W) → Hep → Out (List (W × W))} (M : MidD T r1 H1 D r h H acc ks) (B : BigD T Wx mu r1 s H1 Q ((growD acc x y h).bind g)) :
    ∃ q, keyW x = some q ∧ ks.length < sizeLine ∧ BigD T Wx mu r1 s H1 Q (g (dput acc x y) h) := by
  unfold Ev.growD at B
  cases z : keyW x with
  | none => rw [z] at B; exact B.elim
  | some q =>
    rw [z] at B
    simp only at B
    by_cases l : acc.length < lim
    · rw [if_pos l] at B
      exact ⟨q, rfl, by rw [← M.rel.length, ← lim_eq]; exact l, B⟩
    · rw [if_neg l] at B
      exact B.elim
def turnD (tg : Tg) (own : List Nat) (mt : Env → Hep → Out Bool) (mk mv : Env → Hep → Out W) (e : Env) : List (W × W) → W → Hep → Out (List (W × W)) := fun acc w h2 => (match tg.put (wipeE e own) w with
    | some e2 => (mt e2 h2).bind fun b h3 => if b then (mk e2 h3).bind fun x h4 => (mv e2 h4).bind fun y h5 => growD acc x y h5 else .ok acc h3
    | none => .bad)
def dcM (mu : Bool) (tg : Tg) (k : Ik) (own : List Nat) (mi : Env → Hep → Out (List W)) (mt : Env → Hep → Out Bool) (mk mv : Env → Hep → Out W) : Env → Hep → Out W := fun e h => (mi e h).bind fun vs h1 => (match walk k vs h1 with
    | some s => (turnsD s (turnD tg own mt mk mv e) s.len 0 [] h1).calm.bind fun acc h5 => laidD mu h5 acc
    | none => .bad)
section
variable {kx vx tg iter : Expr} {ifs : List Expr} {scope : Scope} {own' : List (Str × Nat)} {pos : Pos} {tgt : Tg} {k : Ik} {mi : Env → Hep → Out (List W)} {mt : Env → Hep → Out Bool} {mk mv : Env → Hep → Out W}
theorem dc_turn (hK : T.K = X.K) (ht : ∀ (t : Shared) (H0 : Hp) (C : Addr) (cl : List (Str × Addr)) (fp : List Addr), SimTs T (X.blk t H0 scope (compEnvC scope cl C X.env) fp) Wno ifs mt)
    (hk : ∀ (t : Shared) (H0 : Hp) (C : Addr) (cl : List (Str × Addr)) (fp : List Addr), SimE T (X.blk t H0 scope (compEnvC scope cl C X.env) fp) Wno kx mk)
    (hv : ∀ (t : Shared) (H0 : Hp) (C : Addr) (cl : List (Str × Addr)) (fp : List Addr), SimE T (X.blk t H0 scope (compEnvC scope cl C X.env) fp) Wno vx mv)
    {own : List Nat} (hsl : ∀ i ∈ tgt.slots, i ∈ own) {r1 : Rho} {H1 : Hp} {k1 : Hep} (rh1 : RelH T.toTab r1 k1 H1) {s0 : L2.St} {Q : VK} {D : Addr} (hD : H1 D = none) {r : Rho} {h : Hep} {H : Hp} {acc : List (W × W)} {ks : List (L2.Key × V)} {e : Env} {s : L2.St} {w : W} {v : V} {g : List (W × W) → Hep → Out (List (W × W))} {Nx : Hp → Prop}
    (M : MidD T r1 H1 D r h H acc ks) (S : RelS T.toTab r e h s H) (rv : RelW T.toTab r H w v) (B : BigD T Wx mu r1 s0 H1 Q ((turnD tgt own mt mk mv e acc w h).bind g))
    (hN : ∀ r2 h2 H2 acc2 ks2, Kp r r2 H H2 → MidD T r1 H1 D r2 h2 H2 acc2 ks2 → BigD T Wx mu r1 s0 H1 Q (g acc2 h2) → Nx H2) :
    gTg X.K tgt v (wipe s own) H fun s2 H2 => wipe s2 own = wipe s own ∧ tTb X scope ifs s2 H2 fun b H3 => if b = true then tEb X scope kx s2 H3 fun y H4 => tEb X scope vx s2 H4 fun z H5 => ∃ kvs q, y = kV q ∧ H5 D = some (.dK kvs) ∧ kvs.length < sizeLine ∧ Nx (upd H5 D (.dK (putK kvs q z))) else Nx H3 := by
  unfold turnD at B
  cases q : tgt.put (wipeE e own) w with
  | none => simp only [q] at B; exact B.elim
  | some e2 =>
    simp only [q] at B
    rw [bind_assoc'] at B
    refine gTg_ok hK (S.wipe own) rv q fun s2 S2 hw => ⟨?_, ?_⟩
    · rw [hw own hsl]
      exact wipe_wipe s own
    · intro t H0 C cl fp
      refine ht t H0 C cl fp r s2 H e2 h _ S2 (B.post fun r3 b H3 b' h3 e3 rh3 rb B3 => ?_)
      subst rb
      cases b' with
      | false => exact iteF (hN r3 h3 H3 acc ks e3.kp (M.step e3 rh3) B3)
      | true =>
        refine iteT fun t H0 C cl fp => ?_
        have B3 : BigD T Wx mu r1 s0 H1 Q (((mk e2 h3).bind fun x h4 => (mv e2 h4).bind fun y h5 => growD acc x y h5).bind g) := B3
        rw [bind_assoc'] at B3
        refine hk t H0 C cl fp r3 s2 H3 e2 h3 _ (S2.next e3 rh3) (B3.post fun r4 y H4 y' h4 e4 rh4 ry B4 => ?_)
        intro t H0 C cl fp
        rw [bind_assoc'] at B4
        refine hv t H0 C cl fp r4 s2 H4 e2 h4 _ ((S2.next e3 rh3).next e4 rh4) (B4.post fun r5 z H5 z' h5 e5 rh5 rz B5 => ?_)
        have M5 := ((M.step e3 rh3).step e4 rh4).step e5 rh5
        obtain ⟨q, g0, g1, g2⟩ := M5.grow B5
        exact ⟨ks, q, key_rel ry g0, M5.at_, g1, hN r5 h5 _ _ _ (((e3.kp.trans e4.kp).trans e5.kp).trans (Kp.sideG M5.at_ dk_notup M5.nz)) (M5.add rh1 hD g0 rz) g2⟩
theorem dc_loop {J : It} {src : Src} {r1 : Rho} {H1 : Hp} {s0 : L2.St} {Q : VK} {D : Addr} (hD : H1 D = none) {rS : Rho} {HS : Hp} (so : SrcOk T rS HS src J) {f : List (W × W) → W → Hep → Out (List (W × W))} {g : List (W × W) → Hep → Out (List (W × W))} {st : V → Hp → (Hp → Prop) → Prop} {Fin : Hp → Prop}
    (step : ∀ (r : Rho) (h : Hep) (H : Hp) (acc : List (W × W)) (vs : List (L2.Key × V)) (w : W) (v : V) (g' : List (W × W) → Hep → Out (List (W × W))) (Nx : Hp → Prop), Kp rS r HS H → MidD T r1 H1 D r h H acc vs → RelW T.toTab r H w v → BigD T Wx mu r1 s0 H1 Q ((f acc w h).bind g') →
      (∀ r2 h2 H2 acc2 vs2, Kp r r2 H H2 → MidD T r1 H1 D r2 h2 H2 acc2 vs2 → BigD T Wx mu r1 s0 H1 Q (g' acc2 h2) → Nx H2) → st v H Nx)
    (fin : ∀ (r : Rho) (h : Hep) (H : Hp) (acc : List (W × W)) (vs : List (L2.Key × V)), Kp rS r HS H → MidD T r1 H1 D r h H acc vs → BigD T Wx mu r1 s0 H1 Q (g acc h) → Fin H)
    {r : Rho} {h : Hep} {H : Hp} {acc : List (W × W)} {vs : List (L2.Key × V)} (k0 : Kp rS r HS H) (M : MidD T r1 H1 D r h H acc vs) (B : BigD T Wx mu r1 s0 H1 Q ((turnsD src f src.len 0 acc h).bind g)) :
    ∃ W : Nat → Nat → Hp → Prop, (∃ m, W 0 m H) ∧ ∀ i m H, W i m H → (J.stop i H ∧ Fin H) ∨ (J.go i H ∧ ∃ Nx : Hp → Prop, (∀ H', Nx H' → ∃ m', m' < m ∧ W (i + 1) m' H') ∧ ∀ x H', J.yld i H x H' → st x H' Nx) := by
  refine ⟨fun i m H => i + m = src.len ∧ ∃ r h acc vs, Kp rS r HS H ∧ MidD T r1 H1 D r h H acc vs ∧ BigD T Wx mu r1 s0 H1 Q ((turnsD src f m i acc h).bind g), ⟨src.len, Nat.zero_add _, r, h, acc, vs, k0, M, B⟩, ?_⟩
  rintro i m H ⟨hm, r, h, acc, vs, kp, M, B⟩
  cases m with
  | zero =>
    have hi : i = src.len := by omega
    subst hi
    refine .inl ?_
    unfold turnsD at B
    cases q : src.ends h with
    | false => rw [q, if_neg (by decide)] at B; exact B.elim
    | true =>
      rw [q, if_pos rfl] at B
      exact ⟨(so.kp kp).stop M.hp q, fin r h H acc vs kp M B⟩
  | succ m =>
    refine .inr ?_
    unfold turnsD at B
    cases q : src.at i h with
    | none => simp only [q] at B; exact B.elim
    | some w =>
      simp only [q] at B
      rw [bind_assoc'] at B
      obtain ⟨g1, g2⟩ := (so.kp kp).go M.hp (by omega) q
      refine ⟨g1, fun H' => ∃ r h acc vs, Kp rS r HS H' ∧ MidD T r1 H1 D r h H' acc vs ∧ BigD T Wx mu r1 s0 H1 Q ((turnsD src f m (i + 1) acc h).bind g), fun H' hN => ⟨m, Nat.lt_succ_self _, by omega, hN⟩, fun x H' y => ?_⟩
      obtain ⟨e1, rh1, rx⟩ := g2 x H' y
      refine step r h H' acc vs w x _ _ (kp.trans e1.kp) (M.step e1 rh1) rx B fun r2 h2 H2 acc2 vs2 k2 M2 B2 => ?_
      exact ⟨r2, h2, acc2, vs2, (kp.trans e1.kp).trans k2, M2, B2⟩
theorem simE_dc (hK : T.K = X.K) (hc : X.calm = true) (hN : X.N.Nodup) (hi : SimI T X Wx tg iter k mi) (ok : BlkOk X.N X.env.scope scope own')
    (hg : ∀ (t : Shared) (H0 : Hp) (C : Addr) (cl : List (Str × Addr)) (fp : List Addr), PG (X.blk t H0 scope (compEnvC scope cl C X.env) fp) tg (gTg X.K tgt))
    (ht : ∀ (t : Shared) (H0 : Hp) (C : Addr) (cl : List (Str × Addr)) (fp : List Addr), SimTs T (X.blk t H0 scope (compEnvC scope cl C X.env) fp) Wno ifs mt)
    (hk : ∀ (t : Shared) (H0 : Hp) (C : Addr) (cl : List (Str × Addr)) (fp : List Addr), SimE T (X.blk t H0 scope (compEnvC scope cl C X.env) fp) Wno kx mk)
    (hv : ∀ (t : Shared) (H0 : Hp) (C : Addr) (cl : List (Str × Addr)) (fp : List Addr), SimE T (X.blk t H0 scope (compEnvC scope cl C X.env) fp) Wno vx mv)
    (hs : ∀ x, foldedSetIterable iter X.env x = pure x) {own : List Nat} (ho : own'.map (·.2) = own) (hsl : ∀ i ∈ tgt.slots, i ∈ own) {r : Rho} {s : L2.St} {H : Hp} {e : Env} {h : Hep} {Q : VK} (S : RelS T.toTab r e h s H) (hq : PostE T Wx r s H (dcM mu tgt k own mi mt mk mv e h) Q) :
    tDc (tI X tg iter) (gTg X.K tgt) (tTb X scope ifs) (tEb X scope kx) (tEb X scope vx) (own'.map (·.2)) s H Q := by
  rw [ho]
  unfold dcM at hq
  refine hi r s H e h _ S ?_
  unfold PostI walkM
  have hq : PostE T Wx r s H (((mi e h).bind fun vs h1 => .some' (walk k vs h1) h1).bind fun src h1 => (turnsD src (turnD tgt own mt mk mv e) src.len 0 [] h1).calm.bind fun acc h5 => laidD mu h5 acc) Q := by
    rw [bind_assoc']
    cases q : mi e h with
    | ok vs h1 =>
      simp only [q, Out.bind] at hq ⊢
      cases q2 : walk k vs h1 <;> simp only [q2, Out.some'] at hq ⊢ <;> exact hq
    | exc _ _ _ => simp only [q, Out.bind] at hq ⊢; exact hq
    | bad => simp only [q, Out.bind] at hq ⊢; exact hq
  refine hq.bind fun r1 J H1 src h1 e1 rh1 so B => fun D hD => ?_
  have S1 := S.next e1 rh1
  have B : BigD T Wx mu r1 s H1 Q ((turnsD src (turnD tgt own mt mk mv e) src.len 0 [] h1).bind fun acc h => .ok acc h) := by
    have z : (turnsD src (turnD tgt own mt mk mv e) src.len 0 [] h1).bind (fun acc h => .ok acc h) = turnsD src (turnD tgt own mt mk mv e) src.len 0 [] h1 := by
      cases turnsD src (turnD tgt own mt mk mv e) src.len 0 [] h1 <;> rfl
    rw [z]
    exact B
  exact dc_loop (Wx := Wx) (rS := r1) (HS := H1) hD so (st := fun x H' Nx => gTg X.K tgt x (wipe s own) H' fun s2 H2 => wipe s2 own = wipe s own ∧ tTb X scope ifs s2 H2 fun b H3 => if b = true then tEb X scope kx s2 H3 fun y H4 => tEb X scope vx s2 H4 fun z H5 => ∃ kvs q, y = kV q ∧ H5 D = some (.dK kvs) ∧ kvs.length < sizeLine ∧ Nx (upd H5 D (.dK (putK kvs q z))) else Nx H3)
    (fun ra ha Ha acc vs w v g' Nx kp M rv B' hN' => dc_turn hK ht hk hv hsl rh1 hD M (S1.kp kp M.hp) rv B' hN') (fun ra ha Ha acc vs kp M B' => M.done hD B') (Ext.alloc rh1 hD).kp (MidD.start rh1 hD) B
theorem simE_dco (hK : T.K = X.K) (hc : X.calm = true) (hN : X.N.Nodup) (hi : SimI T X Wx tg iter k mi) (ok : BlkOk X.N X.env.scope scope own')
    (hg : ∀ (t : Shared) (H0 : Hp) (C : Addr) (cl : List (Str × Addr)) (fp : List Addr), PG (X.blk t H0 scope (compEnvC scope cl C X.env) fp) tg (gTg X.K tgt))
    (ht : ∀ (t : Shared) (H0 : Hp) (C : Addr) (cl : List (Str × Addr)) (fp : List Addr), SimTs T (X.blk t H0 scope (compEnvC scope cl C X.env) fp) Wno ifs mt)
    (hk : ∀ (t : Shared) (H0 : Hp) (C : Addr) (cl : List (Str × Addr)) (fp : List Addr), SimE T (X.blk t H0 scope (compEnvC scope cl C X.env) fp) Wno kx mk)
    (hv : ∀ (t : Shared) (H0 : Hp) (C : Addr) (cl : List (Str × Addr)) (fp : List Addr), SimE T (X.blk t H0 scope (compEnvC scope cl C X.env) fp) Wno vx mv)
    (hs : ∀ x, foldedSetIterable iter X.env x = pure x) {own : List Nat} (ho : own'.map (·.2) = own) (hsl : ∀ i ∈ tgt.slots, i ∈ own) : SimE T X Wx (.DictComp kx vx [⟨tg, iter, ifs, 0⟩] scope pos) (dcM mu tgt k own mi mt mk mv) := by
  intro r s H e h Q S hq pins t I
  exact (pe_dc hc hN pi_I ok hg pts_tTb pe_tEb pe_tEb hs).run pins t s H Q I (simE_dc hK hc hN hi ok hg ht hk hv hs ho hsl S hq)
/-- name = {..} on one line, the name a local -/
theorem ps_setDc {i : Nat} {y : Str} {py spos : Pos} {wi : TI} {g : TG} {tt : TT} {tk tv : TE} (hc : X.calm = true) (hN : X.N.Nodup) (hy : X.N[i]? = some y) (hyl : X.env.scope.names.lookup y = some .local)
    (hsw : swapsWith (.DictComp kx vx [⟨tg, iter, ifs, 0⟩] scope pos) (some (.Name y py)) spos.line X.env = pure true) (hi : PI X tg iter wi) (ok : BlkOk X.N X.env.scope scope own')
    (hg : ∀ (s : Shared) (H : Hp) (C : Addr) (cl : List (Str × Addr)) (fp : List Addr), PG (X.blk s H scope (compEnvC scope cl C X.env) fp) tg g) (ht : ∀ (s : Shared) (H : Hp) (C : Addr) (cl : List (Str × Addr)) (fp : List Addr), PTs (X.blk s H scope (compEnvC scope cl C X.env) fp) ifs tt)
    (hk : ∀ (s : Shared) (H : Hp) (C : Addr) (cl : List (Str × Addr)) (fp : List Addr), PE (X.blk s H scope (compEnvC scope cl C X.env) fp) kx tk)
    (he : ∀ (s : Shared) (H : Hp) (C : Addr) (cl : List (Str × Addr)) (fp : List Addr), PE (X.blk s H scope (compEnvC scope cl C X.env) fp) vx tv) (hs : ∀ x, foldedSetIterable iter X.env x = pure x) :
    PS X (.Assign [.Name y py] (.DictComp kx vx [⟨tg, iter, ifs, 0⟩] scope pos) spos) (tAsg (tDc wi g tt tk tv (own'.map (·.2))) (gName i)) := by
  refine ⟨fun pins s σ H D I h => ?_⟩
  rw [exec_Assign_Name_used _ _ _ _ hsw]
  refine wpAny_bind (wpAny_standAt (wpAny_bind ?_))
  show wpAny _ X.A (do let _ ← comprehension (.DictComp kx vx [⟨tg, iter, ifs, 0⟩] scope pos) scope X.env (firstIterPos [⟨tg, iter, ifs, 0⟩] pos) newDict false (eval iter X.env) (some (assign (.Name y py) X.env))) _ _ s
  have h : tDc wi g tt tk tv (own'.map (·.2)) σ H (fun x H1 => gName i x σ H1 D.nx) := h
  refine wpAny_bind (thn (dc_core (Qf := fun _ s' => SP X pins D .next s') hc hN I hi ok hg ht hk he hs h fun L C s' m H' I' q hn f => ?_) fun _ s' hq => wpAny_pure (wpAny_pure hq))
  show wpAny _ _ (assign (.Name y py) X.env (.ref L)) _ _ _
  refine wpAny_assign_Name (store_ok2 (v := V.ref L) I' hN hy (.inl hyl) rfl (fun s2 I2 ⟨a, sb, ha⟩ => ?_) (.inr hyl))
  obtain ⟨f0, f1, f2, f3, f4, f5⟩ := f
  have haC : C ≠ a := by
    rcases ha with z | z
    · rw [z]; exact f1
    · exact fun e => f4 y a z e.symm
  refine ⟨m, hn.sameBut sb haC, fun h3 sb3 => ?_⟩
  exact ⟨_, H', I2.turned (t' := s2.toks) (fun b o hb e => (sb3.2 b hb).trans e) f0 f1 f3 f4 f5, q⟩
end
end
end Ev

namespace Ev
open PySem PySem.Spec PyProof.Rows L2
def tS (X : Cx) (a : Stmt) : TS := fun D s H => ∀ (pins : List (Addr × Obj)) (t : Shared), Inv X pins s H t → wpAny (model X.prog X.w) X.A (exec a X.env) (SP X pins D) X.xe t
theorem ps_S {X : Cx} {a : Stmt} : PS X a (tS X a) := ⟨fun pins t _ _ _ I h => h pins t I⟩
def tSs (X : Cx) (a : List Stmt) : TS := fun D s H => ∀ (pins : List (Addr × Obj)) (t : Shared), Inv X pins s H t → wpAny (model X.prog X.w) X.A (execs a X.env) (SP X pins D) X.xe t
theorem pss_Ss {X : Cx} {a : List Stmt} : PSs X a (tSs X a) := ⟨fun pins t _ _ _ I h => h pins t I⟩
def PostS (T : TabX) (Wx : WX) (r : Rho) (H : Hp) (o : OutS) (D : Ends) : Prop := match o with
  | .ok f e h => (match f with
    | .nx => ∀ r' s' H', Ext r r' H H' → RelS T.toTab r' e h s' H' → D.nx s' H'
    | .ret w => ∀ r' v H', Ext r r' H H' → RelH T.toTab r' h H' → RelW T.toTab r' H' w v → D.rt v H'
    | .brk => ∀ r' s' H', Ext r r' H H' → RelS T.toTab r' e h s' H' → D.bk s' H'
    | .cnt => ∀ r' s' H', Ext r r' H H' → RelS T.toTab r' e h s' H' → D.ct s' H')
  | .exc c p e h => ∀ r' d H' v s', Ext r r' H H' → RelS T.toTab r' e h s' H' → RelW T.toTab r' H' p v → H' d = some (.xd [(T.eA c, v)]) → Wx (.ref (T.cA c)) (some d) s' H'
  | .bad => False
def SimS (T : TabX) (X : Cx) (Wx : WX) (a : Stmt) (m : Env → Hep → OutS) : Prop := ∀ (r : Rho) (s : L2.St) (H : Hp) (e : Env) (h : Hep) (D : Ends), RelS T.toTab r e h s H → PostS T Wx r H (m e h) D → tS X a D s H
def SimSs (T : TabX) (X : Cx) (Wx : WX) (a : List Stmt) (m : Env → Hep → OutS) : Prop := ∀ (r : Rho) (s : L2.St) (H : Hp) (e : Env) (h : Hep) (D : Ends), RelS T.toTab r e h s H → PostS T Wx r H (m e h) D → tSs X a D s H
section
variable {T : TabX} {X : Cx} {Wx : WX} {mu : Bool}
theorem PostS.later {r r1 : Rho} {H H1 : Hp} {o : OutS} {D : Ends} (x : Ext r r1 H H1) (h : PostS T Wx r H o D) : PostS T Wx r1 H1 o D := by
  cases o with
  | ok f e h' => cases f with
    | nx => exact fun r' s' H' e => h r' s' H' (x.trans e)
    | ret w => exact fun r' v H' e => h r' v H' (x.trans e)
    | brk => exact fun r' s' H' e => h r' s' H' (x.trans e)
    | cnt => exact fun r' s' H' e => h r' s' H' (x.trans e)
  | exc c p e h' => exact fun r' d H' v s' e => h r' d H' v s' (x.trans e)
  | bad => exact h
theorem PostS.stm {α β : Type} {R : Rho → Hp → α → β → Prop} {r : Rho} {s : L2.St} {H : Hp} {e : Env} {h : Hep} {o : Out α} {k : α → Hep → OutS} {D : Ends} {Q : β → Hp → Prop} (hm : PostS T Wx r H (o.stm e k) D) (S : RelS T.toTab r e h s H)
    (g : ∀ (r1 : Rho) (v : β) (H1 : Hp) (a : α) (h1 : Hep), Ext r r1 H H1 → RelH T.toTab r1 h1 H1 → R r1 H1 a v → PostS T Wx r1 H1 (k a h1) D → Q v H1) : Post T Wx R r s H o Q := by
  cases o with
  | ok a h1 => exact fun r1 v H1 e1 rh rv => g r1 v H1 a h1 e1 rh rv (PostS.later e1 hm)
  | exc c p h1 => exact fun r1 d H1 v e1 rh rv hd => hm r1 d H1 v s e1 (S.next e1 rh) rv hd
  | bad => exact hm
theorem simSs_nil : SimSs T X Wx [] (fun e h => .ok .nx e h) := by
  intro r s H e h D S hq pins t I
  exact pss_nil.run pins t s H D I (hq r s H (Ext.refl _ _) S)
theorem simSs_cons {a : Stmt} {as : List Stmt} {m1 m2 : Env → Hep → OutS} (h1 : SimS T X Wx a m1) (h2 : SimSs T X Wx as m2) : SimSs T X Wx (a :: as) (fun e h => (m1 e h).seq m2) := by
  intro r s H e h D S hq pins t I
  refine (pss_cons ps_S pss_Ss).run pins t s H D I ?_
  refine h1 r s H e h _ S ?_
  have hq : PostS T Wx r H ((m1 e h).seq m2) D := hq
  cases q : m1 e h with
  | ok f e1 k1 =>
    rw [q] at hq
    cases f with
    | nx => exact fun r' s' H' e' S' => h2 r' s' H' e1 k1 D S' (PostS.later e' hq)
    | ret w => exact hq
    | brk => exact hq
    | cnt => exact hq
  | exc c p e1 k1 => rw [q] at hq; exact hq
  | bad => rw [q] at hq; exact hq
theorem simS_ret {a : Expr} {pos : Pos} {ma : Env → Hep → Out W} (ha : SimE T X Wx a ma) : SimS T X Wx (.Return (some a) pos) (fun e h => (ma e h).stm e fun x h1 => .ok (.ret x) e h1) := by
  intro r s H e h D S hq pins t I
  refine (ps_ret pe_E).run pins t s H D I ?_
  refine ha r s H e h _ S (hq.stm S fun r1 v H1 x h1 e1 rh1 rv hq1 => ?_)
  exact hq1 r1 v H1 (Ext.refl _ _) rh1 rv
theorem simS_retN {pos : Pos} : SimS T X Wx (.Return none pos) (fun e h => .ok (.ret .non) e h) := by
  intro r s H e h D S hq pins t I
  exact ps_retN.run pins t s H D I (hq r .non H (Ext.refl _ _) S.hp .non)
theorem simS_pas {pos : Pos} : SimS T X Wx (.Pass pos) (fun e h => .ok .nx e h) := by
  intro r s H e h D S hq pins t I
  exact ps_pass.run pins t s H D I (hq r s H (Ext.refl _ _) S)
theorem simS_brk {pos : Pos} : SimS T X Wx (.Break pos) (fun e h => .ok .brk e h) := by
  intro r s H e h D S hq pins t I
  exact ps_break.run pins t s H D I (hq r s H (Ext.refl _ _) S)
theorem simS_cnt {pos : Pos} : SimS T X Wx (.Continue pos) (fun e h => .ok .cnt e h) := by
  intro r s H e h D S hq pins t I
  exact ps_continue.run pins t s H D I (hq r s H (Ext.refl _ _) S)
/-- not a comprehension, whose value may be stored from within -/
def noComp : Expr → Bool
  | .ListComp _ _ _ _ => false
  | .SetComp _ _ _ _ => false
  | .DictComp _ _ _ _ _ => false
  | _ => true
theorem swaps_no {a : Expr} {tg : Option Expr} {l : Nat} {env : PySem.Env} (h : noComp a = true) : swapsWith a tg l env = pure false := by
  cases a <;> first | rfl | cases h
theorem sole_no {a tg : Expr} {l : Nat} {env : PySem.Env} (h : noComp a = true) : swapsWithSole [tg] a l env = pure false := by
  unfold swapsWithSole
  exact swaps_no h
theorem simS_exp {a : Expr} {pos : Pos} {ma : Env → Hep → Out W} (ha : SimE T X Wx a ma) (hn : noComp a = true) : SimS T X Wx (.Expr a pos) (fun e h => (ma e h).stm e fun _ h1 => .ok .nx e h1) := by
  intro r s H e h D S hq pins t I
  refine (ps_expr pe_E (swaps_no hn)).run pins t s H D I ?_
  refine ha r s H e h _ S (hq.stm S fun r1 v H1 x h1 e1 rh1 rv hq1 => ?_)
  exact hq1 r1 s H1 (Ext.refl _ _) (S.next e1 rh1)
def putM (tg : Tg) (ma : Env → Hep → Out W) : Env → Hep → OutS := fun e h => (ma e h).stm e fun x h1 => (match tg.put e x with
    | some e1 => .ok .nx e1 h1
    | none => .bad)
theorem put_go (hK : T.K = X.K) {tg : Tg} {r1 : Rho} {v : V} {H1 : Hp} {x : W} {h1 : Hep} {e : Env} {s : L2.St} {D : Ends} (S1 : RelS T.toTab r1 e h1 s H1) (rv : RelW T.toTab r1 H1 x v) (hq1 : PostS T Wx r1 H1 (match tg.put e x with
    | some e1 => .ok .nx e1 h1
    | none => .bad) D) : gTg X.K tg v s H1 D.nx := by
  cases q : tg.put e x with
  | none => simp only [q] at hq1; exact hq1.elim
  | some e1 =>
    simp only [q] at hq1
    exact gTg_ok hK S1 rv q fun s' S' _ => hq1 r1 s' H1 (Ext.refl _ _) S'
theorem simS_asg {a tgE : Expr} {pos : Pos} {tg : Tg} {ma : Env → Hep → Out W} (hK : T.K = X.K) (ha : SimE T X Wx a ma) (hg : PG X tgE (gTg X.K tg)) (hs : swapsWithSole [tgE] a pos.line X.env = pure false) (hw : swappedStores [tgE] a X.env = pure none)
    (h1 : (assignEach [tgE] X.env).map (·.2) = [assign tgE X.env]) : SimS T X Wx (.Assign [tgE] a pos) (putM tg ma) := by
  intro r s H e h D S hq pins t I
  refine (ps_asg pe_E hg hs hw h1).run pins t s H D I ?_
  unfold putM at hq
  refine ha r s H e h _ S (hq.stm S fun r1 v H1 x h1 e1 rh1 rv hq1 => ?_)
  exact put_go hK (S.next e1 rh1) rv hq1
section
variable {elt tg iter : Expr} {ifs : List Expr} {scope : Scope} {own' : List (Str × Nat)} {pos spos py : Pos} {tgt : Tg} {k : Ik} {mi : Env → Hep → Out (List W)} {mt : Env → Hep → Out Bool} {me : Env → Hep → Out W} {i : Nat} {y : Str}
theorem simS_setLc (hK : T.K = X.K) (hc : X.calm = true) (hN : X.N.Nodup) (hi : SimI T X Wx tg iter k mi) (ok : BlkOk X.N X.env.scope scope own')
    (hg : ∀ (t : Shared) (H0 : Hp) (C : Addr) (cl : List (Str × Addr)) (fp : List Addr), PG (X.blk t H0 scope (compEnvC scope cl C X.env) fp) tg (gTg X.K tgt))
    (ht : ∀ (t : Shared) (H0 : Hp) (C : Addr) (cl : List (Str × Addr)) (fp : List Addr), SimTs T (X.blk t H0 scope (compEnvC scope cl C X.env) fp) Wno ifs mt)
    (he : ∀ (t : Shared) (H0 : Hp) (C : Addr) (cl : List (Str × Addr)) (fp : List Addr), SimE T (X.blk t H0 scope (compEnvC scope cl C X.env) fp) Wno elt me)
    (hs : ∀ x, foldedSetIterable iter X.env x = pure x) {own : List Nat} (ho : own'.map (·.2) = own) (hsl : ∀ i ∈ tgt.slots, i ∈ own)
    (hy : X.N[i]? = some y) (hyl : X.env.scope.names.lookup y = some .local) (hsw : swapsWith (.ListComp elt [⟨tg, iter, ifs, 0⟩] scope pos) (some (.Name y py)) spos.line X.env = pure true) :
    SimS T X Wx (.Assign [.Name y py] (.ListComp elt [⟨tg, iter, ifs, 0⟩] scope pos) spos) (putM (.nm i) (lcM mu tgt k own mi mt me)) := by
  intro r s H e h D S hq pins t I
  refine (ps_setLc hc hN hy hyl hsw pi_I ok hg pts_tTb pe_tEb hs).run pins t s H D I ?_
  unfold putM at hq
  refine simE_lc (Wx := Wx) hK hc hN hi ok hg ht he hs ho hsl S (hq.stm S fun r1 v H1 x h1 e1 rh1 rv hq1 => ?_)
  exact put_go (tg := .nm i) hK (S.next e1 rh1) rv hq1
theorem simS_setDc {kx vx : Expr} {mk mv : Env → Hep → Out W} (hK : T.K = X.K) (hc : X.calm = true) (hN : X.N.Nodup) (hi : SimI T X Wx tg iter k mi) (ok : BlkOk X.N X.env.scope scope own')
    (hg : ∀ (t : Shared) (H0 : Hp) (C : Addr) (cl : List (Str × Addr)) (fp : List Addr), PG (X.blk t H0 scope (compEnvC scope cl C X.env) fp) tg (gTg X.K tgt))
    (ht : ∀ (t : Shared) (H0 : Hp) (C : Addr) (cl : List (Str × Addr)) (fp : List Addr), SimTs T (X.blk t H0 scope (compEnvC scope cl C X.env) fp) Wno ifs mt)
    (hk : ∀ (t : Shared) (H0 : Hp) (C : Addr) (cl : List (Str × Addr)) (fp : List Addr), SimE T (X.blk t H0 scope (compEnvC scope cl C X.env) fp) Wno kx mk)
    (hv : ∀ (t : Shared) (H0 : Hp) (C : Addr) (cl : List (Str × Addr)) (fp : List Addr), SimE T (X.blk t H0 scope (compEnvC scope cl C X.env) fp) Wno vx mv)
    (hs : ∀ x, foldedSetIterable iter X.env x = pure x) {own : List Nat} (ho : own'.map (·.2) = own) (hsl : ∀ i ∈ tgt.slots, i ∈ own)
    (hy : X.N[i]? = some y) (hyl : X.env.scope.names.lookup y = some .local) (hsw : swapsWith (.DictComp kx vx [⟨tg, iter, ifs, 0⟩] scope pos) (some (.Name y py)) spos.line X.env = pure true) :
    SimS T X Wx (.Assign [.Name y py] (.DictComp kx vx [⟨tg, iter, ifs, 0⟩] scope pos) spos) (putM (.nm i) (dcM mu tgt k own mi mt mk mv)) := by
  intro r s H e h D S hq pins t I
  refine (ps_setDc hc hN hy hyl hsw pi_I ok hg pts_tTb pe_tEb pe_tEb hs).run pins t s H D I ?_
  unfold putM at hq
  refine simE_dc (Wx := Wx) hK hc hN hi ok hg ht hk hv hs ho hsl S (hq.stm S fun r1 v H1 x h1 e1 rh1 rv hq1 => ?_)
  exact put_go (tg := .nm i) hK (S.next e1 rh1) rv hq1
theorem simS_setLc2 {tg1 iter1 : Expr} {tgt1 : Tg} {k1 : Ik} {mi1 : Env → Hep → Out (List W)} (hK : T.K = X.K) (hc : X.calm = true) (hN : X.N.Nodup) (hi : SimI T X Wx tg iter k mi) (ok : BlkOk X.N X.env.scope scope own')
    (hg : ∀ (t : Shared) (H0 : Hp) (C : Addr) (cl : List (Str × Addr)) (fp : List Addr), PG (X.blk t H0 scope (compEnvC scope cl C X.env) fp) tg (gTg X.K tgt))
    (hg1 : ∀ (t : Shared) (H0 : Hp) (C : Addr) (cl : List (Str × Addr)) (fp : List Addr), PG (X.blk t H0 scope (compEnvC scope cl C X.env) fp) tg1 (gTg X.K tgt1))
    (hi1 : ∀ (t : Shared) (H0 : Hp) (C : Addr) (cl : List (Str × Addr)) (fp : List Addr), SimI T (X.blk t H0 scope (compEnvC scope cl C X.env) fp) Wno tg1 iter1 k1 mi1)
    (ht : ∀ (t : Shared) (H0 : Hp) (C : Addr) (cl : List (Str × Addr)) (fp : List Addr), SimTs T (X.blk t H0 scope (compEnvC scope cl C X.env) fp) Wno ifs mt)
    (he : ∀ (t : Shared) (H0 : Hp) (C : Addr) (cl : List (Str × Addr)) (fp : List Addr), SimE T (X.blk t H0 scope (compEnvC scope cl C X.env) fp) Wno elt me)
    (hs : ∀ x, foldedSetIterable iter X.env x = pure x) (hs1 : ∀ env x, foldedSetIterable iter1 env x = pure x) {own own1 : List Nat} (ho : own'.map (·.2) = own) (hv : ∀ i ∈ own1, i ∈ own) (hsl : ∀ i ∈ tgt.slots, i ∈ own) (hsl1 : ∀ i ∈ tgt1.slots, i ∈ own1)
    (hy : X.N[i]? = some y) (hyl : X.env.scope.names.lookup y = some .local) (hsw : swapsWith (.ListComp elt [⟨tg, iter, [], 0⟩, ⟨tg1, iter1, ifs, 0⟩] scope pos) (some (.Name y py)) spos.line X.env = pure true) :
    SimS T X Wx (.Assign [.Name y py] (.ListComp elt [⟨tg, iter, [], 0⟩, ⟨tg1, iter1, ifs, 0⟩] scope pos) spos) (putM (.nm i) (lc2M mu tgt k own mi tgt1 k1 own1 mi1 mt me)) := by
  intro r s H e h D S hq pins t I
  refine (ps_setLc2 (tt := tYes) hc hN hy hyl hsw pi_I ok (by rw [ho]; exact hv) hg (fun _ _ _ _ _ => pts_nil) pi_tIb hg1 pts_tTb pe_tEb hs hs1).run pins t s H D I ?_
  unfold putM at hq
  refine simE_lc2 (Wx := Wx) hK hc hN hi ok hg hg1 hi1 ht he hs hs1 ho hv hsl hsl1 S (hq.stm S fun r1 v H1 x h1 e1 rh1 rv hq1 => ?_)
  exact put_go (tg := .nm i) hK (S.next e1 rh1) rv hq1
end
/-- a, b = x, y: no tuple is made -/
theorem tup_put {ms : Env → Hep → Out (List W)} {is : List Nat} {e : Env} {h : Hep} {r : Rho} {s : L2.St} {H : Hp} {D : Ends} {Q : List V → Hp → Prop} (S : RelS T.toTab r e h s H) (hq : PostS T Wx r H (putM (.tp is) (fun e h => (ms e h).bind fun ws h1 => newT h1 ws) e h) D)
    (k : ∀ r1 vs H1 ws h1, Ext r r1 H H1 → RelH T.toTab r1 h1 H1 → RelWs T.toTab r1 H1 ws vs → PostS T Wx r1 H1 (match setVs e is ws with
      | some e1 => .ok .nx e1 h1
      | none => .bad) D → Q vs H1) : PostA T Wx r s H (ms e h) Q := by
  unfold putM at hq
  have hq : PostS T Wx r H ((ms e h).stm e fun ws h1 => (newT h1 ws).stm e fun x h2 => (match (Tg.tp is).put e x with
    | some e1 => .ok .nx e1 h2
    | none => .bad)) D := by
    cases q : ms e h <;> simp only [q, Out.bind, Out.stm] at hq ⊢ <;> exact hq
  refine hq.stm S fun r1 vs H1 ws h1 e1 rh1 rs hq1 => k r1 vs H1 ws h1 e1 rh1 rs ?_
  unfold newT at hq1
  by_cases z : ws.length ≤ lim
  · rw [if_pos z] at hq1
    exact hq1
  · rw [if_neg z] at hq1
    exact hq1.elim
theorem set2 {e e' : Env} {i j : Nat} {ws : List W} (q : setVs e [i, j] ws = some e') : ∃ a b, ws = [a, b] ∧ e' = (e.set i (some a)).set j (some b) := by
  match ws, q with
  | [], q => cases q
  | [_], q => cases q
  | [a, b], q => cases q; exact ⟨a, b, rfl, rfl⟩
  | _ :: _ :: _ :: _, q => cases q
theorem set3 {e e' : Env} {i j l : Nat} {ws : List W} (q : setVs e [i, j, l] ws = some e') : ∃ a b c, ws = [a, b, c] ∧ e' = ((e.set i (some a)).set j (some b)).set l (some c) := by
  match ws, q with
  | [], q => cases q
  | [_], q => cases q
  | [_, _], q => cases q
  | [a, b, c], q => cases q; exact ⟨a, b, c, rfl, rfl⟩
  | _ :: _ :: _ :: _ :: _, q => cases q
theorem simS_par {i j : Nat} {x y : Str} {a b : Expr} {px py pt pt2 pos : Pos} {kt k2 : Nat} {ms : Env → Hep → Out (List W)} (hc : X.calm = true) (hN : X.N.Nodup) (hi : X.N[i]? = some x) (hj : X.N[j]? = some y) (hij : i ≠ j)
    (hx : X.env.scope.names.lookup x = some .local) (hy : X.env.scope.names.lookup y = some .local) (hs : SimA T X Wx [a, b] ms)
    (hw : swappedStores [.Tuple [.Name x px, .Name y py] kt pt] (.Tuple [a, b] k2 pt2) X.env = pure (some [x, y])) :
    SimS T X Wx (.Assign [.Tuple [.Name x px, .Name y py] kt pt] (.Tuple [a, b] k2 pt2) pos) (putM (.tp [i, j]) (fun e h => (ms e h).bind fun ws h1 => newT h1 ws)) := by
  intro r s H e h D S hq pins t I
  refine (ps_par hc hN hi hj hij hx hy pa_A hw rfl).run pins t s H D I ?_
  refine hs r s H e h _ S (tup_put S hq fun r1 vs H1 ws h1 e1 rh1 rs hq1 => ?_)
  cases q : setVs e [i, j] ws with
  | none => simp only [q] at hq1; exact hq1.elim
  | some e' =>
    simp only [q] at hq1
    obtain ⟨w1, w2, rfl, rfl⟩ := set2 q
    obtain ⟨v1, v2, rfl, r1', r2'⟩ := two_of rs
    exact ⟨v1, v2, rfl, hq1 r1 _ H1 (Ext.refl _ _) (((S.next e1 rh1).put r1' i).put r2' j)⟩
theorem three_of {r : Rho} {H : Hp} {a b c : W} {vs : List V} (h : RelWs T.toTab r H [a, b, c] vs) : ∃ x y z, vs = [x, y, z] ∧ RelW T.toTab r H a x ∧ RelW T.toTab r H b y ∧ RelW T.toTab r H c z := by
  cases h with
  | cons h t => cases t with
    | cons h' t' => cases t' with
      | cons h2 t2 => cases t2; exact ⟨_, _, _, rfl, h, h', h2⟩
theorem simS_par3 {i j l : Nat} {x y z : Str} {a b c : Expr} {px py pz pt pt2 pos : Pos} {kt k2 : Nat} {ms : Env → Hep → Out (List W)} (hc : X.calm = true) (hN : X.N.Nodup) (hi : X.N[i]? = some x) (hj : X.N[j]? = some y) (hl : X.N[l]? = some z) (hij : i ≠ j) (hil : i ≠ l) (hjl : j ≠ l)
    (hx : X.env.scope.names.lookup x = some .local) (hy : X.env.scope.names.lookup y = some .local) (hz : X.env.scope.names.lookup z = some .local) (hs : SimA T X Wx [a, b, c] ms)
    (hw : swappedStores [.Tuple [.Name x px, .Name y py, .Name z pz] kt pt] (.Tuple [a, b, c] k2 pt2) X.env = pure (some [x, y, z])) :
    SimS T X Wx (.Assign [.Tuple [.Name x px, .Name y py, .Name z pz] kt pt] (.Tuple [a, b, c] k2 pt2) pos) (putM (.tp [i, j, l]) (fun e h => (ms e h).bind fun ws h1 => newT h1 ws)) := by
  intro r s H e h D S hq pins t I
  refine (ps_par3 hc hN hi hj hl hij hil hjl hx hy hz pa_A hw rfl).run pins t s H D I ?_
  refine hs r s H e h _ S (tup_put S hq fun r1 vs H1 ws h1 e1 rh1 rs hq1 => ?_)
  cases q : setVs e [i, j, l] ws with
  | none => simp only [q] at hq1; exact hq1.elim
  | some e' =>
    simp only [q] at hq1
    obtain ⟨w1, w2, w3, rfl, rfl⟩ := set3 q
    obtain ⟨v1, v2, v3, rfl, g1, g2, g3⟩ := three_of rs
    exact ⟨v1, v2, v3, rfl, hq1 r1 _ H1 (Ext.refl _ _) ((((S.next e1 rh1).put g1 i).put g2 j).put g3 l)⟩
def rSetD : V → V → V → Hp → (Hp → Prop) → Prop := fun o i v H Q => ∃ p H', o = .ref p ∧ DPut H p i v H' ∧ Q H'
theorem set_dict {n : Nat} (hr : Room n X.A) : PSet X rSetD := by
  intro pins s σ H o i v ov iv u Q I ro ri rv h
  obtain ⟨p, H', rfl, g, q⟩ := h
  obtain rfl : ov = Value.ref p := ro
  exact d_setItem (by have := hr.un; omega) I g ri rv fun s' I' => ⟨H', I', q⟩
def rSetE : V → V → V → Hp → (Hp → Prop) → Prop := fun o i v H Q => rSetL o i v H Q ∨ rSetD o i v H Q
theorem set_any {n : Nat} (hr : Room n X.A) : PSet X rSetE := by
  intro pins s σ H o i v ov iv u Q I ro ri rv h
  rcases h with h | h
  · exact set_list pins s σ H o i v ov iv u Q I ro ri rv h
  · exact set_dict hr pins s σ H o i v ov iv u Q I ro ri rv h
theorem dput_sim {r : Rho} {s : L2.St} {H : Hp} {e : Env} {h : Hep} {a : Nat} {p : Addr} {k w : W} {u v : V} {q : L2.Key} {kvs : List (W × W)} {Q : Hp → Prop} (S : RelS T.toTab r e h s H) (hr : r a = some p) (g : h.get a = some (.dic false kvs)) (rk : RelW T.toTab r H k u) (rw' : RelW T.toTab r H w v) (ek : keyW k = some q) (hl : kvs.length < lim)
    (hq : ∀ r' H', Ext r r' H H' → RelS T.toTab r' e (h.set a (.dic false (dput kvs k w))) s H' → Q H') : rSetD (.ref p) u v H Q := by
  obtain ⟨p', hp, ks, h1, h2⟩ := S.hp.obj a _ g
  rw [hr] at hp
  cases hp
  have h1 : H p = some (.dK ks) := h1
  have nl : ∀ o, h.get a = some o → o.lk = false := fun o ho => by rw [g] at ho; cases ho; rfl
  have ex := Ext.set S.hp (u := .dK (putK ks q v)) hr nl
  refine ⟨p, upd H p (.dK (putK ks q v)), rfl, .inl ⟨ks, q, h1, key_rel rk ek, by rw [← h2.length, ← lim_eq]; exact hl, rfl⟩, hq r _ ex (S.next ex (S.hp.set hr nl ⟨putK ks q v, ?_, ((RelKv.put h2 ek rw').kp ex.kp)⟩))⟩
  exact upd_same
/-- one store -/
theorem set_sim {r3 : Rho} {s : L2.St} {H3 : Hp} {e : Env} {h3 h4 : Hep} {x y z : W} {v v2 v3 : V} {Q : Hp → Prop} (S : RelS T.toTab r3 e h3 s H3) (rv : RelW T.toTab r3 H3 z v) (rv2 : RelW T.toTab r3 H3 x v2) (rv3 : RelW T.toTab r3 H3 y v3) (q : setItem x y z h3 = some h4)
    (hq3 : ∀ r' H', Ext r3 r' H3 H' → RelS T.toTab r' e h4 s H' → Q H') : rSetE v2 v3 v H3 Q := by
  have rh3 := S.hp
  unfold setItem at q
  cases rv2 with
  | ref hr => cases rv3 with
    | int k =>
      simp only at q
      split at q
      · rename_i xs g
        split at q
        · rename_i j hj
          cases q
          obtain ⟨us, hu, rus⟩ := lst_at rh3 hr g
          refine .inl ⟨_, us, k, j, rfl, rfl, hu, by rw [← rus.length, ← ixW_eq]; exact hj, ?_⟩
          have nl : ∀ o, h3.get _ = some o → o.lk = false := fun o ho => by rw [g] at ho; cases ho; rfl
          have ex := Ext.set rh3 (u := .lst (us.set j v)) hr nl
          exact hq3 r3 _ ex (S.next ex (rh3.set hr nl ⟨_, upd_same, (RelWs.set rv j rus).mono ex⟩))
        · cases q
      · rename_i kvs g
        split at q
        · rename_i hl
          cases q
          exact .inr (dput_sim S hr g (.int k) rv rfl hl hq3)
        · cases q
      · cases q
    | str k =>
      simp only at q
      split at q
      · rename_i kvs g
        split at q
        · rename_i hl
          cases q
          exact .inr (dput_sim S hr g (.str k) rv rfl hl hq3)
        · cases q
      · cases q
    | _ => cases q
  | _ => cases q
theorem simS_sub {n : Nat} {o i a : Expr} {tp pos : Pos} {mo mi ma : Env → Hep → Out W} (hrm : Room n X.A) (ho : SimE T X Wx o mo) (hi : SimE T X Wx i mi) (ha : SimE T X Wx a ma) (hn : noComp a = true)
    (hA : ∀ v, assign (.Subscript o i tp) X.env v = (do
      let ov ← holding [v] (eval o X.env)
      let iv ← holding [v, ov] (eval i X.env)
      standAt tp
      holding [v, ov, iv] (PySem.setItem ov iv v)
      release [v, ov, iv] [])) (hw : swappedStores [.Subscript o i tp] a X.env = pure none) :
    SimS T X Wx (.Assign [.Subscript o i tp] a pos) (fun e h => (ma e h).stm e fun z h1 => (mo e h1).stm e fun x h2 => (mi e h2).stm e fun y h3 => (match setItem x y z h3 with
    | some h4 => .ok .nx e h4
    | none => .bad)) := by
  intro r s H e h D S hq pins t I
  refine (ps_asg pe_E (pg_sub pe_E pe_E (set_any hrm) hA) (sole_no hn) hw rfl).run pins t s H D I ?_
  refine ha r s H e h _ S (hq.stm S fun r1 v H1 z h1 e1 rh1 rv hq1 => ?_)
  have S1 := S.next e1 rh1
  refine ho r1 s H1 e h1 _ S1 (hq1.stm S1 fun r2 v2 H2 x h2 e2 rh2 rv2 hq2 => ?_)
  have S2 := S1.next e2 rh2
  refine hi r2 s H2 e h2 _ S2 (hq2.stm S2 fun r3 v3 H3 y h3 e3 rh3 rv3 hq3 => ?_)
  have rv2 := rv2.mono e3
  have rv := rv.mono (e2.trans e3)
  cases q : setItem x y z h3 with
  | none => simp only [q] at hq3; exact hq3.elim
  | some h4 =>
    simp only [q] at hq3
    exact set_sim (S2.next e3 rh3) rv rv2 rv3 q fun r' H' ex S' => hq3 r' s H' ex S'
/-- the targets, each as it is evaluated -/
def SubOk (X : Cx) (ts : List Expr) : Prop := ∀ p ∈ ts, ∃ o i tp, p = .Subscript o i tp ∧ ∀ v, assign (.Subscript o i tp) X.env v = (do
      let ov ← holding [v] (eval o X.env)
      let iv ← holding [v, ov] (eval i X.env)
      standAt tp
      holding [v, ov, iv] (PySem.setItem ov iv v)
      release [v, ov, iv] [])
def gSs (X : Cx) : List Expr → TGs
  | .Subscript o i _ :: r => gCons (gSub (tE X o) (tE X i) rSetE) (gSs X r)
  | _ => gNil
theorem subs_pgs {n : Nat} (hrm : Room n X.A) : ∀ {ts : List Expr}, SubOk X ts → PGs X ts (gSs X ts) ∧ (assignEach ts X.env).length = ts.length ∧ (assignEach ts X.env).findIdx? (·.1) = none
  | [], _ => ⟨pgs_nil, rfl, rfl⟩
  | p :: ts, h => by
    obtain ⟨o, i, tp, rfl, hA⟩ := h p List.mem_cons_self
    obtain ⟨g1, g2, g3⟩ := subs_pgs hrm (ts := ts) fun q hq => h q (List.mem_cons_of_mem _ hq)
    refine ⟨pgs_cons (pg_sub pe_E pe_E (set_any hrm) hA) g1 rfl, ?_, ?_⟩
    · show (assignEach ts X.env).length + 1 = ts.length + 1
      rw [g2]
    · show List.findIdx? (·.1) ((false, assign (.Subscript o i tp) X.env) :: assignEach ts X.env) = none
      rw [List.findIdx?_cons, if_neg (fun z => Bool.noConfusion z), g3]
      rfl
def EachS (P : Pg) (C : Orc) (T : TabX) (X : Cx) (Wx : WX) : List (Ex × Ex) → List Expr → Prop
  | t :: r, .Subscript o i _ :: ps => SimE T X Wx o (ev P C t.1) ∧ SimE T X Wx i (ev P C t.2) ∧ EachS P C T X Wx r ps
  | [], [] => True
  | _, _ => False
theorem EachS.len {P : Pg} {C : Orc} : ∀ {qs : List (Ex × Ex)} {ts : List Expr}, EachS P C T X Wx qs ts → qs.length = ts.length
  | [], [], _ => rfl
  | [], _ :: _, h => h.elim
  | _ :: _, [], h => h.elim
  | t :: qs, p :: ts, h => by
    cases p with
    | Subscript o i tp => rw [List.length_cons, List.length_cons, EachS.len h.2.2]
    | _ => exact h.elim
theorem setAll_sim {P : Pg} {C : Orc} : ∀ {qs : List (Ex × Ex)} {ts : List Expr} {r : Rho} {s : L2.St} {H : Hp} {e : Env} {h : Hep} {ws : List W} {vs : List V} {D : Ends}, EachS P C T X Wx qs ts → RelS T.toTab r e h s H → RelWs T.toTab r H ws vs → PostS T Wx r H (setAll P C qs ws e h) D → gSs X ts vs s H D.nx
  | [], [], r, s, H, e, h, ws, vs, D, _, S, rs, hq => by
    cases rs with
    | nil => exact ⟨rfl, hq r s H (Ext.refl _ _) S⟩
    | cons _ _ => exact hq.elim
  | [], _ :: _, r, s, H, e, h, ws, vs, D, hE, S, rs, hq => hE.elim
  | t :: qs, [], r, s, H, e, h, ws, vs, D, hE, S, rs, hq => hE.elim
  | t :: qs, p :: ts, r, s, H, e, h, ws, vs, D, hE, S, rs, hq => by
    cases p with
    | Subscript o i tp =>
      obtain ⟨ho, hi, hE⟩ := hE
      cases rs with
      | nil => exact hq.elim
      | cons rv rs =>
        rename_i w v ws vs
        refine ⟨v, vs, rfl, ?_⟩
        refine ho r s H e h _ S (hq.stm S fun r1 v1 H1 x h1 e1 rh1 rv1 hq1 => ?_)
        have S1 := S.next e1 rh1
        refine hi r1 s H1 e h1 _ S1 (hq1.stm S1 fun r2 v2 H2 y h2 e2 rh2 rv2 hq2 => ?_)
        have S2 := S1.next e2 rh2
        cases q : setItem x y w h2 with
        | none => simp only [q] at hq2; exact hq2.elim
        | some h3 =>
          simp only [q] at hq2
          exact set_sim S2 (rv.mono (e1.trans e2)) (rv1.mono e2) rv2 q fun r' H' ex S' => setAll_sim hE S' (rs.mono ((e1.trans e2).trans ex)) (hq2.later ex)
    | _ => exact hE.elim
theorem simS_sbs {n : Nat} {P : Pg} {C : Orc} {qs : List (Ex × Ex)} {ts : List Expr} {k : Nat} {a : Expr} {tp pos : Pos} {ma : Env → Hep → Out W} (hK : T.K = X.K) (hc : X.calm = true) (hrm : Room n X.A) (hs : SubOk X ts) (hE : EachS P C T X Wx qs ts) (ha : SimE T X Wx a ma) (hn : noComp a = true) (hw : swappedStores [.Tuple ts k tp] a X.env = pure none) :
    SimS T X Wx (.Assign [.Tuple ts k tp] a pos) (fun e h => (ma e h).stm e fun x h1 => (match x with
    | .tup ws => if ws.length = qs.length then setAll P C qs ws e h1 else .bad
    | _ => .bad)) := by
  intro r s H e h D S hq pins t I
  obtain ⟨g1, g2, g3⟩ := subs_pgs hrm hs
  refine (ps_asg pe_E (pg_tup (n := ts.length) hc g1 g2 g3) (sole_no hn) hw rfl).run pins t s H D I ?_
  refine ha r s H e h _ S (hq.stm S fun r1 v H1 x h1 e1 rh1 rv hq1 => ?_)
  cases rv with
  | tup tq rs =>
    simp only at hq1
    split at hq1
    · rename_i z
      exact ⟨_, _, rfl, by rw [← hK]; exact tq.sq, by rw [← rs.length, z, EachS.len hE], setAll_sim hE (S.next e1 rh1) rs hq1⟩
    · exact hq1.elim
  | _ => exact hq1.elim
def AuSim (T : TabX) (X : Cx) (op : Operator) (rr : R2) : Prop := OpSim T X (augop op) rr
theorem au_add : AuSim T X .Add (rI0 fun i j => .int (i + j)) := by
  intro Wx r s H h x y v w Q rh rx ry hq
  unfold augop at hq
  cases rx with
  | int i => cases ry with
    | int j => exact ⟨i, j, rfl, rfl, hq.ok rh (.int _)⟩
    | _ => exact hq.elim
  | _ => exact hq.elim
theorem au_sub : AuSim T X .Sub (rI0 fun i j => .int (i - j)) := by
  intro Wx r s H h x y v w Q rh rx ry hq
  unfold augop at hq
  cases rx with
  | int i => cases ry with
    | int j => exact ⟨i, j, rfl, rfl, hq.ok rh (.int _)⟩
    | _ => exact hq.elim
  | _ => exact hq.elim
theorem au_mul : AuSim T X .Mult (rI CMul fun i j => .int (i * j)) := by
  intro Wx r s H h x y v w Q rh rx ry hq
  unfold augop at hq
  cases rx with
  | int i => cases ry with
    | int j =>
      simp only at hq
      cases z : mulOk i j with
      | true =>
        rw [z, if_pos rfl] at hq
        refine ⟨i, j, rfl, rfl, ?_, hq.ok rh (.int _)⟩
        unfold mulOk at z
        rw [Bool.or_eq_true, bnd64, bnd64] at z
        exact z
      | false =>
        rw [z, if_neg (by decide)] at hq
        exact hq.elim
    | _ => exact hq.elim
  | _ => exact hq.elim
theorem au_fdv : AuSim T X .FloorDiv (rI CDiv fun i j => .int (i / j)) := by
  intro Wx r s H h x y v w Q rh rx ry hq
  unfold augop at hq
  cases rx with
  | int i => cases ry with
    | int j =>
      simp only at hq
      by_cases z : 0 < j
      · rw [if_pos z] at hq
        by_cases z2 : j < 1073741824
        · rw [if_pos z2] at hq
          exact ⟨i, j, rfl, rfl, ⟨z, z2⟩, hq.ok rh (.int _)⟩
        · rw [if_neg z2] at hq; exact hq.elim
      · rw [if_neg z] at hq; exact hq.elim
    | _ => exact hq.elim
  | _ => exact hq.elim
theorem simS_aug {i : Nat} {x : Str} {a : Expr} {op : Operator} {rr : R2} {p' pos : Pos} {ma : Env → Hep → Out W} (hN : X.N.Nodup) (hi : X.N[i]? = some x) (hx : Loc X.env.scope x) (hf : X.fn x = true ∨ X.env.scope.names.lookup x = some .local) (ha : SimE T X Wx a ma) (ho : OpR X (inplaceOp op) rr) (hr : AuSim T X op rr) :
    SimS T X Wx (.AugAssign (.Name x p') op a pos) (fun e h => (match (nth e i).join with
    | some x => (ma e h).stm e fun y h1 => (augop op x y h1).stm e fun z h2 => .ok .nx (e.set i (some z)) h2
    | none => .bad)) := by
  intro r s H e h D S hq pins t I
  refine (ps_aug hN hi hx pe_E ho hf).run pins t s H D I ?_
  cases q : (nth e i).join with
  | none => simp only [q] at hq; exact hq.elim
  | some w =>
    simp only [q] at hq
    obtain ⟨v, h1, h2⟩ := S.var i w (nth_join q)
    refine ⟨v, h1, ?_⟩
    refine ha r s H e h _ S (hq.stm S fun r1 u H1 y h1 e1 rh1 ru hq1 => ?_)
    have S1 := S.next e1 rh1
    refine hr Wx r1 s H1 h1 w y v u _ rh1 (h2.mono e1) ru (hq1.stm S1 fun r2 v2 H2 z h2 e2 rh2 rz hq2 => ?_)
    exact hq2 r2 _ H2 (Ext.refl _ _) ((S1.next e2 rh2).put rz i)
theorem simS_iff {c : Expr} {a b : List Stmt} {pos : Pos} {mc : Env → Hep → Out W} {ma mb : Env → Hep → OutS} (hc : SimT T X Wx c (tru mc)) (ha : SimSs T X Wx a ma) (hb : SimSs T X Wx b mb) : SimS T X Wx (.If c a b pos) (fun e h => (mc e h).stm e fun x h1 => (match truth h1 x with
    | some true => ma e h1
    | some false => mb e h1
    | none => .bad)) := by
  intro r s H e h D S hq pins t I
  refine (ps_if pt_T pss_Ss pss_Ss).run pins t s H D I ?_
  have hq : PostS T Wx r H ((tru mc e h).stm e fun b h1 => if b then ma e h1 else mb e h1) D := by
    unfold tru
    cases q : mc e h with
    | ok x h1 =>
      simp only [q, Out.stm, Out.bind] at hq ⊢
      cases q2 : truth h1 x with
      | none => simp only [q2] at hq; exact hq.elim
      | some k => simp only [q2] at hq; cases k <;> exact hq
    | exc _ _ _ => simp only [q, Out.stm, Out.bind] at hq ⊢; exact hq
    | bad => simp only [q, Out.stm] at hq; exact hq.elim
  refine hc r s H e h _ S (hq.stm S fun r1 v H1 x h1 e1 rh1 rv hq1 => ?_)
  subst rv
  cases x with
  | true => exact iteT (ha r1 s H1 e h1 D (S.next e1 rh1) hq1)
  | false => exact iteF (hb r1 s H1 e h1 D (S.next e1 rh1) hq1)
theorem PostS.turn {r : Rho} {H : Hp} {o : OutS} {k : Env → Hep → OutS} {D : Ends} {N : L2.St → Hp → Prop} (hm : PostS T Wx r H (o.turn k) D) (g : ∀ r' s' H' e' h', Ext r r' H H' → RelS T.toTab r' e' h' s' H' → PostS T Wx r' H' (k e' h') D → N s' H') :
    PostS T Wx r H o { D with nx := N, ct := N, bk := D.nx } := by
  cases o with
  | ok f e1 h1 => cases f with
    | nx => exact fun r' s' H' e S => g r' s' H' e1 h1 e S (PostS.later e hm)
    | ret w => exact hm
    | brk => exact hm
    | cnt => exact fun r' s' H' e S => g r' s' H' e1 h1 e S (PostS.later e hm)
  | exc c p e1 h1 => exact hm
  | bad => exact hm
theorem simS_whl {c : Expr} {b : List Stmt} {pos : Pos} {mc : Env → Hep → Out Bool} {mb : Env → Hep → OutS} {n : Nat} (hp : PassesOwn (model X.prog X.w) X.A X.env X.xe) (hc : SimT T X Wx c mc) (hb : SimSs T X Wx b mb) : SimS T X Wx (.While c b [] pos) (fun e h => whileN mc mb n e h) := by
  intro r s H e h D S hq pins t I
  refine (ps_while hp pt_T pss_Ss).run pins t s H D I ?_
  refine ⟨fun m s H => ∃ r e h, RelS T.toTab r e h s H ∧ PostS T Wx r H (whileN mc mb m e h) D, ⟨n, r, e, h, S, hq⟩, ?_⟩
  rintro m s H ⟨r, e, h, S, hq⟩
  cases m with
  | zero => exact hq.elim
  | succ m =>
    have hq : PostS T Wx r H ((mc e h).stm e fun t h1 => if t then (mb e h1).turn fun e1 h2 => whileN mc mb m e1 h2 else .ok .nx e h1) D := hq
    refine hc r s H e h _ S (hq.stm S fun r1 v H1 x h1 e1 rh1 rv hq1 => ?_)
    subst rv
    have S1 := S.next e1 rh1
    cases x with
    | true =>
      refine iteT ⟨fun s' H' => ∃ r e h, RelS T.toTab r e h s' H' ∧ PostS T Wx r H' (whileN mc mb m e h) D, fun s' H' hN => ⟨m, Nat.lt_succ_self _, hN⟩, ?_⟩
      have hq1 : PostS T Wx r1 H1 ((mb e h1).turn fun e1 h2 => whileN mc mb m e1 h2) D := hq1
      exact hb r1 s H1 e h1 _ S1 (hq1.turn fun r' s' H' e' h' _ S' hq' => ⟨r', e', h', S', hq'⟩)
    | false => exact iteF (hq1 r1 s H1 (Ext.refl _ _) S1)
theorem simS_for {tgE iter : Expr} {b : List Stmt} {pos : Pos} {tg : Tg} {k : Ik} {mi : Env → Hep → Out (List W)} {mb : Env → Hep → OutS} (hK : T.K = X.K) (hp : PassesOwn (model X.prog X.w) X.A X.env X.xe) (hc : X.calm = true) (hi : SimI T X Wx tgE iter k mi) (hg : PG X tgE (gTg X.K tg)) (hb : SimSs T X Wx b mb)
    (hs : ∀ x, foldedSetIterable iter X.env x = pure x) : SimS T X Wx (.For tgE iter b [] pos) (fun e h => (mi e h).stm e fun vs h1 => (match walk k vs h1 with
    | some s => turnsS s (fun e1 w h2 => (match tg.put e1 w with
        | some e2 => mb e2 h2
        | none => .bad)) s.len 0 e h1
    | none => .bad)) := by
  intro r s H e h D S hq pins t I
  refine (ps_for hp hc pi_I hg pss_Ss hs).run pins t s H D I ?_
  generalize hf : (fun (e1 : Env) (w : W) (h2 : Hep) => (match tg.put e1 w with
        | some e2 => mb e2 h2
        | none => OutS.bad)) = f at hq
  have hq : PostS T Wx r H ((walkM k (mi e h)).stm e fun src h1 => turnsS src f src.len 0 e h1) D := by
    unfold walkM
    cases q : mi e h with
    | ok vs h1 =>
      simp only [q, Out.stm, Out.bind] at hq ⊢
      cases q2 : walk k vs h1 <;> simp only [q2, Out.some'] at hq ⊢ <;> exact hq
    | exc _ _ _ => simp only [q, Out.stm, Out.bind] at hq ⊢; exact hq
    | bad => simp only [q, Out.stm, Out.bind] at hq ⊢; exact hq
  refine hi r s H e h _ S (hq.stm S fun r1 J H1 src h1 e1 rh1 so hq1 => ?_)
  have S1 := S.next e1 rh1
  refine ⟨fun i m s' H' => i + m = src.len ∧ ∃ r' e' h', Kp r1 r' H1 H' ∧ RelS T.toTab r' e' h' s' H' ∧ PostS T Wx r' H' (turnsS src f m i e' h') D, ⟨src.len, Nat.zero_add _, r1, e, h1, Kp.refl _ _, S1, hq1⟩, ?_⟩
  rintro i m s' H' ⟨hm, r', e', h', kp, S', hq'⟩
  cases m with
  | zero =>
    have hi' : i = src.len := by omega
    subst hi'
    refine .inl ?_
    unfold turnsS at hq'
    cases q : src.ends h' with
    | false => rw [q, if_neg (by decide)] at hq'; exact hq'.elim
    | true =>
      rw [q, if_pos rfl] at hq'
      exact ⟨(so.kp kp).stop S'.hp q, hq' r' s' H' (Ext.refl _ _) S'⟩
  | succ m =>
    refine .inr ?_
    unfold turnsS at hq'
    cases q : src.at i h' with
    | none => simp only [q] at hq'; exact hq'.elim
    | some w =>
      simp only [q] at hq'
      obtain ⟨g1, g2⟩ := (so.kp kp).go S'.hp (by omega) q
      refine ⟨g1, fun s2 H2 => ∃ r2 e2 h2, Kp r1 r2 H1 H2 ∧ RelS T.toTab r2 e2 h2 s2 H2 ∧ PostS T Wx r2 H2 (turnsS src f m (i + 1) e2 h2) D, fun s2 H2 hN => ⟨m, Nat.lt_succ_self _, by omega, hN⟩, fun x H2 y => ?_⟩
      obtain ⟨ex, rhx, rx⟩ := g2 x H2 y
      have Sx := S'.next ex rhx
      have hq2 := PostS.later ex hq'
      subst hf
      cases q2 : tg.put e' w with
      | none => simp only [q2] at hq2; exact hq2.elim
      | some e2 =>
        simp only [q2] at hq2
        refine gTg_ok hK Sx rx q2 fun s3 S3 _ => ?_
        exact hb r' s3 H2 e2 h' _ S3 (hq2.turn fun r4 s4 H4 e4 h4 ex4 S4 hq4 => ⟨r4, e4, h4, (kp.trans ex.kp).trans ex4.kp, S4, hq4⟩)
end
end Ev

namespace Ev
open PySem PySem.Spec PyProof.Rows L2
section
variable {T : TabX} {X : Cx} {Wx : WX}
theorem simE_fld {a : Expr} {x : Str} {pos : Pos} {f : Nat} {ma : Env → Hep → Out W} (hK : T.K = X.K) (ha : SimE T X Wx a ma) (hx : T.fN f = x) (hb : attributeBase a x X.env (eval a X.env) = eval a X.env) :
    SimE T X Wx (.Attribute a x pos) (fun e h => (ma e h).bind fun w h1 => (match clsFs h1 w with
    | some (_, fs) => .some' (flook fs f) h1
    | none => .bad)) := by
  intro r s H e h Q S hq pins t I
  refine (pe_fld pe_E hb).run pins t s H Q I ?_
  refine ha r s H e h _ S (hq.bind fun r1 v H1 w h1 e1 rh1 rv hq1 => ?_)
  split at hq1
  · rename_i c fs g
    obtain ⟨p, dx, gs, rfl, q1, q2, q3⟩ := clsFs_at rh1 rv g
    obtain ⟨u, hu, k⟩ := hq1.some' rh1
    obtain ⟨n, v, l1, l2⟩ := (q3.look (i := f)).1 u hu
    subst hx
    exact ⟨p, _, dx, gs, v, rfl, q1, hK ▸ q2.toCls, hK ▸ n, l1, k v l2⟩
  · exact hq1.elim
theorem meth_eval {o : Expr} {m : Str} {apos pos : Pos} {args : List Expr} {env : PySem.Env} (hb : attributeBase o m env (eval o env) = eval o env) (hf : methodCallForm args.length (backTo pos (starEach args env)) [] = true) (hl : (apos.endLine == pos.line) = true) :
    eval (.Call (.Attribute o m apos) args [] pos) env = (do
      let ov ← eval o env
      standAt apos.atName
      let (f, first) ← holding [ov] (getMethod ov m (do return (← importBound o env).getD true))
      callWith pos f first (backTo pos (starEach args env)) (backToKw pos (keywordEach [] env))) := by
  rw [arm_eval_Call, hb]
  have hk : backToKw pos (keywordEach [] env) = [] := rfl
  unfold methodCall calleeOf methodCallPos
  simp only [hk, List.length_nil, Nat.add_zero, hf, hl, Bool.not_true, Bool.false_or, if_true]
  rfl
/-- o.m(..): the class, its def and what that promises are known when o is -/
def tMethX (X : Cx) (m : Str) (ta : TE) (t : TA) : TE := fun σ H Q => ta σ H fun x H1 => ∃ (a C dx : Addr) (fs : List (Str × V)) (f : Addr) (k : Nat) (fd : FuncData) (ps : List Str) (sp : Sp) (E : L2.St → XK), x = .ref a ∧ H1 a = some (.ins C dx fs) ∧ fs.lookup m = none ∧
  Cls X.K C ∧ Meth X.K C m f ∧ FnOk X.prog X.w X.K X.mg X.base (L2.CX X.prog X.w) k f fd ps sp ∧ Room k X.A ∧ Binds X.K fd ps [] ∧ PassesAt (L2.CX X.prog X.w) X σ (E σ) ∧ t σ H1 fun vs H2 => sp (x :: vs) H2 Q (E σ)
theorem pe_methX {o e : Expr} {es : List Expr} {m : Str} {apos pos : Pos} {ta : TE} {t : TA} (he : PE X o ta) (ha : PA X (e :: es) t) (hst : starEach (e :: es) X.env = (false, eval e X.env) :: starEach es X.env) (hpl : (backTo pos (starEach es X.env)).any (·.1) = false)
    (hb : attributeBase o m X.env (eval o X.env) = eval o X.env) (hf : methodCallForm (e :: es).length (backTo pos (starEach (e :: es) X.env)) [] = true) (hl : (apos.endLine == pos.line) = true) : PE X (.Call (.Attribute o m apos) (e :: es) [] pos) (tMethX X m ta t) := by
  refine ⟨fun pins s σ H Q I h => ?_⟩
  refine PySem.W.methodCall_KW (thn (he.run pins s σ H _ I h) fun u s1 ⟨x, H1, I1, rx, a, C, dx, fs, f, k, fd, ps, sp, E, ex, ea, l, c, hm, F, hr, hbd, hx, q⟩ => ?_) (meth_eval hb hf hl)
  subst ex
  obtain rfl : u = Value.ref a := rx
  refine getmeth_ok I1 ea c hm l ?_
  refine PySem.W.callWith_K (first := [.ref a]) (h₀ := X.base) I.ok.mod.kin hm.kp (thn (ha.run pos pins s1 σ H1 _ I1 q) fun us s2 ⟨vs, H2, I2, r, q2⟩ => ⟨I2.kIn, ?_⟩) hst hpl
  exact run_fnS (us := .ref a :: us) (vs := .ref a :: vs) F hr hbd hx I2 (.cons rfl r) q2
theorem pe_methX0 {o : Expr} {m : Str} {apos pos : Pos} {ta : TE} (he : PE X o ta) (hb : attributeBase o m X.env (eval o X.env) = eval o X.env) (hl : (apos.endLine == pos.line) = true) : PE X (.Call (.Attribute o m apos) [] [] pos) (tMethX X m ta tNil) := by
  refine ⟨fun pins s σ H Q I h => ?_⟩
  refine PySem.W.methodCall_KW (thn (he.run pins s σ H _ I h) fun u s1 ⟨x, H1, I1, rx, a, C, dx, fs, f, k, fd, ps, sp, E, ex, ea, l, c, hm, F, hr, hbd, hx, q⟩ => ?_) (meth_eval hb rfl hl)
  subst ex
  obtain rfl : u = Value.ref a := rx
  refine getmeth_ok I1 ea c hm l ?_
  exact PySem.W.callWith_K0 (first := [.ref a]) I1.kIn hm.kp (run_fnS (us := [.ref a]) (vs := [.ref a]) F hr hbd hx I1 (.cons rfl .nil) q)
/-- what is known of the methods of a class -/
def MethP (P : Pg) (T : TabX) (n : Nat) (X : Cx) : Prop := ∀ (c : Nat) (cl : Cl) (m g : Nat), nth P.cls c = some cl → mlook cl.mts m = some g → ∃ fn fa fd ps, nth P.fns g = some fn ∧ Meth X.K (T.cA c) (T.fN m) fa ∧
  FnOk X.prog X.w X.K X.mg X.base (L2.CX X.prog X.w) n fa fd ps (spEv P T n g fn.np) ∧ Binds X.K fd ps []
def mthM (P : Pg) (C : Orc) (m : Nat) (ma : Env → Hep → Out W) (ms : Env → Hep → Out (List W)) : Env → Hep → Out W := fun e h => (ma e h).bind fun x h1 => (match clsFs h1 x with
    | some (c, fs) => (match flook fs m, nth P.cls c with
      | none, some cl => (match mlook cl.mts m with
        | some g => (ms e h1).bind fun ws h2 => C.call g (x :: ws) h2
        | none => .bad)
      | _, _ => .bad)
    | none => .bad)
theorem mth_go {P : Pg} {n m : Nat} {C : Orc} (hC : C.call = callN P n) (hK : T.K = X.K) (tk : Takes X Wx) (hr : Room n X.A) (MP : MethP P T n X) {ta : TE} {t : TA} {ma : Env → Hep → Out W} {ms : Env → Hep → Out (List W)} {r : Rho} {s : L2.St} {H : Hp} {e : Env} {h : Hep} {Q : VK}
    (ha : ∀ Q1, PostE T Wx r s H (ma e h) Q1 → ta s H Q1) (hs : ∀ r1 H1 h1 Q1, Ext r r1 H H1 → RelH T.toTab r1 h1 H1 → PostA T Wx r1 s H1 (ms e h1) Q1 → t s H1 Q1) (S : RelS T.toTab r e h s H) (hq : PostE T Wx r s H (mthM P C m ma ms e h) Q) : tMethX X (T.fN m) ta t s H Q := by
  unfold mthM at hq
  refine ha _ (hq.bind fun r1 v H1 x h1 e1 rh1 rv hq1 => ?_)
  split at hq1
  · rename_i c fs g
    obtain ⟨p, dx, gs, rfl, q1, q2, q3⟩ := clsFs_at rh1 rv g
    split at hq1
    · rename_i cl hf hcl
      split at hq1
      · rename_i g' hg
        obtain ⟨fn, fa, fd, ps, k1, k2, k3, k4⟩ := MP c cl m g' hcl hg
        refine ⟨p, _, dx, gs, fa, n, fd, ps, _, WE Wx, rfl, q1, (q3.look (i := m)).2 hf, hK ▸ q2.toCls, k2, k3, hr, k4, passAt tk s, ?_⟩
        refine hs r1 H1 h1 _ e1 rh1 (hq1.bind fun r2 vs H2 ws h2 e2 rh2 rs hq2 => ?_)
        rw [hC] at hq2
        have rs2 : RelWs T.toTab r2 H2 (x :: ws) (.ref p :: vs) := .cons (rv.mono e2) rs
        refine spEv_of rh2 rs2 ?_ hq2
        rw [← rs2.length]
        by_cases z : (x :: ws).length = fn.np
        · exact z
        · rw [callN_len k1 z] at hq2; exact hq2.elim
      · exact hq1.elim
    · exact hq1.elim
  · exact hq1.elim
theorem simE_mth {P : Pg} {n m : Nat} {C : Orc} {o a : Expr} {as : List Expr} {x : Str} {ap cp : Pos} {ma : Env → Hep → Out W} {ms : Env → Hep → Out (List W)} (hC : C.call = callN P n) (hK : T.K = X.K) (tk : Takes X Wx) (hr : Room n X.A) (MP : MethP P T n X) (hx : T.fN m = x) (ha : SimE T X Wx o ma) (hs : SimA T X Wx (a :: as) ms)
    (hb : attributeBase o x X.env (eval o X.env) = eval o X.env) (hst : (a :: as).all noStar = true) (hl : as.length < 20) (hline : (ap.endLine == cp.line) = true) : SimE T X Wx (.Call (.Attribute o x ap) (a :: as) [] cp) (mthM P C m ma ms) := by
  intro r s H e h Q S hq pins t I
  subst hx
  have h1 : noStar a = true ∧ as.all noStar = true := by rw [List.all_cons, Bool.and_eq_true] at hst; exact hst
  have few : (backTo cp (starEach (a :: as) X.env)).all (fun x => !x.1) = true := by
    have h2 := star_any (env := X.env) hst
    rw [← backTo_any cp] at h2
    rw [List.all_eq_not_any_not]
    simpa using h2
  refine (pe_methX pe_E pa_A (star_cons as X.env h1.1) (by rw [backTo_any]; exact star_any h1.2) hb ?_ hline).run pins t s H Q I ?_
  · unfold methodCallForm
    rw [few]
    simp only [List.all_nil, Bool.and_true, Bool.true_and, List.isEmpty_nil, if_true, Nat.add_zero, List.length_cons]
    exact decide_eq_true (by omega)
  · exact mth_go hC hK tk hr MP (fun Q1 q => ha r s H e h Q1 S q) (fun r1 H1 h1 Q1 e1 rh1 q => hs r1 s H1 e h1 Q1 (S.next e1 rh1) q) S hq
theorem simE_mth0 {P : Pg} {n m : Nat} {C : Orc} {o : Expr} {x : Str} {ap cp : Pos} {ma : Env → Hep → Out W} (hC : C.call = callN P n) (hK : T.K = X.K) (tk : Takes X Wx) (hr : Room n X.A) (MP : MethP P T n X) (hx : T.fN m = x) (ha : SimE T X Wx o ma)
    (hb : attributeBase o x X.env (eval o X.env) = eval o X.env) (hline : (ap.endLine == cp.line) = true) : SimE T X Wx (.Call (.Attribute o x ap) [] [] cp) (mthM P C m ma (fun _ h => .ok [] h)) := by
  intro r s H e h Q S hq pins t I
  subst hx
  refine (pe_methX0 pe_E hb hline).run pins t s H Q I ?_
  exact mth_go hC hK tk hr MP (fun Q1 q => ha r s H e h Q1 S q) (fun r1 H1 h1 Q1 e1 rh1 q => q.ok rh1 .nil) S hq
theorem simS_sfl {P : Pg} {o a : Expr} {x : Str} {tp pos : Pos} {f : Nat} {mo ma : Env → Hep → Out W} (hK : T.K = X.K) (hx : T.fN f = x) (hF : ∀ c cl, nth P.cls c = some cl → hasN cl.flds f = true → NoAttr X.K (T.cA c) (T.fN f)) (ho : SimE T X Wx o mo) (ha : SimE T X Wx a ma) (hn : noComp a = true) :
    SimS T X Wx (.Assign [.Attribute o x tp] a pos) (fun e h => (ma e h).stm e fun z h1 => (mo e h1).stm e fun x h2 => (match setFld P x f z h2 with
    | some h3 => .ok .nx e h3
    | none => .bad)) := by
  intro r s H e h D S hq pins t I
  refine (ps_fld pe_E pe_E (swaps_no hn)).run pins t s H D I ?_
  refine ha r s H e h _ S (hq.stm S fun r1 v H1 z h1 e1 rh1 rv hq1 => ?_)
  have S1 := S.next e1 rh1
  refine ho r1 s H1 e h1 _ S1 (hq1.stm S1 fun r2 v2 H2 y h2 e2 rh2 rv2 hq2 => ?_)
  have S2 := S1.next e2 rh2
  cases q : setFld P y f z h2 with
  | none => simp only [q] at hq2; exact hq2.elim
  | some h3 =>
    simp only [q] at hq2
    unfold setFld at q
    cases rv2 with
    | ref hr =>
      rename_i a' p
      simp only at q
      split at q
      · rename_i c fs g
        split at q
        · rename_i cl hcl
          split at q
          · rename_i hfl
            split at q
            · rename_i hlen
              cases q
              obtain ⟨p', hp, dx, gs, h4, h5, h6⟩ := rh2.obj a' _ g
              rw [hr] at hp
              cases hp
              have na := hF c cl hcl hfl
              subst hx
              refine ⟨p, _, dx, gs, rfl, h4, hK ▸ h5.toCls, na, by rw [← h6.length]; omega, ?_⟩
              have nl : ∀ o, h2.get a' = some o → o.lk = false := fun o ho => by rw [g] at ho; cases ho; rfl
              have ex := Ext.set rh2 (u := .ins (T.cA c) dx (putF (T.fN f) v gs)) hr nl
              exact hq2 r2 s _ ex (S2.next ex (rh2.set hr nl ⟨dx, _, upd_same, h5, (RelFs.put (hK.symm ▸ na) (rv.mono e2) h6).kp ex.kp⟩))
            · cases q
          · cases q
        · cases q
      · cases q
    | _ => cases q
theorem run_makeS {CX : CXT} {C f : Addr} {k n : Nat} {fd : FuncData} {ps ks : List Str} {sp : Sp} {E : XK} {g : List Value → List Value → List Value} {gV : List V → List V → List V} {pins : List (Addr × Obj)} {σ : L2.St} {H : Hp} {s : Shared} {Q : VK} {us ws : List Value} {vs zs : List V} (M : Mk X.K C f) (F : FnOk X.prog X.w X.K X.mg X.base CX k f fd ps sp) (hr : Room (k + 1) X.A) (hb : KBn X.K fd ps (n + 1) ks g gV)
    (hx : PassesAt CX X σ E) (I : Inv X pins σ H s) (r : Vals vs us) (rz : Vals zs ws) (l1 : vs.length = n) (l2 : zs.length = ks.length)
    (h : ∀ x dx, H x = none → H dx = none → dx ≠ x → sp (gV (.ref x :: vs) zs) (upd (upd H dx (.own x)) x (.ins C dx [])) (fun v H2 => v = .non ∧ Q (.ref x) H2) E) :
    wpAny (model X.prog X.w) X.A (call (.ref C) us (ks.zip ws)) (EP X pins σ Q) X.xe s := by
  have hq := h (s.heap.objs.size + 1) s.heap.objs.size (I.hok.fresh (Nat.le_succ _)) (I.hok.fresh (Nat.le_refl _)) (Nat.ne_of_lt (Nat.lt_succ_self _))
  have I2 := Inv.made (C := C) I
  have r1 : Vals (V.ref (s.heap.objs.size + 1) :: vs) (Value.ref (s.heap.objs.size + 1) :: us) := .cons rfl r
  have r2 := hb.rel r1 rz
  have n1 : (Value.ref (s.heap.objs.size + 1) :: us).length = n + 1 := by rw [List.length_cons, ← r.length, l1]
  refine wpAny_call (make_map (f := f) I.kIn M.makes M.init (beq_iff_eq.mp M.fn) (codeAny_mono (F.run _ X.stack _ _ ⟨Value.ref (s.heap.objs.size + 1) :: us, ks.zip ws⟩ (g (Value.ref (s.heap.objs.size + 1) :: us) ws) _ _ E (hr.make C us (ks.zip ws))
    (I2.env0.make C us (ks.zip ws)) (hb.to _ (Value.ref (s.heap.objs.size + 1) :: us) ws I2.kIn n1 (rz.length.symm.trans l2)) r2 hq) fun r s' hq' => ?_))
  cases r with
  | error e => exact hx pins _ _ e s' I2 hq'
  | ok fl =>
    cases fl with
    | ret u =>
      obtain ⟨v, H', I3, rv, ev, q3⟩ := I2.after hq'
      subst ev
      exact ⟨rv, ⟨V.ref (s.heap.objs.size + 1), H', I3, rfl, q3⟩⟩
    | next => exact False.elim hq'
    | brk => exact False.elim hq'
    | cont => exact False.elim hq'
/-- C(e, .., k = v, ..), with what is wished for at the caller's slots -/
def tMakS (C : Addr) (n m : Nat) (sp : Sp) (gV : List V → List V → List V) (E : L2.St → XK) (t tk : TA) : TE := fun σ H Q => t σ H fun vs H1 => tk σ H1 fun zs H2 => vs.length = n ∧ zs.length = m ∧ ∀ x dx, H2 x = none → H2 dx = none → dx ≠ x →
  sp (gV (.ref x :: vs) zs) (upd (upd H2 dx (.own x)) x (.ins C dx [])) (fun v H3 => v = .non ∧ Q (.ref x) H3) (E σ)
def tClkS (n m : Nat) (sp : Sp) (gV : List V → List V → List V) (E : L2.St → XK) (t tk : TA) : TE := fun σ H Q => t σ H fun vs H1 => tk σ H1 fun zs H2 => vs.length = n ∧ zs.length = m ∧ sp (gV vs zs) H2 Q (E σ)
section
variable {CX : CXT} {k n : Nat} {f C : Addr} {fd : FuncData} {ps ks : List Str} {sp : Sp} {E : L2.St → XK} {x : Str} {p pos : Pos} {e : Expr} {es : List Expr} {kws : List Keyword} {t tk : TA} {g : List Value → List Value → List Value} {gV : List V → List V → List V}
theorem pe_makS0 (M : Mk X.K C f) (F : FnOk X.prog X.w X.K X.mg X.base CX k f fd ps sp) (hr : Room (k + 1) X.A) (hg : Gl X x) (hm : X.mg x = some (.ref C)) (hb : KBn X.K fd ps 1 ks g gV) (hx : ∀ σ, PassesAt CX X σ (E σ)) (hkw : PK X kws tk)
    (hall : (backToKw pos (keywordEach kws X.env)).all (·.1.isSome) = true) (hks : (backToKw pos (keywordEach kws X.env)).filterMap (·.1) = ks) (hdb : (x == ("__debug__" : Str)) = false)
    (hpl : ((backTo pos (starEach [] X.env)).any (·.1) || (backToKw pos (keywordEach kws X.env)).any (·.1.isNone)) = false) :
    PE X (.Call (.Name x p) [] kws pos) (tMakS C 0 ks.length sp gV E tNil tk) := by
  refine ⟨fun pins s σ H Q I h => ?_⟩
  refine wpAny_Call_Name_kw (ld_glob I hg hm ?_ hdb)
  refine PySem.W.callWith_KW0 (h₀ := X.base) I.ok.mod.kin M.kp hall ?_ hpl
  refine thn (hkw.run pos pins s σ H _ I h) fun ws s2 ⟨zs, H2, I2, rz, l1, l2, q2⟩ => ⟨I2.kIn, ?_⟩
  rw [hks]
  exact run_makeS (us := []) (vs := []) M F hr hb (hx σ) I2 .nil rz rfl l2 q2
theorem pe_makS (M : Mk X.K C f) (F : FnOk X.prog X.w X.K X.mg X.base CX k f fd ps sp) (hr : Room (k + 1) X.A) (hg : Gl X x) (hm : X.mg x = some (.ref C)) (hb : KBn X.K fd ps (n + 1) ks g gV) (hx : ∀ σ, PassesAt CX X σ (E σ)) (ha : PA X (e :: es) t) (hkw : PK X kws tk)
    (hall : (backToKw pos (keywordEach kws X.env)).all (·.1.isSome) = true) (hks : (backToKw pos (keywordEach kws X.env)).filterMap (·.1) = ks) (hdb : (x == ("__debug__" : Str)) = false)
    (he : starEach (e :: es) X.env = (false, eval e X.env) :: starEach es X.env) (hpl : ((backTo pos (starEach (e :: es) X.env)).any (·.1) || (backToKw pos (keywordEach kws X.env)).any (·.1.isNone)) = false) :
    PE X (.Call (.Name x p) (e :: es) kws pos) (tMakS C n ks.length sp gV E t tk) := by
  refine ⟨fun pins s σ H Q I h => ?_⟩
  refine wpAny_Call_Name_kw (ld_glob I hg hm ?_ hdb)
  refine PySem.W.callWith_KW (h₀ := X.base) I.ok.mod.kin M.kp hall (thn (ha.run pos pins s σ H _ I h) fun us s1 ⟨vs, H1, I1, r, q⟩ => ?_) hpl he
  refine thn (hkw.run pos pins s1 σ H1 _ I1 q) fun ws s2 ⟨zs, H2, I2, rz, l1, l2, q2⟩ => ⟨I2.kIn, ?_⟩
  rw [hks]
  exact run_makeS M F hr hb (hx σ) I2 r rz l1 l2 q2
theorem run_clkS {pins : List (Addr × Obj)} {σ : L2.St} {H : Hp} {s : Shared} {Q : VK} {E : XK} {us ws : List Value} {vs zs : List V} (F : FnOk X.prog X.w X.K X.mg X.base CX k f fd ps sp) (hr : Room k X.A) (hb : KBn X.K fd ps n ks g gV) (hx : PassesAt CX X σ E)
    (I : Inv X pins σ H s) (r : Vals vs us) (rz : Vals zs ws) (l1 : vs.length = n) (l2 : zs.length = ks.length) (h : sp (gV vs zs) H Q E) : wpAny (model X.prog X.w) X.A (call (.ref f) us (ks.zip ws)) (EP X pins σ Q) X.xe s := by
  have r2 := hb.rel r rz
  refine wpAny_call (codeAny_mono (F.run X.A X.stack s H ⟨us, ks.zip ws⟩ (g us ws) (gV vs zs) Q E hr I.env0 (hb.to s us ws I.kIn (r.length.symm.trans l1) (rz.length.symm.trans l2)) r2 h) fun r s' hq => ?_)
  cases r with
  | error e => exact hx pins H s e s' I hq
  | ok fl =>
    cases fl with
    | ret u => exact I.after hq
    | next => exact False.elim hq
    | brk => exact False.elim hq
    | cont => exact False.elim hq
theorem pe_clkS0 (F : FnOk X.prog X.w X.K X.mg X.base CX k f fd ps sp) (hr : Room k X.A) (hg : Gl X x) (hm : X.mg x = some (.ref f)) (hk : PySem.W.keepIn X.K (.ref f) = true) (hb : KBn X.K fd ps 0 ks g gV) (hx : ∀ σ, PassesAt CX X σ (E σ)) (hkw : PK X kws tk)
    (hall : (backToKw pos (keywordEach kws X.env)).all (·.1.isSome) = true) (hks : (backToKw pos (keywordEach kws X.env)).filterMap (·.1) = ks) (hdb : (x == ("__debug__" : Str)) = false)
    (hpl : ((backTo pos (starEach [] X.env)).any (·.1) || (backToKw pos (keywordEach kws X.env)).any (·.1.isNone)) = false) :
    PE X (.Call (.Name x p) [] kws pos) (tClkS 0 ks.length sp gV E tNil tk) := by
  refine ⟨fun pins s σ H Q I h => ?_⟩
  refine wpAny_Call_Name_kw (ld_glob I hg hm ?_ hdb)
  refine PySem.W.callWith_KW0 (h₀ := X.base) I.ok.mod.kin hk hall ?_ hpl
  refine thn (hkw.run pos pins s σ H _ I h) fun ws s2 ⟨zs, H2, I2, rz, l1, l2, q2⟩ => ⟨I2.kIn, ?_⟩
  rw [hks]
  exact run_clkS (us := []) (vs := []) F hr hb (hx σ) I2 .nil rz rfl l2 q2
theorem pe_clkS (F : FnOk X.prog X.w X.K X.mg X.base CX k f fd ps sp) (hr : Room k X.A) (hg : Gl X x) (hm : X.mg x = some (.ref f)) (hk : PySem.W.keepIn X.K (.ref f) = true) (hb : KBn X.K fd ps n ks g gV) (hx : ∀ σ, PassesAt CX X σ (E σ)) (ha : PA X (e :: es) t) (hkw : PK X kws tk)
    (hall : (backToKw pos (keywordEach kws X.env)).all (·.1.isSome) = true) (hks : (backToKw pos (keywordEach kws X.env)).filterMap (·.1) = ks) (hdb : (x == ("__debug__" : Str)) = false)
    (he : starEach (e :: es) X.env = (false, eval e X.env) :: starEach es X.env) (hpl : ((backTo pos (starEach (e :: es) X.env)).any (·.1) || (backToKw pos (keywordEach kws X.env)).any (·.1.isNone)) = false) :
    PE X (.Call (.Name x p) (e :: es) kws pos) (tClkS n ks.length sp gV E t tk) := by
  refine ⟨fun pins s σ H Q I h => ?_⟩
  refine wpAny_Call_Name_kw (ld_glob I hg hm ?_ hdb)
  refine PySem.W.callWith_KW (h₀ := X.base) I.ok.mod.kin hk hall (thn (ha.run pos pins s σ H _ I h) fun us s1 ⟨vs, H1, I1, r, q⟩ => ?_) hpl he
  refine thn (hkw.run pos pins s1 σ H1 _ I1 q) fun ws s2 ⟨zs, H2, I2, rz, l1, l2, q2⟩ => ⟨I2.kIn, ?_⟩
  rw [hks]
  exact run_clkS F hr hb (hx σ) I2 r rz l1 l2 q2
end
def tKw (X : Cx) (kws : List Keyword) : TA := fun s H Q => ∀ (pos : Pos) (pins : List (Addr × Obj)) (t : Shared), Inv X pins s H t → wpAny (model X.prog X.w) X.A (evalAll ((backToKw pos (keywordEach kws X.env)).map (·.2))) (AP X pins s Q) X.xe t
theorem pk_K {kws : List Keyword} : PK X kws (tKw X kws) := ⟨fun pos pins t _ _ _ I h => h pos pins t I⟩
def SimK (T : TabX) (X : Cx) (Wx : WX) (kws : List Keyword) (m : Env → Hep → Out (List W)) : Prop := ∀ (r : Rho) (s : L2.St) (H : Hp) (e : Env) (h : Hep) (Q : List V → Hp → Prop), RelS T.toTab r e h s H → PostA T Wx r s H (m e h) Q → tKw X kws s H Q
theorem simK_nil : SimK T X Wx [] (fun _ h => .ok [] h) := by
  intro r s H e h Q S hq pos pins t I
  exact pk_nil.run pos pins t s H Q I (hq.ok S.hp .nil)
theorem simK_cons {nm : Option Str} {a : Expr} {kp : Pos} {kws : List Keyword} {ma : Env → Hep → Out W} {ms : Env → Hep → Out (List W)} (ha : SimE T X Wx a ma) (hs : SimK T X Wx kws ms) :
    SimK T X Wx (⟨nm, a, kp⟩ :: kws) (fun e h => (ma e h).bind fun x h1 => (ms e h1).bind fun xs h2 => .ok (x :: xs) h2) := by
  intro r s H e h Q S hq pos pins t I
  refine (pk_cons pe_E pk_K).run pos pins t s H Q I ?_
  refine ha r s H e h _ S (hq.bind fun r1 v H1 a h1 e1 rh1 rv hq1 => ?_)
  refine hs r1 s H1 e h1 _ (S.next e1 rh1) (hq1.bind fun r2 w H2 b h2 e2 rh2 rw hq2 => ?_)
  exact hq2.ok rh2 (.cons (rv.mono e2) rw)
/-- the names of keywords -/
def kwNames : List Keyword → List (Option Str)
  | [] => []
  | ⟨nm, _, _⟩ :: r => nm :: kwNames r
def kwVals : List Keyword → List Expr
  | [] => []
  | ⟨_, a, _⟩ :: r => a :: kwVals r
theorem kw_fst (pos : Pos) (env : PySem.Env) : ∀ kws : List Keyword, (backToKw pos (keywordEach kws env)).map (·.1) = kwNames kws
  | [] => rfl
  | ⟨nm, a, p⟩ :: r => by
    show nm :: (backToKw pos (keywordEach r env)).map (·.1) = nm :: kwNames r
    rw [kw_fst pos env r]
theorem kw_list : ∀ {l : List (Option Str × Sem Value)} {ks : List Str}, l.map (·.1) = ks.map some → l.all (·.1.isSome) = true ∧ l.filterMap (·.1) = ks ∧ l.any (·.1.isNone) = false
  | [], [], _ => ⟨rfl, rfl, rfl⟩
  | [], _ :: _, e => by cases e
  | _ :: _, [], e => by cases e
  | a :: l, k :: ks, e => by
    have e1 : a.1 = some k := (List.cons.inj e).1
    have e2 : l.map (·.1) = ks.map some := (List.cons.inj e).2
    obtain ⟨h1, h2, h3⟩ := kw_list e2
    refine ⟨?_, ?_, ?_⟩
    · rw [List.all_cons, e1, h1]; rfl
    · rw [List.filterMap_cons, e1]; simp only; rw [h2]
    · rw [List.any_cons, e1, h3]; rfl
theorem kw_all {pos : Pos} {env : PySem.Env} {kws : List Keyword} {ks : List Str} (h : kwNames kws = ks.map some) : (backToKw pos (keywordEach kws env)).all (·.1.isSome) = true ∧ (backToKw pos (keywordEach kws env)).filterMap (·.1) = ks ∧ (backToKw pos (keywordEach kws env)).any (·.1.isNone) = false :=
  kw_list ((kw_fst pos env kws).trans h)
def gArr (src : List (Sum Nat V)) (l : List V) : List V := src.map fun q => match q with
  | .inl i => l.getD i .non
  | .inr v => v
def gArrV (src : List (Sum Nat Value)) (l : List Value) : List Value := src.map fun q => match q with
  | .inl i => l.getD i .none
  | .inr v => v
inductive SrcR (T : Tab) : List (Sum Nat W) → List (Sum Nat V) → Prop
  | nil : SrcR T [] []
  | arg {i : Nat} {a : List (Sum Nat W)} {b : List (Sum Nat V)} : SrcR T a b → SrcR T (.inl i :: a) (.inl i :: b)
  | dfl {w : W} {v : V} {a : List (Sum Nat W)} {b : List (Sum Nat V)} : (∀ r H, RelW T r H w v) → SrcR T a b → SrcR T (.inr w :: a) (.inr v :: b)
theorem SrcR.arr {T : Tab} {r : Rho} {H : Hp} {ws : List W} {vs : List V} (rs : RelWs T r H ws vs) : ∀ {a : List (Sum Nat W)} {b : List (Sum Nat V)} {as : List W}, SrcR T a b → Kb.at_ ws a = some as → RelWs T r H as (gArr b vs)
  | _, _, as, .nil, e => by cases e; exact .nil
  | _, _, as, .arg (i := i) (a := a) (b := b) t, e => by
    simp only [Kb.at_] at e
    split at e
    · rename_i w l h1 h2
      cases e
      rw [nth_eq] at h1
      obtain ⟨v, g1, g2⟩ := rs.get h1
      refine .cons ?_ (SrcR.arr rs t h2)
      show RelW T r H w (vs.getD i .non)
      rw [List.getD_eq_getElem?_getD, g1]
      exact g2
    · cases e
  | _, _, as, .dfl hw t, e => by
    simp only [Kb.at_] at e
    split at e
    · rename_i l h2
      cases e
      exact .cons (hw r H) (SrcR.arr rs t h2)
    · cases e
def gSelf (src : List (Sum Nat V)) (us zs : List V) : List V := us.take 1 ++ gArr src (us.drop 1 ++ zs)
def gFun (src : List (Sum Nat V)) (us zs : List V) : List V := gArr src (us ++ zs)
/-- the way kb (keywords ks) is one of a class' __init__, of a def -/
structure KbOk (P : Pg) (T : TabX) (k : Nat) (X : Cx) (kb : Kb) (ks : List Str) (fa : Addr) (n : Nat) (gV : List (Sum Nat V) → List V → List V → List V) : Prop where
  ex : ∃ fn fd ps g src, nth P.fns kb.f = some fn ∧ SrcR T.toTab kb.src src ∧ FnOk X.prog X.w X.K X.mg X.base (L2.CX X.prog X.w) k fa fd ps (spEv P T k kb.f fn.np) ∧ KBn X.K fd ps n ks g (gV src)
  len : ks.length = kb.m
/-- arguments, by place and by name -/
def argM (m1 m2 : Env → Hep → Out (List W)) : Env → Hep → Out (List W) := fun e h => (m1 e h).bind fun xs h1 => (m2 e h1).bind fun ys h2 => .ok (xs ++ ys) h2
theorem RelWs.split {T : Tab} {r : Rho} {H : Hp} {xs ys : List W} {us zs : List V} (h1 : RelWs T r H xs us) (h2 : RelWs T r H ys zs) : RelWs T r H (xs ++ ys) (us ++ zs) := h1.app h2
/-- the new instance, ahead of its __init__ -/
theorem new_ins {T : Tab} {r : Rho} {h : Hep} {H : Hp} (rh : RelH T r h H) {c : Nat} {x dx : Addr} (ci : CI T.K (T.cA c)) (hx : H x = none) (hd : H dx = none) (ne : dx ≠ x) :
    Ext r (ins r h.n x) H (upd (upd H dx (.own x)) x (.ins (T.cA c) dx [])) ∧ RelH T (ins r h.n x) (h.push (.ins c [])) (upd (upd H dx (.own x)) x (.ins (T.cA c) dx [])) := by
  have hx2 : upd H dx (.own x) x = none := by rw [upd_ne (Ne.symm ne)]; exact hx
  have r1 := rh.alloc (u := .own x) hd
  exact ⟨(Ext.alloc rh hd).trans (Ext.push r1 hx2), r1.push hx2 ⟨dx, [], upd_same, ci, .nil⟩⟩
theorem made_ok {cl : Cl} {c : Nat} {r : Rho} {s : L2.St} {h : Hep} {H : Hp} {x dx : Addr} {o : Out W} {Q : VK} (rh : RelH T.toTab r h H) (ex : Ext r (ins r h.n x) H (upd (upd H dx (.own x)) x (.ins (T.cA c) dx []))) (hq : PostE T Wx r s H (o.bind fun w h2 => made cl h.n w h2) Q) :
    PostE T Wx (ins r h.n x) s (upd (upd H dx (.own x)) x (.ins (T.cA c) dx [])) o (fun v H2 => v = .non ∧ Q (.ref x) H2) := by
  cases o with
  | bad => exact hq
  | exc c' p h2 => exact fun r3 d H3 v e3 rh3 rv hd => hq r3 d H3 v (ex.trans e3) rh3 rv hd
  | ok w h2 =>
    intro r3 v H3 e3 rh3 rv
    have hq : PostE T Wx r s H (made cl h.n w h2) Q := hq
    unfold made at hq
    split at hq
    · cases rv
      have ha : r3 h.n = some x := e3.sub _ _ (ins_same _ _ _)
      refine ⟨rfl, ?_⟩
      split at hq
      · exact hq r3 _ H3 (ex.trans e3) rh3 (.ref ha)
      · split at hq
        · rename_i c' fs g
          obtain ⟨p, hp, dx', gs, q1, q2, q3⟩ := rh3.obj _ _ g
          rw [ha] at hp
          cases hp
          have ed : Ext r3 (fz r3 x) H3 H3 := Ext.dead ha
          obtain ⟨r4, x4, z4, rv4⟩ := RelH.ends rh ((ex.trans e3).trans ed) (rh3.dead ha g) (RelW.ins (T := T.toTab) (r := fz r3 x) (.inl rfl) q2 q1 (q3.kp (Kp.fz x)))
          exact hq r4 _ H3 x4 z4 rv4
        · exact hq.elim
    · exact hq.elim
theorem Post.arg {m1 m2 : Env → Hep → Out (List W)} {r : Rho} {s : L2.St} {H : Hp} {e : Env} {h : Hep} {f : List W → Hep → Out W} {Q : VK} (hq : PostE T Wx r s H ((argM m1 m2 e h).bind f) Q) :
    PostE T Wx r s H ((m1 e h).bind fun xs h1 => (m2 e h1).bind fun ys h2 => f (xs ++ ys) h2) Q := by
  unfold argM at hq
  cases q : m1 e h with
  | ok xs h1 =>
    simp only [q, Out.bind] at hq ⊢
    cases q2 : m2 e h1 <;> simp only [q2, Out.bind] at hq ⊢ <;> exact hq
  | exc _ _ _ => simp only [q, Out.bind] at hq ⊢; exact hq
  | bad => simp only [q, Out.bind] at hq; exact hq.elim
theorem arr_len {kb : Kb} {ws as : List W} (h : kb.arr ws = some as) : ws.length = kb.n + kb.m ∧ Kb.at_ ws kb.src = some as := by
  unfold Kb.arr at h
  split at h
  · rename_i z; exact ⟨z, h⟩
  · cases h
def makM (P : Pg) (C : Orc) (c : Nat) (cl : Cl) (kb : Kb) (m : Env → Hep → Out (List W)) : Env → Hep → Out W := fun e h => (m e h).bind fun ws h1 => (match kb.arr ws with
        | some as => (C.make cl.ini (.ref h1.n :: as) (h1.push (.ins c []))).bind fun r h2 => made cl h1.n r h2
        | none => .bad)
theorem mak_go {P : Pg} {n k c : Nat} {C : Orc} {cl : Cl} {kb : Kb} {ks : List Str} {fa : Addr} (hC : C.make = callN P k) (hf : kb.f = cl.ini) (ci : CI T.K (T.cA c)) (hK : T.K = X.K) {fn : Fn} {src : List (Sum Nat V)} (hfn : nth P.fns kb.f = some fn) (hsr : SrcR T.toTab kb.src src) (hlen : ks.length = kb.m)
    {m1 m2 : Env → Hep → Out (List W)} {t tk : TA} {r : Rho} {s : L2.St} {H : Hp} {e : Env} {h : Hep} {Q : VK} (hn : ∀ xs h1, m1 e h = .ok xs h1 → xs.length = kb.n)
    (h1 : ∀ Q1, PostA T Wx r s H (m1 e h) Q1 → t s H Q1) (h2 : ∀ r1 H1 k1 Q1, Ext r r1 H H1 → RelH T.toTab r1 k1 H1 → PostA T Wx r1 s H1 (m2 e k1) Q1 → tk s H1 Q1) (hq : PostE T Wx r s H (makM P C c cl kb (argM m1 m2) e h) Q) :
    tMakS (T.cA c) kb.n ks.length (spEv P T k kb.f fn.np) (gSelf src) (WE Wx) t tk s H Q := by
  unfold makM at hq
  have hq := Post.arg hq
  refine h1 _ (hq.bindE fun r1 vs H1 xs k1 eq e1 rh1 rx hq1 => ?_)
  refine h2 r1 H1 k1 _ e1 rh1 (hq1.bind fun r2 zs H2 ys k2 e2 rh2 ry hq2 => ?_)
  have lx := hn xs k1 eq
  have lx2 := rx.length
  have ly := ry.length
  cases qa : kb.arr (xs ++ ys) with
  | none => simp only [qa] at hq2; exact hq2.elim
  | some as =>
    simp only [qa] at hq2
    obtain ⟨l1, l2⟩ := arr_len qa
    rw [List.length_append] at l1
    refine ⟨by omega, by omega, fun x dx hx hd ne => ?_⟩
    obtain ⟨ex, rn⟩ := new_ins rh2 ci hx hd ne
    have rw' := made_ok (T := T) rh2 ex hq2
    rw [hC, ← hf] at rw'
    have ra : RelWs T.toTab r2 H2 as (gArr src (vs ++ zs)) := SrcR.arr ((rx.mono e2).app ry) hsr l2
    have rargs : RelWs T.toTab (ins r2 k2.n x) (upd (upd H2 dx (.own x)) x (.ins (T.cA c) dx [])) (.ref k2.n :: as) (gSelf src (.ref x :: vs) zs) := .cons (.ref (ins_same _ _ _)) (ra.mono ex)
    refine spEv_of rn rargs ?_ rw'
    rw [← rargs.length]
    by_cases z : (W.ref k2.n :: as).length = fn.np
    · exact z
    · rw [callN_len hfn z] at rw'; exact rw'.elim
def clkM (C : Orc) (kb : Kb) (m : Env → Hep → Out (List W)) : Env → Hep → Out W := fun e h => (m e h).bind fun ws h1 => (match kb.arr ws with
        | some as => C.call kb.f as h1
        | none => .bad)
theorem clk_go {P : Pg} {k : Nat} {C : Orc} {kb : Kb} {ks : List Str} (hC : C.call = callN P k) {fn : Fn} {src : List (Sum Nat V)} (hfn : nth P.fns kb.f = some fn) (hsr : SrcR T.toTab kb.src src) (hlen : ks.length = kb.m)
    {m1 m2 : Env → Hep → Out (List W)} {t tk : TA} {r : Rho} {s : L2.St} {H : Hp} {e : Env} {h : Hep} {Q : VK} (hn : ∀ xs h1, m1 e h = .ok xs h1 → xs.length = kb.n)
    (h1 : ∀ Q1, PostA T Wx r s H (m1 e h) Q1 → t s H Q1) (h2 : ∀ r1 H1 k1 Q1, Ext r r1 H H1 → RelH T.toTab r1 k1 H1 → PostA T Wx r1 s H1 (m2 e k1) Q1 → tk s H1 Q1) (hq : PostE T Wx r s H (clkM C kb (argM m1 m2) e h) Q) :
    tClkS kb.n ks.length (spEv P T k kb.f fn.np) (gFun src) (WE Wx) t tk s H Q := by
  unfold clkM at hq
  have hq := Post.arg hq
  refine h1 _ (hq.bindE fun r1 vs H1 xs k1 eq e1 rh1 rx hq1 => ?_)
  refine h2 r1 H1 k1 _ e1 rh1 (hq1.bind fun r2 zs H2 ys k2 e2 rh2 ry hq2 => ?_)
  have lx := hn xs k1 eq
  have lx2 := rx.length
  have ly := ry.length
  cases qa : kb.arr (xs ++ ys) with
  | none => simp only [qa] at hq2; exact hq2.elim
  | some as =>
    simp only [qa] at hq2
    obtain ⟨l1, l2⟩ := arr_len qa
    rw [List.length_append] at l1
    refine ⟨by omega, by omega, ?_⟩
    rw [hC] at hq2
    have ra : RelWs T.toTab r2 H2 as (gArr src (vs ++ zs)) := SrcR.arr ((rx.mono e2).app ry) hsr l2
    refine spEv_of rh2 ra ?_ hq2
    show (gArr src (vs ++ zs)).length = fn.np
    rw [← ra.length]
    by_cases z : as.length = fn.np
    · exact z
    · rw [callN_len hfn z] at hq2; exact hq2.elim
theorem simE_mak {P : Pg} {k c : Nat} {C : Orc} {cl : Cl} {kb : Kb} {ks : List Str} {fa : Addr} {x : Str} {p pos : Pos} {a : Expr} {as : List Expr} {kws : List Keyword} {m1 m2 : Env → Hep → Out (List W)} (hC : C.make = callN P k) (hf : kb.f = cl.ini) (ci : CI T.K (T.cA c)) (hK : T.K = X.K) (tk : Takes X Wx) (hr : Room (k + 1) X.A)
    (M : Mk X.K (T.cA c) fa) (B : KbOk P T k X kb ks fa (kb.n + 1) gSelf) (hg : Gl X x) (hm : X.mg x = some (.ref (T.cA c))) (hd : (x == ("__debug__" : Str)) = false) (hkw : kwNames kws = ks.map some) (hs : SimA T X Wx (a :: as) m1) (hs2 : SimK T X Wx kws m2) (hst : (a :: as).all noStar = true)
    (hn : ∀ e h xs h1, m1 e h = .ok xs h1 → xs.length = kb.n) : SimE T X Wx (.Call (.Name x p) (a :: as) kws pos) (makM P C c cl kb (argM m1 m2)) := by
  intro r s H e h Q S hq pins t I
  obtain ⟨fn, fd, pn, g, src, b1, b2, b3, b4⟩ := B.ex
  obtain ⟨k1, k2, k3⟩ := kw_all (pos := pos) (env := X.env) hkw
  have hc : (backTo pos (starEach (a :: as) X.env)).any (·.1) = false := by rw [backTo_any]; exact star_any hst
  have h1 : noStar a = true ∧ as.all noStar = true := by rw [List.all_cons, Bool.and_eq_true] at hst; exact hst
  refine (pe_makS (E := WE Wx) M b3 hr hg hm b4 (fun σ => passAt tk σ) pa_A pk_K k1 k2 hd (star_cons as X.env h1.1) (by rw [hc, k3]; rfl)).run pins t s H Q I ?_
  exact mak_go (X := X) (n := 0) (fa := fa) hC hf ci hK b1 b2 B.len (t := tA X (a :: as)) (tk := tKw X kws) (hn e h) (fun Q1 q => hs r s H e h Q1 S q) (fun r1 H1 k1 Q1 e1 rh1 q => hs2 r1 s H1 e k1 Q1 (S.next e1 rh1) q) hq
theorem simE_mak0 {P : Pg} {k c : Nat} {C : Orc} {cl : Cl} {kb : Kb} {ks : List Str} {fa : Addr} {x : Str} {p pos : Pos} {a : Expr} {as : List Expr} {kws : List Keyword} {m1 m2 : Env → Hep → Out (List W)} (hC : C.make = callN P k) (hf : kb.f = cl.ini) (ci : CI T.K (T.cA c)) (hK : T.K = X.K) (tk : Takes X Wx) (hr : Room (k + 1) X.A)
    (M : Mk X.K (T.cA c) fa) (B : KbOk P T k X kb ks fa (kb.n + 1) gSelf) (hg : Gl X x) (hm : X.mg x = some (.ref (T.cA c))) (hd : (x == ("__debug__" : Str)) = false) (hkw : kwNames kws = ks.map some) (hs2 : SimK T X Wx kws m2) (hz : kb.n = 0) : SimE T X Wx (.Call (.Name x p) [] kws pos) (makM P C c cl kb (argM (fun _ h => .ok [] h) m2)) := by
  intro r s H e h Q S hq pins t I
  obtain ⟨fn, fd, pn, g, src, b1, b2, b3, b4⟩ := B.ex
  obtain ⟨k1, k2, k3⟩ := kw_all (pos := pos) (env := X.env) hkw
  have go := mak_go (X := X) (n := 0) (fa := fa) hC hf ci hK b1 b2 B.len (t := tNil) (tk := tKw X kws) (fun xs h1 q => by cases q; exact hz.symm) (fun Q1 q => q.ok S.hp .nil) (fun r1 H1 k1 Q1 e1 rh1 q => hs2 r1 s H1 e k1 Q1 (S.next e1 rh1) q) hq
  rw [hz] at b4 go
  exact (pe_makS0 (E := WE Wx) M b3 hr hg hm b4 (fun σ => passAt tk σ) pk_K k1 k2 hd (by rw [k3]; rfl)).run pins t s H Q I go
theorem simE_clk {P : Pg} {k : Nat} {C : Orc} {kb : Kb} {ks : List Str} {fa : Addr} {x : Str} {p pos : Pos} {a : Expr} {as : List Expr} {kws : List Keyword} {m1 m2 : Env → Hep → Out (List W)} (hC : C.call = callN P k) (tk : Takes X Wx) (hr : Room k X.A)
    (B : KbOk P T k X kb ks fa kb.n gFun) (hk : PySem.W.keepIn X.K (.ref fa) = true) (hg : Gl X x) (hm : X.mg x = some (.ref fa)) (hd : (x == ("__debug__" : Str)) = false) (hkw : kwNames kws = ks.map some) (hs : SimA T X Wx (a :: as) m1) (hs2 : SimK T X Wx kws m2) (hst : (a :: as).all noStar = true)
    (hn : ∀ e h xs h1, m1 e h = .ok xs h1 → xs.length = kb.n) : SimE T X Wx (.Call (.Name x p) (a :: as) kws pos) (clkM C kb (argM m1 m2)) := by
  intro r s H e h Q S hq pins t I
  obtain ⟨fn, fd, pn, g, src, b1, b2, b3, b4⟩ := B.ex
  obtain ⟨k1, k2, k3⟩ := kw_all (pos := pos) (env := X.env) hkw
  have hc : (backTo pos (starEach (a :: as) X.env)).any (·.1) = false := by rw [backTo_any]; exact star_any hst
  have h1 : noStar a = true ∧ as.all noStar = true := by rw [List.all_cons, Bool.and_eq_true] at hst; exact hst
  refine (pe_clkS (E := WE Wx) b3 hr hg hm hk b4 (fun σ => passAt tk σ) pa_A pk_K k1 k2 hd (star_cons as X.env h1.1) (by rw [hc, k3]; rfl)).run pins t s H Q I ?_
  exact clk_go hC b1 b2 B.len (t := tA X (a :: as)) (tk := tKw X kws) (hn e h) (fun Q1 q => hs r s H e h Q1 S q) (fun r1 H1 k1 Q1 e1 rh1 q => hs2 r1 s H1 e k1 Q1 (S.next e1 rh1) q) hq
theorem simE_clk0 {P : Pg} {k : Nat} {C : Orc} {kb : Kb} {ks : List Str} {fa : Addr} {x : Str} {p pos : Pos} {a : Expr} {as : List Expr} {kws : List Keyword} {m1 m2 : Env → Hep → Out (List W)} (hC : C.call = callN P k) (tk : Takes X Wx) (hr : Room k X.A)
    (B : KbOk P T k X kb ks fa kb.n gFun) (hk : PySem.W.keepIn X.K (.ref fa) = true) (hg : Gl X x) (hm : X.mg x = some (.ref fa)) (hd : (x == ("__debug__" : Str)) = false) (hkw : kwNames kws = ks.map some) (hs2 : SimK T X Wx kws m2) (hz : kb.n = 0) : SimE T X Wx (.Call (.Name x p) [] kws pos) (clkM C kb (argM (fun _ h => .ok [] h) m2)) := by
  intro r s H e h Q S hq pins t I
  obtain ⟨fn, fd, pn, g, src, b1, b2, b3, b4⟩ := B.ex
  obtain ⟨k1, k2, k3⟩ := kw_all (pos := pos) (env := X.env) hkw
  have go := clk_go hC b1 b2 B.len (t := tNil) (tk := tKw X kws) (fun xs h1 q => by cases q; exact hz.symm) (fun Q1 q => q.ok S.hp .nil) (fun r1 H1 k1 Q1 e1 rh1 q => hs2 r1 s H1 e k1 Q1 (S.next e1 rh1) q) hq
  rw [hz] at b4 go
  exact (pe_clkS0 (E := WE Wx) b3 hr hg hm hk b4 (fun σ => passAt tk σ) pk_K k1 k2 hd (by rw [k3]; rfl)).run pins t s H Q I go
end
end Ev

namespace PySem
namespace EvX
open PySem.W PySem.Calls PyProof.Rows Builtin Builtin.ObjectAttr
/-- what is known of a built-in error class -/
structure EB where
  B : String
  newId : String
  initId : String
  bm : List Value
  F : ExcBaseFacts B newId initId bm
  pass : ∀ self : Value, refuseLoop self "__setattr__" bm = pure ()
  obj : bm.contains (.type "object") = true
  hand : handedIn (.builtin initId) = true
  typ : typeOf (.type B) = pure (.type "type")
  stub : Manifest.isStub B = false
def ebV : EB := ⟨_, _, _, _, F.excBase_ValueError, F.store_ValueError.passes, by decide +kernel, by decide +kernel, by kernel_rfl, by decide +kernel⟩
def ebO : EB := ⟨_, _, _, _, F.excBase_OverflowError, F.store_OverflowError.passes, by decide +kernel, by decide +kernel, by kernel_rfl, by decide +kernel⟩
def ebR : EB := ⟨_, _, _, _, F.excBase_RuntimeError, F.store_RuntimeError.passes, by decide +kernel, by decide +kernel, by kernel_rfl, by decide +kernel⟩
section
variable {prog : Program} {w : World} {A : Around} {R : Result → Shared → Prop} {hp : Heap} {g : Array GenState} {d : Drawn} {t : Nat} {os : OsState}
/-- the first attribute of a new error -/
theorem first_store {B : EB} {K : W.Frag} {name : Str} {tk : Tok} {v : Value} {x C : Addr} {fv : Array Value} {cd : ClassData} (X : K.In hp) (hx : hp.get? x = some { cls := .ref C, data := .fields fv }) (hcd : W.clsIn K C = some cd) (hm : excTail B.bm cd.mro = true) (hne : cd.mro.isEmpty = false) (hh : cd.hasDict = true)
    (ha : W.findIn K (.ref C) name = some none)
    (fin : ∀ h' tk' dx, (∀ b o, b ≠ x → hp.get? b = some o → h'.get? b = some o) → hp.objs.size ≤ dx → dx ≠ x → h'.get? x = some { cls := .ref C, dict := some dx, data := .fields fv } →
      h'.Ns1 dx (fun y => if y = name then some v else none) → R (.ok (.ret .none)) ⟨h', g, d, tk', os⟩) :
    codeAny (model prog w) A (.call (.builtin "object.__setattr__") ⟨[.ref x, .str name tk, v], []⟩) R ⟨hp, g, d, t, os⟩ := by
  have J : W.InstAt hp x { cls := .ref C, data := .fields fv } C none := ⟨hx, rfl, rfl, trivial⟩
  have S := F.store_object
  have inO : cd.mro.contains (.type "object") = true := (excTail_contains "object" _ hm).trans B.obj
  have apart : x ≠ hp.objs.size := Nat.ne_of_lt (Heap.lt_size hx)
  have isO : W.Looks (model prog w) hp (isInstance (.ref x) (.type "object")) true := by
    refine J.type.andThen (W.looks_mroIn X ?_)
    unfold W.mroIn
    rw [hcd, Option.bind_some, if_neg (by rw [hne]; decide), inO]
  refine codeAny_call_builtin S.slot.plain S.entry (@W.check_slot (model prog w) _ _ ⟨hp, g, d, t, os⟩ "object.__setattr__" "object" "__setattr__" (.ref x) [.str name tk, v] [] _ S.kind S.split isO (S.args (.ref x) (.str name tk) v) ?_)
  have look : W.Looks (model prog w) hp (classData C) cd := W.looks_clsIn X hcd
  have mro : W.Looks (model prog w) hp (mroOf (.ref C)) cd.mro := look.andThen .now
  have none_ : W.Looks (model prog w) hp (storeTaker? none) none := .now
  rw [W.osa_eq, refuse_eq]
  refine wpAny_bind (wpAny_bind (J.type.at (wpAny_bind (mro.at ?_))))
  rw [excTail_pass _ (B.pass _) _ hm]
  refine wpAny_pure (wpAny_bind (J.type.at (wpAny_bind ((W.looks_findIn X ha).at (wpAny_bind (none_.at ?_))))))
  show wpAny _ _ (storeInOwnDict (.ref x) (.ref C) (.str name tk) name v false) _ _ _
  obtain ⟨c1, c2, c3, c4, c5, c6, c7, c8, c9, c10, c11⟩ := cd
  dsimp only at hh
  subst hh
  unfold storeInOwnDict ownDictForStores
  repeat (first | with_reducible refine HandSPX.store_in_new ?_ ?_ | with_reducible refine wpAny_loadPart_at hx ?_ | with_reducible refine look.at ?_ | wp_step)
  · exact ⟨_, #[], _, (Heap.get?_update_ne _ _ _ _ apart.symm).trans (Heap.get?_push_at rfl rfl), rfl, fun e he => absurd he (by simp), fun _ => rfl⟩
  · intro h' tk' hn same
    have hx1 : (hp.push { cls := .type "dict", data := .dict #[] }).get? x = some { cls := .ref C, data := .fields fv } := Heap.get?_push_of_some _ hx
    refine fin h' tk' hp.objs.size (fun b o hb ho => ?_) (Nat.le_refl _) apart.symm ?_ hn
    · rw [same.2 b (Nat.ne_of_lt (Heap.lt_size ho)), Heap.get?_update_ne _ _ _ _ hb]
      exact Heap.get?_push_of_some _ ho
    · rw [same.2 x apart]
      exact Heap.get?_update_self _ hx1 rfl
end
end EvX
end PySem
namespace Ev
open PySem PySem.Spec PyProof.Rows L2
open PySem.EvX (EB)
/-- what the written part says of an error class over the built-in one B -/
structure ErrC (K : PySem.W.Frag) (C : Addr) (B : EB) : Prop where
  cls : ∃ nm q N bs bm sn sub ab col dd k0 k1 k2 k3 k5, K.lookup C = some (excClassObj nm q C N bs bm true sn sub ab col dd k0 k1 k2 k3 k5 B.newId) ∧ PySem.W.excTail B.bm bm = true ∧ bm.isEmpty = false
  sa : PySem.W.findIn K (.ref C) "__setattr__" = some (some (.builtin "object.__setattr__"))
  exC : PySem.W.subIn K (.ref C) (.type "BaseException") = some true
  tyC : PySem.W.typeIn K (.ref C) = some (.type "type")
  kC : PySem.W.keepIn K (.ref C) = true
section
variable {X : Cx} {pins : List (Addr × Obj)} {σ : L2.St} {H : Hp} {s : Shared} {a C : Addr} {B : EB}
/-- self.f = y of a new error -/
theorem err_store {f : Str} {y : V} {u : Value} {Q : Unit → Shared → Prop} {E : Value → Shared → Prop} {A : Around} (T : ErrC X.K C B) (I : Inv X pins σ H s) (e : H a = some (exo a C none)) (hno : PySem.W.findIn X.K (.ref C) f = some none) (ry : RelV y u)
    (h : ∀ dx s', H dx = none → dx ≠ a → Inv X pins σ (upd (upd H dx (exd dx [(f, y)])) a (exo a C (some dx))) s' → Q () s') : wpAny (model X.prog X.w) A (setAttr (.ref a) f u) Q E s := by
  obtain ⟨nm, q, N, bs, bm, sn, sub, ab, col, dd, k0, k1, k2, k3, k5, hC, ht, hne⟩ := T.cls
  have hcl : PySem.W.clsIn X.K C = some { name := nm, bases := bs, mro := .ref C :: bm, ns := N, qualname := q, hasDict := true, slotNames := sn, subclasses := sub, abstract := ab, collection := col, hasDel := false } := by
    unfold PySem.W.clsIn
    rw [hC] <;> rfl
  obtain ⟨t1, ho⟩ := exo_at I.hok e
  obtain ⟨hp, g, d, t, os⟩ := s
  refine PySem.W.set_plain I.kIn (ox := { cls := .ref C, dict := none, data := .fields #[.ref t1, .none, .none, .none, .bool false, .none] }) (od := none) ⟨ho, rfl, rfl, trivial⟩ T.sa ?_
  refine PySem.EvX.first_store (B := B) I.kIn ho hcl (show PySem.W.excTail B.bm (.ref C :: bm) = true from ht) rfl rfl hno (fun h' tk' dx k dn dne hx hn => ?_)
  have hnd : H dx = none := I.hok.fresh dn
  have nd : ∀ {b : Addr} {o : Obj}, hp.get? b = some o → b ≠ dx := fun {b o} z => Nat.ne_of_lt (Nat.lt_of_lt_of_le (Heap.lt_size z) dn)
  have na : ∀ {b : Addr}, H b = none → b ≠ a := fun {b} n z => by
    rw [z, e] at n
    cases n
  have U : Un X.fs [] H (upd (upd H dx (exd dx [(f, y)])) a (exo a C (some dx))) hp h' := {
    keep := fun b o z n _ _ => k b o (na n) z
    slot := fun b o z n _ _ => ⟨o.slots, k b o (na n) z⟩
    free := fun b o z n _ => (upd_ne (na n)).trans ((upd_ne (nd z)).trans n)
    there := fun b o z _ => by
      by_cases hb : b = a
      · rw [hb]; exact ⟨_, hx⟩
      · exact ⟨o, k b o hb z⟩
    tups := fun b xs z => (upd_ne (at_ne e z exo_tup)).trans ((upd_ne (ne_of_none z hnd)).trans z)
    frzs := fun b o v z => (upd_ne (at_ne e z exo_frz)).trans ((upd_ne (ne_of_none z hnd)).trans z)
    tbls := fun b ps z => ⟨#[], ((upd_ne (at_ne e z exo_tbl)).trans ((upd_ne (ne_of_none z hnd)).trans z)).trans (by simp)⟩ }
  refine h dx _ hnd dne (I.un (t' := tk') U fun b o z => ?_)
  by_cases hb : b = a
  · subst hb
    rw [upd_same] at z
    cases z
    exact exo_ok hx
  · rw [upd_ne hb] at z
    by_cases hd : b = dx
    · subst hd
      rw [upd_same] at z
      cases z
      exact exd_ok hn (relO_put (fs := []) ry fun g => True.intro)
    · rw [upd_ne hd] at z
      refine (I.hok b o z).stay (fun c v hc y => k c v ?_ y) (fun c hc => (upd_ne (at_ne e hc exo_own)).trans ((upd_ne (ne_of_none hc hnd)).trans hc)) (fun c xs hc => (upd_ne (at_ne e hc exo_tup)).trans ((upd_ne (ne_of_none hc hnd)).trans hc))
      rcases hc with hc | hc
      · rw [hc]; exact hb
      · exact at_ne e hc exo_own
/-- B.__init__(self, ..) -/
theorem err_init {us : List Value} {Q : Value → Shared → Prop} {E : Value → Shared → Prop} {A : Around} (T : ErrC X.K C B) (I : Inv X pins σ H s) (e : H a = some (exo a C none)) (hl : us.length ≤ sizeLine) (h : ∀ s', Inv X pins σ H s' → Q .none s') :
    wpAny (model X.prog X.w) A (call (.builtin B.initId) (.ref a :: us)) Q E s := by
  obtain ⟨nm, q, N, bs, bm, sn, sub, ab, col, dd, k0, k1, k2, k3, k5, hC, ht, hne⟩ := T.cls
  obtain ⟨t1, ho⟩ := exo_at I.hok e
  obtain ⟨hp, g, d, t, os⟩ := s
  refine wpAny_call (PySem.HandSPX.init_base B.F (fun Y => PySem.W.excTail_contains Y bm ht) (I.kIn _ _ hC) ho hl fun h' t2 k hx => ?_)
  have J := I.write (t' := t) (x := a) (e := a) (o := exo a C none) (by rw [e]; exact True.intro) (.inl rfl) k ⟨_, hx⟩ (exo_ok hx)
  rw [show upd H a (exo a C none) = H from by
    funext b
    by_cases hb : b = a
    · rw [hb, upd_same, e]
    · exact upd_ne hb] at J
  exact h _ J
end
/-- what x.__init__ is: the built-in error's -/
inductive InitBy (X : Cx) (x : Str) (B : EB) : Prop
  | own {S : Addr} (g : Gl X x) (dbg : (x == ("__debug__" : Str)) = false) (m : X.mg x = some (.ref S)) (rd : PySem.W.readsIn X.K S (.type "type") = true) (ga : PySem.W.specialIn X.K (.ref S) "__getattribute__" = some (some (.builtin "type.__getattribute__")))
      (at_ : PySem.W.findCls X.K (.ref S) (.type "type") "__init__" = some (.val (.builtin B.initId))) : InitBy X x B
  | blt (g : Gl X x) (dbg : (x == ("__debug__" : Str)) = false) (nn : x ≠ "__name__") (m : X.mg x = none) (b : bootBuiltins x = some (.type B.B)) (at_ : PySem.W.findCls X.K (.type B.B) (.type "type") "__init__" = some (.val (.builtin B.initId))) : InitBy X x B
section
variable {X : Cx} {B : EB}
def tBI (K : PySem.W.Frag) (B : EB) (ta : TA) : TE := fun σ H Q => ta σ H fun vs H1 => ∃ (a C : Addr) (ws : List V), vs = .ref a :: ws ∧ ws.length ≤ 1000 ∧ ErrC K C B ∧ H1 a = some (exo a C none) ∧ Q .non H1
theorem pe_binit {x : Str} {e : Expr} {es : List Expr} {ta : TA} {p1 p2 pos : Pos} (N : InitBy X x B) (ha : PA X (e :: es) ta) (hb : attributeBase (.Name x p1) "__init__" X.env (eval (.Name x p1) X.env) = eval (.Name x p1) X.env)
    (hf : methodCallForm (e :: es).length (backTo pos (starEach (e :: es) X.env)) [] = true) (hl : (p2.endLine == pos.line) = true)
    (he : starEach (e :: es) X.env = (false, eval e X.env) :: starEach es X.env) (hpl : (backTo pos (starEach es X.env)).any (·.1) = false) :
    PE X (.Call (.Attribute (.Name x p1) "__init__" p2) (e :: es) [] pos) (tBI X.K B ta) := by
  refine ⟨fun pins s σ H Q I h => ?_⟩
  have fin : ∀ s0, Inv X pins σ H s0 → wpAny (model X.prog X.w) X.A (callWith pos (Value.builtin B.initId) [] (backTo pos (starEach (e :: es) X.env)) (backToKw pos (keywordEach [] X.env))) (EP X pins σ Q) X.xe s0 := fun s0 I0 => by
    show wpAny _ _ (callWith pos (Value.builtin B.initId) [] (backTo pos (starEach (e :: es) X.env)) []) _ _ _
    refine PyProof.Rows.callWith_method1 (thn (ha.run pos pins s0 σ H _ I0 h) fun us s1 ⟨vs, H1, I1, r1, a, C, ws, ev, hz, T, ea, q⟩ => ?_) he hpl
    subst ev
    cases r1 with
    | @cons _ u0 _ ur ra rw' =>
      obtain rfl : u0 = Value.ref a := ra
      have hlen : ur.length ≤ sizeLine := by
        rw [← Paired.length rw', sizeLine_eq]
        omega
      exact err_init T I1 ea hlen fun s' J => ⟨.non, H1, J, rfl, q⟩
  cases N with
  | own g dbg m rd ga at_ =>
    refine PySem.W.methodCall_KW (ld_glob I g m ?_ dbg) (meth_eval hb hf hl)
    exact PySem.W.method_cls I.kIn ga (PySem.W.cls_value I.kIn rd at_ B.hand (fin _ (I.tok _)))
  | blt g dbg nn m b at_ =>
    refine PySem.W.methodCall_KW (ld_blt I g m b ?_ nn dbg) (meth_eval hb hf hl)
    obtain ⟨k, fr⟩ := I.fr
    exact PySem.W.method_type fr I.ok.mod.kin B.typ B.stub at_ B.hand (fin _ (I.tok _))
def tEst (K : PySem.W.Frag) (B : EB) (f : Str) (to te : TE) : TS := fun D σ H => te σ H fun y H1 => to σ H1 fun x H2 => ∃ a C : Addr, x = .ref a ∧ ErrC K C B ∧ PySem.W.findIn K (.ref C) f = some none ∧ H2 a = some (exo a C none) ∧
  ∀ dx, H2 dx = none → dx ≠ a → D.nx σ (upd (upd H2 dx (exd dx [(f, y)])) a (exo a C (some dx)))
theorem ps_est {o e : Expr} {to te : TE} {f : Str} {p' pos : Pos} (ho : PE X o to) (he : PE X e te) (hs : swapsWith e (some (.Attribute o f p')) pos.line X.env = pure false) : PS X (.Assign [.Attribute o f p'] e pos) (tEst X.K B f to te) := by
  refine ⟨fun pins s σ H D I h => ?_⟩
  refine plainObj_wpAny_Assign_Attribute (thn (he.run pins s σ H _ I h) fun v s1 ⟨y, H1, I1, r1, q1⟩ => thn (ho.run pins s1 σ H1 _ I1 q1) fun u s2 ⟨x, H2, I2, r2, a, C, ex, T, hno, ea, q⟩ => ?_) hs
  subst ex
  obtain rfl : u = Value.ref a := r2
  exact err_store T I2 ea hno r1 fun dx s' n ne J => ⟨σ, _, J, q dx n ne⟩
end
/-- what an error's __init__ promises -/
def spErr (C : Addr) (f : Str) : Sp := fun vs H Q _ => ∃ (a : Addr) (y : V), vs = [.ref a, y] ∧ H a = some (exo a C none) ∧ ∀ dx, H dx = none → dx ≠ a → Q .non (upd (upd H dx (exd dx [(f, y)])) a (exo a C (some dx)))
/-- the text of an error's __init__: x.__init__(self, 'm'); self.f = p -/
def errBody (x sf p f : Str) : List Stmt → Bool
  | [.Expr (.Call (.Attribute (.Name y _) ini p2) [.Name s1 _, .Constant (.str _) _ _] [] pos) _, .Assign [.Attribute (.Name s2 _) g _] (.Name q _) _] =>
      strEq y x && strEq ini "__init__" && strEq s1 sf && strEq s2 sf && strEq g f && strEq q p && (p2.endLine == pos.line)
  | _ => false
theorem err_fn {prog : Program} {w : World} {K : PySem.W.Frag} {mg : Str → Option Value} {base : Heap} {CX : CXT} {C fa : Addr} {fd : FuncData} {x sf p f nm qual : Str} {params : Arguments} {body : List Stmt} {scope : Scope} {B : EB} (T : ErrC K C B) (D : FunD K nm qual params body scope [] [] fa fd)
    (S : FnScope [sf, p] [sf, p] scope) (hb : errBody x sf p f body = true) (hno : PySem.W.findIn K (.ref C) f = some none) (hv : Vis scope sf ∧ Vis scope p) (hd : (sf == ("__debug__" : Str)) = false ∧ (sf == ("__classdict__" : Str)) = false ∧ (p == ("__debug__" : Str)) = false ∧ (p == ("__classdict__" : Str)) = false)
    (hi : ∀ X : Cx, X.K = K → X.mg = mg → X.env.scope = scope → InitBy X x B) : FnOk prog w K mg base CX 1 fa fd [sf, p] (spErr C f) := by
  refine D.ok S (fun vs H Q E h => ?_) (fun cdv A outer s H vs Q E hr h => ?_)
  · obtain ⟨a, y, rfl, _⟩ := h
    rfl
  · obtain ⟨a, y, rfl, ea, q⟩ := h
    unfold errBody at hb
    split at hb
    · rename_i y0 p1 ini p2 s1 q1 c j q2 pos pe s2 q3 g q4 q' q5 pa
      simp only [Bool.and_eq_true, strEq_eq, beq_iff_eq] at hb
      obtain ⟨⟨⟨⟨⟨⟨rfl, rfl⟩, rfl⟩, rfl⟩, rfl⟩, rfl⟩, hl⟩ := hb
      refine ⟨_, pss_cons (ps_expr (pe_binit (B := B) (hi _ rfl rfl rfl) (pa_cons (pe_var (i := 0) rfl hv.1 hd.1 hd.2.1) (pa_cons pe_str pa_nil rfl) rfl) rfl rfl (by rw [hl]; exact beq_self_eq_true _) rfl rfl) rfl) (pss_one (ps_est (B := B) (pe_var (i := 0) rfl hv.1 hd.1 hd.2.1) (pe_var (i := 1) rfl hv.2 hd.2.2.1 hd.2.2.2) rfl)), ?_⟩
      refine ⟨.ref a, rfl, a, C, [.str c], rfl, (show 1 ≤ 1000 by decide), T, ea, ?_⟩
      refine ⟨y, rfl, .ref a, rfl, a, C, rfl, T, hno, ea, fun dx h1 h2 => q dx h1 h2⟩
    · cases hb
def tMkE (C : Addr) (sp : Sp) (ta : TA) : L2.St → Hp → XK → Prop := fun σ H Q => ta σ H fun vs H1 => vs.length ≤ 1000 ∧ ∀ a, H1 a = none → sp (.ref a :: vs) (upd H1 a (exo a C none))
  (fun v H2 => v = .non ∧ ∃ (d : Addr) (fs : List (Str × V)), H2 a = some (exo a C (some d)) ∧ H2 d = some (exd d fs) ∧ H1 d = none ∧ Q (.ref C) (some d) (upd (del H2 a) d (.xd fs))) (fun _ _ _ => False)
theorem pmk_err {X : Cx} {CX : CXT} {x : Str} {C fI : Addr} {k : Nat} {fd : FuncData} {ps : List Str} {sp : Sp} {B : EB} {e : Expr} {es : List Expr} {ta : TA} {p pos : Pos} (T : ErrC X.K C B) (iC : PySem.W.findIn X.K (.ref C) "__init__" = some (some (.ref fI))) (tI : PySem.W.typeIn X.K (.ref fI) = some (.type "function"))
    (F1 : FnOk X.prog X.w X.K X.mg X.base CX k fI fd ps sp) (hr : Room (k + 1) X.A) (hb : Binds X.K fd ps []) (hx : Passes CX X (fun _ _ _ => False)) (hg : Gl X x) (hm : X.mg x = some (.ref C)) (ha : PA X (e :: es) ta)
    (hdb : (x == ("__debug__" : Str)) = false) (he : starEach (e :: es) X.env = (false, eval e X.env) :: starEach es X.env) (hpl : (backTo pos (starEach es X.env)).any (·.1) = false) :
    PMk X (.Call (.Name x p) (e :: es) [] pos) (tMkE C sp ta) := by
  intro pins s σ H Q I h
  obtain ⟨nm, q, N, bs, bm, sn, sub, ab, col, dd, k0, k1, k2, k3, k5, hC, ht, hne⟩ := T.cls
  refine wpAny_Call_Name_kw (ld_glob I hg hm ?_ hdb)
  refine PySem.W.callWith_K (h₀ := X.base) I.ok.mod.kin T.kC (thn (ha.run pos pins s σ H _ I h) fun us s1 ⟨vs, H1, I1, r1, hz, q1⟩ => ⟨I1.kIn, ?_⟩) he hpl
  show wpAny _ _ (call (.ref C) us) _ _ _
  obtain ⟨hp, g, dr, tk, os⟩ := s1
  generalize ha0 : hp.objs.size + 1 = a at *
  have hsz : hp.objs.size ≤ a := by rw [← ha0]; exact Nat.le_succ _
  have hq := q1 a (I1.hok.fresh hsz)
  have kk : ∀ b o, hp.get? b = some o → ((hp.push (PySem.W.kdv_tup us)).push (PySem.HandSPX.excO C hp.objs.size)).get? b = some o := fun b o z => Heap.get?_push_of_some _ (Heap.get?_push_of_some _ z)
  have hget : ((hp.push (PySem.W.kdv_tup us)).push (PySem.HandSPX.excO C hp.objs.size)).get? a = some (PySem.HandSPX.excO C hp.objs.size) := by
    rw [← ha0]
    heap_get
  have I2 : Inv X pins σ (upd H1 a (exo a C none)) ⟨(hp.push (PySem.W.kdv_tup us)).push (PySem.HandSPX.excO C hp.objs.size), g, dr, tk, os⟩ := I1.laid (t' := tk) (a := a) (o := exo a C none) kk hsz (exo_ok hget)
  have r2 : Vals (V.ref a :: vs) (Value.ref a :: us) := .cons rfl r1
  have hl : (Value.ref a :: us).length = ps.length := by rw [← r2.length]; exact F1.len _ _ _ _ hq
  have hus : us.length ≤ sizeLine := by
    rw [← Paired.length r1, sizeLine_eq]
    omega
  have hbb := hb _ (Value.ref a :: us) I2.kIn (by rw [List.append_nil]; exact hl)
  rw [List.append_nil] at hbb
  refine wpAny_call (PySem.HandSPX.call_own B.F (fun Y => PySem.W.excTail_contains Y bm ht) (I1.kIn _ _ hC) (PySem.W.looks_findIn I1.kIn iC) (fun self => PySem.W.bind_fn I1.kIn self tI) hus ?_)
  rw [ha0]
  refine codeAny_mono (F1.run _ X.stack _ _ ⟨Value.ref a :: us, []⟩ (Value.ref a :: us) _ _ (fun _ _ _ => False) (hr.make C us []) (I2.env0.make C us []) hbb r2 hq) fun r s' hq' => ?_
  cases r with
  | error er => exact hx pins σ _ _ er s' I2 hq'
  | ok fl =>
    cases fl with
    | ret u =>
      obtain ⟨v, H2, os2, bare2, un2, hok2, rv, ev, d, fs, ea, ed, hd1, q2⟩ := hq'
      subst ev
      obtain ⟨h2, g2, d2, t2, os'⟩ := s'
      exact ⟨rv, mk_end (raises_own T.exC T.tyC) I1 hsz kk un2 hok2 os2 bare2 ea ed hd1 q2⟩
    | next => exact False.elim hq'
    | brk => exact False.elim hq'
    | cont => exact False.elim hq'
/-- what is known of an error class -/
structure ErrP (T : TabX) (X : Cx) (c : Nat) (x : Str) : Prop where
  mg : X.mg x = some (.ref (T.cA c))
  ex : ∃ (B : EB) (fI : Addr) (fd : FuncData) (ps : List Str), ErrC X.K (T.cA c) B ∧ PySem.W.findIn X.K (.ref (T.cA c)) "__init__" = some (some (.ref fI)) ∧ PySem.W.typeIn X.K (.ref fI) = some (.type "function") ∧
    FnOk X.prog X.w X.K X.mg X.base (L2.CX X.prog X.w) 1 fI fd ps (spErr (T.cA c) (T.eA c)) ∧ Binds X.K fd ps []
  xf : XfC X.K (T.cA c)
  no : PySem.W.findIn X.K (.ref (T.cA c)) (T.eA c) = some none
theorem simS_rai {T : TabX} {X : Cx} {Wx : WX} {c : Nat} {x : Str} {a : Expr} {p cp pos : Pos} {ma : Env → Hep → Out W} (hc : X.calm = true) (tk : Takes X Wx) (hr : Room 2 X.A) (E : ErrP T X c x) (hg : Gl X x) (hd : (x == ("__debug__" : Str)) = false) (ha : SimE T X Wx a ma) (hn : noStar a = true) :
    SimS T X Wx (.Raise (some (.Call (.Name x p) [a] [] cp)) none pos) (fun e h => (ma e h).stm e fun w h1 => .exc c w e h1) := by
  intro r s H e h D S hq pins t I
  obtain ⟨B, fI, fd, ps, e1, e2, e3, e4, e5⟩ := E.ex
  have px : Passes (L2.CX X.prog X.w) X (fun _ _ _ => False) := passes_call (W := Wx) tk fun _ _ _ _ z => z.elim
  refine (ps_raise hc tk (pmk_err e1 e2 e3 e4 hr e5 px hg E.mg (pa_cons pe_E pa_nil (star_cons [] X.env hn)) hd (star_cons [] X.env hn) rfl)).run pins t s H D I ?_
  refine ha r s H e h _ S (hq.stm S fun r1 v H1 w h1 x1 rh1 rv hq1 => ?_)
  refine ⟨(show 1 ≤ 1000 by decide), fun a0 ha0 => ⟨a0, v, rfl, upd_same, fun dx hdx ne => ⟨rfl, dx, [(T.eA c, v)], upd_same, by rw [upd_ne ne, upd_same], ?_, ?_⟩⟩⟩
  · rw [upd_ne ne] at hdx; exact hdx
  · have hd1 : H1 dx = none := by rw [upd_ne ne] at hdx; exact hdx
    have eH : upd (del (upd (upd (upd H1 a0 (exo a0 (T.cA c) none)) dx (exd dx [(T.eA c, v)])) a0 (exo a0 (T.cA c) (some dx))) a0) dx (.xd [(T.eA c, v)]) = upd H1 dx (.xd [(T.eA c, v)]) := by
      funext b
      by_cases z1 : b = dx
      · subst z1; rw [upd_same, upd_same]
      · rw [upd_ne z1, upd_ne z1]
        by_cases z2 : b = a0
        · subst z2; rw [del_same, ha0]
        · rw [del_ne z2, upd_ne z2, upd_ne z1, upd_ne z2]
    have ea := Ext.alloc rh1 (u := .xd [(T.eA c, v)]) hd1
    show Wx (.ref (T.cA c)) (some dx) s _
    rw [eH]
    exact hq1 r1 dx _ v s ea ((S.next x1 rh1).next ea (rh1.alloc hd1)) (rv.mono ea) upd_same
end Ev

namespace Ev
open PySem PySem.Spec PyProof.Rows L2
abbrev Sui := Addr → Value → Option Addr → TS
/-- the ends behind a clause that binds slot i -/
def endsI (D : Ends) (i : Nat) : Ends := { nx := fun σ H => D.nx (σ.set i none) H, rt := D.rt, bk := fun σ H => D.bk (σ.set i none) H, ct := fun σ H => D.ct (σ.set i none) H }
def wAll (K : PySem.W.Frag) (Wout : WX) (D : Ends) : List (Value × Option Nat × Sui) → WX
  | [] => Wout
  | (c, oi, ts) :: r => fun cls d σ H => ∃ b, PySem.W.exmOne K cls c = some b ∧ (b = true → ∀ a, H a = none → (match oi with
      | none => ts a cls d D σ H
      | some i => ts a cls d (endsI D i) (σ.set i (some (.ref a))) H)) ∧ (b = false → wAll K Wout D r cls d σ H)
inductive HdsAll (X : Cx) : List ExceptHandler → List (Value × Option Nat × Sui) → Prop
  | nil : HdsAll X [] []
  | cons {x : Str} {c : Value} {ts : Sui} {b₀ : Stmt} {suite : List Stmt} {np hp : Pos} {hds : List ExceptHandler} {l : List (Value × Option Nat × Sui)} (hc : Names X x c)
      (hsu : ∀ (a : Addr) (oe : Obj) (cls : Value) (d : Option Addr) (pn : List (Addr × Obj)), Zc cls d oe → (∃ vs, oe.data = .fields vs) → PSs (X.suite a ((a, oe) :: pn)) (b₀ :: suite) (ts a cls d)) (r : HdsAll X hds l) :
      HdsAll X (.ExceptHandler (some (.Name x np)) none (b₀ :: suite) hp :: hds) ((c, none, ts) :: l)
  | consN {x n : Str} {i : Nat} {c : Value} {ts : Sui} {b₀ : Stmt} {suite : List Stmt} {np hp : Pos} {hds : List ExceptHandler} {l : List (Value × Option Nat × Sui)} (hi : X.N[i]? = some n) (hln : X.env.kindOf n = some .local) (hc : Names X x c)
      (hsu : ∀ (a : Addr) (oe : Obj) (cls : Value) (d : Option Addr) (pn : List (Addr × Obj)), Zc cls d oe → (∃ vs, oe.data = .fields vs) → PSs (X.suite a ((a, oe) :: pn)) (b₀ :: suite) (ts a cls d)) (r : HdsAll X hds l) :
      HdsAll X (.ExceptHandler (some (.Name x np)) (some n) (b₀ :: suite) hp :: hds) ((c, some i, ts) :: l)
section
variable {X : Cx} {body : List Stmt} {h₀ : ExceptHandler} {hds : List ExceptHandler} {l : List (Value × Option Nat × Sui)} {pos : Pos} {tb : WX → TS} {Wout : WX}
theorem ps_try_all (hs : X.stack = X.env :: X.outer) (hf : X.env.frame = some X.env.locals) (hN : X.N.Nodup) (tk : Takes X Wout)
    (hb : ∀ (W : WX) (pn : List (Addr × Obj)) (xe : Value → Shared → Prop), Takes (X.tr pn xe) W → PassesOwn (model X.prog X.w) X.A X.env xe → PSs (X.tr pn xe) body (tb W))
    (hh : HdsAll X (h₀ :: hds) l) : PS X (.Try body (h₀ :: hds) [] [] pos) (fun D σ H => tb (wAll X.K Wout D l) D σ H) := by
  refine ⟨fun pins s σ H D I h => ?_⟩
  have ok := I.ok
  have hfr : X.A.frames = some (X.env :: X.outer) := by rw [ok.frames, hs]
  refine wpAny_Try_except ?_
  refine wpAny_mono ((hb (wAll X.K Wout D l) (X.pn ++ pins) (fun e s₁ => wpAny (model X.prog X.w) X.A (noteFrame e X.env) (fun _ s₂ => wpAny (model X.prog X.w) X.A (setFlight e none) (fun _ s₃ =>
    wpAny (model X.prog X.w) X.A (handleBy e X.env (h₀ :: hds)) (SP X pins D) X.xe s₃) X.xe s₂) X.xe s₁) (fun u s' xx => ?_) PassesOwn.looking).run [] s σ H D (I.toTry _) h) (fun f s1 hsp => ?_) (fun e s1 he => he)
  · obtain ⟨a, G, sI, pins', σ', H', cls, d, rfl, J', nb, up, sky, na, os, ag, wish⟩ := xx
    have J : Inv X pins σ' H' sI := J'.ofTry ok
    have sky' : Sky G (X.env :: X.outer) a (Zc cls d) X.env.locals s'.heap := by rw [← hs]; exact sky
    show wpAny (model X.prog X.w) X.A (noteFrame (.ref a) X.env) _ _ _
    refine Sky.land Zc.steady hfr hf sky' fun h3 fl3 up3 => ?_
    have J3 : Inv X pins σ' H' { s' with heap := h3 } := J.landed nb fl3.1 (up.trans up3) os ag
    obtain ⟨oe3, vs3, he3, hz3, hd3⟩ := fl3.there
    have notFr : ∀ {k : Heap} {o : Obj} {vs : Array Value}, k.FunFrames G (X.env :: X.outer) → k.get? a = some o → o.data = .fields vs → a ∉ frs (X.env :: X.outer) := fun {k o vs} ff e dd hm => by
      obtain ⟨_, o', e', hnf⟩ := ff.mem hm
      rw [e] at e'
      cases e'
      exact hnf _ dd
    have nfr := notFr fl3.2.2.1 he3 hd3
    have nL : a ≠ X.env.locals := fun z => nfr (List.mem_filterMap.mpr ⟨X.env, List.mem_cons_self, by rw [hf, z]⟩)
    have nF : a ∉ X.fs := fun hm => by
      obtain ⟨e, he, q⟩ := List.mem_filterMap.mp hm
      exact nfr (List.mem_filterMap.mpr ⟨e, List.mem_cons_of_mem _ he, q⟩)
    have S3 := J3.suite he3 hd3 na nL nF
    have LT : PySem.W.Looks (model X.prog X.w) h3 (typeOf (.ref a)) cls := fun A Q E s k q => wpAny_typeOf_ref (k _ _ he3) (by rw [hz3.1]; exact q)
    have test : ∀ {x : Str} {np : Pos} {c : Value} {Q : Value → Shared → Prop} {E : Value → Shared → Prop}, Names X x c → Q c { s' with heap := h3 } → wpAny (model X.prog X.w) (X.A.mark (some (.ref a))) (eval (.Name x np) X.env) Q E { s' with heap := h3 } := fun {x np c Q E} nc q => by
      obtain ⟨hg, hdbg, hm | ⟨hm, hv, hnn⟩⟩ := nc
      · exact ld_glob (X := X.suite a ((a, oe3) :: (X.pn ++ pins))) S3 hg hm q hdbg
      · exact ld_blt (X := X.suite a ((a, oe3) :: (X.pn ++ pins))) S3 hg hm hv q hnn hdbg
    have go : ∀ {hds' : List ExceptHandler} {l' : List (Value × Option Nat × Sui)}, HdsAll X hds' l' → wAll X.K Wout D l' cls d σ' H' → wpAny (model X.prog X.w) X.A (handleBy (.ref a) X.env hds') (SP X pins D) X.xe { s' with heap := h3 } := by
      intro hds' l' hk
      induction hk with
      | nil =>
        intro wo
        refine wpAny_handleBy_nil ?_
        obtain ⟨k1, k2, k3, oe, vs, t, oT, ts', he, hz, hd, h1, hr⟩ := id fl3
        unfold PySem.passOn
        refine wpAny_bind (wpAny_field he hd h1 ?_)
        rw [if_neg (show ¬ ((Value.ref t == Value.none) = true) from by simp)]
        have fin : wpAny (model X.prog X.w) X.A (setFlight (.ref a) X.env.frame) (fun _ s4 => wpAny (model X.prog X.w) X.A (throw (.ref a) : Sem Flow) (SP X pins D) X.xe s4) X.xe { s' with heap := h3 } := by
          rw [hf]
          refine HandSPX.setFlight_upZ fl3 fun h4 hh4 up4 => wpAny_throw (tk _ _ ?_)
          exact ⟨a, G, sI, pins, σ', H', cls, d, rfl, J, nb, (up.trans up3).trans up4, .inr (.inr (by rw [hs]; exact hh4)), na, os, ag, wo⟩
        first
          | exact wpAny_bind (wpAny_pure (wpAny_bind fin))
          | exact wpAny_bind fin
      | cons hc hsu r ih =>
        intro wo
        obtain ⟨b, hb1, hyes, hno⟩ := wo
        refine wpAny_handleBy_cons (codeAny_handlers_test ?_) (by intro q; cases q)
        refine test hc ((PySem.W.exm_one (M := model X.prog X.w) J3.kIn LT hb1).here ?_)
        cases b with
        | true =>
          refine codeAny_handlers_suite ?_
          refine HandSPX.lands_againZ fl3 fun h4 fl4 up4 => ?_
          have J4 : Inv X pins σ' H' { s' with heap := h4 } := J.landed nb fl4.1 ((up.trans up3).trans up4) os ag
          obtain ⟨oe4, vs4, he4, hz4, hd4⟩ := fl4.there
          have S4 := J4.suite he4 hd4 na nL nF
          refine wpAny_mono ((hsu a oe4 cls d (X.pn ++ pins) hz4 ⟨_, hd4⟩).run [] _ _ H' _ S4 (hyes rfl a na)) (fun f s6 hsp => ?_) (fun _ _ z => False.elim z)
          cases f with
          | next => obtain ⟨σ6, H6, S6, q6⟩ := hsp; exact ⟨_, _, S6.unsuite ok, q6⟩
          | brk => obtain ⟨σ6, H6, S6, q6⟩ := hsp; exact ⟨_, _, S6.unsuite ok, q6⟩
          | cont => obtain ⟨σ6, H6, S6, q6⟩ := hsp; exact ⟨_, _, S6.unsuite ok, q6⟩
          | ret u => obtain ⟨v6, σ6, H6, S6, r6, q6⟩ := hsp; exact ⟨_, _, _, S6.unsuite ok, r6, q6⟩
        | false => exact ih (hno rfl)
      | @consN x n i c ts b₀ suite np hp hds2 l2 hi hln hc hsu r ih =>
        intro wo
        obtain ⟨b, hb1, hyes, hno⟩ := wo
        refine wpAny_handleBy_cons (codeAny_handlers_test ?_) (by intro q; cases q)
        refine test hc ((PySem.W.exm_one (M := model X.prog X.w) J3.kIn LT hb1).here ?_)
        cases b with
        | true =>
          refine codeAny_handlers_suite_as ?_
          refine HandSPX.lands_againZ fl3 fun h4 fl4 up4 => ?_
          have J4 : Inv X pins σ' H' { s' with heap := h4 } := J.landed nb fl4.1 ((up.trans up3).trans up4) os ag
          obtain ⟨oe4, vs4, he4, hz4, hd4⟩ := fl4.there
          have S4 := J4.suite he4 hd4 na nL nF
          refine store_ok (X := X.suite a ((a, oe4) :: (X.pn ++ pins))) (v := .ref a) S4 hN hi (.inl hln) rfl (fun s5 S5 => ?_) (.inr hln)
          refine wpAny_mono ((hsu a oe4 cls d (X.pn ++ pins) hz4 ⟨_, hd4⟩).run [] s5 _ H' _ S5 (hyes rfl a na)) (fun f s6 hsp => ?_) (fun _ _ z => False.elim z)
          have out : ∀ {σ6 : L2.St} {H6 : Hp} {Q : Shared → Prop}, Inv (X.suite a ((a, oe4) :: (X.pn ++ pins))) [] σ6 H6 s6 → (∀ s7, Inv X pins (σ6.set i none) H6 s7 → Q s7) →
              wpAny (model X.prog X.w) X.A (do bindName X.env n .none; unbindBehindTheSuite X.env n hp) (fun _ s7 => Q s7) X.xe s6 := fun {σ6 H6 Q} S6 hq => gone_ok (S6.unsuite ok) hN hi hln hq
          cases f with
          | next => obtain ⟨σ6, H6, S6, q6⟩ := hsp; exact out S6 fun s7 J7 => ⟨_, _, J7, q6⟩
          | brk => obtain ⟨σ6, H6, S6, q6⟩ := hsp; exact out S6 fun s7 J7 => ⟨_, _, J7, q6⟩
          | cont => obtain ⟨σ6, H6, S6, q6⟩ := hsp; exact out S6 fun s7 J7 => ⟨_, _, J7, q6⟩
          | ret u => obtain ⟨v6, σ6, H6, S6, r6, q6⟩ := hsp; exact out S6 fun s7 J7 => ⟨_, _, _, J7, r6, q6⟩
        | false => exact ih (hno rfl)
    exact go hh wish
  · cases f with
    | next => obtain ⟨σ', H', J', q⟩ := hsp; exact wpAny_execs_nil ⟨σ', H', J'.ofTry ok, q⟩
    | brk => obtain ⟨σ', H', J', q⟩ := hsp; exact ⟨σ', H', J'.ofTry ok, q⟩
    | cont => obtain ⟨σ', H', J', q⟩ := hsp; exact ⟨σ', H', J'.ofTry ok, q⟩
    | ret u => obtain ⟨v, σ', H', J', r, q⟩ := hsp; exact ⟨v, σ', H', J'.ofTry ok, r, q⟩
end
mutual
def chkX (en : Option (Str × Str)) : Sx → Expr → Bool
  | .pay, p => (match en, p with
    | some (n, f), .Attribute (.Name m _) g _ => strEq n m && strEq f g
    | _, _ => false)
  | .cst w, p => (match w, p with
    | .non, .Constant .none _ _ => true
    | .bl b, .Constant (.bool c) _ _ => decide (b = c)
    | .int b, .Constant (.int c) _ _ => decide (b = c)
    | .str b, .Constant (.str c) _ _ => strEq b c
    | _, _ => false)
  | .lst xs, p => (match p with
    | .List ps _ => chkXs en xs ps
    | _ => false)
def chkXs (en : Option (Str × Str)) : List Sx → List Expr → Bool
  | [], ps => (match ps with
    | [] => true
    | _ => false)
  | x :: r, ps => (match ps with
    | p :: ps => chkX en x p && chkXs en r ps
    | [] => false)
end
theorem chkX_star {en : Option (Str × Str)} {x : Sx} {p : Expr} (h : chkX en x p = true) : noStar p = true := by
  cases p with
  | Starred v pos =>
    exfalso
    cases x with
    | pay => simp [chkX] at h
    | cst w => simp [chkX] at h
    | lst xs => simp [chkX] at h
  | _ => rfl
theorem RelS.none_ {T : Tab} {r : Rho} {e : Env} {h : Hep} {s : L2.St} {H : Hp} (x : RelS T r e h s H) (i : Nat) : RelS T r (e.set i none) h s H :=
  ⟨x.hp, by rw [List.length_set]; exact x.len, fun j w q => by
    rw [List.getElem?_set] at q
    by_cases z : i = j
    · rw [if_pos z] at q
      split at q <;> cases q
    · rw [if_neg z] at q
      exact x.var j w q⟩
section
variable {T : TabX} {X : Cx} {Wx : WX}
/-- the error's attribute can be read by this name in the suite -/
def PayOk (T : TabX) (Y : Cx) (σ : L2.St) (en : Option (Str × Str)) (r : Rho) (op : Option W) (H : Hp) : Prop := ∀ n f w, en = some (n, f) → op = some w → ∃ v, RelW T.toTab r H w v ∧ ∀ (p1 p2 : Pos) (Q : VK), Q v H → tE Y (.Attribute (.Name n p1) f p2) σ H Q
mutual
theorem sx_ok {Y : Cx} {σ : L2.St} {en : Option (Str × Str)} {op : Option W} {s : L2.St} : ∀ (x : Sx) {p : Expr} {r : Rho} {h : Hep} {H : Hp} {Q : VK}, chkX en x p = true → RelH T.toTab r h H → (∀ r' H', Ext r r' H H' → PayOk T Y σ en r' op H') → PostE T Wx r s H (evx x op h) Q → tE Y p σ H Q
  | .pay, p, r, h, H, Q, hc, rh, po, hq => by
    simp only [chkX] at hc
    split at hc
    · rename_i n f m p1 g p2
      rw [Bool.and_eq_true, strEq_eq, strEq_eq] at hc
      obtain ⟨h1, h2⟩ := hc
      have h1 := eq_of_beq h1
      have h2 := eq_of_beq h2
      subst h1 h2
      have hq : PostE T Wx r s H (.some' op h) Q := hq
      obtain ⟨w, hw, k⟩ := hq.some' rh
      obtain ⟨v, rv, go⟩ := po r H (Ext.refl _ _) n f w rfl hw
      exact go p1 p2 Q (k v rv)
    · cases hc
  | .cst w, p, r, h, H, Q, hc, rh, po, hq => by
    have hq : PostE T Wx r s H (.ok w h) Q := hq
    simp only [chkX] at hc
    split at hc
    · exact fun pins t I => pe_non.run pins t σ H Q I (hq.ok rh .non)
    · have e := of_decide_eq_true hc
      subst e
      exact fun pins t I => pe_bl.run pins t σ H Q I (hq.ok rh (.bl _))
    · have e := of_decide_eq_true hc
      subst e
      exact fun pins t I => pe_int.run pins t σ H Q I (hq.ok rh (.int _))
    · rw [strEq_eq] at hc
      have e := eq_of_beq hc
      subst e
      exact fun pins t I => pe_str.run pins t σ H Q I (hq.ok rh (.str _))
    · cases hc
  | .lst xs, p, r, h, H, Q, hc, rh, po, hq => by
    simp only [chkX] at hc
    split at hc
    · rename_i ps pos
      intro pins t I
      refine (pe_lst pa_A).run pins t σ H Q I ?_
      have hq : PostE T Wx r s H ((evxs xs op h).bind fun ws h1 => newL false h1 ws) Q := hq
      refine sxs_ok xs hc rh po (hq.bind fun r1 vs H1 ws h1 e1 rh1 rs hq1 => ?_)
      exact newL_ok rh1 rs hq1
    · cases hc
theorem sxs_ok {Y : Cx} {σ : L2.St} {en : Option (Str × Str)} {op : Option W} {s : L2.St} : ∀ (xs : List Sx) {ps : List Expr} {r : Rho} {h : Hep} {H : Hp} {Q : List V → Hp → Prop}, chkXs en xs ps = true → RelH T.toTab r h H → (∀ r' H', Ext r r' H H' → PayOk T Y σ en r' op H') → PostA T Wx r s H (evxs xs op h) Q → tA Y ps σ H Q
  | [], ps, r, h, H, Q, hc, rh, po, hq => by
    simp only [chkXs] at hc
    split at hc
    · exact fun pos pins t I => pa_nil.run pos pins t σ H Q I (hq.ok rh .nil)
    · cases hc
  | x :: xs, ps, r, h, H, Q, hc, rh, po, hq => by
    simp only [chkXs] at hc
    split at hc
    · rename_i p ps
      rw [Bool.and_eq_true] at hc
      intro pos pins t I
      refine (pa_cons pe_E pa_A (star_cons ps Y.env (chkX_star hc.1))).run pos pins t σ H Q I ?_
      have hq : PostA T Wx r s H ((evx x op h).bind fun w h1 => (evxs xs op h1).bind fun ws h2 => .ok (w :: ws) h2) Q := hq
      refine sx_ok x hc.1 rh po (hq.bind fun r1 v H1 w h1 e1 rh1 rv hq1 => ?_)
      refine sxs_ok xs hc.2 rh1 (fun r' H' e' => po r' H' (e1.trans e')) (hq1.bind fun r2 vs H2 ws h2 e2 rh2 rs hq2 => ?_)
      exact hq2.ok rh2 (.cons (rv.mono e2) rs)
    · cases hc
end
/-- a clause of the text -/
def HdOk (T : TabX) (X : Cx) (q : Nat × Nat × Sx) (hd : ExceptHandler) : Prop := match hd with
  | .ExceptHandler (some (.Name x _)) on [.Return (some E) _] _ => Names X x (.ref (T.cA q.1)) ∧ (match on with
    | none => chkX none q.2.2 E = true
    | some n => X.N[q.2.1]? = some n ∧ X.env.kindOf n = some .local ∧ (n == ("__debug__" : Str)) = false ∧ (n == ("__classdict__" : Str)) = false ∧ chkX (some (n, T.eA q.1)) q.2.2 E = true ∧ ∃ x, ErrP T X q.1 x)
  | _ => False
/-- the widest reading of a suite -/
def tSui (X : Cx) (st : List Stmt) : Sui := fun a cls d D σ H => ∀ (oe : Obj) (pn : List (Addr × Obj)), Zc cls d oe → (∃ vs, oe.data = .fields vs) → tSs (X.suite a ((a, oe) :: pn)) st D σ H
theorem pss_sui {st : List Stmt} (a : Addr) (oe : Obj) (cls : Value) (d : Option Addr) (pn : List (Addr × Obj)) (z : Zc cls d oe) (f : ∃ vs, oe.data = .fields vs) : PSs (X.suite a ((a, oe) :: pn)) st (tSui X st a cls d) :=
  ⟨fun pins t _ _ _ I h => h oe pn z f pins t I⟩
def rowsOf (T : TabX) (X : Cx) : List (Nat × Nat × Sx) → List ExceptHandler → List (Value × Option Nat × Sui)
  | q :: qs, .ExceptHandler _ on st _ :: hs => (.ref (T.cA q.1), on.map (fun _ => q.2.1), tSui X st) :: rowsOf T X qs hs
  | _, _ => []
inductive HdsOkE (T : TabX) (X : Cx) : List (Nat × Nat × Sx) → List ExceptHandler → Prop
  | nil : HdsOkE T X [] []
  | cons {q : Nat × Nat × Sx} {qs : List (Nat × Nat × Sx)} {hd : ExceptHandler} {hs : List ExceptHandler} : HdOk T X q hd → HdsOkE T X qs hs → HdsOkE T X (q :: qs) (hd :: hs)
theorem hds_all : ∀ {qs : List (Nat × Nat × Sx)} {hs : List ExceptHandler}, HdsOkE T X qs hs → HdsAll X hs (rowsOf T X qs hs)
  | _, _, .nil => .nil
  | _, _, .cons (q := q) (hd := hd) h t => by
    have ih := hds_all t
    unfold HdOk at h
    split at h
    · rename_i x np on E rp hp
      cases on with
      | none => exact .cons h.1 (fun a oe cls d pn z f => pss_sui a oe cls d pn z f) ih
      | some n => exact .consN h.2.1 h.2.2.1 h.1 (fun a oe cls d pn z f => pss_sui a oe cls d pn z f) ih
    · exact h.elim
/-- what is known of the clauses' classes -/
def ExhP (P : Pg) (T : TabX) (K : PySem.W.Frag) : Prop := ∀ c cl k, nth P.cls c = some cl → hasN P.exh k = true → PySem.W.exmOne K (.ref (T.cA c)) (.ref (T.cA k)) = some (hasN cl.sup k)
def triM (P : Pg) (hs : List (Nat × Nat × Sx)) (o : OutS) : OutS := match o with
    | .exc c p e1 h1 => (match takes P c hs with
      | some (k, i, s) => (evx s (if Nat.beq c k then some p else none) h1).stm (e1.set i none) fun w h2 => .ok (.ret w) (e1.set i none) h2
      | none => if (nth P.cls c).isSome then .exc c p e1 h1 else .bad)
    | o => o
theorem suite_ok {k i c : Nat} {sx : Sx} {hd : ExceptHandler} {st : List Stmt} {on : Option Str} {ho : HdOk T X (k, i, sx) hd} {x0 : Option Expr} {hp : Pos} (eh : hd = .ExceptHandler x0 on st hp) {p : W} {e1 : Env} {h1 : Hep} {r : Rho} {H : Hp} {s : L2.St} {v : V} {d : Addr} {D : Ends} (S : RelS T.toTab r e1 h1 s H) (rv : RelW T.toTab r H p v) (hx : H d = some (.xd [(T.eA c, v)])) (na : ∀ a, r a ≠ some d) (nz : ¬ r.z d)
    (hq : PostS T Wx r H ((evx sx (if Nat.beq c k then some p else none) h1).stm (e1.set i none) fun w h2 => .ok (.ret w) (e1.set i none) h2) D) (a : Addr) (ha : H a = none) :
    match on.map (fun _ => i) with
      | none => tSui X st a (.ref (T.cA c)) (some d) D s H
      | some j => tSui X st a (.ref (T.cA c)) (some d) (endsI D j) (s.set j (some (.ref a))) H := by
  subst eh
  unfold HdOk at ho
  split at ho
  · rename_i x np on' E rp hp' heq
    injection heq with e1 e2 e3 e4
    subst e2 e3
    have hq : PostE T Wx r s H (evx sx (if Nat.beq c k then some p else none) h1) (fun v' H' => D.rt v' H') := by
      cases q : evx sx (if Nat.beq c k then some p else none) h1 with
      | ok w h2 => rw [q] at hq; exact hq
      | exc c' p' h2 => rw [q] at hq; exact fun r' d' H' v' ex rh rv' hd' => hq r' d' H' v' s ex ((S.none_ i).next ex rh) rv' hd'
      | bad => rw [q] at hq; exact hq
    cases on with
    | none =>
      intro oe pn z f pins t I
      refine (pss_one (ps_ret pe_E)).run pins t s H D I ?_
      exact sx_ok sx ho.2 S.hp (fun r' H' _ n f' w en _ => by cases en) hq
    | some n =>
      intro oe pn z f pins t I
      refine (pss_one (ps_ret pe_E)).run pins t _ H _ I ?_
      obtain ⟨g1, g2, g3, g4, g5, xx, ep⟩ := ho.2
      refine sx_ok sx g5 S.hp (fun r' H' ex n' f' w en ew => ?_) hq
      cases en
      cases qk : Nat.beq c k with
      | false => rw [qk] at ew; cases ew
      | true =>
        have ek := Nat.eq_of_beq_eq_true qk
        subst ek
        rw [qk] at ew
        cases ew
        refine ⟨v, rv.mono ex, fun p1 p2 Q hQ pins t I => ?_⟩
        refine (pe_xf (te := tE (X.suite a ((a, oe) :: pn)) (.Name n p1)) ep.xf ep.no z f pe_E rfl).run pins t _ H' Q I ?_
        intro pins' t' I'
        refine (pe_var (X := X.suite a ((a, oe) :: pn)) (i := i) g1 (.inl g2) g3 g4).run pins' t' _ H' _ I' ?_
        refine ⟨.ref a, ?_, rfl, rfl, d, _, v, rfl, (ex.oth d _ hx na nz).1, ?_, hQ⟩
        · have li : i < (s.set i (some (V.ref a))).length := by rw [I'.len]; exact (List.getElem?_eq_some_iff.mp g1).1
          rw [List.length_set] at li
          rw [List.getElem?_set, if_pos rfl, if_pos li]
        · simp [List.lookup]
  · exact ho.elim
theorem wish_ok {P : Pg} (xp : ExhP P T X.K) {c : Nat} {cl : Cl} (hcl : nth P.cls c = some cl) {p : W} {e1 : Env} {h1 : Hep} {r : Rho} {H : Hp} {s : L2.St} {v : V} {d : Addr} {D : Ends} (S : RelS T.toTab r e1 h1 s H) (rv : RelW T.toTab r H p v) (hx : H d = some (.xd [(T.eA c, v)])) (na : ∀ a, r a ≠ some d) (nz : ¬ r.z d) :
    ∀ {qs : List (Nat × Nat × Sx)} {hs : List ExceptHandler}, HdsOkE T X qs hs → (∀ q ∈ qs, hasN P.exh q.1 = true) → PostS T Wx r H (match takes P c qs with
      | some (k, i, sx) => (evx sx (if Nat.beq c k then some p else none) h1).stm (e1.set i none) fun w h2 => .ok (.ret w) (e1.set i none) h2
      | none => if (nth P.cls c).isSome then .exc c p e1 h1 else .bad) D → wAll X.K Wx D (rowsOf T X qs hs) (.ref (T.cA c)) (some d) s H
  | _, _, .nil, _, hq => by
    simp only [takes, hcl, Option.isSome_some, if_true] at hq
    exact hq r d H v s (Ext.refl _ _) S rv hx
  | _, _, .cons (q := q) (qs := qs) (hd := hd) (hs := hs) ho t, hex, hq => by
    obtain ⟨k, i, sx⟩ := q
    have e0 : takes P c ((k, i, sx) :: qs) = if hasN cl.sup k then some (k, i, sx) else takes P c qs := by
      conv => lhs; unfold takes
      rw [hcl]
    have hexk := hex (k, i, sx) List.mem_cons_self
    cases hd with
    | ExceptHandler x0 on st hp =>
      refine ⟨hasN cl.sup k, xp c cl k hcl hexk, fun hb a ha => ?_, fun hb => ?_⟩
      · rw [e0, hb, if_pos rfl] at hq
        exact suite_ok (ho := ho) rfl S rv hx na nz hq a ha
      · rw [e0, hb, if_neg Bool.false_ne_true] at hq
        exact wish_ok xp hcl S rv hx na nz t (fun q' hq' => hex q' (List.mem_cons_of_mem _ hq')) hq
/-- the widest reading of a try's body -/
def tTry (X : Cx) (body : List Stmt) (W : WX) : TS := fun D σ H => ∀ (pn : List (Addr × Obj)) (xe : Value → Shared → Prop), Takes (X.tr pn xe) W → PassesOwn (model X.prog X.w) X.A X.env xe → tSs (X.tr pn xe) body D σ H
theorem simS_tri {P : Pg} {body : List Stmt} {h0 : ExceptHandler} {hds : List ExceptHandler} {pos : Pos} {qs : List (Nat × Nat × Sx)} {mb : Env → Hep → OutS} (hst : X.stack = X.env :: X.outer) (hf : X.env.frame = some X.env.locals) (hN : X.N.Nodup) (tk : Takes X Wx) (xp : ExhP P T X.K)
    (hb : ∀ (W : WX) (pn : List (Addr × Obj)) (xe : Value → Shared → Prop), Takes (X.tr pn xe) W → PassesOwn (model X.prog X.w) X.A X.env xe → SimSs T (X.tr pn xe) W body mb) (hh : HdsOkE T X qs (h0 :: hds)) (hex : ∀ q ∈ qs, hasN P.exh q.1 = true) :
    SimS T X Wx (.Try body (h0 :: hds) [] [] pos) (fun e h => triM P qs (mb e h)) := by
  intro r s H e h D S hq pins t I
  refine (ps_try_all (tb := tTry X body) hst hf hN tk (fun W pn xe tk' po => ⟨fun pins t _ _ _ I h => h pn xe tk' po pins t I⟩) (hds_all hh)).run pins t s H D I ?_
  intro pn xe tk' po
  refine hb _ pn xe tk' po r s H e h D S ?_
  have hq : PostS T Wx r H (triM P qs (mb e h)) D := hq
  unfold triM at hq
  cases q : mb e h with
  | bad => rw [q] at hq; exact hq
  | ok f e1 h1 =>
    rw [q] at hq
    cases f <;> exact hq
  | exc c p e1 h1 =>
    rw [q] at hq
    simp only at hq
    intro r' d H' v s' ex S' rv hx
    have na : ∀ a, r' a ≠ some d := fun a ha => by
      obtain ⟨o, ho⟩ := S'.hp.liv a d ha
      obtain ⟨p', hp, ro⟩ := S'.hp.obj a o ho
      rw [ha] at hp
      cases hp
      obtain ⟨u, hu, n⟩ := ro.nx
      rw [hx] at hu
      cases hu
      exact n _ rfl
    have nz : ¬ r'.z d := fun z => by
      obtain ⟨u, hu, n⟩ := S'.hp.zl d z
      rw [hx] at hu
      cases hu
      exact n _ rfl
    cases hcl : nth P.cls c with
    | none =>
      have e0 : ∀ qs, takes P c qs = none := fun qs => by
        cases qs with
        | nil => rfl
        | cons q r => unfold takes; rw [hcl]
      rw [e0, hcl] at hq
      exact hq.elim
    | some cl => exact wish_ok xp hcl S' rv hx na nz hh hex (PostS.later ex hq)
end
end Ev

namespace Ev
open PySem PySem.Spec PyProof.Rows L2
theorem ltS_eq (a b : Str) : ltS a b = decide (a.cps.toList < b.cps.toList) := ltCps_eq _ _
theorem insS_perm (x : Str) : ∀ l : List Str, (insS x l).Perm (x :: l)
  | [] => List.Perm.refl _
  | y :: r => by
    unfold insS
    split
    · exact ((insS_perm x r).cons y).trans (List.Perm.swap x y r)
    · exact List.Perm.refl _
theorem sortS_perm : ∀ l : List Str, (sortS l).Perm l
  | [] => List.Perm.refl _
  | x :: r => (insS_perm x (sortS r)).trans ((sortS_perm r).cons x)
def LeS (a b : Str) : Prop := ¬ b.cps.toList < a.cps.toList
theorem leS_trans {a b c : Str} (h1 : LeS a b) (h2 : LeS b c) : LeS a c := by
  unfold LeS at *
  rw [List.not_lt] at *
  exact List.le_trans h1 h2
theorem leS_anti {a b : Str} (h1 : LeS a b) (h2 : LeS b a) : a = b := by
  unfold LeS at *
  rw [List.not_lt] at *
  have e := List.le_antisymm h1 h2
  obtain ⟨a⟩ := a
  obtain ⟨b⟩ := b
  have e : a.toList = b.toList := e
  rw [Array.toList_inj] at e
  rw [e]
theorem rising_pw : ∀ (l : List Str) (p : Str), risingS p l = true → (p :: l).Pairwise LeS
  | [], p, _ => List.pairwise_cons.mpr ⟨fun _ h => (by cases h), List.Pairwise.nil⟩
  | x :: r, p, h => by
    have h : (!ltCps x.cps.toList p.cps.toList && risingS x r) = true := h
    rw [Bool.and_eq_true, Bool.not_eq_true', ltCps_eq, decide_eq_false_iff_not] at h
    have ih := rising_pw r x h.2
    refine List.pairwise_cons.mpr ⟨fun y hy => ?_, ih⟩
    rcases List.mem_cons.mp hy with e | hy
    · rw [e]; exact h.1
    · exact leS_trans h.1 ((List.pairwise_cons.mp ih).1 y hy)
theorem sorted_pw {l : List Str} (h : sortedS l = true) : l.Pairwise LeS := by
  cases l with
  | nil => exact List.Pairwise.nil
  | cons x r => exact rising_pw r x h
theorem insS_pw (x : Str) : ∀ {l : List Str}, l.Pairwise LeS → (insS x l).Pairwise LeS
  | [], _ => List.pairwise_cons.mpr ⟨fun _ h => (by cases h), List.Pairwise.nil⟩
  | y :: r, h => by
    unfold insS
    have hc := List.pairwise_cons.mp h
    cases q : ltS y x with
    | true =>
      rw [if_pos rfl]
      refine List.pairwise_cons.mpr ⟨fun z hz => ?_, insS_pw x hc.2⟩
      have hz := (insS_perm x r).mem_iff.mp hz
      rcases List.mem_cons.mp hz with e | hz
      · rw [e]
        rw [ltS_eq, decide_eq_true_eq] at q
        exact List.lt_asymm q
      · exact hc.1 z hz
    | false =>
      rw [if_neg Bool.false_ne_true]
      rw [ltS_eq, decide_eq_false_iff_not] at q
      refine List.pairwise_cons.mpr ⟨fun z hz => ?_, h⟩
      rcases List.mem_cons.mp hz with e | hz
      · rw [e]; exact q
      · exact leS_trans q (hc.1 z hz)
theorem sortS_pw : ∀ l : List Str, (sortS l).Pairwise LeS
  | [] => List.Pairwise.nil
  | x :: r => insS_pw x (sortS_pw r)
theorem sortS_eq {xs ys : List Str} (p : ys.Perm xs) (s : sortedS ys = true) : ys = sortS xs :=
  List.Perm.eq_of_pairwise (fun a b _ _ h1 h2 => leS_anti h1 h2) (sorted_pw s) (sortS_pw xs) (p.trans (sortS_perm xs).symm)
section
variable {T : TabX} {X : Cx} {Wx : WX}
theorem RelWs.of_strs {r : Rho} {H : Hp} : ∀ {ws : List W} {vs : List V} {ns : List Str}, RelWs T.toTab r H ws vs → strsOf ws = some ns → vs = ns.map V.str
  | [], _, ns, .nil, e => by
    cases e
    rfl
  | w :: ws, _, ns, .cons h t, e => by
    cases h with
    | str i =>
      simp only [strsOf] at e
      cases q : strsOf ws with
      | none => rw [q] at e; cases e
      | some ms =>
        rw [q] at e
        cases e
        rw [RelWs.of_strs t q]
        rfl
    | _ => simp [strsOf] at e
theorem RelWs.strs {r : Rho} {H : Hp} : ∀ (ns : List Str), RelWs T.toTab r H (ns.map W.str) (ns.map V.str)
  | [] => .nil
  | n :: ns => .cons (.str n) (RelWs.strs ns)
theorem fs_str : FnSim T X bStr (fun xs H Q => ∃ a, xs = [.str a] ∧ Q (.str a) H) := by
  intro Wx r s H h ws vs Q rh rs hq
  unfold bStr at hq
  split at hq
  · rename_i x
    obtain ⟨v, rfl, rv⟩ := one_of rs
    cases rv
    exact ⟨x, rfl, hq.ok rh (.str x)⟩
  · exact hq.elim
theorem fs_sorted (hK : T.K = X.K) : FnSim T X bSorted (rSortedS X.K) := by
  intro Wx r s H h ws vs Q rh rs hq
  unfold bSorted at hq
  split at hq
  · obtain ⟨v, rfl, rv⟩ := one_of rs
    split at hq
    · rename_i xs hs
      split at hq
      · rename_i ss hss
        split at hq
        · rename_i hl
          obtain ⟨p, us, rfl, h1, r1⟩ := listOf_at rh rv hs
          have eu := RelWs.of_strs r1 hss
          subst eu
          refine ⟨p, ss, rfl, hK ▸ h1, hl, fun ys q hp hy hq0 => ?_⟩
          rw [sortS_eq hp hy]
          exact (newL_ok rh (RelWs.strs (sortS ss)) hq).2 q hq0
        · exact hq.elim
      · exact hq.elim
    · exact hq.elim
  · exact hq.elim
theorem key_at {r : Rho} {H : Hp} {w : W} {v : V} {q : L2.Key} (rv : RelW T.toTab r H w v) (e : keyW w = some q) : v = kV q := by
  cases w <;> first
    | (cases e; cases rv; rfl)
    | cases e
theorem get_ok {r : Rho} {h : Hep} {H : Hp} {x y : W} {v u : V} {kvs : List (W × W)} {q : L2.Key} (rh : RelH T.toTab r h H) (rv : RelW T.toTab r H x v) (ru : RelW T.toTab r H y u) (e : dicOf h x = some kvs) (ek : keyW y = some q) :
    ∃ p o, v = .ref p ∧ DGet H p u o ∧ ∀ d dv, RelW T.toTab r H d dv → RelW T.toTab r H ((dget kvs y).getD d) (o.getD dv) := by
  obtain ⟨p, ks, rfl, h1, h2⟩ := dicOf_at rh rv e
  have eu := key_at ru ek
  subst eu
  obtain ⟨g1, g2⟩ := h2.get ek
  refine ⟨p, valV ks q, rfl, .inl ⟨ks, q, h1, rfl, rfl⟩, fun d dv rd => ?_⟩
  cases qd : dget kvs y with
  | none =>
    rw [qd] at g2
    have : valV ks q = none := by
      cases qv : valV ks q with
      | none => rfl
      | some _ => rw [qv] at g2; cases g2
    rw [this]
    exact rd
  | some w =>
    obtain ⟨v, e1, e2⟩ := g1 w qd
    rw [e1]
    exact e2
theorem isD_of {r : Rho} {h : Hep} {H : Hp} {x : W} {v : V} (rh : RelH T.toTab r h H) (rv : RelW T.toTab r H x v) (e : (dicOf h x).isSome = true) : ∃ p, v = .ref p ∧ IsD H p := by
  cases q : dicOf h x with
  | none => rw [q] at e; cases e
  | some kvs =>
    obtain ⟨p, ks, rfl, h1, _⟩ := dicOf_at rh rv q
    exact ⟨p, rfl, .inl ⟨ks, h1⟩⟩
theorem few_of {l : List Expr} {cp : Pos} {env : PySem.Env} (h : l.all noStar = true) (hl : l.length < 20) : ((backTo cp (starEach l env)).all (fun x => !x.1) && (backToKw cp (keywordEach [] env)).all (fun x => x.1.isSome)
      && decide (l.length + ([] : List Keyword).length + (if ([] : List Keyword).isEmpty then 0 else 1) < 30)) = true := by
  have h2 := star_any (env := env) h
  rw [← backTo_any cp] at h2
  have h3 : (backTo cp (starEach l env)).all (fun x => !x.1) = true := by
    rw [List.all_eq_not_any_not]
    simpa using h2
  rw [h3, Bool.true_and, Bool.and_eq_true]
  exact ⟨rfl, decide_eq_true (by show l.length + 0 + 0 < 30; omega)⟩
theorem back_cons (cp : Pos) {e : Expr} (l : List Expr) (env : PySem.Env) (h : noStar e = true) : backTo cp (starEach (e :: l) env) = (false, eval e env) :: backTo cp (starEach l env) := by
  rw [star_cons l env h]
  rfl
theorem simE_get1 {n : Nat} {o a : Expr} {ap cp : Pos} {mo ma : Env → Hep → Out W} (hr : Room n X.A) (ho : SimE T X Wx o mo) (ha : SimE T X Wx a ma) (hb : attributeBase o "get" X.env (eval o X.env) = eval o X.env) (hn : noStar a = true) (hline : (ap.endLine == cp.line) = true) :
    SimE T X Wx (.Call (.Attribute o "get" ap) [a] [] cp) (fun e h => (mo e h).bind fun x h1 => if (dicOf h1 x).isSome then ((ma e h1).bind fun y h2 => .ok [y] h2).bind fun ws h2 => mGet1 x ws h2 else .bad) := by
  intro r s H e h Q S hq pins t I
  have hst : [a].all noStar = true := by rw [List.all_cons, hn]; rfl
  refine (pe_dget1 (by have := hr.units; omega) pe_E pe_E ⟨hb, few_of hst (by show 1 < 20; omega), hline, back_cons cp [] X.env hn⟩).run pins t s H Q I ?_
  refine ho r s H e h _ S (hq.bind fun r1 v H1 x h1 e1 rh1 rv hq1 => ?_)
  by_cases z : (dicOf h1 x).isSome = true
  · rw [if_pos z] at hq1
    obtain ⟨p, rfl, d⟩ := isD_of rh1 rv z
    refine ⟨p, rfl, d, ?_⟩
    have hq1 : PostE T Wx r1 s H1 ((ma e h1).bind fun y h2 => mGet1 x [y] h2) Q := by
      rw [bind_assoc''] at hq1
      exact hq1
    refine ha r1 s H1 e h1 _ (S.next e1 rh1) (hq1.bind fun r2 u H2 y h2 e2 rh2 ru hq2 => ?_)
    unfold mGet1 at hq2
    cases qd : dicOf h2 x with
    | none => simp only [qd] at hq2; exact hq2.elim
    | some kvs =>
      cases qk : keyW y with
      | none => simp only [qd, qk] at hq2; exact hq2.elim
      | some k =>
        simp only [qd, qk] at hq2
        obtain ⟨p', o', ep, g1, g2⟩ := get_ok rh2 (rv.mono e2) ru qd qk
        cases ep
        exact ⟨o', g1, hq2.ok rh2 (g2 _ _ .non)⟩
  · rw [if_neg z] at hq1; exact hq1.elim
theorem simE_get2 {n : Nat} {o a b : Expr} {ap cp : Pos} {mo ma mb : Env → Hep → Out W} (hr : Room n X.A) (ho : SimE T X Wx o mo) (ha : SimE T X Wx a ma) (hb' : SimE T X Wx b mb) (hb : attributeBase o "get" X.env (eval o X.env) = eval o X.env) (hn : noStar a = true) (hn2 : noStar b = true) (hline : (ap.endLine == cp.line) = true) :
    SimE T X Wx (.Call (.Attribute o "get" ap) [a, b] [] cp) (fun e h => (mo e h).bind fun x h1 => if (dicOf h1 x).isSome then ((ma e h1).bind fun y h2 => (mb e h2).bind fun z h3 => .ok [y, z] h3).bind fun ws h2 => mGet2 x ws h2 else .bad) := by
  intro r s H e h Q S hq pins t I
  have hst : [a, b].all noStar = true := by rw [List.all_cons, List.all_cons, hn, hn2]; rfl
  refine (pe_dget2 (by have := hr.units; omega) pe_E pe_E pe_E ⟨hb, few_of hst (by show 2 < 20; omega), hline, by rw [back_cons cp [b] X.env hn, back_cons cp [] X.env hn2]; rfl⟩).run pins t s H Q I ?_
  refine ho r s H e h _ S (hq.bind fun r1 v H1 x h1 e1 rh1 rv hq1 => ?_)
  by_cases z : (dicOf h1 x).isSome = true
  · rw [if_pos z] at hq1
    obtain ⟨p, rfl, d⟩ := isD_of rh1 rv z
    refine ⟨p, rfl, d, ?_⟩
    have hq1 : PostE T Wx r1 s H1 ((ma e h1).bind fun y h2 => (mb e h2).bind fun z h3 => mGet2 x [y, z] h3) Q := by
      rw [bind_assoc''] at hq1
      simp only [bind_assoc''] at hq1
      exact hq1
    refine ha r1 s H1 e h1 _ (S.next e1 rh1) (hq1.bind fun r2 u H2 y h2 e2 rh2 ru hq2 => ?_)
    refine hb' r2 s H2 e h2 _ ((S.next e1 rh1).next e2 rh2) (hq2.bind fun r3 u3 H3 z3 h3 e3 rh3 ru3 hq3 => ?_)
    unfold mGet2 at hq3
    cases qd : dicOf h3 x with
    | none => simp only [qd] at hq3; exact hq3.elim
    | some kvs =>
      cases qk : keyW y with
      | none => simp only [qd, qk] at hq3; exact hq3.elim
      | some k =>
        simp only [qd, qk] at hq3
        obtain ⟨p', o', ep, g1, g2⟩ := get_ok rh3 ((rv.mono e2).mono e3) (ru.mono e3) qd qk
        cases ep
        exact ⟨o', g1, hq3.ok rh3 (g2 _ _ ru3)⟩
  · rw [if_neg z] at hq1; exact hq1.elim
def rExtZ : V → List V → Hp → VK → Prop := fun x vs H Q => ∃ l b xs zs, x = .ref l ∧ vs = [.ref b] ∧ H l = some (.lst xs) ∧ Rd H b (.lst zs) ∧ xs.length + zs.length ≤ sizeLine ∧ Q .non (upd H l (.lst (xs ++ zs)))
theorem mt_extZ : MtR X "list.extend" rExtZ := by
  intro pins s σ H x vs v us Q I rx rv h
  obtain ⟨l, b, xs, zs, rfl, rfl, hH, hB, hz, q⟩ := h
  cases rx
  obtain ⟨u, rfl, ru⟩ := rv.one
  cases ru
  obtain ⟨z, its, n, r, hl, e⟩ := I.lstM hH
  obtain ⟨its2, n2, r2, hl2, e2⟩ : ∃ (its : List Value) (n : Nat), Vals zs its ∧ zs.length = its.length ∧ s.heap.get? b = some { cls := .type "list", data := .seq its.toArray n } := by
    rcases hB with hB | ⟨o, hB⟩
    · obtain ⟨_, its2, n2, r2, hl2, e2⟩ := I.lstM hB
      exact ⟨its2, n2, r2, hl2, e2⟩
    · obtain ⟨_, _, its2, n2, r2, e2⟩ := I.hok b _ hB
      exact ⟨its2, n2, r2, r2.length, e2⟩
  have hsz : its.toArray.size + its2.toArray.size ≤ sizeLine := by rw [List.size_toArray, List.size_toArray]; omega
  have hlong : ¬ (!its.toArray.isEmpty && Builtin.List.listTooLong (its.toArray.size + its2.toArray.size)) = true := by
    rw [notLongL hsz, Bool.and_false]
    exact Bool.false_ne_true
  refine call_meets F.slot_list_extend ⟨_, e, rfl⟩ F.entry_list_extend (F.args_list_extend_2 _ _)
    (AutoSeq1.list_extend_list_list_0 l its.toArray n b its2.toArray n2 hlong (by rw [List.size_toArray]; omega) (by omega)) ⟨e, e2, ?_⟩
  refine ⟨.non, _, I.lset (its' := its ++ its2) hH e (by simp) (r.append r2) ?_, rfl, q⟩
  rw [List.length_append]
  omega
theorem ms_extend : MtSim T X mExtend "list" rExtZ := by
  intro Wx r s H h x ws v vs Q rh rx rs hq
  unfold mExtend at hq
  split at hq
  · rename_i a y
    obtain ⟨u, rfl, ru⟩ := one_of rs
    split at hq
    · rename_i xs zs g gz
      split at hq
      · rename_i hl
        cases rx with
        | ref h1 =>
          obtain ⟨us, hu, rus⟩ := lst_at rh h1 g
          obtain ⟨b, vz, rfl, hb, rz⟩ : ∃ b vz, u = .ref b ∧ Rd H b (.lst vz) ∧ RelWs T.toTab r H zs vz := by
            unfold exSrc at gz
            split at gz
            · cases gz
              cases ru with
              | lst z h2 r2 => exact ⟨_, _, rfl, h2, r2⟩
            · split at gz
              · rename_i g2
                cases gz
                cases ru with
                | ref h2 =>
                  obtain ⟨vz, hv, rv⟩ := lst_at rh h2 g2
                  exact ⟨_, vz, rfl, .inl hv, rv⟩
              · cases gz
            · cases gz
          refine ⟨_, b, us, vz, rfl, rfl, hu, hb, by rw [← rus.length, ← rz.length, ← lim_eq]; exact hl, ?_⟩
          have nl : ∀ o, h.get a = some o → o.lk = false := fun o ho => by rw [g] at ho; cases ho; rfl
          have e := Ext.set rh (u := .lst (us ++ vz)) h1 nl
          exact hq r .non _ e (rh.set h1 nl ⟨_, upd_same, (rus.app rz).mono e⟩) .non
      · exact hq.elim
    · exact hq.elim
  · exact hq.elim
theorem ixS_at {z : Str} : ∀ {ys : List Str} {j : Nat}, ixS z ys = some j → ys[j]? = some z ∧ ∀ m, m < j → ys[m]? ≠ some z
  | [], _, h => by cases h
  | y :: r, j, h => by
    unfold ixS at h
    cases q : strEq y z with
    | true =>
      rw [q, if_pos rfl] at h
      cases h
      rw [strEq_eq] at q
      have e := eq_of_beq q
      subst e
      exact ⟨rfl, fun m hm => absurd hm (Nat.not_lt_zero m)⟩
    | false =>
      rw [q, if_neg Bool.false_ne_true] at h
      cases q2 : ixS z r with
      | none => rw [q2] at h; cases h
      | some i =>
        rw [q2] at h
        cases h
        obtain ⟨h1, h2⟩ := ixS_at q2
        refine ⟨h1, fun m hm => ?_⟩
        cases m with
        | zero =>
          intro e
          have e : y = z := Option.some.inj e
          rw [e, strEq_eq, beq_self_eq_true] at q
          cases q
        | succ m => exact h2 m (Nat.lt_of_succ_lt_succ hm)
def rIdx (K : PySem.W.Frag) : V → List V → Hp → VK → Prop := fun x xs H Q => ∃ p, ∃ ys : List Str, ∃ z j, x = .ref p ∧ xs = [.str z] ∧ SqT K H p (ys.map V.str) ∧ ys[j]? = some z ∧ (∀ m, m < j → ys[m]? ≠ some z) ∧ Q (.int (j : Nat)) H
theorem ms_index (hK : T.K = X.K) : MtSim T X mIndex "tuple" (rIdx X.K) := by
  intro Wx r s H h x ws v vs Q rh rx rs hq
  unfold mIndex at hq
  split at hq
  · rename_i xs z
    obtain ⟨u, rfl, ru⟩ := one_of rs
    cases ru
    split at hq
    · rename_i ys hy
      split at hq
      · rename_i j hj
        obtain ⟨h1, h2⟩ := ixS_at hj
        cases rx with
        | tup t rt =>
          have eu := RelWs.of_strs rt hy
          subst eu
          exact ⟨_, ys, z, j, rfl, rfl, hK ▸ t.sq, h1, h2, hq.ok rh (.int _)⟩
      · exact hq.elim
    · exact hq.elim
  · exact hq.elim
theorem tup_K {K : PySem.W.Frag} (hK : T.K = K) {xs : List W} {v : V} (h : ∀ r H, RelW T.toTab r H (.tup xs) v) (H : Hp) : tyV K "tuple" v H := by
  have h0 := h ⟨fun _ => none, fun _ => False⟩ (fun _ => none)
  cases h0 with
  | tup t _ =>
    rcases t with t | ⟨o, its, n, h1, h2, h3, _⟩
    · cases t
    · exact .inr (.inl ⟨rfl, o, hK ▸ h1, h2, h3⟩)
theorem simE_bmG {id : String} {x y : Str} {ty : String} {rr : V → List V → Hp → VK → Prop} {g : W → List W → Hep → Out W} {a : Expr} {as : List Expr} {np ap cp : Pos} {ms : Env → Hep → Out (List W)} {w : W} {v : V} {u : Value}
    (pa : PlainAttrs ty) (slot : Slot ty x id) (hty : typeOf (.builtin id) = pure (.type "method_descriptor")) (hm : MtR X id rr) (hr : MtSim T X g ty rr) (hg : Gl X y) (hmg : X.mg y = some u) (hd : (y == ("__debug__" : Str)) = false) (rv : RelV v u) (rw' : ∀ r H, RelW T.toTab r H w v) (hk : ∀ H, tyV X.K ty v H)
    (hs : SimA T X Wx (a :: as) ms) (hst : (a :: as).all noStar = true) (hl : as.length < 19) (hline : (ap.endLine == cp.line) = true) :
    SimE T X Wx (.Call (.Attribute (.Name y np) x ap) (a :: as) [] cp) (fun e h => (ms e h).bind fun ws h2 => g w ws h2) := by
  intro r s H e h Q S hq pins t I
  have h1 : noStar a = true ∧ as.all noStar = true := by rw [List.all_cons, Bool.and_eq_true] at hst; exact hst
  refine (pe_bm pa slot hty hm (pe_glob hg hmg rv hd) pa_A rfl (few_of hst (by simp only [List.length_cons]; omega)) hline (star_cons as X.env h1.1) (by rw [backTo_any]; exact star_any h1.2)).run pins t s H Q I ?_
  refine ⟨hk H, hs r s H e h _ S (hq.bind fun r2 vs H2 ws h2 e2 rh2 rs hq2 => ?_)⟩
  exact hr Wx r2 s H2 h2 w ws v vs Q rh2 (rw' r2 H2) rs hq2
/-- arguments, others behind them -/
def SimAp (T : TabX) (X : Cx) (Wx : WX) (as : List Expr) (m : Env → Hep → Out (List W)) : Prop := ∀ (rest : List Expr) (r : Rho) (s : L2.St) (H : Hp) (e : Env) (h : Hep) (Q : List V → Hp → Prop), RelS T.toTab r e h s H →
  PostA T Wx r s H (m e h) (fun vs H1 => tA X rest s H1 fun us H2 => Q (vs ++ us) H2) → tA X (as ++ rest) s H Q
theorem simAp_nil : SimAp T X Wx [] (fun _ h => .ok [] h) := fun rest r s H e h Q S hq => hq.ok S.hp .nil
theorem simAp_cons {a : Expr} {as : List Expr} {ma : Env → Hep → Out W} {ms : Env → Hep → Out (List W)} (ha : SimE T X Wx a ma) (hs : SimAp T X Wx as ms) (hn : noStar a = true) :
    SimAp T X Wx (a :: as) (fun e h => (ma e h).bind fun x h1 => (ms e h1).bind fun xs h2 => .ok (x :: xs) h2) := by
  intro rest r s H e h Q S hq pos pins t I
  refine (pa_cons pe_E pa_A (star_cons (as ++ rest) X.env hn)).run pos pins t s H Q I ?_
  refine ha r s H e h _ S (hq.bind fun r1 v H1 x h1 e1 rh1 rv hq1 => ?_)
  refine hs rest r1 s H1 e h1 _ (S.next e1 rh1) (hq1.bind fun r2 vs H2 xs h2 e2 rh2 rs hq2 => ?_)
  exact hq2.ok rh2 (.cons (rv.mono e2) rs)
theorem simE_lsS {as : List Expr} {b : Expr} {sp pos : Pos} {ms : Env → Hep → Out (List W)} {mb : Env → Hep → Out W} (hK : T.K = X.K) (hs : SimAp T X Wx as ms) (hb : SimE T X Wx b mb) :
    SimE T X Wx (.List (as ++ [.Starred b sp]) pos) (fun e h => (ms e h).bind fun ws h1 => (mb e h1).bind fun x h2 => (match seqOf h2 x with
    | some xs => newL false h2 (ws ++ xs)
    | none => .bad)) := by
  intro r s H e h Q S hq pins t I
  refine (pe_lst pa_A).run pins t s H Q I ?_
  refine hs [.Starred b sp] r s H e h _ S (hq.bind fun r1 vs H1 ws h1 e1 rh1 rs hq1 => ?_)
  intro pos' pins' t' I'
  refine (StX.pa_star pe_E pa_nil rfl).run pos' pins' t' s H1 _ I' ?_
  refine hb r1 s H1 e h1 _ (S.next e1 rh1) (hq1.bind fun r2 v H2 x h2 e2 rh2 rv hq2 => ?_)
  split at hq2
  · rename_i xs hx
    obtain ⟨p, us, rfl, q1, q2⟩ := seqOf_at rh2 rv hx
    refine ⟨p, us, rfl, ?_, ?_⟩
    · rcases q1 with q1 | ⟨q1, _⟩
      · exact .inr (hK ▸ q1)
      · exact .inl (hK ▸ q1.sq)
    · show _ ∧ _
      rw [List.append_nil]
      exact newL_ok rh2 ((rs.mono e2).app q2) hq2
  · exact hq2.elim
end
end Ev

namespace Ev
open PySem PySem.Spec PyProof.Rows L2
/-- the names of defs (the empty text: not called by a name), of the module's constants, of classes -/
structure Nms where
  fn : List (Option Str)
  gl : List Str
  cl : List Str
  /-- attributes; the attribute of an error class -/
  at_ : List Str
  er : List (Option Str)
  /-- the classes that except clauses name -/
  eh : List Nat
  /-- the ways of binding: whose (a def's name), how many by place, the names of the others -/
  kb : List (Option Str × Nat × List Str)
def isNo (l : List (Option Str)) (i : Nat) (x : Str) : Bool := match nth l i with
  | some (some y) => strEq y x
  | _ => false
theorem isNo_at {l : List (Option Str)} {i : Nat} {x : Str} (h : isNo l i x = true) : nth l i = some (some x) := by
  unfold isNo at h
  split at h
  · rename_i y e
    rw [strEq_eq] at h
    rw [e, eq_of_beq h]
  · cases h
def isN (l : List Str) (i : Nat) (x : Str) : Bool := match nth l i with
  | some y => strEq y x
  | none => false
theorem isN_at {l : List Str} {i : Nat} {x : Str} (h : isN l i x = true) : l[i]? = some x := by
  unfold isN at h
  rw [nth_eq] at h
  split at h
  · rename_i y e
    rw [strEq_eq] at h
    rw [e, eq_of_beq h]
  · cases h
def kindB (sc : Scope) (x : Str) (k : NameKind) : Bool := match sc.names.lookup x with
  | some k' => decide (k' = k)
  | none => false
theorem kindB_at {sc : Scope} {x : Str} {k : NameKind} (h : kindB sc x k = true) : sc.names.lookup x = some k := by
  unfold kindB at h
  split at h
  · rename_i k' e
    rw [e, of_decide_eq_true h]
  · cases h
def visB (sc : Scope) (x : Str) : Bool := kindB sc x .local || kindB sc x .cell || kindB sc x .free
theorem visB_at {sc : Scope} {x : Str} (h : visB sc x = true) : Vis sc x := by
  unfold visB at h
  rw [Bool.or_eq_true, Bool.or_eq_true] at h
  rcases h with (h | h) | h
  · exact .inl (kindB_at h)
  · exact .inr (.inl (kindB_at h))
  · exact .inr (.inr (kindB_at h))
def locB (sc : Scope) (x : Str) : Bool := kindB sc x .local || kindB sc x .cell
theorem locB_at {sc : Scope} {x : Str} (h : locB sc x = true) : Loc sc x := by
  unfold locB at h
  rw [Bool.or_eq_true] at h
  exact h.imp kindB_at kindB_at
def plainN (x : Str) : Bool := !strEq x "__debug__" && !strEq x "__classdict__"
theorem plainN_at {x : Str} (h : plainN x = true) : (x == ("__debug__" : Str)) = false ∧ (x == ("__classdict__" : Str)) = false := by
  unfold plainN at h
  rw [strEq_eq, strEq_eq, Bool.and_eq_true, Bool.not_eq_true', Bool.not_eq_true'] at h
  exact h
/-- the built-in functions' names -/
def Bf.name : Bf → String
  | .len => "len"
  | .abs => "abs"
  | .max2 => "max"
  | .min2 => "min"
  | .maxl => "max"
  | .minl => "min"
  | .int => "int"
  | .str => "str"
  | .sum => "sum"
  | .all => "all"
  | .any => "any"
  | .sorted => "sorted"
  | .list => "list"
  | .listM => "list"
  | .tuple => "tuple"
  | .isi => "isinstance"
  | .repr => "repr"
  | .dict => "dict"
  | .dictM => "dict"
def Bm.name : Bm → String
  | .append => "append"
  | .extend => "extend"
  | .pop => "pop"
  | .clear => "clear"
  | .get1 => "get"
  | .get2 => "get"
  | .index => "index"
  | .items => "items"
  | .join => "join"
  | .split => "split"
  | .update => "update"
  | .count => "count"
  | .replace => "replace"
def notSlice : Expr → Bool
  | .Slice _ _ _ _ => false
  | _ => true
def notSet : Expr → Bool
  | .Set _ _ _ => false
  | _ => true
/-- super() is not among what is served -/
def notCall : Expr → Bool
  | .Call (.Name _ _) [] [] _ => false
  | _ => true
def chkNames (N : List Str) (sc : Scope) (fnB : Str → Bool) : List Nat → List Expr → Bool
  | [], [] => true
  | i :: is, .Name x _ :: r => isN N i x && locB sc x && (fnB x || kindB sc x .local) && chkNames N sc fnB is r
  | _, _ => false
def chkTg (N : List Str) (sc : Scope) (fnB : Str → Bool) : Tg → Expr → Bool
  | .nm i, .Name x _ => isN N i x && locB sc x && (fnB x || kindB sc x .local)
  | .tp is, .Tuple es _ _ => chkNames N sc fnB is es
  | _, _ => false
def ownOf (N : List Str) : List Nat → List (Str × Nat)
  | [] => []
  | i :: r => ((nth N i).getD Str.empty, i) :: ownOf N r
def subB (a b : List Nat) : Bool := a.all fun i => b.any (Nat.beq i)
def opOk : Operator → Bool
  | .Add => true
  | .Sub => true
  | .Mult => true
  | .Mod => true
  | .FloorDiv => true
  | .Pow => true
  | _ => false
def blkFn (scope : Scope) : Str → Bool := fun x => scope.names.lookup x == some .cell
def bfOk : Bf → Bool
  | .repr => false
  | .dict => false
  | .dictM => false
  | _ => true
def bmOk (m : Bm) (a : Ex) (n : Nat) : Bool := match m with
  | .append => true
  | .extend => true
  | .get1 => Nat.beq n 0
  | .get2 => Nat.beq n 1
  | .index => (match a with
    | .glb _ => true
    | _ => false)
  | _ => false
/-- the last one is starred -/
def unStar : List Expr → Option (List Expr × Expr)
  | [] => none
  | p :: ps => (match ps, p with
    | [], .Starred q _ => some ([], q)
    | ps, p => (match unStar ps with
      | some (l, q) => some (p :: l, q)
      | none => none))
theorem unStar_at : ∀ {ps : List Expr} {l : List Expr} {q : Expr}, unStar ps = some (l, q) → ∃ sp, ps = l ++ [.Starred q sp]
  | [], _, _, h => by cases h
  | p :: ps, l, q, h => by
    unfold unStar at h
    split at h
    · cases h
      exact ⟨_, rfl⟩
    · split at h
      · rename_i l' q' e
        cases h
        obtain ⟨sp, e'⟩ := unStar_at e
        exact ⟨sp, by rw [e']; rfl⟩
      · cases h
/-- keys and values in turn -/
def flatD : List (Option Expr) → List Expr → Option (List Expr)
  | some k :: ks, v :: vs => (flatD ks vs).map fun r => k :: v :: r
  | [], [] => some []
  | _, _ => none
/-- the arguments of what is walked -/
def itArgs (k : Ik) (sc : Scope) (tg p : Expr) : Option (List Expr) := match k with
  | .seq => if notSet p then some [p] else none
  | .rng => (match p with
    | .Call (.Name x _) ps [] _ => if strEq x "range" && kindB sc x .globalImplicit && decide (ps.length < 4) then some ps else none
    | _ => none)
  | .enu => (match p with
    | .Call (.Name x _) [q] [] _ => if strEq x "enumerate" && kindB sc x .globalImplicit && isTupE tg then some [q] else none
    | _ => none)
  | .itm => (match p with
    | .Call (.Attribute q x ap) [] [] cp => if strEq x "items" && (ap.endLine == cp.line) && notCall q && isTupE tg then some [q] else none
    | _ => none)
  | _ => none
/-- the keywords' names -/
def kwIs : List Keyword → List Str → Bool
  | [], ks => (match ks with
    | [] => true
    | _ => false)
  | ⟨nm, _, _⟩ :: r, ks => (match nm, ks with
    | some x, k :: ks => strEq x k && kwIs r ks
    | _, _ => false)
theorem kwIs_at : ∀ {kws : List Keyword} {ks : List Str}, kwIs kws ks = true → kwNames kws = ks.map some
  | [], [], _ => rfl
  | [], _ :: _, h => by cases h
  | ⟨none, _, _⟩ :: _, _, h => by cases h
  | ⟨some _, _, _⟩ :: _, [], h => by cases h
  | ⟨some x, _, _⟩ :: r, k :: ks, h => by
    have h : (strEq x k && kwIs r ks) = true := h
    rw [Bool.and_eq_true, strEq_eq] at h
    show some x :: kwNames r = some k :: ks.map some
    rw [kwIs_at h.2, eq_of_beq h.1]
/-- the way b of M, for the class (none) or the def of this name -/
def kbIs (M : Nms) (b : Nat) (ox : Option Str) (m : Nat) (kws : List Keyword) : Bool := match nth M.kb b with
  | some (oy, n, ks) => (match oy, ox with
    | none, none => true
    | some y, some x => strEq y x
    | _, _ => false) && decide (m = n) && kwIs kws ks
  | none => false
theorem kbIs_at {M : Nms} {b : Nat} {ox : Option Str} {m : Nat} {kws : List Keyword} (h : kbIs M b ox m kws = true) : ∃ ks, nth M.kb b = some (ox, m, ks) ∧ kwNames kws = ks.map some := by
  unfold kbIs at h
  split at h
  · rename_i oy n ks e
    rw [Bool.and_eq_true, Bool.and_eq_true] at h
    obtain ⟨⟨h1, h2⟩, h3⟩ := h
    have e2 := of_decide_eq_true h2
    subst e2
    refine ⟨ks, ?_, kwIs_at h3⟩
    rw [e]
    split at h1
    · rfl
    · rw [strEq_eq] at h1
      rw [eq_of_beq h1]
    · cases h1
  · cases h
section
variable (M : Nms) (N : List Str)
mutual
def chkE : Ex → Scope → Expr → Bool
  | .var i, sc, p => (match p with
    | .Name x _ => isN N i x && visB sc x && plainN x
    | _ => false)
  | .non, _, p => (match p with
    | .Constant .none _ _ => true
    | _ => false)
  | .bl b, _, p => (match p with
    | .Constant (.bool c) _ _ => decide (b = c)
    | _ => false)
  | .int i, _, p => (match p with
    | .Constant (.int c) _ _ => decide (i = c)
    | _ => false)
  | .str x, _, p => (match p with
    | .Constant (.str c) _ _ => strEq x c
    | _ => false)
  | .glb g, sc, p => (match p with
    | .Name x _ => isN M.gl g x && kindB sc x .globalImplicit && plainN x
    | _ => false)
  | .ty t, sc, p => (match p with
    | .Name x _ => strEq x t.name && kindB sc x .globalImplicit
    | _ => false)
  | .cln c, sc, p => (match p with
    | .Name x _ => isN M.cl c x && kindB sc x .globalImplicit && plainN x
    | _ => false)
  | .bin op a b, sc, p => (match p with
    | .BinOp pa op' pb _ => decide (op = op') && opOk op && chkE a sc pa && chkE b sc pb
    | _ => false)
  | .neg a, sc, p => (match p with
    | .UnaryOp .USub pa _ => chkE a sc pa
    | _ => false)
  | .cmp op a b, sc, p => (match p with
    | .Compare pa [op'] [pb] _ => decide (op = op') && notSet pb && chkE a sc pa && chkE b sc pb
    | _ => false)
  | .chn o1 o2 a b c, sc, p => (match p with
    | .Compare pa [o1', o2'] [pb, pc] _ => decide (o1 = o1') && decide (o2 = o2') && notSet pb && notSet pc && chkE a sc pa && chkE b sc pb && chkE c sc pc
    | _ => false)
  | .and a b, sc, p => (match p with
    | .BoolOp .And (pa :: pb :: rest) pos => chkE a sc pa && (match rest with
      | [] => chkE b sc pb
      | _ => chkE b sc (.BoolOp .And (pb :: rest) pos))
    | _ => false)
  | .or a b, sc, p => (match p with
    | .BoolOp .Or (pa :: pb :: rest) pos => chkE a sc pa && (match rest with
      | [] => chkE b sc pb
      | _ => chkE b sc (.BoolOp .Or (pb :: rest) pos))
    | _ => false)
  | .not a, sc, p => (match p with
    | .UnaryOp .Not pa _ => chkE a sc pa
    | _ => false)
  | .ife c a b, sc, p => (match p with
    | .IfExp pc pa pb _ => chkE c sc pc && chkE a sc pa && chkE b sc pb
    | _ => false)
  | .fld a f, sc, p => (match p with
    | .Attribute pa x _ => isN M.at_ f x && notCall pa && chkE a sc pa
    | _ => false)
  | .idx a i, sc, p => (match p with
    | .Subscript pa pi _ => notSlice pi && chkE a sc pa && chkE i sc pi
    | _ => false)
  | .slL a lo, sc, p => (match p with
    | .Subscript pa (.Slice (some pl) none none _) _ => chkE a sc pa && chkE lo sc pl
    | _ => false)
  | .slH a hi, sc, p => (match p with
    | .Subscript pa (.Slice none (some ph) none _) _ => chkE a sc pa && chkE hi sc ph
    | _ => false)
  | .slB a lo hi, sc, p => (match p with
    | .Subscript pa (.Slice (some pl) (some ph) none _) _ => chkE a sc pa && chkE lo sc pl && chkE hi sc ph
    | _ => false)
  | .rev a, sc, p => (match p with
    | .Subscript pa (.Slice none none (some (.UnaryOp .USub (.Constant (.int c) _ _) _)) _) _ => decide (c = 1) && chkE a sc pa
    | _ => false)
  | .tup es, sc, p => (match p with
    | .Tuple ps _ _ => chkEs es sc ps
    | _ => false)
  | .lst _ es, sc, p => (match p with
    | .List ps _ => chkEs es sc ps
    | _ => false)
  | .cal f es, sc, p => (match p with
    | .Call (.Name x _) ps [] _ => isNo M.fn f x && kindB sc x .globalImplicit && plainN x && chkEs es sc ps
    | _ => false)
  | .mth m a es, sc, p => (match p with
    | .Call (.Attribute po x ap) ps [] cp => isN M.at_ m x && (ap.endLine == cp.line) && decide (ps.length < 20) && notCall po && chkE a sc po && chkEs es sc ps
    | _ => false)
  | .lsS es b, sc, p => (match p with
    | .List ps _ => (match unStar ps with
      | some (l, q) => chkEs es sc l && chkE b sc q
      | none => false)
    | _ => false)
  | .mak c b es, sc, p => (match p with
    | .Call (.Name x _) ps kws _ => isN M.cl c x && kindB sc x .globalImplicit && plainN x && kbIs M b none ps.length kws && chkEs es sc (ps ++ kwVals kws)
    | _ => false)
  | .clk b es, sc, p => (match p with
    | .Call (.Name x _) ps kws _ => kindB sc x .globalImplicit && plainN x && kbIs M b (some x) ps.length kws && chkEs es sc (ps ++ kwVals kws)
    | _ => false)
  | .bfn b es, sc, p => (match p with
    | .Call (.Name x _) (pa :: ps) [] _ => strEq x b.name && bfOk b && kindB sc x .globalImplicit && chkEs es sc (pa :: ps)
    | _ => false)
  | .bmt m a es, sc, p => (match p with
    | .Call (.Attribute po x ap) (pa :: ps) [] cp => strEq x m.name && bmOk m a ps.length && (ap.endLine == cp.line) && decide (ps.length < 19) && notCall po && chkE a sc po && chkEs es sc (pa :: ps)
    | _ => false)
  | .lco _ elt tg k it cs own, sc, p => (match p with
    | .ListComp pe [⟨pt, pi, pf, z⟩] scope _ => decide (z = 0) && blkC N sc scope (ownOf N own) && (match itArgs k sc pt pi with
        | some qs => chkEs it sc qs
        | none => false) && chkTg N (relS scope sc) (blkFn scope) tg pt && subB tg.slots own && chkEs cs (relS scope sc) pf && decide (cs.length < 2) && chkE elt (relS scope sc) pe
    | _ => false)
  | .lc2 _ elt tg k it tg1 k1 it1 cs1 own own1, sc, p => (match p with
    | .ListComp pe [⟨pt, pi, [], z⟩, ⟨pt1, pi1, pf, z1⟩] scope _ => decide (z = 0) && decide (z1 = 0) && blkC N sc scope (ownOf N own) && (match itArgs k sc pt pi with
        | some qs => chkEs it sc qs
        | none => false) && chkTg N (relS scope sc) (blkFn scope) tg pt && chkTg N (relS scope sc) (blkFn scope) tg1 pt1
        && subB tg.slots own && subB tg1.slots own1 && subB own1 own && (match itArgs k1 (relS scope sc) pt1 pi1 with
        | some qs => chkEs it1 (relS scope sc) qs
        | none => false) && chkEs cs1 (relS scope sc) pf && decide (cs1.length < 2) && chkE elt (relS scope sc) pe
    | _ => false)
  | .dct _ es, sc, p => (match p with
    | .Dict [] [] _ => es.isEmpty
    | .Dict keys values _ => (match flatD keys values with
      | some ps => !keys.isEmpty && decide (keys.length ≤ 15) && chkEs es sc ps
      | none => false)
    | _ => false)
  | .dco _ kk vv tg k it cs own, sc, p => (match p with
    | .DictComp pk pv [⟨pt, pi, pf, z⟩] scope _ => decide (z = 0) && blkC N sc scope (ownOf N own) && (match itArgs k sc pt pi with
        | some qs => chkEs it sc qs
        | none => false) && chkTg N (relS scope sc) (blkFn scope) tg pt && subB tg.slots own && chkEs cs (relS scope sc) pf && decide (cs.length < 2) && chkE kk (relS scope sc) pk && chkE vv (relS scope sc) pv
    | _ => false)
  | .frz i, sc, p => (match p with
    | .Name x _ => isN N i x && visB sc x && plainN x
    | _ => false)
  | .nev, _, p => noStar p && notSet p
def chkEs : List Ex → Scope → List Expr → Bool
  | [], _, ps => (match ps with
    | [] => true
    | _ => false)
  | a :: r, sc, ps => (match ps with
    | p :: ps => chkE a sc p && chkEs r sc ps
    | [] => false)
end
end
end Ev

namespace Ev
open PySem PySem.Spec PyProof.Rows L2
def bltNames : List Str := ["len", "abs", "max", "min", "int", "str", "sum", "all", "any", "sorted", "list", "tuple", "isinstance", "repr", "dict", "range", "bool", "enumerate", "zip", "ValueError", "KeyError", "OverflowError", "RuntimeError"]
structure Ctx (P : Pg) (T : TabX) (M : Nms) (n : Nat) (N : List Str) (sc : Scope) (X : Cx) (Wx : WX) : Prop where
  hK : T.K = X.K
  hN : X.N = N
  nd : N.Nodup
  sc : X.env.scope = sc
  calm : X.calm = true
  room : Room n X.A
  tk : Takes X Wx
  blt : ∀ x ∈ bltNames, X.mg x = none
  gls : ∀ (g : Nat) (x : Str) (w : W), nth M.gl g = some x → nth P.glb g = some w → ∃ u v, X.mg x = some u ∧ RelV v u ∧ ∀ r H, RelW T.toTab r H w v
  fns : ∀ (f : Nat) (x : Str), nth M.fn f = some (some x) → ∃ fn fa fd ps, nth P.fns f = some fn ∧ FnOk X.prog X.w X.K X.mg X.base (L2.CX X.prog X.w) n fa fd ps (spEv P T n f fn.np) ∧ X.mg x = some (.ref fa) ∧ PySem.W.keepIn X.K (.ref fa) = true ∧ Binds X.K fd ps []
  kit : KitP P T.toTab
  att : ∀ (f : Nat) (x : Str), nth M.at_ f = some x → T.fN f = x
  cls : ∀ (c : Nat) (x : Str), nth M.cl c = some x → X.mg x = some (.ref (T.cA c))
  fld : ∀ c cl f, nth P.cls c = some cl → hasN cl.flds f = true → NoAttr X.K (T.cA c) (T.fN f)
  mth : MethP P T n X
  mks : ∀ (k : Nat), n = k + 1 → ∀ c cl b kb m ks, nth P.cls c = some cl → nth P.kbs b = some kb → nth M.kb b = some (none, m, ks) → kb.f = cl.ini → kb.n = m ∧ CI T.K (T.cA c) ∧ ∃ fa, Mk X.K (T.cA c) fa ∧ KbOk P T k X kb ks fa (kb.n + 1) gSelf
  clk : ∀ b kb x m ks, nth P.kbs b = some kb → nth M.kb b = some (some x, m, ks) → kb.n = m ∧ ∃ fa, KbOk P T n X kb ks fa kb.n gFun ∧ PySem.W.keepIn X.K (.ref fa) = true ∧ X.mg x = some (.ref fa)
def orcN (P : Pg) (n : Nat) : Orc := ⟨callN P n, match n with
  | 0 => fun _ _ _ => .bad
  | m + 1 => callN P m, Nat.ble 2 n⟩
section
variable {P : Pg} {T : TabX} {M : Nms} {n : Nat}
theorem Ctx.gl {N : List Str} {sc : Scope} {X : Cx} {Wx : WX} (c : Ctx P T M n N sc X Wx) {x : Str} (h : kindB sc x .globalImplicit = true) : Gl X x := by
  have := kindB_at h
  unfold Gl
  show X.env.scope.names.lookup x = _
  rw [c.sc]
  exact this
theorem Ctx.blk {N : List Str} {sc scope : Scope} {X : Cx} {Wx : WX} (c : Ctx P T M n N sc X Wx) (t : Shared) (H0 : Hp) (C : Addr) (cl : List (Str × Addr)) (fp : List Addr) : Ctx P T M n N (relS scope sc) (X.blk t H0 scope (compEnvC scope cl C X.env) fp) Wno where
  hK := c.hK
  hN := c.hN
  nd := c.nd
  sc := by rw [← c.sc]; rfl
  calm := c.calm
  room := c.room
  tk := takes0
  blt := c.blt
  gls := c.gls
  fns := c.fns
  kit := c.kit
  att := c.att
  cls := c.cls
  fld := c.fld
  mth := c.mth
  mks := fun k hk c' cl b kb m ks h1 h2 h3 h4 => by
    obtain ⟨g1, g2, fa, g3, g4⟩ := c.mks k hk c' cl b kb m ks h1 h2 h3 h4
    exact ⟨g1, g2, fa, g3, g4.ex, g4.len⟩
  clk := fun b kb x m ks h1 h2 => by
    obtain ⟨g1, fa, g2, g3⟩ := c.clk b kb x m ks h1 h2
    exact ⟨g1, fa, ⟨g2.ex, g2.len⟩, g3⟩
theorem bin_rule {X : Cx} (hK : T.K = X.K) {op : Operator} (h : opOk op = true) : ∃ rr, OpR X (binaryOp op) rr ∧ OpSim T X (binop op) rr := by
  cases op with
  | Add => exact ⟨_, opS_add, sim_add hK⟩
  | Sub => exact ⟨_, op_sub, sim_sub⟩
  | Mult => exact ⟨_, opS_mul, sim_mul hK⟩
  | Mod => exact ⟨_, op_mod, sim_mod⟩
  | FloorDiv => exact ⟨_, op_fdiv, sim_fdv⟩
  | Pow => exact ⟨_, op_pow, sim_pow⟩
  | _ => cases h
theorem cmp_rule {X : Cx} (hK : T.K = X.K) (hr : Room n X.A) (op : CmpOp) : ∃ rr, OpR X (compareOp op) rr ∧ OpSim T X (cmpop op) rr := by
  cases op with
  | Eq => exact ⟨_, opS_eq hr, sim_eq hK⟩
  | NotEq => exact ⟨_, opS_ne hr, sim_ne hK⟩
  | Lt => exact ⟨_, op_lt, sim_ord fun _ _ _ => rfl⟩
  | LtE => exact ⟨_, op_le, sim_ord fun _ _ _ => rfl⟩
  | Gt => exact ⟨_, op_gt, sim_ord fun _ _ _ => rfl⟩
  | GtE => exact ⟨_, op_ge, sim_ord fun _ _ _ => rfl⟩
  | Is => exact ⟨_, op_isE, sim_is⟩
  | IsNot => exact ⟨_, op_notE, sim_isn⟩
  | In => exact ⟨_, opS_in hr, sim_in hK⟩
  | NotIn => exact ⟨_, opS_nin hr, sim_nin hK⟩
theorem no_star {N : List Str} (a : Ex) (sc : Scope) (v : Expr) (pos : Pos) : chkE M N a sc (.Starred v pos) = false := by
  cases a <;> rfl
theorem no_set {N : List Str} (a : Ex) (sc : Scope) (v : List Expr) (k : Nat) (pos : Pos) : chkE M N a sc (.Set v k pos) = false := by
  cases a <;> rfl
theorem shape {N : List Str} {a : Ex} {sc : Scope} {p : Expr} (h : chkE M N a sc p = true) : noStar p = true ∧ notSet p = true := by
  cases p with
  | Starred v pos => rw [no_star] at h; cases h
  | Set v k pos => rw [no_set] at h; cases h
  | _ => exact ⟨rfl, rfl⟩
theorem notSet_mark {p : Expr} (op : CmpOp) (h : notSet p = true) : behindInMarks op p = false := by
  cases p <;> first | rfl | cases h
theorem notSet_last {p q : Expr} (o1 o2 : CmpOp) (h : notSet q = true) : lastMarks [o1, o2] [p, q] = false := notSet_mark o2 h
theorem notSet_fold {p : Expr} (h : notSet p = true) (env : PySem.Env) (x : Value) : foldedSetIterable p env x = pure x := by
  cases p <;> first | rfl | cases h
theorem isTrue_bool (op : BoolOp) (vs : List Expr) (pos : Pos) (env : PySem.Env) (w w' : Sem Value) : isTrue (.BoolOp op vs pos) env w = isTrue (.BoolOp op vs pos) env w' := by
  rw [PySem.isTrue, PySem.isTrue]
theorem SimT.w {X : Cx} {Wx : WX} {op : BoolOp} {vs : List Expr} {pos : Pos} {m : Env → Hep → Out Bool} (h : SimT T X Wx (.BoolOp op vs pos) m) : SimW T X Wx (.BoolOp op vs pos) m := by
  intro r s H e k Q S hq whole pins t I
  rw [isTrue_bool op vs pos X.env whole (eval (.BoolOp op vs pos) X.env)]
  exact h r s H e k Q S hq pins t I
theorem names_pgs {X : Cx} {N : List Str} {sc : Scope} {fnB : Str → Bool} (hN : X.N = N) (nd : N.Nodup) (hsc : X.env.scope = sc) (hf : ∀ x, fnB x = true → X.fn x = true) : ∀ {is : List Nat} {es : List Expr}, chkNames N sc fnB is es = true →
    PGs X es (gIs is) ∧ (assignEach es X.env).length = is.length ∧ (assignEach es X.env).findIdx? (·.1) = none
  | [], [], _ => ⟨pgs_nil, rfl, rfl⟩
  | [], _ :: _, h => by cases h
  | _ :: _, [], h => by cases h
  | i :: is, e :: es, h => by
    cases e with
    | Name x p =>
      simp only [chkNames, Bool.and_eq_true, Bool.or_eq_true] at h
      obtain ⟨⟨⟨h1, h2⟩, h3⟩, h4⟩ := h
      obtain ⟨g1, g2, g3⟩ := names_pgs hN nd hsc hf h4
      refine ⟨pgs_cons (pg_name (i := i) (by rw [hN]; exact nd) (by rw [hN]; exact isN_at h1) (by rw [hsc]; exact locB_at h2) (by rw [hsc]; exact h3.imp (hf x) kindB_at)) g1 rfl, ?_, ?_⟩
      · show (assignEach es X.env).length + 1 = is.length + 1
        rw [g2]
      · show List.findIdx? (·.1) ((false, assign (.Name x p) X.env) :: assignEach es X.env) = none
        rw [List.findIdx?_cons, if_neg (fun z => Bool.noConfusion z), g3]
        rfl
    | _ => cases h
theorem tg_pg {X : Cx} {N : List Str} {sc : Scope} {fnB : Str → Bool} (hc : X.calm = true) (hN : X.N = N) (nd : N.Nodup) (hsc : X.env.scope = sc) (hf : ∀ x, fnB x = true → X.fn x = true) {tg : Tg} {p : Expr} (h : chkTg N sc fnB tg p = true) : PG X p (gTg X.K tg) := by
  cases tg with
  | nm i => cases p with
    | Name x pos =>
      simp only [chkTg, Bool.and_eq_true, Bool.or_eq_true] at h
      obtain ⟨⟨h1, h2⟩, h3⟩ := h
      exact pg_name (i := i) (by rw [hN]; exact nd) (by rw [hN]; exact isN_at h1) (by rw [hsc]; exact locB_at h2) (by rw [hsc]; exact h3.imp (hf x) kindB_at)
    | _ => cases h
  | tp is => cases p with
    | Tuple es k pos =>
      obtain ⟨g1, g2, g3⟩ := names_pgs hN nd hsc hf (show chkNames N sc fnB is es = true from h)
      exact pg_tup hc g1 g2 g3
    | _ => cases h
theorem own_snd (N : List Str) : ∀ own : List Nat, (ownOf N own).map (·.2) = own
  | [] => rfl
  | i :: r => by
    show i :: (ownOf N r).map (·.2) = i :: r
    rw [own_snd N r]
theorem subB_at {a b : List Nat} (h : subB a b = true) : ∀ i ∈ a, i ∈ b := fun i hi => by
  have h1 := List.all_eq_true.mp h i hi
  obtain ⟨j, hj, e⟩ := List.any_eq_true.mp h1
  rw [Nat.eq_of_beq_eq_true e]
  exact hj
theorem mem_nth {α : Type} : ∀ {l : List α} (i : Nat) {x : α}, nth l i = some x → x ∈ l
  | [], _, _, h => by cases h
  | _ :: _, 0, _, h => by cases h; exact .head _
  | _ :: r, i + 1, _, h => .tail _ (mem_nth (l := r) i h)
theorem in_vale : ("ValueError" : Str) ∈ bltNames := mem_nth 19 rfl
theorem in_keye : ("KeyError" : Str) ∈ bltNames := mem_nth 20 rfl
theorem in_ovfe : ("OverflowError" : Str) ∈ bltNames := mem_nth 21 rfl
theorem in_rune : ("RuntimeError" : Str) ∈ bltNames := mem_nth 22 rfl
theorem in_len : ("len" : Str) ∈ bltNames := .head _
theorem in_abs : ("abs" : Str) ∈ bltNames := .tail _ (.head _)
theorem in_max : ("max" : Str) ∈ bltNames := .tail _ (.tail _ (.head _))
theorem in_min : ("min" : Str) ∈ bltNames := .tail _ (.tail _ (.tail _ (.head _)))
theorem in_int : ("int" : Str) ∈ bltNames := .tail _ (.tail _ (.tail _ (.tail _ (.head _))))
theorem in_str : ("str" : Str) ∈ bltNames := .tail _ (.tail _ (.tail _ (.tail _ (.tail _ (.head _)))))
theorem in_sum : ("sum" : Str) ∈ bltNames := .tail _ (.tail _ (.tail _ (.tail _ (.tail _ (.tail _ (.head _))))))
theorem in_all : ("all" : Str) ∈ bltNames := .tail _ (.tail _ (.tail _ (.tail _ (.tail _ (.tail _ (.tail _ (.head _)))))))
theorem in_any : ("any" : Str) ∈ bltNames := .tail _ (.tail _ (.tail _ (.tail _ (.tail _ (.tail _ (.tail _ (.tail _ (.head _))))))))
theorem in_sorted : ("sorted" : Str) ∈ bltNames := .tail _ (.tail _ (.tail _ (.tail _ (.tail _ (.tail _ (.tail _ (.tail _ (.tail _ (.head _)))))))))
theorem in_list : ("list" : Str) ∈ bltNames := .tail _ (.tail _ (.tail _ (.tail _ (.tail _ (.tail _ (.tail _ (.tail _ (.tail _ (.tail _ (.head _))))))))))
theorem in_tuple : ("tuple" : Str) ∈ bltNames := .tail _ (.tail _ (.tail _ (.tail _ (.tail _ (.tail _ (.tail _ (.tail _ (.tail _ (.tail _ (.tail _ (.head _)))))))))))
theorem in_isinstance : ("isinstance" : Str) ∈ bltNames := .tail _ (.tail _ (.tail _ (.tail _ (.tail _ (.tail _ (.tail _ (.tail _ (.tail _ (.tail _ (.tail _ (.tail _ (.head _))))))))))))
theorem in_repr : ("repr" : Str) ∈ bltNames := .tail _ (.tail _ (.tail _ (.tail _ (.tail _ (.tail _ (.tail _ (.tail _ (.tail _ (.tail _ (.tail _ (.tail _ (.tail _ (.head _)))))))))))))
theorem in_dict : ("dict" : Str) ∈ bltNames := .tail _ (.tail _ (.tail _ (.tail _ (.tail _ (.tail _ (.tail _ (.tail _ (.tail _ (.tail _ (.tail _ (.tail _ (.tail _ (.tail _ (.head _))))))))))))))
theorem in_range : ("range" : Str) ∈ bltNames := .tail _ (.tail _ (.tail _ (.tail _ (.tail _ (.tail _ (.tail _ (.tail _ (.tail _ (.tail _ (.tail _ (.tail _ (.tail _ (.tail _ (.tail _ (.head _)))))))))))))))
theorem in_bool : ("bool" : Str) ∈ bltNames := .tail _ (.tail _ (.tail _ (.tail _ (.tail _ (.tail _ (.tail _ (.tail _ (.tail _ (.tail _ (.tail _ (.tail _ (.tail _ (.tail _ (.tail _ (.tail _ (.head _))))))))))))))))
theorem in_enumerate : ("enumerate" : Str) ∈ bltNames := .tail _ (.tail _ (.tail _ (.tail _ (.tail _ (.tail _ (.tail _ (.tail _ (.tail _ (.tail _ (.tail _ (.tail _ (.tail _ (.tail _ (.tail _ (.tail _ (.tail _ (.head _)))))))))))))))))
theorem in_zip : ("zip" : Str) ∈ bltNames := .tail _ (.tail _ (.tail _ (.tail _ (.tail _ (.tail _ (.tail _ (.tail _ (.tail _ (.tail _ (.tail _ (.tail _ (.tail _ (.tail _ (.tail _ (.tail _ (.tail _ (.tail _ (.head _))))))))))))))))))
theorem not_spec : bltNames.all (fun x => !strEq x "__name__" && !strEq x "__debug__") = true := by decide +kernel
theorem not_name {x : Str} (h : x ∈ bltNames) : x ≠ "__name__" ∧ (x == ("__debug__" : Str)) = false := by
  have := List.all_eq_true.mp not_spec x h
  rw [strEq_eq, strEq_eq, Bool.and_eq_true, Bool.not_eq_true', Bool.not_eq_true'] at this
  exact ⟨fun e => by rw [e] at this; simp at this, this.2⟩
theorem bfn_rule {N : List Str} {sc : Scope} {X : Cx} {Wx : WX} (c : Ctx P T M n N sc X Wx) {b : Bf} {p pos : Pos} {a : Expr} {as : List Expr} {ms : Env → Hep → Out (List W)} (hs : SimA T X Wx (a :: as) ms) (hst : (a :: as).all noStar = true) (hb : bfOk b = true) (hg : Gl X (b.name : Str)) :
    SimE T X Wx (.Call (.Name (b.name : Str) p) (a :: as) [] pos) (fun e h => (ms e h).bind fun ws h1 => bfn P b ws h1) := by
  cases b with
  | len => exact simE_callB call_lenE (fs_len c.hK) hs hg (c.blt _ in_len) (by first | exact PyProof.Rows.boot_len | exact PySem.boot_len) (not_name in_len).1 (not_name in_len).2 hst
  | abs => exact simE_callB call_abs fs_abs hs hg (c.blt _ in_abs) (by first | exact PyProof.Rows.boot_abs | exact PySem.boot_abs) (not_name in_abs).1 (not_name in_abs).2 hst
  | max2 => exact simE_callB (call_max2 c.calm) fs_max2 hs hg (c.blt _ in_max) (by first | exact PyProof.Rows.boot_max | exact PySem.boot_max) (not_name in_max).1 (not_name in_max).2 hst
  | min2 => exact simE_callB (call_min2 c.calm) fs_min2 hs hg (c.blt _ in_min) (by first | exact PyProof.Rows.boot_min | exact PySem.boot_min) (not_name in_min).1 (not_name in_min).2 hst
  | maxl => exact simE_callB (cr_max c.calm) (fs_maxl c.hK) hs hg (c.blt _ in_max) (by first | exact PyProof.Rows.boot_max | exact PySem.boot_max) (not_name in_max).1 (not_name in_max).2 hst
  | minl => exact simE_callB (cr_min c.calm) (fs_minl c.hK) hs hg (c.blt _ in_min) (by first | exact PyProof.Rows.boot_min | exact PySem.boot_min) (not_name in_min).1 (not_name in_min).2 hst
  | int => exact simE_callTy call_int1 fs_int hs hg (c.blt _ in_int) (by first | exact PyProof.Rows.boot_int | exact PySem.boot_int) (not_name in_int).1 (not_name in_int).2 hst
  | sum => exact simE_callB (cr_sum c.calm) (fs_sum c.hK) hs hg (c.blt _ in_sum) (by first | exact PyProof.Rows.boot_sum | exact PySem.boot_sum) (not_name in_sum).1 (not_name in_sum).2 hst
  | all => exact simE_callB (cr_all c.calm) (fs_all c.hK) hs hg (c.blt _ in_all) (by first | exact PyProof.Rows.boot_all | exact PySem.boot_all) (not_name in_all).1 (not_name in_all).2 hst
  | any => exact simE_callB (cr_any c.calm) (fs_any c.hK) hs hg (c.blt _ in_any) (by first | exact PyProof.Rows.boot_any | exact PySem.boot_any) (not_name in_any).1 (not_name in_any).2 hst
  | list => exact simE_callTy call_list_of (fs_list c.hK) hs hg (c.blt _ in_list) (by first | exact PyProof.Rows.boot_list | exact PySem.boot_list) (not_name in_list).1 (not_name in_list).2 hst
  | listM => exact simE_callTy call_list_of (fs_listM c.hK) hs hg (c.blt _ in_list) (by first | exact PyProof.Rows.boot_list | exact PySem.boot_list) (not_name in_list).1 (not_name in_list).2 hst
  | tuple => exact simE_callTy call_tuple_of (fs_tuple c.hK) hs hg (c.blt _ in_tuple) (by first | exact PyProof.Rows.boot_tuple | exact PySem.boot_tuple) (not_name in_tuple).1 (not_name in_tuple).2 hst
  | str => exact simE_callTy SkE.call_str_str fs_str hs hg (c.blt _ in_str) (by first | exact PyProof.Rows.boot_str | exact PySem.boot_str) (not_name in_str).1 (not_name in_str).2 hst
  | sorted => exact simE_callB cr_sortedS (fs_sorted c.hK) hs hg (c.blt _ in_sorted) (by first | exact PyProof.Rows.boot_sorted | exact PySem.boot_sorted) (not_name in_sorted).1 (not_name in_sorted).2 hst
  | isi => exact simE_callB call_isiS (fs_isi c.kit c.hK) hs hg (c.blt _ in_isinstance) (by first | exact PyProof.Rows.boot_isinstance | exact PySem.boot_isinstance) (not_name in_isinstance).1 (not_name in_isinstance).2 hst
  | _ => cases hb
def isPlainT : Expr → Bool
  | .UnaryOp .Not _ _ => false
  | .BoolOp _ _ _ => false
  | .IfExp _ _ _ _ => false
  | .Compare _ _ _ _ => false
  | _ => true
theorem plainT {p : Expr} (h : isPlainT p = true) (env : PySem.Env) : ∀ whole, PySem.isTrue p env whole = (do let v ← whole; standAt p.pos; holding [v] (truthy v)) := by
  intro whole
  cases p with
  | UnaryOp op x pos => cases op <;> first | rfl | cases h
  | _ => first | rfl | cases h
/-- the two things that are shown of an expression -/
def Both (P : Pg) (T : TabX) (n : Nat) (X : Cx) (Wx : WX) (p : Expr) (a : Ex) : Prop := SimE T X Wx p (ev P (orcN P n) a) ∧ SimT T X Wx p (tru (ev P (orcN P n) a))
theorem Both.plain {X : Cx} {Wx : WX} {p : Expr} {a : Ex} (hK : T.K = X.K) (h : SimE T X Wx p (ev P (orcN P n) a)) (hp : isPlainT p = true) : Both P T n X Wx p a := ⟨h, simT_plain hK h (plainT hp X.env)⟩
theorem ite_T {c a b : Expr} {pos : Pos} {X : Cx} {Wx : WX} {mc ma mb : Env → Hep → Out W} (hc : SimT T X Wx c (tru mc)) (ha : SimT T X Wx a (tru ma)) (hb : SimT T X Wx b (tru mb)) : SimT T X Wx (.IfExp c a b pos) (tru fun e h => (mc e h).bind fun x h1 => (match truth h1 x with
    | some true => ma e h1
    | some false => mb e h1
    | none => .bad)) := by
  intro r s H e h Q S hq pins t I
  rw [PySem.isTrue]
  have e0 : (tru (fun e h => (mc e h).bind fun x h1 => (match truth h1 x with
    | some true => ma e h1
    | some false => mb e h1
    | none => .bad)) e h) = (tru mc e h).bind fun b h1 => if b then tru ma e h1 else tru mb e h1 := by
    unfold tru
    cases qm : mc e h with
    | ok x h1 =>
      simp only [qm, Out.bind]
      cases q : truth h1 x with
      | none => rfl
      | some k => cases k <;> rfl
    | exc c p h1 => simp only [qm, Out.bind]
    | bad => simp only [qm, Out.bind]
  rw [e0] at hq
  have h1 := hc r s H e h (fun k H1 => if k = true then tT X a s H1 Q else tT X b s H1 Q) S (hq.bind fun r1 v H1 x h1 e1 rh1 rv hq1 => by
    subst rv
    cases x with
    | true => exact iteT (ha r1 s H1 e h1 Q (S.next e1 rh1) hq1)
    | false => exact iteF (hb r1 s H1 e h1 Q (S.next e1 rh1) hq1)) pins t I
  refine wpAny_bind (thn h1 fun k t1 hk => ?_)
  obtain ⟨H1, I1, q1⟩ := hk
  cases k with
  | true =>
    rw [if_pos rfl] at q1 ⊢
    exact q1 pins t1 I1
  | false =>
    rw [if_neg Bool.false_ne_true] at q1 ⊢
    exact q1 pins t1 I1
theorem itArgs_fold {k : Ik} {sc : Scope} {tg p : Expr} {qs : List Expr} (h : itArgs k sc tg p = some qs) (env : PySem.Env) (x : Value) : foldedSetIterable p env x = pure x := by
  unfold itArgs at h
  split at h
  · split at h
    · rename_i z
      exact notSet_fold z env x
    · cases h
  · split at h
    · rfl
    · cases h
  · split at h
    · rfl
    · cases h
  · split at h
    · rfl
    · cases h
  · cases h
def EachE (P : Pg) (T : TabX) (n : Nat) (X : Cx) (Wx : WX) : List Ex → List Expr → Prop
  | a :: r, p :: ps => SimE T X Wx p (ev P (orcN P n) a) ∧ noStar p = true ∧ EachE P T n X Wx r ps
  | [], [] => True
  | _, _ => False
theorem evs2 (C : Orc) (a b : Ex) : evs P C [a, b] = fun e h => (ev P C a e h).bind fun x h1 => (ev P C b e h1).bind fun y h2 => .ok [x, y] h2 := by
  funext e h
  show (ev P C a e h).bind (fun x h1 => ((ev P C b e h1).bind fun y h2 => .ok [y] h2).bind fun xs h2 => .ok (x :: xs) h2) = _
  cases ev P C a e h with
  | ok x h1 => show ((ev P C b e h1).bind fun y h2 => .ok [y] h2).bind (fun xs h2 => .ok (x :: xs) h2) = (ev P C b e h1).bind fun y h2 => .ok [x, y] h2; cases ev P C b e h1 <;> rfl
  | exc _ _ _ => rfl
  | bad => rfl
theorem evs3 (C : Orc) (a b d : Ex) : evs P C [a, b, d] = fun e h => (ev P C a e h).bind fun x h1 => (ev P C b e h1).bind fun y h2 => (ev P C d e h2).bind fun z h3 => .ok [x, y, z] h3 := by
  funext e h
  have e2 := evs2 (P := P) C b d
  show (ev P C a e h).bind (fun x h1 => (evs P C [b, d] e h1).bind fun xs h2 => .ok (x :: xs) h2) = _
  rw [e2]
  cases ev P C a e h with
  | ok x h1 =>
    show ((ev P C b e h1).bind fun y h2 => (ev P C d e h2).bind fun z h3 => .ok [y, z] h3).bind (fun xs h2 => .ok (x :: xs) h2) = (ev P C b e h1).bind fun y h2 => (ev P C d e h2).bind fun z h3 => .ok [x, y, z] h3
    cases ev P C b e h1 with
    | ok y h2 => show ((ev P C d e h2).bind fun z h3 => .ok [y, z] h3).bind (fun xs h2 => .ok (x :: xs) h2) = (ev P C d e h2).bind fun z h3 => .ok [x, y, z] h3; cases ev P C d e h2 <;> rfl
    | exc _ _ _ => rfl
    | bad => rfl
  | exc _ _ _ => rfl
  | bad => rfl
def trsOf (X : Cx) : List (Option Expr) → List Expr → List (TE × TE)
  | some k :: ks, v :: vs => (tE X k, tE X v) :: trsOf X ks vs
  | _, _ => []
def flatV : List (V × V) → List V
  | [] => []
  | p :: r => p.1 :: p.2 :: flatV r
theorem pps_of {X : Cx} {pos : Pos} : ∀ {keys : List (Option Expr)} {values ps : List Expr}, flatD keys values = some ps → PPs X pos keys values (trsOf X keys values) ∧ keys.all (·.isSome) = true ∧ keys.length = values.length
  | [], [], _, _ => ⟨pps_nil, rfl, rfl⟩
  | [], _ :: _, _, h => by cases h
  | some k :: ks, [], _, h => by cases h
  | none :: _, [], _, h => by cases h
  | none :: _, _ :: _, _, h => by cases h
  | some k :: ks, v :: vs, ps, h => by
    have h : (flatD ks vs).map (fun r => k :: v :: r) = some ps := h
    cases q : flatD ks vs with
    | none => rw [q] at h; cases h
    | some r =>
      obtain ⟨h1, h2, h3⟩ := pps_of (X := X) (pos := pos) q
      exact ⟨pps_cons pe_E pe_E h1, by rw [List.all_cons, h2]; rfl, by rw [List.length_cons, List.length_cons, h3]⟩
theorem bindA {α β γ : Type} (o : Out α) (f : α → Hep → Out β) (g : β → Hep → Out γ) : (o.bind f).bind g = o.bind fun a h => (f a h).bind g := by
  cases o <;> rfl
theorem disp_pairs {X : Cx} {Wx : WX} : ∀ {es : List Ex} {keys : List (Option Expr)} {values ps : List Expr}, flatD keys values = some ps → EachE P T n X Wx es ps → ∀ (r : Rho) (s : L2.St) (H : Hp) (e : Env) (h : Hep) (Q : List (V × V) → Hp → Prop), RelS T.toTab r e h s H →
    PostA T Wx r s H (evs P (orcN P n) es e h) (fun vs H' => ∀ ps, flatV ps = vs → Q ps H') → tPairs (trsOf X keys values) s H Q
  | es, [], [], ps, hf, hE, r, s, H, e, h, Q, S, hq => by
    cases hf
    cases es with
    | nil => exact hq.ok S.hp .nil [] rfl
    | cons _ _ => exact hE.elim
  | es, [], _ :: _, ps, hf, hE, r, s, H, e, h, Q, S, hq => by cases hf
  | es, some k :: ks, [], ps, hf, hE, r, s, H, e, h, Q, S, hq => by cases hf
  | es, none :: _, [], ps, hf, hE, r, s, H, e, h, Q, S, hq => by cases hf
  | es, none :: _, _ :: _, ps, hf, hE, r, s, H, e, h, Q, S, hq => by cases hf
  | es, some k :: ks, v :: vs, ps, hf, hE, r, s, H, e, h, Q, S, hq => by
    have hf : (flatD ks vs).map (fun r => k :: v :: r) = some ps := hf
    cases q : flatD ks vs with
    | none => rw [q] at hf; cases hf
    | some ps' =>
      rw [q] at hf
      cases hf
      match es, hE with
      | a :: b :: es', hE =>
        obtain ⟨h1, _, h2, _, h3⟩ := hE
        have hq : PostA T Wx r s H ((ev P (orcN P n) a e h).bind fun x ha => (ev P (orcN P n) b e ha).bind fun y hb => (evs P (orcN P n) es' e hb).bind fun ws hc => .ok (x :: y :: ws) hc) (fun vs H' => ∀ ps, flatV ps = vs → Q ps H') := by
          have z : evs P (orcN P n) (a :: b :: es') e h = (ev P (orcN P n) a e h).bind fun x ha => (ev P (orcN P n) b e ha).bind fun y hb => (evs P (orcN P n) es' e hb).bind fun ws hc => .ok (x :: y :: ws) hc := by
            show (ev P (orcN P n) a e h).bind (fun x ha => ((ev P (orcN P n) b e ha).bind fun y hb => (evs P (orcN P n) es' e hb).bind fun ws hc => .ok (y :: ws) hc).bind fun xs hd => .ok (x :: xs) hd) = _
            congr 1
            funext x ha
            rw [bindA]
            congr 1
            funext y hb
            rw [bindA]
            rfl
          rw [← z]
          exact hq
        refine h1 r s H e h _ S (hq.bind fun r1 vx H1 x ha e1 rh1 rx hq1 => ?_)
        have S1 := S.next e1 rh1
        refine h2 r1 s H1 e ha _ S1 (hq1.bind fun r2 vy H2 y hb e2 rh2 ry hq2 => ?_)
        have S2 := S1.next e2 rh2
        refine disp_pairs q h3 r2 s H2 e hb _ S2 (hq2.bind fun r3 vz H3 ws hc e3 rh3 rz hq3 => ?_)
        intro ps' hp
        refine hq3.ok rh3 (.cons (rx.mono (e2.trans e3)) (.cons (ry.mono e3) rz)) ((vx, vy) :: ps') ?_
        show vx :: vy :: flatV ps' = _
        rw [hp]
theorem pairs_of {r : Rho} {H : Hp} : ∀ {ws : List W} {pw : List (W × W)} {ps : List (V × V)}, pairW ws = some pw → RelWs T.toTab r H ws (flatV ps) → ∃ kvs : List (L2.Key × V), ps = kvs.map (fun kv => (kV kv.1, kv.2)) ∧ RelKv T.toTab r H pw kvs
  | [], pw, ps, h, rs => by
    cases h
    cases ps with
    | nil => exact ⟨[], rfl, .nil⟩
    | cons p ps => cases rs
  | [_], pw, ps, h, rs => by cases h
  | k :: v :: ws, pw, ps, h, rs => by
    simp only [pairW] at h
    cases ps with
    | nil => cases rs
    | cons p ps =>
      cases rs with
      | cons rk rs => cases rs with
        | cons rv rs =>
          split at h
          · rename_i q hk
            cases z : pairW ws with
            | none => rw [z] at h; cases h
            | some pw' =>
              rw [z] at h
              cases h
              obtain ⟨kvs, h1, h2⟩ := pairs_of z rs
              refine ⟨(q, p.2) :: kvs, ?_, .cons hk rv h2⟩
              rw [List.map_cons, ← h1, ← key_rel rk hk]
          · cases h
theorem merge_of {r : Rho} {H : Hp} : ∀ {pw : List (W × W)} {kvs : List (L2.Key × V)}, RelKv T.toTab r H pw kvs → ∀ {us : List (W × W)} {ks : List (L2.Key × V)}, RelKv T.toTab r H us ks → RelKv T.toTab r H (pw.foldl (fun acc p => dput acc p.1 p.2) us) (mergeK ks kvs)
  | _, _, .nil, us, ks, g => g
  | _, _, .cons hk hw t, us, ks, g => merge_of t (g.put hk hw)
theorem simE_dct {mu : Bool} {X : Cx} {Wx : WX} {es : List Ex} {keys : List (Option Expr)} {values ps : List Expr} {pos : Pos} (hf : flatD keys values = some ps) (hE : EachE P T n X Wx es ps) (h0 : keys ≠ []) (h15 : keys.length ≤ 15) :
    SimE T X Wx (.Dict keys values pos) (fun e h => (evs P (orcN P n) es e h).bind fun ws h1 => newD mu h1 ws) := by
  intro r s H e h Q S hq pins t I
  have hq : PostE T Wx r s H ((evs P (orcN P n) es e h).bind fun ws h1 => newD mu h1 ws) Q := hq
  obtain ⟨g1, g2, g3⟩ := pps_of (X := X) (pos := pos) hf
  refine (pe_disp g1 g2 g3 h0 h15).run pins t s H Q I fun p hp => ?_
  have eA := Ext.alloc S.hp (u := .dK []) hp
  have hn := S.hp.off hp
  have hz : ¬ r.z p := fun z => by
    obtain ⟨u, hu, _⟩ := S.hp.zl p z
    rw [hp] at hu
    cases hu
  refine disp_pairs hf hE r s _ e h _ (S.next eA (S.hp.alloc hp)) ?_
  cases q : evs P (orcN P n) es e h with
  | bad => rw [q] at hq; exact hq
  | exc c p' h1 => rw [q] at hq; exact fun r' d H' v x => hq r' d H' v (eA.trans x)
  | ok ws h1 =>
    rw [q] at hq
    intro r' vs H' x rh rws ps' hps
    have hq : PostE T Wx r s H (newD mu h1 ws) Q := hq
    obtain ⟨e1, hz'⟩ := x.oth p _ upd_same hn hz
    have hn' : ∀ a, r' a ≠ some p := x.off upd_same hn
    unfold newD at hq
    split at hq
    · rename_i pw hpw
      split at hq
      · rename_i hl
        subst hps
        obtain ⟨kvs, k1, k2⟩ := pairs_of hpw rws
        refine ⟨e1, kvs, k1, by rw [← k2.length]; exact hl, ?_⟩
        have n1 : ∀ xs, (HO.dK [] : HO) ≠ .tup xs := fun xs z => by cases z
        have rs := rh.sideG (u := .dK (mergeK [] kvs)) e1 n1 hn' hz'
        have m1 := (merge_of k2 .nil).kp (Kp.sideG (u := .dK (mergeK [] kvs)) e1 n1 hz')
        have x1 := (eA.trans x).over S.hp (u := .dK (mergeK [] kvs)) hp
        cases mu with
        | true => exact hq _ _ _ (Ext.nameG x1 rs hp) (rs.nameG hn' hz' ⟨mergeK [] kvs, upd_same, m1.kp (rs.kpN p)⟩) (.ref (ins_same _ _ _))
        | false => exact hq (fz r' p) _ _ (x1.fzG hp) (rs.fz upd_same (fun _ z => by cases z) hn') (.dct (.inl rfl) (.inl upd_same) (m1.kp (Kp.fz p)))
      · exact hq.elim
    · exact hq.elim
theorem simE_dct0 {mu : Bool} {X : Cx} {Wx : WX} {pos : Pos} : SimE T X Wx (.Dict [] [] pos) (fun e h => (evs P (orcN P n) [] e h).bind fun ws h1 => newD mu h1 ws) := by
  intro r s H e h Q S hq pins t I
  have hq : PostE T Wx r s H (laidD mu h []) Q := hq
  refine pe_dnewK.run pins t s H Q I fun p hp => ?_
  cases mu with
  | true => exact hq _ _ _ (Ext.push S.hp hp) (S.hp.push hp ⟨[], upd_same, .nil⟩) (.ref (ins_same _ _ _))
  | false => exact hq _ _ _ (Ext.laid S.hp hp) (S.hp.laid hp fun _ z => by cases z) (.dct (.inl rfl) (.inl upd_same) .nil)
/-- from now on a value -/
theorem simE_frz {X : Cx} {Wx : WX} {p : Expr} {ma : Env → Hep → Out W} (ha : SimE T X Wx p ma) : SimE T X Wx p (fun e h => (ma e h).bind fun x h1 => freeze x h1) := by
  intro r s H e h Q S hq
  refine ha r s H e h _ S (hq.bind fun r1 v H1 x h1 e1 rh1 rv hq1 => ?_)
  cases rv with
  | ref q =>
    rename_i a p
    simp only [freeze] at hq1
    split at hq1
    · rename_i xs g
      obtain ⟨vs, hv, rs⟩ := lst_at rh1 q g
      exact hq1 (fz r1 p) _ _ (Ext.dead q) (rh1.dead q g) (.lst (.inl rfl) (.inl hv) (rs.kp (Kp.fz p)))
    · rename_i kvs g
      obtain ⟨p', hp, ks, h1, h2⟩ := rh1.obj a _ g
      rw [q] at hp
      cases hp
      exact hq1 (fz r1 p) _ _ (Ext.dead q) (rh1.dead q g) (.dct (.inl rfl) (.inl h1) (h2.kp (Kp.fz p)))
    · exact hq1.elim
  | tup g gs => exact hq1 r1 _ _ (Ext.refl _ _) rh1 (.tup g gs)
  | lst z g gs => exact hq1 r1 _ _ (Ext.refl _ _) rh1 (.lst z g gs)
  | scr g => exact hq1 r1 _ _ (Ext.refl _ _) rh1 (.scr g)
  | dct z g gs => exact hq1 r1 _ _ (Ext.refl _ _) rh1 (.dct z g gs)
  | ins z c g gs => exact hq1 r1 _ _ (Ext.refl _ _) rh1 (.ins z c g gs)
  | non => exact hq1 r1 _ _ (Ext.refl _ _) rh1 .non
  | bl b => exact hq1 r1 _ _ (Ext.refl _ _) rh1 (.bl b)
  | int b => exact hq1 r1 _ _ (Ext.refl _ _) rh1 (.int b)
  | str b => exact hq1 r1 _ _ (Ext.refl _ _) rh1 (.str b)
  | cls b => exact hq1 r1 _ _ (Ext.refl _ _) rh1 (.cls b)
  | ty b => exact hq1 r1 _ _ (Ext.refl _ _) rh1 (.ty b)
theorem simE_nev {X : Cx} {Wx : WX} {p : Expr} : SimE T X Wx p (fun _ _ => .bad) := fun _ _ _ _ _ _ _ hq => hq.elim
theorem simT_nev {X : Cx} {Wx : WX} {p : Expr} : SimT T X Wx p (fun _ _ => .bad) := fun _ _ _ _ _ _ _ hq => hq.elim
theorem itSnd {N : List Str} {sc : Scope} {X : Cx} {Wx : WX} {k : Ik} {tg p : Expr} {qs : List Expr} {es : List Ex} (c : Ctx P T M n N sc X Wx) (h : itArgs k sc tg p = some qs) (hs : EachE P T n X Wx es qs) :
    SimI T X Wx tg p k (evs P (orcN P n) es) ∧ ∀ env x, foldedSetIterable p env x = pure x := by
  refine ⟨?_, itArgs_fold h⟩
  unfold itArgs at h
  split at h
  · split at h
    · cases h
      match es, hs with
      | [a], hs => exact simI_seq c.hK hs.1
      | [], hs => exact hs.elim
      | _ :: _ :: _, hs => exact hs.2.2.elim
    · cases h
  · split at h
    · split at h
      · rename_i x _ ps _ z
        rw [Bool.and_eq_true, Bool.and_eq_true, strEq_eq] at z
        have e := eq_of_beq z.1.1
        subst e
        cases h
        have hg := c.gl z.1.2
        have hm := c.blt ("range" : Str) in_range
        match es, qs, hs with
        | [], [], _ => 
          intro r s H e h R S hq
          exact hq.elim
        | [a], [p], hs => exact simI_rng1 hs.1 hs.2.1 hg hm
        | [a, b], [p, q], hs => rw [evs2]; exact simI_rng2 hs.1 hs.2.2.1 hs.2.1 hs.2.2.2.1 hg hm
        | [a, b, d], [p, q, u], hs => rw [evs3]; exact simI_rng3 hs.1 hs.2.2.1 hs.2.2.2.2.1 hs.2.1 hs.2.2.2.1 hs.2.2.2.2.2.1 hg hm
        | _ :: _ :: _ :: _ :: _, [_], hs => exact hs.2.2.elim
        | _ :: _ :: _ :: _ :: _, [_, _], hs => exact hs.2.2.2.2.elim
        | _ :: _ :: _ :: _ :: _, [_, _, _], hs => exact hs.2.2.2.2.2.2.elim
        | a :: b :: d :: f :: r, p :: q :: u :: v :: w, hs =>
          have := of_decide_eq_true z.2
          simp only [List.length_cons] at this
          omega
        | [], _ :: _, hs => exact hs.elim
        | _ :: _, [], hs => exact hs.elim
        | [_], _ :: _ :: _, hs => exact hs.2.2.elim
        | [_, _], _ :: _ :: _ :: _, hs => exact hs.2.2.2.2.elim
        | [_, _, _], _ :: _ :: _ :: _ :: _, hs => exact hs.2.2.2.2.2.2.elim
        | [_, _], [_], hs => exact hs.2.2.elim
        | [_, _, _], [_], hs => exact hs.2.2.elim
        | [_, _, _], [_, _], hs => exact hs.2.2.2.2.elim
      · cases h
    · cases h
  · split at h
    · split at h
      · rename_i x p1 q p2 z
        rw [Bool.and_eq_true, Bool.and_eq_true, strEq_eq] at z
        have e := eq_of_beq z.1.1
        subst e
        cases h
        match es, hs with
        | [a], hs => exact simI_enu c.hK hs.1 hs.2.1 (c.gl z.1.2) (c.blt ("enumerate" : Str) in_enumerate) z.2
        | [], hs => exact hs.elim
        | _ :: _ :: _, hs => exact hs.2.2.elim
      · cases h
    · cases h
  · split at h
    · split at h
      · rename_i q x ap cp z
        rw [Bool.and_eq_true, Bool.and_eq_true, Bool.and_eq_true, strEq_eq] at z
        have e := eq_of_beq z.1.1.1
        subst e
        cases h
        match es, hs with
        | [a], hs => exact simI_itm c.hK hs.1 z.2 (base_of (by have := z.1.2; unfold notCall at this; exact this)) z.1.1.2
        | [], hs => exact hs.elim
        | _ :: _ :: _, hs => exact hs.2.2.elim
      · cases h
    · cases h
  · cases h
theorem each_app {X : Cx} {Wx : WX} : ∀ {ps qs : List Expr} {es : List Ex}, EachE P T n X Wx es (ps ++ qs) → ∃ e1 e2, es = e1 ++ e2 ∧ EachE P T n X Wx e1 ps ∧ EachE P T n X Wx e2 qs
  | [], qs, es, h => ⟨[], es, rfl, trivial, h⟩
  | p :: ps, qs, [], h => h.elim
  | p :: ps, qs, a :: es, h => by
    obtain ⟨h1, h2, h3⟩ := h
    obtain ⟨e1, e2, rfl, g1, g2⟩ := each_app (ps := ps) h3
    exact ⟨a :: e1, e2, rfl, ⟨h1, h2, g1⟩, g2⟩
theorem each_A {X : Cx} {Wx : WX} : ∀ {ps : List Expr} {es : List Ex}, EachE P T n X Wx es ps → SimA T X Wx ps (evs P (orcN P n) es) ∧ ps.all noStar = true ∧ es.length = ps.length
  | [], [], _ => ⟨simA_nil, rfl, rfl⟩
  | [], _ :: _, h => h.elim
  | _ :: _, [], h => h.elim
  | p :: ps, a :: es, h => by
    obtain ⟨h1, h2, h3⟩ := h
    obtain ⟨g1, g2, g3⟩ := each_A h3
    exact ⟨simA_cons h1 g1 h2, by rw [List.all_cons, h2, g2]; rfl, by rw [List.length_cons, List.length_cons, g3]⟩
theorem each_K {X : Cx} {Wx : WX} : ∀ {kws : List Keyword} {es : List Ex}, EachE P T n X Wx es (kwVals kws) → SimK T X Wx kws (evs P (orcN P n) es)
  | [], [], _ => simK_nil
  | [], _ :: _, h => h.elim
  | ⟨nm, a, kp⟩ :: kws, [], h => h.elim
  | ⟨nm, a, kp⟩ :: kws, e :: es, h => simK_cons h.1 (each_K h.2.2)
theorem each_Ap {X : Cx} {Wx : WX} : ∀ {ps : List Expr} {es : List Ex}, EachE P T n X Wx es ps → SimAp T X Wx ps (evs P (orcN P n) es)
  | [], [], _ => simAp_nil
  | [], _ :: _, h => h.elim
  | _ :: _, [], h => h.elim
  | p :: ps, a :: es, h => simAp_cons h.1 (each_Ap h.2.2) h.2.1
theorem evs_app (C : Orc) : ∀ (a b : List Ex), evs P C (a ++ b) = argM (evs P C a) (evs P C b)
  | [], b => by
    funext e h
    show evs P C b e h = (evs P C b e h).bind fun ys h2 => .ok ([] ++ ys) h2
    cases evs P C b e h <;> rfl
  | x :: a, b => by
    funext e h
    show (ev P C x e h).bind (fun w h1 => (evs P C (a ++ b) e h1).bind fun xs h2 => .ok (w :: xs) h2) = ((ev P C x e h).bind fun w h1 => (evs P C a e h1).bind fun xs h2 => .ok (w :: xs) h2).bind fun xs h1 => (evs P C b e h1).bind fun ys h2 => .ok (xs ++ ys) h2
    rw [evs_app C a b, bindA]
    congr 1
    funext w h1
    unfold argM
    rw [bindA, bindA]
    congr 1
    funext xs h2
    rw [bindA]
    rfl
theorem evs_len (C : Orc) : ∀ (es : List Ex) (e : Env) (h : Hep) (xs : List W) (h1 : Hep), evs P C es e h = .ok xs h1 → xs.length = es.length
  | [], e, h, xs, h1, q => by cases q; rfl
  | a :: r, e, h, xs, h1, q => by
    have q : (ev P C a e h).bind (fun x h1 => (evs P C r e h1).bind fun xs h2 => .ok (x :: xs) h2) = .ok xs h1 := q
    cases qa : ev P C a e h with
    | ok x h2 =>
      rw [qa] at q
      have q : (evs P C r e h2).bind (fun xs h3 => .ok (x :: xs) h3) = .ok xs h1 := q
      cases qr : evs P C r e h2 with
      | ok ys h3 =>
        rw [qr] at q
        cases q
        rw [List.length_cons, List.length_cons, evs_len C r e h2 ys _ qr]
      | exc _ _ _ => rw [qr] at q; cases q
      | bad => rw [qr] at q; cases q
    | exc _ _ _ => rw [qa] at q; cases q
    | bad => rw [qa] at q; cases q
theorem mak_of {N : List Str} {sc : Scope} {X : Cx} {Wx : WX} (c : Ctx P T M n N sc X Wx) {d b : Nat} {x : Str} {p pos : Pos} {ps : List Expr} {kws : List Keyword} {es : List Ex} (hg : Gl X x) (hm : X.mg x = some (.ref (T.cA d))) (hd : (x == ("__debug__" : Str)) = false) (hb : kbIs M b none ps.length kws = true)
    (hE : EachE P T n X Wx es (ps ++ kwVals kws)) : SimE T X Wx (.Call (.Name x p) ps kws pos) (ev P (orcN P n) (.mak d b es)) := by
  obtain ⟨ks, hk, hkw⟩ := kbIs_at hb
  obtain ⟨e1, e2, rfl, g1, g2⟩ := each_app hE
  obtain ⟨a1, a2, a3⟩ := each_A g1
  have k1 := each_K g2
  cases qo : (orcN P n).ok with
  | false => exact fun _ _ _ e h _ _ hq => (show False by simp only [ev, qo] at hq; exact hq).elim
  | true =>
  cases qc : nth P.cls d with
  | none => exact fun _ _ _ e h _ _ hq => (show False by simp only [ev, qc, qo] at hq; exact hq).elim
  | some cl =>
    cases qb : nth P.kbs b with
    | none => exact fun _ _ _ e h _ _ hq => (show False by simp only [ev, qc, qb, qo] at hq; exact hq).elim
    | some kb =>
      cases qf : Nat.beq kb.f cl.ini with
      | false => exact fun _ _ _ e h _ _ hq => (show False by simp [ev, qc, qb, qf, qo] at hq; exact hq).elim
      | true =>
        have ef := Nat.eq_of_beq_eq_true qf
        have ee : ev P (orcN P n) (.mak d b (e1 ++ e2)) = makM P (orcN P n) d cl kb (argM (evs P (orcN P n) e1) (evs P (orcN P n) e2)) := by
          funext e h
          rw [← evs_app]
          simp only [ev, qc, qb, qf, qo]
          rfl
        rw [ee]
        cases n with
        | zero => cases qo
        | succ k =>
          obtain ⟨m1, m2, fa, m3, m4⟩ := c.mks k rfl d cl b kb _ ks qc qb hk ef
          cases ps with
          | nil =>
            cases e1 with
            | nil => exact simE_mak0 (a := .Name x p) (as := []) (m1 := fun _ h => .ok [] h) (C := orcN P (k + 1)) rfl ef m2 c.hK c.tk c.room m3 m4 hg hm hd hkw k1 m1
            | cons _ _ => exact g1.elim
          | cons q qs => exact simE_mak (C := orcN P (k + 1)) rfl ef m2 c.hK c.tk c.room m3 m4 hg hm hd hkw a1 k1 a2 (fun e h xs h1 z => by rw [evs_len _ _ _ _ _ _ z, a3, m1])
theorem clk_of {N : List Str} {sc : Scope} {X : Cx} {Wx : WX} (c : Ctx P T M n N sc X Wx) {b : Nat} {x : Str} {p pos : Pos} {ps : List Expr} {kws : List Keyword} {es : List Ex} (hg : Gl X x) (hd : (x == ("__debug__" : Str)) = false) (hb : kbIs M b (some x) ps.length kws = true)
    (hE : EachE P T n X Wx es (ps ++ kwVals kws)) : SimE T X Wx (.Call (.Name x p) ps kws pos) (ev P (orcN P n) (.clk b es)) := by
  obtain ⟨ks, hk, hkw⟩ := kbIs_at hb
  obtain ⟨e1, e2, rfl, g1, g2⟩ := each_app hE
  obtain ⟨a1, a2, a3⟩ := each_A g1
  have k1 := each_K g2
  cases qb : nth P.kbs b with
  | none => exact fun _ _ _ e h _ _ hq => (show False by simp only [ev, qb] at hq; exact hq).elim
  | some kb =>
    have ee : ev P (orcN P n) (.clk b (e1 ++ e2)) = clkM (orcN P n) kb (argM (evs P (orcN P n) e1) (evs P (orcN P n) e2)) := by
      funext e h
      rw [← evs_app]
      simp only [ev, qb]
      rfl
    rw [ee]
    obtain ⟨m1, fa, m2, m3, m4⟩ := c.clk b kb x _ ks qb hk
    cases ps with
    | nil =>
      cases e1 with
      | nil => exact simE_clk0 (a := .Name x p) (as := []) (m1 := fun _ h => .ok [] h) (C := orcN P n) rfl c.tk c.room m2 m3 hg m4 hd hkw k1 m1
      | cons _ _ => exact g1.elim
    | cons q qs => exact simE_clk (C := orcN P n) rfl c.tk c.room m2 m3 hg m4 hd hkw a1 k1 a2 (fun e h xs h1 z => by rw [evs_len _ _ _ _ _ _ z, a3, m1])
mutual
theorem snd : ∀ (a : Ex) {N : List Str} {sc : Scope} {X : Cx} {Wx : WX} {p : Expr}, Ctx P T M n N sc X Wx → chkE M N a sc p = true → Both P T n X Wx p a
  | .var i, N, sc, X, Wx, p, c, h => by
    simp only [chkE] at h
    split at h
    · rename_i x pos
      simp only [Bool.and_eq_true] at h
      obtain ⟨⟨h1, h2⟩, h3⟩ := h
      exact .plain c.hK (sim_var (by rw [c.hN]; exact isN_at h1) (by rw [c.sc]; exact visB_at h2) (plainN_at h3).1 (plainN_at h3).2) rfl
    · cases h
  | .non, N, sc, X, Wx, p, c, h => by
    simp only [chkE] at h
    split at h
    · exact .plain c.hK sim_non rfl
    · cases h
  | .bl b, N, sc, X, Wx, p, c, h => by
    simp only [chkE] at h
    split at h
    · have e := of_decide_eq_true h
      subst e
      exact .plain c.hK sim_bl rfl
    · cases h
  | .int b, N, sc, X, Wx, p, c, h => by
    simp only [chkE] at h
    split at h
    · have e := of_decide_eq_true h
      subst e
      exact .plain c.hK sim_int rfl
    · cases h
  | .str b, N, sc, X, Wx, p, c, h => by
    simp only [chkE] at h
    split at h
    · rw [strEq_eq] at h
      have e := eq_of_beq h
      subst e
      exact .plain c.hK sim_str rfl
    · cases h
  | .glb g, N, sc, X, Wx, p, c, h => by
    simp only [chkE] at h
    split at h
    · rename_i x pos
      simp only [Bool.and_eq_true] at h
      obtain ⟨⟨h1, h2⟩, h3⟩ := h
      have e1 := isN_at h1
      rw [← nth_eq] at e1
      refine .plain c.hK ?_ rfl
      intro r s H e k Q S hq
      have hq : PostE T Wx r s H (.some' (nth P.glb g) k) Q := hq
      obtain ⟨w, hw, f⟩ := hq.some' S.hp
      obtain ⟨u, v, g1, g2, g3⟩ := c.gls g x w e1 hw
      intro pins t I
      exact (pe_glob (c.gl h2) g1 g2 (plainN_at h3).1).run pins t s H Q I (f v (g3 r H))
    · cases h
  | .ty t, N, sc, X, Wx, p, c, h => by
    simp only [chkE] at h
    split at h
    · rename_i x pos
      simp only [Bool.and_eq_true] at h
      obtain ⟨h1, h2⟩ := h
      rw [strEq_eq] at h1
      have e := eq_of_beq h1
      subst e
      refine .plain c.hK (sim_c (v := .ty t.name) ?_ fun _ _ => .ty t) rfl
      cases t with
      | int => exact pe_bltn (c.gl h2) (c.blt _ in_int) (by first | exact PyProof.Rows.boot_int | exact PySem.boot_int) rfl (not_name in_int).1 (not_name in_int).2
      | bool => exact pe_bltn (c.gl h2) (c.blt _ in_bool) (by first | exact PyProof.Rows.boot_bool | exact PySem.boot_bool) rfl (not_name in_bool).1 (not_name in_bool).2
      | str => exact pe_bltn (c.gl h2) (c.blt _ in_str) (by first | exact PyProof.Rows.boot_str | exact PySem.boot_str) rfl (not_name in_str).1 (not_name in_str).2
      | list => exact pe_bltn (c.gl h2) (c.blt _ in_list) (by first | exact PyProof.Rows.boot_list | exact PySem.boot_list) rfl (not_name in_list).1 (not_name in_list).2
      | tuple => exact pe_bltn (c.gl h2) (c.blt _ in_tuple) (by first | exact PyProof.Rows.boot_tuple | exact PySem.boot_tuple) rfl (not_name in_tuple).1 (not_name in_tuple).2
      | dict => exact pe_bltn (c.gl h2) (c.blt _ in_dict) (by first | exact PyProof.Rows.boot_dict | exact PySem.boot_dict) rfl (not_name in_dict).1 (not_name in_dict).2
      | vale => exact pe_bltn (c.gl h2) (c.blt _ in_vale) PyProof.Rows.Boot.«ValueError» rfl (not_name in_vale).1 (not_name in_vale).2
      | keye => exact pe_bltn (c.gl h2) (c.blt _ in_keye) PyProof.Rows.Boot.«KeyError» rfl (not_name in_keye).1 (not_name in_keye).2
      | ovfe => exact pe_bltn (c.gl h2) (c.blt _ in_ovfe) PyProof.Rows.Boot.«OverflowError» rfl (not_name in_ovfe).1 (not_name in_ovfe).2
      | rune => exact pe_bltn (c.gl h2) (c.blt _ in_rune) PyProof.Rows.Boot.«RuntimeError» rfl (not_name in_rune).1 (not_name in_rune).2
    · cases h
  | .cln d, N, sc, X, Wx, p, c, h => by
    simp only [chkE] at h
    split at h
    · rename_i x pos
      simp only [Bool.and_eq_true] at h
      obtain ⟨⟨h1, h2⟩, h3⟩ := h
      have e1 := isN_at h1
      rw [← nth_eq] at e1
      refine .plain c.hK ?_ rfl
      intro r s H e k Q S hq pins t I
      have hq : PostE T Wx r s H (.ok (.cls d) k) Q := hq
      exact (pe_glob (v := .ref (T.cA d)) (c.gl h2) (c.cls d x e1) rfl (plainN_at h3).1).run pins t s H Q I (hq.ok S.hp (.cls d))
    · cases h
  | .bin op a b, N, sc, X, Wx, p, c, h => by
    simp only [chkE] at h
    split at h
    · simp only [Bool.and_eq_true] at h
      obtain ⟨⟨⟨h1, h2⟩, h3⟩, h4⟩ := h
      have e := of_decide_eq_true h1
      subst e
      obtain ⟨rr, g1, g2⟩ := bin_rule c.hK h2
      exact .plain c.hK (sim_bin g1 g2 (snd a c h3).1 (snd b c h4).1) rfl
    · cases h
  | .neg a, N, sc, X, Wx, p, c, h => by
    simp only [chkE] at h
    split at h
    · exact .plain c.hK (simE_neg (snd a c h).1) rfl
    · cases h
  | .cmp op a b, N, sc, X, Wx, p, c, h => by
    simp only [chkE] at h
    split at h
    · simp only [Bool.and_eq_true] at h
      obtain ⟨⟨⟨h1, h2⟩, h3⟩, h4⟩ := h
      have e := of_decide_eq_true h1
      subst e
      obtain ⟨rr, g1, g2⟩ := cmp_rule c.hK c.room op
      exact ⟨sim_cmp g1 g2 (snd a c h3).1 (snd b c h4).1 (notSet_mark op h2), simT_cmp g1 g2 (snd a c h3).1 (snd b c h4).1 (notSet_mark op h2)⟩
    · cases h
  | .chn o1 o2 a b d, N, sc, X, Wx, p, c, h => by
    simp only [chkE] at h
    split at h
    · simp only [Bool.and_eq_true] at h
      obtain ⟨⟨⟨⟨⟨⟨h1, h2⟩, h3⟩, h4⟩, h5⟩, h6⟩, h7⟩ := h
      have e := of_decide_eq_true h1
      subst e
      have e := of_decide_eq_true h2
      subst e
      obtain ⟨r1, g1, g2⟩ := cmp_rule c.hK c.room o1
      obtain ⟨r2, g3, g4⟩ := cmp_rule c.hK c.room o2
      exact ⟨simE_chn g1 g3 g2 g4 (snd a c h5).1 (snd b c h6).1 (snd d c h7).1 (notSet_last o1 o2 h4), simT_chn g1 g3 g2 g4 (snd a c h5).1 (snd b c h6).1 (snd d c h7).1 (notSet_last o1 o2 h4)⟩
    · cases h
  | .and a b, N, sc, X, Wx, p, c, h => by
    simp only [chkE] at h
    split at h
    · simp only [Bool.and_eq_true] at h
      obtain ⟨h1, h2⟩ := h
      have ia := snd a c h1
      split at h2
      · have ib := snd b c h2
        exact ⟨simE_and c.hK ia.1 (simE_one ib.1), (simW_and ia.2 (simW_one ib.2)).t⟩
      · have ib := snd b c h2
        exact ⟨simE_and c.hK ia.1 ib.1, (simW_and ia.2 ib.2.w).t⟩
    · cases h
  | .or a b, N, sc, X, Wx, p, c, h => by
    simp only [chkE] at h
    split at h
    · simp only [Bool.and_eq_true] at h
      obtain ⟨h1, h2⟩ := h
      have ia := snd a c h1
      split at h2
      · have ib := snd b c h2
        exact ⟨simE_or c.hK ia.1 (simE_one ib.1), (simW_or ia.2 (simW_one ib.2)).t⟩
      · have ib := snd b c h2
        exact ⟨simE_or c.hK ia.1 ib.1, (simW_or ia.2 ib.2.w).t⟩
    · cases h
  | .not a, N, sc, X, Wx, p, c, h => by
    simp only [chkE] at h
    split at h
    · have ia := snd a c h
      exact ⟨simE_not c.hK ia.1, simT_not ia.2⟩
    · cases h
  | .ife d a b, N, sc, X, Wx, p, c, h => by
    simp only [chkE] at h
    split at h
    · simp only [Bool.and_eq_true] at h
      obtain ⟨⟨h1, h2⟩, h3⟩ := h
      have id := snd d c h1
      have ia := snd a c h2
      have ib := snd b c h3
      exact ⟨simE_ife id.2 ia.1 ib.1, ite_T id.2 ia.2 ib.2⟩
    · cases h
  | .fld a f, N, sc, X, Wx, p, c, h => by
    simp only [chkE] at h
    split at h
    · simp only [Bool.and_eq_true] at h
      obtain ⟨⟨h1, h2⟩, h3⟩ := h
      have e1 := isN_at h1
      rw [← nth_eq] at e1
      exact .plain c.hK (simE_fld c.hK (snd a c h3).1 (c.att _ _ e1) (base_of (by unfold notCall at h2; exact h2))) rfl
    · cases h
  | .idx a b, N, sc, X, Wx, p, c, h => by
    simp only [chkE] at h
    split at h
    · simp only [Bool.and_eq_true] at h
      obtain ⟨⟨h1, h2⟩, h3⟩ := h
      exact .plain c.hK (simE_idx c.room c.hK (snd a c h2).1 (snd b c h3).1 (plainIx_of (by unfold notSlice at h1; exact h1))) rfl
    · cases h
  | .slL a b, N, sc, X, Wx, p, c, h => by
    simp only [chkE] at h
    split at h
    · simp only [Bool.and_eq_true] at h
      exact .plain c.hK (simE_slL c.hK (snd a c h.1).1 (snd b c h.2).1) rfl
    · cases h
  | .slH a b, N, sc, X, Wx, p, c, h => by
    simp only [chkE] at h
    split at h
    · simp only [Bool.and_eq_true] at h
      exact .plain c.hK (simE_slH c.hK (snd a c h.1).1 (snd b c h.2).1) rfl
    · cases h
  | .slB a b d, N, sc, X, Wx, p, c, h => by
    simp only [chkE] at h
    split at h
    · simp only [Bool.and_eq_true] at h
      exact .plain c.hK (simE_slB c.hK (snd a c h.1.1).1 (snd b c h.1.2).1 (snd d c h.2).1) rfl
    · cases h
  | .rev a, N, sc, X, Wx, p, c, h => by
    simp only [chkE] at h
    split at h
    · simp only [Bool.and_eq_true] at h
      obtain ⟨h1, h2⟩ := h
      have e := of_decide_eq_true h1
      subst e
      exact .plain c.hK (simE_rev c.hK (snd a c h2).1) rfl
    · cases h
  | .tup es, N, sc, X, Wx, p, c, h => by
    simp only [chkE] at h
    split at h
    · exact .plain c.hK (simE_tup (snds es c h).1) rfl
    · cases h
  | .lst _ es, N, sc, X, Wx, p, c, h => by
    simp only [chkE] at h
    split at h
    · exact .plain c.hK (simE_lst (snds es c h).1) rfl
    · cases h
  | .cal f es, N, sc, X, Wx, p, c, h => by
    simp only [chkE] at h
    split at h
    · simp only [Bool.and_eq_true] at h
      obtain ⟨⟨⟨h1, h2⟩, h3⟩, h4⟩ := h
      obtain ⟨fn, fa, fd, ps, g1, g2, g3, g4, g5⟩ := c.fns f _ (isNo_at h1)
      have is := snds es c h4
      rename_i x pp pl pos
      cases pl with
      | nil =>
        cases es with
        | nil => exact .plain c.hK (simE_cal0 c.tk g2 g1 c.room (c.gl h2) g3 g4 g5 (plainN_at h3).1) rfl
        | cons _ _ => simp [chkEs] at h4
      | cons q qs => exact .plain c.hK (simE_cal c.tk g2 g1 c.room (c.gl h2) g3 g4 g5 (plainN_at h3).1 is.1 is.2.1) rfl
    · cases h
  | .mth m a es, N, sc, X, Wx, p, c, h => by
    simp only [chkE] at h
    split at h
    · rename_i po x ap pl cp
      simp only [Bool.and_eq_true] at h
      obtain ⟨⟨⟨⟨⟨h1, h2⟩, h3⟩, h4⟩, h5⟩, h6⟩ := h
      have e1 := isN_at h1
      rw [← nth_eq] at e1
      have io := snd a c h5
      have is := snds es c h6
      have hb : attributeBase po x X.env (eval po X.env) = eval po X.env := base_of (by unfold notCall at h4; exact h4)
      cases pl with
      | nil =>
        cases es with
        | nil => exact .plain c.hK (simE_mth0 (C := orcN P n) rfl c.hK c.tk c.room c.mth (c.att _ _ e1) io.1 hb h2) rfl
        | cons _ _ => simp [chkEs] at h6
      | cons q qs => exact .plain c.hK (simE_mth (C := orcN P n) rfl c.hK c.tk c.room c.mth (c.att _ _ e1) io.1 is.1 hb is.2.1 (by have := of_decide_eq_true h3; rw [List.length_cons] at this; omega) h2) rfl
    · cases h
  | .lsS es b, N, sc, X, Wx, p, c, h => by
    simp only [chkE] at h
    split at h
    · split at h
      · rename_i l q e
        rw [Bool.and_eq_true] at h
        obtain ⟨sp, rfl⟩ := unStar_at e
        exact .plain c.hK (simE_lsS c.hK (each_Ap (snds es c h.1).2.2) (snd b c h.2).1) rfl
      · cases h
    · cases h
  | .mak d b es, N, sc, X, Wx, p, c, h => by
    simp only [chkE] at h
    split at h
    · rename_i x p1 ps kws pos
      simp only [Bool.and_eq_true] at h
      obtain ⟨⟨⟨⟨h1, h2⟩, h3⟩, h4⟩, h5⟩ := h
      have e1 := isN_at h1
      rw [← nth_eq] at e1
      exact .plain c.hK (mak_of c (c.gl h2) (c.cls _ _ e1) (plainN_at h3).1 h4 (snds es c h5).2.2) rfl
    · cases h
  | .clk b es, N, sc, X, Wx, p, c, h => by
    simp only [chkE] at h
    split at h
    · rename_i x p1 ps kws pos
      simp only [Bool.and_eq_true] at h
      obtain ⟨⟨⟨h2, h3⟩, h4⟩, h5⟩ := h
      exact .plain c.hK (clk_of c (c.gl h2) (plainN_at h3).1 h4 (snds es c h5).2.2) rfl
    · cases h
  | .bfn b es, N, sc, X, Wx, p, c, h => by
    simp only [chkE] at h
    split at h
    · simp only [Bool.and_eq_true] at h
      obtain ⟨⟨⟨h1, h2⟩, h3⟩, h4⟩ := h
      rw [strEq_eq] at h1
      have e := eq_of_beq h1
      subst e
      have is := snds es c h4
      exact .plain c.hK (bfn_rule c is.1 is.2.1 h2 (c.gl h3)) rfl
    · cases h
  | .bmt m a es, N, sc, X, Wx, p, c, h => by
    simp only [chkE] at h
    split at h
    · simp only [Bool.and_eq_true] at h
      obtain ⟨⟨⟨⟨⟨⟨h1, h2⟩, h3⟩, h4⟩, h5⟩, h6⟩, h7⟩ := h
      rw [strEq_eq] at h1
      have e := eq_of_beq h1
      subst e
      have io := snd a c h6
      have is := snds es c h7
      cases m with
      | extend => exact .plain c.hK (simE_bm PySem.F.plainAttrs_list PySem.F.slot_list_extend PySem.F.type_list_extend mt_extZ ms_extend (fun r h H w v rh rv z => recv_list c.hK rh rv z) io.1 is.1 (base_of (by unfold notCall at h5; exact h5)) is.2.1 (Nat.lt_succ_of_lt (of_decide_eq_true h4)) h3) rfl
      | get1 =>
        rename_i po ap pa ps cp
        have hz := Nat.eq_of_beq_eq_true h2
        match es, ps, is, hz with
        | [b], [], is, _ => exact .plain c.hK (simE_get1 c.room io.1 is.2.2.1 (base_of (by unfold notCall at h5; exact h5)) is.2.2.2.1 h3) rfl
        | [], [], is, _ => exact is.2.2.elim
        | _ :: _ :: _, [], is, _ => exact is.2.2.2.2.elim
      | get2 =>
        rename_i po ap pa ps cp
        have hz := Nat.eq_of_beq_eq_true h2
        match es, ps, is, hz with
        | [b, d], [q], is, _ =>
          refine .plain c.hK ?_ rfl
          have ee : ev P (orcN P n) (.bmt .get2 a [b, d]) = fun e h => (ev P (orcN P n) a e h).bind fun x h1 => if (dicOf h1 x).isSome then ((ev P (orcN P n) b e h1).bind fun y h2 => (ev P (orcN P n) d e h2).bind fun z h3 => .ok [y, z] h3).bind fun ws h2 => mGet2 x ws h2 else .bad := by
            have := evs2 (P := P) (orcN P n) b d
            funext e h
            simp only [ev, this]
            rfl
          rw [ee]
          exact simE_get2 c.room io.1 is.2.2.1 is.2.2.2.2.1 (base_of (by unfold notCall at h5; exact h5)) is.2.2.2.1 is.2.2.2.2.2.1 h3
        | [], [_], is, _ => exact is.2.2.elim
        | [_], [_], is, _ => exact is.2.2.2.2.elim
        | _ :: _ :: _ :: _, [_], is, _ => exact is.2.2.2.2.2.2.elim
      | index =>
        cases a with
        | glb g =>
          rename_i po ap pa ps cp
          have h6 := h6
          simp only [chkE] at h6
          split at h6
          · rename_i y _ _
            simp only [Bool.and_eq_true] at h6
            obtain ⟨⟨k1, k2⟩, k3⟩ := h6
            have e1 := isN_at k1
            rw [← nth_eq] at e1
            refine .plain c.hK ?_ rfl
            cases qg : nth P.glb g with
            | none => exact fun _ _ _ e h _ _ hq => (show False by simp only [ev, qg] at hq; exact hq).elim
            | some w =>
              obtain ⟨u, v, g1, g2, g3⟩ := c.gls g y w e1 qg
              cases w with
              | tup xs =>
                have ee : ev P (orcN P n) (.bmt .index (.glb g) es) = fun e h => (evs P (orcN P n) es e h).bind fun ws h2 => mIndex (.tup xs) ws h2 := by
                  funext e h
                  simp only [ev, qg]
                  rfl
                rw [ee]
                exact simE_bmG PySem.F.plainAttrs_tuple PySem.F.slot_tuple_index PySem.F.type_tuple_index mt_tup_index (ms_index c.hK) (c.gl k2) g1 (plainN_at k3).1 g2 g3 (tup_K c.hK g3) is.1 is.2.1 (by have := of_decide_eq_true h4; omega) h3
              | _ => exact fun _ _ _ e h _ _ hq => (show False by simp only [ev, qg, Out.some', Out.bind, recv] at hq; exact hq).elim
          · cases h6
        | _ => cases h2
      | append => exact .plain c.hK (simE_bm PySem.F.plainAttrs_list PySem.F.slot_list_append PySem.F.type_list_append mt_append ms_append (fun r h H w v rh rv z => recv_list c.hK rh rv z) io.1 is.1 (base_of (by unfold notCall at h5; exact h5)) is.2.1 (Nat.lt_succ_of_lt (of_decide_eq_true h4)) h3) rfl
      | _ => cases h2
    · cases h
  | .lco _ elt tg k it cs own, N, sc, X, Wx, p, c, h => by
    simp only [chkE] at h
    split at h
    · rename_i pe pt pi pf z scope pos
      simp only [Bool.and_eq_true] at h
      obtain ⟨⟨⟨⟨⟨⟨⟨h1, h2⟩, h3⟩, h4⟩, h5⟩, h6⟩, h7⟩, h8⟩ := h
      have e := of_decide_eq_true h1
      subst e
      obtain ⟨qs, hq, h3⟩ : ∃ qs, itArgs k sc pt pi = some qs ∧ chkEs M N it sc qs = true := by
        cases q : itArgs k sc pt pi with
        | none => rw [q] at h3; cases h3
        | some qs => rw [q] at h3; exact ⟨qs, rfl, h3⟩
      obtain ⟨g1, g2⟩ := itSnd c (tg := pt) hq (snds it c h3).2.2
      refine .plain c.hK (simE_lco c.hK c.calm (by rw [c.hN]; exact c.nd) g1 (by rw [c.hN, c.sc]; exact blkOk_by h2) (fun t H0 C cl fp => ?_) (fun t H0 C cl fp => ?_) (fun t H0 C cl fp => (snd elt (c.blk t H0 C cl fp) h8).1) (fun x => g2 _ x) (own_snd N own) (subB_at h5)) rfl
      · have cb := c.blk (scope := scope) t H0 C cl fp
        exact tg_pg cb.calm cb.hN cb.nd cb.sc (fun _ z => z) h4
      · have cb := c.blk (scope := scope) t H0 C cl fp
        cases cs with
        | nil =>
          cases pf with
          | nil => exact simTs_nil
          | cons _ _ => simp [chkEs] at h6
        | cons a cs =>
          cases cs with
          | nil =>
            cases pf with
            | nil => simp [chkEs] at h6
            | cons q qs =>
              cases qs with
              | nil =>
                have h6 : (chkE M N a (relS scope sc) q && true) = true := h6
                rw [Bool.and_true] at h6
                exact simTs_one (snd a cb h6).2
              | cons _ _ => simp [chkEs] at h6
          | cons _ _ => simp at h7; omega
    · cases h
  | .lc2 _ elt tg k it tg1 k1 it1 cs1 own own1, N, sc, X, Wx, p, c, h => by
    simp only [chkE] at h
    split at h
    · rename_i pe pt pi z pt1 pi1 pf z1 scope pos
      simp only [Bool.and_eq_true] at h
      obtain ⟨⟨⟨⟨⟨⟨⟨⟨⟨⟨⟨⟨h1, h1'⟩, h2⟩, h3⟩, h4⟩, h4'⟩, h5⟩, h5'⟩, h5''⟩, h3'⟩, h6⟩, h7⟩, h8⟩ := h
      have e := of_decide_eq_true h1
      subst e
      have e := of_decide_eq_true h1'
      subst e
      obtain ⟨qs, hq, h3⟩ : ∃ qs, itArgs k sc pt pi = some qs ∧ chkEs M N it sc qs = true := by
        cases q : itArgs k sc pt pi with
        | none => rw [q] at h3; cases h3
        | some qs => rw [q] at h3; exact ⟨qs, rfl, h3⟩
      obtain ⟨qs1, hq1, h3'⟩ : ∃ qs, itArgs k1 (relS scope sc) pt1 pi1 = some qs ∧ chkEs M N it1 (relS scope sc) qs = true := by
        cases q : itArgs k1 (relS scope sc) pt1 pi1 with
        | none => rw [q] at h3'; cases h3'
        | some qs => rw [q] at h3'; exact ⟨qs, rfl, h3'⟩
      obtain ⟨g1, g2⟩ := itSnd c (tg := pt) hq (snds it c h3).2.2
      refine .plain c.hK (simE_lco2 c.hK c.calm (by rw [c.hN]; exact c.nd) g1 (by rw [c.hN, c.sc]; exact blkOk_by h2) (fun t H0 C cl fp => ?_) (fun t H0 C cl fp => ?_) (fun t H0 C cl fp => ?_) (fun t H0 C cl fp => ?_) (fun t H0 C cl fp => (snd elt (c.blk t H0 C cl fp) h8).1) (fun x => g2 _ x)
        (itArgs_fold hq1) (own_snd N own) (subB_at h5'') (subB_at h5) (subB_at h5')) rfl
      · have cb := c.blk (scope := scope) t H0 C cl fp
        exact tg_pg cb.calm cb.hN cb.nd cb.sc (fun _ z => z) h4
      · have cb := c.blk (scope := scope) t H0 C cl fp
        exact tg_pg cb.calm cb.hN cb.nd cb.sc (fun _ z => z) h4'
      · have cb := c.blk (scope := scope) t H0 C cl fp
        exact (itSnd cb (tg := pt1) hq1 (snds it1 cb h3').2.2).1
      · have cb := c.blk (scope := scope) t H0 C cl fp
        cases cs1 with
        | nil =>
          cases pf with
          | nil => exact simTs_nil
          | cons _ _ => simp [chkEs] at h6
        | cons a cs =>
          cases cs with
          | nil =>
            cases pf with
            | nil => simp [chkEs] at h6
            | cons q qs =>
              cases qs with
              | nil =>
                have h6 : (chkE M N a (relS scope sc) q && true) = true := h6
                rw [Bool.and_true] at h6
                exact simTs_one (snd a cb h6).2
              | cons _ _ => simp [chkEs] at h6
          | cons _ _ => simp at h7; omega
    · cases h
  | .dct _ es, N, sc, X, Wx, p, c, h => by
    simp only [chkE] at h
    split at h
    · cases es with
      | nil => exact .plain c.hK simE_dct0 rfl
      | cons _ _ => cases h
    · rename_i keys values pos _
      cases q : flatD keys values with
      | none => rw [q] at h; cases h
      | some ps =>
        rw [q] at h
        simp only [Bool.and_eq_true] at h
        obtain ⟨⟨h1, h2⟩, h3⟩ := h
        refine .plain c.hK (simE_dct q (snds es c h3).2.2 (fun z => ?_) (of_decide_eq_true h2)) rfl
        subst z
        cases h1
    · cases h
  | .dco _ kk vv tg k it cs own, N, sc, X, Wx, p, c, h => by
    simp only [chkE] at h
    split at h
    · rename_i pk pv pt pi pf z scope pos
      simp only [Bool.and_eq_true] at h
      obtain ⟨⟨⟨⟨⟨⟨⟨⟨h1, h2⟩, h3⟩, h4⟩, h5⟩, h6⟩, h7⟩, h8⟩, h9⟩ := h
      have e := of_decide_eq_true h1
      subst e
      obtain ⟨qs, hq, h3⟩ : ∃ qs, itArgs k sc pt pi = some qs ∧ chkEs M N it sc qs = true := by
        cases q : itArgs k sc pt pi with
        | none => rw [q] at h3; cases h3
        | some qs => rw [q] at h3; exact ⟨qs, rfl, h3⟩
      obtain ⟨g1, g2⟩ := itSnd c (tg := pt) hq (snds it c h3).2.2
      refine .plain c.hK (simE_dco c.hK c.calm (by rw [c.hN]; exact c.nd) g1 (by rw [c.hN, c.sc]; exact blkOk_by h2) (fun t H0 C cl fp => ?_) (fun t H0 C cl fp => ?_) (fun t H0 C cl fp => (snd kk (c.blk t H0 C cl fp) h8).1) (fun t H0 C cl fp => (snd vv (c.blk t H0 C cl fp) h9).1) (fun x => g2 _ x) (own_snd N own) (subB_at h5)) rfl
      · have cb := c.blk (scope := scope) t H0 C cl fp
        exact tg_pg cb.calm cb.hN cb.nd cb.sc (fun _ z => z) h4
      · have cb := c.blk (scope := scope) t H0 C cl fp
        cases cs with
        | nil =>
          cases pf with
          | nil => exact simTs_nil
          | cons _ _ => simp [chkEs] at h6
        | cons a cs =>
          cases cs with
          | nil =>
            cases pf with
            | nil => simp [chkEs] at h6
            | cons q qs =>
              cases qs with
              | nil =>
                have h6 : (chkE M N a (relS scope sc) q && true) = true := h6
                rw [Bool.and_true] at h6
                exact simTs_one (snd a cb h6).2
              | cons _ _ => simp [chkEs] at h6
          | cons _ _ => simp at h7; omega
    · cases h
  | .frz i, N, sc, X, Wx, p, c, h => by
    simp only [chkE] at h
    split at h
    · rename_i x pos
      simp only [Bool.and_eq_true] at h
      obtain ⟨⟨h1, h2⟩, h3⟩ := h
      exact .plain c.hK (simE_frz (sim_var (by rw [c.hN]; exact isN_at h1) (by rw [c.sc]; exact visB_at h2) (plainN_at h3).1 (plainN_at h3).2)) rfl
    · cases h
  | .nev, N, sc, X, Wx, p, c, h => ⟨simE_nev, simT_nev⟩
theorem snds : ∀ (es : List Ex) {N : List Str} {sc : Scope} {X : Cx} {Wx : WX} {ps : List Expr}, Ctx P T M n N sc X Wx → chkEs M N es sc ps = true → SimA T X Wx ps (evs P (orcN P n) es) ∧ ps.all noStar = true ∧ EachE P T n X Wx es ps
  | [], N, sc, X, Wx, ps, c, h => by
    simp only [chkEs] at h
    split at h
    · exact ⟨simA_nil, rfl, trivial⟩
    · cases h
  | a :: r, N, sc, X, Wx, ps, c, h => by
    simp only [chkEs] at h
    split at h
    · simp only [Bool.and_eq_true] at h
      obtain ⟨h1, h2⟩ := h
      have ia := snd a c h1
      have ir := snds r c h2
      refine ⟨simA_cons ia.1 ir.1 (shape h1).1, ?_, ia.1, (shape h1).1, ir.2.2⟩
      rw [List.all_cons, (shape h1).1, ir.2.1]
      rfl
    · cases h
end
theorem tests_of {N : List Str} {sc : Scope} {X : Cx} {Wx : WX} {cs : List Ex} {pf : List Expr} (cb : Ctx P T M n N sc X Wx) (h6 : chkEs M N cs sc pf = true) (h7 : decide (cs.length < 2) = true) : SimTs T X Wx pf (evt P (orcN P n) cs) := by
  have h7 := of_decide_eq_true h7
  cases cs with
  | nil =>
    cases pf with
    | nil => exact simTs_nil
    | cons _ _ => simp [chkEs] at h6
  | cons a cs =>
    cases cs with
    | nil =>
      cases pf with
      | nil => simp [chkEs] at h6
      | cons q qs =>
        cases qs with
        | nil =>
          have h6 : (chkE M N a sc q && true) = true := h6
          rw [Bool.and_true] at h6
          exact simTs_one (snd a cb h6).2
        | cons _ _ => simp [chkEs] at h6
    | cons _ _ => simp at h7; omega
end
end Ev

namespace Ev
open PySem PySem.Spec PyProof.Rows L2
def notTup : Expr → Bool
  | .Tuple _ _ _ => false
  | _ => true
def isName : Expr → Bool
  | .Name _ _ => true
  | _ => false
/-- is the value of a comprehension stored from within? -/
def swB (sc scope : Scope) (y : Str) (py pos : Pos) : Bool := kindB sc y .local && (py.line == pos.line) && !(scope.names.any fun (n, k) => n == y && (k == .local || k == .cell))
/-- a, b = x, y: the names that are stored without a tuple -/
def swNames (sc : Scope) (ts vs : List Expr) : Option (Option (List Str)) :=
  if !(ts.length == 2 || ts.length == 3) || vs.length != ts.length then some none
  else if vs.any (fun | .Starred .. => true | _ => false) then some none
  else
    let line := (ts.head?.map (·.pos.line)).getD 0
    let names := ts.filterMap fun
      | .Name id pos => if sc.names.lookup id == some .local && pos.line == line then some id else none
      | _ => none
    if names.length != ts.length || names.eraseDups.length != names.length then some none
    else if vs.all (foldedForSure 8) then some none
    else if vs.all (constantsAlone 8) then none
    else some (some names)
def augOk : Operator → Bool
  | .Add => true
  | .Sub => true
  | .Mult => true
  | .FloorDiv => true
  | _ => false
def namesIs : List Expr → List Str → Bool
  | .Name x _ :: r, y :: s => strEq x y && namesIs r s
  | [], [] => true
  | _, _ => false
def locAll (sc : Scope) : List Str → Bool
  | [] => true
  | x :: r => kindB sc x .local && locAll sc r
def ndNat : List Nat → Bool
  | [] => true
  | i :: r => !(r.any (Nat.beq i)) && ndNat r
def isEr (M : Nms) (d : Nat) : Bool := match nth M.er d with
  | some (some _) => true
  | _ => false
/-- a clause: except C: return .. | except C as x: return .. -/
def chkH (M : Nms) (N : List Str) (sc : Scope) (q : Nat × Nat × Sx) (hd : ExceptHandler) : Bool := match hd with
  | .ExceptHandler (some (.Name x _)) on [.Return (some E) _] _ => isN M.cl q.1 x && kindB sc x .globalImplicit && plainN x && (match on with
    | none => chkX none q.2.2 E
    | some n => isN N q.2.1 n && kindB sc n .local && plainN n && (match nth M.er q.1 with
      | some (some f) => chkX (some (n, f)) q.2.2 E
      | _ => false))
  | _ => false
def chkHs (M : Nms) (N : List Str) (sc : Scope) : List (Nat × Nat × Sx) → List ExceptHandler → Bool
  | [], hs => (match hs with
    | [] => true
    | _ => false)
  | q :: qs, hs => (match hs with
    | hd :: hs => hasN M.eh q.1 && chkH M N sc q hd && chkHs M N sc qs hs
    | [] => false)
section
variable (M : Nms) (N : List Str)
def chkAsg (sc : Scope) (tg : Tg) (a : Ex) (pt p : Expr) (pos : Pos) : Bool := match p with
  | .ListComp _ _ scope pp => (match tg, pt with
    | .nm i, .Name y py => isN N i y && chkE M N a sc p && (swB sc scope y py pp || locB sc y)
    | _, _ => false)
  | .DictComp _ _ _ scope pp => (match tg, pt with
    | .nm i, .Name y py => isN N i y && chkE M N a sc p && (swB sc scope y py pp || locB sc y)
    | _, _ => false)
  | .Tuple ps _ _ => (match pt with
    | .Tuple ts _ _ => chkTg N sc (fun _ => true) tg pt && chkE M N a sc p && (match swNames sc ts ps with
      | some none => true
      | some (some ns) => namesIs ts ns && locAll sc ns && ndNat tg.slots && decide (ts.length = ps.length) && (ts.length == 2 || ts.length == 3)
      | none => false)
    | _ => chkTg N sc (fun _ => true) tg pt && chkE M N a sc p)
  | p => noComp p && chkTg N sc (fun _ => true) tg pt && chkE M N a sc p
def chkSb (sc : Scope) : List (Ex × Ex) → List Expr → Bool
  | [], [] => true
  | t :: r, .Subscript o i _ :: ps => notSlice i && chkE M N t.1 sc o && chkE M N t.2 sc i && chkSb sc r ps
  | _, _ => false
mutual
def chkS : Sm → Scope → Stmt → Bool
  | .exp a, sc, p => (match p with
    | .Expr q _ => noComp q && chkE M N a sc q
    | _ => false)
  | .asg tg a, sc, p => (match p with
    | .Assign [pt] q pos => chkAsg M N sc tg a pt q pos
    | _ => false)
  | .sbs ts a, sc, p => (match p with
    | .Assign [.Tuple es _ _] q _ => noComp q && chkE M N a sc q && chkSb M N sc ts es
    | _ => false)
  | .sfl a f v, sc, p => (match p with
    | .Assign [.Attribute pa x _] pv _ => isN M.at_ f x && noComp pv && chkE M N v sc pv && chkE M N a sc pa
    | _ => false)
  | .sub a i v, sc, p => (match p with
    | .Assign [.Subscript pa pi _] pv _ => noComp pv && notSlice pi && chkE M N v sc pv && chkE M N a sc pa && chkE M N i sc pi
    | _ => false)
  | .aug i op a, sc, p => (match p with
    | .AugAssign (.Name x _) op' q _ => decide (op = op') && augOk op && isN N i x && locB sc x && chkE M N a sc q
    | _ => false)
  | .ret a, sc, p => (match p with
    | .Return (some q) _ => chkE M N a sc q
    | _ => false)
  | .retN, _, p => (match p with
    | .Return none _ => true
    | _ => false)
  | .iff c a b, sc, p => (match p with
    | .If pc pa pb _ => chkE M N c sc pc && chkSs a sc pa && chkSs b sc pb
    | _ => false)
  | .whl c b, sc, p => (match p with
    | .While pc pb [] _ => chkE M N c sc pc && chkSs b sc pb
    | _ => false)
  | .for tg k it b, sc, p => (match p with
    | .For pt pi pb [] _ => chkTg N sc (fun _ => true) tg pt && (match itArgs k sc pt pi with
      | some qs => chkEs M N it sc qs
      | none => false) && chkSs b sc pb
    | _ => false)
  | .pas, _, p => (match p with
    | .Pass _ => true
    | _ => false)
  | .brk, _, p => (match p with
    | .Break _ => true
    | _ => false)
  | .cnt, _, p => (match p with
    | .Continue _ => true
    | _ => false)
  | .rai d a, sc, p => (match p with
    | .Raise (some (.Call (.Name x _) [q] [] _)) none _ => isN M.cl d x && isEr M d && kindB sc x .globalImplicit && plainN x && chkE M N a sc q
    | _ => false)
  | .tri b hs, sc, p => (match p with
    | .Try pb (h0 :: hr) [] [] _ => chkSs b sc pb && chkHs M N sc hs (h0 :: hr)
    | _ => false)
  | .nev, _, _ => true
def chkSs : List Sm → Scope → List Stmt → Bool
  | [], _, ps => (match ps with
    | [] => true
    | _ => false)
  | a :: r, sc, ps => (match ps with
    | p :: ps => chkS a sc p && chkSs r sc ps
    | [] => false)
end
end
structure CtxS (P : Pg) (T : TabX) (M : Nms) (n : Nat) (N : List Str) (sc : Scope) (X : Cx) (Wx : WX) : Prop extends Ctx P T M n N sc X Wx where
  own : PassesOwn (model X.prog X.w) X.A X.env X.xe
  fn : ∀ x, X.fn x = true
  kind : X.env.scope.kind = .function
  stk : X.stack = X.env :: X.outer
  frm : X.env.frame = some X.env.locals
  err : ∀ c x f, nth M.cl c = some x → nth M.er c = some (some f) → ErrP T X c x ∧ T.eA c = f
  exh : ExhP P T X.K
  eh : M.eh = P.exh
section
variable {P : Pg} {T : TabX} {M : Nms} {n : Nat} {N : List Str} {sc : Scope} {X : Cx} {Wx : WX}
theorem sw_eq {elt : Expr} {gs : List Comprehension} {scope : Scope} {pos py : Pos} {y : Str} {l : Nat} (c : CtxS P T M n N sc X Wx) : swapsWith (.ListComp elt gs scope pos) (some (.Name y py)) l X.env = pure (swB sc scope y py pos) := by
  have hb : X.env.blockKind = .function := by
    unfold PySem.Env.blockKind
    rw [c.kind]
    rfl
  have ky : (X.env.kindOf y == some NameKind.local) = kindB sc y .local := by
    show (X.env.scope.names.lookup y == some .local) = _
    rw [c.sc]
    unfold kindB
    cases sc.names.lookup y with
    | none => rfl
    | some k => cases k <;> rfl
  unfold swapsWith swB
  simp only [hb, ky, Expr.pos]
  rfl
theorem sw_eqD {ke ve : Expr} {gs : List Comprehension} {scope : Scope} {pos py : Pos} {y : Str} {l : Nat} (c : CtxS P T M n N sc X Wx) : swapsWith (.DictComp ke ve gs scope pos) (some (.Name y py)) l X.env = pure (swB sc scope y py pos) := by
  have hb : X.env.blockKind = .function := by
    unfold PySem.Env.blockKind
    rw [c.kind]
    rfl
  have ky : (X.env.kindOf y == some NameKind.local) = kindB sc y .local := by
    show (X.env.scope.names.lookup y == some .local) = _
    rw [c.sc]
    unfold kindB
    cases sc.names.lookup y with
    | none => rfl
    | some k => cases k <;> rfl
  unfold swapsWith swB
  simp only [hb, ky, Expr.pos]
  rfl
theorem ifs_eq {c1 c2 c3 c4 c5 : Bool} {ns : List Str} {o : Option (List Str)} {bad : Sem (Option (List Str))} (h : (if c1 = true then some none else if c2 = true then some none else if c3 = true then some none else if c4 = true then some none else if c5 = true then none else some (some ns)) = some o) :
    (if c1 = true then (pure none : Sem (Option (List Str))) else if c2 = true then pure none else if c3 = true then pure none else if c4 = true then pure none else if c5 = true then bad else pure (some ns)) = pure o := by
  cases c1 <;> cases c2 <;> cases c3 <;> cases c4 <;> cases c5 <;> simp at h ⊢ <;> first | (subst h; rfl) | (rw [← h]) | skip
theorem swN_eq {ts vs : List Expr} {kt k2 : Nat} {pt p2 : Pos} {o : Option (List Str)} (c : CtxS P T M n N sc X Wx) (h : swNames sc ts vs = some o) : swappedStores [.Tuple ts kt pt] (.Tuple vs k2 p2) X.env = pure o := by
  have hb : X.env.blockKind = .function := by
    unfold PySem.Env.blockKind
    rw [c.kind]
    rfl
  have hk : ∀ x, X.env.kindOf x = sc.names.lookup x := fun x => by
    show X.env.scope.names.lookup x = _
    rw [c.sc]
  unfold swappedStores
  unfold swNames at h
  simp only [hb, hk]
  rw [show (ScopeKind.function != ScopeKind.function) = false from rfl, Bool.or_false]
  exact ifs_eq h
theorem names_at : ∀ {ts : List Expr} {ns : List Str}, namesIs ts ns = true → ∃ ps : List Pos, ts = (ns.zip ps).map (fun q => Expr.Name q.1 q.2) ∧ ps.length = ns.length
  | [], [], _ => ⟨[], rfl, rfl⟩
  | [], _ :: _, h => by cases h
  | t :: ts, ns, h => by
    cases t with
    | Name x p =>
      cases ns with
      | nil => cases h
      | cons y s =>
        rw [show namesIs (.Name x p :: ts) (y :: s) = (strEq x y && namesIs ts s) from rfl, Bool.and_eq_true, strEq_eq] at h
        obtain ⟨ps, h1, h2⟩ := names_at h.2
        have e := eq_of_beq h.1
        subst e
        exact ⟨p :: ps, by rw [h1]; rfl, by rw [List.length_cons, List.length_cons, h2]⟩
    | _ => cases h
theorem loc_at : ∀ {ns : List Str}, locAll sc ns = true → ∀ x ∈ ns, sc.names.lookup x = some .local
  | [], _, _, h => by cases h
  | y :: r, h, x, hx => by
    rw [show locAll sc (y :: r) = (kindB sc y .local && locAll sc r) from rfl, Bool.and_eq_true] at h
    rcases List.mem_cons.mp hx with e | hx
    · rw [e]; exact kindB_at h.1
    · exact loc_at h.2 x hx
theorem asg_plain (c : CtxS P T M n N sc X Wx) {tg : Tg} {a : Ex} {pt p : Expr} {pos : Pos} (h1 : chkTg N sc (fun _ => true) tg pt = true) (h2 : chkE M N a sc p = true) (hs : swapsWithSole [pt] p pos.line X.env = pure false) (hw : swappedStores [pt] p X.env = pure none) :
    SimS T X Wx (.Assign [pt] p pos) (evS P (orcN P n) (.asg tg a)) := by
  refine simS_asg c.hK (snd a c.toCtx h2).1 (tg_pg c.calm c.hN c.nd c.sc (fun x _ => c.fn x) h1) hs hw ?_
  cases tg with
  | nm i => cases pt <;> first | rfl | cases h1
  | tp is => cases pt <;> first | rfl | cases h1
theorem sw_tup {pt : Expr} {ps : List Expr} {k : Nat} {pp : Pos} {env : PySem.Env} {N : List Str} {sc : Scope} {tg : Tg} (h1 : chkTg N sc (fun _ => true) tg pt = true) (h : notTup pt = true) : swappedStores [pt] (.Tuple ps k pp) env = pure none := by
  cases tg with
  | nm i => cases pt <;> first | rfl | cases h1
  | tp is => cases pt <;> first | cases h1 | cases h
theorem sw_other {pt p : Expr} {env : PySem.Env} (h : notTup p = true) : swappedStores [pt] p env = pure none := by
  cases p <;> first
    | (cases pt <;> rfl)
    | cases h
theorem lc_asg (c : CtxS P T M n N sc X Wx) {a : Ex} {i : Nat} {y : Str} {py pos spos : Pos} {pe : Expr} {gs : List Comprehension} {scope : Scope} (h1 : isN N i y = true) (h2 : chkE M N a sc (.ListComp pe gs scope pos) = true) (h3 : swB sc scope y py pos = true) :
    SimS T X Wx (.Assign [.Name y py] (.ListComp pe gs scope pos) spos) (evS P (orcN P n) (.asg (.nm i) a)) := by
  have hN : X.N.Nodup := by rw [c.hN]; exact c.nd
  have hy : X.N[i]? = some y := by rw [c.hN]; exact isN_at h1
  have hyl : X.env.scope.names.lookup y = some .local := by
    unfold swB at h3
    rw [Bool.and_eq_true, Bool.and_eq_true] at h3
    rw [c.sc]
    exact kindB_at h3.1.1
  have hsw := sw_eq (elt := pe) (gs := gs) (scope := scope) (pos := pos) (py := py) (y := y) (l := spos.line) c
  rw [h3] at hsw
  cases a with
  | nev => exact fun _ _ _ _ _ _ _ hq => hq.elim
  | lco mu elt tg k it cs own =>
    simp only [chkE] at h2
    split at h2
    · rename_i pe' pt pi pf z scope' pos' heq
      injection heq with e1 e2 e3 e4
      subst e1 e2 e3 e4
      simp only [Bool.and_eq_true] at h2
      obtain ⟨⟨⟨⟨⟨⟨⟨g1, g2⟩, g3⟩, g4⟩, g5⟩, g6⟩, g7⟩, g8⟩ := h2
      have e := of_decide_eq_true g1
      subst e
      obtain ⟨qs, hq, g3⟩ : ∃ qs, itArgs k sc pt pi = some qs ∧ chkEs M N it sc qs = true := by
        cases q : itArgs k sc pt pi with
        | none => rw [q] at g3; cases g3
        | some qs => rw [q] at g3; exact ⟨qs, rfl, g3⟩
      obtain ⟨k1, k2⟩ := itSnd c.toCtx (tg := pt) hq (snds it c.toCtx g3).2.2
      refine simS_setLc c.hK c.calm hN k1 (by rw [c.hN, c.sc]; exact blkOk_by g2) (fun t H0 C cl fp => ?_) (fun t H0 C cl fp => ?_) (fun t H0 C cl fp => (snd elt (c.toCtx.blk t H0 C cl fp) g8).1) (fun x => k2 _ x) (own_snd N own) (subB_at g5) hy hyl hsw
      · have cb := c.toCtx.blk (scope := scope) t H0 C cl fp
        exact tg_pg cb.calm cb.hN cb.nd cb.sc (fun _ z => z) g4
      · exact tests_of (c.toCtx.blk (scope := scope) t H0 C cl fp) g6 g7
    · cases h2
  | lc2 mu elt tg k it tg1 k1 it1 cs1 own own1 =>
    simp only [chkE] at h2
    split at h2
    · rename_i pe' pt pi z pt1 pi1 pf z1 scope' pos' heq
      injection heq with e1 e2 e3 e4
      subst e1 e2 e3 e4
      simp only [Bool.and_eq_true] at h2
      obtain ⟨⟨⟨⟨⟨⟨⟨⟨⟨⟨⟨⟨g1, g1'⟩, g2⟩, g3⟩, g4⟩, g4'⟩, g5⟩, g5'⟩, g5''⟩, g3'⟩, g6⟩, g7⟩, g8⟩ := h2
      have e := of_decide_eq_true g1
      subst e
      have e := of_decide_eq_true g1'
      subst e
      obtain ⟨qs, hq, g3⟩ : ∃ qs, itArgs k sc pt pi = some qs ∧ chkEs M N it sc qs = true := by
        cases q : itArgs k sc pt pi with
        | none => rw [q] at g3; cases g3
        | some qs => rw [q] at g3; exact ⟨qs, rfl, g3⟩
      obtain ⟨qs1, hq1, g3'⟩ : ∃ qs, itArgs k1 (relS scope sc) pt1 pi1 = some qs ∧ chkEs M N it1 (relS scope sc) qs = true := by
        cases q : itArgs k1 (relS scope sc) pt1 pi1 with
        | none => rw [q] at g3'; cases g3'
        | some qs => rw [q] at g3'; exact ⟨qs, rfl, g3'⟩
      obtain ⟨k1', k2'⟩ := itSnd c.toCtx (tg := pt) hq (snds it c.toCtx g3).2.2
      refine simS_setLc2 c.hK c.calm hN k1' (by rw [c.hN, c.sc]; exact blkOk_by g2) (fun t H0 C cl fp => ?_) (fun t H0 C cl fp => ?_) (fun t H0 C cl fp => ?_) (fun t H0 C cl fp => ?_) (fun t H0 C cl fp => (snd elt (c.toCtx.blk t H0 C cl fp) g8).1) (fun x => k2' _ x)
        (itArgs_fold hq1) (own_snd N own) (subB_at g5'') (subB_at g5) (subB_at g5') hy hyl hsw
      · have cb := c.toCtx.blk (scope := scope) t H0 C cl fp
        exact tg_pg cb.calm cb.hN cb.nd cb.sc (fun _ z => z) g4
      · have cb := c.toCtx.blk (scope := scope) t H0 C cl fp
        exact tg_pg cb.calm cb.hN cb.nd cb.sc (fun _ z => z) g4'
      · have cb := c.toCtx.blk (scope := scope) t H0 C cl fp
        exact (itSnd cb (tg := pt1) hq1 (snds it1 cb g3').2.2).1
      · exact tests_of (c.toCtx.blk (scope := scope) t H0 C cl fp) g6 g7
    · cases h2
  | _ => simp [chkE] at h2
theorem dc_asg (c : CtxS P T M n N sc X Wx) {a : Ex} {i : Nat} {y : Str} {py pos spos : Pos} {ke ve : Expr} {gs : List Comprehension} {scope : Scope} (h1 : isN N i y = true) (h2 : chkE M N a sc (.DictComp ke ve gs scope pos) = true) (h3 : swB sc scope y py pos = true) :
    SimS T X Wx (.Assign [.Name y py] (.DictComp ke ve gs scope pos) spos) (evS P (orcN P n) (.asg (.nm i) a)) := by
  have hN : X.N.Nodup := by rw [c.hN]; exact c.nd
  have hy : X.N[i]? = some y := by rw [c.hN]; exact isN_at h1
  have hyl : X.env.scope.names.lookup y = some .local := by
    unfold swB at h3
    rw [Bool.and_eq_true, Bool.and_eq_true] at h3
    rw [c.sc]
    exact kindB_at h3.1.1
  have hsw := sw_eqD (ke := ke) (ve := ve) (gs := gs) (scope := scope) (pos := pos) (py := py) (y := y) (l := spos.line) c
  rw [h3] at hsw
  cases a with
  | nev => exact fun _ _ _ _ _ _ _ hq => hq.elim
  | dco mu kk vv tg k it cs own =>
    simp only [chkE] at h2
    split at h2
    · rename_i pk pv pt pi pf z scope' pos' heq
      injection heq with e1 e2 e3 e4 e5
      subst e1 e2 e3 e4 e5
      simp only [Bool.and_eq_true] at h2
      obtain ⟨⟨⟨⟨⟨⟨⟨⟨g1, g2⟩, g3⟩, g4⟩, g5⟩, g6⟩, g7⟩, g8⟩, g9⟩ := h2
      have e := of_decide_eq_true g1
      subst e
      obtain ⟨qs, hq, g3⟩ : ∃ qs, itArgs k sc pt pi = some qs ∧ chkEs M N it sc qs = true := by
        cases q : itArgs k sc pt pi with
        | none => rw [q] at g3; cases g3
        | some qs => rw [q] at g3; exact ⟨qs, rfl, g3⟩
      obtain ⟨k1, k2⟩ := itSnd c.toCtx (tg := pt) hq (snds it c.toCtx g3).2.2
      refine simS_setDc c.hK c.calm hN k1 (by rw [c.hN, c.sc]; exact blkOk_by g2) (fun t H0 C cl fp => ?_) (fun t H0 C cl fp => ?_) (fun t H0 C cl fp => (snd kk (c.toCtx.blk t H0 C cl fp) g8).1) (fun t H0 C cl fp => (snd vv (c.toCtx.blk t H0 C cl fp) g9).1) (fun x => k2 _ x) (own_snd N own) (subB_at g5) hy hyl hsw
      · have cb := c.toCtx.blk (scope := scope) t H0 C cl fp
        exact tg_pg cb.calm cb.hN cb.nd cb.sc (fun _ z => z) g4
      · exact tests_of (c.toCtx.blk (scope := scope) t H0 C cl fp) g6 g7
    · cases h2
  | _ => simp [chkE] at h2
theorem nd_at {i : Nat} {r : List Nat} (h : ndNat (i :: r) = true) : i ∉ r ∧ ndNat r = true := by
  rw [show ndNat (i :: r) = (!(r.any (Nat.beq i)) && ndNat r) from rfl, Bool.and_eq_true, Bool.not_eq_true'] at h
  refine ⟨fun hi => ?_, h.2⟩
  have : r.any (Nat.beq i) = true := List.any_eq_true.mpr ⟨i, hi, Nat.beq_refl i⟩
  rw [this] at h
  cases h.1
theorem len2 {α : Type} {l : List α} (h : l.length = 2) : ∃ a b, l = [a, b] := by
  match l, h with
  | [a, b], _ => exact ⟨a, b, rfl⟩
theorem len3 {α : Type} {l : List α} (h : l.length = 3) : ∃ a b c, l = [a, b, c] := by
  match l, h with
  | [a, b, c], _ => exact ⟨a, b, c, rfl⟩
theorem names_len {fnB : Str → Bool} : ∀ {is : List Nat} {ts : List Expr}, chkNames N sc fnB is ts = true → is.length = ts.length
  | [], [], _ => rfl
  | [], _ :: _, h => by cases h
  | _ :: _, [], h => by cases h
  | i :: is, t :: ts, h => by
    cases t with
    | Name x p =>
      simp only [chkNames, Bool.and_eq_true] at h
      rw [List.length_cons, List.length_cons, names_len h.2]
    | _ => cases h
theorem tup_asg (c : CtxS P T M n N sc X Wx) {tg : Tg} {a : Ex} {ts ps : List Expr} {kt k2 : Nat} {pt p2 pos : Pos} {ns : List Str} (h1 : chkTg N sc (fun _ => true) tg (.Tuple ts kt pt) = true) (h2 : chkE M N a sc (.Tuple ps k2 p2) = true) (h3 : swNames sc ts ps = some (some ns)) (h4 : namesIs ts ns = true) (h5 : locAll sc ns = true)
    (h6 : ndNat tg.slots = true) (h7 : ts.length = ps.length) (h8 : (ts.length == 2 || ts.length == 3) = true) : SimS T X Wx (.Assign [.Tuple ts kt pt] (.Tuple ps k2 p2) pos) (evS P (orcN P n) (.asg tg a)) := by
  have hN : X.N.Nodup := by rw [c.hN]; exact c.nd
  have hw := swN_eq (kt := kt) (pt := pt) (k2 := k2) (p2 := p2) c h3
  have hl := loc_at h5
  rw [← c.sc] at hl
  cases tg with
  | nm i => cases h1
  | tp is =>
    cases a with
    | nev => exact fun _ _ _ _ _ _ _ hq => hq.elim
    | tup es =>
      have g2 : chkEs M N es sc ps = true := h2
      have g1 : chkNames N sc (fun _ => true) is ts = true := h1
      have is' := (snds es c.toCtx g2).1
      obtain ⟨qs, e1, e2⟩ := names_at h4
      have li := names_len g1
      have ln : ns.length = ts.length := by
        rw [e1, List.length_map, List.length_zip, e2, Nat.min_self]
      rw [Bool.or_eq_true, beq_iff_eq, beq_iff_eq] at h8
      rcases h8 with h8 | h8
      · obtain ⟨i, j, rfl⟩ := len2 (li.trans h8)
        obtain ⟨x, y, rfl⟩ := len2 (ln.trans h8)
        obtain ⟨px, py, rfl⟩ := len2 (e2.trans rfl)
        obtain ⟨a, b, rfl⟩ := len2 (h7.symm.trans h8)
        subst e1
        simp only [List.zip_cons_cons, List.zip_nil_right, List.map_cons, List.map_nil, chkNames, Bool.and_eq_true] at g1
        have n1 := nd_at h6
        exact simS_par c.calm hN (by rw [c.hN]; exact isN_at g1.1.1.1) (by rw [c.hN]; exact isN_at g1.2.1.1.1) (fun z => n1.1 (by rw [z]; exact List.mem_cons_self)) (hl x List.mem_cons_self) (hl y (List.mem_cons_of_mem _ List.mem_cons_self)) is' hw
      · obtain ⟨i, j, l, rfl⟩ := len3 (li.trans h8)
        obtain ⟨x, y, z, rfl⟩ := len3 (ln.trans h8)
        obtain ⟨px, py, pz, rfl⟩ := len3 (e2.trans rfl)
        obtain ⟨a, b, d, rfl⟩ := len3 (h7.symm.trans h8)
        subst e1
        simp only [List.zip_cons_cons, List.zip_nil_right, List.map_cons, List.map_nil, chkNames, Bool.and_eq_true] at g1
        have n1 := nd_at h6
        have n2 := nd_at n1.2
        exact simS_par3 c.calm hN (by rw [c.hN]; exact isN_at g1.1.1.1) (by rw [c.hN]; exact isN_at g1.2.1.1.1) (by rw [c.hN]; exact isN_at g1.2.2.1.1.1) (fun z => n1.1 (by rw [z]; exact List.mem_cons_self)) (fun z => n1.1 (by rw [z]; exact List.mem_cons_of_mem _ List.mem_cons_self)) (fun z => n2.1 (by rw [z]; exact List.mem_cons_self))
          (hl x List.mem_cons_self) (hl y (List.mem_cons_of_mem _ List.mem_cons_self)) (hl z (List.mem_cons_of_mem _ (List.mem_cons_of_mem _ List.mem_cons_self))) is' hw
    | _ => simp [chkE] at h2
theorem asg_of (c : CtxS P T M n N sc X Wx) {tg : Tg} {a : Ex} {pt p : Expr} {pos : Pos} (h : chkAsg M N sc tg a pt p pos = true) : SimS T X Wx (.Assign [pt] p pos) (evS P (orcN P n) (.asg tg a)) := by
  unfold chkAsg at h
  split at h
  · rename_i pe gs scope pp
    split at h
    · rename_i i y py
      rw [Bool.and_eq_true, Bool.and_eq_true] at h
      obtain ⟨⟨h1, h2⟩, h3⟩ := h
      cases q : swB sc scope y py pp with
      | true => exact lc_asg c h1 h2 q
      | false =>
        rw [q, Bool.false_or] at h3
        have e := sw_eq (elt := pe) (gs := gs) (scope := scope) (pos := pp) (py := py) (y := y) (l := pos.line) c
        rw [q] at e
        refine asg_plain c (tg := .nm i) ?_ h2 (by unfold swapsWithSole; exact e) (sw_other rfl)
        show (isN N i y && locB sc y && (true || kindB sc y .local)) = true
        rw [h1, h3]
        rfl
    · cases h
  · rename_i ke ve gs scope pp
    split at h
    · rename_i i y py
      rw [Bool.and_eq_true, Bool.and_eq_true] at h
      obtain ⟨⟨h1, h2⟩, h3⟩ := h
      cases q : swB sc scope y py pp with
      | true => exact dc_asg c h1 h2 q
      | false =>
        rw [q, Bool.false_or] at h3
        have e := sw_eqD (ke := ke) (ve := ve) (gs := gs) (scope := scope) (pos := pp) (py := py) (y := y) (l := pos.line) c
        rw [q] at e
        refine asg_plain c (tg := .nm i) ?_ h2 (by unfold swapsWithSole; exact e) (sw_other rfl)
        show (isN N i y && locB sc y && (true || kindB sc y .local)) = true
        rw [h1, h3]
        rfl
    · cases h
  · rename_i ps k p2
    split at h
    · rename_i ts kt p1
      rw [Bool.and_eq_true, Bool.and_eq_true] at h
      obtain ⟨⟨h1, h2⟩, h3⟩ := h
      split at h3
      · rename_i q
        exact asg_plain c h1 h2 (sole_no rfl) (swN_eq c q)
      · rename_i ns q
        simp only [Bool.and_eq_true] at h3
        obtain ⟨⟨⟨⟨g1, g2⟩, g3⟩, g4⟩, g5⟩ := h3
        exact tup_asg c h1 h2 q g1 g2 g3 (of_decide_eq_true g4) g5
      · cases h3
    · rename_i hn
      rw [Bool.and_eq_true] at h
      refine asg_plain c h.1 h.2 (sole_no rfl) (sw_tup h.1 ?_)
      cases pt <;> first | rfl | exact absurd rfl (hn _ _ _)
  · rename_i h1 h0 h2
    rw [Bool.and_eq_true, Bool.and_eq_true] at h
    refine asg_plain c h.1.2 h.2 (sole_no h.1.1) (sw_other ?_)
    cases p <;> first | rfl | exact absurd rfl (h2 _ _ _)
theorem aug_rule {X : Cx} {op : Operator} (h : augOk op = true) : ∃ rr, OpR X (inplaceOp op) rr ∧ AuSim T X op rr := by
  cases op with
  | Add => exact ⟨_, iop_add, au_add⟩
  | Sub => exact ⟨_, iop_sub, au_sub⟩
  | Mult => exact ⟨_, iop_mul, au_mul⟩
  | FloorDiv => exact ⟨_, iop_fdiv, au_fdv⟩
  | _ => cases h
theorem isEr_at {d : Nat} (h : isEr M d = true) : ∃ f, nth M.er d = some (some f) := by
  unfold isEr at h
  split at h
  · rename_i f e
    exact ⟨f, e⟩
  · cases h
theorem hd_of (c : CtxS P T M n N sc X Wx) {q : Nat × Nat × Sx} {hd : ExceptHandler} (h : chkH M N sc q hd = true) : HdOk T X q hd := by
  unfold chkH at h
  unfold HdOk
  split at h
  · rename_i x np on E rp hp
    simp only [Bool.and_eq_true] at h
    obtain ⟨⟨⟨h1, h2⟩, h3⟩, h4⟩ := h
    have e1 := isN_at h1
    rw [← nth_eq] at e1
    refine ⟨⟨c.toCtx.gl h2, (plainN_at h3).1, .inl (c.cls _ _ e1)⟩, ?_⟩
    cases on with
    | none => exact h4
    | some n =>
      simp only [Bool.and_eq_true] at h4
      obtain ⟨⟨⟨g1, g2⟩, g3⟩, g4⟩ := h4
      split at g4
      · rename_i f ef
        obtain ⟨E', ee⟩ := c.err _ _ f e1 ef
        refine ⟨by rw [c.hN]; exact isN_at g1, ?_, (plainN_at g3).1, (plainN_at g3).2, by rw [ee]; exact g4, x, E'⟩
        show X.env.scope.names.lookup n = _
        rw [c.sc]
        exact kindB_at g2
      · cases g4
  · cases h
theorem hds_of (c : CtxS P T M n N sc X Wx) : ∀ {qs : List (Nat × Nat × Sx)} {hs : List ExceptHandler}, chkHs M N sc qs hs = true → HdsOkE T X qs hs
  | [], [], _ => .nil
  | [], _ :: _, h => by cases h
  | _ :: _, [], h => by cases h
  | q :: qs, hd :: hs, h => by
    have h : (hasN M.eh q.1 && chkH M N sc q hd && chkHs M N sc qs hs) = true := h
    rw [Bool.and_eq_true, Bool.and_eq_true] at h
    exact .cons (hd_of c h.1.2) (hds_of c h.2)
theorem ehs_of (c : CtxS P T M n N sc X Wx) : ∀ {qs : List (Nat × Nat × Sx)} {hs : List ExceptHandler}, chkHs M N sc qs hs = true → ∀ q ∈ qs, hasN P.exh q.1 = true
  | [], _, _, _, hq => by cases hq
  | _ :: _, [], h, _, _ => by cases h
  | q :: qs, hd :: hs, h, p, hp => by
    have h : (hasN M.eh q.1 && chkH M N sc q hd && chkHs M N sc qs hs) = true := h
    rw [Bool.and_eq_true, Bool.and_eq_true] at h
    rcases List.mem_cons.mp hp with e | hp
    · rw [e, ← c.eh]; exact h.1.1
    · exact ehs_of c h.2 p hp
theorem CtxS.tr {W : WX} {pn : List (Addr × Obj)} {xe : Value → Shared → Prop} (c : CtxS P T M n N sc X Wx) (tk : Takes (X.tr pn xe) W) (po : PassesOwn (model X.prog X.w) X.A X.env xe) : CtxS P T M n N sc (X.tr pn xe) W where
  hK := c.hK
  hN := c.hN
  nd := c.nd
  sc := c.sc
  calm := c.calm
  room := c.room
  tk := tk
  blt := c.blt
  gls := c.gls
  fns := c.fns
  kit := c.kit
  att := c.att
  cls := c.cls
  fld := c.fld
  mth := c.mth
  mks := fun k hk c' cl b kb m ks h1 h2 h3 h4 => by
    obtain ⟨g1, g2, fa, g3, g4⟩ := c.mks k hk c' cl b kb m ks h1 h2 h3 h4
    exact ⟨g1, g2, fa, g3, g4.ex, g4.len⟩
  clk := fun b kb x m ks h1 h2 => by
    obtain ⟨g1, fa, g2, g3⟩ := c.clk b kb x m ks h1 h2
    exact ⟨g1, fa, ⟨g2.ex, g2.len⟩, g3⟩
  own := po
  fn := c.fn
  kind := c.kind
  stk := c.stk
  frm := c.frm
  err := fun d x f h1 h2 => by
    obtain ⟨E, e⟩ := c.err d x f h1 h2
    exact ⟨⟨E.mg, E.ex, E.xf, E.no⟩, e⟩
  exh := c.exh
  eh := c.eh
mutual
theorem sbs_of {X : Cx} {Wx : WX} (c : CtxS P T M n N sc X Wx) : ∀ {qs : List (Ex × Ex)} {ts : List Expr}, chkSb M N sc qs ts = true → SubOk X ts ∧ EachS P (orcN P n) T X Wx qs ts
  | [], [], _ => ⟨(fun _ h => nomatch h), trivial⟩
  | [], _ :: _, h => by simp [chkSb] at h
  | _ :: _, [], h => by simp [chkSb] at h
  | t :: qs, p :: ts, h => by
    cases p with
    | Subscript o i tp =>
      simp only [chkSb, Bool.and_eq_true] at h
      obtain ⟨⟨⟨h1, h2⟩, h3⟩, h4⟩ := h
      obtain ⟨g1, g2⟩ := sbs_of c h4
      refine ⟨fun q hq => ?_, (snd t.1 c.toCtx h2).1, (snd t.2 c.toCtx h3).1, g2⟩
      rcases List.mem_cons.mp hq with rfl | hq
      · refine ⟨o, i, tp, rfl, fun v => ?_⟩
        cases i <;> first | rfl | cases h1
      · exact g1 q hq
    | _ => simp [chkSb] at h
theorem sw_subs {X : Cx} {ts : List Expr} {k : Nat} {p : Pos} {a : Expr} (h : SubOk X ts) : swappedStores [.Tuple ts k p] a X.env = pure none := by
  have hf : ∀ (f : Expr → Option Str), (∀ o i tp, f (.Subscript o i tp) = none) → ts.filterMap f = [] := by
    intro f hf
    rw [List.filterMap_eq_nil_iff]
    intro q hq
    obtain ⟨o, i, tp, rfl, _⟩ := h q hq
    exact hf o i tp
  cases a with
  | Tuple vs k2 p2 =>
    unfold swappedStores
    simp only
    split
    · rfl
    · rename_i z
      split
      · rfl
      · rw [hf _ (fun _ _ _ => rfl)]
        rw [if_pos (by cases ts with
          | nil => simp at z
          | cons q ts => simp)]
  | _ => rfl
theorem sndS {X : Cx} {Wx : WX} : ∀ (a : Sm) {p : Stmt}, CtxS P T M n N sc X Wx → chkS M N a sc p = true → SimS T X Wx p (evS P (orcN P n) a)
  | .exp a, p, c, h => by
    simp only [chkS] at h
    split at h
    · rw [Bool.and_eq_true] at h
      exact simS_exp (snd a c.toCtx h.2).1 h.1
    · cases h
  | .asg tg a, p, c, h => by
    simp only [chkS] at h
    split at h
    · exact asg_of c h
    · cases h
  | .sbs ts a, p, c, h => by
    simp only [chkS] at h
    split at h
    · simp only [Bool.and_eq_true] at h
      obtain ⟨⟨h1, h2⟩, h3⟩ := h
      obtain ⟨g1, g2⟩ := sbs_of c h3
      exact simS_sbs c.hK c.calm c.room g1 g2 (snd a c.toCtx h2).1 h1 (sw_subs g1)
    · cases h
  | .sfl a f v, p, c, h => by
    simp only [chkS] at h
    split at h
    · simp only [Bool.and_eq_true] at h
      obtain ⟨⟨⟨h1, h2⟩, h3⟩, h4⟩ := h
      have e1 := isN_at h1
      rw [← nth_eq] at e1
      exact simS_sfl c.hK (c.att _ _ e1) (fun d cl g1 g2 => c.fld d cl f g1 g2) (snd a c.toCtx h4).1 (snd v c.toCtx h3).1 h2
    · cases h
  | .sub a i v, p, c, h => by
    simp only [chkS] at h
    split at h
    · simp only [Bool.and_eq_true] at h
      obtain ⟨⟨⟨⟨h1, h2⟩, h3⟩, h4⟩, h5⟩ := h
      refine simS_sub c.room (snd a c.toCtx h4).1 (snd i c.toCtx h5).1 (snd v c.toCtx h3).1 h1 (fun z => ?_) rfl
      rename_i pi _ _ _
      cases pi <;> first | rfl | cases h2
    · cases h
  | .aug i op a, p, c, h => by
    simp only [chkS] at h
    split at h
    · simp only [Bool.and_eq_true] at h
      obtain ⟨⟨⟨⟨h1, h2⟩, h3⟩, h4⟩, h5⟩ := h
      have e := of_decide_eq_true h1
      subst e
      obtain ⟨rr, g1, g2⟩ := aug_rule (T := T) (X := X) h2
      exact simS_aug (by rw [c.hN]; exact c.nd) (by rw [c.hN]; exact isN_at h3) (by rw [c.sc]; exact locB_at h4) (.inl (c.fn _)) (snd a c.toCtx h5).1 g1 g2
    · cases h
  | .ret a, p, c, h => by
    simp only [chkS] at h
    split at h
    · exact simS_ret (snd a c.toCtx h).1
    · cases h
  | .retN, p, c, h => by
    simp only [chkS] at h
    split at h
    · exact simS_retN
    · cases h
  | .iff d a b, p, c, h => by
    simp only [chkS] at h
    split at h
    · simp only [Bool.and_eq_true] at h
      exact simS_iff (snd d c.toCtx h.1.1).2 (sndSs a c h.1.2) (sndSs b c h.2)
    · cases h
  | .whl d b, p, c, h => by
    simp only [chkS] at h
    split at h
    · simp only [Bool.and_eq_true] at h
      exact simS_whl c.own (snd d c.toCtx h.1).2 (sndSs b c h.2)
    · cases h
  | .for tg k it b, p, c, h => by
    simp only [chkS] at h
    split at h
    · rename_i pt pi pb pos
      simp only [Bool.and_eq_true] at h
      obtain ⟨⟨h1, h2⟩, h3⟩ := h
      obtain ⟨qs, hq, h2⟩ : ∃ qs, itArgs k sc pt pi = some qs ∧ chkEs M N it sc qs = true := by
        cases q : itArgs k sc pt pi with
        | none => rw [q] at h2; cases h2
        | some qs => rw [q] at h2; exact ⟨qs, rfl, h2⟩
      obtain ⟨k1, k2⟩ := itSnd c.toCtx (tg := pt) hq (snds it c.toCtx h2).2.2
      exact simS_for c.hK c.own c.calm k1 (tg_pg c.calm c.hN c.nd c.sc (fun x _ => c.fn x) h1) (sndSs b c h3) (fun x => k2 _ x)
    · cases h
  | .pas, p, c, h => by
    simp only [chkS] at h
    split at h
    · exact simS_pas
    · cases h
  | .brk, p, c, h => by
    simp only [chkS] at h
    split at h
    · exact simS_brk
    · cases h
  | .cnt, p, c, h => by
    simp only [chkS] at h
    split at h
    · exact simS_cnt
    · cases h
  | .rai d a, p, c, h => by
    simp only [chkS] at h
    split at h
    · simp only [Bool.and_eq_true] at h
      obtain ⟨⟨⟨⟨h1, h2⟩, h3⟩, h4⟩, h5⟩ := h
      have e1 := isN_at h1
      rw [← nth_eq] at e1
      obtain ⟨f, hf⟩ := isEr_at h2
      obtain ⟨E, _⟩ := c.err _ _ f e1 hf
      cases qo : (orcN P n).ok with
      | false => exact fun _ _ _ _ _ _ _ hq => (show False by simp only [evS, qo] at hq; exact hq).elim
      | true =>
        have ee : evS P (orcN P n) (.rai d a) = fun e h => (ev P (orcN P n) a e h).stm e fun w h1 => .exc d w e h1 := by
          funext e h
          simp only [evS, qo, if_true]
        rw [ee]
        exact simS_rai c.calm c.tk (c.room.mono (Nat.le_of_ble_eq_true qo)) E (c.toCtx.gl h3) (plainN_at h4).1 (snd a c.toCtx h5).1 (shape h5).1
    · cases h
  | .tri b hs, p, c, h => by
    simp only [chkS] at h
    split at h
    · rename_i pb h0 hr pos
      rw [Bool.and_eq_true] at h
      refine simS_tri c.stk c.frm (by rw [c.hN]; exact c.nd) c.tk c.exh (fun W pn xe tk po => sndSs b (c.tr tk po) h.1) (hds_of c h.2) (ehs_of c h.2)
    · cases h
  | .nev, p, c, h => fun _ _ _ _ _ _ _ hq => hq.elim
theorem sndSs {X : Cx} {Wx : WX} : ∀ (as : List Sm) {ps : List Stmt}, CtxS P T M n N sc X Wx → chkSs M N as sc ps = true → SimSs T X Wx ps (evSs P (orcN P n) as)
  | [], ps, c, h => by
    simp only [chkSs] at h
    split at h
    · exact simSs_nil
    · cases h
  | a :: r, ps, c, h => by
    simp only [chkSs] at h
    split at h
    · rw [Bool.and_eq_true] at h
      exact simSs_cons (sndS a c h.1) (sndSs r c h.2)
    · cases h
end
end
end Ev

namespace Ev
open PySem PySem.Spec PyProof.Rows L2
/-- a def as data: where it stands and what it is; its names, the parameters first; its defaults, those of the parameters by name alone -/
structure FD where
  d : He.DefD
  N : List Str
  ps : List Str
  dd : List W
  kd : List (Str × W)
/-- the built-in error classes -/
inductive Ebk where
  | v | o | r
def Ebk.eb : Ebk → PySem.EvX.EB
  | .v => PySem.EvX.ebV
  | .o => PySem.EvX.ebO
  | .r => PySem.EvX.ebR
/-- an error's __init__ as data: whose, the def, the built-in class, the name in the text, the parameters, the attribute -/
structure ED where
  d : He.DefD
  bk : Ebk
  bx : Str
  sf : Str
  p : Str
  f : Str
def ndStr : List Str → Bool
  | [] => true
  | x :: r => !(r.any (strEq x)) && ndStr r
theorem ndStr_at : ∀ {l : List Str}, ndStr l = true → l.Nodup
  | [], _ => List.nodup_nil
  | x :: r, h => by
    rw [show ndStr (x :: r) = (!(r.any (strEq x)) && ndStr r) from rfl, Bool.and_eq_true, Bool.not_eq_true'] at h
    refine List.nodup_cons.mpr ⟨fun hx => ?_, ndStr_at h.2⟩
    have : r.any (strEq x) = true := List.any_eq_true.mpr ⟨x, hx, by rw [strEq_eq]; exact beq_self_eq_true x⟩
    rw [this] at h
    cases h.1
def eqStrs : List Str → List Str → Bool
  | [], [] => true
  | x :: r, y :: s => strEq x y && eqStrs r s
  | _, _ => false
theorem eqStrs_at : ∀ {a b : List Str}, eqStrs a b = true → a = b
  | [], [], _ => rfl
  | [], _ :: _, h => by cases h
  | _ :: _, [], h => by cases h
  | x :: r, y :: s, h => by
    rw [show eqStrs (x :: r) (y :: s) = (strEq x y && eqStrs r s) from rfl, Bool.and_eq_true, strEq_eq] at h
    rw [eq_of_beq h.1, eqStrs_at h.2]
def isFun : ScopeKind → Bool
  | .function => true
  | _ => false
def scB (N ps : List Str) (sc : Scope) : Bool := isFun sc.kind && !sc.isCoroutine && !sc.isGenerator && ndStr N && eqStrs (N.take ps.length) ps && ps.all (locB sc) && sc.names.all fun y => !decide (y.2 = .free)
theorem scB_at {N ps : List Str} {sc : Scope} (h : scB N ps sc = true) : FnScope N ps sc := by
  unfold scB at h
  simp only [Bool.and_eq_true, Bool.not_eq_true'] at h
  obtain ⟨⟨⟨⟨⟨⟨h1, h2⟩, h3⟩, h4⟩, h5⟩, h6⟩, h7⟩ := h
  refine ⟨?_, h2, h3, ndStr_at h4, eqStrs_at h5, fun x hx => locB_at (List.all_eq_true.mp h6 x hx), fun y hy e => ?_⟩
  · cases q : sc.kind <;> rw [q] at h1 <;> first | rfl | cases h1
  · have := List.all_eq_true.mp h7 y hy
    rw [e] at this
    cases this
/-- the arguments are bound as written -/
def BindN (d : He.DefD) (ps : List Str) : Prop := ∀ (kV doc pm : Value) (an : Option Addr) (cdv ct : Value) (us : List Value), us.length = ps.length → bindArgs (PySem.W.fnOf d.name d.qual d.params d.body d.scope .none kV doc pm an cdv ct) ⟨us, []⟩ = pure (ps.zip us)
/-- an argument, a default -/
def putS (df : Nat → Value) (l : List Value) (src : List (Sum Nat Nat)) : List Value := src.map fun q => match q with
  | .inl i => l.getD i .none
  | .inr j => df j
def putV (df : Nat → V) (l : List V) (src : List (Sum Nat Nat)) : List V := src.map fun q => match q with
  | .inl i => l.getD i .non
  | .inr j => df j
def fillS (ds : List W) : List (Sum Nat Nat) → Option (List (Sum Nat W))
  | [] => some []
  | .inl i :: r => (match fillS ds r with
    | some l => some (.inl i :: l)
    | none => none)
  | .inr j :: r => (match nth ds j, fillS ds r with
    | some w, some l => some (.inr w :: l)
    | _, _ => none)
/-- behind self -/
def selfS (src : List (Sum Nat Nat)) : List (Sum Nat Nat) := .inl 0 :: src.map fun q => match q with
  | .inl i => .inl (i + 1)
  | .inr j => .inr j
/-- the defaults that are looked up by name -/
def looked (kd : List (Str × W)) (df : Nat → Value) : List (Sum Nat Nat) → List (Str × Value)
  | [] => []
  | .inl _ :: r => looked kd df r
  | .inr j :: r => (match nth kd j with
    | some q => (q.1, df j) :: looked kd df r
    | none => looked kd df r)
def BindT (F : FD) (n : Nat) (ks : List Str) (src : List (Sum Nat Nat)) : Prop := match F.dd, F.kd with
  | [], [] => ∀ (kV doc pm : Value) (an : Option Addr) (cdv ct : Value) (us ws : List Value), us.length = n → ws.length = ks.length →
      bindArgs (PySem.W.fnOf F.d.name F.d.qual F.d.params F.d.body F.d.scope .none kV doc pm an cdv ct) ⟨us, ks.zip ws⟩ = pure (F.ps.zip (putS (fun _ => .none) (us ++ ws) src))
  | [], _ :: _ => ∀ (D : Addr) (doc pm : Value) (an : Option Addr) (cdv ct : Value) (df : Nat → Value) (us ws : List Value), us.length = n → ws.length = ks.length →
      KwChain D (looked F.kd df src) (bindArgs (PySem.W.fnOf F.d.name F.d.qual F.d.params F.d.body F.d.scope .none (.ref D) doc pm an cdv ct) ⟨us, ks.zip ws⟩) (F.ps.zip (putS df (us ++ ws) src))
  | _ :: _, [] => ∀ (D : Addr) (kV doc pm : Value) (an : Option Addr) (cdv ct : Value) (its us ws : List Value), its.length = F.dd.length → us.length = n → ws.length = ks.length →
      ∃ k, bindArgs (PySem.W.fnOf F.d.name F.d.qual F.d.params F.d.body F.d.scope (.ref D) kV doc pm an cdv ct) ⟨us, ks.zip ws⟩ = seqItems? (.ref D) >>= k ∧ k (some its.toArray) = pure (F.ps.zip (putS (fun j => its.getD j .none) (us ++ ws) src))
  | _ :: _, _ :: _ => False
/-- the way kb of the def F -/
def KbTx (F : FD) (kb : Kb) (self : Bool) (ks : List Str) : Prop := ∃ src, fillS (F.dd ++ F.kd.map (·.2)) src = some kb.src ∧ (match self with
  | true => BindT F (kb.n + 1) ks (selfS src)
  | false => BindT F kb.n ks src)
/-- the defaults are these -/
inductive DflR (T : Tab) : List W → List V → Prop
  | nil : DflR T [] []
  | cons {w : W} {v : V} {a : List W} {b : List V} : (∀ r H, RelW T r H w v) → DflR T a b → DflR T (w :: a) (v :: b)
theorem DflR.len {T : Tab} : ∀ {a : List W} {b : List V}, DflR T a b → a.length = b.length
  | _, _, .nil => rfl
  | _, _, .cons _ t => by rw [List.length_cons, List.length_cons, t.len]
theorem DflR.at_ {T : Tab} : ∀ {a : List W} {b : List V} {j : Nat} {w : W}, DflR T a b → nth a j = some w → ∀ r H, RelW T r H w (b.getD j .non)
  | _, _, _, _, .nil, e => by cases e
  | _, _, 0, _, .cons h t, e => by cases e; exact h
  | _, _, j + 1, w, .cons (a := a) (b := b) h t, e => DflR.at_ (j := j) t (show nth a j = some w from e)
theorem DflR.app {T : Tab} : ∀ {a c : List W} {b d : List V}, DflR T a b → DflR T c d → DflR T (a ++ c) (b ++ d)
  | _, _, _, _, .nil, g => g
  | _, _, _, _, .cons h t, g => .cons h (t.app g)
theorem srcR_of {T : Tab} {ds : List W} {vs : List V} (h : DflR T ds vs) : ∀ {src : List (Sum Nat Nat)} {l : List (Sum Nat W)}, fillS ds src = some l → SrcR T l (src.map fun q => match q with
    | .inl i => .inl i
    | .inr j => .inr (vs.getD j .non))
  | [], _, e => by cases e; exact .nil
  | .inl i :: r, l, e => by
    simp only [fillS] at e
    split at e
    · rename_i l' q
      cases e
      exact .arg (srcR_of h q)
    · cases e
  | .inr j :: r, l, e => by
    simp only [fillS] at e
    split at e
    · rename_i w l' q1 q2
      cases e
      exact .dfl (h.at_ q1) (srcR_of h q2)
    · cases e
theorem vals_getD {vs : List V} {us : List Value} (h : Vals vs us) (i : Nat) : RelV (vs.getD i .non) (us.getD i .none) := by
  induction h generalizing i with
  | nil => rfl
  | cons h t ih =>
    cases i with
    | zero => exact h
    | succ i => exact ih i
theorem putV_rel {dV : Nat → V} {df : Nat → Value} (hd : ∀ j, RelV (dV j) (df j)) {vs : List V} {us : List Value} (h : Vals vs us) : ∀ src : List (Sum Nat Nat), Vals (putV dV vs src) (putS df us src)
  | [] => .nil
  | .inl i :: r => .cons (vals_getD h i) (putV_rel hd h r)
  | .inr j :: r => .cons (hd j) (putV_rel hd h r)
theorem putV_fun (vs : List V) (l : List V) (src : List (Sum Nat Nat)) : putV (fun j => vs.getD j .non) l src = gArr (src.map fun q => match q with
    | .inl i => .inl i
    | .inr j => .inr (vs.getD j .non)) l := by
  unfold putV gArr
  rw [List.map_map]
  refine List.map_congr_left fun q _ => ?_
  cases q <;> rfl
theorem putV_self (vs : List V) (u : V) (l : List V) (src : List (Sum Nat Nat)) : putV (fun j => vs.getD j .non) (u :: l) (selfS src) = u :: gArr (src.map fun q => match q with
    | .inl i => .inl i
    | .inr j => .inr (vs.getD j .non)) l := by
  show u :: putV _ (u :: l) (src.map _) = _
  congr 1
  unfold putV gArr
  rw [List.map_map, List.map_map]
  refine List.map_congr_left fun q _ => ?_
  cases q <;> rfl
section
variable {K : PySem.W.Frag} {F : FD} {dvs : List V} {kws : List (Str × V)} {f : Addr} {fd : FuncData}
theorem kwd_at {D : Addr} : ∀ {kd : List (Str × W)} {kws : List (Str × V)}, kd.map (·.1) = kws.map (·.1) → (∀ q ∈ kws, ∃ u, PySem.W.nsIn K D q.1 = some (some u) ∧ RelV q.2 u) →
    ∃ df : Nat → Value, (∀ j, RelV ((kws.map (·.2)).getD j .non) (df j)) ∧ ∀ j q, nth kd j = some q → PySem.W.nsIn K D q.1 = some (some (df j))
  | [], [], _, _ => ⟨fun _ => .none, fun _ => rfl, fun j q e => by cases e⟩
  | [], _ :: _, e, _ => by cases e
  | _ :: _, [], e, _ => by cases e
  | a :: kd, b :: kws, e, h => by
    have e1 : a.1 = b.1 := (List.cons.inj e).1
    obtain ⟨u, h1, h2⟩ := h b List.mem_cons_self
    obtain ⟨df, g1, g2⟩ := kwd_at (List.cons.inj e).2 fun q hq => h q (List.mem_cons_of_mem _ hq)
    refine ⟨fun j => match j with
      | 0 => u
      | j + 1 => df j, fun j => ?_, fun j q hj => ?_⟩
    · cases j with
      | zero => exact h2
      | succ j => exact g1 j
    · cases j with
      | zero => cases hj; rw [e1]; exact h1
      | succ j => exact g2 j q hj
theorem looked_in {D : Addr} {kd : List (Str × W)} {df : Nat → Value} (h : ∀ j q, nth kd j = some q → PySem.W.nsIn K D q.1 = some (some (df j))) : ∀ {src : List (Sum Nat Nat)}, ∀ q ∈ looked kd df src, PySem.W.nsIn K D q.1 = some (some q.2)
  | [], q, hq => by cases hq
  | .inl _ :: r, q, hq => looked_in h (src := r) q hq
  | .inr j :: r, q, hq => by
    simp only [looked] at hq
    split at hq
    · rename_i p e
      rcases List.mem_cons.mp hq with z | hq
      · rw [z]; exact h j p e
      · exact looked_in h (src := r) q hq
    · exact looked_in h (src := r) q hq
/-- the binding, as HandS wants it -/
theorem bindT_ok {n : Nat} {ks : List Str} {src : List (Sum Nat Nat)} (D : FunD K F.d.name F.d.qual F.d.params F.d.body F.d.scope dvs kws f fd) (h1 : F.dd.length = dvs.length) (h2 : F.kd.map (·.1) = kws.map (·.1)) (h : BindT F n ks src) :
    ∃ df : Nat → Value, (∀ j, RelV ((dvs ++ kws.map (·.2)).getD j .non) (df j)) ∧ ∀ (s : Shared) (us ws : List Value), K.In s.heap → us.length = n → ws.length = ks.length → BindsTo s fd ⟨us, ks.zip ws⟩ (F.ps.zip (putS df (us ++ ws) src)) := by
  obtain ⟨oc, od, dV, kV, doc, pm, an, cdv, ct, osl, rfl, lk, hcd, hD, hK⟩ := D.ex
  unfold BindT at h
  split at h
  · rename_i q1 q2
    rw [q1] at h1
    rw [q2] at h2
    cases dvs with
    | cons _ _ => cases h1
    | nil =>
      cases kws with
      | cons _ _ => cases h2
      | nil =>
        rcases hD with ⟨_, rfl⟩ | ⟨e, _⟩
        · exact ⟨fun _ => .none, fun _ => rfl, fun s us ws _ l1 l2 => .of_eq (h kV doc pm an cdv ct us ws l1 l2)⟩
        · exact absurd rfl e
  · rename_i q1 q2
    rw [q1] at h1
    cases dvs with
    | cons _ _ => cases h1
    | nil =>
      rcases hD with ⟨_, rfl⟩ | ⟨e, _⟩
      · rcases hK with e | ⟨D', rfl, hq⟩
        · rw [e] at h2
          rw [q2] at h2
          cases h2
        · obtain ⟨df, g1, g2⟩ := kwd_at h2 hq
          exact ⟨df, fun j => by rw [List.nil_append]; exact g1 j, fun s us ws X l1 l2 => BindsTo.of_looks fun M => KwChain.looks X (looked_in g2) (h D' doc pm an cdv ct df us ws l1 l2)⟩
      · exact absurd rfl e
  · rename_i q1 q2
    rw [q2] at h2
    cases kws with
    | cons _ _ => cases h2
    | nil =>
      rcases hD with ⟨e, _⟩ | ⟨_, T, o, its, m, rfl, lT, oT, rT⟩
      · rw [e] at h1
        rw [q1] at h1
        cases h1
      · refine ⟨fun j => its.getD j .none, fun j => ?_, fun s us ws X l1 l2 => BindsTo.of_looks fun M => ?_⟩
        · rw [List.map_nil, List.append_nil]; exact vals_getD rT j
        · obtain ⟨k, e1, e2⟩ := h T kV doc pm an cdv ct its us ws (by rw [h1, ← rT.length]) l1 l2
          rw [e1]
          exact looks_items X lT oT (.of_pure e2)
  · exact h.elim
end
/-- the text is the evaluator's -/
structure Text (P : Pg) (M : Nms) (F : FD) (fn : Fn) : Prop where
  np : fn.np = F.ps.length
  nl : fn.nl = F.N.length
  sc : scB F.N F.ps F.d.scope = true
  body : chkSs M F.N fn.body F.d.scope F.d.body = true
  bind : F.dd = [] → F.kd = [] → BindN F.d F.ps
/-- an error class -/
structure ErrW (T : TabX) (K : PySem.W.Frag) (mg : Str → Option Value) (c : Nat) (x : Str) (E : ED) : Prop where
  gl : mg x = some (.ref (T.cA c))
  eA : T.eA c = E.f
  cls : ErrC K (T.cA c) E.bk.eb
  ex : ∃ fI fd, PySem.W.findIn K (.ref (T.cA c)) "__init__" = some (some (.ref fI)) ∧ PySem.W.typeIn K (.ref fI) = some (.type "function") ∧ FunD K E.d.name E.d.qual E.d.params E.d.body E.d.scope [] [] fI fd
  xf : XfC K (T.cA c)
  no : PySem.W.findIn K (.ref (T.cA c)) E.f = some none
  bs : (PySem.W.findCls K (.type E.bk.eb.B) (.type "type") "__init__" = some (.val (.builtin E.bk.eb.initId)) ∧ mg E.bx = none ∧ bootBuiltins E.bx = some (.type E.bk.eb.B)) ∨
    ∃ S, mg E.bx = some (.ref S) ∧ PySem.W.readsIn K S (.type "type") = true ∧ PySem.W.specialIn K (.ref S) "__getattribute__" = some (some (.builtin "type.__getattribute__")) ∧ PySem.W.findCls K (.ref S) (.type "type") "__init__" = some (.val (.builtin E.bk.eb.initId))
structure ErrT (E : ED) : Prop where
  sc : scB [E.sf, E.p] [E.sf, E.p] E.d.scope = true
  ok : (errBody E.bx E.sf E.p E.f E.d.body && visB E.d.scope E.sf && visB E.d.scope E.p && plainN E.sf && plainN E.p && kindB E.d.scope E.bx .globalImplicit && plainN E.bx && !strEq E.bx "__name__") = true
  bind : BindN E.d [E.sf, E.p]
/-- what the top leaves -/
structure World0 (P : Pg) (T : TabX) (M : Nms) (Fs : List FD) (Es : List (Option ED)) (fA : Nat → Addr) (K : PySem.W.Frag) (mg : Str → Option Value) : Prop where
  hK : T.K = K
  blt : ∀ x ∈ bltNames, mg x = none
  gls : ∀ (g : Nat) (x : Str) (w : W), nth M.gl g = some x → nth P.glb g = some w → ∃ u v, mg x = some u ∧ RelV v u ∧ ∀ r H, RelW T.toTab r H w v
  fun_ : ∀ (f : Nat) (F : FD), nth Fs f = some F → ∃ (fd : FuncData) (dvs : List V) (kws : List (Str × V)), FunD K F.d.name F.d.qual F.d.params F.d.body F.d.scope dvs kws (fA f) fd ∧ DflR T.toTab F.dd dvs ∧ DflR T.toTab (F.kd.map (·.2)) (kws.map (·.2)) ∧ F.kd.map (·.1) = kws.map (·.1)
  nam : ∀ (f : Nat) (x : Str), nth M.fn f = some (some x) → mg x = some (.ref (fA f)) ∧ ∃ F, nth Fs f = some F ∧ F.dd = [] ∧ F.kd = []
  txt : ∀ (f : Nat) (F : FD), nth Fs f = some F → ∃ fn, nth P.fns f = some fn ∧ Text P M F fn
  kit : KitP P T.toTab
  att : ∀ (f : Nat) (x : Str), nth M.at_ f = some x → T.fN f = x
  cls : ∀ (c : Nat) (x : Str), nth M.cl c = some x → mg x = some (.ref (T.cA c))
  fld : ∀ c cl f, nth P.cls c = some cl → hasN cl.flds f = true → NoAttr K (T.cA c) (T.fN f)
  mth : ∀ c cl m g, nth P.cls c = some cl → mlook cl.mts m = some g → Meth K (T.cA c) (T.fN m) (fA g) ∧ ∃ F, nth Fs g = some F ∧ F.dd = [] ∧ F.kd = []
  mks : ∀ c cl b kb, nth P.cls c = some cl → nth P.kbs b = some kb → kb.f = cl.ini → CI T.K (T.cA c) ∧ Mk K (T.cA c) (fA cl.ini)
  kbs : ∀ b kb ox m ks, nth P.kbs b = some kb → nth M.kb b = some (ox, m, ks) → kb.n = m ∧ ks.length = kb.m ∧ (∃ F, nth Fs kb.f = some F ∧ KbTx F kb ox.isNone ks) ∧ ∀ x, ox = some x → mg x = some (.ref (fA kb.f))
  exh : ExhP P T K
  eh : M.eh = P.exh
  err : ∀ c x f, nth M.cl c = some x → nth M.er c = some (some f) → ∃ E, E.f = f ∧ ErrW T K mg c x E ∧ ErrT E
theorem pad_len {n : Nat} {ws : List W} (h : ws.length ≤ n) : (pad n ws).length = n := by
  unfold pad
  rw [List.length_append, List.length_map, List.length_replicate]
  omega
theorem rels_start {T : TabX} {r : Rho} {H : Hp} {h : Hep} {N : List Str} {ws : List W} {vs : List V} (rh : RelH T.toTab r h H) (rs : RelWs T.toTab r H ws vs) : RelS T.toTab r (pad N.length ws) h (L2.start N vs) H := by
  refine ⟨rh, ?_, fun i w e => ?_⟩
  · unfold pad L2.start
    rw [List.length_append, List.length_append, List.length_map, List.length_map, List.length_replicate, List.length_replicate, rs.length]
  · unfold pad at e
    unfold L2.start
    by_cases hi : i < ws.length
    · rw [List.getElem?_append_left (by rw [List.length_map]; exact hi), List.getElem?_map] at e
      cases q : ws[i]? with
      | none => rw [q] at e; cases e
      | some w' =>
        rw [q] at e
        cases e
        obtain ⟨v, hv, rv⟩ := rs.get q
        refine ⟨v, ?_, rv⟩
        rw [List.getElem?_append_left (by rw [List.length_map, ← rs.length]; exact hi), List.getElem?_map, hv]
        rfl
    · rw [List.getElem?_append_right (by rw [List.length_map]; omega), List.getElem?_replicate] at e
      split at e <;> cases e
theorem post_res {T : TabX} {r : Rho} {H : Hp} {h0 : Hep} {m : OutS} {Q : VK} {E : XK} (y : RelH T.toTab r h0 H) (h : PostE T (fun c d _ H' => E c d H') r [] H (m.res.fin h0.n) Q) : PostS T (fun c d _ H' => E c d H') r H m { nx := fun _ H' => Q .non H', rt := Q } := by
  cases m with
  | ok f e k =>
    cases f with
    | nx =>
      intro r' s' H' x S
      obtain ⟨r2, x2, z2, rv2⟩ := RelH.ends y x S.hp (RelW.non (T := T.toTab))
      exact h r2 .non H' x2 z2 rv2
    | ret w =>
      intro r' v H' x z rv
      obtain ⟨r2, x2, z2, rv2⟩ := y.ends x z rv
      exact h r2 v H' x2 z2 rv2
    | brk => exact h.elim
    | cnt => exact h.elim
  | exc c p e k =>
    intro r' d H' v s' x S rv hd
    obtain ⟨r2, x2, z2, rv2⟩ := y.ends x S.hp rv
    exact h r2 d H' v x2 z2 rv2 hd
  | bad => exact h.elim
/-- a way of binding, as the evaluator's context wants it -/
theorem kbok_fun {P : Pg} {T : TabX} {X : Cx} {k : Nat} {F : FD} {kb : Kb} {ks : List Str} {fn : Fn} {fa : Addr} {fd : FuncData} {dvs : List V} {kws : List (Str × V)} (hfn : nth P.fns kb.f = some fn) (ok : FnOk X.prog X.w X.K X.mg X.base (L2.CX X.prog X.w) k fa fd F.ps (spEv P T k kb.f fn.np))
    (D : FunD X.K F.d.name F.d.qual F.d.params F.d.body F.d.scope dvs kws fa fd) (h1 : DflR T.toTab F.dd dvs) (h2 : DflR T.toTab (F.kd.map (·.2)) (kws.map (·.2))) (h3 : F.kd.map (·.1) = kws.map (·.1)) (hl : ks.length = kb.m) (tx : KbTx F kb false ks) : KbOk P T k X kb ks fa kb.n gFun := by
  obtain ⟨src, e1, e2⟩ := tx
  obtain ⟨df, g1, g2⟩ := bindT_ok D h1.len h3 e2
  have hds : DflR T.toTab (F.dd ++ F.kd.map (·.2)) (dvs ++ kws.map (·.2)) := DflR.app h1 h2
  refine ⟨⟨fn, fd, F.ps, fun us ws => putS df (us ++ ws) src, _, hfn, srcR_of hds e1, ok, ⟨fun s us ws X l1 l2 => g2 s us ws X l1 l2, fun {vs us zs ws} r1 r2 => ?_⟩⟩, hl⟩
  show Vals (gArr _ (vs ++ zs)) _
  rw [← putV_fun]
  exact putV_rel g1 (r1.append r2) src
theorem kbok_self {P : Pg} {T : TabX} {X : Cx} {k : Nat} {F : FD} {kb : Kb} {ks : List Str} {fn : Fn} {fa : Addr} {fd : FuncData} {dvs : List V} {kws : List (Str × V)} (hfn : nth P.fns kb.f = some fn) (ok : FnOk X.prog X.w X.K X.mg X.base (L2.CX X.prog X.w) k fa fd F.ps (spEv P T k kb.f fn.np))
    (D : FunD X.K F.d.name F.d.qual F.d.params F.d.body F.d.scope dvs kws fa fd) (h1 : DflR T.toTab F.dd dvs) (h2 : DflR T.toTab (F.kd.map (·.2)) (kws.map (·.2))) (h3 : F.kd.map (·.1) = kws.map (·.1)) (hl : ks.length = kb.m) (tx : KbTx F kb true ks) : KbOk P T k X kb ks fa (kb.n + 1) gSelf := by
  obtain ⟨src, e1, e2⟩ := tx
  obtain ⟨df, g1, g2⟩ := bindT_ok D h1.len h3 e2
  have hds : DflR T.toTab (F.dd ++ F.kd.map (·.2)) (dvs ++ kws.map (·.2)) := DflR.app h1 h2
  refine ⟨⟨fn, fd, F.ps, fun us ws => match us with
    | [] => putS df ws src
    | u :: us => putS df (u :: us ++ ws) (selfS src), _, hfn, srcR_of hds e1, ok, ⟨fun s us ws X l1 l2 => ?_, fun {vs us zs ws} r1 r2 => ?_⟩⟩, hl⟩
  · cases us with
    | nil => cases l1
    | cons u us => exact g2 s (u :: us) ws X l1 l2
  · cases r1 with
    | nil =>
      show Vals (gArr _ zs) _
      rw [← putV_fun]
      exact putV_rel g1 r2 src
    | cons h t =>
      show Vals (_ :: gArr _ (_ ++ zs)) _
      rw [← putV_self]
      exact putV_rel g1 (Vals.append (.cons h t) r2) (selfS src)
theorem err_ok {P : Pg} {T : TabX} {M : Nms} {Fs : List FD} {Es : List (Option ED)} {fA : Nat → Addr} {K : PySem.W.Frag} {mg : Str → Option Value} (C : World0 P T M Fs Es fA K mg) {X : Cx} (hK : X.K = K) (hm : X.mg = mg) {c : Nat} {x f : Str} (h1 : nth M.cl c = some x) (h2 : nth M.er c = some (some f)) : ErrP T X c x ∧ T.eA c = f := by
  obtain ⟨E, ef, W, Y⟩ := C.err c x f h1 h2
  subst hK hm
  obtain ⟨fI, fd, g1, g2, g3⟩ := W.ex
  have ok := Y.ok
  simp only [Bool.and_eq_true, Bool.not_eq_true'] at ok
  obtain ⟨⟨⟨⟨⟨⟨⟨o1, o2⟩, o3⟩, o4⟩, o5⟩, o6⟩, o7⟩, o8⟩ := ok
  have nn : E.bx ≠ "__name__" := fun e => by
    rw [e] at o8
    exact absurd o8 (by decide +kernel)
  refine ⟨⟨W.gl, ⟨E.bk.eb, fI, fd, [E.sf, E.p], W.cls, g1, g2, ?_, g3.bindsN Y.bind⟩, W.xf, by rw [W.eA]; exact W.no⟩, W.eA.trans ef⟩
  rw [W.eA]
  refine err_fn W.cls g3 (scB_at Y.sc) o1 W.no ⟨visB_at o2, visB_at o3⟩ ⟨(plainN_at o4).1, (plainN_at o4).2, (plainN_at o5).1, (plainN_at o5).2⟩ (fun X' hK' hm' hs => ?_)
  have gl : Gl X' E.bx := by
    unfold Gl
    show X'.env.scope.names.lookup E.bx = _
    rw [hs]
    exact kindB_at o6
  rcases W.bs with ⟨b1, b2, b3⟩ | ⟨S, b1, b2, b3, b4⟩
  · exact .blt gl (plainN_at o7).1 nn (by rw [hm']; exact b2) b3 (by rw [hK']; exact b1)
  · exact .own (S := S) gl (plainN_at o7).1 (by rw [hm']; exact b1) (by rw [hK']; exact b2) (by rw [hK']; exact b3) (by rw [hK']; exact b4)
theorem fns_ok {P : Pg} {T : TabX} {M : Nms} {Fs : List FD} {Es : List (Option ED)} {fA : Nat → Addr} {prog : Program} {w : World} {K : PySem.W.Frag} {mg : Str → Option Value} {base : Heap} (C : World0 P T M Fs Es fA K mg) (k : Nat) : ∀ (f : Nat) (F : FD) (fn : Fn) (fd : FuncData) (dvs : List V) (kws : List (Str × V)), nth Fs f = some F → nth P.fns f = some fn → FunD K F.d.name F.d.qual F.d.params F.d.body F.d.scope dvs kws (fA f) fd →
    FnOk prog w K mg base (L2.CX prog w) k (fA f) fd F.ps (spEv P T k f fn.np) := by
  induction k using Nat.strongRecOn with
  | ind k ih =>
  intro f F fn fd dvs kws hF hf D
  obtain ⟨fn', hf', X⟩ := C.txt f F hF
  rw [hf] at hf'
  cases hf'
  cases k with
  | zero =>
    refine ⟨fun vs H Q E h => h.1.trans X.np, fun A outer s H args us vs Q E _ _ _ _ h => ?_⟩
    obtain ⟨_, r, ws, k, _, _, hq⟩ := h
    exact hq.elim
  | succ k =>
    have S := scB_at X.sc
    refine D.ok S (fun vs H Q E h => h.1.trans X.np) (fun cdv A outer s H vs Q E hr h => ⟨_, pss_Ss, ?_⟩)
    obtain ⟨hl, r, ws, h, rh, rs, hq⟩ := h
    have ctx : CtxS P T M k F.N F.d.scope (cxOf (L2.CX prog w) prog w K mg base F.N F.d.qual F.d.scope (fA f) cdv A outer s H E) (fun c d _ H' => E c d H') := {
      hK := C.hK
      hN := rfl
      nd := S.nd
      sc := rfl
      calm := rfl
      room := hr
      tk := takes_of rfl rfl rfl rfl
      blt := C.blt
      gls := C.gls
      fns := fun g x hx => by
        obtain ⟨hg, G, hG, e1, e2⟩ := C.nam g x hx
        obtain ⟨gd, dvs, kws, DG, h1, h2, h3⟩ := C.fun_ g G hG
        obtain ⟨gn, hgn, XG⟩ := C.txt g G hG
        rw [e1] at h1
        cases h1
        exact ⟨gn, fA g, gd, G.ps, hgn, ih k (Nat.lt_succ_self k) g G gn gd _ _ hG hgn DG, hg, DG.kp, DG.bindsN (XG.bind e1 e2)⟩
      kit := C.kit
      att := C.att
      cls := C.cls
      fld := C.fld
      mth := fun c cl m g h1 h2 => by
        obtain ⟨hm, G, hG, e1, e2⟩ := C.mth c cl m g h1 h2
        obtain ⟨gd, dvs, kws, DG, h1, h2, h3⟩ := C.fun_ g G hG
        obtain ⟨gn, hgn, XG⟩ := C.txt g G hG
        rw [e1] at h1
        cases h1
        exact ⟨gn, fA g, gd, G.ps, hgn, hm, ih k (Nat.lt_succ_self k) g G gn gd _ _ hG hgn DG, DG.bindsN (XG.bind e1 e2)⟩
      mks := fun j hj c cl b kb m ks h1 h2 h3 h4 => by
        obtain ⟨k1, k2, ⟨G, hG, tx⟩, _⟩ := C.kbs b kb none m ks h2 h3
        obtain ⟨m1, m2⟩ := C.mks c cl b kb h1 h2 h4
        obtain ⟨gd, dvs, kws, DG, h1, h2, h3⟩ := C.fun_ kb.f G hG
        obtain ⟨gn, hgn, XG⟩ := C.txt kb.f G hG
        rw [← h4] at m2
        exact ⟨k1, m1, fA kb.f, m2, kbok_self hgn (ih j (by omega) kb.f G gn gd _ _ hG hgn DG) DG h1 h2 h3 k2 tx⟩
      clk := fun b kb x m ks h2 h3 => by
        obtain ⟨k1, k2, ⟨G, hG, tx⟩, hx⟩ := C.kbs b kb (some x) m ks h2 h3
        obtain ⟨gd, dvs, kws, DG, h1, h2, h3⟩ := C.fun_ kb.f G hG
        obtain ⟨gn, hgn, XG⟩ := C.txt kb.f G hG
        exact ⟨k1, fA kb.f, kbok_fun hgn (ih k (Nat.lt_succ_self k) kb.f G gn gd _ _ hG hgn DG) DG h1 h2 h3 k2 tx, DG.kp, hx x rfl⟩
      own := passes_of rfl
      fn := fun _ => rfl
      kind := S.kind
      stk := rfl
      frm := rfl
      err := fun c x f h1 h2 => err_ok C rfl rfl h1 h2
      exh := C.exh
      eh := C.eh }
    refine sndSs fn.body ctx X.body r (L2.start F.N vs) H (pad fn.nl ws) h _ ?_ (post_res rh ?_)
    · rw [X.nl]
      exact rels_start rh rs
    · unfold callN at hq
      rw [hf] at hq
      simp only at hq
      by_cases z : ws.length = fn.np
      · rw [if_pos z] at hq
        exact hq
      · rw [if_neg z] at hq
        exact hq.elim
end Ev

namespace Ev
open PySem PySem.Spec PyProof.Rows L2
section
variable (K : PySem.W.Frag)
mutual
def gcB : W → Value → Bool
  | .non, .none => true
  | .bl b, .bool c => b == c
  | .int i, .int j _ => decide (i = j)
  | .str x, .str y _ => strEq x y
  | .ty t, .type n => decide (n = t.name)
  | .tup xs, .ref p => (match K.lookup p with
    | some ⟨.type c, none, .seq its _, _⟩ => decide (c = "tuple") && decide (its.size ≤ sizeLine) && gcsB xs its.toList
    | _ => false)
  | _, _ => false
def gcsB : List W → List Value → Bool
  | [], [] => true
  | x :: xs, u :: us => gcB x u && gcsB xs us
  | _, _ => false
end
end
section
variable {T : TabX}
mutual
theorem gcB_ok : ∀ {w : W} {u : Value}, gcB T.K w u = true → ∃ v, RelV v u ∧ ∀ r H, RelW T.toTab r H w v
  | .non, u, h => by
    cases u <;> first | exact ⟨.non, rfl, fun _ _ => .non⟩ | simp [gcB] at h
  | .bl b, u, h => by
    cases u with
    | bool c =>
      have e : b = c := eq_of_beq (show (b == c) = true by simpa [gcB] using h)
      rw [e]
      exact ⟨.bl c, rfl, fun _ _ => .bl c⟩
    | _ => simp [gcB] at h
  | .int i, u, h => by
    cases u with
    | int j t =>
      have e : i = j := by simpa [gcB] using h
      rw [e]
      exact ⟨.int j, ⟨t, rfl⟩, fun _ _ => .int j⟩
    | _ => simp [gcB] at h
  | .str x, u, h => by
    cases u with
    | str y t =>
      have e : strEq x y = true := by simpa [gcB] using h
      rw [strEq_eq] at e
      rw [eq_of_beq e]
      exact ⟨.str y, ⟨t, rfl⟩, fun _ _ => .str y⟩
    | _ => simp [gcB] at h
  | .ty t, u, h => by
    cases u with
    | type n =>
      have e : n = t.name := by simpa [gcB] using h
      rw [e]
      exact ⟨.ty t.name, rfl, fun _ _ => .ty t⟩
    | _ => simp [gcB] at h
  | .tup xs, u, h => by
    cases u with
    | ref p =>
      simp only [gcB] at h
      split at h
      · rename_i c its n _ q
        rw [Bool.and_eq_true, Bool.and_eq_true] at h
        obtain ⟨⟨h1, h2⟩, h3⟩ := h
        obtain ⟨vs, rv, hv⟩ := gcsB_ok h3
        refine ⟨.ref p, rfl, fun r H => .tup (vs := vs) (.inr ⟨_, its, n, q, ?_, rfl, rfl, of_decide_eq_true h2, rv⟩) (hv r H)⟩
        exact congrArg Value.type (of_decide_eq_true h1)
      · cases h
    | _ => simp [gcB] at h
  | .lst _, u, h => by cases u <;> simp [gcB] at h
  | .dct _, u, h => by cases u <;> simp [gcB] at h
  | .ins _ _, u, h => by cases u <;> simp [gcB] at h
  | .scr _, u, h => by cases u <;> simp [gcB] at h
  | .ref _, u, h => by cases u <;> simp [gcB] at h
  | .cls _, u, h => by cases u <;> simp [gcB] at h
theorem gcsB_ok : ∀ {ws : List W} {us : List Value}, gcsB T.K ws us = true → ∃ vs, Vals vs us ∧ ∀ r H, RelWs T.toTab r H ws vs
  | [], [], _ => ⟨[], .nil, fun _ _ => .nil⟩
  | [], _ :: _, h => by simp [gcsB] at h
  | _ :: _, [], h => by simp [gcsB] at h
  | x :: xs, u :: us, h => by
    simp only [gcsB, Bool.and_eq_true] at h
    obtain ⟨v, r1, h1⟩ := gcB_ok h.1
    obtain ⟨vs, r2, h2⟩ := gcsB_ok h.2
    exact ⟨v :: vs, .cons r1 r2, fun r H => .cons (h1 r H) (h2 r H)⟩
end
end
def glbB (K : PySem.W.Frag) : List Str → List W → Bool
  | x :: xs, w :: ws => (match PySem.W.nsIn K mainGlobals x with
    | some (some u) => gcB K w u
    | _ => false) && glbB K xs ws
  | _, _ => true
theorem glbB_ok {K : PySem.W.Frag} : ∀ {xs : List Str} {ws : List W} {g : Nat} {x : Str} {w : W}, glbB K xs ws = true → nth xs g = some x → nth ws g = some w → ∃ u, PySem.W.nsIn K mainGlobals x = some (some u) ∧ gcB K w u = true
  | [], _, _, _, _, _, h, _ => by cases h
  | _ :: _, [], _, _, _, _, _, h => by cases h
  | y :: xs, z :: ws, g, x, w, h, h1, h2 => by
    rw [show glbB K (y :: xs) (z :: ws) = ((match PySem.W.nsIn K mainGlobals y with
      | some (some u) => gcB K z u
      | _ => false) && glbB K xs ws) from rfl, Bool.and_eq_true] at h
    cases g with
    | zero =>
      cases h1
      cases h2
      have h3 := h.1
      split at h3
      · rename_i u q
        exact ⟨u, q, h3⟩
      · cases h3
    | succ g => exact glbB_ok h.2 h1 h2
theorem mlook_mem : ∀ {l : List (Nat × Nat)} {m g : Nat}, mlook l m = some g → ∃ q ∈ l, q.1 = m ∧ q.2 = g
  | [], _, _, h => by cases h
  | p :: r, m, g, h => by
    unfold mlook at h
    split at h
    · rename_i z
      cases h
      exact ⟨p, List.mem_cons_self, Nat.eq_of_beq_eq_true z, rfl⟩
    · obtain ⟨q, h1, h2⟩ := mlook_mem h
      exact ⟨q, List.mem_cons_of_mem _ h1, h2⟩
def gloB (K : PySem.W.Frag) (F : FD) : Bool := match F.d.at_.2 with
  | none => (He.Fa.glo F.d.at_.1).ok K
  | some _ => true
def dflG (K : PySem.W.Frag) (dV : Value) : List W → Bool
  | [] => (match dV with
    | .none => true
    | _ => false)
  | w :: ws => (match dV with
    | .ref p => (match K.lookup p with
      | some ⟨_, _, .seq its _, _⟩ => gcsB K (w :: ws) its.toList
      | _ => false)
    | _ => false)
def kw1 (K : PySem.W.Frag) (kV : Value) (q : Str × W) : Bool := match kV with
  | .ref D => (match PySem.W.nsIn K D q.1 with
    | some (some u) => gcB K q.2 u
    | _ => false)
  | _ => false
def kwdG (K : PySem.W.Frag) (kV : Value) : List (Str × W) → Bool
  | [] => true
  | q :: r => kw1 K kV q && kwdG K kV r
theorem gcs_len {K : PySem.W.Frag} : ∀ {ws : List W} {us : List Value}, gcsB K ws us = true → ws.length = us.length
  | [], [], _ => rfl
  | [], _ :: _, h => by simp [gcsB] at h
  | _ :: _, [], h => by simp [gcsB] at h
  | x :: xs, u :: us, h => by
    simp only [gcsB, Bool.and_eq_true] at h
    rw [List.length_cons, List.length_cons, gcs_len h.2]
theorem gcs_dfl {T : TabX} : ∀ {ws : List W} {us : List Value}, gcsB T.K ws us = true → ∃ vs, Vals vs us ∧ DflR T.toTab ws vs
  | [], [], _ => ⟨[], .nil, .nil⟩
  | [], _ :: _, h => by simp [gcsB] at h
  | _ :: _, [], h => by simp [gcsB] at h
  | x :: xs, u :: us, h => by
    simp only [gcsB, Bool.and_eq_true] at h
    obtain ⟨v, r1, h1⟩ := gcB_ok h.1
    obtain ⟨vs, r2, h2⟩ := gcs_dfl h.2
    exact ⟨v :: vs, .cons r1 r2, .cons h1 h2⟩
theorem dflG_ok {T : TabX} {dV : Value} {ws : List W} (h : dflG T.K dV ws = true) : ∃ dvs, DflV T.K dV dvs ∧ DflR T.toTab ws dvs := by
  cases ws with
  | nil =>
    simp only [dflG] at h
    split at h
    · exact ⟨[], .inl ⟨rfl, rfl⟩, .nil⟩
    · cases h
  | cons w ws =>
    simp only [dflG] at h
    split at h
    · rename_i p
      split at h
      · rename_i oc od its n sl q
        obtain ⟨vs, r, d⟩ := gcs_dfl h
        refine ⟨vs, .inr ⟨fun e => ?_, p, _, its.toList, n, rfl, q, by simp, r⟩, d⟩
        rw [e] at d
        cases d
      · cases h
    · cases h
theorem kwdG_ok {T : TabX} {kV : Value} : ∀ {ws : List (Str × W)}, kwdG T.K kV ws = true → ∃ kws, KwdV T.K kV kws ∧ DflR T.toTab (ws.map (·.2)) (kws.map (·.2)) ∧ ws.map (·.1) = kws.map (·.1)
  | [], _ => ⟨[], .inl rfl, .nil, rfl⟩
  | q :: r, h => by
    obtain ⟨h1, h2⟩ := Bool.and_eq_true_iff.mp h
    obtain ⟨kws, g1, g2, g3⟩ := kwdG_ok h2
    unfold kw1 at h1
    split at h1
    · rename_i D
      split at h1
      · rename_i u e
        obtain ⟨v, r1, hv⟩ := gcB_ok h1
        refine ⟨(q.1, v) :: kws, .inr ⟨D, rfl, fun p hp => ?_⟩, .cons hv g2, ?_⟩
        · rcases List.mem_cons.mp hp with z | hp
          · rw [z]; exact ⟨u, e, r1⟩
          · rcases g1 with z | ⟨D', e', h'⟩
            · rw [z] at hp; cases hp
            · cases e'; exact h' p hp
        · show q.1 :: r.map (·.1) = q.1 :: kws.map (·.1)
          rw [g3]
      · cases h1
    · cases h1
def defB (K : PySem.W.Frag) (d : He.DefD) (dd : List W) (kd : List (Str × W)) : Bool := PySem.W.keepIn K (.ref (He.fAd K d.at_)) && (match K.lookup (He.fAd K d.at_) with
  | some ⟨_, _, .func fd, _⟩ => PySem.W.codeIn K fd.code d.qual && (dflG K fd.defaults dd && kwdG K fd.kwdefaults kd)
  | _ => false)
theorem defB_ok {T : TabX} {d : He.DefD} {dd : List W} {kd : List (Str × W)} (e : He.fnW T.K d.at_ = d.val) (c : defB T.K d dd kd = true) : ∃ fd dvs kws, FunD T.K d.name d.qual d.params d.body d.scope dvs kws (He.fAd T.K d.at_) fd ∧ DflR T.toTab dd dvs ∧ DflR T.toTab (kd.map (·.2)) (kws.map (·.2)) ∧ kd.map (·.1) = kws.map (·.1) := by
  unfold defB at c
  rw [Bool.and_eq_true] at c
  obtain ⟨kp, c2⟩ := c
  unfold He.fnW at e
  split at c2
  · rename_i oc od fd osl q
    rw [q] at e
    obtain ⟨n1, n2, n3, n4, n5, n6, n7, n8, n9, n10, n11, n12, n13, n14, n15⟩ := fd
    have e2 : (some (n1, n2, n3, n4, n5, n6, n7, n15) : He.FnW) = some (d.name, d.qual, d.params, .stmts d.body, d.scope, mainGlobals, [], builtinsNs) := e
    simp only [Option.some.injEq, Prod.mk.injEq] at e2
    obtain ⟨h1, h2, h3, h4, h5, h6, h7, h8⟩ := e2
    subst h1 h2 h3 h4 h5 h6 h7 h8
    simp only [Bool.and_eq_true] at c2
    obtain ⟨k1, k2, k3⟩ := c2
    obtain ⟨dvs, a1, a2⟩ := dflG_ok k2
    obtain ⟨kws, b1, b2, b3⟩ := kwdG_ok k3
    exact ⟨_, dvs, kws, ⟨⟨oc, od, n8, n9, n10, n11, n12, n13, n14, osl, rfl, q, k1, a1, b1⟩, kp⟩, a2, b2, b3⟩
  · cases c2
def cAd (M : Nms) (K : PySem.W.Frag) (c : Nat) : Addr := He.ga K ((nth M.cl c).getD Str.empty)
def fAt (Fs : List FD) (K : PySem.W.Frag) (f : Nat) : Addr := match nth Fs f with
  | some F => He.fAd K F.d.at_
  | none => 0
def atN (l : List Str) (f : Nat) : Str := match nth l f with
  | some x => x
  | none => ⟨#[0, f]⟩
def eqOB (a b : Option Bool) : Bool := match a, b with
  | some x, some y => x == y
  | _, _ => false
theorem eqOB_ok {a : Option Bool} {b : Bool} (h : eqOB a (some b) = true) : a = some b := by
  unfold eqOB at h
  split at h
  · rename_i x y _ e
    cases e
    rw [eq_of_beq h]
  · cases h
def ciB (K : PySem.W.Frag) (C : Addr) : Bool := PySem.W.plainGet K C Str.empty && PySem.W.hasDictIn K C && PySem.W.plainOver K C && He.eqO (PySem.W.findIn K (.ref C) "__setattr__") (some (some (.builtin "object.__setattr__"))) &&
  He.eqO (PySem.W.findIn K (.ref C) "__class__") (some (some (.builtin "object.__class__"))) && He.eqO (PySem.W.specialIn K (.builtin "object.__class__") "__get__") (some (some (.builtin "getset_descriptor.__get__"))) && eqOB (PySem.W.takesIn K (.builtin "object.__class__")) (some true) && eqOB (PySem.W.mroIn K C (.type "object")) (some true)
theorem ciB_ok {K : PySem.W.Frag} {C : Addr} (h : ciB K C = true) : CI K C := by
  unfold ciB at h
  simp only [Bool.and_eq_true] at h
  obtain ⟨⟨⟨⟨⟨⟨⟨h1, h2⟩, h3⟩, h4⟩, h5⟩, h6⟩, h7⟩, h8⟩ := h
  exact ⟨⟨h1, h2, h3, He.eqO_ok h4⟩, He.eqO_ok h5, He.eqO_ok h6, eqOB_ok h7, eqOB_ok h8⟩
def mkB (K : PySem.W.Frag) (C f : Addr) : Bool := PySem.W.makesIn K C && He.eqO (PySem.W.findIn K (.ref C) "__init__") (some (some (.ref f))) && PySem.W.isFn K (.ref f) && PySem.W.keepIn K (.ref C)
theorem mkB_ok {K : PySem.W.Frag} {C f : Addr} (h : mkB K C f = true) : Mk K C f := by
  unfold mkB at h
  simp only [Bool.and_eq_true] at h
  obtain ⟨⟨⟨h1, h2⟩, h3⟩, h4⟩ := h
  exact ⟨h1, He.eqO_ok h2, h3, h4⟩
def methB (K : PySem.W.Frag) (C : Addr) (m : Str) (f : Addr) : Bool := He.eqO (PySem.W.findIn K (.ref C) m) (some (some (.ref f))) && PySem.W.isFn K (.ref f) && PySem.W.keepIn K (.ref f)
theorem methB_ok {K : PySem.W.Frag} {C f : Addr} {m : Str} (h : methB K C m f = true) : Meth K C m f := by
  unfold methB at h
  simp only [Bool.and_eq_true] at h
  obtain ⟨⟨h1, h2⟩, h3⟩ := h
  exact ⟨He.eqO_ok h1, h2, h3⟩
def bareF (Fs : List FD) (g : Nat) : Bool := match nth Fs g with
  | some F => F.dd.isEmpty && F.kd.isEmpty
  | none => false
theorem bareF_ok {Fs : List FD} {g : Nat} (h : bareF Fs g = true) : ∃ F, nth Fs g = some F ∧ F.dd = [] ∧ F.kd = [] := by
  unfold bareF at h
  split at h
  · rename_i F e
    rw [Bool.and_eq_true, List.isEmpty_iff, List.isEmpty_iff] at h
    exact ⟨F, e, h.1, h.2⟩
  · cases h
/-- one class -/
def clB (M : Nms) (P : Pg) (Fs : List FD) (K : PySem.W.Frag) (c : Nat) (cl : Cl) : Bool :=
  P.isd.all (fun d => eqOB (PySem.W.kitOne K (.ref (cAd M K c)) (.ref (cAd M K d))) (some (hasN cl.sup d))) &&
  Ty.all.all (fun b => eqOB (PySem.W.kitOne K (.ref (cAd M K c)) (.type b.name)) (some (hasT cl.sut b))) &&
  P.exh.all (fun d => eqOB (PySem.W.exmOne K (.ref (cAd M K c)) (.ref (cAd M K d))) (some (hasN cl.sup d))) &&
  cl.flds.all (fun f => He.eqO (PySem.W.findIn K (.ref (cAd M K c)) (atN M.at_ f)) (some none)) &&
  cl.mts.all (fun q => methB K (cAd M K c) (atN M.at_ q.1) (fAt Fs K q.2) && bareF Fs q.2) &&
  (!(P.kbs.any fun kb => Nat.beq kb.f cl.ini) || (ciB K (cAd M K c) && mkB K (cAd M K c) (fAt Fs K cl.ini)))
def clsB (M : Nms) (P : Pg) (Fs : List FD) (K : PySem.W.Frag) : Nat → List Cl → Bool
  | _, [] => true
  | c, cl :: r => clB M P Fs K c cl && clsB M P Fs K (c + 1) r
theorem clsB_ok {M : Nms} {P : Pg} {Fs : List FD} {K : PySem.W.Frag} : ∀ {l : List Cl} {k c : Nat} {cl : Cl}, clsB M P Fs K k l = true → nth l c = some cl → clB M P Fs K (k + c) cl = true
  | [], _, _, _, _, h => by cases h
  | a :: r, k, 0, cl, h, e => by
    cases e
    exact (Bool.and_eq_true_iff.mp h).1
  | a :: r, k, c + 1, cl, h, e => by
    have := clsB_ok (l := r) (k := k + 1) (c := c) (cl := cl) (Bool.and_eq_true_iff.mp h).2 e
    rw [show k + (c + 1) = k + 1 + c by omega]
    exact this
def kitNB (M : Nms) (P : Pg) (K : PySem.W.Frag) : Bool := P.isd.all fun d => Ty.dat.all (fun a => eqOB (PySem.W.kitOne K (.type a.name) (.ref (cAd M K d))) (some false)) && eqOB (PySem.W.kitOne K (.type "NoneType") (.ref (cAd M K d))) (some false)
def namB (K : PySem.W.Frag) (l : List Str) : Bool := l.all fun x => (He.Fa.glo x).ok K
def errCB (K : PySem.W.Frag) (C : Addr) (B : PySem.EvX.EB) : Bool := (match K.lookup C with
  | some ⟨.type n0, _, .cls cd, sl⟩ => decide (n0 = "type") && (match cd.mro, sl.toList with
    | .ref C' :: bm, [_, _, _, _, some (.builtin n), _] => decide (C' = C) && decide (n = B.newId) && !cd.hasDel && cd.hasDict && PySem.W.excTail B.bm bm && !bm.isEmpty
    | _, _ => false)
  | _ => false) && He.eqO (PySem.W.findIn K (.ref C) "__setattr__") (some (some (.builtin "object.__setattr__"))) && eqOB (PySem.W.subIn K (.ref C) (.type "BaseException")) (some true) && decide (PySem.W.typeIn K (.ref C) = some (.type "type")) && PySem.W.keepIn K (.ref C)
theorem errCB_ok {K : PySem.W.Frag} {C : Addr} {B : PySem.EvX.EB} (q : errCB K C B = true) : ErrC K C B := by
  unfold errCB at q
  simp only [Bool.and_eq_true] at q
  obtain ⟨⟨⟨⟨q, h2⟩, h3⟩, h4⟩, h5⟩ := q
  refine ⟨?_, He.eqO_ok h2, eqOB_ok h3, of_decide_eq_true h4, h5⟩
  split at q
  · rename_i n0 dd cd sl ho
    rw [Bool.and_eq_true] at q
    obtain ⟨q0, q⟩ := q
    have e0 := of_decide_eq_true q0
    subst e0
    split at q
    · rename_i C' bm k0 k1 k2 k3 n k5 hm hs
      simp only [Bool.and_eq_true, decide_eq_true_eq, Bool.not_eq_true'] at q
      obtain ⟨⟨⟨⟨⟨rfl, rfl⟩, hdel⟩, hdi⟩, ht⟩, hne⟩ := q
      obtain ⟨nm, bs, mro, ns, qn, hd, sn, sub, ab, col, del⟩ := cd
      dsimp only at hm hdel hdi
      subst hm hdel hdi
      have hsl : sl = #[k0, k1, k2, k3, some (.builtin B.newId), k5] := by
        obtain ⟨l⟩ := sl
        simp only at hs
        rw [hs]
      subst hsl
      exact ⟨nm, qn, ns, bs, bm, sn, sub, ab, col, dd, k0, k1, k2, k3, k5, ho, ht, hne⟩
    · cases q
  · cases q
def isBI (o : Option PySem.W.CFound) (s : String) : Bool := match o with
  | some (.val (.builtin n)) => decide (n = s)
  | _ => false
theorem isBI_ok {o : Option PySem.W.CFound} {s : String} (h : isBI o s = true) : o = some (.val (.builtin s)) := by
  unfold isBI at h
  split at h
  · rw [of_decide_eq_true h]
  · cases h
def baseB (K : PySem.W.Frag) (E : ED) : Bool := if (He.Fa.free E.bx).ok K then strEq E.bx (E.bk.eb.B : Str) && isBI (PySem.W.findCls K (.type E.bk.eb.B) (.type "type") "__init__") E.bk.eb.initId
  else (He.Fa.glo E.bx).ok K && PySem.W.readsIn K (He.ga K E.bx) (.type "type") && He.eqO (PySem.W.specialIn K (.ref (He.ga K E.bx)) "__getattribute__") (some (some (.builtin "type.__getattribute__"))) && isBI (PySem.W.findCls K (.ref (He.ga K E.bx)) (.type "type") "__init__") E.bk.eb.initId
def errB (M : Nms) (K : PySem.W.Frag) (c : Nat) (E : ED) : Bool := errCB K (cAd M K c) E.bk.eb && He.eqO (PySem.W.findIn K (.ref (cAd M K c)) "__init__") (some (some (.ref (He.fAd K E.d.at_)))) && decide (PySem.W.typeIn K (.ref (He.fAd K E.d.at_)) = some (.type "function")) && defB K E.d [] [] && xfB K (cAd M K c) &&
  He.eqO (PySem.W.findIn K (.ref (cAd M K c)) E.f) (some none) && baseB K E
def errsB (M : Nms) (K : PySem.W.Frag) : Nat → List (Option ED) → Bool
  | _, [] => true
  | c, o :: r => (match o with
    | some E => errB M K c E
    | none => true) && errsB M K (c + 1) r
theorem errsB_ok {M : Nms} {K : PySem.W.Frag} : ∀ {l : List (Option ED)} {k c : Nat} {E : ED}, errsB M K k l = true → nth l c = some (some E) → errB M K (k + c) E = true
  | [], _, _, _, _, h => by cases h
  | a :: r, k, 0, E, h, e => by
    cases e
    exact (Bool.and_eq_true_iff.mp h).1
  | a :: r, k, c + 1, E, h, e => by
    have := errsB_ok (l := r) (k := k + 1) (c := c) (E := E) (Bool.and_eq_true_iff.mp h).2 e
    rw [show k + (c + 1) = k + 1 + c by omega]
    exact this
def eds (Es : List (Option ED)) : List ED := Es.filterMap id
abbrev Al : Type := Bool × List He.FnW
def obsB (M : Nms) (P : Pg) (Fs : List FD) (Es : List (Option ED)) (K : PySem.W.Frag) : Bool := (bltNames.all fun x => (He.Fa.free x).ok K) && glbB K M.gl P.glb && Fs.all (fun F => defB K F.d F.dd F.kd && gloB K F) && namB K M.cl && clsB M P Fs K 0 P.cls && kitNB M P K && errsB M K 0 Es
def obsK (M : Nms) (P : Pg) (Fs : List FD) (Es : List (Option ED)) (K : PySem.W.Frag) : Al := (obsB M P Fs Es K, (Fs.map fun F => He.fnW K F.d.at_) ++ (eds Es).map fun E => He.fnW K E.d.at_)
def valK (Fs : List FD) (Es : List (Option ED)) : Al := (true, (Fs.map fun F => F.d.val) ++ (eds Es).map fun E => E.d.val)
def obsKG (n : Nat) (M : Nms) (P : Pg) (Fs : List FD) (Es : List (Option ED)) (g : Addr → Option Obj) : Al := obsK M P Fs Es (He.frG g (He.asD g n ++ [cStatics]))
def hookK (n : Nat) (M : Nms) (P : Pg) (Fs : List FD) (Es : List (Option ED)) : PySem.W.Hook where
  α := Al
  obs := fun s => obsKG n M P Fs Es s.heap.get?
  val := fun _ => valK Fs Es
  says := fun _ h => ∃ K : PySem.W.Frag, K.In h ∧ obsK M P Fs Es K = valK Fs Es
  of := fun _ _ e => ⟨_, He.frG_in, e⟩
  keeps := fun _ _ _ ⟨K, hK, c⟩ k => ⟨K, PySem.W.Frag.In.keeps hK k, c⟩
def obT (n : Nat) (M : Nms) (P : Pg) (Fs : List FD) (Es : List (Option ED)) (s : PySem.W.SharedT) : Al := obsKG n M P Fs Es (HandSHeadRun.getT s)
theorem obT_eq {n : Nat} {M : Nms} {P : Pg} {Fs : List FD} {Es : List (Option ED)} (s : PySem.W.SharedT) : obT n M P Fs Es s = (hookK n M P Fs Es).obs s.abs := by
  have e : HandSHeadRun.getT s = s.abs.heap.get? := funext (HandSHeadRun.getT_eq s)
  unfold obT
  rw [e]
  rfl
/-- the defs' names -/
def fnNames (Fs : List FD) : List (Option Str) := Fs.map fun F => match F.d.at_.2 with
  | none => if F.dd.isEmpty && F.kd.isEmpty then some F.d.at_.1 else none
  | some _ => none
theorem nth_map {α β : Type} (f : α → β) : ∀ (l : List α) (i : Nat), nth (l.map f) i = (nth l i).map f
  | [], _ => rfl
  | _ :: _, 0 => rfl
  | _ :: r, i + 1 => nth_map f r i
theorem nth_mem {α : Type} : ∀ {l : List α} {i : Nat} {x : α}, nth l i = some x → x ∈ l
  | [], _, _, h => by cases h
  | _ :: _, 0, _, h => by cases h; exact List.mem_cons_self
  | _ :: r, i + 1, _, h => List.mem_cons_of_mem _ (nth_mem (l := r) h)
theorem mem_all {α : Type} {l : List α} {f g : α → He.FnW} (h : l.map f = l.map g) {x : α} (hx : x ∈ l) : f x = g x := List.map_inj_left.mp h x hx
/-- each def's text is the evaluator's -/
def Texts (P : Pg) (M : Nms) (Fs : List FD) : Prop := ∀ (f : Nat) (F : FD), nth Fs f = some F → ∃ fn, nth P.fns f = some fn ∧ Text P M F fn
def ErrTs (Es : List (Option ED)) : Prop := ∀ E ∈ eds Es, ErrT E
/-- the ways of binding -/
def Kbs (P : Pg) (M : Nms) (Fs : List FD) : Prop := ∀ b kb ox m ks, nth P.kbs b = some kb → nth M.kb b = some (ox, m, ks) → kb.n = m ∧ ks.length = kb.m ∧ ∃ F, nth Fs kb.f = some F ∧ KbTx F kb ox.isNone ks ∧ ∀ x, ox = some x → F.d.at_ = (x, none)
/-- plain things: names are apart, lists go together -/
structure Tied (P : Pg) (M : Nms) (Fs : List FD) (Es : List (Option ED)) : Prop where
  fn : M.fn = fnNames Fs
  er : M.er = Es.map (Option.map (·.f))
  cl : M.cl.length = P.cls.length
  eh : M.eh = P.exh
  nd : ndStr M.at_ = true
  nz : M.at_.all (fun x => match x.cps.toList with
    | 0 :: _ => false
    | _ => true) = true
  hi : P.isd.all (fun d => Nat.blt d M.cl.length) = true
  tx : Texts P M Fs
  et : ErrTs Es
  kb : Kbs P M Fs
theorem nth_inj : ∀ {l : List Str} {x : Str}, l.Nodup → ∀ i j, nth l i = some x → nth l j = some x → i = j
  | [], _, _, _, _, h, _ => by cases h
  | y :: r, x, nd, 0, 0, h1, h2 => rfl
  | y :: r, x, nd, 0, j + 1, h1, h2 => by
    cases h1
    exact ((List.nodup_cons.mp nd).1 (nth_mem (l := r) (i := j) h2)).elim
  | y :: r, x, nd, i + 1, 0, h1, h2 => by
    cases h2
    exact ((List.nodup_cons.mp nd).1 (nth_mem (l := r) (i := i) h1)).elim
  | y :: r, x, nd, i + 1, j + 1, h1, h2 => by rw [nth_inj (l := r) (List.nodup_cons.mp nd).2 i j h1 h2]
theorem atN_inj {l : List Str} (nd : ndStr l = true) (nz : l.all (fun x => match x.cps.toList with
    | 0 :: _ => false
    | _ => true) = true) : ∀ i j, atN l i = atN l j → i = j := by
  intro i j e
  unfold atN at e
  have hz : ∀ k x f, nth l k = some x → x = (⟨#[0, f]⟩ : Str) → False := fun k x f h1 h2 => by
    have := List.all_eq_true.mp nz x (nth_mem h1)
    rw [h2] at this
    cases this
  cases qi : nth l i with
  | some x =>
    rw [qi] at e
    cases qj : nth l j with
    | some y =>
      rw [qj] at e
      simp only at e
      subst e
      exact nth_inj (ndStr_at nd) i j qi qj
    | none =>
      rw [qj] at e
      exact (hz i x j qi e).elim
  | none =>
    rw [qi] at e
    cases qj : nth l j with
    | some y =>
      rw [qj] at e
      exact (hz j y i qj e.symm).elim
    | none =>
      rw [qj] at e
      simpa using e
def erA (Es : List (Option ED)) (c : Nat) : Str := match nth Es c with
  | some (some E) => E.f
  | _ => Str.empty
def tabOf (P : Pg) (M : Nms) (Fs : List FD) (Es : List (Option ED)) (t : Tied P M Fs Es) (K : PySem.W.Frag) : TabX := { K := K, cA := cAd M K, fN := atN M.at_, fI := atN_inj t.nd t.nz, eA := erA Es }
theorem ty_all (b : Ty) : b ∈ Ty.all := by cases b <;> decide
theorem world_of {P : Pg} {M : Nms} {Fs : List FD} {Es : List (Option ED)} {K : PySem.W.Frag} {mg : Str → Option Value} {h : Heap} (t : Tied P M Fs Es) (X : K.In h) (G : h.Ns mainGlobals mg) (c : obsK M P Fs Es K = valK Fs Es) : World0 P (tabOf P M Fs Es t K) M Fs Es (fAt Fs K) K mg := by
  have c1 : obsB M P Fs Es K = true := congrArg (fun z : Al => z.1) c
  have c2 : (Fs.map fun F => He.fnW K F.d.at_) ++ (eds Es).map (fun E => He.fnW K E.d.at_) = (Fs.map fun F => F.d.val) ++ (eds Es).map fun E => E.d.val := congrArg (fun z : Al => z.2) c
  obtain ⟨c3, c4⟩ := List.append_inj c2 (by rw [List.length_map, List.length_map])
  unfold obsB at c1
  simp only [Bool.and_eq_true] at c1
  obtain ⟨⟨⟨⟨⟨⟨k1, k2⟩, k3⟩, k4⟩, k5⟩, k6⟩, k7⟩ := c1
  have hcls : ∀ c cl, nth P.cls c = some cl → clB M P Fs K c cl = true := fun c cl hc => by
    have := clsB_ok k5 hc
    rw [Nat.zero_add] at this
    exact this
  have hfA : ∀ f F, nth Fs f = some F → fAt Fs K f = He.fAd K F.d.at_ := fun f F hF => by
    unfold fAt
    rw [hF]
  have hglo : ∀ f F x, nth Fs f = some F → F.d.at_ = (x, none) → mg x = some (.ref (fAt Fs K f)) := fun f F x hF ha => by
    have k4 := List.all_eq_true.mp k3 F (nth_mem hF)
    rw [Bool.and_eq_true] at k4
    have k5 := k4.2
    unfold gloB at k5
    rw [ha] at k5
    rw [hfA f F hF, He.glo_ok X G k5]
    unfold He.fAd
    rw [ha]
  refine { hK := rfl, blt := fun x hx => He.free_ok X G (List.all_eq_true.mp k1 x hx), gls := fun g x w h1 h2 => ?_, fun_ := fun f F hF => ?_, nam := fun f x hx => ?_, txt := t.tx, kit := ?_, att := fun f x hx => ?_, cls := fun c x hx => ?_, fld := fun c cl f hc hf => ?_, mth := fun c cl m g hc hm => ?_, mks := fun c cl b kb hc hb e => ?_, kbs := fun b kb ox m ks h1 h2 => ?_, exh := fun c cl d hc hd => ?_, eh := t.eh, err := fun c x f h1 h2 => ?_ }
  · obtain ⟨u, e, hu⟩ := glbB_ok k2 h1 h2
    obtain ⟨v, rv, hv⟩ := gcB_ok (T := tabOf P M Fs Es t K) hu
    exact ⟨u, v, PySem.W.mg_of X G e, rv, hv⟩
  · have k4 := List.all_eq_true.mp k3 F (nth_mem hF)
    rw [Bool.and_eq_true] at k4
    obtain ⟨fd, dvs, kws, D, h1, h2, h3⟩ := defB_ok (T := tabOf P M Fs Es t K) (mem_all c3 (nth_mem hF)) k4.1
    rw [hfA f F hF]
    exact ⟨fd, dvs, kws, D, h1, h2, h3⟩
  · rw [t.fn] at hx
    unfold fnNames at hx
    rw [nth_map] at hx
    cases q : nth Fs f with
    | none => rw [q] at hx; cases hx
    | some F =>
      rw [q] at hx
      have hx := Option.some.inj hx
      simp only at hx
      split at hx
      · rename_i qa
        split at hx
        · rename_i qb
          rw [Bool.and_eq_true, List.isEmpty_iff, List.isEmpty_iff] at qb
          cases hx
          exact ⟨hglo f F _ q (by rw [← qa]), F, rfl, qb.1, qb.2⟩
        · cases hx
      · cases hx
  · refine ⟨fun c cl d hc hd => ?_, fun c cl b hc => ?_, fun a d ha hd => ?_, fun d hd => ?_⟩
    · have := hcls c cl hc
      unfold clB at this
      simp only [Bool.and_eq_true] at this
      obtain ⟨e, he1, he2⟩ := List.any_eq_true.mp hd
      have ed := Nat.eq_of_beq_eq_true he2
      subst ed
      exact eqOB_ok (List.all_eq_true.mp this.1.1.1.1.1 _ he1)
    · have := hcls c cl hc
      unfold clB at this
      simp only [Bool.and_eq_true] at this
      exact eqOB_ok (List.all_eq_true.mp this.1.1.1.1.2 b (ty_all b))
    · obtain ⟨e, he1, he2⟩ := List.any_eq_true.mp hd
      have ed := Nat.eq_of_beq_eq_true he2
      subst ed
      have := List.all_eq_true.mp k6 _ he1
      rw [Bool.and_eq_true] at this
      exact eqOB_ok (List.all_eq_true.mp this.1 a ha)
    · obtain ⟨e, he1, he2⟩ := List.any_eq_true.mp hd
      have ed := Nat.eq_of_beq_eq_true he2
      subst ed
      have := List.all_eq_true.mp k6 _ he1
      rw [Bool.and_eq_true] at this
      exact eqOB_ok this.2
  · show atN M.at_ f = x
    unfold atN
    rw [hx]
  · show mg x = some (.ref (cAd M K c))
    unfold cAd
    rw [hx]
    exact He.glo_ok X G (List.all_eq_true.mp k4 x (nth_mem hx))
  · have := hcls c cl hc
    unfold clB at this
    simp only [Bool.and_eq_true] at this
    obtain ⟨e, he1, he2⟩ := List.any_eq_true.mp hf
    have ed := Nat.eq_of_beq_eq_true he2
    subst ed
    exact He.eqO_ok (List.all_eq_true.mp this.1.1.2 _ he1)
  · have := hcls c cl hc
    unfold clB at this
    simp only [Bool.and_eq_true] at this
    obtain ⟨q, hq1, hq2, hq3⟩ := mlook_mem hm
    have h1 := List.all_eq_true.mp this.1.2 q hq1
    rw [Bool.and_eq_true, hq2, hq3] at h1
    exact ⟨methB_ok h1.1, bareF_ok h1.2⟩
  · have := hcls c cl hc
    unfold clB at this
    simp only [Bool.and_eq_true, Bool.or_eq_true, Bool.not_eq_true'] at this
    rcases this.2 with z | z
    · have : P.kbs.any (fun kb => Nat.beq kb.f cl.ini) = true := List.any_eq_true.mpr ⟨kb, nth_mem hb, by rw [e]; exact Nat.beq_refl _⟩
      rw [this] at z
      cases z
    · exact ⟨ciB_ok z.1, mkB_ok z.2⟩
  · obtain ⟨g1, g2, F, g3, g4, g5⟩ := t.kb b kb ox m ks h1 h2
    exact ⟨g1, g2, ⟨F, g3, g4⟩, fun x hx => hglo kb.f F x g3 (g5 x hx)⟩
  · have := hcls c cl hc
    unfold clB at this
    simp only [Bool.and_eq_true] at this
    obtain ⟨e, he1, he2⟩ := List.any_eq_true.mp hd
    have ed := Nat.eq_of_beq_eq_true he2
    subst ed
    exact eqOB_ok (List.all_eq_true.mp this.1.1.1.2 _ he1)
  · rw [t.er, nth_map] at h2
    cases q : nth Es c with
    | none => rw [q] at h2; cases h2
    | some o =>
      rw [q] at h2
      cases o with
      | none => cases h2
      | some E =>
        cases h2
        have mE : E ∈ eds Es := List.mem_filterMap.mpr ⟨some E, nth_mem q, rfl⟩
        have hE := errsB_ok k7 q
        rw [Nat.zero_add] at hE
        unfold errB at hE
        simp only [Bool.and_eq_true] at hE
        obtain ⟨⟨⟨⟨⟨⟨e1, e2⟩, e3⟩, e4⟩, e5⟩, e6⟩, e7⟩ := hE
        obtain ⟨fd, dvs, kws, D, d1, d2, d3⟩ := defB_ok (T := tabOf P M Fs Es t K) (mem_all c4 mE) e4
        cases d1
        cases kws with
        | cons _ _ => cases d3
        | nil =>
          refine ⟨E, rfl, ⟨?_, ?_, errCB_ok e1, ⟨_, fd, He.eqO_ok e2, of_decide_eq_true e3, D⟩, xfB_ok e5, He.eqO_ok e6, ?_⟩, t.et E mE⟩
          · show mg x = some (.ref (cAd M K c))
            unfold cAd
            rw [h1]
            exact He.glo_ok X G (List.all_eq_true.mp k4 x (nth_mem h1))
          · show erA Es c = E.f
            unfold erA
            rw [q]
          · unfold baseB at e7
            split at e7
            · rename_i hfree
              rw [Bool.and_eq_true, strEq_eq] at e7
              have eb := eq_of_beq e7.1
              refine .inl ⟨isBI_ok e7.2, He.free_ok X G hfree, ?_⟩
              rw [eb]
              cases E.bk
              · exact PyProof.Rows.Boot.«ValueError»
              · exact PyProof.Rows.Boot.«OverflowError»
              · exact PyProof.Rows.Boot.«RuntimeError»
            · simp only [Bool.and_eq_true] at e7
              obtain ⟨⟨⟨b1, b2⟩, b3⟩, b4⟩ := e7
              exact .inr ⟨_, He.glo_ok X G b1, b2, He.eqO_ok b3, isBI_ok b4⟩
def CXW (prog : Program) : CXT := fun outer H s E e s' => ∃ w, L2.CX prog w outer H s E e s'
theorem fnOk_wide {prog : Program} {w : World} {K : PySem.W.Frag} {mg : Str → Option Value} {base : Heap} {k : Nat} {f : Addr} {fd : FuncData} {ps : List Str} {sp : Sp} (F : FnOk prog w K mg base (L2.CX prog w) k f fd ps sp) : FnOk prog w K mg base (CXW prog) k f fd ps sp := by
  refine ⟨F.len, fun A outer s H args us vs Q E hr e0 hb hv hs => codeAny_mono (F.run A outer s H args us vs Q E hr e0 hb hv hs) fun r s' h => ?_⟩
  cases r with
  | ok fl => cases fl <;> exact h
  | error e => exact ⟨w, h⟩
theorem cxw_no {prog : Program} (H : Hp) (s : Shared) (e : Value) (s' : Shared) (h : CXW prog [] H s (fun _ _ _ => False) e s') : False := by
  obtain ⟨w, a, B, H', cls, d, _, _, _, _, _, _, _, z⟩ := h
  exact z
theorem law_of {P : Pg} {M : Nms} {Fs : List FD} {Es : List (Option ED)} {prog : Program} {n k f : Nat} {F : FD} {x : Str} (t : Tied P M Fs Es) (hF : nth Fs f = some F) (hx : F.ps = [x]) (hd : F.dd = []) (hk : F.kd = []) (hat : F.d.at_ = (("law" : Str), (none : Option Str)))
    (plain : ∀ ns : List Int, ns.length ≤ n → ∃ h, callN P k f [.scr ns] Hep.nil = .ok (.bl true) h)
    (w : World) (mg : Str → Option Value) (fa : Addr) (h : Heap) (Y : ∃ K : PySem.W.Frag, K.In h ∧ obsK M P Fs Es K = valK Fs Es) (G : h.Ns mainGlobals mg) (hmg : mg "law" = some (.ref fa)) :
      ∃ (K : PySem.W.Frag) (fd : FuncData) (sp : Sp), K.In h ∧ (∀ (s : Shared) (u : Value), BindsTo s fd ⟨[u], []⟩ [(x, u)]) ∧
        (∀ (H : Hp) (a : Addr) (ns : List Int), ns.length ≤ n → Only H → SqL K H a (ns.map V.int) → sp [.ref a] H (fun v _ => v = .bl true) fun _ _ _ => False) ∧
        ∀ base : Heap, K.In base → base.Ns mainGlobals mg → FnOk prog w K mg base (CXW prog) k fa fd [x] sp := by
  obtain ⟨K, KX, c⟩ := Y
  have C : World0 P (tabOf P M Fs Es t K) M Fs Es (fAt Fs K) K mg := world_of t KX G c
  obtain ⟨fd, dvs, kws, D, d1, d2, d3⟩ := C.fun_ f F hF
  rw [hd] at d1
  cases d1
  obtain ⟨fn, hfn, tF⟩ := t.tx f F hF
  have hn : nth M.fn f = some (some ("law" : Str)) := by
    rw [t.fn]
    unfold fnNames
    rw [nth_map, hF]
    show some (match F.d.at_.2 with
      | none => if F.dd.isEmpty && F.kd.isEmpty then some F.d.at_.1 else none
      | some _ => none) = _
    rw [hat, hd, hk]
    rfl
  have e := hmg.symm.trans (C.nam f "law" hn).1
  cases e
  have hb := tF.bind hd hk
  rw [hx] at hb
  refine ⟨K, fd, spEv P (tabOf P M Fs Es t K) k f fn.np, KX, fun s u => ?_, fun H a ns hl hO hS => ?_, fun base _ _ => ?_⟩
  · exact FunD.bindsA (ps := [x]) D hb s [u] rfl
  · obtain ⟨h', e⟩ := plain ns hl
    refine ⟨?_, ⟨fun _ => none, fun q => q = a ∧ ∃ u, H q = some u ∧ Nx u⟩, [.scr ns], Hep.nil, ⟨fun a o e => ?_, fun a b p e => ?_, fun a p e => ?_, fun a p o e => ?_, fun q z => ?_⟩, .cons (.scr ?_) .nil, ?_⟩
    · rw [tF.np, hx]
      rfl
    · cases e
    · cases e
    · cases e
    · cases e
    · exact z.2
    · rcases hS with hS | hS
      · refine .inl ⟨⟨rfl, ?_⟩, hS⟩
        rcases hS with hS | ⟨o, hS⟩
        · exact ⟨_, hS, fun fs e => by cases e⟩
        · exact ⟨_, hS, fun fs e => by cases e⟩
      · exact .inr hS
    · rw [e]
      intro r' v H' _ _ rv
      cases rv
      rfl
  · have := fns_ok (base := base) (prog := prog) (w := w) C k f F fn fd _ _ hF hfn D
    rw [hx] at this
    exact fnOk_wide this
end Ev

namespace Ev
open PySem
/-- a step that simp writes down -/
theorem nr {α : Sort _} {a b : α} (h : a = b) : a = b := h
section
variable {α β : Type}
@[simp] theorem bind_ok (a : α) (h : Hep) (f : α → Hep → Out β) : (Out.ok a h).bind f = f a h := nr rfl
@[simp] theorem bind_bad (f : α → Hep → Out β) : (Out.bad : Out α).bind f = .bad := nr rfl
@[simp] theorem bind_exc (c : Nat) (p : W) (h : Hep) (f : α → Hep → Out β) : (Out.exc c p h : Out α).bind f = .exc c p h := nr rfl
@[simp] theorem stm_ok (a : α) (h : Hep) (e : Env) (k : α → Hep → OutS) : (Out.ok a h).stm e k = k a h := nr rfl
@[simp] theorem stm_exc (c : Nat) (p : W) (h : Hep) (e : Env) (k : α → Hep → OutS) : (Out.exc c p h : Out α).stm e k = .exc c p e h := nr rfl
@[simp] theorem som_some (a : α) (h : Hep) : Out.some' (some a) h = .ok a h := nr rfl
@[simp] theorem calm_ok (a : α) (h : Hep) : (Out.ok a h).calm = .ok a h := nr rfl
end
@[simp] theorem seq_nx (e : Env) (h : Hep) (k : Env → Hep → OutS) : (OutS.ok .nx e h).seq k = k e h := nr rfl
@[simp] theorem seq_ret (w : W) (e : Env) (h : Hep) (k : Env → Hep → OutS) : (OutS.ok (.ret w) e h).seq k = .ok (.ret w) e h := nr rfl
@[simp] theorem seq_brk (e : Env) (h : Hep) (k : Env → Hep → OutS) : (OutS.ok .brk e h).seq k = .ok .brk e h := nr rfl
@[simp] theorem seq_cnt (e : Env) (h : Hep) (k : Env → Hep → OutS) : (OutS.ok .cnt e h).seq k = .ok .cnt e h := nr rfl
@[simp] theorem turn_nx (e : Env) (h : Hep) (k : Env → Hep → OutS) : (OutS.ok .nx e h).turn k = k e h := nr rfl
@[simp] theorem turn_cnt (e : Env) (h : Hep) (k : Env → Hep → OutS) : (OutS.ok .cnt e h).turn k = k e h := nr rfl
@[simp] theorem turn_brk (e : Env) (h : Hep) (k : Env → Hep → OutS) : (OutS.ok .brk e h).turn k = .ok .nx e h := nr rfl
@[simp] theorem turn_ret (w : W) (e : Env) (h : Hep) (k : Env → Hep → OutS) : (OutS.ok (.ret w) e h).turn k = .ok (.ret w) e h := nr rfl
@[simp] theorem res_ret (w : W) (e : Env) (h : Hep) : (OutS.ok (.ret w) e h).res = .ok w h := nr rfl
@[simp] theorem res_nx (e : Env) (h : Hep) : (OutS.ok .nx e h).res = .ok .non h := nr rfl
@[simp] theorem seq_exc (c : Nat) (p : W) (e : Env) (h : Hep) (k : Env → Hep → OutS) : (OutS.exc c p e h).seq k = .exc c p e h := nr rfl
@[simp] theorem turn_exc (c : Nat) (p : W) (e : Env) (h : Hep) (k : Env → Hep → OutS) : (OutS.exc c p e h).turn k = .exc c p e h := nr rfl
@[simp] theorem fin_ok (n : Nat) (w : W) (h : Hep) : (Out.ok w h).fin n = .ok w (h.ends n w) := nr rfl
@[simp] theorem fin_exc (n c : Nat) (p : W) (h : Hep) : (Out.exc c p h).fin n = .exc c p (h.ends n p) := nr rfl
@[simp] theorem ends_same (w : W) (h : Hep) : h.ends h.n w = h := by
  unfold Hep.ends
  rw [if_pos (Nat.le_refl _)]
@[simp] theorem res_exc (c : Nat) (p : W) (e : Env) (h : Hep) : (OutS.exc c p e h).res = .exc c p h := nr rfl
@[simp] theorem nth_z {α : Type} (x : α) (r : List α) : nth (x :: r) 0 = some x := nr rfl
@[simp] theorem nth_s {α : Type} (x : α) (r : List α) (k : Nat) : nth (x :: r) (k + 1) = nth r k := nr rfl
@[simp] theorem nth_nil {α : Type} (k : Nat) : nth ([] : List α) k = none := nr rfl
@[simp] theorem orc_make (P : Pg) (n : Nat) : (orcN P (n + 1)).make = callN P n := nr rfl
@[simp] theorem orc_ok (P : Pg) (n : Nat) : (orcN P (n + 2)).ok = true := nr rfl
@[simp] theorem orc_call (P : Pg) (n : Nat) : (orcN P n).call = callN P n := nr rfl
@[simp] theorem truth_bl (h : Hep) (b : Bool) : truth h (.bl b) = some b := nr rfl
@[simp] theorem truth_int (h : Hep) (i : Int) : truth h (.int i) = some (i != 0) := nr rfl
@[simp] theorem truth_non (h : Hep) : truth h .non = some false := nr rfl
@[simp] theorem truth_tup (h : Hep) (xs : List W) : truth h (.tup xs) = some (!xs.isEmpty) := nr rfl
theorem truth_lst {h : Hep} {a : Nat} {xs : List W} (e : h.get a = some (.lst xs)) : truth h (.ref a) = some (!xs.isEmpty) := by
  unfold truth
  simp only
  rw [e]
theorem list_ref {h : Hep} {a : Nat} {xs : List W} (e : h.get a = some (.lst xs)) : listOf h (.ref a) = some xs := by
  unfold listOf
  simp only
  rw [e]
@[simp] theorem seq_tup (h : Hep) (xs : List W) : seqOf h (.tup xs) = some xs := nr rfl
@[simp] theorem seq_lst (h : Hep) (xs : List W) : seqOf h (.lst xs) = some xs := nr rfl
@[simp] theorem list_lst (h : Hep) (xs : List W) : listOf h (.lst xs) = some xs := nr rfl
@[simp] theorem list_scr (h : Hep) (ns : List Int) : listOf h (.scr ns) = some (ns.map W.int) := nr rfl
@[simp] theorem seq_scr (h : Hep) (ns : List Int) : seqOf h (.scr ns) = some (ns.map W.int) := nr rfl
@[simp] theorem truth_lsv (h : Hep) (xs : List W) : truth h (.lst xs) = some (!xs.isEmpty) := nr rfl
@[simp] theorem seq_ref (h : Hep) (a : Nat) : seqOf h (.ref a) = listOf h (.ref a) := nr rfl
section
variable (P : Pg) (C : Orc)
def kBin (op : Operator) (b : Ex) (e : Env) (x : W) (h : Hep) : Out W := (ev P C b e h).bind (binop op x)
def kCmp (op : CmpOp) (b : Ex) (e : Env) (x : W) (h : Hep) : Out W := (ev P C b e h).bind (cmpop op x)
def kNeg (x : W) (h : Hep) : Out W := match x with
  | .int i => .ok (.int (-i)) h
  | _ => .bad
def kChn3 (o2 : CmpOp) (c : Ex) (e : Env) (y r : W) (h : Hep) : Out W := match r with
  | .bl true => (ev P C c e h).bind (cmpop o2 y)
  | .bl false => .ok (.bl false) h
  | _ => .bad
def kChn2 (o1 o2 : CmpOp) (c : Ex) (e : Env) (x y : W) (h : Hep) : Out W := (cmpop o1 x y h).bind (kChn3 P C o2 c e y)
def kChn1 (o1 o2 : CmpOp) (b c : Ex) (e : Env) (x : W) (h : Hep) : Out W := (ev P C b e h).bind (kChn2 P C o1 o2 c e x)
def pickAnd (b : Ex) (e : Env) (x : W) (h : Hep) (t : Option Bool) : Out W := match t with
  | some true => ev P C b e h
  | some false => .ok x h
  | none => .bad
def kAnd (b : Ex) (e : Env) (x : W) (h : Hep) : Out W := pickAnd P C b e x h (truth h x)
def pickOr (b : Ex) (e : Env) (x : W) (h : Hep) (t : Option Bool) : Out W := match t with
  | some true => .ok x h
  | some false => ev P C b e h
  | none => .bad
def kOr (b : Ex) (e : Env) (x : W) (h : Hep) : Out W := pickOr P C b e x h (truth h x)
def kNot (x : W) (h : Hep) : Out W := .some' ((truth h x).map fun k => .bl (!k)) h
def pickIf (a b : Ex) (e : Env) (h : Hep) (t : Option Bool) : Out W := match t with
  | some true => ev P C a e h
  | some false => ev P C b e h
  | none => .bad
def kIfe (a b : Ex) (e : Env) (x : W) (h : Hep) : Out W := pickIf P C a b e h (truth h x)
def kIdx (i : Ex) (e : Env) (x : W) (h : Hep) : Out W := (ev P C i e h).bind (index x)
def kSlL2 (x y : W) (h : Hep) : Out W := match asInt y with
  | some i => slice x (some i) none h
  | none => .bad
def kSlL (lo : Ex) (e : Env) (x : W) (h : Hep) : Out W := (ev P C lo e h).bind (kSlL2 x)
def kSlH2 (x y : W) (h : Hep) : Out W := match asInt y with
  | some i => slice x none (some i) h
  | none => .bad
def kSlH (hi : Ex) (e : Env) (x : W) (h : Hep) : Out W := (ev P C hi e h).bind (kSlH2 x)
def kTup (ws : List W) (h : Hep) : Out W := newT h ws
def kLst (m : Bool) (ws : List W) (h : Hep) : Out W := newL m h ws
def kCons2 (x : W) (xs : List W) (h : Hep) : Out (List W) := .ok (x :: xs) h
def kCons (r : List Ex) (e : Env) (x : W) (h : Hep) : Out (List W) := (evs P C r e h).bind (kCons2 x)
def kBmt (m : Bm) (es : List Ex) (e : Env) (x : W) (h : Hep) : Out W := if recv m x h then (evs P C es e h).bind (bmt m x) else .bad
def kTst (x : W) (h : Hep) : Out Bool := .some' (truth h x) h
def kFld2 (f : Nat) (h : Hep) (o : Option (Nat × List (Nat × W))) : Out W := match o with
  | some (_, fs) => .some' (flook fs f) h
  | none => .bad
def kFld (f : Nat) (x : W) (h : Hep) : Out W := kFld2 f h (clsFs h x)
def kMth4 (g : Nat) (x : W) (ws : List W) (h : Hep) : Out W := C.call g (x :: ws) h
def kMth3 (es : List Ex) (e : Env) (x : W) (h : Hep) (o : Option Nat) : Out W := match o with
  | some g => (evs P C es e h).bind (kMth4 C g x)
  | none => .bad
def kMth2 (m : Nat) (es : List Ex) (e : Env) (x : W) (h : Hep) (o : Option (Nat × List (Nat × W))) : Out W := match o with
  | some (c, fs) => (match flook fs m, nth P.cls c with
    | none, some cl => kMth3 P C es e x h (mlook cl.mts m)
    | _, _ => .bad)
  | none => .bad
def kMth (m : Nat) (es : List Ex) (e : Env) (x : W) (h : Hep) : Out W := kMth2 P C m es e x h (clsFs h x)
def kMak3 (cl : Cl) (a : Nat) (r : W) (h : Hep) : Out W := made cl a r h
def kMak2 (c : Nat) (cl : Cl) (h : Hep) (o : Option (List W)) : Out W := match o with
  | some as => (C.make cl.ini (.ref h.n :: as) (h.push (.ins c []))).bind (kMak3 cl h.n)
  | none => .bad
def kMak (c : Nat) (cl : Cl) (kb : Kb) (ws : List W) (h : Hep) : Out W := kMak2 C c cl h (kb.arr ws)
def kClk2 (kb : Kb) (h : Hep) (o : Option (List W)) : Out W := match o with
  | some as => C.call kb.f as h
  | none => .bad
def kClk (kb : Kb) (ws : List W) (h : Hep) : Out W := kClk2 C kb h (kb.arr ws)
def kDct (m : Bool) (ws : List W) (h : Hep) : Out W := newD m h ws
def kLaid (m : Bool) (acc : List (W × W)) (h : Hep) : Out W := laidD m h acc
def kLsS2 (ws : List W) (h : Hep) (o : Option (List W)) : Out W := match o with
  | some xs => newL false h (ws ++ xs)
  | none => .bad
def kLsS1 (ws : List W) (x : W) (h : Hep) : Out W := kLsS2 ws h (seqOf h x)
def kLsS (b : Ex) (e : Env) (ws : List W) (h : Hep) : Out W := (ev P C b e h).bind (kLsS1 ws)
def dcoB3 (acc : List (W × W)) (x y : W) (h : Hep) : Out (List (W × W)) := growD acc x y h
def dcoB2 (ve : Ex) (e : Env) (acc : List (W × W)) (x : W) (h : Hep) : Out (List (W × W)) := (ev P C ve e h).bind (dcoB3 acc x)
def dcoB1 (ke ve : Ex) (e : Env) (acc : List (W × W)) (b : Bool) (h : Hep) : Out (List (W × W)) := if b then (ev P C ke e h).bind (dcoB2 P C ve e acc) else .ok acc h
def dcoF (ke ve : Ex) (tg : Tg) (cs : List Ex) (own : List Nat) (e : Env) (acc : List (W × W)) (w : W) (h : Hep) : Out (List (W × W)) := match tg.put (wipeE e own) w with
  | some e2 => (evt P C cs e2 h).bind (dcoB1 P C ke ve e2 acc)
  | none => .bad
def kDcoGo (m : Bool) (ke ve : Ex) (tg : Tg) (cs : List Ex) (own : List Nat) (e : Env) (h : Hep) (o : Option Src) : Out W := match o with
  | some s => (turnsD s (dcoF P C ke ve tg cs own e) s.len 0 [] h).calm.bind (kLaid m)
  | none => .bad
def kDco (m : Bool) (ke ve : Ex) (tg : Tg) (k : Ik) (cs : List Ex) (own : List Nat) (e : Env) (vs : List W) (h : Hep) : Out W := kDcoGo P C m ke ve tg cs own e h (walk k vs h)
def turnGoD (s : Src) (f : List (W × W) → W → Hep → Out (List (W × W))) (k i : Nat) (acc : List (W × W)) (h : Hep) (o : Option W) : Out (List (W × W)) := match o with
  | some w => (f acc w h).bind (turnsD s f k (i + 1))
  | none => .bad
/-- one turn of a comprehension -/
def lcoB2 (acc : List W) (y : W) (h : Hep) : Out (List W) := grow acc y h
def lcoB1 (elt : Ex) (e : Env) (acc : List W) (b : Bool) (h : Hep) : Out (List W) := if b then (ev P C elt e h).bind (lcoB2 acc) else .ok acc h
def lcoF (elt : Ex) (tg : Tg) (cs : List Ex) (own : List Nat) (e : Env) (acc : List W) (w : W) (h : Hep) : Out (List W) := match tg.put (wipeE e own) w with
  | some e2 => (evt P C cs e2 h).bind (lcoB1 P C elt e2 acc)
  | none => .bad
def kNewL (m : Bool) (acc : List W) (h : Hep) : Out W := newL m h acc
def kLco (m : Bool) (elt : Ex) (tg : Tg) (k : Ik) (cs : List Ex) (own : List Nat) (e : Env) (vs : List W) (h : Hep) : Out W := match walk k vs h with
  | some s => (turns s (lcoF P C elt tg cs own e) s.len 0 [] h).calm.bind (kNewL m)
  | none => .bad
def lc2G (elt : Ex) (tg1 : Tg) (k1 : Ik) (cs1 : List Ex) (own1 : List Nat) (e2 : Env) (acc : List W) (vs1 : List W) (h : Hep) : Out (List W) := match walk k1 vs1 h with
  | some s1 => turns s1 (lcoF P C elt tg1 cs1 own1 e2) s1.len 0 acc h
  | none => .bad
def lc2F (elt : Ex) (tg : Tg) (tg1 : Tg) (k1 : Ik) (it1 : List Ex) (cs1 : List Ex) (own own1 : List Nat) (e : Env) (acc : List W) (w : W) (h : Hep) : Out (List W) := match tg.put (wipeE e own) w with
  | some e2 => (evs P C it1 e2 h).bind (lc2G P C elt tg1 k1 cs1 own1 e2 acc)
  | none => .bad
def kLc2 (m : Bool) (elt : Ex) (tg : Tg) (k : Ik) (tg1 : Tg) (k1 : Ik) (it1 : List Ex) (cs1 : List Ex) (own own1 : List Nat) (e : Env) (vs : List W) (h : Hep) : Out W := match walk k vs h with
  | some s => (turns s (lc2F P C elt tg tg1 k1 it1 cs1 own own1 e) s.len 0 [] h).calm.bind (kNewL m)
  | none => .bad
end
section
variable (P : Pg) (C : Orc) (e : Env) (h : Hep)
@[simp] theorem ev_var (i : Nat) : ev P C (.var i) e h = .some' ((nth e i).join) h := nr rfl
@[simp] theorem ev_non : ev P C .non e h = .ok .non h := nr rfl
@[simp] theorem ev_bl (b : Bool) : ev P C (.bl b) e h = .ok (.bl b) h := nr rfl
@[simp] theorem ev_int (i : Int) : ev P C (.int i) e h = .ok (.int i) h := nr rfl
@[simp] theorem ev_str (x : Str) : ev P C (.str x) e h = .ok (.str x) h := nr rfl
@[simp] theorem ev_glb (g : Nat) : ev P C (.glb g) e h = .some' (nth P.glb g) h := nr rfl
@[simp] theorem ev_ty (t : Ty) : ev P C (.ty t) e h = .ok (.ty t) h := nr rfl
@[simp] theorem ev_bin (op : Operator) (a b : Ex) : ev P C (.bin op a b) e h = (ev P C a e h).bind (kBin P C op b e) := nr rfl
@[simp] theorem ev_neg (a : Ex) : ev P C (.neg a) e h = (ev P C a e h).bind kNeg := nr rfl
@[simp] theorem ev_cmp (op : CmpOp) (a b : Ex) : ev P C (.cmp op a b) e h = (ev P C a e h).bind (kCmp P C op b e) := nr rfl
@[simp] theorem ev_chn (o1 o2 : CmpOp) (a b c : Ex) : ev P C (.chn o1 o2 a b c) e h = (ev P C a e h).bind (kChn1 P C o1 o2 b c e) := nr rfl
@[simp] theorem ev_and (a b : Ex) : ev P C (.and a b) e h = (ev P C a e h).bind (kAnd P C b e) := nr rfl
@[simp] theorem ev_or (a b : Ex) : ev P C (.or a b) e h = (ev P C a e h).bind (kOr P C b e) := nr rfl
@[simp] theorem ev_not (a : Ex) : ev P C (.not a) e h = (ev P C a e h).bind kNot := nr rfl
@[simp] theorem ev_ife (c a b : Ex) : ev P C (.ife c a b) e h = (ev P C c e h).bind (kIfe P C a b e) := nr rfl
@[simp] theorem ev_idx (a i : Ex) : ev P C (.idx a i) e h = (ev P C a e h).bind (kIdx P C i e) := nr rfl
@[simp] theorem ev_slL (a i : Ex) : ev P C (.slL a i) e h = (ev P C a e h).bind (kSlL P C i e) := nr rfl
@[simp] theorem ev_slH (a i : Ex) : ev P C (.slH a i) e h = (ev P C a e h).bind (kSlH P C i e) := nr rfl
@[simp] theorem ev_tup (es : List Ex) : ev P C (.tup es) e h = (evs P C es e h).bind kTup := nr rfl
@[simp] theorem ev_lst (m : Bool) (es : List Ex) : ev P C (.lst m es) e h = (evs P C es e h).bind (kLst m) := nr rfl
@[simp] theorem ev_cal (f : Nat) (es : List Ex) : ev P C (.cal f es) e h = (evs P C es e h).bind (C.call f) := nr rfl
@[simp] theorem ev_bfn (b : Bf) (es : List Ex) : ev P C (.bfn b es) e h = (evs P C es e h).bind (bfn P b) := nr rfl
@[simp] theorem ev_bmt (m : Bm) (a : Ex) (es : List Ex) : ev P C (.bmt m a es) e h = (ev P C a e h).bind (kBmt P C m es e) := nr rfl
@[simp] theorem ev_lco (m : Bool) (elt : Ex) (tg : Tg) (k : Ik) (it cs : List Ex) (own : List Nat) : ev P C (.lco m elt tg k it cs own) e h = (evs P C it e h).bind (kLco P C m elt tg k cs own e) := nr rfl
@[simp] theorem ev_lc2 (m : Bool) (elt : Ex) (tg : Tg) (k : Ik) (it : List Ex) (tg1 : Tg) (k1 : Ik) (it1 cs1 : List Ex) (own own1 : List Nat) : ev P C (.lc2 m elt tg k it tg1 k1 it1 cs1 own own1) e h = (evs P C it e h).bind (kLc2 P C m elt tg k tg1 k1 it1 cs1 own own1 e) := nr rfl
@[simp] theorem ev_cln (c : Nat) : ev P C (.cln c) e h = .ok (.cls c) h := nr rfl
@[simp] theorem ev_fld (a : Ex) (f : Nat) : ev P C (.fld a f) e h = (ev P C a e h).bind (kFld f) := nr rfl
@[simp] theorem ev_mth (m : Nat) (a : Ex) (es : List Ex) : ev P C (.mth m a es) e h = (ev P C a e h).bind (kMth P C m es e) := nr rfl
theorem ev_mak {c b : Nat} {cl : Cl} {kb : Kb} (es : List Ex) (ho : C.ok = true) (hc : nth P.cls c = some cl) (hb : nth P.kbs b = some kb) (hf : kb.f = cl.ini) : ev P C (.mak c b es) e h = (evs P C es e h).bind (kMak C c cl kb) := by
  have hf : Nat.beq kb.f cl.ini = true := by rw [hf]; exact Nat.beq_refl _
  simp only [ev, ho, hc, hb, hf]
  rfl
theorem ev_clk {b : Nat} {kb : Kb} (es : List Ex) (hb : nth P.kbs b = some kb) : ev P C (.clk b es) e h = (evs P C es e h).bind (kClk C kb) := by
  simp only [ev, hb]
  rfl
@[simp] theorem ev_dct (m : Bool) (es : List Ex) : ev P C (.dct m es) e h = (evs P C es e h).bind (kDct m) := nr rfl
@[simp] theorem ev_lsS (es : List Ex) (b : Ex) : ev P C (.lsS es b) e h = (evs P C es e h).bind (kLsS P C b e) := nr rfl
@[simp] theorem ev_dco (m : Bool) (ke ve : Ex) (tg : Tg) (k : Ik) (it cs : List Ex) (own : List Nat) : ev P C (.dco m ke ve tg k it cs own) e h = (evs P C it e h).bind (kDco P C m ke ve tg k cs own e) := nr rfl
@[simp] theorem ev_frz (i : Nat) : ev P C (.frz i) e h = (Out.some' ((nth e i).join) h).bind freeze := nr rfl
@[simp] theorem evs_nil : evs P C [] e h = .ok [] h := nr rfl
@[simp] theorem evs_cons (a : Ex) (r : List Ex) : evs P C (a :: r) e h = (ev P C a e h).bind (kCons P C r e) := nr rfl
@[simp] theorem evt_nil : evt P C [] e h = .ok true h := nr rfl
@[simp] theorem evt_cons (a : Ex) (r : List Ex) : evt P C (a :: r) e h = (ev P C a e h).bind kTst := nr rfl
variable (x y : W)
@[simp] theorem kBin_ap (op : Operator) (b : Ex) : kBin P C op b e x h = (ev P C b e h).bind (binop op x) := nr rfl
@[simp] theorem kCmp_ap (op : CmpOp) (b : Ex) : kCmp P C op b e x h = (ev P C b e h).bind (cmpop op x) := nr rfl
@[simp] theorem kNeg_ap (i : Int) : kNeg (.int i) h = .ok (.int (-i)) h := nr rfl
@[simp] theorem kChn1_ap (o1 o2 : CmpOp) (b c : Ex) : kChn1 P C o1 o2 b c e x h = (ev P C b e h).bind (kChn2 P C o1 o2 c e x) := nr rfl
@[simp] theorem kChn2_ap (o1 o2 : CmpOp) (c : Ex) : kChn2 P C o1 o2 c e x y h = (cmpop o1 x y h).bind (kChn3 P C o2 c e y) := nr rfl
@[simp] theorem kChn3_t (o2 : CmpOp) (c : Ex) : kChn3 P C o2 c e y (.bl true) h = (ev P C c e h).bind (cmpop o2 y) := nr rfl
@[simp] theorem kChn3_f (o2 : CmpOp) (c : Ex) : kChn3 P C o2 c e y (.bl false) h = .ok (.bl false) h := nr rfl
@[simp] theorem kAnd_ap (b : Ex) : kAnd P C b e x h = pickAnd P C b e x h (truth h x) := nr rfl
@[simp] theorem pickAnd_t (b : Ex) : pickAnd P C b e x h (some true) = ev P C b e h := nr rfl
@[simp] theorem pickAnd_f (b : Ex) : pickAnd P C b e x h (some false) = .ok x h := nr rfl
@[simp] theorem kOr_ap (b : Ex) : kOr P C b e x h = pickOr P C b e x h (truth h x) := nr rfl
@[simp] theorem pickOr_t (b : Ex) : pickOr P C b e x h (some true) = .ok x h := nr rfl
@[simp] theorem pickOr_f (b : Ex) : pickOr P C b e x h (some false) = ev P C b e h := nr rfl
@[simp] theorem kNot_bl (b : Bool) : kNot (.bl b) h = .ok (.bl (!b)) h := nr rfl
theorem kNot_ap : kNot x h = .some' ((truth h x).map fun k => .bl (!k)) h := rfl
@[simp] theorem kIfe_ap (a b : Ex) : kIfe P C a b e x h = pickIf P C a b e h (truth h x) := nr rfl
@[simp] theorem pickIf_t (a b : Ex) : pickIf P C a b e h (some true) = ev P C a e h := nr rfl
@[simp] theorem pickIf_f (a b : Ex) : pickIf P C a b e h (some false) = ev P C b e h := nr rfl
@[simp] theorem kIdx_ap (i : Ex) : kIdx P C i e x h = (ev P C i e h).bind (index x) := nr rfl
@[simp] theorem kSlL_ap (i : Ex) : kSlL P C i e x h = (ev P C i e h).bind (kSlL2 x) := nr rfl
@[simp] theorem kSlL2_ap (i : Int) : kSlL2 x (.int i) h = slice x (some i) none h := nr rfl
@[simp] theorem kSlH_ap (i : Ex) : kSlH P C i e x h = (ev P C i e h).bind (kSlH2 x) := nr rfl
@[simp] theorem kSlH2_ap (i : Int) : kSlH2 x (.int i) h = slice x none (some i) h := nr rfl
@[simp] theorem kTup_ap (ws : List W) : kTup ws h = newT h ws := nr rfl
@[simp] theorem kLst_ap (m : Bool) (ws : List W) : kLst m ws h = newL m h ws := nr rfl
@[simp] theorem kNewL_ap (m : Bool) (ws : List W) : kNewL m ws h = newL m h ws := nr rfl
@[simp] theorem kCons_ap (r : List Ex) : kCons P C r e x h = (evs P C r e h).bind (kCons2 x) := nr rfl
@[simp] theorem kCons2_ap (xs : List W) : kCons2 x xs h = .ok (x :: xs) h := nr rfl
@[simp] theorem kFld_ap (f : Nat) : kFld f x h = kFld2 f h (clsFs h x) := nr rfl
@[simp] theorem kFld2_ap (f c : Nat) (fs : List (Nat × W)) : kFld2 f h (some (c, fs)) = .some' (flook fs f) h := nr rfl
@[simp] theorem cls_ins (c : Nat) (fs : List (Nat × W)) : clsFs h (.ins c fs) = some (c, fs) := nr rfl
@[simp] theorem kMth_ap (m : Nat) (es : List Ex) : kMth P C m es e x h = kMth2 P C m es e x h (clsFs h x) := nr rfl
theorem kMth2_ap {m c g : Nat} {fs : List (Nat × W)} {cl : Cl} (es : List Ex) (h1 : flook fs m = none) (h2 : nth P.cls c = some cl) (h3 : mlook cl.mts m = some g) : kMth2 P C m es e x h (some (c, fs)) = (evs P C es e h).bind (kMth4 C g x) := by
  unfold kMth2
  simp only [h1, h2, kMth3, h3]
@[simp] theorem kMth4_ap (g : Nat) (ws : List W) : kMth4 C g x ws h = C.call g (x :: ws) h := nr rfl
@[simp] theorem kMak_ap (c : Nat) (cl : Cl) (kb : Kb) (ws : List W) : kMak C c cl kb ws h = kMak2 C c cl h (kb.arr ws) := nr rfl
@[simp] theorem kMak2_ap (c : Nat) (cl : Cl) (as : List W) : kMak2 C c cl h (some as) = (C.make cl.ini (.ref h.n :: as) (h.push (.ins c []))).bind (kMak3 cl h.n) := nr rfl
@[simp] theorem kMak3_ap (cl : Cl) (a : Nat) : kMak3 cl a x h = made cl a x h := nr rfl
@[simp] theorem kClk_ap (kb : Kb) (ws : List W) : kClk C kb ws h = kClk2 C kb h (kb.arr ws) := nr rfl
@[simp] theorem kClk2_ap (kb : Kb) (as : List W) : kClk2 C kb h (some as) = C.call kb.f as h := nr rfl
@[simp] theorem kDct_ap (m : Bool) (ws : List W) : kDct m ws h = newD m h ws := nr rfl
@[simp] theorem kLaid_ap (m : Bool) (acc : List (W × W)) : kLaid m acc h = laidD m h acc := nr rfl
@[simp] theorem kLsS_ap (b : Ex) (ws : List W) : kLsS P C b e ws h = (ev P C b e h).bind (kLsS1 ws) := nr rfl
@[simp] theorem kLsS1_ap (ws : List W) : kLsS1 ws x h = kLsS2 ws h (seqOf h x) := nr rfl
@[simp] theorem kLsS2_ap (ws xs : List W) : kLsS2 ws h (some xs) = newL false h (ws ++ xs) := nr rfl
@[simp] theorem dcoB1_t (ke ve : Ex) (acc : List (W × W)) : dcoB1 P C ke ve e acc true h = (ev P C ke e h).bind (dcoB2 P C ve e acc) := nr rfl
@[simp] theorem dcoB1_f (ke ve : Ex) (acc : List (W × W)) : dcoB1 P C ke ve e acc false h = .ok acc h := nr rfl
@[simp] theorem dcoB2_ap (ve : Ex) (acc : List (W × W)) : dcoB2 P C ve e acc x h = (ev P C ve e h).bind (dcoB3 acc x) := nr rfl
@[simp] theorem dcoB3_ap (acc : List (W × W)) : dcoB3 acc x y h = growD acc x y h := nr rfl
@[simp] theorem kDco_ap (m : Bool) (ke ve : Ex) (tg : Tg) (k : Ik) (cs : List Ex) (own : List Nat) (vs : List W) : kDco P C m ke ve tg k cs own e vs h = kDcoGo P C m ke ve tg cs own e h (walk k vs h) := nr rfl
@[simp] theorem kDcoGo_ap (m : Bool) (ke ve : Ex) (tg : Tg) (cs : List Ex) (own : List Nat) (s : Src) : kDcoGo P C m ke ve tg cs own e h (some s) = (turnsD s (dcoF P C ke ve tg cs own e) s.len 0 [] h).calm.bind (kLaid m) := nr rfl
@[simp] theorem turnsD_s (s : Src) (f : List (W × W) → W → Hep → Out (List (W × W))) (k i : Nat) (acc : List (W × W)) : turnsD s f (k + 1) i acc h = turnGoD s f k i acc h (s.at i h) := nr rfl
@[simp] theorem turnGoD_s (s : Src) (f : List (W × W) → W → Hep → Out (List (W × W))) (k i : Nat) (acc : List (W × W)) : turnGoD s f k i acc h (some x) = (f acc x h).bind (turnsD s f k (i + 1)) := nr rfl
@[simp] theorem turnsD_zf (xs : List W) (f : List (W × W) → W → Hep → Out (List (W × W))) (i : Nat) (acc : List (W × W)) : turnsD (.fix xs) f 0 i acc h = .ok acc h := nr rfl
@[simp] theorem dcoF_nm (ke ve : Ex) (i : Nat) (cs : List Ex) (own : List Nat) (acc : List (W × W)) (w : W) : dcoF P C ke ve (.nm i) cs own e acc w h = (evt P C cs ((wipeE e own).set i (some w)) h).bind (dcoB1 P C ke ve ((wipeE e own).set i (some w)) acc) := nr rfl
@[simp] theorem kTst_bl (b : Bool) : kTst (.bl b) h = .ok b h := nr rfl
@[simp] theorem lcoB1_t (elt : Ex) (acc : List W) : lcoB1 P C elt e acc true h = (ev P C elt e h).bind (lcoB2 acc) := nr rfl
@[simp] theorem lcoB1_f (elt : Ex) (acc : List W) : lcoB1 P C elt e acc false h = .ok acc h := nr rfl
@[simp] theorem lcoB2_ap (acc : List W) : lcoB2 acc y h = grow acc y h := nr rfl
@[simp] theorem int_int' (i : Int) (h : Hep) : bInt [.int i] h = .ok (.int i) h := nr rfl
@[simp] theorem bin_add (i j : Int) : binop .Add (.int i) (.int j) h = .ok (.int (i + j)) h := nr rfl
@[simp] theorem bin_sub (i j : Int) : binop .Sub (.int i) (.int j) h = .ok (.int (i - j)) h := nr rfl
@[simp] theorem cmp_lt (i j : Int) : cmpop .Lt (.int i) (.int j) h = .ok (.bl (decide (i < j))) h := nr rfl
@[simp] theorem cmp_le (i j : Int) : cmpop .LtE (.int i) (.int j) h = .ok (.bl (decide (i ≤ j))) h := nr rfl
@[simp] theorem cmp_gt (i j : Int) : cmpop .Gt (.int i) (.int j) h = .ok (.bl (decide (j < i))) h := nr rfl
@[simp] theorem cmp_ge (i j : Int) : cmpop .GtE (.int i) (.int j) h = .ok (.bl (decide (j ≤ i))) h := nr rfl
@[simp] theorem cmp_eqi (i j : Int) : cmpop .Eq (.int i) (.int j) h = .ok (.bl (i == j)) h := nr rfl
@[simp] theorem cmp_nei (i j : Int) : cmpop .NotEq (.int i) (.int j) h = .ok (.bl (!(i == j))) h := nr rfl
@[simp] theorem cmp_eqs (i j : Str) : cmpop .Eq (.str i) (.str j) h = .ok (.bl (strEq i j)) h := nr rfl
@[simp] theorem cmp_eqb (i j : Bool) : cmpop .Eq (.bl i) (.bl j) h = .ok (.bl (i == j)) h := nr rfl
@[simp] theorem cmp_neb (i j : Bool) : cmpop .NotEq (.bl i) (.bl j) h = .ok (.bl (!(i == j))) h := nr rfl
@[simp] theorem cmp_isb (i j : Bool) : cmpop .Is (.bl i) (.bl j) h = .ok (.bl (decide (i = j))) h := nr rfl
@[simp] theorem cmp_isnb (i j : Bool) : cmpop .IsNot (.bl i) (.bl j) h = .ok (.bl (!decide (i = j))) h := nr rfl
end
theorem bin_mod {i j : Int} (hj : 0 < j) (h : Hep) : binop .Mod (.int i) (.int j) h = .ok (.int (i % j)) h := by
  unfold binop
  simp only
  rw [if_pos hj]
theorem bin_fdv {i j : Int} (hj : 0 < j) (hk : j < 1073741824) (h : Hep) : binop .FloorDiv (.int i) (.int j) h = .ok (.int (i / j)) h := by
  unfold binop
  simp only
  rw [if_pos hj, if_pos hk]
theorem bin_mul {i j : Int} (hm : mulOk i j = true) (h : Hep) : binop .Mult (.int i) (.int j) h = .ok (.int (i * j)) h := by
  unfold binop
  simp only
  rw [if_pos hm]
section
variable (P : Pg) (C : Orc)
def sNx (e : Env) (_ : W) (h : Hep) : OutS := .ok .nx e h
def sPut (t : Tg) (e : Env) (x : W) (h : Hep) : OutS := match t.put e x with
  | some e1 => .ok .nx e1 h
  | none => .bad
def sSub3 (e : Env) (z x y : W) (h : Hep) : OutS := match setItem x y z h with
  | some h4 => .ok .nx e h4
  | none => .bad
def sSub2 (i : Ex) (e : Env) (z x : W) (h : Hep) : OutS := (ev P C i e h).stm e (sSub3 e z x)
def sSub (a i : Ex) (e : Env) (z : W) (h : Hep) : OutS := (ev P C a e h).stm e (sSub2 P C i e z)
def sAug3 (i : Nat) (e : Env) (z : W) (h : Hep) : OutS := .ok .nx (e.set i (some z)) h
def sAug2 (i : Nat) (op : Operator) (e : Env) (x y : W) (h : Hep) : OutS := (augop op x y h).stm e (sAug3 i e)
def sAug (i : Nat) (op : Operator) (a : Ex) (e : Env) (h : Hep) (o : Option W) : OutS := match o with
  | some x => (ev P C a e h).stm e (sAug2 i op e x)
  | none => .bad
def sSfl2 (f : Nat) (e : Env) (z x : W) (h : Hep) : OutS := match setFld P x f z h with
  | some h3 => .ok .nx e h3
  | none => .bad
def sSfl (a : Ex) (f : Nat) (e : Env) (z : W) (h : Hep) : OutS := (ev P C a e h).stm e (sSfl2 P f e z)
def sRai (c : Nat) (e : Env) (x : W) (h : Hep) : OutS := .exc c x e h
def sRet (e : Env) (x : W) (h : Hep) : OutS := .ok (.ret x) e h
def sPick (a b : List Sm) (e : Env) (h : Hep) (t : Option Bool) : OutS := match t with
  | some true => evSs P C a e h
  | some false => evSs P C b e h
  | none => .bad
def sIff (a b : List Sm) (e : Env) (x : W) (h : Hep) : OutS := sPick P C a b e h (truth h x)
/-- one turn -/
def forF (tg : Tg) (b : List Sm) (e1 : Env) (w : W) (h2 : Hep) : OutS := match tg.put e1 w with
  | some e2 => evSs P C b e2 h2
  | none => .bad
def sFor (tg : Tg) (k : Ik) (b : List Sm) (e : Env) (vs : List W) (h : Hep) : OutS := match walk k vs h with
  | some s => turnsS s (forF P C tg b) s.len 0 e h
  | none => .bad
end
section
variable (P : Pg) (C : Orc) (e : Env) (h : Hep) (x y z : W)
@[simp] theorem evS_exp (a : Ex) : evS P C (.exp a) e h = (ev P C a e h).stm e (sNx e) := nr rfl
@[simp] theorem evS_asg (t : Tg) (a : Ex) : evS P C (.asg t a) e h = (ev P C a e h).stm e (sPut t e) := nr rfl
@[simp] theorem evS_sub (a i v : Ex) : evS P C (.sub a i v) e h = (ev P C v e h).stm e (sSub P C a i e) := nr rfl
@[simp] theorem evS_aug (i : Nat) (op : Operator) (a : Ex) : evS P C (.aug i op a) e h = sAug P C i op a e h (nth e i).join := nr rfl
@[simp] theorem evS_ret (a : Ex) : evS P C (.ret a) e h = (ev P C a e h).stm e (sRet e) := nr rfl
@[simp] theorem evS_retN : evS P C .retN e h = .ok (.ret .non) e h := nr rfl
@[simp] theorem evS_iff (c : Ex) (a b : List Sm) : evS P C (.iff c a b) e h = (ev P C c e h).stm e (sIff P C a b e) := nr rfl
@[simp] theorem evS_for (tg : Tg) (k : Ik) (it : List Ex) (b : List Sm) : evS P C (.for tg k it b) e h = (evs P C it e h).stm e (sFor P C tg k b e) := nr rfl
@[simp] theorem evS_sfl (a : Ex) (f : Nat) (v : Ex) : evS P C (.sfl a f v) e h = (ev P C v e h).stm e (sSfl P C a f e) := nr rfl
@[simp] theorem sSfl_ap (a : Ex) (f : Nat) : sSfl P C a f e z h = (ev P C a e h).stm e (sSfl2 P f e z) := nr rfl
theorem evS_rai {c : Nat} (a : Ex) (ho : C.ok = true) : evS P C (.rai c a) e h = (ev P C a e h).stm e (sRai c e) := by
  simp only [evS, ho, if_true]
  rfl
@[simp] theorem sRai_ap (c : Nat) : sRai c e x h = .exc c x e h := nr rfl
@[simp] theorem evS_tri (b : List Sm) (hs : List (Nat × Nat × Sx)) : evS P C (.tri b hs) e h = triM P hs (evSs P C b e h) := nr rfl
@[simp] theorem triM_ok (hs : List (Nat × Nat × Sx)) (f : Fl) : triM P hs (.ok f e h) = .ok f e h := nr rfl
@[simp] theorem evS_pas : evS P C .pas e h = .ok .nx e h := nr rfl
@[simp] theorem evS_brk : evS P C .brk e h = .ok .brk e h := nr rfl
@[simp] theorem evS_cnt : evS P C .cnt e h = .ok .cnt e h := nr rfl
@[simp] theorem evSs_nil : evSs P C [] e h = .ok .nx e h := nr rfl
@[simp] theorem evSs_cons (s : Sm) (r : List Sm) : evSs P C (s :: r) e h = (evS P C s e h).seq (evSs P C r) := nr rfl
@[simp] theorem sNx_ap : sNx e x h = .ok .nx e h := nr rfl
@[simp] theorem sPut_nm (i : Nat) : sPut (.nm i) e x h = .ok .nx (e.set i (some x)) h := nr rfl
@[simp] theorem sRet_ap : sRet e x h = .ok (.ret x) e h := nr rfl
@[simp] theorem sIff_ap (a b : List Sm) : sIff P C a b e x h = sPick P C a b e h (truth h x) := nr rfl
@[simp] theorem sPick_t (a b : List Sm) : sPick P C a b e h (some true) = evSs P C a e h := nr rfl
@[simp] theorem sPick_f (a b : List Sm) : sPick P C a b e h (some false) = evSs P C b e h := nr rfl
@[simp] theorem sSub_ap (a i : Ex) : sSub P C a i e z h = (ev P C a e h).stm e (sSub2 P C i e z) := nr rfl
@[simp] theorem sSub2_ap (i : Ex) : sSub2 P C i e z x h = (ev P C i e h).stm e (sSub3 e z x) := nr rfl
@[simp] theorem sAug_ap (i : Nat) (op : Operator) (a : Ex) : sAug P C i op a e h (some x) = (ev P C a e h).stm e (sAug2 i op e x) := nr rfl
@[simp] theorem sAug2_ap (i : Nat) (op : Operator) : sAug2 i op e x y h = (augop op x y h).stm e (sAug3 i e) := nr rfl
@[simp] theorem sAug3_ap (i : Nat) : sAug3 i e z h = .ok .nx (e.set i (some z)) h := nr rfl
@[simp] theorem aug_add (i j : Int) : augop .Add (.int i) (.int j) h = .ok (.int (i + j)) h := nr rfl
@[simp] theorem aug_sub (i j : Int) : augop .Sub (.int i) (.int j) h = .ok (.int (i - j)) h := nr rfl
end
section
variable (P : Pg) (C : Orc) (e : Env) (h : Hep) (x y z : W) (s : Src)
def turnGo (f : List W → W → Hep → Out (List W)) (k i : Nat) (acc : List W) (h : Hep) (o : Option W) : Out (List W) := match o with
  | some w => (f acc w h).bind (turns s f k (i + 1))
  | none => .bad
@[simp] theorem turns_s (f : List W → W → Hep → Out (List W)) (k i : Nat) (acc : List W) : turns s f (k + 1) i acc h = turnGo s f k i acc h (s.at i h) := nr rfl
@[simp] theorem turnGo_s (f : List W → W → Hep → Out (List W)) (k i : Nat) (acc : List W) : turnGo s f k i acc h (some x) = (f acc x h).bind (turns s f k (i + 1)) := nr rfl
theorem turns_z {s : Src} (f : List W → W → Hep → Out (List W)) (i : Nat) (acc : List W) {h : Hep} (he : s.ends h = true) : turns s f 0 i acc h = .ok acc h := by
  unfold turns
  rw [if_pos he]
@[simp] theorem turns_zf (xs : List W) (f : List W → W → Hep → Out (List W)) (i : Nat) (acc : List W) : turns (.fix xs) f 0 i acc h = .ok acc h := nr rfl
@[simp] theorem turns_zr (lo c : Int) (n : Nat) (f : List W → W → Hep → Out (List W)) (i : Nat) (acc : List W) : turns (.rng lo c n) f 0 i acc h = .ok acc h := nr rfl
def turnGoS (f : Env → W → Hep → OutS) (k i : Nat) (e : Env) (h : Hep) (o : Option W) : OutS := match o with
  | some w => (f e w h).turn (turnsS s f k (i + 1))
  | none => .bad
@[simp] theorem turnsS_s (f : Env → W → Hep → OutS) (k i : Nat) : turnsS s f (k + 1) i e h = turnGoS s f k i e h (s.at i h) := nr rfl
@[simp] theorem turnGoS_s (f : Env → W → Hep → OutS) (k i : Nat) : turnGoS s f k i e h (some x) = (f e x h).turn (turnsS s f k (i + 1)) := nr rfl
@[simp] theorem turnsS_zf (xs : List W) (f : Env → W → Hep → OutS) (i : Nat) : turnsS (.fix xs) f 0 i e h = .ok .nx e h := nr rfl
@[simp] theorem turnsS_zr (lo c : Int) (n : Nat) (f : Env → W → Hep → OutS) (i : Nat) : turnsS (.rng lo c n) f 0 i e h = .ok .nx e h := nr rfl
@[simp] theorem at_fix (xs : List W) (i : Nat) : (Src.fix xs).at i h = nth xs i := nr rfl
@[simp] theorem at_rng (lo c : Int) (n i : Nat) : (Src.rng lo c n).at i h = some (.int (lo + (i : Nat) * c)) := nr rfl
@[simp] theorem len_fix (xs : List W) : (Src.fix xs).len = xs.length := nr rfl
@[simp] theorem len_rng (lo c : Int) (n : Nat) : (Src.rng lo c n).len = n := nr rfl
@[simp] theorem len_lis (a n : Nat) : (Src.lis a n).len = n := nr rfl
@[simp] theorem put_nm (i : Nat) (w : W) : Tg.put (.nm i) e w = some (e.set i (some w)) := nr rfl
@[simp] theorem wipe_nil : wipeE e [] = e := nr rfl
@[simp] theorem wipe_cons (v : Nat) (vs : List Nat) : wipeE e (v :: vs) = (wipeE e vs).set v none := nr rfl
@[simp] theorem lcoF_nm (elt : Ex) (i : Nat) (cs : List Ex) (own : List Nat) (acc : List W) (w : W) : lcoF P C elt (.nm i) cs own e acc w h = (evt P C cs ((wipeE e own).set i (some w)) h).bind (lcoB1 P C elt ((wipeE e own).set i (some w)) acc) := nr rfl
@[simp] theorem lc2F_nm (elt : Ex) (i : Nat) (tg1 : Tg) (k1 : Ik) (it1 cs1 : List Ex) (own own1 : List Nat) (acc : List W) (w : W) : lc2F P C elt (.nm i) tg1 k1 it1 cs1 own own1 e acc w h = (evs P C it1 ((wipeE e own).set i (some w)) h).bind (lc2G P C elt tg1 k1 cs1 own1 ((wipeE e own).set i (some w)) acc) := nr rfl
@[simp] theorem forF_nm (i : Nat) (b : List Sm) (w : W) : forF P C (.nm i) b e w h = evSs P C b (e.set i (some w)) h := nr rfl
def kLcoGo (m : Bool) (elt : Ex) (tg : Tg) (cs : List Ex) (own : List Nat) (e : Env) (h : Hep) (o : Option Src) : Out W := match o with
  | some s => (turns s (lcoF P C elt tg cs own e) s.len 0 [] h).calm.bind (kNewL m)
  | none => .bad
@[simp] theorem kLco_ap (m : Bool) (elt : Ex) (tg : Tg) (k : Ik) (cs : List Ex) (own : List Nat) (vs : List W) : kLco P C m elt tg k cs own e vs h = kLcoGo P C m elt tg cs own e h (walk k vs h) := nr rfl
@[simp] theorem kLcoGo_ap (m : Bool) (elt : Ex) (tg : Tg) (cs : List Ex) (own : List Nat) : kLcoGo P C m elt tg cs own e h (some s) = (turns s (lcoF P C elt tg cs own e) s.len 0 [] h).calm.bind (kNewL m) := nr rfl
def kLc2Go (m : Bool) (elt : Ex) (tg : Tg) (tg1 : Tg) (k1 : Ik) (it1 : List Ex) (cs1 : List Ex) (own own1 : List Nat) (e : Env) (h : Hep) (o : Option Src) : Out W := match o with
  | some s => (turns s (lc2F P C elt tg tg1 k1 it1 cs1 own own1 e) s.len 0 [] h).calm.bind (kNewL m)
  | none => .bad
@[simp] theorem kLc2_ap (m : Bool) (elt : Ex) (tg : Tg) (k : Ik) (tg1 : Tg) (k1 : Ik) (it1 cs1 : List Ex) (own own1 : List Nat) (vs : List W) : kLc2 P C m elt tg k tg1 k1 it1 cs1 own own1 e vs h = kLc2Go P C m elt tg tg1 k1 it1 cs1 own own1 e h (walk k vs h) := nr rfl
@[simp] theorem kLc2Go_ap (m : Bool) (elt : Ex) (tg : Tg) (tg1 : Tg) (k1 : Ik) (it1 cs1 : List Ex) (own own1 : List Nat) : kLc2Go P C m elt tg tg1 k1 it1 cs1 own own1 e h (some s) = (turns s (lc2F P C elt tg tg1 k1 it1 cs1 own own1 e) s.len 0 [] h).calm.bind (kNewL m) := nr rfl
def lc2Go (elt : Ex) (tg1 : Tg) (cs1 : List Ex) (own1 : List Nat) (e2 : Env) (acc : List W) (h : Hep) (o : Option Src) : Out (List W) := match o with
  | some s1 => turns s1 (lcoF P C elt tg1 cs1 own1 e2) s1.len 0 acc h
  | none => .bad
@[simp] theorem lc2G_ap (elt : Ex) (tg1 : Tg) (k1 : Ik) (cs1 : List Ex) (own1 : List Nat) (acc vs1 : List W) : lc2G P C elt tg1 k1 cs1 own1 e acc vs1 h = lc2Go P C elt tg1 cs1 own1 e acc h (walk k1 vs1 h) := nr rfl
@[simp] theorem lc2Go_ap (elt : Ex) (tg1 : Tg) (cs1 : List Ex) (own1 : List Nat) (acc : List W) : lc2Go P C elt tg1 cs1 own1 e acc h (some s) = turns s (lcoF P C elt tg1 cs1 own1 e) s.len 0 acc h := nr rfl
def sForGo (tg : Tg) (b : List Sm) (e : Env) (h : Hep) (o : Option Src) : OutS := match o with
  | some s => turnsS s (forF P C tg b) s.len 0 e h
  | none => .bad
@[simp] theorem sFor_ap (tg : Tg) (k : Ik) (b : List Sm) (vs : List W) : sFor P C tg k b e vs h = sForGo P C tg b e h (walk k vs h) := nr rfl
@[simp] theorem sForGo_ap (tg : Tg) (b : List Sm) : sForGo P C tg b e h (some s) = turnsS s (forF P C tg b) s.len 0 e h := nr rfl
@[simp] theorem walk_lst (xs : List W) : walk .seq [.lst xs] h = some (.fix xs) := nr rfl
@[simp] theorem walk_dct (kvs : List (W × W)) : walk .seq [.dct kvs] h = some (.fix (kvs.map fun p => p.1)) := nr rfl
@[simp] theorem walk_scr (ns : List Int) : walk .seq [.scr ns] h = some (.fix (ns.map W.int)) := nr rfl
@[simp] theorem walk_str (z : Str) : walk .seq [.str z] h = some (.fix (chars z)) := nr rfl
@[simp] theorem walk_ent (xs : List W) : walk .enu [.tup xs] h = some (.fix (enumW 0 xs)) := nr rfl
@[simp] theorem walk_enl (xs : List W) : walk .enu [.lst xs] h = some (.fix (enumW 0 xs)) := nr rfl
@[simp] theorem enumW_z (i : Nat) : enumW i [] = [] := nr rfl
@[simp] theorem enumW_s (i : Nat) (x : W) (r : List W) : enumW i (x :: r) = .tup [.int (i : Nat), x] :: enumW (i + 1) r := nr rfl
@[simp] theorem walk_tup (xs : List W) : walk .seq [.tup xs] h = some (.fix xs) := nr rfl
theorem walk_ref {h : Hep} {a : Nat} {xs : List W} (q : h.get a = some (.lst xs)) : walk .seq [.ref a] h = some (.lis a xs.length) := by
  unfold walk
  simp only
  rw [list_ref q]
  rfl
theorem walk_rng1 {n : Int} (h : Hep) (hn : rngOk n = true) : walk .rng [.int n] h = some (.rng 0 1 n.toNat) := by
  unfold walk
  simp only
  rw [if_pos hn]
theorem walk_rng2 {i j : Int} (h : Hep) (hi : rngOk i = true) (hj : rngOk j = true) : walk .rng [.int i, .int j] h = some (.rng i 1 (j - i).toNat) := by
  unfold walk
  simp only
  rw [hi, hj]
  rfl
end
end Ev

namespace Ev
open PySem
/-- no place names one that is not there -/
def Wf (h : Hep) : Prop := Hep.blw h.n h.n h.l = true
mutual
theorem W.blw_mono {m n : Nat} (l : m ≤ n) : ∀ (w : W), w.blw m = true → w.blw n = true
  | .tup xs, h => by simp only [W.blw] at h ⊢; exact W.blws_mono l xs h
  | .lst xs, h => by simp only [W.blw] at h ⊢; exact W.blws_mono l xs h
  | .dct kvs, h => by simp only [W.blw] at h ⊢; exact W.blwKs_mono l kvs h
  | .ins _ fs, h => by simp only [W.blw] at h ⊢; exact W.blwFs_mono l fs h
  | .ref a, h => by simp only [W.blw, decide_eq_true_eq] at h ⊢; omega
  | .non, h => rfl
  | .bl _, h => rfl
  | .int _, h => rfl
  | .str _, h => rfl
  | .cls _, h => rfl
  | .ty _, h => rfl
  | .scr _, h => rfl
theorem W.blws_mono {m n : Nat} (l : m ≤ n) : ∀ (xs : List W), W.blws m xs = true → W.blws n xs = true
  | [], h => rfl
  | x :: r, h => by
    simp only [W.blws, Bool.and_eq_true] at h ⊢
    exact ⟨W.blw_mono l x h.1, W.blws_mono l r h.2⟩
theorem W.blwK_mono {m n : Nat} (l : m ≤ n) : ∀ (p : W × W), W.blwK m p = true → W.blwK n p = true
  | (x, y), h => by
    simp only [W.blwK, Bool.and_eq_true] at h ⊢
    exact ⟨W.blw_mono l x h.1, W.blw_mono l y h.2⟩
theorem W.blwKs_mono {m n : Nat} (l : m ≤ n) : ∀ (xs : List (W × W)), W.blwKs m xs = true → W.blwKs n xs = true
  | [], h => rfl
  | x :: r, h => by
    simp only [W.blwKs, Bool.and_eq_true] at h ⊢
    exact ⟨W.blwK_mono l x h.1, W.blwKs_mono l r h.2⟩
theorem W.blwF_mono {m n : Nat} (l : m ≤ n) : ∀ (p : Nat × W), W.blwF m p = true → W.blwF n p = true
  | (_, y), h => by
    simp only [W.blwF] at h ⊢
    exact W.blw_mono l y h
theorem W.blwFs_mono {m n : Nat} (l : m ≤ n) : ∀ (xs : List (Nat × W)), W.blwFs m xs = true → W.blwFs n xs = true
  | [], h => rfl
  | x :: r, h => by
    simp only [W.blwFs, Bool.and_eq_true] at h ⊢
    exact ⟨W.blwF_mono l x h.1, W.blwFs_mono l r h.2⟩
end
theorem Ob.blw_mono {m n : Nat} (l : m ≤ n) (o : Ob) (h : o.blw m = true) : o.blw n = true := by
  cases o with
  | lst xs => exact W.blws_mono l xs h
  | dic _ kvs => exact W.blwKs_mono l kvs h
  | ins _ fs => exact W.blwFs_mono l fs h
  | ded => rfl
theorem hblw_app (n : Nat) (o : Ob) : ∀ (l : List Ob), Hep.blw n l.length (l ++ [o]) = Hep.blw n l.length l
  | [] => rfl
  | x :: r => by
    show (x.blw n && Hep.blw n r.length (r ++ [o])) = (x.blw n && Hep.blw n r.length r)
    rw [hblw_app n o r]
theorem hblw_all (n : Nat) : ∀ (l : List Ob), Hep.blw n l.length l = l.all (fun o => o.blw n)
  | [] => rfl
  | x :: r => by
    show (x.blw n && Hep.blw n r.length r) = _
    rw [hblw_all n r]
    rfl
theorem Wf.push {h : Hep} {o : Ob} (w : Wf h) (ho : o.blw (h.n + 1) = true) : Wf (h.push o) := by
  unfold Wf at w ⊢
  rw [Hep.n_push]
  have w : Hep.blw h.l.length h.l.length h.l = true := w
  rw [hblw_all] at w
  have e : (h.push o).l.length = h.n + 1 := Hep.n_push h o
  rw [← e, hblw_all, e]
  show (h.l ++ [o]).all _ = true
  rw [List.all_append, Bool.and_eq_true]
  refine ⟨?_, by simp [ho]⟩
  rw [List.all_eq_true] at w ⊢
  exact fun x hx => Ob.blw_mono (Nat.le_succ _) x (w x hx)
section
variable (h : Hep) (o o' o2 : Ob)
@[simp] theorem push_n : (h.push o).n = h.n + 1 := Hep.n_push h o
@[simp] theorem push_last : (h.push o).get h.n = some o := by rw [Hep.get_push, if_pos rfl]
@[simp] theorem push_prev : ((h.push o).push o2).get h.n = some o := by rw [Hep.get_push, if_neg (by rw [Hep.n_push]; omega), Hep.get_push, if_pos rfl]
@[simp] theorem set_last : (h.push o).set h.n o' = h.push o' := by
  unfold Hep.push Hep.set Hep.n
  simp only
  rw [List.set_append_right _ _ (Nat.le_refl _), Nat.sub_self]
  rfl
@[simp] theorem set_prev : ((h.push o).push o2).set h.n o' = (h.push o').push o2 := by
  unfold Hep.push Hep.set Hep.n
  simp only
  rw [List.append_assoc, List.set_append_right _ _ (Nat.le_refl _), Nat.sub_self, List.append_assoc]
  rfl
theorem ends_push {h : Hep} {o : Ob} {w : W} (wf : Wf h) (hw : w.blw h.n = true) : (h.push o).ends h.n w = h := by
  unfold Hep.ends
  rw [if_neg (by rw [Hep.n_push]; omega), hw]
  have e : Hep.blw h.n h.n (h.push o).l = true := by
    show Hep.blw h.l.length h.l.length (h.l ++ [o]) = true
    rw [hblw_app]
    exact wf
  rw [e]
  simp only [Bool.and_self, if_true]
  unfold Hep.cut Hep.push Hep.n
  simp
end
theorem callN_at {P : Pg} {f : Nat} {fn : Fn} (n : Nat) (ws : List W) (h : Hep) (hf : nth P.fns f = some fn) (hl : ws.length = fn.np) : callN P (n + 1) f ws h = (evSs P (orcN P n) fn.body (pad fn.nl ws) h).res.fin h.n := by
  conv => lhs; unfold callN
  simp only [hf]
  rw [if_pos hl]
  rfl
/-- a comprehension whose items leave the heap -/
theorem turns_map {xs : List W} {f : List W → W → Hep → Out (List W)} {g : W → W} {h : Hep} (hf : ∀ acc w, w ∈ xs → acc.length < xs.length → f acc w h = .ok (acc ++ [g w]) h) : turns (.fix xs) f xs.length 0 [] h = .ok (xs.map g) h := by
  have key : ∀ (suf pre : List W), xs = pre ++ suf → turns (.fix xs) f suf.length pre.length (pre.map g) h = .ok (xs.map g) h := by
    intro suf
    induction suf with
    | nil =>
      intro pre e
      rw [List.append_nil] at e
      rw [e]
      rfl
    | cons w suf ih =>
      intro pre e
      have at_ : (Src.fix xs).at pre.length h = some w := by
        show nth xs pre.length = some w
        rw [nth_eq, e, List.getElem?_append_right (Nat.le_refl _), Nat.sub_self]
        rfl
      rw [List.length_cons, turns_s, at_, turnGo_s, hf _ w (by rw [e]; simp) (by rw [e]; simp), bind_ok]
      have := ih (pre ++ [w]) (by rw [e]; simp)
      rw [List.length_append, List.map_append] at this
      exact this
  exact key xs [] rfl
theorem bls_map (bs : List Bool) : blsOf (bs.map W.bl) = some bs := by
  induction bs with
  | nil => rfl
  | cons b r ih => simp [blsOf, ih]
end Ev

namespace Ev
open PySem
def Dt (k : Nat) (w : W) : Prop := ∃ d : PyData, (∀ (h : Hep) (f : Nat), k < f → toD f h w = some d) ∧ d.canLay0 = true ∧ d.depth ≤ k
theorem Dt.mono {k l : Nat} {w : W} (x : Dt k w) (h : k ≤ l) : Dt l w := by
  obtain ⟨d, h1, h2, h3⟩ := x
  exact ⟨d, fun q f hf => h1 q f (Nat.lt_of_le_of_lt h hf), h2, Nat.le_trans h3 h⟩
theorem dt_int (i : Int) : Dt 0 (.int i) := ⟨.int i, fun h f hf => by cases f with
  | zero => exact absurd hf (Nat.lt_irrefl _)
  | succ f => rfl, by simp [PyData.canLay0], by simp [PyData.depth]⟩
theorem dt_str {x : Str} (hx : (PyData.str x).canLay0 = true) : Dt 0 (.str x) := ⟨.str x, fun h f hf => by cases f with
  | zero => exact absurd hf (Nat.lt_irrefl _)
  | succ f => rfl, hx, by simp [PyData.depth]⟩
theorem dts_of {k : Nat} : ∀ {xs : List W}, (∀ x ∈ xs, Dt k x) → ∃ ds : List PyData, (∀ (h : Hep) (f : Nat), k < f → xs.mapM (toD f h) = some ds) ∧ PyData.canLayAll0 ds = true ∧ PyData.depthAll ds ≤ k ∧ ds.length = xs.length
  | [], _ => ⟨[], fun _ _ _ => rfl, by simp [PyData.canLayAll0], by simp [PyData.depthAll], rfl⟩
  | x :: xs, hx => by
    obtain ⟨d, h1, h2, h3⟩ := hx x List.mem_cons_self
    obtain ⟨ds, g1, g2, g3, g4⟩ := dts_of fun y hy => hx y (List.mem_cons_of_mem _ hy)
    refine ⟨d :: ds, fun h f hf => ?_, ?_, ?_, ?_⟩
    · rw [List.mapM_cons, h1 h f hf, g1 h f hf]
      rfl
    · simp [PyData.canLayAll0, h2, g2]
    · simp only [PyData.depthAll]
      exact Nat.max_le.mpr ⟨h3, g3⟩
    · rw [List.length_cons, List.length_cons, g4]
theorem dt_tup {k : Nat} {xs : List W} (hx : ∀ x ∈ xs, Dt k x) : Dt (k + 1) (.tup xs) := by
  obtain ⟨ds, g1, g2, g3, g4⟩ := dts_of hx
  refine ⟨.tuple ds, fun h f hf => ?_, by simpa [PyData.canLay0] using g2, by simp only [PyData.depth]; omega⟩
  cases f with
  | zero => exact absurd hf (Nat.not_lt_zero _)
  | succ f =>
    show (xs.mapM (toD f h)).map PyData.tuple = _
    rw [g1 h f (by omega)]
    rfl
theorem dt_lst {k : Nat} {xs : List W} (hx : ∀ x ∈ xs, Dt k x) : Dt (k + 1) (.lst xs) := by
  obtain ⟨ds, g1, g2, g3, g4⟩ := dts_of hx
  refine ⟨.list ds, fun h f hf => ?_, by simpa [PyData.canLay0] using g2, by simp only [PyData.depth]; omega⟩
  cases f with
  | zero => exact absurd hf (Nat.not_lt_zero _)
  | succ f =>
    show (xs.mapM (toD f h)).map PyData.list = _
    rw [g1 h f (by omega)]
    rfl
theorem dt_non : Dt 0 .non := ⟨.none, fun h f hf => by cases f with
  | zero => exact absurd hf (Nat.lt_irrefl _)
  | succ f => rfl, by simp [PyData.canLay0], by simp [PyData.depth]⟩
theorem eq_lnil {h : Hep} {xs : List W} (hx : ∀ x ∈ xs, Dt 62 x) : cmpop .Eq (.lst xs) (.lst []) h = .ok (.bl xs.isEmpty) h := by
  obtain ⟨ds, g1, g2, g3, g4⟩ := dts_of hx
  have e1 : toD 65 h (.lst xs) = some (.list ds) := by
    show (xs.mapM (toD 64 h)).map PyData.list = _
    rw [g1 h 64 (by omega)]
    rfl
  have e2 : toD 65 h (.lst []) = some (.list []) := rfl
  have s1 : SeqAt.shaped (.list ds) = true := by
    unfold SeqAt.shaped
    rw [Bool.and_eq_true]
    refine ⟨by simpa [PyData.canLay0] using g2, decide_eq_true ?_⟩
    simp only [PyData.depth]
    omega
  have s2 : SeqAt.shaped (.list []) = true := by decide +kernel
  have e3 : eqW h (.lst xs) (.lst []) = some xs.isEmpty := by
    cases xs with
    | cons x xs => rfl
    | nil =>
      show eqD h (.lst []) (.lst []) = _
      unfold eqD
      rw [e2]
      simp only
      rw [if_pos s2, if_pos s2]
      simp [PyData.eqv, PyData.eqvAll]
  show Out.some' ((eqW h (.lst xs) (.lst [])).map W.bl) h = _
  rw [e3]
  rfl
theorem eqt_nil {h : Hep} {xs : List W} (hx : ∀ x ∈ xs, Dt 62 x) : cmpop .Eq (.tup xs) (.tup []) h = .ok (.bl xs.isEmpty) h := by
  obtain ⟨ds, g1, g2, g3, g4⟩ := dts_of hx
  have e1 : toD 65 h (.tup xs) = some (.tuple ds) := by
    show (xs.mapM (toD 64 h)).map PyData.tuple = _
    rw [g1 h 64 (by omega)]
    rfl
  have e2 : toD 65 h (.tup []) = some (.tuple []) := rfl
  have s1 : SeqAt.shaped (.tuple ds) = true := by
    unfold SeqAt.shaped
    rw [Bool.and_eq_true]
    refine ⟨by simpa [PyData.canLay0] using g2, decide_eq_true ?_⟩
    simp only [PyData.depth]
    omega
  have s2 : SeqAt.shaped (.tuple []) = true := by decide +kernel
  have e3 : eqW h (.tup xs) (.tup []) = some xs.isEmpty := by
    show eqD h (.tup xs) (.tup []) = _
    unfold eqD
    rw [e1, e2]
    simp only
    rw [if_pos s1, if_pos s2]
    cases xs with
    | nil =>
      cases ds with
      | nil => simp [PyData.eqv, PyData.eqvAll]
      | cons d ds => cases g4
    | cons x xs =>
      cases ds with
      | nil => cases g4
      | cons d ds => simp [PyData.eqv, PyData.eqvAll]
  show Out.some' ((eqW h (.tup xs) (.tup [])).map W.bl) h = _
  rw [e3]
  rfl
end Ev

namespace Ev
open PySem
def P2 (a b : Int) : Ob := .lst [.int a, .int b]
def Pl (h : Hep) (p : Nat) : Prop := ∃ a b : Int, h.get p = some (P2 a b) ∧ 0 ≤ b ∧ b < 4294967296
/-- only the pool has changed -/
def Stp (p : Nat) (h h' : Hep) : Prop := ∃ a b : Int, 0 ≤ b ∧ b < 4294967296 ∧ h' = h.set p (P2 a b)
theorem set_set (h : Hep) (p : Nat) (x y : Ob) : (h.set p x).set p y = h.set p y := by
  unfold Hep.set
  simp
theorem Pl.lt {h : Hep} {p : Nat} (hp : Pl h p) : p < h.n := by
  obtain ⟨a, b, e, _⟩ := hp
  exact Hep.get_lt e
theorem Stp.pl {h h' : Hep} {p : Nat} (hp : Pl h p) (s : Stp p h h') : Pl h' p := by
  obtain ⟨a, b, h0, h1, rfl⟩ := s
  obtain ⟨c, d, e, _⟩ := hp
  exact ⟨a, b, by rw [Hep.get_set e, if_pos rfl], h0, h1⟩
theorem Stp.trans {h h1 h2 : Hep} {p : Nat} (a : Stp p h h1) (b : Stp p h1 h2) : Stp p h h2 := by
  obtain ⟨a, b, h0, h1, rfl⟩ := a
  obtain ⟨c, d, h2, h3, rfl⟩ := b
  exact ⟨c, d, h2, h3, by rw [set_set]⟩
theorem Stp.n {h h' : Hep} {p : Nat} (s : Stp p h h') : h'.n = h.n := by
  obtain ⟨a, b, h0, h1, rfl⟩ := s
  exact Hep.n_set _ _ _
theorem Stp.refl {h : Hep} {p : Nat} (hp : Pl h p) : Stp p h h := by
  obtain ⟨a, b, e, h0, h1⟩ := hp
  refine ⟨a, b, h0, h1, ?_⟩
  rw [Hep.get_eq] at e
  obtain ⟨hl, e⟩ := List.getElem?_eq_some_iff.mp e
  unfold Hep.set
  rw [← e, List.set_getElem_self]
theorem Stp.ne {h h' : Hep} {p q : Nat} (s : Stp p h h') (hq : q ≠ p) : h'.get q = h.get q := by
  obtain ⟨a, b, h0, h1, rfl⟩ := s
  rw [Hep.get_eq, Hep.get_eq]
  show (h.l.set p _)[q]? = _
  rw [List.getElem?_set_ne (fun e => hq e.symm)]
theorem wf_set {h : Hep} {p : Nat} {o : Ob} (w : Wf h) (ho : o.blw h.n = true) : Wf (h.set p o) := by
  unfold Wf at w ⊢
  rw [Hep.n_set]
  have w : Hep.blw h.l.length h.l.length h.l = true := w
  rw [hblw_all] at w
  have e : (h.set p o).l.length = h.n := List.length_set
  show Hep.blw h.n h.n (h.set p o).l = true
  conv => lhs; arg 2; rw [← e]
  rw [hblw_all]
  rw [List.all_eq_true] at w ⊢
  intro x hx
  rcases List.mem_or_eq_of_mem_set hx with hx | rfl
  · exact w x hx
  · exact ho
theorem Stp.wf {h h' : Hep} {p : Nat} (s : Stp p h h') (w : Wf h) : Wf h' := by
  obtain ⟨a, b, h0, h1, rfl⟩ := s
  exact wf_set w rfl
theorem Stp.push {h h1 : Hep} {p : Nat} {o : Ob} (hp : p < h.n) (s : Stp p (h.push o) h1) : ∃ h', Stp p h h' ∧ h1 = h'.push o := by
  obtain ⟨a, b, h0, h1, rfl⟩ := s
  refine ⟨h.set p (P2 a b), ⟨a, b, h0, h1, rfl⟩, ?_⟩
  unfold Hep.set Hep.push
  rw [List.set_append_left _ _ hp]
theorem Pl.push {h : Hep} {p : Nat} {o : Ob} (hp : Pl h p) : Pl (h.push o) p := by
  obtain ⟨a, b, e, h0, h1⟩ := hp
  refine ⟨a, b, ?_, h0, h1⟩
  rw [Hep.get_push, if_neg (by have := Hep.get_lt e; omega)]
  exact e
theorem Stp.up {h h' : Hep} {p : Nat} {o : Ob} (hp : p < h.n) (s : Stp p h h') : Stp p (h.push o) (h'.push o) := by
  obtain ⟨a, b, h0, h1, rfl⟩ := s
  refine ⟨a, b, h0, h1, ?_⟩
  unfold Hep.set Hep.push
  rw [List.set_append_left _ _ hp]
theorem ends_keep (h : Hep) (o : Ob) : (h.push o).ends h.n (.ref h.n) = h.push o := by
  unfold Hep.ends
  rw [if_neg (by rw [Hep.n_push]; omega)]
  simp [W.blw]
theorem ends_n {h : Hep} {n : Nat} (e : h.n = n) (w : W) : h.ends n w = h := by
  unfold Hep.ends
  rw [if_pos (by rw [e]; exact Nat.le_refl _)]
theorem hblw_app' (n : Nat) (m : List Ob) : ∀ (l : List Ob), Hep.blw n l.length (l ++ m) = Hep.blw n l.length l
  | [] => by cases m <;> rfl
  | x :: r => by
    show (x.blw n && Hep.blw n r.length (r ++ m)) = (x.blw n && Hep.blw n r.length r)
    rw [hblw_app' n m r]
/-- own places are left behind -/
theorem ends_app {h h1 : Hep} {l : List Ob} {w : W} (e : h1.l = h.l ++ l) (wf : Wf h) (hw : w.blw h.n = true) : h1.ends h.n w = h := by
  obtain ⟨l1⟩ := h1
  have e : l1 = h.l ++ l := e
  subst e
  cases l with
  | nil => rw [List.append_nil]; exact ends_n rfl w
  | cons o l =>
    unfold Hep.ends
    rw [if_neg (by show ¬ (h.l ++ o :: l).length ≤ h.l.length; rw [List.length_append, List.length_cons]; omega), hw]
    have e : Hep.blw h.n h.n (h.l ++ o :: l) = true := by
      show Hep.blw h.l.length h.l.length (h.l ++ o :: l) = true
      rw [hblw_app']
      exact wf
    simp only
    rw [e]
    simp only [Bool.and_self, if_true]
    unfold Hep.cut Hep.n
    simp
def flatB : W → Bool
  | .non => true
  | .bl _ => true
  | .int _ => true
  | .str x => PyData.strOk x && decide (x.length ≤ 1000)
  | _ => false
def pd : Nat → W → Bool
  | 0, w => flatB w
  | d + 1, w => match w with
    | .tup xs => xs.all (pd d)
    | .lst xs => xs.all (pd d)
    | w => flatB w
theorem flat_dt {w : W} (h : flatB w = true) : Dt 0 w := by
  cases w with
  | non => exact dt_non
  | bl b => exact ⟨.bool b, fun h f hf => by cases f with
    | zero => exact absurd hf (Nat.lt_irrefl _)
    | succ f => rfl, by simp [PyData.canLay0], by simp [PyData.depth]⟩
  | int i => exact dt_int i
  | str x =>
    simp only [flatB, Bool.and_eq_true] at h
    exact dt_str (by simpa [PyData.canLay0] using h.1)
  | _ => cases h
theorem pd_dt : ∀ {d : Nat} {w : W}, pd d w = true → Dt d w
  | 0, w, h => flat_dt h
  | d + 1, w, h => by
    cases w with
    | tup xs => exact dt_tup fun x hx => pd_dt (List.all_eq_true.mp h x hx)
    | lst xs => exact dt_lst fun x hx => pd_dt (List.all_eq_true.mp h x hx)
    | _ => exact Dt.mono (flat_dt (by simpa only [pd] using h)) (Nat.zero_le _)
theorem pd_flat {d : Nat} {w : W} (h : flatB w = true) : pd d w = true := by
  cases d with
  | zero => exact h
  | succ d => cases w <;> first | exact h | cases h
theorem pd_up : ∀ {d : Nat} {w : W}, pd d w = true → pd (d + 1) w = true
  | 0, w, h => pd_flat h
  | d + 1, w, h => by
    cases w with
    | tup xs => exact List.all_eq_true.mpr fun x hx => pd_up (List.all_eq_true.mp h x hx)
    | lst xs => exact List.all_eq_true.mpr fun x hx => pd_up (List.all_eq_true.mp h x hx)
    | _ => exact h
theorem pd_mono {d e : Nat} {w : W} (h : pd d w = true) (l : d ≤ e) : pd e w = true := by
  induction e with
  | zero => have : d = 0 := by omega
            subst this; exact h
  | succ e ih =>
    by_cases z : d = e + 1
    · subst z; exact h
    · exact pd_up (ih (by omega))
theorem pd_tup {d : Nat} {xs : List W} (h : pd d (.tup xs) = true) : ∃ e, d = e + 1 ∧ ∀ x ∈ xs, pd e x = true := by
  cases d with
  | zero => cases h
  | succ d => exact ⟨d, rfl, fun x hx => List.all_eq_true.mp h x hx⟩
theorem pd_blw : ∀ {d : Nat} {w : W} (n : Nat), pd d w = true → w.blw n = true
  | 0, w, n, h => by cases w <;> first | rfl | cases h
  | d + 1, w, n, h => by
    have L : ∀ xs : List W, xs.all (pd d) = true → W.blws n xs = true := by
      intro xs
      induction xs with
      | nil => intro _; rfl
      | cons x r ih =>
        intro h
        rw [List.all_cons, Bool.and_eq_true] at h
        simp only [W.blws, Bool.and_eq_true]
        exact ⟨pd_blw n h.1, ih h.2⟩
    cases w with
    | tup xs => simp only [W.blw]; exact L xs h
    | lst xs => simp only [W.blw]; exact L xs h
    | ref a => cases h
    | dct a => cases h
    | ins c a => cases h
    | _ => rfl
def isB : Ty → W → Bool
  | .int, .int _ => true
  | .int, .bl _ => true
  | .bool, .bl _ => true
  | .str, .str _ => true
  | .tuple, .tup _ => true
  | .list, .lst _ => true
  | _, _ => false
theorem isi_pd {P : Pg} {d : Nat} {w : W} {h : Hep} (b : Ty) (hw : pd d w = true) : bIsi P [w, .ty b] h = .ok (.bl (isB b w)) h := by
  cases w with
  | non => cases b <;> rfl
  | bl k => cases b <;> rfl
  | int k => cases b <;> rfl
  | str k => cases b <;> rfl
  | tup k => cases b <;> rfl
  | lst k => cases b <;> rfl
  | _ => cases d <;> cases hw
/-- places of a tuple -/
theorem ix_tup {xs : List W} {i : Nat} {x : W} (h : Hep) (e : xs[i]? = some x) : index (.tup xs) (.int (i : Nat)) h = .ok x h := by
  have hl := (List.getElem?_eq_some_iff.mp e).1
  show Out.some' (atW xs (i : Nat)) h = _
  unfold atW ixW
  rw [if_pos (by omega), if_pos (by omega)]
  simp [nth_eq, e]
theorem ix_list {w : W} {xs : List W} {i : Nat} {x : W} {h : Hep} (hw : listOf h w = some xs) (e : xs[i]? = some x) : index w (.int (i : Nat)) h = .ok x h := by
  have hl := (List.getElem?_eq_some_iff.mp e).1
  have a : atW xs ((i : Nat) : Int) = some x := by
    unfold atW ixW
    rw [if_pos (by omega), if_pos (by omega)]
    simp [nth_eq, e]
  unfold index
  simp only
  cases w with
  | lst ys =>
    simp only [seq_lst]
    cases hw
    rw [a]; rfl
  | scr ns =>
    simp only [seq_scr]
    cases hw
    rw [a]; rfl
  | ref q =>
    simp only [seq_ref, hw, a]
    rfl
  | _ => cases hw
theorem len_list {w : W} {xs : List W} {h : Hep} (hw : listOf h w = some xs) : bLen [w] h = .ok (.int (xs.length : Nat)) h := by
  unfold bLen
  simp only
  cases w with
  | lst ys => cases hw; rfl
  | scr ns => cases hw; rfl
  | ref q => simp only [seq_ref, hw]
  | _ => cases hw
theorem turns_gen {xs : List W} {f : List W → W → Hep → Out (List W)} {g : W → List W} {h : Hep} {B : Nat} (hf : ∀ acc w, w ∈ xs → acc.length + (g w).length ≤ B → f acc w h = .ok (acc ++ g w) h) {acc0 : List W} (hb : acc0.length + (xs.flatMap g).length ≤ B) : turns (.fix xs) f xs.length 0 acc0 h = .ok (acc0 ++ xs.flatMap g) h := by
  have key : ∀ (suf pre : List W), xs = pre ++ suf → turns (.fix xs) f suf.length pre.length (acc0 ++ pre.flatMap g) h = .ok (acc0 ++ xs.flatMap g) h := by
    intro suf
    induction suf with
    | nil =>
      intro pre e
      rw [List.append_nil] at e
      rw [e]
      rfl
    | cons w suf ih =>
      intro pre e
      have at_ : (Src.fix xs).at pre.length h = some w := by
        show nth xs pre.length = some w
        rw [nth_eq, e, List.getElem?_append_right (Nat.le_refl _), Nat.sub_self]
        rfl
      have hl : (acc0 ++ pre.flatMap g).length + (g w).length ≤ B := by
        have : (xs.flatMap g).length = (pre.flatMap g).length + ((g w).length + (suf.flatMap g).length) := by
          rw [e, List.flatMap_append, List.length_append, List.flatMap_cons, List.length_append]
        rw [List.length_append]
        omega
      rw [List.length_cons, turns_s, at_, turnGo_s, hf _ w (by rw [e]; simp) hl, bind_ok]
      have := ih (pre ++ [w]) (by rw [e]; simp)
      rw [List.length_append, List.flatMap_append, ← List.append_assoc, List.flatMap_cons, List.flatMap_nil, List.append_nil] at this
      exact this
  have := key xs [] rfl
  simpa using this
/-- the turns of a walk over numbers, each draws -/
theorem turns_rngE {R : Hep → Hep → Prop} {I : Hep → Prop} {G : Nat → W → Prop} {m : Nat} {f : List W → W → Hep → Out (List W)} (hr : ∀ h, I h → R h h) (ht : ∀ a b c, R a b → R b c → R a c) (hm : m ≤ lim)
    (hf : ∀ acc i h, i < m → acc.length = i → I h → ∃ w h', f acc (.int (i : Nat)) h = .ok (acc ++ [w]) h' ∧ G i w ∧ R h h' ∧ I h') {h : Hep} (hi : I h) :
    ∃ ws h', turns (.rng 0 1 m) f m 0 [] h = .ok ws h' ∧ ws.length = m ∧ (∀ i w, ws[i]? = some w → G i w) ∧ R h h' ∧ I h' := by
  have key : ∀ (k i : Nat) (acc : List W) (h : Hep), i + k = m → acc.length = i → (∀ j w, acc[j]? = some w → G j w) → I h → ∃ ws h', turns (.rng 0 1 m) f k i acc h = .ok ws h' ∧ ws.length = m ∧ (∀ i w, ws[i]? = some w → G i w) ∧ R h h' ∧ I h' := by
    intro k
    induction k with
    | zero =>
      intro i acc h e ha hG hi
      exact ⟨acc, h, by rw [turns_zr], by omega, hG, hr h hi, hi⟩
    | succ k ih =>
      intro i acc h e ha hG hi
      obtain ⟨w, h1, e1, g1, r1, i1⟩ := hf acc i h (by omega) ha hi
      obtain ⟨ws, h2, e2, l2, g2, r2, i2⟩ := ih (i + 1) (acc ++ [w]) h1 (by omega) (by rw [List.length_append, ha]; rfl) (by
        intro j x hx
        by_cases z : j < acc.length
        · rw [List.getElem?_append_left z] at hx
          exact hG j x hx
        · rw [List.getElem?_append_right (by omega)] at hx
          have : j - acc.length = 0 := by
            have := (List.getElem?_eq_some_iff.mp hx).1
            simp at this
            omega
          rw [this] at hx
          have hj : j = i := by omega
          subst hj
          simp at hx
          subst hx
          exact g1) i1
      refine ⟨ws, h2, ?_, l2, g2, ht _ _ _ r1 r2, i2⟩
      rw [turns_s, at_rng, turnGo_s, show (0 : Int) + ((i : Nat) : Int) * 1 = ((i : Nat) : Int) by omega, e1, bind_ok]
      exact e2
  exact key m 0 [] h (by omega) rfl (fun j w hw => by simp at hw) hi
theorem evSs_app (P : Pg) (C : Orc) : ∀ (l1 l2 : List Sm) (e : Env) (g : Hep), evSs P C (l1 ++ l2) e g = (evSs P C l1 e g).seq (evSs P C l2)
  | [], l2, e, g => by simp
  | s :: l, l2, e, g => by
    rw [List.cons_append, evSs_cons, evSs_cons]
    cases evS P C s e g with
    | bad => rfl
    | exc => rfl
    | ok f e1 g1 => cases f <;> first | rfl | (simp only [seq_nx]; exact evSs_app P C l l2 e1 g1)
@[simp] theorem sPut_tp2 (i j : Nat) (e : Env) (x y : W) (h : Hep) : sPut (.tp [i, j]) e (.tup [x, y]) h = .ok .nx ((e.set i (some x)).set j (some y)) h := nr rfl
end Ev

namespace Lw
open PySem PySem.Spec PyProof.Rows L2 Ev
def top (i : Nat) : Stmt := PySem.Challenge.pw_steadycalls_k03_whole_terms.main.body.getD i (.Pass ⟨0, 0, 0, 0⟩)
def mem (i j : Nat) : Stmt := (match top i with
  | .ClassDef _ _ _ b _ _ _ _ _ _ _ => b
  | _ => []).getD j (.Pass ⟨0, 0, 0, 0⟩)
/- is_integer -/
abbrev b0 : List Sm := [
  .ret (.and (.bfn .isi [.var 0, .ty .int]) (.not (.bfn .isi [.var 0, .ty .bool])))]
abbrev f0 : Fn := ⟨1, 1, b0⟩
abbrev g0 : FD := ⟨⟨("is_integer", none), "is_integer", "is_integer", defArgs (top 4), defBody (top 4), defScope (top 4), [], []⟩, ["value"], ["value"], [], []⟩
/- is_between -/
abbrev b1 : List Sm := [
  .ret (.and (.cal 0 [.var 0]) (.chn .LtE .LtE (.var 1) (.var 0) (.var 2)))]
abbrev f1 : Fn := ⟨3, 3, b1⟩
abbrev g1 : FD := ⟨⟨("is_between", none), "is_between", "is_between", defArgs (top 5), defBody (top 5), defScope (top 5), [], []⟩, ["value", "least", "most"], ["value", "least", "most"], [], []⟩
/- is_value -/
abbrev b2 : List Sm := [
  .ret (.cal 1 [.var 0, .int 0, .glb 2])]
abbrev f2 : Fn := ⟨1, 1, b2⟩
abbrev g2 : FD := ⟨⟨("is_value", none), "is_value", "is_value", defArgs (top 6), defBody (top 6), defScope (top 6), [], []⟩, ["value"], ["value"], [], []⟩
/- is_name -/
abbrev b3 : List Sm := [
  .ret (.and (.bfn .isi [.var 0, .ty .str]) (.and (.chn .LtE .LtE (.int 1) (.bfn .len [.var 0]) (.glb 1)) (.bfn .all [.lco false (.cmp .In (.var 1) (.glb 0)) (.nm 1) .seq [.var 0] [] [1]])))]
abbrev f3 : Fn := ⟨1, 2, b3⟩
abbrev g3 : FD := ⟨⟨("is_name", none), "is_name", "is_name", defArgs (top 7), defBody (top 7), defScope (top 7), [], []⟩, ["value", "sign"], ["value"], [], []⟩
/- has_kind -/
abbrev b4 : List Sm := [
  .ret (.and (.bfn .isi [.var 0, .ty .tuple]) (.and (.cmp .Eq (.bfn .len [.var 0]) (.var 2)) (.and (.bfn .isi [.idx (.var 0) (.int 0), .ty .str]) (.cmp .Eq (.idx (.var 0) (.int 0)) (.var 1)))))]
abbrev f4 : Fn := ⟨3, 3, b4⟩
abbrev g4 : FD := ⟨⟨("has_kind", none), "has_kind", "has_kind", defArgs (top 8), defBody (top 8), defScope (top 8), [], []⟩, ["value", "kind", "many"], ["value", "kind", "many"], [], []⟩
/- inner_terms -/
abbrev b5 : List Sm := [
  .iff (.not (.bfn .isi [.var 0, .ty .tuple])) [.ret (.tup [])] [],
  .iff (.cmp .Eq (.idx (.var 0) (.int 0)) (.str "call")) [.ret (.idx (.var 0) (.int 2))] [],
  .ret (.ife (.or (.cmp .In (.idx (.var 0) (.int 0)) (.glb 6)) (.cmp .Eq (.idx (.var 0) (.int 0)) (.str "if"))) (.slL (.var 0) (.int 1)) (.tup []))]
abbrev f5 : Fn := ⟨1, 1, b5⟩
abbrev g5 : FD := ⟨⟨("inner_terms", none), "inner_terms", "inner_terms", defArgs (top 14), defBody (top 14), defScope (top 14), [], []⟩, ["term"], ["term"], [], []⟩
/- has_form -/
abbrev b6 : List Sm := [
  .iff (.or (.cal 2 [.var 0]) (.cal 4 [.var 0, .str "tick", .int 1])) [.ret (.bl true)] [],
  .iff (.cal 4 [.var 0, .str "arg", .int 2]) [.ret (.cal 1 [.idx (.var 0) (.int 1), .int 0, .bin .Sub (.var 1) (.int 1)])] [],
  .iff (.cal 4 [.var 0, .str "cell", .int 2]) [.ret (.cal 3 [.idx (.var 0) (.int 1)])] [],
  .iff (.cal 4 [.var 0, .str "call", .int 3]) [.ret (.and (.cal 3 [.idx (.var 0) (.int 1)]) (.and (.bfn .isi [.idx (.var 0) (.int 2), .ty .tuple]) (.cmp .LtE (.bfn .len [.idx (.var 0) (.int 2)]) (.glb 5))))] [],
  .ret (.or (.bfn .any [.lco false (.cal 4 [.var 0, .var 2, .int 3]) (.nm 2) .seq [.glb 6] [] [2]]) (.cal 4 [.var 0, .str "if", .int 4]))]
abbrev f6 : Fn := ⟨2, 3, b6⟩
abbrev g6 : FD := ⟨⟨("has_form", none), "has_form", "has_form", defArgs (top 15), defBody (top 15), defScope (top 15), [], []⟩, ["value", "arguments", "kind"], ["value", "arguments"], [], []⟩
/- is_term -/
abbrev b7 : List Sm := [
  .asg (.tp [3, 4]) (.tup [.lst false [.var 0], .int 0]),
  .for (.nm 2) .rng [.glb 4] [.aug 4 .Add (.bfn .len [.var 3]), .iff (.or (.cmp .Gt (.var 4) (.glb 3)) (.not (.bfn .all [.lco false (.cal 6 [.var 6, .var 1]) (.nm 6) .seq [.var 3] [] [6]]))) [.ret (.bl false)] [], .asg (.nm 3) (.lc2 false (.var 6) (.nm 5) .seq [.var 3] (.nm 6) .seq [.cal 5 [.var 5]] [] [5, 6] [6]), .iff (.cmp .Eq (.var 3) (.lst false [])) [.ret (.bl true)] []],
  .ret (.bl false)]
abbrev f7 : Fn := ⟨2, 7, b7⟩
abbrev g7 : FD := ⟨⟨("is_term", none), "is_term", "is_term", defArgs (top 16), defBody (top 16), defScope (top 16), [], []⟩, ["value", "arguments", "turn", "layer", "parts", "term", "part"], ["value", "arguments"], [], []⟩
/- term_size -/
abbrev b8 : List Sm := [
  .ret (.bin .Add (.int 1) (.bfn .sum [.lco false (.cal 8 [.var 1]) (.nm 1) .seq [.cal 5 [.var 0]] [] [1]]))]
abbrev f8 : Fn := ⟨1, 2, b8⟩
abbrev g8 : FD := ⟨⟨("term_size", none), "term_size", "term_size", defArgs (top 17), defBody (top 17), defScope (top 17), [], []⟩, ["term", "part"], ["term"], [], []⟩
/- term_depth -/
abbrev b9 : List Sm := [
  .iff (.cmp .Eq (.cal 5 [.var 0]) (.tup [])) [.ret (.int 1)] [],
  .ret (.bin .Add (.int 1) (.bfn .maxl [.lco false (.bfn .int [.cal 9 [.var 1]]) (.nm 1) .seq [.cal 5 [.var 0]] [] [1]]))]
abbrev f9 : Fn := ⟨1, 2, b9⟩
abbrev g9 : FD := ⟨⟨("term_depth", none), "term_depth", "term_depth", defArgs (top 18), defBody (top 18), defScope (top 18), [], []⟩, ["term", "part"], ["term"], [], []⟩
/- leaves -/
abbrev b10 : List Sm := [
  .asg (.nm 1) (.lst true [.var 0]),
  .for (.nm 2) .seq [.cal 5 [.var 0]] [.exp (.bmt .extend (.var 1) [.cal 10 [.var 2]])],
  .ret (.frz 1)]
abbrev f10 : Fn := ⟨1, 3, b10⟩
abbrev g10 : FD := ⟨⟨("leaves", none), "leaves", "leaves", defArgs (top 19), defBody (top 19), defScope (top 19), [], []⟩, ["term", "found", "part"], ["term"], [], []⟩
/- names_with -/
abbrev b11 : List Sm := [
  .asg (.nm 2) (.dco false (.idx (.var 3) (.int 1)) (.bl true) (.nm 3) .seq [.cal 10 [.var 0]] [.and (.bfn .isi [.var 3, .ty .tuple]) (.cmp .Eq (.idx (.var 3) (.int 0)) (.var 1))] [3]),
  .ret (.bfn .sorted [.lco false (.bfn .str [.var 4]) (.nm 4) .seq [.var 2] [] [4]])]
abbrev f11 : Fn := ⟨2, 5, b11⟩
abbrev g11 : FD := ⟨⟨("names_with", none), "names_with", "names_with", defArgs (top 20), defBody (top 20), defScope (top 20), [], []⟩, ["term", "kind", "found", "part", "name"], ["term", "kind"], [], []⟩
/- cells_in -/
abbrev b12 : List Sm := [
  .ret (.cal 11 [.var 0, .str "cell"])]
abbrev f12 : Fn := ⟨1, 1, b12⟩
abbrev g12 : FD := ⟨⟨("cells_in", none), "cells_in", "cells_in", defArgs (top 21), defBody (top 21), defScope (top 21), [], []⟩, ["term"], ["term"], [], []⟩
/- calls_in -/
abbrev b13 : List Sm := [
  .ret (.cal 11 [.var 0, .str "call"])]
abbrev f13 : Fn := ⟨1, 1, b13⟩
abbrev g13 : FD := ⟨⟨("calls_in", none), "calls_in", "calls_in", defArgs (top 22), defBody (top 22), defScope (top 22), [], []⟩, ["term"], ["term"], [], []⟩
/- has_tick -/
abbrev b14 : List Sm := [
  .ret (.cmp .In (.tup [.str "tick"]) (.cal 10 [.var 0]))]
abbrev f14 : Fn := ⟨1, 1, b14⟩
abbrev g14 : FD := ⟨⟨("has_tick", none), "has_tick", "has_tick", defArgs (top 23), defBody (top 23), defScope (top 23), [], []⟩, ["term"], ["term"], [], []⟩
/- _law_pool -/
abbrev b15 : List Sm := [
  .asg (.nm 2) (.ife (.cmp .Lt (.var 1) (.bfn .len [.var 0])) (.idx (.var 0) (.var 1)) (.bin .Add (.bin .Mult (.int 7) (.bfn .sum [.slH (.var 0) (.int 63)])) (.var 1))),
  .asg (.nm 3) (.bfn .abs [.var 2]),
  .asg (.nm 4) (.bin .Add (.bin .Add (.bin .Add (.bin .Mod (.bfn .int [.var 3]) (.int 2147483629)) (.bin .Mult (.bin .Mult (.int 7919) (.var 1)) (.var 1))) (.bin .Mult (.int 31) (.var 1))) (.int 17)),
  .asg (.nm 4) (.bin .Mod (.bfn .int [.bin .Mult (.var 4) (.int 48271)]) (.int 2147483647)),
  .ret (.lst true [.bin .Mult (.var 3) (.bfn .int [.cmp .GtE (.var 3) (.bin .Pow (.int 10) (.int 18))]), .bin .Mod (.bfn .int [.bin .Mult (.var 4) (.var 4)]) (.int 2147483629)])]
abbrev f15 : Fn := ⟨2, 5, b15⟩
abbrev g15 : FD := ⟨⟨("_law_pool", none), "_law_pool", "_law_pool", defArgs (top 25), defBody (top 25), defScope (top 25), [], []⟩, ["_law_script", "_law_k", "_law_cell", "_law_size", "_law_mixed"], ["_law_script", "_law_k"], [], []⟩
/- _law_draw -/
abbrev b16 : List Sm := [
  .iff (.cmp .Gt (.idx (.var 0) (.int 0)) (.int 0)) [.asg (.nm 2) (.bin .Mod (.bfn .int [.idx (.var 0) (.int 0)]) (.var 1)), .sub (.var 0) (.int 0) (.bin .FloorDiv (.idx (.var 0) (.int 0)) (.var 1)), .ret (.var 2)] [],
  .sub (.var 0) (.int 1) (.bin .Mod (.bfn .int [.bin .Add (.bin .Mult (.idx (.var 0) (.int 1)) (.int 48271)) (.int 11)]) (.int 2147483647)),
  .ret (.bin .Mod (.bfn .int [.bin .FloorDiv (.bin .Mod (.bfn .int [.bin .Mult (.idx (.var 0) (.int 1)) (.idx (.var 0) (.int 1))]) (.int 2147483629)) (.int 16)]) (.var 1))]
abbrev f16 : Fn := ⟨2, 3, b16⟩
abbrev g16 : FD := ⟨⟨("_law_draw", none), "_law_draw", "_law_draw", defArgs (top 26), defBody (top 26), defScope (top 26), [], []⟩, ["_law_pool_here", "_law_many", "_law_found"], ["_law_pool_here", "_law_many"], [], []⟩
/- _law_pick -/
abbrev b17 : List Sm := [
  .ret (.idx (.var 1) (.cal 16 [.var 0, .bfn .len [.var 1]]))]
abbrev f17 : Fn := ⟨2, 2, b17⟩
abbrev g17 : FD := ⟨⟨("_law_pick", none), "_law_pick", "_law_pick", defArgs (top 27), defBody (top 27), defScope (top 27), [], []⟩, ["_law_pool_here", "_law_row"], ["_law_pool_here", "_law_row"], [], []⟩
/- _law_names -/
abbrev b18 : List Sm := [
  .asg (.nm 2) (.str "abcdefghijklmnopqrstuvwxyz"),
  .asg (.tp [4, 5]) (.tup [.cal 16 [.var 0, .int 26], .bin .Add (.int 1) (.bin .Mult (.int 2) (.cal 16 [.var 0, .int 6]))]),
  .asg (.nm 3) (.lst false [.tup [.str "", .str ""], .tup [.str "", .str "q"], .tup [.str "ab", .str ""], .tup [.str "abcdefg", .str ""], .tup [.str "", .str "abcdefg"]]),
  .asg (.tp [6, 7]) (.cal 17 [.var 0, .var 3]),
  .ret (.lco false (.bin .Add (.bin .Add (.var 6) (.idx (.var 2) (.bin .Mod (.bfn .int [.bin .Add (.var 4) (.bin .Mult (.var 5) (.var 8))]) (.int 26)))) (.var 7)) (.nm 8) .rng [.var 1] [] [8])]
abbrev f18 : Fn := ⟨2, 9, b18⟩
abbrev g18 : FD := ⟨⟨("_law_names", none), "_law_names", "_law_names", defArgs (top 28), defBody (top 28), defScope (top 28), [], []⟩, ["_law_pool_here", "_law_count", "_law_signs", "_law_ends", "_law_origin", "_law_step", "_law_head", "_law_tail", "_law_k"], ["_law_pool_here", "_law_count"], [], []⟩
/- _law_term -/
abbrev b19 : List Sm := [
  .asg (.nm 4) (.cal 16 [.var 0, .ife (.cmp .Gt (.var 3) (.int 0)) (.int 9) (.int 4)]),
  .iff (.or (.cmp .Eq (.var 4) (.int 0)) (.or (.and (.cmp .Eq (.var 4) (.int 1)) (.cmp .Eq (.var 2) (.int 0))) (.and (.cmp .In (.var 4) (.lst false [.int 2, .int 8])) (.cmp .Eq (.idx (.var 1) (.str "cells")) (.lst false []))))) [.ret (.cal 16 [.var 0, .int 3])] [],
  .iff (.cmp .Eq (.var 4) (.int 1)) [.ret (.tup [.str "arg", .cal 16 [.var 0, .var 2]])] [],
  .iff (.or (.cmp .Eq (.var 4) (.int 2)) (.cmp .Eq (.var 4) (.int 8))) [.ret (.tup [.str "cell", .idx (.cal 17 [.var 0, .idx (.var 1) (.str "cells")]) (.int 0)])] [],
  .iff (.cmp .Eq (.var 4) (.int 3)) [.ret (.ife (.cmp .Eq (.cal 16 [.var 0, .int 3]) (.int 0)) (.tup [.str "tick"]) (.cal 16 [.var 0, .int 3]))] [],
  .iff (.and (.cmp .Eq (.var 4) (.int 4)) (.cmp .NotEq (.idx (.var 1) (.str "functions")) (.lst false []))) [.asg (.nm 6) (.cal 17 [.var 0, .idx (.var 1) (.str "functions")]), .ret (.tup [.str "call", .idx (.var 6) (.str "name"), .bfn .tuple [.lco false (.cal 19 [.var 0, .var 1, .var 2, .int 0]) (.nm 7) .rng [.idx (.var 6) (.str "many")] [] [7]]])] [],
  .iff (.cmp .Eq (.var 4) (.int 7)) [.ret (.bin .Add (.tup [.str "if"]) (.bfn .tuple [.lco false (.cal 19 [.var 0, .var 1, .var 2, .bin .Sub (.var 3) (.int 1)]) (.nm 7) .rng [.int 3] [] [7]]))] [],
  .asg (.nm 5) (.cal 17 [.var 0, .lst false [.str "plus", .str "less", .str "same"]]),
  .ret (.tup [.var 5, .cal 19 [.var 0, .var 1, .var 2, .bin .Sub (.var 3) (.int 1)], .cal 19 [.var 0, .var 1, .var 2, .bin .Sub (.var 3) (.int 1)]])]
abbrev f19 : Fn := ⟨4, 8, b19⟩
abbrev g19 : FD := ⟨⟨("_law_term", none), "_law_term", "_law_term", defArgs (top 29), defBody (top 29), defScope (top 29), [], []⟩, ["_law_pool_here", "_law_b", "_law_many", "_law_deep", "_law_kind", "_law_head", "_law_f", "_law_at"], ["_law_pool_here", "_law_b", "_law_many", "_law_deep"], [], []⟩
/- _law_inner -/
abbrev b20 : List Sm := [
  .iff (.or (.not (.bfn .isi [.var 0, .ty .tuple])) (.cmp .In (.idx (.var 0) (.int 0)) (.lst false [.str "arg", .str "cell", .str "tick"]))) [.ret (.lst true [])] [],
  .ret (.ife (.cmp .Eq (.idx (.var 0) (.int 0)) (.str "call")) (.bfn .listM [.idx (.var 0) (.int 2)]) (.bfn .listM [.slL (.var 0) (.int 1)]))]
abbrev f20 : Fn := ⟨1, 1, b20⟩
abbrev g20 : FD := ⟨⟨("_law_inner", none), "_law_inner", "_law_inner", defArgs (top 30), defBody (top 30), defScope (top 30), [], []⟩, ["_law_term_here"], ["_law_term_here"], [], []⟩
/- _law_counts -/
abbrev b21 : List Sm := [
  .asg (.tp [3, 4]) (.tup [.dct true [.str "size", .int 1, .str "cell", .lst false [], .str "call", .lst false [], .str "tick", .bl false], .cal 20 [.var 0]]),
  .asg (.nm 1) (.int 0),
  .iff (.and (.bfn .isi [.var 0, .ty .tuple]) (.cmp .In (.idx (.var 0) (.int 0)) (.lst false [.str "cell", .str "call"]))) [.sub (.var 3) (.idx (.var 0) (.int 0)) (.lst false [.idx (.var 0) (.int 1)])] [],
  .sub (.var 3) (.str "tick") (.cmp .Eq (.var 0) (.tup [.str "tick"])),
  .for (.nm 2) .seq [.var 4] [.asg (.nm 5) (.cal 21 [.var 2]), .sbs [(.var 3, .str "size"), (.var 3, .str "tick")] (.tup [.bin .Add (.idx (.var 3) (.str "size")) (.idx (.var 5) (.str "size")), .or (.idx (.var 3) (.str "tick")) (.idx (.var 5) (.str "tick"))]), .asg (.nm 1) (.bfn .max2 [.bfn .int [.var 1], .bfn .int [.idx (.var 5) (.str "depth")]]), .for (.nm 6) .seq [.lst false [.str "cell", .str "call"]] [.sub (.var 3) (.var 6) (.bin .Add (.idx (.var 3) (.var 6)) (.lco false (.var 7) (.nm 7) .seq [.idx (.var 5) (.var 6)] [.cmp .NotIn (.var 7) (.idx (.var 3) (.var 6))] [7]))]],
  .sub (.var 3) (.str "depth") (.bin .Add (.int 1) (.var 1)),
  .ret (.frz 3)]
abbrev f21 : Fn := ⟨1, 8, b21⟩
abbrev g21 : FD := ⟨⟨("_law_counts", none), "_law_counts", "_law_counts", defArgs (top 31), defBody (top 31), defScope (top 31), [], []⟩, ["_law_term_here", "_law_deepest", "_law_part", "_law_found", "_law_parts", "_law_told", "_law_kind", "_law_word"], ["_law_term_here"], [], []⟩
/- _law_bent -/
abbrev b22 : List Sm := [
  .asg (.nm 3) (.cal 20 [.var 1]),
  .iff (.or (.cmp .Eq (.var 3) (.lst false [])) (.cmp .Eq (.cal 16 [.var 0, .int 3]) (.int 0))) [.ret (.var 2)] [],
  .asg (.nm 4) (.cal 16 [.var 0, .bfn .len [.var 3]]),
  .sub (.var 3) (.var 4) (.cal 22 [.var 0, .idx (.var 3) (.var 4), .var 2]),
  .ret (.ife (.cmp .Eq (.idx (.var 1) (.int 0)) (.str "call")) (.tup [.idx (.var 1) (.int 0), .idx (.var 1) (.int 1), .bfn .tuple [.var 3]]) (.bin .Add (.tup [.idx (.var 1) (.int 0)]) (.bfn .tuple [.var 3])))]
abbrev f22 : Fn := ⟨3, 5, b22⟩
abbrev g22 : FD := ⟨⟨("_law_bent", none), "_law_bent", "_law_bent", defArgs (top 32), defBody (top 32), defScope (top 32), [], []⟩, ["_law_pool_here", "_law_term_here", "_law_odd", "_law_parts", "_law_at"], ["_law_pool_here", "_law_term_here", "_law_odd"], [], []⟩
/- law -/
abbrev b23 : List Sm := [
  .for (.nm 1) .rng [.bfn .max2 [.int 1, .bfn .min2 [.bfn .len [.var 0], .int 2]]] [.asg (.nm 2) (.cal 15 [.var 0, .var 1]), .asg (.tp [5, 6]) (.tup [.cal 18 [.var 2, .int 4], .cal 16 [.var 2, .int 3]]), .asg (.nm 3) (.dct false [.str "cells", .lst true [.tup [.idx (.var 5) (.int 0), .str "table"], .tup [.idx (.var 5) (.int 1), .str "frozen"]], .str "functions", .lst true []]), .for (.tp [7, 8]) .seq [.lst false [.tup [.idx (.var 5) (.int 2), .int 2], .tup [.idx (.var 5) (.int 3), .int 0]]] [.exp (.bmt .append (.idx (.var 3) (.str "functions")) [.dct false [.str "name", .var 7, .str "many", .var 8]])], .for (.nm 4) .rng [.int 12] [.asg (.nm 9) (.cal 19 [.var 2, .var 3, .var 6, .cal 16 [.var 2, .int 4]]), .asg (.nm 10) (.cal 21 [.var 9]), .iff (.cmp .LtE (.idx (.var 10) (.str "size")) (.int 30)) [.iff (.or (.cmp .IsNot (.cal 7 [.var 9, .var 6]) (.bl true)) (.cmp .NotEq (.lst false [.cal 8 [.var 9], .cal 9 [.var 9]]) (.lst false [.idx (.var 10) (.str "size"), .idx (.var 10) (.str "depth")]))) [.ret (.bl false)] [], .iff (.cmp .NotEq (.cal 12 [.var 9]) (.bfn .sorted [.lco false (.bfn .str [.var 7]) (.nm 7) .seq [.idx (.var 10) (.str "cell")] [] [7]])) [.ret (.bl false)] [], .iff (.or (.cmp .NotEq (.cal 13 [.var 9]) (.bfn .sorted [.lco false (.bfn .str [.var 7]) (.nm 7) .seq [.idx (.var 10) (.str "call")] [] [7]])) (.cmp .NotEq (.cal 14 [.var 9]) (.idx (.var 10) (.str "tick")))) [.ret (.bl false)] [], .asg (.nm 11) (.lst false [.non, .int 3, .neg (.int 1), .bl true, .str "1", .tup [], .tup [.str "arg", .var 6], .tup [.str "arg", .bl true], .tup [.str "cell", .str "A"], .tup [.str "cell"], .tup [.str "tick", .int 1], .lst false [.str "tick"]]), .asg (.nm 11) (.bin .Add (.var 11) (.lst false [.tup [.str "plus", .int 1], .tup [.str "less", .int 0, .int 1, .int 2], .tup [.str "if", .int 1, .int 1], .tup [.str "call", .str "f", .lst false [.int 1]], .tup [.str "call", .str "f", .tup [.int 1, .int 1, .int 1]], .tup [.str "call", .str "F", .tup []]])), .for (.nm 12) .seq [.bin .Add (.var 11) (.lst false [.tup [.str "Plus", .int 1, .int 1], .tup [.str "same", .int 0, .non], .tup [.int 1, .int 1, .int 1], .tup [.str "call", .str "f"], .tup [.str "call", .str "f", .tup [.non]]])] [.iff (.cmp .IsNot (.cal 7 [.cal 22 [.var 2, .var 9, .var 12], .var 6]) (.bl false)) [.ret (.bl false)] []]] []]],
  .ret (.bl true)]
abbrev f23 : Fn := ⟨1, 13, b23⟩
abbrev g23 : FD := ⟨⟨("law", none), "law", "law", defArgs (top 33), defBody (top 33), defScope (top 33), [], []⟩, ["_law_script", "_law_k", "_law_pool_here", "_law_b", "_law_turn", "_law_names_here", "_law_many", "_law_word", "_law_arguments", "_law_term_here", "_law_due", "_law_odds", "_law_odd"], ["_law_script"], [], []⟩
abbrev glbs : List W := [.str "abcdefghijklmnopqrstuvwxyz", .int 8, .int 2, .int 30, .int 8, .int 2, .tup [.str "plus", .str "less", .str "same"]]
abbrev M : Nms := ⟨[some "is_integer", some "is_between", some "is_value", some "is_name", some "has_kind", some "inner_terms", some "has_form", some "is_term", some "term_size", some "term_depth", some "leaves", some "names_with", some "cells_in", some "calls_in", some "has_tick", some "_law_pool", some "_law_draw", some "_law_pick", some "_law_names", some "_law_term", some "_law_inner", some "_law_counts", some "_law_bent", some "law"], ["LETTERS", "MOST_LETTERS", "MOST_VALUE", "MOST_PARTS", "MOST_DEPTH", "MOST_ARGUMENTS", "PAIRS"], [], [], [], [], []⟩
abbrev Pr : Pg := ⟨[f0, f1, f2, f3, f4, f5, f6, f7, f8, f9, f10, f11, f12, f13, f14, f15, f16, f17, f18, f19, f20, f21, f22, f23], [], glbs, [], [], []⟩
abbrev Fs : List FD := [g0, g1, g2, g3, g4, g5, g6, g7, g8, g9, g10, g11, g12, g13, g14, g15, g16, g17, g18, g19, g20, g21, g22, g23]
abbrev Es : List (Option ED) := []
theorem t0 : Text Pr M g0 f0 := ⟨rfl, rfl, by decide +kernel, by decide +kernel, fun _ _ _ _ _ _ _ _ us hl => match us, hl with | [_], _ => rfl⟩
theorem t1 : Text Pr M g1 f1 := ⟨rfl, rfl, by decide +kernel, by decide +kernel, fun _ _ _ _ _ _ _ _ us hl => match us, hl with | [_, _, _], _ => rfl⟩
theorem t2 : Text Pr M g2 f2 := ⟨rfl, rfl, by decide +kernel, by decide +kernel, fun _ _ _ _ _ _ _ _ us hl => match us, hl with | [_], _ => rfl⟩
theorem t3 : Text Pr M g3 f3 := ⟨rfl, rfl, by decide +kernel, by decide +kernel, fun _ _ _ _ _ _ _ _ us hl => match us, hl with | [_], _ => rfl⟩
theorem t4 : Text Pr M g4 f4 := ⟨rfl, rfl, by decide +kernel, by decide +kernel, fun _ _ _ _ _ _ _ _ us hl => match us, hl with | [_, _, _], _ => rfl⟩
theorem t5 : Text Pr M g5 f5 := ⟨rfl, rfl, by decide +kernel, by decide +kernel, fun _ _ _ _ _ _ _ _ us hl => match us, hl with | [_], _ => rfl⟩
theorem t6 : Text Pr M g6 f6 := ⟨rfl, rfl, by decide +kernel, by decide +kernel, fun _ _ _ _ _ _ _ _ us hl => match us, hl with | [_, _], _ => rfl⟩
theorem t7 : Text Pr M g7 f7 := ⟨rfl, rfl, by decide +kernel, by decide +kernel, fun _ _ _ _ _ _ _ _ us hl => match us, hl with | [_, _], _ => rfl⟩
theorem t8 : Text Pr M g8 f8 := ⟨rfl, rfl, by decide +kernel, by decide +kernel, fun _ _ _ _ _ _ _ _ us hl => match us, hl with | [_], _ => rfl⟩
theorem t9 : Text Pr M g9 f9 := ⟨rfl, rfl, by decide +kernel, by decide +kernel, fun _ _ _ _ _ _ _ _ us hl => match us, hl with | [_], _ => rfl⟩
theorem t10 : Text Pr M g10 f10 := ⟨rfl, rfl, by decide +kernel, by decide +kernel, fun _ _ _ _ _ _ _ _ us hl => match us, hl with | [_], _ => rfl⟩
theorem t11 : Text Pr M g11 f11 := ⟨rfl, rfl, by decide +kernel, by decide +kernel, fun _ _ _ _ _ _ _ _ us hl => match us, hl with | [_, _], _ => rfl⟩
theorem t12 : Text Pr M g12 f12 := ⟨rfl, rfl, by decide +kernel, by decide +kernel, fun _ _ _ _ _ _ _ _ us hl => match us, hl with | [_], _ => rfl⟩
theorem t13 : Text Pr M g13 f13 := ⟨rfl, rfl, by decide +kernel, by decide +kernel, fun _ _ _ _ _ _ _ _ us hl => match us, hl with | [_], _ => rfl⟩
theorem t14 : Text Pr M g14 f14 := ⟨rfl, rfl, by decide +kernel, by decide +kernel, fun _ _ _ _ _ _ _ _ us hl => match us, hl with | [_], _ => rfl⟩
theorem t15 : Text Pr M g15 f15 := ⟨rfl, rfl, by decide +kernel, by decide +kernel, fun _ _ _ _ _ _ _ _ us hl => match us, hl with | [_, _], _ => rfl⟩
theorem t16 : Text Pr M g16 f16 := ⟨rfl, rfl, by decide +kernel, by decide +kernel, fun _ _ _ _ _ _ _ _ us hl => match us, hl with | [_, _], _ => rfl⟩
theorem t17 : Text Pr M g17 f17 := ⟨rfl, rfl, by decide +kernel, by decide +kernel, fun _ _ _ _ _ _ _ _ us hl => match us, hl with | [_, _], _ => rfl⟩
theorem t18 : Text Pr M g18 f18 := ⟨rfl, rfl, by decide +kernel, by decide +kernel, fun _ _ _ _ _ _ _ _ us hl => match us, hl with | [_, _], _ => rfl⟩
theorem t19 : Text Pr M g19 f19 := ⟨rfl, rfl, by decide +kernel, by decide +kernel, fun _ _ _ _ _ _ _ _ us hl => match us, hl with | [_, _, _, _], _ => rfl⟩
theorem t20 : Text Pr M g20 f20 := ⟨rfl, rfl, by decide +kernel, by decide +kernel, fun _ _ _ _ _ _ _ _ us hl => match us, hl with | [_], _ => rfl⟩
theorem t21 : Text Pr M g21 f21 := ⟨rfl, rfl, by decide +kernel, by decide +kernel, fun _ _ _ _ _ _ _ _ us hl => match us, hl with | [_], _ => rfl⟩
theorem t22 : Text Pr M g22 f22 := ⟨rfl, rfl, by decide +kernel, by decide +kernel, fun _ _ _ _ _ _ _ _ us hl => match us, hl with | [_, _, _], _ => rfl⟩
theorem t23 : Text Pr M g23 f23 := ⟨rfl, rfl, by decide +kernel, by decide +kernel, fun _ _ _ _ _ _ _ _ us hl => match us, hl with | [_], _ => rfl⟩
theorem texts : Texts Pr M Fs := by
  intro f F h
  match f, h with
  | 0, h => cases h; exact ⟨f0, rfl, t0⟩
  | 1, h => cases h; exact ⟨f1, rfl, t1⟩
  | 2, h => cases h; exact ⟨f2, rfl, t2⟩
  | 3, h => cases h; exact ⟨f3, rfl, t3⟩
  | 4, h => cases h; exact ⟨f4, rfl, t4⟩
  | 5, h => cases h; exact ⟨f5, rfl, t5⟩
  | 6, h => cases h; exact ⟨f6, rfl, t6⟩
  | 7, h => cases h; exact ⟨f7, rfl, t7⟩
  | 8, h => cases h; exact ⟨f8, rfl, t8⟩
  | 9, h => cases h; exact ⟨f9, rfl, t9⟩
  | 10, h => cases h; exact ⟨f10, rfl, t10⟩
  | 11, h => cases h; exact ⟨f11, rfl, t11⟩
  | 12, h => cases h; exact ⟨f12, rfl, t12⟩
  | 13, h => cases h; exact ⟨f13, rfl, t13⟩
  | 14, h => cases h; exact ⟨f14, rfl, t14⟩
  | 15, h => cases h; exact ⟨f15, rfl, t15⟩
  | 16, h => cases h; exact ⟨f16, rfl, t16⟩
  | 17, h => cases h; exact ⟨f17, rfl, t17⟩
  | 18, h => cases h; exact ⟨f18, rfl, t18⟩
  | 19, h => cases h; exact ⟨f19, rfl, t19⟩
  | 20, h => cases h; exact ⟨f20, rfl, t20⟩
  | 21, h => cases h; exact ⟨f21, rfl, t21⟩
  | 22, h => cases h; exact ⟨f22, rfl, t22⟩
  | 23, h => cases h; exact ⟨f23, rfl, t23⟩
  | _ + 24, h => cases h
theorem errts : ErrTs Es := by
  intro E h
  simp only [eds, Es, List.filterMap_cons, List.filterMap_nil, id] at h
  simp only [List.mem_cons, List.not_mem_nil, or_false] at h
theorem kbs : Kbs Pr M Fs := by
  intro b kb ox m ks h1 h2
  match b, h1, h2 with
  | _ + 0, h1, h2 => cases h1
theorem tied : Tied Pr M Fs Es := ⟨rfl, rfl, rfl, rfl, by decide +kernel, by decide +kernel, by decide +kernel, texts, errts, kbs⟩
def loose_0 : List Str := ["LETTERS", "MOST_LETTERS", "MOST_VALUE", "is_integer", "is_between", "is_value", "is_name", "has_kind", "MOST_PARTS", "MOST_DEPTH", "MOST_ARGUMENTS", "PAIRS", "inner_terms", "has_form", "is_term", "term_size", "term_depth", "leaves", "names_with", "cells_in"]
def loose_1 : List Str := ["calls_in", "has_tick", "_law_pool", "_law_draw", "_law_pick", "_law_names", "_law_term", "_law_inner", "_law_counts", "_law_bent"]
abbrev loose : List Str := (loose_0 ++ loose_1)
abbrev R : PySem.W.OpenRow := PySem.W.OpenLaw.row PySem.Challenge.rw_steadycalls_k03_whole_terms
end Lw

namespace Lw
open PySem Ev
abbrev F_is_integer : Nat := 0
abbrev B_is_integer : List Sm := b0
theorem c_is_integer (n : Nat) (x0 : W) (h : Hep) : callN Pr (n + 1) 0 [x0] h = (evSs Pr (orcN Pr n) b0 [some x0] h).res.fin h.n := (callN_at (fn := f0) n [x0] h rfl rfl).trans (congrArg (fun e => (evSs Pr (orcN Pr n) b0 e h).res.fin h.n) (rfl : pad 1 [x0] = [some x0]))
abbrev F_is_between : Nat := 1
abbrev B_is_between : List Sm := b1
theorem c_is_between (n : Nat) (x0 x1 x2 : W) (h : Hep) : callN Pr (n + 1) 1 [x0, x1, x2] h = (evSs Pr (orcN Pr n) b1 [some x0, some x1, some x2] h).res.fin h.n := (callN_at (fn := f1) n [x0, x1, x2] h rfl rfl).trans (congrArg (fun e => (evSs Pr (orcN Pr n) b1 e h).res.fin h.n) (rfl : pad 3 [x0, x1, x2] = [some x0, some x1, some x2]))
abbrev F_is_value : Nat := 2
abbrev B_is_value : List Sm := b2
theorem c_is_value (n : Nat) (x0 : W) (h : Hep) : callN Pr (n + 1) 2 [x0] h = (evSs Pr (orcN Pr n) b2 [some x0] h).res.fin h.n := (callN_at (fn := f2) n [x0] h rfl rfl).trans (congrArg (fun e => (evSs Pr (orcN Pr n) b2 e h).res.fin h.n) (rfl : pad 1 [x0] = [some x0]))
abbrev F_is_name : Nat := 3
abbrev B_is_name : List Sm := b3
theorem c_is_name (n : Nat) (x0 : W) (h : Hep) : callN Pr (n + 1) 3 [x0] h = (evSs Pr (orcN Pr n) b3 [some x0, none] h).res.fin h.n := (callN_at (fn := f3) n [x0] h rfl rfl).trans (congrArg (fun e => (evSs Pr (orcN Pr n) b3 e h).res.fin h.n) (rfl : pad 2 [x0] = [some x0, none]))
abbrev F_has_kind : Nat := 4
abbrev B_has_kind : List Sm := b4
theorem c_has_kind (n : Nat) (x0 x1 x2 : W) (h : Hep) : callN Pr (n + 1) 4 [x0, x1, x2] h = (evSs Pr (orcN Pr n) b4 [some x0, some x1, some x2] h).res.fin h.n := (callN_at (fn := f4) n [x0, x1, x2] h rfl rfl).trans (congrArg (fun e => (evSs Pr (orcN Pr n) b4 e h).res.fin h.n) (rfl : pad 3 [x0, x1, x2] = [some x0, some x1, some x2]))
abbrev F_inner_terms : Nat := 5
abbrev B_inner_terms : List Sm := b5
theorem c_inner_terms (n : Nat) (x0 : W) (h : Hep) : callN Pr (n + 1) 5 [x0] h = (evSs Pr (orcN Pr n) b5 [some x0] h).res.fin h.n := (callN_at (fn := f5) n [x0] h rfl rfl).trans (congrArg (fun e => (evSs Pr (orcN Pr n) b5 e h).res.fin h.n) (rfl : pad 1 [x0] = [some x0]))
abbrev F_has_form : Nat := 6
abbrev B_has_form : List Sm := b6
theorem c_has_form (n : Nat) (x0 x1 : W) (h : Hep) : callN Pr (n + 1) 6 [x0, x1] h = (evSs Pr (orcN Pr n) b6 [some x0, some x1, none] h).res.fin h.n := (callN_at (fn := f6) n [x0, x1] h rfl rfl).trans (congrArg (fun e => (evSs Pr (orcN Pr n) b6 e h).res.fin h.n) (rfl : pad 3 [x0, x1] = [some x0, some x1, none]))
abbrev F_is_term : Nat := 7
abbrev B_is_term : List Sm := b7
theorem c_is_term (n : Nat) (x0 x1 : W) (h : Hep) : callN Pr (n + 1) 7 [x0, x1] h = (evSs Pr (orcN Pr n) b7 [some x0, some x1, none, none, none, none, none] h).res.fin h.n := (callN_at (fn := f7) n [x0, x1] h rfl rfl).trans (congrArg (fun e => (evSs Pr (orcN Pr n) b7 e h).res.fin h.n) (rfl : pad 7 [x0, x1] = [some x0, some x1, none, none, none, none, none]))
abbrev F_term_size : Nat := 8
abbrev B_term_size : List Sm := b8
theorem c_term_size (n : Nat) (x0 : W) (h : Hep) : callN Pr (n + 1) 8 [x0] h = (evSs Pr (orcN Pr n) b8 [some x0, none] h).res.fin h.n := (callN_at (fn := f8) n [x0] h rfl rfl).trans (congrArg (fun e => (evSs Pr (orcN Pr n) b8 e h).res.fin h.n) (rfl : pad 2 [x0] = [some x0, none]))
abbrev F_term_depth : Nat := 9
abbrev B_term_depth : List Sm := b9
theorem c_term_depth (n : Nat) (x0 : W) (h : Hep) : callN Pr (n + 1) 9 [x0] h = (evSs Pr (orcN Pr n) b9 [some x0, none] h).res.fin h.n := (callN_at (fn := f9) n [x0] h rfl rfl).trans (congrArg (fun e => (evSs Pr (orcN Pr n) b9 e h).res.fin h.n) (rfl : pad 2 [x0] = [some x0, none]))
abbrev F_leaves : Nat := 10
abbrev B_leaves : List Sm := b10
theorem c_leaves (n : Nat) (x0 : W) (h : Hep) : callN Pr (n + 1) 10 [x0] h = (evSs Pr (orcN Pr n) b10 [some x0, none, none] h).res.fin h.n := (callN_at (fn := f10) n [x0] h rfl rfl).trans (congrArg (fun e => (evSs Pr (orcN Pr n) b10 e h).res.fin h.n) (rfl : pad 3 [x0] = [some x0, none, none]))
abbrev F_names_with : Nat := 11
abbrev B_names_with : List Sm := b11
theorem c_names_with (n : Nat) (x0 x1 : W) (h : Hep) : callN Pr (n + 1) 11 [x0, x1] h = (evSs Pr (orcN Pr n) b11 [some x0, some x1, none, none, none] h).res.fin h.n := (callN_at (fn := f11) n [x0, x1] h rfl rfl).trans (congrArg (fun e => (evSs Pr (orcN Pr n) b11 e h).res.fin h.n) (rfl : pad 5 [x0, x1] = [some x0, some x1, none, none, none]))
abbrev F_cells_in : Nat := 12
abbrev B_cells_in : List Sm := b12
theorem c_cells_in (n : Nat) (x0 : W) (h : Hep) : callN Pr (n + 1) 12 [x0] h = (evSs Pr (orcN Pr n) b12 [some x0] h).res.fin h.n := (callN_at (fn := f12) n [x0] h rfl rfl).trans (congrArg (fun e => (evSs Pr (orcN Pr n) b12 e h).res.fin h.n) (rfl : pad 1 [x0] = [some x0]))
abbrev F_calls_in : Nat := 13
abbrev B_calls_in : List Sm := b13
theorem c_calls_in (n : Nat) (x0 : W) (h : Hep) : callN Pr (n + 1) 13 [x0] h = (evSs Pr (orcN Pr n) b13 [some x0] h).res.fin h.n := (callN_at (fn := f13) n [x0] h rfl rfl).trans (congrArg (fun e => (evSs Pr (orcN Pr n) b13 e h).res.fin h.n) (rfl : pad 1 [x0] = [some x0]))
abbrev F_has_tick : Nat := 14
abbrev B_has_tick : List Sm := b14
theorem c_has_tick (n : Nat) (x0 : W) (h : Hep) : callN Pr (n + 1) 14 [x0] h = (evSs Pr (orcN Pr n) b14 [some x0] h).res.fin h.n := (callN_at (fn := f14) n [x0] h rfl rfl).trans (congrArg (fun e => (evSs Pr (orcN Pr n) b14 e h).res.fin h.n) (rfl : pad 1 [x0] = [some x0]))
abbrev F_law_pool : Nat := 15
abbrev B_law_pool : List Sm := b15
theorem c_law_pool (n : Nat) (x0 x1 : W) (h : Hep) : callN Pr (n + 1) 15 [x0, x1] h = (evSs Pr (orcN Pr n) b15 [some x0, some x1, none, none, none] h).res.fin h.n := (callN_at (fn := f15) n [x0, x1] h rfl rfl).trans (congrArg (fun e => (evSs Pr (orcN Pr n) b15 e h).res.fin h.n) (rfl : pad 5 [x0, x1] = [some x0, some x1, none, none, none]))
abbrev F_law_draw : Nat := 16
abbrev B_law_draw : List Sm := b16
theorem c_law_draw (n : Nat) (x0 x1 : W) (h : Hep) : callN Pr (n + 1) 16 [x0, x1] h = (evSs Pr (orcN Pr n) b16 [some x0, some x1, none] h).res.fin h.n := (callN_at (fn := f16) n [x0, x1] h rfl rfl).trans (congrArg (fun e => (evSs Pr (orcN Pr n) b16 e h).res.fin h.n) (rfl : pad 3 [x0, x1] = [some x0, some x1, none]))
abbrev F_law_pick : Nat := 17
abbrev B_law_pick : List Sm := b17
theorem c_law_pick (n : Nat) (x0 x1 : W) (h : Hep) : callN Pr (n + 1) 17 [x0, x1] h = (evSs Pr (orcN Pr n) b17 [some x0, some x1] h).res.fin h.n := (callN_at (fn := f17) n [x0, x1] h rfl rfl).trans (congrArg (fun e => (evSs Pr (orcN Pr n) b17 e h).res.fin h.n) (rfl : pad 2 [x0, x1] = [some x0, some x1]))
abbrev F_law_names : Nat := 18
abbrev B_law_names : List Sm := b18
theorem c_law_names (n : Nat) (x0 x1 : W) (h : Hep) : callN Pr (n + 1) 18 [x0, x1] h = (evSs Pr (orcN Pr n) b18 [some x0, some x1, none, none, none, none, none, none, none] h).res.fin h.n := (callN_at (fn := f18) n [x0, x1] h rfl rfl).trans (congrArg (fun e => (evSs Pr (orcN Pr n) b18 e h).res.fin h.n) (rfl : pad 9 [x0, x1] = [some x0, some x1, none, none, none, none, none, none, none]))
abbrev F_law_term : Nat := 19
abbrev B_law_term : List Sm := b19
theorem c_law_term (n : Nat) (x0 x1 x2 x3 : W) (h : Hep) : callN Pr (n + 1) 19 [x0, x1, x2, x3] h = (evSs Pr (orcN Pr n) b19 [some x0, some x1, some x2, some x3, none, none, none, none] h).res.fin h.n := (callN_at (fn := f19) n [x0, x1, x2, x3] h rfl rfl).trans (congrArg (fun e => (evSs Pr (orcN Pr n) b19 e h).res.fin h.n) (rfl : pad 8 [x0, x1, x2, x3] = [some x0, some x1, some x2, some x3, none, none, none, none]))
abbrev F_law_inner : Nat := 20
abbrev B_law_inner : List Sm := b20
theorem c_law_inner (n : Nat) (x0 : W) (h : Hep) : callN Pr (n + 1) 20 [x0] h = (evSs Pr (orcN Pr n) b20 [some x0] h).res.fin h.n := (callN_at (fn := f20) n [x0] h rfl rfl).trans (congrArg (fun e => (evSs Pr (orcN Pr n) b20 e h).res.fin h.n) (rfl : pad 1 [x0] = [some x0]))
abbrev F_law_counts : Nat := 21
abbrev B_law_counts : List Sm := b21
theorem c_law_counts (n : Nat) (x0 : W) (h : Hep) : callN Pr (n + 1) 21 [x0] h = (evSs Pr (orcN Pr n) b21 [some x0, none, none, none, none, none, none, none] h).res.fin h.n := (callN_at (fn := f21) n [x0] h rfl rfl).trans (congrArg (fun e => (evSs Pr (orcN Pr n) b21 e h).res.fin h.n) (rfl : pad 8 [x0] = [some x0, none, none, none, none, none, none, none]))
abbrev F_law_bent : Nat := 22
abbrev B_law_bent : List Sm := b22
theorem c_law_bent (n : Nat) (x0 x1 x2 : W) (h : Hep) : callN Pr (n + 1) 22 [x0, x1, x2] h = (evSs Pr (orcN Pr n) b22 [some x0, some x1, some x2, none, none] h).res.fin h.n := (callN_at (fn := f22) n [x0, x1, x2] h rfl rfl).trans (congrArg (fun e => (evSs Pr (orcN Pr n) b22 e h).res.fin h.n) (rfl : pad 5 [x0, x1, x2] = [some x0, some x1, some x2, none, none]))
abbrev F_law : Nat := 23
abbrev B_law : List Sm := b23
theorem c_law (n : Nat) (x0 : W) (h : Hep) : callN Pr (n + 1) 23 [x0] h = (evSs Pr (orcN Pr n) b23 [some x0, none, none, none, none, none, none, none, none, none, none, none, none] h).res.fin h.n := (callN_at (fn := f23) n [x0] h rfl rfl).trans (congrArg (fun e => (evSs Pr (orcN Pr n) b23 e h).res.fin h.n) (rfl : pad 13 [x0] = [some x0, none, none, none, none, none, none, none, none, none, none, none, none]))
abbrev G_LETTERS : Nat := 0
abbrev G_MOST_LETTERS : Nat := 1
abbrev G_MOST_VALUE : Nat := 2
abbrev G_MOST_PARTS : Nat := 3
abbrev G_MOST_DEPTH : Nat := 4
abbrev G_MOST_ARGUMENTS : Nat := 5
abbrev G_PAIRS : Nat := 6
end Lw

namespace Lw
open PySem Ev
theorem mods (i j : Int) (hj : 0 < j) (h : Hep) : binop .Mod (.int i) (.int j) h = .ok (.int (i % j)) h := bin_mod hj h
theorem ix0 {h : Hep} {p : Nat} {a b : Int} (e : h.get p = some (P2 a b)) : index (.ref p) (.int 0) h = .ok (.int a) h := by
  exact ix_list (i := 0) (list_ref e) rfl
theorem ix1 {h : Hep} {p : Nat} {a b : Int} (e : h.get p = some (P2 a b)) : index (.ref p) (.int 1) h = .ok (.int b) h := by
  exact ix_list (i := 1) (list_ref e) rfl
theorem set0 {h : Hep} {p : Nat} {a b : Int} (q : h.get p = some (P2 a b)) (c : Int) (e : Ev.Env) : sSub3 e (.int c) (.ref p) (.int 0) h = .ok .nx e (h.set p (P2 c b)) := by
  unfold sSub3 Ev.setItem
  simp only
  rw [q]
  rfl
theorem set1 {h : Hep} {p : Nat} {a b : Int} (q : h.get p = some (P2 a b)) (c : Int) (e : Ev.Env) : sSub3 e (.int c) (.ref p) (.int 1) h = .ok .nx e (h.set p (P2 a c)) := by
  unfold sSub3 Ev.setItem
  simp only
  rw [q]
  rfl
/-- a draw gives a number below, and changes the pool alone -/
theorem draw (n : Nat) (h : Hep) (p : Nat) (hp : Pl h p) (m : Nat) (hm : 0 < m) (hm2 : m < 1073741824) : ∃ r h', r < m ∧ Stp p h h' ∧ callN Pr (n + 1) F_law_draw [.ref p, .int (m : Nat)] h = .ok (.int (r : Nat)) h' := by
  obtain ⟨a, b, e, hb0, hb1⟩ := hp
  have hm' : (0 : Int) < (m : Nat) := by omega
  have hm3 : ((m : Nat) : Int) < 1073741824 := by omega
  by_cases z : 0 < a
  · have l0 := Int.emod_nonneg a (show ((m : Nat) : Int) ≠ 0 by omega)
    have l1 := Int.emod_lt_of_pos a hm'
    refine ⟨(a % (m : Nat)).toNat, h.set p (P2 (a / (m : Nat)) b), by omega, ⟨_, _, hb0, hb1, rfl⟩, ?_⟩
    rw [c_law_draw, show (((a % (m : Nat)).toNat : Nat) : Int) = a % (m : Nat) by omega]
    simp [ix0 e, z, bfn, mods _ _ hm', bin_fdv hm' hm3, set0 e]
    exact ends_n (Hep.n_set _ _ _) _
  · have l0 := Int.emod_nonneg (b * 48271 + 11) (show (2147483647 : Int) ≠ 0 by decide)
    have l1 := Int.emod_lt_of_pos (b * 48271 + 11) (show (0 : Int) < 2147483647 by decide)
    have k1 : mulOk b 48271 = true := by simp [mulOk]
    have k2 : mulOk ((b * 48271 + 11) % 2147483647) ((b * 48271 + 11) % 2147483647) = true := by
      unfold mulOk
      simp only [Bool.or_eq_true, Bool.and_eq_true, decide_eq_true_eq]
      left
      omega
    generalize hv : (b * 48271 + 11) % 2147483647 * ((b * 48271 + 11) % 2147483647) % 2147483629 / 16 = v
    have r0 := Int.emod_nonneg v (show ((m : Nat) : Int) ≠ 0 by omega)
    have r1 := Int.emod_lt_of_pos v hm'
    have e2 : (h.set p (P2 a ((b * 48271 + 11) % 2147483647))).get p = some (P2 a ((b * 48271 + 11) % 2147483647)) := by rw [Hep.get_set e, if_pos rfl]
    refine ⟨(v % (m : Nat)).toNat, h.set p (P2 a ((b * 48271 + 11) % 2147483647)), by omega, ⟨_, _, l0, by omega, rfl⟩, ?_⟩
    rw [c_law_draw, show (((v % (m : Nat)).toNat : Nat) : Int) = v % (m : Nat) by omega]
    simp [ix0 e, ix1 e, z, bfn, mods, mods _ _ hm', bin_fdv, bin_mul k1, set1 e, ix1 e2, bin_mul k2, hv]
    exact ends_n (Hep.n_set _ _ _) _
theorem draw_ (n : Nat) (h : Hep) (p : Nat) (hp : Pl h p) (m : Int) (hm : 0 < m) (hm2 : m < 1073741824) : ∃ (r : Nat) (h' : Hep), (r : Int) < m ∧ Stp p h h' ∧ callN Pr (n + 1) F_law_draw [.ref p, .int m] h = .ok (.int (r : Nat)) h' := by
  obtain ⟨r, h', h1, h2, h3⟩ := draw n h p hp m.toNat (by omega) (by omega)
  rw [show ((m.toNat : Nat) : Int) = m by omega] at h3
  exact ⟨r, h', by omega, h2, h3⟩
/-- a pick gives one of the row -/
theorem pick (n : Nat) (h : Hep) (p : Nat) (hp : Pl h p) (w : W) (xs : List W) (hw : ∀ h', Stp p h h' → listOf h' w = some xs) (h0 : xs ≠ []) (hl : xs.length < 1000) : ∃ x h', x ∈ xs ∧ Stp p h h' ∧ callN Pr (n + 2) F_law_pick [.ref p, w] h = .ok x h' := by
  have hpos : 0 < xs.length := List.length_pos_iff.mpr h0
  obtain ⟨r, h', h1, h2, h3⟩ := draw n h p hp xs.length hpos (by omega)
  have e1 := len_list (hw h (Stp.refl hp))
  have e2 := ix_list (hw h' h2) (List.getElem?_eq_getElem h1)
  refine ⟨xs[r], h', List.getElem_mem _, h2, ?_⟩
  rw [c_law_pick]
  simp only [F_law_draw] at h3
  simp [bfn, e1, h3, e2]
  exact ends_n h2.n _
abbrev az : Str := "abcdefghijklmnopqrstuvwxyz"
def sgn (i : Nat) : Str := ⟨#[97 + i]⟩
def hd5 : List (Str × Str) := [("", ""), ("", "q"), ("ab", ""), ("abcdefg", ""), ("", "abcdefg")]
def nmOf (o s : Nat) (ht : Str × Str) (k : Nat) : Str := ht.1 ++ sgn ((o + (1 + 2 * s) * k) % 26) ++ ht.2
theorem az_at (m : Nat) (hm : m < 26) (h : Hep) : index (.str az) (.int (m : Nat)) h = .ok (.str (sgn m)) h := by
  have q : ∀ m < 26, (match ixW 26 ((m : Nat) : Int) with
      | some j => nth az.cps.toList j
      | none => none) = some (97 + m) := by decide +kernel
  have q := q m hm
  unfold index
  simp only
  rw [if_pos (by decide +kernel : az.length ≤ lim)]
  rw [show az.cps.toList.length = 26 by decide +kernel]
  revert q
  cases ixW 26 ((m : Nat) : Int) with
  | none => intro q; cases q
  | some j =>
    intro q
    simp only at q ⊢
    rw [q]
    rfl
theorem nm_item (n : Nat) (o s k : Nat) (hk : k < 100) (ho : o < 26) (hs : s < 6) (ht : Str × Str) (hh : ht ∈ hd5) (x0 x1 x3 x8 : Option W) (acc : List W) (ha : acc.length < lim) (h : Hep) :
    lcoF Pr (orcN Pr n) (.bin .Add (.bin .Add (.var 6) (.idx (.var 2) (.bin .Mod (.bfn .int [.bin .Add (.var 4) (.bin .Mult (.var 5) (.var 8))]) (.int 26)))) (.var 7)) (.nm 8) [] [8]
      [x0, x1, some (.str az), x3, some (.int (o : Nat)), some (.int (1 + 2 * (s : Nat))), some (.str ht.1), some (.str ht.2), x8] acc (.int (k : Nat)) h = .ok (acc ++ [.str (nmOf o s ht k)]) h := by
  have m1 : mulOk (1 + 2 * ((s : Nat) : Int)) ((k : Nat) : Int) = true := by
    unfold mulOk
    simp only [Bool.or_eq_true, Bool.and_eq_true, decide_eq_true_eq]
    left
    omega
  have e1 : (((o : Nat) : Int) + (1 + 2 * ((s : Nat) : Int)) * ((k : Nat) : Int)) % 26 = (((o + (1 + 2 * s) * k) % 26 : Nat) : Int) := by
    push_cast
    rfl
  have hm : (o + (1 + 2 * s) * k) % 26 < 26 := Nat.mod_lt _ (by decide)
  have l1 : ht.1.length ≤ 7 ∧ ht.2.length ≤ 7 := by
    have q : ∀ p ∈ hd5, p.1.length ≤ 7 ∧ p.2.length ≤ 7 := by decide +kernel
    exact q ht hh
  have ls : (sgn ((o + (1 + 2 * s) * k) % 26)).length = 1 := rfl
  have a1 : binop .Add (.str ht.1) (.str (sgn ((o + (1 + 2 * s) * k) % 26))) h = .ok (.str (ht.1 ++ sgn ((o + (1 + 2 * s) * k) % 26))) h := by
    unfold binop
    simp only
    rw [if_pos (by rw [ls]; unfold lim; omega)]
  have a2 : binop .Add (.str (ht.1 ++ sgn ((o + (1 + 2 * s) * k) % 26))) (.str ht.2) h = .ok (.str (nmOf o s ht k)) h := by
    unfold binop
    simp only
    have : (ht.1 ++ sgn ((o + (1 + 2 * s) * k) % 26)).length = ht.1.length + 1 := by
      show (ht.1.cps ++ (sgn ((o + (1 + 2 * s) * k) % 26)).cps).size = _
      rw [Array.size_append]
      rfl
    rw [if_pos (by rw [this]; unfold lim; omega)]
    rfl
  simp [bfn, bin_mul m1, mods, e1, az_at _ hm, a1, a2, grow, ha, -Int.natCast_emod, -Int.natCast_add, -Int.natCast_mul]
def nmsW (o s : Nat) (ht : Str × Str) (c : Nat) : List W := (List.range c).map fun k => .str (nmOf o s ht k)
theorem names (n : Nat) (h : Hep) (p : Nat) (hp : Pl h p) (c : Nat) (hc : c < 100) : ∃ o s ht h', o < 26 ∧ s < 6 ∧ ht ∈ hd5 ∧ Stp p h h' ∧ callN Pr (n + 3) F_law_names [.ref p, .int (c : Nat)] h = .ok (.lst (nmsW o s ht c)) h' := by
  obtain ⟨o, h1, ho, s1, e1⟩ := draw (n + 1) h p hp 26 (by decide) (by decide)
  have p1 := s1.pl hp
  obtain ⟨s, h2, hs, s2, e2⟩ := draw (n + 1) h1 p p1 6 (by decide) (by decide)
  have p2 := s2.pl p1
  obtain ⟨x, h3, hx, s3, e3⟩ := pick n h2 p p2 (.lst (hd5.map fun q => .tup [.str q.1, .str q.2])) (hd5.map fun q => .tup [.str q.1, .str q.2]) (fun _ _ => rfl) (by simp [hd5]) (by simp [hd5])
  obtain ⟨ht, hh, rfl⟩ := List.mem_map.mp hx
  refine ⟨o, s, ht, h3, ho, hs, hh, s1.trans (s2.trans s3), ?_⟩
  have e1 : callN Pr (n + 2) F_law_draw [.ref p, .int 26] h = _ := e1
  have e2 : callN Pr (n + 2) F_law_draw [.ref p, .int 6] h1 = _ := e2
  have e3 : callN Pr (n + 2) F_law_pick [.ref p, .lst [.tup [.str "", .str ""], .tup [.str "", .str "q"], .tup [.str "ab", .str ""], .tup [.str "abcdefg", .str ""], .tup [.str "", .str "abcdefg"]]] h2 = _ := e3
  have m2 : mulOk 2 ((s : Nat) : Int) = true := by simp [mulOk]
  have w : ∀ g, walk .rng [.int (c : Nat)] g = some (.rng 0 1 c) := fun g => by
    rw [walk_rng1 g (by unfold rngOk; simp; omega)]
    rfl
  have t := turns_rngE (R := fun a b => a = b) (I := fun g => g = h3) (G := fun i w => w = .str (nmOf o s ht i)) (m := c) (f := lcoF Pr (orcN Pr (n + 2)) (.bin .Add (.bin .Add (.var 6) (.idx (.var 2) (.bin .Mod (.bfn .int [.bin .Add (.var 4) (.bin .Mult (.var 5) (.var 8))]) (.int 26)))) (.var 7)) (.nm 8) [] [8] [some (.ref p), some (.int (c : Nat)), some (.str az), some (.lst [.tup [.str "", .str ""], .tup [.str "", .str "q"], .tup [.str "ab", .str ""], .tup [.str "abcdefg", .str ""], .tup [.str "", .str "abcdefg"]]), some (.int (o : Nat)), some (.int (1 + 2 * (s : Nat))), some (.str ht.1), some (.str ht.2), none])
    (fun _ _ => rfl) (fun _ _ _ a b => a.trans b) (by unfold lim; omega) (fun acc i g hi ha hg => by
      subst hg
      exact ⟨_, _, nm_item (n + 2) o s i (by omega) ho hs ht hh _ _ _ _ acc (by unfold lim; omega) _, rfl, rfl, rfl⟩) (h := h3) rfl
  obtain ⟨ws, h4, t1, t2, t3, rfl, _⟩ := t
  have ew : ws = nmsW o s ht c := by
    apply List.ext_getElem?
    intro i
    by_cases z : i < c
    · have := t3 i ws[i] (List.getElem?_eq_getElem (by omega))
      rw [List.getElem?_eq_getElem (by omega), this]
      simp [nmsW, z]
    · rw [List.getElem?_eq_none (by omega), List.getElem?_eq_none (by simp [nmsW]; omega)]
  subst ew
  rw [c_law_names]
  have e : evSs Pr (orcN Pr (n + 2)) B_law_names [some (.ref p), some (.int (c : Nat)), none, none, none, none, none, none, none] h = .ok (.ret (.lst (nmsW o s ht c))) [some (.ref p), some (.int (c : Nat)), some (.str az), some (.lst [.tup [.str "", .str ""], .tup [.str "", .str "q"], .tup [.str "ab", .str ""], .tup [.str "abcdefg", .str ""], .tup [.str "", .str "abcdefg"]]), some (.int (o : Nat)), some (.int (1 + 2 * (s : Nat))), some (.str ht.1), some (.str ht.2), none] h3 := by
    simp only [F_law_draw, F_law_pick] at e1 e2 e3
    have hl : (nmsW o s ht c).length ≤ 16777216 := by simp [nmsW]; omega
    simp [e1, e2, e3, newT, newL, lim, bin_mul m2, w, t1, hl]
  rw [e]
  simp only [res_ret, fin_ok]
  rw [ends_n (s1.trans (s2.trans s3)).n]
end Lw

namespace Lw
open PySem Ev
theorem sum_ints (ns : List Int) : intsOf (ns.map W.int) = some ns := by
  induction ns with
  | nil => rfl
  | cons n ns ih => simp [intsOf, ih]
theorem cut_ints (ns : List Int) (hl : ns.length ≤ 63) : cut (ns.map W.int) none (some 63) = ns.map W.int := by
  have e : cut (ns.map W.int) none (some 63) = ((ns.map W.int).drop 0).take (min 63 (ns.map W.int).length - 0) := rfl
  rw [e, List.drop_zero, Nat.sub_zero, List.length_map, Nat.min_eq_right hl]
  exact List.take_of_length_le (by rw [List.length_map]; exact Nat.le_refl _)
theorem sl_scr (ns : List Int) (hl : ns.length ≤ 63) (h : Hep) : slice (.scr ns) none (some 63) h = .ok (.lst (ns.map W.int)) h := by
  show newL false h (cut (ns.map W.int) none (some 63)) = _
  rw [cut_ints ns hl]
  unfold newL
  rw [if_pos (by rw [List.length_map]; unfold lim; omega)]
theorem len_scr (ns : List Int) (h : Hep) : bLen [.scr ns] h = .ok (.int (ns.length : Nat)) h := by
  show Out.ok (W.int ((ns.map W.int).length : Nat)) h = _
  rw [List.length_map]
theorem ix_scr (ns : List Int) (k : Nat) (hk : k < ns.length) (h : Hep) : index (.scr ns) (.int (k : Nat)) h = .ok (.int ns[k]) h := ix_list (xs := ns.map W.int) rfl (by simp [hk])
theorem mul7 (x : Int) : mulOk 7 x = true := by simp [mulOk]
theorem pow18 (h : Hep) : binop .Pow (.int 10) (.int 18) h = .ok (.int 1000000000000000000) h := by kernel_rfl
theorem pool_put (h : Hep) (a b : Int) : newL true h [.int a, .int b] = .ok (.ref h.n) (h.push (P2 a b)) := by
  simp [newL, lim, P2]
/-- behind the cell -/
theorem pool_rest (n : Nat) (s : W) (k c : Int) (hk0 : 0 ≤ k) (hk : k ≤ 100) (h : Hep) : ∃ a b, 0 ≤ b ∧ b < 4294967296 ∧ ∃ e, (evSs Pr (orcN Pr n) (B_law_pool.drop 1) [some s, some (.int k), some (.int c), none, none] h) = .ok (.ret (.ref h.n)) e (h.push (P2 a b)) := by
  refine ⟨(if c < 0 then -c else c) * (if decide ((1000000000000000000 : Int) ≤ (if c < 0 then -c else c)) then 1 else 0), (((if c < 0 then -c else c) % 2147483629 + 7919 * k * k + 31 * k + 17) * 48271 % 2147483647) * (((if c < 0 then -c else c) % 2147483629 + 7919 * k * k + 31 * k + 17) * 48271 % 2147483647) % 2147483629, Int.emod_nonneg _ (by decide), ?_, [some s, some (.int k), some (.int c), some (.int (if c < 0 then -c else c)), some (.int (((if c < 0 then -c else c) % 2147483629 + 7919 * k * k + 31 * k + 17) * 48271 % 2147483647))], ?_⟩
  · have := Int.emod_lt_of_pos ((((if c < 0 then -c else c) % 2147483629 + 7919 * k * k + 31 * k + 17) * 48271 % 2147483647) * (((if c < 0 then -c else c) % 2147483629 + 7919 * k * k + 31 * k + 17) * 48271 % 2147483647)) (show (0 : Int) < 2147483629 by decide)
    omega
  · generalize hz : (if c < 0 then -c else c) = z
    have m1 : mulOk 7919 k = true := by simp [mulOk]
    have m2 : mulOk (7919 * k) k = true := by
      unfold mulOk
      simp only [Bool.or_eq_true, Bool.and_eq_true, decide_eq_true_eq]
      right
      omega
    have m3 : mulOk 31 k = true := by simp [mulOk]
    have m4 : ∀ x, mulOk x 48271 = true := fun x => by simp [mulOk]
    have m5 : ∀ x, mulOk (x % 2147483647) (x % 2147483647) = true := fun x => by
      have l0 := Int.emod_nonneg x (show (2147483647 : Int) ≠ 0 by decide)
      have l1 := Int.emod_lt_of_pos x (show (0 : Int) < 2147483647 by decide)
      unfold mulOk
      simp only [Bool.or_eq_true, Bool.and_eq_true, decide_eq_true_eq]
      left
      omega
    have b1 : ∀ (b : Bool) h, bInt [.bl b] h = .ok (.int (if b then 1 else 0)) h := fun b h => rfl
    have mb : ∀ h, binop .Mult (.int z) (.int (if (1000000000000000000 : Int) ≤ z then 1 else 0)) h = .ok (.int (z * (if (1000000000000000000 : Int) ≤ z then 1 else 0))) h := fun h => bin_mul (by split <;> simp [mulOk]) h
    simp [mb, bfn, bAbs, hz, mods, bin_mul m1, bin_mul m2, bin_mul m3, bin_mul (m4 _), bin_mul (m5 _), pow18, b1, pool_put]
theorem pool_cell (n : Nat) (ns : List Int) (hl : ns.length ≤ 63) (k : Nat) (h : Hep) (x2 x3 x4 : Option W) : ∃ c : Int, evS Pr (orcN Pr n) (B_law_pool.headD .nev) [some (.scr ns), some (.int (k : Nat)), x2, x3, x4] h = .ok .nx [some (.scr ns), some (.int (k : Nat)), some (.int c), x3, x4] h := by
  by_cases z : k < ns.length
  · refine ⟨ns[k], ?_⟩
    simp [bfn, len_scr, z, ix_scr ns k z]
  · refine ⟨7 * ns.sum + (k : Nat), ?_⟩
    have s : bSum [.lst (ns.map W.int)] h = .ok (.int ns.sum) h := by
      show Out.some' ((some (ns.map W.int)).bind fun xs => (intsOf xs).map fun ns => W.int ns.sum) h = _
      simp [sum_ints]
    simp [bfn, len_scr, z, sl_scr ns hl, s, bin_mul (mul7 _)]
theorem pool (n : Nat) (ns : List Int) (hl : ns.length ≤ 63) (k : Nat) (hk : k ≤ 100) (h : Hep) : ∃ a b, 0 ≤ b ∧ b < 4294967296 ∧ callN Pr (n + 1) F_law_pool [.scr ns, .int (k : Nat)] h = .ok (.ref h.n) (h.push (P2 a b)) := by
  obtain ⟨c, hc⟩ := pool_cell n ns hl k h none none none
  obtain ⟨a, b, h0, h1, e, hr⟩ := pool_rest n (.scr ns) (k : Nat) c (by omega) (by omega) h
  refine ⟨a, b, h0, h1, ?_⟩
  rw [c_law_pool]
  have e : evSs Pr (orcN Pr n) B_law_pool [some (.scr ns), some (.int (k : Nat)), none, none, none] h = (evS Pr (orcN Pr n) (B_law_pool.headD .nev) [some (.scr ns), some (.int (k : Nat)), none, none, none] h).seq (evSs Pr (orcN Pr n) (B_law_pool.drop 1)) := rfl
  rw [e, hc, seq_nx, hr]
  simp [ends_keep]
theorem pl_new {h : Hep} {a b : Int} (b0 : 0 ≤ b) (b1 : b < 4294967296) : Pl (h.push (P2 a b)) h.n := ⟨a, b, push_last _ _, b0, b1⟩
theorem wf_new {h : Hep} {a b : Int} (w : Wf h) : Wf (h.push (P2 a b)) := w.push rfl
/-- max(1, min(len(script), c)) -/
theorem count (n : Nat) (ns : List Int) (c : Nat) (hc : 1 ≤ c) (e : Ev.Env) (he : nth e 0 = some (some (.scr ns))) (h : Hep) : ∃ m : Nat, 1 ≤ m ∧ m ≤ c ∧ evs Pr (orcN Pr n) [.bfn .max2 [.int 1, .bfn .min2 [.bfn .len [.var 0], .int (c : Nat)]]] e h = .ok [.int (m : Nat)] h := by
  have q1 : bMin2 [.int (ns.length : Nat), .int (c : Nat)] h = .ok (.int (min ns.length c : Nat)) h := by
    show Out.ok (W.int (if ((c : Nat) : Int) < (ns.length : Nat) then (c : Nat) else (ns.length : Nat))) h = _
    congr 2
    split <;> omega
  have q2 : bMax2 [.int 1, .int (min ns.length c : Nat)] h = .ok (.int (max 1 (min ns.length c) : Nat)) h := by
    show Out.ok (W.int (if ((min ns.length c : Nat) : Int) > (1 : Int) then ((min ns.length c : Nat) : Int) else 1)) h = _
    congr 2
    split <;> omega
  refine ⟨max 1 (min ns.length c), by omega, by omega, ?_⟩
  simp only [evs_cons, ev_bfn, ev_int, bind_ok, kCons_ap, ev_var, he, Option.join_some, som_some, evs_nil, kCons2_ap, bfn, len_scr, q1, q2]
/-- the law's loop: each turn goes on -/
theorem law_loop {n m : Nat} {b : List Sm} {I : Ev.Env → Hep → Prop} (hf : ∀ k e h, k < m → I e h → ∃ e' h', forF Pr (orcN Pr n) (.nm 1) b e (.int (k : Nat)) h = .ok .nx e' h' ∧ I e' h') : ∀ (j i : Nat) (e : Ev.Env) (h : Hep), i + j = m → I e h → ∃ e' h', turnsS (.rng 0 1 m) (forF Pr (orcN Pr n) (.nm 1) b) j i e h = .ok .nx e' h' ∧ I e' h'
  | 0, i, e, h, _, hi => ⟨e, h, by rw [turnsS_zr], hi⟩
  | j + 1, i, e, h, he, hi => by
    obtain ⟨e1, h1, q1, i1⟩ := hf i e h (by omega) hi
    obtain ⟨e2, h2, q2, i2⟩ := law_loop hf j (i + 1) e1 h1 (by omega) i1
    refine ⟨e2, h2, ?_, i2⟩
    rw [turnsS_s, at_rng, turnGoS_s, show (0 : Int) + ((i : Nat) : Int) * 1 = ((i : Nat) : Int) by omega, q1, turn_nx]
    exact q2
end Lw

namespace Lw
open PySem Ev
def isInt : W → Bool
  | .int _ => true
  | _ => false
def betw (a b : Int) : W → Bool
  | .int i => decide (a ≤ i) && decide (i ≤ b)
  | _ => false
/-- the letters -/
def lets : List Nat := ("abcdefghijklmnopqrstuvwxyz" : Str).cps.toList
def isNm (s : Str) : Bool := decide (1 ≤ s.length) && decide (s.length ≤ 8) && s.cps.toList.all fun c => lets.any (Nat.beq c)
def isNmW : W → Bool
  | .str s => isNm s
  | _ => false
def hasK (k : Str) (m : Nat) : W → Bool
  | .tup (.str s :: xs) => decide (xs.length + 1 = m) && strEq s k
  | _ => false
theorem pd_cases {d : Nat} {w : W} {p : W → Prop} (h : pd d w = true) (h1 : p .non) (h2 : ∀ b, p (.bl b)) (h3 : ∀ i, p (.int i)) (h4 : ∀ s, flatB (.str s) = true → p (.str s)) (h5 : ∀ xs e, d = e + 1 → (∀ x ∈ xs, pd e x = true) → p (.tup xs)) (h6 : ∀ xs e, d = e + 1 → (∀ x ∈ xs, pd e x = true) → p (.lst xs)) : p w := by
  cases w with
  | non => exact h1
  | bl b => exact h2 b
  | int i => exact h3 i
  | str s => exact h4 s (by cases d <;> exact h)
  | tup xs => cases d with
    | zero => cases h
    | succ e => exact h5 xs e rfl fun x hx => List.all_eq_true.mp h x hx
  | lst xs => cases d with
    | zero => cases h
    | succ e => exact h6 xs e rfl fun x hx => List.all_eq_true.mp h x hx
  | _ => cases d <;> cases h
section
variable {d : Nat} {w : W} (hw : pd d w = true)
include hw
theorem is_integer (n : Nat) (h : Hep) : callN Pr (n + 1) F_is_integer [w] h = .ok (.bl (isInt w)) h := by
  rw [c_is_integer]
  simp [bfn, isi_pd _ hw]
  cases w <;> simp [isB, isInt, bfn, isi_pd _ hw]
theorem is_between (n : Nat) (a b : Int) (h : Hep) : callN Pr (n + 2) F_is_between [w, .int a, .int b] h = .ok (.bl (betw a b w)) h := by
  rw [c_is_between]
  have q := is_integer hw n h
  simp only [F_is_integer] at q
  simp [q]
  cases w with
  | int i => simp [isInt, betw]; cases decide (a ≤ i) <;> simp
  | _ => simp [isInt, betw]
theorem is_value (n : Nat) (h : Hep) : callN Pr (n + 3) F_is_value [w] h = .ok (.bl (betw 0 2 w)) h := by
  rw [c_is_value]
  have q := is_between hw n 0 2 h
  simp only [F_is_between] at q
  simp [q]
theorem is_name (n : Nat) (h : Hep) : callN Pr (n + 1) F_is_name [w] h = .ok (.bl (isNmW w)) h := by
  rw [c_is_name]
  simp [bfn, isi_pd _ hw]
  cases w with
  | str s =>
    have hs : flatB (.str s) = true := by cases d <;> exact hw
    simp only [flatB, Bool.and_eq_true, decide_eq_true_eq] at hs
    have hl : s.length ≤ lim := by unfold lim; omega
    have hb : bLen [.str s] h = .ok (.int (s.length : Nat)) h := by
      show (if s.length ≤ lim then Out.ok (W.int (s.length : Nat)) h else .bad) = _
      rw [if_pos hl]
    have cl : (chars s).length = s.length := by unfold chars; rw [List.length_map, Array.length_toList]; rfl
    have t := turns_map (xs := chars s) (h := h) (f := lcoF Pr (orcN Pr n) (.cmp .In (.var 1) (.glb 0)) (.nm 1) [] [1] [some (.str s), none]) (g := fun w => .bl (match w with
      | .str z => (match z.cps.toList with
        | [c] => lets.any (Nat.beq c)
        | _ => false)
      | _ => false)) (fun acc w hw hlt => by
      unfold chars at hw
      obtain ⟨c, hc, rfl⟩ := List.mem_map.mp hw
      have h5 : acc.length < lim := by unfold lim; omega
      have h6 : inW h (.str ⟨#[c]⟩) (.str "abcdefghijklmnopqrstuvwxyz") = some (lets.any (Nat.beq c)) := rfl
      simp [cmpop, h6, grow, h5, nth])
    have e2 : blsOf ((chars s).map (fun w => W.bl (match w with
      | .str z => (match z.cps.toList with
        | [c] => lets.any (Nat.beq c)
        | _ => false)
      | _ => false))) = some (s.cps.toList.map fun c => lets.any (Nat.beq c)) := by
      have := bls_map (s.cps.toList.map fun c => lets.any (Nat.beq c))
      rw [List.map_map] at this
      unfold chars
      rw [List.map_map]
      exact this
    have e3 : (s.cps.toList.map fun c => lets.any (Nat.beq c)).all id = s.cps.toList.all fun c => lets.any (Nat.beq c) := by rw [List.all_map]; rfl
    have e1 : (chars s).length ≤ lim := by omega
    by_cases z1 : 1 ≤ s.length
    · have z1' : (1 : Int) ≤ ((s.length : Nat) : Int) := by omega
      by_cases z2 : s.length ≤ 8
      · have z2' : ((s.length : Nat) : Int) ≤ 8 := by omega
        simp [isB, isNmW, isNm, bfn, hb, z1', z2', z1, z2, t, newL, e1, bAll, e2, e3]
      · have z2' : ¬ ((s.length : Nat) : Int) ≤ 8 := by omega
        simp [isB, isNmW, isNm, bfn, hb, z1', z2', z1, z2]
    · have z1' : ¬ (1 : Int) ≤ ((s.length : Nat) : Int) := by omega
      simp [isB, isNmW, isNm, bfn, hb, z1', z1]
  | _ => simp [isB, isNmW]
theorem has_kind (n : Nat) (k : Str) (m : Nat) (hm : 1 ≤ m) (h : Hep) : callN Pr (n + 1) F_has_kind [w, .str k, .int (m : Nat)] h = .ok (.bl (hasK k m w)) h := by
  rw [c_has_kind]
  simp [bfn, isi_pd _ hw]
  cases w with
  | tup xs =>
    obtain ⟨e, rfl, hx⟩ := pd_tup hw
    have hl : bLen [.tup xs] h = .ok (.int (xs.length : Nat)) h := rfl
    simp only [isB, pickAnd_t, ev_and, ev_cmp, ev_bfn, evs_cons, ev_var, nth_z, nth_s, Option.join_some, som_some, bind_ok, kCons_ap, evs_nil, kCons2_ap, bfn, hl, kCmp_ap, cmp_eqi, kAnd_ap, truth_bl]
    by_cases z : xs.length = m
    · have z' : (((xs.length : Nat) : Int) == ((m : Nat) : Int)) = true := by rw [beq_iff_eq]; omega
      simp only [z', pickAnd_t]
      cases xs with
      | nil => simp at z; omega
      | cons x xs =>
        have hx0 := hx x List.mem_cons_self
        have i0 : ∀ g, index (.tup (x :: xs)) (.int 0) g = .ok x g := fun g => ix_tup (i := 0) g rfl
        simp only [ev_and, ev_bfn, evs_cons, ev_idx, ev_var, nth_z, Option.join_some, som_some, bind_ok, kIdx_ap, ev_int, i0, kCons_ap, ev_ty, evs_nil, kCons2_ap, bfn, isi_pd _ hx0, kAnd_ap, truth_bl]
        cases x with
        | str s =>
          simp [isB, i0, hasK]
          intro _
          simpa using z
        | _ => simp [isB, hasK]
    · have z' : (((xs.length : Nat) : Int) == ((m : Nat) : Int)) = false := by rw [beq_eq_false_iff_ne]; omega
      simp only [z', pickAnd_f, stm_ok]
      cases xs with
      | nil => simp [hasK]
      | cons x xs =>
        cases x with
        | str s =>
          have : ¬ xs.length + 1 = m := by simpa using z
          simp [hasK, this]
        | _ => simp [hasK]
  | _ => simp [isB, hasK]
end
/-- what has_form says -/
def hf (a : Int) (w : W) : Bool := betw 0 2 w || (hasK "tick" 1 w || (match w with
  | .tup [.str s, x] => (strEq s "arg" && betw 0 (a - 1) x) || (!strEq s "arg" && strEq s "cell" && isNmW x)
  | .tup [.str s, x, y] => (strEq s "call" && isNmW x && (match y with
    | .tup ys => decide (ys.length ≤ 2)
    | _ => false)) || (!strEq s "call" && (strEq s "plus" || (strEq s "less" || strEq s "same")))
  | .tup [.str s, _, _, _] => strEq s "if"
  | _ => false))
theorem any3 (b1 b2 b3 : Bool) (h : Hep) : bAny [.lst [.bl b1, .bl b2, .bl b3]] h = .ok (.bl (b1 || (b2 || b3))) h := by
  cases b1 <;> cases b2 <;> cases b3 <;> rfl
theorem has_form {d : Nat} {w : W} (hw : pd d w = true) (n : Nat) (a : Int) (h : Hep) : callN Pr (n + 4) F_has_form [w, .int a] h = .ok (.bl (hf a w)) h := by
  rw [c_has_form]
  have q1 := is_value hw n h
  have k := fun k m hm => has_kind hw (n + 2) k m hm h
  have k1 : callN Pr (n + 3) F_has_kind [w, .str "tick", .int 1] h = _ := k "tick" 1 (by decide)
  have k2 : callN Pr (n + 3) F_has_kind [w, .str "arg", .int 2] h = _ := k "arg" 2 (by decide)
  have k3 : callN Pr (n + 3) F_has_kind [w, .str "cell", .int 2] h = _ := k "cell" 2 (by decide)
  have k4 : callN Pr (n + 3) F_has_kind [w, .str "call", .int 3] h = _ := k "call" 3 (by decide)
  have k5 : callN Pr (n + 3) F_has_kind [w, .str "plus", .int 3] h = _ := k "plus" 3 (by decide)
  have k6 : callN Pr (n + 3) F_has_kind [w, .str "less", .int 3] h = _ := k "less" 3 (by decide)
  have k7 : callN Pr (n + 3) F_has_kind [w, .str "same", .int 3] h = _ := k "same" 3 (by decide)
  have k8 : callN Pr (n + 3) F_has_kind [w, .str "if", .int 4] h = _ := k "if" 4 (by decide)
  simp only [F_is_value, F_has_kind] at q1 k1 k2 k3 k4 k5 k6 k7 k8
  by_cases z0 : betw 0 2 w = true
  · simp [q1, z0, hf]
  rw [Bool.not_eq_true] at z0
  by_cases z1 : hasK "tick" 1 w = true
  · simp [q1, z0, k1, z1, hf]
  rw [Bool.not_eq_true] at z1
  have rest : ∀ {v : W}, w = v → hasK "arg" 2 v = false → hasK "cell" 2 v = false → hasK "call" 3 v = false → (evSs Pr (orcN Pr (n + 3)) B_has_form [some w, some (.int a), none] h).res.fin h.n = .ok (.bl ((hasK "plus" 3 v || (hasK "less" 3 v || hasK "same" 3 v)) || hasK "if" 4 v)) h := by
    intro v e z2 z3 z4
    subst e
    simp [q1, z0, k1, z1, k2, z2, k3, z3, k4, z4, k5, k6, k7, k8, grow, newL, lim, bfn, any3]
    cases (hasK "plus" 3 w || (hasK "less" 3 w || hasK "same" 3 w)) <;> simp [k8]
  cases w with
  | tup xs =>
    obtain ⟨e, rfl, hx⟩ := pd_tup hw
    match xs, hx with
    | [], hx => rw [rest rfl rfl rfl rfl]; rfl
    | [x], hx =>
      cases x with
      | str s =>
        rw [rest rfl (by simp [hasK]) (by simp [hasK]) (by simp [hasK])]
        simp [hasK] at z1
        simp [hf, z0, z1, hasK]
      | _ => rw [rest rfl rfl rfl rfl]; simp [hf, z0, z1, hasK]
    | [x, y], hx =>
      have hy := hx y (by simp)
      cases x with
      | str s =>
        have i1 : ∀ g, index (.tup [.str s, y]) (.int 1) g = .ok y g := fun g => ix_tup (i := 1) g rfl
        have b1 := is_between hy (n + 1) 0 (a - 1) h
        have b2 := is_name hy (n + 2) h
        simp only [F_is_between, F_is_name] at b1 b2
        by_cases z2 : strEq s "arg" = true
        · have e2 : hasK "arg" 2 (.tup [.str s, y]) = true := by simp [hasK, z2]
          simp [q1, z0, k1, z1, k2, e2, i1, b1, hf, z2]
        · rw [Bool.not_eq_true] at z2
          have e2 : hasK "arg" 2 (.tup [.str s, y]) = false := by simp [hasK, z2]
          by_cases z3 : strEq s "cell" = true
          · have e3 : hasK "cell" 2 (.tup [.str s, y]) = true := by simp [hasK, z3]
            simp [q1, z0, k1, z1, k2, e2, k3, e3, i1, b2, hf, z2, z3]
          · rw [Bool.not_eq_true] at z3
            rw [rest rfl e2 (by simp [hasK, z3]) (by simp [hasK])]
            simp [hf, z0, z1, z2, z3, hasK]
      | _ => rw [rest rfl rfl rfl rfl]; simp [hf, z0, z1, hasK]
    | [x, y, z], hx =>
      have hy := hx y (by simp)
      have hz := hx z (by simp)
      cases x with
      | str s =>
        have i1 : ∀ g, index (.tup [.str s, y, z]) (.int 1) g = .ok y g := fun g => ix_tup (i := 1) g rfl
        have i2 : ∀ g, index (.tup [.str s, y, z]) (.int 2) g = .ok z g := fun g => ix_tup (i := 2) g rfl
        have b2 := is_name hy (n + 2) h
        simp only [F_is_name] at b2
        have e2 : hasK "arg" 2 (.tup [.str s, y, z]) = false := by simp [hasK]
        have e3 : hasK "cell" 2 (.tup [.str s, y, z]) = false := by simp [hasK]
        by_cases z4 : strEq s "call" = true
        · have e4 : hasK "call" 3 (.tup [.str s, y, z]) = true := by simp [hasK, z4]
          simp [q1, z0, k1, z1, k2, e2, k3, e3, k4, e4, i1, b2, hf, z4]
          cases isNmW y with
          | false => simp
          | true =>
            simp [i2, bfn, isi_pd _ hz]
            cases z with
            | tup zs =>
              have hl : bLen [.tup zs] h = .ok (.int (zs.length : Nat)) h := rfl
              have : decide (((zs.length : Nat) : Int) ≤ 2) = decide (zs.length ≤ 2) := by
                by_cases q : zs.length ≤ 2
                · rw [decide_eq_true q, decide_eq_true (by omega)]
                · rw [decide_eq_false q, decide_eq_false (by omega)]
              simp [isB, i2, bfn, hl, this]
            | _ => simp [isB]
        · rw [Bool.not_eq_true] at z4
          rw [rest rfl e2 e3 (by simp [hasK, z4])]
          simp [hf, z0, z1, z4, hasK]
      | _ => rw [rest rfl rfl rfl rfl]; simp [hf, z0, z1, hasK]
    | [x, y, z, u], hx =>
      cases x with
      | str s => rw [rest rfl (by simp [hasK]) (by simp [hasK]) (by simp [hasK])]; simp [hf, z0, z1, hasK]
      | _ => rw [rest rfl rfl rfl rfl]; simp [hf, z0, z1, hasK]
    | x :: y :: z :: u :: v :: r, hx =>
      cases x with
      | str s => rw [rest rfl (by simp [hasK]) (by simp [hasK]) (by simp [hasK])]; simp [hf, z0, z1, hasK]
      | _ => rw [rest rfl rfl rfl rfl]; simp [hf, z0, z1, hasK]
  | _ => rw [rest rfl rfl rfl rfl]; simp [hf, z0, z1, hasK]
end Lw

namespace Lw
open PySem Ev
theorem strEq_at {a b : Str} (h : strEq a b = true) : a = b := by
  rw [strEq_eq] at h
  exact eq_of_beq h
theorem strEq_self (a : Str) : strEq a a = true := by
  rw [strEq_eq]
  exact beq_self_eq_true a
/-- the forms of terms -/
inductive Form (a : Int) : W → Prop
  | val (i : Int) : 0 ≤ i → i ≤ 2 → Form a (.int i)
  | tick : Form a (.tup [.str "tick"])
  | arg (x : W) : betw 0 (a - 1) x = true → Form a (.tup [.str "arg", x])
  | cell (x : W) : isNmW x = true → Form a (.tup [.str "cell", x])
  | call (x : W) (ys : List W) : isNmW x = true → ys.length ≤ 2 → Form a (.tup [.str "call", x, .tup ys])
  | plus (x y : W) : Form a (.tup [.str "plus", x, y])
  | less (x y : W) : Form a (.tup [.str "less", x, y])
  | same (x y : W) : Form a (.tup [.str "same", x, y])
  | ite (x y z : W) : Form a (.tup [.str "if", x, y, z])
theorem form_of {a : Int} {w : W} (h : hf a w = true) : Form a w := by
  unfold hf at h
  rw [Bool.or_eq_true, Bool.or_eq_true] at h
  rcases h with h | h | h
  · cases w with
    | int i =>
      simp only [betw, Bool.and_eq_true, decide_eq_true_eq] at h
      exact .val i h.1 h.2
    | _ => cases h
  · cases w with
    | tup xs => match xs with
      | [] => cases h
      | x :: xs => cases x with
        | str s =>
          simp only [hasK, Bool.and_eq_true, decide_eq_true_eq] at h
          have e := strEq_at h.2
          have : xs = [] := List.length_eq_zero_iff.mp (by omega)
          subst e this
          exact .tick
        | _ => cases h
    | _ => cases h
  · split at h
    · rename_i s x
      rw [Bool.or_eq_true, Bool.and_eq_true, Bool.and_eq_true, Bool.and_eq_true] at h
      rcases h with h | h
      · have e := strEq_at h.1
        subst e
        exact .arg x h.2
      · have e := strEq_at h.1.2
        subst e
        exact .cell x h.2
    · rename_i s x y
      rw [Bool.or_eq_true, Bool.and_eq_true, Bool.and_eq_true, Bool.and_eq_true] at h
      rcases h with h | h
      · have e := strEq_at h.1.1
        subst e
        cases y with
        | tup ys => exact .call x ys h.1.2 (of_decide_eq_true h.2)
        | _ => cases h.2
      · have h := h.2
        rw [Bool.or_eq_true, Bool.or_eq_true] at h
        rcases h with h | h | h <;> (have e := strEq_at h; subst e; constructor)
    · rename_i s x y z
      have e := strEq_at h
      subst e
      exact .ite x y z
    · cases h
theorem form_hf {a : Int} {w : W} (h : Form a w) : hf a w = true := by
  cases h with
  | val i h0 h1 => simp [hf, betw, h0, h1]
  | tick => rfl
  | arg x h => simp [hf, h, strEq_self]
  | cell x h => simp [hf, h, strEq_self, show strEq "cell" "arg" = false by decide +kernel]
  | call x ys h1 h2 => simp [hf, h1, h2, strEq_self]
  | plus x y => simp [hf, strEq_self, show strEq "plus" "call" = false by decide +kernel]
  | less x y => simp [hf, strEq_self, show strEq "less" "call" = false by decide +kernel]
  | same x y => simp [hf, strEq_self, show strEq "same" "call" = false by decide +kernel]
  | ite x y z => simp [hf, strEq_self]
/-- what inner_terms tells -/
def inn : W → List W
  | .tup (.str s :: xs) => if strEq s "call" then (match xs with
    | [_, .tup ys] => ys
    | _ => []) else if strEq s "plus" || (strEq s "less" || (strEq s "same" || strEq s "if")) then xs else []
  | _ => []
theorem sl_one (x : W) (xs : List W) (h : Hep) : slice (.tup (x :: xs)) (some 1) none h = .ok (.tup xs) h := by
  show Out.ok (W.tup (cut (x :: xs) (some 1) none)) h = _
  have e : cut (x :: xs) (some 1) none = xs := by
    unfold cut slI
    simp
  rw [e]
theorem inner_terms {a : Int} {w : W} (f : Form a w) (n : Nat) (h : Hep) : callN Pr (n + 1) F_inner_terms [w] h = .ok (.tup (inn w)) h := by
  rw [c_inner_terms]
  have it : ∀ xs, bIsi Pr [.tup xs, .ty .tuple] h = .ok (.bl true) h := fun _ => rfl
  have z : ∀ x xs, index (.tup (x :: xs)) (.int 0) h = .ok x h := fun x xs => ix_tup (i := 0) h rfl
  have i2 : ∀ x y z, index (.tup [x, y, z]) (.int 2) h = .ok z h := fun x y z => ix_tup (i := 2) h rfl
  have inp : ∀ s, cmpop .In (.str s) (.tup [.str "plus", .str "less", .str "same"]) h = .ok (.bl (strEq "plus" s || (strEq "less" s || (strEq "same" s || false)))) h := fun _ => rfl
  cases f with
  | val i h0 h1 =>
    have ii : bIsi Pr [.int i, .ty .tuple] h = .ok (.bl false) h := rfl
    simp [bfn, ii, newT, lim, inn]
  | tick => simp [bfn, it, z, inp, newT, lim, show strEq "tick" "call" = false by decide +kernel, show strEq "plus" "tick" = false by decide +kernel, show strEq "less" "tick" = false by decide +kernel, show strEq "same" "tick" = false by decide +kernel, show strEq "tick" "if" = false by decide +kernel, show inn (.tup [.str "tick"]) = [] by kernel_rfl]
  | arg x hx => simp [bfn, it, z, inp, newT, lim, show strEq "arg" "call" = false by decide +kernel, show strEq "plus" "arg" = false by decide +kernel, show strEq "less" "arg" = false by decide +kernel, show strEq "same" "arg" = false by decide +kernel, show strEq "arg" "if" = false by decide +kernel, show inn (.tup [.str "arg", x]) = [] by kernel_rfl]
  | cell x hx => simp [bfn, it, z, inp, newT, lim, show strEq "cell" "call" = false by decide +kernel, show strEq "plus" "cell" = false by decide +kernel, show strEq "less" "cell" = false by decide +kernel, show strEq "same" "cell" = false by decide +kernel, show strEq "cell" "if" = false by decide +kernel, show inn (.tup [.str "cell", x]) = [] by kernel_rfl]
  | call x ys h1 h2 => simp [bfn, it, z, i2, strEq_self, inn]
  | plus x y => simp [bfn, it, z, inp, sl_one, strEq_self, show strEq "plus" "call" = false by decide +kernel, show inn (.tup [.str "plus", x, y]) = [x, y] by kernel_rfl]
  | less x y => simp [bfn, it, z, inp, sl_one, strEq_self, show strEq "less" "call" = false by decide +kernel, show inn (.tup [.str "less", x, y]) = [x, y] by kernel_rfl]
  | same x y => simp [bfn, it, z, inp, sl_one, strEq_self, show strEq "same" "call" = false by decide +kernel, show inn (.tup [.str "same", x, y]) = [x, y] by kernel_rfl]
  | ite x y z' => simp [bfn, it, z, inp, sl_one, strEq_self, show strEq "if" "call" = false by decide +kernel, show strEq "plus" "if" = false by decide +kernel, show strEq "less" "if" = false by decide +kernel, show strEq "same" "if" = false by decide +kernel, show inn (.tup [.str "if", x, y, z']) = [x, y, z'] by kernel_rfl]
theorem inn_len {a : Int} {w : W} (f : Form a w) : (inn w).length ≤ 3 := by
  cases f with
  | val i => simp [inn]
  | tick => rw [show inn (.tup [.str "tick"]) = [] by kernel_rfl]; simp
  | arg x => rw [show inn (.tup [.str "arg", x]) = [] by kernel_rfl]; simp
  | cell x => rw [show inn (.tup [.str "cell", x]) = [] by kernel_rfl]; simp
  | call x ys h1 h2 => rw [show inn (.tup [.str "call", x, .tup ys]) = ys by kernel_rfl]; omega
  | plus x y => rw [show inn (.tup [.str "plus", x, y]) = [x, y] by kernel_rfl]; simp
  | less x y => rw [show inn (.tup [.str "less", x, y]) = [x, y] by kernel_rfl]; simp
  | same x y => rw [show inn (.tup [.str "same", x, y]) = [x, y] by kernel_rfl]; simp
  | ite x y z => rw [show inn (.tup [.str "if", x, y, z]) = [x, y, z] by kernel_rfl]; simp
theorem inn_pd {d : Nat} {a : Int} {w : W} (f : Form a w) (hw : pd d w = true) : ∀ x ∈ inn w, pd d x = true := by
  intro x hx
  cases f with
  | val i => simp [inn] at hx
  | tick => rw [show inn (.tup [.str "tick"]) = [] by kernel_rfl] at hx; cases hx
  | arg x => rw [show inn (.tup [.str "arg", x]) = [] by kernel_rfl] at hx; cases hx
  | cell x => rw [show inn (.tup [.str "cell", x]) = [] by kernel_rfl] at hx; cases hx
  | call y ys h1 h2 =>
    rw [show inn (.tup [.str "call", y, .tup ys]) = ys by kernel_rfl] at hx
    obtain ⟨e, rfl, h⟩ := pd_tup hw
    obtain ⟨e', rfl, h'⟩ := pd_tup (h (.tup ys) (by simp))
    exact pd_mono (h' x hx) (by omega)
  | plus u v =>
    rw [show inn (.tup [.str "plus", u, v]) = [u, v] by kernel_rfl] at hx
    obtain ⟨e, rfl, h⟩ := pd_tup hw
    exact pd_up (h x (List.mem_cons_of_mem _ hx))
  | less u v =>
    rw [show inn (.tup [.str "less", u, v]) = [u, v] by kernel_rfl] at hx
    obtain ⟨e, rfl, h⟩ := pd_tup hw
    exact pd_up (h x (List.mem_cons_of_mem _ hx))
  | same u v =>
    rw [show inn (.tup [.str "same", u, v]) = [u, v] by kernel_rfl] at hx
    obtain ⟨e, rfl, h⟩ := pd_tup hw
    exact pd_up (h x (List.mem_cons_of_mem _ hx))
  | ite u v t =>
    rw [show inn (.tup [.str "if", u, v, t]) = [u, v, t] by kernel_rfl] at hx
    obtain ⟨e, rfl, h⟩ := pd_tup hw
    exact pd_up (h x (List.mem_cons_of_mem _ hx))
/-- layer by layer: k layers are left, so many parts are done -/
def lay (a : Int) : Nat → Nat → List W → Bool
  | 0, _, _ => false
  | k + 1, m, l => if 30 < m + l.length then false else if l.all (hf a) then (if (l.flatMap inn).isEmpty then true else lay a k (m + l.length) (l.flatMap inn)) else false
theorem fm_map (f : W → W) : ∀ l : List W, (l.flatMap fun w => [f w]) = l.map f
  | [] => rfl
  | x :: l => by rw [List.flatMap_cons, fm_map f l]; rfl
theorem inns_len {a : Int} : ∀ {l : List W}, (∀ x ∈ l, Form a x) → (l.flatMap inn).length ≤ 3 * l.length
  | [], _ => by simp
  | x :: l, fs => by
    rw [List.flatMap_cons, List.length_append, List.length_cons]
    have := inn_len (fs x List.mem_cons_self)
    have := inns_len (l := l) fun y hy => fs y (List.mem_cons_of_mem _ hy)
    omega
theorem is_term {d : Nat} (hd : d ≤ 62) {w : W} (hw : pd d w = true) (n : Nat) (a : Int) (h : Hep) : callN Pr (n + 5) F_is_term [w, .int a] h = .ok (.bl (lay a 8 0 [w])) h := by
  rw [c_is_term]
  have r8 : walk .rng [.int 8] h = some (.rng 0 1 8) := rfl
  have gr : ∀ l : List W, ∀ x, grow l x h = if l.length < lim then .ok (l ++ [x]) h else .bad := fun l x => rfl
  have key : ∀ (k i m : Nat) (l : List W) (x2 x5 x6 : Option W), (∀ x ∈ l, pd d x = true) → l ≠ [] → l.length ≤ 90 → m ≤ 30 → ∃ e', (turnsS (.rng 0 1 8) (forF Pr (orcN Pr (n + 4)) (.nm 2) (match B_is_term with
      | _ :: .for _ _ _ b :: _ => b
      | _ => [])) k i [some w, some (.int a), x2, some (.lst l), some (.int (m : Nat)), x5, x6] h).seq (evSs Pr (orcN Pr (n + 4)) [.ret (.bl false)]) = .ok (.ret (.bl (lay a k m l))) e' h := by
    intro k
    induction k with
    | zero =>
      intro i m l x2 x5 x6 hl h0 h9 h3
      refine ⟨[some w, some (.int a), x2, some (.lst l), some (.int (m : Nat)), x5, x6], ?_⟩
      rw [turnsS_zr, seq_nx]
      simp [lay]
    | succ k ih =>
      intro i m l x2 x5 x6 hl h0 h9 h3
      have hb : bLen [.lst l] h = .ok (.int (l.length : Nat)) h := rfl
      have ad : ((m : Nat) : Int) + ((l.length : Nat) : Int) = ((m + l.length : Nat) : Int) := by omega
      rw [turnsS_s, at_rng, show (0 : Int) + ((i : Nat) : Int) * 1 = ((i : Nat) : Int) by omega, turnGoS_s, forF_nm]
      have t1 := turns_gen (xs := l) (h := h) (B := 90) (g := fun w => [.bl (hf a w)]) (acc0 := []) (f := lcoF Pr (orcN Pr (n + 4)) (.cal F_has_form [.var 6, .var 1]) (.nm 6) [] [6] [some w, some (.int a), some (.int (i : Nat)), some (.lst l), some (.int ((m + l.length : Nat))), x5, x6]) (fun acc w' hw' hb => by
          have q := has_form (hl w' hw') n a h
          simp only [F_has_form] at q
          have : acc.length < lim := by simp at hb; unfold lim; omega
          simp [q, gr, this]) (by
          rw [fm_map, List.length_map]; simpa using h9)
      have e1 : (l.flatMap fun w => [W.bl (hf a w)]) = (l.map (hf a)).map W.bl := by
        rw [List.map_map, fm_map]
        rfl
      rw [List.nil_append, e1] at t1
      have e2 : bAll [.lst ((l.map (hf a)).map W.bl)] h = .ok (.bl (l.all (hf a))) h := by
        show Out.some' ((some ((l.map (hf a)).map W.bl)).bind fun xs => (blsOf xs).map fun bs => W.bl (bs.all id)) h = _
        rw [Option.bind_some, bls_map, Option.map_some, som_some]
        simp
      have hlen : ((l.map (hf a)).map W.bl).length ≤ 16777216 := by simp; omega
      by_cases z : 30 < m + l.length
      · have z' : (30 : Int) < ((m + l.length : Nat) : Int) := by omega
        refine ⟨[some w, some (.int a), some (.int (i : Nat)), some (.lst l), some (.int (m + l.length : Nat)), x5, x6], ?_⟩
        simp [bfn, hb, ad, z', lay, z, -Int.natCast_add]
      have z' : ¬ (30 : Int) < ((m + l.length : Nat) : Int) := by omega
      by_cases f : l.all (hf a) = true
      · have fr := List.all_eq_true.mp f
        have fs : ∀ x ∈ l, Form a x := fun x hx => form_of (fr x hx)
        have l3 := inns_len fs
        have t2 := turns_gen (xs := l) (h := h) (B := 90) (g := inn) (acc0 := []) (f := lc2F Pr (orcN Pr (n + 4)) (.var 6) (.nm 5) (.nm 6) .seq [.cal F_inner_terms [.var 5]] [] [5, 6] [6] [some w, some (.int a), some (.int (i : Nat)), some (.lst l), some (.int ((m + l.length : Nat))), x5, x6]) (fun acc w' hw' hb => by
            have q := inner_terms (fs w' hw') (n + 3) h
            simp only [F_inner_terms] at q
            have t3 := turns_gen (xs := inn w') (h := h) (B := 90) (g := fun x => [x]) (acc0 := acc) (f := lcoF Pr (orcN Pr (n + 4)) (.var 6) (.nm 6) [] [6] [some w, some (.int a), some (.int (i : Nat)), some (.lst l), some (.int ((m + l.length : Nat))), some w', none]) (fun acc w'' hw'' hb => by
                have : acc.length < lim := by simp at hb; unfold lim; omega
                simp [gr, this]) (by simpa using hb)
            have e3 : ((inn w').flatMap fun x => [x]) = inn w' := by simp
            rw [e3] at t3
            simp [q]
            exact t3) (by rw [List.length_nil]; omega)
        rw [List.nil_append] at t2
        have pl : ∀ x ∈ l.flatMap inn, pd d x = true := fun x hx => by
          obtain ⟨y, hy, hx⟩ := List.mem_flatMap.mp hx
          exact inn_pd (fs y hy) (hl y hy) x hx
        have e4 : cmpop .Eq (.lst (l.flatMap inn)) (.lst []) h = .ok (.bl (l.flatMap inn).isEmpty) h := eq_lnil fun x hx => (pd_dt (pl x hx)).mono hd
        have hlen2 : (l.flatMap inn).length ≤ 16777216 := by omega
        have la : lay a (k + 1) m l = if (l.flatMap inn).isEmpty then true else lay a k (m + l.length) (l.flatMap inn) := by
          conv => lhs; unfold lay
          rw [if_neg z, if_pos f]
        cases he : (l.flatMap inn).isEmpty with
        | true =>
          refine ⟨[some w, some (.int a), some (.int (i : Nat)), some (.lst (l.flatMap inn)), some (.int (m + l.length : Nat)), x5, x6], ?_⟩
          rw [la, he]
          simp [bfn, hb, ad, z', t1, newL, hlen, e2, f, t2, hlen2, lim, e4, he, -Int.natCast_add, -List.length_map, -List.map_map, -List.length_flatMap]
        | false =>
          obtain ⟨e', ie⟩ := ih (i + 1) (m + l.length) (l.flatMap inn) (some (.int (i : Nat))) x5 x6 pl (fun q => by rw [q] at he; cases he) (by omega) (by omega)
          refine ⟨e', ?_⟩
          rw [la, he, if_neg Bool.false_ne_true, ← ie]
          simp [bfn, hb, ad, z', t1, newL, hlen, e2, f, t2, hlen2, lim, e4, he, -Int.natCast_add, -List.length_map, -List.map_map, -List.length_flatMap]
      · rw [Bool.not_eq_true] at f
        refine ⟨[some w, some (.int a), some (.int (i : Nat)), some (.lst l), some (.int (m + l.length : Nat)), x5, x6], ?_⟩
        simp [bfn, hb, ad, z', t1, newL, hlen, lim, e2, f, lay, z, -Int.natCast_add, -List.length_map, -List.map_map]
  obtain ⟨e', he⟩ := key 8 0 0 [w] none none none (fun x hx => by
    rw [List.mem_singleton] at hx
    subst hx
    exact hw) (by simp) (by simp) (by omega)
  have e0 : evSs Pr (orcN Pr (n + 4)) B_is_term [some w, some (.int a), none, none, none, none, none] h = .ok (.ret (.bl (lay a 8 0 [w]))) e' h := by
    rw [← he]
    simp [newT, newL, lim, r8]
  rw [e0]
  simp
end Lw

namespace Ev
open PySem
theorem turns_mapK {α : Type} {ks : List α} {φ ψ : α → W} {f : List W → W → Hep → Out (List W)} {h : Hep} (hf : ∀ acc k, k ∈ ks → acc.length < ks.length → f acc (φ k) h = .ok (acc ++ [ψ k]) h) : turns (.fix (ks.map φ)) f (ks.map φ).length 0 [] h = .ok (ks.map ψ) h := by
  have key : ∀ (suf pre : List α), ks = pre ++ suf → turns (.fix (ks.map φ)) f suf.length pre.length (pre.map ψ) h = .ok (ks.map ψ) h := by
    intro suf
    induction suf with
    | nil =>
      intro pre e
      rw [List.append_nil] at e
      rw [e]
      rfl
    | cons w suf ih =>
      intro pre e
      have at_ : (Src.fix (ks.map φ)).at pre.length h = some (φ w) := by
        show nth (ks.map φ) pre.length = some (φ w)
        rw [nth_eq, e, List.getElem?_map, List.getElem?_append_right (Nat.le_refl _), Nat.sub_self]
        rfl
      rw [List.length_cons, turns_s, at_, turnGo_s, hf _ w (by rw [e]; simp) (by rw [e]; simp), bind_ok]
      have := ih (pre ++ [w]) (by rw [e]; simp)
      rw [List.length_append, List.map_append] at this
      exact this
  rw [List.length_map]
  exact key ks [] rfl
/-- a loop over a row -/
theorem turnsS_K {α : Type} {φ : α → W} {f : Env → W → Hep → OutS} {I : List α → Env → Hep → Prop} {ks : List α} (hf : ∀ k pre e h, k ∈ ks → I pre e h → ∃ e' h', f e (φ k) h = .ok .nx e' h' ∧ I (pre ++ [k]) e' h') {e : Env} {h : Hep} (hi : I [] e h) : ∃ e' h', turnsS (.fix (ks.map φ)) f (ks.map φ).length 0 e h = .ok .nx e' h' ∧ I ks e' h' := by
  have key : ∀ (suf pre : List α) (e : Env) (h : Hep), ks = pre ++ suf → I pre e h → ∃ e' h', turnsS (.fix (ks.map φ)) f suf.length pre.length e h = .ok .nx e' h' ∧ I ks e' h' := by
    intro suf
    induction suf with
    | nil =>
      intro pre e h q hi
      rw [List.append_nil] at q
      rw [q]
      exact ⟨e, h, rfl, hi⟩
    | cons w suf ih =>
      intro pre e h q hi
      have at_ : (Src.fix (ks.map φ)).at pre.length h = some (φ w) := by
        show nth (ks.map φ) pre.length = some (φ w)
        rw [nth_eq, q, List.getElem?_map, List.getElem?_append_right (Nat.le_refl _), Nat.sub_self]
        rfl
      obtain ⟨e1, h1, q1, i1⟩ := hf w pre e h (by rw [q]; simp) hi
      obtain ⟨e2, h2, q2, i2⟩ := ih (pre ++ [w]) e1 h1 (by rw [q]; simp) i1
      refine ⟨e2, h2, ?_, i2⟩
      rw [List.length_cons, turnsS_s, at_, turnGoS_s, q1, turn_nx]
      rw [List.length_append] at q2
      exact q2
  rw [List.length_map]
  exact key ks [] e h rfl hi
@[simp] theorem freeze_push (h : Hep) (xs : List W) : freeze (.ref h.n) (h.push (.lst xs)) = .ok (.lst xs) (h.push .ded) := by
  unfold freeze
  simp only [push_last, set_last]
theorem ext_push {h : Hep} {xs zs : List W} (hl : xs.length + zs.length ≤ lim) : mExtend (.ref h.n) [.lst zs] (h.push (.lst xs)) = .ok .non (h.push (.lst (xs ++ zs))) := by
  unfold mExtend
  simp only [push_last, exSrc, set_last]
  rw [if_pos hl]
@[simp] theorem recv_ext (h : Hep) (xs : List W) : recv .extend (.ref h.n) (h.push (.lst xs)) = true := by
  unfold recv
  simp only [listOf, push_last]
  rfl
theorem blws_all (n : Nat) : ∀ (xs : List W), W.blws n xs = xs.all (fun x => x.blw n)
  | [] => rfl
  | x :: r => by simp only [W.blws, List.all_cons, blws_all n r]
end Ev
namespace Lw
open PySem Ev
inductive Pk where
  | plus | less | same
def Pk.s : Pk → Str
  | .plus => "plus"
  | .less => "less"
  | .same => "same"
inductive Tm where
  | val (i : Nat) | arg (i : Nat) | tick | cell (s : Str)
  | two (k : Pk) (a b : Tm) | ite (a b c : Tm)
  | cal0 (f : Str) | cal1 (f : Str) (a : Tm) | cal2 (f : Str) (a b : Tm)
namespace Tm
def w : Tm → W
  | val i => .int (i : Nat)
  | arg i => .tup [.str "arg", .int (i : Nat)]
  | tick => .tup [.str "tick"]
  | cell s => .tup [.str "cell", .str s]
  | two k a b => .tup [.str k.s, a.w, b.w]
  | ite a b c => .tup [.str "if", a.w, b.w, c.w]
  | cal0 f => .tup [.str "call", .str f, .tup []]
  | cal1 f a => .tup [.str "call", .str f, .tup [a.w]]
  | cal2 f a b => .tup [.str "call", .str f, .tup [a.w, b.w]]
def kids : Tm → List Tm
  | two _ a b => [a, b]
  | ite a b c => [a, b, c]
  | cal1 _ a => [a]
  | cal2 _ a b => [a, b]
  | _ => []
def size : Tm → Nat
  | two _ a b => 1 + (a.size + b.size)
  | ite a b c => 1 + (a.size + (b.size + c.size))
  | cal1 _ a => 1 + a.size
  | cal2 _ a b => 1 + (a.size + b.size)
  | _ => 1
def dep : Tm → Nat
  | two _ a b => 1 + max a.dep b.dep
  | ite a b c => 1 + max (max a.dep b.dep) c.dep
  | cal1 _ a => 1 + a.dep
  | cal2 _ a b => 1 + max a.dep b.dep
  | _ => 1
/-- its arguments, cells, calls are those -/
def ok (a : Nat) (pc : Str → Prop) (pf : Str → Nat → Prop) : Tm → Prop
  | val i => i ≤ 2
  | arg i => i < a
  | tick => True
  | cell s => pc s
  | two _ x y => x.ok a pc pf ∧ y.ok a pc pf
  | ite x y z => x.ok a pc pf ∧ y.ok a pc pf ∧ z.ok a pc pf
  | cal0 f => pf f 0
  | cal1 f x => pf f 1 ∧ x.ok a pc pf
  | cal2 f x y => pf f 2 ∧ x.ok a pc pf ∧ y.ok a pc pf
theorem ok_mono {a : Nat} {pc pc' : Str → Prop} {pf pf' : Str → Nat → Prop} (h1 : ∀ s, pc s → pc' s) (h2 : ∀ f k, pf f k → pf' f k) : ∀ {t : Tm}, t.ok a pc pf → t.ok a pc' pf'
  | val _, h => h
  | arg _, h => h
  | tick, h => h
  | cell _, h => h1 _ h
  | two _ _ _, h => ⟨ok_mono h1 h2 h.1, ok_mono h1 h2 h.2⟩
  | ite _ _ _, h => ⟨ok_mono h1 h2 h.1, ok_mono h1 h2 h.2.1, ok_mono h1 h2 h.2.2⟩
  | cal0 _, h => h2 _ _ h
  | cal1 _ _, h => ⟨h2 _ _ h.1, ok_mono h1 h2 h.2⟩
  | cal2 _ _ _, h => ⟨h2 _ _ h.1, ok_mono h1 h2 h.2.1, ok_mono h1 h2 h.2.2⟩
end Tm
/-- names are names -/
abbrev Nmd (a : Nat) (t : Tm) : Prop := t.ok a (fun s => isNm s = true) (fun s _ => isNm s = true)
theorem nm_flat {s : Str} (hs : isNm s = true) : flatB (.str s) = true := by
  unfold isNm at hs
  simp only [Bool.and_eq_true, decide_eq_true_eq] at hs
  obtain ⟨⟨h1, h2⟩, h3⟩ := hs
  simp only [flatB, Bool.and_eq_true, decide_eq_true_eq]
  refine ⟨?_, by omega⟩
  unfold PyData.strOk
  rw [← Array.all_toList, List.all_eq_true]
  intro c hc
  have h4 := List.all_eq_true.mp h3 c hc
  obtain ⟨d, hd, e⟩ := List.any_eq_true.mp h4
  have e := Nat.eq_of_beq_eq_true e
  subst e
  have : lets.all (fun c => decide (c < 0x110000)) = true := by decide +kernel
  exact List.all_eq_true.mp this c hd
theorem kids_lt : ∀ {t k : Tm}, k ∈ t.kids → k.dep < t.dep := by
  intro t k h
  cases t <;> simp [Tm.kids] at h
  · rcases h with rfl | rfl <;> simp [Tm.dep] <;> omega
  · rcases h with rfl | rfl | rfl <;> simp [Tm.dep] <;> omega
  · subst h; simp [Tm.dep]
  · rcases h with rfl | rfl <;> simp [Tm.dep] <;> omega
theorem kids_ok {a : Nat} {pc : Str → Prop} {pf : Str → Nat → Prop} : ∀ {t k : Tm}, t.ok a pc pf → k ∈ t.kids → k.ok a pc pf := by
  intro t k h hk
  cases t <;> simp [Tm.kids] at hk
  · rcases hk with rfl | rfl
    · exact h.1
    · exact h.2
  · rcases hk with rfl | rfl | rfl
    · exact h.1
    · exact h.2.1
    · exact h.2.2
  · subst hk; exact h.2
  · rcases hk with rfl | rfl
    · exact h.2.1
    · exact h.2.2
theorem tm_form {a : Nat} : ∀ {t : Tm}, Nmd a t → Form (a : Nat) t.w
  | .val i, h => .val _ (by omega) (by have : i ≤ 2 := h; omega)
  | .arg i, h => .arg _ (by have : i < a := h; simp [betw]; omega)
  | .tick, _ => .tick
  | .cell s, h => .cell _ h
  | .two k x y, _ => by cases k <;> constructor
  | .ite x y z, _ => .ite _ _ _
  | .cal0 f, h => .call _ _ h (by simp)
  | .cal1 f x, h => .call _ _ h.1 (by simp)
  | .cal2 f x y, h => .call _ _ h.1 (by simp)
theorem tm_inn : ∀ (t : Tm), inn t.w = t.kids.map Tm.w
  | .val i => by simp [Tm.w, Tm.kids, inn]
  | .arg i => by rw [Tm.w]; show inn (.tup [.str "arg", _]) = []; kernel_rfl
  | .tick => by kernel_rfl
  | .cell s => by rw [Tm.w]; show inn (.tup [.str "cell", _]) = []; kernel_rfl
  | .two k x y => by
    cases k
    · rw [Tm.w]; show inn (.tup [.str "plus", x.w, y.w]) = [x.w, y.w]; generalize x.w = u; generalize y.w = v; kernel_rfl
    · rw [Tm.w]; show inn (.tup [.str "less", x.w, y.w]) = [x.w, y.w]; generalize x.w = u; generalize y.w = v; kernel_rfl
    · rw [Tm.w]; show inn (.tup [.str "same", x.w, y.w]) = [x.w, y.w]; generalize x.w = u; generalize y.w = v; kernel_rfl
  | .ite x y z => by rw [Tm.w]; show inn (.tup [.str "if", x.w, y.w, z.w]) = [x.w, y.w, z.w]; generalize x.w = u; generalize y.w = v; generalize z.w = t; kernel_rfl
  | .cal0 f => by rw [Tm.w]; show inn (.tup [.str "call", .str f, .tup []]) = []; kernel_rfl
  | .cal1 f x => by rw [Tm.w]; show inn (.tup [.str "call", .str f, .tup [x.w]]) = [x.w]; generalize x.w = u; kernel_rfl
  | .cal2 f x y => by rw [Tm.w]; show inn (.tup [.str "call", .str f, .tup [x.w, y.w]]) = [x.w, y.w]; generalize x.w = u; generalize y.w = v; kernel_rfl
theorem pk_flat (k : Pk) : flatB (.str k.s) = true := by cases k <;> decide +kernel
theorem tm_pd {a : Nat} : ∀ {t : Tm}, Nmd a t → pd (2 * t.dep) t.w = true
  | .val i, h => rfl
  | .arg i, h => by
    show List.all [W.str "arg", .int (i : Nat)] (pd 1) = true
    simp only [List.all_cons, List.all_nil, Bool.and_true, Bool.and_eq_true]
    exact ⟨by decide +kernel, rfl⟩
  | .tick, _ => by decide +kernel
  | .cell s, h => by
    show List.all [W.str "cell", .str s] (pd 1) = true
    simp only [List.all_cons, List.all_nil, Bool.and_true, Bool.and_eq_true]
    exact ⟨by decide +kernel, pd_flat (nm_flat h)⟩
  | .two k x y, h => by
    have h1 := tm_pd h.1
    have h2 := tm_pd h.2
    show pd (2 * (1 + max x.dep y.dep)) (.tup [.str k.s, x.w, y.w]) = true
    rw [show 2 * (1 + max x.dep y.dep) = (2 * max x.dep y.dep + 1) + 1 by omega]
    show List.all _ (pd (2 * max x.dep y.dep + 1)) = true
    simp only [List.all_cons, List.all_nil, Bool.and_true, Bool.and_eq_true]
    exact ⟨pd_flat (pk_flat k), pd_mono h1 (by omega), pd_mono h2 (by omega)⟩
  | .ite x y z, h => by
    have h1 := tm_pd h.1
    have h2 := tm_pd h.2.1
    have h3 := tm_pd h.2.2
    show pd (2 * (1 + max (max x.dep y.dep) z.dep)) (.tup [.str "if", x.w, y.w, z.w]) = true
    rw [show 2 * (1 + max (max x.dep y.dep) z.dep) = (2 * max (max x.dep y.dep) z.dep + 1) + 1 by omega]
    show List.all _ (pd (2 * max (max x.dep y.dep) z.dep + 1)) = true
    simp only [List.all_cons, List.all_nil, Bool.and_true, Bool.and_eq_true]
    exact ⟨pd_flat (by decide +kernel), pd_mono h1 (by omega), pd_mono h2 (by omega), pd_mono h3 (by omega)⟩
  | .cal0 f, h => by
    show List.all [W.str "call", .str f, .tup []] (pd 1) = true
    simp only [List.all_cons, List.all_nil, Bool.and_true, Bool.and_eq_true]
    exact ⟨by decide +kernel, pd_flat (nm_flat h), rfl⟩
  | .cal1 f x, h => by
    have h1 := tm_pd h.2
    show pd (2 * (1 + x.dep)) (.tup [.str "call", .str f, .tup [x.w]]) = true
    rw [show 2 * (1 + x.dep) = (2 * x.dep + 1) + 1 by omega]
    show List.all _ (pd (2 * x.dep + 1)) = true
    simp only [List.all_cons, List.all_nil, Bool.and_true, Bool.and_eq_true]
    refine ⟨pd_flat (by decide +kernel), pd_flat (nm_flat h.1), ?_⟩
    show List.all [x.w] (pd (2 * x.dep)) = true
    simp [h1]
  | .cal2 f x y, h => by
    have h1 := tm_pd h.2.1
    have h2 := tm_pd h.2.2
    show pd (2 * (1 + max x.dep y.dep)) (.tup [.str "call", .str f, .tup [x.w, y.w]]) = true
    rw [show 2 * (1 + max x.dep y.dep) = (2 * max x.dep y.dep + 1) + 1 by omega]
    show List.all _ (pd (2 * max x.dep y.dep + 1)) = true
    simp only [List.all_cons, List.all_nil, Bool.and_true, Bool.and_eq_true]
    refine ⟨pd_flat (by decide +kernel), pd_flat (nm_flat h.1), ?_⟩
    show List.all [x.w, y.w] (pd (2 * max x.dep y.dep)) = true
    simp [pd_mono h1 (show 2 * x.dep ≤ 2 * max x.dep y.dep by omega), pd_mono h2 (show 2 * y.dep ≤ 2 * max x.dep y.dep by omega)]
theorem tm_inner {a : Nat} {t : Tm} (ht : Nmd a t) (n : Nat) (h : Hep) : callN Pr (n + 1) F_inner_terms [t.w] h = .ok (.tup (t.kids.map Tm.w)) h := by
  rw [← tm_inn]
  exact inner_terms (tm_form ht) n h
theorem dep_pos (t : Tm) : 1 ≤ t.dep := by cases t <;> simp [Tm.dep]
def szs (l : List Tm) : Nat := (l.map Tm.size).sum
theorem sz_kids (t : Tm) : t.size = 1 + szs t.kids := by cases t <;> simp [Tm.size, Tm.kids, szs] <;> omega
theorem szs_flat : ∀ l : List Tm, szs l = l.length + szs (l.flatMap Tm.kids)
  | [] => rfl
  | t :: l => by
    have := szs_flat l
    simp only [szs, List.map_cons, List.sum_cons, List.length_cons, List.flatMap_cons, List.map_append, List.sum_append] at this ⊢
    have := sz_kids t
    simp only [szs] at this
    omega
theorem lay_tm {a : Nat} : ∀ (k m : Nat) (l : List Tm), l ≠ [] → (∀ t ∈ l, Nmd a t ∧ t.dep ≤ k) → m + szs l ≤ 30 → lay (a : Nat) k m (l.map Tm.w) = true
  | 0, m, l, h0, hl, hs => by
    cases l with
    | nil => exact absurd rfl h0
    | cons t l =>
      have := (hl t List.mem_cons_self).2
      have := dep_pos t
      omega
  | k + 1, m, l, h0, hl, hs => by
    have e := szs_flat l
    have fi : (l.map Tm.w).flatMap inn = (l.flatMap Tm.kids).map Tm.w := by
      rw [List.flatMap_map, List.map_flatMap]
      congr 1
      funext t
      exact tm_inn t
    have fa : (l.map Tm.w).all (hf (a : Nat)) = true := by
      rw [List.all_map, List.all_eq_true]
      intro t ht
      exact form_hf (tm_form (hl t ht).1)
    unfold lay
    rw [if_neg (by rw [List.length_map]; omega), if_pos fa, fi]
    by_cases z : l.flatMap Tm.kids = []
    · rw [z]; rfl
    · have z' : ((l.flatMap Tm.kids).map Tm.w).isEmpty = false := by
        cases q : l.flatMap Tm.kids with
        | nil => exact absurd q z
        | cons _ _ => rfl
      rw [z', if_neg Bool.false_ne_true, List.length_map]
      refine lay_tm k _ _ z (fun t ht => ?_) (by omega)
      obtain ⟨u, hu, ht⟩ := List.mem_flatMap.mp ht
      refine ⟨kids_ok (hl u hu).1 ht, ?_⟩
      have := kids_lt ht
      have := (hl u hu).2
      omega
/-- small terms are terms -/
theorem tm_is {a : Nat} {t : Tm} (ht : Nmd a t) (h8 : t.dep ≤ 8) (h30 : t.size ≤ 30) (n : Nat) (h : Hep) : callN Pr (n + 5) F_is_term [t.w, .int (a : Nat)] h = .ok (.bl true) h := by
  rw [is_term (d := 2 * t.dep) (by omega) (tm_pd ht)]
  have := lay_tm (a := a) 8 0 [t] (by simp) (fun u hu => by
    rw [List.mem_singleton] at hu
    subst hu
    exact ⟨ht, h8⟩) (by simpa [szs] using h30)
  rw [List.map_singleton] at this
  rw [this]
end Lw

namespace Ev
open PySem
theorem intsOf_map {α : Type} (f : α → Int) : ∀ l : List α, intsOf (l.map fun k => W.int (f k)) = some (l.map f)
  | [] => rfl
  | x :: l => by simp [intsOf, intsOf_map f l]
theorem strsOf_map {α : Type} (f : α → Str) : ∀ l : List α, strsOf (l.map fun k => W.str (f k)) = some (l.map f)
  | [] => rfl
  | x :: l => by simp [strsOf, strsOf_map f l]
theorem strsOf_strs : ∀ l : List Str, strsOf (l.map W.str) = some l
  | [] => rfl
  | x :: l => by simp [strsOf, strsOf_strs l]
theorem turnsD_K {α : Type} {ks : List α} {φ : α → W} {step : List (W × W) → α → List (W × W)} {f : List (W × W) → W → Hep → Out (List (W × W))} {h : Hep} {I : List (W × W) → Nat → Prop} (hi : I [] 0) (hf : ∀ acc k j, k ∈ ks → j < ks.length → I acc j → f acc (φ k) h = .ok (step acc k) h ∧ I (step acc k) (j + 1)) : turnsD (.fix (ks.map φ)) f (ks.map φ).length 0 [] h = .ok (ks.foldl step []) h := by
  have key : ∀ (suf pre : List α) (acc : List (W × W)), ks = pre ++ suf → acc = pre.foldl step [] → I acc pre.length → turnsD (.fix (ks.map φ)) f suf.length pre.length acc h = .ok (ks.foldl step []) h := by
    intro suf
    induction suf with
    | nil =>
      intro pre acc e q _
      rw [List.append_nil] at e
      rw [e, q]
      rfl
    | cons w suf ih =>
      intro pre acc e q hi
      have at_ : (Src.fix (ks.map φ)).at pre.length h = some (φ w) := by
        show nth (ks.map φ) pre.length = some (φ w)
        rw [nth_eq, e, List.getElem?_map, List.getElem?_append_right (Nat.le_refl _), Nat.sub_self]
        rfl
      obtain ⟨g1, g2⟩ := hf acc w pre.length (by rw [e]; simp) (by rw [e]; simp) hi
      rw [List.length_cons, turnsD_s, at_, turnGoD_s, g1, bind_ok]
      have := ih (pre ++ [w]) (step acc w) (by rw [e]; simp) (by rw [List.foldl_append, ← q]; rfl) (by rw [List.length_append]; exact g2)
      rw [List.length_append] at this
      exact this
  rw [List.length_map]
  exact key ks [] [] rfl rfl hi
/-- keys that all have the same value -/
def keyT (l : List Str) : List (W × W) := l.map fun s => (W.str s, W.bl true)
def addS (l : List Str) (s : Str) : List Str := if l.any (fun y => strEq y s) then l else l ++ [s]
theorem dput_T (l : List Str) (s : Str) : dput (keyT l) (.str s) (.bl true) = keyT (addS l s) := by
  unfold dput addS
  have e : (keyT l).any (fun p => keyEq p.1 (.str s)) = l.any (fun y => strEq y s) := by
    unfold keyT
    rw [List.any_map]
    rfl
  rw [e]
  by_cases z : l.any (fun y => strEq y s) = true
  · rw [if_pos z, if_pos z]
    unfold keyT
    rw [List.map_map]
    apply List.map_congr_left
    intro y _
    show (if keyEq (.str y) (.str s) = true then (W.str y, W.bl true) else (W.str y, W.bl true)) = (W.str y, W.bl true)
    exact ite_self _
  · rw [if_neg z, if_neg z]
    unfold keyT
    rw [List.map_append]
    rfl
theorem addS_mem {l : List Str} {s x : Str} : x ∈ addS l s ↔ x ∈ l ∨ x = s := by
  unfold addS
  by_cases z : l.any (fun y => strEq y s) = true
  · rw [if_pos z]
    obtain ⟨y, hy, e⟩ := List.any_eq_true.mp z
    rw [strEq_eq] at e
    have e := eq_of_beq e
    subst e
    exact ⟨.inl, fun q => q.elim id fun q => q ▸ hy⟩
  · rw [if_neg z]
    simp
theorem addS_nodup {l : List Str} {s : Str} (h : l.Nodup) : (addS l s).Nodup := by
  unfold addS
  by_cases z : l.any (fun y => strEq y s) = true
  · rw [if_pos z]; exact h
  · rw [if_neg z]
    rw [List.nodup_append]
    refine ⟨h, by simp, fun a ha b hb => ?_⟩
    rw [List.mem_singleton] at hb
    subst hb
    rintro rfl
    exact z (List.any_eq_true.mpr ⟨a, ha, by rw [strEq_eq]; exact beq_self_eq_true a⟩)
theorem addS_len {l : List Str} {s : Str} : (addS l s).length ≤ l.length + 1 := by
  unfold addS
  split
  · omega
  · simp
theorem sort_same {l1 l2 : List Str} (h1 : l1.Nodup) (h2 : l2.Nodup) (h : ∀ x, x ∈ l1 ↔ x ∈ l2) : sortS l1 = sortS l2 := by
  have p : l1.Perm l2 := (List.perm_ext_iff_of_nodup h1 h2).mpr h
  exact List.Perm.eq_of_pairwise (fun a b _ _ h1 h2 => leS_anti h1 h2) (sortS_pw l1) (sortS_pw l2) ((sortS_perm l1).trans (p.trans (sortS_perm l2).symm))
end Ev
namespace Lw
open PySem Ev
section
variable {a : Nat}
theorem tm_size (h : Hep) : ∀ (n : Nat) {t : Tm}, Nmd a t → t.dep ≤ n → callN Pr (n + 1) F_term_size [t.w] h = .ok (.int (t.size : Nat)) h
  | 0, t, _, hd => by have := dep_pos t; omega
  | n + 1, t, ht, hd => by
    rw [c_term_size]
    have q := tm_inner ht n h
    simp only [F_inner_terms] at q
    have kl : t.kids.length ≤ 3 := by cases t <;> simp [Tm.kids]
    have t1 := turns_mapK (ks := t.kids) (φ := Tm.w) (ψ := fun k => .int (k.size : Nat)) (h := h) (f := lcoF Pr (orcN Pr (n + 1)) (.cal F_term_size [.var 1]) (.nm 1) [] [1] [some t.w, none]) (fun acc k hk hl => by
      have q := tm_size h n (kids_ok ht hk) (by have := kids_lt hk; omega)
      simp only [F_term_size] at q
      have : acc.length < lim := by unfold lim; omega
      simp [q, grow, this])
    have e : bSum [.lst (t.kids.map fun k => .int (k.size : Nat))] h = .ok (.int (szs t.kids : Nat)) h := by
      show Out.some' ((some (t.kids.map fun k => W.int (k.size : Nat))).bind fun xs => (intsOf xs).map fun ns => W.int ns.sum) h = _
      rw [Option.bind_some, intsOf_map, Option.map_some, som_some]
      congr 2
      unfold szs
      generalize t.kids = l
      induction l with
      | nil => rfl
      | cons x l ih => simp only [List.map_cons, List.sum_cons, ih]; omega
    have hl : (t.kids.map fun k => W.int (k.size : Nat)).length ≤ 16777216 := by rw [List.length_map]; omega
    have e2 : (1 : Int) + ((szs t.kids : Nat) : Int) = ((t.size : Nat) : Int) := by rw [sz_kids t]; omega
    simp [q, t1, newL, lim, hl, bfn, e, e2, -List.length_map]
theorem max2 (x y : Nat) (h : Hep) : bMaxl [.lst [.int (x : Nat), .int (y : Nat)]] h = .ok (.int ((max x y : Nat) : Int)) h := by
  show Out.ok (W.int (if ((x : Nat) : Int) < ((y : Nat) : Int) then (y : Nat) else (x : Nat))) h = _
  congr 2
  split <;> omega
theorem max3 (x y z : Nat) (h : Hep) : bMaxl [.lst [.int (x : Nat), .int (y : Nat), .int (z : Nat)]] h = .ok (.int ((max (max x y) z : Nat) : Int)) h := by
  show Out.ok (W.int (if (if ((x : Nat) : Int) < ((y : Nat) : Int) then ((y : Nat) : Int) else (x : Nat)) < ((z : Nat) : Int) then (z : Nat) else (if ((x : Nat) : Int) < ((y : Nat) : Int) then ((y : Nat) : Int) else (x : Nat)))) h = _
  congr 2
  split <;> split at * <;> omega
theorem maxl_kids (t : Tm) (hk : t.kids ≠ []) (h : Hep) : bMaxl [.lst (t.kids.map fun k => .int (k.dep : Nat))] h = .ok (.int ((t.dep - 1 : Nat) : Int)) h := by
  cases t with
  | two k x y => simp only [Tm.kids, List.map_cons, List.map_nil, max2, Tm.dep, Nat.add_sub_cancel_left]
  | ite x y z => simp only [Tm.kids, List.map_cons, List.map_nil, max3, Tm.dep, Nat.add_sub_cancel_left]
  | cal1 k x => simp only [Tm.kids, List.map_cons, List.map_nil, Tm.dep, Nat.add_sub_cancel_left]; rfl
  | cal2 k x y => simp only [Tm.kids, List.map_cons, List.map_nil, max2, Tm.dep, Nat.add_sub_cancel_left]
  | _ => exact absurd rfl hk
theorem tm_dep (h : Hep) : ∀ (n : Nat) {t : Tm}, Nmd a t → t.dep ≤ n → t.dep ≤ 30 → callN Pr (n + 1) F_term_depth [t.w] h = .ok (.int (t.dep : Nat)) h
  | 0, t, _, hd, _ => by have := dep_pos t; omega
  | n + 1, t, ht, hd, h30 => by
    rw [c_term_depth]
    have q := tm_inner ht n h
    simp only [F_inner_terms] at q
    have kl : t.kids.length ≤ 3 := by cases t <;> simp [Tm.kids]
    have t1 := turns_mapK (ks := t.kids) (φ := Tm.w) (ψ := fun k => .int (k.dep : Nat)) (h := h) (f := lcoF Pr (orcN Pr (n + 1)) (.bfn .int [.cal F_term_depth [.var 1]]) (.nm 1) [] [1] [some t.w, none]) (fun acc k hk hl => by
      have q := tm_dep h n (kids_ok ht hk) (by have := kids_lt hk; omega) (by have := kids_lt hk; omega)
      simp only [F_term_depth] at q
      have : acc.length < lim := by unfold lim; omega
      simp [q, grow, this, bfn])
    have e0 : cmpop .Eq (.tup (t.kids.map Tm.w)) (.tup []) h = .ok (.bl (t.kids.map Tm.w).isEmpty) h := eqt_nil fun x hx => by
      obtain ⟨k, hk, rfl⟩ := List.mem_map.mp hx
      exact (pd_dt (tm_pd (kids_ok ht hk))).mono (by have := kids_lt hk; omega)
    have hl : (t.kids.map fun k => W.int (k.dep : Nat)).length ≤ 16777216 := by rw [List.length_map]; omega
    cases he : (t.kids.map Tm.w).isEmpty with
    | true =>
      rw [he] at e0
      have : t.dep = 1 := by
        cases t <;> first | rfl | cases he
      simp [q, e0, newT, lim, this]
    | false =>
      rw [he] at e0
      have m := maxl_kids t (fun z => by rw [z] at he; cases he) h
      have : (1 : Int) + ((t.dep - 1 : Nat) : Int) = ((t.dep : Nat) : Int) := by have := dep_pos t; omega
      simp [q, e0, newT, lim, t1, newL, hl, bfn, m, this, -List.length_map]
end
namespace Tm
def subs : Tm → List Tm
  | two k x y => two k x y :: (x.subs ++ y.subs)
  | ite x y z => ite x y z :: (x.subs ++ (y.subs ++ z.subs))
  | cal1 f x => cal1 f x :: x.subs
  | cal2 f x y => cal2 f x y :: (x.subs ++ y.subs)
  | t => [t]
end Tm
theorem subs_kids (t : Tm) : t.subs = t :: t.kids.flatMap Tm.subs := by cases t <;> simp [Tm.subs, Tm.kids]
theorem subs_len : ∀ t : Tm, t.subs.length = t.size := by
  intro t
  induction t with
  | two k x y hx hy => simp [Tm.subs, Tm.size, hx, hy]; omega
  | ite x y z hx hy hz => simp [Tm.subs, Tm.size, hx, hy, hz]; omega
  | cal1 f x hx => simp [Tm.subs, Tm.size, hx]; omega
  | cal2 f x y hx hy => simp [Tm.subs, Tm.size, hx, hy]; omega
  | _ => rfl
theorem subs_ok {a : Nat} {pc : Str → Prop} {pf : Str → Nat → Prop} : ∀ {t u : Tm}, t.ok a pc pf → u ∈ t.subs → u.ok a pc pf ∧ u.dep ≤ t.dep := by
  intro t
  induction t with
  | two k x y hx hy =>
    intro u h hu
    simp only [Tm.subs, List.mem_cons, List.mem_append] at hu
    rcases hu with rfl | hu | hu
    · exact ⟨h, Nat.le_refl _⟩
    · have := hx h.1 hu; exact ⟨this.1, by have := this.2; simp only [Tm.dep]; omega⟩
    · have := hy h.2 hu; exact ⟨this.1, by have := this.2; simp only [Tm.dep]; omega⟩
  | ite x y z hx hy hz =>
    intro u h hu
    simp only [Tm.subs, List.mem_cons, List.mem_append] at hu
    rcases hu with rfl | hu | hu | hu
    · exact ⟨h, Nat.le_refl _⟩
    · have := hx h.1 hu; exact ⟨this.1, by have := this.2; simp only [Tm.dep]; omega⟩
    · have := hy h.2.1 hu; exact ⟨this.1, by have := this.2; simp only [Tm.dep]; omega⟩
    · have := hz h.2.2 hu; exact ⟨this.1, by have := this.2; simp only [Tm.dep]; omega⟩
  | cal1 f x hx =>
    intro u h hu
    simp only [Tm.subs, List.mem_cons] at hu
    rcases hu with rfl | hu
    · exact ⟨h, Nat.le_refl _⟩
    · have := hx h.2 hu; exact ⟨this.1, by have := this.2; simp only [Tm.dep]; omega⟩
  | cal2 f x y hx hy =>
    intro u h hu
    simp only [Tm.subs, List.mem_cons, List.mem_append] at hu
    rcases hu with rfl | hu | hu
    · exact ⟨h, Nat.le_refl _⟩
    · have := hx h.2.1 hu; exact ⟨this.1, by have := this.2; simp only [Tm.dep]; omega⟩
    · have := hy h.2.2 hu; exact ⟨this.1, by have := this.2; simp only [Tm.dep]; omega⟩
  | _ =>
    intro u h hu
    simp only [Tm.subs, List.mem_singleton] at hu
    subst hu
    exact ⟨h, Nat.le_refl _⟩
theorem tms_blw {a : Nat} {l : List Tm} (hl : ∀ t ∈ l, Nmd a t) (n : Nat) : W.blws n (l.map Tm.w) = true := by
  rw [blws_all, List.all_map, List.all_eq_true]
  intro t ht
  exact pd_blw n (tm_pd (hl t ht))
theorem le_sum : ∀ (l : List Nat) (x : Nat), x ∈ l → x ≤ l.sum
  | [], _, h => nomatch h
  | y :: l, x, h => by
    rw [List.sum_cons]
    rcases List.mem_cons.mp h with rfl | h
    · omega
    · have := le_sum l x h; omega
theorem tm_leaves {a : Nat} : ∀ (n : Nat) {t : Tm} (h : Hep), Wf h → Nmd a t → t.dep ≤ n → t.size ≤ 1000000 → callN Pr (n + 1) F_leaves [t.w] h = .ok (.lst (t.subs.map Tm.w)) h
  | 0, t, _, _, _, hd, _ => by have := dep_pos t; omega
  | n + 1, t, h, wf, ht, hd, hz => by
    rw [c_leaves]
    have q := tm_inner ht n
    simp only [F_inner_terms] at q
    have hsub : ∀ u ∈ t.subs, Nmd a u := fun u hu => (subs_ok ht hu).1
    have hd2 : ∀ k ∈ t.kids, k.size ≤ 1000000 := fun k hk => by
      have : k.size ≤ szs t.kids := by
        unfold szs
        exact le_sum _ _ (List.mem_map_of_mem hk)
      have := sz_kids t
      omega
    have key : ∀ (ks pre : List Tm) (x2 : Option W), t.kids = pre ++ ks → ∃ x2', turnsS (.fix (t.kids.map Tm.w)) (forF Pr (orcN Pr (n + 1)) (.nm 2) [.exp (.bmt .extend (.var 1) [.cal F_leaves [.var 2]])]) ks.length pre.length [some t.w, some (.ref h.n), x2] (h.push (.lst ((t :: pre.flatMap Tm.subs).map Tm.w))) = .ok .nx [some t.w, some (.ref h.n), x2'] (h.push (.lst (t.subs.map Tm.w))) := by
      intro ks
      induction ks with
      | nil =>
        intro pre x2 e
        rw [List.append_nil] at e
        refine ⟨x2, ?_⟩
        rw [← e, ← subs_kids]
        rfl
      | cons k ks ih =>
        intro pre x2 e
        have hk : k ∈ t.kids := by rw [e]; simp
        have at_ : (Src.fix (t.kids.map Tm.w)).at pre.length (h.push (.lst ((t :: pre.flatMap Tm.subs).map Tm.w))) = some k.w := by
          show nth (t.kids.map Tm.w) pre.length = some k.w
          rw [nth_eq, e, List.getElem?_map, List.getElem?_append_right (Nat.le_refl _), Nat.sub_self]
          rfl
        have hpre : ∀ u ∈ t :: pre.flatMap Tm.subs, Nmd a u := fun u hu => by
          rcases List.mem_cons.mp hu with rfl | hu
          · exact ht
          · refine hsub u ?_
            rw [subs_kids, e]
            exact List.mem_cons_of_mem _ (by rw [List.flatMap_append]; exact List.mem_append_left _ hu)
        have wf' : Wf (h.push (.lst ((t :: pre.flatMap Tm.subs).map Tm.w))) := wf.push (by simp only [Ob.blw]; exact tms_blw hpre _)
        have q2 := tm_leaves n (h.push (.lst ((t :: pre.flatMap Tm.subs).map Tm.w))) wf' (kids_ok ht hk) (by have := kids_lt hk; omega) (hd2 k hk)
        simp only [F_leaves] at q2
        obtain ⟨x2', ih⟩ := ih (pre ++ [k]) (some k.w) (by rw [e]; simp)
        refine ⟨x2', ?_⟩
        have hlen : ((t :: pre.flatMap Tm.subs).map Tm.w).length + (k.subs.map Tm.w).length ≤ lim := by
          have e1 : t.subs.length = t.size := subs_len t
          rw [subs_kids, e, List.flatMap_append, List.flatMap_cons] at e1
          simp only [List.length_cons, List.length_append] at e1
          rw [List.length_map, List.length_map, List.length_cons]
          unfold lim
          omega
        have m := ext_push (h := h) hlen
        rw [List.length_cons, turnsS_s, at_, turnGoS_s, forF_nm]
        rw [List.length_append, List.flatMap_append, List.flatMap_cons, List.flatMap_nil, List.append_nil] at ih
        rw [← List.map_append, List.cons_append] at m
        rw [show pre.length + 1 = pre.length + [k].length from rfl]
        rw [← ih]
        simp only [List.set, evSs_cons, evS_exp, ev_bmt, ev_var, nth_s, nth_z, Option.join_some, som_some, bind_ok, kBmt, recv_ext, if_true, evs_cons, ev_cal, kCons_ap, evs_nil, kCons2_ap, orc_call, F_leaves, q2, bmt, m, stm_ok, sNx_ap, seq_nx, evSs_nil, turn_nx]
    obtain ⟨x2', k0⟩ := key t.kids [] none rfl
    rw [List.length_nil, List.flatMap_nil, List.map_singleton] at k0
    have k0' : turnsS (.fix (t.kids.map Tm.w)) (forF Pr (orcN Pr (n + 1)) (.nm 2) [.exp (.bmt .extend (.var 1) [.cal F_leaves [.var 2]])]) (t.kids.map Tm.w).length 0 [some t.w, some (.ref h.n), none] (h.push (.lst [t.w])) = .ok .nx [some t.w, some (.ref h.n), x2'] (h.push (.lst (t.subs.map Tm.w))) := by
      rw [List.length_map]
      exact k0
    simp only [F_leaves] at k0'
    simp [newL, lim, q, k0', -List.length_map]
    exact ends_push wf (by simp only [W.blw]; exact tms_blw hsub _)
end Lw

namespace Lw
open PySem Ev
def nmC : Tm → Option Str
  | .cell s => some s
  | _ => none
def nmF : Tm → Option Str
  | .cal0 f => some f
  | .cal1 f _ => some f
  | .cal2 f _ _ => some f
  | _ => none
def nmK : Bool → Tm → Option Str
  | true => nmC
  | false => nmF
def kS : Bool → Str
  | true => "cell"
  | false => "call"
def nmsOf (k : Bool) (t : Tm) : List Str := (t.subs.filterMap (nmK k)).foldl addS []
theorem q1 (k : Bool) : strEq "arg" (kS k) = false := by cases k <;> decide +kernel
theorem q2 (k : Bool) : strEq "tick" (kS k) = false := by cases k <;> decide +kernel
theorem q3 (k : Bool) (p : Pk) : strEq p.s (kS k) = false := by cases k <;> cases p <;> decide +kernel
theorem q4 (k : Bool) : strEq "if" (kS k) = false := by cases k <;> decide +kernel
theorem q5 : strEq "cell" "call" = false := by decide +kernel
theorem q6 : strEq "call" "cell" = false := by decide +kernel
def stepK (k : Bool) (acc : List (W × W)) (u : Tm) : List (W × W) := match nmK k u with
  | some s => dput acc (.str s) (.bl true)
  | none => acc
theorem stepK_T (k : Bool) (l : List Str) (u : Tm) : stepK k (keyT l) u = keyT (match nmK k u with
  | some s => addS l s
  | none => l) := by
  unfold stepK
  cases nmK k u with
  | none => rfl
  | some s => exact dput_T l s
theorem foldK (k : Bool) : ∀ (us : List Tm) (l : List Str), us.foldl (stepK k) (keyT l) = keyT ((us.filterMap (nmK k)).foldl addS l)
  | [], l => rfl
  | u :: us, l => by
    rw [List.foldl_cons, stepK_T, foldK k us]
    cases q : nmK k u with
    | none => rw [List.filterMap_cons_none q]
    | some s => rw [List.filterMap_cons_some q, List.foldl_cons]
theorem foldS_len : ∀ (xs l : List Str), (xs.foldl addS l).length ≤ l.length + xs.length
  | [], l => by simp
  | x :: xs, l => by
    rw [List.foldl_cons, List.length_cons]
    have := foldS_len xs (addS l x)
    have := addS_len (l := l) (s := x)
    omega
theorem foldS_mem : ∀ (xs l : List Str) (y : Str), y ∈ xs.foldl addS l ↔ y ∈ l ∨ y ∈ xs
  | [], l, y => by simp
  | x :: xs, l, y => by
    rw [List.foldl_cons, foldS_mem xs, addS_mem, List.mem_cons]
    constructor
    · rintro ((h | h) | h)
      · exact .inl h
      · exact .inr (.inl h)
      · exact .inr (.inr h)
    · rintro (h | h | h)
      · exact .inl (.inl h)
      · exact .inl (.inr h)
      · exact .inr h
theorem foldS_nodup : ∀ (xs l : List Str), l.Nodup → (xs.foldl addS l).Nodup
  | [], l, h => h
  | x :: xs, l, h => foldS_nodup xs _ (addS_nodup h)
theorem names_with {a : Nat} {t : Tm} (k : Bool) (n : Nat) (h : Hep) (wf : Wf h) (ht : Nmd a t) (hd : t.dep ≤ n) (hz : t.size ≤ 60) : callN Pr (n + 2) F_names_with [t.w, .str (kS k)] h = .ok (.lst ((sortS (nmsOf k t)).map W.str)) h := by
  rw [c_names_with]
  have ql := tm_leaves n h wf ht hd (by omega)
  simp only [F_leaves] at ql
  have sl := subs_len t
  have it : ∀ xs g, bIsi Pr [.tup xs, .ty .tuple] g = .ok (.bl true) g := fun _ _ => rfl
  have ii : ∀ i g, bIsi Pr [.int i, .ty .tuple] g = .ok (.bl false) g := fun _ _ => rfl
  have z0 : ∀ x xs g, index (.tup (x :: xs)) (.int 0) g = .ok x g := fun x xs g => ix_tup (i := 0) g rfl
  have z1 : ∀ x y xs g, index (.tup (x :: y :: xs)) (.int 1) g = .ok y g := fun x y xs g => ix_tup (i := 1) g rfl
  have t1 := turnsD_K (ks := t.subs) (φ := Tm.w) (step := stepK k) (h := h) (I := fun acc j => acc.length ≤ j ∧ ∃ l, acc = keyT l) (f := dcoF Pr (orcN Pr (n + 1)) (.idx (.var 3) (.int 1)) (.bl true) (.nm 3) [.and (.bfn .isi [.var 3, .ty .tuple]) (.cmp .Eq (.idx (.var 3) (.int 0)) (.var 1))] [3] [some t.w, some (.str (kS k)), none, none, none]) ⟨by simp, [], rfl⟩ (fun acc u j hu hj hi => by
      obtain ⟨hl, l, rfl⟩ := hi
      have hlt : (keyT l).length < lim := by unfold lim; omega
      refine ⟨?_, ?_, ?_⟩
      · cases u with
        | val i => simp [Tm.w, bfn, ii, stepK, nmK]; cases k <;> rfl
        | arg i => simp [Tm.w, bfn, it, z0, q1, stepK]; cases k <;> rfl
        | tick => simp [Tm.w, bfn, it, z0, q2, stepK]; cases k <;> rfl
        | cell s => cases k with
          | true => simp [Tm.w, bfn, it, z0, z1, kS, strEq_self, stepK, nmK, nmC, growD, keyW, hlt]
          | false => simp [Tm.w, bfn, it, z0, z1, kS, q5, stepK, nmK, nmF]
        | two p x y => simp [Tm.w, bfn, it, z0, q3, stepK]; cases k <;> rfl
        | ite x y z => simp [Tm.w, bfn, it, z0, q4, stepK]; cases k <;> rfl
        | cal0 s => cases k with
          | false => simp [Tm.w, bfn, it, z0, z1, kS, strEq_self, stepK, nmK, nmF, growD, keyW, hlt]
          | true => simp [Tm.w, bfn, it, z0, z1, kS, q6, stepK, nmK, nmC]
        | cal1 s x => cases k with
          | false => simp [Tm.w, bfn, it, z0, z1, kS, strEq_self, stepK, nmK, nmF, growD, keyW, hlt]
          | true => simp [Tm.w, bfn, it, z0, z1, kS, q6, stepK, nmK, nmC]
        | cal2 s x y => cases k with
          | false => simp [Tm.w, bfn, it, z0, z1, kS, strEq_self, stepK, nmK, nmF, growD, keyW, hlt]
          | true => simp [Tm.w, bfn, it, z0, z1, kS, q6, stepK, nmK, nmC]
      · rw [stepK_T]
        cases nmK k u with
        | none => show (keyT l).length ≤ j + 1; omega
        | some s =>
          simp only [keyT, List.length_map] at hl ⊢
          have := addS_len (l := l) (s := s)
          omega
      · exact ⟨_, stepK_T k l u⟩)
  have f1 : t.subs.foldl (stepK k) [] = keyT (nmsOf k t) := foldK k t.subs []
  rw [f1] at t1
  have nl : (nmsOf k t).length ≤ 60 := by
    have h1 := foldS_len (t.subs.filterMap (nmK k)) []
    have h2 := List.length_filterMap_le (nmK k) t.subs
    simp only [List.length_nil] at h1
    unfold nmsOf
    omega
  have wk : (keyT (nmsOf k t)).map (fun p => p.1) = (nmsOf k t).map W.str := by
    unfold keyT
    rw [List.map_map]
    rfl
  have t2 := turns_mapK (ks := nmsOf k t) (φ := W.str) (ψ := W.str) (h := h) (f := lcoF Pr (orcN Pr (n + 1)) (.bfn .str [.var 4]) (.nm 4) [] [4] [some t.w, some (.str (kS k)), some (.dct (keyT (nmsOf k t))), none, none]) (fun acc s hs hl => by
    have hl' : acc.length < lim := by unfold lim; omega
    have : bStr [.str s] h = .ok (.str s) h := rfl
    simp [bfn, this, grow, hl'])
  have so : bSorted [.lst ((nmsOf k t).map W.str)] h = .ok (.lst ((sortS (nmsOf k t)).map W.str)) h := by
    show (match strsOf ((nmsOf k t).map W.str) with
      | some ss => if ss.length < 64 then newL false h ((sortS ss).map W.str) else .bad
      | none => .bad) = _
    rw [strsOf_strs]
    simp only
    rw [if_pos (by omega)]
    unfold newL
    rw [if_pos (by rw [List.length_map, (sortS_perm _).length_eq]; unfold lim; omega)]
  have hl : ((nmsOf k t).map W.str).length ≤ 16777216 := by rw [List.length_map]; omega
  simp [ql, t1, laidD, wk, t2, newL, lim, hl, bfn, so, -List.length_map, -List.map_map]
theorem cells_in {a : Nat} {t : Tm} (n : Nat) (h : Hep) (wf : Wf h) (ht : Nmd a t) (hd : t.dep ≤ n) (hz : t.size ≤ 60) : callN Pr (n + 3) F_cells_in [t.w] h = .ok (.lst ((sortS (nmsOf true t)).map W.str)) h := by
  rw [c_cells_in]
  have q := names_with true n h wf ht hd hz
  simp only [F_names_with, kS] at q
  simp [q]
theorem calls_in {a : Nat} {t : Tm} (n : Nat) (h : Hep) (wf : Wf h) (ht : Nmd a t) (hd : t.dep ≤ n) (hz : t.size ≤ 60) : callN Pr (n + 3) F_calls_in [t.w] h = .ok (.lst ((sortS (nmsOf false t)).map W.str)) h := by
  rw [c_calls_in]
  have q := names_with false n h wf ht hd hz
  simp only [F_names_with, kS] at q
  simp [q]
namespace Tm
def data : Tm → PyData
  | val i => .int (i : Nat)
  | arg i => .tuple [.str "arg", .int (i : Nat)]
  | tick => .tuple [.str "tick"]
  | cell s => .tuple [.str "cell", .str s]
  | two k a b => .tuple [.str k.s, a.data, b.data]
  | ite a b c => .tuple [.str "if", a.data, b.data, c.data]
  | cal0 f => .tuple [.str "call", .str f, .tuple []]
  | cal1 f a => .tuple [.str "call", .str f, .tuple [a.data]]
  | cal2 f a b => .tuple [.str "call", .str f, .tuple [a.data, b.data]]
end Tm
theorem toD_tup (f : Nat) (h : Hep) (xs : List W) : toD (f + 1) h (.tup xs) = (xs.mapM (toD f h)).map .tuple := rfl
theorem toD_lst (f : Nat) (h : Hep) (xs : List W) : toD (f + 1) h (.lst xs) = (xs.mapM (toD f h)).map .list := rfl
theorem toD_str (f : Nat) (h : Hep) (x : Str) : toD (f + 1) h (.str x) = some (.str x) := rfl
theorem toD_int (f : Nat) (h : Hep) (x : Int) : toD (f + 1) h (.int x) = some (.int x) := rfl
theorem tm_toD (h : Hep) : ∀ (t : Tm) (f : Nat), 2 * t.dep < f → toD f h t.w = some t.data := by
  intro t
  induction t with
  | val i => intro f hf; obtain ⟨f, rfl⟩ : ∃ g, f = g + 1 := ⟨f - 1, by omega⟩; rfl
  | arg i => intro f hf; obtain ⟨f, rfl⟩ : ∃ g, f = g + 2 := ⟨f - 2, by simp [Tm.dep] at hf; omega⟩; rfl
  | tick => intro f hf; obtain ⟨f, rfl⟩ : ∃ g, f = g + 2 := ⟨f - 2, by simp [Tm.dep] at hf; omega⟩; rfl
  | cell s => intro f hf; obtain ⟨f, rfl⟩ : ∃ g, f = g + 2 := ⟨f - 2, by simp [Tm.dep] at hf; omega⟩; rfl
  | cal0 s => intro f hf; obtain ⟨f, rfl⟩ : ∃ g, f = g + 3 := ⟨f - 3, by simp [Tm.dep] at hf; omega⟩; rfl
  | two k x y hx hy =>
    intro f hf
    simp only [Tm.dep] at hf
    obtain ⟨f, rfl⟩ : ∃ g, f = g + 2 := ⟨f - 2, by omega⟩
    have h1 := hx (f + 1) (by omega)
    have h2 := hy (f + 1) (by omega)
    rw [Tm.w, toD_tup]
    simp [toD_str, h1, h2, Tm.data]
  | ite x y z hx hy hz =>
    intro f hf
    simp only [Tm.dep] at hf
    obtain ⟨f, rfl⟩ : ∃ g, f = g + 2 := ⟨f - 2, by omega⟩
    have h1 := hx (f + 1) (by omega)
    have h2 := hy (f + 1) (by omega)
    have h3 := hz (f + 1) (by omega)
    rw [Tm.w, toD_tup]
    simp [toD_str, h1, h2, h3, Tm.data]
  | cal1 s x hx =>
    intro f hf
    simp only [Tm.dep] at hf
    obtain ⟨f, rfl⟩ : ∃ g, f = g + 3 := ⟨f - 3, by omega⟩
    have h1 := hx (f + 1) (by omega)
    rw [Tm.w, toD_tup]
    simp [toD_str, toD_tup, h1, Tm.data]
  | cal2 s x y hx hy =>
    intro f hf
    simp only [Tm.dep] at hf
    obtain ⟨f, rfl⟩ : ∃ g, f = g + 3 := ⟨f - 3, by omega⟩
    have h1 := hx (f + 1) (by omega)
    have h2 := hy (f + 1) (by omega)
    rw [Tm.w, toD_tup]
    simp [toD_str, toD_tup, h1, h2, Tm.data]
theorem tm_lay {a : Nat} {t : Tm} (ht : Nmd a t) : t.data.canLay0 = true ∧ t.data.depth ≤ 2 * t.dep := by
  obtain ⟨d, h1, h2, h3⟩ := pd_dt (tm_pd ht)
  have e := h1 Hep.nil (2 * t.dep + 1) (by omega)
  rw [tm_toD Hep.nil t _ (by omega)] at e
  cases e
  exact ⟨h2, h3⟩
theorem tm_shaped {a : Nat} {t : Tm} (ht : Nmd a t) (hd : t.dep ≤ 31) : SeqAt.shaped t.data = true := by
  unfold SeqAt.shaped
  rw [Bool.and_eq_true]
  exact ⟨(tm_lay ht).1, decide_eq_true (by have := (tm_lay ht).2; omega)⟩
theorem tms_shaped {a : Nat} {l : List Tm} (hl : ∀ t ∈ l, Nmd a t ∧ t.dep ≤ 31) : SeqAt.shaped (.list (l.map Tm.data)) = true := by
  have h : PyData.canLayAll0 (l.map Tm.data) = true ∧ PyData.depthAll (l.map Tm.data) ≤ 62 := by
    induction l with
    | nil => exact ⟨by simp [PyData.canLayAll0], by simp [PyData.depthAll]⟩
    | cons t l ih =>
      have g := ih fun u hu => hl u (List.mem_cons_of_mem _ hu)
      have q := hl t List.mem_cons_self
      have := tm_lay q.1
      refine ⟨by simp [PyData.canLayAll0, this.1, g.1], ?_⟩
      simp only [List.map_cons, PyData.depthAll]
      have := this.2
      omega
  unfold SeqAt.shaped
  rw [Bool.and_eq_true]
  exact ⟨by simpa [PyData.canLay0] using h.1, decide_eq_true (by simp only [PyData.depth]; omega)⟩
theorem tms_toD (h : Hep) {l : List Tm} (hl : ∀ t ∈ l, t.dep ≤ 31) : toD 65 h (.lst (l.map Tm.w)) = some (.list (l.map Tm.data)) := by
  rw [toD_lst]
  have : (l.map Tm.w).mapM (toD 64 h) = some (l.map Tm.data) := by
    induction l with
    | nil => rfl
    | cons t l ih =>
      rw [List.map_cons, List.mapM_cons, tm_toD h t 64 (by have := hl t List.mem_cons_self; omega), ih fun u hu => hl u (List.mem_cons_of_mem _ hu)]
      rfl
  rw [this]
  rfl
def isTk : Tm → Bool
  | .tick => true
  | _ => false
theorem eqv_tick (t : Tm) : PyData.eqv t.data (.tuple [.str "tick"]) = isTk t := by
  have e1 : ∀ s : Str, strEq s "tick" = false → (s == ("tick" : Str)) = false := fun s h => by rw [← strEq_eq]; exact h
  cases t with
  | val i => simp [Tm.data, PyData.eqv, isTk]
  | tick => simp [Tm.data, PyData.eqv, PyData.eqvAll, isTk]
  | arg i => simp [Tm.data, PyData.eqv, PyData.eqvAll, isTk]
  | cell i => simp [Tm.data, PyData.eqv, PyData.eqvAll, isTk]
  | two k x y => simp [Tm.data, PyData.eqv, PyData.eqvAll, isTk]
  | ite x y z => simp [Tm.data, PyData.eqv, PyData.eqvAll, isTk]
  | cal0 x => simp [Tm.data, PyData.eqv, PyData.eqvAll, isTk]
  | cal1 x y => simp [Tm.data, PyData.eqv, PyData.eqvAll, isTk]
  | cal2 x y z => simp [Tm.data, PyData.eqv, PyData.eqvAll, isTk]
theorem has_tick {a : Nat} {t : Tm} (n : Nat) (h : Hep) (wf : Wf h) (ht : Nmd a t) (hd : t.dep ≤ n) (h31 : t.dep ≤ 31) (hz : t.size ≤ 1000000) : callN Pr (n + 2) F_has_tick [t.w] h = .ok (.bl (t.subs.any isTk)) h := by
  rw [c_has_tick]
  have ql := tm_leaves n h wf ht hd hz
  simp only [F_leaves] at ql
  have e : cmpop .In (.tup [.str "tick"]) (.lst (t.subs.map Tm.w)) h = .ok (.bl (t.subs.any isTk)) h := by
    have s1 := tms_toD h (l := t.subs) fun u hu => by have := (subs_ok ht hu).2; omega
    have s2 := tms_shaped (a := a) (l := t.subs) fun u hu => ⟨(subs_ok ht hu).1, by have := (subs_ok ht hu).2; omega⟩
    show Out.some' ((inW h (.tup [.str "tick"]) (.lst (t.subs.map Tm.w))).map W.bl) h = _
    have : inW h (.tup [.str "tick"]) (.lst (t.subs.map Tm.w)) = some (t.subs.any isTk) := by
      unfold inW
      simp only [dicOf]
      rw [s1, show toD 65 h (.tup [.str "tick"]) = some (.tuple [.str "tick"]) from rfl]
      simp only
      rw [if_pos s2, if_pos (by decide +kernel), List.any_map]
      congr 2
      funext u
      exact eqv_tick u
    rw [this]
    rfl
  simp [newT, lim, ql, e]
end Lw

namespace Lw
open PySem Ev
/-- what a drawn book's dict has: its cells, its functions, as long as only the pool changes -/
structure Bk (p : Nat) (h : Hep) (b : W) (cW fW : List W) (pc : Str → Prop) (pf : Str → Nat → Prop) : Prop where
  c : ∃ wc, ∀ h', Stp p h h' → index b (.str "cells") h' = .ok wc h' ∧ listOf h' wc = some cW ∧ cmpop .Eq wc (.lst []) h' = .ok (.bl cW.isEmpty) h'
  f : ∃ wf, ∀ h', Stp p h h' → index b (.str "functions") h' = .ok wf h' ∧ listOf h' wf = some fW ∧ cmpop .NotEq wf (.lst []) h' = .ok (.bl (!fW.isEmpty)) h'
  cl : cW.length < 1000
  fl : fW.length < 1000
  cs : ∀ x ∈ cW, ∃ s, (∀ h', Stp p h h' → index x (.int 0) h' = .ok (.str s) h') ∧ pc s
  fs : ∀ x ∈ fW, ∃ s k, k ≤ 2 ∧ (∀ h', Stp p h h' → index x (.str "name") h' = .ok (.str s) h' ∧ index x (.str "many") h' = .ok (.int (k : Nat)) h') ∧ pf s k
theorem Bk.step {p : Nat} {h h1 : Hep} {b : W} {cW fW : List W} {pc : Str → Prop} {pf : Str → Nat → Prop} (B : Bk p h b cW fW pc pf) (s : Stp p h h1) : Bk p h1 b cW fW pc pf :=
  ⟨B.c.imp fun _ g h' s' => g h' (s.trans s'), B.f.imp fun _ g h' s' => g h' (s.trans s'), B.cl, B.fl, fun x hx => by
    obtain ⟨z, h1, h2⟩ := B.cs x hx
    exact ⟨z, fun h' s' => h1 h' (s.trans s'), h2⟩, fun x hx => by
    obtain ⟨z, k, h0, h1, h2⟩ := B.fs x hx
    exact ⟨z, k, h0, fun h' s' => h1 h' (s.trans s'), h2⟩⟩
theorem in28 (k : Nat) (hk : k < 9) (h : Hep) : cmpop .In (.int (k : Nat)) (.lst [.int 2, .int 8]) h = .ok (.bl (k == 2 || k == 8)) h := by
  match k, hk with
  | 0, _ => kernel_rfl
  | 1, _ => kernel_rfl
  | 2, _ => kernel_rfl
  | 3, _ => kernel_rfl
  | 4, _ => kernel_rfl
  | 5, _ => kernel_rfl
  | 6, _ => kernel_rfl
  | 7, _ => kernel_rfl
  | 8, _ => kernel_rfl
theorem law_term {p : Nat} {b : W} {cW fW : List W} {pc : Str → Prop} {pf : Str → Nat → Prop} {m : Nat} (hm : m ≤ 2) : ∀ (d n : Nat) (h : Hep), Pl h p → Bk p h b cW fW pc pf →
    ∃ t h', callN Pr (n + d + 3) F_law_term [.ref p, b, .int (m : Nat), .int (d : Nat)] h = .ok (Tm.w t) h' ∧ Stp p h h' ∧ t.ok m pc pf ∧ t.dep ≤ d + 1 := by
  intro d
  induction d using Nat.strongRecOn with
  | _ d ih =>
  intro n h hp B
  have h4 : ∃ K : Nat, (K = if 0 < d then 9 else 4) ∧ 4 ≤ K ∧ K ≤ 9 := ⟨_, rfl, by split <;> omega, by split <;> omega⟩
  obtain ⟨K, eK, K4, K9⟩ := h4
  obtain ⟨k, h1, hk, s1, e1⟩ := draw (n + d + 1) h p hp K (by omega) (by omega)
  have p1 := s1.pl hp
  have B1 := B.step s1
  obtain ⟨wc, gc⟩ := B1.c
  obtain ⟨wf, gf⟩ := B1.f
  obtain ⟨c1, c2, c3⟩ := gc h1 (Stp.refl p1)
  obtain ⟨f1, f2, f3⟩ := gf h1 (Stp.refl p1)
  rw [c_law_term]
  simp only [F_law_draw] at e1
  have eif : ev Pr (orcN Pr (n + d + 2)) (.ife (.cmp .Gt (.var 3) (.int 0)) (.int 9) (.int 4)) [some (.ref p), some b, some (.int (m : Nat)), some (.int (d : Nat)), none, none, none, none] h = .ok (.int (K : Nat)) h := by
    by_cases z : 0 < d
    · have z' : (0 : Int) < (d : Nat) := by omega
      rw [if_pos z] at eK
      subst eK
      simp [z]
    · have z' : ¬ (0 : Int) < (d : Nat) := by omega
      rw [if_neg z] at eK
      subst eK
      simp [z]
  have st1 : evS Pr (orcN Pr (n + d + 2)) (B_law_term.headD .nev) [some (.ref p), some b, some (.int (m : Nat)), some (.int (d : Nat)), none, none, none, none] h = .ok .nx [some (.ref p), some b, some (.int (m : Nat)), some (.int (d : Nat)), some (.int (k : Nat)), none, none, none] h1 := by
    simp only [List.headD, evS_asg, ev_cal, evs_cons, ev_var, nth_z, nth_s, Option.join_some, som_some, bind_ok, kCons_ap, eif, evs_nil, kCons2_ap, orc_call, e1, stm_ok, sPut_nm, List.set]
  have sp : ∀ e g, evSs Pr (orcN Pr (n + d + 2)) B_law_term e g = (evS Pr (orcN Pr (n + d + 2)) (B_law_term.headD .nev) e g).seq (evSs Pr (orcN Pr (n + d + 2)) (B_law_term.drop 1)) := fun _ _ => rfl
  rw [sp, st1, seq_nx]
  have fin : ∀ {g : Hep} {w : W} {e : Ev.Env}, Stp p h1 g → Out.fin h.n (OutS.res (.ok (.ret w) e g)) = .ok w g := fun s => by
    simp only [res_ret, fin_ok]
    rw [ends_n]
    rw [s.n, s1.n]
  -- a number below 3
  have D3 : ∃ r g, r < 3 ∧ Stp p h1 g ∧ callN Pr (n + d + 2) F_law_draw [.ref p, .int 3] h1 = .ok (.int (r : Nat)) g := by
    obtain ⟨r, g, a1, a2, a3⟩ := draw (n + d + 1) h1 p p1 3 (by decide) (by decide)
    exact ⟨r, g, a1, a2, a3⟩
  have hk9 : k < 9 := by omega
  have i28 := in28 k hk9 h1
  simp only [F_law_draw] at D3
  obtain ⟨r3, g3, hr3, sr3, er3⟩ := D3
  have V3 : ∀ {o : Out W}, o = .ok (.int (r3 : Nat)) g3 → ∃ t h', o = .ok (Tm.w t) h' ∧ Stp p h h' ∧ t.ok m pc pf ∧ t.dep ≤ d + 1 := fun e => ⟨.val r3, g3, e, s1.trans sr3, by show r3 ≤ 2; omega, by simp [Tm.dep]⟩
  have CB : cW ≠ [] → ∃ s g, pc s ∧ Stp p h1 g ∧ ∃ x, callN Pr (n + d + 2) F_law_pick [.ref p, wc] h1 = .ok x g ∧ index x (.int 0) g = .ok (.str s) g := fun h0 => by
    obtain ⟨x, g, hx, sg, eg⟩ := pick (n + d) h1 p p1 wc cW (fun h' s' => (gc h' s').2.1) h0 B.cl
    obtain ⟨z, z1, z2⟩ := B1.cs x hx
    exact ⟨z, g, z2, sg, x, eg, z1 g sg⟩
  -- some terms, less deep
  have many : ∀ (c dd : Nat) (g : Hep) (e : Ev.Env) (ix : Ex), c ≤ 3 → dd < d → Pl g p → Bk p g b cW fW pc pf → (∀ x g', ev Pr (orcN Pr (n + d + 2)) ix (((wipeE e [7]).set 7 (some x))) g' = .ok (.int (dd : Nat)) g') → (∀ x, nth ((wipeE e [7]).set 7 (some x)) 0 = some (some (.ref p)) ∧ nth ((wipeE e [7]).set 7 (some x)) 1 = some (some b) ∧ nth ((wipeE e [7]).set 7 (some x)) 2 = some (some (.int (m : Nat)))) →
      ∃ (ts : List Tm) (g' : Hep), turns (.rng 0 1 c) (lcoF Pr (orcN Pr (n + d + 2)) (.cal F_law_term [.var 0, .var 1, .var 2, ix]) (.nm 7) [] [7] e) c 0 [] g = .ok (ts.map Tm.w) g' ∧ ts.length = c ∧ (∀ t ∈ ts, t.ok m pc pf ∧ t.dep ≤ dd + 1) ∧ Stp p g g' ∧ Pl g' p ∧ Bk p g' b cW fW pc pf := by
    intro c dd g e ix hc hdd pg Bg hix he
    obtain ⟨ws, g', t1, t2, t3, t4, t5, t6⟩ := turns_rngE (R := Stp p) (I := fun g => Pl g p ∧ Bk p g b cW fW pc pf) (G := fun _ w => ∃ t : Tm, w = t.w ∧ t.ok m pc pf ∧ t.dep ≤ dd + 1) (m := c) (f := lcoF Pr (orcN Pr (n + d + 2)) (.cal F_law_term [.var 0, .var 1, .var 2, ix]) (.nm 7) [] [7] e) (fun g q => Stp.refl q.1) (fun _ _ _ x y => x.trans y) (by unfold lim; omega) (fun acc i g hi ha q => by
      obtain ⟨t, g', a1, a2, a3, a4⟩ := ih dd hdd (n + d - dd - 1) g q.1 q.2
      rw [show n + d - dd - 1 + dd + 3 = n + d + 2 by omega] at a1
      refine ⟨t.w, g', ?_, ⟨t, rfl, a3, a4⟩, a2, a2.pl q.1, q.2.step a2⟩
      obtain ⟨n0, n1, n2⟩ := he (.int (i : Nat))
      have hl : acc.length < lim := by unfold lim; omega
      simp only [F_law_term] at a1 ⊢
      simp only [lcoF_nm, evt_nil, bind_ok, lcoB1_t, ev_cal, evs_cons, ev_var, n0, n1, n2, Option.join_some, som_some, kCons_ap, hix, evs_nil, kCons2_ap, orc_call, a1, lcoB2_ap, grow, hl, if_true]) ⟨pg, Bg⟩
    have L : ∀ ws : List W, (∀ (i : Nat) (w : W), ws[i]? = some w → ∃ t : Tm, w = t.w ∧ t.ok m pc pf ∧ t.dep ≤ dd + 1) → ∃ ts : List Tm, ws = ts.map Tm.w ∧ ∀ t ∈ ts, t.ok m pc pf ∧ t.dep ≤ dd + 1 := by
      intro ws
      induction ws with
      | nil => intro _; exact ⟨[], rfl, fun _ h => nomatch h⟩
      | cons w ws ihw =>
        intro hw
        obtain ⟨t, rfl, q1, q2⟩ := hw 0 w rfl
        obtain ⟨ts, rfl, q3⟩ := ihw fun i w h => hw (i + 1) w h
        exact ⟨t :: ts, rfl, fun u hu => by
          rcases List.mem_cons.mp hu with rfl | hu
          · exact ⟨q1, q2⟩
          · exact q3 u hu⟩
    obtain ⟨ts, rfl, q⟩ := L ws t3
    exact ⟨ts, g', t1, by simpa using t2, q, t4, t5, t6⟩
  have pair : 0 < d → (∀ o : Out W, (∀ (g : Hep) (pk : Pk), callN Pr (n + d + 2) F_law_pick [.ref p, .lst [.str "plus", .str "less", .str "same"]] h1 = .ok (.str pk.s) g → ∀ (t1 t2 : Tm) (g1 g2 : Hep), callN Pr (n + d + 2) F_law_term [.ref p, b, .int (m : Nat), .int ((d : Nat) - 1)] g = .ok t1.w g1 → callN Pr (n + d + 2) F_law_term [.ref p, b, .int (m : Nat), .int ((d : Nat) - 1)] g1 = .ok t2.w g2 → Stp p h1 g2 → o = .ok (.tup [.str pk.s, t1.w, t2.w]) g2) → ∃ t h', o = .ok (Tm.w t) h' ∧ Stp p h h' ∧ t.ok m pc pf ∧ t.dep ≤ d + 1) := fun hd o ho => by
    obtain ⟨x, g, hx, sg, eg⟩ := pick (n + d) h1 p p1 (.lst [.str "plus", .str "less", .str "same"]) [.str "plus", .str "less", .str "same"] (fun _ _ => rfl) (by simp) (by simp)
    have hx' : ∃ pk : Pk, x = .str pk.s := by
      simp only [List.mem_cons, List.not_mem_nil, or_false] at hx
      rcases hx with rfl | rfl | rfl
      · exact ⟨.plus, rfl⟩
      · exact ⟨.less, rfl⟩
      · exact ⟨.same, rfl⟩
    obtain ⟨pk, rfl⟩ := hx'
    have pg := sg.pl p1
    obtain ⟨t1, g1, a1, a2, a3, a4⟩ := ih (d - 1) (by omega) n g pg (B1.step sg)
    obtain ⟨t2, g2, b1, b2, b3, b4⟩ := ih (d - 1) (by omega) n g1 (a2.pl pg) ((B1.step sg).step a2)
    rw [show n + (d - 1) + 3 = n + d + 2 by omega, show ((d - 1 : Nat) : Int) = (d : Nat) - 1 by omega] at a1 b1
    have e := ho g pk eg t1 t2 g1 g2 a1 b1 (sg.trans (a2.trans b2))
    exact ⟨.two pk t1 t2, g2, e, s1.trans (sg.trans (a2.trans b2)), ⟨a3, b3⟩, by simp only [Tm.dep]; omega⟩
  have kc : ∀ z : Nat, z < 9 → z ≠ k → (((k : Nat) : Int) == ((z : Nat) : Int)) = false := fun z _ h => by rw [beq_eq_false_iff_ne]; omega
  have PAIR : 0 < d → (k = 5 ∨ k = 6 ∨ (k = 4 ∧ fW = [])) → ∃ t h', (evSs Pr (orcN Pr (n + d + 2)) (B_law_term.drop 1) [some (.ref p), some b, some (.int (m : Nat)), some (.int (d : Nat)), some (.int (k : Nat)), none, none, none] h1).res.fin h.n = .ok (Tm.w t) h' ∧ Stp p h h' ∧ t.ok m pc pf ∧ t.dep ≤ d + 1 := fun hd hk' => by
    refine pair hd _ (fun g pk eg t1 t2 g1 g2 a1 a2 sg => ?_)
    simp only [F_law_pick, F_law_term] at eg a1 a2
    rcases hk' with rfl | rfl | ⟨rfl, rfl⟩
    · simp at i28
      simp [i28, eg, a1, a2, newL, newT, lim]
      exact ends_n (by rw [sg.n, s1.n]) _
    · simp at i28
      simp [i28, eg, a1, a2, newL, newT, lim]
      exact ends_n (by rw [sg.n, s1.n]) _
    · simp at i28 f3
      simp [i28, f1, f3, eg, a1, a2, newL, newT, lim]
      exact ends_n (by rw [sg.n, s1.n]) _
  have en : ∀ {g : Hep} (w : W), Stp p h1 g → Hep.ends h.n w g = g := fun w s => ends_n (by rw [s.n, s1.n]) w
  have CELL : (k = 2 ∨ k = 8) → ∃ t h', (evSs Pr (orcN Pr (n + d + 2)) (B_law_term.drop 1) [some (.ref p), some b, some (.int (m : Nat)), some (.int (d : Nat)), some (.int (k : Nat)), none, none, none] h1).res.fin h.n = .ok (Tm.w t) h' ∧ Stp p h h' ∧ t.ok m pc pf ∧ t.dep ≤ d + 1 := fun hk' => by
    by_cases z : cW = []
    · subst z
      refine V3 ?_
      rcases hk' with rfl | rfl
      · simp at i28 c3
        simp [i28, c1, c3, newL, lim, er3, en _ sr3]
      · simp at i28 c3
        simp [i28, c1, c3, newL, lim, er3, en _ sr3]
    · obtain ⟨s, g, ps, sg, x, e5, e6⟩ := CB z
      have c3' : cW.isEmpty = false := by cases cW with
        | nil => exact absurd rfl z
        | cons _ _ => rfl
      rw [c3'] at c3
      simp only [F_law_pick] at e5
      refine ⟨.cell s, g, ?_, s1.trans sg, ps, by simp [Tm.dep]⟩
      rcases hk' with rfl | rfl
      · simp at i28
        simp [i28, c1, c3, newL, newT, lim, e5, e6, en _ sg, Tm.w]
      · simp at i28
        simp [i28, c1, c3, newL, newT, lim, e5, e6, en _ sg, Tm.w]
  have hkk : k = 0 ∨ k = 1 ∨ k = 2 ∨ k = 8 ∨ k = 3 ∨ k = 4 ∨ k = 5 ∨ k = 6 ∨ k = 7 := by omega
  rcases hkk with rfl | rfl | rfl | rfl | rfl | rfl | rfl | rfl | rfl
  · exact V3 (by simp [er3, en _ sr3])
  ·
    simp at i28
    by_cases z : m = 0
    · subst z
      exact V3 (by simp [er3, en _ sr3])
    · have z' : (((m : Nat) : Int) == 0) = false := by rw [beq_eq_false_iff_ne]; omega
      obtain ⟨r, g, hr, sg, eg⟩ := draw (n + d + 1) h1 p p1 m (by omega) (by omega)
      simp only [F_law_draw] at eg
      refine ⟨.arg r, g, ?_, s1.trans sg, hr, by simp [Tm.dep]⟩
      simp [i28, z', z, eg, newL, newT, lim, en _ sg, Tm.w]
  · exact CELL (.inl rfl)
  · exact CELL (.inr rfl)
  ·
    simp at i28
    by_cases z : r3 = 0
    · subst z
      refine ⟨.tick, g3, ?_, s1.trans sr3, trivial, by simp [Tm.dep]⟩
      simp [i28, er3, newL, newT, lim, en _ sr3, Tm.w]
    · have z' : (((r3 : Nat) : Int) == 0) = false := by rw [beq_eq_false_iff_ne]; omega
      obtain ⟨r, g, hr, sg, eg⟩ := draw (n + d + 1) g3 p (sr3.pl p1) 3 (by decide) (by decide)
      simp only [F_law_draw] at eg
      have eg : callN Pr (n + d + 2) F_law_draw [.ref p, .int 3] g3 = _ := eg
      simp only [F_law_draw] at eg
      refine ⟨.val r, g, ?_, s1.trans (sr3.trans sg), by show r ≤ 2; omega, by simp [Tm.dep]⟩
      simp [i28, er3, z', z, eg, newL, newT, lim, en _ (sr3.trans sg), Tm.w]
  ·
    have hd : 0 < d := by
      rcases Nat.eq_zero_or_pos d with rfl | q
      · rw [if_neg (by omega)] at eK; omega
      · exact q
    by_cases z : fW = []
    · exact PAIR hd (.inr (.inr ⟨rfl, z⟩))
    · have f3' : fW.isEmpty = false := by cases fW with
        | nil => exact absurd rfl z
        | cons _ _ => rfl
      rw [f3'] at f3
      obtain ⟨x, g, hx, sg, eg⟩ := pick (n + d) h1 p p1 wf fW (fun h' s' => (gf h' s').2.1) z B.fl
      obtain ⟨s, c, c2', z1, z2⟩ := B1.fs x hx
      obtain ⟨y1, y2⟩ := z1 g sg
      have pg := sg.pl p1
      obtain ⟨ts, g', t1, t2, t3, t4, t5, t6⟩ := many c 0 g [some (.ref p), some b, some (.int (m : Nat)), some (.int (d : Nat)), some (.int 4), none, some x, none] (.int 0) (by omega) hd pg (B1.step sg) (fun _ _ => rfl) (fun _ => ⟨rfl, rfl, rfl⟩)
      have w : walk .rng [.int (c : Nat)] g = some (.rng 0 1 c) := by
        rw [walk_rng1 g (by unfold rngOk; simp; omega)]
        rfl
      simp at i28 f3
      simp only [F_law_pick, F_law_term] at eg t1
      have st := sg.trans t4
      have tl : (ts.map Tm.w).length ≤ 16777216 := by rw [List.length_map]; omega
      have tt : ∀ g, bTuple [.lst (ts.map Tm.w)] g = .ok (.tup (ts.map Tm.w)) g := fun _ => rfl
      have key : (evSs Pr (orcN Pr (n + d + 2)) (B_law_term.drop 1) [some (.ref p), some b, some (.int (m : Nat)), some (.int (d : Nat)), some (.int ((4 : Nat) : Int)), none, none, none] h1).res.fin h.n = .ok (.tup [.str "call", .str s, .tup (ts.map Tm.w)]) g' := by
        simp [i28, f1, f3, eg, y1, y2, w, t1, newL, newT, lim, tl, bfn, tt, en _ st, -List.length_map]
      rw [key]
      match ts, t2 with
      | [], t2 => exact ⟨.cal0 s, g', rfl, s1.trans st, by have : c = 0 := t2.symm; subst this; exact z2, by simp [Tm.dep]⟩
      | [u], t2 => exact ⟨.cal1 s u, g', rfl, s1.trans st, ⟨by have : c = 1 := t2.symm; subst this; exact z2, (t3 u (by simp)).1⟩, by have := (t3 u (by simp)).2; simp only [Tm.dep]; omega⟩
      | [u, v], t2 => exact ⟨.cal2 s u v, g', rfl, s1.trans st, ⟨by have : c = 2 := t2.symm; subst this; exact z2, (t3 u (by simp)).1, (t3 v (by simp)).1⟩, by have := (t3 u (by simp)).2; have := (t3 v (by simp)).2; simp only [Tm.dep]; omega⟩
      | _ :: _ :: _ :: _, t2 => simp at t2; omega
  · exact PAIR (by
      rcases Nat.eq_zero_or_pos d with rfl | q
      · rw [if_neg (by omega)] at eK; omega
      · exact q) (.inl rfl)
  · exact PAIR (by
      rcases Nat.eq_zero_or_pos d with rfl | q
      · rw [if_neg (by omega)] at eK; omega
      · exact q) (.inr (.inl rfl))
  ·
    have hd : 0 < d := by
      rcases Nat.eq_zero_or_pos d with rfl | q
      · rw [if_neg (by omega)] at eK; omega
      · exact q
    have hd1 : ((d - 1 : Nat) : Int) = (d : Nat) - 1 := by omega
    obtain ⟨ts, g', t1, t2, t3, t4, t5, t6⟩ := many 3 (d - 1) h1 [some (.ref p), some b, some (.int (m : Nat)), some (.int (d : Nat)), some (.int 7), none, none, none] (.bin .Sub (.var 3) (.int 1)) (by omega) (by omega) p1 B1 (fun x g' => by rw [hd1]; simp) (fun _ => ⟨rfl, rfl, rfl⟩)
    have w : ∀ g, walk .rng [.int 3] g = some (.rng 0 1 3) := fun g => rfl
    simp at i28
    simp only [F_law_term] at t1
    match ts, t2 with
    | [u, v, x], t2 =>
      refine ⟨.ite u v x, g', ?_, s1.trans t4, ⟨(t3 u (by simp)).1, (t3 v (by simp)).1, (t3 x (by simp)).1⟩, by have := (t3 u (by simp)).2; have := (t3 v (by simp)).2; have := (t3 x (by simp)).2; simp only [Tm.dep]; omega⟩
      have tt : ∀ g, bTuple [.lst [u.w, v.w, x.w]] g = .ok (.tup [u.w, v.w, x.w]) g := fun _ => rfl
      have ta : ∀ g, binop .Add (.tup [.str "if"]) (.tup [u.w, v.w, x.w]) g = .ok (.tup [.str "if", u.w, v.w, x.w]) g := fun _ => rfl
      simp only [List.map_cons, List.map_nil] at t1
      have key : ∀ e g, (turns (.rng 0 1 3) (lcoF Pr (orcN Pr (n + d + 2)) (.cal F_law_term [.var 0, .var 1, .var 2, .bin .Sub (.var 3) (.int 1)]) (.nm 7) [] [7] e) 3 0 [] g).calm.bind (kNewL false) = ((turns (.rng 0 1 3) (lcoF Pr (orcN Pr (n + d + 2)) (.cal F_law_term [.var 0, .var 1, .var 2, .bin .Sub (.var 3) (.int 1)]) (.nm 7) [] [7] e) 3 0 [] g).calm.bind (kNewL false)) := fun _ _ => rfl
      simp [i28, w, t1, newL, newT, lim, bfn, tt, ta, en _ t4, Tm.w, -turns_s]
    | [], t2 => cases t2
    | [_], t2 => cases t2
    | [_, _], t2 => cases t2
    | _ :: _ :: _ :: _ :: _, t2 => simp at t2
end Lw

namespace Lw
open PySem Ev
theorem inl_l (s : Str) (h : Hep) : cmpop .In (.str s) (.lst [.str "arg", .str "cell", .str "tick"]) h = .some' ((inW h (.str s) (.lst [.str "arg", .str "cell", .str "tick"])).map W.bl) h := rfl
theorem law_inner {a : Nat} {t : Tm} (ht : Nmd a t) (n : Nat) (h : Hep) : callN Pr (n + 1) F_law_inner [t.w] h = .ok (.ref h.n) (h.push (.lst (t.kids.map Tm.w))) := by
  rw [c_law_inner]
  have it : ∀ xs g, bIsi Pr [.tup xs, .ty .tuple] g = .ok (.bl true) g := fun _ _ => rfl
  have ii : ∀ i g, bIsi Pr [.int i, .ty .tuple] g = .ok (.bl false) g := fun _ _ => rfl
  have z0 : ∀ x xs g, index (.tup (x :: xs)) (.int 0) g = .ok x g := fun x xs g => ix_tup (i := 0) g rfl
  have z2 : ∀ x y z xs g, index (.tup (x :: y :: z :: xs)) (.int 2) g = .ok z g := fun x y z xs g => ix_tup (i := 2) g rfl
  have lm : ∀ xs g, xs.length ≤ 3 → bListM [.tup xs] g = .ok (.ref g.n) (g.push (.lst xs)) := fun xs g hl => by
    show newL true g xs = _
    unfold newL
    rw [if_pos (by unfold lim; omega)]
  have a1 : cmpop .In (.str "arg") (.lst [.str "arg", .str "cell", .str "tick"]) h = .ok (.bl true) h := by kernel_rfl
  have a2 : cmpop .In (.str "cell") (.lst [.str "arg", .str "cell", .str "tick"]) h = .ok (.bl true) h := by kernel_rfl
  have a3 : cmpop .In (.str "tick") (.lst [.str "arg", .str "cell", .str "tick"]) h = .ok (.bl true) h := by kernel_rfl
  have a4 : cmpop .In (.str "call") (.lst [.str "arg", .str "cell", .str "tick"]) h = .ok (.bl false) h := by kernel_rfl
  have a5 : cmpop .In (.str "if") (.lst [.str "arg", .str "cell", .str "tick"]) h = .ok (.bl false) h := by kernel_rfl
  have a6 : ∀ k : Pk, cmpop .In (.str k.s) (.lst [.str "arg", .str "cell", .str "tick"]) h = .ok (.bl false) h := fun k => by cases k <;> kernel_rfl
  have b1 : strEq "if" "call" = false := by decide +kernel
  have b2 : ∀ k : Pk, strEq k.s "call" = false := fun k => by cases k <;> decide +kernel
  cases t with
  | val i => simp [Tm.w, Tm.kids, bfn, ii, newL, lim, ends_keep]
  | arg i => simp [Tm.w, Tm.kids, bfn, it, z0, a1, newL, lim, ends_keep]
  | tick => simp [Tm.w, Tm.kids, bfn, it, z0, a3, newL, lim, ends_keep]
  | cell i => simp [Tm.w, Tm.kids, bfn, it, z0, a2, newL, lim, ends_keep]
  | two k x y => simp [Tm.w, Tm.kids, bfn, it, z0, a6, b2, newL, lim, sl_one, lm, ends_keep]
  | ite x y z => simp [Tm.w, Tm.kids, bfn, it, z0, a5, b1, newL, lim, sl_one, lm, ends_keep]
  | cal0 f => simp [Tm.w, Tm.kids, bfn, it, z0, z2, a4, strEq_self, newL, lim, lm, ends_keep]
  | cal1 f x => simp [Tm.w, Tm.kids, bfn, it, z0, z2, a4, strEq_self, newL, lim, lm, ends_keep]
  | cal2 f x y => simp [Tm.w, Tm.kids, bfn, it, z0, z2, a4, strEq_self, newL, lim, lm, ends_keep]
def un (a b : List Str) : List Str := a ++ b.filter fun x => !a.any fun y => strEq y x
theorem un_mem {a b : List Str} {x : Str} : x ∈ un a b ↔ x ∈ a ∨ x ∈ b := by
  unfold un
  rw [List.mem_append, List.mem_filter]
  constructor
  · rintro (h | h)
    · exact .inl h
    · exact .inr h.1
  · rintro (h | h)
    · exact .inl h
    · by_cases z : a.any (fun y => strEq y x) = true
      · obtain ⟨y, hy, e⟩ := List.any_eq_true.mp z
        have e := strEq_at e
        subst e
        exact .inl hy
      · rw [Bool.not_eq_true] at z
        exact .inr ⟨h, by rw [z]; rfl⟩
theorem un_nodup {a b : List Str} (ha : a.Nodup) (hb : b.Nodup) : (un a b).Nodup := by
  unfold un
  rw [List.nodup_append]
  refine ⟨ha, hb.filter _, fun x hx y hy => ?_⟩
  rintro rfl
  rw [List.mem_filter] at hy
  have : a.any (fun y => strEq y x) = true := List.any_eq_true.mpr ⟨x, hx, strEq_self x⟩
  rw [this] at hy
  cases hy.2
theorem un_len (a b : List Str) : (un a b).length ≤ a.length + b.length := by
  unfold un
  rw [List.length_append]
  have := List.length_filter_le (fun x => !a.any fun y => strEq y x) b
  omega
def lawNm (k : Bool) : Tm → List Str
  | .two _ x y => un (un [] (lawNm k x)) (lawNm k y)
  | .ite x y z => un (un (un [] (lawNm k x)) (lawNm k y)) (lawNm k z)
  | .cal1 f x => un (cond k [] [f]) (lawNm k x)
  | .cal2 f x y => un (un (cond k [] [f]) (lawNm k x)) (lawNm k y)
  | .cal0 f => cond k [] [f]
  | .cell s => cond k [s] []
  | _ => []
theorem lawNm_kids (k : Bool) (t : Tm) : lawNm k t = t.kids.foldl (fun acc u => un acc (lawNm k u)) (nmK k t).toList := by
  cases k <;> cases t <;> rfl
theorem lawNm_mem (k : Bool) : ∀ (t : Tm) (x : Str), x ∈ lawNm k t ↔ x ∈ nmsOf k t := by
  intro t
  have e : ∀ (t : Tm) x, x ∈ nmsOf k t ↔ x ∈ t.subs.filterMap (nmK k) := fun t x => by
    unfold nmsOf
    rw [foldS_mem]
    simp
  induction t with
  | two p x y hx hy =>
    intro z
    rw [e, Tm.subs]
    simp only [lawNm, un_mem, hx, hy, e, List.filterMap_cons, List.filterMap_append, List.mem_append]
    cases k <;> simp [nmK, nmC, nmF]
  | ite x y z hx hy hz =>
    intro u
    rw [e, Tm.subs]
    simp only [lawNm, un_mem, hx, hy, hz, e, List.filterMap_cons, List.filterMap_append, List.mem_append]
    cases k <;> simp [nmK, nmC, nmF, or_assoc]
  | cal1 f x hx =>
    intro z
    rw [e, Tm.subs]
    simp only [lawNm, un_mem, hx, e, List.filterMap_cons]
    cases k <;> simp [nmK, nmC, nmF]
  | cal2 f x y hx hy =>
    intro z
    rw [e, Tm.subs]
    simp only [lawNm, un_mem, hx, hy, e, List.filterMap_cons, List.filterMap_append, List.mem_append]
    cases k <;> simp [nmK, nmC, nmF, or_assoc]
  | cal0 f => intro z; rw [e]; cases k <;> simp [Tm.subs, lawNm, nmK, nmC, nmF]
  | cell f => intro z; rw [e]; cases k <;> simp [Tm.subs, lawNm, nmK, nmC, nmF]
  | _ => intro z; rw [e]; cases k <;> simp [Tm.subs, lawNm, nmK, nmC, nmF]
theorem lawNm_nodup (k : Bool) : ∀ t : Tm, (lawNm k t).Nodup := by
  intro t
  induction t with
  | two p x y hx hy => exact un_nodup (un_nodup List.nodup_nil hx) hy
  | ite x y z hx hy hz => exact un_nodup (un_nodup (un_nodup List.nodup_nil hx) hy) hz
  | cal1 f x hx => exact un_nodup (by cases k <;> simp) hx
  | cal2 f x y hx hy => exact un_nodup (un_nodup (by cases k <;> simp) hx) hy
  | cal0 f => cases k <;> simp [lawNm]
  | cell f => cases k <;> simp [lawNm]
  | _ => exact List.nodup_nil
theorem law_sort (k : Bool) (t : Tm) : sortS (lawNm k t) = sortS (nmsOf k t) := sort_same (lawNm_nodup k t) (foldS_nodup _ _ List.nodup_nil) (lawNm_mem k t)
theorem lawNm_len (k : Bool) : ∀ t : Tm, (lawNm k t).length ≤ t.size := by
  intro t
  induction t with
  | two p x y hx hy =>
    have := un_len (un [] (lawNm k x)) (lawNm k y)
    have := un_len [] (lawNm k x)
    simp only [lawNm, Tm.size, List.length_nil] at *
    omega
  | ite x y z hx hy hz =>
    have := un_len (un (un [] (lawNm k x)) (lawNm k y)) (lawNm k z)
    have := un_len (un [] (lawNm k x)) (lawNm k y)
    have := un_len [] (lawNm k x)
    simp only [lawNm, Tm.size, List.length_nil] at *
    omega
  | cal1 f x hx =>
    have := un_len (cond k [] [f]) (lawNm k x)
    have : (cond k [] [f]).length ≤ 1 := by cases k <;> simp
    simp only [lawNm, Tm.size] at *
    omega
  | cal2 f x y hx hy =>
    have := un_len (un (cond k [] [f]) (lawNm k x)) (lawNm k y)
    have := un_len (cond k [] [f]) (lawNm k x)
    have : (cond k [] [f]).length ≤ 1 := by cases k <;> simp
    simp only [lawNm, Tm.size] at *
    omega
  | cal0 f => cases k <;> simp [lawNm, Tm.size]
  | cell f => cases k <;> simp [lawNm, Tm.size]
  | _ => simp [lawNm]
theorem lawNm_strs {a : Nat} (k : Bool) {t : Tm} (ht : Nmd a t) : ∀ s ∈ lawNm k t, isNm s = true := by
  intro s hs
  rw [lawNm_mem] at hs
  unfold nmsOf at hs
  rw [foldS_mem] at hs
  rcases hs with hs | hs
  · cases hs
  · obtain ⟨u, hu, e⟩ := List.mem_filterMap.mp hs
    have := (subs_ok ht hu).1
    cases k <;> cases u <;> simp [nmK, nmC, nmF] at e
    · subst e; exact this
    · subst e; exact this.1
    · subst e; exact this.1
    · subst e; exact this
/-- not among names -/
theorem nin_strs {l : List Str} {s : Str} (hl : ∀ x ∈ l, isNm x = true) (hs : isNm s = true) (h : Hep) : cmpop .NotIn (.str s) (.lst (l.map W.str)) h = .ok (.bl (!l.any fun y => strEq y s)) h := by
  have t1 : toD 65 h (.lst (l.map W.str)) = some (.list (l.map .str)) := by
    rw [toD_lst]
    have : (l.map W.str).mapM (toD 64 h) = some (l.map .str) := by
      clear hl
      induction l with
      | nil => rfl
      | cons x l ih => rw [List.map_cons, List.mapM_cons, toD_str, ih]; rfl
    rw [this]
    rfl
  have ok1 : ∀ x, isNm x = true → PyData.strOk x = true := fun x hx => by
    have := nm_flat hx
    simp only [flatB, Bool.and_eq_true] at this
    exact this.1
  have s1 : SeqAt.shaped (.list (l.map .str)) = true := by
    have h : PyData.canLayAll0 (l.map .str) = true ∧ PyData.depthAll (l.map PyData.str) ≤ 1 := by
      clear t1
      induction l with
      | nil => exact ⟨by simp [PyData.canLayAll0], by simp [PyData.depthAll]⟩
      | cons x l ih =>
        have g := ih fun u hu => hl u (List.mem_cons_of_mem _ hu)
        have := ok1 x (hl x List.mem_cons_self)
        refine ⟨by simp [PyData.canLayAll0, PyData.canLay0, this, g.1], ?_⟩
        simp only [List.map_cons, PyData.depthAll, PyData.depth]
        omega
    unfold SeqAt.shaped
    rw [Bool.and_eq_true]
    exact ⟨by simpa [PyData.canLay0] using h.1, decide_eq_true (by simp only [PyData.depth]; omega)⟩
  have s2 : SeqAt.shaped (.str s) = true := by
    unfold SeqAt.shaped
    rw [Bool.and_eq_true]
    exact ⟨by simpa [PyData.canLay0] using ok1 s hs, decide_eq_true (by simp [PyData.depth])⟩
  show Out.some' ((inW h (.str s) (.lst (l.map W.str))).map fun b => W.bl (!b)) h = _
  have : inW h (.str s) (.lst (l.map W.str)) = some (l.any fun y => strEq y s) := by
    unfold inW
    simp only [dicOf]
    rw [t1, show toD 65 h (.str s) = some (.str s) from rfl]
    simp only
    rw [if_pos s1, if_pos s2, List.any_map]
    congr 2
    funext u
    simp only [Function.comp, PyData.eqv, strEq_eq]
  rw [this]
  rfl
end Lw

namespace Ev
open PySem
section
variable (P : Pg) (C : Orc) (e : Env) (h : Hep)
def sSbs (ts : List (Ex × Ex)) (e : Env) (x : W) (h : Hep) : OutS := match x with
  | .tup ws => if ws.length = ts.length then setAll P C ts ws e h else .bad
  | _ => .bad
def sSt (ts : List (Ex × Ex)) (ws : List W) (e : Env) (w x y : W) (h : Hep) : OutS := match setItem x y w h with
  | some h3 => setAll P C ts ws e h3
  | none => .bad
def sSt1 (t : Ex) (ts : List (Ex × Ex)) (ws : List W) (e : Env) (w x : W) (h : Hep) : OutS := (ev P C t e h).stm e (sSt P C ts ws e w x)
@[simp] theorem evS_sbs (ts : List (Ex × Ex)) (a : Ex) : evS P C (.sbs ts a) e h = (ev P C a e h).stm e (sSbs P C ts e) := nr rfl
@[simp] theorem sSbs_ap (ts : List (Ex × Ex)) (ws : List W) : sSbs P C ts e (.tup ws) h = if ws.length = ts.length then setAll P C ts ws e h else .bad := nr rfl
@[simp] theorem setAll_nil : setAll P C [] [] e h = .ok .nx e h := nr rfl
@[simp] theorem setAll_cons (a i : Ex) (ts : List (Ex × Ex)) (w : W) (ws : List W) : setAll P C ((a, i) :: ts) (w :: ws) e h = (ev P C a e h).stm e (sSt1 P C i ts ws e w) := nr rfl
@[simp] theorem sSt1_ap (t : Ex) (ts : List (Ex × Ex)) (ws : List W) (w x : W) : sSt1 P C t ts ws e w x h = (ev P C t e h).stm e (sSt P C ts ws e w x) := nr rfl
theorem sSt_dic {h : Hep} {a : Nat} {kvs : List (W × W)} (q : h.get a = some (.dic false kvs)) (hl : kvs.length < lim) (ts : List (Ex × Ex)) (ws : List W) (k : Str) (w : W) : sSt P C ts ws e w (.ref a) (.str k) h = setAll P C ts ws e (h.set a (.dic false (dput kvs (.str k) w))) := by
  unfold sSt setItem
  simp only
  rw [q]
  simp only [hl, if_true]
end
theorem sub_dic {h : Hep} {a : Nat} {kvs : List (W × W)} (q : h.get a = some (.dic false kvs)) (hl : kvs.length < lim) (e : Env) (k : Str) (w : W) : sSub3 e w (.ref a) (.str k) h = .ok .nx e (h.set a (.dic false (dput kvs (.str k) w))) := by
  unfold sSub3 setItem
  simp only
  rw [q]
  simp only [hl, if_true]
theorem ix_dic {h : Hep} {a : Nat} {lk : Bool} {kvs : List (W × W)} (q : h.get a = some (.dic lk kvs)) (k : Str) : index (.ref a) (.str k) h = .some' (dget kvs (.str k)) h := by
  show datW (.ref a) (.str k) h = _
  unfold datW dicOf
  simp only
  rw [q]
@[simp] theorem ix_dct (kvs : List (W × W)) (k : Str) (h : Hep) : index (.dct kvs) (.str k) h = .some' (dget kvs (.str k)) h := nr rfl
theorem turns_filK {α : Type} {ks : List α} {φ : α → W} {p : α → Bool} {f : List W → W → Hep → Out (List W)} {h : Hep} (hf : ∀ acc k, k ∈ ks → acc.length < ks.length → f acc (φ k) h = .ok (if p k then acc ++ [φ k] else acc) h) : turns (.fix (ks.map φ)) f (ks.map φ).length 0 [] h = .ok ((ks.filter p).map φ) h := by
  have key : ∀ (suf pre : List α), ks = pre ++ suf → turns (.fix (ks.map φ)) f suf.length pre.length ((pre.filter p).map φ) h = .ok ((ks.filter p).map φ) h := by
    intro suf
    induction suf with
    | nil =>
      intro pre e
      rw [List.append_nil] at e
      rw [e]
      rfl
    | cons w suf ih =>
      intro pre e
      have at_ : (Src.fix (ks.map φ)).at pre.length h = some (φ w) := by
        show nth (ks.map φ) pre.length = some (φ w)
        rw [nth_eq, e, List.getElem?_map, List.getElem?_append_right (Nat.le_refl _), Nat.sub_self]
        rfl
      have := List.length_filter_le p pre
      rw [List.length_cons, turns_s, at_, turnGo_s, hf _ w (by rw [e]; simp) (by rw [e]; simp; omega), bind_ok]
      have := ih (pre ++ [w]) (by rw [e]; simp)
      rw [List.length_append, List.filter_append, List.map_append] at this
      by_cases z : p w = true
      · rw [if_pos z]
        rw [List.filter_cons_of_pos z] at this
        exact this
      · rw [if_neg z]
        rw [List.filter_cons_of_neg z, List.filter_nil, List.map_nil, List.append_nil] at this
        exact this
  rw [List.length_map]
  exact key ks [] rfl
end Ev
namespace Lw
open PySem Ev
def D4 (a b c d : W) : List (W × W) := [(.str "size", a), (.str "cell", b), (.str "call", c), (.str "tick", d)]
def D5 (a b c d e : W) : List (W × W) := [(.str "size", a), (.str "cell", b), (.str "call", c), (.str "tick", d), (.str "depth", e)]
section
variable (a b c d e x : W)
theorem g41 : dget (D4 a b c d) (.str "size") = some a := by kernel_rfl
theorem g42 : dget (D4 a b c d) (.str "cell") = some b := by kernel_rfl
theorem g43 : dget (D4 a b c d) (.str "call") = some c := by kernel_rfl
theorem g44 : dget (D4 a b c d) (.str "tick") = some d := by kernel_rfl
theorem p41 : dput (D4 a b c d) (.str "size") x = D4 x b c d := by kernel_rfl
theorem p42 : dput (D4 a b c d) (.str "cell") x = D4 a x c d := by kernel_rfl
theorem p43 : dput (D4 a b c d) (.str "call") x = D4 a b x d := by kernel_rfl
theorem p44 : dput (D4 a b c d) (.str "tick") x = D4 a b c x := by kernel_rfl
theorem p45 : dput (D4 a b c d) (.str "depth") x = D5 a b c d x := by kernel_rfl
theorem g51 : dget (D5 a b c d e) (.str "size") = some a := by kernel_rfl
theorem g52 : dget (D5 a b c d e) (.str "cell") = some b := by kernel_rfl
theorem g53 : dget (D5 a b c d e) (.str "call") = some c := by kernel_rfl
theorem g54 : dget (D5 a b c d e) (.str "tick") = some d := by kernel_rfl
theorem g55 : dget (D5 a b c d e) (.str "depth") = some e := by kernel_rfl
end
def wStrs (l : List Str) : W := .lst (l.map W.str)
/-- what the law counts of a term -/
def cnt (t : Tm) : W := .dct (D5 (.int (t.size : Nat)) (wStrs (lawNm true t)) (wStrs (lawNm false t)) (.bl (t.subs.any isTk)) (.int (t.dep : Nat)))
abbrev H2 (h : Hep) (D : List (W × W)) (L : List W) : Hep := (h.push (.dic false D)).push (.lst L)
theorem h2_dic (h : Hep) (D : List (W × W)) (L : List W) : (H2 h D L).get h.n = some (.dic false D) := push_prev _ _ _
theorem h2_set (h : Hep) (D D' : List (W × W)) (L : List W) : (H2 h D L).set h.n (.dic false D') = H2 h D' L := set_prev _ _ _ _
theorem h2_lst (h : Hep) (D : List (W × W)) (L : List W) : listOf (H2 h D L) (.ref (h.n + 1)) = some L := by
  have := push_last (h.push (.dic false D)) (.lst L)
  rw [Hep.n_push] at this
  exact list_ref this
theorem d4_len (a b c d : W) : (D4 a b c d).length < lim := by show 4 < 16777216; decide
end Lw

namespace Lw
open PySem Ev
def mxs (l : List Tm) : Nat := l.foldl (fun m k => max m k.dep) 0
def nmsL (k : Bool) (t : Tm) (l : List Tm) : List Str := l.foldl (fun acc u => un acc (lawNm k u)) (nmK k t).toList
def tks (t : Tm) (l : List Tm) : Bool := isTk t || l.any fun u => u.subs.any isTk
theorem mxs_kids (t : Tm) : t.dep = 1 + mxs t.kids := by cases t <;> simp [Tm.dep, Tm.kids, mxs] <;> omega
theorem tks_kids (t : Tm) : t.subs.any isTk = tks t t.kids := by
  rw [subs_kids, List.any_cons, tks, List.any_flatMap]
theorem nmsL_ok {a : Nat} (k : Bool) {t : Tm} (ht : Nmd a t) : ∀ (l : List Tm), (∀ u ∈ l, Nmd a u) → ∀ s ∈ nmsL k t l, isNm s = true := by
  have key : ∀ (l : List Tm) (acc : List Str), (∀ u ∈ l, Nmd a u) → (∀ s ∈ acc, isNm s = true) → ∀ s ∈ l.foldl (fun acc u => un acc (lawNm k u)) acc, isNm s = true := by
    intro l
    induction l with
    | nil => intro acc _ h; exact h
    | cons u l ih =>
      intro acc hl h
      refine ih _ (fun v hv => hl v (List.mem_cons_of_mem _ hv)) (fun s hs => ?_)
      rcases un_mem.mp hs with hs | hs
      · exact h s hs
      · exact lawNm_strs k (hl u List.mem_cons_self) s hs
  intro l hl
  refine key l _ hl (fun s hs => ?_)
  have : s ∈ lawNm k t ∨ True := .inr trivial
  cases k <;> cases t <;> simp [nmK, nmC, nmF] at hs
  · subst hs; exact ht
  · subst hs; exact ht.1
  · subst hs; exact ht.1
  · subst hs; exact ht
theorem nmsL_len (k : Bool) (t : Tm) : ∀ (l : List Tm), (nmsL k t l).length ≤ 1 + szs l := by
  have key : ∀ (l : List Tm) (acc : List Str), (l.foldl (fun acc u => un acc (lawNm k u)) acc).length ≤ acc.length + szs l := by
    intro l
    induction l with
    | nil => intro acc; simp [szs]
    | cons u l ih =>
      intro acc
      have h1 := ih (un acc (lawNm k u))
      have h2 := un_len acc (lawNm k u)
      have h3 := lawNm_len k u
      simp only [List.foldl_cons, szs, List.map_cons, List.sum_cons] at *
      omega
  intro l
  have := key l (nmK k t).toList
  have h1 : (nmK k t).toList.length ≤ 1 := by cases nmK k t <;> simp
  unfold nmsL
  omega
/-- the dict behind some parts -/
def dAt (t : Tm) (l : List Tm) : List (W × W) := D4 (.int (1 + szs l : Nat)) (wStrs (nmsL true t l)) (wStrs (nmsL false t l)) (.bl (tks t l))
theorem wStrs_blw (n : Nat) (l : List Str) : (wStrs l).blw n = true := by
  unfold wStrs
  simp only [W.blw]
  rw [blws_all, List.all_map, List.all_eq_true]
  intro x _
  rfl
theorem dAt_blw (n : Nat) (t : Tm) (l : List Tm) : W.blwKs n (dAt t l) = true := by
  unfold dAt D4
  simp [W.blwKs, W.blwK, W.blw, wStrs_blw]
abbrev bodyC : List Sm := (match B_law_counts with
  | _ :: _ :: _ :: _ :: .for _ _ _ b :: _ => b
  | _ => [])
theorem add_strs {x y : List Str} (hl : x.length + y.length ≤ 1000000) (h : Hep) : binop .Add (wStrs x) (.lst (y.map W.str)) h = .ok (wStrs (x ++ y)) h := by
  show newL false h (x.map W.str ++ y.map W.str) = _
  unfold newL wStrs
  rw [if_pos (by simp; unfold lim; omega), List.map_append]
theorem counts_kind (k : Bool) {a n : Nat} {t u : Tm} {pre : List Tm} {h : Hep} {D : List (W × W)} {L : List W} {o : List Str} (x0 x1 x2 x4 x6 x7 : Option W) (hu : Nmd a u) (ho : ∀ s ∈ o, isNm s = true) (hl : o.length + u.size ≤ 1000000)
    (hg : dget D (.str (kS k)) = some (wStrs o)) (hD : D.length < lim) :
    evSs Pr (orcN Pr n) [.sub (.var 3) (.var 6) (.bin .Add (.idx (.var 3) (.var 6)) (.lco false (.var 7) (.nm 7) .seq [.idx (.var 5) (.var 6)] [.cmp .NotIn (.var 7) (.idx (.var 3) (.var 6))] [7]))] [x0, x1, x2, some (.ref h.n), x4, some (cnt u), some (.str (kS k)), x7] (H2 h D L) = .ok .nx [x0, x1, x2, some (.ref h.n), x4, some (cnt u), some (.str (kS k)), x7] (H2 h (dput D (.str (kS k)) (wStrs (un o (lawNm k u)))) L) := by
  have c1 : dget (D5 (.int (u.size : Nat)) (wStrs (lawNm true u)) (wStrs (lawNm false u)) (.bl (u.subs.any isTk)) (.int (u.dep : Nat))) (.str (kS k)) = some (wStrs (lawNm k u)) := by
    cases k
    · exact g53 _ _ _ _ _
    · exact g52 _ _ _ _ _
  have un_ := lawNm_strs k hu
  have ll := lawNm_len k u
  have ni := fun s (hs : s ∈ lawNm k u) => nin_strs ho (un_ s hs) (H2 h D L)
  have t1 := turns_filK (ks := lawNm k u) (φ := W.str) (p := fun x => !o.any fun y => strEq y x) (h := H2 h D L) (f := lcoF Pr (orcN Pr n) (.var 7) (.nm 7) [.cmp .NotIn (.var 7) (.idx (.var 3) (.var 6))] [7] [x0, x1, x2, some (.ref h.n), x4, some (cnt u), some (.str (kS k)), x7]) (fun acc s hs hlt => by
    have hlt' : acc.length < lim := by unfold lim; omega
    have q := ni s hs
    have ix3 : index (.ref h.n) (.str (kS k)) (H2 h D L) = .ok (.lst (o.map W.str)) (H2 h D L) := by
      rw [ix_dic (h2_dic h D L), hg, som_some]
      rfl
    generalize (o.any fun y => strEq y s) = bb at q ⊢
    cases bb <;> simp [ix3, q, grow, hlt'])
  have fl : ((lawNm k u).filter fun x => !o.any fun y => strEq y x).length ≤ (lawNm k u).length := List.length_filter_le _ _
  have nl : (((lawNm k u).filter fun x => !o.any fun y => strEq y x).map W.str).length ≤ 16777216 := by rw [List.length_map]; omega
  have ad := add_strs (x := o) (y := (lawNm k u).filter fun x => !o.any fun y => strEq y x) (by omega) (H2 h D L)
  have un' : o ++ ((lawNm k u).filter fun x => !o.any fun y => strEq y x) = un o (lawNm k u) := rfl
  rw [un'] at ad
  have wl : walk .seq [wStrs (lawNm k u)] (H2 h D L) = some (.fix ((lawNm k u).map W.str)) := rfl
  have ix5 : index (cnt u) (.str (kS k)) (H2 h D L) = .ok (wStrs (lawNm k u)) (H2 h D L) := by
    unfold cnt
    rw [ix_dct, c1, som_some]
  have ix3 : index (.ref h.n) (.str (kS k)) (H2 h D L) = .ok (wStrs o) (H2 h D L) := by
    rw [ix_dic (h2_dic h D L), hg, som_some]
  simp only [evSs_cons, evS_sub, ev_bin, ev_idx, ev_var, nth_z, nth_s, Option.join_some, som_some, bind_ok, kIdx_ap, ix3, kBin_ap, ev_lco, evs_cons, ix5, kCons_ap, evs_nil, kCons2_ap, kLco_ap, wl, kLcoGo_ap, len_fix, t1, calm_ok, kNewL_ap, newL, lim, nl, if_true, ad, stm_ok, sSub_ap, sSub2_ap, sub_dic (h2_dic h D L) hD, h2_set, seq_nx, evSs_nil]
end Lw

namespace Lw
open PySem Ev
theorem nT2 (x y : W) (h : Hep) : newT h [x, y] = .ok (.tup [x, y]) h := nr rfl
theorem nL2 (x y : W) (h : Hep) : newL false h [x, y] = .ok (.lst [x, y]) h := nr rfl
theorem sSbs2 (P : Pg) (C : Orc) (t1 t2 : Ex × Ex) (e : Ev.Env) (x y : W) (h : Hep) : sSbs P C [t1, t2] e (.tup [x, y]) h = setAll P C [t1, t2] [x, y] e h := nr rfl
theorem szs_snoc (l : List Tm) (k : Tm) : szs (l ++ [k]) = szs l + k.size := by simp [szs]
theorem mxs_snoc (l : List Tm) (k : Tm) : mxs (l ++ [k]) = max (mxs l) k.dep := by simp [mxs]
theorem nmsL_snoc (b : Bool) (t : Tm) (l : List Tm) (k : Tm) : nmsL b t (l ++ [k]) = un (nmsL b t l) (lawNm b k) := by simp [nmsL]
theorem tks_snoc (t : Tm) (l : List Tm) (k : Tm) : tks t (l ++ [k]) = (tks t l || k.subs.any isTk) := by simp [tks, Bool.or_assoc]
theorem frz2 (h : Hep) (D : List (W × W)) (L : List W) : freeze (.ref h.n) (H2 h D L) = .ok (.dct D) ((h.push .ded).push (.lst L)) := by
  unfold freeze
  simp only
  rw [h2_dic]
  simp only
  rw [show (H2 h D L).set h.n .ded = (h.push .ded).push (.lst L) from set_prev _ _ _ _]
theorem law_counts {a : Nat} : ∀ (n : Nat) {t : Tm} (h : Hep), Wf h → Nmd a t → t.dep ≤ n → t.dep ≤ 31 → t.size ≤ 100000 → callN Pr (n + 1) F_law_counts [t.w] h = .ok (cnt t) h
  | 0, t, _, _, _, hd, _, _ => by have := dep_pos t; omega
  | n + 1, t, h, wf, ht, hd, h31, hz => by
    rw [c_law_counts]
    have q := fun g => law_inner ht n g
    simp only [F_law_inner] at q
    have it : ∀ xs g, bIsi Pr [.tup xs, .ty .tuple] g = .ok (.bl true) g := fun _ _ => rfl
    have ii : ∀ i g, bIsi Pr [.int i, .ty .tuple] g = .ok (.bl false) g := fun _ _ => rfl
    have z0 : ∀ x xs g, index (.tup (x :: xs)) (.int 0) g = .ok x g := fun x xs g => ix_tup (i := 0) g rfl
    have z1 : ∀ x y xs g, index (.tup (x :: y :: xs)) (.int 1) g = .ok y g := fun x y xs g => ix_tup (i := 1) g rfl
    have sub_ : ∀ k ∈ t.kids, k.size ≤ szs t.kids := fun k hk => le_sum _ _ (List.mem_map_of_mem hk)
    have szk := sz_kids t
    -- the first lines
    have hd1 : newD true h [.str "size", .int 1, .str "cell", .lst [], .str "call", .lst [], .str "tick", .bl false] = .ok (.ref h.n) (h.push (.dic false (D4 (.int 1) (.lst []) (.lst []) (.bl false)))) := by kernel_rfl
    have e1 : evSs Pr (orcN Pr (n + 1)) (B_law_counts.take 2) [some t.w, none, none, none, none, none, none, none] h = .ok .nx [some t.w, some (.int 0), none, some (.ref h.n), some (.ref (h.n + 1)), none, none, none] (H2 h (D4 (.int 1) (.lst []) (.lst []) (.bl false)) (t.kids.map Tm.w)) := by
      simp [newL, newT, lim, hd1, q]
    have i1 : ∀ g, cmpop .In (.str "arg") (.lst [.str "cell", .str "call"]) g = .ok (.bl false) g := fun g => by kernel_rfl
    have i2 : ∀ g, cmpop .In (.str "tick") (.lst [.str "cell", .str "call"]) g = .ok (.bl false) g := fun g => by kernel_rfl
    have i3 : ∀ g, cmpop .In (.str "if") (.lst [.str "cell", .str "call"]) g = .ok (.bl false) g := fun g => by kernel_rfl
    have i4 : ∀ (k : Pk) g, cmpop .In (.str k.s) (.lst [.str "cell", .str "call"]) g = .ok (.bl false) g := fun k g => by cases k <;> kernel_rfl
    have i5 : ∀ g, cmpop .In (.str "cell") (.lst [.str "cell", .str "call"]) g = .ok (.bl true) g := fun g => by kernel_rfl
    have i6 : ∀ g, cmpop .In (.str "call") (.lst [.str "cell", .str "call"]) g = .ok (.bl true) g := fun g => by kernel_rfl
    have teq : ∀ g, cmpop .Eq t.w (.tup [.str "tick"]) g = .ok (.bl (isTk t)) g := fun g => by
      show Out.some' ((eqW g t.w (.tup [.str "tick"])).map W.bl) g = _
      have e : eqW g t.w (.tup [.str "tick"]) = eqD g t.w (.tup [.str "tick"]) := by cases t <;> rfl
      have s1 := tm_shaped ht h31
      rw [e]
      unfold eqD
      rw [tm_toD g t 65 (by omega), show toD 65 g (.tup [.str "tick"]) = some (.tuple [.str "tick"]) from rfl]
      simp only
      rw [if_pos s1, if_pos (by decide +kernel), eqv_tick]
      rfl
    have dl := d4_len
    have e2 : evSs Pr (orcN Pr (n + 1)) ((B_law_counts.drop 2).take 2) [some t.w, some (.int 0), none, some (.ref h.n), some (.ref (h.n + 1)), none, none, none] (H2 h (D4 (.int 1) (.lst []) (.lst []) (.bl false)) (t.kids.map Tm.w)) = .ok .nx [some t.w, some (.int 0), none, some (.ref h.n), some (.ref (h.n + 1)), none, none, none] (H2 h (dAt t []) (t.kids.map Tm.w)) := by
      have tq : evS Pr (orcN Pr (n + 1)) (((B_law_counts.drop 3).headD .nev)) [some t.w, some (.int 0), none, some (.ref h.n), some (.ref (h.n + 1)), none, none, none] = fun g => (Out.ok (W.bl (isTk t)) g).stm [some t.w, some (.int 0), none, some (.ref h.n), some (.ref (h.n + 1)), none, none, none] (sSub Pr (orcN Pr (n + 1)) (.var 3) (.str "tick") [some t.w, some (.int 0), none, some (.ref h.n), some (.ref (h.n + 1)), none, none, none]) := by
        funext g
        have := teq g
        simp only [List.drop, List.headD, evS_sub, ev_cmp, ev_var, nth_z, Option.join_some, som_some, bind_ok, kCmp_ap, ev_tup, evs_cons, ev_str, kCons_ap, evs_nil, kCons2_ap, kTup_ap, newT, lim, List.length_cons, List.length_nil]
        simp [this]
      have sp : ∀ e g, evSs Pr (orcN Pr (n + 1)) ((B_law_counts.drop 2).take 2) e g = (evS Pr (orcN Pr (n + 1)) ((B_law_counts.drop 2).headD .nev) e g).seq fun e1 g1 => (evS Pr (orcN Pr (n + 1)) ((B_law_counts.drop 3).headD .nev) e1 g1).seq fun e2 g2 => .ok .nx e2 g2 := fun _ _ => rfl
      rw [sp]
      have fin : ∀ D, D = D4 (.int 1) (wStrs (nmK true t).toList) (wStrs (nmK false t).toList) (.bl false) → ((evS Pr (orcN Pr (n + 1)) ((B_law_counts.drop 3).headD .nev) [some t.w, some (.int 0), none, some (.ref h.n), some (.ref (h.n + 1)), none, none, none] (H2 h D (t.kids.map Tm.w))).seq fun e2 g2 => .ok .nx e2 g2) = .ok .nx [some t.w, some (.int 0), none, some (.ref h.n), some (.ref (h.n + 1)), none, none, none] (H2 h (dAt t []) (t.kids.map Tm.w)) := by
        intro D hD
        subst hD
        rw [tq]
        simp only [stm_ok, sSub_ap, ev_var, nth_s, nth_z, Option.join_some, som_some, sSub2_ap, ev_str, sub_dic (h2_dic h _ _) (dl _ _ _ _), h2_set, seq_nx, p44]
        simp [dAt, nmsL, tks, szs]
      have st : ∃ D, D = D4 (.int 1) (wStrs (nmK true t).toList) (wStrs (nmK false t).toList) (.bl false) ∧ evS Pr (orcN Pr (n + 1)) ((B_law_counts.drop 2).headD .nev) [some t.w, some (.int 0), none, some (.ref h.n), some (.ref (h.n + 1)), none, none, none] (H2 h (D4 (.int 1) (.lst []) (.lst []) (.bl false)) (t.kids.map Tm.w)) = .ok .nx [some t.w, some (.int 0), none, some (.ref h.n), some (.ref (h.n + 1)), none, none, none] (H2 h D (t.kids.map Tm.w)) := by
        refine ⟨_, rfl, ?_⟩
        have sd := fun k w => sub_dic (e := [some t.w, some (.int 0), none, some (.ref h.n), some (.ref (h.n + 1)), none, none, none]) (h2_dic h (D4 (.int 1) (.lst []) (.lst []) (.bl false)) (t.kids.map Tm.w)) (dl _ _ _ _) k w
        cases t with
        | val i => simp [Tm.w, bfn, ii, nmK, nmC, nmF, wStrs]
        | arg i => simp [Tm.w, bfn, it, z0, i1, newL, lim, nmK, nmC, nmF, wStrs]
        | tick => simp [Tm.w, bfn, it, z0, i2, newL, lim, nmK, nmC, nmF, wStrs]
        | two k x y => simp [Tm.w, bfn, it, z0, i4, newL, lim, nmK, nmC, nmF, wStrs]
        | ite x y z => simp [Tm.w, bfn, it, z0, i3, newL, lim, nmK, nmC, nmF, wStrs]
        | cell s => simp only [Tm.w] at sd; simp [Tm.w, bfn, it, z0, z1, i5, newL, lim, sd, h2_set, p42, nmK, nmC, nmF, wStrs, -set_prev]
        | cal0 s => simp only [Tm.w] at sd; simp [Tm.w, bfn, it, z0, z1, i6, newL, lim, sd, h2_set, p43, nmK, nmC, nmF, wStrs, -set_prev]
        | cal1 s x => simp only [Tm.w] at sd; simp [Tm.w, bfn, it, z0, z1, i6, newL, lim, sd, h2_set, p43, nmK, nmC, nmF, wStrs, -set_prev]
        | cal2 s x y => simp only [Tm.w] at sd; simp [Tm.w, bfn, it, z0, z1, i6, newL, lim, sd, h2_set, p43, nmK, nmC, nmF, wStrs, -set_prev]
      obtain ⟨D, hD, e⟩ := st
      rw [e, seq_nx]
      exact fin D hD
    have key : ∀ (ks pre : List Tm) (x2 x5 x6 x7 : Option W), t.kids = pre ++ ks → ∃ x2' x5' x6' x7', turnsS (.lis (h.n + 1) t.kids.length) (forF Pr (orcN Pr (n + 1)) (.nm 2) bodyC) ks.length pre.length [some t.w, some (.int (mxs pre : Nat)), x2, some (.ref h.n), some (.ref (h.n + 1)), x5, x6, x7] (H2 h (dAt t pre) (t.kids.map Tm.w)) = .ok .nx [some t.w, some (.int (mxs t.kids : Nat)), x2', some (.ref h.n), some (.ref (h.n + 1)), x5', x6', x7'] (H2 h (dAt t t.kids) (t.kids.map Tm.w)) := by
      intro ks
      induction ks with
      | nil =>
        intro pre x2 x5 x6 x7 e
        rw [List.append_nil] at e
        rw [← e]
        refine ⟨x2, x5, x6, x7, ?_⟩
        show turnsS (.lis (h.n + 1) t.kids.length) _ 0 _ _ _ = _
        have : (Src.lis (h.n + 1) t.kids.length).ends (H2 h (dAt t t.kids) (t.kids.map Tm.w)) = true := by
          unfold Src.ends
          simp only
          rw [h2_lst]
          simp
        unfold turnsS
        rw [if_pos this]
      | cons k ks ih =>
        intro pre x2 x5 x6 x7 e
        have hk : k ∈ t.kids := by rw [e]; simp
        have hkok := kids_ok ht hk
        have hpre : ∀ u ∈ pre, Nmd a u := fun u hu => kids_ok ht (by rw [e]; simp [hu])
        have at_ : (Src.lis (h.n + 1) t.kids.length).at pre.length (H2 h (dAt t pre) (t.kids.map Tm.w)) = some k.w := by
          unfold Src.at
          simp only
          rw [h2_lst]
          simp only [Option.bind_some, List.length_map, if_true]
          rw [nth_eq, e, List.getElem?_map, List.getElem?_append_right (Nat.le_refl _), Nat.sub_self]
          rfl
        have wf' : Wf (H2 h (dAt t pre) (t.kids.map Tm.w)) := (wf.push (by simp only [Ob.blw]; exact dAt_blw _ _ _)).push (by simp only [Ob.blw]; exact tms_blw (fun u hu => kids_ok ht hu) _)
        have hkd := kids_lt hk
        have hks := sub_ k hk
        have ic := law_counts n (H2 h (dAt t pre) (t.kids.map Tm.w)) wf' hkok (by omega) (by omega) (by omega)
        simp only [F_law_counts] at ic
        obtain ⟨y2, y5, y6, y7, ih⟩ := ih (pre ++ [k]) (some k.w) (some (cnt k)) (some (.str "call")) x7 (by rw [e]; simp)
        refine ⟨y2, y5, y6, y7, ?_⟩
        have szp : szs pre + k.size ≤ szs t.kids := by
          rw [e]
          simp only [szs, List.map_append, List.sum_append, List.map_cons, List.sum_cons]
          omega
        have n1 := nmsL_len true t pre
        have n2 := nmsL_len false t pre
        rw [List.length_append, List.length_singleton] at ih
        rw [List.length_cons, turnsS_s, at_, turnGoS_s, forF_nm, ← ih]
        -- one turn
        have ck1 := counts_kind true (n := n + 1) (t := t) (u := k) (pre := pre) (h := h) (D := D4 (.int (1 + szs pre + k.size : Nat)) (wStrs (nmsL true t pre)) (wStrs (nmsL false t pre)) (.bl (tks t pre || k.subs.any isTk))) (L := t.kids.map Tm.w) (o := nmsL true t pre) (some t.w) (some (.int (max (mxs pre) k.dep : Nat))) (some k.w) (some (.ref (h.n + 1))) x6 x7 hkok (nmsL_ok true ht pre hpre) (by omega) (g42 _ _ _ _) (dl _ _ _ _)
        have ck2 := counts_kind false (n := n + 1) (t := t) (u := k) (pre := pre) (h := h) (D := D4 (.int (1 + szs pre + k.size : Nat)) (wStrs (un (nmsL true t pre) (lawNm true k))) (wStrs (nmsL false t pre)) (.bl (tks t pre || k.subs.any isTk))) (L := t.kids.map Tm.w) (o := nmsL false t pre) (some t.w) (some (.int (max (mxs pre) k.dep : Nat))) (some k.w) (some (.ref (h.n + 1))) (some (.str "cell")) x7 hkok (nmsL_ok false ht pre hpre) (by omega) (g43 _ _ _ _) (dl _ _ _ _)
        simp only [kS, p42, p43] at ck1 ck2
        have em : dAt t (pre ++ [k]) = D4 (.int (1 + szs pre + k.size : Nat)) (wStrs (un (nmsL true t pre) (lawNm true k))) (wStrs (un (nmsL false t pre) (lawNm false k))) (.bl (tks t pre || k.subs.any isTk)) := by
          unfold dAt
          rw [szs_snoc, nmsL_snoc, nmsL_snoc, tks_snoc, Nat.add_assoc]
        rw [em, mxs_snoc]
        have x3s : index (.ref h.n) (.str "size") (H2 h (dAt t pre) (t.kids.map Tm.w)) = .ok (.int (1 + szs pre : Nat)) (H2 h (dAt t pre) (t.kids.map Tm.w)) := by
          rw [ix_dic (h2_dic h _ _)]; unfold dAt; rw [g41]; rfl
        have x3t : index (.ref h.n) (.str "tick") (H2 h (dAt t pre) (t.kids.map Tm.w)) = .ok (.bl (tks t pre)) (H2 h (dAt t pre) (t.kids.map Tm.w)) := by
          rw [ix_dic (h2_dic h _ _)]; unfold dAt; rw [g44]; rfl
        have x5s : ∀ g, index (cnt k) (.str "size") g = .ok (.int (k.size : Nat)) g := fun g => by unfold cnt; rw [ix_dct, g51]; rfl
        have x5t : ∀ g, index (cnt k) (.str "tick") g = .ok (.bl (k.subs.any isTk)) g := fun g => by unfold cnt; rw [ix_dct, g54]; rfl
        have x5d : ∀ g, index (cnt k) (.str "depth") g = .ok (.int (k.dep : Nat)) g := fun g => by unfold cnt; rw [ix_dct, g55]; rfl
        have bm : ∀ (x y : Nat) g, bMax2 [.int (x : Nat), .int (y : Nat)] g = .ok (.int (max x y : Nat)) g := fun x y g => by
          show Out.ok (W.int (if ((y : Nat) : Int) > ((x : Nat) : Int) then ((y : Nat) : Int) else ((x : Nat) : Int))) g = _
          congr 2
          split <;> omega
        have c1 : ((1 + szs pre : Nat) : Int) + ((k.size : Nat) : Int) = ((1 + szs pre + k.size : Nat) : Int) := by omega
        have s1 := fun ts ws w => sSt_dic Pr (orcN Pr (n + 1)) [some t.w, some (.int (mxs pre : Nat)), some k.w, some (.ref h.n), some (.ref (h.n + 1)), some (cnt k), x6, x7] (h2_dic h (dAt t pre) (t.kids.map Tm.w)) (by unfold dAt; exact dl _ _ _ _) ts ws "size" w
        have s2 := fun ts ws w => sSt_dic Pr (orcN Pr (n + 1)) [some t.w, some (.int (mxs pre : Nat)), some k.w, some (.ref h.n), some (.ref (h.n + 1)), some (cnt k), x6, x7] (h2_dic h (D4 (.int (1 + szs pre + k.size : Nat)) (wStrs (nmsL true t pre)) (wStrs (nmsL false t pre)) (.bl (tks t pre))) (t.kids.map Tm.w)) (dl _ _ _ _) ts ws "tick" w
        have d1 : dput (dAt t pre) (.str "size") (.int (1 + szs pre + k.size : Nat)) = D4 (.int (1 + szs pre + k.size : Nat)) (wStrs (nmsL true t pre)) (wStrs (nmsL false t pre)) (.bl (tks t pre)) := p41 _ _ _ _ _
        have b1 : evS Pr (orcN Pr (n + 1)) (.asg (.nm 5) (.cal F_law_counts [.var 2])) [some t.w, some (.int (mxs pre : Nat)), some k.w, some (.ref h.n), some (.ref (h.n + 1)), x5, x6, x7] (H2 h (dAt t pre) (t.kids.map Tm.w)) = .ok .nx [some t.w, some (.int (mxs pre : Nat)), some k.w, some (.ref h.n), some (.ref (h.n + 1)), some (cnt k), x6, x7] (H2 h (dAt t pre) (t.kids.map Tm.w)) := by
          simp [ic]
        have orv : ∀ (x : Bool) g, pickOr Pr (orcN Pr (n + 1)) (.idx (.var 5) (.str "tick")) [some t.w, some (.int (mxs pre : Nat)), some k.w, some (.ref h.n), some (.ref (h.n + 1)), some (cnt k), x6, x7] (.bl x) g (some x) = .ok (.bl (x || k.subs.any isTk)) g := fun x g => by
          cases x
          · simp only [pickOr_f, ev_idx, ev_var, nth_s, nth_z, Option.join_some, som_some, bind_ok, kIdx_ap, ev_str, x5t, Bool.false_or]
          · rfl
        have b2 : evS Pr (orcN Pr (n + 1)) (.sbs [(.var 3, .str "size"), (.var 3, .str "tick")] (.tup [.bin .Add (.idx (.var 3) (.str "size")) (.idx (.var 5) (.str "size")), .or (.idx (.var 3) (.str "tick")) (.idx (.var 5) (.str "tick"))])) [some t.w, some (.int (mxs pre : Nat)), some k.w, some (.ref h.n), some (.ref (h.n + 1)), some (cnt k), x6, x7] (H2 h (dAt t pre) (t.kids.map Tm.w)) = .ok .nx [some t.w, some (.int (mxs pre : Nat)), some k.w, some (.ref h.n), some (.ref (h.n + 1)), some (cnt k), x6, x7] (H2 h (D4 (.int (1 + szs pre + k.size : Nat)) (wStrs (nmsL true t pre)) (wStrs (nmsL false t pre)) (.bl (tks t pre || k.subs.any isTk))) (t.kids.map Tm.w)) := by
          simp only [evS_sbs, ev_tup, evs_cons, ev_bin, ev_idx, ev_var, nth_s, nth_z, Option.join_some, som_some, bind_ok, kIdx_ap, ev_str, x3s, kBin_ap, x5s, bin_add, c1, kCons_ap, ev_or, x3t, kOr_ap, truth_bl, orv, evs_nil, kCons2_ap, kTup_ap, nT2, stm_ok]
          rw [sSbs2]
          simp only [setAll_cons, ev_var, nth_s, nth_z, Option.join_some, som_some, stm_ok, sSt1_ap, ev_str, s1, h2_set, d1, s2, p44, setAll_nil]
        have b3 : evS Pr (orcN Pr (n + 1)) (.asg (.nm 1) (.bfn .max2 [.bfn .int [.var 1], .bfn .int [.idx (.var 5) (.str "depth")]])) [some t.w, some (.int (mxs pre : Nat)), some k.w, some (.ref h.n), some (.ref (h.n + 1)), some (cnt k), x6, x7] (H2 h (D4 (.int (1 + szs pre + k.size : Nat)) (wStrs (nmsL true t pre)) (wStrs (nmsL false t pre)) (.bl (tks t pre || k.subs.any isTk))) (t.kids.map Tm.w)) = .ok .nx [some t.w, some (.int (max (mxs pre) k.dep : Nat)), some k.w, some (.ref h.n), some (.ref (h.n + 1)), some (cnt k), x6, x7] (H2 h (D4 (.int (1 + szs pre + k.size : Nat)) (wStrs (nmsL true t pre)) (wStrs (nmsL false t pre)) (.bl (tks t pre || k.subs.any isTk))) (t.kids.map Tm.w)) := by
          simp only [evS_asg, ev_bfn, evs_cons, ev_var, nth_s, nth_z, Option.join_some, som_some, bind_ok, kCons_ap, evs_nil, kCons2_ap, bfn, int_int', ev_idx, kIdx_ap, ev_str, x5d, bm, stm_ok, sPut_nm, List.set]
        have b4 : evS Pr (orcN Pr (n + 1)) (.for (.nm 6) .seq [.lst false [.str "cell", .str "call"]] [.sub (.var 3) (.var 6) (.bin .Add (.idx (.var 3) (.var 6)) (.lco false (.var 7) (.nm 7) .seq [.idx (.var 5) (.var 6)] [.cmp .NotIn (.var 7) (.idx (.var 3) (.var 6))] [7]))]) [some t.w, some (.int (max (mxs pre) k.dep : Nat)), some k.w, some (.ref h.n), some (.ref (h.n + 1)), some (cnt k), x6, x7] (H2 h (D4 (.int (1 + szs pre + k.size : Nat)) (wStrs (nmsL true t pre)) (wStrs (nmsL false t pre)) (.bl (tks t pre || k.subs.any isTk))) (t.kids.map Tm.w)) = .ok .nx [some t.w, some (.int (max (mxs pre) k.dep : Nat)), some k.w, some (.ref h.n), some (.ref (h.n + 1)), some (cnt k), some (.str "call"), x7] (H2 h (D4 (.int (1 + szs pre + k.size : Nat)) (wStrs (un (nmsL true t pre) (lawNm true k))) (wStrs (un (nmsL false t pre) (lawNm false k))) (.bl (tks t pre || k.subs.any isTk))) (t.kids.map Tm.w)) := by
          simp only [evS_for, evs_cons, ev_lst, ev_str, bind_ok, kCons_ap, evs_nil, kCons2_ap, kLst_ap, nL2]
          simp only [bind_ok, kCons_ap, evs_nil, kCons2_ap, stm_ok, sFor_ap, walk_lst, sForGo_ap, len_fix, List.length_cons, List.length_nil, turnsS_s, at_fix, nth_s, nth_z, turnGoS_s, forF_nm, List.set, ck1, turn_nx, ck2, turnsS_zf]
        have bd : evSs Pr (orcN Pr (n + 1)) bodyC [some t.w, some (.int (mxs pre : Nat)), some k.w, some (.ref h.n), some (.ref (h.n + 1)), x5, x6, x7] (H2 h (dAt t pre) (t.kids.map Tm.w)) = .ok .nx [some t.w, some (.int (max (mxs pre) k.dep : Nat)), some k.w, some (.ref h.n), some (.ref (h.n + 1)), some (cnt k), some (.str "call"), x7] (H2 h (D4 (.int (1 + szs pre + k.size : Nat)) (wStrs (un (nmsL true t pre) (lawNm true k))) (wStrs (un (nmsL false t pre) (lawNm false k))) (.bl (tks t pre || k.subs.any isTk))) (t.kids.map Tm.w)) := by
          show evSs Pr (orcN Pr (n + 1)) [.asg (.nm 5) (.cal F_law_counts [.var 2]), .sbs _ _, .asg (.nm 1) _, .for (.nm 6) .seq _ _] _ _ = _
          rw [evSs_cons, b1, seq_nx, evSs_cons, b2, seq_nx, evSs_cons, b3, seq_nx, evSs_cons, b4, seq_nx, evSs_nil]
        simp only [List.set]
        rw [bd, turn_nx]
    obtain ⟨y2, y5, y6, y7, k0⟩ := key t.kids [] none none none none rfl
    have wk : walk .seq [.ref (h.n + 1)] (H2 h (dAt t []) (t.kids.map Tm.w)) = some (.lis (h.n + 1) t.kids.length) := by
      unfold walk
      simp only
      rw [h2_lst]
      simp
    have e3 : evS Pr (orcN Pr (n + 1)) (.for (.nm 2) .seq [.var 4] bodyC) [some t.w, some (.int 0), none, some (.ref h.n), some (.ref (h.n + 1)), none, none, none] (H2 h (dAt t []) (t.kids.map Tm.w)) = .ok .nx [some t.w, some (.int (mxs t.kids : Nat)), y2, some (.ref h.n), some (.ref (h.n + 1)), y5, y6, y7] (H2 h (dAt t t.kids) (t.kids.map Tm.w)) := by
      rw [evS_for, evs_cons, ev_var]
      simp only [nth_s, nth_z, Option.join_some, som_some, bind_ok, kCons_ap, evs_nil, kCons2_ap, stm_ok, sFor_ap, wk, sForGo_ap, len_lis]
      exact k0
    have c2 : (1 : Int) + ((mxs t.kids : Nat) : Int) = ((t.dep : Nat) : Int) := by rw [mxs_kids t]; omega
    have fd : H2 h (D5 (.int (t.size : Nat)) (wStrs (lawNm true t)) (wStrs (lawNm false t)) (.bl (t.subs.any isTk)) (.int (t.dep : Nat))) (t.kids.map Tm.w) = H2 h (dput (dAt t t.kids) (.str "depth") (.int (t.dep : Nat))) (t.kids.map Tm.w) := by
      unfold dAt
      rw [p45, lawNm_kids true t, lawNm_kids false t, tks_kids, sz_kids t]
      rfl
    have e4 : evSs Pr (orcN Pr (n + 1)) (B_law_counts.drop 5) [some t.w, some (.int (mxs t.kids : Nat)), y2, some (.ref h.n), some (.ref (h.n + 1)), y5, y6, y7] (H2 h (dAt t t.kids) (t.kids.map Tm.w)) = .ok (.ret (cnt t)) [some t.w, some (.int (mxs t.kids : Nat)), y2, some (.ref h.n), some (.ref (h.n + 1)), y5, y6, y7] ((h.push .ded).push (.lst (t.kids.map Tm.w))) := by
      have sd := sub_dic (e := [some t.w, some (.int (mxs t.kids : Nat)), y2, some (.ref h.n), some (.ref (h.n + 1)), y5, y6, y7]) (h2_dic h (dAt t t.kids) (t.kids.map Tm.w)) (by unfold dAt; exact dl _ _ _ _) "depth" (.int (t.dep : Nat))
      simp only [List.drop, evSs_cons, evS_sub, ev_bin, ev_int, bind_ok, kBin_ap, ev_var, nth_s, nth_z, Option.join_some, som_some, bin_add, c2, stm_ok, sSub_ap, sSub2_ap, ev_str, sd, h2_set, seq_nx, evS_ret, ev_frz, ← fd, frz2, sRet_ap, seq_ret]
      rfl
    have all : evSs Pr (orcN Pr (n + 1)) B_law_counts [some t.w, none, none, none, none, none, none, none] h = .ok (.ret (cnt t)) [some t.w, some (.int (mxs t.kids : Nat)), y2, some (.ref h.n), some (.ref (h.n + 1)), y5, y6, y7] ((h.push .ded).push (.lst (t.kids.map Tm.w))) := by
      have sp : B_law_counts = B_law_counts.take 2 ++ ((B_law_counts.drop 2).take 2 ++ ([.for (.nm 2) .seq [.var 4] bodyC] ++ B_law_counts.drop 5)) := rfl
      rw [sp, evSs_app, e1, seq_nx, evSs_app, e2, seq_nx, evSs_app, evSs_cons, e3, seq_nx, evSs_nil, seq_nx, e4]
    rw [all]
    simp only [res_ret, fin_ok]
    rw [ends_app (h := h) (l := [.ded, .lst (t.kids.map Tm.w)]) (by simp [Hep.push]) wf]
    unfold cnt D5
    simp [W.blw, W.blwKs, W.blwK, wStrs_blw]
end Lw

namespace Ev
open PySem
theorem eqr_lnil {h : Hep} {a : Nat} {xs : List W} (q : h.get a = some (.lst xs)) (hx : ∀ x ∈ xs, Dt 62 x) : cmpop .Eq (.ref a) (.lst []) h = .ok (.bl xs.isEmpty) h := by
  rw [← eq_lnil (h := h) hx]
  show Out.some' ((eqW h (.ref a) (.lst [])).map W.bl) h = Out.some' ((eqW h (.lst xs) (.lst [])).map W.bl) h
  have e : eqW h (.ref a) (.lst []) = eqW h (.lst xs) (.lst []) := by
    have : toD 65 h (.ref a) = toD 65 h (.lst xs) := by
      show (match h.get a with
        | some (.lst xs) => (xs.mapM (toD 64 h)).map PyData.list
        | _ => none) = _
      rw [q]
      rfl
    have e1 : eqD h (.ref a) (.lst []) = eqD h (.lst xs) (.lst []) := by
      unfold eqD
      rw [this]
    show (match listOf h (.ref a), listOf h (.lst []) with
      | some xs, some ys => if xs.length = ys.length then eqD h (.ref a) (.lst []) else some false
      | _, _ => eqD h (.ref a) (.lst [])) = _
    rw [list_ref q, e1]
    rfl
  rw [e]
theorem sub_lst {h : Hep} {a : Nat} {xs : List W} (q : h.get a = some (.lst xs)) {r : Nat} (hr : r < xs.length) (e : Env) (w : W) : sSub3 e w (.ref a) (.int (r : Nat)) h = .ok .nx e (h.set a (.lst (xs.set r w))) := by
  unfold sSub3 setItem
  simp only
  rw [q]
  simp only
  have : ixW xs.length ((r : Nat) : Int) = some r := by
    unfold ixW
    rw [if_pos (by omega), if_pos (by omega)]
    simp
  rw [this]
theorem tup_list {w : W} {xs : List W} {h : Hep} (hw : listOf h w = some xs) : bTuple [w] h = .ok (.tup xs) h := by
  unfold bTuple
  simp only
  cases w with
  | lst ys => cases hw; rfl
  | scr ns => cases hw; rfl
  | ref q => simp only [seq_ref, hw]
  | _ => cases hw
end Ev
namespace Lw
open PySem Ev
/-- somewhere it is no term -/
inductive Bd (a : Int) : W → Prop
  | here {w : W} : hf a w = false → Bd a w
  | kid {w x : W} : hf a w = true → x ∈ inn w → Bd a x → Bd a w
theorem lay_bad {a : Int} : ∀ (k m : Nat) (l : List W) (w : W), w ∈ l → Bd a w → lay a k m l = false
  | 0, _, _, _, _, _ => rfl
  | k + 1, m, l, w, hw, hb => by
    unfold lay
    by_cases z : 30 < m + l.length
    · rw [if_pos z]
    · rw [if_neg z]
      by_cases f : l.all (hf a) = true
      · rw [if_pos f]
        have fw := List.all_eq_true.mp f w hw
        cases hb with
        | here h => rw [h] at fw; cases fw
        | kid h hx hb' =>
          rename_i x
          have hm : x ∈ l.flatMap inn := List.mem_flatMap.mpr ⟨w, hw, hx⟩
          have he : (l.flatMap inn).isEmpty = false := by
            cases q : l.flatMap inn with
            | nil => rw [q] at hm; cases hm
            | cons _ _ => rfl
          rw [he, if_neg Bool.false_ne_true]
          exact lay_bad k _ _ x hm hb'
      · rw [if_neg f]
theorem bad_is {d : Nat} (hd : d ≤ 62) {w : W} {a : Int} (hw : pd d w = true) (hb : Bd a w) (n : Nat) (h : Hep) : callN Pr (n + 5) F_is_term [w, .int a] h = .ok (.bl false) h := by
  rw [is_term hd hw, lay_bad 8 0 [w] w (by simp) hb]
/-- a term with other parts -/
def rb : Tm → List W → W
  | .two k _ _, l => .tup (.str k.s :: l)
  | .ite _ _ _, l => .tup (.str "if" :: l)
  | .cal1 f _, l => .tup [.str "call", .str f, .tup l]
  | .cal2 f _ _, l => .tup [.str "call", .str f, .tup l]
  | _, _ => .non
theorem rb_form {a : Nat} {t : Tm} {l : List W} (ht : Nmd a t) (hl : l.length = t.kids.length) (h0 : l ≠ []) : Form (a : Nat) (rb t l) ∧ inn (rb t l) = l := by
  cases t with
  | two k x y =>
    match l, hl with
    | [u, v], _ => cases k
                   · exact ⟨.plus u v, by show inn (.tup [.str "plus", u, v]) = [u, v]; kernel_rfl⟩
                   · exact ⟨.less u v, by show inn (.tup [.str "less", u, v]) = [u, v]; kernel_rfl⟩
                   · exact ⟨.same u v, by show inn (.tup [.str "same", u, v]) = [u, v]; kernel_rfl⟩
  | ite x y z =>
    match l, hl with
    | [u, v, w], _ => exact ⟨.ite u v w, by show inn (.tup [.str "if", u, v, w]) = [u, v, w]; kernel_rfl⟩
  | cal1 f x =>
    match l, hl with
    | [u], _ => exact ⟨.call _ _ ht.1 (by simp), by show inn (.tup [.str "call", .str f, .tup [u]]) = [u]; kernel_rfl⟩
  | cal2 f x y =>
    match l, hl with
    | [u, v], _ => exact ⟨.call _ _ ht.1 (by simp), by show inn (.tup [.str "call", .str f, .tup [u, v]]) = [u, v]; kernel_rfl⟩
  | _ => cases l with
    | nil => exact absurd rfl h0
    | cons _ _ => simp [Tm.kids] at hl
theorem rb_pd {a : Nat} {t : Tm} {l : List W} {d : Nat} (ht : Nmd a t) (hl : ∀ x ∈ l, pd d x = true) : pd (d + 2) (rb t l) = true := by
  have up : ∀ x ∈ l, pd (d + 1) x = true := fun x hx => pd_up (hl x hx)
  cases t with
  | two k x y =>
    show List.all _ (pd (d + 1)) = true
    rw [List.all_cons, Bool.and_eq_true]
    exact ⟨pd_flat (pk_flat k), List.all_eq_true.mpr up⟩
  | ite x y z =>
    show List.all _ (pd (d + 1)) = true
    rw [List.all_cons, Bool.and_eq_true]
    exact ⟨pd_flat (by decide +kernel), List.all_eq_true.mpr up⟩
  | cal1 f x =>
    show List.all [W.str "call", .str f, .tup l] (pd (d + 1)) = true
    simp only [List.all_cons, List.all_nil, Bool.and_true, Bool.and_eq_true]
    exact ⟨pd_flat (by decide +kernel), pd_flat (nm_flat ht.1), List.all_eq_true.mpr hl⟩
  | cal2 f x y =>
    show List.all [W.str "call", .str f, .tup l] (pd (d + 1)) = true
    simp only [List.all_cons, List.all_nil, Bool.and_true, Bool.and_eq_true]
    exact ⟨pd_flat (by decide +kernel), pd_flat (nm_flat ht.1), List.all_eq_true.mpr hl⟩
  | _ => rfl
theorem law_bent {a : Nat} {odd : W} {p : Nat} (ho : Bd (a : Nat) odd) (hop : pd 2 odd = true) : ∀ (n : Nat) {t : Tm} (h : Hep), Wf h → Pl h p → Nmd a t → t.dep ≤ n → t.dep ≤ 20 →
    ∃ w h', callN Pr (n + 2) F_law_bent [.ref p, t.w, odd] h = .ok w h' ∧ Stp p h h' ∧ Bd (a : Nat) w ∧ pd (2 * t.dep + 2) w = true
  | 0, t, _, _, _, _, hd, _ => by have := dep_pos t; omega
  | n + 1, t, h, wf, hp, ht, hd, h20 => by
    rw [c_law_bent]
    have q := law_inner ht (n + 1) h
    simp only [F_law_inner] at q
    have gl : (h.push (.lst (t.kids.map Tm.w))).get h.n = some (.lst (t.kids.map Tm.w)) := push_last _ _
    have kd : ∀ x ∈ t.kids.map Tm.w, Dt 62 x := fun x hx => by
      obtain ⟨k, hk, rfl⟩ := List.mem_map.mp hx
      exact (pd_dt (tm_pd (kids_ok ht hk))).mono (by have := kids_lt hk; omega)
    have e0 := eqr_lnil gl kd
    have wfk : ∀ (g : Hep), Wf g → Wf (g.push (.lst (t.kids.map Tm.w))) := fun g w => w.push (by simp only [Ob.blw]; exact tms_blw (fun u hu => kids_ok ht hu) _)
    have odd_b : odd.blw h.n = true := pd_blw _ hop
    cases hk : t.kids with
    | nil =>
      rw [hk] at q e0
      refine ⟨odd, h, ?_, Stp.refl hp, ho, pd_mono hop (by omega)⟩
      simp only [List.map_nil, List.isEmpty_nil] at q e0
      simp [q, newL, lim, e0]
      exact ends_push wf odd_b
    | cons k0 ks =>
      have hl0 : t.kids ≠ [] := by rw [hk]; simp
      have he : (t.kids.map Tm.w).isEmpty = false := by rw [hk]; rfl
      rw [he] at e0
      have hp1 : Pl (h.push (.lst (t.kids.map Tm.w))) p := hp.push
      obtain ⟨r, h1, hr, s1, e1⟩ := draw (n + 1) _ p hp1 3 (by decide) (by decide)
      obtain ⟨g1, sg1, rfl⟩ := s1.push hp.lt
      have e1 : callN Pr (n + 2) F_law_draw [.ref p, .int 3] (h.push (.lst (t.kids.map Tm.w))) = _ := e1
      simp only [F_law_draw] at e1
      by_cases z : r = 0
      · subst z
        refine ⟨odd, g1, ?_, sg1, ho, pd_mono hop (by omega)⟩
        simp [q, newL, lim, e0, e1]
        rw [← sg1.n]
        exact ends_push (sg1.wf wf) (pd_blw _ hop)
      · have z' : (((r : Nat) : Int) == 0) = false := by rw [beq_eq_false_iff_ne]; omega
        have lp : 0 < t.kids.length := List.length_pos_iff.mpr hl0
        have l3 : t.kids.length ≤ 3 := by cases t <;> simp [Tm.kids]
        have hp2 : Pl (g1.push (.lst (t.kids.map Tm.w))) p := (sg1.pl hp).push
        obtain ⟨i, h2, hi, s2, e2⟩ := draw (n + 1) _ p hp2 t.kids.length lp (by omega)
        obtain ⟨g2, sg2, rfl⟩ := s2.push (by rw [sg1.n]; exact hp.lt)
        simp only [F_law_draw] at e2
        have wg2 := sg2.wf (sg1.wf wf)
        have hp3 : Pl (g2.push (.lst (t.kids.map Tm.w))) p := (sg2.pl (sg1.pl hp)).push
        have hik : t.kids[i] ∈ t.kids := List.getElem_mem _
        have hkd := kids_lt hik
        obtain ⟨w, h3, e3, s3, b3, p3⟩ := law_bent ho hop n (t := t.kids[i]) (g2.push (.lst (t.kids.map Tm.w))) (wfk _ wg2) hp3 (kids_ok ht hik) (by omega) (by omega)
        obtain ⟨g3, sg3, rfl⟩ := s3.push (by rw [sg2.n, sg1.n]; exact hp.lt)
        simp only [F_law_bent] at e3
        have st := sg1.trans (sg2.trans sg3)
        have n1 : h.n = g1.n := sg1.n.symm
        have n2 : h.n = g2.n := by rw [sg2.n, sg1.n]
        have n3 : h.n = g3.n := by rw [sg3.n, sg2.n, sg1.n]
        have li : ∀ g : Hep, h.n = g.n → listOf (g.push (.lst (t.kids.map Tm.w))) (.ref h.n) = some (t.kids.map Tm.w) := fun g hg => by rw [hg]; exact list_ref (push_last _ _)
        have len : bLen [.ref h.n] (g1.push (.lst (t.kids.map Tm.w))) = .ok (.int (t.kids.length : Nat)) (g1.push (.lst (t.kids.map Tm.w))) := by
          rw [len_list (li g1 n1), List.length_map]
        have ixi : index (.ref h.n) (.int (i : Nat)) (g2.push (.lst (t.kids.map Tm.w))) = .ok (t.kids[i].w) (g2.push (.lst (t.kids.map Tm.w))) := ix_list (li g2 n2) (by simp [hi])
        have sb := fun e => sub_lst (h := g3.push (.lst (t.kids.map Tm.w))) (a := h.n) (xs := t.kids.map Tm.w) (by rw [n3]; exact push_last _ _) (r := i) (by rw [List.length_map]; exact hi) e w
        have se : (g3.push (.lst (t.kids.map Tm.w))).set h.n (.lst ((t.kids.map Tm.w).set i w)) = g3.push (.lst ((t.kids.map Tm.w).set i w)) := by rw [n3]; exact set_last _ _ _
        rw [se] at sb
        have tl : bTuple [.ref h.n] (g3.push (.lst ((t.kids.map Tm.w).set i w))) = .ok (.tup ((t.kids.map Tm.w).set i w)) (g3.push (.lst ((t.kids.map Tm.w).set i w))) := tup_list (by rw [n3]; exact list_ref (push_last _ _))
        have L : ((t.kids.map Tm.w).set i w).length = t.kids.length := by simp
        have L0 : (t.kids.map Tm.w).set i w ≠ [] := fun z => by rw [z] at L; simp at L; omega
        obtain ⟨f1, f2⟩ := rb_form ht L L0
        have wm : w ∈ (t.kids.map Tm.w).set i w := List.mem_set (by rw [List.length_map]; exact hi) w
        have pdL : ∀ x ∈ (t.kids.map Tm.w).set i w, pd (2 * t.dep) x = true := fun x hx => by
          rcases List.mem_or_eq_of_mem_set hx with hx | rfl
          · obtain ⟨k, hk, rfl⟩ := List.mem_map.mp hx
            exact pd_mono (tm_pd (kids_ok ht hk)) (by have := kids_lt hk; omega)
          · exact pd_mono p3 (by omega)
        refine ⟨rb t ((t.kids.map Tm.w).set i w), g3, ?_, st, .kid (form_hf f1) (by rw [f2]; exact wm) b3, rb_pd ht pdL⟩
        have bb : (rb t ((t.kids.map Tm.w).set i w)).blw g3.n = true := pd_blw _ (rb_pd ht pdL)
        have fin : (g3.push (.lst ((t.kids.map Tm.w).set i w))).ends h.n (rb t ((t.kids.map Tm.w).set i w)) = g3 := by
          rw [n3]
          exact ends_push (st.wf wf) bb
        have z0 : ∀ x xs g, index (.tup (x :: xs)) (.int 0) g = .ok x g := fun x xs g => ix_tup (i := 0) g rfl
        have z1 : ∀ x y xs g, index (.tup (x :: y :: xs)) (.int 1) g = .ok y g := fun x y xs g => ix_tup (i := 1) g rfl
        have ad : ∀ (s : Str) g, binop .Add (.tup [.str s]) (.tup ((t.kids.map Tm.w).set i w)) g = .ok (.tup (.str s :: (t.kids.map Tm.w).set i w)) g := fun s g => by
          show newT g ([.str s] ++ (t.kids.map Tm.w).set i w) = _
          unfold newT
          rw [if_pos (by rw [List.length_append, L]; unfold lim; simp; omega)]
          rfl
        have b1 : strEq "if" "call" = false := by decide +kernel
        have b2 : ∀ k : Pk, strEq k.s "call" = false := fun k => by cases k <;> decide +kernel
        generalize hL : (t.kids.map Tm.w).set i w = LL at *
        generalize hKK : t.kids.map Tm.w = KK at *
        have main : evSs Pr (orcN Pr (n + 2)) (B_law_bent.take 4) [some (.ref p), some t.w, some odd, none, none] h = .ok .nx [some (.ref p), some t.w, some odd, some (.ref h.n), some (.int (i : Nat))] (g3.push (.lst LL)) := by
          simp [q, newL, lim, e0, e1, z', z, bfn, len, e2, ixi, e3, sb]
        have sp : B_law_bent = B_law_bent.take 4 ++ B_law_bent.drop 4 := rfl
        have all : evSs Pr (orcN Pr (n + 2)) B_law_bent [some (.ref p), some t.w, some odd, none, none] h = evSs Pr (orcN Pr (n + 2)) (B_law_bent.drop 4) [some (.ref p), some t.w, some odd, some (.ref h.n), some (.int (i : Nat))] (g3.push (.lst LL)) := by
          rw [sp, evSs_app, main, seq_nx]
          rfl
        rw [all]
        cases t with
        | two k x y =>
          simp only [rb] at fin ⊢
          simp [Tm.w, z0, b2, newT, lim, tl, bfn, ad]
          exact fin
        | ite x y z =>
          simp only [rb] at fin ⊢
          simp [Tm.w, z0, b1, newT, lim, tl, bfn, ad]
          exact fin
        | cal1 f x =>
          simp only [rb] at fin ⊢
          simp [Tm.w, z0, z1, strEq_self, newT, lim, tl, bfn]
          exact fin
        | cal2 f x y =>
          simp only [rb] at fin ⊢
          simp [Tm.w, z0, z1, strEq_self, newT, lim, tl, bfn]
          exact fin
        | _ => exact absurd rfl hl0
end Lw

namespace Ev
open PySem
mutual
theorem eqv_same : ∀ d : PyData, d.canLay0 = true → PyData.eqv d d = true
  | .none, _ => by simp [PyData.eqv]
  | .bool _, _ => by simp [PyData.eqv]
  | .int _, _ => by simp [PyData.eqv]
  | .str _, _ => by simp [PyData.eqv]
  | .list xs, h => by
    simp only [PyData.eqv]
    exact eqvAll_same xs (by simpa [PyData.canLay0] using h)
  | .tuple xs, h => by
    simp only [PyData.eqv]
    exact eqvAll_same xs (by simpa [PyData.canLay0] using h)
  | .dict _, h => by simp [PyData.canLay0] at h
theorem eqvAll_same : ∀ ds : List PyData, PyData.canLayAll0 ds = true → PyData.eqvAll ds ds = true
  | [], _ => by simp [PyData.eqvAll]
  | d :: ds, h => by
    simp only [PyData.canLayAll0, Bool.and_eq_true] at h
    simp only [PyData.eqvAll, Bool.and_eq_true]
    exact ⟨eqv_same d h.1, eqvAll_same ds h.2⟩
end
theorem eqW_same {w : W} (hw : Dt 62 w) (h : Hep) : eqW h w w = some true := by
  obtain ⟨d, h1, h2, h3⟩ := hw
  have e := h1 h 65 (by decide)
  have s : SeqAt.shaped d = true := by
    unfold SeqAt.shaped
    rw [Bool.and_eq_true]
    exact ⟨h2, decide_eq_true (by omega)⟩
  have q : eqD h w w = some true := by
    unfold eqD
    rw [e]
    simp only
    rw [if_pos s, if_pos s, eqv_same d h2]
  unfold eqW
  split
  · simp
  · rw [strEq_eq]; simp
  · simp
  · split
    · rename_i xs ys hx hy
      rw [hx] at hy
      cases hy
      rw [if_pos rfl, q]
    · exact q
theorem ne_same {w : W} (hw : Dt 62 w) (h : Hep) : cmpop .NotEq w w h = .ok (.bl false) h := by
  show Out.some' ((eqW h w w).map fun b => W.bl (!b)) h = _
  rw [eqW_same hw]
  rfl
theorem eq_same {w : W} (hw : Dt 62 w) (h : Hep) : cmpop .Eq w w h = .ok (.bl true) h := by
  show Out.some' ((eqW h w w).map W.bl) h = _
  rw [eqW_same hw]
  rfl
/-- a list that holds something is not [] -/
theorem ne_nil {w : W} {x : W} {xs : List W} {h : Hep} (hw : listOf h w = some (x :: xs)) : cmpop .NotEq w (.lst []) h = .ok (.bl true) h := by
  show Out.some' ((eqW h w (.lst [])).map fun b => W.bl (!b)) h = _
  have : eqW h w (.lst []) = some false := by
    unfold eqW
    split
    · cases hw
    · cases hw
    · cases hw
    · rw [hw]; rfl
  rw [this]
  rfl
theorem eq_nil {w : W} {x : W} {xs : List W} {h : Hep} (hw : listOf h w = some (x :: xs)) : cmpop .Eq w (.lst []) h = .ok (.bl false) h := by
  show Out.some' ((eqW h w (.lst [])).map W.bl) h = _
  have : eqW h w (.lst []) = some false := by
    unfold eqW
    split
    · cases hw
    · cases hw
    · cases hw
    · rw [hw]; rfl
  rw [this]
  rfl
end Ev
namespace Lw
open PySem Ev
theorem size_dep : ∀ t : Tm, t.size ≤ 4 ^ t.dep := by
  have pos : ∀ n, 1 ≤ 4 ^ n := fun n => Nat.one_le_pow _ _ (by decide)
  have mono : ∀ {a b : Nat}, a ≤ b → 4 ^ a ≤ 4 ^ b := fun h => Nat.pow_le_pow_right (by decide) h
  intro t
  induction t with
  | two k x y hx hy =>
    have h1 := Nat.le_trans hx (mono (Nat.le_max_left x.dep y.dep))
    have h2 := Nat.le_trans hy (mono (Nat.le_max_right x.dep y.dep))
    have := pos (max x.dep y.dep)
    simp only [Tm.size, Tm.dep, Nat.pow_add, Nat.pow_one]
    omega
  | ite x y z hx hy hz =>
    have h1 := Nat.le_trans hx (mono (show x.dep ≤ max (max x.dep y.dep) z.dep by omega))
    have h2 := Nat.le_trans hy (mono (show y.dep ≤ max (max x.dep y.dep) z.dep by omega))
    have h3 := Nat.le_trans hz (mono (show z.dep ≤ max (max x.dep y.dep) z.dep by omega))
    have := pos (max (max x.dep y.dep) z.dep)
    simp only [Tm.size, Tm.dep, Nat.pow_add, Nat.pow_one]
    omega
  | cal1 f x hx =>
    have := pos x.dep
    simp only [Tm.size, Tm.dep, Nat.pow_add, Nat.pow_one]
    omega
  | cal2 f x y hx hy =>
    have h1 := Nat.le_trans hx (mono (Nat.le_max_left x.dep y.dep))
    have h2 := Nat.le_trans hy (mono (Nat.le_max_right x.dep y.dep))
    have := pos (max x.dep y.dep)
    simp only [Tm.size, Tm.dep, Nat.pow_add, Nat.pow_one]
    omega
  | _ => simp [Tm.size, Tm.dep]
def oddA (m : Nat) : List W := [.non, .int 3, .int (-1), .bl true, .str "1", .tup [], .tup [.str "arg", .int (m : Nat)], .tup [.str "arg", .bl true], .tup [.str "cell", .str "A"], .tup [.str "cell"], .tup [.str "tick", .int 1], .lst [.str "tick"]]
def oddB : List W := [.tup [.str "plus", .int 1], .tup [.str "less", .int 0, .int 1, .int 2], .tup [.str "if", .int 1, .int 1], .tup [.str "call", .str "f", .lst [.int 1]], .tup [.str "call", .str "f", .tup [.int 1, .int 1, .int 1]], .tup [.str "call", .str "F", .tup []]]
def oddC : List W := [.tup [.str "Plus", .int 1, .int 1], .tup [.str "same", .int 0, .non], .tup [.int 1, .int 1, .int 1], .tup [.str "call", .str "f"], .tup [.str "call", .str "f", .tup [.non]]]
theorem odd_ok {m : Nat} (hm : m ≤ 2) : ∀ x ∈ (oddA m ++ oddB) ++ oddC, Bd (m : Nat) x ∧ pd 2 x = true := by
  have hh : ∀ m : Nat, m ≤ 2 → (((oddA m ++ oddB) ++ oddC).all fun x => pd 2 x && (!hf (m : Nat) x || (inn x).any fun y => !hf (m : Nat) y)) = true := by
    intro m hm
    match m, hm with
    | 0, _ => decide +kernel
    | 1, _ => decide +kernel
    | 2, _ => decide +kernel
  intro x hx
  have q := List.all_eq_true.mp (hh m hm) x hx
  rw [Bool.and_eq_true] at q
  refine ⟨?_, q.1⟩
  cases z : hf (m : Nat) x with
  | false => exact .here z
  | true =>
    have q := q.2
    rw [z, Bool.not_true, Bool.false_or] at q
    obtain ⟨y, hy, e⟩ := List.any_eq_true.mp q
    exact .kid z hy (.here (by simpa using e))
end Lw

namespace Lw
open PySem Ev
abbrev body1 : List Sm := (match b23 with
  | .for _ _ _ b :: _ => b
  | _ => [])
abbrev body12 : List Sm := (match body1 with
  | _ :: _ :: _ :: _ :: .for _ _ _ b :: _ => b
  | _ => [])
abbrev thenB : List Sm := (match body12 with
  | _ :: _ :: .iff _ b _ :: _ => b
  | _ => [])
abbrev E13 (x0 x1 x2 x3 x4 x5 x6 x7 x8 x9 x10 x11 x12 : Option W) : Ev.Env := [x0, x1, x2, x3, x4, x5, x6, x7, x8, x9, x10, x11, x12]
theorem strs_dt {l : List Str} (hl : ∀ s ∈ l, isNm s = true) : Dt 62 (.lst (l.map W.str)) := Dt.mono (dt_lst (k := 0) fun x hx => by
  obtain ⟨s, hs, rfl⟩ := List.mem_map.mp hx
  exact flat_dt (nm_flat (hl s hs))) (by decide)
theorem sort_nm (k : Bool) {a : Nat} {t : Tm} (ht : Nmd a t) : ∀ s ∈ sortS (nmsOf k t), isNm s = true := fun s hs => by
  have : s ∈ nmsOf k t := (sortS_perm _).mem_iff.mp hs
  exact lawNm_strs k ht s ((lawNm_mem k t s).mpr this)
/-- sorted([str(w) for w in due[kind]]) -/
theorem due_sorted (k : Bool) {a : Nat} {t : Tm} (n : Nat) (g : Hep) (hz : t.size ≤ 30) (x0 x1 x2 x3 x4 x5 x6 x7 x8 x9 x11 x12 : Option W) :
    ev Pr (orcN Pr n) (.bfn .sorted [.lco false (.bfn .str [.var 7]) (.nm 7) .seq [.idx (.var 10) (.str (kS k))] [] [7]]) (E13 x0 x1 x2 x3 x4 x5 x6 x7 x8 x9 (some (cnt t)) x11 x12) g = .ok (.lst ((sortS (nmsOf k t)).map W.str)) g := by
  have c1 : dget (D5 (.int (t.size : Nat)) (wStrs (lawNm true t)) (wStrs (lawNm false t)) (.bl (t.subs.any isTk)) (.int (t.dep : Nat))) (.str (kS k)) = some (wStrs (lawNm k t)) := by
    cases k
    · exact g53 _ _ _ _ _
    · exact g52 _ _ _ _ _
  have ix : index (cnt t) (.str (kS k)) g = .ok (wStrs (lawNm k t)) g := by
    unfold cnt
    rw [ix_dct, c1, som_some]
  have ll := lawNm_len k t
  have t2 := turns_mapK (ks := lawNm k t) (φ := W.str) (ψ := W.str) (h := g) (f := lcoF Pr (orcN Pr n) (.bfn .str [.var 7]) (.nm 7) [] [7] (E13 x0 x1 x2 x3 x4 x5 x6 x7 x8 x9 (some (cnt t)) x11 x12)) (fun acc s hs hl => by
    have hl' : acc.length < lim := by unfold lim; omega
    have : bStr [.str s] g = .ok (.str s) g := rfl
    simp [bfn, this, grow, hl'])
  have so : bSorted [.lst ((lawNm k t).map W.str)] g = .ok (.lst ((sortS (nmsOf k t)).map W.str)) g := by
    show (match strsOf ((lawNm k t).map W.str) with
      | some ss => if ss.length < 64 then newL false g ((sortS ss).map W.str) else .bad
      | none => .bad) = _
    rw [strsOf_strs]
    simp only
    rw [if_pos (by omega), law_sort]
    unfold newL
    rw [if_pos (by rw [← law_sort, List.length_map, (sortS_perm _).length_eq]; unfold lim; omega)]
  have wl : walk .seq [wStrs (lawNm k t)] g = some (.fix ((lawNm k t).map W.str)) := rfl
  have hl : ((lawNm k t).map W.str).length ≤ 16777216 := by rw [List.length_map]; omega
  simp only [ev_bfn, evs_cons, ev_lco, ev_idx, ev_var, nth_s, nth_z, Option.join_some, som_some, bind_ok, kIdx_ap, ev_str, ix, kCons_ap, evs_nil, kCons2_ap, kLco_ap, wl, kLcoGo_ap, len_fix, t2, calm_ok, kNewL_ap, newL, lim, hl, if_true, bfn, so]
section
variable {m : Nat} {p : Nat} {b : W} {cW fW : List W} {pc : Str → Prop} {pf : Str → Nat → Prop}
/-- the term is as the law has it -/
theorem then_ok (hm : m ≤ 2) {t : Tm} (ht : Nmd m t) (h5 : t.dep ≤ 5) (h30 : t.size ≤ 30) (g : Hep) (wf : Wf g) (hp : Pl g p) (x0 x1 x3 x4 x5 x7 x8 x11 x12 : Option W) :
    ∃ y11 y12 g', evSs Pr (orcN Pr 39) thenB (E13 x0 x1 (some (.ref p)) x3 x4 x5 (some (.int (m : Nat))) x7 x8 (some t.w) (some (cnt t)) x11 x12) g = .ok .nx (E13 x0 x1 (some (.ref p)) x3 x4 x5 (some (.int (m : Nat))) x7 x8 (some t.w) (some (cnt t)) y11 y12) g' ∧ Stp p g g' := by
  have a1 := tm_is ht (by omega) h30 34 g
  have a2 := tm_size (a := m) g 38 ht (by omega)
  have a3 := tm_dep (a := m) g 38 ht (by omega) (by omega)
  have a4 := cells_in 36 g wf ht (by omega) (by omega)
  have a5 := calls_in 36 g wf ht (by omega) (by omega)
  have a6 := has_tick 37 g wf ht (by omega) (by omega) (by omega)
  simp only [F_is_term, F_term_size, F_term_depth, F_cells_in, F_calls_in, F_has_tick] at a1 a2 a3 a4 a5 a6
  have x5s : ∀ g, index (cnt t) (.str "size") g = .ok (.int (t.size : Nat)) g := fun g => by unfold cnt; rw [ix_dct, g51]; rfl
  have x5t : ∀ g, index (cnt t) (.str "tick") g = .ok (.bl (t.subs.any isTk)) g := fun g => by unfold cnt; rw [ix_dct, g54]; rfl
  have x5d : ∀ g, index (cnt t) (.str "depth") g = .ok (.int (t.dep : Nat)) g := fun g => by unfold cnt; rw [ix_dct, g55]; rfl
  have n1 := ne_same (w := .lst [.int (t.size : Nat), .int (t.dep : Nat)]) (Dt.mono (dt_lst (k := 0) fun x hx => by
    simp only [List.mem_cons, List.not_mem_nil, or_false] at hx
    rcases hx with rfl | rfl <;> exact dt_int _) (by decide)) g
  have n2 := ne_same (strs_dt (sort_nm true ht)) g
  have n3 := ne_same (strs_dt (sort_nm false ht)) g
  have d1 := due_sorted true (a := m) (t := t) 39 g h30 x0 x1 (some (.ref p)) x3 x4 x5 (some (.int (m : Nat))) x7 x8 (some t.w) x11 x12
  have d2 := due_sorted false (a := m) (t := t) 39 g h30 x0 x1 (some (.ref p)) x3 x4 x5 (some (.int (m : Nat))) x7 x8 (some t.w) x11 x12
  simp only [kS] at d1 d2
  have s1 : evS Pr (orcN Pr 39) (thenB.headD .nev) (E13 x0 x1 (some (.ref p)) x3 x4 x5 (some (.int (m : Nat))) x7 x8 (some t.w) (some (cnt t)) x11 x12) g = .ok .nx (E13 x0 x1 (some (.ref p)) x3 x4 x5 (some (.int (m : Nat))) x7 x8 (some t.w) (some (cnt t)) x11 x12) g := by
    simp [a1, a2, a3, x5s, x5d, nL2, n1]
  have s2 : evS Pr (orcN Pr 39) ((thenB.drop 1).headD .nev) (E13 x0 x1 (some (.ref p)) x3 x4 x5 (some (.int (m : Nat))) x7 x8 (some t.w) (some (cnt t)) x11 x12) g = .ok .nx (E13 x0 x1 (some (.ref p)) x3 x4 x5 (some (.int (m : Nat))) x7 x8 (some t.w) (some (cnt t)) x11 x12) g := by
    simp only [List.drop, List.headD, evS_iff, ev_cmp, ev_cal, evs_cons, ev_var, nth_s, nth_z, Option.join_some, som_some, bind_ok, kCons_ap, evs_nil, kCons2_ap, orc_call, a4, kCmp_ap, d1, n2, stm_ok, sIff_ap, truth_bl, sPick_f, evSs_nil]
  have s3 : evS Pr (orcN Pr 39) ((thenB.drop 2).headD .nev) (E13 x0 x1 (some (.ref p)) x3 x4 x5 (some (.int (m : Nat))) x7 x8 (some t.w) (some (cnt t)) x11 x12) g = .ok .nx (E13 x0 x1 (some (.ref p)) x3 x4 x5 (some (.int (m : Nat))) x7 x8 (some t.w) (some (cnt t)) x11 x12) g := by
    simp only [List.drop, List.headD, evS_iff, ev_or, ev_cmp, ev_cal, evs_cons, ev_var, nth_s, nth_z, Option.join_some, som_some, bind_ok, kCons_ap, evs_nil, kCons2_ap, orc_call, a5, kCmp_ap, d2, n3, kOr_ap, truth_bl, pickOr_f, a6, ev_idx, kIdx_ap, ev_str, x5t, cmp_neb, beq_self_eq_true, Bool.not_true, stm_ok, sIff_ap, sPick_f, evSs_nil]
  have ad : ∀ (x y : List W) g, x.length + y.length < 100 → binop .Add (.lst x) (.lst y) g = .ok (.lst (x ++ y)) g := fun x y g hl => by
    show newL false g (x ++ y) = _
    unfold newL
    rw [if_pos (by rw [List.length_append]; unfold lim; omega)]
  have s4 : evS Pr (orcN Pr 39) ((thenB.drop 3).headD .nev) (E13 x0 x1 (some (.ref p)) x3 x4 x5 (some (.int (m : Nat))) x7 x8 (some t.w) (some (cnt t)) x11 x12) g = .ok .nx (E13 x0 x1 (some (.ref p)) x3 x4 x5 (some (.int (m : Nat))) x7 x8 (some t.w) (some (cnt t)) (some (.lst (oddA m))) x12) g := by
    simp [newL, newT, lim, oddA]
  have s5 : evS Pr (orcN Pr 39) ((thenB.drop 4).headD .nev) (E13 x0 x1 (some (.ref p)) x3 x4 x5 (some (.int (m : Nat))) x7 x8 (some t.w) (some (cnt t)) (some (.lst (oddA m))) x12) g = .ok .nx (E13 x0 x1 (some (.ref p)) x3 x4 x5 (some (.int (m : Nat))) x7 x8 (some t.w) (some (cnt t)) (some (.lst (oddA m ++ oddB))) x12) g := by
    have := ad (oddA m) oddB g (by simp [oddA, oddB])
    simp only [oddB] at this ⊢
    simp [newL, newT, lim, this]
  have w6 : evs Pr (orcN Pr 39) (match (thenB.drop 5).headD .nev with
      | .for _ _ it _ => it
      | _ => []) (E13 x0 x1 (some (.ref p)) x3 x4 x5 (some (.int (m : Nat))) x7 x8 (some t.w) (some (cnt t)) (some (.lst (oddA m ++ oddB))) x12) g = .ok [.lst ((oddA m ++ oddB) ++ oddC)] g := by
    have := ad (oddA m ++ oddB) oddC g (by simp [oddA, oddB, oddC])
    simp only [oddC] at this ⊢
    simp [newL, newT, lim, this]
  obtain ⟨e', g', t6, x12', rfl, st, wf', hp'⟩ := turnsS_K (φ := id) (ks := (oddA m ++ oddB) ++ oddC) (f := forF Pr (orcN Pr 39) (.nm 12) (match (thenB.drop 5).headD .nev with
      | .for _ _ _ b => b
      | _ => [])) (I := fun _ e h' => ∃ x12, e = E13 x0 x1 (some (.ref p)) x3 x4 x5 (some (.int (m : Nat))) x7 x8 (some t.w) (some (cnt t)) (some (.lst (oddA m ++ oddB))) x12 ∧ Stp p g h' ∧ Wf h' ∧ Pl h' p)
    (fun k pre e h' hk hi => by
      obtain ⟨x12, rfl, st, wf', hp'⟩ := hi
      obtain ⟨ho, hop⟩ := odd_ok hm k hk
      obtain ⟨w, h2, e2, s2, b2, p2⟩ := law_bent ho hop 37 (t := t) h' wf' hp' ht (by omega) (by omega)
      have e3 := bad_is (d := 2 * t.dep + 2) (by omega) p2 b2 34 h2
      simp only [F_law_bent, F_is_term] at e2 e3
      refine ⟨_, h2, ?_, some k, rfl, st.trans s2, s2.wf wf', s2.pl hp'⟩
      simp [e2, e3]) (e := E13 x0 x1 (some (.ref p)) x3 x4 x5 (some (.int (m : Nat))) x7 x8 (some t.w) (some (cnt t)) (some (.lst (oddA m ++ oddB))) x12) (h := g) ⟨x12, rfl, Stp.refl hp, wf, hp⟩
  rw [List.map_id] at t6
  have s6 : evS Pr (orcN Pr 39) ((thenB.drop 5).headD .nev) (E13 x0 x1 (some (.ref p)) x3 x4 x5 (some (.int (m : Nat))) x7 x8 (some t.w) (some (cnt t)) (some (.lst (oddA m ++ oddB))) x12) g = .ok .nx (E13 x0 x1 (some (.ref p)) x3 x4 x5 (some (.int (m : Nat))) x7 x8 (some t.w) (some (cnt t)) (some (.lst (oddA m ++ oddB))) x12') g' := by
    refine Eq.trans (evS_for Pr (orcN Pr 39) _ g _ _ _ _) ?_
    refine Eq.trans (congrArg (fun o => Out.stm o _ _) w6) ?_
    simp only [stm_ok, sFor_ap, walk_lst, sForGo_ap, len_fix]
    exact t6
  refine ⟨some (.lst (oddA m ++ oddB)), x12', g', ?_, st⟩
  have sp : thenB = [thenB.headD .nev, (thenB.drop 1).headD .nev, (thenB.drop 2).headD .nev, (thenB.drop 3).headD .nev, (thenB.drop 4).headD .nev, (thenB.drop 5).headD .nev] := rfl
  rw [sp, evSs_cons, s1, seq_nx, evSs_cons, s2, seq_nx, evSs_cons, s3, seq_nx, evSs_cons, s4, seq_nx, evSs_cons, s5, seq_nx, evSs_cons, s6, seq_nx, evSs_nil]
end
end Lw

namespace Lw
open PySem Ev
section
variable {m : Nat} {p : Nat} {b : W} {cW fW : List W} {pc : Str → Prop} {pf : Str → Nat → Prop}
/-- one term -/
theorem one12 (hm : m ≤ 2) (hc : ∀ s, pc s → isNm s = true) (hf_ : ∀ s k, pf s k → isNm s = true) (g : Hep) (wf : Wf g) (hp : Pl g p) (B : Bk p g b cW fW pc pf) (x0 x1 x4 x5 x7 x8 x9 x10 x11 x12 : Option W) :
    ∃ y9 y10 y11 y12 g', evSs Pr (orcN Pr 39) body12 (E13 x0 x1 (some (.ref p)) (some b) x4 x5 (some (.int (m : Nat))) x7 x8 x9 x10 x11 x12) g = .ok .nx (E13 x0 x1 (some (.ref p)) (some b) x4 x5 (some (.int (m : Nat))) x7 x8 y9 y10 y11 y12) g' ∧ Stp p g g' := by
  obtain ⟨d, g1, hd, s1, e1⟩ := draw 38 g p hp 4 (by decide) (by decide)
  have e1 : callN Pr 39 F_law_draw [.ref p, .int 4] g = _ := e1
  have p1 := s1.pl hp
  obtain ⟨t, g2, e2, s2, ht, hd2⟩ := law_term hm d (36 - d) g1 p1 (B.step s1)
  rw [show 36 - d + d + 3 = 39 by omega] at e2
  have w2 := s2.wf (s1.wf wf)
  have p2 := s2.pl p1
  have hn : Nmd m t := Tm.ok_mono hc hf_ ht
  have sz := size_dep t
  have sz2 : 4 ^ t.dep ≤ 4 ^ 5 := Nat.pow_le_pow_right (by decide) (by omega)
  have e3 := law_counts 38 (t := t) g2 w2 hn (by omega) (by omega) (by omega)
  simp only [F_law_draw, F_law_term, F_law_counts] at e1 e2 e3
  have x5s : ∀ g, index (cnt t) (.str "size") g = .ok (.int (t.size : Nat)) g := fun g => by unfold cnt; rw [ix_dct, g51]; rfl
  have a1 : evS Pr (orcN Pr 39) (body12.headD .nev) (E13 x0 x1 (some (.ref p)) (some b) x4 x5 (some (.int (m : Nat))) x7 x8 x9 x10 x11 x12) g = .ok .nx (E13 x0 x1 (some (.ref p)) (some b) x4 x5 (some (.int (m : Nat))) x7 x8 (some t.w) x10 x11 x12) g2 := by
    simp [e1, e2]
  have a2 : evS Pr (orcN Pr 39) ((body12.drop 1).headD .nev) (E13 x0 x1 (some (.ref p)) (some b) x4 x5 (some (.int (m : Nat))) x7 x8 (some t.w) x10 x11 x12) g2 = .ok .nx (E13 x0 x1 (some (.ref p)) (some b) x4 x5 (some (.int (m : Nat))) x7 x8 (some t.w) (some (cnt t)) x11 x12) g2 := by
    simp [e3]
  have sp : body12 = [body12.headD .nev, (body12.drop 1).headD .nev, .iff (.cmp .LtE (.idx (.var 10) (.str "size")) (.int 30)) thenB []] := rfl
  by_cases z : t.size ≤ 30
  · obtain ⟨y11, y12, g', e4, s4⟩ := then_ok hm hn (by omega) z g2 w2 p2 x0 x1 (some b) x4 x5 x7 x8 x11 x12
    refine ⟨some t.w, some (cnt t), y11, y12, g', ?_, s1.trans (s2.trans s4)⟩
    have z' : decide (((t.size : Nat) : Int) ≤ 30) = true := decide_eq_true (by omega)
    rw [sp, evSs_cons, a1, seq_nx, evSs_cons, a2, seq_nx, evSs_cons, evS_iff]
    simp only [ev_cmp, ev_idx, ev_var, nth_s, nth_z, Option.join_some, som_some, bind_ok, kIdx_ap, ev_str, x5s, kCmp_ap, ev_int, cmp_le, z', stm_ok, sIff_ap, truth_bl, sPick_t, e4, seq_nx, evSs_nil]
  · refine ⟨some t.w, some (cnt t), x11, x12, g2, ?_, s1.trans s2⟩
    have z' : decide (((t.size : Nat) : Int) ≤ 30) = false := decide_eq_false (by omega)
    rw [sp, evSs_cons, a1, seq_nx, evSs_cons, a2, seq_nx, evSs_cons, evS_iff]
    simp only [ev_cmp, ev_idx, ev_var, nth_s, nth_z, Option.join_some, som_some, bind_ok, kIdx_ap, ev_str, x5s, kCmp_ap, ev_int, cmp_le, z', stm_ok, sIff_ap, truth_bl, sPick_f, seq_nx, evSs_nil]
end
theorem nms_ok : ((List.range 26).all fun o => (List.range 6).all fun s => hd5.all fun ht => (List.range 4).all fun k => isNm (nmOf o s ht k)) = true := by decide +kernel
theorem nm_is {o s k : Nat} {ht : Str × Str} (ho : o < 26) (hs : s < 6) (hh : ht ∈ hd5) (hk : k < 4) : isNm (nmOf o s ht k) = true := by
  have q := nms_ok
  rw [List.all_eq_true] at q
  have q := q o (List.mem_range.mpr ho)
  rw [List.all_eq_true] at q
  have q := q s (List.mem_range.mpr hs)
  rw [List.all_eq_true] at q
  have q := q ht hh
  rw [List.all_eq_true] at q
  exact q k (List.mem_range.mpr hk)
theorem turn (ns : List Int) (hl : ns.length ≤ 63) (k : Nat) (hk : k ≤ 1) (h : Hep) (wf : Wf h) (x1 x2 x3 x4 x5 x6 x7 x8 x9 x10 x11 x12 : Option W) :
    ∃ y2 y3 y4 y5 y6 y7 y8 y9 y10 y11 y12 h', forF Pr (orcN Pr 39) (.nm 1) body1 (E13 (some (.scr ns)) x1 x2 x3 x4 x5 x6 x7 x8 x9 x10 x11 x12) (.int (k : Nat)) h = .ok .nx (E13 (some (.scr ns)) (some (.int (k : Nat))) y2 y3 y4 y5 y6 y7 y8 y9 y10 y11 y12) h' ∧ Wf h' := by
  obtain ⟨a, b, b0, b1, e1⟩ := pool 38 ns hl k (by omega) h
  have w1 : Wf (h.push (P2 a b)) := wf_new wf
  have p1 : Pl (h.push (P2 a b)) h.n := pl_new b0 b1
  obtain ⟨o, s, ht, g1, ho, hs, hh, s1, e2⟩ := names 36 (h.push (P2 a b)) h.n p1 4 (by decide)
  have p2 := s1.pl p1
  obtain ⟨m, g2, hm, s2, e3⟩ := draw 38 g1 h.n p2 3 (by decide) (by decide)
  have e2 : callN Pr 39 F_law_names [.ref h.n, .int 4] (h.push (P2 a b)) = _ := e2
  have e3 : callN Pr 39 F_law_draw [.ref h.n, .int 3] g1 = _ := e3
  simp only [F_law_pool, F_law_names, F_law_draw] at e1 e2 e3
  have w3 := s2.wf (s1.wf w1)
  have p3 := s2.pl p2
  have gn : g2.n = h.n + 1 := by rw [s2.n, s1.n, Hep.n_push]
  have nE : nmsW o s ht 4 = [.str (nmOf o s ht 0), .str (nmOf o s ht 1), .str (nmOf o s ht 2), .str (nmOf o s ht 3)] := rfl
  generalize h0 : nmOf o s ht 0 = n0 at nE
  generalize h1 : nmOf o s ht 1 = n1 at nE
  generalize h2 : nmOf o s ht 2 = n2 at nE
  generalize h3 : nmOf o s ht 3 = n3 at nE
  have i0 : isNm n0 = true := by rw [← h0]; exact nm_is ho hs hh (by decide)
  have i1 : isNm n1 = true := by rw [← h1]; exact nm_is ho hs hh (by decide)
  have i2 : isNm n2 = true := by rw [← h2]; exact nm_is ho hs hh (by decide)
  have i3 : isNm n3 = true := by rw [← h3]; exact nm_is ho hs hh (by decide)
  rw [nE] at e2
  have lx : ∀ (i : Nat) x g, ([.str n0, .str n1, .str n2, .str n3] : List W)[i]? = some x → index (.lst [.str n0, .str n1, .str n2, .str n3]) (.int (i : Nat)) g = .ok x g := fun i x g e => ix_list rfl e
  have l0 : ∀ g, index (.lst [.str n0, .str n1, .str n2, .str n3]) (.int 0) g = .ok (.str n0) g := fun g => lx 0 _ g rfl
  have l1 : ∀ g, index (.lst [.str n0, .str n1, .str n2, .str n3]) (.int 1) g = .ok (.str n1) g := fun g => lx 1 _ g rfl
  have l2 : ∀ g, index (.lst [.str n0, .str n1, .str n2, .str n3]) (.int 2) g = .ok (.str n2) g := fun g => lx 2 _ g rfl
  have l3 : ∀ g, index (.lst [.str n0, .str n1, .str n2, .str n3]) (.int 3) g = .ok (.str n3) g := fun g => lx 3 _ g rfl
  -- the book
  let cW : List W := [.tup [.str n0, .str "table"], .tup [.str n1, .str "frozen"]]
  let fn : Str → Int → W := fun s c => .dct [(.str "name", .str s), (.str "many", .int c)]
  let bW : W := .dct [(.str "cells", .ref (h.n + 1)), (.str "functions", .ref (h.n + 2))]
  let G : List W → Hep := fun l => (g2.push (.lst cW)).push (.lst l)
  have gx : ∀ l, (G l).get (h.n + 2) = some (.lst l) := fun l => by
    have := push_last (g2.push (.lst cW)) (.lst l)
    rw [Hep.n_push, gn] at this
    exact this
  have gs : ∀ l l', (G l).set (h.n + 2) (.lst l') = G l' := fun l l' => by
    have := set_last (g2.push (.lst cW)) (.lst l) (.lst l')
    rw [Hep.n_push, gn] at this
    exact this
  have gc : ∀ l, (G l).get (h.n + 1) = some (.lst cW) := fun l => by
    have := push_prev g2 (.lst cW) (.lst l)
    rw [gn] at this
    exact this
  have nl1 : newL true g2 [.tup [.str n0, .str "table"], .tup [.str n1, .str "frozen"]] = .ok (.ref (h.n + 1)) (g2.push (.lst cW)) := by
    show Out.ok (W.ref g2.n) (g2.push (.lst cW)) = _
    rw [gn]
  have nl2 : newL true (g2.push (.lst cW)) [] = .ok (.ref (h.n + 2)) (G []) := by
    show Out.ok (W.ref (g2.push (.lst cW)).n) ((g2.push (.lst cW)).push (.lst [])) = _
    rw [Hep.n_push, gn]
  have nd : ∀ g, newD false g [.str "cells", .ref (h.n + 1), .str "functions", .ref (h.n + 2)] = .ok bW g := fun g => by kernel_rfl
  have nf : ∀ g s c, newD false g [.str "name", .str s, .str "many", .int c] = .ok (fn s c) g := fun g s c => by kernel_rfl
  have ixf : ∀ g, index bW (.str "functions") g = .ok (.ref (h.n + 2)) g := fun g => by kernel_rfl
  have ixc : ∀ g, index bW (.str "cells") g = .ok (.ref (h.n + 1)) g := fun g => by kernel_rfl
  have rcv : ∀ l, recv .append (.ref (h.n + 2)) (G l) = true := fun l => by
    unfold recv
    simp only
    rw [list_ref (gx l)]
    rfl
  have app : ∀ l x, l.length < 100 → mAppend (.ref (h.n + 2)) [x] (G l) = .ok .non (G (l ++ [x])) := fun l x hl => by
    unfold mAppend
    simp only
    rw [gx l]
    simp only
    rw [if_pos (by unfold lim; omega), gs]
  let fW : List W := [fn n2 2, fn n3 0]
  have st1 : evS Pr (orcN Pr 39) (body1.headD .nev) (E13 (some (.scr ns)) (some (.int (k : Nat))) x2 x3 x4 x5 x6 x7 x8 x9 x10 x11 x12) h = .ok .nx (E13 (some (.scr ns)) (some (.int (k : Nat))) (some (.ref h.n)) x3 x4 x5 x6 x7 x8 x9 x10 x11 x12) (h.push (P2 a b)) := by
    simp [e1]
  have st2 : evS Pr (orcN Pr 39) ((body1.drop 1).headD .nev) (E13 (some (.scr ns)) (some (.int (k : Nat))) (some (.ref h.n)) x3 x4 x5 x6 x7 x8 x9 x10 x11 x12) (h.push (P2 a b)) = .ok .nx (E13 (some (.scr ns)) (some (.int (k : Nat))) (some (.ref h.n)) x3 x4 (some (.lst [.str n0, .str n1, .str n2, .str n3])) (some (.int (m : Nat))) x7 x8 x9 x10 x11 x12) g2 := by
    simp [e2, e3, nT2]
  have st3 : evS Pr (orcN Pr 39) ((body1.drop 2).headD .nev) (E13 (some (.scr ns)) (some (.int (k : Nat))) (some (.ref h.n)) x3 x4 (some (.lst [.str n0, .str n1, .str n2, .str n3])) (some (.int (m : Nat))) x7 x8 x9 x10 x11 x12) g2 = .ok .nx (E13 (some (.scr ns)) (some (.int (k : Nat))) (some (.ref h.n)) (some bW) x4 (some (.lst [.str n0, .str n1, .str n2, .str n3])) (some (.int (m : Nat))) x7 x8 x9 x10 x11 x12) (G []) := by
    simp [l0, l1, nT2, nl1, nl2, nd, -push_n]
  have st4 : evS Pr (orcN Pr 39) ((body1.drop 3).headD .nev) (E13 (some (.scr ns)) (some (.int (k : Nat))) (some (.ref h.n)) (some bW) x4 (some (.lst [.str n0, .str n1, .str n2, .str n3])) (some (.int (m : Nat))) x7 x8 x9 x10 x11 x12) (G []) = .ok .nx (E13 (some (.scr ns)) (some (.int (k : Nat))) (some (.ref h.n)) (some bW) x4 (some (.lst [.str n0, .str n1, .str n2, .str n3])) (some (.int (m : Nat))) (some (.str n3)) (some (.int 0)) x9 x10 x11 x12) (G fW) := by
    have fe : ∀ (x y : W) (e : Ev.Env) g, forF Pr (orcN Pr 39) (.tp [7, 8]) (match (body1.drop 3).headD .nev with
      | .for _ _ _ b => b
      | _ => []) e (.tup [x, y]) g = evSs Pr (orcN Pr 39) (match (body1.drop 3).headD .nev with
      | .for _ _ _ b => b
      | _ => []) ((e.set 7 (some x)).set 8 (some y)) g := fun _ _ _ _ => rfl
    have one : ∀ (s : Str) (c : Int) (l : List W) x4, l.length < 100 → evSs Pr (orcN Pr 39) (match (body1.drop 3).headD .nev with
      | .for _ _ _ b => b
      | _ => []) (E13 (some (.scr ns)) (some (.int (k : Nat))) (some (.ref h.n)) (some bW) x4 (some (.lst [.str n0, .str n1, .str n2, .str n3])) (some (.int (m : Nat))) (some (.str s)) (some (.int c)) x9 x10 x11 x12) (G l) = .ok .nx (E13 (some (.scr ns)) (some (.int (k : Nat))) (some (.ref h.n)) (some bW) x4 (some (.lst [.str n0, .str n1, .str n2, .str n3])) (some (.int (m : Nat))) (some (.str s)) (some (.int c)) x9 x10 x11 x12) (G (l ++ [fn s c])) := fun s c l x4 hl => by
      simp only [List.drop, List.headD, evSs_cons, evS_exp, ev_bmt, ev_idx, ev_var, nth_s, nth_z, Option.join_some, som_some, bind_ok, kIdx_ap, ev_str, ixf, kBmt, rcv, if_true, evs_cons, ev_dct, kCons_ap, evs_nil, kCons2_ap, kDct_ap, nf, bmt, app l _ hl, stm_ok, sNx_ap, seq_nx, evSs_nil]
    have o1 := one n2 2 [] x4 (by decide)
    have o2 := one n3 0 [fn n2 2] x4 (by show 1 < 100; decide)
    have it : evs Pr (orcN Pr 39) (match (body1.drop 3).headD .nev with
      | .for _ _ it _ => it
      | _ => []) (E13 (some (.scr ns)) (some (.int (k : Nat))) (some (.ref h.n)) (some bW) x4 (some (.lst [.str n0, .str n1, .str n2, .str n3])) (some (.int (m : Nat))) x7 x8 x9 x10 x11 x12) (G []) = .ok [.lst [.tup [.str n2, .int 2], .tup [.str n3, .int 0]]] (G []) := by
      simp [l2, l3, nT2, nL2]
    refine Eq.trans (evS_for Pr (orcN Pr 39) _ _ _ _ _ _) ?_
    refine Eq.trans (congrArg (fun o => Out.stm o _ _) it) ?_
    simp only [stm_ok, sFor_ap, walk_lst, sForGo_ap, len_fix, List.length_cons, List.length_nil, turnsS_s, at_fix, nth_s, nth_z, turnGoS_s]
    refine Eq.trans (congrArg (fun o => OutS.turn o _) ((fe _ _ _ _).trans o1)) ?_
    simp only [turn_nx, turnsS_s, at_fix, nth_s, nth_z, turnGoS_s]
    refine Eq.trans (congrArg (fun o => OutS.turn o _) ((fe _ _ _ _).trans o2)) ?_
    simp only [turn_nx, turnsS_zf]
    rfl
  have fnx : ∀ s c g, index (fn s c) (.str "name") g = .ok (.str s) g ∧ index (fn s c) (.str "many") g = .ok (.int c) g := fun s c g => ⟨by kernel_rfl, by kernel_rfl⟩
  have wG : Wf (G fW) := (w3.push (by rfl)).push (by rfl)
  have pG : Pl (G fW) h.n := p3.push.push
  have B : Bk h.n (G fW) bW cW fW (fun s => isNm s = true) (fun s _ => isNm s = true) := by
    have lc : ∀ h', Stp h.n (G fW) h' → listOf h' (.ref (h.n + 1)) = some cW := fun h' s' => list_ref (by rw [s'.ne (by omega)]; exact gc fW)
    have lf : ∀ h', Stp h.n (G fW) h' → listOf h' (.ref (h.n + 2)) = some fW := fun h' s' => list_ref (by rw [s'.ne (by omega)]; exact gx fW)
    refine ⟨⟨.ref (h.n + 1), fun h' s' => ⟨ixc h', lc h' s', eq_nil (lc h' s')⟩⟩, ⟨.ref (h.n + 2), fun h' s' => ⟨ixf h', lf h' s', ne_nil (lf h' s')⟩⟩, by show 2 < 1000; decide, by show 2 < 1000; decide, fun x hx => ?_, fun x hx => ?_⟩
    · have hx : x = .tup [.str n0, .str "table"] ∨ x = .tup [.str n1, .str "frozen"] := by simpa [cW] using hx
      rcases hx with rfl | rfl
      · exact ⟨n0, fun h' _ => ix_tup (i := 0) h' rfl, i0⟩
      · exact ⟨n1, fun h' _ => ix_tup (i := 0) h' rfl, i1⟩
    · have hx : x = fn n2 2 ∨ x = fn n3 0 := by simpa [fW] using hx
      rcases hx with rfl | rfl
      · exact ⟨n2, 2, by decide, fun h' _ => fnx n2 2 h', i2⟩
      · exact ⟨n3, 0, by decide, fun h' _ => fnx n3 0 h', i3⟩
  -- twelve terms
  have lp : ∀ (j i : Nat) (y4 y9 y10 y11 y12 : Option W) (g : Hep), i + j = 12 → Stp h.n (G fW) g → ∃ z4 z9 z10 z11 z12 g', turnsS (.rng 0 1 12) (forF Pr (orcN Pr 39) (.nm 4) body12) j i (E13 (some (.scr ns)) (some (.int (k : Nat))) (some (.ref h.n)) (some bW) y4 (some (.lst [.str n0, .str n1, .str n2, .str n3])) (some (.int (m : Nat))) (some (.str n3)) (some (.int 0)) y9 y10 y11 y12) g = .ok .nx (E13 (some (.scr ns)) (some (.int (k : Nat))) (some (.ref h.n)) (some bW) z4 (some (.lst [.str n0, .str n1, .str n2, .str n3])) (some (.int (m : Nat))) (some (.str n3)) (some (.int 0)) z9 z10 z11 z12) g' ∧ Stp h.n (G fW) g' := by
    intro j
    induction j with
    | zero =>
      intro i y4 y9 y10 y11 y12 g _ sg
      exact ⟨y4, y9, y10, y11, y12, g, by rw [turnsS_zr], sg⟩
    | succ j ih =>
      intro i y4 y9 y10 y11 y12 g hi sg
      obtain ⟨z9, z10, z11, z12, g', e4, s4⟩ := one12 (m := m) (by omega) (fun _ q => q) (fun _ _ q => q) g (sg.wf wG) (sg.pl pG) (B.step sg) (some (.scr ns)) (some (.int (k : Nat))) (some (.int (i : Nat))) (some (.lst [.str n0, .str n1, .str n2, .str n3])) (some (.str n3)) (some (.int 0)) y9 y10 y11 y12
      obtain ⟨u4, u9, u10, u11, u12, g'', e5, s5⟩ := ih (i + 1) (some (.int (i : Nat))) z9 z10 z11 z12 g' (by omega) (sg.trans s4)
      refine ⟨u4, u9, u10, u11, u12, g'', ?_, s5⟩
      rw [turnsS_s, at_rng, turnGoS_s, show (0 : Int) + ((i : Nat) : Int) * 1 = ((i : Nat) : Int) by omega, forF_nm]
      refine Eq.trans (congrArg (fun o => OutS.turn o _) e4) ?_
      rw [turn_nx]
      exact e5
  obtain ⟨z4, z9, z10, z11, z12, g', e6, s6⟩ := lp 12 0 x4 x9 x10 x11 x12 (G fW) rfl (Stp.refl pG)
  have w12 : ∀ g, walk .rng [.int 12] g = some (.rng 0 1 12) := fun g => rfl
  refine ⟨some (.ref h.n), some bW, z4, some (.lst [.str n0, .str n1, .str n2, .str n3]), some (.int (m : Nat)), some (.str n3), some (.int 0), z9, z10, z11, z12, g', ?_, s6.wf wG⟩
  · rw [forF_nm]
    have sp : body1 = [body1.headD .nev, (body1.drop 1).headD .nev, (body1.drop 2).headD .nev, (body1.drop 3).headD .nev, .for (.nm 4) .rng [.int 12] body12] := rfl
    rw [sp]
    simp only [List.set]
    rw [evSs_cons, st1, seq_nx, evSs_cons, st2, seq_nx, evSs_cons, st3, seq_nx, evSs_cons, st4, seq_nx, evSs_cons, evS_for]
    simp only [evs_cons, ev_int, bind_ok, kCons_ap, evs_nil, kCons2_ap, stm_ok, sFor_ap, w12, sForGo_ap, len_rng]
    rw [e6, seq_nx, evSs_nil]
theorem wf_nil : Wf Hep.nil := rfl
theorem plain (ns : List Int) (hl : ns.length ≤ 63) : ∃ h, callN Pr 40 23 [.scr ns] Hep.nil = .ok (.bl true) h := by
  obtain ⟨m, h1, h2, em⟩ := count 39 ns 2 (by decide) (E13 (some (.scr ns)) none none none none none none none none none none none none) rfl Hep.nil
  obtain ⟨e', h', lp, x1, x2, x3, x4, x5, x6, x7, x8, x9, x10, x11, x12, rfl, wf'⟩ := law_loop (n := 39) (m := m) (b := body1) (I := fun e h => ∃ x1 x2 x3 x4 x5 x6 x7 x8 x9 x10 x11 x12, e = E13 (some (.scr ns)) x1 x2 x3 x4 x5 x6 x7 x8 x9 x10 x11 x12 ∧ Wf h)
    (fun k e h hk hi => by
      obtain ⟨x1, x2, x3, x4, x5, x6, x7, x8, x9, x10, x11, x12, rfl, wf⟩ := hi
      obtain ⟨y2, y3, y4, y5, y6, y7, y8, y9, y10, y11, y12, h', e, w⟩ := turn ns hl k (by omega) h wf x1 x2 x3 x4 x5 x6 x7 x8 x9 x10 x11 x12
      exact ⟨_, h', e, _, _, _, _, _, _, _, _, _, _, _, _, rfl, w⟩) m 0 _ Hep.nil (by omega) ⟨none, none, none, none, none, none, none, none, none, none, none, none, rfl, wf_nil⟩
  refine ⟨h'.ends 0 (.bl true), ?_⟩
  rw [c_law]
  have sp : ∀ e g, evSs Pr (orcN Pr 39) b23 e g = ((evs Pr (orcN Pr 39) [.bfn .max2 [.int 1, .bfn .min2 [.bfn .len [.var 0], .int (2 : Nat)]]] e g).stm e (sFor Pr (orcN Pr 39) (.nm 1) .rng body1 e)).seq (evSs Pr (orcN Pr 39) [.ret (.bl true)]) := fun e g => rfl
  rw [sp]
  refine Eq.trans (congrArg (fun o => Out.fin _ (OutS.res (OutS.seq (Out.stm o _ _) _))) em) ?_
  rw [stm_ok, sFor_ap, walk_rng1 _ (by unfold rngOk; simp; omega), sForGo_ap, len_rng]
  refine Eq.trans (congrArg (fun o => Out.fin _ (OutS.res (OutS.seq o _))) (show turnsS _ _ _ 0 _ _ = _ from lp)) ?_
  rfl
end Lw

namespace Lw
open PySem PySem.Spec PyProof.Rows L2 Ev
theorem run (w : World) : HandSHeadRun.RunEq R (PySem.W.view R.prog [33]) (hookK 6 M Pr Fs Es) (obT 6 M Pr Fs Es) 20000 loose w := by
  intro os
  kernel_rfl
end Lw
open PySem PySem.W PySem.Calls PyProof.Rows Ev
theorem PySem.Challenge.cw_steadycalls_k03_whole_terms_holds : PySem.Challenge.rw_steadycalls_k03_whole_terms.Holds := by
  w_on; o_law
  refine HandSHeadRun.head_any (r := OpenLaw.row PySem.Challenge.rw_steadycalls_k03_whole_terms) (q := view (OpenLaw.row PySem.Challenge.rw_steadycalls_k03_whole_terms).prog [33]) (H := hookK 6 Lw.M Lw.Pr Lw.Fs Lw.Es) (ob := obT 6 Lw.M Lw.Pr Lw.Fs Lw.Es) (M := 20000) (loose := Lw.loose) (d := HandSHeadRun.topDef (OpenLaw.row PySem.Challenge.rw_steadycalls_k03_whole_terms).prog 33) (kwd := []) obT_eq
    (by kernel_rfl) (fun s => by kernel_rfl) Lw.run (by kernel_rfl) (by kernel_rfl) (by kernel_rfl) (by rfl) (by first | assumption | decide +kernel) (by decide +kernel) ⟨rfl, rfl, rfl, rfl, rfl, by decide +kernel⟩ ?hw ?hc
  case hw => w_witness2
  case hc =>
    refine L2.walk_ofE (l := PySem.Challenge.rw_steadycalls_k03_whole_terms) (n := 63) (k := 40) (x := "_law_script") (CX := CXW PySem.Challenge.rw_steadycalls_k03_whole_terms.prog) rfl (by decide) (by kernel_rfl) ⟨rfl, by decide, by decide⟩ ?F cxw_no
    intro w mg fa h Y G hmg0
    have hmg : mg ("law" : PySem.Str) = some (.ref fa) := by
      have e : (HandSHeadRun.topDef (OpenLaw.row PySem.Challenge.rw_steadycalls_k03_whole_terms).prog 33).name = ("law" : PySem.Str) := by kernel_rfl
      rw [← e]
      exact hmg0
    exact law_of Lw.tied (f := 23) (F := Lw.g23) rfl rfl rfl rfl rfl Lw.plain w mg fa h Y G hmg

