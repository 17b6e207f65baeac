import PyProof.Rows.All
import Wide.All
import OpenK.KCls
import Open.Boot
import Open.Tree
import Open.Line
import OpenK.KTop
import Lean
import PySem.Challenge.RW_qd0139_01
set_option Elab.async false
set_option maxRecDepth 100000
set_option autoImplicit false
set_option linter.all false
namespace Mine
open PySem


set_option tactic.hygienic false
theorem and_l {a b : Bool} (h : (a && b) = true) : a = true := (Bool.and_eq_true_iff.mp h).1
theorem and_r {a b : Bool} (h : (a && b) = true) : b = true := (Bool.and_eq_true_iff.mp h).2
theorem or_l {a b : Bool} (h : (a || b) = true) (hb : b = false) : a = true := (Bool.or_eq_true_iff.mp h).resolve_right (by rw [hb]; exact Bool.false_ne_true)
theorem or_r {a b : Bool} (h : (a || b) = true) (ha : a = false) : b = true := (Bool.or_eq_true_iff.mp h).resolve_left (by rw [ha]; exact Bool.false_ne_true)
theorem no {a : Prop} (h : false = true) : a := (Bool.false_ne_true h).elim

/-! the abstract values -/
inductive AV where
  | unb | none
  | bool (b : Bool)
  | int (i : Int)
  | str (l : List Nat)
  | tup (l : List AV)
  | list (l : List AV)
  | own (l : List AV)
  | dict (ks : List (List Nat)) (vs : List AV)
  | rng (n : Nat)
  | cup

/-! the abstract monad: the drop count is its state, a SyntaxDie's line its error -/
noncomputable def M (α : Type) : Type := Int → Option (Except Int α × Int)
noncomputable def M.pure {α : Type} (a : α) : M α := fun d => some (.ok a, d)
noncomputable def M.bind {α β : Type} (m : M α) (f : α → M β) : M β := fun d => match m d with
  | Option.none => Option.none
  | some (.error l, d') => some (.error l, d')
  | some (.ok a, d') => f a d'
noncomputable def M.fail {α : Type} : M α := fun _ => Option.none
noncomputable def M.lift {α : Type} : Option α → M α
  | some a => M.pure a
  | Option.none => M.fail
noncomputable def M.raise {α : Type} (l : Int) : M α := fun d => some (.error l, d)
noncomputable def M.get : M Int := fun d => some (.ok d, d)
noncomputable def M.set (d : Int) : M Unit := fun _ => some (.ok (), d)

set_option tactic.hygienic true
theorem M.bind_eq_some {α β : Type} {m : M α} {f : α → M β} {d : Int} {r : Except Int β × Int} : M.bind m f d = some r →
    (∃ l d', m d = some (.error l, d') ∧ r = (.error l, d')) ∨ (∃ a d', m d = some (.ok a, d') ∧ f a d' = some r) := by
  unfold M.bind
  split
  · intro h; cases h
  · rename_i l d' h
    intro e; exact .inl ⟨l, d', h, (Option.some.inj e).symm⟩
  · rename_i a d' h
    intro e; exact .inr ⟨a, d', h, e⟩

inductive BO where | add | sub | mul | mod | fdiv
inductive CO where | lt | gt | ge | eq | ne | isin | notin
inductive BI where | len | tuple | range
inductive MT where | find | count | get | split | join

set_option genInjectivity false in
set_option genSizeOfSpec false in
inductive E where
  | nil
  | cons (a b : E)
  | num (i : Int) (p : Pos)
  | str (s : String) (l : List Nat) (p : Pos)
  | bool (b : Bool) (p : Pos)
  | non (p : Pos)
  | neg (i : Int) (q p : Pos)
  | var (x : Nat) (p : Pos)
  | glb (x : String) (p : Pos)
  | bin (o : BO) (a b : E) (p : Pos)
  | cmp (o : CO) (a b : E) (p : Pos)
  | and (es : E) (p : Pos)
  | or (es : E) (p : Pos)
  | ite (c a b : E) (p : Pos)
  | tup (es : E) (p : Pos)
  | lst (es : E) (p : Pos)
  | dct (ks vs : E) (p : Pos)
  | idx (a i : E) (p : Pos)
  | oidx (x : Nat) (q : Pos) (i : E) (p : Pos)
  | slc (a lo hi : E) (q p : Pos)
  | call (f : String) (q : Pos) (es : E) (p : Pos)
  | bi (f : BI) (q : Pos) (e : E) (p : Pos)
  | meth (m : MT) (o : E) (q : Pos) (es : E) (p : Pos)
  | comp (elt : E) (x : Nat) (px : Pos) (iter : E) (ifs : E) (sc : Scope) (fv : List Nat) (p : Pos)
  | rows (o : E) (q r t u p : Pos)
  | raw (e : Expr)

noncomputable def E.isNil : E → Bool | .nil => true | _ => false

/-! back to the text's own syntax -/
noncomputable def BO.op : BO → Operator | .add => .Add | .sub => .Sub | .mul => .Mult | .mod => .Mod | .fdiv => .FloorDiv
noncomputable def CO.op : CO → CmpOp | .lt => .Lt | .gt => .Gt | .ge => .GtE | .eq => .Eq | .ne => .NotEq | .isin => .In | .notin => .NotIn
noncomputable def BI.name : BI → String | .len => "len" | .tuple => "tuple" | .range => "range"
noncomputable def BI.val : BI → Value | .len => .builtin "len" | .tuple => .type "tuple" | .range => .type "range"
noncomputable def MT.name : MT → String | .find => "find" | .count => "count" | .get => "get" | .split => "split" | .join => "join"

structure Tx where
  x : Expr
  l : List Expr
noncomputable def Tx.of (x : Expr) : Tx := ⟨x, []⟩

noncomputable def nmAt (nm : List String) (x : Nat) : Str := Str.ofString (nm.getD x "")

noncomputable def tx (nm : List String) : E → Tx
  | .nil => ⟨.Constant .none 0 ⟨0, 0, 0, 0⟩, []⟩
  | .cons a b => ⟨.Constant .none 0 ⟨0, 0, 0, 0⟩, (tx nm a).x :: (tx nm b).l⟩
  | .num i p => .of (.Constant (.int i) 0 p)
  | .str s _ p => .of (.Constant (.str (Str.ofString s)) 0 p)
  | .bool b p => .of (.Constant (.bool b) 0 p)
  | .non p => .of (.Constant .none 0 p)
  | .neg i q p => .of (.UnaryOp .USub (.Constant (.int i) 0 q) p)
  | .var x p => .of (.Name (nmAt nm x) p)
  | .glb x p => .of (.Name (Str.ofString x) p)
  | .bin o a b p => .of (.BinOp (tx nm a).x o.op (tx nm b).x p)
  | .cmp o a b p => .of (.Compare (tx nm a).x [o.op] [(tx nm b).x] p)
  | .and es p => .of (.BoolOp .And (tx nm es).l p)
  | .or es p => .of (.BoolOp .Or (tx nm es).l p)
  | .ite c a b p => .of (.IfExp (tx nm c).x (tx nm a).x (tx nm b).x p)
  | .tup es p => .of (.Tuple (tx nm es).l 0 p)
  | .lst es p => .of (.List (tx nm es).l p)
  | .dct ks vs p => .of (.Dict ((tx nm ks).l.map some) (tx nm vs).l p)
  | .idx a i p => .of (.Subscript (tx nm a).x (tx nm i).x p)
  | .oidx x q i p => .of (.Subscript (.Name (nmAt nm x) q) (tx nm i).x p)
  | .slc a lo hi q p => .of (.Subscript (tx nm a).x (.Slice (if lo.isNil then none else some (tx nm lo).x) (if hi.isNil then none else some (tx nm hi).x) none q) p)
  | .call f q es p => .of (.Call (.Name (Str.ofString f) q) (tx nm es).l [] p)
  | .bi f q e p => .of (.Call (.Name (Str.ofString f.name) q) [(tx nm e).x] [] p)
  | .meth m o q es p => .of (.Call (.Attribute (tx nm o).x (Str.ofString m.name) q) (tx nm es).l [] p)
  | .comp elt x px iter ifs sc _ p => .of (.ListComp (tx nm elt).x [⟨.Name (nmAt nm x) px, (tx nm iter).x, (tx nm ifs).l, 0⟩] sc p)
  | .rows o q r t u p => .of (.Call (.Name (Str.ofString "len") q) [.Call (.Attribute (tx nm o).x (Str.ofString "split") r) [.Constant (.str (Str.ofString "\n")) 0 t] [] u] [] p)
  | .raw e => .of e

/-! what the words mean -/
noncomputable abbrev LIM : Nat := 1000000
noncomputable abbrev BIG : Int := 1099511627776

mutual
noncomputable def dataA : AV → Bool
  | .none | .bool _ | .int _ | .str _ => true
  | .tup l => dataL l
  | .list l => dataL l
  | _ => false
noncomputable def dataL : List AV → Bool
  | [] => true
  | a :: l => dataA a && dataL l
end

mutual
noncomputable def toPy : AV → PyData
  | .none => .none
  | .bool b => .bool b
  | .int i => .int i
  | .str l => .str ⟨l.toArray⟩
  | .tup l => .tuple (toPyL l)
  | .list l => .list (toPyL l)
  | _ => .dict []
noncomputable def toPyL : List AV → List PyData
  | [] => []
  | a :: l => toPy a :: toPyL l
end

noncomputable def lookA : List (List Nat) → List AV → List Nat → Option AV
  | k :: ks, v :: vs, x => if k = x then some v else lookA ks vs x
  | _, _, _ => none

noncomputable def strsA : List AV → Option (List (List Nat))
  | [] => some []
  | .str x :: l => (strsA l).map (x :: ·)
  | _ :: _ => none

noncomputable def AV.int? : AV → Option Int | .int i => some i | _ => Option.none
noncomputable def AV.str? : AV → Option (List Nat) | .str l => some l | _ => Option.none
noncomputable def AV.tup? : AV → Option (List AV) | .tup l => some l | _ => Option.none
noncomputable def AV.list? : AV → Option (List AV) | .list l => some l | _ => Option.none
noncomputable def sgnL? : List Nat → Option Nat | [c] => some c | _ => none
noncomputable def AV.sgn? (a : AV) : Option Nat := a.str?.bind sgnL?
set_option tactic.hygienic false
theorem int?_eq {a : AV} {i : Int} (h : a.int? = some i) : a = .int i := by cases a <;> cases h; rfl
theorem str?_eq {a : AV} {l : List Nat} (h : a.str? = some l) : a = .str l := by cases a <;> cases h; rfl
theorem tup?_eq {a : AV} {l : List AV} (h : a.tup? = some l) : a = .tup l := by cases a <;> cases h; rfl
theorem list?_eq {a : AV} {l : List AV} (h : a.list? = some l) : a = .list l := by cases a <;> cases h; rfl
theorem sgnL?_eq {l : List Nat} {c : Nat} (h : sgnL? l = some c) : l = [c] := by
  cases l with
  | nil => cases h
  | cons x l => cases l with
    | nil => cases h; rfl
    | cons _ _ => cases h
theorem sgn?_eq {a : AV} {c : Nat} (h : a.sgn? = some c) : a = .str [c] := by
  obtain ⟨l, h1, h2⟩ := Option.bind_eq_some_iff.mp h
  rw [str?_eq h1, sgnL?_eq h2]

noncomputable def addA (x y : AV) : Option AV := match x with
  | .int a => y.int?.map fun b => .int (a + b)
  | .str a => y.str?.bind fun b => if a.length + b.length ≤ LIM then some (.str (a ++ b)) else none
  | .tup a => y.tup?.bind fun b => if a.length + b.length ≤ LIM then some (.tup (a ++ b)) else none
  | _ => none
noncomputable def mulA (x y : AV) : Option AV := match x with
  | .int a => y.int?.bind fun b => if 0 ≤ a ∧ a < BIG ∧ 0 ≤ b ∧ b < BIG then some (.int (a * b)) else none
  | .str l => (sgnL? l).bind fun c => y.int?.bind fun k => if 0 ≤ k ∧ k ≤ 4 then some (.str (List.replicate k.toNat c)) else none
  | _ => none
noncomputable def binA (o : BO) (x y : AV) : Option AV := match o with
  | .add => addA x y
  | .sub => x.int?.bind fun a => y.int?.map fun b => .int (a - b)
  | .mul => mulA x y
  | .mod => x.int?.bind fun a => y.int?.bind fun b => if 0 ≤ a ∧ a < BIG ∧ 0 < b ∧ b < BIG then some (.int (a % b)) else none
  | .fdiv => x.int?.bind fun a => y.int?.bind fun b => if 0 ≤ a ∧ a < BIG ∧ 0 < b ∧ b < BIG then some (.int (a / b)) else none

noncomputable def eqSh (a b : AV) : Option Bool := if SeqAt.shaped (toPy a) && SeqAt.shaped (toPy b) then some (PyData.eqv (toPy a) (toPy b)) else none
noncomputable def eqA (x y : AV) : Option Bool := match x with
  | .int a => (match y.int? with | some b => some (decide (a = b)) | none => eqSh (.int a) y)
  | .str a => (match y.str? with | some b => some (decide (a = b)) | none => eqSh (.str a) y)
  | x => eqSh x y
noncomputable def inA (x y : AV) : Option Bool := match y with
  | .str l => x.sgn?.map fun c => l.contains c
  | .tup l => x.str?.bind fun s => (strsA l).map (·.contains s)
  | .dict ks _ => x.str?.map fun s => ks.contains s
  | _ => none
noncomputable def cmpA (o : CO) (x y : AV) : Option Bool := match o with
  | .lt => x.int?.bind fun a => y.int?.map fun b => decide (a < b)
  | .gt => x.int?.bind fun a => y.int?.map fun b => decide (b < a)
  | .ge => x.int?.bind fun a => y.int?.map fun b => decide (b ≤ a)
  | .eq => eqA x y
  | .ne => (eqA x y).map fun b => !b
  | .isin => inA x y
  | .notin => y.str?.bind fun l => x.sgn?.map fun c => !l.contains c

noncomputable def truthA : AV → Option Bool
  | .none => some false
  | .bool b => some b
  | .tup l => if l.length ≤ LIM then some (!l.isEmpty) else none
  | _ => none

noncomputable def findA (c : Nat) : List Nat → Nat → Nat → Int
  | [], _, _ => -1
  | x :: l, 0, n => if x = c then n else findA c l 0 (n + 1)
  | _ :: l, k + 1, n => findA c l k (n + 1)

noncomputable def blankA (c : Nat) : Bool := c == 32 || c == 9 || c == 10 || c == 13 || c == 12 || c == 11 || (28 ≤ c && c ≤ 31)
/-- the words of a text; `w` is the word begun -/
noncomputable def wordsA : List Nat → List Nat → List (List Nat)
  | [], w => if w = [] then [] else [w]
  | c :: l, w => if blankA c then (if w = [] then wordsA l [] else w :: wordsA l []) else wordsA l (w ++ [c])

noncomputable def one? : List AV → Option AV | [a] => some a | _ => none
theorem one?_eq {l : List AV} {a : AV} (h : one? l = some a) : l = [a] := by
  cases l with
  | nil => cases h
  | cons x l => cases l with
    | nil => cases h; rfl
    | cons _ _ => cases h
noncomputable def two? : List AV → Option (AV × AV) | a :: l => (one? l).map fun b => (a, b) | [] => none
theorem two?_eq {l : List AV} {p : AV × AV} (h : two? l = some p) : l = [p.1, p.2] := by
  cases l with
  | nil => cases h
  | cons x l =>
    obtain ⟨b, h1, h2⟩ := Option.map_eq_some_iff.mp (show (one? l).map (fun b => (x, b)) = some p from h)
    subst h2
    rw [one?_eq h1]
noncomputable def findM (t : List Nat) (as : List AV) : Option AV := (two? as).bind fun p => p.1.sgn?.bind fun c => p.2.int?.bind fun i => if 0 ≤ i ∧ i ≤ LIM then some (.int (findA c t i.toNat 0)) else none
noncomputable def countM (t : List Nat) (as : List AV) : Option AV := (one? as).bind fun a => a.sgn?.map fun c => .int (t.count c)
noncomputable def getM (ks : List (List Nat)) (vs : List AV) (as : List AV) : Option AV := match as with
  | [] => none
  | a :: l => a.str?.bind fun k => match l with
    | [] => some ((lookA ks vs k).getD .none)
    | d :: l => match l with
      | [] => some ((lookA ks vs k).getD d)
      | _ :: _ => none
noncomputable def splitM (t : List Nat) (as : List AV) : Option AV := match as with
  | [] => if t.all (· < 128) && decide (t.length ≤ LIM) then some (.list ((wordsA t []).map .str)) else none
  | _ :: _ => none
noncomputable def joinM (t : List Nat) (as : List AV) : Option AV := match t with
  | [] => (one? as).bind fun a => a.list?.bind fun l => (strsA l).bind fun ls => if ls.flatten.length ≤ LIM then some (.str ls.flatten) else none
  | _ :: _ => none
noncomputable def methA (m : MT) (x : AV) (as : List AV) : Option AV := match m with
  | .find => x.str?.bind fun t => findM t as
  | .count => x.str?.bind fun t => countM t as
  | .get => (match x with | .dict ks vs => getM ks vs as | _ => none)
  | .split => x.str?.bind fun t => splitM t as
  | .join => x.str?.bind fun t => joinM t as

noncomputable def methHas : MT → AV → Bool
  | .get, .dict _ _ => true
  | .get, _ => false
  | _, .str _ => true
  | _, _ => false

noncomputable def biA : BI → AV → Option AV
  | .len, .str l => if l.length ≤ LIM then some (.int l.length) else none
  | .len, .list l => if l.length ≤ LIM then some (.int l.length) else none
  | .tuple, .list l => if l.length ≤ LIM then some (.tup l) else none
  | .range, .int n => if 0 ≤ n ∧ n ≤ LIM then some (.rng n.toNat) else none
  | _, _ => none

noncomputable def atA (l : List AV) (i : Int) : M AV := if 0 ≤ i then M.lift l[i.toNat]? else M.fail

noncomputable def idxA (cs : List Int) (x y : AV) : M AV := match x with
  | .str l => (match y.int? with | some i => if 0 ≤ i ∧ i ≤ LIM then M.lift (l[i.toNat]?.map fun c => .str [c]) else M.fail | none => M.fail)
  | .tup l => (match y.int? with | some i => if i ≤ LIM then atA l i else M.fail | none => M.fail)
  | .list l => (match y.int? with | some i => if i ≤ LIM then atA l i else M.fail | none => M.fail)
  | .dict ks vs => (match y.str? with | some k => M.lift (lookA ks vs k) | none => M.fail)
  | .cup => (match y.int? with | some i => if i = 0 then M.pure (.list (cs.map .int)) else if i = 1 then M.bind M.get fun d => M.pure (.int d) else M.fail | none => M.fail)
  | _ => M.fail

/-- an absent bound, or an int of 0 or more -/
noncomputable def bndA : List AV → Option (Option Nat)
  | [] => some none
  | [.int i] => if 0 ≤ i ∧ i ≤ LIM then some (some i.toNat) else none
  | _ => none
noncomputable def cutA (l : List Nat) (lo hi : Option Nat) : List Nat := match hi with
  | some h => (l.take h).drop (lo.getD 0)
  | none => l.drop (lo.getD 0)
noncomputable def slcA : AV → List AV → List AV → Option AV
  | .str l, x, y => if l.length ≤ LIM then match bndA x, bndA y with
    | some lo, some hi => some (.str (cutA l lo hi))
    | _, _ => none
    else none
  | _, _, _ => none

noncomputable def itemsA : AV → Option (List AV)
  | .str l => if l.length ≤ LIM then some (l.map fun c => .str [c]) else none
  | .tup l => if l.length ≤ LIM then some l else none
  | .list l => if l.length ≤ LIM then some l else none
  | .rng n => if n ≤ LIM then some ((List.range n).map fun (i : Nat) => AV.int (i : Int)) else none
  | _ => none

noncomputable def isRefA : AV → Bool | .tup _ => true | .list _ => true | _ => false
/-- what a loop may go over -/
noncomputable def itemsF (a : AV) : Option (List AV) := if isRefA a then none else itemsA a

noncomputable def oneA (m : M (List AV)) : M AV := M.bind m fun l => match l with
  | [a] => M.pure a
  | _ => M.fail

noncomputable def compA (c : AV → M Bool) (f : AV → M AV) : List AV → M (List AV)
  | [] => M.pure []
  | a :: l => M.bind (c a) fun t => if t then M.bind (f a) fun y => M.bind (compA c f l) fun ys => M.pure (y :: ys) else compA c f l

noncomputable def noErr {α : Type} (m : M α) : M α := fun d => match m d with
  | some (.ok a, d') => some (.ok a, d')
  | _ => none
/-- of the names those alone that are caught -/
noncomputable def maskA (fv : List Nat) : List AV → Nat → List AV
  | [], _ => []
  | .own _ :: ρ, i => .unb :: maskA fv ρ (i + 1)
  | a :: ρ, i => (if fv.contains i then a else .unb) :: maskA fv ρ (i + 1)

structure Sg where
  F : String → List AV → M AV
  GV : String → Option AV
  cs : List Int
  N : Nat

structure Dn where
  e : List AV → M (List AV)
  c : List AV → M Bool
  b : Bool → List AV → M AV
  t : Bool → List AV → M Bool

noncomputable def Dn.of (e : List AV → M (List AV)) : Dn := ⟨e, fun ρ => M.bind (oneA (e ρ)) fun a => M.lift (truthA a), fun _ _ => M.fail, fun _ _ => M.fail⟩
noncomputable def ret1 (a : AV) : M (List AV) := M.pure [a]

noncomputable def strE : E → Option (List Nat) | .str _ l _ => some l | _ => none
noncomputable def keysA : E → Option (List (List Nat))
  | .nil => some []
  | .cons a b => (strE a).bind fun l => (keysA b).map (l :: ·)
  | _ => none
theorem strE_eq {e : E} {l : List Nat} (h : strE e = some l) : ∃ s p, e = .str s l p := by cases e <;> cases h; exact ⟨_, _, rfl⟩
noncomputable def optA (b : Bool) (m : M (List AV)) : M (List AV) := if b then M.pure [] else M.bind (oneA m) ret1
noncomputable def varA (ρ : List AV) (x : Nat) : M AV := match ρ[x]? with
  | some .unb => M.fail
  | some (.own _) => M.fail
  | some a => M.pure a
  | none => M.fail
noncomputable def ownA (ρ : List AV) (x : Nat) : M (List AV) := match ρ[x]? with
  | some (.own l) => M.pure l
  | _ => M.fail

noncomputable def dn (g : Sg) : E → Dn
  | .nil => ⟨fun _ => M.pure [], fun _ => M.pure true, fun _ _ => M.fail, fun a _ => M.pure a⟩
  | .cons a b => ⟨fun ρ => M.bind (oneA ((dn g a).e ρ)) fun x => M.bind ((dn g b).e ρ) fun y => M.pure (x :: y),
      fun ρ => M.bind ((dn g a).c ρ) fun t => if t then (dn g b).c ρ else M.pure false,
      fun k ρ => if b.isNil then oneA ((dn g a).e ρ) else M.bind (oneA ((dn g a).e ρ)) fun v => M.bind (M.lift (truthA v)) fun t => if t = k then (dn g b).b k ρ else M.pure v,
      fun k ρ => M.bind ((dn g a).c ρ) fun t => if t = k then (dn g b).t k ρ else M.pure t⟩
  | .num i _ => .of fun _ => ret1 (.int i)
  | .str _ l _ => .of fun _ => ret1 (.str l)
  | .bool b _ => .of fun _ => ret1 (.bool b)
  | .non _ => .of fun _ => ret1 .none
  | .neg i _ _ => .of fun _ => ret1 (.int (-i))
  | .var x _ => .of fun ρ => M.bind (varA ρ x) ret1
  | .glb x _ => .of fun _ => M.bind (M.lift (g.GV x)) ret1
  | .bin o a b _ => .of fun ρ => M.bind (oneA ((dn g a).e ρ)) fun x => M.bind (oneA ((dn g b).e ρ)) fun y => M.bind (M.lift (binA o x y)) ret1
  | .cmp o a b _ =>
    ⟨fun ρ => M.bind (oneA ((dn g a).e ρ)) fun x => M.bind (oneA ((dn g b).e ρ)) fun y => M.bind (M.lift (cmpA o x y)) fun t => ret1 (.bool t),
     fun ρ => M.bind (oneA ((dn g a).e ρ)) fun x => M.bind (oneA ((dn g b).e ρ)) fun y => M.lift (cmpA o x y), fun _ _ => M.fail, fun _ _ => M.fail⟩
  | .and es _ => ⟨fun ρ => M.bind ((dn g es).b true ρ) ret1, fun ρ => (dn g es).t true ρ, fun _ _ => M.fail, fun _ _ => M.fail⟩
  | .or es _ => ⟨fun ρ => M.bind ((dn g es).b false ρ) ret1, fun ρ => (dn g es).t false ρ, fun _ _ => M.fail, fun _ _ => M.fail⟩
  | .ite c a b _ =>
    ⟨fun ρ => M.bind ((dn g c).c ρ) fun t => if t then M.bind (oneA ((dn g a).e ρ)) ret1 else M.bind (oneA ((dn g b).e ρ)) ret1,
     fun ρ => M.bind ((dn g c).c ρ) fun t => if t then (dn g a).c ρ else (dn g b).c ρ, fun _ _ => M.fail, fun _ _ => M.fail⟩
  | .tup es _ => .of fun ρ => M.bind ((dn g es).e ρ) fun l => if l.length ≤ LIM then ret1 (.tup l) else M.fail
  | .lst es _ => .of fun ρ => M.bind ((dn g es).e ρ) fun l => if l.length ≤ LIM then ret1 (.list l) else M.fail
  | .dct ks vs _ => .of fun ρ => match keysA ks with
      | some k => M.bind ((dn g vs).e ρ) fun v => if k.length = v.length ∧ 0 < k.length ∧ k.length ≤ 15 ∧ k.Nodup then ret1 (.dict k v) else M.fail
      | none => M.fail
  | .idx a i _ => .of fun ρ => M.bind (oneA ((dn g a).e ρ)) fun x => M.bind (oneA ((dn g i).e ρ)) fun y => M.bind (idxA g.cs x y) ret1
  | .oidx x _ i _ => .of fun ρ => M.bind (ownA ρ x) fun l => M.bind (oneA ((dn g i).e ρ)) fun y => match y with
      | .int i => if i ≤ LIM then M.bind (atA l i) ret1 else M.fail
      | _ => M.fail
  | .slc a lo hi _ _ => .of fun ρ => M.bind (oneA ((dn g a).e ρ)) fun x => M.bind (optA lo.isNil ((dn g lo).e ρ)) fun y => M.bind (optA hi.isNil ((dn g hi).e ρ)) fun z => M.bind (M.lift (slcA x y z)) ret1
  | .call f _ es _ => .of fun ρ => M.bind ((dn g es).e ρ) fun l => M.bind (g.F f l) ret1
  | .bi f _ e _ => .of fun ρ => M.bind (oneA ((dn g e).e ρ)) fun x => M.bind (M.lift (biA f x)) ret1
  | .meth m o _ es _ => .of fun ρ => M.bind (oneA ((dn g o).e ρ)) fun x => M.bind (if methHas m x then M.pure () else M.fail) fun _ => M.bind ((dn g es).e ρ) fun l => M.bind (M.lift (methA m x l)) ret1
  | .comp elt x _ iter ifs _ fv _ => .of fun ρ => M.bind (oneA ((dn g iter).e ρ)) fun it => M.bind (M.lift (itemsA it)) fun l =>
      M.bind (noErr (compA (fun a => (dn g ifs).c ((maskA fv ρ 0).set x a)) (fun a => oneA ((dn g elt).e ((maskA fv ρ 0).set x a))) l)) fun ys => ret1 (.list ys)
  | .rows o _ _ _ _ _ => .of fun ρ => M.bind (oneA ((dn g o).e ρ)) fun x => match x with
      | .str l => if l.length ≤ LIM then ret1 (.int ((l.count 10 : Nat) + 1)) else M.fail
      | _ => M.fail
  | .raw _ => .of fun _ => M.fail

/-! statements -/
set_option genInjectivity false in
set_option genSizeOfSpec false in
inductive S where
  | nil
  | seq (a b : S)
  | asg (x : Nat) (q : Pos) (e : E) (p : Pos)
  | asgO (x : Nat) (q : Pos) (es : E) (r p : Pos)
  | asgT (xs : List (Nat × Pos)) (q : Pos) (e : E) (p : Pos)
  | aug (x : Nat) (q : Pos) (o : BO) (e : E) (p : Pos)
  | setI (x : Nat) (q : Pos) (i : E) (r : Pos) (e : E) (p : Pos)
  | app (x : Nat) (q r : Pos) (e : E) (t p : Pos)
  | ret (e : E) (p : Pos)
  | frz (x : Nat)
  | ite (c : E) (a b : S) (p : Pos)
  | whl (c : E) (b : S) (p : Pos)
  | for (x : Nat) (q : Pos) (e : E) (b : S) (p : Pos)
  | raise (msg : String) (e : E) (q r t p : Pos)
  | cont (p : Pos)
  | tryl (e : E) (ps : List Pos)

noncomputable def tgtsOf (nm : List String) : List (Nat × Pos) → List Expr
  | [] => []
  | (x, q) :: l => .Name (nmAt nm x) q :: tgtsOf nm l

noncomputable def tst (nm : List String) : S → List Stmt
  | .nil => []
  | .seq a b => tst nm a ++ tst nm b
  | .asg x q e p => [.Assign [.Name (nmAt nm x) q] (tx nm e).x p]
  | .asgO x q es r p => [.Assign [.Name (nmAt nm x) q] (.List (tx nm es).l r) p]
  | .asgT xs q e p => [.Assign [.Tuple (tgtsOf nm xs) 0 q] (tx nm e).x p]
  | .aug x q o e p => [.AugAssign (.Name (nmAt nm x) q) o.op (tx nm e).x p]
  | .setI x q i r e p => [.Assign [.Subscript (.Name (nmAt nm x) q) (tx nm i).x r] (tx nm e).x p]
  | .app x q r e t p => [.Expr (.Call (.Attribute (.Name (nmAt nm x) q) (Str.ofString "append") r) [(tx nm e).x] [] t) p]
  | .ret e p => [.Return (some (tx nm e).x) p]
  | .frz _ => []
  | .ite c a b p => [.If (tx nm c).x (tst nm a) (tst nm b) p]
  | .whl c b p => [.While (tx nm c).x (tst nm b) [] p]
  | .for x q e b p => [.For (.Name (nmAt nm x) q) (tx nm e).x (tst nm b) [] p]
  | .raise msg e q r t p => [.Raise (some (.Call (.Name (Str.ofString "SyntaxDie") q) [.Constant (.str (Str.ofString msg)) 0 r, (tx nm e).x] [] t)) none p]
  | .cont p => [.Continue p]
  | .tryl e ps => [.Try [.Return (some (tx nm e).x) (ps.getD 0 ⟨0, 0, 0, 0⟩)]
      [.ExceptHandler (some (.Name (Str.ofString "SyntaxDie") (ps.getD 1 ⟨0, 0, 0, 0⟩))) (some (Str.ofString "fault"))
        [.Return (some (.Attribute (.Name (Str.ofString "fault") (ps.getD 2 ⟨0, 0, 0, 0⟩)) (Str.ofString "line") (ps.getD 3 ⟨0, 0, 0, 0⟩))) (ps.getD 4 ⟨0, 0, 0, 0⟩)] (ps.getD 5 ⟨0, 0, 0, 0⟩)]
      [] [] (ps.getD 6 ⟨0, 0, 0, 0⟩)]

inductive Fl where
  | next | cont
  | ret (a : AV)

noncomputable def isOwn : AV → Bool
  | .own _ => true
  | _ => false
noncomputable def noOwn : List AV → Bool
  | [] => true
  | .own _ :: _ => false
  | _ :: l => noOwn l

noncomputable def iterW (c : List AV → M Bool) (b : List AV → M (Fl × List AV)) : Nat → List AV → M (Fl × List AV)
  | 0, _ => M.fail
  | n + 1, ρ => M.bind (c ρ) fun t => if t then M.bind (b ρ) fun r => match r.1 with
      | .ret a => M.pure (.ret a, r.2)
      | _ => iterW c b n r.2
    else M.pure (.next, ρ)

noncomputable def iterF (x : Nat) (b : List AV → M (Fl × List AV)) : List AV → List AV → M (Fl × List AV)
  | [], ρ => M.pure (.next, ρ)
  | a :: l, ρ => M.bind (b (ρ.set x a)) fun r => match r.1 with
      | .ret a => M.pure (.ret a, r.2)
      | _ => iterF x b l r.2

noncomputable def setsA : List (Nat × Pos) → List AV → List AV → List AV
  | (x, _) :: xs, v :: vs, ρ => setsA xs vs (ρ.set x v)
  | _, _, ρ => ρ

noncomputable def augA (o : BO) (x y : AV) : Option AV := match o with
  | .add => (match x with
    | .int a => y.int?.map fun b => .int (a + b)
    | .str a => y.str?.bind fun b => if a.length + b.length ≤ LIM then some (.str (a ++ b)) else none
    | _ => none)
  | .sub => x.int?.bind fun a => y.int?.map fun b => .int (a - b)
  | _ => none

noncomputable def ds (g : Sg) : S → List AV → M (Fl × List AV)
  | .nil, ρ => M.pure (.next, ρ)
  | .seq a b, ρ => M.bind (ds g a ρ) fun r => match r.1 with
      | .next => ds g b r.2
      | f => M.pure (f, r.2)
  | .asg x _ e _, ρ => M.bind (oneA ((dn g e).e ρ)) fun a => M.pure (.next, ρ.set x a)
  | .asgO x _ es _ _, ρ => M.bind ((dn g es).e ρ) fun l => if l.length ≤ LIM then M.pure (.next, ρ.set x (.own l)) else M.fail
  | .asgT xs _ e _, ρ => M.bind (oneA ((dn g e).e ρ)) fun a => match a with
      | .tup l => if l.length = xs.length ∧ l.length ≤ LIM then M.pure (.next, setsA xs l ρ) else M.fail
      | _ => M.fail
  | .aug x _ o e _, ρ => M.bind (varA ρ x) fun a => M.bind (oneA ((dn g e).e ρ)) fun b => M.bind (M.lift (augA o a b)) fun v => M.pure (.next, ρ.set x v)
  | .setI x _ i _ e _, ρ => match ρ[x]? with
      | some .cup => M.bind (oneA ((dn g e).e ρ)) fun v => M.bind (oneA ((dn g i).e ρ)) fun k => match v, k with
        | .int n, .int k => if k = 1 then M.bind (M.set n) fun _ => M.pure (.next, ρ) else M.fail
        | _, _ => M.fail
      | some (.own l) => M.bind (oneA ((dn g e).e ρ)) fun v => M.bind (oneA ((dn g i).e ρ)) fun k => match k with
        | .int n => if 0 ≤ n ∧ n < l.length ∧ l.length ≤ LIM ∧ noOwn (ρ.set x .none) then M.pure (.next, ρ.set x (.list (l.set n.toNat v))) else M.fail
        | _ => M.fail
      | _ => M.fail
  | .app x _ _ e _ _, ρ => M.bind (ownA ρ x) fun l => M.bind (oneA ((dn g e).e ρ)) fun v => if l.length ≤ LIM ∧ noOwn (ρ.set x .none) then M.pure (.next, ρ.set x (.own (l ++ [v]))) else M.fail
  | .ret e _, ρ => M.bind (oneA ((dn g e).e ρ)) fun a => M.pure (.ret a, ρ)
  | .frz x, ρ => M.bind (ownA ρ x) fun l => if noOwn (ρ.set x .none) then M.pure (.next, ρ.set x (.list l)) else M.fail
  | .ite c a b _, ρ => M.bind ((dn g c).c ρ) fun t => if t then ds g a ρ else ds g b ρ
  | .whl c b _, ρ => iterW (dn g c).c (ds g b) g.N ρ
  | .for x _ e b _, ρ => M.bind (oneA ((dn g e).e ρ)) fun it => M.bind (M.lift (itemsF it)) fun l => iterF x (ds g b) l ρ
  | .raise _ e _ _ _ _, ρ => M.bind (oneA ((dn g e).e ρ)) fun a => match a with
      | .int l => M.raise l
      | _ => M.fail
  | .cont _, ρ => M.pure (.cont, ρ)
  | .tryl e _, ρ => fun d => match oneA ((dn g e).e ρ) d with
      | some (.ok a, d') => some (.ok (.ret a, ρ), d')
      | some (.error l, d') => some (.ok (.ret (.int l), ρ), d')
      | none => none

noncomputable def initA (args : List AV) (n : Nat) : List AV := args ++ List.replicate (n - args.length) .unb

noncomputable def runA (g : Sg) (n : Nat) (b : S) (args : List AV) : M AV := M.bind (ds g b (initA args n)) fun r => match r.1 with
  | .ret a => M.pure a
  | _ => M.pure .none

/-! the words, one by one -/
theorem dn_nil {g : Sg} : dn g (.nil) = ⟨fun _ => M.pure [], fun _ => M.pure true, fun _ _ => M.fail, fun a _ => M.pure a⟩ := rfl
theorem dn_cons {g : Sg} {a b} : dn g (.cons a b) = ⟨fun ρ => M.bind (oneA ((dn g a).e ρ)) fun x => M.bind ((dn g b).e ρ) fun y => M.pure (x :: y),
      fun ρ => M.bind ((dn g a).c ρ) fun t => if t then (dn g b).c ρ else M.pure false,
      fun k ρ => if b.isNil then oneA ((dn g a).e ρ) else M.bind (oneA ((dn g a).e ρ)) fun v => M.bind (M.lift (truthA v)) fun t => if t = k then (dn g b).b k ρ else M.pure v,
      fun k ρ => M.bind ((dn g a).c ρ) fun t => if t = k then (dn g b).t k ρ else M.pure t⟩ := rfl
theorem dn_num {g : Sg} {i z1} : dn g (.num i z1) = .of fun _ => ret1 (.int i) := rfl
theorem dn_str {g : Sg} {z1 l z2} : dn g (.str z1 l z2) = .of fun _ => ret1 (.str l) := rfl
theorem dn_bool {g : Sg} {b z1} : dn g (.bool b z1) = .of fun _ => ret1 (.bool b) := rfl
theorem dn_non {g : Sg} {z1} : dn g (.non z1) = .of fun _ => ret1 .none := rfl
theorem dn_neg {g : Sg} {i z1 z2} : dn g (.neg i z1 z2) = .of fun _ => ret1 (.int (-i)) := rfl
theorem dn_var {g : Sg} {x z1} : dn g (.var x z1) = .of fun ρ => M.bind (varA ρ x) ret1 := rfl
theorem dn_glb {g : Sg} {x z1} : dn g (.glb x z1) = .of fun _ => M.bind (M.lift (g.GV x)) ret1 := rfl
theorem dn_bin {g : Sg} {o a b z1} : dn g (.bin o a b z1) = .of fun ρ => M.bind (oneA ((dn g a).e ρ)) fun x => M.bind (oneA ((dn g b).e ρ)) fun y => M.bind (M.lift (binA o x y)) ret1 := rfl
theorem dn_cmp {g : Sg} {o a b z1} : dn g (.cmp o a b z1) =
    ⟨fun ρ => M.bind (oneA ((dn g a).e ρ)) fun x => M.bind (oneA ((dn g b).e ρ)) fun y => M.bind (M.lift (cmpA o x y)) fun t => ret1 (.bool t),
     fun ρ => M.bind (oneA ((dn g a).e ρ)) fun x => M.bind (oneA ((dn g b).e ρ)) fun y => M.lift (cmpA o x y), fun _ _ => M.fail, fun _ _ => M.fail⟩ := rfl
theorem dn_and {g : Sg} {es z1} : dn g (.and es z1) = ⟨fun ρ => M.bind ((dn g es).b true ρ) ret1, fun ρ => (dn g es).t true ρ, fun _ _ => M.fail, fun _ _ => M.fail⟩ := rfl
theorem dn_or {g : Sg} {es z1} : dn g (.or es z1) = ⟨fun ρ => M.bind ((dn g es).b false ρ) ret1, fun ρ => (dn g es).t false ρ, fun _ _ => M.fail, fun _ _ => M.fail⟩ := rfl
theorem dn_ite {g : Sg} {c a b z1} : dn g (.ite c a b z1) =
    ⟨fun ρ => M.bind ((dn g c).c ρ) fun t => if t then M.bind (oneA ((dn g a).e ρ)) ret1 else M.bind (oneA ((dn g b).e ρ)) ret1,
     fun ρ => M.bind ((dn g c).c ρ) fun t => if t then (dn g a).c ρ else (dn g b).c ρ, fun _ _ => M.fail, fun _ _ => M.fail⟩ := rfl
theorem dn_tup {g : Sg} {es z1} : dn g (.tup es z1) = .of fun ρ => M.bind ((dn g es).e ρ) fun l => if l.length ≤ LIM then ret1 (.tup l) else M.fail := rfl
theorem dn_lst {g : Sg} {es z1} : dn g (.lst es z1) = .of fun ρ => M.bind ((dn g es).e ρ) fun l => if l.length ≤ LIM then ret1 (.list l) else M.fail := rfl
theorem dn_dct {g : Sg} {ks vs z1} : dn g (.dct ks vs z1) = .of fun ρ => match keysA ks with
      | some k => M.bind ((dn g vs).e ρ) fun v => if k.length = v.length ∧ 0 < k.length ∧ k.length ≤ 15 ∧ k.Nodup then ret1 (.dict k v) else M.fail
      | none => M.fail := rfl
theorem dn_idx {g : Sg} {a i z1} : dn g (.idx a i z1) = .of fun ρ => M.bind (oneA ((dn g a).e ρ)) fun x => M.bind (oneA ((dn g i).e ρ)) fun y => M.bind (idxA g.cs x y) ret1 := rfl
theorem dn_oidx {g : Sg} {x z1 i z2} : dn g (.oidx x z1 i z2) = .of fun ρ => M.bind (ownA ρ x) fun l => M.bind (oneA ((dn g i).e ρ)) fun y => match y with
      | .int i => if i ≤ LIM then M.bind (atA l i) ret1 else M.fail
      | _ => M.fail := rfl
theorem dn_slc {g : Sg} {a lo hi z1 z2} : dn g (.slc a lo hi z1 z2) = .of fun ρ => M.bind (oneA ((dn g a).e ρ)) fun x => M.bind (optA lo.isNil ((dn g lo).e ρ)) fun y => M.bind (optA hi.isNil ((dn g hi).e ρ)) fun z => M.bind (M.lift (slcA x y z)) ret1 := rfl
theorem dn_call {g : Sg} {f z1 es z2} : dn g (.call f z1 es z2) = .of fun ρ => M.bind ((dn g es).e ρ) fun l => M.bind (g.F f l) ret1 := rfl
theorem dn_bi {g : Sg} {f z1 e z2} : dn g (.bi f z1 e z2) = .of fun ρ => M.bind (oneA ((dn g e).e ρ)) fun x => M.bind (M.lift (biA f x)) ret1 := rfl
theorem dn_meth {g : Sg} {m o z1 es z2} : dn g (.meth m o z1 es z2) = .of fun ρ => M.bind (oneA ((dn g o).e ρ)) fun x => M.bind (if methHas m x then M.pure () else M.fail) fun _ => M.bind ((dn g es).e ρ) fun l => M.bind (M.lift (methA m x l)) ret1 := rfl
theorem dn_comp {g : Sg} {elt x z1 iter ifs z2 fv z3} : dn g (.comp elt x z1 iter ifs z2 fv z3) = .of fun ρ => M.bind (oneA ((dn g iter).e ρ)) fun it => M.bind (M.lift (itemsA it)) fun l =>
      M.bind (noErr (compA (fun a => (dn g ifs).c ((maskA fv ρ 0).set x a)) (fun a => oneA ((dn g elt).e ((maskA fv ρ 0).set x a))) l)) fun ys => ret1 (.list ys) := rfl
theorem dn_rows {g : Sg} {o z1 z2 z3 z4 z5} : dn g (.rows o z1 z2 z3 z4 z5) = .of fun ρ => M.bind (oneA ((dn g o).e ρ)) fun x => match x with
      | .str l => if l.length ≤ LIM then ret1 (.int ((l.count 10 : Nat) + 1)) else M.fail
      | _ => M.fail := rfl
theorem dn_raw {g : Sg} {z1} : dn g (.raw z1) = .of fun _ => M.fail := rfl
set_option tactic.hygienic true
theorem ds_nil {g : Sg} {ρ : List AV} : ds g (.nil) ρ = M.pure (.next, ρ) := rfl
theorem ds_seq {g : Sg} {a b} {ρ : List AV} : ds g (.seq a b) ρ = M.bind (ds g a ρ) fun r => match r.1 with
      | .next => ds g b r.2
      | f => M.pure (f, r.2) := rfl
theorem ds_asg {g : Sg} {x z1 e z2} {ρ : List AV} : ds g (.asg x z1 e z2) ρ = M.bind (oneA ((dn g e).e ρ)) fun a => M.pure (.next, ρ.set x a) := rfl
theorem ds_asgO {g : Sg} {x z1 es z2 z3} {ρ : List AV} : ds g (.asgO x z1 es z2 z3) ρ = M.bind ((dn g es).e ρ) fun l => if l.length ≤ LIM then M.pure (.next, ρ.set x (.own l)) else M.fail := rfl
theorem ds_asgT {g : Sg} {xs z1 e z2} {ρ : List AV} : ds g (.asgT xs z1 e z2) ρ = M.bind (oneA ((dn g e).e ρ)) fun a => match a with
      | .tup l => if l.length = xs.length ∧ l.length ≤ LIM then M.pure (.next, setsA xs l ρ) else M.fail
      | _ => M.fail := rfl
theorem ds_aug {g : Sg} {x z1 o e z2} {ρ : List AV} : ds g (.aug x z1 o e z2) ρ = M.bind (varA ρ x) fun a => M.bind (oneA ((dn g e).e ρ)) fun b => M.bind (M.lift (augA o a b)) fun v => M.pure (.next, ρ.set x v) := rfl
theorem ds_setI {g : Sg} {x z1 i z2 e z3} {ρ : List AV} : ds g (.setI x z1 i z2 e z3) ρ = match ρ[x]? with
      | some .cup => M.bind (oneA ((dn g e).e ρ)) fun v => M.bind (oneA ((dn g i).e ρ)) fun k => match v, k with
        | .int n, .int k => if k = 1 then M.bind (M.set n) fun _ => M.pure (.next, ρ) else M.fail
        | _, _ => M.fail
      | some (.own l) => M.bind (oneA ((dn g e).e ρ)) fun v => M.bind (oneA ((dn g i).e ρ)) fun k => match k with
        | .int n => if 0 ≤ n ∧ n < l.length ∧ l.length ≤ LIM ∧ noOwn (ρ.set x .none) then M.pure (.next, ρ.set x (.list (l.set n.toNat v))) else M.fail
        | _ => M.fail
      | _ => M.fail := rfl
theorem ds_app {g : Sg} {x z1 z2 e z3 z4} {ρ : List AV} : ds g (.app x z1 z2 e z3 z4) ρ = M.bind (ownA ρ x) fun l => M.bind (oneA ((dn g e).e ρ)) fun v => if l.length ≤ LIM ∧ noOwn (ρ.set x .none) then M.pure (.next, ρ.set x (.own (l ++ [v]))) else M.fail := rfl
set_option tactic.hygienic false
theorem ds_ret {g : Sg} {e z1} {ρ : List AV} : ds g (.ret e z1) ρ = M.bind (oneA ((dn g e).e ρ)) fun a => M.pure (.ret a, ρ) := rfl
set_option tactic.hygienic true
theorem ds_frz {g : Sg} {x} {ρ : List AV} : ds g (.frz x) ρ = M.bind (ownA ρ x) fun l => if noOwn (ρ.set x .none) then M.pure (.next, ρ.set x (.list l)) else M.fail := rfl
set_option tactic.hygienic false
theorem ds_ite {g : Sg} {c a b z1} {ρ : List AV} : ds g (.ite c a b z1) ρ = M.bind ((dn g c).c ρ) fun t => if t then ds g a ρ else ds g b ρ := rfl
theorem ds_whl {g : Sg} {c b z1} {ρ : List AV} : ds g (.whl c b z1) ρ = iterW (dn g c).c (ds g b) g.N ρ := rfl
theorem ds_for {g : Sg} {x z1 e b z2} {ρ : List AV} : ds g (.for x z1 e b z2) ρ = M.bind (oneA ((dn g e).e ρ)) fun it => M.bind (M.lift (itemsF it)) fun l => iterF x (ds g b) l ρ := rfl
theorem ds_raise {g : Sg} {z1 e z2 z3 z4 z5} {ρ : List AV} : ds g (.raise z1 e z2 z3 z4 z5) ρ = M.bind (oneA ((dn g e).e ρ)) fun a => match a with
      | .int l => M.raise l
      | _ => M.fail := rfl
theorem ds_cont {g : Sg} {z1} {ρ : List AV} : ds g (.cont z1) ρ = M.pure (.cont, ρ) := rfl
theorem ds_tryl {g : Sg} {e z1} {ρ : List AV} : ds g (.tryl e z1) ρ = fun d => match oneA ((dn g e).e ρ) d with
      | some (.ok a, d') => some (.ok (.ret a, ρ), d')
      | some (.error l, d') => some (.ok (.ret (.int l), ρ), d')
      | none => none := rfl
end Mine
namespace Mine
open PySem PySem.W PyProof.Rows PySem.Calls

structure Cx where
  prog : Program
  w : World
  base : Heap
  mg : Str → Option Value
  mb : Str → Option Value
  g : Sg
  cup : Addr
  lst : Addr
  /-- the address of the text's class of exceptions -/
  die : Addr

/-- an exception of the text's, with its line; it was made since h0; its trace is empty, or at rest, or the frame's -/
noncomputable def Fly (C : Cx) (X0 : List Addr) (h0 : Heap) (fr : Option Addr) (h : Heap) (e : Addr) (l : Int) : Prop :=
  h0.get? e = none ∧ ∃ oe vs D m t, h.get? e = some oe ∧ oe.cls = .ref C.die ∧ oe.data = .fields vs ∧ oe.dict = some D ∧ (h0.get? D = none ∧ D ∉ X0) ∧ h.Ns D m ∧ m "line" = some (.int l t) ∧
    (vs[1]? = some .none ∨ ∃ T oT ts, vs[1]? = some (.ref T) ∧ h0.get? T = none ∧ T ≠ e ∧ h.get? T = some oT ∧ oT.data = .fields ts ∧ (ts[3]? = some .none ∨ ∃ L, fr = some L ∧ ts[3]? = some (rawInt L)))

structure Fx where
  C : Cx
  A : Around
  env : Env
  fenv : Env
  outer : List Env
  X0 : List Addr
  Y0 : List Addr
  h0 : Heap
  nm : List String

/-! the relation of concrete to abstract values -/
mutual
noncomputable def Rep (C : Cx) (X : List Addr) (h : Heap) : AV → Value → Prop
  | .unb, _ => False
  | .none, v => v = .none
  | .bool b, v => v = .bool b
  | .int i, v => ∃ t, v = .int i t
  | .str l, v => ∃ t, v = .str ⟨l.toArray⟩ t
  | .tup l, v => ∃ d vs, v = .ref d ∧ d ∉ X ∧ IsT h d vs.toArray 0 ∧ RepL C X h l vs
  | .list l, v => ∃ d vs, v = .ref d ∧ d ∉ X ∧ h.IsList d vs.toArray ∧ RepL C X h l vs
  | .own _, _ => False
  | .dict ks l, v => ∃ d vs f, v = .ref d ∧ d ∉ X ∧ (d == sysModules) = false ∧ h.MapOf (strKind C.prog C.w) d f ∧ RepL C X h l vs ∧ ks.length = vs.length ∧ ∀ k, f k = (ks.zip vs).lookup k.cps.toList
  | .rng n, v => ∃ d t u x, v = .ref d ∧ d ∉ X ∧ IsRange h d 0 n 1 t u x
  | .cup, v => v = .ref C.cup
noncomputable def RepL (C : Cx) (X : List Addr) (h : Heap) : List AV → List Value → Prop
  | [], [] => True
  | a :: l, v :: vs => Rep C X h a v ∧ RepL C X h l vs
  | _, _ => False
end

theorem RepL.length {C : Cx} {X : List Addr} {h : Heap} : ∀ {l : List AV} {vs : List Value}, RepL C X h l vs → vs.length = l.length
  | [], [], _ => rfl
  | _ :: _, _ :: _, x => by rw [List.length_cons, List.length_cons, RepL.length x.2]
  | [], _ :: _, x => x.elim
  | _ :: _, [], x => x.elim

/-- what a step may do to the objects that stand: of those in X the slots alone, of those in W all, of the rest nothing -/
noncomputable def Kept (X W : List Addr) (h h' : Heap) : Prop := ∀ b o, h.get? b = some o → b ∉ W → (∃ sl, h'.get? b = some { o with slots := sl }) ∧ (b ∉ X → h'.get? b = some o)
theorem Kept.refl (X W : List Addr) (h : Heap) : Kept X W h h := fun _ o e _ => ⟨⟨o.slots, e⟩, fun _ => e⟩
theorem Kept.of {X W : List Addr} {h h' : Heap} (k : ∀ b o, h.get? b = some o → h'.get? b = some o) : Kept X W h h' := fun b o e _ => ⟨⟨o.slots, k b o e⟩, fun _ => k b o e⟩
theorem Kept.trans {X W : List Addr} {h h' h'' : Heap} (x : Kept X W h h') (y : Kept X W h' h'') : Kept X W h h'' := fun b o e n => by
  obtain ⟨⟨sl, e1⟩, k1⟩ := x b o e n
  obtain ⟨⟨sl', e2⟩, _⟩ := y b _ e1 n
  exact ⟨⟨sl', e2⟩, fun hx => (y b o (k1 hx) n).2 hx⟩
theorem Kept.mono {X X' W W' : List Addr} {h h' : Heap} (x : Kept X W h h') (hX : ∀ b ∈ X, b ∈ X') (hW : ∀ b ∈ W, b ∈ W') : Kept X' W' h h' := fun b o e n =>
  let y := x b o e fun q => n (hW b q); ⟨y.1, fun q => y.2 fun z => q (hX b z)⟩
theorem Kept.but {X W : List Addr} {a : Addr} {h h' : Heap} (ha : a ∈ W) (k : Heap.ExtBut a h h') : Kept X W h h' := fun b o e n =>
  have := k b o (fun q => n (q ▸ ha)) e; ⟨⟨o.slots, this⟩, fun _ => this⟩
/-- what was new at the start does not count -/
theorem Kept.drop {X X' W W' : List Addr} {h h' : Heap} (x : Kept X' W' h h') (hX : ∀ b ∈ X', b ∈ X ∨ h.get? b = none) (hW : ∀ b ∈ W', b ∈ W ∨ h.get? b = none) : Kept X W h h' := fun b o e n => by
  have nW : b ∉ W' := fun q => (hW b q).elim n fun z => by rw [e] at z; cases z
  refine ⟨(x b o e nW).1, fun nX => (x b o e nW).2 fun q => (hX b q).elim nX fun z => by rw [e] at z; cases z⟩

section
variable {C : Cx} {X X' W : List Addr} {h h' : Heap}

mutual
theorem Rep.move (k : ∀ b o, h.get? b = some o → b ∉ X → b ∉ X' ∧ h'.get? b = some o) : ∀ (a : AV) {v : Value}, Rep C X h a v → Rep C X' h' a v
  | .unb, _, x => x.elim
  | .none, _, x => x
  | .bool _, _, x => x
  | .int _, _, x => x
  | .str _, _, x => x
  | .tup l, _, x => by obtain ⟨d, vs, e, n, ho, q⟩ := x; exact ⟨d, vs, e, (k d _ ho n).1, (k d _ ho n).2, RepL.move k l q⟩
  | .list l, _, x => by obtain ⟨d, vs, e, n, ⟨o, ho, r⟩, q⟩ := x; exact ⟨d, vs, e, (k d o ho n).1, ⟨o, (k d o ho n).2, r⟩, RepL.move k l q⟩
  | .own _, _, x => x.elim
  | .dict _ l, _, x => by obtain ⟨d, vs, f, e, n, y, ⟨o, es, ep, ho, r⟩, q, z⟩ := x; exact ⟨d, vs, f, e, (k d o ho n).1, y, ⟨o, es, ep, (k d o ho n).2, r⟩, RepL.move k l q, z⟩
  | .rng _, _, x => by obtain ⟨d, t, u, x, e, n, ho⟩ := x; exact ⟨d, t, u, x, e, (k d _ ho n).1, (k d _ ho n).2⟩
  | .cup, _, x => x
theorem RepL.move (k : ∀ b o, h.get? b = some o → b ∉ X → b ∉ X' ∧ h'.get? b = some o) : ∀ (l : List AV) {vs : List Value}, RepL C X h l vs → RepL C X' h' l vs
  | [], [], _ => trivial
  | a :: l, _ :: _, x => ⟨Rep.move k a x.1, RepL.move k l x.2⟩
  | [], _ :: _, x => x.elim
  | _ :: _, [], x => x.elim
end

theorem Kept.rep {X0 : List Addr} (k : Kept X0 W h h') (hX : ∀ b ∈ X0, b ∈ X) (hW : ∀ b ∈ W, b ∈ X) {a : AV} {v : Value} (x : Rep C X h a v) : Rep C X h' a v := Rep.move (fun b o e n => ⟨n, (k b o e fun q => n (hW b q)).2 fun q => n (hX b q)⟩) a x
theorem Kept.repL {X0 : List Addr} (k : Kept X0 W h h') (hX : ∀ b ∈ X0, b ∈ X) (hW : ∀ b ∈ W, b ∈ X) {l : List AV} {vs : List Value} (x : RepL C X h l vs) : RepL C X h' l vs := RepL.move (fun b o e n => ⟨n, (k b o e fun q => n (hW b q)).2 fun q => n (hX b q)⟩) l x
/-- X may shrink -/
theorem Rep.less (hX : ∀ b ∈ X', b ∈ X) {a : AV} {v : Value} (x : Rep C X h a v) : Rep C X' h a v := Rep.move (fun b _ e n => ⟨fun q => n (hX b q), e⟩) a x
theorem RepL.less (hX : ∀ b ∈ X', b ∈ X) {l : List AV} {vs : List Value} (x : RepL C X h l vs) : RepL C X' h l vs := RepL.move (fun b _ e n => ⟨fun q => n (hX b q), e⟩) l x
/-- X may grow by what does not stand -/
theorem Rep.more (hX : ∀ b ∈ X', b ∈ X ∨ h.get? b = none) {a : AV} {v : Value} (x : Rep C X h a v) : Rep C X' h a v :=
  Rep.move (fun b _ e n => ⟨fun q => (hX b q).elim n fun z => (by rw [e] at z; cases z), e⟩) a x
theorem RepL.more (hX : ∀ b ∈ X', b ∈ X ∨ h.get? b = none) {l : List AV} {vs : List Value} (x : RepL C X h l vs) : RepL C X' h l vs :=
  RepL.move (fun b _ e n => ⟨fun q => (hX b q).elim n fun z => (by rw [e] at z; cases z), e⟩) l x

theorem RepL.append : ∀ {l : List AV} {vs : List Value} {l' : List AV} {vs' : List Value}, RepL C X h l vs → RepL C X h l' vs' → RepL C X h (l ++ l') (vs ++ vs')
  | [], [], _, _, _, y => y
  | _ :: _, _ :: _, _, _, x, y => ⟨x.1, RepL.append x.2 y⟩
  | [], _ :: _, _, _, x, _ => x.elim
  | _ :: _, [], _, _, x, _ => x.elim
theorem RepL.get : ∀ {l : List AV} {vs : List Value} {i : Nat} {a : AV}, RepL C X h l vs → l[i]? = some a → ∃ v, vs[i]? = some v ∧ Rep C X h a v
  | a :: _, v :: _, 0, _, x, e => ⟨v, rfl, by cases e; exact x.1⟩
  | _ :: l, _ :: vs, i + 1, a, x, e => RepL.get (l := l) (vs := vs) (i := i) x.2 (by simpa using e)
  | [], _, _, _, _, e => by cases e
  | _ :: _, [], _, _, x, _ => x.elim
theorem RepL.set : ∀ {l : List AV} {vs : List Value} {i : Nat} {a : AV} {v : Value}, RepL C X h l vs → Rep C X h a v → RepL C X h (l.set i a) (vs.set i v)
  | [], [], _, _, _, _, _ => trivial
  | _ :: _, _ :: _, 0, _, _, x, y => ⟨y, x.2⟩
  | _ :: _, _ :: _, i + 1, _, _, x, y => ⟨x.1, RepL.set (i := i) x.2 y⟩
  | [], _ :: _, _, _, _, x, _ => x.elim
  | _ :: _, [], _, _, _, x, _ => x.elim
end

noncomputable def CupAt (C : Cx) (h : Heap) (d : Int) : Prop := (∃ t, h.IsList C.cup #[.ref C.lst, .int d t]) ∧ C.lst ≠ C.cup ∧ ∃ vs : List Value, h.IsList C.lst vs.toArray ∧ RepL C [] h (C.g.cs.map .int) vs

/-- a name of the frame holds a value -/
noncomputable def VarAt (env : Env) (h : Heap) (n : Str) (v : Value) : Prop :=
  (env.kindOf n = some .local ∧ ∃ m, h.Ns env.locals m ∧ m n = some v) ∨
  ((env.kindOf n = some .cell ∨ env.kindOf n = some .free) ∧ ∃ c, env.cells.lookup n = some c ∧ h.IsCell c (some v))

noncomputable def VarOk (F : Fx) (X : List Addr) (h : Heap) (n : Str) : AV → Prop
  | .unb => True
  | .own l => ∃ d vs, VarAt F.env h n (.ref d) ∧ d ∈ X ∧ (d ∉ F.X0 ∧ d ∉ F.Y0 ∧ F.h0.get? d = none) ∧ h.PlainList d vs.toArray ∧ RepL F.C X h l vs
  | a => ∃ v, VarAt F.env h n v ∧ Rep F.C X h a v

/-- what stands still in a frame -/
structure FOk (F : Fx) (n : Nat) : Prop where
  frames : F.A.frames = some (F.fenv :: F.outer)
  handled : F.A.handled = none
  room : F.A.depth + n < recursionLimit
  units : F.A.units + 100 + 10 * n < cLine
  kind : F.env.scope.kind = .function
  globals : F.env.globals = mainGlobals
  builtins : F.env.builtins = builtinsNs
  cupX : F.C.cup ∈ F.X0
  lstX : F.C.lst ∉ F.X0
  locX : F.env.locals ∈ F.X0
  locN : F.h0.get? F.env.locals = none
  locC : F.env.locals ≠ F.C.cup
  cellC : ∀ n c, F.env.cells.lookup n = some c → c ≠ F.C.cup
  cellX : ∀ n c, F.env.cells.lookup n = some c → c ∈ F.X0
  cellA : ∀ n c n' c', F.env.cells.lookup n = some c → F.env.cells.lookup n' = some c' → n ≠ n' → c ≠ c'
  cellD : ∀ n, (F.env.scope.names.lookup n = some .cell ∨ F.env.scope.names.lookup n = some .free) → ∃ c, F.env.cells.lookup n = some c
  frameX : ∀ e ∈ F.fenv :: F.outer, ∀ L, e.frame = some L → L ∈ F.X0
  yx : ∀ y ∈ F.Y0, y ∉ F.X0
  frame : F.env.frame = F.fenv.frame
  nodup : (F.nm.map Str.ofString).Nodup
  plain : ∀ n ∈ F.nm, (Str.ofString n == ("__debug__" : Str)) = false ∧ (Str.ofString n == ("__classdict__" : Str)) = false
  gmg : F.C.base.Ns mainGlobals F.C.mg
  gmb : F.C.base.Ns builtinsNs F.C.mb
  nolim : F.C.base.NoLimit
  h0b : F.C.base.StaysIn F.h0

structure Iv (F : Fx) (X : List Addr) (ρ : List AV) (d : Int) (h : Heap) : Prop where
  stays : F.C.base.StaysIn h
  ff : h.FunFrames F.C.base (F.fenv :: F.outer)
  sub : ∀ x ∈ F.X0, x ∈ X
  subY : ∀ x ∈ F.Y0, x ∈ X
  old : Kept F.X0 [F.C.cup] F.h0 h
  new : ∀ x ∈ X, F.C.base.get? x = none
  live : ∀ x ∈ X, ∃ o, h.get? x = some o
  lst : F.C.lst ∉ X
  cup : CupAt F.C h d
  ns : ∃ m, h.Ns F.env.locals m
  cells : ∀ n c, F.env.cells.lookup n = some c → ∃ v, h.IsCell c v
  vars : ∀ (i : Nat) (n : String) (a : AV), ρ[i]? = some a → F.nm[i]? = some n → VarOk F X h (Str.ofString n) a

theorem Kept.ns {X : List Addr} {cup L : Addr} {h h' : Heap} {m : Str → Option Value} (k : Kept X [cup] h h') (hc : ∃ vs, h.IsList cup vs) (x : h.Ns L m) : h'.Ns L m := by
  obtain ⟨o, es, ep, ho, hd, r⟩ := x
  obtain ⟨vs, oc, hoc, _, n, hdc⟩ := hc
  obtain ⟨⟨sl, e⟩, _⟩ := k L o ho (by intro q; rw [List.mem_singleton] at q; subst q; rw [ho] at hoc; cases hoc; rw [hd] at hdc; cases hdc)
  exact ⟨_, es, ep, e, hd, r⟩
theorem Kept.cell {X : List Addr} {cup c : Addr} {h h' : Heap} {v : Option Value} (k : Kept X [cup] h h') (hc : ∃ vs, h.IsList cup vs) (x : h.IsCell c v) : h'.IsCell c v := by
  obtain ⟨o, ho, hd⟩ := x
  obtain ⟨vs, oc, hoc, _, n, hdc⟩ := hc
  obtain ⟨⟨sl, e⟩, _⟩ := k c o ho (by intro q; rw [List.mem_singleton] at q; subst q; rw [ho] at hoc; cases hoc; rw [hd] at hdc; cases hdc)
  exact ⟨_, e, hd⟩
theorem Kept.list {X W : List Addr} {d : Addr} {h h' : Heap} {vs : Array Value} (k : Kept X W h h') (hn : d ∉ W) (x : h.IsList d vs) : h'.IsList d vs := by
  obtain ⟨o, ho, hc, n, hd⟩ := x
  obtain ⟨⟨sl, e⟩, _⟩ := k d o ho hn
  exact ⟨_, e, hc, n, hd⟩
theorem CupAt.isList {C : Cx} {h : Heap} {d : Int} (x : CupAt C h d) : ∃ vs, h.IsList C.cup vs := let ⟨⟨t, e⟩, _⟩ := x; ⟨_, e⟩

theorem VarAt.kept {env : Env} {X : List Addr} {cup : Addr} {h h' : Heap} {n : Str} {v : Value} (k : Kept X [cup] h h') (hc : ∃ vs, h.IsList cup vs) : VarAt env h n v → VarAt env h' n v
  | .inl ⟨a, m, b, c⟩ => .inl ⟨a, m, k.ns hc b, c⟩
  | .inr ⟨a, c, b, e⟩ => .inr ⟨a, c, b, k.cell hc e⟩

theorem ffKept {base h h' : Heap} (k : ∀ b o, h.get? b = some o → (∀ vs, o.data ≠ .fields vs) → ∃ o', h'.get? b = some o' ∧ ∀ vs, o'.data ≠ .fields vs) : ∀ {l : List Env}, h.FunFrames base l → h'.FunFrames base l
  | [], _ => trivial
  | _ :: _, ⟨hk, ⟨L, o, hf, hn, ho, hd⟩, hr⟩ => ⟨hk, (let ⟨o', ho', hd'⟩ := k L o ho hd; ⟨L, o', hf, hn, ho', hd'⟩), ffKept k hr⟩

section
variable {F : Fx} {n : Nat} {X : List Addr} {ρ : List AV} {d d' : Int} {h h' : Heap}
theorem cupIn (O : FOk F n) (I : Iv F X ρ d h) : ∀ b ∈ [F.C.cup], b ∈ X := fun b hb => by rw [List.mem_singleton] at hb; subst hb; exact I.sub _ O.cupX

theorem VarOk.kept (O : FOk F n) (I : Iv F X ρ d h) (k : Kept F.X0 [F.C.cup] h h') {m : Str} {a : AV} (x : VarOk F X h m a) : VarOk F X h' m a := by
  have hW := cupIn O I
  cases a <;> first
    | trivial
    | (obtain ⟨dd, vs, q1, q2, q3, q4, q5⟩ := x
       exact ⟨dd, vs, q1.kept k I.cup.isList, q2, q3, q4.at (fun o e => (k _ o e (by intro q; rw [List.mem_singleton] at q; subst q; exact q3.1 O.cupX)).2 q3.1), k.repL I.sub hW q5⟩)
    | (obtain ⟨v, q1, q2⟩ := x
       exact ⟨v, q1.kept k I.cup.isList, k.rep I.sub hW q2⟩)

theorem Iv.kept (O : FOk F n) (I : Iv F X ρ d h) (k : Kept F.X0 [F.C.cup] h h') (c : CupAt F.C h' d') : Iv F X ρ d' h' where
  stays := fun b o e => by
    have := I.stays b o e
    have nX : b ∉ X := fun q => by rw [I.new b q] at e; cases e
    exact (k b o this fun q => nX (cupIn O I b q)).2 fun q => nX (I.sub b q)
  ff := ffKept (fun b o e hd => by
    by_cases q : b = F.C.cup
    · subst q
      obtain ⟨⟨t', oc', hoc', hcc', n', hdc'⟩, _⟩ := c
      exact ⟨oc', hoc', fun vs q => by rw [hdc'] at q; cases q⟩
    · obtain ⟨⟨sl, e'⟩, _⟩ := k b o e (by simpa using q)
      exact ⟨_, e', hd⟩) I.ff
  sub := I.sub
  subY := I.subY
  old := I.old.trans k
  new := I.new
  live := fun x hx => by
    by_cases q : x = F.C.cup
    · subst q; obtain ⟨⟨_, oc', hoc', _⟩, _⟩ := c; exact ⟨_, hoc'⟩
    · obtain ⟨o, ho⟩ := I.live x hx
      obtain ⟨⟨sl, e'⟩, _⟩ := k x o ho (by simpa using q)
      exact ⟨_, e'⟩
  lst := I.lst
  cup := c
  ns := let ⟨m, e⟩ := I.ns; ⟨m, k.ns I.cup.isList e⟩
  cells := fun n c e => let ⟨v, q⟩ := I.cells n c e; ⟨v, k.cell I.cup.isList q⟩
  vars := fun i n a e e' => (I.vars i n a e e').kept O I k

theorem Iv.poke (O : FOk F n) (I : Iv F X ρ d h) {y : Addr} (hy : y ∈ F.Y0) (hn : F.h0.get? y = none) (k : ∀ b o, b ≠ y → h.get? b = some o → h'.get? b = some o) (hl : ∃ o, h'.get? y = some o) : Iv F X ρ d h' := by
  have hX := I.subY y hy
  have mv1 : ∀ {a : AV} {v : Value}, Rep F.C X h a v → Rep F.C X h' a v := fun r => Rep.move (fun b o e q => ⟨q, k b o (fun z => q (z ▸ hX)) e⟩) _ r
  have mv : ∀ {l : List AV} {vs : List Value}, RepL F.C X h l vs → RepL F.C X h' l vs := fun r => RepL.move (fun b o e q => ⟨q, k b o (fun z => q (z ▸ hX)) e⟩) _ r
  have n0 : ∀ {b}, b ∈ F.X0 → b ≠ y := fun hb z => O.yx y hy (z ▸ hb)
  have va : ∀ {m : Str} {v : Value}, VarAt F.env h m v → VarAt F.env h' m v := fun {m v} x => by
    rcases x with ⟨a, mm, ⟨o, es, ep, ho, r⟩, c⟩ | ⟨a, c, b, ⟨o, ho, r⟩⟩
    · exact .inl ⟨a, mm, ⟨o, es, ep, k _ o (n0 O.locX) ho, r⟩, c⟩
    · exact .inr ⟨a, c, b, ⟨o, k _ o (n0 (O.cellX _ _ b)) ho, r⟩⟩
  have vo : ∀ {m : Str} {a : AV}, VarOk F X h m a → VarOk F X h' m a := fun {m a} x => by
    cases a <;> first
      | trivial
      | (obtain ⟨dd, vs, q1, q2, q3, ⟨o, ho⟩, q5⟩ := x
         exact ⟨dd, vs, va q1, q2, q3, ⟨o, k _ _ (fun z => q3.2.1 (z ▸ hy)) ho⟩, mv q5⟩)
      | (obtain ⟨v, q1, q2⟩ := x
         exact ⟨v, va q1, mv1 q2⟩)
  have fr : ∀ (l : List Env), (∀ e ∈ l, ∀ L, e.frame = some L → L ∈ F.X0) → h.FunFrames F.C.base l → h'.FunFrames F.C.base l := by
    intro l
    induction l with
    | nil => intro _ _; trivial
    | cons e l ih =>
      intro hx ⟨hk, ⟨L, o, hf, hn, ho, hd⟩, hr⟩
      exact ⟨hk, ⟨L, o, hf, hn, k L o (n0 (hx e (.head _) L hf)) ho, hd⟩, ih (fun e he => hx e (.tail _ he)) hr⟩
  obtain ⟨⟨t, ⟨oc, hoc, rc⟩⟩, nn, vs, ⟨ol, hol, rl⟩, r⟩ := id I.cup
  have lne : F.C.lst ≠ y := fun z => I.lst (z ▸ hX)
  exact {
    stays := fun b o e => k b o (fun z => by rw [z, I.new y hX] at e; cases e) (I.stays b o e)
    ff := fr _ O.frameX I.ff
    sub := I.sub
    subY := I.subY
    old := fun b o e nw => by
      have hb : b ≠ y := fun z => by rw [z, hn] at e; cases e
      obtain ⟨⟨sl, e1⟩, e2⟩ := I.old b o e nw
      exact ⟨⟨sl, k b _ hb e1⟩, fun nx => k b _ hb (e2 nx)⟩
    new := I.new
    live := fun x hx => by
      by_cases q : x = y
      · subst q; exact hl
      · obtain ⟨o, ho⟩ := I.live x hx; exact ⟨o, k x o q ho⟩
    lst := I.lst
    cup := ⟨⟨t, ⟨oc, k _ oc (n0 O.cupX) hoc, rc⟩⟩, nn, vs, ⟨ol, k _ ol lne hol, rl⟩, by
      have : ∀ (l : List Int) (vs : List Value), RepL F.C [] h (l.map .int) vs → RepL F.C [] h' (l.map .int) vs := by
        intro l
        induction l with
        | nil => intro vs x; cases vs with
          | nil => trivial
          | cons _ _ => exact x.elim
        | cons i l ih => intro vs x; cases vs with
          | nil => exact x.elim
          | cons v vs => exact ⟨x.1, ih _ x.2⟩
      exact this _ _ r⟩
    ns := let ⟨m, o, es, ep, ho, r⟩ := I.ns; ⟨m, o, es, ep, k _ o (n0 O.locX) ho, r⟩
    cells := fun n c e => let ⟨v, o, ho, r⟩ := I.cells n c e; ⟨v, o, k _ o (n0 (O.cellX _ _ e)) ho, r⟩
    vars := fun i n a e e' => vo (I.vars i n a e e') }

theorem Iv.less {ρ' : List AV} (I : Iv F X ρ d h) (hv : ∀ (i : Nat) (a : AV), ρ'[i]? = some a → a = .unb ∨ ρ[i]? = some a) : Iv F X ρ' d h :=
  ⟨I.stays, I.ff, I.sub, I.subY, I.old, I.new, I.live, I.lst, I.cup, I.ns, I.cells, fun i n a e e' => (hv i a e).elim (fun q => by subst q; trivial) fun e => I.vars i n a e e'⟩

/-- the names of the frame are stored -/
theorem RepL.get2 {C : Cx} {X : List Addr} {h : Heap} : ∀ {l : List AV} {vs : List Value} {i : Nat} {v : Value}, RepL C X h l vs → vs[i]? = some v → ∃ a, l[i]? = some a ∧ Rep C X h a v
  | a :: _, v :: _, 0, _, x, e => ⟨a, rfl, by cases e; exact x.1⟩
  | _ :: l, _ :: vs, i + 1, a, x, e => RepL.get2 (l := l) (vs := vs) (i := i) x.2 (by simpa using e)
  | _, [], _, _, _, e => by cases e
  | [], _ :: _, _, _, x, _ => x.elim
end
end Mine
namespace Mine
open PySem PySem.W PyProof.Rows PySem.Calls

theorem bind_pure {α : Type} (m : M α) : M.bind m M.pure = m := by
  funext d; unfold M.bind M.pure
  split <;> simp_all
theorem bind_assoc {α β γ : Type} (m : M α) (f : α → M β) (g : β → M γ) : M.bind (M.bind m f) g = M.bind m fun a => M.bind (f a) g := by
  funext d
  simp only [M.bind]
  rcases m d with _ | ⟨_ | _, _⟩ <;> rfl
theorem pure_bind' {α β : Type} (a : α) (f : α → M β) : M.bind (M.pure a) f = f a := rfl
theorem oneA_bind {α : Type} (m : M α) (f : α → M (List AV)) : oneA (M.bind m f) = M.bind m fun a => oneA (f a) := bind_assoc _ _ _
theorem oneA_ret1 (a : AV) : oneA (ret1 a) = M.pure a := rfl
theorem oneA_fail : oneA M.fail = M.fail := rfl
theorem bind_ret1 {α : Type} (m : M α) (f : α → AV) : (oneA (M.bind m fun a => ret1 (f a))) = M.bind m fun a => M.pure (f a) := bind_assoc _ _ _
theorem oneA_one (m : M AV) : oneA (M.bind m ret1) = m := (bind_assoc _ _ _).trans (bind_pure m)
theorem lift_some {α : Type} {o : Option α} {d d' : Int} {r : Except Int α} (h : M.lift o d = some (r, d')) : ∃ a, o = some a ∧ r = .ok a ∧ d' = d := by
  cases o with
  | none => cases h
  | some a => cases h; exact ⟨a, rfl, rfl, rfl⟩

section
variable {F : Fx} {X : List Addr} {ρ : List AV} {d : Int} {s : Shared} {α β : Type}

noncomputable def Post (F : Fx) (s : Shared) (R : Heap → β → α → Prop) (Q : β → Shared → Prop) (Ec : Value → Shared → Prop) : Except Int α → Int → Prop
  | .ok a, d' => ∀ v h' tk, Kept F.X0 [F.C.cup] s.heap h' → CupAt F.C h' d' → R h' v a → Q v { s with heap := h', toks := tk }
  | .error l, d' => ∀ e h' tk, Kept F.X0 [F.C.cup] s.heap h' → CupAt F.C h' d' → Fly F.C F.X0 F.h0 F.fenv.frame h' e l → Ec (.ref e) { s with heap := h', toks := tk }

theorem Post.on {R : Heap → β → α → Prop} {Q : β → Shared → Prop} {Ec : Value → Shared → Prop} {r : Except Int α} {d' : Int} (P : Post F s R Q Ec r d') {h' : Heap} {tk : Nat}
    (k : Kept F.X0 [F.C.cup] s.heap h') : Post F { s with heap := h', toks := tk } R Q Ec r d' := by
  cases r with
  | ok a => exact fun v h'' tk' k' => P v h'' tk' (k.trans k')
  | error l => exact fun v h'' tk' k' => P v h'' tk' (k.trans k')

/-- a tree does what an abstract computation says -/
noncomputable def Sim (F : Fx) (s : Shared) (d : Int) (t : Sem β) (m : M α) (R : Heap → β → α → Prop) : Prop :=
  ∀ r d' Q Ec, m d = some (r, d') → Post F s R Q Ec r d' → wpAny (model F.C.prog F.C.w) F.A t Q Ec s

theorem Sim.step {t : Sem β} {m : M α} {R : Heap → β → α → Prop} (S : Sim F s d t m R) {γ δ : Type} {R' : Heap → δ → γ → Prop} {f : α → M γ} {r : Except Int γ} {d' : Int} {Q : δ → Shared → Prop} {Ec : Value → Shared → Prop}
    (e : M.bind m f d = some (r, d')) (P : Post F s R' Q Ec r d') {K : β → Shared → Prop}
    (h : ∀ a v h' tk d₁, Kept F.X0 [F.C.cup] s.heap h' → CupAt F.C h' d₁ → R h' v a → f a d₁ = some (r, d') → Post F { s with heap := h', toks := tk } R' Q Ec r d' → K v { s with heap := h', toks := tk }) :
    wpAny (model F.C.prog F.C.w) F.A t K Ec s := by
  rcases M.bind_eq_some e with ⟨l, d₁, e1, e2⟩ | ⟨a, d₁, e1, e2⟩
  · cases e2
    exact S _ _ K Ec e1 P
  · exact S _ _ K Ec e1 fun v h' tk k c x => h a v h' tk d₁ k c x e2 (P.on k)
end

/-! the operations -/
section
variable {F : Fx} {X : List Addr} {ρ : List AV} {d : Int} {s : Shared} {Q : Value → Shared → Prop} {Ec : Value → Shared → Prop} {x y z : AV} {v w : Value}

noncomputable abbrev Back (F : Fx) (X : List Addr) (d : Int) (s : Shared) (Q : Value → Shared → Prop) (z : AV) : Prop :=
  ∀ u h' tk, Kept F.X0 [F.C.cup] s.heap h' → CupAt F.C h' d → Rep F.C X h' z u → Q u { s with heap := h', toks := tk }

theorem Back.here (I : Iv F X ρ d s.heap) {u : Value} {tk : Nat} (B : Back F X d s Q z) (r : Rep F.C X s.heap z u) : Q u { s with toks := tk } := B u s.heap tk (Kept.refl _ _ _) I.cup r

theorem strLen (l : List Nat) : (⟨l.toArray⟩ : Str).length = l.length := by simp [Str.length]
theorem strApp (a b : List Nat) : (⟨a.toArray⟩ : Str) ++ ⟨b.toArray⟩ = ⟨(a ++ b).toArray⟩ := by
  apply Str.ext'; rw [Str.cps_append]; simp
theorem sizeLine' : sizeLine = 16777216 := by rw [sizeLine_eq]

theorem Kept.push {X0 W : List Addr} {h : Heap} (o : Obj) : Kept X0 W h (h.push o) := .of fun _ _ e => Heap.get?_push_of_some o e
theorem CupAt.push {C : Cx} {h : Heap} {d : Int} (c : CupAt C h d) (o : Obj) : CupAt C (h.push o) d := by
  obtain ⟨⟨t, a⟩, n, vs, b, r⟩ := c
  have k : ∀ b o', h.get? b = some o' → (h.push o).get? b = some o' := fun _ _ e => Heap.get?_push_of_some o e
  exact ⟨⟨t, a.at fun o e => k _ o e⟩, n, vs, b.at fun o e => k _ o e, RepL.move (fun b o e q => ⟨q, k b o e⟩) _ r⟩
theorem notIn_of_live {X : List Addr} {h : Heap} (L : ∀ x ∈ X, ∃ o, h.get? x = some o) : h.objs.size ∉ X := fun q => by
  obtain ⟨o, e⟩ := L _ q
  exact Nat.lt_irrefl _ (Heap.lt_size e)

/-- a new tuple -/
theorem newTup (I : Iv F X ρ d s.heap) {l : List AV} {vs : List Value} (r : RepL F.C X s.heap l vs) (B : Back F X d s Q (.tup l)) {tk : Nat} : Q (.ref s.heap.objs.size) { s with heap := s.heap.push { cls := .type "tuple", data := .seq vs.toArray }, toks := tk } :=
  B _ _ _ (Kept.push _) (I.cup.push _) ⟨_, vs, rfl, notIn_of_live I.live, IsT.new _ _, RepL.move (fun _ _ e q => ⟨q, Heap.get?_push_of_some _ e⟩) _ r⟩
theorem newLst (I : Iv F X ρ d s.heap) {l : List AV} {vs : List Value} (r : RepL F.C X s.heap l vs) (B : Back F X d s Q (.list l)) {tk : Nat} : Q (.ref s.heap.objs.size) { s with heap := s.heap.push { cls := .type "list", data := .seq vs.toArray }, toks := tk } :=
  B _ _ _ (Kept.push _) (I.cup.push _) ⟨_, vs, rfl, notIn_of_live I.live, ⟨_, Heap.get?_push_size _ rfl, rfl, _, rfl⟩, RepL.move (fun _ _ e q => ⟨q, Heap.get?_push_of_some _ e⟩) _ r⟩

theorem abs41 {a : Int} (h0 : 0 ≤ a) (h : a < BIG) : a.natAbs < 2 ^ 41 := by simp only [BIG] at h; omega
set_option tactic.hygienic true
theorem bitsBig {a : Int} (h0 : 0 ≤ a) (h : a < BIG) : Builtin.Int.intBits a ≤ 64 := by
  unfold Builtin.Int.intBits
  split
  · exact (Nat.le_of_ble_eq_true rfl)
  · rename_i h1
    have h1 : a ≠ 0 := by simpa using h1
    have := (Nat.log2_lt (n := a.natAbs) (k := 41) (Int.natAbs_ne_zero.mpr h1)).mpr (abs41 h0 h)
    exact (Nat.le_trans (by assumption) (Nat.le_of_ble_eq_true rfl))

set_option tactic.hygienic false
theorem bigN {a : Nat} (h : a ≤ LIM) : a ≤ 16777216 := Nat.le_trans h (Nat.le_of_ble_eq_true rfl)
theorem bigZ {a : Nat} (h : a ≤ LIM) : (a : Int) < 2 ^ 63 := Int.lt_of_le_of_lt (Int.ofNat_le.mpr h) (by decide)
theorem upto4 {p : Nat → Prop} (h0 : p 0) (h1 : p 1) (h2 : p 2) (h3 : p 3) (h4 : p 4) {n : Nat} (h : n ≤ 4) : p n := by
  rcases Nat.lt_or_eq_of_le h with h | h
  · rcases Nat.lt_or_eq_of_le (Nat.le_of_lt_succ h) with h | h
    · rcases Nat.lt_or_eq_of_le (Nat.le_of_lt_succ h) with h | h
      · rcases Nat.lt_or_eq_of_le (Nat.le_of_lt_succ h) with h | h
        · rw [Nat.lt_one_iff.mp h]; exact h0
        · rw [h]; exact h1
      · rw [h]; exact h2
    · rw [h]; exact h3
  · rw [h]; exact h4
theorem mulStr (c : Nat) {k : Int} (h : 0 ≤ k ∧ k ≤ 4) : MulOk ⟨#[c]⟩ k ∧ Txt.mul ⟨#[c]⟩ k = ⟨(List.replicate k.toNat c).toArray⟩ := by
  obtain ⟨n, rfl⟩ := Int.eq_ofNat_of_zero_le h.1
  refine upto4 (p := fun n => MulOk ⟨#[c]⟩ (n : Int) ∧ Txt.mul ⟨#[c]⟩ (n : Int) = ⟨(List.replicate (n : Int).toNat c).toArray⟩) ?_ ?_ ?_ ?_ ?_ (Int.ofNat_le.mp h.2) <;> refine ⟨⟨by decide, fun h1 _ => ?_, fun h1 _ => ?_⟩, ?_⟩ <;>
    first | exact absurd (by decide) h1 | (simp [Txt.mul, Str.empty, Str.length, List.replicate]; done) | (simp [Str.length, Builtin.Str.tooLong, sizeLine_eq]; done)

set_option tactic.hygienic true
theorem binOk (I : Iv F X ρ d s.heap) {o : BO} (e : binA o x y = some z) (hx : Rep F.C X s.heap x v) (hy : Rep F.C X s.heap y w) (B : Back F X d s Q z) :
    wpAny (model F.C.prog F.C.w) F.A (binaryOp o.op v w) Q Ec s := by
  cases o with
  | add =>
    replace e : addA x y = some z := e
    cases x <;> try (cases e; done)
    case int a =>
      obtain ⟨b, hb, ez⟩ := Option.map_eq_some_iff.mp (show (y.int?).map _ = _ from e)
      cases int?_eq hb
      obtain ⟨t, rfl⟩ := hx; obtain ⟨u, rfl⟩ := hy; cases ez
      exact wpAny_add_int (B.here I ⟨_, rfl⟩)
    case str a =>
      have h9 := Option.bind_eq_some_iff.mp (show (y.str?).bind _ = _ from e)
      clear e
      obtain ⟨b, hb, e⟩ := h9
      cases str?_eq hb
      obtain ⟨t, rfl⟩ := hx; obtain ⟨u, rfl⟩ := hy
      split at e
      · rename_i hs
        cases e
        refine PyProof.Rows.add_str (fun t' tk => B.here I ⟨t', ?_⟩) (by rw [strLen, strLen, sizeLine']; exact bigN hs)
        rw [strApp]
      · cases e
    case tup a =>
      have h9 := Option.bind_eq_some_iff.mp (show (y.tup?).bind _ = _ from e)
      clear e
      obtain ⟨b, hb, e⟩ := h9
      cases tup?_eq hb
      obtain ⟨d1, vs, rfl, n1, t1, r1⟩ := hx; obtain ⟨d2, ws, rfl, n2, t2, r2⟩ := hy
      split at e
      · rename_i hs
        cases e
        cases vs with
        | nil =>
          cases a with
          | cons _ _ => exact r1.elim
          | nil => exact concat_meets ⟨_, t1, rfl⟩ ⟨_, t2, rfl⟩ noFill_tuple_add seq_tuple_add PySem.F.slot_tuple_add PySem.F.entry_tuple_add (PySem.F.args_tuple_add_2 _ _) (AutoSeq1.tuple___add___tuple_tuple_0 d1 _ 0 d2 _ 0 rfl) ⟨t1, t2, B.here I ⟨d2, ws, rfl, n2, t2, r2⟩⟩
        | cons v0 vs =>
          cases ws with
          | nil =>
            cases b with
            | cons _ _ => exact r2.elim
            | nil => exact concat_meets ⟨_, t1, rfl⟩ ⟨_, t2, rfl⟩ noFill_tuple_add seq_tuple_add PySem.F.slot_tuple_add PySem.F.entry_tuple_add (PySem.F.args_tuple_add_2 _ _) (AutoSeq1.tuple___add___tuple_tuple_1 d1 _ 0 d2 _ 0 (by simp) rfl) ⟨t1, t2, B.here I ⟨d1, _, rfl, n1, t1, by simpa using r1⟩⟩
          | cons w0 ws =>
            have hl1 := RepL.length r1
            have hl2 := RepL.length r2
            refine P.add_tuple t1 t2 (by simp) (by simp) ?_ (by rw [List.size_toArray, List.size_toArray, sizeLine', hl1, hl2]; exact bigN hs)
            have := newTup (tk := s.toks) I (r1.append r2) B
            simpa using this
      · cases e
  | sub =>
    have h9 := Option.bind_eq_some_iff.mp (show (x.int?).bind _ = _ from e)
    clear e
    obtain ⟨a, ha, e⟩ := h9
    have h9 := Option.map_eq_some_iff.mp e
    clear e
    obtain ⟨b, hb, e⟩ := h9
    cases int?_eq ha; cases int?_eq hb
    obtain ⟨t, rfl⟩ := hx; obtain ⟨u, rfl⟩ := hy; cases e
    exact PyProof.Rows.sub_int' (B.here I ⟨_, rfl⟩)
  | mul =>
    replace e : mulA x y = some z := e
    cases x <;> try (cases e; done)
    case int a =>
      have h9 := Option.bind_eq_some_iff.mp (show (y.int?).bind _ = _ from e)
      clear e
      obtain ⟨b, hb, e⟩ := h9
      cases int?_eq hb
      obtain ⟨t, rfl⟩ := hx; obtain ⟨u, rfl⟩ := hy
      split at e
      · rename_i hs
        cases e
        exact PyProof.Rows.mul_int (B.here I ⟨_, rfl⟩) (IntMulOk.of_left (bitsBig hs.1 hs.2.1))
      · cases e
    case str a =>
      have h9 := Option.bind_eq_some_iff.mp (show (sgnL? a).bind _ = _ from e)
      clear e
      obtain ⟨c, hc, e⟩ := h9
      have h9 := Option.bind_eq_some_iff.mp e
      clear e
      obtain ⟨k, hb, e⟩ := h9
      cases sgnL?_eq hc; cases int?_eq hb
      obtain ⟨t, rfl⟩ := hx; obtain ⟨u, rfl⟩ := hy
      split at e
      · rename_i hs
        cases e
        exact SB.mul (mulStr c hs).1 fun t' tk => B.here I ⟨t', by rw [← (mulStr c hs).2]⟩
      · cases e
  | mod =>
    have h9 := Option.bind_eq_some_iff.mp (show (x.int?).bind _ = _ from e)
    clear e
    obtain ⟨a, ha, e⟩ := h9
    have h9 := Option.bind_eq_some_iff.mp e
    clear e
    obtain ⟨b, hb, e⟩ := h9
    cases int?_eq ha; cases int?_eq hb
    obtain ⟨t, rfl⟩ := hx; obtain ⟨u, rfl⟩ := hy
    split at e
    · rename_i hs
      cases e
      refine PyProof.Rows.mod_int' (Int.ne_of_gt hs.2.2.1) (B.here I ⟨s.toks, ?_⟩)
      rw [Int.fmod_eq_emod_of_nonneg _ (Int.le_of_lt hs.2.2.1)]
    · cases e
  | fdiv =>
    have h9 := Option.bind_eq_some_iff.mp (show (x.int?).bind _ = _ from e)
    clear e
    obtain ⟨a, ha, e⟩ := h9
    have h9 := Option.bind_eq_some_iff.mp e
    clear e
    obtain ⟨b, hb, e⟩ := h9
    cases int?_eq ha; cases int?_eq hb
    obtain ⟨t, rfl⟩ := hx; obtain ⟨u, rfl⟩ := hy
    split at e
    · rename_i hs
      cases e
      refine PyProof.Rows.floordiv_int (Int.ne_of_gt hs.2.2.1) (B.here I ⟨s.toks, ?_⟩) (.inl (PyProof.noPylong_of_log2 ?_))
      · rw [Int.fdiv_eq_ediv_of_nonneg _ (Int.le_of_lt hs.2.2.1)]
      · exact Nat.lt_of_lt_of_le ((Nat.log2_lt (Int.natAbs_ne_zero.mpr (Int.ne_of_gt hs.2.2.1))).mpr (abs41 (Int.le_of_lt hs.2.2.1) hs.2.2.2)) (by decide)
    · cases e

/-! comparisons -/
set_option tactic.hygienic false
theorem intBeq (a b : Int) : (a == b) = decide (a = b) := by by_cases h : a = b <;> simp [h]
theorem strBeq (a b : List Nat) : ((⟨a.toArray⟩ : Str) == ⟨b.toArray⟩) = decide (a = b) := by
  by_cases h : a = b
  · subst h; simp
  · rw [decide_eq_false h]
    refine beq_eq_false_iff_ne.mpr fun e => h ?_
    injection e with e
    simpa using e

theorem shapedItems : ∀ {l : List AV}, PyData.canLayAll0 (toPyL l) = true → PyData.depthAll (toPyL l) ≤ 64 → ∀ x ∈ l, SeqAt.shaped (toPy x) = true
  | a :: l, h, h', x, hx => by
    simp only [toPyL, PyData.canLayAll0, PyData.depthAll, Bool.and_eq_true] at h h'
    rcases List.mem_cons.mp hx with rfl | hx
    · exact Bool.and_eq_true_iff.mpr ⟨h.1, decide_eq_true (Nat.le_trans (Nat.le_max_left _ _) h')⟩
    · exact shapedItems h.2 (Nat.le_trans (Nat.le_max_right _ _) h') x hx

mutual
theorem Rep.reads : ∀ (a : AV) {v : Value}, Rep F.C X s.heap a v → SeqAt.shaped (toPy a) = true → ∃ as, Reads s.heap v (toPy a) as
  | .unb, _, h, _ => h.elim
  | .none, _, h, _ => by subst h; exact ⟨_, .none⟩
  | .bool b, _, h, _ => by subst h; exact ⟨_, .bool b⟩
  | .int i, _, x, _ => by obtain ⟨t, h⟩ := x; subst h; exact ⟨_, .int i t⟩
  | .str l, _, x, _ => by obtain ⟨t, h⟩ := x; subst h; exact ⟨_, .str _ t⟩
  | .tup l, _, x, e => by
    obtain ⟨d, vs, h, _, t, r⟩ := x
    subst h
    obtain ⟨as, q⟩ := RepL.reads l r (shapedItems (by simpa [toPy, PyData.canLay0] using SeqAt.canLay_of_shaped e) (by have := SeqAt.depth_of_shaped e; simp only [toPy, PyData.depth] at this; exact (Nat.le_of_succ_le (by assumption))))
    exact ⟨_, .tuple t rfl rfl (by simpa using q)⟩
  | .list l, _, x, e => by
    obtain ⟨d, vs, h, _, ⟨o, ho, hc, n, hd⟩, r⟩ := x
    subst h
    obtain ⟨as, q⟩ := RepL.reads l r (shapedItems (by simpa [toPy, PyData.canLay0] using SeqAt.canLay_of_shaped e) (by have := SeqAt.depth_of_shaped e; simp only [toPy, PyData.depth] at this; exact (Nat.le_of_succ_le (by assumption))))
    exact ⟨_, .list ho hc hd (by simpa using q)⟩
  | .own _, _, h, _ => h.elim
  | .dict _ _, _, _, e => by cases e
  | .rng _, _, _, e => by cases e
  | .cup, _, _, e => by cases e
theorem RepL.reads : ∀ (l : List AV) {vs : List Value}, RepL F.C X s.heap l vs → (∀ x ∈ l, SeqAt.shaped (toPy x) = true) → ∃ as, ReadsAll s.heap vs (toPyL l) as
  | [], [], _, _ => ⟨_, .nil⟩
  | a :: l, v :: vs, h, e => by
    obtain ⟨as, q⟩ := Rep.reads a h.1 (e a (.head _))
    obtain ⟨bs, q'⟩ := RepL.reads l h.2 fun x hx => e x (.tail _ hx)
    exact ⟨_, .cons q q'⟩
  | [], _ :: _, h, _ => h.elim
  | _ :: _, [], h, _ => h.elim
end

set_option tactic.hygienic true
theorem strsRep : ∀ {l : List AV} {vs : List Value} {ls : List (List Nat)}, RepL F.C X s.heap l vs → strsA l = some ls → ∃ ts : List (Str × Tok), vs = strValues ts ∧ ts.map (·.1) = ls.map fun x => ⟨x.toArray⟩
  | [], [], _, _, e => by cases e; exact ⟨[], rfl, rfl⟩
  | a :: l, v :: vs, ls, r, e => by
    cases a <;> simp only [strsA] at e <;> try (cases e; done)
    rename_i x
    obtain ⟨ls', e', rfl⟩ := Option.map_eq_some_iff.mp e
    obtain ⟨t, rfl⟩ := r.1
    obtain ⟨ts, rfl, h2⟩ := strsRep r.2 e'
    exact ⟨(⟨x.toArray⟩, t) :: ts, rfl, by simp [h2]⟩
  | [], _ :: _, _, r, _ => r.elim
  | _ :: _, [], _, r, _ => r.elim

set_option tactic.hygienic false
theorem ints2 {α : Type} {C : Cx} {h : Heap} {x y : AV} {v w : Value} {f : Int → Int → α} {z : α} (e : (x.int?.bind fun a => y.int?.map fun b => f a b) = some z) (hx : Rep C X h x v) (hy : Rep C X h y w) : ∃ a b t u, v = .int a t ∧ w = .int b u ∧ f a b = z := by
  cases h1 : x.int? with
  | none => rw [h1] at e; cases e
  | some a =>
    cases h2 : y.int? with
    | none => rw [h1, h2] at e; cases e
    | some b =>
      rw [h1, h2] at e
      rw [int?_eq h1] at hx; rw [int?_eq h2] at hy
      obtain ⟨t, ht⟩ := hx; obtain ⟨u, hu⟩ := hy
      exact ⟨a, b, t, u, ht, hu, Option.some.inj e⟩
set_option tactic.hygienic true
theorem eqShOk {x y : AV} {v w : Value} {b : Bool} (e : eqSh x y = some b) (hx : Rep F.C X s.heap x v) (hy : Rep F.C X s.heap y w) : ∃ as bs, Reads s.heap v (toPy x) as ∧ Reads s.heap w (toPy y) bs ∧ SeqAt.shaped (toPy x) = true ∧ SeqAt.shaped (toPy y) = true ∧ PyData.eqv (toPy x) (toPy y) = b := by
  unfold eqSh at e
  split at e
  · rename_i hs
    cases e
    obtain ⟨h1, h2⟩ := Bool.and_eq_true_iff.mp hs
    obtain ⟨as, r1⟩ := hx.reads _ h1
    obtain ⟨bs, r2⟩ := hy.reads _ h2
    exact ⟨as, bs, r1, r2, h1, h2, rfl⟩
  · cases e
inductive EqW (h : Heap) (x y : AV) (b : Bool) : Value → Value → Prop
  | int {i j : Int} {t u : Tok} : decide (i = j) = b → EqW h x y b (.int i t) (.int j u)
  | str {i j : List Nat} {t u : Tok} : decide (i = j) = b → EqW h x y b (.str ⟨i.toArray⟩ t) (.str ⟨j.toArray⟩ u)
  | sh {v w : Value} : eqSh x y = some b → EqW h x y b v w
theorem eqWOk {C : Cx} {h : Heap} {x y : AV} {v w : Value} {b : Bool} (q : eqA x y = some b) (hx : Rep C X h x v) (hy : Rep C X h y w) : EqW h x y b v w := by
  cases x
  case int a =>
    unfold eqA at q
    cases h : y.int? with
    | none => rw [h] at q; exact .sh q
    | some b' =>
      rw [h] at q
      rw [int?_eq h] at hy
      obtain ⟨t, rfl⟩ := hx; obtain ⟨u, rfl⟩ := hy
      exact .int (Option.some.inj q)
  case str a =>
    unfold eqA at q
    cases h : y.str? with
    | none => rw [h] at q; exact .sh q
    | some b' =>
      rw [h] at q
      rw [str?_eq h] at hy
      obtain ⟨t, rfl⟩ := hx; obtain ⟨u, rfl⟩ := hy
      exact .str (Option.some.inj q)
  all_goals exact .sh q
set_option tactic.hygienic false
theorem hunits {n : Nat} (O : FOk F n) : F.A.units + 64 < cLine := by have := O.units; omega
theorem cmpEq {n : Nat} (O : FOk F n) {b : Bool} (e : eqA x y = some b) (hx : Rep F.C X s.heap x v) (hy : Rep F.C X s.heap y w) (B0 : Q (.bool b) s) : wpAny (model F.C.prog F.C.w) F.A (compareOp CO.eq.op v w) Q Ec s := by
  cases eqWOk e hx hy with
  | int q => refine PyProof.Rows.eq_int ?_; rw [intBeq, q]; exact B0
  | str q => refine PyProof.Rows.eq_str ?_; rw [strBeq, q]; exact B0
  | sh q =>
    obtain ⟨as, bs, r1, r2, h1, h2, h3⟩ := eqShOk q hx hy
    exact eq_dataH r1 r2 h1 h2 (hunits O) (h3 ▸ B0)
theorem cmpNe {n : Nat} (O : FOk F n) {b : Bool} (e : eqA x y = some b) (hx : Rep F.C X s.heap x v) (hy : Rep F.C X s.heap y w) (B0 : Q (.bool (!b)) s) : wpAny (model F.C.prog F.C.w) F.A (compareOp CO.ne.op v w) Q Ec s := by
  cases eqWOk e hx hy with
  | int q => refine PyProof.Rows.ne_int ?_; rw [bne, intBeq, q]; exact B0
  | str q => refine PyProof.Rows.ne_str ?_; rw [bne, strBeq, q]; exact B0
  | sh q =>
    obtain ⟨as, bs, r1, r2, h1, h2, h3⟩ := eqShOk q hx hy
    exact ne_dataH r1 r2 h1 h2 (hunits O) (h3 ▸ B0)
theorem inStrs {y : List Nat} : ∀ (ts : List (Str × Tok)) (ls : List (List Nat)), ts.map (·.1) = ls.map (fun x => ⟨x.toArray⟩) → (strValues ts).any (isStrOf ⟨y.toArray⟩) = ls.contains y
  | [], [], _ => rfl
  | [], _ :: _, h => by cases h
  | _ :: _, [], h => by cases h
  | p :: ts, x :: ls, h => by
    have h1 : p.1 = ⟨x.toArray⟩ := (List.cons.inj h).1
    show (isStrOf _ (.str p.1 p.2) || (strValues ts).any _) = _
    rw [inStrs ts ls (List.cons.inj h).2, List.contains_cons, h1]
    show (((⟨x.toArray⟩ : Str) == ⟨y.toArray⟩) || _) = _
    rw [strBeq, show (y == x) = decide (x = y) by by_cases q : x = y <;> simp [q, Ne.symm]]
theorem lookupSome : ∀ (ks : List (List Nat)) (vs : List Value) (y : List Nat), ks.length = vs.length → ((ks.zip vs).lookup y).isSome = ks.contains y
  | [], _, _, _ => rfl
  | _ :: _, [], _, h => by cases h
  | k :: ks, v :: vs, y, h => by
    rw [List.zip_cons_cons, List.lookup_cons, List.contains_cons]
    cases q : y == k with
    | true => rfl
    | false => exact lookupSome ks vs y (Nat.succ.inj h)
set_option tactic.hygienic true
theorem cmpIn {b : Bool} (e : inA x y = some b) (hx : Rep F.C X s.heap x v) (hy : Rep F.C X s.heap y w) (B : ∀ tk, Q (.bool b) { s with toks := tk }) : wpAny (model F.C.prog F.C.w) F.A (compareOp CO.isin.op v w) Q Ec s := by
  cases y <;> try (cases e; done)
  case str l =>
    obtain ⟨c, hc, e⟩ := Option.map_eq_some_iff.mp (show (x.sgn?).map _ = _ from e)
    rw [sgn?_eq hc] at hx
    obtain ⟨t, rfl⟩ := hx; obtain ⟨u, rfl⟩ := hy
    refine PyProof.Rows.in_str ?_
    rw [StrLaws.found_one]
    rw [← e, List.contains_eq_mem] at B
    simpa using B s.toks
  case tup l =>
    obtain ⟨y, hc, e⟩ := Option.bind_eq_some_iff.mp (show (x.str?).bind _ = _ from e)
    rw [str?_eq hc] at hx
    obtain ⟨t, rfl⟩ := hx; obtain ⟨d1, vs, rfl, n1, t1, r1⟩ := hy
    obtain ⟨ls, e1, rfl⟩ := Option.map_eq_some_iff.mp e
    obtain ⟨ts, rfl, e2⟩ := strsRep r1 e1
    refine SeqAt.in_tupleAt (isStrOf ⟨y.toArray⟩) ⟨_, t1, rfl, _, rfl⟩ (fun v hv => ?_) ?_
    · obtain ⟨p, _, rfl⟩ : ∃ p ∈ ts, Value.str p.1 p.2 = v := by simpa [strValues] using hv
      exact (eqGives_str _ _ _ _).at _ _
    · rw [← Array.any_toList, show (strValues ts).toArray.toList = strValues ts from rfl, inStrs ts ls e2]
      exact B s.toks
  case dict ks l =>
    obtain ⟨y, hc, e⟩ := Option.map_eq_some_iff.mp (show (x.str?).map _ = _ from e)
    rw [str?_eq hc] at hx
    obtain ⟨t, rfl⟩ := hx; obtain ⟨d1, vs, f, rfl, n1, n2, m, r, hl, hf⟩ := hy
    refine wpAny_in_of (strKind_is _ _ _ _) n2 m ?_
    rw [hf, lookupSome _ _ _ hl, e]
    exact B _
set_option tactic.hygienic false
theorem cmpNin {b : Bool} (e : (y.str?.bind fun l => x.sgn?.map fun c => !l.contains c) = some b) (hx : Rep F.C X s.heap x v) (hy : Rep F.C X s.heap y w) (B : Q (.bool b) s) : wpAny (model F.C.prog F.C.w) F.A (compareOp CO.notin.op v w) Q Ec s := by
  obtain ⟨l, hl, e⟩ := Option.bind_eq_some_iff.mp e
  obtain ⟨c, hc, e⟩ := Option.map_eq_some_iff.mp e
  rw [sgn?_eq hc] at hx; rw [str?_eq hl] at hy
  obtain ⟨t, rfl⟩ := hx; obtain ⟨u, rfl⟩ := hy
  refine PySem.P.notIn_str ?_
  rw [StrLaws.found_one]
  rw [← e, List.contains_eq_mem] at B
  simpa using B
theorem cmpLt {b : Bool} (e : (x.int?.bind fun a => y.int?.map fun b => decide (a < b)) = some b) (hx : Rep F.C X s.heap x v) (hy : Rep F.C X s.heap y w) (B : Q (.bool b) s) : wpAny (model F.C.prog F.C.w) F.A (compareOp CO.lt.op v w) Q Ec s := by
  obtain ⟨a, b, t, u, rfl, rfl, rfl⟩ := ints2 e hx hy; exact PyProof.Rows.lt_int B
theorem cmpGt {b : Bool} (e : (x.int?.bind fun a => y.int?.map fun b => decide (b < a)) = some b) (hx : Rep F.C X s.heap x v) (hy : Rep F.C X s.heap y w) (B : Q (.bool b) s) : wpAny (model F.C.prog F.C.w) F.A (compareOp CO.gt.op v w) Q Ec s := by
  obtain ⟨a, b, t, u, rfl, rfl, rfl⟩ := ints2 e hx hy; exact PyProof.Rows.gt_int B
theorem cmpGe {b : Bool} (e : (x.int?.bind fun a => y.int?.map fun b => decide (b ≤ a)) = some b) (hx : Rep F.C X s.heap x v) (hy : Rep F.C X s.heap y w) (B : Q (.bool b) s) : wpAny (model F.C.prog F.C.w) F.A (compareOp CO.ge.op v w) Q Ec s := by
  obtain ⟨a, b, t, u, rfl, rfl, rfl⟩ := ints2 e hx hy; exact P.ge_int B
theorem cmpOk {n : Nat} (O : FOk F n) (_I : Iv F X ρ d s.heap) {o : CO} {b : Bool} (e : cmpA o x y = some b) (hx : Rep F.C X s.heap x v) (hy : Rep F.C X s.heap y w) (B : ∀ tk, Q (.bool b) { s with toks := tk }) :
    wpAny (model F.C.prog F.C.w) F.A (compareOp o.op v w) Q Ec s := by
  cases o with
  | lt => exact cmpLt e hx hy (B s.toks)
  | gt => exact cmpGt e hx hy (B s.toks)
  | ge => exact cmpGe e hx hy (B s.toks)
  | eq => exact cmpEq O e hx hy (B s.toks)
  | ne =>
    obtain ⟨b', e', rfl⟩ := Option.map_eq_some_iff.mp (show (eqA x y).map _ = _ from e)
    exact cmpNe O e' hx hy (B s.toks)
  | isin => exact cmpIn e hx hy B
  | notin => exact cmpNin e hx hy (B s.toks)
end
end Mine
namespace Mine
open PySem PySem.W PyProof.Rows PySem.Calls PySem.Builtin PySem.Builtin.Str

/-! texts -/
theorem keptH {h₀ : Heap} : KeptH (fun h => ∀ b o, h₀.get? b = some o → h.get? b = some o) := fun _ ob k b o e => Heap.get?_push_of_some ob (k b o e)

theorem clipIdx (i j n : Nat) : strSliceIndices (some (i : Int)) (some (j : Int)) 1 n = strSliceIndices (some ((min i n : Nat) : Int)) (some ((min j n : Nat) : Int)) 1 n := by

  have a1 : ∀ k : Nat, ¬ ((k : Int) < 0) := fun k => Int.not_lt.mpr (Int.natCast_nonneg k)
  have e1 : ∀ k : Nat, min ((min k n : Nat) : Int) (n : Int) = min (k : Int) (n : Int) := fun k => by
    rcases Nat.le_total k n with q | q
    · rw [Nat.min_eq_left q]
    · rw [Nat.min_eq_right q, Int.min_self, Int.min_eq_right (Int.ofNat_le.mpr q)]
  have p1 : (1 : Int) > 0 := by decide
  simp only [strSliceIndices, a1, p1, e1, if_false, if_true]

theorem noIdx {i j n : Nat} (h : j < i) (hi : i ≤ n) : strSliceIndices (some (i : Int)) (some (j : Int)) 1 n = [] := by
  have a1 : ∀ k : Nat, ¬ ((k : Int) < 0) := fun k => Int.not_lt.mpr (Int.natCast_nonneg k)
  have e1 : ∀ k : Nat, k ≤ n → max (0 : Int) (min (k : Int) (n : Int)) = k := fun k hk => by rw [Int.min_eq_left (Int.ofNat_le.mpr hk), Int.max_eq_right (Int.natCast_nonneg k)]
  simp only [strSliceIndices, a1, e1 i hi, e1 j (Nat.le_trans (Nat.le_of_lt h) hi), if_false]
  simp [sliceRange]
  omega

theorem sliceNat (l : List Nat) (i j : Nat) : StrLaws.sliceText ⟨l.toArray⟩ (some (i : Int)) (some (j : Int)) = ⟨((l.take j).drop i).toArray⟩ := by
  have hl : (⟨l.toArray⟩ : Str).length = l.length := strLen l
  have e : StrLaws.sliceText ⟨l.toArray⟩ (some (i : Int)) (some (j : Int)) = StrLaws.sliceText ⟨l.toArray⟩ (some ((min i l.length : Nat) : Int)) (some ((min j l.length : Nat) : Int)) := by
    unfold StrLaws.sliceText
    rw [hl, clipIdx i j]
  rw [e]
  have hj : min j l.length ≤ l.length := Nat.min_le_right _ _
  by_cases h : min i l.length ≤ min j l.length
  · rw [StrLaws.sliceText_nat _ h (by rw [hl]; exact hj)]
    have : (l.drop (min i l.length)).take (min j l.length - min i l.length) = (l.take j).drop i := by
      rw [List.drop_take]
      by_cases hi : i ≤ l.length
      · rw [Nat.min_eq_left hi, List.take_eq_take_iff, List.length_drop, Nat.sub_min_sub_right, Nat.min_assoc, Nat.min_self, Nat.sub_min_sub_right]
      · have hi' := Nat.le_of_not_le hi
        rw [Nat.min_eq_right hi', List.drop_length, List.drop_eq_nil_of_le hi', List.take_nil, List.take_nil]
    simp only [this]
  · have hlt : min j l.length < min i l.length := Nat.lt_of_not_le h
    unfold StrLaws.sliceText
    rw [hl, noIdx hlt (Nat.min_le_right _ _)]
    have hi0 : 0 < l.length := Nat.lt_of_lt_of_le (Nat.lt_of_le_of_lt (Nat.zero_le _) hlt) (Nat.min_le_right _ _)
    have : ¬ ((1 : Int) == 1 && ([] : List Nat).length == l.length) = true := by
      intro q
      have := eq_of_beq (Bool.and_eq_true_iff.mp q).2
      rw [← this] at hi0
      exact Nat.lt_irrefl _ hi0
    rw [if_neg this]
    have : (l.take j).drop i = [] := List.drop_eq_nil_of_le (by rw [List.length_take]; exact Nat.le_trans (Nat.le_of_lt hlt) (Nat.min_le_left _ _))
    rw [this]; rfl

theorem sliceCut (l : List Nat) (lo hi : Option Nat) : Txt.slice ⟨l.toArray⟩ (lo.map fun n => (n : Int)) (hi.map fun n => (n : Int)) = ⟨(cutA l lo hi).toArray⟩ := by
  show StrLaws.sliceText _ _ _ = _
  have z : ∀ u, StrLaws.sliceText ⟨l.toArray⟩ none u = StrLaws.sliceText ⟨l.toArray⟩ (some ((0 : Nat) : Int)) u := fun u => by
    unfold StrLaws.sliceText; rw [StrLaws.sliceIdx_none_lo]; rfl
  have y : ∀ k, StrLaws.sliceText ⟨l.toArray⟩ k none = StrLaws.sliceText ⟨l.toArray⟩ k (some ((l.length : Nat) : Int)) := fun k => by
    unfold StrLaws.sliceText; rw [StrLaws.sliceIdx_none_hi, strLen]
  cases lo with
  | none =>
    cases hi with
    | none => show StrLaws.sliceText _ none none = _; rw [z, y, sliceNat]; simp [cutA]
    | some h => show StrLaws.sliceText _ none (some (h : Int)) = _; rw [z, sliceNat]; simp [cutA]
  | some a =>
    cases hi with
    | none => show StrLaws.sliceText _ (some (a : Int)) none = _; rw [y, sliceNat]; simp [cutA]
    | some h => show StrLaws.sliceText _ (some (a : Int)) (some (h : Int)) = _; rw [sliceNat]; simp [cutA]

theorem findA_spec (c : Nat) : ∀ (l : List Nat) (k n : Nat), (findA c l k n = -1 ∧ ∀ v : Nat, k ≤ v → l[v]? ≠ some c) ∨
    ∃ j : Nat, findA c l k n = ((n + j : Nat) : Int) ∧ k ≤ j ∧ l[j]? = some c ∧ ∀ v : Nat, k ≤ v → v < j → l[v]? ≠ some c
  | [], k, n => .inl ⟨rfl, fun v _ => by simp⟩
  | x :: l, 0, n => by
    unfold findA
    by_cases h : x = c
    · rw [if_pos h]; exact .inr ⟨0, rfl, Nat.le_refl _, by simp [h], fun v _ h => absurd h (Nat.not_lt_zero _)⟩
    · rw [if_neg h]
      rcases findA_spec c l 0 (n + 1) with ⟨e, hn⟩ | ⟨j, e, _, hj, hn⟩
      · refine .inl ⟨e, fun v _ => ?_⟩
        cases v with
        | zero => simpa using h
        | succ v => simpa using hn v (Nat.zero_le _)
      · refine .inr ⟨j + 1, by rw [e]; congr 1; exact Nat.succ_add_eq_add_succ n j, Nat.zero_le _, by simpa using hj, fun v _ hv => ?_⟩
        cases v with
        | zero => simpa using h
        | succ v => simpa using hn v (Nat.zero_le _) (Nat.lt_of_succ_lt_succ hv)
  | x :: l, k + 1, n => by
    unfold findA
    rcases findA_spec c l k (n + 1) with ⟨e, hn⟩ | ⟨j, e, hk, hj, hn⟩
    · refine .inl ⟨e, fun v hv => ?_⟩
      cases v with
      | zero => exact absurd hv (Nat.not_succ_le_zero _)
      | succ v => simpa using hn v (Nat.le_of_succ_le_succ hv)
    · refine .inr ⟨j + 1, by rw [e]; congr 1; exact Nat.succ_add_eq_add_succ n j, Nat.succ_le_succ hk, by simpa using hj, fun v hv hlt => ?_⟩
      cases v with
      | zero => exact absurd hv (Nat.not_succ_le_zero _)
      | succ v => simpa using hn v (Nat.le_of_succ_le_succ hv) (Nat.lt_of_succ_lt_succ hlt)

theorem getD_iff (l : List Nat) (v c : Nat) (h : v < l.length) : (⟨l.toArray⟩ : Str).cps.getD v 0 = c ↔ l[v]? = some c := by
  simp [Array.getD, h]

theorem findEq (l : List Nat) (c i : Nat) : Txt.find3 ⟨l.toArray⟩ ⟨#[c]⟩ (i : Int) = findA c l i 0 := by
  have hf : fromIndex (⟨l.toArray⟩ : Str).length (i : Int) = i := by
    unfold fromIndex; rw [if_neg (Int.not_lt.mpr (Int.natCast_nonneg i))]; exact Int.toNat_natCast i
  have hl := strLen l
  rcases StrLaws.find3_spec ⟨l.toArray⟩ c i with ⟨e, hn⟩ | ⟨k, e, hk1, hk2, hk3, hn⟩ <;> rcases findA_spec c l i 0 with ⟨e', hn'⟩ | ⟨j, e', hj1, hj2, hn'⟩
  · rw [e, e']
  · exfalso
    have hj : j < l.length := (List.getElem?_eq_some_iff.mp hj2).1
    rw [hf] at hn
    exact hn j hj1 (by rw [hl]; exact hj) ((getD_iff l j c hj).mpr hj2)
  · exfalso
    rw [hf] at hk1
    rw [hl] at hk2
    exact hn' k hk1 ((getD_iff l k c hk2).mp hk3)
  · rw [hf] at hk1 hn
    rw [hl] at hk2
    have hj : j < l.length := (List.getElem?_eq_some_iff.mp hj2).1
    have : k = j := by
      rcases Nat.lt_trichotomy k j with h | h | h
      · exact absurd ((getD_iff l k c hk2).mp hk3) (hn' k hk1 h)
      · exact h
      · exact absurd ((getD_iff l j c hj).mpr hj2) (hn j hj1 h)
    rw [e, e', this]; simp

theorem countEq (l : List Nat) (c : Nat) : Txt.count ⟨l.toArray⟩ ⟨#[c]⟩ = (l.count c : Nat) := by
  rw [count_is]
  show Spec.countIn _ (l.map _) = _
  induction l with
  | nil => rfl
  | cons x l ih =>
    rw [List.map_cons, Spec.countIn, ih, List.count_cons]
    have : Spec.same (.str ⟨#[x]⟩) (.str ⟨#[c]⟩) = (x == c) := by
      show ((⟨#[x]⟩ : Str) == ⟨#[c]⟩) = _
      rw [show (⟨#[x]⟩ : Str) = ⟨[x].toArray⟩ from rfl, show (⟨#[c]⟩ : Str) = ⟨[c].toArray⟩ from rfl, strBeq]
      by_cases h : x = c <;> simp [h]
    rw [this]
    cases x == c <;> simp <;> omega

set_option tactic.hygienic true
theorem rowsEq (l : List Nat) : (Txt.split ⟨l.toArray⟩ ⟨#[10]⟩).length = l.count 10 + 1 := by
  have hc := countEq l 10
  unfold Txt.count at hc
  unfold Txt.split
  split
  · rename_i h
    simp only [Bool.or_eq_true, decide_eq_true_eq] at h
    rcases h with h | h
    · have : l = [] := by
        have e : (⟨#[10]⟩ : Str).length = 1 := rfl
        rw [strLen, e] at h
        exact List.eq_nil_of_length_eq_zero (by omega)
      subst this; rfl
    · exfalso
      have e : Builtin.Str.strKind ⟨#[10]⟩ = 1 := by decide +kernel
      rw [e] at h
      unfold Builtin.Str.strKind at h
      split at h <;> (try split at h) <;> omega
  · split
    · rename_i h
      rw [List.isEmpty_iff.mp h] at hc
      have : l.count 10 = 0 := by simpa using hc.symm
      rw [this]; rfl
    · rw [length_partsBetween]
      omega

set_option tactic.hygienic false
theorem joinEq : ∀ (ls : List (List Nat)), Txt.join ⟨#[]⟩ (ls.map fun x => ⟨x.toArray⟩) = ⟨ls.flatten.toArray⟩ := by
  intro ls
  unfold Txt.join
  rw [StrLaws.glued_eq_join]
  induction ls with
  | nil => rfl
  | cons x ls ih =>
    cases ls with
    | nil => simp [Str.join]
    | cons y ls =>
      rw [List.map_cons, List.map_cons, Str.join]
      · rw [List.map_cons] at ih
        rw [ih, List.flatten_cons]
        apply Str.ext'
        simp [Str.cps_append]
      · intro h; cases h

theorem joinFits (ls : List (List Nat)) (h : ls.flatten.length ≤ LIM) : JoinOk ⟨#[]⟩ (ls.map fun x => ⟨x.toArray⟩) = true := by
  have : ∀ (ls : List (List Nat)) (n : Nat), (ls.map fun x => (⟨x.toArray⟩ : Str)).foldl (fun a b => a + b.length + (⟨#[]⟩ : Str).length) n = n + ls.flatten.length := by
    intro ls
    induction ls with
    | nil => intro n; simp
    | cons x ls ih =>
      intro n
      rw [List.map_cons, List.foldl_cons, ih, strLen, List.flatten_cons, List.length_append]
      have : (⟨#[]⟩ : Str).length = 0 := rfl
      omega
  unfold JoinOk Builtin.Str.tooLong
  rw [List.foldl_toArray, this]
  simp only [LIM] at h
  rw [sizeLine']
  simp only [Nat.zero_add, Bool.not_eq_true', decide_eq_false_iff_not]
  omega
end Mine
namespace Mine
open PySem PySem.W PyProof.Rows PySem.Calls PySem.Builtin PySem.Builtin.Str PySem.StrLaws

theorem blank_eq (c : Nat) (h : c < 128) : Unicode.isSpace c = blankA c := by
  have : ∀ c < 128, Unicode.isSpace c = blankA c := by decide +kernel
  exact this c h

theorem subAtN (t : List Nat) (i j : Nat) : strSub ⟨t.toArray⟩ i j = ⟨((t.take j).drop i).toArray⟩ := by
  unfold strSub
  congr 1
  apply Array.ext'
  simp [List.extract_eq_drop_take, List.drop_take]

noncomputable def begun (t : List Nat) (cur : Nat) : Option Nat → List Nat
  | some b => (t.take cur).drop b
  | none => []

theorem sw_words (t : List Nat) (ha : ∀ c ∈ t, c < 128) : ∀ (m cur : Nat) (ws : Array (Nat × Nat)) (st : Option Nat), cur + m = t.length → ws.size ≤ cur → (∀ b, st = some b → b < cur) →
    (swEnd ⟨t.toArray⟩ (forIn (List.range' cur m) ((none, ws, st) : SwSt) (swBody ⟨t.toArray⟩ (t.length + 1))).run).map (fun p => strSub ⟨t.toArray⟩ p.1 p.2)
      = ws.toList.map (fun p => strSub ⟨t.toArray⟩ p.1 p.2) ++ (wordsA (t.drop cur) (begun t cur st)).map fun x => ⟨x.toArray⟩
  | 0, cur, ws, st, hm, hz, hs => by
    have hc : cur = t.length := hm
    subst hc
    rw [List.drop_length]
    cases st with
    | none => simp [swEnd, wordsA, begun]
    | some b =>
      have hb := hs b rfl
      have hne : begun t t.length (some b) ≠ [] := by
        simp only [begun, List.take_length, ne_eq, List.drop_eq_nil_iff]
        exact Nat.not_le_of_lt hb
      simp only [wordsA, if_neg hne]
      simp [swEnd, begun, subAtN, strLen]
  | m + 1, cur, ws, st, hm, hz, hs => by
    rw [List.range'_succ, List.forIn_cons]
    have hlt : cur < t.length := hm ▸ Nat.lt_add_of_pos_right (Nat.succ_pos m)
    have hm1 : cur + 1 + m = t.length := (Nat.succ_add_eq_add_succ cur m).trans hm
    have hz1 : ws.size ≤ cur + 1 := Nat.le_succ_of_le hz
    have hl : (t.take cur).length = cur := List.length_take_of_le (Nat.le_of_lt hlt)
    have hd : t.drop cur = t[cur] :: t.drop (cur + 1) := List.drop_eq_getElem_cons hlt
    have hg : (⟨t.toArray⟩ : Str).cps.getD cur 0 = t[cur] := by simp [Array.getD, hlt]
    have hsp : Unicode.isSpace ((⟨t.toArray⟩ : Str).cps.getD cur 0) = blankA t[cur] := by rw [hg]; exact blank_eq _ (ha _ (List.getElem_mem hlt))
    have hsz : ¬ ((ws.size == t.length + 1) = true) := fun q => Nat.not_le_of_lt (Nat.lt_succ_of_lt hlt) ((show ws.size = t.length + 1 from eq_of_beq q) ▸ hz : t.length + 1 ≤ cur)
    have htake : t.take (cur + 1) = t.take cur ++ [t[cur]] := by rw [List.take_succ_eq_append_getElem hlt]
    rw [hd]
    unfold swBody
    simp only [hsz, if_false]
    rw [hsp]
    cases st with
    | none =>
      cases hb : blankA t[cur] with
      | true =>
        refine (sw_words t ha m (cur + 1) ws none hm1 hz1 (fun b q => by cases q)).trans ?_
        simp [wordsA, hb, begun]
      | false =>
        refine (sw_words t ha m (cur + 1) ws (some cur) hm1 hz1 (fun b q => by cases q; exact Nat.lt_succ_self _)).trans ?_
        have hx : (t.take cur ++ [t[cur]]).drop cur = [t[cur]] := List.drop_left' hl
        simp only [wordsA, hb, begun, htake, hx]
        simp
    | some b =>
      have hbc := hs b rfl
      have hne : (t.take cur).drop b ≠ [] := by
        simp only [ne_eq, List.drop_eq_nil_iff, hl]; exact Nat.not_le_of_lt hbc
      cases hb : blankA t[cur] with
      | true =>
        refine (sw_words t ha m (cur + 1) (ws.push (b, cur)) none hm1 (by rw [Array.size_push]; exact Nat.succ_le_succ hz) (fun b q => by cases q)).trans ?_
        simp [wordsA, hb, begun, hne, subAtN]
      | false =>
        refine (sw_words t ha m (cur + 1) ws (some b) hm1 hz1 (fun b' q => by cases q; exact Nat.lt_succ_of_lt hbc)).trans ?_
        simp only [wordsA, hb, begun, htake]
        rw [List.drop_append_of_le_length (by rw [hl]; exact Nat.le_of_lt hbc)]
        simp

set_option tactic.hygienic true
theorem wordsEq (t : List Nat) (h : t.all (· < 128) = true) : Txt.words ⟨t.toArray⟩ = (wordsA t []).map fun x => ⟨x.toArray⟩ := by
  have ha : ∀ c ∈ t, c < 128 := fun c hc => by simpa using List.all_eq_true.mp h c hc
  have key := sw_words t ha t.length 0 #[] none (Nat.zero_add _) (Nat.le_refl _) (fun b q => by cases q)
  have e1 : (⟨t.toArray⟩ : Str).length = t.length := strLen t
  have hw : PySem.wordsOf ⟨t.toArray⟩ = (wordsA t []).map fun x => ⟨x.toArray⟩ := by
    unfold PySem.wordsOf
    rw [e1, sw_eq, e1]
    simpa [begun] using key
  unfold Txt.words
  split
  · rename_i hh
    rw [← hw]
    unfold PySem.wordsOf
    rw [eq_of_beq hh, e1]
    simp [subAtN]
  · exact hw
end Mine
namespace Mine
open PySem PySem.W PyProof.Rows PySem.Calls PySem.Builtin PySem.Builtin.Str


section
variable {F : Fx} {X : List Addr} {ρ : List AV} {d : Int} {s : Shared} {Q : Value → Shared → Prop} {Ec : Value → Shared → Prop} {x y z : AV} {v w : Value} {value slice : Expr}

theorem truthOk {b : Bool} {Q : Bool → Shared → Prop} (e : truthA x = some b) (hx : Rep F.C X s.heap x v) (B : ∀ tk, Q b { s with toks := tk }) :
    wpAny (model F.C.prog F.C.w) F.A (truthy v) Q Ec s := by
  cases x <;> simp only [truthA] at e <;> try (cases e; done)
  · subst hx; cases e; exact truthy_none (B s.toks)
  · subst hx; cases e; exact wpAny_truthy_bool (B s.toks)
  · rename_i l
    obtain ⟨d1, vs, rfl, n1, t1, r1⟩ := hx
    have hl := r1.length
    split at e
    · rename_i hs
      cases e
      simp only [LIM] at hs
      refine truthy_tuple ⟨_, t1, rfl, _, rfl⟩ (by rw [List.size_toArray]; omega) ?_
      have : (!vs.toArray.isEmpty) = !l.isEmpty := by
        cases l <;> cases vs <;> simp_all
      rw [this]; exact B _
    · cases e

set_option tactic.hygienic false
theorem slcOk (I : Iv F X ρ d s.heap) {l : List Nat} {t : Tok} {lo hi : Option Nat} {vl vu : Value} (hs : l.length ≤ LIM)
    (h1 : match lo with | none => vl = .none | some n => ∃ t, vl = .int (n : Int) t) (h2 : match hi with | none => vu = .none | some n => ∃ t, vu = .int (n : Int) t)
    (hsl : ∀ i, subscripted slice false (.str ⟨l.toArray⟩ t) i = operate [i, .str ⟨l.toArray⟩ t] (getItem (.str ⟨l.toArray⟩ t) i))
    (B : Back F X d s Q (.str (cutA l lo hi))) :
    wpAny (model F.C.prog F.C.w) F.A (newFields "slice" [vl, vu, .none]) (fun i s' => wpAny (model F.C.prog F.C.w) F.A (subscriptTail value slice (.str ⟨l.toArray⟩ t) i) Q Ec s') Ec s := by
  have hz : (⟨l.toArray⟩ : Str).length ≤ sizeLine := by rw [strLen, sizeLine']; simp only [LIM] at hs; omega
  have ht : ∀ r, letTemporaryGo value (.str ⟨l.toArray⟩ t) r = pure () := by intro r; cases value <;> rfl
  have fin : ∀ h' t' k, (∀ b o, s.heap.get? b = some o → h'.get? b = some o) → Q (.str (Txt.slice ⟨l.toArray⟩ (lo.map fun n => (n : Int)) (hi.map fun n => (n : Int))) t') { s with heap := h', toks := k } := fun h' t' k kk => by
    rw [sliceCut]
    exact B _ h' k (.of kk) (by
      obtain ⟨⟨t, a⟩, n, vs, b, r⟩ := I.cup
      exact ⟨⟨t, a.at fun o e => kk _ o e⟩, n, vs, b.at fun o e => kk _ o e, RepL.move (fun b o e q => ⟨q, kk b o e⟩) _ r⟩) ⟨t', rfl⟩
  unfold newFields
  refine wpAny_newObj_type ?_ (by show (_ : Array Value).size ≤ _; simp [sizeLine_eq])
  cases lo with
  | none =>
    subst h1
    cases hi with
    | none => subst h2; exact tail_of_ItemOn (SBH.sliceItem_nn (P := fun h => ∀ b o, s.heap.get? b = some o → h.get? b = some o) keptH (fun _ _ e => e) fin hz) (hsl _) ht
    | some j => obtain ⟨u, rfl⟩ := h2; exact tail_of_ItemOn (SBH.sliceItem_ns (P := fun h => ∀ b o, s.heap.get? b = some o → h.get? b = some o) keptH (fun _ _ e => e) fin hz) (hsl _) ht
  | some i =>
    obtain ⟨u1, rfl⟩ := h1
    cases hi with
    | none => subst h2; exact tail_of_ItemOn (SBH.sliceItem_sn (P := fun h => ∀ b o, s.heap.get? b = some o → h.get? b = some o) keptH (fun _ _ e => e) fin hz) (hsl _) ht
    | some j => obtain ⟨u, rfl⟩ := h2; exact tail_of_ItemOn (SBH.sliceItem_ss (P := fun h => ∀ b o, s.heap.get? b = some o → h.get? b = some o) keptH (fun _ _ e => e) fin hz) (hsl _) ht

theorem lookA_rep {C : Cx} {h : Heap} : ∀ {ks : List (List Nat)} {l : List AV} {vs : List Value} {k : List Nat}, RepL C X h l vs → match lookA ks l k with
    | some a => ∃ v, (ks.zip vs).lookup k = some v ∧ Rep C X h a v
    | none => ks.length ≤ l.length → (ks.zip vs).lookup k = none
  | [], _, _, _, _ => fun _ => rfl
  | _ :: _, [], [], _, _ => fun h => by simp at h
  | _ :: _, [], _ :: _, _, r => r.elim
  | _ :: _, _ :: _, [], _, r => r.elim
  | k :: ks, a :: l, v :: vs, x, r => by
    unfold lookA
    by_cases h : k = x
    · rw [if_pos h]; subst h
      exact ⟨v, by simp, r.1⟩
    · rw [if_neg h]
      have := lookA_rep (ks := ks) (k := x) r.2
      have hb : (x == k) = false := beq_eq_false_iff_ne.mpr (Ne.symm h)
      rw [List.zip_cons_cons, List.lookup_cons, hb]
      revert this
      cases lookA ks l x with
      | some b => exact id
      | none => exact fun h h' => h (by simpa using h')

theorem intsRepL {C : Cx} {X' : List Addr} {h : Heap} : ∀ {l : List Int} {vs : List Value}, RepL C X h (l.map .int) vs → RepL C X' h (l.map .int) vs
  | [], [], _ => trivial
  | _ :: _, _ :: _, r => ⟨r.1, intsRepL r.2⟩
  | [], _ :: _, r => r.elim
  | _ :: _, [], r => r.elim

set_option tactic.hygienic true
theorem idxOk {n : Nat} (O : FOk F n) (I : Iv F X ρ d s.heap) {r : Except Int AV} {d' : Int} (e : idxA F.C.g.cs x y d = some (r, d')) (hx : Rep F.C X s.heap x v) (hy : Rep F.C X s.heap y w)
    (hsl : subscripted slice false v w = operate [v, w] (getItem v w)) (B : ∀ z, r = .ok z → d' = d → Back F X d s Q z) :
    wpAny (model F.C.prog F.C.w) F.A (subscriptTail value slice v w) Q Ec s := by
  cases x <;> try (cases e; done)
  case str l =>
    have hi : ∃ i, y = .int i := by
      unfold idxA at e
      cases h : y.int? with
      | some i => exact ⟨i, int?_eq h⟩
      | none => rw [h] at e; cases e
    obtain ⟨i, rfl⟩ := hi
    replace e : (if 0 ≤ i ∧ i ≤ LIM then M.lift (l[i.toNat]?.map fun c => .str [c]) else M.fail) d = some (r, d') := e
    obtain ⟨t, rfl⟩ := hx; obtain ⟨u, rfl⟩ := hy
    split at e
    · rename_i hs
      obtain ⟨z, e1, rfl, rfl⟩ := lift_some e
      obtain ⟨c, e2, rfl⟩ := Option.map_eq_some_iff.mp e1
      simp only [LIM] at hs
      have hlt := (List.getElem?_eq_some_iff.mp e2).1
      refine tail_any (typeIs_str _ _ _) PySem.F.slot_str_getitem.lookup (P.getItem_str (c := c) ?_ ?_ ((B _ rfl rfl).here I ⟨_, rfl⟩)) hsl
      · simp; omega
      · rw [StrLaws.at_nonneg hs.1 (n := c) (by simpa using e2)]
    · cases e
  case tup l =>
    have hi : ∃ i, y = .int i := by
      unfold idxA at e
      cases h : y.int? with
      | some i => exact ⟨i, int?_eq h⟩
      | none => rw [h] at e; cases e
    obtain ⟨i, rfl⟩ := hi
    replace e : (if i ≤ LIM then atA l i else M.fail) d = some (r, d') := e
    obtain ⟨d1, vs, rfl, n1, t1, r1⟩ := hx; obtain ⟨u, rfl⟩ := hy
    split at e
    · rename_i hs
      unfold atA at e
      split at e
      · rename_i h0
        obtain ⟨z, e1, rfl, rfl⟩ := lift_some e
        obtain ⟨x, e2, hz⟩ := r1.get e1
        simp only [LIM] at hs
        have hlt := (List.getElem?_eq_some_iff.mp e2).1
        exact tail_any (T := "tuple") ⟨_, t1, rfl⟩ slot_tuple_getitem.lookup (PyProof.Rows.getItem_tuple (j := i.toNat) ⟨_, t1, rfl, _, rfl⟩ (by omega) (by omega) (StrLaws.seqIndex_nonneg h0 (by rw [List.size_toArray]; omega)) (by simpa using e2) ((B _ rfl rfl).here I hz)) hsl
      · cases e
    · cases e
  case list l =>
    have hi : ∃ i, y = .int i := by
      unfold idxA at e
      cases h : y.int? with
      | some i => exact ⟨i, int?_eq h⟩
      | none => rw [h] at e; cases e
    obtain ⟨i, rfl⟩ := hi
    replace e : (if i ≤ LIM then atA l i else M.fail) d = some (r, d') := e
    obtain ⟨d1, vs, rfl, n1, t1, r1⟩ := hx; obtain ⟨u, rfl⟩ := hy
    split at e
    · rename_i hs
      unfold atA at e
      split at e
      · rename_i h0
        obtain ⟨z, e1, rfl, rfl⟩ := lift_some e
        obtain ⟨x, e2, hz⟩ := r1.get e1
        simp only [LIM] at hs
        exact tail_any t1.typeIs slot_list_getitem.lookup (wpAny_getItem_list t1 h0 (by omega) (by simpa using e2) ((B _ rfl rfl).here I hz)) hsl
      · cases e
    · cases e
  case dict ks l =>
    have hk : ∃ k, y = .str k := by
      unfold idxA at e
      cases h : y.str? with
      | some i => exact ⟨i, str?_eq h⟩
      | none => rw [h] at e; cases e
    obtain ⟨k, rfl⟩ := hk
    replace e : M.lift (lookA ks l k) d = some (r, d') := e
    obtain ⟨d1, vs, f, rfl, n1, n2, m, r1, hl, hf⟩ := hx; obtain ⟨u, rfl⟩ := hy
    obtain ⟨z, e1, rfl, rfl⟩ := lift_some e
    have := lookA_rep (ks := ks) (k := k) r1
    rw [e1] at this
    obtain ⟨x, e2, hz⟩ := this
    refine tail_any m.typeIs slot_dict_getitem.lookup (wpAny_getItem_of (strKind_is _ _ _ _) m (v := x) ?_ ?_) hsl
    · rw [hf]; exact e2
    · exact (B _ rfl rfl).here I hz
  case cup =>
    have hi : ∃ i, y = .int i := by
      unfold idxA at e
      cases h : y.int? with
      | some i => exact ⟨i, int?_eq h⟩
      | none => rw [h] at e; cases e
    obtain ⟨i, rfl⟩ := hi
    replace e : (if i = 0 then M.pure (.list (F.C.g.cs.map .int)) else if i = 1 then M.bind M.get fun d => M.pure (.int d) else M.fail) d = some (r, d') := e
    obtain ⟨u, rfl⟩ := hy
    have hx : v = .ref F.C.cup := hx
    subst hx
    obtain ⟨⟨t, a⟩, n, vs, b, r⟩ := id I.cup
    split at e
    · rename_i h; subst h; cases e
      refine tail_any a.typeIs slot_list_getitem.lookup (wpAny_getItem_list a (by omega) (by omega) (x := .ref F.C.lst) rfl ((B _ rfl rfl).here I ?_)) hsl
      exact ⟨F.C.lst, vs, rfl, I.lst, b, intsRepL r⟩
    · split at e
      · rename_i h; subst h; cases e
        exact tail_any a.typeIs slot_list_getitem.lookup (wpAny_getItem_list a (by omega) (by omega) (x := .int d t) rfl ((B _ rfl rfl).here I ⟨t, rfl⟩)) hsl
      · cases e
set_option tactic.hygienic false
theorem CupAt.keeps {C : Cx} {h h' : Heap} {d : Int} (c : CupAt C h d) (k : ∀ b o, h.get? b = some o → h'.get? b = some o) : CupAt C h' d := by
  obtain ⟨⟨t, a⟩, n, vs, b, r⟩ := c
  exact ⟨⟨t, a.at fun o e => k _ o e⟩, n, vs, b.at fun o e => k _ o e, RepL.move (fun b o e q => ⟨q, k b o e⟩) _ r⟩

set_option tactic.hygienic true
theorem biOk (I : Iv F X ρ d s.heap) {f : BI} (e : biA f x = some z) (hx : Rep F.C X s.heap x v) (B : Back F X d s Q z) :
    wpAny (model F.C.prog F.C.w) F.A (call f.val [v]) Q Ec s := by
  unfold biA at e
  split at e
  · rename_i l
    obtain ⟨t, rfl⟩ := hx
    split at e
    · rename_i hs
      cases e
      refine PyProof.Rows.len_str (by rw [strLen]; simp only [LIM] at hs; omega) ?_
      rw [strLen]; exact B.here I ⟨_, rfl⟩
    · cases e
  · rename_i l
    obtain ⟨d1, vs, rfl, n1, t1, r1⟩ := hx
    split at e
    · rename_i hs
      cases e
      have hl := r1.length
      refine PyProof.Rows.len_list t1 (by rw [List.size_toArray]; simp only [LIM] at hs; omega) ?_
      rw [List.size_toArray, hl]; exact B.here I ⟨_, rfl⟩
    · cases e
  · rename_i l
    obtain ⟨d1, vs, rfl, n1, t1, r1⟩ := hx
    split at e
    · rename_i hs
      cases e
      have hl := r1.length
      refine call_tuple_list t1 (fun h' k => ?_) (by rw [List.size_toArray, sizeLine']; simp only [LIM] at hs; omega)
      have k' : ∀ b o, s.heap.get? b = some o → (h'.push { cls := .type "tuple", data := .seq vs.toArray }).get? b = some o := fun b o e => Heap.get?_push_of_some _ (k b o e)
      refine B _ _ s.toks (.of k') (I.cup.keeps k') ⟨_, vs, rfl, fun q => ?_, IsT.new _ _, RepL.move (fun b o e q => ⟨q, k' b o e⟩) _ r1⟩
      obtain ⟨o, ho⟩ := I.live _ q
      exact Nat.lt_irrefl _ (Heap.lt_size (k _ o ho))
    · cases e
  · rename_i n
    obtain ⟨t, rfl⟩ := hx
    split at e
    · rename_i hs
      cases e
      refine call_range_1 ?_
      refine B _ _ _ (Kept.push _) (I.cup.push _) ⟨_, s.toks, t, s.toks + 1, rfl, notIn_of_live I.live, ?_⟩
      have : ((n.toNat : Nat) : Int) = n := by omega
      rw [this]
      exact IsRange.new _ _ _ _ _ _ _
    · cases e
  · cases e

set_option tactic.hygienic false
theorem RepL.zero {C : Cx} {h : Heap} {vs : List Value} (r : RepL C X h [] vs) : vs = [] := by
  cases vs with
  | nil => rfl
  | cons _ _ => exact r.elim
theorem RepL.cons {C : Cx} {h : Heap} {a : AV} {l : List AV} {vs : List Value} (r : RepL C X h (a :: l) vs) : ∃ v ws, vs = v :: ws ∧ Rep C X h a v ∧ RepL C X h l ws := by
  cases vs with
  | nil => exact r.elim
  | cons v ws => exact ⟨v, ws, rfl, r.1, r.2⟩
theorem RepL.one {C : Cx} {h : Heap} {a : AV} {vs : List Value} (r : RepL C X h [a] vs) : ∃ v, vs = [v] ∧ Rep C X h a v := by
  obtain ⟨v, ws, rfl, h1, h2⟩ := r.cons
  rw [h2.zero]; exact ⟨v, rfl, h1⟩
theorem RepL.two {C : Cx} {h : Heap} {a b : AV} {vs : List Value} (r : RepL C X h [a, b] vs) : ∃ v w, vs = [v, w] ∧ Rep C X h a v ∧ Rep C X h b w := by
  obtain ⟨v, ws, rfl, h1, h2⟩ := r.cons
  obtain ⟨w, rfl, h3⟩ := h2.one
  exact ⟨v, w, rfl, h1, h3⟩

theorem strVals : ∀ (ts : List (Str × Tok)) (ls : List (List Nat)) (h : Heap), ts.map (·.1) = ls.map (fun x => (⟨x.toArray⟩ : Str)) → RepL F.C X h (ls.map .str) (strValues ts)
  | [], [], _, _ => trivial
  | p :: ts, x :: ls, h, e => by
    simp only [List.map_cons, List.cons.injEq] at e
    exact ⟨⟨p.2, by rw [← e.1]⟩, strVals ts ls h e.2⟩
  | [], _ :: _, _, e => by cases e
  | _ :: _, [], _, e => by cases e

/-- what a method call finds at its object; the call itself -/
noncomputable def MethP (F : Fx) (X : List Addr) (s : Shared) (m : MT) (x : AV) (v : Value) : Prop := ∃ T id, PlainAttrs T ∧ Slot T (Str.ofString m.name) id ∧ typeOf (.builtin id) = pure (.type "method_descriptor") ∧ s.TypeIs v T ∧
    (∀ a, v = .ref a → ∃ ob, s.heap.get? a = some ob ∧ ob.dict = none) ∧
    ∀ (l : List AV) (z : AV) (s' : Shared) (ρ : List AV) (d' : Int) (vs : List Value) (Q Ec : Value → Shared → Prop), methA m x l = some z → Iv F X ρ d' s'.heap → Rep F.C X s'.heap x v → RepL F.C X s'.heap l vs → Back F X d' s' Q z →
      wpAny (model F.C.prog F.C.w) F.A (call (.builtin id) (v :: vs)) Q Ec s'

theorem methFind {t : List Nat} {tk : Tok} : MethP F X s .find (.str t) (.str ⟨t.toArray⟩ tk) := by
  refine ⟨"str", "str.find", PySem.F.plainAttrs_str, PySem.F.slot_str_find, PySem.F.type_str_find, typeIs_str _ _ _, fun _ e => (nomatch e), fun l z s' ρ d' vs Q Ec e I _ r B => ?_⟩
  obtain ⟨⟨x1, x2⟩, h1, e1⟩ := Option.bind_eq_some_iff.mp (show (two? l).bind _ = some z from e)
  obtain ⟨c, h2, e2⟩ := Option.bind_eq_some_iff.mp e1
  obtain ⟨i, h3, e3⟩ := Option.bind_eq_some_iff.mp e2
  clear e e1 e2
  replace h1 : l = [x1, x2] := two?_eq h1
  replace h2 : x1 = .str [c] := sgn?_eq h2
  replace h3 : x2 = .int i := int?_eq h3
  subst h2 h3 h1
  · split at e3
    · cases e3
      obtain ⟨v1, v2, rfl, ⟨t1, rfl⟩, ⟨t2, rfl⟩⟩ := r.two
      refine SC.find3 ?_
      have : ((i.toNat : Nat) : Int) = i := by omega
      have e2 := findEq t c i.toNat
      rw [this] at e2
      rw [show (⟨[c].toArray⟩ : Str) = ⟨#[c]⟩ from rfl, e2]
      exact B.here I ⟨_, rfl⟩
    · cases e3

theorem methCount {t : List Nat} {tk : Tok} : MethP F X s .count (.str t) (.str ⟨t.toArray⟩ tk) := by
  refine ⟨"str", "str.count", PySem.F.plainAttrs_str, PySem.F.slot_str_count, PySem.F.type_str_count, typeIs_str _ _ _, fun _ e => (nomatch e), fun l z s' ρ d' vs Q Ec e I _ r B => ?_⟩
  obtain ⟨x1, h1, e1⟩ := Option.bind_eq_some_iff.mp (show (one? l).bind _ = some z from e)
  obtain ⟨c, h2, e2⟩ := Option.map_eq_some_iff.mp e1
  clear e e1
  replace h1 := one?_eq h1
  replace h2 := sgn?_eq h2
  subst h2 h1
  · cases e2
    obtain ⟨v1, rfl, ⟨t1, rfl⟩⟩ := r.one
    refine SC.count ?_
    rw [show (⟨[c].toArray⟩ : Str) = ⟨#[c]⟩ from rfl, countEq]
    exact B.here I ⟨_, rfl⟩

theorem methGet {ks : List (List Nat)} {l : List AV} (hx : Rep F.C X s.heap (.dict ks l) v) : MethP F X s .get (.dict ks l) v := by
  obtain ⟨d1, ws, f, rfl, n1, n2, mm, r1, hl, hf⟩ := hx
  refine ⟨"dict", "dict.get", PySem.F.plainAttrs_dict, PySem.F.slot_dict_get, PySem.F.type_dict_get, mm.typeIs, mm.noDict, fun as z s' ρ d' vs Q Ec e I hx r B => ?_⟩
  obtain ⟨d1', ws, f, e1, n1, n2, mm, r1, hl, hf⟩ := hx
  cases e1
  replace e : getM ks l as = some z := e
  cases as with
  | nil => cases e
  | cons a0 as =>
  have h9 := Option.bind_eq_some_iff.mp (show (a0.str?).bind _ = some z from e)
  clear e
  obtain ⟨k, h1, e⟩ := h9
  replace h1 := str?_eq h1
  subst h1
  cases as with
  | nil =>
    cases e
    obtain ⟨v1, rfl, ⟨t1, rfl⟩⟩ := r.one
    refine call_meetsIn PySem.F.slot_dict_get mm.typeIs PySem.F.entry_dict_get (PySem.F.args_dict_get_2 _ _) (meets_dict_get (strKind F.C.prog F.C.w) d1 (strKind_is _ _ _ _) n2) ⟨f, mm, ?_⟩
    rw [hf]
    have := lookA_rep (ks := ks) (k := k) r1
    cases hk : lookA ks l k with
    | some a =>
      rw [hk] at this B
      obtain ⟨v, e2, hv⟩ := this
      rw [show (⟨k.toArray⟩ : Str).cps.toList = k from rfl, e2]
      exact B.here I hv
    | none =>
      rw [hk] at this B
      rw [show (⟨k.toArray⟩ : Str).cps.toList = k from rfl, this (by rw [hl, r1.length]; exact Nat.le_refl _)]
      exact B.here I rfl
  | cons dv as =>
    cases as with
    | cons _ _ => cases e
    | nil =>
    cases e
    obtain ⟨v1, v2, rfl, ⟨t1, rfl⟩, hv2⟩ := r.two
    refine call_meetsIn PySem.F.slot_dict_get mm.typeIs PySem.F.entry_dict_get (PySem.F.args_dict_get_3 _ _ _) (meets_dict_get_default (strKind F.C.prog F.C.w) d1 (strKind_is _ _ _ _) n2 v2) ⟨f, mm, ?_⟩
    rw [hf]
    have := lookA_rep (ks := ks) (k := k) r1
    cases hk : lookA ks l k with
    | some a =>
      rw [hk] at this B
      obtain ⟨v, e2, hv⟩ := this
      rw [show (⟨k.toArray⟩ : Str).cps.toList = k from rfl, e2]
      exact B.here I hv
    | none =>
      rw [hk] at this B
      rw [show (⟨k.toArray⟩ : Str).cps.toList = k from rfl, this (by rw [hl, r1.length]; exact Nat.le_refl _)]
      exact B.here I hv2

set_option tactic.hygienic true
theorem methSplit {t : List Nat} {tk : Tok} : MethP F X s .split (.str t) (.str ⟨t.toArray⟩ tk) := by
  refine ⟨"str", "str.split", PySem.F.plainAttrs_str, PySem.F.slot_str_split, PySem.F.type_str_split, typeIs_str _ _ _, fun _ e => (nomatch e), fun l z s' ρ d' vs Q Ec e I _ r B => ?_⟩
  cases l with
  | cons _ _ => cases e
  | nil =>
    replace e : (if t.all (· < 128) && decide (t.length ≤ LIM) then some (AV.list ((wordsA t []).map .str)) else none) = some z := e
    split at e
    · rename_i hs
      cases e
      obtain ⟨h1, h2⟩ := Bool.and_eq_true_iff.mp hs
      have h2 := of_decide_eq_true h2
      simp only [LIM] at h2
      cases r.zero
      have hw := wordsEq t h1
      have hn : (spaceWords ⟨t.toArray⟩ ((⟨t.toArray⟩ : Str).length + 1)).length ≤ sizeLine := by
        have e1 := (StrLaws.sw_weight ⟨t.toArray⟩).1
        have e2 := StrLaws.len_le_wsum (spaceWords ⟨t.toArray⟩ ((⟨t.toArray⟩ : Str).length + 1))
        rw [sizeLine']
        rw [strLen] at e1 e2 ⊢
        omega
      have fin : ∀ (ts : List (Str × Tok)) (k : Nat), ts.map (·.1) = Txt.words ⟨t.toArray⟩ → Q (.ref s'.heap.objs.size) { s' with heap := s'.heap.push { cls := .type "list", data := .seq (strValues ts).toArray }, toks := k } := fun ts k hl => by
        rw [hw] at hl
        exact newLst (tk := k) I (strVals ts _ _ hl) B
      refine call_meets PySem.F.slot_str_split (typeIs_str _ _ _) PySem.F.entry_str_split (PySem.F.args_str_split_1 _) (meets_str_split_space ⟨t.toArray⟩ tk (by rw [strLen, sizeLine']; omega) hn) ?_
      cases hsp : spaceWords ⟨t.toArray⟩ ((⟨t.toArray⟩ : Str).length + 1) == [(0, (⟨t.toArray⟩ : Str).length)]
      · simp only [Bool.false_eq_true, if_false]
        rw [strsFrom_eq]
        exact fin (numbered s'.toks (PySem.wordsOf ⟨t.toArray⟩)) _ ((numbered_texts _ _).trans (if_neg (ne_true_of_eq_false hsp)).symm)
      · simp only [if_true]
        exact fin [(⟨t.toArray⟩, tk)] s'.toks (if_pos hsp).symm
    · cases e

theorem methJoin {t : List Nat} {tk : Tok} : MethP F X s .join (.str t) (.str ⟨t.toArray⟩ tk) := by
  refine ⟨"str", "str.join", PySem.F.plainAttrs_str, PySem.F.slot_str_join, PySem.F.type_str_join, typeIs_str _ _ _, fun _ e => (nomatch e), fun as z s' ρ d' vs Q Ec e I _ r B => ?_⟩
  cases t with
  | cons _ _ => cases e
  | nil =>
    obtain ⟨x1, h1, e8⟩ := Option.bind_eq_some_iff.mp (show (one? as).bind _ = some z from e)
    obtain ⟨l, h2, e9⟩ := Option.bind_eq_some_iff.mp e8
    obtain ⟨ls, e1, e2⟩ := Option.bind_eq_some_iff.mp e9
    clear e e8 e9
    replace h1 := one?_eq h1
    replace h2 := list?_eq h2
    subst h2 h1
    split at e2
    · rename_i hs
      cases e2
      obtain ⟨v1, rfl, ⟨d1, ws, rfl, n1, t1, r1⟩⟩ := r.one
      obtain ⟨ts, rfl, h2⟩ := strsRep r1 e1
      refine SC.join t1 h2 (joinFits ls hs) fun t' k => ?_
      rw [show (⟨([] : List Nat).toArray⟩ : Str) = ⟨#[]⟩ from rfl, joinEq]
      exact B.here I ⟨t', rfl⟩
    · cases e2

set_option tactic.hygienic false
theorem methOk {m : MT} (e : methHas m x = true) (hx : Rep F.C X s.heap x v) : MethP F X s m x v := by
  cases m <;> cases x <;> first
    | (cases e; done)
    | (obtain ⟨t, rfl⟩ := hx; first | exact methFind | exact methCount | exact methSplit | exact methJoin)
    | exact methGet hx
end
end Mine
namespace Mine
open PySem PySem.W PyProof.Rows PySem.Calls

theorem bpure {α : Type} (m : M α) : (M.bind m fun a => M.pure a) = m := bind_pure m

noncomputable abbrev RepR (F : Fx) (X : List Addr) : Heap → Value → AV → Prop := fun h v a => Rep F.C X h a v
noncomputable abbrev RepLR (F : Fx) (X : List Addr) : Heap → List Value → List AV → Prop := fun h v a => RepL F.C X h a v
noncomputable abbrev EqR {α : Type} : Heap → α → α → Prop := fun _ v a => v = a
noncomputable abbrev bop (k : Bool) : BoolOp := if k then .And else .Or

noncomputable abbrev ExOk (F : Fx) (ρ : List AV) (e : E) : Prop := ∀ X d s, Iv F X ρ d s.heap → Sim F s d (eval (tx F.nm e).x F.env) (oneA ((dn F.C.g e).e ρ)) (RepR F X)
noncomputable abbrev CdOk (F : Fx) (ρ : List AV) (e : E) : Prop := ∀ X d s, Iv F X ρ d s.heap → Sim F s d (isTrue (tx F.nm e).x F.env (eval (tx F.nm e).x F.env)) ((dn F.C.g e).c ρ) EqR
noncomputable abbrev LsOk (F : Fx) (ρ : List AV) (e : E) : Prop := ∀ X d s pos, Iv F X ρ d s.heap → Sim F s d (spliced (backTo pos (starEach (tx F.nm e).l F.env))) ((dn F.C.g e).e ρ) (RepLR F X)
noncomputable abbrev BlOk (F : Fx) (ρ : List AV) (e : E) : Prop := ∀ k X d s pos, Iv F X ρ d s.heap → Sim F s d (boolOp pos (bop k) (evalEach (tx F.nm e).l F.env)) ((dn F.C.g e).b k ρ) (RepR F X)
noncomputable abbrev TtOk (F : Fx) (ρ : List AV) (e : E) : Prop := ∀ k X d s, Iv F X ρ d s.heap → Sim F s d (allTrue (bop k) (tx F.nm e).l F.env) ((dn F.C.g e).t k ρ) EqR

section
variable {F : Fx} {n : Nat} {ρ : List AV} {a b c i : E}

theorem some_bind {α β : Type} {m : M α} {f : α → M β} {d : Int} {r : Except Int β × Int} (h : M.bind m f d = some r) : m d ≠ none := fun q => by
  unfold M.bind at h; rw [q] at h; cases h
theorem notRaw {g : Sg} {β : Type} {f : AV → M β} {d : Int} {r : Except Int β × Int} (h : M.bind (oneA ((dn g a).e ρ)) f d = some r) : ∀ x, a ≠ .raw x := fun x q => by
  subst q; exact some_bind h rfl
theorem starHead {nm : List String} {l : List Expr} {env : Env} (h : ∀ x, a ≠ .raw x) : starEach ((tx nm a).x :: l) env = (false, eval (tx nm a).x env) :: starEach l env := by
  cases a <;> first | rfl | exact absurd rfl (h _)
theorem noMarks {nm : List String} {op : CmpOp} (h : ∀ x, a ≠ .raw x) : behindInMarks op (tx nm a).x = false := by
  cases a <;> first | rfl | exact absurd rfl (h _)
theorem noSlice {nm : List String} {o v : Value} (h : ∀ x, a ≠ .raw x) : subscripted (tx nm a).x false o v = operate [o, v] (getItem o v) := by
  cases a <;> first | rfl | exact absurd rfl (h _)

theorem exCst {e : E} {v : AV} (hd : (dn F.C.g e).e ρ = ret1 v) (h : ∀ s Q Ec, (∀ u tk, (∀ X h, Rep F.C X h v u) → Q u { s with toks := tk }) → wpAny (model F.C.prog F.C.w) F.A (eval (tx F.nm e).x F.env) Q Ec s) : ExOk F ρ e := by
  intro X d s I r d' Q Ec hm P
  rw [hd] at hm
  cases hm
  exact h s Q Ec fun u tk hr => P u s.heap tk (Kept.refl _ _ _) I.cup (hr X s.heap)
theorem exNum {j : Int} {p : Pos} : ExOk F ρ (.num j p) := exCst (v := .int j) rfl fun _ _ _ h => wpAny_Constant_int (h _ _ fun _ _ => ⟨_, rfl⟩)
theorem exStr {x : String} {l : List Nat} {p : Pos} (hl : Str.ofString x = ⟨l.toArray⟩) : ExOk F ρ (.str x l p) := exCst (v := .str l) rfl fun s _ _ h => by
  refine Calls.Constant_str ?_
  rw [hl]
  exact h _ _ fun _ _ => ⟨_, rfl⟩
theorem exBool {x : Bool} {p : Pos} : ExOk F ρ (.bool x p) := exCst (v := .bool x) rfl fun _ _ _ h => fun _ _ _ => h (.bool x) _ fun _ _ => rfl
theorem exNone {p : Pos} : ExOk F ρ (.non p) := exCst (v := .none) rfl fun _ _ _ h => fun _ _ _ => h .none _ fun _ _ => rfl
theorem exNeg {j : Int} {q p : Pos} : ExOk F ρ (.neg j q p) := exCst (v := .int (-j)) rfl fun s Q Ec h => by
  show wpAny _ _ (do let v ← eval (.Constant (.int j) 0 q) F.env; standAt p; holding [v] (unaryOp .USub v)) _ _ _
  exact wpAny_bind (wpAny_Constant_int (wpAny_bind (wpAny_standAt (wpAny_holding (P.neg_int (h _ _ fun _ _ => ⟨_, rfl⟩))))))

set_option tactic.hygienic true
theorem varA_some {ρ : List AV} {x : Nat} {d d' : Int} {r : Except Int AV} (h : varA ρ x d = some (r, d')) : ∃ a, ρ[x]? = some a ∧ r = .ok a ∧ d' = d ∧ varA ρ x = M.pure a ∧ a ≠ .unb ∧ ∀ l, a ≠ .own l := by
  have key : ∀ a, ρ[x]? = some a → varA ρ x = M.pure a → a ≠ .unb → (∀ l, a ≠ .own l) → ∃ a, ρ[x]? = some a ∧ r = .ok a ∧ d' = d ∧ varA ρ x = M.pure a ∧ a ≠ .unb ∧ ∀ l, a ≠ .own l := fun a e1 e2 n1 n2 => by
    rw [e2] at h; cases h
    exact ⟨a, e1, rfl, rfl, e2, n1, n2⟩
  cases hx : ρ[x]? with
  | none => unfold varA at h; rw [hx] at h; cases h
  | some a =>
    by_cases n1 : a = .unb
    · subst n1; unfold varA at h; rw [hx] at h; cases h
    · by_cases n2 : ∃ l, a = .own l
      · obtain ⟨l, rfl⟩ := n2; unfold varA at h; rw [hx] at h; cases h
      · have n2' : ∀ l, a ≠ .own l := fun l q => n2 ⟨l, q⟩
        rw [← hx]
        refine key a hx ?_ n1 n2'
        unfold varA; rw [hx]
        split
        · rename_i q; cases q; exact absurd rfl n1
        · rename_i q; cases q; exact absurd rfl (n2' _)
        · rename_i q; cases q; rfl
        · rename_i q; cases q
set_option tactic.hygienic false
theorem varVal {X : List Addr} {h : Heap} {m : Str} {a : AV} (V : VarOk F X h m a) (n1 : a ≠ .unb) (n2 : ∀ l, a ≠ .own l) : ∃ v, VarAt F.env h m v ∧ Rep F.C X h a v := by
  cases a <;> first | exact V | exact absurd rfl n1 | exact absurd rfl (n2 _)
theorem exVar {x : Nat} {p : Pos} (O : FOk F n) (hx : x < F.nm.length) : ExOk F ρ (.var x p) := by
  intro X d s I r d' Q Ec hm P
  have hm' : varA ρ x d = some (r, d') := by
    change oneA (M.bind (varA ρ x) ret1) d = _ at hm
    rwa [oneA_one] at hm
  have hn : F.nm[x]? = some F.nm[x] := List.getElem?_eq_getElem hx
  obtain ⟨av, hav, rfl, rfl, _, n1, n2⟩ := varA_some hm'
  obtain ⟨v, hv, hr⟩ := varVal (I.vars x _ av hav hn) n1 n2
  have pl := O.plain _ (List.getElem_mem hx)
  have e : nmAt F.nm x = Str.ofString F.nm[x] := by simp [nmAt, hx]
  show wpAny (model F.C.prog F.C.w) F.A (eval (.Name (nmAt F.nm x) p) F.env) Q Ec s
  rw [e]
  have fin := P v s.heap s.toks (Kept.refl _ _ _) I.cup hr
  refine wpAny_Name ?_ pl.1
  rcases hv with ⟨hk, m, hns, hmv⟩ | ⟨hk | hk, cc, hc, hcell⟩
  · exact wpAny_loadName_local O.kind hk hns hmv fin
  · exact wpAny_loadName_cell O.kind hk hc hcell fin
  · exact wpAny_loadName_free O.kind hk hc hcell fin pl.2

theorem exBin {o : BO} {p : Pos} (O : FOk F n) (ha : ExOk F ρ a) (hb : ExOk F ρ b) : ExOk F ρ (.bin o a b p) := by
  intro X d s I r d' Q Ec hm P
  simp only [dn_nil, dn_cons, dn_num, dn_str, dn_bool, dn_non, dn_neg, dn_var, dn_glb, dn_bin, dn_cmp, dn_and, dn_or, dn_ite, dn_tup, dn_lst, dn_dct, dn_idx, dn_oidx, dn_slc, dn_call, dn_bi, dn_meth, dn_comp, dn_rows, dn_raw, Dn.of, oneA_bind, oneA_ret1, bpure] at hm
  refine wpAny_BinOp ((ha X d s I).step hm P fun x v h1 tk1 d1 k1 c1 r1 e1 P1 => ?_)
  have I1 := I.kept O k1 c1
  refine (hb X d1 ⟨h1, s.gens, s.drawn, tk1, s.os⟩ I1).step e1 P1 fun y w h2 tk2 d2 k2 c2 r2 e2 P2 => ?_
  have I2 := I1.kept O k2 c2
  obtain ⟨z, e3, rfl, rfl⟩ := lift_some e2
  exact binOk I2 e3 (k2.rep I1.sub (cupIn O I1) r1) r2 P2

theorem exCmp {o : CO} {p : Pos} (O : FOk F n) (ha : ExOk F ρ a) (hb : ExOk F ρ b) (hn : ∀ x, b ≠ .raw x) : ExOk F ρ (.cmp o a b p) := by
  intro X d s I r d' Q Ec hm P
  simp only [dn_nil, dn_cons, dn_num, dn_str, dn_bool, dn_non, dn_neg, dn_var, dn_glb, dn_bin, dn_cmp, dn_and, dn_or, dn_ite, dn_tup, dn_lst, dn_dct, dn_idx, dn_oidx, dn_slc, dn_call, dn_bi, dn_meth, dn_comp, dn_rows, dn_raw, oneA_bind, oneA_ret1] at hm
  refine wpAny_Compare1 ((ha X d s I).step hm P fun x v h1 tk1 d1 k1 c1 r1 e1 P1 => ?_) ?_
  · have I1 := I.kept O k1 c1
    refine (hb X d1 ⟨h1, s.gens, s.drawn, tk1, s.os⟩ I1).step e1 P1 fun y w h2 tk2 d2 k2 c2 r2 e2 P2 => ?_
    have I2 := I1.kept O k2 c2
    rcases M.bind_eq_some e2 with ⟨l, d3, e3, e4⟩ | ⟨t, d3, e3, e4⟩
    · obtain ⟨_, _, q, _⟩ := lift_some e3; cases q
    · obtain ⟨_, e5, q, rfl⟩ := lift_some e3
      cases q; cases e4
      exact cmpOk O I2 e5 (k2.rep I1.sub (cupIn O I1) r1) r2 fun tk => P2 _ h2 tk (Kept.refl _ _ _) I2.cup rfl
  · exact noMarks hn

theorem cdCmp {o : CO} {p : Pos} (O : FOk F n) (ha : ExOk F ρ a) (hb : ExOk F ρ b) (hn : ∀ x, b ≠ .raw x) : CdOk F ρ (.cmp o a b p) := by
  intro X d s I r d' Q Ec hm P
  simp only [dn_nil, dn_cons, dn_num, dn_str, dn_bool, dn_non, dn_neg, dn_var, dn_glb, dn_bin, dn_cmp, dn_and, dn_or, dn_ite, dn_tup, dn_lst, dn_dct, dn_idx, dn_oidx, dn_slc, dn_call, dn_bi, dn_meth, dn_comp, dn_rows, dn_raw] at hm
  refine wpAny_isTrue_Compare1 ((ha X d s I).step hm P fun x v h1 tk1 d1 k1 c1 r1 e1 P1 => ?_) (noMarks hn)
  have I1 := I.kept O k1 c1
  refine (hb X d1 ⟨h1, s.gens, s.drawn, tk1, s.os⟩ I1).step e1 P1 fun y w h2 tk2 d2 k2 c2 r2 e2 P2 => ?_
  have I2 := I1.kept O k2 c2
  obtain ⟨_, e5, q, rfl⟩ := lift_some e2
  cases q
  exact cmpOk O I2 e5 (k2.rep I1.sub (cupIn O I1) r1) r2 fun tk => wpAny_truthy_bool (P2 _ h2 tk (Kept.refl _ _ _) I2.cup rfl)

/-- a test that is no comparison, no and | or, no choice -/
theorem cdVal {e : E} (O : FOk F n) (he : ExOk F ρ e) (hd : (dn F.C.g e).c ρ = M.bind (oneA ((dn F.C.g e).e ρ)) fun a => M.lift (truthA a))
    (hi : isTrue (tx F.nm e).x F.env (eval (tx F.nm e).x F.env) = (do let v ← eval (tx F.nm e).x F.env; standAt (tx F.nm e).x.pos; holding [v] (truthy v))) : CdOk F ρ e := by
  intro X d s I r d' Q Ec hm P
  rw [hd] at hm
  rw [hi]
  refine wpAny_bind ((he X d s I).step hm P fun x v h1 tk1 d1 k1 c1 r1 e1 P1 => wpAny_bind (wpAny_standAt (wpAny_holding ?_)))
  obtain ⟨_, e5, q, rfl⟩ := lift_some e1
  cases q
  exact truthOk (s := ⟨h1, s.gens, s.drawn, tk1, s.os⟩) e5 r1 fun tk => P1 _ h1 tk (Kept.refl _ _ _) c1 rfl

theorem exIte {p : Pos} (O : FOk F n) (hc : CdOk F ρ c) (ha : ExOk F ρ a) (hb : ExOk F ρ b) : ExOk F ρ (.ite c a b p) := by
  intro X d s I r d' Q Ec hm P
  simp only [dn_nil, dn_cons, dn_num, dn_str, dn_bool, dn_non, dn_neg, dn_var, dn_glb, dn_bin, dn_cmp, dn_and, dn_or, dn_ite, dn_tup, dn_lst, dn_dct, dn_idx, dn_oidx, dn_slc, dn_call, dn_bi, dn_meth, dn_comp, dn_rows, dn_raw, oneA_bind] at hm
  refine wpAny_IfExp ((hc X d s I).step hm P fun x v h1 tk1 d1 k1 c1 r1 e1 P1 => ?_)
  have I1 := I.kept O k1 c1
  have : v = x := r1
  subst this
  cases v with
  | true =>
    simp only [if_true, oneA_bind, oneA_ret1, bpure] at e1 ⊢
    exact ha X d1 ⟨h1, s.gens, s.drawn, tk1, s.os⟩ I1 _ _ _ _ e1 P1
  | false =>
    simp only [Bool.false_eq_true, if_false, oneA_bind, oneA_ret1, bpure] at e1 ⊢
    exact hb X d1 ⟨h1, s.gens, s.drawn, tk1, s.os⟩ I1 _ _ _ _ e1 P1

theorem cdIte {p : Pos} (O : FOk F n) (hc : CdOk F ρ c) (ha : CdOk F ρ a) (hb : CdOk F ρ b) : CdOk F ρ (.ite c a b p) := by
  intro X d s I r d' Q Ec hm P
  simp only [dn_nil, dn_cons, dn_num, dn_str, dn_bool, dn_non, dn_neg, dn_var, dn_glb, dn_bin, dn_cmp, dn_and, dn_or, dn_ite, dn_tup, dn_lst, dn_dct, dn_idx, dn_oidx, dn_slc, dn_call, dn_bi, dn_meth, dn_comp, dn_rows, dn_raw] at hm
  show wpAny _ _ (do if ← isTrue (tx F.nm c).x F.env (eval (tx F.nm c).x F.env) then isTrue (tx F.nm a).x F.env (eval (tx F.nm a).x F.env) else isTrue (tx F.nm b).x F.env (eval (tx F.nm b).x F.env)) _ _ _
  refine wpAny_bind ((hc X d s I).step hm P fun x v h1 tk1 d1 k1 c1 r1 e1 P1 => ?_)
  have I1 := I.kept O k1 c1
  have : v = x := r1
  subst this
  cases v with
  | true =>
    simp only [if_true] at e1 ⊢
    exact ha X d1 ⟨h1, s.gens, s.drawn, tk1, s.os⟩ I1 _ _ _ _ e1 P1
  | false =>
    simp only [Bool.false_eq_true, if_false] at e1 ⊢
    exact hb X d1 ⟨h1, s.gens, s.drawn, tk1, s.os⟩ I1 _ _ _ _ e1 P1

/-! lists of expressions -/
theorem lsNil : LsOk F ρ .nil := by
  intro X d s pos I r d' Q Ec hm P
  cases hm
  exact wpAny_items_nil (P [] s.heap s.toks (Kept.refl _ _ _) I.cup trivial)

theorem lsCons (O : FOk F n) (ha : ExOk F ρ a) (hb : LsOk F ρ b) : LsOk F ρ (.cons a b) := by
  intro X d s pos I r d' Q Ec hm P
  simp only [dn_nil, dn_cons, dn_num, dn_str, dn_bool, dn_non, dn_neg, dn_var, dn_glb, dn_bin, dn_cmp, dn_and, dn_or, dn_ite, dn_tup, dn_lst, dn_dct, dn_idx, dn_oidx, dn_slc, dn_call, dn_bi, dn_meth, dn_comp, dn_rows, dn_raw] at hm
  show wpAny _ _ (spliced (backTo pos (starEach ((tx F.nm a).x :: (tx F.nm b).l) F.env))) _ _ _
  rw [starHead (notRaw hm)]
  refine Calls.spliced_cons ((ha X d s I).step hm P fun x v h1 tk1 d1 k1 c1 r1 e1 P1 => ?_)
  have I1 := I.kept O k1 c1
  refine (hb X d1 ⟨h1, s.gens, s.drawn, tk1, s.os⟩ pos I1).step e1 P1 fun y w h2 tk2 d2 k2 c2 r2 e2 P2 => ?_
  cases e2
  exact P2 _ h2 tk2 (Kept.refl _ _ _) c2 ⟨k2.rep I1.sub (cupIn O I1) r1, r2⟩

set_option tactic.hygienic true
theorem exTup {es : E} {p : Pos} (O : FOk F n) (h : LsOk F ρ es) : ExOk F ρ (.tup es p) := by
  intro X d s I r d' Q Ec hm P
  simp only [dn_nil, dn_cons, dn_num, dn_str, dn_bool, dn_non, dn_neg, dn_var, dn_glb, dn_bin, dn_cmp, dn_and, dn_or, dn_ite, dn_tup, dn_lst, dn_dct, dn_idx, dn_oidx, dn_slc, dn_call, dn_bi, dn_meth, dn_comp, dn_rows, dn_raw, Dn.of, oneA_bind] at hm
  refine Tuple_ ((h X d s p I).step hm P fun x v h1 tk1 d1 k1 c1 r1 e1 P1 => ?_)
  have I1 := I.kept O k1 c1
  have hl := RepL.length r1
  split at e1
  · rename_i hs
    cases e1
    simp only [LIM] at hs
    exact wpAny_newObj_type (newTup (s := ⟨h1, s.gens, s.drawn, tk1, s.os⟩) (tk := tk1) I1 r1 P1) (by show v.toArray.size ≤ sizeLine; rw [List.size_toArray, sizeLine']; omega)
  · cases e1
theorem exLst {es : E} {p : Pos} (O : FOk F n) (h : LsOk F ρ es) : ExOk F ρ (.lst es p) := by
  intro X d s I r d' Q Ec hm P
  simp only [dn_nil, dn_cons, dn_num, dn_str, dn_bool, dn_non, dn_neg, dn_var, dn_glb, dn_bin, dn_cmp, dn_and, dn_or, dn_ite, dn_tup, dn_lst, dn_dct, dn_idx, dn_oidx, dn_slc, dn_call, dn_bi, dn_meth, dn_comp, dn_rows, dn_raw, Dn.of, oneA_bind] at hm
  refine List_ ((h X d s p I).step hm P fun x v h1 tk1 d1 k1 c1 r1 e1 P1 => ?_)
  have I1 := I.kept O k1 c1
  have hl := RepL.length r1
  split at e1
  · rename_i hs
    cases e1
    simp only [LIM] at hs
    exact wpAny_newObj_type (newLst (s := ⟨h1, s.gens, s.drawn, tk1, s.os⟩) (tk := tk1) I1 r1 P1) (by show v.toArray.size ≤ sizeLine; rw [List.size_toArray, sizeLine']; omega)
  · cases e1

/-! and, or -/
set_option tactic.hygienic false
theorem ttNil : TtOk F ρ .nil := by
  intro k X d s I r d' Q Ec hm P
  cases hm
  cases k
  · exact wpAny_allTrue_Or_nil (P false s.heap s.toks (Kept.refl _ _ _) I.cup rfl)
  · exact wpAny_allTrue_And_nil (P true s.heap s.toks (Kept.refl _ _ _) I.cup rfl)
theorem ttCons (O : FOk F n) (ha : CdOk F ρ a) (hb : TtOk F ρ b) : TtOk F ρ (.cons a b) := by
  intro k X d s I r d' Q Ec hm P
  simp only [dn_nil, dn_cons, dn_num, dn_str, dn_bool, dn_non, dn_neg, dn_var, dn_glb, dn_bin, dn_cmp, dn_and, dn_or, dn_ite, dn_tup, dn_lst, dn_dct, dn_idx, dn_oidx, dn_slc, dn_call, dn_bi, dn_meth, dn_comp, dn_rows, dn_raw] at hm
  have st : ∀ {K : Bool → Shared → Prop}, (∀ (t : Bool) h1 tk1 d1, Iv F X ρ d1 h1 → Post F ⟨h1, s.gens, s.drawn, tk1, s.os⟩ EqR Q Ec r d' → (if t = k then (dn F.C.g b).t k ρ else M.pure t) d1 = some (r, d') → K t ⟨h1, s.gens, s.drawn, tk1, s.os⟩) →
      wpAny (model F.C.prog F.C.w) F.A (isTrue (tx F.nm a).x F.env (eval (tx F.nm a).x F.env)) K Ec s := fun {K} h =>
    (ha X d s I).step hm P fun x v h1 tk1 d1 k1 c1 r1 e1 P1 => by
      have : v = x := r1
      subst this
      exact h v h1 tk1 d1 (I.kept O k1 c1) P1 e1
  cases k with
  | true =>
    refine wpAny_allTrue_And_cons (st fun t h1 tk1 d1 I1 P1 e1 => ?_)
    cases t with
    | true => exact hb true X d1 _ I1 _ _ _ _ e1 P1
    | false => cases e1; exact P1 _ h1 tk1 (Kept.refl _ _ _) I1.cup rfl
  | false =>
    refine wpAny_allTrue_Or_cons (st fun t h1 tk1 d1 I1 P1 e1 => ?_)
    cases t with
    | false => exact hb false X d1 _ I1 _ _ _ _ e1 P1
    | true => cases e1; exact P1 _ h1 tk1 (Kept.refl _ _ _) I1.cup rfl

theorem cdAnd {es : E} {p : Pos} (h : TtOk F ρ es) : CdOk F ρ (.and es p) := fun X d s I r d' Q Ec hm P => wpAny_isTrue_BoolOp (h true X d s I r d' Q Ec hm P)
theorem cdOr {es : E} {p : Pos} (h : TtOk F ρ es) : CdOk F ρ (.or es p) := fun X d s I r d' Q Ec hm P => wpAny_isTrue_BoolOp (h false X d s I r d' Q Ec hm P)
end
end Mine
namespace Mine
open PySem PySem.W PyProof.Rows PySem.Calls

/-- a function of the text's does what its abstract twin says -/
noncomputable def Ctr (C : Cx) (n : Nat) (f : String) : Prop := ∀ (F : Fx) X ρ d s a args vs, F.C = C → FOk F n → Iv F X ρ d s.heap → C.mg (Str.ofString f) = some (.ref a) → RepL C X s.heap args vs →
  Sim F s d (call (.ref a) vs) (C.g.F f args) (RepR F X)

/-- what the text's top holds -/
structure GOk (C : Cx) (n : Nat) (fs : List String) : Prop where
  gv : ∀ x a, C.g.GV x = some a → (Str.ofString x == ("__debug__" : Str)) = false ∧ ∃ v, C.mg (Str.ofString x) = some v ∧ ∀ X h, (∀ y ∈ X, C.base.get? y = none) → C.base.StaysIn h → Rep C X h a v
  fn : ∀ f ∈ fs, (Str.ofString f == ("__debug__" : Str)) = false ∧ ∃ a o fd, C.mg (Str.ofString f) = some (.ref a) ∧ C.base.get? a = some o ∧ o.data = .func fd
  bi : ∀ f : BI, C.mg (Str.ofString f.name) = none ∧ C.mb (Str.ofString f.name) = some f.val
  ctr : ∀ f ∈ fs, Ctr C n f

noncomputable def isRaw : E → Bool | .raw _ => true | _ => false
noncomputable def plainL : E → Bool
  | .cons a b => !isRaw a && plainL b
  | _ => true
noncomputable def lenL : E → Nat
  | .cons _ b => lenL b + 1
  | _ => 0

section
variable {F : Fx} {n : Nat} {fs : List String} {ρ : List AV} {a b c i : E}

theorem isRaw_of {e : E} (h : isRaw e = false) : ∀ x, e ≠ .raw x := fun x q => by subst q; cases h
theorem starAll {nm : List String} {env : Env} {pos : Pos} : ∀ {es : E}, plainL es = true → (backTo pos (starEach (tx nm es).l env)).any (·.1) = false
  | .cons a b, h => by
    obtain ⟨h1, h2⟩ := Bool.and_eq_true_iff.mp h
    show (backTo pos (starEach ((tx nm a).x :: (tx nm b).l) env)).any (·.1) = false
    rw [starHead (isRaw_of (by simpa using h1))]
    exact starAll (es := b) h2
  | .nil, _ => rfl
  | .num .., _ | .str .., _ | .bool .., _ | .non .., _ | .neg .., _ | .var .., _ | .glb .., _ | .bin .., _ | .cmp .., _ | .and .., _ | .or .., _ | .ite .., _ | .tup .., _ | .lst .., _ | .dct .., _
  | .idx .., _ | .oidx .., _ | .slc .., _ | .call .., _ | .bi .., _ | .meth .., _ | .comp .., _ | .rows .., _ | .raw .., _ => rfl
theorem lenAll {nm : List String} : ∀ {es : E}, (tx nm es).l.length = lenL es
  | .cons a b => by
    show ((tx nm a).x :: (tx nm b).l).length = _
    rw [List.length_cons, lenAll (es := b)]; rfl
  | .nil => rfl
  | .num .. | .str .. | .bool .. | .non .. | .neg .. | .var .. | .glb .. | .bin .. | .cmp .. | .and .. | .or .. | .ite .. | .tup .. | .lst .. | .dct ..
  | .idx .. | .oidx .. | .slc .. | .call .. | .bi .. | .meth .. | .comp .. | .rows .. | .raw .. => rfl

theorem evalArgsL {M : Model} {A : Around} {E : Value → Shared → Prop} {s : Shared} {f : Value} {trees : List (Bool × Sem Value)} {Q : Args → Shared → Prop} (hp : trees.any (·.1) = false)
    (h : wpAny M A (spliced trees) (fun vs s' => Q ⟨vs, []⟩ s') E s) : wpAny M A (evalArgs f true trees []) Q E s := by
  cases trees with
  | nil =>
    unfold evalArgs
    show wpAny M A (spliced [] >>= _) Q E s
    refine wpAny_bind (wpAny_mono h (fun vs s' h' => wpAny_bind (wpAny_pure (wpAny_holding ?_))) fun _ _ x => x)
    exact wpAny_bind (wpAny_pure (wpAny_bind (wpAny_pure (wpAny_pure h'))))
  | cons p rest =>
    obtain ⟨st, x⟩ := p
    simp only [List.any_cons, Bool.or_eq_false_iff] at hp
    obtain ⟨rfl, _⟩ := hp
    exact Calls.evalArgs_plain h

theorem globName {x : Str} {p : Pos} {v : Value} {Q : Value → Shared → Prop} {Ec : Value → Shared → Prop} {X : List Addr} {d : Int} {s : Shared} (O : FOk F n) (I : Iv F X ρ d s.heap) (hk : F.env.kindOf x = some .globalImplicit)
    (hd : (x == ("__debug__" : Str)) = false) (hv : F.C.mg x = some v) (h : Q v s) : wpAny (model F.C.prog F.C.w) F.A (eval (.Name x p) F.env) Q Ec s :=
  Calls.Name_function_global O.kind hk (Calls.loadGlobal_global (env := F.env) (by rw [O.globals]; exact O.gmg.keeps I.stays) hv h) hd

theorem exGlb {x : String} {p : Pos} (O : FOk F n) (G : GOk F.C n fs) (hk : F.env.kindOf (Str.ofString x) = some .globalImplicit) : ExOk F ρ (.glb x p) := by
  intro X d s I r d' Q Ec hm P
  simp only [dn_nil, dn_cons, dn_num, dn_str, dn_bool, dn_non, dn_neg, dn_var, dn_glb, dn_bin, dn_cmp, dn_and, dn_or, dn_ite, dn_tup, dn_lst, dn_dct, dn_idx, dn_oidx, dn_slc, dn_call, dn_bi, dn_meth, dn_comp, dn_rows, dn_raw, Dn.of, oneA_bind, oneA_ret1, bpure] at hm
  obtain ⟨z, e, rfl, rfl⟩ := lift_some hm
  obtain ⟨hd, v, hv, hr⟩ := G.gv x z e
  exact globName O I hk hd hv (P v s.heap s.toks (Kept.refl _ _ _) I.cup (hr X _ I.new I.stays))

theorem exCall {f : String} {q p : Pos} {es : E} (O : FOk F n) (G : GOk F.C n fs) (hf : f ∈ fs) (hk : F.env.kindOf (Str.ofString f) = some .globalImplicit) (hp : plainL es = true) (hes : LsOk F ρ es) : ExOk F ρ (.call f q es p) := by
  intro X d s I r d' Q Ec hm P
  simp only [dn_nil, dn_cons, dn_num, dn_str, dn_bool, dn_non, dn_neg, dn_var, dn_glb, dn_bin, dn_cmp, dn_and, dn_or, dn_ite, dn_tup, dn_lst, dn_dct, dn_idx, dn_oidx, dn_slc, dn_call, dn_bi, dn_meth, dn_comp, dn_rows, dn_raw, Dn.of, oneA_bind, oneA_ret1, bpure] at hm
  obtain ⟨hd, a, o, fd, hv, ho, hfd⟩ := G.fn f hf
  refine Call_Name rfl (globName O I hk hd hv ?_)
  refine Calls.callWith_function (o := o) (fd := fd) (evalArgsL (starAll hp) ((hes X d s p I).step hm P fun l vs h1 tk1 d1 k1 c1 r1 e1 P1 => ?_))
  have I1 := I.kept O k1 c1
  exact ⟨⟨I1.stays _ _ ho, hfd⟩, G.ctr f hf F X ρ d1 ⟨h1, s.gens, s.drawn, tk1, s.os⟩ a l vs rfl O I1 hv r1 _ _ _ _ e1 P1⟩

theorem exBi {f : BI} {q p : Pos} {e : E} (O : FOk F n) (G : GOk F.C n fs) (hk : F.env.kindOf (Str.ofString f.name) = some .globalImplicit) (hr : isRaw e = false) (he : ExOk F ρ e) : ExOk F ρ (.bi f q e p) := by
  intro X d s I r d' Q Ec hm P
  simp only [dn_nil, dn_cons, dn_num, dn_str, dn_bool, dn_non, dn_neg, dn_var, dn_glb, dn_bin, dn_cmp, dn_and, dn_or, dn_ite, dn_tup, dn_lst, dn_dct, dn_idx, dn_oidx, dn_slc, dn_call, dn_bi, dn_meth, dn_comp, dn_rows, dn_raw, Dn.of, oneA_bind, oneA_ret1, bpure] at hm
  obtain ⟨h0, hv⟩ := G.bi f
  have hd : (Str.ofString f.name == ("__debug__" : Str)) = false := by cases f <;> decide +kernel
  have hh : starEach [(tx F.nm e).x] F.env = [(false, eval (tx F.nm e).x F.env)] := starHead (l := []) (isRaw_of hr)
  refine Call_Name (by rw [hh]) (Calls.Name_function_global O.kind hk (Calls.loadGlobal_builtin (env := F.env) (by rw [O.globals]; exact O.gmg.keeps I.stays) h0 (by rw [O.builtins]; exact O.gmb.keeps I.stays) hv ?_) hd)
  have fin : wpAny (model F.C.prog F.C.w) F.A (spliced [(false, eval (tx F.nm e).x F.env)]) (fun vs s' => wpAny (model F.C.prog F.C.w) F.A (call f.val vs) Q Ec s') Ec s := by
    refine Calls.spliced_cons ((he X d s I).step hm P fun x v h1 tk1 d1 k1 c1 r1 e1 P1 => Calls.spliced_nil ?_)
    obtain ⟨z, e5, rfl, rfl⟩ := lift_some e1
    exact biOk (s := ⟨h1, s.gens, s.drawn, tk1, s.os⟩) (I.kept O k1 c1) e5 r1 P1
  cases f
  · exact Calls.callWith_builtin rfl (evalArgsL rfl fin)
  · exact PyProof.Rows.callWith_type rfl (evalArgsL rfl fin)
  · exact PyProof.Rows.callWith_type rfl (evalArgsL rfl fin)

theorem exMeth {m : MT} {o es : E} {q p : Pos} (O : FOk F n) (hl : (q.endLine == p.line) = true) (hp : plainL es = true) (hn : lenL es < 30) (hb : attributeBase (tx F.nm o).x (Str.ofString m.name) F.env (eval (tx F.nm o).x F.env) = eval (tx F.nm o).x F.env) (ho : ExOk F ρ o) (hes : LsOk F ρ es) :
    ExOk F ρ (.meth m o q es p) := by
  intro X d s I r d' Q Ec hm P
  simp only [dn_nil, dn_cons, dn_num, dn_str, dn_bool, dn_non, dn_neg, dn_var, dn_glb, dn_bin, dn_cmp, dn_and, dn_or, dn_ite, dn_tup, dn_lst, dn_dct, dn_idx, dn_oidx, dn_slc, dn_call, dn_bi, dn_meth, dn_comp, dn_rows, dn_raw, Dn.of, oneA_bind, oneA_ret1, bpure] at hm
  have hst := starAll (nm := F.nm) (env := F.env) (pos := p) hp
  refine wpAny_Call_method_late hb ?_ hl rfl ((ho X d s I).step hm P fun x v h1 tk1 d1 k1 c1 r1 e1 P1 => ?_)
  · have : (backTo p (starEach (tx F.nm es).l F.env)).all (fun x => !x.1) = true := by
      rw [List.all_eq_true]
      intro y hy
      have := List.any_eq_false.mp hst y hy
      simpa using this
    rw [this, lenAll]
    simp [backToKw, keywordEach]
    exact hn
  · have I1 := I.kept O k1 c1
    have hh : methHas m x = true := by
      cases q : methHas m x with
      | true => rfl
      | false => rw [q] at e1; exact absurd e1 (by simp [M.bind, M.fail])
    rw [hh] at e1
    obtain ⟨T, id, pa, slot, hty, hT, hd, hcall⟩ := methOk (F := F) (s := ⟨h1, s.gens, s.drawn, tk1, s.os⟩) hh r1
    refine ⟨T, id, pa, slot, hty, hT, hd, Calls.callWith_builtin hst (evalArgsL hst ((hes X d1 ⟨h1, s.gens, s.drawn, tk1, s.os⟩ p I1).step e1 P1 fun l' vs h2 tk2 d3 k2 c2 r2 e6 P2 => ?_))⟩
    have I2 := I1.kept O k2 c2
    obtain ⟨z, e5, rfl, rfl⟩ := lift_some e6
    exact hcall l' z ⟨h2, s.gens, s.drawn, tk2, s.os⟩ ρ _ vs Q Ec e5 I2 (k2.rep I1.sub (cupIn O I1) r1) r2 P2

theorem exIdx {p : Pos} (O : FOk F n) (hr : isRaw i = false) (ha : ExOk F ρ a) (hi : ExOk F ρ i) : ExOk F ρ (.idx a i p) := by
  intro X d s I r d' Q Ec hm P
  simp only [dn_nil, dn_cons, dn_num, dn_str, dn_bool, dn_non, dn_neg, dn_var, dn_glb, dn_bin, dn_cmp, dn_and, dn_or, dn_ite, dn_tup, dn_lst, dn_dct, dn_idx, dn_oidx, dn_slc, dn_call, dn_bi, dn_meth, dn_comp, dn_rows, dn_raw, Dn.of, oneA_bind, oneA_ret1, bpure] at hm
  refine Subscript_ ((ha X d s I).step hm P fun x v h1 tk1 d1 k1 c1 r1 e1 P1 => ?_)
  have I1 := I.kept O k1 c1
  refine (hi X d1 ⟨h1, s.gens, s.drawn, tk1, s.os⟩ I1).step e1 P1 fun y w h2 tk2 d2 k2 c2 r2 e2 P2 => ?_
  have I2 := I1.kept O k2 c2
  exact idxOk (s := ⟨h2, s.gens, s.drawn, tk2, s.os⟩) O I2 e2 (k2.rep I1.sub (cupIn O I1) r1) r2 (noSlice (isRaw_of hr)) fun z hz hd => by subst hz hd; exact P2

theorem ownA_some {x : Nat} {d d' : Int} {r : Except Int (List AV)} (h : ownA ρ x d = some (r, d')) : ∃ l, ρ[x]? = some (.own l) ∧ r = .ok l ∧ d' = d := by
  revert h
  simp only [ownA]
  cases ρ[x]? with
  | none => intro h; cases h
  | some av => cases av <;> intro h <;> cases h; exact ⟨_, rfl, rfl, rfl⟩

set_option tactic.hygienic true
theorem exOidx {x : Nat} {q p : Pos} (O : FOk F n) (hx : x < F.nm.length) (hr : isRaw i = false) (hi : ExOk F ρ i) : ExOk F ρ (.oidx x q i p) := by
  intro X d s I r d' Q Ec hm P
  simp only [dn_nil, dn_cons, dn_num, dn_str, dn_bool, dn_non, dn_neg, dn_var, dn_glb, dn_bin, dn_cmp, dn_and, dn_or, dn_ite, dn_tup, dn_lst, dn_dct, dn_idx, dn_oidx, dn_slc, dn_call, dn_bi, dn_meth, dn_comp, dn_rows, dn_raw, Dn.of, oneA_bind, oneA_ret1, bpure] at hm
  have hn : F.nm[x]? = some F.nm[x] := List.getElem?_eq_getElem hx
  have pl := O.plain _ (List.getElem_mem hx)
  have en : nmAt F.nm x = Str.ofString F.nm[x] := by simp [nmAt, hx]
  rcases M.bind_eq_some hm with ⟨l, d1, e1, e2⟩ | ⟨l, d1, e1, e2⟩
  · obtain ⟨_, _, h, _⟩ := ownA_some e1; cases h
  · obtain ⟨_, hown, h, rfl⟩ := ownA_some e1
    cases h
    obtain ⟨D, vs, hv, hD1, hD2, hl, hrl⟩ := I.vars x _ _ hown hn
    have hl := hl.isList
    have fin : wpAny (model F.C.prog F.C.w) F.A (eval (tx F.nm i).x F.env) (fun iv s₂ => wpAny (model F.C.prog F.C.w) F.A (subscriptTail (.Name (nmAt F.nm x) q) (tx F.nm i).x (.ref D) iv) Q Ec s₂) Ec s := by
      refine (hi X d1 s I).step e2 P fun y w h2 tk2 d2 k2 c2 r2 e3 P2 => ?_
      have I2 := I.kept O k2 c2
      have hl2 : h2.IsList D vs.toArray := k2.list (by intro qq; rw [List.mem_singleton] at qq; subst qq; exact hD2.1 O.cupX) hl
      have hr2 := k2.repL I.sub (cupIn O I) hrl
      cases y <;> try (cases e3; done)
      rename_i k
      obtain ⟨u, rfl⟩ := r2
      change oneA (if k ≤ ↑LIM then M.bind (atA l k) ret1 else M.fail) d2 = _ at e3
      split at e3
      · rename_i hs
        rw [oneA_one] at e3
        unfold atA at e3
        split at e3
        · rename_i h0
          obtain ⟨z, e4, rfl, rfl⟩ := lift_some e3
          obtain ⟨xv, e5, hz⟩ := hr2.get e4
          simp only [LIM] at hs
          exact tail_any hl2.typeIs slot_list_getitem.lookup (wpAny_getItem_list hl2 h0 (by omega) (by simpa using e5) (P2 _ h2 tk2 (Kept.refl _ _ _) I2.cup hz)) (noSlice (isRaw_of hr))
        · cases e3
      · cases e3
    show wpAny _ _ (eval (.Subscript (.Name (nmAt F.nm x) q) (tx F.nm i).x p) F.env) _ _ _
    refine Subscript_ ?_
    rw [en] at fin ⊢
    refine wpAny_Name ?_ pl.1
    rcases hv with ⟨hk, m, hns, hmv⟩ | ⟨hk | hk, cc, hc, hcell⟩
    · exact wpAny_loadName_local O.kind hk hns hmv fin
    · exact wpAny_loadName_cell O.kind hk hc hcell fin
    · exact wpAny_loadName_free O.kind hk hc hcell fin pl.2

/-- a bound of a slice -/
theorem optBnd {lo : E} {X : List Addr} {d : Int} {s : Shared} {γ δ : Type} {R' : Heap → δ → γ → Prop} {f : List AV → M γ} {r : Except Int γ} {d' : Int} {Q : δ → Shared → Prop} {Ec : Value → Shared → Prop} (O : FOk F n) (I : Iv F X ρ d s.heap) (hl : lo.isNil = false → ExOk F ρ lo)
    (e : M.bind (optA lo.isNil ((dn F.C.g lo).e ρ)) f d = some (r, d')) (P : Post F s R' Q Ec r d') {K : Value → Shared → Prop}
    (h : ∀ l v h' tk d₁, Kept F.X0 [F.C.cup] s.heap h' → Iv F X ρ d₁ h' → f l d₁ = some (r, d') → Post F { s with heap := h', toks := tk } R' Q Ec r d' → (∀ b, bndA l = some b → match b with | none => v = .none | some m => ∃ t, v = .int (m : Int) t) → K v { s with heap := h', toks := tk }) :
    wpAny (model F.C.prog F.C.w) F.A (valueOrNone (evalOpt (if lo.isNil then none else some (tx F.nm lo).x) F.env)) K Ec s := by
  cases q : lo.isNil with
  | true =>
    rw [q] at e
    simp only [if_true]
    exact wpAny_pure (h [] .none s.heap s.toks d (Kept.refl _ _ _) I e P fun b hb => by cases hb; rfl)
  | false =>
    rw [q] at e
    simp only [Bool.false_eq_true, if_false]
    show wpAny _ _ (eval (tx F.nm lo).x F.env) _ _ _
    simp only [optA, Bool.false_eq_true, if_false, bind_assoc] at e
    refine (hl q X d s I).step e P fun x v h1 tk1 d1 k1 c1 r1 e1 P1 => h [x] v h1 tk1 d1 k1 (I.kept O k1 c1) e1 P1 fun b hb => ?_
    cases x <;> try (cases hb; done)
    rename_i i
    obtain ⟨t, rfl⟩ := r1
    change (if 0 ≤ i ∧ i ≤ ↑LIM then some (some i.toNat) else none) = some b at hb
    split at hb
    · rename_i hh
      cases hb
      exact ⟨t, by congr 1; omega⟩
    · cases hb

theorem exSlc {lo hi : E} {q p : Pos} (O : FOk F n) (ha : ExOk F ρ a) (hlo : lo.isNil = false → ExOk F ρ lo) (hhi : hi.isNil = false → ExOk F ρ hi) : ExOk F ρ (.slc a lo hi q p) := by
  intro X d s I r d' Q Ec hm P
  simp only [dn_nil, dn_cons, dn_num, dn_str, dn_bool, dn_non, dn_neg, dn_var, dn_glb, dn_bin, dn_cmp, dn_and, dn_or, dn_ite, dn_tup, dn_lst, dn_dct, dn_idx, dn_oidx, dn_slc, dn_call, dn_bi, dn_meth, dn_comp, dn_rows, dn_raw, Dn.of, oneA_bind, oneA_ret1, bpure] at hm
  refine Subscript_ ((ha X d s I).step hm P fun x v h1 tk1 d1 k1 c1 r1 e1 P1 => ?_)
  have I1 := I.kept O k1 c1
  rw [arm_eval_Slice]
  refine wpAny_bind (optBnd (s := ⟨h1, s.gens, s.drawn, tk1, s.os⟩) O I1 hlo e1 P1 fun l1 vl h2 tk2 d2 k2 I2 e2 P2 b1 => wpAny_bind (wpAny_holding (optBnd (s := ⟨h2, s.gens, s.drawn, tk2, s.os⟩) O I2 hhi e2 P2 fun l2 vu h3 tk3 d3 k3 I3 e3 P3 b2 => wpAny_bind (wpAny_holding (wpAny_pure ?_)))))
  obtain ⟨z, e4, rfl, rfl⟩ := lift_some e3
  have r3 := k3.rep I2.sub (cupIn O I2) (k2.rep I1.sub (cupIn O I1) r1)
  cases x <;> try (cases e4; done)
  rename_i l
  obtain ⟨t, rfl⟩ := r3
  simp only [slcA] at e4
  split at e4
  · rename_i hs
    split at e4
    · rename_i lo' hi' h5 h6
      cases e4
      exact slcOk (s := ⟨h3, s.gens, s.drawn, tk3, s.os⟩) I3 hs (b1 _ h5) (b2 _ h6) (fun _ => rfl) P3
    · cases e4
  · cases e4

set_option tactic.hygienic false
theorem exAndOr {k : Bool} {es : E} {p : Pos} (h : BlOk F ρ es) : ExOk F ρ (if k then .and es p else .or es p) := by
  intro X d s I r d' Q Ec hm P
  cases k
  · simp only [Bool.false_eq_true, if_false, dn_and, dn_or, oneA_one] at hm ⊢
    exact h false X d s p I r d' Q Ec hm P
  · simp only [if_true, dn_and, dn_or, oneA_one] at hm ⊢
    exact h true X d s p I r d' Q Ec hm P
theorem exAnd {es : E} {p : Pos} (h : BlOk F ρ es) : ExOk F ρ (.and es p) := exAndOr (k := true) h
theorem exOr {es : E} {p : Pos} (h : BlOk F ρ es) : ExOk F ρ (.or es p) := exAndOr (k := false) h

theorem blOne (ha : ExOk F ρ a) : BlOk F ρ (.cons a .nil) := by
  intro k X d s pos I r d' Q Ec hm P
  simp only [dn_nil, dn_cons, dn_num, dn_str, dn_bool, dn_non, dn_neg, dn_var, dn_glb, dn_bin, dn_cmp, dn_and, dn_or, dn_ite, dn_tup, dn_lst, dn_dct, dn_idx, dn_oidx, dn_slc, dn_call, dn_bi, dn_meth, dn_comp, dn_rows, dn_raw, E.isNil, if_true] at hm
  exact ha X d s I r d' Q Ec hm P
theorem blCons (O : FOk F n) (ha : ExOk F ρ a) (hb : BlOk F ρ (.cons b c)) : BlOk F ρ (.cons a (.cons b c)) := by
  intro k X d s pos I r d' Q Ec hm P
  have hm' : M.bind (oneA ((dn F.C.g a).e ρ)) (fun v => M.bind (M.lift (truthA v)) fun t => if t = k then (dn F.C.g (.cons b c)).b k ρ else M.pure v) d = some (r, d') := hm
  show wpAny _ _ (do let v ← eval (tx F.nm a).x F.env; standAt pos; let t ← holding [v] (truthy v); match bop k, t with | .And, false | .Or, true => pure v | _, _ => boolOp pos (bop k) (evalEach (tx F.nm (.cons b c)).l F.env)) _ _ _
  refine wpAny_bind ((ha X d s I).step hm' P fun x v h1 tk1 d1 k1 c1 r1 e1 P1 => wpAny_bind (wpAny_standAt (wpAny_bind (wpAny_holding ?_))))
  have I1 := I.kept O k1 c1
  rcases M.bind_eq_some e1 with ⟨l, d3, e3, e4⟩ | ⟨t, d3, e3, e4⟩
  · obtain ⟨_, _, q, _⟩ := lift_some e3; cases q
  · obtain ⟨t, e5, q, rfl⟩ := lift_some e3
    cases q
    refine truthOk (s := ⟨h1, s.gens, s.drawn, tk1, s.os⟩) e5 r1 fun tk => ?_
    have goOn := fun (e4 : (dn F.C.g (.cons b c)).b k ρ d3 = some (r, d')) => hb k X d3 ⟨h1, s.gens, s.drawn, tk, s.os⟩ pos I1 r d' Q Ec e4 (P1.on (s := ⟨h1, s.gens, s.drawn, tk1, s.os⟩) (Kept.refl _ _ _))
    have stop := fun (e4 : M.pure x d3 = some (r, d')) => show Q v ⟨h1, s.gens, s.drawn, tk, s.os⟩ from by cases e4; exact P1 v h1 tk (Kept.refl _ _ _) c1 r1
    cases k <;> cases t <;> simp only [Bool.false_eq_true, Bool.true_eq_false, if_true, if_false, reduceCtorEq] at e4
    · exact goOn e4
    · exact wpAny_pure (stop e4)
    · exact wpAny_pure (stop e4)
    · exact goOn e4

set_option tactic.hygienic true
theorem exRows {o : E} {q r1 t u p : Pos} (O : FOk F n) (G : GOk F.C n fs) (hk : F.env.kindOf (Str.ofString "len") = some .globalImplicit) (hl : (r1.endLine == u.line) = true)
    (hb : attributeBase (tx F.nm o).x (Str.ofString "split") F.env (eval (tx F.nm o).x F.env) = eval (tx F.nm o).x F.env) (ho : ExOk F ρ o) : ExOk F ρ (.rows o q r1 t u p) := by
  intro X d s I r d' Q Ec hm P
  simp only [dn_nil, dn_cons, dn_num, dn_str, dn_bool, dn_non, dn_neg, dn_var, dn_glb, dn_bin, dn_cmp, dn_and, dn_or, dn_ite, dn_tup, dn_lst, dn_dct, dn_idx, dn_oidx, dn_slc, dn_call, dn_bi, dn_meth, dn_comp, dn_rows, dn_raw, Dn.of, oneA_bind] at hm
  obtain ⟨h0, hv⟩ := G.bi .len
  have hd : (Str.ofString "len" == ("__debug__" : Str)) = false := by decide +kernel
  refine Call_Name1 (Calls.Name_function_global O.kind hk (Calls.loadGlobal_builtin (env := F.env) (by rw [O.globals]; exact O.gmg.keeps I.stays) h0 (by rw [O.builtins]; exact O.gmb.keeps I.stays) hv ?_) hd) rfl
  refine Calls.callWith_builtin rfl (evalArgsL rfl (Calls.spliced_cons ?_))
  refine wpAny_Call_method1_late hb hl rfl ((ho X d s I).step hm P fun x v h1 tk1 d1 k1 c1 r1 e1 P1 => ?_)
  have I1 := I.kept O k1 c1
  cases x <;> try (cases e1; done)
  rename_i l
  obtain ⟨tk, rfl⟩ := r1
  change oneA (if l.length ≤ LIM then ret1 (.int ((l.count 10 : Nat) + 1)) else M.fail) d1 = _ at e1
  split at e1
  · rename_i hs
    cases e1
    simp only [LIM] at hs
    refine ⟨"str", "str.split", PySem.F.plainAttrs_str, PySem.F.slot_str_split, PySem.F.type_str_split, typeIs_str _ _ _, fun _ e => (nomatch e), Calls.callWith_builtin rfl (evalArgsL rfl (Calls.spliced_cons (Calls.Constant_str (Calls.spliced_nil ?_))))⟩
    rw [show Str.ofString "\n" = ⟨#[10]⟩ from by decide +kernel]
    have hc := rowsEq l
    have hcl : l.count 10 ≤ l.length := List.count_le_length
    refine SCH.split1 (P := fun h => ∀ b o, h1.get? b = some o → h.get? b = some o) keptH (fun _ _ e => e) rfl (fun D ts h' k hl hk hD => Calls.spliced_nil ?_) (by rw [strLen, sizeLine']; omega) ?_
    · rw [← hl, List.length_map] at hc
      have hsz : (strValues ts).toArray.size = l.count 10 + 1 := by simp [strValues, hc]
      refine PyProof.Rows.len_list hD (by rw [hsz]; omega) ?_
      rw [hsz]
      exact P1 _ h' _ (.of hk) (c1.keeps hk) ⟨_, by congr 1⟩
    · have e1 := StrLaws.occ_length_le ⟨l.toArray⟩ ⟨#[10]⟩ 0 (⟨l.toArray⟩ : Str).length ((⟨l.toArray⟩ : Str).length + 1)
      rw [length_partsBetween, sizeLine']
      rw [strLen] at e1 ⊢
      omega
  · cases e1

/-! dict displays -/
noncomputable def AllEx (F : Fx) (ρ : List AV) : E → Prop
  | .cons a b => ExOk F ρ a ∧ AllEx F ρ b
  | _ => True
noncomputable def KeyOk : E → Prop
  | .str x l _ => Str.ofString x = ⟨l.toArray⟩
  | _ => True
noncomputable def KeysOk : E → Prop
  | .cons a b => KeyOk a ∧ KeysOk b
  | _ => True
theorem keysCons {ks : E} {x : List Nat} {k : List (List Nat)} (h : keysA ks = some (x :: k)) : ∃ sx p b, ks = .cons (.str sx x p) b ∧ keysA b = some k := by
  cases ks <;> try (cases h; done)
  case cons a b =>
    obtain ⟨l, h1, h2⟩ := Option.bind_eq_some_iff.mp (show (strE a).bind (fun l => (keysA b).map (l :: ·)) = some (x :: k) from h)
    obtain ⟨k', h3, h4⟩ := Option.map_eq_some_iff.mp h2
    cases h4
    obtain ⟨s, p, rfl⟩ := strE_eq h1
    exact ⟨s, p, b, rfl, h3⟩
noncomputable def lstE : E → Bool
  | .nil => true
  | .cons _ b => lstE b
  | _ => false

noncomputable def prsL (env : Env) (pos : Pos) (ks vs : List Expr) : List (Sem Value × Sem Value) := (ks.zip vs).map fun p => (eval p.1 env, do let x ← eval p.2 env; standAt pos; pure x)
set_option tactic.hygienic false
theorem prsShape {env : Env} {pos : Pos} : ∀ (ks vs : List Expr), (evalEachOpt (ks.map some) env).zip ((evalEach vs env).map fun v => do let x ← v; standAt pos; pure x) = (prsL env pos ks vs).map fun p => (some p.1, p.2)
  | [], _ => rfl
  | _ :: _, [] => by simp [prsL, evalEach]
  | k :: ks, v :: vs => by
    have := prsShape (env := env) (pos := pos) ks vs
    simp only [prsL, List.zip_cons_cons, List.map_cons] at this ⊢
    rw [← this]; rfl

theorem lstNil {e : E} (h : lstE e = true) (h0 : lenL e = 0) : e = .nil := by
  cases e <;> first | rfl | (cases h; done) | (simp [lenL] at h0)
theorem lstCons {e : E} {m : Nat} (h : lstE e = true) (h0 : lenL e = m + 1) : ∃ a b, e = .cons a b ∧ lstE b = true ∧ lenL b = m := by
  cases e <;> first | (cases h; done) | (simp [lenL] at h0; done) | exact ⟨_, _, rfl, h, by simpa [lenL] using h0⟩

theorem pairsOk {pos : Pos} (O : FOk F n) : ∀ (k : List (List Nat)) (ks vs : E), keysA ks = some k → KeysOk ks → lstE vs = true → lenL vs = k.length → AllEx F ρ vs →
    ∀ {X : List Addr} {d : Int} {s : Shared} {f : List AV → M AV} {r : Except Int AV} {d' : Int} {Q Ec : Value → Shared → Prop} {R' : Heap → Value → AV → Prop} (_ : Iv F X ρ d s.heap)
      (_ : M.bind ((dn F.C.g vs).e ρ) f d = some (r, d')) (_ : Post F s R' Q Ec r d') {K : List (Value × Value) → Shared → Prop}
      (_ : ∀ l ws ps h' tk d₁, Kept F.X0 [F.C.cup] s.heap h' → Iv F X ρ d₁ h' → RepL F.C X h' l ws → Carries (strKind F.C.prog F.C.w) ps ((k.map fun x => (⟨x.toArray⟩ : Str)).zip ws) → f l d₁ = some (r, d') → Post F { s with heap := h', toks := tk } R' Q Ec r d' → K ps { s with heap := h', toks := tk }),
      wpAny (model F.C.prog F.C.w) F.A (evalPairs (prsL F.env pos (tx F.nm ks).l (tx F.nm vs).l)) K Ec s
  | [], ks, vs, hk, _, hl, hn, _, X, d, s, f, r, d', Q, Ec, R', I, hm, P, K, h => by
    cases lstNil hl hn
    have : (tx F.nm ks).l.zip (tx F.nm .nil).l = [] := List.zip_nil_right
    unfold prsL
    rw [this]
    exact evalPairs_nil (h [] [] [] s.heap s.toks d (Kept.refl _ _ _) I trivial trivial hm P)
  | x :: k, ks, vs, hk, ho, hl, hn, ha, X, d, s, f, r, d', Q, Ec, R', I, hm, P, K, h => by
    obtain ⟨a, b, rfl, hlb, hnb⟩ := lstCons hl hn
    obtain ⟨sx, p, ks, rfl, hk'⟩ := keysCons hk
    simp only [dn_nil, dn_cons, dn_num, dn_str, dn_bool, dn_non, dn_neg, dn_var, dn_glb, dn_bin, dn_cmp, dn_and, dn_or, dn_ite, dn_tup, dn_lst, dn_dct, dn_idx, dn_oidx, dn_slc, dn_call, dn_bi, dn_meth, dn_comp, dn_rows, dn_raw, bind_assoc, pure_bind'] at hm
    show wpAny _ _ (evalPairs ((eval (.Constant (.str (Str.ofString sx)) 0 p) F.env, do let x ← eval (tx F.nm a).x F.env; standAt pos; pure x) :: prsL F.env pos (tx F.nm ks).l (tx F.nm b).l)) _ _ _
    refine evalPairs_cons (Calls.Constant_str (wpAny_bind ((ha.1 X d { s with toks := s.toks + 1 } I).step hm (P.on (Kept.refl _ _ _)) fun y v h1 tk1 d1 k1 c1 r1 e1 P1 => wpAny_bind (wpAny_standAt (wpAny_pure ?_)))))
    have I1 := I.kept O k1 c1
    refine pairsOk O k ks b hk' ho.2 hlb hnb ha.2 (s := ⟨h1, s.gens, s.drawn, tk1, s.os⟩) I1 e1 P1 fun l' ws ps h2 tk2 d2 k2 I2 r2 hc e2 P2 => ?_
    refine h (y :: l') (v :: ws) _ h2 tk2 d2 (k1.trans k2) I2 ⟨k2.rep I1.sub (cupIn O I1) r1, r2⟩ ⟨?_, rfl, hc⟩ e2 P2
    rw [ho.1]
    exact strKind_is _ _ _ _

theorem valueAt_zip : ∀ (ks : List (List Nat)) (ws : List Value) (k : Str), valueAt ((ks.map fun x => (⟨x.toArray⟩ : Str)).zip ws) k = (ks.zip ws).lookup k.cps.toList
  | [], _, _ => rfl
  | _ :: _, [], _ => rfl
  | x :: ks, w :: ws, k => by
    have ih := valueAt_zip ks ws k
    unfold valueAt at ih ⊢
    rw [List.map_cons, List.zip_cons_cons, List.zip_cons_cons, List.lookup_cons, List.find?_cons]
    by_cases h : (⟨x.toArray⟩ : Str) = k
    · subst h; simp
    · have h2 : (k.cps.toList == x) = false := by
        refine beq_eq_false_iff_ne.mpr fun q => h ?_
        rw [← q]
      rw [h2]
      simp only [h, decide_false]
      exact ih

theorem Heap.noneAt (h : Heap) : h.get? h.objs.size = none := by
  cases e : h.get? h.objs.size with
  | none => rfl
  | some o => exact absurd (Heap.lt_size e) (Nat.lt_irrefl _)

theorem Iv.grow (O : FOk F n) {X : List Addr} {d : Int} {h : Heap} (I : Iv F X ρ d h) (o : Obj) (hf : o.isFreed = false) : Iv F (h.objs.size :: X) ρ d (h.push o) := by
  have I0 : Iv F X ρ d (h.push o) := I.kept O (Kept.push _) (I.cup.push _)
  have hg : ∀ b ∈ h.objs.size :: X, b ∈ X ∨ h.get? b = none := fun b hb => by
    rcases List.mem_cons.mp hb with rfl | hb
    · exact .inr (Mine.Heap.noneAt h)
    · exact .inl hb
  have lift : ∀ {m : Str} {a : AV}, VarOk F X h m a → VarOk F (h.objs.size :: X) (h.push o) m a := fun {m a} x => by
    have k : Kept F.X0 [F.C.cup] h (h.push o) := Kept.push o
    have mv : ∀ {l : List AV} {vs : List Value}, RepL F.C X h l vs → RepL F.C (h.objs.size :: X) (h.push o) l vs := fun r => RepL.move (fun b o' e q => ⟨fun z => (hg b z).elim q fun z => (by rw [e] at z; cases z), Heap.get?_push_of_some _ e⟩) _ r
    have mv1 : ∀ {a : AV} {v : Value}, Rep F.C X h a v → Rep F.C (h.objs.size :: X) (h.push o) a v := fun r => Rep.move (fun b o' e q => ⟨fun z => (hg b z).elim q fun z => (by rw [e] at z; cases z), Heap.get?_push_of_some _ e⟩) _ r
    cases a <;> first
      | trivial
      | (obtain ⟨dd, vs, q1, q2, q3, q4, q5⟩ := x
         exact ⟨dd, vs, q1.kept k I.cup.isList, List.mem_cons_of_mem _ q2, q3, q4.at (fun o e => (k _ o e (by intro q; rw [List.mem_singleton] at q; subst q; exact q3.1 O.cupX)).2 q3.1), mv q5⟩)
      | (obtain ⟨v, q1, q2⟩ := x
         exact ⟨v, q1.kept k I.cup.isList, mv1 q2⟩)
  exact {
    stays := I0.stays
    ff := I0.ff
    sub := fun x hx => List.mem_cons_of_mem _ (I.sub x hx)
    subY := fun x hx => List.mem_cons_of_mem _ (I.subY x hx)
    old := I0.old
    new := fun x hx => by
      rcases List.mem_cons.mp hx with rfl | hx
      · cases e : F.C.base.get? h.objs.size with
        | none => rfl
        | some o => exact absurd (Heap.lt_size (I.stays _ _ e)) (Nat.lt_irrefl _)
      · exact I.new x hx
    live := fun x hx => by
      rcases List.mem_cons.mp hx with rfl | hx
      · exact ⟨_, Heap.get?_push_size _ hf⟩
      · exact I0.live x hx
    lst := fun hx => by
      rcases List.mem_cons.mp hx with e | hx
      · obtain ⟨_, _, vs, ⟨oo, ho, _⟩, _⟩ := I.cup
        rw [e] at ho
        exact Nat.lt_irrefl _ (Heap.lt_size ho)
      · exact I.lst hx
    cup := I0.cup
    ns := I0.ns
    cells := I0.cells
    vars := fun i nm a e e' => lift (I.vars i nm a e e') }

theorem CupAt.but {C : Cx} {h h' : Heap} {d : Int} {D : Addr} (c : CupAt C h d) (h1 : C.cup ≠ D) (h2 : C.lst ≠ D) (k : ∀ b o, b ≠ D → h.get? b = some o → h'.get? b = some o) : CupAt C h' d := by
  obtain ⟨⟨t, a⟩, n, vs, b, r⟩ := c
  have hints : ∀ {l : List Int} {vs : List Value}, RepL C [] h (l.map .int) vs → RepL C [] h' (l.map .int) vs := by
    intro l
    induction l with
    | nil => intro vs x; cases vs with
      | nil => trivial
      | cons _ _ => exact x.elim
    | cons i l ih => intro vs x; cases vs with
      | nil => exact x.elim
      | cons v vs => exact ⟨x.1, ih x.2⟩
  exact ⟨⟨t, a.at fun o e => k _ o h1 e⟩, n, vs, b.at fun o e => k _ o h2 e, hints r⟩

theorem keysLen : ∀ {ks : E} {k : List (List Nat)}, keysA ks = some k → lenL ks = k.length := by
  intro ks
  induction ks with
  | nil => intro k h; cases h; rfl
  | cons a b _ ih =>
    intro k h
    obtain ⟨l, h1, h2⟩ := Option.bind_eq_some_iff.mp (show (strE a).bind (fun l => (keysA b).map (l :: ·)) = some k from h)
    obtain ⟨k', h3, h4⟩ := Option.map_eq_some_iff.mp h2
    cases h4
    show lenL b + 1 = _
    rw [ih h3, List.length_cons]
  | _ => intro k h; cases h

set_option tactic.hygienic true
theorem exDct {ks vs : E} {p : Pos} (O : FOk F n) (hk : KeysOk ks) (hl : lstE vs = true) (hn : lenL ks = lenL vs) (h0 : 0 < lenL vs) (h15 : lenL vs ≤ 15) (hs : sysModules < mainGlobals) (ha : AllEx F ρ vs) : ExOk F ρ (.dct ks vs p) := by
  intro X d s I r d' Q Ec hm P
  simp only [dn_nil, dn_cons, dn_num, dn_str, dn_bool, dn_non, dn_neg, dn_var, dn_glb, dn_bin, dn_cmp, dn_and, dn_or, dn_ite, dn_tup, dn_lst, dn_dct, dn_idx, dn_oidx, dn_slc, dn_call, dn_bi, dn_meth, dn_comp, dn_rows, dn_raw, Dn.of] at hm
  cases hka : keysA ks with
  | none => rw [hka] at hm; cases hm
  | some k =>
    rw [hka] at hm
    simp only [oneA_bind] at hm
    have hx : s.heap.objs.size ∉ X := notIn_of_live I.live
    have I0 := I.grow O { cls := .type "dict", data := .dict #[] } rfl
    have P0 := P.on (tk := s.toks) (Kept.push (X0 := F.X0) (W := [F.C.cup]) (h := s.heap) { cls := .type "dict", data := .dict #[] })
    have hlen : lenL vs = k.length := hn ▸ keysLen hka
    have key : ∀ (ps : List (Sem Value × Sem Value)), ps = prsL F.env p (tx F.nm ks).l (tx F.nm vs).l → ps ≠ [] → ps.length ≤ 15 → wpAny (model F.C.prog F.C.w) F.A (eval (.Dict ((tx F.nm ks).l.map some) (tx F.nm vs).l p) F.env) Q Ec s := fun ps hps h1 h2 => by
      refine wpAny_Dict_pairs (knd := strKind F.C.prog F.C.w) (pairs := ps) (hps ▸ prsShape _ _) h1 h2 ?_
      rw [hps]
      refine pairsOk O k ks vs hka hk hl hlen ha (s := ⟨s.heap.push { cls := .type "dict", data := .dict #[] }, s.gens, s.drawn, s.toks, s.os⟩) I0 hm P0 fun l ws ps h1 tk1 d1 k1 I1 r1 hc e1 P1 => ?_
      have hnew : ∀ o, (s.heap.push { cls := .type "dict", data := .dict #[] }).get? s.heap.objs.size = some o → h1.get? s.heap.objs.size = some o := fun o e => (k1 _ o e fun q => by rw [List.mem_singleton] at q; exact hx (q ▸ I.sub _ O.cupX)).2 fun q => hx (I.sub _ q)
      have hlw := RepL.length r1
      split at e1
      · rename_i hh
        obtain ⟨g1, g2, g3, g4⟩ := hh
        cases e1
        refine ⟨_, hc, ⟨_, #[], 0, hnew _ (Heap.get?_push_size _ rfl), ⟨rfl, rfl, rfl⟩, rfl, fun _ he => by simp at he, Pairs.nil, List.nodup_nil⟩, fun h' hd hb => ?_⟩
        have nd : (((k.map fun x => (⟨x.toArray⟩ : Str)).zip ws).map (·.1)).Nodup := by
          rw [List.map_fst_zip (by rw [List.length_map, hlw]; exact Nat.le_of_eq g1)]
          refine List.pairwise_map.mpr (g4.imp fun ne e => ne ?_)
          injection e with e
          simpa using e
        rw [merged_nil_of_nodup _ nd] at hd
        have hk2 : ∀ b o, b ≠ s.heap.objs.size → h1.get? b = some o → h'.get? b = some o := fun b o hne e => hb.extBut b o hne e
        refine P _ h' _ (fun b o e nb => ?_) ?_ ⟨s.heap.objs.size, ws, _, rfl, hx, ?_, hd.mapOf, ?_, by rw [hlw, g1], fun x => valueAt_zip k ws x⟩
        · have hne : b ≠ s.heap.objs.size := Nat.ne_of_lt (Heap.lt_size e)
          obtain ⟨⟨sl, e1⟩, e2⟩ := k1 b o (Heap.get?_push_of_some _ e) nb
          exact ⟨⟨sl, hk2 _ _ hne e1⟩, fun nx => hk2 _ _ hne (e2 nx)⟩
        · refine I1.cup.but (fun q => by have := I.sub _ O.cupX; rw [q] at this; exact hx this) (fun q => I1.lst (by rw [q]; exact List.mem_cons_self)) hk2
        · have h5 : mainGlobals < s.heap.objs.size := by
            obtain ⟨o, es, ep, ho, _⟩ := O.gmg
            exact Heap.lt_size (I.stays _ _ ho)
          refine beq_eq_false_iff_ne.mpr fun q => ?_
          rw [q] at h5
          exact Nat.lt_irrefl _ (Nat.lt_trans hs h5)
        · exact RepL.move (fun b o e q => ⟨fun z => q (List.mem_cons_of_mem _ z), hk2 b o (fun z => q (by rw [z]; exact List.mem_cons_self)) e⟩) _ r1
      · cases e1
    refine key _ rfl (fun q => ?_) ?_
    · have := congrArg List.length q
      simp only [prsL, List.length_map, List.length_zip, lenAll, List.length_nil] at this
      omega
    · simp only [prsL, List.length_map, List.length_zip, lenAll]
      omega
end
end Mine
namespace Mine
open PySem PySem.W PyProof.Rows PySem.Calls

section
variable {F : Fx} {n : Nat} {fs : List String} {ρ : List AV} {X : List Addr} {d : Int} {h h' : Heap}

set_option tactic.hygienic false
theorem nmNe (O : FOk F n) {i x : Nat} {a b : String} (ha : F.nm[i]? = some a) (hb : F.nm[x]? = some b) (hne : i ≠ x) : Str.ofString a ≠ Str.ofString b := fun q => by
  have h1 : (F.nm.map Str.ofString)[i]? = some (Str.ofString a) := by simp [ha]
  have h2 : (F.nm.map Str.ofString)[x]? = some (Str.ofString b) := by simp [hb]
  have l1 := (List.getElem?_eq_some_iff.mp h1)
  have l2 := (List.getElem?_eq_some_iff.mp h2)
  obtain ⟨p1, e1⟩ := l1
  obtain ⟨p2, e2⟩ := l2
  exact hne ((List.getElem_inj O.nodup).mp (by rw [e1, e2, q]))

theorem intsAt {C : Cx} {h h' : Heap} : ∀ (l : List Int) (vs : List Value), RepL C [] h (l.map .int) vs → RepL C [] h' (l.map .int) vs
  | [], [], _ => trivial
  | _ :: l, _ :: vs, x => ⟨x.1, intsAt l vs x.2⟩
  | [], _ :: _, x => x.elim
  | _ :: _, [], x => x.elim

theorem Iv.pokeX (O : FOk F n) (I : Iv F X ρ d h) {y : Addr} {x : Nat} (hy : y ∈ F.X0) (hc : y ≠ F.C.cup) (hn : F.h0.get? y = none) (k : ∀ b o, b ≠ y → h.get? b = some o → h'.get? b = some o)
    (ho : ∃ o, h'.get? y = some o ∧ ∀ vs, o.data ≠ .fields vs) (hns : ∃ m, h'.Ns F.env.locals m) (hcells : ∀ n c, F.env.cells.lookup n = some c → ∃ v, h'.IsCell c v)
    (va : ∀ i m v, i ≠ x → (∃ a, ρ[i]? = some a) → F.nm[i]? = some m → VarAt F.env h (Str.ofString m) v → VarAt F.env h' (Str.ofString m) v) : Iv F X (ρ.set x .unb) d h' := by
  have hX := I.sub y hy
  have mv1 : ∀ {a : AV} {v : Value}, Rep F.C X h a v → Rep F.C X h' a v := fun r => Rep.move (fun b o e q => ⟨q, k b o (fun z => q (z ▸ hX)) e⟩) _ r
  have mv : ∀ {l : List AV} {vs : List Value}, RepL F.C X h l vs → RepL F.C X h' l vs := fun r => RepL.move (fun b o e q => ⟨q, k b o (fun z => q (z ▸ hX)) e⟩) _ r
  have vo : ∀ {i : Nat} {m : String} {a : AV}, i ≠ x → (∃ a, ρ[i]? = some a) → F.nm[i]? = some m → VarOk F X h (Str.ofString m) a → VarOk F X h' (Str.ofString m) a := fun {i m a} hi hr hm z => by
    cases a <;> first
      | trivial
      | (obtain ⟨dd, vs, q1, q2, q3, ⟨o, ho⟩, q5⟩ := z
         exact ⟨dd, vs, va i m _ hi hr hm q1, q2, q3, ⟨o, k _ _ (fun z => q3.1 (z ▸ hy)) ho⟩, mv q5⟩)
      | (obtain ⟨v, q1, q2⟩ := z
         exact ⟨v, va i m _ hi hr hm q1, mv1 q2⟩)
  obtain ⟨⟨t, ⟨oc, hoc, rc⟩⟩, nn, vs, ⟨ol, hol, rl⟩, r⟩ := id I.cup
  have lne : F.C.lst ≠ y := fun z => I.lst (z ▸ hX)
  have ff : ∀ (l : List Env), h.FunFrames F.C.base l → h'.FunFrames F.C.base l := by
    intro l
    induction l with
    | nil => intro _; trivial
    | cons e l ih =>
      intro ⟨hk, ⟨L, o, hf, hnn, hoo, hd⟩, hr⟩
      refine ⟨hk, ?_, ih hr⟩
      by_cases q : L = y
      · obtain ⟨o', ho', hd'⟩ := ho
        exact ⟨L, o', hf, hnn, q ▸ ho', hd'⟩
      · exact ⟨L, o, hf, hnn, k L o q hoo, hd⟩
  exact {
    stays := fun b o e => k b o (fun z => by rw [z, I.new y hX] at e; cases e) (I.stays b o e)
    ff := ff _ I.ff
    sub := I.sub
    subY := I.subY
    old := fun b o e nw => by
      have hb : b ≠ y := fun z => by rw [z, hn] at e; cases e
      obtain ⟨⟨sl, e1⟩, e2⟩ := I.old b o e nw
      exact ⟨⟨sl, k b _ hb e1⟩, fun nx => k b _ hb (e2 nx)⟩
    new := I.new
    live := fun z hz => by
      by_cases q : z = y
      · obtain ⟨o', ho', _⟩ := ho; exact ⟨o', q ▸ ho'⟩
      · obtain ⟨o, ho⟩ := I.live z hz; exact ⟨o, k z o q ho⟩
    lst := I.lst
    cup := ⟨⟨t, ⟨oc, k _ oc (Ne.symm hc) hoc, rc⟩⟩, nn, vs, ⟨ol, k _ ol lne hol, rl⟩, intsAt _ _ r⟩
    ns := hns
    cells := hcells
    vars := fun i m a e e' => by
      by_cases q : i = x
      · subst q
        by_cases hl : i < ρ.length
        · rw [List.getElem?_set_self hl] at e; cases e; trivial
        · rw [List.getElem?_eq_none (by rw [List.length_set]; exact (Nat.le_of_not_lt (by assumption)))] at e; cases e
      · rw [List.getElem?_set_ne (Ne.symm q)] at e
        exact vo q ⟨a, e⟩ e' (I.vars i m a e e') }

theorem Iv.put {x : Nat} {a : AV} {m : String} (I : Iv F X (ρ.set x .unb) d h) (hm : F.nm[x]? = some m) (hv : VarOk F X h (Str.ofString m) a) : Iv F X (ρ.set x a) d h :=
  ⟨I.stays, I.ff, I.sub, I.subY, I.old, I.new, I.live, I.lst, I.cup, I.ns, I.cells, fun i m' b e e' => by
    by_cases q : i = x
    · subst q
      by_cases hl : i < ρ.length
      · rw [List.getElem?_set_self hl] at e; cases e; rw [hm] at e'; cases e'; exact hv
      · rw [List.getElem?_eq_none (by rw [List.length_set]; exact (Nat.le_of_not_lt (by assumption)))] at e; cases e
    · rw [List.getElem?_set_ne (Ne.symm q)] at e
      exact I.vars i m' b (by rw [List.getElem?_set_ne (Ne.symm q)]; exact e) e'⟩

/-- a name that may be stored -/
noncomputable def MayStore (F : Fx) (m : String) : Prop := F.env.kindOf (Str.ofString m) = some .local ∨ (F.env.kindOf (Str.ofString m) = some .cell ∧ ∃ c, F.env.cells.lookup (Str.ofString m) = some c ∧ F.h0.get? c = none)

theorem storeOk {s : Shared} {x : Nat} {m : String} {v : Value} {Q : Unit → Shared → Prop} {Ec : Value → Shared → Prop} (O : FOk F n) (I : Iv F X ρ d s.heap) (hm : F.nm[x]? = some m) (hk : MayStore F m)
    (B : ∀ y h' tk, y ∈ F.X0 → (∀ b o, b ≠ y → s.heap.get? b = some o → h'.get? b = some o) → Iv F X (ρ.set x .unb) d h' → VarAt F.env h' (Str.ofString m) v → Q () { s with heap := h', toks := tk }) :
    wpAny (model F.C.prog F.C.w) F.A (storeName F.env (Str.ofString m) v) Q Ec s := by
  have hpk : (F.env.scope.kind == .class || (F.env.scope.kind == .module && F.env.locals != F.env.globals)) = false := by rw [O.kind]; rfl
  obtain ⟨mm, hns⟩ := I.ns
  rcases hk with hk | ⟨hk, c, hc, hcn⟩
  · refine wpAny_storeName_local hk hns (fun h' hn' hs' => ?_) hpk
    have k : ∀ b o, b ≠ F.env.locals → s.heap.get? b = some o → h'.get? b = some o := fun b o hb e => hs'.extBut b o hb e
    have cellNe : ∀ {nn c v}, F.env.cells.lookup nn = some c → s.heap.IsCell c v → c ≠ F.env.locals := fun _ hc' q => by
      obtain ⟨o, ho, hd⟩ := hc'
      obtain ⟨o2, es, ep, ho2, hd2, _⟩ := hns
      rw [q, ho2] at ho; cases ho; rw [hd2] at hd; cases hd
    refine B F.env.locals h' _ O.locX k (I.pokeX O O.locX O.locC O.locN k (by obtain ⟨o, es, ep, ho, hd, _⟩ := hn'; exact ⟨o, ho, fun vs q => by rw [hd] at q; cases q⟩) ⟨_, hn'⟩ ?_ ?_) (.inl ⟨hk, _, hn', by simp⟩)
    · intro nn c e
      obtain ⟨v, o, ho, hd⟩ := I.cells nn c e
      exact ⟨v, o, k _ o (cellNe e ⟨o, ho, hd⟩) ho, hd⟩
    · intro i m' v' hi _ hm' hv
      rcases hv with ⟨a, m2, b, e⟩ | ⟨a, c, b, o, ho, hd⟩
      · refine .inl ⟨a, _, hn', ?_⟩
        have e1 := hns.eq_nsMap.trans b.eq_nsMap.symm
        rw [if_neg (nmNe O hm' hm hi), e1]; exact e
      · exact .inr ⟨a, c, b, o, k _ o (cellNe b ⟨o, ho, hd⟩) ho, hd⟩
  · obtain ⟨v0, hcell⟩ := I.cells _ _ hc
    refine wpAny_storeName_cell O.kind hk hc hcell (fun h' hn' hs' => ?_)
    have k : ∀ b o, b ≠ c → s.heap.get? b = some o → h'.get? b = some o := fun b o hb e => hs'.extBut b o hb e
    have lne : F.env.locals ≠ c := fun q => by
      obtain ⟨o, ho, hd⟩ := hcell
      obtain ⟨o2, es, ep, ho2, hd2, _⟩ := hns
      rw [← q, ho2] at ho; cases ho; rw [hd2] at hd; cases hd
    have hns' : h'.Ns F.env.locals mm := hns.sameBut hs' lne
    refine B c h' s.toks (O.cellX _ _ hc) k (I.pokeX O (O.cellX _ _ hc) (O.cellC _ _ hc) hcn k (by obtain ⟨o, ho, hd⟩ := hn'; exact ⟨o, ho, fun vs q => by rw [hd] at q; cases q⟩) ⟨_, hns'⟩ ?_ ?_) (.inr ⟨.inl hk, c, hc, hn'⟩)
    · intro nn c' e
      by_cases q : c' = c
      · exact ⟨_, q ▸ hn'⟩
      · obtain ⟨v, o, ho, hd⟩ := I.cells nn c' e
        exact ⟨v, o, k _ o q ho, hd⟩
    · intro i m' v' hi _ hm' hv
      rcases hv with ⟨a, m2, b, e⟩ | ⟨a, c', b, o, ho, hd⟩
      · exact .inl ⟨a, m2, b.sameBut hs' lne, e⟩
      · exact .inr ⟨a, c', b, o, k _ o (O.cellA _ _ _ _ b hc (nmNe O hm' hm hi)) ho, hd⟩
end
end Mine
namespace Mine
open PySem PySem.W PyProof.Rows PySem.Calls

section
variable {F : Fx} {n : Nat} {fs : List String} {ρ : List AV} {X : List Addr} {d : Int} {h h' : Heap}

set_option tactic.hygienic true
theorem iterOk {s : Shared} {x : AV} {v : Value} {l : List AV} {Q : Value → Shared → Prop} {Ec : Value → Shared → Prop} (hh : F.A.handled = none) (hX : ∀ z ∈ X, ∃ o, s.heap.get? z = some o) (e : itemsA x = some l) (hx : Rep F.C X s.heap x v)
    (B : ∀ fp P St o, o.isFreed = false → (∀ A' : Around, A'.handled = none → Walks F.C.prog F.C.w A' s.heap.objs.size fp [s.heap.objs.size] l.length P St) → l.length ≤ LIM → St 0 (s.heap.push o) → (∀ b ∈ fp, b = s.heap.objs.size ∨ (b ∉ X ∧ (∃ o, s.heap.get? b = some o) ∧ isRefA x = true)) → (∀ i h, St i h → ∃ o, h.get? s.heap.objs.size = some o) →
      (∀ i v, P i v → ∃ a, l[i]? = some a ∧ Rep F.C X s.heap a v) → Q (.ref s.heap.objs.size) { s with heap := s.heap.push o }) :
    wpAny (model F.C.prog F.C.w) F.A (pyIter v) Q Ec s := by
  unfold itemsA at e
  split at e
  · rename_i t
    obtain ⟨tk, rfl⟩ := hx
    split at e
    · rename_i hs
      cases e
      have hs' : (⟨t.toArray⟩ : Str).cps.size = (t.map fun c => AV.str [c]).length := by simp
      have fin : ∀ i v, SignAt ⟨t.toArray⟩ i v → ∃ a, (t.map fun c => AV.str [c])[i]? = some a ∧ Rep F.C X s.heap a v := fun i v hv => by
        obtain ⟨c, u, h1, rfl⟩ := hv
        exact ⟨.str [c], by simpa using h1, u, rfl⟩
      cases ha : (⟨t.toArray⟩ : Str).cps.all (· < 128)
      · exact wpAny_pyIter_wide ha (B _ _ _ _ rfl (fun A' hA => hs' ▸ Walks.strWide hA _ ⟨t.toArray⟩ tk) (by simpa using hs) ⟨_, Heap.get?_push_size _ rfl, rfl, rfl⟩ (fun b hb => .inl (List.mem_singleton.mp hb)) (fun i h st => let ⟨o, ho, _⟩ := st; ⟨o, ho⟩) fin)
      · exact wpAny_pyIter_ascii ha (B _ _ _ _ rfl (fun A' hA => hs' ▸ Walks.strAscii hA _ ⟨t.toArray⟩ tk) (by simpa using hs) ⟨_, Heap.get?_push_size _ rfl, rfl, rfl⟩ (fun b hb => .inl (List.mem_singleton.mp hb)) (fun i h st => let ⟨o, ho, _⟩ := st; ⟨o, ho⟩) fin)
    · cases e
  · rename_i l'
    obtain ⟨d1, vs, rfl, n1, t1, r1⟩ := hx
    have hl := r1.length
    split at e
    · rename_i hs
      cases e
      have hne : d1 ≠ s.heap.objs.size := Nat.ne_of_lt (Heap.lt_size t1)
      have hsz : vs.toArray.size = l.length := by rw [List.size_toArray, hl]
      refine wpAny_pyIter_tuple (items := vs.toArray) ⟨_, t1, rfl, _, rfl⟩ (B _ _ _ _ rfl (fun A' hA => hsz ▸ Walks.tuple hA _ d1 hne vs.toArray) hs ⟨⟨_, Heap.get?_push_size _ rfl, rfl, rfl⟩, ⟨_, Heap.get?_push_of_some _ t1, rfl, _, rfl⟩⟩ (fun b hb => ?_) (fun i h st => let ⟨o, ho, _⟩ := st.1; ⟨o, ho⟩) fun i v hv => ?_)
      · rcases List.mem_cons.mp hb with h | h
        · exact .inl h
        · rw [List.mem_singleton.mp h]; exact .inr ⟨n1, ⟨_, t1⟩, rfl⟩
      · exact r1.get2 (by simpa using hv)
    · cases e
  · rename_i l'
    obtain ⟨d1, vs, rfl, n1, t1, r1⟩ := hx
    have hl := r1.length
    split at e
    · rename_i hs
      cases e
      obtain ⟨o1, ho1, q1⟩ := id t1
      have hne : d1 ≠ s.heap.objs.size := Nat.ne_of_lt (Heap.lt_size ho1)
      have hsz : vs.toArray.size = l.length := by rw [List.size_toArray, hl]
      refine wpAny_pyIter_list t1 (B _ _ _ _ rfl (fun A' hA => hsz ▸ Walks.list hA _ d1 hne vs.toArray) hs ⟨⟨_, Heap.get?_push_size _ rfl, rfl, rfl⟩, ⟨_, Heap.get?_push_of_some _ ho1, q1⟩⟩ (fun b hb => ?_) (fun i h st => let ⟨o, ho, _⟩ := st.1; ⟨o, ho⟩) fun i v hv => ?_)
      · rcases List.mem_cons.mp hb with h | h
        · exact .inl h
        · rw [List.mem_singleton.mp h]; exact .inr ⟨n1, ⟨_, ho1⟩, rfl⟩
      · exact r1.get2 (by simpa using hv)
    · cases e
  · rename_i k
    obtain ⟨d1, t, u, z, rfl, n1, t1⟩ := hx
    split at e
    · rename_i hs
      cases e
      simp only [LIM] at hs
      have hn : Builtin.Range.rangeSize 0 (k : Int) 1 = (k : Int) := by unfold Builtin.Range.rangeSize; simp; intro h; omega
      have hlen : ((List.range k).map fun (i : Nat) => AV.int (i : Int)).length = k := by simp
      refine wpAny_pyIter_range t1 (small_one (by omega) (by omega) (by omega) (by omega)) (B _ (fun i v => i < k ∧ ∃ t, v = .int (0 + i * 1) t) (fun i h => IsRangeIter h s.heap.objs.size (0 + (i : Nat) * 1) ((k : Int) - (i : Nat)) 1) _ rfl (fun A' hA => by rw [hlen]; exact (Walks.range hA _ 0 1 k).bound) (by rw [hlen]; exact hs) (by show IsRangeIter _ _ _ _ _; rw [hn]; simpa using Heap.get?_push_size _ rfl)
        (fun b hb => .inl (List.mem_singleton.mp hb)) (fun i h st => ⟨_, st⟩) fun i v hv => ?_)
      obtain ⟨h1, t, rfl⟩ := hv
      exact ⟨.int (i : Int), by simp [h1], t, by congr 1; omega⟩
    · cases e
  · cases e
end
end Mine
namespace Mine
open PySem PySem.W PyProof.Rows PySem.Calls

section
variable {F : Fx} {n : Nat} {fs : List String} {ρ : List AV} {X : List Addr} {d : Int} {h h' : Heap}

set_option tactic.hygienic false
theorem VarOk.of {m : Str} {a : AV} {v : Value} (h1 : VarAt F.env h m v) (h2 : Rep F.C X h a v) : VarOk F X h m a := by
  cases a <;> first
    | trivial
    | exact (h2 : False).elim
    | exact ⟨v, h1, h2⟩

noncomputable abbrev testsT (ifs : List Expr) (env : Env) : Sem Bool := forIn ifs true fun c r => if r = true then do let ok ← isTrue c env (eval c env); pure (ForInStep.yield ok) else pure (ForInStep.yield r)

theorem bind_ok {α β : Type} {m : M α} {f : α → M β} {d d' : Int} {b : β} (h : M.bind m f d = some (.ok b, d')) : ∃ a d₁, m d = some (.ok a, d₁) ∧ f a d₁ = some (.ok b, d') := by
  rcases M.bind_eq_some h with ⟨l, d1, _, e⟩ | ⟨a, d1, e1, e2⟩
  · cases e
  · exact ⟨a, d1, e1, e2⟩

set_option tactic.hygienic true
theorem noErr_some {α : Type} {m : M α} {d : Int} {r : Except Int α × Int} (h : noErr m d = some r) : ∃ a, m d = some (.ok a, r.2) ∧ r.1 = .ok a := by
  unfold noErr at h
  split at h
  · rename_i a d' e; cases h; exact ⟨a, e, rfl⟩
  · cases h

set_option tactic.hygienic false
theorem Kept.inX {X0 W : List Addr} (k : Kept X0 W h h') (hX : ∀ b ∈ X0, b ∈ X) (hW : ∀ b ∈ W, b ∈ X) : ∀ b o, h.get? b = some o → b ∉ X → b ∉ X ∧ h'.get? b = some o :=
  fun b o e n => ⟨n, (k b o e fun q => n (hW b q)).2 fun q => n (hX b q)⟩

set_option tactic.hygienic true
theorem compLoopOk {G : Fx} (O : FOk G n) {it D : Addr} (hit : it ∈ G.Y0) (hD : D ∈ G.Y0) (hne : it ≠ D) (h0it : G.h0.get? it = none) (h0D : G.h0.get? D = none) {xs : String} {x : Nat} (hx : G.nm[x]? = some xs)
    (hk : MayStore G xs) {elt iter : Expr} {ifs : List Expr} {px pos : Pos} {sc : Scope} {c : AV → M Bool} {f : AV → M AV}
    (hc : ∀ a X d s, Iv G X (ρ.set x a) d s.heap → Sim G s d (testsT ifs G.env) (c a) EqR)
    (hf : ∀ a X d s, Iv G X (ρ.set x a) d s.heap → Sim G s d (eval elt G.env) (f a) (RepR G X))
    {l : List AV} {fp : List Addr} {P : Nat → Value → Prop} {St : Nat → Heap → Prop} (W : Walks G.C.prog G.C.w G.A it fp [it] l.length P St) (hl : l.length ≤ LIM) (hfp : ∀ b ∈ fp, b = it ∨ b ∉ X) {s : Shared}
    (hP : ∀ i v, P i v → ∃ a, l[i]? = some a ∧ Rep G.C X G.h0 a v) (hlive : ∀ i h, St i h → ∃ o, h.get? it = some o)
    (I : Iv G X ρ d s.heap) (hρ : ∀ a, ρ[x]? = some a → a = .unb) (st : St 0 s.heap) (hDl : s.heap.IsList D #[]) {ys : List AV} {d' : Int} (hm : compA c f l d = some (.ok ys, d')) {R : Result → Shared → Prop}
    (hR : ∀ h' tk (vs : List Value), Kept G.X0 [G.C.cup] G.h0 h' → CupAt G.C h' d' → (∃ m, h'.Ns G.env.locals m) → h'.IsList D vs.toArray → RepL G.C X h' ys vs → R (.ok .next) { s with heap := h', toks := tk }) :
    codeAny (model G.C.prog G.C.w) G.A (.compLoop (.ListComp elt [⟨.Name (Str.ofString xs) px, iter, ifs, 0⟩] sc pos) 0 (.ref it) (.ref D) G.env) R s := by
  have hitX := I.subY it hit
  have hDX := I.subY D hD
  have hcX := I.sub _ O.cupX
  have hW1 : ∀ b ∈ [G.C.cup], b ∈ X := fun b hb => by rw [List.mem_singleton.mp hb]; exact hcX
  have stK : ∀ {i h h'}, Kept G.X0 [G.C.cup] h h' → (∃ o, h.get? it = some o) → St i h → St i h' := fun {i h h'} k _ st => W.frame _ _ _ st fun b hb o e => by
    rcases hfp b hb with rfl | hb
    · exact (k b o e fun q => O.yx _ hit (by rw [List.mem_singleton.mp q]; exact O.cupX)).2 (O.yx _ hit)
    · exact (k b o e fun q => hb (by rw [List.mem_singleton.mp q]; exact hcX)).2 fun q => hb (I.sub b q)
  have stB : ∀ {i h h'} {y : Addr}, y ∈ X → y ≠ it → (∀ b o, b ≠ y → h.get? b = some o → h'.get? b = some o) → St i h → St i h' := fun {i h h' y} hy hyi k st => W.frame _ _ _ st fun b hb o e => by
    rcases hfp b hb with rfl | hb
    · exact k _ o (Ne.symm hyi) e
    · exact k b o (fun q => hb (q ▸ hy)) e
  refine codeAny_compLoop_tests (fun k s' => ∃ i h' tk ys1 vs1 ys2 d1, s' = { s with heap := h', toks := tk } ∧ St i h' ∧ i ≤ l.length ∧ k = l.length + 1 - i ∧ Iv G X ρ d1 h' ∧ h'.IsList D (List.toArray vs1) ∧ RepL G.C X h' ys1 vs1 ∧
      ys1.length ≤ i ∧ compA c f (l.drop i) d1 = some (.ok ys2, d') ∧ ys = ys1 ++ ys2) ?_ (l.length + 1)
    ⟨0, s.heap, s.toks, [], [], ys, d, rfl, st, Nat.zero_le _, rfl, I, hDl, trivial, Nat.le_refl _, hm, rfl⟩ (fun _ => rfl)
  rintro k s' ⟨i, H, tk, ys1, vs1, ys2, d1, rfl, st1, hi, rfl, I1, hD1, hr1, hy1, hm1, hys⟩
  by_cases hlt : i < l.length
  · refine W.item i _ _ _ hlt st1 fun v h1 tk1 hPv st2 hk1 => ?_
    have hk1' : ∀ b o, b ≠ it → H.get? b = some o → h1.get? b = some o := fun b o hb e => hk1 b o (by simpa using hb) e
    have I2 : Iv G X ρ d1 h1 := I1.poke O hit h0it hk1' (hlive _ _ st2)
    obtain ⟨a, ha, hra⟩ := hP i v hPv
    have hdrop : l.drop i = a :: l.drop (i + 1) := by
      obtain ⟨p, q⟩ := List.getElem?_eq_some_iff.mp ha
      rw [← q]; exact List.drop_eq_getElem_cons p
    rw [hdrop] at hm1
    simp only [compA] at hm1
    obtain ⟨t, d2, e2, hm2⟩ := bind_ok hm1
    refine wpAny_assign_Name (storeOk (s := ⟨h1, s.gens, s.drawn, tk1, s.os⟩) O I2 hx hk fun y h2 tk2 hy hk2 I3 va => ?_)
    have hyX := I.sub y hy
    have hyit : y ≠ it := fun q => O.yx _ hit (q ▸ hy)
    have hyD : y ≠ D := fun q => O.yx _ hD (q ▸ hy)
    have I4 : Iv G X (ρ.set x a) d1 h2 := I3.put hx (VarOk.of va (I3.old.rep I.sub hW1 hra))
    have st3 : St (i + 1) h2 := stB hyX hyit hk2 st2
    have hD2 : h2.IsList D (List.toArray vs1) := hD1.at fun o e => hk2 _ o (Ne.symm hyD) (hk1' _ o (Ne.symm hne) e)
    have hr2 : RepL G.C X h2 ys1 vs1 := RepL.move (fun b o e nb => ⟨nb, hk2 b o (fun q => nb (q ▸ hyX)) (hk1' b o (fun q => nb (q ▸ hitX)) e)⟩) _ hr1
    refine hc a X d1 ⟨h2, s.gens, s.drawn, tk2, s.os⟩ I4 _ _ _ _ e2 ?_
    intro t' h3 tk3 k3 c3 ht
    have : t' = t := ht
    subst this
    have I5 := I4.kept O k3 c3
    have st4 := stK k3 (hlive _ _ st3) st3
    have hD3 : h3.IsList D (List.toArray vs1) := k3.list (fun q => O.yx _ hD (by rw [List.mem_singleton.mp q]; exact O.cupX)) hD2
    have hr3 : RepL G.C X h3 ys1 vs1 := k3.repL I.sub (fun b hb => by rw [List.mem_singleton.mp hb]; exact hcX) hr2
    have unset : ∀ {d h}, Iv G X (ρ.set x a) d h → Iv G X ρ d h := fun {d h} J => J.less fun j b e => by
      by_cases q : j = x
      · subst q; exact .inl (hρ b e)
      · exact .inr (by rw [List.getElem?_set_ne (Ne.symm q)]; exact e)
    cases t' with
    | false =>
      simp only [Bool.false_eq_true, if_false] at hm2 ⊢
      exact ⟨l.length + 1 - (i + 1), by omega, i + 1, h3, tk3, ys1, vs1, ys2, d2, rfl, st4, hlt, rfl, unset I5, hD3, hr3, by exact (Nat.le_succ_of_le (by assumption)), hm2, hys⟩
    | true =>
      simp only [if_true] at hm2 ⊢
      obtain ⟨y1, d3, e3, hm3⟩ := bind_ok hm2
      obtain ⟨zs, d4, e4, hm4⟩ := bind_ok hm3
      cases hm4
      refine hf a X d2 ⟨h3, s.gens, s.drawn, tk3, s.os⟩ I5 _ _ _ _ e3 ?_
      intro u h4 tk4 k4 c4 hu
      have I6 := I5.kept O k4 c4
      have st5 := stK k4 (hlive _ _ st4) st4
      have hD4 : h4.IsList D (List.toArray vs1) := k4.list (fun q => O.yx _ hD (by rw [List.mem_singleton.mp q]; exact O.cupX)) hD3
      have hr4 : RepL G.C X h4 ys1 vs1 := k4.repL I.sub (fun b hb => by rw [List.mem_singleton.mp hb]; exact hcX) hr3
      have hlen := RepL.length hr4
      refine wpAny_list_append hD4 (fun h5 hl5 hs5 => ?_) (by rw [List.size_toArray, sizeLine']; simp only [LIM] at hl; omega)
      have k5 : ∀ b o, b ≠ D → h4.get? b = some o → h5.get? b = some o := fun b o hb e => hs5.extBut b o hb e
      have I7 : Iv G X (ρ.set x a) d3 h5 := I6.poke O hD h0D k5 (by obtain ⟨o, ho, _⟩ := hl5; exact ⟨o, ho⟩)
      have mv5 : ∀ b o, h4.get? b = some o → b ∉ X → b ∉ X ∧ h5.get? b = some o := fun b o e nb => ⟨nb, k5 b o (fun q => nb (q ▸ hDX)) e⟩
      refine ⟨l.length + 1 - (i + 1), by omega, i + 1, h5, tk4, ys1 ++ [y1], vs1 ++ [u], zs, d3, rfl, stB hDX (Ne.symm hne) k5 st5, hlt, rfl, unset I7, ?_, (RepL.move mv5 _ hr4).append ⟨Rep.move mv5 _ hu, trivial⟩, by simp; exact (by assumption), e4, by rw [hys]; simp⟩
      simpa using hl5
  · have hin : i = l.length := by omega
    subst hin
    rw [List.drop_length] at hm1
    cases hm1
    refine W.done _ _ _ st1 fun h1 tk1 hk1 => ?_
    have hk1' : ∀ b o, b ≠ it → H.get? b = some o → h1.get? b = some o := fun b o hb e => hk1 b o (by simpa using hb) e
    have lne : G.C.lst ≠ it := fun q => I.lst (q ▸ hitX)
    have cne : G.C.cup ≠ it := fun q => O.yx _ hit (q ▸ O.cupX)
    obtain ⟨m, hns⟩ := I1.ns
    have lo : G.env.locals ≠ it := fun q => O.yx _ hit (q ▸ O.locX)
    rw [List.append_nil] at hys
    subst hys
    exact hR h1 tk1 vs1 (fun b o e nw => by
      obtain ⟨⟨sl, e1⟩, e2⟩ := I1.old b o e nw
      have hb : b ≠ it := fun q => by rw [q, h0it] at e; cases e
      exact ⟨⟨sl, hk1' _ _ hb e1⟩, fun nx => hk1' _ _ hb (e2 nx)⟩) (I1.cup.but cne lne hk1') ⟨m, hns.at' fun o e => hk1' _ o lo e⟩ (hD1.at fun o e => hk1' _ o (Ne.symm hne) e) (RepL.move (fun b o e nb => ⟨nb, hk1' b o (fun q => nb (q ▸ hitX)) e⟩) _ hr1)
end
end Mine
namespace Mine
open PySem PySem.W PyProof.Rows PySem.Calls

set_option tactic.hygienic false
theorem clos_go {env : Env} : ∀ (names : List (Str × NameKind)) (cs : List (Str × Addr)), (∀ n, (n, NameKind.free) ∈ names → ∃ c, env.cells.lookup n = some c) → (∀ n c, cs.lookup n = some c → env.cells.lookup n = some c) →
    ∃ cl, (forIn names cs (fun (x : Str × NameKind) (r : List (Str × Addr)) => (if x.2 == .free then do let c ← cellOf env x.1; pure (ForInStep.yield ((x.1, c) :: r)) else pure (ForInStep.yield r) : Sem (ForInStep (List (Str × Addr)))))) = pure cl ∧
      (∀ n c, cl.lookup n = some c → env.cells.lookup n = some c) ∧ (∀ n, (n, NameKind.free) ∈ names ∨ (cs.lookup n).isSome = true → (cl.lookup n).isSome = true)
  | [], cs, _, h2 => ⟨cs, rfl, h2, fun n h => h.elim (fun q => by cases q) id⟩
  | (m, k) :: names, cs, h1, h2 => by
    by_cases hk : k = .free
    · subst hk
      obtain ⟨c, hc⟩ := h1 m (.head _)
      obtain ⟨cl, e1, e2, e3⟩ := clos_go names ((m, c) :: cs) (fun n hn => h1 n (.tail _ hn)) (fun n c' h => by
        rw [List.lookup_cons] at h
        cases q : n == m with
        | true => rw [q] at h; cases h; rw [eq_of_beq q]; exact hc
        | false => rw [q] at h; exact h2 n c' h)
      refine ⟨cl, ?_, e2, fun n hn => e3 n ?_⟩
      · rw [← e1]
        have : cellOf env m = pure c := by unfold cellOf; rw [hc]
        rw [List.forIn_cons]
        simp only [beq_self_eq_true, if_true, this]
        rfl
      · rcases hn with hn | hn
        · rcases List.mem_cons.mp hn with h | h
          · cases h; right; simp
          · exact .inl h
        · right
          rw [List.lookup_cons]
          cases n == m <;> simp [hn]
    · obtain ⟨cl, e1, e2, e3⟩ := clos_go names cs (fun n hn => h1 n (.tail _ hn)) h2
      refine ⟨cl, ?_, e2, fun n hn => e3 n ?_⟩
      · rw [← e1]
        have : (k == NameKind.free) = false := by simpa using hk
        rw [List.forIn_cons]
        simp only [this, Bool.false_eq_true, if_false]
        rfl
      · rcases hn with hn | hn
        · rcases List.mem_cons.mp hn with h | h
          · cases h; exact absurd rfl hk
          · exact .inl h
        · exact .inr hn

theorem closOk {sc : Scope} {env : Env} (h : ∀ n, (n, NameKind.free) ∈ sc.names → ∃ c, env.cells.lookup n = some c) :
    ∃ cl, closureFor sc env = pure cl ∧ (∀ n c, cl.lookup n = some c → env.cells.lookup n = some c) ∧ (∀ n, (n, NameKind.free) ∈ sc.names → (cl.lookup n).isSome = true) := by
  obtain ⟨cl, e1, e2, e3⟩ := clos_go sc.names [] h (fun _ _ q => by cases q)
  refine ⟨cl, ?_, e2, fun n hn => e3 n (.inl hn)⟩
  have key : closureFor sc env = (forIn sc.names ([] : List (Str × Addr)) (fun (x : Str × NameKind) (r : List (Str × Addr)) => (if x.2 == .free then do let c ← cellOf env x.1; pure (ForInStep.yield ((x.1, c) :: r)) else pure (ForInStep.yield r) : Sem (ForInStep (List (Str × Addr))))) >>= fun cs => pure cs) := by
    rfl
  rw [key, e1]
  rfl

noncomputable def rlb (sco : Scope) (p : Str × NameKind) : Str × NameKind := (p.1, if (p.2 == .free && sco.kind == .function && sco.names.lookup p.1 == some .cell) = true then .cell else p.2)
noncomputable def relabelS (sc sco : Scope) : Scope := { sc with names := sc.names.map (rlb sco) }
theorem relabel_eq (sc : Scope) (env : Env) : relabel sc env = relabelS sc env.scope := by
  unfold relabel relabelS
  congr 1
  refine List.map_congr_left fun p _ => ?_
  obtain ⟨n, k⟩ := p
  show (if (k == .free && env.scope.kind == .function && env.scope.names.lookup n == some .cell) = true then (n, NameKind.cell) else (n, k)) = _
  unfold rlb
  split <;> rfl
theorem lookup_rlb {sco : Scope} {n : Str} : ∀ (l : List (Str × NameKind)), (l.map (rlb sco)).lookup n = (l.lookup n).map fun k => (rlb sco (n, k)).2
  | [] => rfl
  | (m, k) :: l => by
    rw [List.map_cons, List.lookup_cons]
    show List.lookup n ((m, (rlb sco (m, k)).2) :: _) = _
    rw [List.lookup_cons, List.lookup_cons, lookup_rlb l]
    cases q : n == m with
    | true => rw [eq_of_beq q]; rfl
    | false => rfl
set_option tactic.hygienic true
theorem lookup_relabelS {sc sco : Scope} {n : Str} {k : NameKind} (h : (relabelS sc sco).names.lookup n = some k) : sc.names.lookup n = some k ∨ (k = .cell ∧ sc.names.lookup n = some .free) := by
  have h : (sc.names.map (rlb sco)).lookup n = some k := h
  rw [lookup_rlb] at h
  obtain ⟨k', h1, h2⟩ := Option.map_eq_some_iff.mp h
  unfold rlb at h2
  dsimp only at h2
  split at h2
  · rename_i hh
    simp only [Bool.and_eq_true, beq_iff_eq] at hh
    exact .inr ⟨h2.symm, by rw [h1, hh.1.1]⟩
  · exact .inl (by rw [h1, h2])
set_option tactic.hygienic false
theorem lookup_relabelS_free {sc sco : Scope} {n : Str} (h : sc.names.lookup n = some .free) : (relabelS sc sco).names.lookup n = some .cell ∨ (relabelS sc sco).names.lookup n = some .free := by
  show (sc.names.map (rlb sco)).lookup n = _ ∨ (sc.names.map (rlb sco)).lookup n = _
  rw [lookup_rlb, h]
  have : (rlb sco (n, .free)).2 = .cell ∨ (rlb sco (n, .free)).2 = .free := by
    unfold rlb
    dsimp only
    split
    · exact .inl rfl
    · exact .inr rfl
  rcases this with q | q
  · exact .inl (congrArg some q)
  · exact .inr (congrArg some q)
theorem lookup_relabelS_other {sc sco : Scope} {n : Str} {k : NameKind} (h : sc.names.lookup n = some k) (hk : k ≠ .free) : (relabelS sc sco).names.lookup n = some k := by
  show (sc.names.map (rlb sco)).lookup n = _
  rw [lookup_rlb, h]
  show some (rlb sco (n, k)).2 = _
  unfold rlb
  have : (k == NameKind.free) = false := by simpa using hk
  simp [this]
theorem mem_of_lookup {n : Str} {k : NameKind} : ∀ {l : List (Str × NameKind)}, l.lookup n = some k → (n, k) ∈ l
  | [], h => by cases h
  | (m, k') :: l, h => by
    rw [List.lookup_cons] at h
    cases q : n == m with
    | true => rw [q] at h; cases h; rw [eq_of_beq q]; exact .head _
    | false => rw [q] at h; exact .tail _ (mem_of_lookup h)
end Mine
namespace Mine
open PySem PySem.W PyProof.Rows PySem.Calls

noncomputable def isFree : Option NameKind → Bool
  | some .cell | some .free => true
  | _ => false
noncomputable def compOk (sco sc : Scope) (nm : List String) (x : Nat) (fv : List Nat) : Bool :=
  decide (sc.kind = .function) && sc.names.all (fun y => decide (y.2 = .cell → y.1 = Str.ofString (nm.getD x ""))) && sc.names.all (fun y => decide (y.2 = .local → sc.names.lookup y.1 = some .local))
  && decide (x < nm.length) && (decide (sc.names.lookup (Str.ofString (nm.getD x "")) = some .local) || decide (sc.names.lookup (Str.ofString (nm.getD x "")) = some .cell))
  && sc.names.all (fun y => decide (y.2 = .free → y.1 ≠ Str.ofString (nm.getD x "") ∧ isFree (sco.names.lookup y.1) = true))
  && fv.all (fun i => decide (i < nm.length) && decide (sc.names.lookup (Str.ofString (nm.getD i "")) = some .free))
  && decide ((sc.names.filter fun y => decide (y.2 = .cell)).length ≤ 1)

theorem cellsNone : ∀ {names : List (Str × NameKind)} {k : Nat} {acc : List (Str × Addr)} {h : Heap}, names.filter (fun y => decide (y.2 = .cell)) = [] → cellsFrom k names acc = acc ∧ pushCells h names = h
  | [], _, _, _, _ => ⟨rfl, rfl⟩
  | (n, kk) :: r, k, acc, h, e => by
    have hk : kk ≠ .cell := fun q => by subst q; simp at e
    have hb : (kk == NameKind.cell) = false := by simpa using hk
    have e' : r.filter (fun y => decide (y.2 = .cell)) = [] := by simpa [hk] using e
    unfold cellsFrom pushCells
    rw [hb]
    exact cellsNone e'
theorem cellsOne : ∀ {names : List (Str × NameKind)} {k : Nat} {acc : List (Str × Addr)} {h : Heap} {y : Str × NameKind}, names.filter (fun y => decide (y.2 = .cell)) = [y] →
    cellsFrom k names acc = (y.1, k) :: acc ∧ pushCells h names = h.push { cls := .type "cell", data := .cell none }
  | [], _, _, _, _, e => by cases e
  | (n, kk) :: r, k, acc, h, y, e => by
    unfold cellsFrom pushCells
    by_cases hk : kk = .cell
    · subst hk
      simp only [List.filter_cons, decide_true, if_true, List.cons.injEq] at e
      obtain ⟨e1, e2⟩ := e
      subst e1
      simp only [beq_self_eq_true, if_true]
      exact cellsNone e2
    · have hb : (kk == NameKind.cell) = false := by simpa using hk
      have e' : r.filter (fun y => decide (y.2 = .cell)) = [y] := by simpa [hk] using e
      rw [hb]
      exact cellsOne e'

theorem newEnvOk {M : Model} {A : Around} {E : Value → Shared → Prop} {s : Shared} {sc : Scope} {gl bu : Addr} {cl : List (Str × Addr)} {qual : Str} {env : Env} {Q : Env → Shared → Prop}
    (h : Q (newEnv sc s.heap.objs.size gl (cellsFrom (s.heap.objs.size + 1) sc.names cl) qual none .none (some env) bu) { s with heap := pushCells (s.heap.push { cls := .type "dict", data := .dict #[] }) sc.names }) :
    wpAny M A (newFunctionEnv sc gl cl [] qual none .none (some env) bu) Q E s := by
  simp only [newFunctionEnv, Option.isSome_some, if_true]
  refine wpAny_bind (wpAny_alloc (wpAny_bind (wpAny_layCells _ (fun name kind cells => by cases hkc : kind == NameKind.cell <;> simp [hkc]) _ _ _ _ ?_)))
  rw [show ({ s with heap := s.heap.push { cls := .type "dict", data := .dict #[] } } : Shared).heap.objs.size = s.heap.objs.size + 1 from Heap.size_push ..]
  exact wpAny_pure h

set_option tactic.hygienic true
theorem maskA_get {fv : List Nat} : ∀ {ρ : List AV} {j i : Nat} {a : AV}, (maskA fv ρ j)[i]? = some a → a = .unb ∨ (fv.contains (j + i) = true ∧ ρ[i]? = some a ∧ ∀ l, a ≠ .own l)
  | [], _, _, _, h => by cases h
  | b :: ρ, j, 0, a, h => by
    cases b <;> simp only [maskA, List.getElem?_cons_zero, Option.some.injEq] at h <;> first
      | exact .inl h.symm
      | (split at h
         · rename_i hc
           subst h
           exact .inr ⟨hc, rfl, fun _ q => by cases q⟩
         · exact .inl h.symm)
  | b :: ρ, j, i + 1, a, h => by
    have h' : (maskA fv ρ (j + 1))[i]? = some a := by cases b <;> exact h
    rcases maskA_get h' with q | ⟨q1, q2, q3⟩
    · exact .inl q
    · exact .inr ⟨by rw [show j + (i + 1) = j + 1 + i by omega]; exact q1, by simpa using q2, q3⟩

section
variable {F : Fx} {n : Nat} {fs : List String} {ρ : List AV} {X : List Addr} {d : Int} {h h' : Heap}

/-- the frame of a comprehension -/
noncomputable abbrev compFx (F : Fx) (sc : Scope) (cs : List (Str × Addr)) (Z : List Addr) (h1 : Heap) (it D L : Addr) : Fx := { F with env := compEnvC sc cs L F.env, X0 := L :: (Z ++ F.X0), Y0 := D :: it :: F.Y0, h0 := h1 }

structure CompCells (F : Fx) (sc : Scope) (xn : Str) (cs : List (Str × Addr)) (Z : List Addr) (it D L : Addr) : Prop where
  from_ : ∀ m c, cs.lookup m = some c → F.env.cells.lookup m = some c ∨ (m = xn ∧ c ∈ Z)
  free : ∀ m, (m, NameKind.free) ∈ sc.names → ∃ c, cs.lookup m = some c ∧ F.env.cells.lookup m = some c
  cell : ∀ m, sc.names.lookup m = some .cell → ∃ c, c ∈ Z ∧ cs.lookup m = some c
  old : ∀ b, b ∈ F.X0 ∨ b ∈ F.Y0 ∨ b = F.C.lst → b < it
  lt1 : it < D
  lt2 : D < L
  lt3 : ∀ z ∈ Z, L < z

set_option tactic.hygienic false
theorem compFOk (O : FOk F n) {sc : Scope} {cs : List (Str × Addr)} {Z : List Addr} {h1 : Heap} {it D L : Addr} {x : Nat} {fv : List Nat} (hC : compOk F.env.scope sc F.nm x fv = true)
    (c : CompCells F sc (Str.ofString (F.nm.getD x "")) cs Z it D L) (hL : h1.get? L = none) (hb : F.C.base.StaysIn h1) : FOk (compFx F sc cs Z h1 it D L) n := by
  simp only [compOk, Bool.and_eq_true, decide_eq_true_eq, List.all_eq_true] at hC
  obtain ⟨⟨⟨⟨⟨⟨⟨k1, k2⟩, k3⟩, k4⟩, k5⟩, k6⟩, k7⟩, k8⟩ := hC
  have o0 : ∀ b ∈ F.X0, b < it := fun b hb => c.old b (.inl hb)
  have oL : ∀ {b}, b < it → b < L := fun h => Nat.lt_trans (Nat.lt_trans h c.lt1) c.lt2
  have oZ : ∀ {b z}, b < it → z ∈ Z → b < z := fun h hz => Nat.lt_trans (oL h) (c.lt3 _ hz)
  exact {
    frames := O.frames
    handled := O.handled
    room := O.room
    units := O.units
    kind := k1
    globals := O.globals
    builtins := O.builtins
    cupX := .tail _ (List.mem_append_right _ O.cupX)
    lstX := fun q => by
      have hl := c.old F.C.lst (.inr (.inr rfl))
      rcases List.mem_cons.mp q with q | q
      · exact Nat.ne_of_lt (oL hl) q
      · rcases List.mem_append.mp q with q | q
        · exact Nat.lt_irrefl _ (oZ hl q)
        · exact O.lstX q
    locX := .head _
    locN := hL
    locC := fun q => Nat.ne_of_gt (oL (o0 _ O.cupX)) q
    cellC := fun m a e q => by
      rcases c.from_ m a e with h | ⟨_, h⟩
      · exact O.cellC m a h q
      · exact Nat.ne_of_gt (oZ (o0 _ O.cupX) h) q
    cellX := fun m a e => by
      rcases c.from_ m a e with h | ⟨_, h⟩
      · exact .tail _ (List.mem_append_right _ (O.cellX m a h))
      · exact .tail _ (List.mem_append_left _ h)
    cellA := fun m a m' a' e e' hne => by
      rcases c.from_ m a e with h | ⟨q, h⟩ <;> rcases c.from_ m' a' e' with h' | ⟨q', h'⟩
      · exact O.cellA m a m' a' h h' hne
      · exact Nat.ne_of_lt (oZ (o0 _ (O.cellX m a h)) h')
      · exact Nat.ne_of_gt (oZ (o0 _ (O.cellX m' a' h')) h)
      · exact absurd (q.trans q'.symm) hne
    cellD := fun m hm => by
      have hm : (relabel sc F.env).names.lookup m = some .cell ∨ (relabel sc F.env).names.lookup m = some .free := hm
      rw [relabel_eq] at hm
      have hf : sc.names.lookup m = some .free ∨ sc.names.lookup m = some .cell := by
        rcases hm with hm | hm
        · rcases lookup_relabelS hm with q | ⟨_, q⟩
          · exact .inr q
          · exact .inl q
        · rcases lookup_relabelS hm with q | ⟨q, _⟩
          · exact .inl q
          · cases q
      rcases hf with hf | hf
      · obtain ⟨a, h, _⟩ := c.free m (mem_of_lookup hf); exact ⟨a, h⟩
      · obtain ⟨a, _, h⟩ := c.cell m hf; exact ⟨a, h⟩
    frameX := fun e he L hL => .tail _ (List.mem_append_right _ (O.frameX e he L hL))
    yx := fun y hy q => by
      have hyL : y < L := by
        rcases List.mem_cons.mp hy with h | hy
        · rw [h]; exact c.lt2
        · rcases List.mem_cons.mp hy with h | hy
          · rw [h]; exact Nat.lt_trans c.lt1 c.lt2
          · exact oL (c.old y (.inr (.inl hy)))
      rcases List.mem_cons.mp q with q | q
      · exact Nat.ne_of_lt hyL q
      · rcases List.mem_append.mp q with q | q
        · exact Nat.lt_irrefl _ (Nat.lt_trans hyL (c.lt3 _ q))
        · have := o0 _ q
          rcases List.mem_cons.mp hy with h | hy
          · rw [h] at this; exact Nat.lt_irrefl _ (Nat.lt_trans this c.lt1)
          · rcases List.mem_cons.mp hy with h | hy
            · rw [h] at this; exact Nat.lt_irrefl _ this
            · exact O.yx _ hy q
    frame := O.frame
    nodup := O.nodup
    plain := O.plain
    gmg := O.gmg
    gmb := O.gmb
    nolim := O.nolim
    h0b := hb }

theorem unbOr {X' : List Addr} {h' : Heap} {m : Str} {a : AV} (V : VarOk F X' h' m a) (q3 : ∀ l, a ≠ .own l) : a = .unb ∨ ∃ v, VarAt F.env h' m v ∧ Rep F.C X' h' a v := by
  cases a <;> first | exact .inl rfl | exact absurd rfl (q3 _) | exact .inr V
theorem foldNo {nm : List String} {e : E} {env : Env} (h : isRaw e = false) (v : Value) : foldedSetIterable (tx nm e).x env v = pure v := by cases e <;> first | rfl | (cases h; done)
theorem compIv (O : FOk F n) {sc : Scope} {cs : List (Str × Addr)} {Z : List Addr} {h1 h2 : Heap} {it D L : Addr} {x : Nat} {fv : List Nat} (hC : compOk F.env.scope sc F.nm x fv = true)
    (c : CompCells F sc (Str.ofString (F.nm.getD x "")) cs Z it D L) (I : Iv F (Z ++ (L :: D :: it :: X)) ρ d h2) (hns : ∃ m, h2.Ns L m) (hcl : ∀ z ∈ Z, h2.IsCell z none) (hold : Kept F.X0 [F.C.cup] h1 h2) :
    Iv (compFx F sc cs Z h1 it D L) (Z ++ (L :: D :: it :: X)) (maskA fv ρ 0) d h2 := by
  simp only [compOk, Bool.and_eq_true, decide_eq_true_eq, List.all_eq_true] at hC
  obtain ⟨⟨⟨⟨⟨⟨⟨k1, k2⟩, k3⟩, k4⟩, k5⟩, k6⟩, k7⟩, k8⟩ := hC
  exact {
    stays := I.stays
    ff := I.ff
    sub := fun z hz => by
      rcases List.mem_cons.mp hz with rfl | hz
      · exact List.mem_append_right _ (.head _)
      · rcases List.mem_append.mp hz with hz | hz
        · exact List.mem_append_left _ hz
        · exact I.sub z hz
    subY := fun z hz => by
      rcases List.mem_cons.mp hz with rfl | hz
      · exact List.mem_append_right _ (.tail _ (.head _))
      rcases List.mem_cons.mp hz with rfl | hz
      · exact List.mem_append_right _ (.tail _ (.tail _ (.head _)))
      · exact I.subY z hz
    old := hold.mono (fun b hb => .tail _ (List.mem_append_right _ hb)) fun _ q => q
    new := I.new
    live := I.live
    lst := I.lst
    cup := I.cup
    ns := hns
    cells := fun m a e => by
      rcases c.from_ m a e with h | ⟨_, h⟩
      · exact I.cells m a h
      · exact ⟨_, hcl _ h⟩
    vars := fun i m a e e' => by
      rcases maskA_get e with rfl | ⟨q1, q2, q3⟩
      · trivial
      · rw [Nat.zero_add] at q1
        obtain ⟨hi, hfr⟩ := k7 i (by simpa using q1)
        have hnm : F.nm.getD i "" = m := by simp [e']
        rw [hnm] at hfr
        have V := I.vars i m a q2 e'
        have V' : a = .unb ∨ ∃ v, VarAt F.env h2 (Str.ofString m) v ∧ Rep F.C (Z ++ (L :: D :: it :: X)) h2 a v := by
          exact unbOr V q3
        rcases V' with rfl | ⟨v, hv, hr⟩
        · trivial
        · refine VarOk.of (F := compFx F sc cs Z h1 it D L) ?_ hr
          have hout := (k6 _ (mem_of_lookup hfr) rfl).2
          rcases hv with ⟨hk, _⟩ | ⟨_, a', hc, hcell⟩
          · have : F.env.scope.names.lookup (Str.ofString m) = some .local := hk
            rw [this] at hout; cases hout
          · obtain ⟨a'', hc', hc''⟩ := c.free _ (mem_of_lookup hfr)
            rw [hc] at hc''; cases hc''
            refine .inr ⟨?_, a', hc', hcell⟩
            show (relabel sc F.env).names.lookup _ = _ ∨ (relabel sc F.env).names.lookup _ = _
            rw [relabel_eq]
            exact lookup_relabelS_free hfr }

noncomputable abbrev TsOk (F : Fx) (ρ : List AV) (e : E) : Prop := ∀ X d s, Iv F X ρ d s.heap → Sim F s d (testsT (tx F.nm e).l F.env) ((dn F.C.g e).c ρ) EqR

theorem exComp {elt iter ifs : E} {x : Nat} {px p : Pos} {sc : Scope} {fv : List Nat} (O : FOk F n) (hC : compOk F.env.scope sc F.nm x fv = true) (hr : isRaw iter = false) (hit : ExOk F ρ iter)
    (hin : ∀ (G : Fx) (ρ' : List AV), FOk G n → G.C = F.C → G.nm = F.nm → G.env.scope = relabelS sc F.env.scope → ExOk G ρ' elt ∧ TsOk G ρ' ifs) : ExOk F ρ (.comp elt x px iter ifs sc fv p) := by
  intro X d s I r d' Q Ec hm P
  have hC' := hC
  simp only [compOk, Bool.and_eq_true, decide_eq_true_eq, List.all_eq_true, Bool.or_eq_true] at hC'
  obtain ⟨⟨⟨⟨⟨⟨⟨k1, k2⟩, k3⟩, k4⟩, k5⟩, k6⟩, k7⟩, k8⟩ := hC'
  obtain ⟨cl, hclos, c1, c2⟩ := closOk (sc := sc) (env := F.env) (fun m hm => by
    have := (k6 _ hm rfl).2
    refine O.cellD m ?_
    revert this
    show isFree (F.env.scope.names.lookup m) = true → _
    cases F.env.scope.names.lookup m with
    | none => intro q; cases q
    | some kk => cases kk <;> intro q <;> first | (cases q; done) | exact .inl rfl | exact .inr rfl)
  simp only [dn_nil, dn_cons, dn_num, dn_str, dn_bool, dn_non, dn_neg, dn_var, dn_glb, dn_bin, dn_cmp, dn_and, dn_or, dn_ite, dn_tup, dn_lst, dn_dct, dn_idx, dn_oidx, dn_slc, dn_call, dn_bi, dn_meth, dn_comp, dn_rows, dn_raw, Dn.of, oneA_bind, oneA_ret1] at hm
  have hs : ∀ v, foldedSetIterable (tx F.nm iter).x F.env v = pure v := foldNo hr
  show wpAny _ _ (eval (.ListComp (tx F.nm elt).x [⟨.Name (nmAt F.nm x) px, (tx F.nm iter).x, (tx F.nm ifs).l, 0⟩] sc p) F.env) _ _ _
  rw [eval_ListComp]
  refine wpAny_comprehension_free (use := none) rfl hs hclos k1 k3 ((hit X d s I).step hm P fun xv v h1 tk1 d1 kk1 cc1 r1 e1 P1 => ?_)
  have I1 := I.kept O kk1 cc1
  rcases M.bind_eq_some e1 with ⟨l, d2, e2, e3⟩ | ⟨l, d2, e2, e3⟩
  · obtain ⟨_, _, q, _⟩ := lift_some e2; cases q
  obtain ⟨_, hitems, q, rfl⟩ := lift_some e2
  cases q
  rcases M.bind_eq_some e3 with ⟨_, d3, e4, e5⟩ | ⟨ys, d3, e4, e5⟩
  · obtain ⟨_, _, q⟩ := noErr_some e4; cases q
  obtain ⟨_, hcomp, q⟩ := noErr_some e4
  cases q; cases e5
  refine iterOk (s := ⟨h1, s.gens, s.drawn, tk1, s.os⟩) O.handled I1.live hitems r1 fun fp PP St o hfree W hlen st0 hfp hlive hP => ?_
  refine wpAny_newObj_type (newEnvOk ?_)
  dsimp only
  have G1 := I1.grow O o hfree
  have G2 := G1.grow O { cls := .type "list", dict := none, data := .seq ([] : List Value).toArray } rfl
  have G3 := G2.grow O { cls := .type "dict", data := .dict #[] } rfl
  generalize hH1 : h1.push o = H1 at *
  generalize hH2 : H1.push { cls := .type "list", dict := none, data := .seq ([] : List Value).toArray } = H2 at *
  have sz1 : H1.objs.size = h1.objs.size + 1 := by rw [← hH1, Heap.size_push]
  have sz2 : H2.objs.size = H1.objs.size + 1 := by rw [← hH2, Heap.size_push]
  have old1 : ∀ b ob, h1.get? b = some ob → H1.get? b = some ob := fun b ob e => hH1 ▸ Heap.get?_push_of_some _ e
  have old2 : ∀ b ob, H1.get? b = some ob → H2.get? b = some ob := fun b ob e => hH2 ▸ Heap.get?_push_of_some _ e
  have liveLt : ∀ {b}, b ∈ X → b < h1.objs.size := fun hb => by obtain ⟨ob, e⟩ := I1.live _ hb; exact Heap.lt_size e
  have none1 : ∀ {a}, h1.objs.size ≤ a → h1.get? a = none := fun {a} ha => by
    cases e : h1.get? a with
    | none => rfl
    | some ob => exact absurd (Heap.lt_size e) (Nat.not_lt.mpr ha)
  have L1 : h1.objs.size < H1.objs.size := by rw [sz1]; exact Nat.lt_succ_self _
  have L2 : H1.objs.size < H2.objs.size := by rw [sz2]; exact Nat.lt_succ_self _
  have L3 : h1.objs.size < H2.objs.size := Nat.lt_trans L1 L2
  have lt2 : ∀ {b : Addr}, b < h1.objs.size → b ≠ H1.objs.size := fun h => Nat.ne_of_lt (Nat.lt_trans h L1)
  have lt3 : ∀ {b : Addr}, b < h1.objs.size → b ≠ H2.objs.size := fun h => Nat.ne_of_lt (Nat.lt_trans h L3)
  have lstLt : F.C.lst < h1.objs.size := by obtain ⟨_, _, _, ⟨ob, e, _⟩, _⟩ := I1.cup; exact Heap.lt_size e
  have oldAll : ∀ b, b ∈ F.X0 ∨ b ∈ F.Y0 ∨ b = F.C.lst → b < h1.objs.size := fun b hb => by
    rcases hb with hb | hb | hb
    · exact liveLt (I1.sub b hb)
    · exact liveLt (I1.subY b hb)
    · rw [hb]; exact lstLt
  have cells : ∃ Z, CompCells F sc (Str.ofString (F.nm.getD x "")) (cellsFrom (H2.objs.size + 1) sc.names cl) Z h1.objs.size H1.objs.size H2.objs.size ∧ Iv F (Z ++ (H2.objs.size :: H1.objs.size :: h1.objs.size :: X)) ρ d2 (pushCells (H2.push { cls := .type "dict", data := .dict #[] }) sc.names) ∧
      ∀ z ∈ Z, (pushCells (H2.push { cls := .type "dict", data := .dict #[] }) sc.names).IsCell z none := by
    cases e : sc.names.filter (fun y => decide (y.2 = .cell)) with
    | nil =>
      obtain ⟨q1, q2⟩ := cellsNone (k := H2.objs.size + 1) (acc := cl) (h := H2.push { cls := .type "dict", data := .dict #[] }) e
      rw [q1, q2]
      exact ⟨[], ⟨fun m c h => .inl (c1 m c h), fun m hm => by obtain ⟨c, hc⟩ := Option.isSome_iff_exists.mp (c2 m hm); exact ⟨c, hc, c1 m c hc⟩, fun m hm => (by
        have : (m, NameKind.cell) ∈ sc.names.filter (fun y => decide (y.2 = .cell)) := List.mem_filter.mpr ⟨mem_of_lookup hm, by simp⟩
        rw [e] at this; cases this), oldAll, L1, L2, fun z hz => (by cases hz)⟩, G3, fun z hz => (by cases hz)⟩
    | cons y ys =>
      cases ys with
      | cons _ _ => rw [e] at k8; simp at k8
      | nil =>
        obtain ⟨q1, q2⟩ := cellsOne (k := H2.objs.size + 1) (acc := cl) (h := H2.push { cls := .type "dict", data := .dict #[] }) e
        have hy : y ∈ sc.names ∧ y.2 = .cell := by
          have : y ∈ sc.names.filter (fun y => decide (y.2 = .cell)) := by rw [e]; exact .head _
          exact ⟨(List.mem_filter.mp this).1, by simpa using (List.mem_filter.mp this).2⟩
        have hyx := k2 y hy.1 hy.2
        have G4 := G3.grow O { cls := .type "cell", data := .cell none } rfl
        rw [q1, q2]
        rw [Heap.size_push] at G4
        refine ⟨[H2.objs.size + 1], ⟨fun m c h => ?_, fun m hm => ?_, fun m hm => ?_, oldAll, L1, L2, fun z hz => by rw [List.mem_singleton.mp hz]; exact Nat.lt_succ_self _⟩, G4, fun z hz => ?_⟩
        · rw [List.lookup_cons] at h
          cases q : m == y.1 with
          | true => rw [q] at h; cases h; exact .inr ⟨(eq_of_beq q).trans hyx, .head _⟩
          | false => rw [q] at h; exact .inl (c1 m c h)
        · obtain ⟨c, hc⟩ := Option.isSome_iff_exists.mp (c2 m hm)
          have hne : (m == y.1) = false := beq_eq_false_iff_ne.mpr (by rw [hyx]; exact (k6 _ hm rfl).1)
          exact ⟨c, by rw [List.lookup_cons, hne]; exact hc, c1 m c hc⟩
        · have : (m, NameKind.cell) ∈ sc.names.filter (fun y => decide (y.2 = .cell)) := List.mem_filter.mpr ⟨mem_of_lookup hm, by simp⟩
          rw [e, List.mem_singleton] at this
          refine ⟨_, .head _, ?_⟩
          rw [List.lookup_cons, ← this]; simp
        · rw [List.mem_singleton.mp hz]
          have : (H2.push { cls := .type "dict", data := .dict #[] }).objs.size = H2.objs.size + 1 := Heap.size_push ..
          exact ⟨_, this ▸ Heap.get?_push_size _ rfl, rfl⟩
  obtain ⟨Z, cc, G5, hcell⟩ := cells
  have kP : ∀ b ob, (H2.push { cls := .type "dict", data := .dict #[] }).get? b = some ob → (pushCells (H2.push { cls := .type "dict", data := .dict #[] }) sc.names).get? b = some ob := pushCells_keeps _ _
  have hns2 : (pushCells (H2.push { cls := .type "dict", data := .dict #[] }) sc.names).Ns H2.objs.size (fun _ => none) := (Heap.Ns.new H2 (.type "dict")).keeps kP
  generalize pushCells (H2.push { cls := .type "dict", data := .dict #[] }) sc.names = h2 at *
  generalize cellsFrom (H2.objs.size + 1) sc.names cl = cs at *
  have toH2 : ∀ b ob, H2.get? b = some ob → h2.get? b = some ob := fun b ob e => kP b ob (Heap.get?_push_of_some _ e)
  have up : ∀ b ob, h1.get? b = some ob → h2.get? b = some ob := fun b ob e => toH2 b ob (old2 b ob (old1 b ob e))
  have OG : FOk (compFx F sc cs Z h1 h1.objs.size H1.objs.size H2.objs.size) n := compFOk O hC cc (none1 (Nat.le_of_lt L3)) I1.stays
  have IG : Iv (compFx F sc cs Z h1 h1.objs.size H1.objs.size H2.objs.size) (Z ++ (H2.objs.size :: H1.objs.size :: h1.objs.size :: X)) (maskA fv ρ 0) d2 h2 := compIv O hC cc G5 ⟨_, hns2⟩ hcell (.of up)
  have notX : ∀ {b : Addr}, b < h1.objs.size → b ∉ X → b ∉ Z ++ (H2.objs.size :: H1.objs.size :: h1.objs.size :: X) := fun {b} hb nx z => by
    rcases List.mem_append.mp z with z | z
    · exact Nat.lt_irrefl _ (Nat.lt_trans (Nat.lt_trans hb L3) (cc.lt3 _ z))
    rcases List.mem_cons.mp z with z | z
    · exact lt3 hb z
    rcases List.mem_cons.mp z with z | z
    · exact lt2 hb z
    rcases List.mem_cons.mp z with z | z
    · exact Nat.ne_of_lt hb z
    exact nx z
  have hD : h2.IsList H1.objs.size #[] := ⟨_, toH2 _ _ (hH2 ▸ Heap.get?_push_size _ rfl), rfl, _, rfl⟩
  have st2 : St 0 h2 := (W F.A O.handled).frame _ _ _ st0 fun b hb ob e => toH2 b ob (old2 b ob e)
  have loop : codeAny (model F.C.prog F.C.w) F.A (.compLoop (.ListComp (tx F.nm elt).x [⟨.Name (nmAt F.nm x) px, (tx F.nm iter).x, (tx F.nm ifs).l, 0⟩] sc p) 0 (.ref h1.objs.size) (.ref H1.objs.size) (compEnvC sc cs H2.objs.size F.env))
      (compPost (model F.C.prog F.C.w) F.A Ec none Q (.ref H1.objs.size) H2.objs.size) ⟨h2, s.gens, s.drawn, tk1, s.os⟩ := by
    have hxx : F.nm[x]? = some (F.nm.getD x "") := by simp [k4]
    refine compLoopOk (G := compFx F sc cs Z h1 h1.objs.size H1.objs.size H2.objs.size) (xs := F.nm.getD x "") OG (.tail _ (.head _)) (.head _) (Nat.ne_of_lt L1) (none1 (Nat.le_refl _)) (none1 (Nat.le_of_lt L1)) hxx ?_
      (fun a => (hin _ _ OG rfl rfl (relabel_eq _ _)).2) (fun a => (hin _ _ OG rfl rfl (relabel_eq _ _)).1) (W F.A O.handled) hlen (fun b hb => ?_) (fun i v hv => ?_) hlive IG (fun a ha => ?_) st2 hD hcomp (fun h' tk vs kk c' hns' hl' hr' => ?_)
    · rcases k5 with k5 | k5
      · left
        show (relabel sc F.env).names.lookup _ = _
        rw [relabel_eq]
        exact lookup_relabelS_other k5 (by intro q; cases q)
      · right
        obtain ⟨c, hz, hc⟩ := cc.cell _ k5
        refine ⟨?_, c, hc, none1 (Nat.le_of_lt (Nat.lt_trans L3 (cc.lt3 _ hz)))⟩
        show (relabel sc F.env).names.lookup _ = _
        rw [relabel_eq]
        exact lookup_relabelS_other k5 (by intro q; cases q)
    · rcases hfp b hb with q | ⟨q, ⟨ob, e⟩, _⟩
      · exact .inl q
      · exact .inr (notX (Heap.lt_size e) q)
    · obtain ⟨a, ha, hr⟩ := hP i v hv
      exact ⟨a, ha, Rep.move (fun b ob e nb => ⟨notX (Heap.lt_size e) nb, e⟩) _ hr⟩
    · rcases maskA_get ha with q | ⟨q, _⟩
      · exact q
      · obtain ⟨_, q2⟩ := k7 (0 + x) (by simpa using q)
        rw [Nat.zero_add] at q2
        rcases k5 with k5 | k5 <;> (rw [k5] at q2; cases q2)
    · obtain ⟨m', hm'⟩ := hns'
      refine ⟨m', hm', fun h'' hs'' => ?_⟩
      have kC : ∀ b ob, b ≠ H2.objs.size → h'.get? b = some ob → h''.get? b = some ob := fun b ob hb e => hs''.extBut b ob hb e
      refine P1 _ h'' tk (fun b ob e nw => ?_) (c'.but (fun q => ?_) (lt3 lstLt) kC) ⟨_, vs, rfl, fun q => ?_, hl'.extBut hs''.extBut (Nat.ne_of_lt L2), RepL.move (fun b ob e nb => ⟨fun q => nb (List.mem_append_right _ (.tail _ (.tail _ (.tail _ q)))), kC b ob (fun q => nb (q ▸ List.mem_append_right _ (.head _))) e⟩) _ hr'⟩
      · have hb : b ≠ H2.objs.size := lt3 (Heap.lt_size e)
        obtain ⟨⟨sl, e1⟩, e2⟩ := kk b ob e nw
        refine ⟨⟨sl, kC _ _ hb e1⟩, fun nx => kC _ _ hb (e2 fun q => ?_)⟩
        rcases List.mem_cons.mp q with q | q
        · exact hb q
        · rcases List.mem_append.mp q with q | q
          · exact Nat.lt_irrefl _ (Nat.lt_trans (Nat.lt_trans (Heap.lt_size e) L3) (cc.lt3 _ q))
          · exact nx q
      · exact lt3 (liveLt (I1.sub _ O.cupX)) q
      · exact lt2 (liveLt q) rfl
  exact codeAny_compStart_list loop ((W F.A O.handled).self 0 _ _ _ st2 loop)
end
end Mine
namespace Mine
open PySem PySem.W PyProof.Rows PySem.Calls

noncomputable def gI (sc : Scope) (f : String) : Bool := decide (sc.names.lookup (Str.ofString f) = some .globalImplicit)
noncomputable def keyB : E → Bool
  | .str x l _ => decide (Str.ofString x = ⟨l.toArray⟩)
  | _ => false
noncomputable def keysB : E → Bool
  | .nil => true
  | .cons a b => keyB a && keysB b
  | _ => false
set_option tactic.hygienic true
theorem keyB_ok {e : E} (h : keyB e = true) : KeyOk e := by
  cases e <;> try trivial
  case str s l p => exact of_decide_eq_true (p := Str.ofString s = ⟨l.toArray⟩) h
noncomputable def baseB : E → Bool
  | .call f _ _ _ => decide (Str.ofString f ≠ ("super" : Str))
  | .raw _ => false
  | _ => true

/-- a term of the language is one that the rules cover; `m`: 0 a value, 1 a test, 2 values, 3 tests -/
noncomputable def ok (nm fs : List String) : E → Scope → Nat → Bool
  | .nil, _, m => m == 2 || m == 3
  | .cons a b, sc, m => (m == 2 && ok nm fs a sc 0 && ok nm fs b sc 2) || (m == 3 && ok nm fs a sc 1 && ok nm fs b sc 3)
  | .num _ _, _, m => m == 0
  | .str s l _, _, m => m == 0 && decide (Str.ofString s = ⟨l.toArray⟩)
  | .bool _ _, _, m => m == 0
  | .non _, _, m => m == 0
  | .neg _ _ _, _, m => m == 0
  | .var x _, _, m => (m == 0 || m == 1) && decide (x < nm.length)
  | .glb x _, sc, m => m == 0 && gI sc x
  | .bin _ a b _, sc, m => m == 0 && ok nm fs a sc 0 && ok nm fs b sc 0
  | .cmp _ a b _, sc, m => (m == 0 || m == 1) && ok nm fs a sc 0 && ok nm fs b sc 0
  | .and es _, sc, m => (m == 0 && !es.isNil && ok nm fs es sc 2) || (m == 1 && ok nm fs es sc 3)
  | .or es _, sc, m => (m == 0 && !es.isNil && ok nm fs es sc 2) || (m == 1 && ok nm fs es sc 3)
  | .ite c a b _, sc, m => (m == 0 && ok nm fs c sc 1 && ok nm fs a sc 0 && ok nm fs b sc 0) || (m == 1 && ok nm fs c sc 1 && ok nm fs a sc 1 && ok nm fs b sc 1)
  | .tup es _, sc, m => m == 0 && ok nm fs es sc 2
  | .lst es _, sc, m => m == 0 && ok nm fs es sc 2
  | .dct ks vs _, sc, m => m == 0 && keysB ks && lstE vs && lenL ks == lenL vs && decide (0 < lenL vs) && decide (lenL vs ≤ 15) && ok nm fs vs sc 2
  | .idx a i _, sc, m => m == 0 && ok nm fs a sc 0 && ok nm fs i sc 0
  | .oidx x _ i _, sc, m => m == 0 && decide (x < nm.length) && ok nm fs i sc 0
  | .slc a lo hi _ _, sc, m => m == 0 && ok nm fs a sc 0 && (lo.isNil || ok nm fs lo sc 0) && (hi.isNil || ok nm fs hi sc 0)
  | .call f _ es _, sc, m => m == 0 && decide (f ∈ fs) && gI sc f && ok nm fs es sc 2
  | .bi f _ e _, sc, m => m == 0 && gI sc f.name && ok nm fs e sc 0
  | .meth _ o q es p, sc, m => m == 0 && q.endLine == p.line && decide (lenL es < 30) && baseB o && ok nm fs o sc 0 && ok nm fs es sc 2
  | .comp elt x _ iter ifs sc' fv _, sc, m => m == 0 && compOk sc sc' nm x fv && ok nm fs iter sc 0 && ok nm fs elt (relabelS sc' sc) 0 && decide (lenL ifs ≤ 1) && ok nm fs ifs (relabelS sc' sc) 3
  | .rows o _ r _ u _, sc, m => m == 0 && gI sc "len" && r.endLine == u.line && baseB o && ok nm fs o sc 0
  | .raw _, _, _ => false

section
variable {F : Fx} {n : Nat} {fs : List String} {ρ : List AV}

set_option tactic.hygienic false
theorem ok_raw {nm : List String} {e : E} {sc : Scope} {m : Nat} (h : ok nm fs e sc m = true) : isRaw e = false := by
  cases e <;> first | rfl | exact no h
theorem ok_plain {nm : List String} {sc : Scope} : ∀ {e : E}, ok nm fs e sc 2 = true → plainL e = true
  | .cons a b, h => by
    have q := or_l h rfl
    show (!isRaw a && plainL b) = true
    rw [ok_raw (and_r (and_l q)), ok_plain (and_r q)]; rfl
  | .nil, _ => rfl
  | .num .., _ | .str .., _ | .bool .., _ | .non .., _ | .neg .., _ | .var .., _ | .glb .., _ | .bin .., _ | .cmp .., _ | .and .., _ | .or .., _ | .ite .., _ | .tup .., _ | .lst .., _ | .dct .., _
  | .idx .., _ | .oidx .., _ | .slc .., _ | .call .., _ | .bi .., _ | .meth .., _ | .comp .., _ | .rows .., _ | .raw .., _ => rfl
theorem keysB_ok : ∀ {e : E}, keysB e = true → KeysOk e := by
  intro e
  induction e with
  | cons a b _ ih =>
    intro h
    obtain ⟨h1, h2⟩ := Bool.and_eq_true_iff.mp (show (keyB a && keysB b) = true from h)
    exact ⟨keyB_ok h1, ih h2⟩
  | _ => intro _; trivial
set_option tactic.hygienic true
theorem baseOk {nm : List String} {o : E} {a : Str} {env : Env} (h : baseB o = true) : attributeBase (tx nm o).x a env (eval (tx nm o).x env) = eval (tx nm o).x env := by
  cases o <;> first
    | rfl
    | (cases h; done)
    | skip
  · rename_i f q es p
    show attributeBase (.Call (.Name (Str.ofString f) q) (tx nm es).l [] p) a env (eval (.Call (.Name (Str.ofString f) q) (tx nm es).l [] p) env) = eval (.Call (.Name (Str.ofString f) q) (tx nm es).l [] p) env
    have hf : Str.ofString f ≠ ("super" : Str) := by simpa [baseB] using h
    generalize (tx nm es).l = l
    cases l with
    | cons _ _ => rfl
    | nil =>
      unfold attributeBase
      have : (Str.ofString f != ("super" : Str)) = true := by simpa using hf
      simp only [this, Bool.true_or, if_true, _root_.bind_pure]

set_option tactic.hygienic false
theorem tsNil : TsOk F ρ .nil := fun X d s I r d' Q Ec hm P => by
  cases hm
  exact wpAny_tests_nil (P true s.heap s.toks (Kept.refl _ _ _) I.cup rfl)
theorem tsOne {a : E} (ha : CdOk F ρ a) : TsOk F ρ (.cons a .nil) := fun X d s I r d' Q Ec hm P => by
  refine wpAny_tests_one ?_
  refine (ha X d s I).step (f := fun t => if t then M.pure true else M.pure false) hm P fun x v h1 tk1 d1 k1 c1 r1 e1 P1 => ?_
  have : v = x := r1
  subst this
  cases v <;> (cases e1; exact P1 _ h1 tk1 (Kept.refl _ _ _) c1 rfl)

structure AllOk (F : Fx) (ρ : List AV) (nm fs : List String) (e : E) : Prop where
  ex : ok nm fs e F.env.scope 0 = true → ExOk F ρ e
  cd : ok nm fs e F.env.scope 1 = true → CdOk F ρ e
  ls : ok nm fs e F.env.scope 2 = true → LsOk F ρ e
  ae : ok nm fs e F.env.scope 2 = true → AllEx F ρ e
  bl : ok nm fs e F.env.scope 2 = true → e.isNil = false → BlOk F ρ e
  tt : ok nm fs e F.env.scope 3 = true → TtOk F ρ e
  ts : ok nm fs e F.env.scope 3 = true → lenL e ≤ 1 → TsOk F ρ e

theorem AllOk.val {nm : List String} {e : E} (h : ok nm fs e F.env.scope 0 = true → ExOk F ρ e) (h1 : ok nm fs e F.env.scope 1 = true → CdOk F ρ e) (h2 : ok nm fs e F.env.scope 2 = false) (h3 : ok nm fs e F.env.scope 3 = false) : AllOk F ρ nm fs e :=
  ⟨h, h1, fun q => (by rw [h2] at q; cases q), fun q => (by rw [h2] at q; cases q), fun q => (by rw [h2] at q; cases q), fun q => (by rw [h3] at q; cases q), fun q => (by rw [h3] at q; cases q)⟩

theorem allOk (hs : sysModules < mainGlobals) : ∀ (e : E) (F : Fx) (ρ : List AV), FOk F n → GOk F.C n fs → AllOk F ρ F.nm fs e
  | .nil, F, ρ, O, G => ⟨fun h => (no h), fun h => (no h), fun _ => lsNil, fun _ => trivial, fun _ h => (by cases h), fun _ => ttNil, fun _ _ => tsNil⟩
  | .cons a b, F, ρ, O, G => by
    have A := allOk hs a F ρ O G
    have B := allOk hs b F ρ O G
    have sp2 : ok F.nm fs (.cons a b) F.env.scope 2 = true → ok F.nm fs a F.env.scope 0 = true ∧ ok F.nm fs b F.env.scope 2 = true := fun h => let q := or_l h rfl; ⟨and_r (and_l q), and_r q⟩
    have sp3 : ok F.nm fs (.cons a b) F.env.scope 3 = true → ok F.nm fs a F.env.scope 1 = true ∧ ok F.nm fs b F.env.scope 3 = true := fun h => let q := or_r h rfl; ⟨and_r (and_l q), and_r q⟩
    refine ⟨fun h => (no h), fun h => (no h), fun h => lsCons O (A.ex (sp2 h).1) (B.ls (sp2 h).2), fun h => ⟨A.ex (sp2 h).1, B.ae (sp2 h).2⟩, fun h _ => ?_, fun h => ttCons O (A.cd (sp3 h).1) (B.tt (sp3 h).2), fun h hl => ?_⟩
    · obtain ⟨h1, h2⟩ := sp2 h
      cases b with
      | nil => exact blOne (A.ex h1)
      | cons b c => exact blCons O (A.ex h1) (B.bl h2 rfl)
      | _ => exact no h2
    · obtain ⟨h1, h2⟩ := sp3 h
      cases b with
      | nil => exact tsOne (A.cd h1)
      | cons b c => simp [lenL] at hl
      | _ => exact no h2
  | .num _ _, F, ρ, O, G => .val (fun _ => exNum) (fun h => (no h)) rfl rfl
  | .str _ _ _, F, ρ, O, G => .val (fun h => exStr (of_decide_eq_true (and_r h))) (fun h => (no h)) rfl rfl
  | .bool _ _, F, ρ, O, G => .val (fun _ => exBool) (fun h => (no h)) rfl rfl
  | .non _, F, ρ, O, G => .val (fun _ => exNone) (fun h => (no h)) rfl rfl
  | .neg _ _ _, F, ρ, O, G => .val (fun _ => exNeg) (fun h => (no h)) rfl rfl
  | .var _ _, F, ρ, O, G => .val (fun h => exVar O (of_decide_eq_true (and_r h))) (fun h => cdVal O (exVar O (of_decide_eq_true (and_r h))) rfl rfl) rfl rfl
  | .glb _ _, F, ρ, O, G => .val (fun h => exGlb O G (of_decide_eq_true (and_r h))) (fun h => (no h)) rfl rfl
  | .bin _ a b _, F, ρ, O, G => by
    have A := allOk hs a F ρ O G
    have B := allOk hs b F ρ O G
    refine .val (fun h => ?_) (fun h => (no h)) rfl rfl
    exact exBin O (A.ex (and_r (and_l h))) (B.ex (and_r h))
  | .cmp _ a b _, F, ρ, O, G => by
    have A := allOk hs a F ρ O G
    have B := allOk hs b F ρ O G
    refine .val (fun h => ?_) (fun h => ?_) rfl rfl
    · exact exCmp O (A.ex (and_r (and_l h))) (B.ex (and_r h)) (isRaw_of (ok_raw (and_r h)))
    · exact cdCmp O (A.ex (and_r (and_l h))) (B.ex (and_r h)) (isRaw_of (ok_raw (and_r h)))
  | .and es _, F, ρ, O, G => by
    have A := allOk hs es F ρ O G
    refine .val (fun h => ?_) (fun h => ?_) rfl rfl
    · have q := or_l h rfl
      exact exAnd (A.bl (and_r q) ((Bool.not_eq_true' _).mp (and_r (and_l q))))
    · exact cdAnd (A.tt (and_r (or_r h rfl)))
  | .or es _, F, ρ, O, G => by
    have A := allOk hs es F ρ O G
    refine .val (fun h => ?_) (fun h => ?_) rfl rfl
    · have q := or_l h rfl
      exact exOr (A.bl (and_r q) ((Bool.not_eq_true' _).mp (and_r (and_l q))))
    · exact cdOr (A.tt (and_r (or_r h rfl)))
  | .ite c a b _, F, ρ, O, G => by
    have A := allOk hs a F ρ O G
    have B := allOk hs b F ρ O G
    have D := allOk hs c F ρ O G
    refine .val (fun h => ?_) (fun h => ?_) rfl rfl
    · have q := or_l h rfl
      exact exIte O (D.cd (and_r (and_l (and_l q)))) (A.ex (and_r (and_l q))) (B.ex (and_r q))
    · have q := or_r h rfl
      exact cdIte O (D.cd (and_r (and_l (and_l q)))) (A.cd (and_r (and_l q))) (B.cd (and_r q))
  | .tup es _, F, ρ, O, G => by
    have A := allOk hs es F ρ O G
    exact .val (fun h => exTup O (A.ls (and_r h))) (fun h => (no h)) rfl rfl
  | .lst es _, F, ρ, O, G => by
    have A := allOk hs es F ρ O G
    exact .val (fun h => exLst O (A.ls (and_r h))) (fun h => (no h)) rfl rfl
  | .dct ks vs _, F, ρ, O, G => by
    have A := allOk hs vs F ρ O G
    refine .val (fun h => ?_) (fun h => (no h)) rfl rfl
    have q5 := and_l h; have q4 := and_l q5; have q3 := and_l q4; have q2 := and_l q3
    exact exDct O (keysB_ok (and_r (and_l q2))) (and_r q2) (eq_of_beq (and_r q3)) (of_decide_eq_true (and_r q4)) (of_decide_eq_true (and_r q5)) hs (A.ae (and_r h))
  | .idx a i _, F, ρ, O, G => by
    have A := allOk hs a F ρ O G
    have B := allOk hs i F ρ O G
    refine .val (fun h => ?_) (fun h => (no h)) rfl rfl
    exact exIdx O (ok_raw (and_r h)) (A.ex (and_r (and_l h))) (B.ex (and_r h))
  | .oidx x _ i _, F, ρ, O, G => by
    have B := allOk hs i F ρ O G
    refine .val (fun h => ?_) (fun h => (no h)) rfl rfl
    exact exOidx O (of_decide_eq_true (and_r (and_l h))) (ok_raw (and_r h)) (B.ex (and_r h))
  | .slc a lo hi _ _, F, ρ, O, G => by
    have A := allOk hs a F ρ O G
    have B := allOk hs lo F ρ O G
    have D := allOk hs hi F ρ O G
    refine .val (fun h => ?_) (fun h => (no h)) rfl rfl
    exact exSlc O (A.ex (and_r (and_l (and_l h)))) (fun q => B.ex (or_r (and_r (and_l h)) q)) (fun q => D.ex (or_r (and_r h) q))
  | .call f _ es _, F, ρ, O, G => by
    have A := allOk hs es F ρ O G
    refine .val (fun h => ?_) (fun h => (no h)) rfl rfl
    exact exCall O G (of_decide_eq_true (and_r (and_l (and_l h)))) (of_decide_eq_true (and_r (and_l h))) (ok_plain (and_r h)) (A.ls (and_r h))
  | .bi f _ e _, F, ρ, O, G => by
    have A := allOk hs e F ρ O G
    refine .val (fun h => ?_) (fun h => (no h)) rfl rfl
    exact exBi O G (of_decide_eq_true (and_r (and_l h))) (ok_raw (and_r h)) (A.ex (and_r h))
  | .meth _ o q es p, F, ρ, O, G => by
    have A := allOk hs o F ρ O G
    have B := allOk hs es F ρ O G
    refine .val (fun h => ?_) (fun h => (no h)) rfl rfl
    have q4 := and_l h; have q3 := and_l q4; have q2 := and_l q3
    exact exMeth O (and_r (and_l q2)) (ok_plain (and_r h)) (of_decide_eq_true (and_r q2)) (baseOk (and_r q3)) (A.ex (and_r q4)) (B.ls (and_r h))
  | .comp elt x px iter ifs sc' fv p, F, ρ, O, G => by
    have A := allOk hs iter F ρ O G
    have ihE := allOk hs elt
    have ihI := allOk hs ifs
    refine .val (fun h => ?_) (fun h => (no h)) rfl rfl
    have q4 := and_l h; have q3 := and_l q4; have q2 := and_l q3
    have h1 := and_r (and_l q2); have h2 := and_r q2; have h3 := and_r q3; have h4 := of_decide_eq_true (and_r q4); have h5 := and_r h
    exact exComp O h1 (ok_raw h2) (A.ex h2) fun H ρ' OH hC hnm hsc => by
      have GH : GOk H.C n fs := hC ▸ G
      refine ⟨(ihE H ρ' OH GH).ex (by rw [hnm, hsc]; exact h3), (ihI H ρ' OH GH).ts (by rw [hnm, hsc]; exact h5) h4⟩
  | .rows o _ r _ u _, F, ρ, O, G => by
    have A := allOk hs o F ρ O G
    refine .val (fun h => ?_) (fun h => (no h)) rfl rfl
    have q3 := and_l h; have q2 := and_l q3
    exact exRows O G (of_decide_eq_true (and_r (and_l q2))) (and_r q2) (baseOk (and_r q3)) (A.ex (and_r h))
  | .raw _, F, ρ, O, G => .val (fun h => (no h)) (fun h => (no h)) rfl rfl
end
end Mine
namespace Mine
open PySem PySem.W PyProof.Rows PySem.Calls

/-- a def's own frame -/
structure FS (F : Fx) : Prop where
  env : F.env = F.fenv
  frame : F.env.frame = some F.env.locals
  cellN : ∀ n c, F.env.cells.lookup n = some c → F.h0.get? c = none

/-- in flight, and noted in the frame at L -/
noncomputable def FlyN (C : Cx) (X0 : List Addr) (h0 : Heap) (L : Addr) (h : Heap) (e : Addr) (l : Int) : Prop :=
  h0.get? e = none ∧ ∃ oe vs D m t, h.get? e = some oe ∧ oe.cls = .ref C.die ∧ oe.data = .fields vs ∧ oe.dict = some D ∧ (h0.get? D = none ∧ D ∉ X0) ∧ h.Ns D m ∧ m "line" = some (.int l t) ∧
    ∃ T oT ts, vs[1]? = some (.ref T) ∧ h0.get? T = none ∧ T ≠ e ∧ h.get? T = some oT ∧ oT.data = .fields ts ∧ ts[3]? = some (rawInt L)

section
variable {F : Fx} {n : Nat} {fs : List String} {ρ : List AV} {X : List Addr} {d : Int} {h h' : Heap}

theorem FlyN.fly {C : Cx} {X0 : List Addr} {h0 : Heap} {L : Addr} {e : Addr} {l : Int} (x : FlyN C X0 h0 L h e l) : Fly C X0 h0 (some L) h e l := by
  obtain ⟨a, oe, vs, D, m, t, b1, b2, b3, b4, b5, b6, b7, T, oT, ts, c1, c2, c3, c4, c5, c6⟩ := x
  exact ⟨a, oe, vs, D, m, t, b1, b2, b3, b4, b5, b6, b7, .inr ⟨T, oT, ts, c1, c2, c3, c4, c5, .inr ⟨L, rfl, c6⟩⟩⟩

theorem Iv.fld (O : FOk F n) (I : Iv F X [] d h) {y : Addr} {o : Obj} {vs : Array Value} (hy : h.get? y = some o) (hd : o.data = .fields vs) (hn : F.h0.get? y = none)
    (k : ∀ b o, b ≠ y → h.get? b = some o → h'.get? b = some o) (hl : ∃ o', h'.get? y = some o') : Iv F X [] d h' := by
  have nf : ∀ {b o'}, h.get? b = some o' → (∀ vs, o'.data ≠ .fields vs) → b ≠ y := fun e q z => by rw [z, hy] at e; cases e; exact q _ hd
  obtain ⟨⟨t, ⟨oc, hoc, c1, c2, c3⟩⟩, nn, vs', ⟨ol, hol, l1, l2, l3⟩, r⟩ := id I.cup
  have ff : ∀ (l : List Env), h.FunFrames F.C.base l → h'.FunFrames F.C.base l := by
    intro l
    induction l with
    | nil => intro _; trivial
    | cons e l ih =>
      intro ⟨hk, ⟨L, o, hf, hnn, hoo, hd⟩, hr⟩
      exact ⟨hk, ⟨L, o, hf, hnn, k L o (nf hoo hd) hoo, hd⟩, ih hr⟩
  exact {
    stays := fun b o e => k b o (fun z => by rw [z] at e; rw [O.h0b _ _ e] at hn; cases hn) (I.stays b o e)
    ff := ff _ I.ff
    sub := I.sub
    subY := I.subY
    old := fun b o e nw => by
      have hb : b ≠ y := fun z => by rw [z, hn] at e; cases e
      obtain ⟨⟨sl, e1⟩, e2⟩ := I.old b o e nw
      exact ⟨⟨sl, k b _ hb e1⟩, fun nx => k b _ hb (e2 nx)⟩
    new := I.new
    live := fun z hz => by
      by_cases q : z = y
      · exact q ▸ hl
      · obtain ⟨o, ho⟩ := I.live z hz; exact ⟨o, k z o q ho⟩
    lst := I.lst
    cup := ⟨⟨t, oc, k _ _ (nf hoc fun vs q => by rw [c3] at q; cases q) hoc, c1, c2, c3⟩, nn, vs', ⟨ol, k _ _ (nf hol fun vs q => by rw [l3] at q; cases q) hol, l1, l2, l3⟩, intsAt _ _ r⟩
    ns := let ⟨m, o, es, ep, ho, hd', r⟩ := I.ns; ⟨m, o, es, ep, k _ o (nf ho fun vs q => by rw [hd'] at q; cases q) ho, hd', r⟩
    cells := fun nm c e => let ⟨v, o, ho, hd'⟩ := I.cells nm c e; ⟨v, o, k _ o (nf ho fun vs q => by rw [hd'] at q; cases q) ho, hd'⟩
    vars := fun i nm a e => by cases e }

theorem slotsKept (O : FOk F n) {W : List Addr} {l : List Env} (hx : ∀ e ∈ l, ∀ L, e.frame = some L → L ∈ F.X0) (x : Heap.SlotsOnly (l.filterMap (·.frame)) h h') : Kept F.X0 W h h' := fun b o e _ =>
  ⟨x.2.2 b o e, fun nb => (x.2.1 b fun q => by
    obtain ⟨env, h1, h2⟩ := List.mem_filterMap.mp q
    exact nb (hx env h1 b h2)).trans e⟩

theorem entryOk (O : FOk F n) (S : FS F) {s : Shared} (I : Iv F X [] d s.heap) {e : Addr} {oe : Obj} {vs : Array Value} {D : Addr} {m : Str → Option Value} {t : Tok} {l : Int} (hen : F.h0.get? e = none) (he : s.heap.get? e = some oe) (hc : oe.cls = .ref F.C.die)
    (hd : oe.data = .fields vs) (hdi : oe.dict = some D) (hDn : F.h0.get? D = none ∧ D ∉ F.X0) (hns : s.heap.Ns D m) (hm : m "line" = some (.int l t)) (hsz : 1 < vs.size) {head : Value} {hadNext : Bool} {Q : Unit → Shared → Prop} {Ec : Value → Shared → Prop}
    (B : ∀ h' tk, Iv F X [] d h' → FlyN F.C F.X0 F.h0 F.env.locals h' e l → Q () { s with heap := h', toks := tk }) :
    wpAny (model F.C.prog F.C.w) F.A (do let a ← frameOf F.env; let pl ← entryPlaceOf F.env.locals hadNext; let b ← EntryCells.newEntry head a .none (rawInt F.env.locals) .none pl; setField (.ref e) 1 b) Q Ec s := by
  rw [S.env]
  refine wpAny_bind (wpAny_frameOf_fun (base := F.C.base) O.frames I.ff (S.env ▸ S.frame) fun h₁ hs₁ => ?_)
  have k1 : Kept F.X0 [F.C.cup] s.heap h₁ := slotsKept O O.frameX hs₁
  have I1 : Iv F X [] d h₁ := I.kept O k1 (by
    have hb : ∀ b o, b ∉ F.X0 → s.heap.get? b = some o → h₁.get? b = some o := fun b o nb e => (slotsKept (W := []) O O.frameX hs₁ b o e (by simp)).2 nb
    obtain ⟨⟨t, c⟩, nn, vs', ll, r⟩ := I.cup
    obtain ⟨oc, hoc, rc⟩ := c
    obtain ⟨sl, hsl⟩ := hs₁.2.2 _ _ hoc
    exact ⟨⟨t, ⟨_, hsl, rc⟩⟩, nn, vs', ll.at fun o e => hb _ o O.lstX e, intsAt _ _ r⟩)
  refine wpAny_bind (wpAny_entryPlaceOf fun pl hpl => ?_)
  unfold EntryCells.newEntry newFields
  refine wpAny_bind (wpAny_newObj_type ?_ (hpl.sizeOk5 _ _ _ _ _))
  obtain ⟨sl, he₁⟩ := hs₁.2.2 e _ he
  generalize hT : ({ cls := .type "traceback", dict := none, data := .fields ([head, .ref F.fenv.locals, .none, rawInt F.fenv.locals, .none] ++ (if pl.isEmpty then List.replicate 6 Value.none else pl)).toArray } : Obj) = oT
  have hTd : ∃ ts, oT.data = .fields ts ∧ ts[3]? = some (rawInt F.fenv.locals) := by
    subst hT
    exact ⟨_, rfl, by simp⟩
  have hTf : oT.isFreed = false := by subst hT; rfl
  have I2 : Iv F X [] d (h₁.push oT) := I1.kept O (Kept.push _) (I1.cup.push _)
  have he₂ := Heap.get?_push_of_some (h := h₁) oT he₁
  refine wpAny_setField he₂ hd hsz ?_
  have hTe : h₁.objs.size ≠ e := Nat.ne_of_gt (Heap.lt_size he₁)
  have hd₃ := Obj.data_mapFields (o := { oe with slots := sl }) hd (·.setIfInBounds 1 (Value.ref h₁.objs.size))
  have he₃ := Heap.get?_update_self (Obj.mapFields (·.setIfInBounds 1 (Value.ref h₁.objs.size))) he₂ (Obj.isFreed_of_fields hd₃)
  have other : ∀ b o, b ≠ e → (h₁.push oT).get? b = some o → ((h₁.push oT).update e (Obj.mapFields (·.setIfInBounds 1 (Value.ref h₁.objs.size)))).get? b = some o := fun b o hb e => by
    rw [Heap.get?_update_other _ _ (Ne.symm hb)]; exact e
  have I3 := I2.fld O he₂ hd hen other ⟨_, he₃⟩
  have hTn : F.h0.get? h₁.objs.size = none := by
    cases q : F.h0.get? h₁.objs.size with
    | none => rfl
    | some o =>
      by_cases hcup : h₁.objs.size = F.C.cup
      · obtain ⟨⟨_, oc, hoc, _⟩, _⟩ := I1.cup
        rw [← hcup] at hoc
        exact absurd (Heap.lt_size hoc) (Nat.lt_irrefl _)
      · obtain ⟨⟨sl, e1⟩, _⟩ := I1.old _ _ q (by simpa using hcup)
        exact absurd (Heap.lt_size e1) (Nat.lt_irrefl _)
  obtain ⟨oD, es, ep, hoD, hdD, rD⟩ := hns
  obtain ⟨slD, hD1⟩ := hs₁.2.2 D _ hoD
  have hDe : D ≠ e := fun q => by rw [q, he] at hoD; cases hoD; rw [hd] at hdD; cases hdD
  obtain ⟨ts, ht1, ht2⟩ := hTd
  refine B _ _ I3 ⟨hen, _, _, D, m, t, he₃, ?_, hd₃, ?_, hDn, ⟨_, es, ep, other D _ hDe (Heap.get?_push_of_some _ hD1), hdD, rD⟩, hm, h₁.objs.size, oT, ts, by simp [hsz], hTn, hTe, other _ _ hTe (Heap.get?_push_size _ hTf), ht1, by rw [S.env]; exact ht2⟩
  · rw [Obj.cls_mapFields]; exact hc
  · have : ∀ (o : Obj) f, (Obj.mapFields f o).dict = o.dict := fun o f => by obtain ⟨c, dd, dt, sl⟩ := o; cases dt <;> rfl
    rw [this]; exact hdi

theorem dictMap (o : Obj) (f : Array Value → Array Value) : (Obj.mapFields f o).dict = o.dict := by obtain ⟨c, dd, dt, sl⟩ := o; cases dt <;> rfl

/-- the frame is noted on what is in flight -/
theorem noteOk (O : FOk F n) (S : FS F) {s : Shared} (I : Iv F X [] d s.heap) {e : Addr} {l : Int} (f : Fly F.C F.X0 F.h0 F.fenv.frame s.heap e l) {Q : Unit → Shared → Prop} {Ec : Value → Shared → Prop}
    (B : ∀ h' tk, Iv F X [] d h' → FlyN F.C F.X0 F.h0 F.env.locals h' e l → Q () { s with heap := h', toks := tk }) : wpAny (model F.C.prog F.C.w) F.A (noteFrame (.ref e) F.env) Q Ec s := by
  obtain ⟨hen, oe, vs, D, m, t, he, hc, hd, hdi, hDn, hns, hm, tr⟩ := f
  unfold noteFrame
  simp only [S.frame]
  rcases tr with h1 | ⟨T, oT, ts, h1, hTn, hTe, hT, hTd, h3⟩
  · refine wpAny_bind (wpAny_field he hd h1 ?_)
    rw [if_neg (by decide)]
    exact entryOk O S I hen he hc hd hdi hDn hns hm (Array.getElem?_eq_some_iff.mp h1).1 B
  · refine wpAny_bind (wpAny_field he hd h1 ?_)
    rw [if_pos (show (Value.ref T != Value.none) = true from by simp)]
    rcases h3 with h3 | ⟨L, hL, h3⟩
    · refine wpAny_bind (wpAny_field hT hTd h3 ?_)
      rw [if_neg (show ¬ ((Value.none == rawInt F.env.locals) = true) from by simp [rawInt])]
      have hsz : 3 < ts.size := (Array.getElem?_eq_some_iff.mp h3).1
      refine wpAny_bind (wpAny_setField hT hTd hsz ?_)
      have hd₃ := Obj.data_mapFields (o := oT) hTd (·.setIfInBounds 3 Value.none)
      have hT' := Heap.get?_update_self (Obj.mapFields (·.setIfInBounds 3 Value.none)) hT (Obj.isFreed_of_fields hd₃)
      have other : ∀ b o, b ≠ T → s.heap.get? b = some o → (s.heap.update T (Obj.mapFields (·.setIfInBounds 3 Value.none))).get? b = some o := fun b o hb e => by
        rw [Heap.get?_update_other _ _ (Ne.symm hb)]; exact e
      have I2 : Iv F X [] d (s.heap.update T (Obj.mapFields (·.setIfInBounds 3 Value.none))) := I.fld O hT hTd hTn other ⟨_, hT'⟩
      have hDT : D ≠ T := fun q => by
        obtain ⟨oD, es, ep, hoD, hdD, _⟩ := hns
        rw [q, hT] at hoD; cases hoD; rw [hTd] at hdD; cases hdD
      exact entryOk (s := { s with heap := s.heap.update T (Obj.mapFields (·.setIfInBounds 3 Value.none)) }) O S I2 hen (other _ _ (Ne.symm hTe) he) hc hd hdi hDn (hns.at' fun o e => other _ o hDT e) hm (Array.getElem?_eq_some_iff.mp h1).1 B
    · have hLL : L = F.env.locals := by
        rw [S.env] at *
        have := S.frame
        rw [S.env, hL] at this
        exact Option.some.inj this
      subst hLL
      refine wpAny_bind (wpAny_field hT hTd h3 ?_)
      rw [if_pos (by simp)]
      exact wpAny_pure (B s.heap s.toks I ⟨hen, oe, vs, D, m, t, he, hc, hd, hdi, hDn, hns, hm, T, oT, ts, h1, hTn, hTe, hT, hTd, h3⟩)

/-- a trace's head is set at rest, or in the frame -/
theorem flightOk (O : FOk F n) {s : Shared} (I : Iv F X [] d s.heap) {e : Addr} {l : Int} {L : Addr} (f : FlyN F.C F.X0 F.h0 L s.heap e l) {fr fr' : Option Addr} (hfr : fr = none ∨ fr = fr') {Q : Unit → Shared → Prop} {Ec : Value → Shared → Prop}
    (B : ∀ h' tk, Iv F X [] d h' → Fly F.C F.X0 F.h0 fr' h' e l → Q () { s with heap := h', toks := tk }) : wpAny (model F.C.prog F.C.w) F.A (setFlight (.ref e) fr) Q Ec s := by
  obtain ⟨hen, oe, vs, D, m, t, he, hc, hd, hdi, hDn, hns, hm, T, oT, ts, h1, hTn, hTe, hT, hTd, h3⟩ := f
  unfold setFlight
  refine wpAny_bind (wpAny_field he hd h1 ?_)
  rw [if_pos (show (Value.ref T != Value.none) = true from by simp)]
  have hsz : 3 < ts.size := (Array.getElem?_eq_some_iff.mp h3).1
  generalize hx : (fr.elim Value.none fun f => rawInt f) = x
  refine wpAny_setField hT hTd hsz ?_
  have hd₃ := Obj.data_mapFields (o := oT) hTd (·.setIfInBounds 3 x)
  have hT' := Heap.get?_update_self (Obj.mapFields (·.setIfInBounds 3 x)) hT (Obj.isFreed_of_fields hd₃)
  have other : ∀ b o, b ≠ T → s.heap.get? b = some o → (s.heap.update T (Obj.mapFields (·.setIfInBounds 3 x))).get? b = some o := fun b o hb e => by
    rw [Heap.get?_update_other _ _ (Ne.symm hb)]; exact e
  have I2 : Iv F X [] d (s.heap.update T (Obj.mapFields (·.setIfInBounds 3 x))) := I.fld O hT hTd hTn other ⟨_, hT'⟩
  have hDT : D ≠ T := fun q => by
    obtain ⟨oD, es, ep, hoD, hdD, _⟩ := hns
    rw [q, hT] at hoD; cases hoD; rw [hTd] at hdD; cases hdD
  refine B _ s.toks I2 ⟨hen, oe, vs, D, m, t, other _ _ (Ne.symm hTe) he, hc, hd, hdi, hDn, hns.at' fun o e => other _ o hDT e, hm, .inr ⟨T, _, _, h1, hTn, hTe, hT', hd₃, ?_⟩⟩
  rcases hfr with rfl | rfl
  · subst hx; exact .inl (by simp [hsz])
  · cases fr with
    | none => subst hx; exact .inl (by simp [hsz])
    | some L' => subst hx; exact .inr ⟨L', rfl, by simp [hsz]⟩

noncomputable abbrev ErrOk (F : Fx) (d : Int) (l : Int) (s : Shared) (Ec : Value → Shared → Prop) : Prop := ∀ X e h' tk, Iv F X [] d h' → Fly F.C F.X0 F.h0 F.fenv.frame h' e l → Ec (.ref e) { s with heap := h', toks := tk }

theorem notedOk (O : FOk F n) (S : FS F) {s : Shared} {l : Int} {Ec : Value → Shared → Prop} (P : ErrOk F d l s Ec) : ErrOk F d l s (notedBy (model F.C.prog F.C.w) F.A F.env (cameBackBy (model F.C.prog F.C.w) F.A F.env Ec)) := fun X e h' tk I f => by
  unfold notedBy
  refine noteOk (s := { s with heap := h', toks := tk }) O S I f fun h2 tk2 I2 f2 => ?_
  unfold cameBackBy
  have f2' := f2
  obtain ⟨hen, oe, vs, D, m, t, he, hc, hd, hdi, hDn, hns, hm, T, oT, ts, h1, _⟩ := f2'
  refine wpAny_bind (wpAny_field (s := { s with heap := h2, toks := tk2 }) he hd h1 ?_)
  rw [if_neg (by simp)]
  refine flightOk (s := { s with heap := h2, toks := tk2 }) O I2 f2 (fr' := F.fenv.frame) (.inr (by rw [S.env])) fun h3 tk3 I3 f3 => P X e h3 tk3 I3 f3

theorem leaveOk (O : FOk F n) (S : FS F) {s : Shared} {l : Int} {Q : Unit → Shared → Prop} {Ec : Value → Shared → Prop} {e : Addr} (I : Iv F X [] d s.heap) (f : Fly F.C F.X0 F.h0 F.fenv.frame s.heap e l) (fr : Option Addr)
    (B : ∀ h' tk, Iv F X [] d h' → Fly F.C F.X0 F.h0 fr h' e l → Q () { s with heap := h', toks := tk }) : wpAny (model F.C.prog F.C.w) F.A (leaving F.env (.ref e)) Q Ec s := by
  unfold leaving
  refine wpAny_bind (noteOk O S I f fun h2 tk2 I2 f2 => ?_)
  exact flightOk (s := { s with heap := h2, toks := tk2 }) O I2 f2 (fr' := fr) (.inl rfl) B
end
end Mine
namespace Mine
open PySem PySem.W PyProof.Rows PySem.Calls

section
variable {F : Fx} {n : Nat} {fs : List String} {ρ : List AV} {X : List Addr} {d : Int} {h h' : Heap}

theorem noOwn_get : ∀ {ρ : List AV} {i : Nat} {l : List AV}, noOwn ρ = true → ρ[i]? = some (.own l) → False
  | [], _, _, _, e => by cases e
  | a :: ρ, 0, l, h, e => by
    simp only [List.getElem?_cons_zero, Option.some.injEq] at e
    subst e; simp [noOwn] at h
  | a :: ρ, i + 1, l, h, e => by
    have h' : noOwn ρ = true := by cases a <;> first | exact h | (simp [noOwn] at h)
    exact noOwn_get h' (by simpa using e)

theorem noOwn_set {x i : Nat} {l : List AV} (h : noOwn (ρ.set x .none) = true) (hi : i ≠ x) (e : ρ[i]? = some (.own l)) : False :=
  noOwn_get (i := i) (l := l) h (by rw [List.getElem?_set_ne (Ne.symm hi)]; exact e)

theorem setUnb {x i : Nat} {a : AV} (e : (ρ.set x .unb)[i]? = some a) : a = .unb ∨ (i ≠ x ∧ ρ[i]? = some a) := by
  by_cases q : i = x
  · subst q
    by_cases hl : i < ρ.length
    · rw [List.getElem?_set_self hl] at e; cases e; exact .inl rfl
    · rw [List.getElem?_eq_none (by rw [List.length_set]; omega)] at e; cases e
  · rw [List.getElem?_set_ne (Ne.symm q)] at e
    exact .inr ⟨q, e⟩

theorem notOwn_rep {C : Cx} {m : Str} {a : AV} (h1 : ∀ l, a ≠ .own l) (V : VarOk F X h m a) : a = .unb ∨ ∃ v, VarAt F.env h m v ∧ Rep F.C X h a v := by
  cases a <;> first | exact .inl rfl | exact absurd rfl (h1 _) | exact .inr V

/-- the frame's own list is changed -/
theorem Iv.pokeOwn (O : FOk F n) (I : Iv F X ρ d h) {D : Addr} {x : Nat} (hD : D ∈ X) (h1 : D ∉ F.X0 ∧ D ∉ F.Y0 ∧ F.h0.get? D = none) (hno : noOwn (ρ.set x .none) = true) (k : ∀ b o, b ≠ D → h.get? b = some o → h'.get? b = some o)
    (hl : ∃ o, h'.get? D = some o) : Iv F X (ρ.set x .unb) d h' := by
  have n0 : ∀ {b}, b ∈ F.X0 → b ≠ D := fun hb z => h1.1 (z ▸ hb)
  have ff : ∀ (l : List Env), (∀ e ∈ l, ∀ L, e.frame = some L → L ∈ F.X0) → h.FunFrames F.C.base l → h'.FunFrames F.C.base l := by
    intro l
    induction l with
    | nil => intro _ _; trivial
    | cons e l ih =>
      intro hx ⟨hk, ⟨L, o, hf, hn, ho, hd⟩, hr⟩
      exact ⟨hk, ⟨L, o, hf, hn, k L o (n0 (hx e (.head _) L hf)) ho, hd⟩, ih (fun e he => hx e (.tail _ he)) hr⟩
  have va : ∀ {m : Str} {v : Value}, VarAt F.env h m v → VarAt F.env h' m v := fun {m v} x => by
    rcases x with ⟨a, mm, ⟨o, es, ep, ho, r⟩, c⟩ | ⟨a, c, b, ⟨o, ho, r⟩⟩
    · exact .inl ⟨a, mm, ⟨o, es, ep, k _ o (n0 O.locX) ho, r⟩, c⟩
    · exact .inr ⟨a, c, b, ⟨o, k _ o (n0 (O.cellX _ _ b)) ho, r⟩⟩
  exact {
    stays := fun b o e => k b o (fun z => by rw [z, I.new D hD] at e; cases e) (I.stays b o e)
    ff := ff _ O.frameX I.ff
    sub := I.sub
    subY := I.subY
    old := fun b o e nw => by
      have hb : b ≠ D := fun z => by rw [z, h1.2.2] at e; cases e
      obtain ⟨⟨sl, e1⟩, e2⟩ := I.old b o e nw
      exact ⟨⟨sl, k b _ hb e1⟩, fun nx => k b _ hb (e2 nx)⟩
    new := I.new
    live := fun z hz => by
      by_cases q : z = D
      · exact q ▸ hl
      · obtain ⟨o, ho⟩ := I.live z hz; exact ⟨o, k z o q ho⟩
    lst := I.lst
    cup := I.cup.but (n0 O.cupX) (fun z => I.lst (z ▸ hD)) k
    ns := let ⟨m, o, es, ep, ho, r⟩ := I.ns; ⟨m, o, es, ep, k _ o (n0 O.locX) ho, r⟩
    cells := fun nm c e => let ⟨v, o, ho, r⟩ := I.cells nm c e; ⟨v, o, k _ o (n0 (O.cellX _ _ e)) ho, r⟩
    vars := fun i nm a e e' => by
      rcases setUnb e with rfl | ⟨q, e⟩
      · trivial
      · rcases notOwn_rep (C := F.C) (fun l z => noOwn_set hno q (z ▸ e)) (I.vars i nm a e e') with rfl | ⟨v, hv, hr⟩
        · trivial
        · exact VarOk.of (va hv) (Rep.move (fun b o e nb => ⟨nb, k b o (fun z => nb (z ▸ hD)) e⟩) _ hr) }

/-- the frame's own list is let out -/
theorem Iv.let (I : Iv F X ρ d h) {D : Addr} {x : Nat} (h1 : D ∉ F.X0 ∧ D ∉ F.Y0) (hno : noOwn (ρ.set x .none) = true) : Iv F (X.filter (· ≠ D)) (ρ.set x .unb) d h := by
  have hs : ∀ b ∈ X.filter (· ≠ D), b ∈ X := fun b hb => (List.mem_filter.mp hb).1
  have hp : ∀ {b}, b ∈ X → b ≠ D → b ∈ X.filter (· ≠ D) := fun h1 h2 => List.mem_filter.mpr ⟨h1, by simpa using h2⟩
  exact {
    stays := I.stays
    ff := I.ff
    sub := fun z hz => hp (I.sub z hz) fun q => h1.1 (q ▸ hz)
    subY := fun z hz => hp (I.subY z hz) fun q => h1.2 (q ▸ hz)
    old := I.old
    new := fun z hz => I.new z (hs z hz)
    live := fun z hz => I.live z (hs z hz)
    lst := fun q => I.lst (hs _ q)
    cup := I.cup
    ns := I.ns
    cells := I.cells
    vars := fun i nm a e e' => by
      rcases setUnb e with rfl | ⟨q, e⟩
      · trivial
      · rcases notOwn_rep (C := F.C) (fun l z => noOwn_set hno q (z ▸ e)) (I.vars i nm a e e') with rfl | ⟨v, hv, hr⟩
        · trivial
        · exact VarOk.of hv (Rep.less hs hr) }

/-- the cup's count is stored -/
theorem Iv.cupSet (O : FOk F n) (I : Iv F X ρ d h) {d' : Int} {t : Tok} (k : ∀ b o, b ≠ F.C.cup → h.get? b = some o → h'.get? b = some o) (hc : h'.IsList F.C.cup #[.ref F.C.lst, .int d' t]) : Iv F X ρ d' h' := by
  have hX := I.sub _ O.cupX
  have va : ∀ {m : Str} {v : Value}, VarAt F.env h m v → VarAt F.env h' m v := fun {m v} x => by
    rcases x with ⟨a, mm, ⟨o, es, ep, ho, r⟩, c⟩ | ⟨a, c, b, ⟨o, ho, r⟩⟩
    · exact .inl ⟨a, mm, ⟨o, es, ep, k _ o O.locC ho, r⟩, c⟩
    · exact .inr ⟨a, c, b, ⟨o, k _ o (O.cellC _ _ b) ho, r⟩⟩
  have vo : ∀ {m : Str} {a : AV}, VarOk F X h m a → VarOk F X h' m a := fun {m a} x => by
    have mv : ∀ {l : List AV} {vs : List Value}, RepL F.C X h l vs → RepL F.C X h' l vs := fun r => RepL.move (fun b o e q => ⟨q, k b o (fun z => q (z ▸ hX)) e⟩) _ r
    have mv1 : ∀ {a : AV} {v : Value}, Rep F.C X h a v → Rep F.C X h' a v := fun r => Rep.move (fun b o e q => ⟨q, k b o (fun z => q (z ▸ hX)) e⟩) _ r
    cases a <;> first
      | trivial
      | (obtain ⟨dd, vs, q1, q2, q3, ⟨o, ho⟩, q5⟩ := x
         exact ⟨dd, vs, va q1, q2, q3, ⟨o, k _ _ (fun z => q3.1 (z ▸ O.cupX)) ho⟩, mv q5⟩)
      | (obtain ⟨v, q1, q2⟩ := x
         exact ⟨v, va q1, mv1 q2⟩)
  obtain ⟨oc, hoc, c1, c2, c3⟩ := id hc
  obtain ⟨_, nn, vs, ⟨ol, hol, rl⟩, r⟩ := id I.cup
  have ff : ∀ (l : List Env), h.FunFrames F.C.base l → h'.FunFrames F.C.base l := by
    intro l
    induction l with
    | nil => intro _; trivial
    | cons e l ih =>
      intro ⟨hk, ⟨L, o, hf, hn, ho, hd⟩, hr⟩
      refine ⟨hk, ?_, ih hr⟩
      by_cases q : L = F.C.cup
      · exact ⟨L, oc, hf, hn, q ▸ hoc, fun vs q => by rw [c3] at q; cases q⟩
      · exact ⟨L, o, hf, hn, k L o q ho, hd⟩
  exact {
    stays := fun b o e => k b o (fun z => by rw [z, I.new _ hX] at e; cases e) (I.stays b o e)
    ff := ff _ I.ff
    sub := I.sub
    subY := I.subY
    old := fun b o e nw => by
      have hb : b ≠ F.C.cup := by simpa using nw
      obtain ⟨⟨sl, e1⟩, e2⟩ := I.old b o e nw
      exact ⟨⟨sl, k b _ hb e1⟩, fun nx => k b _ hb (e2 nx)⟩
    new := I.new
    live := fun z hz => by
      by_cases q : z = F.C.cup
      · exact ⟨oc, q ▸ hoc⟩
      · obtain ⟨o, ho⟩ := I.live z hz; exact ⟨o, k z o q ho⟩
    lst := I.lst
    cup := ⟨⟨t, hc⟩, nn, vs, ⟨ol, k _ ol nn hol, rl⟩, intsAt _ _ r⟩
    ns := let ⟨m, o, es, ep, ho, r⟩ := I.ns; ⟨m, o, es, ep, k _ o O.locC ho, r⟩
    cells := fun nm c e => let ⟨v, o, ho, r⟩ := I.cells nm c e; ⟨v, o, k _ o (O.cellC _ _ e) ho, r⟩
    vars := fun i nm a e e' => vo (I.vars i nm a e e') }

theorem loadOk {s : Shared} {m : String} {v : Value} {Q : Value → Shared → Prop} {Ec : Value → Shared → Prop} (O : FOk F n) (hm : m ∈ F.nm) (hv : VarAt F.env s.heap (Str.ofString m) v) (B : Q v s) :
    wpAny (model F.C.prog F.C.w) F.A (loadName F.env (Str.ofString m)) Q Ec s := by
  rcases hv with ⟨hk, m, hns, hmv⟩ | ⟨hk | hk, cc, hc, hcell⟩
  · exact wpAny_loadName_local O.kind hk hns hmv B
  · exact wpAny_loadName_cell O.kind hk hc hcell B
  · exact wpAny_loadName_free O.kind hk hc hcell B (O.plain _ hm).2

theorem nmAt_of {nm : List String} {x : Nat} {m : String} (h : nm[x]? = some m) : nmAt nm x = Str.ofString m := by simp [nmAt, h]

theorem nameOk {s : Shared} {x : Nat} {m : String} {q : Pos} {v : Value} {Q : Value → Shared → Prop} {Ec : Value → Shared → Prop} (O : FOk F n) (hm : F.nm[x]? = some m) (hv : VarAt F.env s.heap (Str.ofString m) v) (B : Q v s) :
    wpAny (model F.C.prog F.C.w) F.A (eval (.Name (nmAt F.nm x) q) F.env) Q Ec s := by
  rw [nmAt_of hm]
  have hmem : m ∈ F.nm := by obtain ⟨p, e⟩ := List.getElem?_eq_some_iff.mp hm; rw [← e]; exact List.getElem_mem p
  exact wpAny_Name (loadOk O hmem hv B) (O.plain _ hmem).1

/-- what the frame stands on stays -/
noncomputable def KY (F : Fx) (h h' : Heap) : Prop := ∀ b ∈ F.Y0, ∀ o, h.get? b = some o → h'.get? b = some o
theorem KY.refl (F : Fx) (h : Heap) : KY F h h := fun _ _ _ e => e
theorem KY.trans {h h' h'' : Heap} (x : KY F h h') (y : KY F h' h'') : KY F h h'' := fun b hb o e => y b hb o (x b hb o e)
theorem kyK (O : FOk F n) {h h' : Heap} (k : Kept F.X0 [F.C.cup] h h') : KY F h h' := fun b hb o e => (k b o e fun q => O.yx b hb (by rw [List.mem_singleton.mp q]; exact O.cupX)).2 (O.yx b hb)
theorem kyX (O : FOk F n) {h h' : Heap} {y : Addr} (hy : y ∈ F.X0) (k : ∀ b o, b ≠ y → h.get? b = some o → h'.get? b = some o) : KY F h h' := fun b hb o e => k b o (fun q => O.yx b hb (q ▸ hy)) e
theorem kyN {h h' : Heap} {y : Addr} (hy : y ∉ F.Y0) (k : ∀ b o, b ≠ y → h.get? b = some o → h'.get? b = some o) : KY F h h' := fun b hb o e => k b o (fun q => hy (q ▸ hb)) e

noncomputable def PostS (F : Fx) (s : Shared) (Q : Flow → Shared → Prop) (Ec : Value → Shared → Prop) : Except Int (Fl × List AV) → Int → Prop
  | .ok (.next, ρ'), d' => ∀ X h' tk, Iv F X ρ' d' h' → KY F s.heap h' → Q .next { s with heap := h', toks := tk }
  | .ok (.cont, ρ'), d' => ∀ X h' tk, Iv F X ρ' d' h' → KY F s.heap h' → Q .cont { s with heap := h', toks := tk }
  | .ok (.ret a, _), d' => ∀ X v h' tk, Iv F X [] d' h' → Rep F.C X h' a v → Q (.ret v) { s with heap := h', toks := tk }
  | .error l, d' => ErrOk F d' l s Ec

noncomputable def SSim (F : Fx) (s : Shared) (d : Int) (t : Sem Flow) (m : M (Fl × List AV)) : Prop :=
  ∀ r d' Q Ec, m d = some (r, d') → PostS F s Q Ec r d' → wpAny (model F.C.prog F.C.w) F.A t Q Ec s

/-- what comes of an abstract step, in a post that knows its errors alone -/
noncomputable def PostE (F : Fx) (s : Shared) (Ec : Value → Shared → Prop) {α : Type} : Except Int α → Int → Prop
  | .ok _, _ => True
  | .error l, d' => ErrOk F d' l s Ec
theorem PostS.e {s : Shared} {Q : Flow → Shared → Prop} {Ec : Value → Shared → Prop} {r : Except Int (Fl × List AV)} {d' : Int} (P : PostS F s Q Ec r d') : PostE F s Ec r d' := by
  cases r with
  | ok _ => trivial
  | error _ => exact P

theorem Iv.nil (I : Iv F X ρ d h) : Iv F X [] d h := I.less fun _ _ e => by cases e

theorem Sim.stepS {α β γ : Type} (O : FOk F n) {s : Shared} {t : Sem β} {m : M α} {R : Heap → β → α → Prop} (S : Sim F s d t m R) (I : Iv F X ρ d s.heap) {f : α → M γ} {r : Except Int γ} {d' : Int} {Ec : Value → Shared → Prop}
    (e : M.bind m f d = some (r, d')) (P : PostE F s Ec r d') {K : β → Shared → Prop}
    (h : ∀ a v h' tk d₁, Kept F.X0 [F.C.cup] s.heap h' → Iv F X ρ d₁ h' → R h' v a → f a d₁ = some (r, d') → K v { s with heap := h', toks := tk }) : wpAny (model F.C.prog F.C.w) F.A t K Ec s := by
  rcases M.bind_eq_some e with ⟨l, d₁, e1, e2⟩ | ⟨a, d₁, e1, e2⟩
  · cases e2
    exact S _ _ K Ec e1 fun e h' tk k c f => P X e h' tk (I.kept O k c).nil f
  · exact S _ _ K Ec e1 fun v h' tk k c x => h a v h' tk d₁ k (I.kept O k c) x e2
end
end Mine
namespace Mine
open PySem PySem.W PyProof.Rows PySem.Calls

set_option tactic.hygienic true
theorem execs_app (env : Env) : ∀ (l1 l2 : List Stmt), execs (l1 ++ l2) env = execs l1 env >>= fun f => match f with | .next => execs l2 env | f => pure f
  | [], l2 => by
    show execs l2 env = (pure Flow.next >>= fun f => match f with | .next => execs l2 env | f => pure f)
    rw [LawfulMonad.pure_bind]
  | st :: l1, l2 => by
    show execs (st :: (l1 ++ l2)) env = _
    rw [execs_cons, execs_cons, LawfulMonad.bind_assoc]
    congr 1
    funext f
    cases f <;> first | exact execs_app env l1 l2 | (rw [LawfulMonad.pure_bind])

section
variable {M : Model} {A : Around} {E : Value → Shared → Prop} {s : Shared} {env : Env} {Q : Flow → Shared → Prop}
set_option tactic.hygienic false
theorem execsOne {st : Stmt} (h : wpAny M A (exec st env) Q E s) : wpAny M A (execs [st] env) Q E s :=
  wpAny_execs_cons (wpAny_mono h (fun f s' h' => by cases f <;> first | exact wpAny_execs_nil h' | exact h') fun _ _ x => x)
set_option tactic.hygienic true
theorem execsApp {l1 l2 : List Stmt} (h : wpAny M A (execs l1 env) (fun f s' => match f with | .next => wpAny M A (execs l2 env) Q E s' | f => Q f s') E s) : wpAny M A (execs (l1 ++ l2) env) Q E s := by
  rw [execs_app]
  exact wpAny_bind (wpAny_mono h (fun f s' h' => by cases f <;> first | exact h' | exact wpAny_pure h') fun _ _ x => x)
end

noncomputable def isComp : E → Bool
  | .comp .. => true
  | _ => false
noncomputable def isCall : E → Bool
  | .call .. => true
  | _ => false
noncomputable def mayB (sc : Scope) (m : String) : Bool := decide (sc.names.lookup (Str.ofString m) = some .local) || decide (sc.names.lookup (Str.ofString m) = some .cell)

section
variable {F : Fx} {n : Nat} {fs : List String} {ρ : List AV} {X : List Addr} {d : Int} {h h' : Heap} {s : Shared}

set_option tactic.hygienic false
theorem may_of (O : FOk F n) (S : FS F) {m : String} (h : mayB F.env.scope m = true) : MayStore F m := by
  simp only [mayB, Bool.or_eq_true, decide_eq_true_eq] at h
  rcases h with h | h
  · exact .inl h
  · obtain ⟨c, hc⟩ := O.cellD _ (.inl h)
    exact .inr ⟨h, c, hc, S.cellN _ _ hc⟩

theorem swapsOk (O : FOk F n) {e : E} {m : String} {q : Pos} {line : Nat} (h : isComp e = false ∨ F.env.scope.names.lookup (Str.ofString m) = some .cell) :
    swapsWith (tx F.nm e).x (some (.Name (Str.ofString m) q)) line F.env = pure false ∨ isRaw e = true := by
  cases e <;> first
    | exact .inl rfl
    | exact .inr rfl
    | (rcases h with h | h
       · cases h
       · left
         have hk : F.env.kindOf (Str.ofString m) = some .cell := h
         show (pure _ : Sem Bool) = pure false
         rw [hk]
         simp [show (NameKind.cell == NameKind.local) = false from rfl])

/-- x = e -/
theorem sAsg {x : Nat} {m : String} {q p : Pos} {e : E} (O : FOk F n) (S : FS F) (hm : F.nm[x]? = some m) (hk : mayB F.env.scope m = true) (hc : isComp e = false ∨ F.env.scope.names.lookup (Str.ofString m) = some .cell) (hr : isRaw e = false)
    (he : ExOk F ρ e) (I : Iv F X ρ d s.heap) : SSim F s d (exec (.Assign [.Name (nmAt F.nm x) q] (tx F.nm e).x p) F.env) (ds F.C.g (.asg x q e p) ρ) := by
  intro r d' Q Ec hm' P
  rw [nmAt_of hm]
  refine wpAny_Assign_Name ((he X d s I).stepS O I hm' P.e fun a v h1 tk1 d1 kk1 I1 r1 e1 => ?_) ((swapsOk O hc).resolve_right (by rw [hr]; exact Bool.false_ne_true))
  cases e1
  refine storeOk (s := ⟨h1, s.gens, s.drawn, tk1, s.os⟩) O I1 hm (may_of O S hk) fun y h2 tk2 hy k2 I2 va => ?_
  exact P X h2 tk2 (I2.put hm (VarOk.of va (Rep.move (fun b o e nb => ⟨nb, k2 b o (fun z => nb (z ▸ I1.sub y hy)) e⟩) _ r1))) ((kyK O kk1).trans (kyX O hy k2))

set_option tactic.hygienic true
/-- x = [..], the frame's own -/
theorem sAsgO {x : Nat} {m : String} {q r0 p : Pos} {es : E} (O : FOk F n) (S : FS F) (hm : F.nm[x]? = some m) (hk : mayB F.env.scope m = true)
    (he : LsOk F ρ es) (I : Iv F X ρ d s.heap) : SSim F s d (exec (.Assign [.Name (nmAt F.nm x) q] (.List (tx F.nm es).l r0) p) F.env) (ds F.C.g (.asgO x q es r0 p) ρ) := by
  intro r d' Q Ec hm' P
  rw [nmAt_of hm]
  refine wpAny_Assign_Name (List_ ((he X d s r0 I).stepS O I hm' P.e fun l vs h1 tk1 d1 kk1 I1 r1 e1 => ?_))
  have hl := RepL.length r1
  split at e1
  · rename_i hs
    cases e1
    simp only [LIM] at hs
    refine wpAny_newObj_type ?_ (by show vs.toArray.size ≤ sizeLine; rw [List.size_toArray, sizeLine']; omega)
    have I2 := I1.grow O { cls := .type "list", data := .seq vs.toArray } rfl
    have hD : h1.objs.size ∉ X := notIn_of_live I1.live
    refine storeOk (s := ⟨h1.push { cls := .type "list", data := .seq vs.toArray }, s.gens, s.drawn, tk1, s.os⟩) O I2 hm (may_of O S hk) fun y h2 tk2 hy k2 I3 va => ?_
    have hyD : h1.objs.size ≠ y := fun q => hD (q ▸ I1.sub y hy)
    refine P (h1.objs.size :: X) h2 tk2 (I3.put hm ⟨h1.objs.size, vs, va, .head _, ⟨fun q => hD (I1.sub _ q), fun q => hD (I1.subY _ q), ?_⟩, ⟨_, k2 _ _ hyD (Heap.get?_push_size _ rfl)⟩, ?_⟩) (((kyK O kk1).trans (kyK O (Kept.push _))).trans (kyX O hy k2))
    · cases q : F.h0.get? h1.objs.size with
      | none => rfl
      | some o =>
        by_cases hcup : h1.objs.size = F.C.cup
        · exact absurd (hcup ▸ I1.sub _ O.cupX) hD
        · obtain ⟨⟨sl, e1⟩, _⟩ := I1.old _ _ q (by simpa using hcup)
          exact absurd (Heap.lt_size e1) (Nat.lt_irrefl _)
    · exact RepL.move (fun b o e nb => ⟨fun z => (List.mem_cons.mp z).elim (fun z => Nat.lt_irrefl _ (by have := Heap.lt_size e; rw [z] at this; exact this)) nb, k2 b o (fun z => nb (z ▸ I1.sub y hy)) (Heap.get?_push_of_some _ e)⟩) _ r1
  · cases e1

/-- x += e -/
theorem sAug {x : Nat} {m : String} {q p : Pos} {o : BO} {e : E} (O : FOk F n) (S : FS F) (hm : F.nm[x]? = some m) (hk : mayB F.env.scope m = true)
    (he : ExOk F ρ e) (I : Iv F X ρ d s.heap) : SSim F s d (exec (.AugAssign (.Name (nmAt F.nm x) q) o.op (tx F.nm e).x p) F.env) (ds F.C.g (.aug x q o e p) ρ) := by
  intro r d' Q Ec hm' P
  rw [nmAt_of hm]
  have hmem : m ∈ F.nm := by obtain ⟨p, e⟩ := List.getElem?_eq_some_iff.mp hm; rw [← e]; exact List.getElem_mem p
  have hv : ∃ a, ρ[x]? = some a ∧ (∃ v, VarAt F.env s.heap (Str.ofString m) v ∧ Rep F.C X s.heap a v) ∧ varA ρ x = M.pure a := by
    rcases M.bind_eq_some hm' with ⟨l, d1, e1, e2⟩ | ⟨a, d1, e1, e2⟩
    · obtain ⟨a, h1, h2, _⟩ := varA_some e1; cases h2
    · obtain ⟨a, h1, h2, h3, h4, n1, n2⟩ := varA_some e1
      exact ⟨a, h1, varVal (I.vars x m a h1 hm) n1 n2, h4⟩
  obtain ⟨a, ha, ⟨va0, hva, hra⟩, hvA⟩ := hv
  change M.bind (varA ρ x) _ d = _ at hm'
  rw [hvA] at hm'
  refine wpAny_AugAssign_Name (loadOk O hmem hva ((he X d s I).stepS O I hm' P.e fun b v h1 tk1 d1 kk1 I1 r1 e1 => ?_))
  obtain ⟨z, d2, e2, e3⟩ : ∃ z d2, M.lift (augA o a b) d1 = some (.ok z, d2) ∧ some (Except.ok (Fl.next, ρ.set x z), d2) = some (r, d') := by
    rcases M.bind_eq_some e1 with ⟨l, d3, e3, e4⟩ | ⟨z, d3, e3, e4⟩
    · obtain ⟨_, _, q, _⟩ := lift_some e3; cases q
    · exact ⟨z, d3, e3, e4⟩
  cases e3
  obtain ⟨_, e4, q, rfl⟩ := lift_some e2
  cases q
  have key : ∀ (u : Value) (tk : Nat), Rep F.C X h1 z u → wpAny (model F.C.prog F.C.w) F.A (storeName F.env (Str.ofString m) u) (fun _ => Q .next) Ec ⟨h1, s.gens, s.drawn, tk, s.os⟩ := fun u tk hu =>
    storeOk (s := ⟨h1, s.gens, s.drawn, tk, s.os⟩) O I1 hm (may_of O S hk) fun y h2 tk2 hy k2 I2 va =>
      P X h2 tk2 (I2.put hm (VarOk.of va (Rep.move (fun b o e nb => ⟨nb, k2 b o (fun z => nb (z ▸ I1.sub y hy)) e⟩) _ hu))) ((kyK O kk1).trans (kyX O hy k2))
  cases o with
  | add =>
    cases a <;> try (cases e4; done)
    case int i =>
      obtain ⟨j, hj, e5⟩ := Option.map_eq_some_iff.mp (show (b.int?).map (fun j => AV.int (i + j)) = some z from e4)
      clear e4
      replace hj := int?_eq hj
      subst hj
      obtain ⟨t, rfl⟩ := hra; obtain ⟨u, rfl⟩ := r1; cases e5
      exact wpAny_iadd_int (key _ _ ⟨_, rfl⟩)
    case str i =>
      obtain ⟨j, hj, e5⟩ := Option.bind_eq_some_iff.mp (show (b.str?).bind (fun j => if i.length + j.length ≤ LIM then some (AV.str (i ++ j)) else none) = some z from e4)
      clear e4
      replace hj := str?_eq hj
      subst hj
      obtain ⟨t, rfl⟩ := hra; obtain ⟨u, rfl⟩ := r1
      split at e5
      · rename_i hs
        cases e5
        refine SB.iadd (fun t' k => key _ _ ⟨t', ?_⟩) (by rw [strLen, strLen, sizeLine']; simp only [LIM] at hs; exact (Nat.le_trans (by assumption) (Nat.le_of_ble_eq_true rfl)))
        rw [strApp]
      · cases e5
  | sub =>
    obtain ⟨i, hi, e5⟩ := Option.bind_eq_some_iff.mp (show (a.int?).bind (fun i => b.int?.map fun j => AV.int (i - j)) = some z from e4)
    obtain ⟨j, hj, e6⟩ := Option.map_eq_some_iff.mp e5
    clear e4 e5
    replace hi := int?_eq hi
    replace hj := int?_eq hj
    subst hi hj
    obtain ⟨t, rfl⟩ := hra; obtain ⟨u, rfl⟩ := r1; cases e6
    exact PyProof.Rows.isub_int (key _ _ ⟨_, rfl⟩)
  | _ => cases e4

set_option tactic.hygienic false
/-- return e -/
theorem sRet {p : Pos} {e : E} (O : FOk F n) (he : ExOk F ρ e) (I : Iv F X ρ d s.heap) : SSim F s d (exec (.Return (some (tx F.nm e).x) p) F.env) (ds F.C.g (.ret e p) ρ) := by
  intro r d' Q Ec hm P
  refine wpAny_Return_some ((he X d s I).stepS O I hm P.e fun a v h1 tk1 d1 kk1 I1 r1 e1 => ?_)
  cases e1
  exact P X v h1 tk1 I1.nil r1

theorem sCont {p : Pos} (I : Iv F X ρ d s.heap) : SSim F s d (exec (.Continue p) F.env) (ds F.C.g (.cont p) ρ) := by
  intro r d' Q Ec hm P
  cases hm
  exact wpAny_Continue (P X s.heap s.toks I (KY.refl _ _))

/-- a, b = f(..) -/
theorem eachOk {env : Env} {nm : List String} : ∀ (xs : List (Nat × Pos)), (assignEach (tgtsOf nm xs) env) = xs.map fun x => (false, assign (.Name (nmAt nm x.1) x.2) env)
  | [] => rfl
  | (x, q) :: xs => by
    show (false, assign (.Name (nmAt nm x) q) env) :: assignEach (tgtsOf nm xs) env = _
    rw [eachOk xs]; rfl

theorem storesOk (O : FOk F n) (S : FS F) : ∀ (xs : List (Nat × Pos)) (l : List AV) (vs : List Value) (ρ : List AV) (s : Shared), (∀ x ∈ xs, ∃ m, F.nm[x.1]? = some m ∧ mayB F.env.scope m = true) → l.length = xs.length → Iv F X ρ d s.heap → RepL F.C X s.heap l vs →
    ∀ {Q : Unit → Shared → Prop} {Ec : Value → Shared → Prop}, (∀ h' tk, Iv F X (setsA xs l ρ) d h' → KY F s.heap h' → Q () { s with heap := h', toks := tk }) →
      wpAny (model F.C.prog F.C.w) F.A (assignInOrder (xs.map fun x => assign (.Name (nmAt F.nm x.1) x.2) F.env) vs) Q Ec s
  | [], [], vs, ρ, s, _, _, I, r, Q, Ec, B => by
    cases vs with
    | cons _ _ => exact r.elim
    | nil => exact wpAny_pure (B s.heap s.toks I (KY.refl _ _))
  | (x, q) :: xs, a :: l, vs, ρ, s, hx, hl, I, r, Q, Ec, B => by
    cases vs with
    | nil => exact r.elim
    | cons v vs =>
      obtain ⟨m, hm, hk⟩ := hx (x, q) (.head _)
      show wpAny _ _ (do holding vs (assign (.Name (nmAt F.nm x) q) F.env v); assignInOrder (xs.map fun x => assign (.Name (nmAt F.nm x.1) x.2) F.env) vs) _ _ _
      rw [nmAt_of hm]
      refine wpAny_bind (wpAny_holding (wpAny_assign_Name (storeOk O I hm (may_of O S hk) fun y h2 tk2 hy k2 I2 va => ?_)))
      have mv : ∀ b o, s.heap.get? b = some o → b ∉ X → b ∉ X ∧ h2.get? b = some o := fun b o e nb => ⟨nb, k2 b o (fun z => nb (z ▸ I.sub y hy)) e⟩
      exact storesOk O S xs l vs (ρ.set x a) ⟨h2, s.gens, s.drawn, tk2, s.os⟩ (fun x hx' => hx x (.tail _ hx')) (by simpa using hl) (I2.put hm (VarOk.of va (Rep.move mv _ r.1))) (RepL.move mv _ r.2) fun h3 tk3 I3 k3 => B h3 tk3 I3 ((kyX O hy k2).trans k3)
  | [], _ :: _, _, _, _, _, hl, _, _, _, _, _ => by cases hl
  | _ :: _, [], _, _, _, _, hl, _, _, _, _, _ => by cases hl

theorem soleNo {nm : List String} {e : E} {ts : List Expr} {k : Nat} {tp : Pos} {line : Nat} {env : Env} (h : isCall e = true) : swapsWithSole [.Tuple ts k tp] (tx nm e).x line env = pure false := by cases e <;> first | rfl | cases h
theorem storesNo {nm : List String} {e : E} {ts : List Expr} {k : Nat} {tp : Pos} {env : Env} (h : isCall e = true) : swappedStores [.Tuple ts k tp] (tx nm e).x env = pure none := by cases e <;> first | rfl | cases h
set_option tactic.hygienic true
theorem sAsgT {xs : List (Nat × Pos)} {q p : Pos} {e : E} (O : FOk F n) (S : FS F) (hx : ∀ x ∈ xs, ∃ m, F.nm[x.1]? = some m ∧ mayB F.env.scope m = true) (hc : isCall e = true)
    (he : ExOk F ρ e) (I : Iv F X ρ d s.heap) : SSim F s d (exec (.Assign [.Tuple (tgtsOf F.nm xs) 0 q] (tx F.nm e).x p) F.env) (ds F.C.g (.asgT xs q e p) ρ) := by
  intro r d' Q Ec hm P
  refine PyProof.Rows.Assign_Tuple ((he X d s I).stepS O I hm P.e fun a v h1 tk1 d1 kk1 I1 r1 e1 => ?_) (soleNo hc) (storesNo hc)
  cases a <;> try (cases e1; done)
  rename_i l
  obtain ⟨D, vs, rfl, hD, hT, hr⟩ := r1
  have hl := RepL.length hr
  change (if l.length = xs.length ∧ l.length ≤ LIM then M.pure (Fl.next, setsA xs l ρ) else M.fail) d1 = _ at e1
  split at e1
  · rename_i hh
    cases e1
    have hE := eachOk (env := F.env) (nm := F.nm) xs
    refine wpAny_assign_Tuple (items := vs.toArray) O.handled ⟨_, hT, rfl, _, rfl⟩ (by rw [hE, List.length_map, List.size_toArray, hl, hh.1]) (by rw [hE]; simp [List.findIdx?_eq_none_iff]) (fun h2 k2 => ?_)
    have kk : ∀ b o, h1.get? b = some o → h2.get? b = some o := fun b o e => k2 b o (Nat.ne_of_lt (Heap.lt_size e)) e
    have I2 : Iv F X ρ d' h2 := I1.kept O (.of kk) (I1.cup.keeps kk)
    rw [hE, List.map_map]
    exact storesOk O S xs l vs ρ ⟨h2, s.gens, s.drawn, tk1, s.os⟩ hx hh.1 I2 (RepL.move (fun b o e nb => ⟨nb, kk b o e⟩) _ hr) fun h3 tk3 I3 k3 => P X h3 tk3 I3 (((kyK O kk1).trans (kyK O (.of kk))).trans k3)
  · cases e1
end
end Mine
namespace Mine
open PySem PySem.W PyProof.Rows PySem.Calls

section
variable {F : Fx} {n : Nat} {fs : List String} {ρ : List AV} {X : List Addr} {d : Int} {h h' : Heap} {s : Shared}

theorem sFrz {x : Nat} {m : String} (hm : F.nm[x]? = some m) (I : Iv F X ρ d s.heap) : SSim F s d (execs [] F.env) (ds F.C.g (.frz x) ρ) := by
  intro r d' Q Ec hm' P
  rcases M.bind_eq_some hm' with ⟨l, d1, e1, e2⟩ | ⟨l, d1, e1, e2⟩
  · obtain ⟨_, _, q, _⟩ := ownA_some e1; cases q
  · obtain ⟨_, hown, q, rfl⟩ := ownA_some e1
    cases q
    split at e2
    · rename_i hno
      cases e2
      obtain ⟨D, vs, hv, hDX, hD, hl, hr⟩ := I.vars x m _ hown hm
      have I2 := I.let (D := D) (x := x) ⟨hD.1, hD.2.1⟩ hno
      exact wpAny_execs_nil (P _ s.heap s.toks (I2.put hm ⟨.ref D, hv, D, vs, rfl, fun q => by simpa using (List.mem_filter.mp q).2, hl.isList, RepL.less (fun b hb => (List.mem_filter.mp hb).1) hr⟩) (KY.refl _ _))
    · cases e2

/-- x.append(e), x the frame's own -/
theorem sApp {x : Nat} {m : String} {q r0 t0 p : Pos} {e : E} (O : FOk F n) (hm : F.nm[x]? = some m) (hline : (r0.endLine == t0.line) = true) (hr : isRaw e = false)
    (he : ExOk F ρ e) (I : Iv F X ρ d s.heap) : SSim F s d (exec (.Expr (.Call (.Attribute (.Name (nmAt F.nm x) q) (Str.ofString "append") r0) [(tx F.nm e).x] [] t0) p) F.env) (ds F.C.g (.app x q r0 e t0 p) ρ) := by
  intro r d' Q Ec hm' P
  rcases M.bind_eq_some hm' with ⟨l, d1, e1, e2⟩ | ⟨l, d1, e1, e2⟩
  · obtain ⟨_, _, q, _⟩ := ownA_some e1; cases q
  obtain ⟨_, hown, q, rfl⟩ := ownA_some e1
  cases q
  obtain ⟨D, vs, hv, hDX, hD, hl, hrl⟩ := I.vars x m _ hown hm
  refine wpAny_Expr_any ?_ (by unfold interactive; rw [O.kind]; rfl) rfl
  have hh : starEach [(tx F.nm e).x] F.env = [(false, eval (tx F.nm e).x F.env)] := starHead (l := []) (isRaw_of hr)
  have hT := hl.isList.typeIs (s := s)
  refine wpAny_Call_method_late rfl (by rw [hh]; rfl) hline rfl (nameOk O hm hv ⟨"list", "list.append", PySem.F.plainAttrs_list, slot_list_append, PySem.F.type_list_append, hT, fun a ha => ?_, ?_⟩)
  · cases ha; obtain ⟨k, e⟩ := hl; exact ⟨_, e, rfl⟩
  rw [hh]
  refine Calls.callWith_builtin rfl (evalArgsL rfl (Calls.spliced_cons ((he X d1 s I).stepS O I e2 P.e fun a v h1 tk1 d2 kk1 I1 r1 e3 => Calls.spliced_nil ?_)))
  have hv' := hv.kept kk1 I.cup.isList
  have hl' : h1.PlainList D vs.toArray := hl.at fun o e => (kk1 _ o e (by intro q; rw [List.mem_singleton] at q; subst q; exact hD.1 O.cupX)).2 hD.1
  have hrl' := kk1.repL I.sub (cupIn O I) hrl
  have hlen := RepL.length hrl'
  split at e3
  · rename_i hcond
    obtain ⟨hs, hno⟩ := hcond
    cases e3
    simp only [LIM] at hs
    refine wpAny_list_append_plain hl' (fun h2 hl2 hs2 => ?_) (by rw [List.size_toArray, sizeLine']; omega)
    have k2 : ∀ b o, b ≠ D → h1.get? b = some o → h2.get? b = some o := fun b o hb e => hs2.extBut b o hb e
    have I2 := I1.pokeOwn O hDX hD hno k2 (by obtain ⟨k, e⟩ := hl2; exact ⟨_, e⟩)
    have mv : ∀ b o, h1.get? b = some o → b ∉ X → b ∉ X ∧ h2.get? b = some o := fun b o e nb => ⟨nb, k2 b o (fun z => nb (z ▸ hDX)) e⟩
    have hva : VarAt F.env h2 (Str.ofString m) (.ref D) := by
      rcases hv' with ⟨a, mm, ⟨o, es, ep, ho, rr⟩, c⟩ | ⟨a, c, b, ⟨o, ho, rr⟩⟩
      · exact .inl ⟨a, mm, ⟨o, es, ep, k2 _ o (fun z => hD.1 (z ▸ O.locX)) ho, rr⟩, c⟩
      · exact .inr ⟨a, c, b, ⟨o, k2 _ o (fun z => hD.1 (z ▸ O.cellX _ _ b)) ho, rr⟩⟩
    exact P X h2 tk1 (I2.put hm ⟨D, vs ++ [v], hva, hDX, hD, by simpa using hl2, (RepL.move mv _ hrl').append ⟨Rep.move mv _ r1, trivial⟩⟩) ((kyK O kk1).trans (kyN hD.2.1 k2))
  · cases e3
end
end Mine
namespace Mine
open PySem PySem.W PyProof.Rows PySem.Calls

section
variable {F : Fx} {n : Nat} {fs : List String} {ρ : List AV} {X : List Addr} {d : Int} {h h' : Heap} {s : Shared}

set_option tactic.hygienic false
/-- x[i] = e : the cup's count, or the frame's own list -/
theorem swapsSub {v a i : Expr} {p : Pos} {line : Nat} {env : Env} : swapsWith v (some (.Subscript a i p)) line env = pure false := by
  unfold swapsWith
  split <;> rfl
set_option tactic.hygienic true
theorem sSetI {x : Nat} {m : String} {q r0 p : Pos} {i e : E} (O : FOk F n) (hm : F.nm[x]? = some m) (hi : ExOk F ρ i) (he : ExOk F ρ e) (I : Iv F X ρ d s.heap) :
    SSim F s d (exec (.Assign [.Subscript (.Name (nmAt F.nm x) q) (tx F.nm i).x r0] (tx F.nm e).x p) F.env) (ds F.C.g (.setI x q i r0 e p) ρ) := by
  intro r d' Q Ec hm' P
  refine wpAny_Assign_Subscript ?_ swapsSub
  simp only [ds_nil, ds_seq, ds_asg, ds_asgO, ds_asgT, ds_aug, ds_setI, ds_app, ds_ret, ds_frz, ds_ite, ds_whl, ds_for, ds_raise, ds_cont, ds_tryl] at hm'
  cases hx : ρ[x]? with
  | none => rw [hx] at hm'; cases hm'
  | some a =>
    rw [hx] at hm'
    cases a <;> try (cases hm'; done)
    · rename_i l
      obtain ⟨D, vs, hv, hDX, hD, hl, hrl⟩ := I.vars x m _ hx hm
      refine (he X d s I).stepS O I hm' P.e fun a v h1 tk1 d1 kk1 I1 r1 e1 => ?_
      refine nameOk (s := ⟨h1, s.gens, s.drawn, tk1, s.os⟩) O hm (hv.kept kk1 I.cup.isList) ((hi X d1 ⟨h1, s.gens, s.drawn, tk1, s.os⟩ I1).stepS O I1 e1 P.e fun b w h2 tk2 d2 kk2 I2 r2 e2 => ?_)
      have kk := kk1.trans kk2
      have hv' := hv.kept kk I.cup.isList
      have hl' : h2.PlainList D vs.toArray := hl.at fun o e => (kk _ o e (by intro q; rw [List.mem_singleton] at q; subst q; exact hD.1 O.cupX)).2 hD.1
      have hrl' := kk.repL I.sub (cupIn O I) hrl
      have hlen := RepL.length hrl'
      have r1' := kk2.rep I1.sub (cupIn O I1) r1
      cases b <;> try (cases e2; done)
      rename_i k
      obtain ⟨t, rfl⟩ := r2
      change (if 0 ≤ k ∧ k < l.length ∧ l.length ≤ LIM ∧ noOwn (ρ.set x .none) = true then M.pure (Fl.next, ρ.set x (.list (l.set k.toNat a))) else M.fail) d2 = _ at e2
      split at e2
      · rename_i hh
        obtain ⟨h0, h1', hs, hno⟩ := hh
        cases e2
        simp only [LIM] at hs
        refine wpAny_setItem_list hl'.isList h0 (by omega) (by rw [List.size_toArray]; omega) fun h3 hl3 hs3 => ?_
        have k3 : ∀ b o, b ≠ D → h2.get? b = some o → h3.get? b = some o := fun b o hb e => hs3.extBut b o hb e
        have I3 := (I2.pokeOwn O hDX hD hno k3 (by obtain ⟨o, e, _⟩ := hl3; exact ⟨_, e⟩)).let (D := D) (x := x) ⟨hD.1, hD.2.1⟩ (by simpa using hno)
        rw [List.set_set] at I3
        have mv : ∀ b o, h2.get? b = some o → b ∉ X → b ∉ X.filter (· ≠ D) ∧ h3.get? b = some o := fun b o e nb => ⟨fun z => nb (List.mem_filter.mp z).1, k3 b o (fun z => nb (z ▸ hDX)) e⟩
        have hva : VarAt F.env h3 (Str.ofString m) (.ref D) := by
          rcases hv' with ⟨a, mm, ⟨o, es, ep, ho, rr⟩, c⟩ | ⟨a, c, b, ⟨o, ho, rr⟩⟩
          · exact .inl ⟨a, mm, ⟨o, es, ep, k3 _ o (fun z => hD.1 (z ▸ O.locX)) ho, rr⟩, c⟩
          · exact .inr ⟨a, c, b, ⟨o, k3 _ o (fun z => hD.1 (z ▸ O.cellX _ _ b)) ho, rr⟩⟩
        refine P _ h3 tk2 (I3.put hm ⟨.ref D, hva, D, vs.set k.toNat v, rfl, fun q => by simpa using (List.mem_filter.mp q).2, ?_, RepL.set (RepL.move mv _ hrl') (Rep.move mv _ r1')⟩) ((kyK O kk).trans (kyN hD.2.1 k3))
        have : (vs.toArray.setIfInBounds k.toNat v) = (vs.set k.toNat v).toArray := by simp
        rw [← this]; exact hl3
      · cases e2
    · obtain ⟨v0, hv, hv0⟩ := I.vars x m _ hx hm
      have hv0 : v0 = .ref F.C.cup := hv0
      subst hv0
      refine (he X d s I).stepS O I hm' P.e fun a v h1 tk1 d1 kk1 I1 r1 e1 => ?_
      refine nameOk (s := ⟨h1, s.gens, s.drawn, tk1, s.os⟩) O hm (hv.kept kk1 I.cup.isList) ((hi X d1 ⟨h1, s.gens, s.drawn, tk1, s.os⟩ I1).stepS O I1 e1 P.e fun b w h2 tk2 d2 kk2 I2 r2 e2 => ?_)
      have r1' := kk2.rep I1.sub (cupIn O I1) r1
      cases a <;> try (cases e2; done)
      rename_i nn
      cases b <;> try (cases e2; done)
      rename_i k
      by_cases hk : k = 1
      · subst hk
        change (if (1 : Int) = 1 then M.bind (M.set nn) (fun _ => M.pure (Fl.next, ρ)) else M.fail) d2 = _ at e2
        rw [if_pos rfl] at e2
        cases e2
        obtain ⟨t, rfl⟩ := r2
        obtain ⟨u, rfl⟩ := r1'
        obtain ⟨⟨tc, hcl⟩, hne, vs, hls, hrs⟩ := id I2.cup
        refine wpAny_setItem_list hcl (by exact (Int.natCast_nonneg _)) (by exact (Int.natCast_nonneg _)) (by simp) fun h3 hl3 hs3 => ?_
        have k3 : ∀ b o, b ≠ F.C.cup → h2.get? b = some o → h3.get? b = some o := fun b o hb e => hs3.extBut b o hb e
        exact P X h3 tk2 (I2.cupSet O k3 (by simpa using hl3)) ((kyK O (kk1.trans kk2)).trans (kyX O O.cupX k3))
      · exfalso
        change (if k = 1 then M.bind (M.set nn) (fun _ => M.pure (Fl.next, ρ)) else M.fail) d2 = _ at e2
        rw [if_neg hk] at e2
        cases e2

theorem sIte {c : E} {a b : S} {p : Pos} (O : FOk F n) (hc : CdOk F ρ c) (ha : ∀ X d s, Iv F X ρ d s.heap → SSim F s d (execs (tst F.nm a) F.env) (ds F.C.g a ρ))
    (hb : ∀ X d s, Iv F X ρ d s.heap → SSim F s d (execs (tst F.nm b) F.env) (ds F.C.g b ρ)) (I : Iv F X ρ d s.heap) : SSim F s d (exec (.If (tx F.nm c).x (tst F.nm a) (tst F.nm b) p) F.env) (ds F.C.g (.ite c a b p) ρ) := by
  intro r d' Q Ec hm P
  refine wpAny_If ((hc X d s I).stepS O I hm P.e fun t v h1 tk1 d1 kk1 I1 r1 e1 => ?_)
  have : v = t := r1
  subst this
  have P1 : PostS F ⟨h1, s.gens, s.drawn, tk1, s.os⟩ Q Ec r d' := by
    rcases r with l | ⟨f, ρ'⟩
    · exact P
    · cases f with
      | next => exact fun X h' tk I k => P X h' tk I ((kyK O kk1).trans k)
      | cont => exact fun X h' tk I k => P X h' tk I ((kyK O kk1).trans k)
      | ret a => exact P
  cases v with
  | true => simp only [if_true] at e1 ⊢; exact ha X d1 ⟨h1, s.gens, s.drawn, tk1, s.os⟩ I1 _ _ _ _ e1 P1
  | false => simp only [Bool.false_eq_true, if_false] at e1 ⊢; exact hb X d1 ⟨h1, s.gens, s.drawn, tk1, s.os⟩ I1 _ _ _ _ e1 P1

theorem sWhl {c : E} {b : S} {p : Pos} (O : FOk F n) (SF : FS F) (hc : ∀ ρ, CdOk F ρ c) (hb : ∀ ρ X d s, Iv F X ρ d s.heap → SSim F s d (execs (tst F.nm b) F.env) (ds F.C.g b ρ)) (I : Iv F X ρ d s.heap) :
    SSim F s d (exec (.While (tx F.nm c).x (tst F.nm b) [] p) F.env) (ds F.C.g (.whl c b p) ρ) := by
  intro r d' Q Ec hm P
  have Pe : PostE F s (notedBy (model F.C.prog F.C.w) F.A F.env (cameBackBy (model F.C.prog F.C.w) F.A F.env Ec)) r d' := by
    cases r with
    | ok _ => trivial
    | error l => exact notedOk O SF P
  refine wpAny_While (codeAny_whileLoop (fun k s' => ∃ X ρ' d1 h' tk, s' = { s with heap := h', toks := tk } ∧ Iv F X ρ' d1 h' ∧ KY F s.heap h' ∧ iterW (dn F.C.g c).c (ds F.C.g b) k ρ' d1 = some (r, d')) ?_ F.C.g.N
    ⟨X, ρ, d, s.heap, s.toks, rfl, I, KY.refl _ _, hm⟩)
  rintro k s' ⟨X1, ρ1, d1, h1, tk1, rfl, I1, ky1, hm1⟩
  cases k with
  | zero => cases hm1
  | succ k =>
    refine (hc ρ1 X1 d1 ⟨h1, s.gens, s.drawn, tk1, s.os⟩ I1).stepS O I1 hm1 Pe fun t v h2 tk2 d2 kk2 I2 r2 e2 => ?_
    have : v = t := r2
    subst this
    cases v with
    | false =>
      simp only [Bool.false_eq_true, if_false] at e2 ⊢
      cases e2
      exact wpAny_execs_nil (P X1 h2 tk2 I2 (ky1.trans (kyK O kk2)))
    | true =>
      simp only [if_true] at e2 ⊢
      rcases M.bind_eq_some e2 with ⟨l, d3, e3, e4⟩ | ⟨⟨f, ρ2⟩, d3, e3, e4⟩
      · cases e4
        exact hb ρ1 X1 d2 ⟨h2, s.gens, s.drawn, tk2, s.os⟩ I2 _ _ _ _ e3 Pe
      · refine hb ρ1 X1 d2 ⟨h2, s.gens, s.drawn, tk2, s.os⟩ I2 _ _ _ _ e3 ?_
        cases f with
        | next => exact fun X h' tk I ky => ⟨k, Nat.lt_succ_self _, X, ρ2, d3, h', tk, rfl, I, (ky1.trans (kyK O kk2)).trans ky, e4⟩
        | cont => exact fun X h' tk I ky => ⟨k, Nat.lt_succ_self _, X, ρ2, d3, h', tk, rfl, I, (ky1.trans (kyK O kk2)).trans ky, e4⟩
        | ret a =>
          cases e4
          exact P
end
end Mine
namespace Mine
open PySem PySem.W PyProof.Rows PySem.Calls

section
variable {F : Fx} {n : Nat} {fs : List String} {ρ : List AV} {X : List Addr} {d : Int} {h h' : Heap} {s : Shared}

noncomputable abbrev Fx.onY (F : Fx) (y : Addr) : Fx := { F with Y0 := y :: F.Y0 }

set_option tactic.hygienic false
theorem FOk.withY (O : FOk F n) {y : Addr} (hy : y ∉ F.X0) : FOk (F.onY y) n where
  frames := O.frames
  handled := O.handled
  room := O.room
  units := O.units
  kind := O.kind
  globals := O.globals
  builtins := O.builtins
  cupX := O.cupX
  lstX := O.lstX
  locX := O.locX
  locN := O.locN
  locC := O.locC
  cellC := O.cellC
  cellX := O.cellX
  cellA := O.cellA
  cellD := O.cellD
  frameX := O.frameX
  yx := fun z hz => (List.mem_cons.mp hz).elim (fun q => q ▸ hy) (O.yx z)
  frame := O.frame
  nodup := O.nodup
  plain := O.plain
  gmg := O.gmg
  gmb := O.gmb
  nolim := O.nolim
  h0b := O.h0b
theorem FS.withY (S : FS F) (y : Addr) : FS (F.onY y) := ⟨S.env, S.frame, S.cellN⟩

theorem Iv.inY (O : FOk F n) (I : Iv F X ρ d h) (o : Obj) (hf : o.isFreed = false) : Iv (F.onY h.objs.size) (h.objs.size :: X) ρ d (h.push o) := by
  have J := I.grow O o hf
  exact {
    stays := J.stays
    ff := J.ff
    sub := J.sub
    subY := fun z hz => (List.mem_cons.mp hz).elim (fun q => q ▸ .head _) fun q => J.subY z q
    old := J.old
    new := J.new
    live := J.live
    lst := J.lst
    cup := J.cup
    ns := J.ns
    cells := J.cells
    vars := fun i m a e e' => by
      have V := J.vars i m a e e'
      have W := I.vars i m a e e'
      cases a <;> first
        | exact V
        | (obtain ⟨dd, vs, q1, q2, q3, q4, q5⟩ := W
           have hlt : dd < h.objs.size := by obtain ⟨k, e⟩ := q4; exact Heap.lt_size e
           have k : Kept F.X0 [F.C.cup] h (h.push o) := Kept.push o
           exact ⟨dd, vs, q1.kept k I.cup.isList, List.mem_cons_of_mem _ q2, ⟨q3.1, fun z => (List.mem_cons.mp z).elim (fun q => Nat.lt_irrefl _ (q ▸ hlt)) q3.2.1, q3.2.2⟩, q4.at (fun o e => Heap.get?_push_of_some _ e),
             RepL.move (fun b o' e q => ⟨fun z => (List.mem_cons.mp z).elim (fun z => Nat.lt_irrefl _ (by have := Heap.lt_size e; rw [z] at this; exact this)) q, Heap.get?_push_of_some _ e⟩) _ q5⟩) }

theorem Iv.outY (O : FOk F n) {y : Addr} (I : Iv (F.onY y) X ρ d h) (hy : y ∉ F.X0) (hy2 : y ∉ F.Y0) (hn : F.h0.get? y = none) (k : ∀ b o, b ≠ y → h.get? b = some o → h'.get? b = some o) : Iv F (X.filter (· ≠ y)) ρ d h' := by
  have hyX : y ∈ X := I.subY y (.head _)
  have hs : ∀ b ∈ X.filter (· ≠ y), b ∈ X := fun b hb => (List.mem_filter.mp hb).1
  have hne : ∀ b ∈ X.filter (· ≠ y), b ≠ y := fun b hb => by simpa using (List.mem_filter.mp hb).2
  have hp : ∀ {b}, b ∈ X → b ≠ y → b ∈ X.filter (· ≠ y) := fun h1 h2 => List.mem_filter.mpr ⟨h1, by simpa using h2⟩
  have n0 : ∀ {b}, b ∈ F.X0 → b ≠ y := fun hb z => hy (z ▸ hb)
  have mv : ∀ b o, h.get? b = some o → b ∉ X → b ∉ X.filter (· ≠ y) ∧ h'.get? b = some o := fun b o e q => ⟨fun z => q (hs b z), k b o (fun z => q (z ▸ hyX)) e⟩
  have va : ∀ {m : Str} {v : Value}, VarAt F.env h m v → VarAt F.env h' m v := fun {m v} x => by
    rcases x with ⟨a, mm, ⟨o, es, ep, ho, r⟩, c⟩ | ⟨a, c, b, ⟨o, ho, r⟩⟩
    · exact .inl ⟨a, mm, ⟨o, es, ep, k _ o (n0 O.locX) ho, r⟩, c⟩
    · exact .inr ⟨a, c, b, ⟨o, k _ o (n0 (O.cellX _ _ b)) ho, r⟩⟩
  have fr : ∀ (l : List Env), (∀ e ∈ l, ∀ L, e.frame = some L → L ∈ F.X0) → h.FunFrames F.C.base l → h'.FunFrames F.C.base l := by
    intro l
    induction l with
    | nil => intro _ _; trivial
    | cons e l ih =>
      intro hx ⟨hk, ⟨L, o, hf, hn, ho, hd⟩, hr⟩
      exact ⟨hk, ⟨L, o, hf, hn, k L o (n0 (hx e (.head _) L hf)) ho, hd⟩, ih (fun e he => hx e (.tail _ he)) hr⟩
  exact {
    stays := fun b o e => k b o (fun z => by rw [z, I.new y hyX] at e; cases e) (I.stays b o e)
    ff := fr _ O.frameX I.ff
    sub := fun z hz => hp (I.sub z hz) (n0 hz)
    subY := fun z hz => hp (I.subY z (.tail _ hz)) fun q => hy2 (q ▸ hz)
    old := fun b o e nw => by
      have hb : b ≠ y := fun z => by rw [z, hn] at e; cases e
      obtain ⟨⟨sl, e1⟩, e2⟩ := I.old b o e nw
      exact ⟨⟨sl, k b _ hb e1⟩, fun nx => k b _ hb (e2 nx)⟩
    new := fun z hz => I.new z (hs z hz)
    live := fun z hz => by obtain ⟨o, ho⟩ := I.live z (hs z hz); exact ⟨o, k z o (hne z hz) ho⟩
    lst := fun q => I.lst (hs _ q)
    cup := I.cup.but (n0 O.cupX) (fun z => I.lst (z ▸ hyX)) k
    ns := let ⟨m, o, es, ep, ho, r⟩ := I.ns; ⟨m, o, es, ep, k _ o (n0 O.locX) ho, r⟩
    cells := fun n c e => let ⟨v, o, ho, r⟩ := I.cells n c e; ⟨v, o, k _ o (n0 (O.cellX _ _ e)) ho, r⟩
    vars := fun i m a e e' => by
      have V := I.vars i m a e e'
      cases a <;> first
        | trivial
        | (obtain ⟨dd, vs, q1, q2, q3, ⟨o, ho⟩, q5⟩ := V
           have hdy : dd ≠ y := fun z => q3.2.1 (z ▸ .head _)
           exact ⟨dd, vs, va q1, hp q2 hdy, ⟨q3.1, fun z => q3.2.1 (.tail _ z), q3.2.2⟩, ⟨o, k _ _ hdy ho⟩, RepL.move mv _ q5⟩)
        | (obtain ⟨v, q1, q2⟩ := V
           exact ⟨v, va q1, Rep.move mv _ q2⟩) }

set_option tactic.hygienic true
theorem iterF_nil {x : Nat} {b : List AV → M (Fl × List AV)} : iterF x b [] ρ = M.pure (.next, ρ) := rfl

set_option tactic.hygienic false
theorem itemsOne {a b : AV} {l : List AV} {i : Nat} (h1 : isRefA a = false) (h2 : itemsA a = some l) (hb1 : l[i]? = some b) : (∃ c, b = .str [c]) ∨ ∃ k, b = .int k := by
  cases a <;> try (cases h2; done)
  · replace h2 := Option.ite_none_right_eq_some.mp h2
    cases h2.2
    obtain ⟨c, _, rfl⟩ := List.mem_map.mp (List.mem_of_getElem? hb1)
    exact .inl ⟨c, rfl⟩
  · cases h1
  · cases h1
  · replace h2 := Option.ite_none_right_eq_some.mp h2
    cases h2.2
    obtain ⟨c, _, rfl⟩ := List.mem_map.mp (List.mem_of_getElem? hb1)
    exact .inr ⟨_, rfl⟩
set_option tactic.hygienic true
theorem sFor {x : Nat} {m : String} {q p : Pos} {e : E} {b : S} (O : FOk F n) (SF : FS F) (hm : F.nm[x]? = some m) (hk : mayB F.env.scope m = true) (hr : isRaw e = false) (he : ExOk F ρ e)
    (hb : ∀ (y : Addr) ρ X d s, FOk (F.onY y) n → FS (F.onY y) → Iv (F.onY y) X ρ d s.heap → SSim (F.onY y) s d (execs (tst F.nm b) F.env) (ds F.C.g b ρ)) (I : Iv F X ρ d s.heap) :
    SSim F s d (exec (.For (.Name (nmAt F.nm x) q) (tx F.nm e).x (tst F.nm b) [] p) F.env) (ds F.C.g (.for x q e b p) ρ) := by
  intro r d' Q Ec hm' P
  rw [nmAt_of hm]
  refine wpAny_For ((he X d s I).stepS O I hm' P.e fun a v h1 tk1 d1 kk1 I1 r1 e1 => ?_) (foldNo hr)
  rcases M.bind_eq_some e1 with ⟨l, d2, e2, e3⟩ | ⟨l, d2, e2, e3⟩
  · obtain ⟨_, _, q, _⟩ := lift_some e2; cases q
  obtain ⟨_, hF, q, rfl⟩ := lift_some e2
  cases q
  have hna : isRefA a = false ∧ itemsA a = some l := by
    unfold itemsF at hF
    split at hF
    · cases hF
    · rename_i hh; exact ⟨by simpa using hh, hF⟩
  refine iterOk (s := ⟨h1, s.gens, s.drawn, tk1, s.os⟩) O.handled I1.live hna.2 r1 fun fp PP St o hfree W hlen st0 hfp hlive hP => ?_
  have I2 := I1.inY O o hfree
  have hyl : ∀ {b}, b ∈ X → b ≠ h1.objs.size := fun hb q => by obtain ⟨ob, e⟩ := I1.live _ hb; exact Nat.lt_irrefl _ (q ▸ Heap.lt_size e)
  have hy1 : h1.objs.size ∉ F.X0 := fun q => hyl (I1.sub _ q) rfl
  have hy2 : h1.objs.size ∉ F.Y0 := fun q => hyl (I1.subY _ q) rfl
  have hy0 : F.h0.get? h1.objs.size = none := by
    cases q : F.h0.get? h1.objs.size with
    | none => rfl
    | some o =>
      by_cases hcup : h1.objs.size = F.C.cup
      · exact absurd (hcup ▸ O.cupX) hy1
      · obtain ⟨⟨sl, e1⟩, _⟩ := I1.old _ _ q (by simpa using hcup)
        exact absurd (Heap.lt_size e1) (Nat.lt_irrefl _)
  have OG : FOk (F.onY h1.objs.size) n := O.withY hy1
  have SG : FS (F.onY h1.objs.size) := SF.withY _
  have hP' : ∀ i v, PP i v → ∃ a, l[i]? = some a ∧ ∀ X h, Rep F.C X h a v := fun i v hv => by
    obtain ⟨b, hb1, hb2⟩ := hP i v hv
    refine ⟨b, hb1, ?_⟩
    have hb3 := itemsOne hna.1 hna.2 hb1
    rcases hb3 with ⟨c, rfl⟩ | ⟨k, rfl⟩ <;> exact fun _ _ => hb2
  have hfp' : ∀ b ∈ fp, b = h1.objs.size := fun b hb => (hfp b hb).resolve_right fun z => by rw [hna.1] at z; cases z.2.2
  have stK : ∀ {i h h'}, KY (F.onY h1.objs.size) h h' → St i h → St i h' := fun {i h h'} k st => (W F.A O.handled).frame _ _ _ st fun b hb o e => by rw [hfp' b hb] at e ⊢; exact k _ (.head _) o e
  have fromG : ∀ {X ρ d h}, Iv (F.onY h1.objs.size) X ρ d h → Iv F (X.filter (· ≠ h1.objs.size)) ρ d h := fun J => J.outY O hy1 hy2 hy0 fun _ _ _ e => e
  have Pe : PostE (F.onY h1.objs.size) s (notedBy (model F.C.prog F.C.w) F.A F.env (cameBackBy (model F.C.prog F.C.w) F.A F.env Ec)) r d' := by
    cases r with
    | ok _ => trivial
    | error l => exact notedOk OG SG (fun X e h' tk J f => P _ e h' tk (fromG J) f)
  refine codeAny_forLoop_any (fun k s' => ∃ i X ρ' d1 h' tk, s' = { s with heap := h', toks := tk } ∧ St i h' ∧ i ≤ l.length ∧ k = l.length + 1 - i ∧ Iv (F.onY h1.objs.size) X ρ' d1 h' ∧ KY F s.heap h' ∧ iterF x (ds F.C.g b) (l.drop i) ρ' d1 = some (r, d')) ?_ (l.length + 1)
    ⟨0, _, ρ, d2, _, tk1, rfl, st0, Nat.zero_le _, rfl, I2, (kyK O kk1).trans (kyK O (Kept.push _)), e3⟩
  rintro k s' ⟨i, X3, ρ3, d3, h3, tk3, rfl, st3, hi, rfl, I3, ky3, hm3⟩
  by_cases hlt : i < l.length
  · refine (W F.A O.handled).item i _ _ _ hlt st3 fun v h4 tk4 hPv st4 hk4 => ?_
    have hk4' : ∀ b o, b ≠ h1.objs.size → h3.get? b = some o → h4.get? b = some o := fun b o hb e => hk4 b o (by simpa using hb) e
    have I4 : Iv (F.onY h1.objs.size) X3 ρ3 d3 h4 := I3.poke OG (.head _) hy0 hk4' (hlive _ _ st4)
    obtain ⟨c, ha, hra⟩ := hP' i v hPv
    have hdrop : l.drop i = c :: l.drop (i + 1) := by
      obtain ⟨p, q⟩ := List.getElem?_eq_some_iff.mp ha
      rw [← q]; exact List.drop_eq_getElem_cons p
    rw [hdrop] at hm3
    refine wpAny_of_eq (a := ()) rfl ?_
    refine wpAny_assign_Name (storeOk (F := F.onY h1.objs.size) (s := ⟨h4, s.gens, s.drawn, tk4, s.os⟩) OG I4 hm (may_of OG SG hk) fun y h5 tk5 hy hk5 I5 va => ?_)
    have I6 : Iv (F.onY h1.objs.size) X3 (ρ3.set x c) d3 h5 := I5.put hm (VarOk.of va (hra _ _))
    have ky5 : KY F s.heap h5 := (ky3.trans (kyN hy2 hk4')).trans (kyX O hy hk5)
    have st5 : St (i + 1) h5 := stK (kyX OG hy hk5) st4
    rcases M.bind_eq_some hm3 with ⟨l', d6, e6, e7⟩ | ⟨⟨f, ρ6⟩, d6, e6, e7⟩
    · cases e7
      exact hb _ (ρ3.set x c) X3 d3 ⟨h5, s.gens, s.drawn, tk5, s.os⟩ OG SG I6 _ _ _ _ e6 Pe
    · refine hb _ (ρ3.set x c) X3 d3 ⟨h5, s.gens, s.drawn, tk5, s.os⟩ OG SG I6 _ _ _ _ e6 ?_
      have nxt : ∀ X h' tk, Iv (F.onY h1.objs.size) X ρ6 d6 h' → KY (F.onY h1.objs.size) h5 h' → iterF x (ds F.C.g b) (l.drop (i + 1)) ρ6 d6 = some (r, d') → ∃ m, m < l.length + 1 - i ∧ ∃ i X ρ' d1 h'' tk', ({ s with heap := h', toks := tk } : Shared) = { s with heap := h'', toks := tk' } ∧ St i h'' ∧ i ≤ l.length ∧ m = l.length + 1 - i ∧ Iv (F.onY h1.objs.size) X ρ' d1 h'' ∧ KY F s.heap h'' ∧ iterF x (ds F.C.g b) (l.drop i) ρ' d1 = some (r, d') :=
        fun X h' tk J ky e => ⟨l.length + 1 - (i + 1), by omega, i + 1, X, ρ6, d6, h', tk, rfl, stK ky st5, hlt, rfl, J, ky5.trans (fun b hb o e => ky b (.tail _ hb) o e), e⟩
      cases f with
      | next => exact fun X h' tk J ky => nxt X h' tk J ky e7
      | cont => exact fun X h' tk J ky => nxt X h' tk J ky e7
      | ret a =>
        cases e7
        exact fun X v h' tk J hv => P _ v h' tk (fromG J) (Rep.less (fun b hb => (List.mem_filter.mp hb).1) hv)
  · have hin : i = l.length := by omega
    subst hin
    rw [List.drop_length, iterF_nil] at hm3
    cases hm3
    refine (W F.A O.handled).done _ _ _ st3 fun h4 tk4 hk4 => ?_
    have hk4' : ∀ b o, b ≠ h1.objs.size → h3.get? b = some o → h4.get? b = some o := fun b o hb e => hk4 b o (by simpa using hb) e
    exact wpAny_execs_nil (P _ h4 tk4 (I3.outY O hy1 hy2 hy0 hk4') (ky3.trans (kyN hy2 hk4')))
end
end Mine
namespace Mine
open PySem PySem.W PyProof.Rows PySem.Calls

/-- raise SyntaxDie(msg, e) -/
noncomputable def RaiseOk (C : Cx) (n : Nat) : Prop := ∀ (F : Fx) (ρ : List AV) (X : List Addr) (d : Int) (s : Shared) (msg : String) (e : E) (q r t p : Pos) (l d' : Int) (Q : Flow → Shared → Prop) (Ec : Value → Shared → Prop), F.C = C → FOk F n → FS F →
  F.env.scope.names.lookup (Str.ofString "SyntaxDie") = some .globalImplicit → isRaw e = false → ExOk F ρ e → Iv F X ρ d s.heap →
  M.bind (oneA ((dn C.g e).e ρ)) (fun a => match a with | .int l => (M.raise l : M (Fl × List AV)) | _ => M.fail) d = some (.error l, d') → ErrOk F d' l s Ec →
  wpAny (model C.prog C.w) F.A (exec (.Raise (some (.Call (.Name (Str.ofString "SyntaxDie") q) [.Constant (.str (Str.ofString msg)) 0 r, (tx F.nm e).x] [] t)) none p) F.env) Q Ec s

noncomputable def okS (nm fs : List String) (sc : Scope) : S → Bool
  | .nil => true
  | .seq a b => okS nm fs sc a && okS nm fs sc b
  | .asg x _ e _ => decide (x < nm.length) && mayB sc (nm.getD x "") && (!isComp e || decide (sc.names.lookup (Str.ofString (nm.getD x "")) = some .cell)) && ok nm fs e sc 0
  | .asgO x _ es _ _ => decide (x < nm.length) && mayB sc (nm.getD x "") && ok nm fs es sc 2
  | .asgT xs _ e _ => xs.all (fun x => decide (x.1 < nm.length) && mayB sc (nm.getD x.1 "")) && isCall e && ok nm fs e sc 0
  | .aug x _ _ e _ => decide (x < nm.length) && mayB sc (nm.getD x "") && ok nm fs e sc 0
  | .setI x _ i _ e _ => decide (x < nm.length) && ok nm fs i sc 0 && ok nm fs e sc 0
  | .app x _ r e t _ => decide (x < nm.length) && r.endLine == t.line && ok nm fs e sc 0
  | .ret e _ => ok nm fs e sc 0
  | .frz x => decide (x < nm.length)
  | .ite c a b _ => ok nm fs c sc 1 && okS nm fs sc a && okS nm fs sc b
  | .whl c b _ => ok nm fs c sc 1 && okS nm fs sc b
  | .for x _ e b _ => decide (x < nm.length) && mayB sc (nm.getD x "") && ok nm fs e sc 0 && okS nm fs sc b
  | .raise _ e _ _ _ _ => gI sc "SyntaxDie" && ok nm fs e sc 0
  | .cont _ => true
  | .tryl _ _ => false

section
variable {n : Nat} {fs : List String}

set_option tactic.hygienic false
theorem getD_some {nm : List String} {x : Nat} (h : x < nm.length) : nm[x]? = some (nm.getD x "") := by simp [h]

set_option tactic.hygienic true
theorem sOk (hs : sysModules < mainGlobals) {C : Cx} (G : GOk C n fs) (RZ : RaiseOk C n) : ∀ (b : S) (F : Fx) (ρ : List AV) (X : List Addr) (d : Int) (s : Shared), F.C = C → FOk F n → FS F → okS F.nm fs F.env.scope b = true → Iv F X ρ d s.heap → SSim F s d (execs (tst F.nm b) F.env) (ds F.C.g b ρ)
  | .nil, F, ρ, X, d, s, hC, O, SF, h, I => fun r d' Q Ec hm P => by
    cases hm
    exact wpAny_execs_nil (P X s.heap s.toks I (KY.refl _ _))
  | .seq a b, F, ρ, X, d, s, hC, O, SF, h, I => fun r d' Q Ec hm P => by
    replace h : okS F.nm fs F.env.scope a = true ∧ okS F.nm fs F.env.scope b = true := ⟨and_l h, and_r h⟩
    refine execsApp ?_
    rcases M.bind_eq_some hm with ⟨l, d1, e1, e2⟩ | ⟨⟨f, ρ1⟩, d1, e1, e2⟩
    · cases e2
      exact sOk hs G RZ a F ρ X d s hC O SF h.1 I _ _ _ _ e1 P
    · refine sOk hs G RZ a F ρ X d s hC O SF h.1 I _ _ _ _ e1 ?_
      cases f with
      | next =>
        refine fun X1 h1 tk1 I1 ky1 => sOk hs G RZ b F ρ1 X1 d1 ⟨h1, s.gens, s.drawn, tk1, s.os⟩ hC O SF h.2 I1 _ _ _ _ e2 ?_
        rcases r with l | ⟨f, ρ'⟩
        · exact P
        · cases f with
          | next => exact fun X h' tk I k => P X h' tk I (ky1.trans k)
          | cont => exact fun X h' tk I k => P X h' tk I (ky1.trans k)
          | ret a => exact P
      | cont => cases e2; exact fun X1 h1 tk1 I1 ky1 => P X1 h1 tk1 I1 ky1
      | ret a => cases e2; exact fun X1 v h1 tk1 I1 hv => P X1 v h1 tk1 I1 hv
  | .asg x q e p, F, ρ, X, d, s, hC, O, SF, h, I => by
    have h4 := and_r h; have q := and_l h; have h3 := and_r q; have h1 := of_decide_eq_true (and_l (and_l q)); have h2 := and_r (and_l q)
    replace h3 := Bool.or_eq_true_iff.mp h3
    replace h3 := h3.imp (Bool.not_eq_true' _).mp of_decide_eq_true
    exact fun r d' Q Ec hm P => execsOne (sAsg O SF (getD_some h1) h2 h3 (ok_raw h4) ((allOk hs e F ρ O (hC ▸ G)).ex h4) I r d' Q Ec hm P)
  | .asgO x q es r0 p, F, ρ, X, d, s, hC, O, SF, h, I => by
    have h3 := and_r h; have h1 := of_decide_eq_true (and_l (and_l h)); have h2 := and_r (and_l h)
    exact fun r d' Q Ec hm P => execsOne (sAsgO O SF (getD_some h1) h2 ((allOk hs es F ρ O (hC ▸ G)).ls h3) I r d' Q Ec hm P)
  | .asgT xs q e p, F, ρ, X, d, s, hC, O, SF, h, I => by
    have h3 := and_r h; have h2 := and_r (and_l h)
    have h1 := fun x hx => (fun q => And.intro (of_decide_eq_true (and_l q)) (and_r q)) (List.all_eq_true.mp (and_l (and_l h)) x hx)
    exact fun r d' Q Ec hm P => execsOne (sAsgT O SF (fun x hx => ⟨_, getD_some (h1 x hx).1, (h1 x hx).2⟩) h2 ((allOk hs e F ρ O (hC ▸ G)).ex h3) I r d' Q Ec hm P)
  | .aug x q o e p, F, ρ, X, d, s, hC, O, SF, h, I => by
    have h3 := and_r h; have h1 := of_decide_eq_true (and_l (and_l h)); have h2 := and_r (and_l h)
    exact fun r d' Q Ec hm P => execsOne (sAug O SF (getD_some h1) h2 ((allOk hs e F ρ O (hC ▸ G)).ex h3) I r d' Q Ec hm P)
  | .setI x q i r0 e p, F, ρ, X, d, s, hC, O, SF, h, I => by
    have h3 := and_r h; have h1 := of_decide_eq_true (and_l (and_l h)); have h2 := and_r (and_l h)
    exact fun r d' Q Ec hm P => execsOne (sSetI O (getD_some h1) ((allOk hs i F ρ O (hC ▸ G)).ex h2) ((allOk hs e F ρ O (hC ▸ G)).ex h3) I r d' Q Ec hm P)
  | .app x q r0 e t p, F, ρ, X, d, s, hC, O, SF, h, I => by
    have h3 := and_r h; have h1 := of_decide_eq_true (and_l (and_l h)); have h2 := and_r (and_l h)
    exact fun r d' Q Ec hm P => execsOne (sApp O (getD_some h1) h2 (ok_raw h3) ((allOk hs e F ρ O (hC ▸ G)).ex h3) I r d' Q Ec hm P)
  | .ret e p, F, ρ, X, d, s, hC, O, SF, h, I => by
    exact fun r d' Q Ec hm P => execsOne (sRet O ((allOk hs e F ρ O (hC ▸ G)).ex h) I r d' Q Ec hm P)
  | .frz x, F, ρ, X, d, s, hC, O, SF, h, I => by
    exact fun r d' Q Ec hm P => sFrz (getD_some (of_decide_eq_true h)) I r d' Q Ec hm P
  | .ite c a b p, F, ρ, X, d, s, hC, O, SF, h, I => by
    have h3 := and_r h; have h1 := and_l (and_l h); have h2 := and_r (and_l h)
    exact fun r d' Q Ec hm P => execsOne (sIte O ((allOk hs c F ρ O (hC ▸ G)).cd h1) (fun X d s J => sOk hs G RZ a F ρ X d s hC O SF h2 J) (fun X d s J => sOk hs G RZ b F ρ X d s hC O SF h3 J) I r d' Q Ec hm P)
  | .whl c b p, F, ρ, X, d, s, hC, O, SF, h, I => by
    exact fun r d' Q Ec hm P => execsOne (sWhl O SF (fun ρ => (allOk hs c F ρ O (hC ▸ G)).cd (and_l h)) (fun ρ X d s J => sOk hs G RZ b F ρ X d s hC O SF (and_r h) J) I r d' Q Ec hm P)
  | .for x q e b p, F, ρ, X, d, s, hC, O, SF, h, I => by
    have h4 := and_r h; have q := and_l h; have h3 := and_r q; have h1 := of_decide_eq_true (and_l (and_l q)); have h2 := and_r (and_l q)
    exact fun r d' Q Ec hm P => execsOne (sFor O SF (getD_some h1) h2 (ok_raw h3) ((allOk hs e F ρ O (hC ▸ G)).ex h3) (fun y ρ X d s OY SY J => sOk hs G RZ b (F.onY y) ρ X d s hC OY SY h4 J) I r d' Q Ec hm P)
  | .raise msg e q r0 t p, F, ρ, X, d, s, hC, O, SF, h, I => by
    replace h := And.intro (of_decide_eq_true (show decide (F.env.scope.names.lookup (Str.ofString "SyntaxDie") = some .globalImplicit) = true from and_l h)) (and_r h)
    refine fun r d' Q Ec hm P => execsOne ?_
    subst hC
    cases r with
    | ok a =>
      exfalso
      rcases M.bind_eq_some hm with ⟨l, d1, e1, e2⟩ | ⟨a, d1, e1, e2⟩
      · cases e2
      · cases a <;> cases e2
    | error l => exact RZ F ρ X d s msg e q r0 t p l d' Q Ec rfl O SF h.1 (ok_raw h.2) ((allOk hs e F ρ O G).ex h.2) I hm P
  | .cont p, F, ρ, X, d, s, hC, O, SF, h, I => fun r d' Q Ec hm P => execsOne (sCont I r d' Q Ec hm P)
  | .tryl e ps, F, ρ, X, d, s, hC, O, SF, h, I => no h
end
end Mine
namespace Mine
open PySem PySem.W PyProof.Rows PySem.Calls

set_option tactic.hygienic false
theorem bindL_other {k : Str → Option NameKind} {x : Str} : ∀ {l : List (Str × Value)} {m : Str → Option Value}, (∀ p ∈ l, p.1 ≠ x) → bindL k l m x = m x
  | [], _, _ => rfl
  | (n, v) :: l, m, h => by
    unfold bindL
    rw [bindL_other fun p hp => h p (.tail _ hp)]
    split
    · exact if_neg fun q => h (n, v) (.head _) q.symm
    · rfl
theorem bindC_other {k : Str → Option NameKind} {x : Str} : ∀ {l : List (Str × Value)} {m : Str → Option Value}, (∀ p ∈ l, p.1 ≠ x) → bindC k l m x = m x
  | [], _, _ => rfl
  | (n, v) :: l, m, h => by
    unfold bindC
    rw [bindC_other fun p hp => h p (.tail _ hp)]
    split
    · rfl
    · exact if_neg fun q => h (n, v) (.head _) q.symm
theorem bind_get {k : Str → Option NameKind} : ∀ {ps : List Str} {vs : List Value} {m : Str → Option Value} {i : Nat} {x : Str} {v : Value}, ps.Nodup → ps[i]? = some x → vs[i]? = some v →
    (k x = some .local → bindL k (ps.zip vs) m x = some v) ∧ (k x ≠ some .local → bindC k (ps.zip vs) m x = some v)
  | [], _, _, _, _, _, _, h, _ => by cases h
  | _ :: _, [], _, _, _, _, _, _, h => by cases h
  | p :: ps, w :: vs, m, 0, x, v, hn, h1, h2 => by
    cases h1; cases h2
    have hno : ∀ q ∈ ps.zip vs, q.1 ≠ p := fun q hq e => (List.nodup_cons.mp hn).1 (e ▸ (List.of_mem_zip hq).1)
    constructor
    · intro hk
      show bindL k (ps.zip vs) _ p = _
      rw [bindL_other hno, if_pos hk]
      exact if_pos rfl
    · intro hk
      show bindC k (ps.zip vs) _ p = _
      rw [bindC_other hno, if_neg hk]
      exact if_pos rfl
  | p :: ps, w :: vs, m, i + 1, x, v, hn, h1, h2 => by
    have ih := fun m => bind_get (k := k) (ps := ps) (vs := vs) (m := m) (i := i) (x := x) (v := v) (List.nodup_cons.mp hn).2 (by simpa using h1) (by simpa using h2)
    exact ⟨fun hk => (ih _).1 hk, fun hk => (ih _).2 hk⟩

theorem cellsFrom_acc {x : Str} : ∀ {names : List (Str × NameKind)} {k : Nat} {acc : List (Str × Addr)}, (acc.lookup x).isSome = true → ((cellsFrom k names acc).lookup x).isSome = true
  | [], _, _, h => h
  | (n, kk) :: r, k, acc, h => by
    unfold cellsFrom
    split
    · refine cellsFrom_acc ?_
      rw [List.lookup_cons]
      cases x == n <;> simp [h]
    · exact cellsFrom_acc h
theorem cellsFrom_some {x : Str} : ∀ {names : List (Str × NameKind)} {k : Nat} {acc : List (Str × Addr)}, (x, NameKind.cell) ∈ names → ((cellsFrom k names acc).lookup x).isSome = true
  | [], _, _, h => by cases h
  | (n, kk) :: r, k, acc, h => by
    unfold cellsFrom
    rcases List.mem_cons.mp h with e | h
    · cases e
      simp only [beq_self_eq_true, if_true]
      exact cellsFrom_acc (by simp)
    · split
      · exact cellsFrom_some h
      · exact cellsFrom_some h

theorem apart_ne : ∀ {cs : List (Str × Addr)} {n n' : Str} {c c' : Addr}, cs.Pairwise (fun x y => x.2 ≠ y.2) → (n, c) ∈ cs → (n', c') ∈ cs → n ≠ n' → c ≠ c'
  | [], _, _, _, _, _, h, _, _ => by cases h
  | x :: cs, n, n', c, c', hp, h1, h2, hne => by
    obtain ⟨p1, p2⟩ := List.pairwise_cons.mp hp
    rcases List.mem_cons.mp h1 with e1 | h1 <;> rcases List.mem_cons.mp h2 with e2 | h2
    · rw [← e1] at e2; cases e2; exact absurd rfl hne
    · have := p1 _ h2; rw [← e1] at this; exact this
    · have := p1 _ h1; rw [← e2] at this; exact Ne.symm this
    · exact apart_ne p2 h1 h2 hne
theorem mem_of_lookupA {n : Str} {c : Addr} : ∀ {l : List (Str × Addr)}, l.lookup n = some c → (n, c) ∈ l
  | [], h => by cases h
  | (m, k') :: l, h => by
    rw [List.lookup_cons] at h
    cases q : n == m with
    | true => rw [q] at h; cases h; rw [eq_of_beq q]; exact .head _
    | false => rw [q] at h; exact .tail _ (mem_of_lookupA h)

/-- a def of the text's -/
structure DefOk (fs : List String) (scope : Scope) (nm ps : List String) (b : S) : Prop where
  kind : scope.kind = .function
  gen : scope.isGenerator = false
  co : scope.isCoroutine = false
  free : ∀ n k, (n, k) ∈ scope.names → k ≠ .free
  pre : ∃ l, nm = ps ++ l
  nodup : (nm.map Str.ofString).Nodup
  plain : ∀ n ∈ nm, (Str.ofString n == ("__debug__" : Str)) = false ∧ (Str.ofString n == ("__classdict__" : Str)) = false
  par : ∀ p ∈ ps, scope.names.lookup (Str.ofString p) = some .local ∨ scope.names.lookup (Str.ofString p) = some .cell

section
variable {n : Nat} {fs : List String} {C : Cx}

noncomputable def cellAddrs (cs : List (Str × Addr)) : List Addr := cs.filterMap fun p => cs.lookup p.1

noncomputable abbrev callFx (F : Fx) (fd : FuncData) (L a : Addr) (X : List Addr) (h : Heap) (nm : List String) : Fx :=
  { C := F.C, A := F.A.deeper (callEnvC fd L a), env := callEnvC fd L a, fenv := callEnvC fd L a, outer := F.fenv :: F.outer, X0 := L :: cellAddrs (cellsFrom (L + 1) fd.scope.names []) ++ F.X0,
    Y0 := X.filter (fun b => decide (b ∉ F.X0)), h0 := h, nm := nm }

theorem initA_get {args : List AV} {n i : Nat} {a : AV} (h : (initA args n)[i]? = some a) : a = .unb ∨ args[i]? = some a := by
  unfold initA at h
  by_cases hi : i < args.length
  · rw [List.getElem?_append_left hi] at h; exact .inr h
  · rw [List.getElem?_append_right (by exact (Nat.le_of_not_lt (by assumption)))] at h
    have := List.mem_of_getElem? h
    exact .inl (List.eq_of_mem_replicate this)

theorem callReady {F : Fx} {X : List Addr} {ρ : List AV} {d : Int} {s : Shared} {a : Addr} {args : List AV} {vs : List Value} {fd : FuncData} {nm ps : List String} {b : S} (O : FOk F (n + 1)) (I : Iv F X ρ d s.heap) (hr : RepL F.C X s.heap args vs)
    (D : DefOk fs fd.scope nm ps b) (hg : fd.globals = mainGlobals) (hb : fd.builtins = builtinsNs) (hlen : args.length = ps.length) {s1 : Shared}
    (x : InCallC s (callEnvC fd s.heap.objs.size a).locals (bindL (callEnvC fd s.heap.objs.size a).kindOf ((ps.map Str.ofString).zip vs) fun _ => none) (callEnvC fd s.heap.objs.size a).cells
        (bindC (callEnvC fd s.heap.objs.size a).kindOf ((ps.map Str.ofString).zip vs) fun _ => none) s1) :
    FOk (callFx F fd s.heap.objs.size a X s.heap nm) n ∧ FS (callFx F fd s.heap.objs.size a X s.heap nm) ∧
      Iv (callFx F fd s.heap.objs.size a X s.heap nm) (s.heap.objs.size :: cellAddrs (cellsFrom (s.heap.objs.size + 1) fd.scope.names []) ++ X) (initA args nm.length) d s1.heap := by
  have liveLt : ∀ {b}, b ∈ X → b < s.heap.objs.size := fun hb => by obtain ⟨ob, e⟩ := I.live _ hb; exact Heap.lt_size e
  have none1 : ∀ {a}, s.heap.objs.size ≤ a → s.heap.get? a = none := fun {a} ha => by
    cases e : s.heap.get? a with
    | none => rfl
    | some ob => exact absurd (Heap.lt_size e) (Nat.not_lt.mpr ha)
  have lstLt : F.C.lst < s.heap.objs.size := by obtain ⟨_, _, _, ⟨ob, e, _⟩, _⟩ := I.cup; exact Heap.lt_size e
  have cupLt : F.C.cup < s.heap.objs.size := liveLt (I.sub _ O.cupX)
  have cab : ∀ {m c}, (m, c) ∈ cellsFrom (s.heap.objs.size + 1) fd.scope.names [] → s.heap.objs.size < c := fun h => x.above _ _ h
  have cabL : ∀ {m c}, (cellsFrom (s.heap.objs.size + 1) fd.scope.names []).lookup m = some c → s.heap.objs.size < c := fun h => cab (mem_of_lookupA h)
  have baseN : ∀ {b}, s.heap.objs.size ≤ b → F.C.base.get? b = none := fun {b} hb => by
    cases e : F.C.base.get? b with
    | none => rfl
    | some o => have := I.stays _ _ e; rw [none1 hb] at this; cases this
  have cellMem : ∀ {b}, b ∈ cellAddrs (cellsFrom (s.heap.objs.size + 1) fd.scope.names []) → s.heap.objs.size < b := fun hb => by
    obtain ⟨p, hp, e⟩ := List.mem_filterMap.mp hb; exact cabL e
  have keep := x.toInCall.keep
  refine ⟨?_, ⟨rfl, rfl, fun m c e => none1 (Nat.le_of_lt (cabL e))⟩, ?_⟩
  · exact {
      frames := by show (F.A.frames.map (callEnvC fd s.heap.objs.size a :: ·)) = _; rw [O.frames]; rfl
      handled := O.handled
      room := by show F.A.depth + 1 + n < _; have := O.room; omega
      units := by show F.A.units + 3 + 100 + 10 * n < _; have := O.units; omega
      kind := D.kind
      globals := hg
      builtins := hb
      cupX := List.mem_append_right _ O.cupX
      lstX := fun q => by
        rcases List.mem_append.mp q with q | q
        · rcases List.mem_cons.mp q with q | q
          · exact Nat.lt_irrefl _ (q ▸ lstLt)
          · exact Nat.lt_irrefl _ (Nat.lt_trans lstLt (cellMem q))
        · exact O.lstX q
      locX := .head _
      locN := none1 (Nat.le_refl _)
      locC := fun q => Nat.lt_irrefl _ (show s.heap.objs.size < s.heap.objs.size from (show s.heap.objs.size = F.C.cup from q) ▸ cupLt)
      cellC := fun m c e q => Nat.lt_irrefl _ (Nat.lt_trans cupLt (q ▸ cabL e))
      cellX := fun m c e => List.mem_append_left _ (.tail _ (List.mem_filterMap.mpr ⟨(m, c), mem_of_lookupA e, e⟩))
      cellA := fun m c m' c' e e' hne => apart_ne x.apart (mem_of_lookupA e) (mem_of_lookupA e') hne
      cellD := fun m hm => by
        rcases hm with hm | hm
        · exact Option.isSome_iff_exists.mp (cellsFrom_some (mem_of_lookup hm))
        · exact absurd rfl (D.free _ _ (mem_of_lookup hm))
      frameX := fun e he L hL => by
        rcases List.mem_cons.mp he with rfl | he
        · cases hL; exact .head _
        · exact List.mem_append_right _ (O.frameX e he L hL)
      yx := fun y hy q => by
        obtain ⟨h1, h2⟩ := List.mem_filter.mp hy
        rcases List.mem_append.mp q with q | q
        · rcases List.mem_cons.mp q with q | q
          · exact Nat.lt_irrefl _ (q ▸ liveLt h1)
          · exact Nat.lt_irrefl _ (Nat.lt_trans (liveLt h1) (cellMem q))
        · exact (of_decide_eq_true h2) q
      frame := rfl
      nodup := D.nodup
      plain := D.plain
      gmg := O.gmg
      gmb := O.gmb
      nolim := O.nolim
      h0b := I.stays }
  · obtain ⟨h1, tk1, rfl⟩ := x.toInCall.same
    have hns := x.toInCall.ns
    obtain ⟨oL, es, ep, hoL, hdL, _⟩ := id hns
    exact {
      stays := fun b o e => keep b o (I.stays b o e)
      ff := ⟨by show fd.scope.kind ≠ _; rw [D.kind]; decide, ⟨s.heap.objs.size, oL, rfl, baseN (Nat.le_refl _), hoL, fun vs q => by rw [hdL] at q; cases q⟩, ffKept (fun b o e hd => ⟨o, keep b o e, hd⟩) I.ff⟩
      sub := fun z hz => by
        rcases List.mem_append.mp hz with q | q
        · exact List.mem_append_left _ q
        · exact List.mem_append_right _ (I.sub z q)
      subY := fun z hz => List.mem_append_right _ (List.mem_filter.mp hz).1
      old := .of keep
      new := fun z hz => by
        rcases List.mem_append.mp hz with q | q
        · rcases List.mem_cons.mp q with q | q
          · exact baseN (Nat.le_of_eq q.symm)
          · exact baseN (Nat.le_of_lt (cellMem q))
        · exact I.new z q
      live := fun z hz => by
        rcases List.mem_append.mp hz with q | q
        · rcases List.mem_cons.mp q with q | q
          · exact ⟨oL, q ▸ hoL⟩
          · obtain ⟨p, hp, e⟩ := List.mem_filterMap.mp q
            obtain ⟨o, ho, _⟩ := x.cell _ _ e
            exact ⟨o, ho⟩
        · obtain ⟨o, ho⟩ := I.live z q; exact ⟨o, keep z o ho⟩
      lst := fun hz => by
        rcases List.mem_append.mp hz with q | q
        · rcases List.mem_cons.mp q with q | q
          · exact Nat.lt_irrefl _ (q ▸ lstLt)
          · exact Nat.lt_irrefl _ (Nat.lt_trans lstLt (cellMem q))
        · exact I.lst q
      cup := I.cup.keeps keep
      ns := ⟨_, hns⟩
      cells := fun m c e => ⟨_, x.cell m c e⟩
      vars := fun i m av e e' => by
        rcases initA_get e with rfl | e
        · trivial
        · obtain ⟨v, hv, hrv⟩ := hr.get e
          have hi : i < ps.length := by rw [← hlen]; exact (List.getElem?_eq_some_iff.mp e).1
          obtain ⟨l, hl⟩ := D.pre
          have hpm : ps[i]? = some m := by rw [hl, List.getElem?_append_left hi] at e'; exact e'
          have hmem : m ∈ ps := List.mem_of_getElem? hpm
          have hnd : (ps.map Str.ofString).Nodup := by
            have := D.nodup
            rw [hl, List.map_append] at this
            exact (List.nodup_append.mp this).1
          have hps : (ps.map Str.ofString)[i]? = some (Str.ofString m) := by simp [hpm]
          have hbg := bind_get (k := (callEnvC fd s.heap.objs.size a).kindOf) (m := fun _ => none) hnd hps hv
          have hr' : Rep F.C (s.heap.objs.size :: cellAddrs (cellsFrom (s.heap.objs.size + 1) fd.scope.names []) ++ X) h1 av v := Rep.move (fun b o e nb => ⟨fun hz => by
            have hb := Heap.lt_size e
            rcases List.mem_append.mp hz with q | q
            · rcases List.mem_cons.mp q with q | q
              · exact Nat.lt_irrefl _ (q ▸ hb)
              · exact Nat.lt_irrefl _ (Nat.lt_trans hb (cellMem q))
            · exact nb q, keep b o e⟩) _ hrv
          refine VarOk.of (F := callFx F fd s.heap.objs.size a X s.heap nm) ?_ hr'
          rcases D.par m hmem with hk | hk
          · exact .inl ⟨hk, _, hns, hbg.1 hk⟩
          · obtain ⟨c, hc⟩ := Option.isSome_iff_exists.mp (cellsFrom_some (k := s.heap.objs.size + 1) (acc := []) (mem_of_lookup hk))
            have := x.cell _ c hc
            rw [hbg.2 (by show fd.scope.names.lookup _ ≠ _; rw [hk]; intro q; cases q)] at this
            exact .inr ⟨.inl hk, c, hc, this⟩ }
end
end Mine
namespace Mine
open PySem PySem.W PyProof.Rows PySem.Calls

section
variable {n : Nat} {fs : List String} {C : Cx}

noncomputable def endA (r : Fl × List AV) : M AV := match r.1 with
  | .ret a => M.pure a
  | _ => M.pure .none

set_option tactic.hygienic true
theorem defCtr {f : String} {a : Addr} {o : Obj} {fd : FuncData} {body : List Stmt} {nm ps : List String} {b : S} {sem : List AV → M (Fl × List AV)}
    (hmg : C.mg (Str.ofString f) = some (.ref a)) (ho : C.base.get? a = some o) (hd : o.data = .func fd) (hcd : C.base.CodeRec fd.code fd.qualname) (hclo : fd.closure = []) (hg : fd.globals = mainGlobals) (hbn : fd.builtins = builtinsNs)
    (hbody : fd.body = .stmts body) (hbind : ∀ vs : List Value, vs.length = ps.length → bindArgs fd ⟨vs, []⟩ = pure ((ps.map Str.ofString).zip vs)) (D : DefOk fs fd.scope nm ps b)
    (hsim : ∀ (F : Fx) X ρ d s, F.C = C → F.nm = nm → F.env.scope = fd.scope → FOk F n → FS F → Iv F X ρ d s.heap → SSim F s d (execs body F.env) (sem ρ))
    (hF : ∀ args d r, C.g.F f args d = some r → args.length = ps.length ∧ M.bind (sem (initA args nm.length)) endA d = some r) : Ctr C (n + 1) f := by
  intro F X ρ d s a' args vs hC O I hmg' hr r d' Q Ec hm P
  subst hC
  rw [hmg] at hmg'; cases hmg'
  obtain ⟨hlen, hm⟩ := hF args d _ hm
  have hvl := RepL.length hr
  refine wpAny_call (codeAny_call_cells (fd := fd) (body := body) (binds := (ps.map Str.ofString).zip vs) (by have := O.room; omega) (I.stays _ _ ho) hd (O.nolim.keeps I.stays) (hcd.keeps I.stays) hbody (hbind vs (by omega)) hclo ?_ ?_ D.co D.gen D.kind)
  · intro x hx
    obtain ⟨h1, _⟩ := List.of_mem_zip hx
    obtain ⟨p, hp, e⟩ := List.mem_map.mp h1
    rcases D.par p hp with q | q
    · exact .inl (by rw [← e]; exact q)
    · exact .inr ⟨by rw [← e]; exact q, by rw [← e]; exact cellsFrom_some (mem_of_lookup q)⟩
  intro s1 x
  obtain ⟨O2, S2, I2⟩ := callReady (nm := nm) (b := b) O I hr D hg hbn hlen x
  obtain ⟨h1, tk1, rfl⟩ := x.toInCall.same
  have hsub : ∀ {X' : List Addr}, (∀ z ∈ (callFx F fd s.heap.objs.size a X s.heap nm).X0, z ∈ X') → (∀ z ∈ (callFx F fd s.heap.objs.size a X s.heap nm).Y0, z ∈ X') → ∀ z ∈ X, z ∈ X' := fun {X'} h0 hY z hz => by
    by_cases q : z ∈ F.X0
    · exact h0 z (List.mem_append_right _ q)
    · exact hY z (List.mem_filter.mpr ⟨hz, decide_eq_true q⟩)
  have hdrop : ∀ {h'}, Kept (callFx F fd s.heap.objs.size a X s.heap nm).X0 [F.C.cup] s.heap h' → Kept F.X0 [F.C.cup] s.heap h' := fun k => k.drop (fun z hz => by
    rcases List.mem_append.mp hz with q | q
    · right
      cases e : s.heap.get? z with
      | none => rfl
      | some ob =>
        have hb := Heap.lt_size e
        rcases List.mem_cons.mp q with q | q
        · exact absurd hb (by rw [q]; exact Nat.lt_irrefl _)
        · obtain ⟨p, hp, e⟩ := List.mem_filterMap.mp q
          exact absurd (Nat.lt_trans hb (x.above _ _ (mem_of_lookupA e))) (Nat.lt_irrefl _)
    · exact .inl q) fun z hz => .inl hz
  have oldN : ∀ {z}, s.heap.get? z = none → F.h0.get? z = none := fun {z} hz => by
    cases e : F.h0.get? z with
    | none => rfl
    | some ob =>
      by_cases q : z = F.C.cup
      · obtain ⟨⟨_, oc, hoc, _⟩, _⟩ := I.cup
        rw [q, hoc] at hz; cases hz
      · obtain ⟨⟨sl, e1⟩, _⟩ := I.old _ _ e (by simpa using q)
        rw [hz] at e1; cases e1
  have err : ∀ {l d'}, Post F s (RepR F X) Q Ec (.error l) d' → ErrOk (callFx F fd s.heap.objs.size a X s.heap nm) d' l ⟨h1, s.gens, s.drawn, tk1, s.os⟩ (fun e s' => wpAny (model F.C.prog F.C.w) (F.A.deeper (callEnvC fd s.heap.objs.size a)) (leaving (callEnvC fd s.heap.objs.size a) e)
      (fun _ s'' => Ec e s'') (fun e' s'' => Ec e' s'') s') := fun {l d'} P X' e h' tk' I' f' =>
    leaveOk (F := callFx F fd s.heap.objs.size a X s.heap nm) (s := ⟨h', s.gens, s.drawn, tk', s.os⟩) O2 S2 I' f' F.fenv.frame fun h2 tk2 I2 f2 => by
      obtain ⟨hen, oe, vs', Dd, m, t, he, hc, hdd, hdi, hDn, hns, hm', tr⟩ := f2
      refine P e h2 tk2 (hdrop I2.old) I2.cup ⟨oldN hen, oe, vs', Dd, m, t, he, hc, hdd, hdi, ⟨oldN hDn.1, fun q => hDn.2 (List.mem_append_right _ q)⟩, hns, hm', ?_⟩
      rcases tr with tr | ⟨T, oT, ts, t1, t2, t3, t4, t5, t6⟩
      · exact .inl tr
      · exact .inr ⟨T, oT, ts, t1, oldN t2, t3, t4, t5, t6⟩
  have S := hsim (callFx F fd s.heap.objs.size a X s.heap nm) _ _ d ⟨h1, s.gens, s.drawn, tk1, s.os⟩ rfl rfl rfl O2 S2 I2
  rcases M.bind_eq_some hm with ⟨l, d1, e1, e2⟩ | ⟨⟨fl, ρ'⟩, d1, e1, e2⟩
  · cases e2
    exact S _ _ _ _ e1 (err P)
  · refine S _ _ _ _ e1 ?_
    cases fl with
    | next => cases e2; exact fun X' h' tk J _ => P .none h' tk (hdrop J.old) J.cup rfl
    | cont => cases e2; exact fun X' h' tk J _ => P .none h' tk (hdrop J.old) J.cup rfl
    | ret av => cases e2; exact fun X' v h' tk J hv => P v h' tk (hdrop J.old) J.cup (Rep.less (hsub J.sub J.subY) hv)
end
end Mine
namespace Mine
open PySem PySem.W PyProof.Rows PySem.Calls PySem.Builtin PySem.Builtin.ObjectAttr

/-- what stands of the text's two classes -/
structure DieIn (K : Frag) (C : Addr) : Prop where
  cls : ∃ nm q N bs sn sub col dd k0 k1 k2 k3 k5 P, K.lookup C = some (excClassObj nm q C N bs [.ref P, .type "Exception", .type "BaseException", .type "object"] true sn sub false col dd k0 k1 k2 k3 k5 "Exception.__new__")

section
variable {prog : Program} {w : World} {A : Around} {K : Frag} {C : Addr} {R : Result → Shared → Prop} {h : Heap} {g : Array GenState} {d : Drawn} {t : Nat} {os : OsState}

set_option tactic.hygienic false
theorem die_new {rest : List Value} (X : K.In h) (Y : DieIn K C) (hz : rest.length ≤ 1000)
    (hq : R (.ok (.ret (.ref (h.objs.size + 1)))) ⟨(h.push { cls := .type "tuple", data := .seq rest.toArray }).push { cls := .ref C, data := .fields #[.ref h.objs.size, .none, .none, .none, .bool false, .none] }, g, d, t, os⟩) :
    codeAny (model prog w) A (.call (.builtin "Exception.__new__") ⟨.ref C :: rest, []⟩) R ⟨h, g, d, t, os⟩ := by
  obtain ⟨nm, q, N, bs, sn, sub, col, dd, k0, k1, k2, k3, k5, P, hK⟩ := Y.cls
  have hC := X _ _ hK
  have F := PySem.F.excBase_Exception
  have s1 : Looks (model prog w) h (isSubtype (.ref C) (.type "Exception")) true := fun A Q E s k q => wpAny_isSubtype_exc (k _ _ hC) (by simpa using q)
  have s2 : Looks (model prog w) h (isSubtype (.ref C) (.type "AttributeError")) false := fun A Q E s k q => wpAny_isSubtype_exc (k _ _ hC) (by simpa using q)
  have s3 : Looks (model prog w) h (isSubtype (.ref C) (.type "NameError")) false := fun A Q E s k q => wpAny_isSubtype_exc (k _ _ hC) (by simpa using q)
  have mb : Looks (model prog w) h (Bind.madeBy (.ref C)) (some "Exception.__new__") := fun A Q E s k q => wpAny_madeBy_exc (k _ _ hC) q
  have sb : Looks (model prog w) h (Bind.staticBase (.ref C)) (.ref C) := fun A Q E s k q => wpAny_staticBase_exc (k _ _ hC) q
  have mh : Looks (model prog w) h (Bind.madeHere "BaseException.__new__" (.ref C)) () := fun A Q E s k q => wpAny_madeHere_exc F.canon (k _ _ hC) q
  refine codeAny_call_builtin_code (Code.quiet_builtin _ F.quiet) ?_
  simp only [checkBuiltinCall, F.newKind, F.newSplit, F.newRow]
  repeat (first | simp only [bne_self_eq_false, Bool.false_eq_true, if_false] | lk)
  refine codeAny_builtinAt F.entry ?_
  unfold Builtin.«BaseException.__new__»
  refine PySem.wpAt_bind ?_
  show PySem.wpAt _ _ _ (stack >>= _) _ _ _
  refine PySem.wpAt_bind (PySem.wpAt_stack fun p below => PySem.wpAt_of_wpAny ?_)
  have he := F.ends
  simp only [he, if_true]
  refine wpAny_pure (PySem.wpAt_of_wpAny ?_)
  rw [F.owner]
  repeat (first | simp only [bne_self_eq_false, Bool.false_eq_true, if_false, Bool.not_true] | lk)
  rw [if_neg (by rw [List.size_toArray, sizeLine']; omega)]
  repeat (first | simp only [bne_self_eq_false, Bool.false_eq_true, if_false, Bool.not_true] | lk)
  refine nd_load (Heap.get?_push_of_some _ (Heap.get?_push_of_some _ hC)) ?_
  repeat (first | simp only [bne_self_eq_false, Bool.false_eq_true, if_false, Bool.not_true] | lk)
  show R _ _
  rw [Heap.size_push]
  exact hq

/-- the class is called: its own __init__ is called on what is new -/
theorem die_call {rest : List Value} {fI : Addr} (X : K.In h) (Y : DieIn K C) (hi : findIn K (.ref C) "__init__" = some (some (.ref fI))) (hf : typeIn K (.ref fI) = some (.type "function")) (hz : rest.length ≤ 1000)
    (hq : codeAny (model prog w) (A.under (.builtin "type.__call__" ⟨.ref C :: rest, []⟩)) (.call (.ref fI) ⟨.ref (h.objs.size + 1) :: rest, []⟩) (InitBack (h.objs.size + 1) R)
      ⟨(h.push { cls := .type "tuple", data := .seq rest.toArray }).push { cls := .ref C, data := .fields #[.ref h.objs.size, .none, .none, .none, .bool false, .none] }, g, d, t, os⟩) :
    codeAny (model prog w) A (.call (.ref C) ⟨rest, []⟩) R ⟨h, g, d, t, os⟩ := by
  obtain ⟨nm, q, N, bs, sn, sub, col, dd, k0, k1, k2, k3, k5, P, hK⟩ := id Y.cls
  have hC := X _ _ hK
  have call : Looks (model prog w) h (specialOf (.ref C) "__call__") (some (.builtin "type.__call__")) := ((Looks.ld hC).andThen .now).andThen (Looks.of_pure tc_lookup)
  have typ : Looks (model prog w) h (isInstance (.ref C) (.type "type")) true := ((Looks.ld hC).andThen .now).andThen (Looks.of_pure tc_sub)
  have mb : Looks (model prog w) h (Bind.madeBy (.ref C)) (some "Exception.__new__") := fun A Q E s k q => wpAny_madeBy_exc (k _ _ hC) q
  have hm : Looks (model prog w) h (mroOf (.ref C)) [.ref C, .ref P, .type "Exception", .type "BaseException", .type "object"] := fun A Q E s k q => wpAny_mroOf_exc (k _ _ hC) q
  refine codeAny_of_tree ?_
  show wpAny _ _ (callAny (.ref C) _) _ _ _
  refine nd_load hC ?_
  show wpAny _ _ (callAny.viaDunder (.ref C) _) _ _ _
  unfold callAny.viaDunder
  refine wpAny_bind (call.at ?_)
  dsimp only
  rw [tc_bind]
  refine wpAny_bind (wpAny_pure (wpAny_bind (wpAny_pure ?_)))
  refine wpAny_pure (a := Fin.again (.call (.builtin "type.__call__") ⟨.ref C :: rest, []⟩)) (And.intro rfl ?_)
  refine codeAny_call_builtin_at (Code.quiet_builtin _ (by decide +kernel)) entry_typeCall (check_slot tc_kind tc_split typ (tc_args _ _ _) ?_)
  unfold Builtin.«type.__call__»
  repeat (first | simp only [List.isEmpty_cons, Bool.false_eq_true, if_false] | with_reducible refine wpAny_call ?_ | lk)
  refine die_new X Y hz ?_
  have k : ∀ b o, h.get? b = some o → ((h.push { cls := .type "tuple", data := .seq rest.toArray }).push { cls := .ref C, data := .fields #[.ref h.objs.size, .none, .none, .none, .bool false, .none] }).get? b = some o :=
    fun b o e => Heap.get?_push_of_some _ (Heap.get?_push_of_some _ e)
  have hx : ((h.push { cls := .type "tuple", data := .seq rest.toArray }).push { cls := .ref C, data := .fields #[.ref h.objs.size, .none, .none, .none, .bool false, .none] }).get? (h.objs.size + 1) = some { cls := .ref C, data := .fields #[.ref h.objs.size, .none, .none, .none, .bool false, .none] } := by heap_get
  have t1 : Looks (model prog w) _ (typeOf (.ref (h.objs.size + 1))) (.ref C) := (Looks.ld hx).andThen .now
  have s1 : Looks (model prog w) _ (isSubtype (.ref C) (.ref C)) true := fun A Q E s k' q => wpAny_isSubtype_exc (k' _ _ (k _ _ hC)) (by simpa using q)
  have i1 := (looks_findIn (M := model prog w) X hi).keeps k
  have b1 := (bind_fn (M := model prog w) X (.ref (h.objs.size + 1)) hf).keeps k
  unfold isInstance callSpecial? specialOf
  repeat (first | with_reducible refine wpAny_call ?_ | lk)
  refine codeAny_mono hq fun r s' z => ?_
  rcases r with e | (v | _ | _ | _) <;> first | exact z | exact z.elim | skip
  obtain ⟨rfl, z⟩ := z
  exact wpAny_pure (wpAny_pure z)
end
end Mine
namespace Mine
open PySem PySem.W PyProof.Rows PySem.Calls PySem.Builtin PySem.Builtin.ObjectAttr

section
variable {prog : Program} {w : World} {A : Around} {K : Frag} {C : Addr} {R : Result → Shared → Prop} {h : Heap} {g : Array GenState} {d : Drawn} {t : Nat} {os : OsState} {E : Value → Shared → Prop}

set_option maxHeartbeats 2000000 in
/-- a field of what is new is stored -/
theorem die_set {x : Addr} {ox : Obj} {vs : Array Value} {mA : Str → Option Value} {ns : List Str} {name : Str} {v : Value} {Q : Unit → Shared → Prop} (X : K.In h) (Y : DieIn K C) (hs : findIn K (.ref C) "__setattr__" = some (some (.builtin "object.__setattr__")))
    (ha : findIn K (.ref C) name = some none) (hx : h.get? x = some ox) (hc : ox.cls = .ref C) (hdat : ox.data = .fields vs) (hd : (ox.dict = none ∧ ∀ n, mA n = none) ∨ ∃ dx, ox.dict = some dx ∧ dx ≠ x ∧ h.Ns1 dx mA) (hw : Within mA ns) (hz : ns.length ≤ 1000)
    (hq : ∀ h' tk' dx, h'.get? x = some { ox with dict := some dx } → dx ≠ x → h'.Ns1 dx (fun y => if y = name then some v else mA y) → (∀ b o, b ≠ x → ox.dict ≠ some b → h.get? b = some o → h'.get? b = some o) → (ox.dict = none → dx = h.objs.size) → (∀ z, ox.dict = some z → dx = z) → Q () ⟨h', g, d, tk', os⟩) :
    wpAny (model prog w) A (setAttr (.ref x) name v) Q E ⟨h, g, d, t, os⟩ := by
  obtain ⟨nm, q, N, bs, sn, sub, col, dd, k0, k1, k2, k3, k5, P, hK⟩ := id Y.cls
  have hC := X _ _ hK
  have I : Looks (model prog w) h (typeOf (.ref x)) (.ref C) := hc ▸ (Looks.ld hx).andThen .now
  have hm : Looks (model prog w) h (mroOf (.ref C)) [.ref C, .ref P, .type "Exception", .type "BaseException", .type "object"] := fun A Q E s k q => wpAny_mroOf_exc (k _ _ hC) q
  have sbo : Looks (model prog w) h (isInstance (.ref x) (.type "object")) true := I.andThen fun A Q E s k q => wpAny_isSubtype_exc (k _ _ hC) (by simpa using q)
  have SF := PySem.F.store_object
  refine wpAny_bind (wpAny_mkText (wpAny_bind (wpAny_bind (wpAny_bind (I.at (looks_findIn X hs _ _ _ _ (fun _ _ e => e) (wpAny_holding ?_)))))))
  rw [SF.slot.bind]
  refine wpAny_bind (wpAny_pure (wpAny_bind (wpAny_call ?_)))
  refine codeAny_call_builtin SF.slot.plain SF.entry (@check_slot (model prog w) _ _ ⟨h, g, d, t + 1, os⟩ "object.__setattr__" "object" "__setattr__" (.ref x) [.str name t, v] [] _ SF.kind SF.split sbo (SF.args (.ref x) (.str name t) v) ?_)
  show wpAny _ _ (Builtin.«object.__setattr__» ⟨[.ref x, .str name t, v], []⟩) _ _ _
  rw [osa_eq, refuse_eq]
  refine wpAny_bind (wpAny_bind (I.at (wpAny_bind (hm.at ?_))))
  rw [refuseLoop_ref, refuseLoop_ref, PySem.F.store_Exception.passes]
  refine wpAny_pure (wpAny_bind (I.at (wpAny_bind ((looks_findIn X ha).at (wpAny_bind (wpAny_pure (a := none) ?_))))))
  show wpAny _ _ (storeInOwnDict (.ref x) (.ref C) (.str name t) name v false) _ _ _
  refine wpAny_bind (wpAny_pure (a := ()) (wpAny_bind (wpAny_bind (wpAny_loadPart hx ?_))))
  rw [hc]
  have hcd : Looks (model prog w) h (classData C) { name := nm, bases := bs, mro := [.ref C, .ref P, .type "Exception", .type "BaseException", .type "object"], ns := N, qualname := q, hasDict := true, slotNames := sn, subclasses := sub, abstract := false, collection := col, hasDel := false } := (Looks.ld (part := none) hC).andThen .now
  refine wpAny_bind (hcd.at ?_)
  dsimp only
  rcases hd with ⟨hdn, hmA⟩ | ⟨dx, hdx, hne, hns⟩
  · rw [hdn, hdat]
    have hx₁ : (h.push { cls := .type "dict", data := .dict #[] }).get? x = some ox := Heap.get?_push_of_some _ hx
    have hxs : x ≠ h.objs.size := Nat.ne_of_lt (Heap.lt_size hx)
    refine wpAny_bind (wpAny_alloc' (wpAny_bind (wpAny_update' hx₁ (wpAny_pure ?_))))
    have hx₂ : ((h.push { cls := .type "dict", data := .dict #[] }).update x fun o => { cls := o.cls, dict := some h.objs.size, data := o.data, slots := o.slots }).get? x = some { ox with dict := some h.objs.size } := by
      refine Heap.get?_update_self _ hx₁ ?_
      obtain ⟨c, dd, dt, sl⟩ := ox
      subst hdat; rfl
    have hgd : ((h.push { cls := .type "dict", data := .dict #[] }).update x fun o => { cls := o.cls, dict := some h.objs.size, data := o.data, slots := o.slots }).get? h.objs.size = some { cls := .type "dict", data := .dict #[] } :=
      (Heap.get?_update_ne _ _ _ _ hxs.symm).trans (Heap.get?_push_at rfl rfl)
    have old : ∀ b o, b ≠ x → h.get? b = some o → ((h.push { cls := .type "dict", data := .dict #[] }).update x fun o => { cls := o.cls, dict := some h.objs.size, data := o.data, slots := o.slots }).get? b = some o := fun b o hb e =>
      (Heap.get?_update_ne _ _ _ _ hb).trans (Heap.get?_push_of_some _ e)
    generalize ((h.push { cls := .type "dict", data := .dict #[] }).update x fun o => { cls := o.cls, dict := some h.objs.size, data := o.data, slots := o.slots }) = h2 at hx₂ hgd old
    have hnd : h2.Ns h.objs.size (fun _ => none) := ⟨_, #[], _, hgd, rfl, fun e he => absurd he (by simp), fun _ => rfl⟩
    show wpAny _ _ (storeInDict h.objs.size (.str name t) name v) _ _ _
    unfold storeInDict newKeyGuard
    refine wpAny_bind (wpAny_pure (wpAny_bind (wpAny_nsSet1 (Heap.Ns1.of_empty hnd) fun h' hn' hs => ?_)))
    obtain ⟨oD, esD, epD, hoD, hdD, hcD⟩ := hn'.count (Within.cons name v Within.nil)
    refine wpAny_bind (wpAny_lookBehind hoD (by rw [hdD]; exact pastItsLine_dict (Nat.le_trans hcD (by rw [List.length_cons, List.length_nil, sizeLine_eq]; exact (Nat.le_of_ble_eq_true rfl)))) ?_)
    refine wpAny_pure (wpAny_pure (wpAny_pure (hq h' _ h.objs.size ((hs.2 x hxs).trans hx₂) hxs.symm ?_ (fun b o hb _ e => (hs.2 b (Nat.ne_of_lt (Heap.lt_size e))).trans (old b o hb e)) (fun _ => rfl) fun z e => by rw [hdn] at e; cases e)))
    obtain ⟨o', es, ep, e1, e2, e3, eu, e4⟩ := hn'
    exact ⟨o', es, ep, e1, e2, e3, eu, fun y => by rw [e4 y]; by_cases hy : y = name <;> simp [hy, hmA]⟩
  · rw [hdx]
    refine wpAny_pure ?_
    show wpAny _ _ (storeInDict dx (.str name t) name v) _ _ _
    unfold storeInDict newKeyGuard
    refine wpAny_bind (wpAny_pure (wpAny_bind (wpAny_nsSet1 hns fun h' hn' hs => ?_)))
    obtain ⟨oD, esD, epD, hoD, hdD, hcD⟩ := hn'.count (Within.cons name v hw)
    refine wpAny_bind (wpAny_lookBehind hoD (by rw [hdD]; exact pastItsLine_dict (Nat.le_trans hcD (by rw [List.length_cons, sizeLine_eq]; omega))) ?_)
    have hox : ox = { ox with dict := some dx } := by rw [← hdx]
    exact wpAny_pure (wpAny_pure (wpAny_pure (hq h' _ dx ((hs.2 x hne.symm).trans (hox ▸ hx)) hne hn' (fun b o _ hb e => (hs.2 b (fun q => hb (q ▸ hdx))).trans e) (fun e => by rw [hdx] at e; cases e) fun z e => by rw [hdx] at e; exact Option.some.inj e)))
end
end Mine
namespace Mine
open PySem PySem.W PyProof.Rows PySem.Calls PySem.Builtin PySem.Builtin.ObjectAttr PySem.Builtin.BaseException

section
variable {prog : Program} {w : World} {A : Around} {K : Frag} {s : Shared} {E : Value → Shared → Prop} {env : Env}

/-- a method is called on what a name holds -/
theorem callMeth {o : Expr} {name : Str} {apos pos : Pos} {args : List Expr} {Q : Value → Shared → Prop} (hbase : attributeBase o name env (eval o env) = eval o env)
    (hform : methodCallForm (args.length + ([] : List Keyword).length) (backTo pos (starEach args env)) (backToKw pos (keywordEach [] env)) = true) (hline : (apos.endLine == pos.line) = true)
    (h : wpAny (model prog w) A (eval o env) (fun ov s1 => ∀ pl, wpAny (model prog w) A (getMethod ov name pl) (fun p s2 => wpAny (model prog w) A (callWith pos p.1 p.2 (backTo pos (starEach args env)) []) Q E s2) E s1) E s) :
    wpAny (model prog w) A (eval (.Call (.Attribute o name apos) args [] pos) env) Q E s := by
  rw [arm_eval_Call, hbase]
  refine wpAny_bind (wpAny_mono h (fun ov s₁ h₁ => wpAny_bind (wpAny_standAt ?_)) fun _ _ e => e)
  unfold methodCall
  rw [hform]
  refine wpAny_bind (wpAny_holding (wpAny_mono (h₁ _) (fun p s2 h2 => ?_) fun _ _ e => e))
  have hpos : methodCallPos true o env apos pos = pure pos := by unfold methodCallPos; simp [hline]
  exact wpAny_bind (wpAny_of_eq hpos h2)

theorem excAttr {Q : Value → Shared → Prop} {expr : Bool} (h : Q (.builtin "Exception.__init__") { s with toks := s.toks + 1 }) : wpAny (model prog w) A (getAttr (.type "Exception") "__init__" expr) Q E s := by
  refine cls_open (K := []) (mc := .type "type") (r := .val (.builtin "Exception.__init__")) (hook := none) (fun a o e => by cases e) (Looks.of_pure (by kernel_rfl)) (Looks.of_pure (by kernel_rfl)) (by kernel_rfl) (Looks.of_pure rfl) (by kernel_rfl) (by kernel_rfl) ?_
  refine wpAny_pure ?_
  show wpAny _ _ (handedOut (.builtin "Exception.__init__")) _ _ _
  rw [handedOut_of (by decide +kernel)]
  exact wpAny_pure h

theorem excMeth {Q : Value × List Value → Shared → Prop} {pl : Sem Bool} (h : Q (.builtin "Exception.__init__", []) { s with toks := s.toks + 1 }) : wpAny (model prog w) A (getMethod (.type "Exception") "__init__" pl) Q E s := by
  unfold getMethod
  have hg : specialIn ([] : Frag) (.builtin "x") "y" = specialIn [] (.builtin "x") "y" := rfl
  have L : Looks (model prog w) s.heap (specialOf (.type "Exception") "__getattribute__") (some (.builtin "type.__getattribute__")) := (Looks.of_pure (r := .type "type") (by kernel_rfl)).andThen (looks_findIn (K := []) (fun a o e => by cases e) (by kernel_rfl))
  refine wpAny_bind (L.here ?_)
  dsimp only
  rw [if_pos canon_tga]
  exact wpAny_bind (excAttr (wpAny_pure h))

theorem excInit {C x : Addr} {ox : Obj} {vs : Array Value} {tv : Value} {t0 : Addr} {Q : Value → Shared → Prop} (X : K.In s.heap) (Y : DieIn K C) (hx : s.heap.get? x = some ox) (hc : ox.cls = .ref C) (hd : ox.data = .fields vs) (h0 : vs[0]? = some (.ref t0))
    (h : Q .none { s with heap := (s.heap.push { cls := .type "tuple", data := .seq #[tv] }).update x (Obj.mapFields (·.setIfInBounds 0 (.ref s.heap.objs.size))) }) :
    wpAny (model prog w) A (call (.builtin "Exception.__init__") [.ref x, tv]) Q E s := by
  obtain ⟨nm, q, N, bs, sn, subs, col, dd, k0, k1, k2, k3, k5, P, hK⟩ := id Y.cls
  have hC := X _ _ hK
  have F := PySem.F.excBase_Exception
  have sbo : Looks (model prog w) s.heap (isInstance (.ref x) (.type "Exception")) true := (hc ▸ (Looks.ld hx).andThen .now : Looks (model prog w) s.heap (typeOf (.ref x)) (.ref C)).andThen fun A Q E s k q => wpAny_isSubtype_exc (k _ _ hC) (by simpa using q)
  refine wpAny_call (codeAny_call_builtin F.init.plain F.initEntry ?_)
  have hstar := F.noStar
  simp only [checkBuiltinCall, F.initKind, F.initSplit, F.initRow]
  obtain ⟨hp, g, d, tk, os⟩ := s
  obtain ⟨oc, odd, odt, osl⟩ := ox
  dsimp only at sbo hc hd hx hC
  subst hc hd
  have hx1 := Heap.get?_push_of_some (h := hp) { cls := .type "tuple", data := .seq #[tv] } hx
  have fin : wpAny (model prog w) A.in1 (setField (.ref x) 0 (.ref hp.objs.size)) (fun _ s' => Q .none s') E ⟨hp.push { cls := .type "tuple", data := .seq #[tv] }, g, d, tk, os⟩ := wpAny_setField hx1 rfl (Array.getElem?_eq_some_iff.mp h0).1 h
  repeat (first | simp only [bne_self_eq_false, Bool.false_eq_true, if_false, Bool.not_true, if_true] | with_reducible refine wpAny_mono fin (fun _ s' z => ?_) (fun _ _ z => z) | lk)
  rw [h0]
  refine wpAny_pure (wpAny_bind (wpAny_mono fin (fun _ s' z => ?_) (fun _ _ z => z)))
  show wpAny _ _ (letGo [.ref t0] []) _ _ _
  unfold letGo
  refine wpAny_bind (wpAny_holding (wpAny_point ?_))
  unfold letGo
  exact wpAny_pure (wpAny_pure z)
end
end Mine
namespace Mine
open PySem PySem.W PyProof.Rows PySem.Calls PySem.Builtin PySem.Builtin.ObjectAttr

/-- the text's two classes and their two defs -/
structure DieK (K : Frag) (C P f5 f3 : Addr) (d5 d3 : FuncData) : Prop where
  die : DieIn K C
  no : ∀ a o, K.lookup a = some o → o.cls ≠ .ref C
  i5 : findIn K (.ref C) "__init__" = some (some (.ref f5))
  t5 : typeIn K (.ref f5) = some (.type "function")
  sa : findIn K (.ref C) "__setattr__" = some (some (.builtin "object.__setattr__"))
  txt : findIn K (.ref C) "text" = some none
  lin : findIn K (.ref C) "line" = some none
  rd : readsIn K P (.type "type") = true
  m3 : findCls K (.ref P) (.type "type") "__init__" = some (.val (.ref f3))
  ga : specialIn K (.ref P) "__getattribute__" = some (some (.builtin "type.__getattribute__"))
  o3 : ∃ o, K.lookup f3 = some o ∧ o.data = .func d3
  o5 : ∃ o, K.lookup f5 = some o ∧ o.data = .func d5
  c3 : ∃ c o vs t, d3.code = .ref c ∧ K.lookup c = some o ∧ o.data = .fields vs ∧ vs[1]? = some (.str d3.qualname t)
  c5 : ∃ c o vs t, d5.code = .ref c ∧ K.lookup c = some o ∧ o.data = .fields vs ∧ vs[1]? = some (.str d5.qualname t)
  b3 : ∃ p1 p2 p3 p4 p5 p6 p7 p8 p9 p10, d3.body = .stmts [.Expr (.Call (.Attribute (.Name "Exception" p1) "__init__" p2) [.Name "self" p3, .Name "text" p4] [] p5) p6, .Assign [.Attribute (.Name "self" p7) "text" p8] (.Name "text" p9) p10] ∧ (p2.endLine == p5.line) = true
  b5 : ∃ p1 p2 p3 p4 p5 p6 p7 p8 p9 p10, d5.body = .stmts [.Expr (.Call (.Attribute (.Name "PerlError" p1) "__init__" p2) [.Name "self" p3, .Name "text" p4] [] p5) p6, .Assign [.Attribute (.Name "self" p7) "line" p8] (.Name "line" p9) p10] ∧ (p2.endLine == p5.line) = true
  n3 : d3.scope.names = [(("self" : Str), NameKind.local), (("text" : Str), NameKind.local), (("Exception" : Str), NameKind.globalImplicit)]
  n5 : d5.scope.names = [(("self" : Str), NameKind.local), (("text" : Str), NameKind.local), (("line" : Str), NameKind.local), (("PerlError" : Str), NameKind.globalImplicit)]
  s3 : d3.scope.kind = .function ∧ d3.scope.isGenerator = false ∧ d3.scope.isCoroutine = false ∧ d3.globals = mainGlobals ∧ d3.builtins = builtinsNs
  s5 : d5.scope.kind = .function ∧ d5.scope.isGenerator = false ∧ d5.scope.isCoroutine = false ∧ d5.globals = mainGlobals ∧ d5.builtins = builtinsNs
  g3 : ∀ a b, bindArgs d3 ⟨[a, b], []⟩ = pure [(("self" : Str), a), (("text" : Str), b)]
  g5 : ∀ a b c, bindArgs d5 ⟨[a, b, c], []⟩ = pure [(("self" : Str), a), (("text" : Str), b), (("line" : Str), c)]

theorem recOf {K : Frag} {h : Heap} {cd : Value} {q : Str} (X : K.In h) (c : ∃ c o vs t, cd = .ref c ∧ K.lookup c = some o ∧ o.data = .fields vs ∧ vs[1]? = some (.str q t)) : h.CodeRec cd q :=
  let ⟨c, o, vs, t, e, g, r⟩ := c; ⟨c, o, vs, t, e, X _ _ g, r⟩

section
variable {prog : Program} {w : World} {A : Around} {K : Frag} {C P f5 f3 : Addr} {d5 d3 : FuncData} {E : Value → Shared → Prop}

theorem localOk {s : Shared} {env : Env} {x : Str} {p : Pos} {m : Str → Option Value} {v : Value} {Q : Value → Shared → Prop} (hk : env.scope.kind = .function) (hl : env.kindOf x = some .local) (hn : s.heap.Ns env.locals m) (hv : m x = some v)
    (hd : (x == ("__debug__" : Str)) = false) (h : Q v s) : wpAny (model prog w) A (eval (.Name x p) env) Q E s := wpAny_Name (wpAny_loadName_local hk hl hn hv h) hd

/-- PerlError.__init__ -/
theorem perl_init {s : Shared} {x t0 : Addr} {ox : Obj} {vs : Array Value} {tv : Value} {mg mb : Str → Option Value} {R : Result → Shared → Prop} (D : DieK K C P f5 f3 d5 d3) (X : K.In s.heap) (hroom : A.depth < recursionLimit) (hlim : s.heap.NoLimit)
    (hg : s.heap.Ns mainGlobals mg) (hb : s.heap.Ns builtinsNs mb) (hge : mg "Exception" = none) (hbe : mb "Exception" = some (.type "Exception"))
    (hx : s.heap.get? x = some ox) (hc : ox.cls = .ref C) (hd : ox.data = .fields vs) (hdi : ox.dict = none) (h0 : vs[0]? = some (.ref t0))
    (hq : ∀ h' tk dx t1, h'.get? x = some { ox with data := .fields (vs.setIfInBounds 0 (.ref t1)), dict := some dx } → dx ≠ x → s.heap.get? dx = none → h'.Ns1 dx (fun y => if y = "text" then some tv else none) → (∀ b o, b ≠ x → s.heap.get? b = some o → h'.get? b = some o) → R (.ok (.ret .none)) { s with heap := h', toks := tk }) :
    codeAny (model prog w) A (.call (.ref f3) ⟨[.ref x, tv], []⟩) R s := by
  obtain ⟨o3, ho3, hd3⟩ := D.o3
  obtain ⟨p1, p2, p3, p4, p5, p6, p7, p8, p9, p10, hbody, hline⟩ := D.b3
  obtain ⟨hk, hgen, hco, hglo, hbui⟩ := D.s3
  have kn : ∀ n, (callEnv d3 s.heap.objs.size f3).kindOf n = [(("self" : Str), NameKind.local), (("text" : Str), NameKind.local), (("Exception" : Str), NameKind.globalImplicit)].lookup n := fun n => by show d3.scope.names.lookup n = _; rw [D.n3]
  refine codeAny_call_def (binds := [(("self" : Str), Value.ref x), (("text" : Str), tv)]) hroom (X _ _ ho3) hd3 hlim (recOf X D.c3) hbody (BindsTo.of_eq (D.g3 _ _)) (by rw [D.n3]; intro y hy; simp at hy; rcases hy with rfl | rfl | rfl <;> decide)
    (by rw [D.n3]; intro y hy; simp at hy; rcases hy with rfl | rfl <;> rfl) (fun h₀ hns k0 => ?_) hco hgen hk
  have hx0 := k0 _ _ hx
  have X0 := X.keeps k0
  have kk : (callEnv d3 s.heap.objs.size f3).scope.kind = .function := hk
  refine wpAny_execs_cons (wpAny_Expr_any ?_ (by unfold interactive; rw [kk]; rfl) rfl)
  refine callMeth rfl rfl hline (Calls.Name_function_global kk (by rw [kn]; decide +kernel) (Calls.loadGlobal_builtin (env := callEnv d3 s.heap.objs.size f3) (mg := mg) (mb := mb) (by show h₀.Ns d3.globals mg; rw [hglo]; exact hg.keeps k0) hge (by show h₀.Ns d3.builtins mb; rw [hbui]; exact hb.keeps k0) hbe ?_) (by decide +kernel))
  intro pl
  refine excMeth (Calls.callWith_builtin rfl (evalArgsL rfl (Calls.spliced_cons (localOk kk (by rw [kn]; decide +kernel) hns (v := .ref x) (by rfl) (by decide +kernel) (Calls.spliced_cons (localOk kk (by rw [kn]; decide +kernel) hns (v := tv) (by rfl) (by decide +kernel) (Calls.spliced_nil ?_)))))))
  refine excInit X0 D.die hx0 hc hd h0 ?_
  have hxL : x < s.heap.objs.size := Heap.lt_size hx
  have hsz : ∀ {b}, b < s.heap.objs.size → b < h₀.objs.size := fun {b} hb => by
    obtain ⟨oL, _, _, hL, _⟩ := hns
    exact Nat.lt_trans hb (Heap.lt_size hL)
  have hx1 : ((h₀.push { cls := .type "tuple", data := .seq #[tv] }).update x (Obj.mapFields (·.setIfInBounds 0 (.ref h₀.objs.size)))).get? x = some { ox with data := .fields (vs.setIfInBounds 0 (.ref h₀.objs.size)) } := by
    refine (Heap.get?_update_self _ (Heap.get?_push_of_some _ hx0) (Obj.isFreed_of_fields (Obj.data_mapFields hd _))).trans ?_
    obtain ⟨c, dd, dt, sl⟩ := ox
    dsimp only at hd
    subst hd; rfl
  have old1 : ∀ b o, b ≠ x → h₀.get? b = some o → ((h₀.push { cls := .type "tuple", data := .seq #[tv] }).update x (Obj.mapFields (·.setIfInBounds 0 (.ref h₀.objs.size)))).get? b = some o := fun b o hb e =>
    (Heap.get?_update_other _ _ (Ne.symm hb)).trans (Heap.get?_push_of_some _ e)
  dsimp only
  generalize ((h₀.push { cls := .type "tuple", data := .seq #[tv] }).update x (Obj.mapFields (·.setIfInBounds 0 (.ref h₀.objs.size)))) = h1 at hx1 old1
  have hLx : s.heap.objs.size ≠ x := Nat.ne_of_gt hxL
  have hns1 : h1.Ns s.heap.objs.size (fun y => [(("self" : Str), Value.ref x), (("text" : Str), tv)].reverse.lookup y) := hns.at' fun o e => old1 _ o hLx e
  have X1 : K.In h1 := fun a o e => old1 _ _ (fun q => by have h2 := X _ _ e; rw [q, hx] at h2; cases h2; exact D.no _ _ e hc) (X0 _ _ e)
  refine wpAny_execs_cons (plainObj_wpAny_Assign_Attribute (localOk kk (by rw [kn]; decide +kernel) hns1 (v := tv) (by rfl) (by decide +kernel) (localOk kk (by rw [kn]; decide +kernel) hns1 (v := .ref x) (by rfl) (by decide +kernel)
    (die_set (mA := fun _ => none) X1 D.die D.sa D.txt hx1 hc rfl (.inl ⟨hdi, fun _ => rfl⟩) Within.nil (by decide) fun h' tk' dx e1 e2 e3 e4 e5 _ => wpAny_execs_nil ?_))))
  refine hq h' tk' dx h₀.objs.size e1 e2 ?_ e3 (fun b o hb e => e4 b o hb (by rw [show ({ ox with data := .fields (vs.setIfInBounds 0 (.ref h₀.objs.size)) } : Obj).dict = none from hdi]; intro q; cases q) (old1 b o hb (k0 b o e)))
  rw [e5 hdi]
  cases q : s.heap.get? h1.objs.size with
  | none => rfl
  | some o =>
    by_cases hb : h1.objs.size = x
    · have hh := Heap.lt_size hx1
      rw [hb] at hh
      exact absurd hh (Nat.lt_irrefl _)
    · exact absurd (Heap.lt_size (old1 _ _ hb (k0 _ _ q))) (Nat.lt_irrefl _)

/-- SyntaxDie.__init__ -/
theorem die_init {s : Shared} {x t0 : Addr} {ox : Obj} {vs : Array Value} {tv lv : Value} {mg mb : Str → Option Value} {R : Result → Shared → Prop} (D : DieK K C P f5 f3 d5 d3) (X : K.In s.heap) (hroom : A.depth + 1 < recursionLimit) (hlim : s.heap.NoLimit)
    (hg : s.heap.Ns mainGlobals mg) (hb : s.heap.Ns builtinsNs mb) (hgp : mg "PerlError" = some (.ref P)) (hge : mg "Exception" = none) (hbe : mb "Exception" = some (.type "Exception"))
    (hx : s.heap.get? x = some ox) (hc : ox.cls = .ref C) (hd : ox.data = .fields vs) (hdi : ox.dict = none) (h0 : vs[0]? = some (.ref t0))
    (hq : ∀ h' tk dx t1, h'.get? x = some { ox with data := .fields (vs.setIfInBounds 0 (.ref t1)), dict := some dx } → dx ≠ x → s.heap.get? dx = none → h'.Ns1 dx (fun y => if y = "line" then some lv else if y = "text" then some tv else none) →
      (∀ b o, b ≠ x → s.heap.get? b = some o → h'.get? b = some o) → R (.ok (.ret .none)) { s with heap := h', toks := tk }) :
    codeAny (model prog w) A (.call (.ref f5) ⟨[.ref x, tv, lv], []⟩) R s := by
  obtain ⟨o5, ho5, hd5⟩ := D.o5
  obtain ⟨o3, ho3, hd3⟩ := D.o3
  obtain ⟨p1, p2, p3, p4, p5, p6, p7, p8, p9, p10, hbody, hline⟩ := D.b5
  obtain ⟨hk, hgen, hco, hglo, hbui⟩ := D.s5
  have kn : ∀ n, (callEnv d5 s.heap.objs.size f5).kindOf n = [(("self" : Str), NameKind.local), (("text" : Str), NameKind.local), (("line" : Str), NameKind.local), (("PerlError" : Str), NameKind.globalImplicit)].lookup n := fun n => by show d5.scope.names.lookup n = _; rw [D.n5]
  refine codeAny_call_def (binds := [(("self" : Str), Value.ref x), (("text" : Str), tv), (("line" : Str), lv)]) (Nat.lt_of_succ_lt hroom) (X _ _ ho5) hd5 hlim (recOf X D.c5) hbody (BindsTo.of_eq (D.g5 _ _ _)) (by rw [D.n5]; intro y hy; simp at hy; rcases hy with rfl | rfl | rfl | rfl <;> decide)
    (by rw [D.n5]; intro y hy; simp at hy; rcases hy with rfl | rfl | rfl <;> rfl) (fun h₀ hns k0 => ?_) hco hgen hk
  have hx0 := k0 _ _ hx
  have X0 := X.keeps k0
  have kk : (callEnv d5 s.heap.objs.size f5).scope.kind = .function := hk
  have hLx : s.heap.objs.size ≠ x := Nat.ne_of_gt (Heap.lt_size hx)
  have hg0 := hg.keeps k0
  have hb0 := hb.keeps k0
  refine wpAny_execs_cons (wpAny_Expr_any ?_ (by unfold interactive; rw [kk]; rfl) rfl)
  refine callMeth rfl rfl hline (Calls.Name_function_global kk (by rw [kn]; decide +kernel) (Calls.loadGlobal_global (env := callEnv d5 s.heap.objs.size f5) (mg := mg) (by show h₀.Ns d5.globals mg; rw [hglo]; exact hg0) hgp ?_) (by decide +kernel))
  intro pl
  refine method_cls X0 D.ga (cls_value (s := ⟨h₀, s.gens, s.drawn, _, s.os⟩) X0 D.rd D.m3 rfl ?_)
  refine Calls.callWith_function (o := o3) (fd := d3) (evalArgsL rfl (Calls.spliced_cons (localOk kk (by rw [kn]; decide +kernel) hns (v := .ref x) (by rfl) (by decide +kernel) (Calls.spliced_cons (localOk kk (by rw [kn]; decide +kernel) hns (v := tv) (by rfl) (by decide +kernel) (Calls.spliced_nil ?_))))))
  refine ⟨⟨X0 _ _ ho3, hd3⟩, wpAny_call ?_⟩
  refine perl_init (s := ⟨h₀, s.gens, s.drawn, _, s.os⟩) D X0 (by show A.depth + 1 < _; exact hroom) (hlim.keeps k0) hg0 hb0 hge hbe hx0 hc hd hdi h0 fun h1 tk dx t1 e1 e2 e3 e4 e5 => ?_
  have hns1 : h1.Ns s.heap.objs.size (fun y => [(("self" : Str), Value.ref x), (("text" : Str), tv), (("line" : Str), lv)].reverse.lookup y) := hns.at' fun o e => e5 _ o hLx e
  have X1 : K.In h1 := fun a o e => e5 _ _ (fun q => by have h2 := X _ _ e; rw [q, hx] at h2; cases h2; exact D.no _ _ e hc) (X0 _ _ e)
  refine wpAny_execs_cons (plainObj_wpAny_Assign_Attribute (localOk kk (by rw [kn]; decide +kernel) hns1 (v := lv) (by rfl) (by decide +kernel) (localOk kk (by rw [kn]; decide +kernel) hns1 (v := .ref x) (by rfl) (by decide +kernel)
    (die_set (mA := fun y => if y = "text" then some tv else none) X1 D.die D.sa D.lin e1 hc rfl (.inr ⟨dx, rfl, e2, e4⟩) (Within.cons "text" tv Within.nil) (by decide) fun h' tk' dy g1 g2 g3 g4 _ g6 => wpAny_execs_nil ?_))))
  obtain rfl : dy = dx := g6 dx rfl
  refine hq h' tk' dy t1 g1 g2 ?_ g3 (fun b o hb e => g4 b o hb (fun q => ?_) (e5 b o hb (k0 b o e)))
  · cases q : s.heap.get? dy with
    | none => rfl
    | some o => rw [k0 _ _ q] at e3; cases e3
  · cases q
    rw [k0 _ _ e] at e3; cases e3
end
end Mine
namespace Mine
open PySem PySem.W PyProof.Rows PySem.Calls PySem.Builtin PySem.Builtin.ObjectAttr

section
variable {C : Cx} {K : Frag} {P f5 f3 : Addr} {d5 d3 : FuncData} {n : Nat}

set_option tactic.hygienic true
theorem raiseOk (D : DieK K C.die P f5 f3 d5 d3) (hK : K.In C.base) (g1 : C.mg "SyntaxDie" = some (.ref C.die)) (g2 : C.mg "PerlError" = some (.ref P)) (g3 : C.mg "Exception" = none) (g4 : C.mb "Exception" = some (.type "Exception")) : RaiseOk C (n + 2) := by
  intro F ρ X d s msg e q r0 t p l d' Q Ec hC O SF hk hr he I hm P0
  subst hC
  obtain ⟨nm, qn, N, bs, sn, subs, col, dd, k0, k1, k2, k3, k5, P', hKC⟩ := id D.die.cls
  rw [arm_exec_Raise]
  refine wpAny_bind (wpAny_standAt ?_)
  show wpAny _ _ (raiseStmt F.env (some (do let v ← eval (.Call (.Name (Str.ofString "SyntaxDie") q) [.Constant (.str (Str.ofString msg)) 0 r0, (tx F.nm e).x] [] t) F.env; standAt p; pure v)) none) _ _ _
  have core : ∀ (x : Addr) (ox : Obj) (vs : Array Value) (s' : Shared), s'.heap.get? x = some ox → ox.cls = .ref F.C.die → ox.data = .fields vs → vs[1]? = some .none → K.In s'.heap → Ec (.ref x) s' →
      wpAny (model F.C.prog F.C.w) F.A (do
        let cv ← (pure none : Sem (Option Value))
        let e ← holding cv.toList (excFromValue (.ref x) "exceptions must derive from BaseException")
        if let some cv := cv then
          let c ← if cv == .none then pure .none else holding [e] (excFromValue cv "exception causes must derive from BaseException")
          setField e 3 c
          setField e 4 (.bool true)
        let e ← if ← isType (.ref x) then holding [e] (raisedFor (.ref x) e) else raisedInstance e
        setFlight e none
        raiseNew e) Q Ec s' := by
    intro x ox vs s' hx hc hd h1 hK' hE
    have hC := hK' _ _ hKC
    have sb : Looks (model F.C.prog F.C.w) s'.heap (isSubtype (.ref F.C.die) (.type "BaseException")) true := fun A Q E s k q => wpAny_isSubtype_exc (k _ _ hC) (by simpa using q)
    obtain ⟨hp, g, dr, tk, os⟩ := s'
    obtain ⟨oc, odd, odt, osl⟩ := ox
    dsimp only at hx hc hd hC sb hE
    subst hc hd
    repeat (first | simp only [Bool.false_eq_true, if_false] | lk)
    rw [h1]
    refine wpAny_pure ?_
    rw [if_neg (by simp)]
    exact wpAny_pure (wpAny_raiseNew_none O.handled hE)
  have hd0 : (Str.ofString "SyntaxDie" == ("__debug__" : Str)) = false := by decide +kernel
  have hh : starEach [(tx F.nm e).x] F.env = [(false, eval (tx F.nm e).x F.env)] := starHead (l := []) (isRaw_of hr)
  have Pe : PostE F { s with toks := s.toks + 1 } Ec (.error l : Except Int (Fl × List AV)) d' := fun X e h' tk => P0 X e h' tk
  have ht : backTo t (starEach [.Constant (.str (Str.ofString msg)) 0 r0, (tx F.nm e).x] F.env) = [(false, eval (.Constant (.str (Str.ofString msg)) 0 r0) F.env), (false, eval (tx F.nm e).x F.env)] := by
    have : starEach [.Constant (.str (Str.ofString msg)) 0 r0, (tx F.nm e).x] F.env = (false, eval (.Constant (.str (Str.ofString msg)) 0 r0) F.env) :: starEach [(tx F.nm e).x] F.env := rfl
    rw [this, hh]
    rfl
  refine wpAny_bind (wpAny_bind (Call_Name ht (globName O I hk hd0 g1 ?_)))
  unfold callWith
  refine wpAny_bind (wpAny_holding (evalArgsL rfl (Calls.spliced_cons (Calls.Constant_str (Calls.spliced_cons ((he X d { s with toks := s.toks + 1 } I).stepS O I hm Pe fun a v h1 tk1 d1 kk1 I1 r1 e1 => Calls.spliced_nil ?_))))))
  cases a <;> try (cases e1; done)
  rename_i ln
  have e1 : M.raise (α := Fl × List AV) ln d1 = some (.error l, d') := e1
  cases e1
  obtain ⟨lt, rfl⟩ := r1
  have K1 : K.In h1 := hK.keeps I1.stays
  have hC1 := K1 _ _ hKC
  refine wpAny_bind (wpAny_standAt (wpAny_bind (wpAny_keeperOf_exc hC1 (wpAny_bind (wpAny_call (die_call K1 D.die D.i5 D.t5 (by simp) ?_))))))
  have kp : ∀ b o, h1.get? b = some o → ((h1.push { cls := .type "tuple", data := .seq #[.str (Str.ofString msg) s.toks, .int l lt] }).push { cls := .ref F.C.die, data := .fields #[.ref h1.objs.size, .none, .none, .none, .bool false, .none] }).get? b = some o :=
    fun b o e => Heap.get?_push_of_some _ (Heap.get?_push_of_some _ e)
  have hx : ((h1.push { cls := .type "tuple", data := .seq #[.str (Str.ofString msg) s.toks, .int l lt] }).push { cls := .ref F.C.die, data := .fields #[.ref h1.objs.size, .none, .none, .none, .bool false, .none] }).get? (h1.objs.size + 1) = some { cls := .ref F.C.die, data := .fields #[.ref h1.objs.size, .none, .none, .none, .bool false, .none] } := by heap_get
  have new1 : ∀ {z}, h1.get? z = none → F.h0.get? z = none := fun {z} hz => by
    cases e : F.h0.get? z with
    | none => rfl
    | some ob =>
      by_cases q : z = F.C.cup
      · obtain ⟨⟨_, oc, hoc, _⟩, _⟩ := I1.cup
        rw [q, hoc] at hz; cases hz
      · obtain ⟨⟨sl, e1⟩, _⟩ := I1.old _ _ e (by simpa using q)
        rw [hz] at e1; cases e1
  have hxn : h1.get? (h1.objs.size + 1) = none := by
    cases e : h1.get? (h1.objs.size + 1) with
    | none => rfl
    | some ob => exact absurd (Heap.lt_size e) (Nat.not_lt.mpr (Nat.le_succ _))
  refine die_init (s := ⟨_, s.gens, s.drawn, tk1, s.os⟩) (mg := F.C.mg) (mb := F.C.mb) D (K1.keeps kp) ?_ ((O.nolim.keeps I1.stays).keeps kp) ((O.gmg.keeps I1.stays).keeps kp) ((O.gmb.keeps I1.stays).keeps kp) g2 g3 g4 hx rfl rfl rfl rfl ?_
  · have hw : (Code.builtin "type.__call__" ⟨.ref F.C.die :: [.str (Str.ofString msg) s.toks, .int l lt], []⟩).weight = 1 := by kernel_rfl
    show F.A.depth + (Code.builtin "type.__call__" ⟨.ref F.C.die :: [.str (Str.ofString msg) s.toks, .int l lt], []⟩).weight + 1 < _
    rw [hw]
    have := O.room
    omega
  intro h2 tk2 dx t1 q1 q2 q3 q4 q5
  have k2 : ∀ b o, h1.get? b = some o → h2.get? b = some o := fun b o e => q5 b o (fun q => by rw [q, hxn] at e; cases e) (kp b o e)
  refine ⟨rfl, wpAny_bind (wpAny_holding (wpAny_point (wpAny_pure (wpAny_bind (wpAny_standAt (wpAny_pure ?_))))))⟩
  refine core (h1.objs.size + 1) _ _ ⟨h2, s.gens, s.drawn, tk2, s.os⟩ q1 rfl rfl rfl (K1.keeps k2) ?_
  have hdx : h1.get? dx = none := by
    cases e : h1.get? dx with
    | none => rfl
    | some ob => exact absurd ((kp _ _ e).symm.trans q3) (by simp)
  refine P0 X (h1.objs.size + 1) h2 tk2 (I1.nil.kept O (.of k2) (I1.cup.keeps k2)) ⟨new1 hxn, _, _, dx, _, lt, q1, rfl, rfl, rfl, ⟨new1 hdx, fun q => by obtain ⟨ob, e⟩ := I1.live _ (I1.sub _ q); rw [hdx] at e; cases e⟩, q4.ns, rfl, .inl rfl⟩
end
end Mine
namespace Mine
open PySem PySem.W PyProof.Rows PySem.Calls PySem.Builtin PySem.Builtin.ObjectAttr

section
variable {prog : Program} {w : World} {A : Around} {K : Frag} {C : Addr} {h : Heap} {g : Array GenState} {d : Drawn} {t : Nat} {os : OsState} {E : Value → Shared → Prop}

set_option tactic.hygienic false
/-- a field of it is read -/
theorem die_get {x dx : Addr} {ox : Obj} {vs : Array Value} {m : Str → Option Value} {name : Str} {v : Value} {expr : Bool} {Q : Value → Shared → Prop} (X : K.In h) (Y : DieIn K C) (hga : findIn K (.ref C) "__getattribute__" = some (some (.builtin "BaseException.__getattribute__")))
    (hgt : findIn K (.ref C) "__getattr__" = some none) (ha : findIn K (.ref C) name = some none) (hx : h.get? x = some ox) (hc : ox.cls = .ref C) (hd : ox.data = .fields vs) (hdi : ox.dict = some dx) (hns : h.Ns dx m) (hv : m name = some v) (hh : handedOut v = pure v)
    (hq : Q v ⟨h, g, d, t + 1, os⟩) : wpAny (model prog w) A (getAttr (.ref x) name expr) Q E ⟨h, g, d, t, os⟩ := by
  obtain ⟨nm, q, N, bs, sn, subs, col, dd, k0, k1, k2, k3, k5, P, hK⟩ := id Y.cls
  have hC := X _ _ hK
  have SL := PySem.F.excAttr_ValueError.ga
  have I : Looks (model prog w) h (typeOf (.ref x)) (.ref C) := hc ▸ (Looks.ld hx).andThen .now
  have sbo : Looks (model prog w) h (isInstance (.ref x) (.type "BaseException")) true := I.andThen fun A Q E s k q => wpAny_isSubtype_exc (k _ _ hC) (by simpa using q)
  have hcd : Looks (model prog w) h (classData C) { name := nm, bases := bs, mro := [.ref C, .ref P, .type "Exception", .type "BaseException", .type "object"], ns := N, qualname := q, hasDict := true, slotNames := sn, subclasses := subs, abstract := false, collection := col, hasDel := false } := (Looks.ld (part := none) hC).andThen .now
  unfold getAttr getAttrBy
  refine wpAny_bind (wpAny_mkText (wpAny_holding (wpAny_bind (I.at (wpAny_bind ((looks_findIn X hga).at ?_))))))
  show wpAny _ _ (if onTheHeap (.ref C) && Value.builtin "BaseException.__getattribute__" == Value.builtin "object.__getattribute__" then _ else getAttrByItsOwn (.ref x) (.str name t) (.ref C) (.builtin "BaseException.__getattribute__") true expr) _ _ _
  rw [show (Value.builtin "BaseException.__getattribute__" == Value.builtin "object.__getattribute__") = false from by decide +kernel, Bool.and_false, if_neg (by decide)]
  unfold getAttrByItsOwn
  have hb : Looks (model prog w) h (hookBefore (.ref C)) none := looks_findIn X hgt
  refine wpAny_bind (hb.at (wpAny_bind (wpAny_attempt (wpAny_holding ?_))))
  unfold callGetattribute
  rw [show (expr && onTheHeap (Value.builtin "BaseException.__getattribute__")) = false from Bool.and_false _, if_neg (by decide)]
  unfold boundAndCalled
  rw [SL.bind]
  refine wpAny_bind (wpAny_pure ?_)
  show wpAny _ _ (call (.builtin "BaseException.__getattribute__") [.ref x, .str name t]) _ _ _
  refine wpAny_call (codeAny_call_builtin SL.plain PySem.F.entry_bexc_ga (@check_slot (model prog w) _ _ ⟨h, g, d, t + 1, os⟩ "BaseException.__getattribute__" "BaseException" "__getattribute__" (.ref x) [.str name t] [] _ (by decide +kernel) (by decide +kernel) sbo (PySem.F.args_bexc_ga _ _) ?_))
  have L1 := looks_findIn (M := model prog w) X ha
  unfold Builtin.«object.__getattribute__»
  refine wpAny_bind (wpAny_pure (wpAny_bind (wpAny_pure (wpAny_bind (I.at (wpAny_bind ?_))))))
  refine wpAny_bind (L1.at (wpAny_bind (wpAny_pure (a := none) (wpAny_bind (wpAny_pure (a := none) ?_)))))
  show wpAny _ _ (ownThenClass (.ref x) name none none) _ _ _
  refine wpAny_bind (wpAny_bind (wpAny_bind (wpAny_loadPart hx ?_)))
  rw [hd]
  refine wpAny_bind (wpAny_loadPart hx ?_)
  rw [hc]
  refine wpAny_bind (hcd.at ?_)
  rw [hdi]
  refine wpAny_pure (a := some dx) (wpAny_nsGet hns ?_)
  rw [hv]
  refine wpAny_bind (wpAny_rule (wpAny_pure (wpAny_pure ?_)))
  show wpAny _ _ (handedOut v) _ _ _
  rw [hh]
  exact wpAny_pure hq
end
end Mine
namespace Mine
open PySem PySem.W PyProof.Rows PySem.Calls PySem.Builtin PySem.Builtin.ObjectAttr

section
variable {F : Fx} {n : Nat} {fs : List String} {ρ : List AV} {X : List Addr} {d : Int} {h h' : Heap} {s : Shared}

theorem Iv.loc (O : FOk F n) (I : Iv F X [] d h) (hs : Heap.SameBut F.env.locals h h') {m : Str → Option Value} (hn : h'.Ns F.env.locals m) : Iv F X [] d h' := by
  have k : ∀ b o, b ≠ F.env.locals → h.get? b = some o → h'.get? b = some o := fun b o hb e => hs.extBut b o hb e
  obtain ⟨oL, es, ep, hoL, hdL, _⟩ := id hn
  obtain ⟨m0, o0, es0, ep0, ho0, hd0, _⟩ := id I.ns
  exact I.pokeX (x := 0) O O.locX O.locC O.locN k ⟨oL, hoL, fun vs q => by rw [hdL] at q; cases q⟩ ⟨m, hn⟩ (fun nm c e => by
    obtain ⟨v, o, ho, hd⟩ := I.cells nm c e
    exact ⟨v, o, k _ o (fun q => by rw [q, ho0] at ho; cases ho; rw [hd0] at hd; cases hd) ho, hd⟩) (fun i m v _ ⟨a, e⟩ => by cases e)

theorem restOk (O : FOk F n) {A : Around} (I : Iv F X [] d s.heap) {e : Addr} {l : Int} (f : Fly F.C F.X0 F.h0 none s.heap e l) {Q : Unit → Shared → Prop} {Ec : Value → Shared → Prop}
    (B : ∀ h' tk, Iv F X [] d h' → Fly F.C F.X0 F.h0 none h' e l → Q () { s with heap := h', toks := tk }) : wpAny (model F.C.prog F.C.w) A (setFlight (.ref e) none) Q Ec s := by
  obtain ⟨hen, oe, vs, D, m, t, he, hc, hd, hdi, hDn, hns, hm, tr⟩ := f
  unfold setFlight
  rcases tr with h1 | ⟨T, oT, ts, h1, hTn, hTe, hT, hTd, h3⟩
  · refine wpAny_bind (wpAny_field he hd h1 ?_)
    rw [if_neg (by simp)]
    exact wpAny_pure (B s.heap s.toks I ⟨hen, oe, vs, D, m, t, he, hc, hd, hdi, hDn, hns, hm, .inl h1⟩)
  · refine wpAny_bind (wpAny_field he hd h1 ?_)
    rw [if_pos (show (Value.ref T != Value.none) = true from by simp)]
    have h3' : ts[3]? = some .none := h3.resolve_right fun ⟨_, q, _⟩ => by cases q
    have hsz : 3 < ts.size := (Array.getElem?_eq_some_iff.mp h3').1
    refine wpAny_setField hT hTd hsz ?_
    have hd₃ := Obj.data_mapFields (o := oT) hTd (·.setIfInBounds 3 Value.none)
    have hT' := Heap.get?_update_self (Obj.mapFields (·.setIfInBounds 3 Value.none)) hT (Obj.isFreed_of_fields hd₃)
    have other : ∀ b o, b ≠ T → s.heap.get? b = some o → (s.heap.update T (Obj.mapFields (·.setIfInBounds 3 Value.none))).get? b = some o := fun b o hb e => by
      rw [Heap.get?_update_other _ _ (Ne.symm hb)]; exact e
    have I2 : Iv F X [] d (s.heap.update T (Obj.mapFields (·.setIfInBounds 3 Value.none))) := I.fld O hT hTd hTn other ⟨_, hT'⟩
    have hDT : D ≠ T := fun q => by
      obtain ⟨oD, es, ep, hoD, hdD, _⟩ := hns
      rw [q, hT] at hoD; cases hoD; rw [hTd] at hdD; cases hdD
    exact B _ s.toks I2 ⟨hen, oe, vs, D, m, t, other _ _ (Ne.symm hTe) he, hc, hd, hdi, hDn, hns.at' fun o e => other _ o hDT e, hm, .inr ⟨T, _, _, h1, hTn, hTe, hT', hd₃, .inl (by simp [hsz])⟩⟩

theorem sTry {K : Frag} {P f5 f3 : Addr} {d5 d3 : FuncData} {e : E} {ps : List Pos} (D : DieK K F.C.die P f5 f3 d5 d3) (hK : K.In F.C.base) (hga : findIn K (.ref F.C.die) "__getattribute__" = some (some (.builtin "BaseException.__getattribute__")))
    (hgt : findIn K (.ref F.C.die) "__getattr__" = some none) (g1 : F.C.mg "SyntaxDie" = some (.ref F.C.die)) (O : FOk F n) (SF : FS F) (hr : isRaw e = false) (he : ExOk F ρ e)
    (hk1 : F.env.kindOf "SyntaxDie" = some .globalImplicit) (hk2 : F.env.kindOf "fault" = some .local) (I : Iv F X ρ d s.heap) : SSim F s d (execs (tst F.nm (.tryl e ps)) F.env) (ds F.C.g (.tryl e ps) ρ) := by
  intro r d' Q Ec hm P
  obtain ⟨nm, qn, N, bs, sn, subs, col, dd, k0, k1, k2, k3, k5, P', hKC⟩ := id D.die.cls
  have hpk : (F.env.scope.kind == .class || (F.env.scope.kind == .module && F.env.locals != F.env.globals)) = false := by rw [O.kind]; rfl
  refine execsOne (wpAny_Try_except ?_)
  change (match oneA ((dn F.C.g e).e ρ) d with
      | some (.ok a, d') => some (.ok (.ret a, ρ), d')
      | some (.error l, d') => some (.ok (.ret (.int l), ρ), d')
      | none => none) = some (r, d') at hm
  cases hc : oneA ((dn F.C.g e).e ρ) d with
  | none => rw [hc] at hm; cases hm
  | some p =>
    obtain ⟨re, d1⟩ := p
    rw [hc] at hm
    cases re with
    | ok a =>
      cases hm
      exact execsOne (wpAny_Return_some (he X d s I _ _ _ _ hc fun v h' tk k c rv => P X v h' tk (I.kept O k c).nil rv))
    | error l =>
      cases hm
      refine execsOne (wpAny_Return_some (he X d s I _ _ _ _ hc fun ex h1 tk1 k c f => ?_))
      refine noteOk (s := ⟨h1, s.gens, s.drawn, tk1, s.os⟩) O SF (I.kept O k c).nil f fun h2 tk2 I2 f2 => flightOk (s := ⟨h2, s.gens, s.drawn, tk2, s.os⟩) O I2 f2 (fr' := none) (.inl rfl) fun h3 tk3 I3 f3 => ?_
      have K3 := hK.keeps I3.stays
      have f3' := f3
      obtain ⟨_, oe, vs, D3, m3, t3, he3, hc3, hd3, hdi3, _⟩ := f3'
      refine wpAny_handleBy_cons (codeAny_handlers_test ?_) (by intro q; cases q)
      refine Calls.Name_function_global O.kind hk1 (Calls.loadGlobal_global (env := F.env) (by rw [O.globals]; exact O.gmg.keeps I3.stays) g1 ?_) (by decide +kernel)
      refine wpAny_excMatches_sub_self (h := h3) (K3 _ _ hKC) he3 hc3 (by rw [List.contains_cons]; rfl) ?_
      refine codeAny_of_tree ?_
      show wpAny _ _ (do return Fin.done (← (handleWith (.ref ex) F.env [.ExceptHandler none (some "fault") _ _]).onRaise (fun x => do noteFrame x F.env; theTreesLotGoes x))) _ _ _
      refine wpAny_bind (wpAny_noted ?_)
      unfold handleWith
      refine wpAny_bind (wpAny_standAt (wpAny_bind (restOk (s := ⟨h3, s.gens, s.drawn, tk3, s.os⟩) O I3 f3 fun h4 tk4 I4 f4 => ?_)))
      obtain ⟨mL, hnL⟩ := I4.ns
      refine wpAny_bind (wpAny_bindName (wpAny_storeName_local hk2 hnL (fun h5 hn5 hs5 => ?_) hpk))
      have I5 := I4.loc O hs5 hn5
      obtain ⟨_, oe4, vs4, D4, m4, t4, he4, hc4, hd4, hdi4, ⟨_, hDX⟩, hns4, hm4, _⟩ := f4
      obtain ⟨oL, es, ep, hoL, hdL, _⟩ := id hnL
      have k5 : ∀ b o, b ≠ F.env.locals → h4.get? b = some o → h5.get? b = some o := fun b o hb e => hs5.extBut b o hb e
      have he5 := k5 _ _ (fun q => by rw [q, hoL] at he4; cases he4; rw [hdL] at hd4; cases hd4) he4
      have hns5 : h5.Ns D4 m4 := hns4.at' fun o e => k5 _ o (fun q => hDX (q ▸ O.locX)) e
      refine wpAny_bind (wpAny_attempt (execsOne (wpAny_Return_some ?_)))
      rw [arm_eval_Attribute]
      refine wpAny_bind (wpAny_Name (wpAny_loadName_local O.kind hk2 hn5 (v := .ref ex) (by simp) (wpAny_bind (wpAny_standAt (wpAny_bind (wpAny_holding ?_))))) (by decide +kernel))
      refine die_get (hK.keeps I5.stays) D.die hga hgt D.lin he5 hc4 hd4 hdi4 hns5 hm4 rfl ?_
      refine wpAny_bind (wpAny_pure (wpAny_pure (wpAny_pure (wpAny_pure ?_))))
      dsimp only
      refine wpAny_bind (wpAny_bindName (wpAny_storeName_local hk2 hn5 (fun h6 hn6 hs6 => ?_) hpk))
      have I6 := I5.loc O hs6 hn6
      unfold unbindBehindTheSuite
      refine wpAny_onRaise (wpAny_unbindName_local hk2 hn6 (v := .none) (by simp) hpk fun h7 u hn7 hs7 => ?_)
      exact P X _ h7 _ (I6.loc O hs7 hn7) ⟨t4, rfl⟩
end
end Mine
namespace Mine
open PySem

/-- remark_end -/
noncomputable abbrev nremarkend : List String := ["text", "at", "end"]
noncomputable def bremarkend : S := (.seq (.asg 2 ⟨3, 4, 3, 7⟩ (.meth .find (.var 0 ⟨3, 10, 3, 14⟩) ⟨3, 10, 3, 19⟩ (.cons (.str "\n" [10] ⟨3, 20, 3, 24⟩) (.cons (.var 1 ⟨3, 26, 3, 28⟩) .nil)) ⟨3, 10, 3, 29⟩) ⟨3, 4, 3, 29⟩)
  (.ret (.ite (.cmp .lt (.var 2 ⟨4, 24, 4, 27⟩) (.num 0 ⟨4, 30, 4, 31⟩) ⟨4, 24, 4, 31⟩) (.bi .len ⟨4, 11, 4, 14⟩ (.var 0 ⟨4, 15, 4, 19⟩) ⟨4, 11, 4, 20⟩) (.var 2 ⟨4, 37, 4, 40⟩) ⟨4, 11, 4, 40⟩) ⟨4, 4, 4, 40⟩))

/-- line_of -/
noncomputable abbrev nlineof : List String := ["text", "at"]
noncomputable def blineof : S := (.ret (.bin .add (.num 1 ⟨21, 11, 21, 12⟩) (.meth .count (.slc (.var 0 ⟨21, 15, 21, 19⟩) .nil (.var 1 ⟨21, 21, 21, 23⟩) ⟨21, 20, 21, 23⟩ ⟨21, 15, 21, 24⟩) ⟨21, 15, 21, 30⟩ (.cons (.str "\n" [10] ⟨21, 31, 21, 35⟩) .nil) ⟨21, 15, 21, 36⟩) ⟨21, 11, 21, 36⟩) ⟨21, 4, 21, 36⟩)

/-- run_end -/
noncomputable abbrev nrunend : List String := ["text", "at", "signs", "end"]
noncomputable def brunend : S := (.seq (.asg 3 ⟨23, 4, 23, 7⟩ (.var 1 ⟨23, 10, 23, 12⟩) ⟨23, 4, 23, 12⟩)
  (.seq (.whl (.and (.cons (.cmp .lt (.var 3 ⟨24, 10, 24, 13⟩) (.bi .len ⟨24, 16, 24, 19⟩ (.var 0 ⟨24, 20, 24, 24⟩) ⟨24, 16, 24, 25⟩) ⟨24, 10, 24, 25⟩) (.cons (.cmp .isin (.idx (.var 0 ⟨24, 30, 24, 34⟩) (.var 3 ⟨24, 35, 24, 38⟩) ⟨24, 30, 24, 39⟩) (.var 2 ⟨24, 43, 24, 48⟩) ⟨24, 30, 24, 48⟩) .nil)) ⟨24, 10, 24, 48⟩)
  (.aug 3 ⟨25, 8, 25, 11⟩ .add (.num 1 ⟨25, 15, 25, 16⟩) ⟨25, 8, 25, 16⟩) ⟨24, 4, 25, 16⟩)
  (.ret (.var 3 ⟨26, 11, 26, 14⟩) ⟨26, 4, 26, 14⟩)))

/-- closer_of -/
noncomputable abbrev ncloserof : List String := ["opening"]
noncomputable def bcloserof : S := (.ret (.meth .get (.glb "CLOSERS" ⟨30, 11, 30, 18⟩) ⟨30, 11, 30, 22⟩ (.cons (.var 0 ⟨30, 23, 30, 30⟩) (.cons (.var 0 ⟨30, 32, 30, 39⟩) .nil)) ⟨30, 11, 30, 40⟩) ⟨30, 4, 30, 40⟩)

/-- line_of_place -/
noncomputable abbrev nlineofplace : List String := ["text", "at"]
noncomputable def blineofplace : S := (.ret (.bin .add (.num 1 ⟨32, 11, 32, 12⟩) (.meth .count (.slc (.var 0 ⟨32, 15, 32, 19⟩) .nil (.var 1 ⟨32, 21, 32, 23⟩) ⟨32, 20, 32, 23⟩ ⟨32, 15, 32, 24⟩) ⟨32, 15, 32, 30⟩ (.cons (.str "\n" [10] ⟨32, 31, 32, 35⟩) .nil) ⟨32, 15, 32, 36⟩) ⟨32, 11, 32, 36⟩) ⟨32, 4, 32, 36⟩)

/-- delimited -/
noncomputable abbrev ndelimited : List String := ["text", "at", "opening", "closing", "depth", "end", "sign"]
noncomputable def bdelimited : S := (.seq (.asg 2 ⟨34, 4, 34, 11⟩ (.slc (.var 0 ⟨34, 14, 34, 18⟩) (.var 1 ⟨34, 19, 34, 21⟩) (.bin .add (.var 1 ⟨34, 22, 34, 24⟩) (.num 1 ⟨34, 27, 34, 28⟩) ⟨34, 22, 34, 28⟩) ⟨34, 19, 34, 28⟩ ⟨34, 14, 34, 29⟩) ⟨34, 4, 34, 29⟩)
  (.seq (.asg 3 ⟨35, 4, 35, 11⟩ (.call "closer_of" ⟨35, 14, 35, 23⟩ (.cons (.var 2 ⟨35, 24, 35, 31⟩) .nil) ⟨35, 14, 35, 32⟩) ⟨35, 4, 35, 32⟩)
  (.seq (.asg 4 ⟨36, 4, 36, 9⟩ (.num 1 ⟨36, 12, 36, 13⟩) ⟨36, 4, 36, 13⟩)
  (.seq (.asg 5 ⟨37, 4, 37, 7⟩ (.bin .add (.var 1 ⟨37, 10, 37, 12⟩) (.num 1 ⟨37, 15, 37, 16⟩) ⟨37, 10, 37, 16⟩) ⟨37, 4, 37, 16⟩)
  (.seq (.whl (.cmp .lt (.var 5 ⟨38, 10, 38, 13⟩) (.bi .len ⟨38, 16, 38, 19⟩ (.var 0 ⟨38, 20, 38, 24⟩) ⟨38, 16, 38, 25⟩) ⟨38, 10, 38, 25⟩)
  (.seq (.asg 6 ⟨39, 8, 39, 12⟩ (.idx (.var 0 ⟨39, 15, 39, 19⟩) (.var 5 ⟨39, 20, 39, 23⟩) ⟨39, 15, 39, 24⟩) ⟨39, 8, 39, 24⟩)
  (.seq (.ite (.cmp .eq (.var 6 ⟨40, 11, 40, 15⟩) (.str "\\" [92] ⟨40, 19, 40, 23⟩) ⟨40, 11, 40, 23⟩)
  (.seq (.aug 5 ⟨41, 12, 41, 15⟩ .add (.num 2 ⟨41, 19, 41, 20⟩) ⟨41, 12, 41, 20⟩)
  (.cont ⟨42, 12, 42, 20⟩))
  .nil ⟨40, 8, 42, 20⟩)
  (.seq (.ite (.cmp .eq (.var 6 ⟨43, 11, 43, 15⟩) (.var 3 ⟨43, 19, 43, 26⟩) ⟨43, 11, 43, 26⟩)
  (.seq (.aug 4 ⟨44, 12, 44, 17⟩ .sub (.num 1 ⟨44, 21, 44, 22⟩) ⟨44, 12, 44, 22⟩)
  (.ite (.cmp .eq (.var 4 ⟨45, 15, 45, 20⟩) (.num 0 ⟨45, 24, 45, 25⟩) ⟨45, 15, 45, 25⟩)
  (.ret (.tup (.cons (.slc (.var 0 ⟨46, 24, 46, 28⟩) (.bin .add (.var 1 ⟨46, 29, 46, 31⟩) (.num 1 ⟨46, 34, 46, 35⟩) ⟨46, 29, 46, 35⟩) (.var 5 ⟨46, 36, 46, 39⟩) ⟨46, 29, 46, 39⟩ ⟨46, 24, 46, 40⟩) (.cons (.bin .add (.var 5 ⟨46, 42, 46, 45⟩) (.num 1 ⟨46, 48, 46, 49⟩) ⟨46, 42, 46, 49⟩) .nil)) ⟨46, 23, 46, 50⟩) ⟨46, 16, 46, 50⟩)
  .nil ⟨45, 12, 46, 50⟩))
  (.ite (.cmp .eq (.var 6 ⟨47, 13, 47, 17⟩) (.var 2 ⟨47, 21, 47, 28⟩) ⟨47, 13, 47, 28⟩)
  (.aug 4 ⟨48, 12, 48, 17⟩ .add (.num 1 ⟨48, 21, 48, 22⟩) ⟨48, 12, 48, 22⟩)
  .nil ⟨47, 8, 48, 22⟩) ⟨43, 8, 48, 22⟩)
  (.aug 5 ⟨49, 8, 49, 11⟩ .add (.num 1 ⟨49, 15, 49, 16⟩) ⟨49, 8, 49, 16⟩)))) ⟨38, 4, 49, 16⟩)
  (.raise "Can't find string terminator anywhere before EOF" (.call "line_of_place" ⟨50, 72, 50, 85⟩ (.cons (.var 0 ⟨50, 86, 50, 90⟩) (.cons (.var 1 ⟨50, 92, 50, 94⟩) .nil)) ⟨50, 72, 50, 95⟩) ⟨50, 10, 50, 19⟩ ⟨50, 20, 50, 70⟩ ⟨50, 10, 50, 96⟩ ⟨50, 4, 50, 96⟩))))))

/-- unguarded -/
noncomputable abbrev nunguarded : List String := ["inner", "opening", "is_plain", "closing", "out", "at", "follower"]
noncomputable def bunguarded : S := (.seq (.asg 3 ⟨52, 4, 52, 11⟩ (.call "closer_of" ⟨52, 14, 52, 23⟩ (.cons (.var 1 ⟨52, 24, 52, 31⟩) .nil) ⟨52, 14, 52, 32⟩) ⟨52, 4, 52, 32⟩)
  (.seq (.asg 4 ⟨53, 4, 53, 7⟩ (.str "" [] ⟨53, 10, 53, 12⟩) ⟨53, 4, 53, 12⟩)
  (.seq (.asg 5 ⟨54, 4, 54, 6⟩ (.num 0 ⟨54, 9, 54, 10⟩) ⟨54, 4, 54, 10⟩)
  (.seq (.whl (.cmp .lt (.var 5 ⟨55, 10, 55, 12⟩) (.bi .len ⟨55, 15, 55, 18⟩ (.var 0 ⟨55, 19, 55, 24⟩) ⟨55, 15, 55, 25⟩) ⟨55, 10, 55, 25⟩)
  (.seq (.asg 6 ⟨56, 8, 56, 16⟩ (.slc (.var 0 ⟨56, 19, 56, 24⟩) (.bin .add (.var 5 ⟨56, 25, 56, 27⟩) (.num 1 ⟨56, 30, 56, 31⟩) ⟨56, 25, 56, 31⟩) (.bin .add (.var 5 ⟨56, 32, 56, 34⟩) (.num 2 ⟨56, 37, 56, 38⟩) ⟨56, 32, 56, 38⟩) ⟨56, 25, 56, 38⟩ ⟨56, 19, 56, 39⟩) ⟨56, 8, 56, 39⟩)
  (.seq (.ite (.or (.cons (.cmp .ne (.idx (.var 0 ⟨57, 11, 57, 16⟩) (.var 5 ⟨57, 17, 57, 19⟩) ⟨57, 11, 57, 20⟩) (.str "\\" [92] ⟨57, 24, 57, 28⟩) ⟨57, 11, 57, 28⟩) (.cons (.cmp .eq (.var 6 ⟨57, 32, 57, 40⟩) (.str "" [] ⟨57, 44, 57, 46⟩) ⟨57, 32, 57, 46⟩) .nil)) ⟨57, 11, 57, 46⟩)
  (.seq (.aug 4 ⟨58, 12, 58, 15⟩ .add (.idx (.var 0 ⟨58, 19, 58, 24⟩) (.var 5 ⟨58, 25, 58, 27⟩) ⟨58, 19, 58, 28⟩) ⟨58, 12, 58, 28⟩)
  (.seq (.aug 5 ⟨59, 12, 59, 14⟩ .add (.num 1 ⟨59, 18, 59, 19⟩) ⟨59, 12, 59, 19⟩)
  (.cont ⟨60, 12, 60, 20⟩)))
  .nil ⟨57, 8, 60, 20⟩)
  (.seq (.ite (.or (.cons (.cmp .eq (.var 6 ⟨61, 11, 61, 19⟩) (.var 1 ⟨61, 23, 61, 30⟩) ⟨61, 11, 61, 30⟩) (.cons (.cmp .eq (.var 6 ⟨61, 34, 61, 42⟩) (.var 3 ⟨61, 46, 61, 53⟩) ⟨61, 34, 61, 53⟩) (.cons (.and (.cons (.var 2 ⟨61, 58, 61, 66⟩) (.cons (.cmp .eq (.var 6 ⟨61, 71, 61, 79⟩) (.str "\\" [92] ⟨61, 83, 61, 87⟩) ⟨61, 71, 61, 87⟩) .nil)) ⟨61, 58, 61, 87⟩) .nil))) ⟨61, 11, 61, 88⟩)
  (.aug 4 ⟨62, 12, 62, 15⟩ .add (.var 6 ⟨62, 19, 62, 27⟩) ⟨62, 12, 62, 27⟩)
  (.aug 4 ⟨64, 12, 64, 15⟩ .add (.slc (.var 0 ⟨64, 19, 64, 24⟩) (.var 5 ⟨64, 25, 64, 27⟩) (.bin .add (.var 5 ⟨64, 28, 64, 30⟩) (.num 2 ⟨64, 33, 64, 34⟩) ⟨64, 28, 64, 34⟩) ⟨64, 25, 64, 34⟩ ⟨64, 19, 64, 35⟩) ⟨64, 12, 64, 35⟩) ⟨61, 8, 64, 35⟩)
  (.aug 5 ⟨65, 8, 65, 10⟩ .add (.num 2 ⟨65, 14, 65, 15⟩) ⟨65, 8, 65, 15⟩)))) ⟨55, 4, 65, 15⟩)
  (.ret (.var 4 ⟨66, 11, 66, 14⟩) ⟨66, 4, 66, 14⟩)))))

/-- read_q -/
noncomputable abbrev nreadq : List String := ["inner", "opening"]
noncomputable def breadq : S := (.ret (.call "unguarded" ⟨68, 11, 68, 20⟩ (.cons (.var 0 ⟨68, 21, 68, 26⟩) (.cons (.var 1 ⟨68, 28, 68, 35⟩) (.cons (.bool true ⟨68, 37, 68, 41⟩) .nil))) ⟨68, 11, 68, 42⟩) ⟨68, 4, 68, 42⟩)

/-- read_qw -/
noncomputable abbrev nreadqw : List String := ["inner", "words", "word", "sign"]
noncomputable def breadqw : S := (.seq (.asgO 1 ⟨70, 4, 70, 9⟩ .nil ⟨70, 12, 70, 14⟩ ⟨70, 4, 70, 14⟩)
  (.seq (.asg 2 ⟨71, 4, 71, 8⟩ (.str "" [] ⟨71, 11, 71, 13⟩) ⟨71, 4, 71, 13⟩)
  (.seq (.for 3 ⟨72, 8, 72, 12⟩ (.call "unguarded" ⟨72, 16, 72, 25⟩ (.cons (.var 0 ⟨72, 26, 72, 31⟩) (.cons (.str "\\" [92] ⟨72, 33, 72, 37⟩) (.cons (.bool true ⟨72, 39, 72, 43⟩) .nil))) ⟨72, 16, 72, 44⟩)
  (.ite (.cmp .isin (.var 3 ⟨73, 11, 73, 15⟩) (.str " \t\n\u000d\u000c" [32, 9, 10, 13, 12] ⟨73, 19, 73, 32⟩) ⟨73, 11, 73, 32⟩)
  (.seq (.ite (.cmp .ne (.var 2 ⟨74, 15, 74, 19⟩) (.str "" [] ⟨74, 23, 74, 25⟩) ⟨74, 15, 74, 25⟩)
  (.app 1 ⟨75, 16, 75, 21⟩ ⟨75, 16, 75, 28⟩ (.var 2 ⟨75, 29, 75, 33⟩) ⟨75, 16, 75, 34⟩ ⟨75, 16, 75, 34⟩)
  .nil ⟨74, 12, 75, 34⟩)
  (.asg 2 ⟨76, 12, 76, 16⟩ (.str "" [] ⟨76, 19, 76, 21⟩) ⟨76, 12, 76, 21⟩))
  (.aug 2 ⟨78, 12, 78, 16⟩ .add (.var 3 ⟨78, 20, 78, 24⟩) ⟨78, 12, 78, 24⟩) ⟨73, 8, 78, 24⟩) ⟨72, 4, 78, 24⟩)
  (.seq (.ite (.cmp .ne (.var 2 ⟨79, 7, 79, 11⟩) (.str "" [] ⟨79, 15, 79, 17⟩) ⟨79, 7, 79, 17⟩)
  (.app 1 ⟨80, 8, 80, 13⟩ ⟨80, 8, 80, 20⟩ (.var 2 ⟨80, 21, 80, 25⟩) ⟨80, 8, 80, 26⟩ ⟨80, 8, 80, 26⟩)
  .nil ⟨79, 4, 80, 26⟩)
  (.seq (.frz 1)
  (.ret (.var 1 ⟨81, 11, 81, 16⟩) ⟨81, 4, 81, 16⟩))))))

/-- opening_place -/
noncomputable abbrev nopeningplace : List String := ["text", "at", "begun"]
noncomputable def bopeningplace : S := (.seq (.asg 2 ⟨87, 4, 87, 9⟩ (.call "run_end" ⟨87, 12, 87, 19⟩ (.cons (.var 0 ⟨87, 20, 87, 24⟩) (.cons (.var 1 ⟨87, 26, 87, 28⟩) (.cons (.glb "BLANK_SIGNS" ⟨87, 30, 87, 41⟩) .nil))) ⟨87, 12, 87, 42⟩) ⟨87, 4, 87, 42⟩)
  (.seq (.ite (.or (.cons (.cmp .ge (.var 2 ⟨88, 7, 88, 12⟩) (.bi .len ⟨88, 16, 88, 19⟩ (.var 0 ⟨88, 20, 88, 24⟩) ⟨88, 16, 88, 25⟩) ⟨88, 7, 88, 25⟩) (.cons (.cmp .isin (.idx (.var 0 ⟨88, 29, 88, 33⟩) (.var 2 ⟨88, 34, 88, 39⟩) ⟨88, 29, 88, 40⟩) (.glb "WORD_SIGNS" ⟨88, 44, 88, 54⟩) ⟨88, 29, 88, 54⟩) (.cons (.cmp .eq (.slc (.var 0 ⟨88, 58, 88, 62⟩) (.var 2 ⟨88, 63, 88, 68⟩) (.bin .add (.var 2 ⟨88, 69, 88, 74⟩) (.num 2 ⟨88, 77, 88, 78⟩) ⟨88, 69, 88, 78⟩) ⟨88, 63, 88, 78⟩ ⟨88, 58, 88, 79⟩) (.str "=>" [61, 62] ⟨88, 83, 88, 87⟩) ⟨88, 58, 88, 87⟩) .nil))) ⟨88, 7, 88, 87⟩)
  (.ret (.neg 1 ⟨89, 16, 89, 17⟩ ⟨89, 15, 89, 17⟩) ⟨89, 8, 89, 17⟩)
  .nil ⟨88, 4, 89, 17⟩)
  (.seq (.ite (.and (.cons (.cmp .gt (.var 2 ⟨90, 7, 90, 12⟩) (.var 1 ⟨90, 15, 90, 17⟩) ⟨90, 7, 90, 17⟩) (.cons (.cmp .eq (.idx (.var 0 ⟨90, 22, 90, 26⟩) (.var 2 ⟨90, 27, 90, 32⟩) ⟨90, 22, 90, 33⟩) (.str "#" [35] ⟨90, 37, 90, 40⟩) ⟨90, 22, 90, 40⟩) .nil)) ⟨90, 7, 90, 40⟩)
  (.ret (.neg 1 ⟨91, 16, 91, 17⟩ ⟨91, 15, 91, 17⟩) ⟨91, 8, 91, 17⟩)
  .nil ⟨90, 4, 91, 17⟩)
  (.ret (.var 2 ⟨92, 11, 92, 16⟩) ⟨92, 4, 92, 16⟩))))

/-- behind_blanks -/
noncomputable abbrev nbehindblanks : List String := ["text", "at", "end"]
noncomputable def bbehindblanks : S := (.seq (.asg 2 ⟨94, 4, 94, 7⟩ (.call "run_end" ⟨94, 10, 94, 17⟩ (.cons (.var 0 ⟨94, 18, 94, 22⟩) (.cons (.var 1 ⟨94, 24, 94, 26⟩) (.cons (.glb "BLANK_SIGNS" ⟨94, 28, 94, 39⟩) .nil))) ⟨94, 10, 94, 40⟩) ⟨94, 4, 94, 40⟩)
  (.seq (.whl (.and (.cons (.cmp .gt (.var 2 ⟨95, 10, 95, 13⟩) (.var 1 ⟨95, 16, 95, 18⟩) ⟨95, 10, 95, 18⟩) (.cons (.cmp .eq (.slc (.var 0 ⟨95, 23, 95, 27⟩) (.var 2 ⟨95, 28, 95, 31⟩) (.bin .add (.var 2 ⟨95, 32, 95, 35⟩) (.num 1 ⟨95, 38, 95, 39⟩) ⟨95, 32, 95, 39⟩) ⟨95, 28, 95, 39⟩ ⟨95, 23, 95, 40⟩) (.str "#" [35] ⟨95, 44, 95, 47⟩) ⟨95, 23, 95, 47⟩) .nil)) ⟨95, 10, 95, 47⟩)
  (.asg 2 ⟨96, 8, 96, 11⟩ (.call "run_end" ⟨96, 14, 96, 21⟩ (.cons (.var 0 ⟨96, 22, 96, 26⟩) (.cons (.call "remark_end" ⟨96, 28, 96, 38⟩ (.cons (.var 0 ⟨96, 39, 96, 43⟩) (.cons (.var 2 ⟨96, 45, 96, 48⟩) .nil)) ⟨96, 28, 96, 49⟩) (.cons (.glb "BLANK_SIGNS" ⟨96, 51, 96, 62⟩) .nil))) ⟨96, 14, 96, 63⟩) ⟨96, 8, 96, 63⟩) ⟨95, 4, 96, 63⟩)
  (.ret (.var 2 ⟨97, 11, 97, 14⟩) ⟨97, 4, 97, 14⟩)))

/-- second_part -/
noncomputable abbrev nsecondpart : List String := ["text", "opening", "behind", "inner", "end", "begun"]
noncomputable def bsecondpart : S := (.seq (.ite (.cmp .notin (.idx (.var 0 ⟨99, 7, 99, 11⟩) (.var 1 ⟨99, 12, 99, 19⟩) ⟨99, 7, 99, 20⟩) (.glb "OPENING_SIGNS" ⟨99, 28, 99, 41⟩) ⟨99, 7, 99, 41⟩)
  (.seq (.asgT [(3, ⟨100, 8, 100, 13⟩), (4, ⟨100, 15, 100, 18⟩)] ⟨100, 8, 100, 18⟩ (.call "delimited" ⟨100, 21, 100, 30⟩ (.cons (.var 0 ⟨100, 31, 100, 35⟩) (.cons (.bin .sub (.var 2 ⟨100, 37, 100, 43⟩) (.num 1 ⟨100, 46, 100, 47⟩) ⟨100, 37, 100, 47⟩) .nil)) ⟨100, 21, 100, 48⟩) ⟨100, 8, 100, 48⟩)
  (.ret (.tup (.cons (.var 3 ⟨101, 16, 101, 21⟩) (.cons (.var 4 ⟨101, 23, 101, 26⟩) (.cons (.idx (.var 0 ⟨101, 28, 101, 32⟩) (.var 1 ⟨101, 33, 101, 40⟩) ⟨101, 28, 101, 41⟩) .nil))) ⟨101, 15, 101, 42⟩) ⟨101, 8, 101, 42⟩))
  .nil ⟨99, 4, 101, 42⟩)
  (.seq (.asg 5 ⟨102, 4, 102, 9⟩ (.call "behind_blanks" ⟨102, 12, 102, 25⟩ (.cons (.var 0 ⟨102, 26, 102, 30⟩) (.cons (.var 2 ⟨102, 32, 102, 38⟩) .nil)) ⟨102, 12, 102, 39⟩) ⟨102, 4, 102, 39⟩)
  (.seq (.ite (.cmp .ge (.var 5 ⟨103, 7, 103, 12⟩) (.bi .len ⟨103, 16, 103, 19⟩ (.var 0 ⟨103, 20, 103, 24⟩) ⟨103, 16, 103, 25⟩) ⟨103, 7, 103, 25⟩)
  (.raise "Second part not found" (.call "line_of" ⟨104, 49, 104, 56⟩ (.cons (.var 0 ⟨104, 57, 104, 61⟩) (.cons (.var 1 ⟨104, 63, 104, 70⟩) .nil)) ⟨104, 49, 104, 71⟩) ⟨104, 14, 104, 23⟩ ⟨104, 24, 104, 47⟩ ⟨104, 14, 104, 72⟩ ⟨104, 8, 104, 72⟩)
  .nil ⟨103, 4, 104, 72⟩)
  (.seq (.asgT [(3, ⟨105, 4, 105, 9⟩), (4, ⟨105, 11, 105, 14⟩)] ⟨105, 4, 105, 14⟩ (.call "delimited" ⟨105, 17, 105, 26⟩ (.cons (.var 0 ⟨105, 27, 105, 31⟩) (.cons (.var 5 ⟨105, 33, 105, 38⟩) .nil)) ⟨105, 17, 105, 39⟩) ⟨105, 4, 105, 39⟩)
  (.ret (.tup (.cons (.var 3 ⟨106, 12, 106, 17⟩) (.cons (.var 4 ⟨106, 19, 106, 22⟩) (.cons (.idx (.var 0 ⟨106, 24, 106, 28⟩) (.var 5 ⟨106, 29, 106, 34⟩) ⟨106, 24, 106, 35⟩) .nil))) ⟨106, 11, 106, 36⟩) ⟨106, 4, 106, 36⟩)))))

/-- flags_token -/
noncomputable abbrev nflagstoken : List String := ["text", "at", "kind", "end", "sign"]
noncomputable def bflagstoken : S := (.seq (.asg 3 ⟨108, 4, 108, 7⟩ (.call "run_end" ⟨108, 10, 108, 17⟩ (.cons (.var 0 ⟨108, 18, 108, 22⟩) (.cons (.var 1 ⟨108, 24, 108, 26⟩) (.cons (.glb "WORD_SIGNS" ⟨108, 28, 108, 38⟩) .nil))) ⟨108, 10, 108, 39⟩) ⟨108, 4, 108, 39⟩)
  (.seq (.for 4 ⟨109, 8, 109, 12⟩ (.slc (.var 0 ⟨109, 16, 109, 20⟩) (.var 1 ⟨109, 21, 109, 23⟩) (.var 3 ⟨109, 24, 109, 27⟩) ⟨109, 21, 109, 27⟩ ⟨109, 16, 109, 28⟩)
  (.ite (.cmp .notin (.var 4 ⟨110, 11, 110, 15⟩) (.idx (.glb "FLAGS_OF" ⟨110, 23, 110, 31⟩) (.var 2 ⟨110, 32, 110, 36⟩) ⟨110, 23, 110, 37⟩) ⟨110, 11, 110, 37⟩)
  (.raise "Unknown modifier" (.call "line_of" ⟨111, 48, 111, 55⟩ (.cons (.var 0 ⟨111, 56, 111, 60⟩) (.cons (.var 1 ⟨111, 62, 111, 64⟩) .nil)) ⟨111, 48, 111, 65⟩) ⟨111, 18, 111, 27⟩ ⟨111, 28, 111, 46⟩ ⟨111, 18, 111, 66⟩ ⟨111, 12, 111, 66⟩)
  .nil ⟨110, 8, 111, 66⟩) ⟨109, 4, 111, 66⟩)
  (.ret (.tup (.cons (.slc (.var 0 ⟨112, 12, 112, 16⟩) (.var 1 ⟨112, 17, 112, 19⟩) (.var 3 ⟨112, 20, 112, 23⟩) ⟨112, 17, 112, 23⟩ ⟨112, 12, 112, 24⟩) (.cons (.var 3 ⟨112, 26, 112, 29⟩) .nil)) ⟨112, 11, 112, 30⟩) ⟨112, 4, 112, 30⟩)))

/-- match_token -/
noncomputable abbrev nmatchtoken : List String := ["text", "opening", "inner", "behind", "flags", "end"]
noncomputable def bmatchtoken : S := (.seq (.asgT [(2, ⟨114, 4, 114, 9⟩), (3, ⟨114, 11, 114, 17⟩)] ⟨114, 4, 114, 17⟩ (.call "delimited" ⟨114, 20, 114, 29⟩ (.cons (.var 0 ⟨114, 30, 114, 34⟩) (.cons (.var 1 ⟨114, 36, 114, 43⟩) .nil)) ⟨114, 20, 114, 44⟩) ⟨114, 4, 114, 44⟩)
  (.seq (.asgT [(4, ⟨115, 4, 115, 9⟩), (5, ⟨115, 11, 115, 14⟩)] ⟨115, 4, 115, 14⟩ (.call "flags_token" ⟨115, 17, 115, 28⟩ (.cons (.var 0 ⟨115, 29, 115, 33⟩) (.cons (.var 3 ⟨115, 35, 115, 41⟩) (.cons (.str "match" [109, 97, 116, 99, 104] ⟨115, 43, 115, 50⟩) .nil))) ⟨115, 17, 115, 51⟩) ⟨115, 4, 115, 51⟩)
  (.ret (.tup (.cons (.str "match" [109, 97, 116, 99, 104] ⟨116, 12, 116, 19⟩) (.cons (.tup (.cons (.var 2 ⟨116, 22, 116, 27⟩) (.cons (.var 4 ⟨116, 29, 116, 34⟩) (.cons (.idx (.var 0 ⟨116, 36, 116, 40⟩) (.var 1 ⟨116, 41, 116, 48⟩) ⟨116, 36, 116, 49⟩) .nil))) ⟨116, 21, 116, 50⟩) (.cons (.var 5 ⟨116, 52, 116, 55⟩) .nil))) ⟨116, 11, 116, 56⟩) ⟨116, 4, 116, 56⟩)))

/-- subst_token -/
noncomputable abbrev nsubsttoken : List String := ["text", "opening", "inner", "behind", "other", "sign", "flags", "end", "first"]
noncomputable def bsubsttoken : S := (.seq (.asgT [(2, ⟨118, 4, 118, 9⟩), (3, ⟨118, 11, 118, 17⟩)] ⟨118, 4, 118, 17⟩ (.call "delimited" ⟨118, 20, 118, 29⟩ (.cons (.var 0 ⟨118, 30, 118, 34⟩) (.cons (.var 1 ⟨118, 36, 118, 43⟩) .nil)) ⟨118, 20, 118, 44⟩) ⟨118, 4, 118, 44⟩)
  (.seq (.asgT [(4, ⟨119, 4, 119, 9⟩), (3, ⟨119, 11, 119, 17⟩), (5, ⟨119, 19, 119, 23⟩)] ⟨119, 4, 119, 23⟩ (.call "second_part" ⟨119, 26, 119, 37⟩ (.cons (.var 0 ⟨119, 38, 119, 42⟩) (.cons (.var 1 ⟨119, 44, 119, 51⟩) (.cons (.var 3 ⟨119, 53, 119, 59⟩) .nil))) ⟨119, 26, 119, 60⟩) ⟨119, 4, 119, 60⟩)
  (.seq (.asgT [(6, ⟨120, 4, 120, 9⟩), (7, ⟨120, 11, 120, 14⟩)] ⟨120, 4, 120, 14⟩ (.call "flags_token" ⟨120, 17, 120, 28⟩ (.cons (.var 0 ⟨120, 29, 120, 33⟩) (.cons (.var 3 ⟨120, 35, 120, 41⟩) (.cons (.str "subst" [115, 117, 98, 115, 116] ⟨120, 43, 120, 50⟩) .nil))) ⟨120, 17, 120, 51⟩) ⟨120, 4, 120, 51⟩)
  (.seq (.asg 8 ⟨121, 4, 121, 9⟩ (.idx (.var 0 ⟨121, 12, 121, 16⟩) (.var 1 ⟨121, 17, 121, 24⟩) ⟨121, 12, 121, 25⟩) ⟨121, 4, 121, 25⟩)
  (.ret (.tup (.cons (.str "subst" [115, 117, 98, 115, 116] ⟨122, 12, 122, 19⟩) (.cons (.tup (.cons (.var 2 ⟨122, 22, 122, 27⟩) (.cons (.var 4 ⟨122, 29, 122, 34⟩) (.cons (.var 6 ⟨122, 36, 122, 41⟩) (.cons (.ite (.cmp .eq (.var 5 ⟨122, 52, 122, 56⟩) (.var 8 ⟨122, 60, 122, 65⟩) ⟨122, 52, 122, 65⟩) (.var 8 ⟨122, 43, 122, 48⟩) (.bin .add (.var 8 ⟨122, 71, 122, 76⟩) (.var 5 ⟨122, 79, 122, 83⟩) ⟨122, 71, 122, 83⟩) ⟨122, 43, 122, 83⟩) .nil)))) ⟨122, 21, 122, 84⟩) (.cons (.var 7 ⟨122, 86, 122, 89⟩) .nil))) ⟨122, 11, 122, 90⟩) ⟨122, 4, 122, 90⟩)))))

/-- trans_token -/
noncomputable abbrev ntranstoken : List String := ["text", "opening", "inner", "behind", "other", "sign", "flags", "end"]
noncomputable def btranstoken : S := (.seq (.asgT [(2, ⟨124, 4, 124, 9⟩), (3, ⟨124, 11, 124, 17⟩)] ⟨124, 4, 124, 17⟩ (.call "delimited" ⟨124, 20, 124, 29⟩ (.cons (.var 0 ⟨124, 30, 124, 34⟩) (.cons (.var 1 ⟨124, 36, 124, 43⟩) .nil)) ⟨124, 20, 124, 44⟩) ⟨124, 4, 124, 44⟩)
  (.seq (.asgT [(4, ⟨125, 4, 125, 9⟩), (3, ⟨125, 11, 125, 17⟩), (5, ⟨125, 19, 125, 23⟩)] ⟨125, 4, 125, 23⟩ (.call "second_part" ⟨125, 26, 125, 37⟩ (.cons (.var 0 ⟨125, 38, 125, 42⟩) (.cons (.var 1 ⟨125, 44, 125, 51⟩) (.cons (.var 3 ⟨125, 53, 125, 59⟩) .nil))) ⟨125, 26, 125, 60⟩) ⟨125, 4, 125, 60⟩)
  (.seq (.asgT [(6, ⟨126, 4, 126, 9⟩), (7, ⟨126, 11, 126, 14⟩)] ⟨126, 4, 126, 14⟩ (.call "flags_token" ⟨126, 17, 126, 28⟩ (.cons (.var 0 ⟨126, 29, 126, 33⟩) (.cons (.var 3 ⟨126, 35, 126, 41⟩) (.cons (.str "trans" [116, 114, 97, 110, 115] ⟨126, 43, 126, 50⟩) .nil))) ⟨126, 17, 126, 51⟩) ⟨126, 4, 126, 51⟩)
  (.ret (.tup (.cons (.str "trans" [116, 114, 97, 110, 115] ⟨127, 12, 127, 19⟩) (.cons (.tup (.cons (.var 2 ⟨127, 22, 127, 27⟩) (.cons (.var 4 ⟨127, 29, 127, 34⟩) (.cons (.var 6 ⟨127, 36, 127, 41⟩) .nil))) ⟨127, 21, 127, 42⟩) (.cons (.var 7 ⟨127, 44, 127, 47⟩) .nil))) ⟨127, 11, 127, 48⟩) ⟨127, 4, 127, 48⟩))))

/-- quote_token -/
noncomputable abbrev nquotetoken : List String := ["text", "word", "opening", "inner", "behind"]
noncomputable def bquotetoken : S := (.seq (.ite (.cmp .eq (.var 1 ⟨129, 7, 129, 11⟩) (.str "m" [109] ⟨129, 15, 129, 18⟩) ⟨129, 7, 129, 18⟩)
  (.ret (.call "match_token" ⟨130, 15, 130, 26⟩ (.cons (.var 0 ⟨130, 27, 130, 31⟩) (.cons (.var 2 ⟨130, 33, 130, 40⟩) .nil)) ⟨130, 15, 130, 41⟩) ⟨130, 8, 130, 41⟩)
  .nil ⟨129, 4, 130, 41⟩)
  (.seq (.ite (.cmp .eq (.var 1 ⟨131, 7, 131, 11⟩) (.str "qr" [113, 114] ⟨131, 15, 131, 19⟩) ⟨131, 7, 131, 19⟩)
  (.ret (.bin .add (.tup (.cons (.str "regex" [114, 101, 103, 101, 120] ⟨132, 16, 132, 23⟩) .nil) ⟨132, 15, 132, 25⟩) (.slc (.call "match_token" ⟨132, 28, 132, 39⟩ (.cons (.var 0 ⟨132, 40, 132, 44⟩) (.cons (.var 2 ⟨132, 46, 132, 53⟩) .nil)) ⟨132, 28, 132, 54⟩) (.num 1 ⟨132, 55, 132, 56⟩) .nil ⟨132, 55, 132, 57⟩ ⟨132, 28, 132, 58⟩) ⟨132, 15, 132, 58⟩) ⟨132, 8, 132, 58⟩)
  .nil ⟨131, 4, 132, 58⟩)
  (.seq (.ite (.cmp .eq (.var 1 ⟨133, 7, 133, 11⟩) (.str "s" [115] ⟨133, 15, 133, 18⟩) ⟨133, 7, 133, 18⟩)
  (.ret (.call "subst_token" ⟨134, 15, 134, 26⟩ (.cons (.var 0 ⟨134, 27, 134, 31⟩) (.cons (.var 2 ⟨134, 33, 134, 40⟩) .nil)) ⟨134, 15, 134, 41⟩) ⟨134, 8, 134, 41⟩)
  .nil ⟨133, 4, 134, 41⟩)
  (.seq (.ite (.or (.cons (.cmp .eq (.var 1 ⟨135, 7, 135, 11⟩) (.str "tr" [116, 114] ⟨135, 15, 135, 19⟩) ⟨135, 7, 135, 19⟩) (.cons (.cmp .eq (.var 1 ⟨135, 23, 135, 27⟩) (.str "y" [121] ⟨135, 31, 135, 34⟩) ⟨135, 23, 135, 34⟩) .nil)) ⟨135, 7, 135, 34⟩)
  (.ret (.call "trans_token" ⟨136, 15, 136, 26⟩ (.cons (.var 0 ⟨136, 27, 136, 31⟩) (.cons (.var 2 ⟨136, 33, 136, 40⟩) .nil)) ⟨136, 15, 136, 41⟩) ⟨136, 8, 136, 41⟩)
  .nil ⟨135, 4, 136, 41⟩)
  (.seq (.asgT [(3, ⟨137, 4, 137, 9⟩), (4, ⟨137, 11, 137, 17⟩)] ⟨137, 4, 137, 17⟩ (.call "delimited" ⟨137, 20, 137, 29⟩ (.cons (.var 0 ⟨137, 30, 137, 34⟩) (.cons (.var 2 ⟨137, 36, 137, 43⟩) .nil)) ⟨137, 20, 137, 44⟩) ⟨137, 4, 137, 44⟩)
  (.seq (.ite (.cmp .eq (.var 1 ⟨138, 7, 138, 11⟩) (.str "qq" [113, 113] ⟨138, 15, 138, 19⟩) ⟨138, 7, 138, 19⟩)
  (.ret (.tup (.cons (.str "interp" [105, 110, 116, 101, 114, 112] ⟨139, 16, 139, 24⟩) (.cons (.call "unguarded" ⟨139, 26, 139, 35⟩ (.cons (.var 3 ⟨139, 36, 139, 41⟩) (.cons (.idx (.var 0 ⟨139, 43, 139, 47⟩) (.var 2 ⟨139, 48, 139, 55⟩) ⟨139, 43, 139, 56⟩) (.cons (.bool false ⟨139, 58, 139, 63⟩) .nil))) ⟨139, 26, 139, 64⟩) (.cons (.var 4 ⟨139, 66, 139, 72⟩) .nil))) ⟨139, 15, 139, 73⟩) ⟨139, 8, 139, 73⟩)
  .nil ⟨138, 4, 139, 73⟩)
  (.seq (.ite (.cmp .eq (.var 1 ⟨140, 7, 140, 11⟩) (.str "qw" [113, 119] ⟨140, 15, 140, 19⟩) ⟨140, 7, 140, 19⟩)
  (.ret (.tup (.cons (.str "words" [119, 111, 114, 100, 115] ⟨141, 16, 141, 23⟩) (.cons (.call "read_qw" ⟨141, 25, 141, 32⟩ (.cons (.call "unguarded" ⟨141, 33, 141, 42⟩ (.cons (.var 3 ⟨141, 43, 141, 48⟩) (.cons (.idx (.var 0 ⟨141, 50, 141, 54⟩) (.var 2 ⟨141, 55, 141, 62⟩) ⟨141, 50, 141, 63⟩) (.cons (.bool false ⟨141, 65, 141, 70⟩) .nil))) ⟨141, 33, 141, 71⟩) .nil) ⟨141, 25, 141, 72⟩) (.cons (.var 4 ⟨141, 74, 141, 80⟩) .nil))) ⟨141, 15, 141, 81⟩) ⟨141, 8, 141, 81⟩)
  .nil ⟨140, 4, 141, 81⟩)
  (.ret (.tup (.cons (.str "str" [115, 116, 114] ⟨142, 12, 142, 17⟩) (.cons (.call "read_q" ⟨142, 19, 142, 25⟩ (.cons (.var 3 ⟨142, 26, 142, 31⟩) (.cons (.idx (.var 0 ⟨142, 33, 142, 37⟩) (.var 2 ⟨142, 38, 142, 45⟩) ⟨142, 33, 142, 46⟩) .nil)) ⟨142, 19, 142, 47⟩) (.cons (.var 4 ⟨142, 49, 142, 55⟩) .nil))) ⟨142, 11, 142, 56⟩) ⟨142, 4, 142, 56⟩))))))))

/-- here_sign -/
noncomputable abbrev nheresign : List String := ["text", "at", "begun", "is_indented", "quote", "sign", "inner", "behind", "end"]
noncomputable def bheresign : S := (.seq (.asg 2 ⟨144, 4, 144, 9⟩ (.bin .add (.var 1 ⟨144, 12, 144, 14⟩) (.num 2 ⟨144, 17, 144, 18⟩) ⟨144, 12, 144, 18⟩) ⟨144, 4, 144, 18⟩)
  (.seq (.asg 3 ⟨145, 4, 145, 15⟩ (.cmp .eq (.slc (.var 0 ⟨145, 18, 145, 22⟩) (.var 2 ⟨145, 23, 145, 28⟩) (.bin .add (.var 2 ⟨145, 29, 145, 34⟩) (.num 1 ⟨145, 37, 145, 38⟩) ⟨145, 29, 145, 38⟩) ⟨145, 23, 145, 38⟩ ⟨145, 18, 145, 39⟩) (.str "~" [126] ⟨145, 43, 145, 46⟩) ⟨145, 18, 145, 46⟩) ⟨145, 4, 145, 46⟩)
  (.seq (.ite (.var 3 ⟨146, 7, 146, 18⟩)
  (.aug 2 ⟨147, 8, 147, 13⟩ .add (.num 1 ⟨147, 17, 147, 18⟩) ⟨147, 8, 147, 18⟩)
  .nil ⟨146, 4, 147, 18⟩)
  (.seq (.asg 4 ⟨148, 4, 148, 9⟩ (.call "run_end" ⟨148, 12, 148, 19⟩ (.cons (.var 0 ⟨148, 20, 148, 24⟩) (.cons (.var 2 ⟨148, 26, 148, 31⟩) (.cons (.str " \t" [32, 9] ⟨148, 33, 148, 38⟩) .nil))) ⟨148, 12, 148, 39⟩) ⟨148, 4, 148, 39⟩)
  (.seq (.ite (.cmp .isin (.slc (.var 0 ⟨149, 7, 149, 11⟩) (.var 4 ⟨149, 12, 149, 17⟩) (.bin .add (.var 4 ⟨149, 18, 149, 23⟩) (.num 1 ⟨149, 26, 149, 27⟩) ⟨149, 18, 149, 27⟩) ⟨149, 12, 149, 27⟩ ⟨149, 7, 149, 28⟩) (.tup (.cons (.str "'" [39] ⟨149, 33, 149, 36⟩) (.cons (.str "\"" [34] ⟨149, 38, 149, 41⟩) .nil)) ⟨149, 32, 149, 42⟩) ⟨149, 7, 149, 42⟩)
  (.asg 2 ⟨150, 8, 150, 13⟩ (.var 4 ⟨150, 16, 150, 21⟩) ⟨150, 8, 150, 21⟩)
  .nil ⟨149, 4, 150, 21⟩)
  (.seq (.asg 5 ⟨151, 4, 151, 8⟩ (.slc (.var 0 ⟨151, 11, 151, 15⟩) (.var 2 ⟨151, 16, 151, 21⟩) (.bin .add (.var 2 ⟨151, 22, 151, 27⟩) (.num 1 ⟨151, 30, 151, 31⟩) ⟨151, 22, 151, 31⟩) ⟨151, 16, 151, 31⟩ ⟨151, 11, 151, 32⟩) ⟨151, 4, 151, 32⟩)
  (.seq (.ite (.or (.cons (.cmp .eq (.var 5 ⟨152, 7, 152, 11⟩) (.str "'" [39] ⟨152, 15, 152, 18⟩) ⟨152, 7, 152, 18⟩) (.cons (.cmp .eq (.var 5 ⟨152, 22, 152, 26⟩) (.str "\"" [34] ⟨152, 30, 152, 33⟩) ⟨152, 22, 152, 33⟩) .nil)) ⟨152, 7, 152, 33⟩)
  (.seq (.asgT [(6, ⟨153, 8, 153, 13⟩), (7, ⟨153, 15, 153, 21⟩)] ⟨153, 8, 153, 21⟩ (.call "delimited" ⟨153, 24, 153, 33⟩ (.cons (.var 0 ⟨153, 34, 153, 38⟩) (.cons (.var 2 ⟨153, 40, 153, 45⟩) .nil)) ⟨153, 24, 153, 46⟩) ⟨153, 8, 153, 46⟩)
  (.seq (.ite (.cmp .isin (.str "\n" [10] ⟨154, 11, 154, 15⟩) (.var 6 ⟨154, 19, 154, 24⟩) ⟨154, 11, 154, 24⟩)
  (.raise "A here-document's word over lines" (.call "line_of" ⟨155, 65, 155, 72⟩ (.cons (.var 0 ⟨155, 73, 155, 77⟩) (.cons (.var 1 ⟨155, 79, 155, 81⟩) .nil)) ⟨155, 65, 155, 82⟩) ⟨155, 18, 155, 27⟩ ⟨155, 28, 155, 63⟩ ⟨155, 18, 155, 83⟩ ⟨155, 12, 155, 83⟩)
  .nil ⟨154, 8, 155, 83⟩)
  (.ret (.tup (.cons (.var 6 ⟨156, 16, 156, 21⟩) (.cons (.ite (.cmp .eq (.var 5 ⟨156, 32, 156, 36⟩) (.str "'" [39] ⟨156, 40, 156, 43⟩) ⟨156, 32, 156, 43⟩) (.str "str" [115, 116, 114] ⟨156, 23, 156, 28⟩) (.str "interp" [105, 110, 116, 101, 114, 112] ⟨156, 49, 156, 57⟩) ⟨156, 23, 156, 57⟩) (.cons (.var 3 ⟨156, 59, 156, 70⟩) (.cons (.var 7 ⟨156, 72, 156, 78⟩) .nil)))) ⟨156, 15, 156, 79⟩) ⟨156, 8, 156, 79⟩)))
  .nil ⟨152, 4, 156, 79⟩)
  (.seq (.asg 8 ⟨157, 4, 157, 7⟩ (.call "run_end" ⟨157, 10, 157, 17⟩ (.cons (.var 0 ⟨157, 18, 157, 22⟩) (.cons (.var 2 ⟨157, 24, 157, 29⟩) (.cons (.glb "WORD_SIGNS" ⟨157, 31, 157, 41⟩) .nil))) ⟨157, 10, 157, 42⟩) ⟨157, 4, 157, 42⟩)
  (.seq (.ite (.or (.cons (.cmp .eq (.var 8 ⟨158, 7, 158, 10⟩) (.var 2 ⟨158, 14, 158, 19⟩) ⟨158, 7, 158, 19⟩) (.cons (.cmp .isin (.var 5 ⟨158, 23, 158, 27⟩) (.str "0123456789" [48, 49, 50, 51, 52, 53, 54, 55, 56, 57] ⟨158, 31, 158, 43⟩) ⟨158, 23, 158, 43⟩) .nil)) ⟨158, 7, 158, 43⟩)
  (.ret (.non ⟨159, 15, 159, 19⟩) ⟨159, 8, 159, 19⟩)
  .nil ⟨158, 4, 159, 19⟩)
  (.ret (.tup (.cons (.slc (.var 0 ⟨160, 12, 160, 16⟩) (.var 2 ⟨160, 17, 160, 22⟩) (.var 8 ⟨160, 23, 160, 26⟩) ⟨160, 17, 160, 26⟩ ⟨160, 12, 160, 27⟩) (.cons (.str "interp" [105, 110, 116, 101, 114, 112] ⟨160, 29, 160, 37⟩) (.cons (.var 3 ⟨160, 39, 160, 50⟩) (.cons (.var 8 ⟨160, 52, 160, 55⟩) .nil)))) ⟨160, 11, 160, 56⟩) ⟨160, 4, 160, 56⟩))))))))))

/-- _law_closers -/
noncomputable abbrev nLclosers : List String := []
noncomputable def bLclosers : S := (.ret (.dct (.cons (.str "(" [40] ⟨165, 12, 165, 15⟩) (.cons (.str "[" [91] ⟨165, 22, 165, 25⟩) (.cons (.str "{" [123] ⟨165, 32, 165, 35⟩) (.cons (.str "<" [60] ⟨165, 42, 165, 45⟩) .nil)))) (.cons (.str ")" [41] ⟨165, 17, 165, 20⟩) (.cons (.str "]" [93] ⟨165, 27, 165, 30⟩) (.cons (.str "}" [125] ⟨165, 37, 165, 40⟩) (.cons (.str ">" [62] ⟨165, 47, 165, 50⟩) .nil)))) ⟨165, 11, 165, 51⟩) ⟨165, 4, 165, 51⟩)

/-- _law_known -/
noncomputable abbrev nLknown : List String := []
noncomputable def bLknown : S := (.ret (.dct (.cons (.str "m" [109] ⟨167, 12, 167, 15⟩) (.cons (.str "s" [115] ⟨167, 28, 167, 31⟩) (.cons (.str "tr" [116, 114] ⟨167, 45, 167, 49⟩) (.cons (.str "y" [121] ⟨167, 59, 167, 62⟩) .nil)))) (.cons (.str "cgimosx" [99, 103, 105, 109, 111, 115, 120] ⟨167, 17, 167, 26⟩) (.cons (.str "egimorsx" [101, 103, 105, 109, 111, 114, 115, 120] ⟨167, 33, 167, 43⟩) (.cons (.str "cdsr" [99, 100, 115, 114] ⟨167, 51, 167, 57⟩) (.cons (.str "cdsr" [99, 100, 115, 114] ⟨167, 64, 167, 70⟩) .nil)))) ⟨167, 11, 167, 71⟩) ⟨167, 4, 167, 71⟩)

/-- _law_sip -/
noncomputable abbrev nLsip : List String := ["cup", "many", "drop"]
noncomputable def bLsip : S := (.seq (.asg 2 ⟨169, 4, 169, 8⟩ (.idx (.var 0 ⟨169, 11, 169, 14⟩) (.num 1 ⟨169, 15, 169, 16⟩) ⟨169, 11, 169, 17⟩) ⟨169, 4, 169, 17⟩)
  (.seq (.setI 0 ⟨170, 4, 170, 7⟩ (.num 1 ⟨170, 8, 170, 9⟩) ⟨170, 4, 170, 10⟩ (.bin .add (.var 2 ⟨170, 13, 170, 17⟩) (.num 1 ⟨170, 20, 170, 21⟩) ⟨170, 13, 170, 21⟩) ⟨170, 4, 170, 21⟩)
  (.seq (.ite (.cmp .lt (.var 2 ⟨171, 7, 171, 11⟩) (.bi .len ⟨171, 14, 171, 17⟩ (.idx (.var 0 ⟨171, 18, 171, 21⟩) (.num 0 ⟨171, 22, 171, 23⟩) ⟨171, 18, 171, 24⟩) ⟨171, 14, 171, 25⟩) ⟨171, 7, 171, 25⟩)
  (.ret (.bin .mod (.idx (.idx (.var 0 ⟨172, 15, 172, 18⟩) (.num 0 ⟨172, 19, 172, 20⟩) ⟨172, 15, 172, 21⟩) (.var 2 ⟨172, 22, 172, 26⟩) ⟨172, 15, 172, 27⟩) (.var 1 ⟨172, 30, 172, 34⟩) ⟨172, 15, 172, 34⟩) ⟨172, 8, 172, 34⟩)
  .nil ⟨171, 4, 172, 34⟩)
  (.ret (.bin .mod (.bin .add (.bin .add (.bin .mul (.num 5 ⟨173, 12, 173, 13⟩) (.var 2 ⟨173, 16, 173, 20⟩) ⟨173, 12, 173, 20⟩) (.bin .fdiv (.var 2 ⟨173, 23, 173, 27⟩) (.num 2 ⟨173, 31, 173, 32⟩) ⟨173, 23, 173, 32⟩) ⟨173, 12, 173, 32⟩) (.num 4 ⟨173, 35, 173, 36⟩) ⟨173, 12, 173, 36⟩) (.var 1 ⟨173, 40, 173, 44⟩) ⟨173, 11, 173, 44⟩) ⟨173, 4, 173, 44⟩))))

/-- _law_within -/
noncomputable abbrev nLwithin : List String := ["cup", "opener", "closer", "parts", "told", "turn", "place", "part"]
noncomputable def bLwithin : S := (.seq (.asg 2 ⟨175, 4, 175, 10⟩ (.meth .get (.call "_law_closers" ⟨175, 13, 175, 25⟩ .nil ⟨175, 13, 175, 27⟩) ⟨175, 13, 175, 31⟩ (.cons (.var 1 ⟨175, 32, 175, 38⟩) (.cons (.var 1 ⟨175, 40, 175, 46⟩) .nil)) ⟨175, 13, 175, 47⟩) ⟨175, 4, 175, 47⟩)
  (.seq (.asgO 3 ⟨176, 4, 176, 9⟩ (.cons (.tup (.cons (.str "a" [97] ⟨176, 14, 176, 17⟩) (.cons (.str "a" [97] ⟨176, 19, 176, 22⟩) (.cons (.str "a" [97] ⟨176, 24, 176, 27⟩) .nil))) ⟨176, 13, 176, 28⟩) (.cons (.tup (.cons (.str "b5" [98, 53] ⟨176, 31, 176, 35⟩) (.cons (.str "b5" [98, 53] ⟨176, 37, 176, 41⟩) (.cons (.str "b5" [98, 53] ⟨176, 43, 176, 47⟩) .nil))) ⟨176, 30, 176, 48⟩) (.cons (.tup (.cons (.str " " [32] ⟨176, 51, 176, 54⟩) (.cons (.str " " [32] ⟨176, 56, 176, 59⟩) (.cons (.str " " [32] ⟨176, 61, 176, 64⟩) .nil))) ⟨176, 50, 176, 65⟩) (.cons (.tup (.cons (.bin .add (.str "\\" [92] ⟨176, 68, 176, 72⟩) (.var 2 ⟨176, 75, 176, 81⟩) ⟨176, 68, 176, 81⟩) (.cons (.var 2 ⟨176, 83, 176, 89⟩) (.cons (.var 2 ⟨176, 91, 176, 97⟩) .nil))) ⟨176, 67, 176, 98⟩) (.cons (.tup (.cons (.str "\\\\" [92, 92] ⟨176, 101, 176, 107⟩) (.cons (.str "\\\\" [92, 92] ⟨176, 109, 176, 115⟩) (.cons (.str "\\" [92] ⟨176, 117, 176, 121⟩) .nil))) ⟨176, 100, 176, 122⟩) (.cons (.tup (.cons (.bin .add (.bin .add (.var 1 ⟨176, 125, 176, 131⟩) (.str "x" [120] ⟨176, 134, 176, 137⟩) ⟨176, 125, 176, 137⟩) (.var 2 ⟨176, 140, 176, 146⟩) ⟨176, 125, 176, 146⟩) (.cons (.bin .add (.bin .add (.var 1 ⟨176, 148, 176, 154⟩) (.str "x" [120] ⟨176, 157, 176, 160⟩) ⟨176, 148, 176, 160⟩) (.var 2 ⟨176, 163, 176, 169⟩) ⟨176, 148, 176, 169⟩) (.cons (.bin .add (.bin .add (.var 1 ⟨176, 171, 176, 177⟩) (.str "x" [120] ⟨176, 180, 176, 183⟩) ⟨176, 171, 176, 183⟩) (.var 2 ⟨176, 186, 176, 192⟩) ⟨176, 171, 176, 192⟩) .nil))) ⟨176, 124, 176, 193⟩) (.cons (.tup (.cons (.str "\\n" [92, 110] ⟨176, 196, 176, 201⟩) (.cons (.str "\\n" [92, 110] ⟨176, 203, 176, 208⟩) (.cons (.str "\\n" [92, 110] ⟨176, 210, 176, 215⟩) .nil))) ⟨176, 195, 176, 216⟩) (.cons (.tup (.cons (.str "\n" [10] ⟨176, 219, 176, 223⟩) (.cons (.str "\n" [10] ⟨176, 225, 176, 229⟩) (.cons (.str "\n" [10] ⟨176, 231, 176, 235⟩) .nil))) ⟨176, 218, 176, 236⟩) (.cons (.tup (.cons (.bin .add (.str "\\" [92] ⟨176, 239, 176, 243⟩) (.var 1 ⟨176, 246, 176, 252⟩) ⟨176, 239, 176, 252⟩) (.cons (.var 1 ⟨176, 254, 176, 260⟩) (.cons (.var 1 ⟨176, 262, 176, 268⟩) .nil))) ⟨176, 238, 176, 269⟩) .nil))))))))) ⟨176, 12, 176, 270⟩ ⟨176, 4, 176, 270⟩)
  (.seq (.ite (.cmp .eq (.var 2 ⟨177, 7, 177, 13⟩) (.var 1 ⟨177, 17, 177, 23⟩) ⟨177, 7, 177, 23⟩)
  (.setI 3 ⟨178, 8, 178, 13⟩ (.num 5 ⟨178, 14, 178, 15⟩) ⟨178, 8, 178, 16⟩ (.tup (.cons (.str "z" [122] ⟨178, 20, 178, 23⟩) (.cons (.str "z" [122] ⟨178, 25, 178, 28⟩) (.cons (.str "z" [122] ⟨178, 30, 178, 33⟩) .nil))) ⟨178, 19, 178, 34⟩) ⟨178, 8, 178, 34⟩)
  (.frz 3) ⟨177, 4, 178, 34⟩)
  (.seq (.asg 4 ⟨179, 4, 179, 8⟩ (.comp (.idx (.var 3 ⟨179, 12, 179, 17⟩) (.call "_law_sip" ⟨179, 18, 179, 26⟩ (.cons (.var 0 ⟨179, 27, 179, 30⟩) (.cons (.num 9 ⟨179, 32, 179, 33⟩) .nil)) ⟨179, 18, 179, 34⟩) ⟨179, 12, 179, 35⟩) 5 ⟨179, 40, 179, 44⟩ (.bi .range ⟨179, 48, 179, 53⟩ (.call "_law_sip" ⟨179, 54, 179, 62⟩ (.cons (.var 0 ⟨179, 63, 179, 66⟩) (.cons (.num 5 ⟨179, 68, 179, 69⟩) .nil)) ⟨179, 54, 179, 70⟩) ⟨179, 48, 179, 71⟩) .nil ⟨PySem.ScopeKind.function, [((PySem.Str.ofString ".0"), PySem.NameKind.local), ((PySem.Str.ofString "turn"), PySem.NameKind.local), ((PySem.Str.ofString "_law_sip"), PySem.NameKind.globalImplicit), ((PySem.Str.ofString "cup"), PySem.NameKind.free), ((PySem.Str.ofString "parts"), PySem.NameKind.free)], false, false, []⟩ [0, 3] ⟨179, 11, 179, 72⟩) ⟨179, 4, 179, 72⟩)
  (.ret (.bi .tuple ⟨180, 11, 180, 16⟩ (.comp (.meth .join (.str "" [] ⟨180, 18, 180, 20⟩) ⟨180, 18, 180, 25⟩ (.cons (.comp (.idx (.var 7 ⟨180, 27, 180, 31⟩) (.var 6 ⟨180, 32, 180, 37⟩) ⟨180, 27, 180, 38⟩) 7 ⟨180, 43, 180, 47⟩ (.var 4 ⟨180, 51, 180, 55⟩) .nil ⟨PySem.ScopeKind.function, [((PySem.Str.ofString ".0"), PySem.NameKind.local), ((PySem.Str.ofString "part"), PySem.NameKind.local), ((PySem.Str.ofString "place"), PySem.NameKind.free)], false, false, []⟩ [6] ⟨180, 26, 180, 56⟩) .nil) ⟨180, 18, 180, 57⟩) 6 ⟨180, 62, 180, 67⟩ (.bi .range ⟨180, 71, 180, 76⟩ (.num 3 ⟨180, 77, 180, 78⟩) ⟨180, 71, 180, 79⟩) .nil ⟨PySem.ScopeKind.function, [((PySem.Str.ofString ".0"), PySem.NameKind.local), ((PySem.Str.ofString "place"), PySem.NameKind.cell), ((PySem.Str.ofString "told"), PySem.NameKind.free)], false, false, []⟩ [4] ⟨180, 17, 180, 80⟩) ⟨180, 11, 180, 81⟩) ⟨180, 4, 180, 81⟩)))))

/-- _law_row -/
noncomputable abbrev nLrow : List String := ["text", "place"]
noncomputable def bLrow : S := (.ret (.rows (.slc (.var 0 ⟨182, 15, 182, 19⟩) .nil (.var 1 ⟨182, 21, 182, 26⟩) ⟨182, 20, 182, 26⟩ ⟨182, 15, 182, 27⟩) ⟨182, 11, 182, 14⟩ ⟨182, 15, 182, 33⟩ ⟨182, 34, 182, 38⟩ ⟨182, 15, 182, 39⟩ ⟨182, 11, 182, 40⟩) ⟨182, 4, 182, 40⟩)

/-- _law_quote -/
noncomputable abbrev nLquote : List String := ["cup", "word", "opener", "blanks", "text", "start", "lacks", "closer", "raw", "loose", "plain", "due", "value", "second", "spot", "other", "past", "flags", "sign"]
noncomputable def bLquote : S := (.seq (.asg 1 ⟨184, 4, 184, 8⟩ (.idx (.glb "_law_words" ⟨184, 11, 184, 21⟩) (.call "_law_sip" ⟨184, 22, 184, 30⟩ (.cons (.var 0 ⟨184, 31, 184, 34⟩) (.cons (.num 7 ⟨184, 36, 184, 37⟩) .nil)) ⟨184, 22, 184, 38⟩) ⟨184, 11, 184, 39⟩) ⟨184, 4, 184, 39⟩)
  (.seq (.asg 2 ⟨185, 4, 185, 10⟩ (.idx (.glb "_law_openers" ⟨185, 13, 185, 25⟩) (.call "_law_sip" ⟨185, 26, 185, 34⟩ (.cons (.var 0 ⟨185, 35, 185, 38⟩) (.cons (.num 10 ⟨185, 40, 185, 42⟩) .nil)) ⟨185, 26, 185, 43⟩) ⟨185, 13, 185, 44⟩) ⟨185, 4, 185, 44⟩)
  (.seq (.asg 3 ⟨186, 4, 186, 10⟩ (.idx (.tup (.cons (.str "" [] ⟨186, 14, 186, 16⟩) (.cons (.str " " [32] ⟨186, 18, 186, 21⟩) (.cons (.str "\t\n" [9, 10] ⟨186, 23, 186, 29⟩) .nil))) ⟨186, 13, 186, 30⟩) (.call "_law_sip" ⟨186, 31, 186, 39⟩ (.cons (.var 0 ⟨186, 40, 186, 43⟩) (.cons (.num 3 ⟨186, 45, 186, 46⟩) .nil)) ⟨186, 31, 186, 47⟩) ⟨186, 13, 186, 48⟩) ⟨186, 4, 186, 48⟩)
  (.seq (.asg 4 ⟨187, 4, 187, 8⟩ (.bin .add (.bin .add (.bin .mul (.str "\n" [10] ⟨187, 11, 187, 15⟩) (.call "_law_sip" ⟨187, 18, 187, 26⟩ (.cons (.var 0 ⟨187, 27, 187, 30⟩) (.cons (.num 3 ⟨187, 32, 187, 33⟩) .nil)) ⟨187, 18, 187, 34⟩) ⟨187, 11, 187, 34⟩) (.var 1 ⟨187, 37, 187, 41⟩) ⟨187, 11, 187, 41⟩) (.var 3 ⟨187, 44, 187, 50⟩) ⟨187, 11, 187, 50⟩) ⟨187, 4, 187, 50⟩)
  (.seq (.asg 5 ⟨188, 4, 188, 9⟩ (.bi .len ⟨188, 12, 188, 15⟩ (.var 4 ⟨188, 16, 188, 20⟩) ⟨188, 12, 188, 21⟩) ⟨188, 4, 188, 21⟩)
  (.seq (.asg 6 ⟨189, 4, 189, 9⟩ (.call "_law_sip" ⟨189, 12, 189, 20⟩ (.cons (.var 0 ⟨189, 21, 189, 24⟩) (.cons (.num 8 ⟨189, 26, 189, 27⟩) .nil)) ⟨189, 12, 189, 28⟩) ⟨189, 4, 189, 28⟩)
  (.seq (.asg 7 ⟨190, 4, 190, 10⟩ (.meth .get (.call "_law_closers" ⟨190, 13, 190, 25⟩ .nil ⟨190, 13, 190, 27⟩) ⟨190, 13, 190, 31⟩ (.cons (.var 2 ⟨190, 32, 190, 38⟩) (.cons (.var 2 ⟨190, 40, 190, 46⟩) .nil)) ⟨190, 13, 190, 47⟩) ⟨190, 4, 190, 47⟩)
  (.seq (.asgT [(8, ⟨191, 4, 191, 7⟩), (9, ⟨191, 9, 191, 14⟩), (10, ⟨191, 16, 191, 21⟩)] ⟨191, 4, 191, 21⟩ (.call "_law_within" ⟨191, 24, 191, 35⟩ (.cons (.var 0 ⟨191, 36, 191, 39⟩) (.cons (.var 2 ⟨191, 41, 191, 47⟩) .nil)) ⟨191, 24, 191, 48⟩) ⟨191, 4, 191, 48⟩)
  (.seq (.asg 4 ⟨192, 4, 192, 8⟩ (.bin .add (.bin .add (.var 4 ⟨192, 11, 192, 15⟩) (.var 2 ⟨192, 18, 192, 24⟩) ⟨192, 11, 192, 24⟩) (.var 8 ⟨192, 27, 192, 30⟩) ⟨192, 11, 192, 30⟩) ⟨192, 4, 192, 30⟩)
  (.seq (.asg 11 ⟨193, 4, 193, 7⟩ (.call "_law_row" ⟨193, 10, 193, 18⟩ (.cons (.var 4 ⟨193, 19, 193, 23⟩) (.cons (.var 5 ⟨193, 25, 193, 30⟩) .nil)) ⟨193, 10, 193, 31⟩) ⟨193, 4, 193, 31⟩)
  (.seq (.ite (.cmp .eq (.var 6 ⟨194, 7, 194, 12⟩) (.num 7 ⟨194, 16, 194, 17⟩) ⟨194, 7, 194, 17⟩)
  (.ret (.tup (.cons (.var 4 ⟨195, 16, 195, 20⟩) (.cons (.var 1 ⟨195, 22, 195, 26⟩) (.cons (.var 5 ⟨195, 28, 195, 33⟩) (.cons (.bin .sub (.var 5 ⟨195, 35, 195, 40⟩) (.bi .len ⟨195, 43, 195, 46⟩ (.var 3 ⟨195, 47, 195, 53⟩) ⟨195, 43, 195, 54⟩) ⟨195, 35, 195, 54⟩) (.cons (.var 11 ⟨195, 56, 195, 59⟩) .nil))))) ⟨195, 15, 195, 60⟩) ⟨195, 8, 195, 60⟩)
  .nil ⟨194, 4, 195, 60⟩)
  (.seq (.asg 4 ⟨196, 4, 196, 8⟩ (.bin .add (.var 4 ⟨196, 11, 196, 15⟩) (.var 7 ⟨196, 18, 196, 24⟩) ⟨196, 11, 196, 24⟩) ⟨196, 4, 196, 24⟩)
  (.seq (.asg 12 ⟨197, 4, 197, 9⟩ (.meth .get (.dct (.cons (.str "q" [113] ⟨197, 13, 197, 16⟩) (.cons (.str "qq" [113, 113] ⟨197, 34, 197, 38⟩) (.cons (.str "qw" [113, 119] ⟨197, 59, 197, 63⟩) .nil))) (.cons (.tup (.cons (.str "str" [115, 116, 114] ⟨197, 19, 197, 24⟩) (.cons (.var 10 ⟨197, 26, 197, 31⟩) .nil)) ⟨197, 18, 197, 32⟩) (.cons (.tup (.cons (.str "interp" [105, 110, 116, 101, 114, 112] ⟨197, 41, 197, 49⟩) (.cons (.var 9 ⟨197, 51, 197, 56⟩) .nil)) ⟨197, 40, 197, 57⟩) (.cons (.tup (.cons (.str "words" [119, 111, 114, 100, 115] ⟨197, 66, 197, 73⟩) (.cons (.meth .split (.var 10 ⟨197, 75, 197, 80⟩) ⟨197, 75, 197, 86⟩ .nil ⟨197, 75, 197, 88⟩) .nil)) ⟨197, 65, 197, 89⟩) .nil))) ⟨197, 12, 197, 90⟩) ⟨197, 12, 197, 94⟩ (.cons (.var 1 ⟨197, 95, 197, 99⟩) .nil) ⟨197, 12, 197, 100⟩) ⟨197, 4, 197, 100⟩)
  (.seq (.ite (.cmp .isin (.var 1 ⟨198, 7, 198, 11⟩) (.tup (.cons (.str "s" [115] ⟨198, 16, 198, 19⟩) (.cons (.str "tr" [116, 114] ⟨198, 21, 198, 25⟩) (.cons (.str "y" [121] ⟨198, 27, 198, 30⟩) .nil))) ⟨198, 15, 198, 31⟩) ⟨198, 7, 198, 31⟩)
  (.seq (.asg 13 ⟨199, 8, 199, 14⟩ (.var 2 ⟨199, 17, 199, 23⟩) ⟨199, 8, 199, 23⟩)
  (.seq (.asg 14 ⟨200, 8, 200, 12⟩ (.bin .sub (.bi .len ⟨200, 15, 200, 18⟩ (.var 4 ⟨200, 19, 200, 23⟩) ⟨200, 15, 200, 24⟩) (.num 1 ⟨200, 27, 200, 28⟩) ⟨200, 15, 200, 28⟩) ⟨200, 8, 200, 28⟩)
  (.seq (.ite (.cmp .ne (.var 7 ⟨201, 11, 201, 17⟩) (.var 2 ⟨201, 21, 201, 27⟩) ⟨201, 11, 201, 27⟩)
  (.seq (.ite (.cmp .eq (.var 6 ⟨202, 15, 202, 20⟩) (.num 6 ⟨202, 24, 202, 25⟩) ⟨202, 15, 202, 25⟩)
  (.ret (.tup (.cons (.bin .add (.var 4 ⟨203, 24, 203, 28⟩) (.str " \n" [32, 10] ⟨203, 31, 203, 36⟩) ⟨203, 24, 203, 36⟩) (.cons (.var 1 ⟨203, 38, 203, 42⟩) (.cons (.var 5 ⟨203, 44, 203, 49⟩) (.cons (.bin .sub (.var 5 ⟨203, 51, 203, 56⟩) (.bi .len ⟨203, 59, 203, 62⟩ (.var 3 ⟨203, 63, 203, 69⟩) ⟨203, 59, 203, 70⟩) ⟨203, 51, 203, 70⟩) (.cons (.var 11 ⟨203, 72, 203, 75⟩) .nil))))) ⟨203, 23, 203, 76⟩) ⟨203, 16, 203, 76⟩)
  .nil ⟨202, 12, 203, 76⟩)
  (.seq (.asg 13 ⟨204, 12, 204, 18⟩ (.idx (.tup (.cons (.str "{" [123] ⟨204, 22, 204, 25⟩) (.cons (.str "/" [47] ⟨204, 27, 204, 30⟩) (.cons (.str "<" [60] ⟨204, 32, 204, 35⟩) .nil))) ⟨204, 21, 204, 36⟩) (.call "_law_sip" ⟨204, 37, 204, 45⟩ (.cons (.var 0 ⟨204, 46, 204, 49⟩) (.cons (.num 3 ⟨204, 51, 204, 52⟩) .nil)) ⟨204, 37, 204, 53⟩) ⟨204, 21, 204, 54⟩) ⟨204, 12, 204, 54⟩)
  (.seq (.asg 4 ⟨205, 12, 205, 16⟩ (.bin .add (.var 4 ⟨205, 19, 205, 23⟩) (.idx (.tup (.cons (.str "" [] ⟨205, 27, 205, 29⟩) (.cons (.str "\n " [10, 32] ⟨205, 31, 205, 36⟩) .nil)) ⟨205, 26, 205, 37⟩) (.call "_law_sip" ⟨205, 38, 205, 46⟩ (.cons (.var 0 ⟨205, 47, 205, 50⟩) (.cons (.num 2 ⟨205, 52, 205, 53⟩) .nil)) ⟨205, 38, 205, 54⟩) ⟨205, 26, 205, 55⟩) ⟨205, 19, 205, 55⟩) ⟨205, 12, 205, 55⟩)
  (.seq (.asg 14 ⟨206, 12, 206, 16⟩ (.bi .len ⟨206, 19, 206, 22⟩ (.var 4 ⟨206, 23, 206, 27⟩) ⟨206, 19, 206, 28⟩) ⟨206, 12, 206, 28⟩)
  (.asg 4 ⟨207, 12, 207, 16⟩ (.bin .add (.var 4 ⟨207, 19, 207, 23⟩) (.var 13 ⟨207, 26, 207, 32⟩) ⟨207, 19, 207, 32⟩) ⟨207, 12, 207, 32⟩)))))
  .nil ⟨201, 8, 207, 32⟩)
  (.seq (.asg 15 ⟨208, 8, 208, 13⟩ (.idx (.call "_law_within" ⟨208, 16, 208, 27⟩ (.cons (.var 0 ⟨208, 28, 208, 31⟩) (.cons (.var 13 ⟨208, 33, 208, 39⟩) .nil)) ⟨208, 16, 208, 40⟩) (.num 0 ⟨208, 41, 208, 42⟩) ⟨208, 16, 208, 43⟩) ⟨208, 8, 208, 43⟩)
  (.seq (.asg 4 ⟨209, 8, 209, 12⟩ (.bin .add (.var 4 ⟨209, 15, 209, 19⟩) (.var 15 ⟨209, 22, 209, 27⟩) ⟨209, 15, 209, 27⟩) ⟨209, 8, 209, 27⟩)
  (.seq (.ite (.cmp .eq (.var 6 ⟨210, 11, 210, 16⟩) (.num 5 ⟨210, 20, 210, 21⟩) ⟨210, 11, 210, 21⟩)
  (.ret (.tup (.cons (.var 4 ⟨211, 20, 211, 24⟩) (.cons (.var 1 ⟨211, 26, 211, 30⟩) (.cons (.var 5 ⟨211, 32, 211, 37⟩) (.cons (.bin .sub (.var 5 ⟨211, 39, 211, 44⟩) (.bi .len ⟨211, 47, 211, 50⟩ (.var 3 ⟨211, 51, 211, 57⟩) ⟨211, 47, 211, 58⟩) ⟨211, 39, 211, 58⟩) (.cons (.call "_law_row" ⟨211, 60, 211, 68⟩ (.cons (.var 4 ⟨211, 69, 211, 73⟩) (.cons (.var 14 ⟨211, 75, 211, 79⟩) .nil)) ⟨211, 60, 211, 80⟩) .nil))))) ⟨211, 19, 211, 81⟩) ⟨211, 12, 211, 81⟩)
  .nil ⟨210, 8, 211, 81⟩)
  (.seq (.asg 4 ⟨212, 8, 212, 12⟩ (.bin .add (.var 4 ⟨212, 15, 212, 19⟩) (.meth .get (.call "_law_closers" ⟨212, 22, 212, 34⟩ .nil ⟨212, 22, 212, 36⟩) ⟨212, 22, 212, 40⟩ (.cons (.var 13 ⟨212, 41, 212, 47⟩) (.cons (.var 13 ⟨212, 49, 212, 55⟩) .nil)) ⟨212, 22, 212, 56⟩) ⟨212, 15, 212, 56⟩) ⟨212, 8, 212, 56⟩)
  (.asg 12 ⟨213, 8, 213, 13⟩ (.tup (.cons (.var 8 ⟨213, 17, 213, 20⟩) (.cons (.var 15 ⟨213, 22, 213, 27⟩) .nil)) ⟨213, 16, 213, 28⟩) ⟨213, 8, 213, 28⟩))))))))
  .nil ⟨198, 4, 213, 28⟩)
  (.seq (.asg 16 ⟨214, 4, 214, 8⟩ (.bi .len ⟨214, 11, 214, 14⟩ (.var 4 ⟨214, 15, 214, 19⟩) ⟨214, 11, 214, 20⟩) ⟨214, 4, 214, 20⟩)
  (.seq (.ite (.cmp .isin (.var 1 ⟨215, 7, 215, 11⟩) (.call "_law_known" ⟨215, 15, 215, 25⟩ .nil ⟨215, 15, 215, 27⟩) ⟨215, 7, 215, 27⟩)
  (.seq (.asg 17 ⟨216, 8, 216, 13⟩ (.idx (.tup (.cons (.str "" [] ⟨216, 17, 216, 19⟩) (.cons (.str "r" [114] ⟨216, 21, 216, 24⟩) (.cons (.str "gs" [103, 115] ⟨216, 26, 216, 30⟩) (.cons (.str "x1" [120, 49] ⟨216, 32, 216, 36⟩) (.cons (.str "cd" [99, 100] ⟨216, 38, 216, 42⟩) (.cons (.str "e_" [101, 95] ⟨216, 44, 216, 48⟩) .nil)))))) ⟨216, 16, 216, 49⟩) (.call "_law_sip" ⟨216, 50, 216, 58⟩ (.cons (.var 0 ⟨216, 59, 216, 62⟩) (.cons (.num 6 ⟨216, 64, 216, 65⟩) .nil)) ⟨216, 50, 216, 66⟩) ⟨216, 16, 216, 67⟩) ⟨216, 8, 216, 67⟩)
  (.seq (.asg 4 ⟨217, 8, 217, 12⟩ (.bin .add (.var 4 ⟨217, 15, 217, 19⟩) (.var 17 ⟨217, 22, 217, 27⟩) ⟨217, 15, 217, 27⟩) ⟨217, 8, 217, 27⟩)
  (.seq (.ite (.cmp .ne (.comp (.var 18 ⟨218, 12, 218, 16⟩) 18 ⟨218, 21, 218, 25⟩ (.var 17 ⟨218, 29, 218, 34⟩) (.cons (.cmp .notin (.var 18 ⟨218, 38, 218, 42⟩) (.idx (.call "_law_known" ⟨218, 50, 218, 60⟩ .nil ⟨218, 50, 218, 62⟩) (.var 1 ⟨218, 63, 218, 67⟩) ⟨218, 50, 218, 68⟩) ⟨218, 38, 218, 68⟩) .nil) ⟨PySem.ScopeKind.function, [((PySem.Str.ofString ".0"), PySem.NameKind.local), ((PySem.Str.ofString "sign"), PySem.NameKind.local), ((PySem.Str.ofString "_law_known"), PySem.NameKind.globalImplicit), ((PySem.Str.ofString "word"), PySem.NameKind.free)], false, false, []⟩ [1] ⟨218, 11, 218, 69⟩) (.lst .nil ⟨218, 73, 218, 75⟩) ⟨218, 11, 218, 75⟩)
  (.ret (.tup (.cons (.bin .add (.var 4 ⟨219, 20, 219, 24⟩) (.str ";" [59] ⟨219, 27, 219, 30⟩) ⟨219, 20, 219, 30⟩) (.cons (.var 1 ⟨219, 32, 219, 36⟩) (.cons (.var 5 ⟨219, 38, 219, 43⟩) (.cons (.bin .sub (.var 5 ⟨219, 45, 219, 50⟩) (.bi .len ⟨219, 53, 219, 56⟩ (.var 3 ⟨219, 57, 219, 63⟩) ⟨219, 53, 219, 64⟩) ⟨219, 45, 219, 64⟩) (.cons (.call "_law_row" ⟨219, 66, 219, 74⟩ (.cons (.var 4 ⟨219, 75, 219, 79⟩) (.cons (.var 16 ⟨219, 81, 219, 85⟩) .nil)) ⟨219, 66, 219, 86⟩) .nil))))) ⟨219, 19, 219, 87⟩) ⟨219, 12, 219, 87⟩)
  .nil ⟨218, 8, 219, 87⟩)
  (.seq (.asg 12 ⟨220, 8, 220, 13⟩ (.meth .get (.dct (.cons (.str "m" [109] ⟨220, 17, 220, 20⟩) (.cons (.str "s" [115] ⟨220, 55, 220, 58⟩) .nil)) (.cons (.tup (.cons (.str "match" [109, 97, 116, 99, 104] ⟨220, 23, 220, 30⟩) (.cons (.tup (.cons (.var 8 ⟨220, 33, 220, 36⟩) (.cons (.var 17 ⟨220, 38, 220, 43⟩) (.cons (.var 2 ⟨220, 45, 220, 51⟩) .nil))) ⟨220, 32, 220, 52⟩) .nil)) ⟨220, 22, 220, 53⟩) (.cons (.tup (.cons (.str "subst" [115, 117, 98, 115, 116] ⟨220, 61, 220, 68⟩) (.cons (.ite (.cmp .ne (.var 1 ⟨220, 79, 220, 83⟩) (.str "s" [115] ⟨220, 87, 220, 90⟩) ⟨220, 79, 220, 90⟩) (.var 12 ⟨220, 70, 220, 75⟩) (.bin .add (.var 12 ⟨220, 96, 220, 101⟩) (.tup (.cons (.var 17 ⟨220, 105, 220, 110⟩) (.cons (.ite (.cmp .eq (.var 13 ⟨220, 122, 220, 128⟩) (.var 2 ⟨220, 132, 220, 138⟩) ⟨220, 122, 220, 138⟩) (.var 2 ⟨220, 112, 220, 118⟩) (.bin .add (.var 2 ⟨220, 144, 220, 150⟩) (.var 13 ⟨220, 153, 220, 159⟩) ⟨220, 144, 220, 159⟩) ⟨220, 112, 220, 159⟩) .nil)) ⟨220, 104, 220, 160⟩) ⟨220, 96, 220, 160⟩) ⟨220, 70, 220, 160⟩) .nil)) ⟨220, 60, 220, 161⟩) .nil)) ⟨220, 16, 220, 162⟩) ⟨220, 16, 220, 166⟩ (.cons (.var 1 ⟨220, 167, 220, 171⟩) (.cons (.tup (.cons (.str "trans" [116, 114, 97, 110, 115] ⟨220, 174, 220, 181⟩) (.cons (.bin .add (.or (.cons (.var 12 ⟨220, 184, 220, 189⟩) (.cons (.tup .nil ⟨220, 193, 220, 195⟩) .nil)) ⟨220, 184, 220, 195⟩) (.tup (.cons (.var 17 ⟨220, 200, 220, 205⟩) .nil) ⟨220, 199, 220, 207⟩) ⟨220, 183, 220, 207⟩) .nil)) ⟨220, 173, 220, 208⟩) .nil)) ⟨220, 16, 220, 209⟩) ⟨220, 8, 220, 209⟩)
  (.asg 16 ⟨221, 8, 221, 12⟩ (.bi .len ⟨221, 15, 221, 18⟩ (.var 4 ⟨221, 19, 221, 23⟩) ⟨221, 15, 221, 24⟩) ⟨221, 8, 221, 24⟩)))))
  .nil ⟨215, 4, 221, 24⟩)
  (.ret (.tup (.cons (.bin .add (.var 4 ⟨222, 12, 222, 16⟩) (.idx (.tup (.cons (.str "" [] ⟨222, 20, 222, 22⟩) (.cons (.str ";" [59] ⟨222, 24, 222, 27⟩) (.cons (.str " x" [32, 120] ⟨222, 29, 222, 33⟩) (.cons (.str "\n" [10] ⟨222, 35, 222, 39⟩) .nil)))) ⟨222, 19, 222, 40⟩) (.call "_law_sip" ⟨222, 41, 222, 49⟩ (.cons (.var 0 ⟨222, 50, 222, 53⟩) (.cons (.num 4 ⟨222, 55, 222, 56⟩) .nil)) ⟨222, 41, 222, 57⟩) ⟨222, 19, 222, 58⟩) ⟨222, 12, 222, 58⟩) (.cons (.var 1 ⟨222, 60, 222, 64⟩) (.cons (.var 5 ⟨222, 66, 222, 71⟩) (.cons (.bin .sub (.var 5 ⟨222, 73, 222, 78⟩) (.bi .len ⟨222, 81, 222, 84⟩ (.var 3 ⟨222, 85, 222, 91⟩) ⟨222, 81, 222, 92⟩) ⟨222, 73, 222, 92⟩) (.cons (.bin .add (.var 12 ⟨222, 94, 222, 99⟩) (.tup (.cons (.var 16 ⟨222, 103, 222, 107⟩) .nil) ⟨222, 102, 222, 109⟩) ⟨222, 94, 222, 109⟩) .nil))))) ⟨222, 11, 222, 110⟩) ⟨222, 4, 222, 110⟩)))))))))))))))))

/-- _law_read -/
noncomputable abbrev nLread : List String := ["text", "word", "start"]
noncomputable def bLread : S := (.tryl (.call "quote_token" ⟨225, 15, 225, 26⟩ (.cons (.var 0 ⟨225, 27, 225, 31⟩) (.cons (.var 1 ⟨225, 33, 225, 37⟩) (.cons (.var 2 ⟨225, 39, 225, 44⟩) .nil))) ⟨225, 15, 225, 45⟩) [⟨225, 8, 225, 45⟩, ⟨226, 11, 226, 20⟩, ⟨227, 15, 227, 20⟩, ⟨227, 15, 227, 25⟩, ⟨227, 8, 227, 25⟩, ⟨226, 4, 227, 25⟩, ⟨224, 4, 227, 25⟩])

/-- _law_here_read -/
noncomputable abbrev nLhereread : List String := ["text", "at"]
noncomputable def bLhereread : S := (.tryl (.call "here_sign" ⟨230, 15, 230, 24⟩ (.cons (.var 0 ⟨230, 25, 230, 29⟩) (.cons (.var 1 ⟨230, 31, 230, 33⟩) .nil)) ⟨230, 15, 230, 34⟩) [⟨230, 8, 230, 34⟩, ⟨231, 11, 231, 20⟩, ⟨232, 15, 232, 20⟩, ⟨232, 15, 232, 25⟩, ⟨232, 8, 232, 25⟩, ⟨231, 4, 232, 25⟩, ⟨229, 4, 232, 25⟩])

/-- _law_here_right -/
noncomputable abbrev nLhereright : List String := ["cup", "ahead", "tilde", "word", "sign", "tail", "body", "due", "name"]
noncomputable def bLhereright : S := (.seq (.asg 1 ⟨234, 4, 234, 9⟩ (.idx (.tup (.cons (.str "" [] ⟨234, 13, 234, 15⟩) (.cons (.str "\n" [10] ⟨234, 17, 234, 21⟩) (.cons (.str "x \n\n" [120, 32, 10, 10] ⟨234, 23, 234, 31⟩) .nil))) ⟨234, 12, 234, 32⟩) (.call "_law_sip" ⟨234, 33, 234, 41⟩ (.cons (.var 0 ⟨234, 42, 234, 45⟩) (.cons (.num 3 ⟨234, 47, 234, 48⟩) .nil)) ⟨234, 33, 234, 49⟩) ⟨234, 12, 234, 50⟩) ⟨234, 4, 234, 50⟩)
  (.seq (.asg 2 ⟨235, 4, 235, 9⟩ (.idx (.tup (.cons (.str "" [] ⟨235, 13, 235, 15⟩) (.cons (.str "~" [126] ⟨235, 17, 235, 20⟩) .nil)) ⟨235, 12, 235, 21⟩) (.call "_law_sip" ⟨235, 22, 235, 30⟩ (.cons (.var 0 ⟨235, 31, 235, 34⟩) (.cons (.num 2 ⟨235, 36, 235, 37⟩) .nil)) ⟨235, 22, 235, 38⟩) ⟨235, 12, 235, 39⟩) ⟨235, 4, 235, 39⟩)
  (.seq (.asg 3 ⟨236, 4, 236, 8⟩ (.idx (.tup (.cons (.str "EOF" [69, 79, 70] ⟨236, 12, 236, 17⟩) (.cons (.str "a_1" [97, 95, 49] ⟨236, 19, 236, 24⟩) (.cons (.str "" [] ⟨236, 26, 236, 28⟩) (.cons (.str "9x" [57, 120] ⟨236, 30, 236, 34⟩) (.cons (.str "two words" [116, 119, 111, 32, 119, 111, 114, 100, 115] ⟨236, 36, 236, 47⟩) (.cons (.str "up\nto" [117, 112, 10, 116, 111] ⟨236, 49, 236, 57⟩) .nil)))))) ⟨236, 11, 236, 58⟩) (.call "_law_sip" ⟨236, 59, 236, 67⟩ (.cons (.var 0 ⟨236, 68, 236, 71⟩) (.cons (.num 6 ⟨236, 73, 236, 74⟩) .nil)) ⟨236, 59, 236, 75⟩) ⟨236, 11, 236, 76⟩) ⟨236, 4, 236, 76⟩)
  (.seq (.asg 4 ⟨237, 4, 237, 8⟩ (.idx (.tup (.cons (.str "" [] ⟨237, 12, 237, 14⟩) (.cons (.str "'" [39] ⟨237, 16, 237, 19⟩) (.cons (.str "\"" [34] ⟨237, 21, 237, 24⟩) .nil))) ⟨237, 11, 237, 25⟩) (.call "_law_sip" ⟨237, 26, 237, 34⟩ (.cons (.var 0 ⟨237, 35, 237, 38⟩) (.cons (.num 3 ⟨237, 40, 237, 41⟩) .nil)) ⟨237, 26, 237, 42⟩) ⟨237, 11, 237, 43⟩) ⟨237, 4, 237, 43⟩)
  (.seq (.asg 5 ⟨238, 4, 238, 8⟩ (.idx (.tup (.cons (.str "" [] ⟨238, 12, 238, 14⟩) (.cons (.str ";" [59] ⟨238, 16, 238, 19⟩) (.cons (.str " . 1" [32, 46, 32, 49] ⟨238, 21, 238, 27⟩) .nil))) ⟨238, 11, 238, 28⟩) (.call "_law_sip" ⟨238, 29, 238, 37⟩ (.cons (.var 0 ⟨238, 38, 238, 41⟩) (.cons (.num 3 ⟨238, 43, 238, 44⟩) .nil)) ⟨238, 29, 238, 45⟩) ⟨238, 11, 238, 46⟩) ⟨238, 4, 238, 46⟩)
  (.seq (.asg 6 ⟨239, 4, 239, 8⟩ (.bin .add (.bin .add (.bin .add (.bin .add (.str "<<" [60, 60] ⟨239, 11, 239, 15⟩) (.var 2 ⟨239, 18, 239, 23⟩) ⟨239, 11, 239, 23⟩) (.var 4 ⟨239, 26, 239, 30⟩) ⟨239, 11, 239, 30⟩) (.var 3 ⟨239, 33, 239, 37⟩) ⟨239, 11, 239, 37⟩) (.var 4 ⟨239, 40, 239, 44⟩) ⟨239, 11, 239, 44⟩) ⟨239, 4, 239, 44⟩)
  (.seq (.asg 7 ⟨240, 4, 240, 7⟩ (.tup (.cons (.var 3 ⟨240, 11, 240, 15⟩) (.cons (.ite (.cmp .eq (.var 4 ⟨240, 26, 240, 30⟩) (.str "'" [39] ⟨240, 34, 240, 37⟩) ⟨240, 26, 240, 37⟩) (.str "str" [115, 116, 114] ⟨240, 17, 240, 22⟩) (.str "interp" [105, 110, 116, 101, 114, 112] ⟨240, 43, 240, 51⟩) ⟨240, 17, 240, 51⟩) (.cons (.cmp .eq (.var 2 ⟨240, 53, 240, 58⟩) (.str "~" [126] ⟨240, 62, 240, 65⟩) ⟨240, 53, 240, 65⟩) (.cons (.bi .len ⟨240, 67, 240, 70⟩ (.bin .add (.var 1 ⟨240, 71, 240, 76⟩) (.var 6 ⟨240, 79, 240, 83⟩) ⟨240, 71, 240, 83⟩) ⟨240, 67, 240, 84⟩) .nil)))) ⟨240, 10, 240, 85⟩) ⟨240, 4, 240, 85⟩)
  (.seq (.ite (.cmp .eq (.var 4 ⟨241, 7, 241, 11⟩) (.str "" [] ⟨241, 15, 241, 17⟩) ⟨241, 7, 241, 17⟩)
  (.seq (.asg 8 ⟨242, 8, 242, 12⟩ (.ite (.cmp .ne (.var 3 ⟨242, 34, 242, 38⟩) (.str "" [] ⟨242, 42, 242, 44⟩) ⟨242, 34, 242, 44⟩) (.idx (.meth .split (.var 3 ⟨242, 15, 242, 19⟩) ⟨242, 15, 242, 25⟩ .nil ⟨242, 15, 242, 27⟩) (.num 0 ⟨242, 28, 242, 29⟩) ⟨242, 15, 242, 30⟩) (.str "" [] ⟨242, 50, 242, 52⟩) ⟨242, 15, 242, 52⟩) ⟨242, 8, 242, 52⟩)
  (.asg 7 ⟨243, 8, 243, 11⟩ (.ite (.or (.cons (.cmp .eq (.var 8 ⟨243, 22, 243, 26⟩) (.str "" [] ⟨243, 30, 243, 32⟩) ⟨243, 22, 243, 32⟩) (.cons (.cmp .eq (.var 8 ⟨243, 36, 243, 40⟩) (.str "9x" [57, 120] ⟨243, 44, 243, 48⟩) ⟨243, 36, 243, 48⟩) .nil)) ⟨243, 22, 243, 48⟩) (.non ⟨243, 14, 243, 18⟩) (.tup (.cons (.var 8 ⟨243, 55, 243, 59⟩) (.cons (.str "interp" [105, 110, 116, 101, 114, 112] ⟨243, 61, 243, 69⟩) (.cons (.cmp .eq (.var 2 ⟨243, 71, 243, 76⟩) (.str "~" [126] ⟨243, 80, 243, 83⟩) ⟨243, 71, 243, 83⟩) (.cons (.bin .add (.bin .add (.bin .add (.bi .len ⟨243, 85, 243, 88⟩ (.var 1 ⟨243, 89, 243, 94⟩) ⟨243, 85, 243, 95⟩) (.num 2 ⟨243, 98, 243, 99⟩) ⟨243, 85, 243, 99⟩) (.bi .len ⟨243, 102, 243, 105⟩ (.var 2 ⟨243, 106, 243, 111⟩) ⟨243, 102, 243, 112⟩) ⟨243, 85, 243, 112⟩) (.bi .len ⟨243, 115, 243, 118⟩ (.var 8 ⟨243, 119, 243, 123⟩) ⟨243, 115, 243, 124⟩) ⟨243, 85, 243, 124⟩) .nil)))) ⟨243, 54, 243, 125⟩) ⟨243, 14, 243, 125⟩) ⟨243, 8, 243, 125⟩))
  (.ite (.cmp .eq (.var 3 ⟨244, 9, 244, 13⟩) (.str "up\nto" [117, 112, 10, 116, 111] ⟨244, 17, 244, 25⟩) ⟨244, 9, 244, 25⟩)
  (.asg 7 ⟨245, 8, 245, 11⟩ (.call "_law_row" ⟨245, 14, 245, 22⟩ (.cons (.var 1 ⟨245, 23, 245, 28⟩) (.cons (.bi .len ⟨245, 30, 245, 33⟩ (.var 1 ⟨245, 34, 245, 39⟩) ⟨245, 30, 245, 40⟩) .nil)) ⟨245, 14, 245, 41⟩) ⟨245, 8, 245, 41⟩)
  .nil ⟨244, 4, 245, 41⟩) ⟨241, 4, 245, 41⟩)
  (.ret (.cmp .eq (.call "_law_here_read" ⟨246, 11, 246, 25⟩ (.cons (.bin .add (.bin .add (.var 1 ⟨246, 26, 246, 31⟩) (.var 6 ⟨246, 34, 246, 38⟩) ⟨246, 26, 246, 38⟩) (.var 5 ⟨246, 41, 246, 45⟩) ⟨246, 26, 246, 45⟩) (.cons (.bi .len ⟨246, 47, 246, 50⟩ (.var 1 ⟨246, 51, 246, 56⟩) ⟨246, 47, 246, 57⟩) .nil)) ⟨246, 11, 246, 58⟩) (.var 7 ⟨246, 62, 246, 65⟩) ⟨246, 11, 246, 65⟩) ⟨246, 4, 246, 65⟩)))))))))

/-- law -/
noncomputable abbrev nlaw : List String := ["script", "cup", "turn", "text", "word", "start", "after", "due", "begin", "cell", "what"]
noncomputable def blaw : S := (.seq (.for 2 ⟨249, 8, 249, 12⟩ (.bi .range ⟨249, 16, 249, 21⟩ (.num 2 ⟨249, 22, 249, 23⟩) ⟨249, 16, 249, 24⟩)
  (.seq (.asgT [(3, ⟨250, 8, 250, 12⟩), (4, ⟨250, 14, 250, 18⟩), (5, ⟨250, 20, 250, 25⟩), (6, ⟨250, 27, 250, 32⟩), (7, ⟨250, 34, 250, 37⟩)] ⟨250, 8, 250, 37⟩ (.call "_law_quote" ⟨250, 40, 250, 50⟩ (.cons (.var 1 ⟨250, 51, 250, 54⟩) .nil) ⟨250, 40, 250, 55⟩) ⟨250, 8, 250, 55⟩)
  (.seq (.ite (.cmp .ne (.call "_law_read" ⟨251, 11, 251, 20⟩ (.cons (.var 3 ⟨251, 21, 251, 25⟩) (.cons (.var 4 ⟨251, 27, 251, 31⟩) (.cons (.var 5 ⟨251, 33, 251, 38⟩) .nil))) ⟨251, 11, 251, 39⟩) (.var 7 ⟨251, 43, 251, 46⟩) ⟨251, 11, 251, 46⟩)
  (.ret (.bool false ⟨252, 19, 252, 24⟩) ⟨252, 12, 252, 24⟩)
  .nil ⟨251, 8, 252, 24⟩)
  (.seq (.ite (.cmp .ne (.call "opening_place" ⟨253, 11, 253, 24⟩ (.cons (.var 3 ⟨253, 25, 253, 29⟩) (.cons (.var 6 ⟨253, 31, 253, 36⟩) .nil)) ⟨253, 11, 253, 37⟩) (.ite (.and (.cons (.cmp .eq (.idx (.var 3 ⟨253, 48, 253, 52⟩) (.var 5 ⟨253, 53, 253, 58⟩) ⟨253, 48, 253, 59⟩) (.str "#" [35] ⟨253, 63, 253, 66⟩) ⟨253, 48, 253, 66⟩) (.cons (.cmp .gt (.var 5 ⟨253, 71, 253, 76⟩) (.var 6 ⟨253, 79, 253, 84⟩) ⟨253, 71, 253, 84⟩) .nil)) ⟨253, 48, 253, 84⟩) (.neg 1 ⟨253, 43, 253, 44⟩ ⟨253, 42, 253, 44⟩) (.var 5 ⟨253, 90, 253, 95⟩) ⟨253, 42, 253, 95⟩) ⟨253, 11, 253, 96⟩)
  (.ret (.bool false ⟨254, 19, 254, 24⟩) ⟨254, 12, 254, 24⟩)
  .nil ⟨253, 8, 254, 24⟩)
  (.seq (.asg 8 ⟨255, 8, 255, 13⟩ (.idx (.tup (.cons (.str "" [] ⟨255, 17, 255, 19⟩) (.cons (.str " " [32] ⟨255, 21, 255, 24⟩) .nil)) ⟨255, 16, 255, 25⟩) (.call "_law_sip" ⟨255, 26, 255, 34⟩ (.cons (.var 1 ⟨255, 35, 255, 38⟩) (.cons (.num 2 ⟨255, 40, 255, 41⟩) .nil)) ⟨255, 26, 255, 42⟩) ⟨255, 16, 255, 43⟩) ⟨255, 8, 255, 43⟩)
  (.seq (.ite (.cmp .ne (.comp (.call "opening_place" ⟨256, 12, 256, 25⟩ (.cons (.bin .add (.bin .add (.var 4 ⟨256, 26, 256, 30⟩) (.var 8 ⟨256, 33, 256, 38⟩) ⟨256, 26, 256, 38⟩) (.var 10 ⟨256, 41, 256, 45⟩) ⟨256, 26, 256, 45⟩) (.cons (.bi .len ⟨256, 47, 256, 50⟩ (.var 4 ⟨256, 51, 256, 55⟩) ⟨256, 47, 256, 56⟩) .nil)) ⟨256, 12, 256, 57⟩) 10 ⟨256, 62, 256, 66⟩ (.tup (.cons (.str "b/" [98, 47] ⟨256, 71, 256, 75⟩) (.cons (.str "_" [95] ⟨256, 77, 256, 80⟩) (.cons (.str "7" [55] ⟨256, 82, 256, 85⟩) (.cons (.str "=> 1" [61, 62, 32, 49] ⟨256, 87, 256, 93⟩) (.cons (.str "" [] ⟨256, 95, 256, 97⟩) .nil))))) ⟨256, 70, 256, 98⟩) .nil ⟨PySem.ScopeKind.function, [((PySem.Str.ofString ".0"), PySem.NameKind.local), ((PySem.Str.ofString "what"), PySem.NameKind.local), ((PySem.Str.ofString "opening_place"), PySem.NameKind.globalImplicit), ((PySem.Str.ofString "len"), PySem.NameKind.globalImplicit), ((PySem.Str.ofString "begin"), PySem.NameKind.free), ((PySem.Str.ofString "word"), PySem.NameKind.free)], false, false, []⟩ [8, 4] ⟨256, 11, 256, 99⟩) (.lst (.cons (.neg 1 ⟨256, 105, 256, 106⟩ ⟨256, 104, 256, 106⟩) (.cons (.neg 1 ⟨256, 109, 256, 110⟩ ⟨256, 108, 256, 110⟩) (.cons (.neg 1 ⟨256, 113, 256, 114⟩ ⟨256, 112, 256, 114⟩) (.cons (.neg 1 ⟨256, 117, 256, 118⟩ ⟨256, 116, 256, 118⟩) (.cons (.neg 1 ⟨256, 121, 256, 122⟩ ⟨256, 120, 256, 122⟩) .nil))))) ⟨256, 103, 256, 123⟩) ⟨256, 11, 256, 123⟩)
  (.ret (.bool false ⟨257, 19, 257, 24⟩) ⟨257, 12, 257, 24⟩)
  .nil ⟨256, 8, 257, 24⟩)
  (.ite (.cmp .ne (.call "opening_place" ⟨258, 11, 258, 24⟩ (.cons (.bin .add (.bin .add (.var 4 ⟨258, 25, 258, 29⟩) (.var 8 ⟨258, 32, 258, 37⟩) ⟨258, 25, 258, 37⟩) (.str "=x=" [61, 120, 61] ⟨258, 40, 258, 45⟩) ⟨258, 25, 258, 45⟩) (.cons (.bi .len ⟨258, 47, 258, 50⟩ (.var 4 ⟨258, 51, 258, 55⟩) ⟨258, 47, 258, 56⟩) .nil)) ⟨258, 11, 258, 57⟩) (.bi .len ⟨258, 61, 258, 64⟩ (.bin .add (.var 4 ⟨258, 65, 258, 69⟩) (.var 8 ⟨258, 72, 258, 77⟩) ⟨258, 65, 258, 77⟩) ⟨258, 61, 258, 78⟩) ⟨258, 11, 258, 78⟩)
  (.ret (.bool false ⟨259, 19, 259, 24⟩) ⟨259, 12, 259, 24⟩)
  .nil ⟨258, 8, 259, 24⟩)))))) ⟨249, 4, 259, 24⟩)
  (.ret (.call "_law_here_right" ⟨260, 11, 260, 26⟩ (.cons (.var 1 ⟨260, 27, 260, 30⟩) .nil) ⟨260, 11, 260, 31⟩) ⟨260, 4, 260, 31⟩))


end Mine
namespace Mine
open PySem

/-! the evaluator in small steps -/
noncomputable abbrev Ev (g : Sg) (ρ : List AV) (d : Int) (e : E) (v : AV) (d' : Int) : Prop := oneA ((dn g e).e ρ) d = some (.ok v, d')
noncomputable abbrev Et (g : Sg) (ρ : List AV) (d : Int) (e : E) (b : Bool) (d' : Int) : Prop := (dn g e).c ρ d = some (.ok b, d')
noncomputable abbrev El (g : Sg) (ρ : List AV) (d : Int) (e : E) (l : List AV) (d' : Int) : Prop := (dn g e).e ρ d = some (.ok l, d')
noncomputable abbrev Eb (g : Sg) (ρ : List AV) (d : Int) (k : Bool) (e : E) (v : AV) (d' : Int) : Prop := (dn g e).b k ρ d = some (.ok v, d')
noncomputable abbrev Ek (g : Sg) (ρ : List AV) (d : Int) (k : Bool) (e : E) (b : Bool) (d' : Int) : Prop := (dn g e).t k ρ d = some (.ok b, d')
noncomputable abbrev Sx (g : Sg) (ρ : List AV) (d : Int) (s : S) (r : Fl × List AV) (d' : Int) : Prop := ds g s ρ d = some (.ok r, d')

theorem bindOk {α β : Type} {m : M α} {f : α → M β} {d d1 : Int} {a : α} {r : Option (Except Int β × Int)} (h : m d = some (.ok a, d1)) (h2 : f a d1 = r) : M.bind m f d = r := by unfold M.bind; rw [h]; exact h2
theorem bindErr {α β : Type} {m : M α} {f : α → M β} {d d1 l : Int} (h : m d = some (.error l, d1)) : M.bind m f d = some (.error l, d1) := by unfold M.bind; rw [h]
theorem liftOk {α : Type} {o : Option α} {a : α} {d : Int} (h : o = some a) : M.lift o d = some (.ok a, d) := by subst h; rfl
theorem oneOk {m : M (List AV)} {d d' : Int} {a : AV} (h : m d = some (.ok [a], d')) : oneA m d = some (.ok a, d') := bindOk h rfl

section
variable {g : Sg} {ρ : List AV} {d d1 d2 d3 : Int} {a b c i es : E} {x y z : AV} {l : List AV} {p q r0 : Pos}

theorem Ev.num {i : Int} : Ev g ρ d (.num i p) (.int i) d := rfl
theorem Ev.str {s : String} {l : List Nat} : Ev g ρ d (.str s l p) (.str l) d := rfl
theorem Ev.bool {b : Bool} : Ev g ρ d (.bool b p) (.bool b) d := rfl
theorem Ev.non : Ev g ρ d (.non p) .none d := rfl
theorem Ev.neg {i : Int} : Ev g ρ d (.neg i q p) (.int (-i)) d := rfl
theorem Ev.var {n : Nat} (h : varA ρ n = M.pure x) : Ev g ρ d (.var n p) x d := by
  show oneA (M.bind (varA ρ n) ret1) d = _
  rw [h]; rfl
theorem Ev.glb {n : String} (h : g.GV n = some x) : Ev g ρ d (.glb n p) x d := oneOk (bindOk (liftOk h) rfl)
theorem Ev.bin {o : BO} (h1 : Ev g ρ d a x d1) (h2 : Ev g ρ d1 b y d2) (h : binA o x y = some z) : Ev g ρ d (.bin o a b p) z d2 := oneOk (bindOk h1 (bindOk h2 (bindOk (liftOk h) rfl)))
theorem Ev.cmp {o : CO} {t : Bool} (h1 : Ev g ρ d a x d1) (h2 : Ev g ρ d1 b y d2) (h : cmpA o x y = some t) : Ev g ρ d (.cmp o a b p) (.bool t) d2 := oneOk (bindOk h1 (bindOk h2 (bindOk (liftOk h) rfl)))
theorem Et.cmp {o : CO} {t : Bool} (h1 : Ev g ρ d a x d1) (h2 : Ev g ρ d1 b y d2) (h : cmpA o x y = some t) : Et g ρ d (.cmp o a b p) t d2 := bindOk h1 (bindOk h2 (liftOk h))
theorem Et.var {n : Nat} {t : Bool} (h : varA ρ n = M.pure x) (ht : truthA x = some t) : Et g ρ d (.var n p) t d := bindOk (Ev.var (g := g) (p := p) h) (liftOk ht)
theorem Ek.nil {k : Bool} : Ek g ρ d k .nil k d := rfl
theorem Ek.go {k : Bool} {t : Bool} (h1 : Et g ρ d a k d1) (h2 : Ek g ρ d1 k b t d2) : Ek g ρ d k (.cons a b) t d2 := bindOk h1 (by rw [if_pos rfl]; exact h2)
theorem Ek.stop {k : Bool} {t : Bool} (h1 : Et g ρ d a t d1) (h : t ≠ k) : Ek g ρ d k (.cons a b) t d1 := bindOk h1 (by rw [if_neg h]; rfl)
theorem Et.and {t : Bool} (h : Ek g ρ d true es t d1) : Et g ρ d (.and es p) t d1 := h
theorem Et.or {t : Bool} (h : Ek g ρ d false es t d1) : Et g ρ d (.or es p) t d1 := h
theorem El.nil : El g ρ d .nil [] d := rfl
theorem El.cons (h1 : Ev g ρ d a x d1) (h2 : El g ρ d1 b l d2) : El g ρ d (.cons a b) (x :: l) d2 := bindOk h1 (bindOk h2 rfl)
theorem Ev.tup (h : El g ρ d es l d1) (hl : l.length ≤ LIM) : Ev g ρ d (.tup es p) (.tup l) d1 := oneOk (bindOk h (by rw [if_pos hl]; rfl))
theorem Ev.lst (h : El g ρ d es l d1) (hl : l.length ≤ LIM) : Ev g ρ d (.lst es p) (.list l) d1 := oneOk (bindOk h (by rw [if_pos hl]; rfl))
theorem Ev.iteT (h1 : Et g ρ d c true d1) (h2 : Ev g ρ d1 a x d2) : Ev g ρ d (.ite c a b p) x d2 := oneOk (bindOk h1 (bindOk h2 rfl))
theorem Ev.iteF (h1 : Et g ρ d c false d1) (h2 : Ev g ρ d1 b x d2) : Ev g ρ d (.ite c a b p) x d2 := oneOk (bindOk h1 (bindOk h2 rfl))
theorem Ev.idx (h1 : Ev g ρ d a x d1) (h2 : Ev g ρ d1 i y d2) (h : idxA g.cs x y d2 = some (.ok z, d3)) : Ev g ρ d (.idx a i p) z d3 := oneOk (bindOk h1 (bindOk h2 (bindOk h rfl)))
theorem Ev.call {f : String} (h1 : El g ρ d es l d1) (h : g.F f l d1 = some (.ok z, d2)) : Ev g ρ d (.call f q es p) z d2 := oneOk (bindOk h1 (bindOk h rfl))
theorem Ev.bi {f : BI} (h1 : Ev g ρ d a x d1) (h : biA f x = some z) : Ev g ρ d (.bi f q a p) z d1 := oneOk (bindOk h1 (bindOk (liftOk h) rfl))
theorem Ev.meth {m : MT} (h1 : Ev g ρ d a x d1) (hm : methHas m x = true) (h2 : El g ρ d1 es l d2) (h : methA m x l = some z) : Ev g ρ d (.meth m a q es p) z d2 :=
  oneOk (bindOk h1 (bindOk (by rw [if_pos hm]; rfl) (bindOk h2 (bindOk (liftOk h) rfl))))
theorem Ev.slc0 {hi : E} {l : List Nat} {j : Int} (h1 : Ev g ρ d a (.str l) d1) (h2 : Ev g ρ d1 hi (.int j) d2) (hh : hi.isNil = false) (h : slcA (.str l) [] [.int j] = some z) : Ev g ρ d (.slc a .nil hi q p) z d2 :=
  oneOk (bindOk h1 (bindOk (a := []) rfl (bindOk (a := [.int j]) (by unfold optA; rw [hh]; exact bindOk h2 rfl) (bindOk (liftOk h) rfl))))
theorem Ev.slc2 {lo hi : E} {l : List Nat} {j k : Int} (h1 : Ev g ρ d a (.str l) d1) (h2 : Ev g ρ d1 lo (.int j) d2) (h3 : Ev g ρ d2 hi (.int k) d3) (hl : lo.isNil = false) (hh : hi.isNil = false) (h : slcA (.str l) [.int j] [.int k] = some z) : Ev g ρ d (.slc a lo hi q p) z d3 :=
  oneOk (bindOk h1 (bindOk (a := [.int j]) (by unfold optA; rw [hl]; exact bindOk h2 rfl) (bindOk (a := [.int k]) (by unfold optA; rw [hh]; exact bindOk h3 rfl) (bindOk (liftOk h) rfl))))

/-! statements -/
set_option tactic.hygienic true
theorem Sx.nil : Sx g ρ d .nil (.next, ρ) d := rfl
theorem Sx.seq {s t : S} {ρ1 : List AV} {r : Fl × List AV} (h1 : Sx g ρ d s (.next, ρ1) d1) (h2 : Sx g ρ1 d1 t r d2) : Sx g ρ d (.seq s t) r d2 := bindOk h1 h2
set_option tactic.hygienic false
theorem Sx.ret1 {s t : S} {ρ1 : List AV} (h1 : Sx g ρ d s (.ret x, ρ1) d1) : Sx g ρ d (.seq s t) (.ret x, ρ1) d1 := bindOk h1 rfl
theorem Sx.cont1 {s t : S} {ρ1 : List AV} (h1 : Sx g ρ d s (.cont, ρ1) d1) : Sx g ρ d (.seq s t) (.cont, ρ1) d1 := bindOk h1 rfl
set_option tactic.hygienic true
theorem Sx.asg {n : Nat} (h : Ev g ρ d a x d1) : Sx g ρ d (.asg n q a p) (.next, ρ.set n x) d1 := bindOk h rfl
set_option tactic.hygienic false
theorem Sx.ret (h : Ev g ρ d a x d1) : Sx g ρ d (.ret a p) (.ret x, ρ) d1 := bindOk h rfl
theorem Sx.cont : Sx g ρ d (.cont p) (.cont, ρ) d := rfl
set_option tactic.hygienic true
theorem Sx.aug {n : Nat} {o : BO} (h0 : varA ρ n = M.pure x) (h : Ev g ρ d a y d1) (hz : augA o x y = some z) : Sx g ρ d (.aug n q o a p) (.next, ρ.set n z) d1 := by
  show M.bind (varA ρ n) _ d = _
  rw [h0]
  exact bindOk (a := x) rfl (bindOk h (bindOk (liftOk hz) rfl))
set_option tactic.hygienic false
theorem Sx.iteT {s t : S} {r : Fl × List AV} (h1 : Et g ρ d c true d1) (h2 : Sx g ρ d1 s r d2) : Sx g ρ d (.ite c s t p) r d2 := bindOk h1 h2
theorem Sx.iteF {s t : S} {r : Fl × List AV} (h1 : Et g ρ d c false d1) (h2 : Sx g ρ d1 t r d2) : Sx g ρ d (.ite c s t p) r d2 := bindOk h1 h2
set_option tactic.hygienic true
theorem Sx.asgT {xs : List (Nat × Pos)} {l : List AV} (h : Ev g ρ d a (.tup l) d1) (hl : l.length = xs.length) (hz : l.length ≤ LIM) : Sx g ρ d (.asgT xs q a p) (.next, setsA xs l ρ) d1 := bindOk h (by dsimp only; rw [if_pos ⟨hl, hz⟩]; rfl)

/-- loops: the state goes along -/
noncomputable abbrev Wx (g : Sg) (c : E) (b : S) (n : Nat) (ρ : List AV) (d : Int) (r : Fl × List AV) (d' : Int) : Prop := iterW (dn g c).c (ds g b) n ρ d = some (.ok r, d')
theorem Wx.stop {b : S} {n : Nat} (h : Et g ρ d c false d1) : Wx g c b (n + 1) ρ d (.next, ρ) d1 := bindOk h rfl
theorem Wx.go {b : S} {n : Nat} {ρ1 : List AV} {r : Fl × List AV} (h : Et g ρ d c true d1) (h2 : Sx g ρ d1 b (.next, ρ1) d2) (h3 : Wx g c b n ρ1 d2 r d3) : Wx g c b (n + 1) ρ d r d3 := bindOk h (bindOk h2 h3)
set_option tactic.hygienic false
theorem Wx.goC {b : S} {n : Nat} {ρ1 : List AV} {r : Fl × List AV} (h : Et g ρ d c true d1) (h2 : Sx g ρ d1 b (.cont, ρ1) d2) (h3 : Wx g c b n ρ1 d2 r d3) : Wx g c b (n + 1) ρ d r d3 := bindOk h (bindOk h2 h3)
theorem Wx.ret {b : S} {n : Nat} {ρ1 : List AV} (h : Et g ρ d c true d1) (h2 : Sx g ρ d1 b (.ret x, ρ1) d2) : Wx g c b (n + 1) ρ d (.ret x, ρ1) d2 := bindOk h (bindOk h2 rfl)
theorem Sx.whl {b : S} {r : Fl × List AV} (h : Wx g c b g.N ρ d r d1) : Sx g ρ d (.whl c b p) r d1 := h
end

/-! small numbers -/
theorem natIn {e : Nat} (h : e ≤ LIM) : 0 ≤ (e : Int) ∧ (e : Int) ≤ (LIM : Nat) := ⟨Int.natCast_nonneg e, Int.ofNat_le.mpr h⟩
theorem ltLen {e n : Nat} (h : e < n) : cmpA .lt (.int (e : Int)) (.int (n : Int)) = some true := by show some (decide _) = _; rw [decide_eq_true (Int.ofNat_lt.mpr h)]
theorem geLen {e n : Nat} (h : n ≤ e) : cmpA .lt (.int (e : Int)) (.int (n : Int)) = some false := by show some (decide _) = _; rw [decide_eq_false (Int.not_lt.mpr (Int.ofNat_le.mpr h))]
theorem ea1 (e n : Nat) : e + 1 + n = e + (n + 1) := Nat.succ_add_eq_add_succ e n
theorem ea2 (e n : Nat) : e + 2 + n = e + (n + 1 + 1) := by rw [Nat.add_assoc, Nat.add_comm 2 n]
theorem lim2 {a : Nat} (h : a ≤ LIM) : a ≤ 1000002 := Nat.le_trans h (Nat.le_of_ble_eq_true rfl)
theorem no0 {a : Nat} (h : a ≤ LIM) (h2 : 1000002 ≤ 0 + a) : False := absurd (Nat.le_trans h2 (Nat.le_of_eq (Nat.zero_add a))) (Nat.not_le_of_lt (Nat.lt_of_le_of_lt h (Nat.le_of_ble_eq_true rfl)))
end Mine
namespace Mine
open PySem

noncomputable def runLen (l signs : List Nat) : Nat := (l.takeWhile fun c => signs.contains c).length

section
variable {g : Sg} {d : Int}
theorem strAt {t : List Nat} {e : Nat} (he : e < t.length) (ht : t.length ≤ LIM) : idxA g.cs (.str t) (.int (e : Int)) d = some (.ok (.str [t[e]]), d) := by
  show (if 0 ≤ (e : Int) ∧ (e : Int) ≤ (LIM : Nat) then M.lift (t[(e : Int).toNat]?.map fun c => AV.str [c]) else M.fail) d = _
  rw [if_pos (natIn (Nat.le_trans (Nat.le_of_lt he) ht)), Int.toNat_natCast, List.getElem?_eq_getElem he]
  rfl
theorem lenOf {t : List Nat} (ht : t.length ≤ LIM) : biA .len (.str t) = some (.int t.length) := if_pos ht

theorem runGo {c : Nat} {l signs : List Nat} (h : signs.contains c = true) : runLen (c :: l) signs = runLen l signs + 1 := by unfold runLen; rw [List.takeWhile_cons, h]; rfl
theorem runNo {c : Nat} {l signs : List Nat} (h : signs.contains c = false) : runLen (c :: l) signs = 0 := by unfold runLen; rw [List.takeWhile_cons, h]; rfl
set_option tactic.hygienic true
theorem run_end_loop {p0 p1 p2 p3 p4 p5 p6 p7 p8 p9 q0 q1 q2 q3 : Pos} {t signs : List Nat} {a : Int} (ht : t.length ≤ LIM) : ∀ (n e k : Nat), t.length - e < n → e + runLen (t.drop e) signs = k →
    Wx g (.and (.cons (.cmp .lt (.var 3 p0) (.bi .len p1 (.var 0 p2) p3) p4) (.cons (.cmp .isin (.idx (.var 0 p5) (.var 3 p6) p7) (.var 2 p8) p9) .nil)) q0) (.aug 3 q1 .add (.num 1 q2) q3) n [.str t, .int a, .str signs, .int (e : Int)] d
      (.next, [.str t, .int a, .str signs, .int (k : Int)]) d
  | 0, e, k, h, _ => absurd h (Nat.not_lt_zero _)
  | n + 1, e, k, h, hk => by
    rcases Nat.lt_or_ge e t.length with he | he
    · rw [List.drop_eq_getElem_cons he] at hk
      have e1 : Et g [.str t, .int a, .str signs, .int (e : Int)] d (.cmp .lt (.var 3 p0) (.bi .len p1 (.var 0 p2) p3) p4) true d := Et.cmp (Ev.var rfl) (Ev.bi (Ev.var rfl) (lenOf ht)) (ltLen he)
      have e2 : ∀ {b}, signs.contains t[e] = b → Et g [.str t, .int a, .str signs, .int (e : Int)] d (.cmp .isin (.idx (.var 0 p5) (.var 3 p6) p7) (.var 2 p8) p9) b d := fun q => Et.cmp (Ev.idx (Ev.var rfl) (Ev.var rfl) (strAt he ht)) (Ev.var rfl) (congrArg some q)
      cases hc : signs.contains t[e] with
      | true =>
        rw [runGo hc] at hk
        exact Wx.go (Et.and (Ek.go e1 (Ek.go (e2 hc) Ek.nil))) (Sx.aug rfl Ev.num rfl) (run_end_loop ht n (e + 1) k (Nat.lt_of_lt_of_le (Nat.sub_succ_lt_self _ _ he) (Nat.le_of_lt_succ h)) ((ea1 _ _).trans hk))
      | false =>
        rw [runNo hc] at hk
        cases hk
        exact Wx.stop (Et.and (Ek.go e1 (Ek.stop (e2 hc) (by decide))))
    · rw [List.drop_eq_nil_of_le he] at hk
      cases (show e = k from hk)
      exact Wx.stop (Et.and (Ek.stop (Et.cmp (Ev.var rfl) (Ev.bi (Ev.var rfl) (lenOf ht)) (geLen he)) (by decide)))

set_option tactic.hygienic false
theorem x_run_end {t signs : List Nat} {a : Nat} (ht : t.length ≤ LIM) (hn : t.length < g.N) : Sx g (initA [.str t, .int (a : Int), .str signs] 4) d brunend (.ret (.int ((a + runLen (t.drop a) signs : Nat) : Int)), [.str t, .int (a : Int), .str signs, .int ((a + runLen (t.drop a) signs : Nat) : Int)]) d :=
  Sx.seq (Sx.asg (Ev.var rfl)) (Sx.seq (Sx.whl (run_end_loop ht g.N a _ (Nat.lt_of_le_of_lt (Nat.sub_le _ _) hn) rfl)) (Sx.ret (Ev.var rfl)))
end
end Mine
namespace Mine
open PySem

noncomputable def remEnd (t : List Nat) (a : Nat) : Int := if findA 10 t a 0 < 0 then t.length else findA 10 t a 0
noncomputable def lineAt (t : List Nat) (a : Nat) : Int := 1 + ((t.take a).count 10 : Nat)

section
variable {g : Sg} {d : Int} {t : List Nat} {a : Nat}

theorem cutTo (ht : t.length ≤ LIM) (ha : a ≤ LIM) : slcA (.str t) [] [.int (a : Int)] = some (.str (t.take a)) := by
  show (if t.length ≤ LIM then (match bndA [], bndA [.int (a : Int)] with | some lo, some hi => some (AV.str (cutA t lo hi)) | _, _ => none) else none) = _
  rw [if_pos ht]
  have : bndA [.int (a : Int)] = some (some a) := by
    show (if 0 ≤ (a : Int) ∧ (a : Int) ≤ (LIM : Nat) then some (some (a : Int).toNat) else none) = _
    rw [if_pos (natIn ha), Int.toNat_natCast]
  rw [this]
  show some (AV.str ((t.take a).drop 0)) = _
  rw [List.drop_zero]

theorem x_remark_end (ht : t.length ≤ LIM) (ha : a ≤ LIM) : ∃ ρ', Sx g (initA [.str t, .int (a : Int)] 3) d bremarkend (.ret (.int (remEnd t a)), ρ') d := by
  have hf : methA .find (.str t) [.str [10], .int (a : Int)] = some (.int (findA 10 t a 0)) := by
    show (if 0 ≤ (a : Int) ∧ (a : Int) ≤ (LIM : Nat) then some (AV.int (findA 10 t (a : Int).toNat 0)) else none) = _
    rw [if_pos (natIn ha), Int.toNat_natCast]
  have e1 : Ev g (initA [.str t, .int (a : Int)] 3) d (.meth .find (.var 0 ⟨3, 10, 3, 14⟩) ⟨3, 10, 3, 19⟩ (.cons (.str "\n" [10] ⟨3, 20, 3, 24⟩) (.cons (.var 1 ⟨3, 26, 3, 28⟩) .nil)) ⟨3, 10, 3, 29⟩) (.int (findA 10 t a 0)) d :=
    Ev.meth (Ev.var rfl) rfl (El.cons Ev.str (El.cons (Ev.var rfl) El.nil)) hf
  by_cases h : findA 10 t a 0 < 0
  · have hr : remEnd t a = t.length := if_pos h
    rw [hr]
    exact ⟨_, Sx.seq (Sx.asg e1) (Sx.ret (Ev.iteT (Et.cmp (Ev.var rfl) Ev.num (by show some (decide _) = _; rw [decide_eq_true h])) (Ev.bi (Ev.var rfl) (lenOf ht))))⟩
  · have hr : remEnd t a = findA 10 t a 0 := if_neg h
    rw [hr]
    exact ⟨_, Sx.seq (Sx.asg e1) (Sx.ret (Ev.iteF (Et.cmp (Ev.var rfl) Ev.num (by show some (decide _) = _; rw [decide_eq_false h])) (Ev.var rfl)))⟩

theorem x_line_of (ht : t.length ≤ LIM) (ha : a ≤ LIM) : ∃ ρ', Sx g (initA [.str t, .int (a : Int)] 2) d blineof (.ret (.int (lineAt t a)), ρ') d :=
  ⟨_, Sx.ret (Ev.bin Ev.num (Ev.meth (Ev.slc0 (Ev.var rfl) (Ev.var rfl) rfl (cutTo ht ha)) rfl (El.cons Ev.str El.nil) rfl) rfl)⟩
theorem x_line_of_place (ht : t.length ≤ LIM) (ha : a ≤ LIM) : ∃ ρ', Sx g (initA [.str t, .int (a : Int)] 2) d blineofplace (.ret (.int (lineAt t a)), ρ') d :=
  ⟨_, Sx.ret (Ev.bin Ev.num (Ev.meth (Ev.slc0 (Ev.var rfl) (Ev.var rfl) rfl (cutTo ht ha)) rfl (El.cons Ev.str El.nil) rfl) rfl)⟩
end
end Mine
namespace Mine
open PySem

/-! which defs a text calls -/
noncomputable def cE (fs : List String) : E → Bool
  | .cons a b => cE fs a && cE fs b
  | .bin _ a b _ => cE fs a && cE fs b
  | .cmp _ a b _ => cE fs a && cE fs b
  | .and es _ => cE fs es
  | .or es _ => cE fs es
  | .ite c a b _ => cE fs c && (cE fs a && cE fs b)
  | .tup es _ => cE fs es
  | .lst es _ => cE fs es
  | .dct _ vs _ => cE fs vs
  | .idx a i _ => cE fs a && cE fs i
  | .oidx _ _ i _ => cE fs i
  | .slc a lo hi _ _ => cE fs a && (cE fs lo && cE fs hi)
  | .call f _ es _ => fs.contains f && cE fs es
  | .bi _ _ e _ => cE fs e
  | .meth _ o _ es _ => cE fs o && cE fs es
  | .comp elt _ _ iter ifs _ _ _ => cE fs elt && (cE fs iter && cE fs ifs)
  | .rows o _ _ _ _ _ => cE fs o
  | _ => true
noncomputable def cS (fs : List String) : S → Bool
  | .seq a b => cS fs a && cS fs b
  | .asg _ _ e _ => cE fs e
  | .asgO _ _ es _ _ => cE fs es
  | .asgT _ _ e _ => cE fs e
  | .aug _ _ _ e _ => cE fs e
  | .setI _ _ i _ e _ => cE fs i && cE fs e
  | .app _ _ _ e _ _ => cE fs e
  | .ret e _ => cE fs e
  | .ite c a b _ => cE fs c && (cS fs a && cS fs b)
  | .whl c b _ => cE fs c && cS fs b
  | .for _ _ e b _ => cE fs e && cS fs b
  | .raise _ e _ _ _ _ => cE fs e
  | .tryl e _ => cE fs e
  | _ => true

section
variable {fs : List String} {F F' : String → List AV → M AV} {GV : String → Option AV} {cs : List Int} {N : Nat}
theorem dn_cong (hF : ∀ f, fs.contains f = true → F f = F' f) : ∀ e : E, cE fs e = true → dn ⟨F, GV, cs, N⟩ e = dn ⟨F', GV, cs, N⟩ e := by
  intro e
  induction e with
  | cons a b iha ihb => intro h; simp only [dn_nil, dn_cons, dn_num, dn_str, dn_bool, dn_non, dn_neg, dn_var, dn_glb, dn_bin, dn_cmp, dn_and, dn_or, dn_ite, dn_tup, dn_lst, dn_dct, dn_idx, dn_oidx, dn_slc, dn_call, dn_bi, dn_meth, dn_comp, dn_rows, dn_raw, iha (and_l h), ihb (and_r h)]
  | bin o a b p iha ihb => intro h; simp only [dn_nil, dn_cons, dn_num, dn_str, dn_bool, dn_non, dn_neg, dn_var, dn_glb, dn_bin, dn_cmp, dn_and, dn_or, dn_ite, dn_tup, dn_lst, dn_dct, dn_idx, dn_oidx, dn_slc, dn_call, dn_bi, dn_meth, dn_comp, dn_rows, dn_raw, iha (and_l h), ihb (and_r h)]
  | cmp o a b p iha ihb => intro h; simp only [dn_nil, dn_cons, dn_num, dn_str, dn_bool, dn_non, dn_neg, dn_var, dn_glb, dn_bin, dn_cmp, dn_and, dn_or, dn_ite, dn_tup, dn_lst, dn_dct, dn_idx, dn_oidx, dn_slc, dn_call, dn_bi, dn_meth, dn_comp, dn_rows, dn_raw, iha (and_l h), ihb (and_r h)]
  | and es p ih => intro h; simp only [dn_nil, dn_cons, dn_num, dn_str, dn_bool, dn_non, dn_neg, dn_var, dn_glb, dn_bin, dn_cmp, dn_and, dn_or, dn_ite, dn_tup, dn_lst, dn_dct, dn_idx, dn_oidx, dn_slc, dn_call, dn_bi, dn_meth, dn_comp, dn_rows, dn_raw, ih h]
  | or es p ih => intro h; simp only [dn_nil, dn_cons, dn_num, dn_str, dn_bool, dn_non, dn_neg, dn_var, dn_glb, dn_bin, dn_cmp, dn_and, dn_or, dn_ite, dn_tup, dn_lst, dn_dct, dn_idx, dn_oidx, dn_slc, dn_call, dn_bi, dn_meth, dn_comp, dn_rows, dn_raw, ih h]
  | ite c a b p ihc iha ihb => intro h; simp only [dn_nil, dn_cons, dn_num, dn_str, dn_bool, dn_non, dn_neg, dn_var, dn_glb, dn_bin, dn_cmp, dn_and, dn_or, dn_ite, dn_tup, dn_lst, dn_dct, dn_idx, dn_oidx, dn_slc, dn_call, dn_bi, dn_meth, dn_comp, dn_rows, dn_raw, ihc (and_l h), iha (and_l (and_r h)), ihb (and_r (and_r h))]
  | tup es p ih => intro h; simp only [dn_nil, dn_cons, dn_num, dn_str, dn_bool, dn_non, dn_neg, dn_var, dn_glb, dn_bin, dn_cmp, dn_and, dn_or, dn_ite, dn_tup, dn_lst, dn_dct, dn_idx, dn_oidx, dn_slc, dn_call, dn_bi, dn_meth, dn_comp, dn_rows, dn_raw, ih h]
  | lst es p ih => intro h; simp only [dn_nil, dn_cons, dn_num, dn_str, dn_bool, dn_non, dn_neg, dn_var, dn_glb, dn_bin, dn_cmp, dn_and, dn_or, dn_ite, dn_tup, dn_lst, dn_dct, dn_idx, dn_oidx, dn_slc, dn_call, dn_bi, dn_meth, dn_comp, dn_rows, dn_raw, ih h]
  | dct ks vs p _ ih => intro h; simp only [dn_nil, dn_cons, dn_num, dn_str, dn_bool, dn_non, dn_neg, dn_var, dn_glb, dn_bin, dn_cmp, dn_and, dn_or, dn_ite, dn_tup, dn_lst, dn_dct, dn_idx, dn_oidx, dn_slc, dn_call, dn_bi, dn_meth, dn_comp, dn_rows, dn_raw, ih h]
  | idx a i p iha ihb => intro h; simp only [dn_nil, dn_cons, dn_num, dn_str, dn_bool, dn_non, dn_neg, dn_var, dn_glb, dn_bin, dn_cmp, dn_and, dn_or, dn_ite, dn_tup, dn_lst, dn_dct, dn_idx, dn_oidx, dn_slc, dn_call, dn_bi, dn_meth, dn_comp, dn_rows, dn_raw, iha (and_l h), ihb (and_r h)]
  | oidx x q i p ih => intro h; simp only [dn_nil, dn_cons, dn_num, dn_str, dn_bool, dn_non, dn_neg, dn_var, dn_glb, dn_bin, dn_cmp, dn_and, dn_or, dn_ite, dn_tup, dn_lst, dn_dct, dn_idx, dn_oidx, dn_slc, dn_call, dn_bi, dn_meth, dn_comp, dn_rows, dn_raw, ih h]
  | slc a lo hi q p iha ihb ihc => intro h; simp only [dn_nil, dn_cons, dn_num, dn_str, dn_bool, dn_non, dn_neg, dn_var, dn_glb, dn_bin, dn_cmp, dn_and, dn_or, dn_ite, dn_tup, dn_lst, dn_dct, dn_idx, dn_oidx, dn_slc, dn_call, dn_bi, dn_meth, dn_comp, dn_rows, dn_raw, iha (and_l h), ihb (and_l (and_r h)), ihc (and_r (and_r h))]
  | call f q es p ih => intro h; simp only [dn_nil, dn_cons, dn_num, dn_str, dn_bool, dn_non, dn_neg, dn_var, dn_glb, dn_bin, dn_cmp, dn_and, dn_or, dn_ite, dn_tup, dn_lst, dn_dct, dn_idx, dn_oidx, dn_slc, dn_call, dn_bi, dn_meth, dn_comp, dn_rows, dn_raw, ih (and_r h), hF f (and_l h)]
  | bi f q e p ih => intro h; simp only [dn_nil, dn_cons, dn_num, dn_str, dn_bool, dn_non, dn_neg, dn_var, dn_glb, dn_bin, dn_cmp, dn_and, dn_or, dn_ite, dn_tup, dn_lst, dn_dct, dn_idx, dn_oidx, dn_slc, dn_call, dn_bi, dn_meth, dn_comp, dn_rows, dn_raw, ih h]
  | meth m o q es p iha ihb => intro h; simp only [dn_nil, dn_cons, dn_num, dn_str, dn_bool, dn_non, dn_neg, dn_var, dn_glb, dn_bin, dn_cmp, dn_and, dn_or, dn_ite, dn_tup, dn_lst, dn_dct, dn_idx, dn_oidx, dn_slc, dn_call, dn_bi, dn_meth, dn_comp, dn_rows, dn_raw, iha (and_l h), ihb (and_r h)]
  | comp elt x px iter ifs sc fv p iha ihb ihc => intro h; simp only [dn_nil, dn_cons, dn_num, dn_str, dn_bool, dn_non, dn_neg, dn_var, dn_glb, dn_bin, dn_cmp, dn_and, dn_or, dn_ite, dn_tup, dn_lst, dn_dct, dn_idx, dn_oidx, dn_slc, dn_call, dn_bi, dn_meth, dn_comp, dn_rows, dn_raw, iha (and_l h), ihb (and_l (and_r h)), ihc (and_r (and_r h))]
  | rows o q r t u p ih => intro h; simp only [dn_nil, dn_cons, dn_num, dn_str, dn_bool, dn_non, dn_neg, dn_var, dn_glb, dn_bin, dn_cmp, dn_and, dn_or, dn_ite, dn_tup, dn_lst, dn_dct, dn_idx, dn_oidx, dn_slc, dn_call, dn_bi, dn_meth, dn_comp, dn_rows, dn_raw, ih h]
  | _ => intro _; rfl
theorem ds_cong (hF : ∀ f, fs.contains f = true → F f = F' f) : ∀ b : S, cS fs b = true → ds ⟨F, GV, cs, N⟩ b = ds ⟨F', GV, cs, N⟩ b := by
  intro b
  induction b with
  | seq a b iha ihb => intro h; funext ρ; simp only [ds_nil, ds_seq, ds_asg, ds_asgO, ds_asgT, ds_aug, ds_setI, ds_app, ds_ret, ds_frz, ds_ite, ds_whl, ds_for, ds_raise, ds_cont, ds_tryl, iha (and_l h), ihb (and_r h)]; try rfl
  | asg x q e p => intro h; funext ρ; simp only [ds_nil, ds_seq, ds_asg, ds_asgO, ds_asgT, ds_aug, ds_setI, ds_app, ds_ret, ds_frz, ds_ite, ds_whl, ds_for, ds_raise, ds_cont, ds_tryl, dn_cong hF e h]
  | asgO x q e r p => intro h; funext ρ; simp only [ds_nil, ds_seq, ds_asg, ds_asgO, ds_asgT, ds_aug, ds_setI, ds_app, ds_ret, ds_frz, ds_ite, ds_whl, ds_for, ds_raise, ds_cont, ds_tryl, dn_cong hF e h]
  | asgT x q e p => intro h; funext ρ; simp only [ds_nil, ds_seq, ds_asg, ds_asgO, ds_asgT, ds_aug, ds_setI, ds_app, ds_ret, ds_frz, ds_ite, ds_whl, ds_for, ds_raise, ds_cont, ds_tryl, dn_cong hF e h]; try rfl
  | aug x q o e p => intro h; funext ρ; simp only [ds_nil, ds_seq, ds_asg, ds_asgO, ds_asgT, ds_aug, ds_setI, ds_app, ds_ret, ds_frz, ds_ite, ds_whl, ds_for, ds_raise, ds_cont, ds_tryl, dn_cong hF e h]
  | setI x q i r e p => intro h; funext ρ; simp only [ds_nil, ds_seq, ds_asg, ds_asgO, ds_asgT, ds_aug, ds_setI, ds_app, ds_ret, ds_frz, ds_ite, ds_whl, ds_for, ds_raise, ds_cont, ds_tryl, dn_cong hF i (and_l h), dn_cong hF e (and_r h)]; try rfl
  | app x q r e t p => intro h; funext ρ; simp only [ds_nil, ds_seq, ds_asg, ds_asgO, ds_asgT, ds_aug, ds_setI, ds_app, ds_ret, ds_frz, ds_ite, ds_whl, ds_for, ds_raise, ds_cont, ds_tryl, dn_cong hF e h]
  | ret e p => intro h; funext ρ; simp only [ds_nil, ds_seq, ds_asg, ds_asgO, ds_asgT, ds_aug, ds_setI, ds_app, ds_ret, ds_frz, ds_ite, ds_whl, ds_for, ds_raise, ds_cont, ds_tryl, dn_cong hF e h]
  | ite c a b p iha ihb => intro h; funext ρ; simp only [ds_nil, ds_seq, ds_asg, ds_asgO, ds_asgT, ds_aug, ds_setI, ds_app, ds_ret, ds_frz, ds_ite, ds_whl, ds_for, ds_raise, ds_cont, ds_tryl, dn_cong hF c (and_l h), iha (and_l (and_r h)), ihb (and_r (and_r h))]
  | whl c b p ih => intro h; funext ρ; simp only [ds_nil, ds_seq, ds_asg, ds_asgO, ds_asgT, ds_aug, ds_setI, ds_app, ds_ret, ds_frz, ds_ite, ds_whl, ds_for, ds_raise, ds_cont, ds_tryl, dn_cong hF c (and_l h), ih (and_r h)]
  | «for» x q e b p ih => intro h; funext ρ; simp only [ds_nil, ds_seq, ds_asg, ds_asgO, ds_asgT, ds_aug, ds_setI, ds_app, ds_ret, ds_frz, ds_ite, ds_whl, ds_for, ds_raise, ds_cont, ds_tryl, dn_cong hF e (and_l h), ih (and_r h)]
  | raise m e q r t p => intro h; funext ρ; simp only [ds_nil, ds_seq, ds_asg, ds_asgO, ds_asgT, ds_aug, ds_setI, ds_app, ds_ret, ds_frz, ds_ite, ds_whl, ds_for, ds_raise, ds_cont, ds_tryl, dn_cong hF e h]; try rfl
  | tryl e ps => intro h; funext ρ; simp only [ds_nil, ds_seq, ds_asg, ds_asgO, ds_asgT, ds_aug, ds_setI, ds_app, ds_ret, ds_frz, ds_ite, ds_whl, ds_for, ds_raise, ds_cont, ds_tryl, dn_cong hF e h]; try rfl
  | _ => intro _; rfl
end

/-! the defs, by levels -/
noncomputable abbrev Row := String × Nat × Nat × S
noncomputable def lkT : List Row → String → Option (Nat × Nat × S)
  | [], _ => none
  | (x, v) :: l, f => if x = f then some v else lkT l f
noncomputable def stepF (t : List Row) (g : Sg) : Sg := ⟨fun f => match lkT t f with
  | some (k, n, b) => fun args => if args.length = k then runA g n b args else M.fail
  | none => g.F f, g.GV, g.cs, g.N⟩

noncomputable def t1 : List Row := [("remark_end", 2, 3, bremarkend), ("line_of", 2, 2, blineof), ("run_end", 3, 4, brunend), ("closer_of", 1, 1, bcloserof), ("line_of_place", 2, 2, blineofplace),
  ("_law_closers", 0, 0, bLclosers), ("_law_known", 0, 0, bLknown), ("_law_sip", 2, 3, bLsip), ("_law_row", 2, 2, bLrow)]
noncomputable def t2 : List Row := [("delimited", 2, 7, bdelimited), ("unguarded", 3, 7, bunguarded), ("opening_place", 2, 3, bopeningplace), ("behind_blanks", 2, 3, bbehindblanks), ("flags_token", 3, 5, bflagstoken), ("_law_within", 2, 8, bLwithin)]
noncomputable def t3 : List Row := [("read_q", 2, 2, breadq), ("read_qw", 1, 4, breadqw), ("second_part", 3, 6, bsecondpart), ("match_token", 2, 6, bmatchtoken), ("here_sign", 2, 9, bheresign), ("_law_quote", 1, 19, bLquote)]
noncomputable def t4 : List Row := [("subst_token", 2, 9, bsubsttoken), ("trans_token", 2, 8, btranstoken), ("_law_here_read", 2, 2, bLhereread)]
noncomputable def t5 : List Row := [("quote_token", 3, 5, bquotetoken), ("_law_here_right", 1, 9, bLhereright)]
noncomputable def t6 : List Row := [("_law_read", 3, 3, bLread)]

noncomputable def strV (s : List Nat) : AV := .str s
noncomputable abbrev wordSigns : List Nat := [65,66,67,68,69,70,71,72,73,74,75,76,77,78,79,80,81,82,83,84,85,86,87,88,89,90,97,98,99,100,101,102,103,104,105,106,107,108,109,110,111,112,113,114,115,116,117,118,119,120,121,122,95,48,49,50,51,52,53,54,55,56,57]
noncomputable abbrev blankSigns : List Nat := [32, 9, 13, 10, 12]
noncomputable abbrev openingSigns : List Nat := [40, 91, 123, 60]
noncomputable abbrev closersV : AV := .dict [[40], [91], [123], [60]] [.str [41], .str [93], .str [125], .str [62]]
noncomputable abbrev flMatch : List Nat := [99, 103, 105, 109, 111, 115, 120]
noncomputable abbrev flSubst : List Nat := [101, 103, 105, 109, 111, 114, 115, 120]
noncomputable abbrev flTrans : List Nat := [99, 100, 115, 114]
noncomputable abbrev flagsV : AV := .dict [[109, 97, 116, 99, 104], [115, 117, 98, 115, 116], [116, 114, 97, 110, 115]] [.str flMatch, .str flSubst, .str flTrans]
noncomputable abbrev lawWords : List (List Nat) := [[113], [113, 113], [113, 119], [109], [115], [116, 114], [121]]
noncomputable abbrev lawOpeners : List Nat := [47, 33, 39, 44, 40, 91, 123, 60, 35, 34]
noncomputable def gvs : String → Option AV := fun x =>
  if x = "WORD_SIGNS" then some (.str wordSigns) else
  if x = "BLANK_SIGNS" then some (.str blankSigns) else
  if x = "OPENING_SIGNS" then some (.str openingSigns) else
  if x = "CLOSERS" then some closersV else
  if x = "FLAGS_OF" then some flagsV else
  if x = "_law_words" then some (.tup (lawWords.map .str)) else
  if x = "_law_openers" then some (.tup (lawOpeners.map fun c => .str [c])) else none

noncomputable def g0 (cs : List Int) : Sg := ⟨fun _ _ => M.fail, gvs, cs, 1000002⟩
noncomputable def g1 (cs : List Int) : Sg := stepF t1 (g0 cs)
noncomputable def g2 (cs : List Int) : Sg := stepF t2 (g1 cs)
noncomputable def g3 (cs : List Int) : Sg := stepF t3 (g2 cs)
noncomputable def g4 (cs : List Int) : Sg := stepF t4 (g3 cs)
noncomputable def g5 (cs : List Int) : Sg := stepF t5 (g4 cs)
noncomputable def gT (cs : List Int) : Sg := stepF t6 (g5 cs)
end Mine
namespace Mine
open PySem

set_option tactic.hygienic true
theorem F_up {t : List Row} {g : Sg} {f : String} (h : (lkT t f).isNone = true) : (stepF t g).F f = g.F f := by
  unfold stepF; dsimp only
  split
  · rename_i e; rw [e] at h; cases h
  · rfl
set_option tactic.hygienic false
theorem runEq {g : Sg} {F : String → List AV → M AV} {fs : List String} {n : Nat} {b : S} {args : List AV} (hF : ∀ f, fs.contains f = true → F f = g.F f) (hb : cS fs b = true) : runA ⟨F, g.GV, g.cs, g.N⟩ n b args = runA g n b args := by
  unfold runA
  rw [show ds ⟨F, g.GV, g.cs, g.N⟩ b = ds g b from ds_cong hF b hb]
theorem upAll {t : List Row} {g : Sg} {fs : List String} {F : String → List AV → M AV} (h : (fs.all fun f => (lkT t f).isNone) = true) (hF : ∀ f, fs.contains f = true → F f = g.F f) : ∀ f, fs.contains f = true → F f = (stepF t g).F f := by
  intro f hf
  rw [F_up (List.all_eq_true.mp h f (by simpa using hf))]
  exact hF f hf

noncomputable abbrev fl1 : List String := ["remark_end", "line_of", "run_end", "closer_of", "line_of_place", "_law_closers", "_law_known", "_law_sip", "_law_row"]
theorem up1 (cs : List Int) : ∀ f, fl1.contains f = true → (g1 cs).F f = (gT cs).F f := (upAll (t := t6) (by kernel_rfl) (upAll (t := t5) (by kernel_rfl) (upAll (t := t4) (by kernel_rfl) (upAll (t := t3) (by kernel_rfl) (upAll (t := t2) (by kernel_rfl) (fun _ _ => rfl))))))
noncomputable abbrev fl2 : List String := ["remark_end", "line_of", "run_end", "closer_of", "line_of_place", "_law_closers", "_law_known", "_law_sip", "_law_row", "delimited", "unguarded", "opening_place", "behind_blanks", "flags_token", "_law_within"]
theorem up2 (cs : List Int) : ∀ f, fl2.contains f = true → (g2 cs).F f = (gT cs).F f := (upAll (t := t6) (by kernel_rfl) (upAll (t := t5) (by kernel_rfl) (upAll (t := t4) (by kernel_rfl) (upAll (t := t3) (by kernel_rfl) (fun _ _ => rfl)))))
noncomputable abbrev fl3 : List String := ["remark_end", "line_of", "run_end", "closer_of", "line_of_place", "_law_closers", "_law_known", "_law_sip", "_law_row", "delimited", "unguarded", "opening_place", "behind_blanks", "flags_token", "_law_within", "read_q", "read_qw", "second_part", "match_token", "here_sign", "_law_quote"]
theorem up3 (cs : List Int) : ∀ f, fl3.contains f = true → (g3 cs).F f = (gT cs).F f := (upAll (t := t6) (by kernel_rfl) (upAll (t := t5) (by kernel_rfl) (upAll (t := t4) (by kernel_rfl) (fun _ _ => rfl))))
noncomputable abbrev fl4 : List String := ["remark_end", "line_of", "run_end", "closer_of", "line_of_place", "_law_closers", "_law_known", "_law_sip", "_law_row", "delimited", "unguarded", "opening_place", "behind_blanks", "flags_token", "_law_within", "read_q", "read_qw", "second_part", "match_token", "here_sign", "_law_quote", "subst_token", "trans_token", "_law_here_read"]
theorem up4 (cs : List Int) : ∀ f, fl4.contains f = true → (g4 cs).F f = (gT cs).F f := (upAll (t := t6) (by kernel_rfl) (upAll (t := t5) (by kernel_rfl) (fun _ _ => rfl)))
noncomputable abbrev fl5 : List String := ["remark_end", "line_of", "run_end", "closer_of", "line_of_place", "_law_closers", "_law_known", "_law_sip", "_law_row", "delimited", "unguarded", "opening_place", "behind_blanks", "flags_token", "_law_within", "read_q", "read_qw", "second_part", "match_token", "here_sign", "_law_quote", "subst_token", "trans_token", "_law_here_read", "quote_token", "_law_here_right"]
theorem up5 (cs : List Int) : ∀ f, fl5.contains f = true → (g5 cs).F f = (gT cs).F f := (upAll (t := t6) (by kernel_rfl) (fun _ _ => rfl))
theorem up0 (cs : List Int) : ∀ f, ([] : List String).contains f = true → (g0 cs).F f = (gT cs).F f := fun _ h => by cases h
theorem c_remarkend : cS [] bremarkend = true := by kernel_rfl
theorem q_remarkend (cs : List Int) : (gT cs).F "remark_end" = fun args => if args.length = 2 then runA (gT cs) 3 bremarkend args else M.fail := by
  have h : (gT cs).F "remark_end" = fun args => if args.length = 2 then runA (g0 cs) 3 bremarkend args else M.fail := by kernel_rfl
  rw [h]; funext args
  rw [show runA (g0 cs) 3 bremarkend args = runA (gT cs) 3 bremarkend args from runEq (g := gT cs) (up0 cs) c_remarkend]
theorem c_lineof : cS [] blineof = true := by kernel_rfl
theorem q_lineof (cs : List Int) : (gT cs).F "line_of" = fun args => if args.length = 2 then runA (gT cs) 2 blineof args else M.fail := by
  have h : (gT cs).F "line_of" = fun args => if args.length = 2 then runA (g0 cs) 2 blineof args else M.fail := by kernel_rfl
  rw [h]; funext args
  rw [show runA (g0 cs) 2 blineof args = runA (gT cs) 2 blineof args from runEq (g := gT cs) (up0 cs) c_lineof]
theorem c_runend : cS [] brunend = true := by kernel_rfl
theorem q_runend (cs : List Int) : (gT cs).F "run_end" = fun args => if args.length = 3 then runA (gT cs) 4 brunend args else M.fail := by
  have h : (gT cs).F "run_end" = fun args => if args.length = 3 then runA (g0 cs) 4 brunend args else M.fail := by kernel_rfl
  rw [h]; funext args
  rw [show runA (g0 cs) 4 brunend args = runA (gT cs) 4 brunend args from runEq (g := gT cs) (up0 cs) c_runend]
theorem c_closerof : cS [] bcloserof = true := by kernel_rfl
theorem q_closerof (cs : List Int) : (gT cs).F "closer_of" = fun args => if args.length = 1 then runA (gT cs) 1 bcloserof args else M.fail := by
  have h : (gT cs).F "closer_of" = fun args => if args.length = 1 then runA (g0 cs) 1 bcloserof args else M.fail := by kernel_rfl
  rw [h]; funext args
  rw [show runA (g0 cs) 1 bcloserof args = runA (gT cs) 1 bcloserof args from runEq (g := gT cs) (up0 cs) c_closerof]
theorem c_lineofplace : cS [] blineofplace = true := by kernel_rfl
theorem q_lineofplace (cs : List Int) : (gT cs).F "line_of_place" = fun args => if args.length = 2 then runA (gT cs) 2 blineofplace args else M.fail := by
  have h : (gT cs).F "line_of_place" = fun args => if args.length = 2 then runA (g0 cs) 2 blineofplace args else M.fail := by kernel_rfl
  rw [h]; funext args
  rw [show runA (g0 cs) 2 blineofplace args = runA (gT cs) 2 blineofplace args from runEq (g := gT cs) (up0 cs) c_lineofplace]
theorem c_Lclosers : cS [] bLclosers = true := by kernel_rfl
theorem q_Lclosers (cs : List Int) : (gT cs).F "_law_closers" = fun args => if args.length = 0 then runA (gT cs) 0 bLclosers args else M.fail := by
  have h : (gT cs).F "_law_closers" = fun args => if args.length = 0 then runA (g0 cs) 0 bLclosers args else M.fail := by kernel_rfl
  rw [h]; funext args
  rw [show runA (g0 cs) 0 bLclosers args = runA (gT cs) 0 bLclosers args from runEq (g := gT cs) (up0 cs) c_Lclosers]
theorem c_Lknown : cS [] bLknown = true := by kernel_rfl
theorem q_Lknown (cs : List Int) : (gT cs).F "_law_known" = fun args => if args.length = 0 then runA (gT cs) 0 bLknown args else M.fail := by
  have h : (gT cs).F "_law_known" = fun args => if args.length = 0 then runA (g0 cs) 0 bLknown args else M.fail := by kernel_rfl
  rw [h]; funext args
  rw [show runA (g0 cs) 0 bLknown args = runA (gT cs) 0 bLknown args from runEq (g := gT cs) (up0 cs) c_Lknown]
theorem c_Lsip : cS [] bLsip = true := by kernel_rfl
theorem q_Lsip (cs : List Int) : (gT cs).F "_law_sip" = fun args => if args.length = 2 then runA (gT cs) 3 bLsip args else M.fail := by
  have h : (gT cs).F "_law_sip" = fun args => if args.length = 2 then runA (g0 cs) 3 bLsip args else M.fail := by kernel_rfl
  rw [h]; funext args
  rw [show runA (g0 cs) 3 bLsip args = runA (gT cs) 3 bLsip args from runEq (g := gT cs) (up0 cs) c_Lsip]
theorem c_Lrow : cS [] bLrow = true := by kernel_rfl
theorem q_Lrow (cs : List Int) : (gT cs).F "_law_row" = fun args => if args.length = 2 then runA (gT cs) 2 bLrow args else M.fail := by
  have h : (gT cs).F "_law_row" = fun args => if args.length = 2 then runA (g0 cs) 2 bLrow args else M.fail := by kernel_rfl
  rw [h]; funext args
  rw [show runA (g0 cs) 2 bLrow args = runA (gT cs) 2 bLrow args from runEq (g := gT cs) (up0 cs) c_Lrow]
theorem c_delimited : cS fl1 bdelimited = true := by kernel_rfl
theorem q_delimited (cs : List Int) : (gT cs).F "delimited" = fun args => if args.length = 2 then runA (gT cs) 7 bdelimited args else M.fail := by
  have h : (gT cs).F "delimited" = fun args => if args.length = 2 then runA (g1 cs) 7 bdelimited args else M.fail := by kernel_rfl
  rw [h]; funext args
  rw [show runA (g1 cs) 7 bdelimited args = runA (gT cs) 7 bdelimited args from runEq (g := gT cs) (up1 cs) c_delimited]
theorem c_unguarded : cS fl1 bunguarded = true := by kernel_rfl
theorem q_unguarded (cs : List Int) : (gT cs).F "unguarded" = fun args => if args.length = 3 then runA (gT cs) 7 bunguarded args else M.fail := by
  have h : (gT cs).F "unguarded" = fun args => if args.length = 3 then runA (g1 cs) 7 bunguarded args else M.fail := by kernel_rfl
  rw [h]; funext args
  rw [show runA (g1 cs) 7 bunguarded args = runA (gT cs) 7 bunguarded args from runEq (g := gT cs) (up1 cs) c_unguarded]
theorem c_openingplace : cS fl1 bopeningplace = true := by kernel_rfl
theorem q_openingplace (cs : List Int) : (gT cs).F "opening_place" = fun args => if args.length = 2 then runA (gT cs) 3 bopeningplace args else M.fail := by
  have h : (gT cs).F "opening_place" = fun args => if args.length = 2 then runA (g1 cs) 3 bopeningplace args else M.fail := by kernel_rfl
  rw [h]; funext args
  rw [show runA (g1 cs) 3 bopeningplace args = runA (gT cs) 3 bopeningplace args from runEq (g := gT cs) (up1 cs) c_openingplace]
theorem c_behindblanks : cS fl1 bbehindblanks = true := by kernel_rfl
theorem q_behindblanks (cs : List Int) : (gT cs).F "behind_blanks" = fun args => if args.length = 2 then runA (gT cs) 3 bbehindblanks args else M.fail := by
  have h : (gT cs).F "behind_blanks" = fun args => if args.length = 2 then runA (g1 cs) 3 bbehindblanks args else M.fail := by kernel_rfl
  rw [h]; funext args
  rw [show runA (g1 cs) 3 bbehindblanks args = runA (gT cs) 3 bbehindblanks args from runEq (g := gT cs) (up1 cs) c_behindblanks]
theorem c_flagstoken : cS fl1 bflagstoken = true := by kernel_rfl
theorem q_flagstoken (cs : List Int) : (gT cs).F "flags_token" = fun args => if args.length = 3 then runA (gT cs) 5 bflagstoken args else M.fail := by
  have h : (gT cs).F "flags_token" = fun args => if args.length = 3 then runA (g1 cs) 5 bflagstoken args else M.fail := by kernel_rfl
  rw [h]; funext args
  rw [show runA (g1 cs) 5 bflagstoken args = runA (gT cs) 5 bflagstoken args from runEq (g := gT cs) (up1 cs) c_flagstoken]
theorem c_Lwithin : cS fl1 bLwithin = true := by kernel_rfl
theorem q_Lwithin (cs : List Int) : (gT cs).F "_law_within" = fun args => if args.length = 2 then runA (gT cs) 8 bLwithin args else M.fail := by
  have h : (gT cs).F "_law_within" = fun args => if args.length = 2 then runA (g1 cs) 8 bLwithin args else M.fail := by kernel_rfl
  rw [h]; funext args
  rw [show runA (g1 cs) 8 bLwithin args = runA (gT cs) 8 bLwithin args from runEq (g := gT cs) (up1 cs) c_Lwithin]
theorem c_readq : cS fl2 breadq = true := by kernel_rfl
theorem q_readq (cs : List Int) : (gT cs).F "read_q" = fun args => if args.length = 2 then runA (gT cs) 2 breadq args else M.fail := by
  have h : (gT cs).F "read_q" = fun args => if args.length = 2 then runA (g2 cs) 2 breadq args else M.fail := by kernel_rfl
  rw [h]; funext args
  rw [show runA (g2 cs) 2 breadq args = runA (gT cs) 2 breadq args from runEq (g := gT cs) (up2 cs) c_readq]
theorem c_readqw : cS fl2 breadqw = true := by kernel_rfl
theorem q_readqw (cs : List Int) : (gT cs).F "read_qw" = fun args => if args.length = 1 then runA (gT cs) 4 breadqw args else M.fail := by
  have h : (gT cs).F "read_qw" = fun args => if args.length = 1 then runA (g2 cs) 4 breadqw args else M.fail := by kernel_rfl
  rw [h]; funext args
  rw [show runA (g2 cs) 4 breadqw args = runA (gT cs) 4 breadqw args from runEq (g := gT cs) (up2 cs) c_readqw]
theorem c_secondpart : cS fl2 bsecondpart = true := by kernel_rfl
theorem q_secondpart (cs : List Int) : (gT cs).F "second_part" = fun args => if args.length = 3 then runA (gT cs) 6 bsecondpart args else M.fail := by
  have h : (gT cs).F "second_part" = fun args => if args.length = 3 then runA (g2 cs) 6 bsecondpart args else M.fail := by kernel_rfl
  rw [h]; funext args
  rw [show runA (g2 cs) 6 bsecondpart args = runA (gT cs) 6 bsecondpart args from runEq (g := gT cs) (up2 cs) c_secondpart]
theorem c_matchtoken : cS fl2 bmatchtoken = true := by kernel_rfl
theorem q_matchtoken (cs : List Int) : (gT cs).F "match_token" = fun args => if args.length = 2 then runA (gT cs) 6 bmatchtoken args else M.fail := by
  have h : (gT cs).F "match_token" = fun args => if args.length = 2 then runA (g2 cs) 6 bmatchtoken args else M.fail := by kernel_rfl
  rw [h]; funext args
  rw [show runA (g2 cs) 6 bmatchtoken args = runA (gT cs) 6 bmatchtoken args from runEq (g := gT cs) (up2 cs) c_matchtoken]
theorem c_heresign : cS fl2 bheresign = true := by kernel_rfl
theorem q_heresign (cs : List Int) : (gT cs).F "here_sign" = fun args => if args.length = 2 then runA (gT cs) 9 bheresign args else M.fail := by
  have h : (gT cs).F "here_sign" = fun args => if args.length = 2 then runA (g2 cs) 9 bheresign args else M.fail := by kernel_rfl
  rw [h]; funext args
  rw [show runA (g2 cs) 9 bheresign args = runA (gT cs) 9 bheresign args from runEq (g := gT cs) (up2 cs) c_heresign]
theorem c_Lquote : cS fl2 bLquote = true := by kernel_rfl
theorem q_Lquote (cs : List Int) : (gT cs).F "_law_quote" = fun args => if args.length = 1 then runA (gT cs) 19 bLquote args else M.fail := by
  have h : (gT cs).F "_law_quote" = fun args => if args.length = 1 then runA (g2 cs) 19 bLquote args else M.fail := by kernel_rfl
  rw [h]; funext args
  rw [show runA (g2 cs) 19 bLquote args = runA (gT cs) 19 bLquote args from runEq (g := gT cs) (up2 cs) c_Lquote]
theorem c_substtoken : cS fl3 bsubsttoken = true := by kernel_rfl
theorem q_substtoken (cs : List Int) : (gT cs).F "subst_token" = fun args => if args.length = 2 then runA (gT cs) 9 bsubsttoken args else M.fail := by
  have h : (gT cs).F "subst_token" = fun args => if args.length = 2 then runA (g3 cs) 9 bsubsttoken args else M.fail := by kernel_rfl
  rw [h]; funext args
  rw [show runA (g3 cs) 9 bsubsttoken args = runA (gT cs) 9 bsubsttoken args from runEq (g := gT cs) (up3 cs) c_substtoken]
theorem c_transtoken : cS fl3 btranstoken = true := by kernel_rfl
theorem q_transtoken (cs : List Int) : (gT cs).F "trans_token" = fun args => if args.length = 2 then runA (gT cs) 8 btranstoken args else M.fail := by
  have h : (gT cs).F "trans_token" = fun args => if args.length = 2 then runA (g3 cs) 8 btranstoken args else M.fail := by kernel_rfl
  rw [h]; funext args
  rw [show runA (g3 cs) 8 btranstoken args = runA (gT cs) 8 btranstoken args from runEq (g := gT cs) (up3 cs) c_transtoken]
theorem c_Lhereread : cS fl3 bLhereread = true := by kernel_rfl
theorem q_Lhereread (cs : List Int) : (gT cs).F "_law_here_read" = fun args => if args.length = 2 then runA (gT cs) 2 bLhereread args else M.fail := by
  have h : (gT cs).F "_law_here_read" = fun args => if args.length = 2 then runA (g3 cs) 2 bLhereread args else M.fail := by kernel_rfl
  rw [h]; funext args
  rw [show runA (g3 cs) 2 bLhereread args = runA (gT cs) 2 bLhereread args from runEq (g := gT cs) (up3 cs) c_Lhereread]
theorem c_quotetoken : cS fl4 bquotetoken = true := by kernel_rfl
theorem q_quotetoken (cs : List Int) : (gT cs).F "quote_token" = fun args => if args.length = 3 then runA (gT cs) 5 bquotetoken args else M.fail := by
  have h : (gT cs).F "quote_token" = fun args => if args.length = 3 then runA (g4 cs) 5 bquotetoken args else M.fail := by kernel_rfl
  rw [h]; funext args
  rw [show runA (g4 cs) 5 bquotetoken args = runA (gT cs) 5 bquotetoken args from runEq (g := gT cs) (up4 cs) c_quotetoken]
theorem c_Lhereright : cS fl4 bLhereright = true := by kernel_rfl
theorem q_Lhereright (cs : List Int) : (gT cs).F "_law_here_right" = fun args => if args.length = 1 then runA (gT cs) 9 bLhereright args else M.fail := by
  have h : (gT cs).F "_law_here_right" = fun args => if args.length = 1 then runA (g4 cs) 9 bLhereright args else M.fail := by kernel_rfl
  rw [h]; funext args
  rw [show runA (g4 cs) 9 bLhereright args = runA (gT cs) 9 bLhereright args from runEq (g := gT cs) (up4 cs) c_Lhereright]
theorem c_Lread : cS fl5 bLread = true := by kernel_rfl
theorem q_Lread (cs : List Int) : (gT cs).F "_law_read" = fun args => if args.length = 3 then runA (gT cs) 3 bLread args else M.fail := by
  have h : (gT cs).F "_law_read" = fun args => if args.length = 3 then runA (g5 cs) 3 bLread args else M.fail := by kernel_rfl
  rw [h]; funext args
  rw [show runA (g5 cs) 3 bLread args = runA (gT cs) 3 bLread args from runEq (g := gT cs) (up5 cs) c_Lread]

noncomputable abbrev Fv (cs : List Int) (f : String) (args : List AV) (d : Int) (v : AV) (d' : Int) : Prop := (gT cs).F f args d = some (.ok v, d')
noncomputable abbrev Fe (cs : List Int) (f : String) (args : List AV) (d l d' : Int) : Prop := (gT cs).F f args d = some (.error l, d')
theorem fv {cs : List Int} {f : String} {k n : Nat} {b : S} {args ρ' : List AV} {d d' : Int} {v : AV} (q : (gT cs).F f = fun args => if args.length = k then runA (gT cs) n b args else M.fail) (hk : args.length = k)
    (h : ds (gT cs) b (initA args n) d = some (.ok (.ret v, ρ'), d')) : Fv cs f args d v d' := by
  show (gT cs).F f args d = _
  rw [q]; dsimp only; rw [if_pos hk]
  unfold runA M.bind; rw [h]; rfl
theorem fe {cs : List Int} {f : String} {k n : Nat} {b : S} {args : List AV} {d d' l : Int} (q : (gT cs).F f = fun args => if args.length = k then runA (gT cs) n b args else M.fail) (hk : args.length = k)
    (h : ds (gT cs) b (initA args n) d = some (.error l, d')) : Fe cs f args d l d' := by
  show (gT cs).F f args d = _
  rw [q]; dsimp only; rw [if_pos hk]
  unfold runA M.bind; rw [h]
end Mine
namespace Mine
open PySem

section
variable {g : Sg} {ρ : List AV} {d d1 d2 d3 : Int} {a b c i es : E} {x y z : AV} {l : List AV} {p q r0 : Pos}
set_option tactic.hygienic true
theorem Sx.setC {n : Nat} {k : Int} (h0 : ρ[n]? = some .cup) (h : Ev g ρ d a (.int k) d1) (hi : Ev g ρ d1 i (.int 1) d2) : Sx g ρ d (.setI n q i r0 a p) (.next, ρ) k := by
  show ds g (.setI n q i r0 a p) ρ d = _
  rw [ds_setI, h0]
  exact bindOk h (bindOk hi rfl)
end

/-- the sign that closes -/
noncomputable def closeOf (c : Nat) : Nat := if c = 40 then 41 else if c = 91 then 93 else if c = 123 then 125 else if c = 60 then 62 else c

section
variable {cs : List Int} {d : Int}
set_option tactic.hygienic false
theorem closeGet (c : Nat) : methA .get closersV [.str [c], .str [c]] = some (.str [closeOf c]) := by
  show some ((lookA [[40], [91], [123], [60]] [.str [41], .str [93], .str [125], .str [62]] [c]).getD (.str [c])) = _
  unfold closeOf
  simp only [lookA, List.cons.injEq, and_true]
  by_cases h1 : c = 40
  · subst h1; rfl
  rw [if_neg (fun q => h1 q.symm), if_neg h1]
  by_cases h2 : c = 91
  · subst h2; rfl
  rw [if_neg (fun q => h2 q.symm), if_neg h2]
  by_cases h3 : c = 123
  · subst h3; rfl
  rw [if_neg (fun q => h3 q.symm), if_neg h3]
  by_cases h4 : c = 60
  · subst h4; rfl
  rw [if_neg (fun q => h4 q.symm), if_neg h4]
  rfl
theorem f_closer_of (c : Nat) : Fv cs "closer_of" [.str [c]] d (.str [closeOf c]) d :=
  fv (q_closerof cs) rfl (Sx.ret (Ev.meth (Ev.glb (x := closersV) (by kernel_rfl)) rfl (El.cons (Ev.var rfl) (El.cons (Ev.var rfl) El.nil)) (closeGet c)))
theorem f_closers : Fv cs "_law_closers" [] d closersV d := by kernel_rfl
theorem f_run_end {t signs : List Nat} {a : Nat} (ht : t.length ≤ LIM) : Fv cs "run_end" [.str t, .int (a : Int), .str signs] d (.int ((a + runLen (t.drop a) signs : Nat) : Int)) d :=
  fv (q_runend cs) rfl (x_run_end ht (Nat.lt_of_le_of_lt ht (show 1000000 < 1000002 by decide)))
theorem f_remark_end {t : List Nat} {a : Nat} (ht : t.length ≤ LIM) (ha : a ≤ LIM) : Fv cs "remark_end" [.str t, .int (a : Int)] d (.int (remEnd t a)) d :=
  (x_remark_end ht ha).elim fun _ h => fv (q_remarkend cs) rfl h
theorem f_line_of {t : List Nat} {a : Nat} (ht : t.length ≤ LIM) (ha : a ≤ LIM) : Fv cs "line_of" [.str t, .int (a : Int)] d (.int (lineAt t a)) d :=
  (x_line_of ht ha).elim fun _ h => fv (q_lineof cs) rfl h
theorem f_line_of_place {t : List Nat} {a : Nat} (ht : t.length ≤ LIM) (ha : a ≤ LIM) : Fv cs "line_of_place" [.str t, .int (a : Int)] d (.int (lineAt t a)) d :=
  (x_line_of_place ht ha).elim fun _ h => fv (q_lineofplace cs) rfl h
theorem Ev.rows {g : Sg} {ρ : List AV} {d d1 : Int} {o : E} {q r t u p : Pos} {l : List Nat} (h : Ev g ρ d o (.str l) d1) (hl : l.length ≤ LIM) : Ev g ρ d (.rows o q r t u p) (.int ((l.count 10 : Nat) + 1)) d1 :=
  oneOk (bindOk h (by dsimp only; rw [if_pos hl]; rfl))
theorem f_row {t : List Nat} {a : Nat} (ht : t.length ≤ LIM) (ha : a ≤ LIM) : Fv cs "_law_row" [.str t, .int (a : Int)] d (.int (lineAt t a)) d := by
  rw [show lineAt t a = ((t.take a).count 10 : Nat) + 1 from Int.add_comm _ _]
  exact fv (q_Lrow cs) rfl (Sx.ret (Ev.rows (Ev.slc0 (Ev.var rfl) (Ev.var rfl) rfl (cutTo ht ha)) (by rw [List.length_take]; exact Nat.le_trans (Nat.min_le_right _ _) ht)))

structure CsOk (cs : List Int) : Prop where
  len : cs.length ≤ 60
  all : ∀ x ∈ cs, 0 ≤ x ∧ x < 1000000000000

theorem modOk (a : Int) {m : Nat} (hm : 0 < m) : (a % (m : Int)).toNat < m ∧ (((a % (m : Int)).toNat : Nat) : Int) = a % (m : Int) := by
  have h := Int.emod_nonneg a (show (m : Int) ≠ 0 from fun q => absurd (Int.ofNat_inj.mp q) (Nat.ne_of_gt hm))
  have h2 := Int.toNat_of_nonneg h
  exact ⟨Int.ofNat_lt.mp (h2 ▸ Int.emod_lt_of_pos a (Int.ofNat_lt.mpr hm)), h2⟩
theorem mInt {m : Nat} (hm : 0 < m) (hm2 : m ≤ 1000) : (0 : Int) < m ∧ (m : Int) < 1099511627776 := ⟨Int.ofNat_lt.mpr hm, Int.lt_of_le_of_lt (Int.ofNat_le.mpr hm2) (by decide)⟩
theorem sipN (h0 : 0 ≤ d) (h1 : d ≤ 1000) : (5 * d < 1099511627776 ∧ 0 ≤ 5 * d) ∧ 0 ≤ d / 2 ∧ 5 * d + d / 2 + 4 < 1099511627776 ∧ 0 ≤ 5 * d + d / 2 + 4 := by omega
theorem modBin {a : Int} {m : Nat} (h0 : 0 ≤ a) (h1 : a < 1099511627776) (hm : 0 < m) (hm2 : m ≤ 1000) : binA .mod (.int a) (.int (m : Int)) = some (.int (a % (m : Int))) := if_pos ⟨h0, h1, (mInt hm hm2).1, (mInt hm hm2).2⟩

theorem f_sip (C : CsOk cs) {m : Nat} (h0 : 0 ≤ d) (h1 : d ≤ 1000) (hm : 0 < m) (hm2 : m ≤ 1000) : ∃ i : Nat, i < m ∧ Fv cs "_law_sip" [.cup, .int m] d (.int i) (d + 1) := by
  have hl : (cs.map AV.int).length ≤ LIM := by rw [List.length_map]; exact Nat.le_trans C.len (Nat.le_of_ble_eq_true rfl)
  have e0 : ∀ {ρ : List AV} {d : Int} {p q r : Pos}, ρ[0]? = some .cup → Ev (gT cs) ρ d (.idx (.var 0 p) (.num 0 q) r) (.list (cs.map .int)) d := fun {ρ d p q r} h => Ev.idx (Ev.var (by unfold varA; rw [h])) Ev.num rfl
  have e1 : biA .len (.list (cs.map .int)) = some (.int (cs.length : Nat)) := by
    show (if (cs.map AV.int).length ≤ LIM then some (AV.int (cs.map AV.int).length) else none) = _
    rw [if_pos hl, List.length_map]
  by_cases hd : d < (cs.length : Nat)
  · have hlt : d.toNat < cs.length := (Int.toNat_lt h0).mpr hd
    have hb := C.all _ (List.getElem_mem hlt)
    have hM := modOk cs[d.toNat] hm
    refine ⟨(cs[d.toNat] % (m : Int)).toNat, hM.1, ?_⟩
    rw [hM.2]
    have ei : idxA (gT cs).cs (.list (cs.map .int)) (.int d) (d + 1) = some (.ok (.int cs[d.toNat]), d + 1) := by
      show (if d ≤ (LIM : Nat) then atA (cs.map AV.int) d else M.fail) (d + 1) = _
      rw [if_pos (Int.le_trans h1 (by decide) : d ≤ (LIM : Nat))]
      unfold atA; rw [if_pos h0, List.getElem?_map, List.getElem?_eq_getElem hlt]
      rfl
    exact fv (q_Lsip cs) rfl (Sx.seq (Sx.asg (Ev.idx (Ev.var rfl) Ev.num rfl)) (Sx.seq (Sx.setC rfl (Ev.bin (Ev.var rfl) Ev.num rfl) Ev.num) (Sx.ret1 (Sx.iteT (Et.cmp (Ev.var rfl) (Ev.bi (e0 rfl) e1) (congrArg some (decide_eq_true hd)))
      (Sx.ret (Ev.bin (Ev.idx (e0 rfl) (Ev.var rfl) ei) (Ev.var rfl) (modBin hb.1 (Int.lt_trans hb.2 (by decide)) hm hm2)))))))
  · have hM := modOk (5 * d + d / 2 + 4) hm
    have N := sipN h0 h1
    refine ⟨((5 * d + d / 2 + 4) % (m : Int)).toNat, hM.1, ?_⟩
    rw [hM.2]
    exact fv (q_Lsip cs) rfl (Sx.seq (Sx.asg (Ev.idx (Ev.var rfl) Ev.num rfl)) (Sx.seq (Sx.setC rfl (Ev.bin (Ev.var rfl) Ev.num rfl) Ev.num) (Sx.seq (Sx.iteF (Et.cmp (Ev.var rfl) (Ev.bi (e0 rfl) e1) (congrArg some (decide_eq_false hd))) Sx.nil)
      (Sx.ret (Ev.bin (Ev.bin (Ev.bin (Ev.bin Ev.num (Ev.var rfl) (z := .int (5 * d)) (if_pos ⟨by decide, by decide, h0, Int.lt_of_le_of_lt h1 (by decide)⟩)) (Ev.bin (Ev.var rfl) Ev.num (z := .int (d / 2)) (if_pos ⟨h0, Int.lt_of_le_of_lt h1 (by decide), by decide, by decide⟩)) rfl) Ev.num rfl) (Ev.var rfl)
        (modBin N.2.2.2 N.2.2.1 hm hm2))))))
end
end Mine
namespace Mine
open PySem

/-! parts of a text -/
noncomputable def sq1 : S → S | .seq a _ => a | s => s
noncomputable def sq2 : S → S | .seq _ b => b | s => s
noncomputable def whC : S → E | .whl c _ _ => c | _ => .nil
noncomputable def whB : S → S | .whl _ b _ => b | .for _ _ _ b _ => b | s => s

/-! errors -/
noncomputable abbrev Xe (g : Sg) (ρ : List AV) (d : Int) (e : E) (l : Int) (d' : Int) : Prop := oneA ((dn g e).e ρ) d = some (.error l, d')
noncomputable abbrev Xs (g : Sg) (ρ : List AV) (d : Int) (s : S) (l : Int) (d' : Int) : Prop := ds g s ρ d = some (.error l, d')
section
variable {g : Sg} {ρ : List AV} {d d1 d2 d3 k : Int} {a b c i es : E} {x y z : AV} {l : List AV} {p q r0 r1 r2 : Pos}
theorem Xs.seq1 {s t : S} (h : Xs g ρ d s k d1) : Xs g ρ d (.seq s t) k d1 := bindErr h
set_option tactic.hygienic true
theorem Xs.seq2 {s t : S} {ρ1 : List AV} (h1 : Sx g ρ d s (.next, ρ1) d1) (h2 : Xs g ρ1 d1 t k d2) : Xs g ρ d (.seq s t) k d2 := bindOk h1 h2
set_option tactic.hygienic false
theorem Xs.raise {m : String} (h : Ev g ρ d a (.int k) d1) : Xs g ρ d (.raise m a p q r0 r1) k d1 := bindOk h rfl
theorem Xs.iteT {s t : S} (h1 : Et g ρ d c true d1) (h2 : Xs g ρ d1 s k d2) : Xs g ρ d (.ite c s t p) k d2 := bindOk h1 h2
theorem Xs.iteF {s t : S} (h1 : Et g ρ d c false d1) (h2 : Xs g ρ d1 t k d2) : Xs g ρ d (.ite c s t p) k d2 := bindOk h1 h2
theorem Xs.asgT {xs : List (Nat × Pos)} (h : Xe g ρ d a k d1) : Xs g ρ d (.asgT xs q a p) k d1 := bindErr h
theorem Xs.ret (h : Xe g ρ d a k d1) : Xs g ρ d (.ret a p) k d1 := bindErr h
theorem Xe.call {f : String} (h1 : El g ρ d es l d1) (h : g.F f l d1 = some (.error k, d2)) : Xe g ρ d (.call f q es p) k d2 := bindErr (bindOk h1 (bindErr h))
end

/-! texts -/
theorem lenLt {t r : List Nat} {c e : Nat} (h : t.drop e = c :: r) : e < t.length := by
  rcases Nat.lt_or_ge e t.length with q | q
  · exact q
  · rw [List.drop_eq_nil_of_le q] at h; cases h
theorem strAt' {cs : List Int} {d : Int} {t r : List Nat} {c e : Nat} (h : t.drop e = c :: r) (ht : t.length ≤ LIM) : idxA cs (.str t) (.int (e : Int)) d = some (.ok (.str [c]), d) := by
  have he := lenLt h
  have hc : t[e]? = some c := by rw [← List.head?_drop, h]; rfl
  show (if 0 ≤ (e : Int) ∧ (e : Int) ≤ (LIM : Nat) then M.lift (t[(e : Int).toNat]?.map fun c => AV.str [c]) else M.fail) d = _
  rw [if_pos (natIn (Nat.le_trans (Nat.le_of_lt he) ht)), Int.toNat_natCast, hc]
  rfl
theorem bnd1 {a : Nat} (ha : a ≤ LIM) : bndA [.int (a : Int)] = some (some a) := by
  show (if 0 ≤ (a : Int) ∧ (a : Int) ≤ (LIM : Nat) then some (some (a : Int).toNat) else none) = _
  rw [if_pos (natIn ha), Int.toNat_natCast]
theorem cut2 {t : List Nat} {a b : Nat} (ht : t.length ≤ LIM) (ha : a ≤ LIM) (hb : b ≤ LIM) : slcA (.str t) [.int (a : Int)] [.int (b : Int)] = some (.str ((t.take b).drop a)) := by
  show (if t.length ≤ LIM then (match bndA [.int (a : Int)], bndA [.int (b : Int)] with | some lo, some hi => some (AV.str (cutA t lo hi)) | _, _ => none) else none) = _
  rw [if_pos ht, bnd1 ha, bnd1 hb]
  rfl
theorem drop1 {t r : List Nat} {c e : Nat} (h : t.drop e = c :: r) : t.drop (e + 1) = r := by rw [← List.drop_drop, h]; rfl
theorem dropN {t l r : List Nat} {e : Nat} (h : t.drop e = l ++ r) : t.drop (e + l.length) = r := by rw [← List.drop_drop, h]; simp
theorem cut_at {t l r : List Nat} {e : Nat} (h : t.drop e = l ++ r) : (t.take (e + l.length)).drop e = l := by
  rw [List.drop_take, h, Nat.add_sub_cancel_left]; simp
/-- one sign off a text -/
theorem cut1 {t r : List Nat} {c e : Nat} (h : t.drop e = c :: r) : (t.take (e + 1)).drop e = [c] := cut_at (l := [c]) h

/-! what delimited passes -/
inductive Walk (op cl : Nat) : List Nat → Nat → Nat → Prop
  | nil {k : Nat} : Walk op cl [] k k
  | chr {c : Nat} {l : List Nat} {k k' : Nat} : c ≠ 92 → c ≠ cl → c ≠ op → Walk op cl l k k' → Walk op cl (c :: l) k k'
  | esc {x : Nat} {l : List Nat} {k k' : Nat} : Walk op cl l k k' → Walk op cl (92 :: x :: l) k k'
  | more {l : List Nat} {k k' : Nat} : op ≠ 92 → op ≠ cl → Walk op cl l (k + 1) k' → Walk op cl (op :: l) k k'
  | less {l : List Nat} {k k' : Nat} : cl ≠ 92 → 0 < k → Walk op cl l k k' → Walk op cl (cl :: l) (k + 1) k'
theorem Walk.app {op cl : Nat} {l m : List Nat} {k k' k2 : Nat} (h : Walk op cl l k k') (h2 : Walk op cl m k' k2) : Walk op cl (l ++ m) k k2 := by
  induction h with
  | nil => exact h2
  | chr a b c _ ih => exact .chr a b c (ih h2)
  | esc _ ih => exact .esc (ih h2)
  | more a b _ ih => exact .more a b (ih h2)
  | less a b _ ih => exact .less a b (ih h2)

noncomputable def dlL : S := sq1 (sq2 (sq2 (sq2 (sq2 bdelimited))))
section
variable {cs : List Int} {d : Int} {t : List Nat} {at_ op cl : Nat}
noncomputable abbrev dlS (t : List Nat) (at_ op cl k e : Nat) (s : AV) : List AV := [.str t, .int (at_ : Int), .str [op], .str [cl], .int (k : Int), .int (e : Int), s]

theorem inS {c : Nat} {l : List Nat} {b : Bool} (h : l.contains c = b) : cmpA .isin (.str [c]) (.str l) = some b := congrArg some h
theorem ninS {c : Nat} {l : List Nat} {b : Bool} (h : l.contains c = b) : cmpA .notin (.str [c]) (.str l) = some (!b) := congrArg (fun x => some (!x)) h
theorem eqS {a b : List Nat} (h : a = b) : cmpA .eq (.str a) (.str b) = some true := congrArg some (decide_eq_true h)
theorem neS {a b : List Nat} (h : a ≠ b) : cmpA .eq (.str a) (.str b) = some false := congrArg some (decide_eq_false h)
theorem neS1 {a b : Nat} (h : a ≠ b) : cmpA .eq (.str [a]) (.str [b]) = some false := neS (by simpa using h)
theorem eqI {a b : Int} (h : a = b) : cmpA .eq (.int a) (.int b) = some true := congrArg some (decide_eq_true h)
theorem neI {a b : Int} (h : a ≠ b) : cmpA .eq (.int a) (.int b) = some false := congrArg some (decide_eq_false h)

theorem dl_c {k e : Nat} {s : AV} (ht : t.length ≤ LIM) (h : e < t.length) : Et (gT cs) (dlS t at_ op cl k e s) d (whC dlL) true d := Et.cmp (Ev.var rfl) (Ev.bi (Ev.var rfl) (lenOf ht)) (ltLen h)
theorem sub1 {k : Nat} : augA .sub (.int ((k + 1 : Nat) : Int)) (.int 1) = some (.int (k : Int)) := by
  show some (AV.int (((k + 1 : Nat) : Int) - 1)) = _
  rw [Int.natCast_succ, Int.add_sub_cancel]
set_option tactic.hygienic true
/-- the sign read, no backslash -/
theorem dl_chr {k e c : Nat} {s : AV} {r : List Nat} (ht : t.length ≤ LIM) (h : t.drop e = c :: r) (h1 : c ≠ 92) (h2 : c ≠ cl) (h3 : c ≠ op) : Sx (gT cs) (dlS t at_ op cl k e s) d (whB dlL) (.next, dlS t at_ op cl k (e + 1) (.str [c])) d :=
  Sx.seq (Sx.asg (Ev.idx (Ev.var rfl) (Ev.var rfl) (strAt' h ht))) (Sx.seq (Sx.iteF (Et.cmp (Ev.var rfl) Ev.str (neS1 h1)) Sx.nil)
    (Sx.seq (Sx.iteF (Et.cmp (Ev.var rfl) (Ev.var rfl) (neS1 h2)) (Sx.iteF (Et.cmp (Ev.var rfl) (Ev.var rfl) (neS1 h3)) Sx.nil)) (Sx.aug rfl Ev.num rfl)))
set_option tactic.hygienic false
theorem dl_esc {k e : Nat} {s : AV} {r : List Nat} (ht : t.length ≤ LIM) (h : t.drop e = 92 :: r) : Sx (gT cs) (dlS t at_ op cl k e s) d (whB dlL) (.cont, dlS t at_ op cl k (e + 2) (.str [92])) d :=
  Sx.seq (Sx.asg (Ev.idx (Ev.var rfl) (Ev.var rfl) (strAt' h ht))) (Sx.cont1 (Sx.iteT (Et.cmp (Ev.var rfl) Ev.str (eqS rfl)) (Sx.seq (Sx.aug rfl Ev.num rfl) Sx.cont)))
set_option tactic.hygienic true
theorem dl_more {k e : Nat} {s : AV} {r : List Nat} (ht : t.length ≤ LIM) (h : t.drop e = op :: r) (h1 : op ≠ 92) (h2 : op ≠ cl) : Sx (gT cs) (dlS t at_ op cl k e s) d (whB dlL) (.next, dlS t at_ op cl (k + 1) (e + 1) (.str [op])) d :=
  Sx.seq (Sx.asg (Ev.idx (Ev.var rfl) (Ev.var rfl) (strAt' h ht))) (Sx.seq (Sx.iteF (Et.cmp (Ev.var rfl) Ev.str (neS1 h1)) Sx.nil)
    (Sx.seq (Sx.iteF (Et.cmp (Ev.var rfl) (Ev.var rfl) (neS1 h2)) (Sx.iteT (Et.cmp (Ev.var rfl) (Ev.var rfl) (eqS rfl)) (Sx.aug rfl Ev.num rfl))) (Sx.aug rfl Ev.num rfl)))
theorem dl_less {k e : Nat} {s : AV} {r : List Nat} (ht : t.length ≤ LIM) (h : t.drop e = cl :: r) (h1 : cl ≠ 92) (h2 : 0 < k) : Sx (gT cs) (dlS t at_ op cl (k + 1) e s) d (whB dlL) (.next, dlS t at_ op cl k (e + 1) (.str [cl])) d :=
  Sx.seq (Sx.asg (Ev.idx (Ev.var rfl) (Ev.var rfl) (strAt' h ht))) (Sx.seq (Sx.iteF (Et.cmp (Ev.var rfl) Ev.str (neS1 h1)) Sx.nil)
    (Sx.seq (Sx.iteT (Et.cmp (Ev.var rfl) (Ev.var rfl) (eqS rfl)) (Sx.seq (Sx.aug rfl Ev.num sub1) (Sx.iteF (Et.cmp (Ev.var rfl) Ev.num (neI fun q => absurd (Int.ofNat_inj.mp q) (Nat.ne_of_gt h2))) Sx.nil))) (Sx.aug rfl Ev.num rfl)))
set_option tactic.hygienic false
theorem dl_end {e : Nat} {s : AV} {r : List Nat} (ht : t.length ≤ LIM) (h : t.drop e = cl :: r) (h1 : cl ≠ 92) (ha : at_ + 1 ≤ LIM) : Sx (gT cs) (dlS t at_ op cl 1 e s) d (whB dlL) (.ret (.tup [.str ((t.take e).drop (at_ + 1)), .int ((e + 1 : Nat) : Int)]), dlS t at_ op cl 0 e (.str [cl])) d :=
  Sx.seq (Sx.asg (Ev.idx (Ev.var rfl) (Ev.var rfl) (strAt' h ht))) (Sx.seq (Sx.iteF (Et.cmp (Ev.var rfl) Ev.str (neS1 h1)) Sx.nil)
    (Sx.ret1 (Sx.iteT (Et.cmp (Ev.var rfl) (Ev.var rfl) (eqS rfl)) (Sx.seq (Sx.aug rfl Ev.num sub1) (Sx.iteT (Et.cmp (Ev.var rfl) Ev.num (eqI rfl))
      (Sx.ret (Ev.tup (El.cons (Ev.slc2 (Ev.var rfl) (Ev.bin (Ev.var rfl) Ev.num rfl) (Ev.var rfl) rfl rfl (cut2 (a := at_ + 1) (b := e) ht ha (Nat.le_trans (Nat.le_of_lt (lenLt h)) ht))) (El.cons (Ev.bin (Ev.var rfl) Ev.num rfl) El.nil)) (Nat.le_of_ble_eq_true rfl))))))))

theorem dl_walk (ht : t.length ≤ LIM) {l : List Nat} {k k' : Nat} (w : Walk op cl l k k') : ∀ {e n e' : Nat} {s : AV} {rest : List Nat}, t.drop e = l ++ rest → l.length ≤ n → e + l.length = e' →
    ∃ s', ∀ r, (∀ m, n ≤ m + l.length → Wx (gT cs) (whC dlL) (whB dlL) m (dlS t at_ op cl k' e' s') d r d) → Wx (gT cs) (whC dlL) (whB dlL) n (dlS t at_ op cl k e s) d r d := by
  induction w with
  | nil => intro e n e' s rest h hn he; cases (show e = e' from he); exact ⟨s, fun r H => H n (Nat.le_refl _)⟩
  | chr h1 h2 h3 w ih =>
    intro e n e' s rest h hn he
    match n, hn with
    | n + 1, hn => exact (ih (drop1 h) (Nat.le_of_succ_le_succ hn) ((ea1 _ _).trans he)).elim fun s' H => ⟨s', fun r q => Wx.go (dl_c ht (lenLt h)) (dl_chr ht h h1 h2 h3) (H r fun m hm => q m (Nat.succ_le_succ hm))⟩
  | esc w ih =>
    intro e n e' s rest h hn he
    match n, hn with
    | n + 1, hn => exact (ih (drop1 (drop1 h)) (Nat.le_of_succ_le (Nat.le_of_succ_le_succ hn)) ((ea2 _ _).trans he)).elim fun s' H => ⟨s', fun r q => Wx.goC (dl_c ht (lenLt h)) (dl_esc ht h) (H r fun m hm => q m (Nat.le_succ_of_le (Nat.succ_le_succ hm)))⟩
  | more h1 h2 w ih =>
    intro e n e' s rest h hn he
    match n, hn with
    | n + 1, hn => exact (ih (drop1 h) (Nat.le_of_succ_le_succ hn) ((ea1 _ _).trans he)).elim fun s' H => ⟨s', fun r q => Wx.go (dl_c ht (lenLt h)) (dl_more ht h h1 h2) (H r fun m hm => q m (Nat.succ_le_succ hm))⟩
  | less h1 h2 w ih =>
    intro e n e' s rest h hn he
    match n, hn with
    | n + 1, hn => exact (ih (drop1 h) (Nat.le_of_succ_le_succ hn) ((ea1 _ _).trans he)).elim fun s' H => ⟨s', fun r q => Wx.go (dl_c ht (lenLt h)) (dl_less ht h h1 h2) (H r fun m hm => q m (Nat.succ_le_succ hm))⟩

/-- delimited finds its end -/
theorem f_delim {l rest : List Nat} (ht : t.length ≤ LIM) (h : t.drop at_ = op :: l ++ closeOf op :: rest) (hc : closeOf op ≠ 92) (w : Walk op (closeOf op) l 1 1) :
    Fv cs "delimited" [.str t, .int (at_ : Int)] d (.tup [.str l, .int ((at_ + l.length + 2 : Nat) : Int)]) d := by
  have ha := Nat.le_trans (lenLt h) ht
  have h1 := drop1 h
  have h2 : t.drop (at_ + 1 + l.length) = closeOf op :: rest := dropN h1
  have hb := lenLt h2
  have hl : l.length ≤ LIM := Nat.le_trans (Nat.le_add_left _ _) (Nat.le_trans (Nat.le_of_lt hb) ht)
  have e1 : (t.take (at_ + 1 + l.length)).drop (at_ + 1) = l := cut_at h1
  obtain ⟨s', H⟩ := dl_walk (cs := cs) (d := d) (at_ := at_) ht w (e := at_ + 1) (n := 1000002) (s := .unb) h1 (lim2 hl) rfl
  have e := dl_end (cs := cs) (d := d) (op := op) (at_ := at_) (s := s') ht h2 hc ha
  rw [e1, show at_ + 1 + l.length + 1 = at_ + l.length + 2 from congrArg Nat.succ (ea1 _ _)] at e
  have L := H _ fun m hm => match m, hm with
    | 0, hm => (no0 hl hm).elim
    | m + 1, hm => Wx.ret (dl_c ht hb) e
  have c0 := cut2 (a := at_) (b := at_ + 1) ht (Nat.le_of_succ_le ha) ha
  rw [cut1 h] at c0
  exact fv (q_delimited cs) rfl (Sx.seq (Sx.asg (Ev.slc2 (Ev.var rfl) (Ev.var rfl) (Ev.bin (Ev.var rfl) Ev.num rfl) rfl rfl c0)) (Sx.seq (Sx.asg (Ev.call (El.cons (Ev.var rfl) El.nil) (f_closer_of op))) (Sx.seq (Sx.asg Ev.num) (Sx.seq (Sx.asg (Ev.bin (Ev.var rfl) Ev.num rfl)) (Sx.ret1 (Sx.whl L))))))
/-- delimited finds none -/
theorem x_delim {l : List Nat} {k : Nat} (ht : t.length ≤ LIM) (h : t.drop at_ = op :: l) (w : Walk op (closeOf op) l 1 k) : Fe cs "delimited" [.str t, .int (at_ : Int)] d (lineAt t at_) d := by
  have ha := Nat.le_trans (lenLt h) ht
  have h1 := drop1 h
  have hlen : l.length = t.length - (at_ + 1) := by rw [← h1, List.length_drop]
  have hl : l.length ≤ LIM := Nat.le_trans (Nat.le_of_eq hlen) (Nat.le_trans (Nat.sub_le _ _) ht)
  obtain ⟨s', H⟩ := dl_walk (cs := cs) (d := d) (at_ := at_) ht w (e := at_ + 1) (n := 1000002) (s := .unb) (rest := []) (h1.trans (List.append_nil _).symm) (lim2 hl) rfl
  have L := H _ fun m hm => match m, hm with
    | 0, hm => (no0 hl hm).elim
    | m + 1, hm => Wx.stop (Et.cmp (Ev.var rfl) (Ev.bi (Ev.var rfl) (lenOf ht)) (geLen (hlen ▸ Nat.le_of_eq (Nat.add_sub_cancel' (lenLt h)).symm)))
  have c0 := cut2 (a := at_) (b := at_ + 1) ht (Nat.le_of_succ_le ha) ha
  rw [cut1 h] at c0
  exact fe (q_delimited cs) rfl (Xs.seq2 (Sx.asg (Ev.slc2 (Ev.var rfl) (Ev.var rfl) (Ev.bin (Ev.var rfl) Ev.num rfl) rfl rfl c0)) (Xs.seq2 (Sx.asg (Ev.call (El.cons (Ev.var rfl) El.nil) (f_closer_of op))) (Xs.seq2 (Sx.asg Ev.num) (Xs.seq2 (Sx.asg (Ev.bin (Ev.var rfl) Ev.num rfl)) (Xs.seq2 (Sx.whl L)
    (Xs.raise (Ev.call (El.cons (Ev.var rfl) (El.cons (Ev.var rfl) El.nil)) (f_line_of_place ht (Nat.le_of_succ_le ha)))))))))
end
end Mine
namespace Mine
open PySem

/-! what unguarded makes of a text -/
inductive Ung (op cl : Nat) (pl : Bool) : List Nat → List Nat → Prop
  | nil : Ung op cl pl [] []
  | chr {c : Nat} {l m : List Nat} : c ≠ 92 → Ung op cl pl l m → Ung op cl pl (c :: l) (c :: m)
  | take {x : Nat} {l m : List Nat} : (x = op ∨ x = cl ∨ (pl = true ∧ x = 92)) → Ung op cl pl l m → Ung op cl pl (92 :: x :: l) (x :: m)
  | keep {x : Nat} {l m : List Nat} : x ≠ op → x ≠ cl → (pl = true → x ≠ 92) → Ung op cl pl l m → Ung op cl pl (92 :: x :: l) (92 :: x :: m)
theorem Ung.app {op cl : Nat} {pl : Bool} {l m l2 m2 : List Nat} (h : Ung op cl pl l m) (h2 : Ung op cl pl l2 m2) : Ung op cl pl (l ++ l2) (m ++ m2) := by
  induction h with
  | nil => exact h2
  | chr a _ ih => exact .chr a ih
  | take a _ ih => exact .take a ih
  | keep a b c _ ih => exact .keep a b c ih

noncomputable def unL : S := sq1 (sq2 (sq2 (sq2 bunguarded)))
noncomputable abbrev unS (t : List Nat) (op : Nat) (pl : Bool) (cl : Nat) (out : List Nat) (e : Nat) (f : AV) : List AV := [.str t, .str [op], .bool pl, .str [cl], .str out, .int (e : Int), f]
section
variable {cs : List Int} {d : Int} {t : List Nat} {op cl : Nat} {pl : Bool}
theorem neT {a b : List Nat} (h : a ≠ b) : cmpA .ne (.str a) (.str b) = some true := by show some (!decide _) = _; rw [decide_eq_false h]; rfl
theorem neF {a b : List Nat} (h : a = b) : cmpA .ne (.str a) (.str b) = some false := by show some (!decide _) = _; rw [decide_eq_true h]; rfl
theorem addS {a b : List Nat} (h : a.length + b.length ≤ LIM) : binA .add (.str a) (.str b) = some (.str (a ++ b)) := if_pos h
theorem addG {a b : List Nat} (h : a.length + b.length ≤ LIM) : augA .add (.str a) (.str b) = some (.str (a ++ b)) := if_pos h

theorem hs (t : List Nat) (h : t.length ≤ 1000) : t.length ≤ LIM := Nat.le_trans h (show 1000 ≤ 1000000 by decide)
theorem e2Lim {e n : Nat} (h : e < n) (hn : n ≤ 1000) : e + 2 ≤ LIM := Nat.le_trans (Nat.succ_le_succ (Nat.le_trans h hn)) (Nat.le_of_ble_eq_true rfl)
theorem outL {k e : Nat} {out l : List Nat} (ho : out.length ≤ e) (hk : l.length ≤ k) : (out ++ l).length ≤ e + k := by rw [List.length_append]; exact Nat.add_le_add ho hk
theorem un_c {out : List Nat} {e : Nat} {s : AV} (ht : t.length ≤ LIM) (h : e < t.length) : Et (gT cs) (unS t op pl cl out e s) d (whC unL) true d := Et.cmp (Ev.var rfl) (Ev.bi (Ev.var rfl) (lenOf ht)) (ltLen h)
set_option tactic.hygienic true
theorem un_fol {out r : List Nat} {e c : Nat} {s : AV} {p1 p2 p3 p4 p5 p6 p7 p8 p9 p0 q1 : Pos} (ht : t.length ≤ 1000) (h : t.drop e = c :: r) :
    Sx (gT cs) (unS t op pl cl out e s) d (.asg 6 p1 (.slc (.var 0 p2) (.bin .add (.var 5 p3) (.num 1 p4) p5) (.bin .add (.var 5 p6) (.num 2 p7) p8) p9 p0) q1) (.next, unS t op pl cl out e (.str ((t.take (e + 2)).drop (e + 1)))) d :=
  Sx.asg (Ev.slc2 (Ev.var rfl) (Ev.bin (Ev.var rfl) Ev.num rfl) (Ev.bin (Ev.var rfl) Ev.num rfl) rfl rfl (cut2 (a := e + 1) (b := e + 2) (hs _ ht) (Nat.le_of_succ_le (e2Lim (lenLt h) ht)) (e2Lim (lenLt h) ht)))
set_option tactic.hygienic false
theorem un_chr {out r : List Nat} {e c : Nat} {s : AV} (ht : t.length ≤ 1000) (h : t.drop e = c :: r) (hc : c ≠ 92) (ho : out.length ≤ e) :
    Sx (gT cs) (unS t op pl cl out e s) d (whB unL) (.cont, unS t op pl cl (out ++ [c]) (e + 1) (.str ((t.take (e + 2)).drop (e + 1)))) d := by
  exact Sx.seq (un_fol ht h) (Sx.cont1 (Sx.iteT (Et.or (Ek.stop (Et.cmp (Ev.idx (Ev.var rfl) (Ev.var rfl) (strAt' h (hs _ ht))) Ev.str (neT (by simpa using hc))) (by decide)))
    (Sx.seq (Sx.aug rfl (Ev.idx (Ev.var rfl) (Ev.var rfl) (strAt' h (hs _ ht))) (addG (Nat.le_trans (Nat.succ_le_succ ho) (Nat.le_of_succ_le (e2Lim (lenLt h) ht))))) (Sx.seq (Sx.aug rfl Ev.num rfl) Sx.cont))))
set_option tactic.hygienic true
theorem un_esc {out r : List Nat} {e x : Nat} {s : AV} {out' : List Nat} (ht : t.length ≤ 1000) (h : t.drop e = 92 :: x :: r)
    (hb : Sx (gT cs) (unS t op pl cl out e (.str [x])) d (sq1 (sq2 (sq2 (whB unL)))) (.next, unS t op pl cl out' e (.str [x])) d) :
    Sx (gT cs) (unS t op pl cl out e s) d (whB unL) (.next, unS t op pl cl out' (e + 2) (.str [x])) d := by
  have e1 : (t.take (e + 2)).drop (e + 1) = [x] := cut1 (e := e + 1) (drop1 h)
  have u := un_fol (cs := cs) (d := d) (op := op) (cl := cl) (pl := pl) (out := out) (s := s) (p1 := ⟨56, 8, 56, 16⟩) (p2 := ⟨56, 19, 56, 24⟩) (p3 := ⟨56, 25, 56, 27⟩) (p4 := ⟨56, 30, 56, 31⟩) (p5 := ⟨56, 25, 56, 31⟩) (p6 := ⟨56, 32, 56, 34⟩) (p7 := ⟨56, 37, 56, 38⟩) (p8 := ⟨56, 32, 56, 38⟩) (p9 := ⟨56, 25, 56, 38⟩) (p0 := ⟨56, 19, 56, 39⟩) (q1 := ⟨56, 8, 56, 39⟩) ht h
  rw [e1] at u
  exact Sx.seq u (Sx.seq (Sx.iteF (Et.or (Ek.go (Et.cmp (Ev.idx (Ev.var rfl) (Ev.var rfl) (strAt' h (hs _ ht))) Ev.str (neF rfl)) (Ek.go (Et.cmp (Ev.var rfl) Ev.str (neS (by simp))) Ek.nil))) Sx.nil) (Sx.seq hb (Sx.aug rfl Ev.num rfl)))
theorem un_take {out : List Nat} {e x : Nat} (ho : out.length + 1 ≤ LIM) (hx : x = op ∨ x = cl ∨ (pl = true ∧ x = 92)) :
    Sx (gT cs) (unS t op pl cl out e (.str [x])) d (sq1 (sq2 (sq2 (whB unL)))) (.next, unS t op pl cl (out ++ [x]) e (.str [x])) d := by
  refine Sx.iteT (Et.or ?_) (Sx.aug rfl (Ev.var rfl) (addG ho))
  by_cases h1 : x = op
  · exact Ek.stop (Et.cmp (Ev.var rfl) (Ev.var rfl) (eqS (by rw [h1]))) (by decide)
  refine Ek.go (Et.cmp (Ev.var rfl) (Ev.var rfl) (neS1 h1)) ?_
  by_cases h2 : x = cl
  · exact Ek.stop (Et.cmp (Ev.var rfl) (Ev.var rfl) (eqS (by rw [h2]))) (by decide)
  refine Ek.go (Et.cmp (Ev.var rfl) (Ev.var rfl) (neS1 h2)) ?_
  obtain ⟨h3, h4⟩ := (hx.resolve_left h1).resolve_left h2
  exact Ek.stop (t := true) (Et.and (Ek.go (Et.var rfl (by rw [h3]; rfl)) (Ek.go (Et.cmp (Ev.var rfl) Ev.str (eqS (by rw [h4]))) Ek.nil))) (by decide)
theorem un_keep {out r : List Nat} {e x : Nat} (ht : t.length ≤ 1000) (h : t.drop e = 92 :: x :: r) (ho : out.length ≤ e) (h1 : x ≠ op) (h2 : x ≠ cl) (h3 : pl = true → x ≠ 92) :
    Sx (gT cs) (unS t op pl cl out e (.str [x])) d (sq1 (sq2 (sq2 (whB unL)))) (.next, unS t op pl cl (out ++ [92, x]) e (.str [x])) d := by
  have h9 := e2Lim (lenLt h) ht
  have c := cut2 (a := e) (b := e + 2) (hs _ ht) (Nat.le_of_succ_le (Nat.le_of_succ_le h9)) h9
  rw [show (t.take (e + 2)).drop e = [92, x] from cut_at (l := [92, x]) h] at c
  refine Sx.iteF (Et.or (Ek.go (Et.cmp (Ev.var rfl) (Ev.var rfl) (neS1 h1)) (Ek.go (Et.cmp (Ev.var rfl) (Ev.var rfl) (neS1 h2)) (Ek.go (Et.and ?_) Ek.nil)))) (Sx.aug rfl (Ev.slc2 (Ev.var rfl) (Ev.var rfl) (Ev.bin (Ev.var rfl) Ev.num rfl) rfl rfl c) (addG (Nat.le_trans (Nat.add_le_add_right ho 2) h9)))
  cases pl with
  | false => exact Ek.stop (Et.var rfl rfl) (by decide)
  | true => exact Ek.go (Et.var rfl rfl) (Ek.stop (Et.cmp (Ev.var rfl) Ev.str (neS1 (h3 rfl))) (by decide))

set_option tactic.hygienic false
theorem un_walk (ht : t.length ≤ 1000) {l m : List Nat} (w : Ung op cl pl l m) : ∀ {e n e' : Nat} {out o' : List Nat} {f : AV} {rest : List Nat}, t.drop e = l ++ rest → out.length ≤ e → l.length ≤ n → e + l.length = e' → out ++ m = o' →
    ∃ f', ∀ r, (∀ m', n ≤ m' + l.length → Wx (gT cs) (whC unL) (whB unL) m' (unS t op pl cl o' e' f') d r d) → Wx (gT cs) (whC unL) (whB unL) n (unS t op pl cl out e f) d r d := by
  induction w with
  | nil => intro e n e' out o' f rest h ho hn he hm; cases (show e = e' from he); cases (List.append_nil out).symm.trans hm; exact ⟨f, fun r H => H n (Nat.le_refl _)⟩
  | @chr c l m h1 w ih =>
    intro e n e' out o' f rest h ho hn he hm
    match n, hn with
    | n + 1, hn => exact (ih (e := e + 1) (out := out ++ [c]) (drop1 h) (outL (k := 1) ho (Nat.le_refl 1)) (Nat.le_of_succ_le_succ hn) ((ea1 _ _).trans he) ((List.append_assoc _ _ _).trans hm)).elim fun f' H =>
        ⟨f', fun r q => Wx.goC (un_c (hs _ ht) (lenLt h)) (un_chr ht h h1 ho) (H r fun m' hm => q m' (Nat.succ_le_succ hm))⟩
  | @take x l m h1 w ih =>
    intro e n e' out o' f rest h ho hn he hm
    match n, hn with
    | n + 1, hn => exact (ih (e := e + 2) (out := out ++ [x]) (drop1 (drop1 h)) (outL (k := 2) ho (Nat.le_succ 1)) (Nat.le_of_succ_le (Nat.le_of_succ_le_succ hn)) ((ea2 _ _).trans he) ((List.append_assoc _ _ _).trans hm)).elim fun f' H =>
        ⟨f', fun r q => Wx.go (un_c (hs _ ht) (lenLt h)) (un_esc ht h (un_take (Nat.le_trans (Nat.succ_le_succ ho) (Nat.le_of_succ_le (e2Lim (lenLt h) ht))) h1)) (H r fun m' hm => q m' (Nat.le_succ_of_le (Nat.succ_le_succ hm)))⟩
  | @keep x l m h1 h2 h3 w ih =>
    intro e n e' out o' f rest h ho hn he hm
    match n, hn with
    | n + 1, hn => exact (ih (e := e + 2) (out := out ++ [92, x]) (drop1 (drop1 h)) (outL (k := 2) ho (Nat.le_refl 2)) (Nat.le_of_succ_le (Nat.le_of_succ_le_succ hn)) ((ea2 _ _).trans he) ((List.append_assoc _ _ _).trans hm)).elim fun f' H =>
        ⟨f', fun r q => Wx.go (un_c (hs _ ht) (lenLt h)) (un_esc ht h (un_keep ht h ho h1 h2 h3)) (H r fun m' hm => q m' (Nat.le_succ_of_le (Nat.succ_le_succ hm)))⟩

theorem f_unguarded {l m : List Nat} (hl : l.length ≤ 1000) (w : Ung op (closeOf op) pl l m) : Fv cs "unguarded" [.str l, .str [op], .bool pl] d (.str m) d := by
  obtain ⟨f', H⟩ := un_walk (cs := cs) (d := d) hl w (e := 0) (n := 1000002) (out := []) (f := .unb) (rest := []) (List.append_nil l).symm (Nat.le_refl _) (lim2 (hs _ hl)) rfl rfl
  have L := H _ fun m' hm => match m', hm with
    | 0, hm => (no0 (hs _ hl) hm).elim
    | m' + 1, hm => Wx.stop (Et.cmp (Ev.var rfl) (Ev.bi (Ev.var rfl) (lenOf (hs _ hl))) (geLen (Nat.le_of_eq (Nat.zero_add _).symm)))
  exact fv (q_unguarded cs) rfl (Sx.seq (Sx.asg (Ev.call (El.cons (Ev.var rfl) El.nil) (f_closer_of op))) (Sx.seq (Sx.asg Ev.str) (Sx.seq (Sx.asg Ev.num) (Sx.seq (Sx.whl L) (Sx.ret (Ev.var rfl))))))
theorem f_read_q {l m : List Nat} (hl : l.length ≤ 1000) (w : Ung op (closeOf op) true l m) : Fv cs "read_q" [.str l, .str [op]] d (.str m) d :=
  fv (q_readq cs) rfl (Sx.ret (Ev.call (El.cons (Ev.var rfl) (El.cons (Ev.var rfl) (El.cons Ev.bool El.nil))) (f_unguarded hl w)))
end
end Mine
namespace Mine
open PySem

noncomputable abbrev Lx (g : Sg) (x : Nat) (b : S) (L : List AV) (ρ : List AV) (d : Int) (r : Fl × List AV) (d' : Int) : Prop := iterF x (ds g b) L ρ d = some (.ok r, d')
noncomputable abbrev Xl (g : Sg) (x : Nat) (b : S) (L : List AV) (ρ : List AV) (d : Int) (l : Int) (d' : Int) : Prop := iterF x (ds g b) L ρ d = some (.error l, d')
section
variable {g : Sg} {ρ ρ1 : List AV} {d d1 d2 d3 k : Int} {a b c i es : E} {x y z : AV} {l : List AV} {p q r0 r1 r2 : Pos} {n : Nat} {s : S} {r : Fl × List AV}
set_option tactic.hygienic true
theorem Lx.nil : Lx g n s [] ρ d (.next, ρ) d := rfl
theorem Lx.go (h : Sx g (ρ.set n x) d s (.next, ρ1) d1) (h2 : Lx g n s l ρ1 d1 r d2) : Lx g n s (x :: l) ρ d r d2 := bindOk h h2
set_option tactic.hygienic false
theorem Lx.ret (h : Sx g (ρ.set n x) d s (.ret y, ρ1) d1) : Lx g n s (x :: l) ρ d (.ret y, ρ1) d1 := bindOk h rfl
set_option tactic.hygienic true
theorem Xl.go (h : Sx g (ρ.set n x) d s (.next, ρ1) d1) (h2 : Xl g n s l ρ1 d1 k d2) : Xl g n s (x :: l) ρ d k d2 := bindOk h h2
set_option tactic.hygienic false
theorem Xl.now (h : Xs g (ρ.set n x) d s k d1) : Xl g n s (x :: l) ρ d k d1 := bindErr h
theorem Sx.for (h1 : Ev g ρ d a x d1) (h2 : itemsF x = some l) (h3 : Lx g n s l ρ d1 r d2) : Sx g ρ d (.for n q a s p) r d2 := bindOk h1 (bindOk (liftOk h2) h3)
theorem Xs.for (h1 : Ev g ρ d a x d1) (h2 : itemsF x = some l) (h3 : Xl g n s l ρ d1 k d2) : Xs g ρ d (.for n q a s p) k d2 := bindOk h1 (bindOk (liftOk h2) h3)
set_option tactic.hygienic true
theorem Sx.asgO (h : El g ρ d es l d1) (hl : l.length ≤ LIM) : Sx g ρ d (.asgO n q es r0 p) (.next, ρ.set n (.own l)) d1 := bindOk h (by rw [if_pos hl]; rfl)
theorem Sx.app (h0 : ρ[n]? = some (.own l)) (h : Ev g ρ d a x d1) (hl : l.length ≤ LIM) (ho : noOwn (ρ.set n .none) = true) : Sx g ρ d (.app n q r0 a r1 p) (.next, ρ.set n (.own (l ++ [x]))) d1 :=
  bindOk (a := l) (by unfold ownA; rw [h0]; rfl) (bindOk h (by rw [if_pos ⟨hl, ho⟩]; rfl))
theorem Sx.frz (h0 : ρ[n]? = some (.own l)) (ho : noOwn (ρ.set n .none) = true) : Sx g ρ d (.frz n) (.next, ρ.set n (.list l)) d :=
  bindOk (a := l) (by unfold ownA; rw [h0]; rfl) (by rw [if_pos ho]; rfl)
theorem Sx.setO {j : Int} (h0 : ρ[n]? = some (.own l)) (h : Ev g ρ d a x d1) (hi : Ev g ρ d1 i (.int j) d2) (hj : 0 ≤ j ∧ j < l.length ∧ l.length ≤ LIM ∧ noOwn (ρ.set n .none) = true) : Sx g ρ d (.setI n q i r0 a p) (.next, ρ.set n (.list (l.set j.toNat x))) d2 := by
  show ds g (.setI n q i r0 a p) ρ d = _
  rw [ds_setI, h0]
  exact bindOk h (bindOk hi (by dsimp only; rw [if_pos hj]; rfl))
end

section
variable {cs : List Int} {d : Int} {t : List Nat}
noncomputable def qwB : S := whB (sq1 (sq2 (sq2 breadqw)))
noncomputable abbrev qwS (t : List Nat) (ws : List (List Nat)) (w : List Nat) (s : AV) : List AV := [.str t, .own (ws.map .str), .str w, s]
theorem qw_blank {c : Nat} {ws : List (List Nat)} {w : List Nat} (hw : ws.length ≤ 1000) (hc : ([32, 9, 10, 13, 12] : List Nat).contains c = true) :
    Sx (gT cs) (qwS t ws w (.str [c])) d qwB (.next, qwS t (if w = [] then ws else ws ++ [w]) [] (.str [c])) d := by
  refine Sx.iteT (Et.cmp (Ev.var rfl) Ev.str (inS hc)) ?_
  by_cases h : w = []
  · rw [if_pos h]
    exact Sx.seq (Sx.iteF (Et.cmp (Ev.var rfl) Ev.str (neF h)) Sx.nil) (Sx.asg Ev.str)
  · rw [if_neg h]
    have := Sx.app (g := gT cs) (ρ := qwS t ws w (.str [c])) (d := d) (n := 1) (l := ws.map .str) (a := .var 2 ⟨75, 29, 75, 33⟩) (x := .str w) (q := ⟨75, 16, 75, 21⟩) (r0 := ⟨75, 16, 75, 28⟩) (r1 := ⟨75, 16, 75, 34⟩) (p := ⟨75, 16, 75, 34⟩) rfl (Ev.var rfl) (by rw [List.length_map]; exact Nat.le_trans hw (show 1000 ≤ 1000000 by decide)) rfl
    refine Sx.seq (ρ1 := qwS t (ws ++ [w]) w (.str [c])) (Sx.iteT (Et.cmp (Ev.var rfl) Ev.str (neT h)) ?_) (Sx.asg Ev.str)
    show Sx _ _ _ _ (.next, [.str t, .own ((ws ++ [w]).map .str), .str w, .str [c]]) d
    rw [List.map_append]; exact this
theorem qw_word {c : Nat} {ws : List (List Nat)} {w : List Nat} (hw : w.length ≤ 1000) (hc : ([32, 9, 10, 13, 12] : List Nat).contains c = false) :
    Sx (gT cs) (qwS t ws w (.str [c])) d qwB (.next, qwS t ws (w ++ [c]) (.str [c])) d :=
  Sx.iteF (Et.cmp (Ev.var rfl) Ev.str (inS hc)) (Sx.aug rfl (Ev.var rfl) (addG (by have hL : LIM = 1000000 := rfl; simp only [List.length_cons, List.length_nil]; omega)))
set_option tactic.hygienic false
theorem wordsA_t {c : Nat} {l w : List Nat} (h : blankA c = true) : wordsA (c :: l) w = if w = [] then wordsA l [] else w :: wordsA l [] := by
  show (if blankA c = true then _ else _) = _; rw [if_pos h]
theorem wordsA_f {c : Nat} {l w : List Nat} (h : blankA c = false) : wordsA (c :: l) w = wordsA l (w ++ [c]) := by
  show (if blankA c = true then _ else _) = _; rw [h]; rfl
set_option tactic.hygienic true
theorem qw_walk : ∀ {m : List Nat} {ws : List (List Nat)} {w : List Nat} {s : AV}, (∀ c ∈ m, ([32, 9, 10, 13, 12] : List Nat).contains c = blankA c) → ws.length + w.length + m.length ≤ 1000 → noOwn [s] = true →
    ∃ ws' w' s', Lx (gT cs) 3 qwB (m.map fun c => .str [c]) (qwS t ws w s) d (.next, qwS t ws' w' s') d ∧ noOwn [s'] = true ∧ ws'.length ≤ 1000 ∧ ws' ++ (if w' = [] then [] else [w']) = ws ++ wordsA m w
  | [], ws, w, s, _, hn, ho => ⟨ws, w, s, Lx.nil, ho, by omega, rfl⟩
  | c :: m, ws, w, s, H, hn, ho => by
    have hc := H c (.head _)
    simp only [List.length_cons] at hn
    cases e : blankA c with
    | true =>
      rw [e] at hc
      have hl : (if w = [] then ws else ws ++ [w]).length + 0 + m.length ≤ 1000 := by split <;> simp <;> omega
      obtain ⟨ws', w', s', h1, h2, h4, h3⟩ := qw_walk (m := m) (ws := if w = [] then ws else ws ++ [w]) (w := []) (s := .str [c]) (fun x hx => H x (.tail _ hx)) hl rfl
      refine ⟨ws', w', s', Lx.go (qw_blank (by omega) hc) h1, h2, h4, ?_⟩
      rw [h3]
      rw [wordsA_t e]
      by_cases h : w = []
      · rw [if_pos h, if_pos h]
      · rw [if_neg h, if_neg h, List.append_assoc]; rfl
    | false =>
      rw [e] at hc
      obtain ⟨ws', w', s', h1, h2, h4, h3⟩ := qw_walk (m := m) (ws := ws) (w := w ++ [c]) (s := .str [c]) (fun x hx => H x (.tail _ hx)) (by simp only [List.length_append, List.length_cons, List.length_nil]; omega) rfl
      refine ⟨ws', w', s', Lx.go (qw_word (by omega) hc) h1, h2, h4, ?_⟩
      rw [h3]
      rw [wordsA_f e]
set_option tactic.hygienic false
theorem f_read_qw {l m : List Nat} (hl : l.length ≤ 1000) (hm : m.length ≤ 1000) (w : Ung 92 92 true l m) (H : ∀ c ∈ m, ([32, 9, 10, 13, 12] : List Nat).contains c = blankA c) : Fv cs "read_qw" [.str l] d (.list ((wordsA m []).map .str)) d := by
  obtain ⟨ws', w', s', h1, h2, h4, h3⟩ := qw_walk (cs := cs) (d := d) (t := l) (m := m) (ws := []) (w := []) (s := .unb) H (by simpa using hm) rfl
  have hi : itemsF (.str m) = some (m.map fun c => .str [c]) := if_pos (hs _ hm)
  have hw : ∀ {ws : List (List Nat)}, ws.length ≤ 1000 → (ws.map AV.str).length ≤ LIM := fun h => by rw [List.length_map]; exact Nat.le_trans h (show 1000 ≤ 1000000 by decide)
  have hno : ∀ {s : AV} {ws : List AV} {w : List Nat}, noOwn [s] = true → noOwn (List.set [.str l, .own ws, .str w, s] 1 .none) = true := fun h => h
  rw [List.nil_append] at h3
  rw [← h3]
  refine fv (ρ' := [.str l, .list ((ws' ++ if w' = [] then [] else [w']).map .str), .str w', s']) (q_readqw cs) rfl (Sx.seq (Sx.asgO El.nil (Nat.zero_le _)) (Sx.seq (Sx.asg Ev.str) (Sx.seq (Sx.for (Ev.call (El.cons (Ev.var rfl) (El.cons Ev.str (El.cons Ev.bool El.nil))) (f_unguarded hl w)) hi h1) ?_)))
  by_cases h : w' = []
  · rw [if_pos h, List.append_nil]
    exact Sx.seq (Sx.iteF (Et.cmp (Ev.var rfl) Ev.str (neF h)) Sx.nil) (Sx.seq (Sx.frz rfl (hno h2)) (Sx.ret (Ev.var rfl)))
  · rw [if_neg h, List.map_append]
    exact Sx.seq (Sx.iteT (Et.cmp (Ev.var rfl) Ev.str (neT h)) (Sx.app rfl (Ev.var rfl) (hw h4) (hno h2))) (Sx.seq (Sx.frz rfl (hno h2)) (Sx.ret (Ev.var rfl)))
end
end Mine
namespace Mine
open PySem

theorem runLen_app {signs r : List Nat} : ∀ {l : List Nat}, (∀ c ∈ l, signs.contains c = true) → (∀ c, r.head? = some c → signs.contains c = false) → runLen (l ++ r) signs = l.length
  | [], _, h => by
    cases r with
    | nil => rfl
    | cons c r => show (List.takeWhile _ (c :: r)).length = 0; rw [List.takeWhile_cons, h c rfl]; rfl
  | c :: l, h1, h2 => by
    have ih := runLen_app (r := r) (l := l) (fun x hx => h1 x (.tail _ hx)) h2
    unfold runLen at ih ⊢
    rw [List.cons_append, List.takeWhile_cons, h1 c (.head _)]
    show (c :: List.takeWhile _ (l ++ r)).length = _
    rw [List.length_cons, List.length_cons, ih]

section
variable {cs : List Int} {d : Int} {t : List Nat} {a : Nat}
theorem f_run {signs l r : List Nat} (ht : t.length ≤ 1000) (h : t.drop a = l ++ r) (h1 : ∀ c ∈ l, signs.contains c = true) (h2 : ∀ c, r.head? = some c → signs.contains c = false) :
    Fv cs "run_end" [.str t, .int (a : Int), .str signs] d (.int ((a + l.length : Nat) : Int)) d := by
  have := f_run_end (cs := cs) (d := d) (signs := signs) (a := a) (hs _ ht)
  rwa [h, runLen_app h1 h2] at this
theorem gtN {a b : Nat} (h : b < a) : cmpA .gt (.int (a : Int)) (.int (b : Int)) = some true := by show some (decide _) = _; rw [decide_eq_true (by exact (Int.ofNat_lt.mpr (by assumption)))]
theorem ngtN {a b : Nat} (h : a ≤ b) : cmpA .gt (.int (a : Int)) (.int (b : Int)) = some false := by show some (decide _) = _; rw [decide_eq_false (by omega)]
theorem geN {a b : Nat} (h : b ≤ a) : cmpA .ge (.int (a : Int)) (.int (b : Int)) = some true := by show some (decide _) = _; rw [decide_eq_true (by exact (Int.ofNat_le.mpr (by assumption)))]
theorem ngeN {a b : Nat} (h : a < b) : cmpA .ge (.int (a : Int)) (.int (b : Int)) = some false := by show some (decide _) = _; rw [decide_eq_false (by omega)]
theorem cutK {r : List Nat} {b k : Nat} (h : t.drop b = r) : (t.take (b + k)).drop b = r.take k := by rw [List.drop_take, h, Nat.add_sub_cancel_left]
theorem hL : LIM = 1000000 := rfl

set_option tactic.hygienic true
theorem f_opening {bl r : List Nat} {op : Nat} (ht : t.length ≤ 1000) (h : t.drop a = bl ++ op :: r) (h1 : ∀ c ∈ bl, blankSigns.contains c = true) (h2 : blankSigns.contains op = false) (h3 : wordSigns.contains op = false) (h4 : op ≠ 61) :
    Fv cs "opening_place" [.str t, .int (a : Int)] d (.int (if 0 < bl.length ∧ op = 35 then -1 else ((a + bl.length : Nat) : Int))) d := by
  have hb : t.drop (a + bl.length) = op :: r := dropN h
  have hlt := lenLt hb
  have e := f_run (cs := cs) (d := d) ht h h1 (fun c hc => by cases hc; exact h2)
  have hL := hL
  have c2 := cut2 (a := a + bl.length) (b := a + bl.length + 2) (hs _ ht) (by omega) (by omega)
  rw [cutK (k := 2) hb] at c2
  have s1 : Sx (gT cs) (initA [.str t, .int (a : Int)] 3) d (sq1 bopeningplace) (.next, [.str t, .int (a : Int), .int ((a + bl.length : Nat) : Int)]) d := Sx.asg (Ev.call (El.cons (Ev.var rfl) (El.cons (Ev.var rfl) (El.cons (Ev.glb (x := .str blankSigns) (by kernel_rfl)) El.nil))) e)
  have s2 : Sx (gT cs) [.str t, .int (a : Int), .int ((a + bl.length : Nat) : Int)] d (sq1 (sq2 bopeningplace)) (.next, [.str t, .int (a : Int), .int ((a + bl.length : Nat) : Int)]) d := Sx.iteF (Et.or (Ek.go (Et.cmp (Ev.var rfl) (Ev.bi (Ev.var rfl) (lenOf (hs _ ht))) (ngeN hlt))
    (Ek.go (Et.cmp (Ev.idx (Ev.var rfl) (Ev.var rfl) (strAt' hb (hs _ ht))) (Ev.glb (x := .str wordSigns) (by kernel_rfl)) (inS h3))
      (Ek.go (Et.cmp (Ev.slc2 (Ev.var rfl) (Ev.var rfl) (Ev.bin (Ev.var rfl) Ev.num rfl) rfl rfl c2) Ev.str (neS (by intro q; rw [List.take_succ_cons] at q; injection q with q _; exact h4 q))) Ek.nil)))) Sx.nil
  by_cases hq : 0 < bl.length ∧ op = 35
  · rw [if_pos hq]
    obtain ⟨q1, rfl⟩ := hq
    exact fv (q_openingplace cs) rfl (Sx.seq s1 (Sx.seq s2 (Sx.ret1 (Sx.iteT (Et.and (Ek.go (Et.cmp (Ev.var rfl) (Ev.var rfl) (gtN (by omega))) (Ek.go (Et.cmp (Ev.idx (Ev.var rfl) (Ev.var rfl) (strAt' hb (hs _ ht))) Ev.str (eqS rfl)) Ek.nil))) (Sx.ret Ev.neg)))))
  · rw [if_neg hq]
    refine fv (q_openingplace cs) rfl (Sx.seq s1 (Sx.seq s2 (Sx.seq (Sx.iteF (Et.and ?_) Sx.nil) (Sx.ret (Ev.var rfl)))))
    by_cases q1 : 0 < bl.length
    · exact Ek.go (Et.cmp (Ev.var rfl) (Ev.var rfl) (gtN (by omega))) (Ek.stop (Et.cmp (Ev.idx (Ev.var rfl) (Ev.var rfl) (strAt' hb (hs _ ht))) Ev.str (neS1 fun q => hq ⟨q1, q⟩)) (by decide))
    · exact Ek.stop (Et.cmp (Ev.var rfl) (Ev.var rfl) (ngtN (by omega))) (by decide)

set_option tactic.hygienic false
theorem f_behind {gap r : List Nat} (ht : t.length ≤ 1000) (h : t.drop a = gap ++ r) (ha : a ≤ t.length) (h1 : ∀ c ∈ gap, blankSigns.contains c = true) (h2 : ∀ c, r.head? = some c → blankSigns.contains c = false) (h3 : r.head? ≠ some 35) :
    Fv cs "behind_blanks" [.str t, .int (a : Int)] d (.int ((a + gap.length : Nat) : Int)) d := by
  have hb : t.drop (a + gap.length) = r := dropN h
  have e := f_run (cs := cs) (d := d) ht h h1 h2
  have hL := hL
  have hlen : a + gap.length ≤ t.length := by
    have := congrArg List.length h
    rw [List.length_drop, List.length_append] at this; omega
  have c2 := cut2 (a := a + gap.length) (b := a + gap.length + 1) (hs _ ht) (by omega) (by omega)
  rw [cutK (k := 1) hb] at c2
  refine fv (q_behindblanks cs) rfl (Sx.seq (Sx.asg (Ev.call (El.cons (Ev.var rfl) (El.cons (Ev.var rfl) (El.cons (Ev.glb (x := .str blankSigns) (by kernel_rfl)) El.nil))) e)) (Sx.seq (Sx.whl (Wx.stop (n := 1000001) (Et.and ?_))) (Sx.ret (Ev.var rfl))))
  by_cases q1 : 0 < gap.length
  · refine Ek.go (Et.cmp (Ev.var rfl) (Ev.var rfl) (gtN (by omega))) (Ek.stop (t := false) (Et.cmp (Ev.slc2 (Ev.var rfl) (Ev.var rfl) (Ev.bin (Ev.var rfl) Ev.num rfl) rfl rfl c2) Ev.str (neS fun q => h3 ?_)) (by decide))
    cases r with
    | nil => cases q
    | cons c r => rw [List.take_succ_cons] at q; injection q with q _; rw [q]; rfl
  · exact Ek.stop (Et.cmp (Ev.var rfl) (Ev.var rfl) (ngtN (by omega))) (by decide)

/-! flags -/
noncomputable def flB : S := whB (sq1 (sq2 bflagstoken))
noncomputable abbrev flS (t : List Nat) (a : Nat) (kind : List Nat) (b : Nat) (s : AV) : List AV := [.str t, .int (a : Int), .str kind, .int (b : Int), s]
set_option tactic.hygienic true
theorem fl_ok {kind tb : List Nat} {b c : Nat} (hk : idxA cs flagsV (.str kind) d = some (.ok (.str tb), d)) (hc : tb.contains c = true) : Sx (gT cs) (flS t a kind b (.str [c])) d flB (.next, flS t a kind b (.str [c])) d :=
  Sx.iteF (Et.cmp (Ev.var rfl) (Ev.idx (Ev.glb (x := flagsV) (by kernel_rfl)) (Ev.var rfl) hk) (ninS hc)) Sx.nil
theorem fl_all {kind tb : List Nat} {b : Nat} (hk : idxA cs flagsV (.str kind) d = some (.ok (.str tb), d)) : ∀ {fl : List Nat} {s : AV}, (fl.all fun c => tb.contains c) = true → ∃ s', Lx (gT cs) 4 flB (fl.map fun c => .str [c]) (flS t a kind b s) d (.next, flS t a kind b s') d
  | [], s, _ => ⟨s, Lx.nil⟩
  | c :: fl, s, h => by
    rw [List.all_cons, Bool.and_eq_true] at h
    obtain ⟨s', h2⟩ := fl_all hk (fl := fl) (s := .str [c]) h.2
    exact ⟨s', Lx.go (fl_ok hk h.1) h2⟩
set_option tactic.hygienic false
theorem fl_bad {kind tb : List Nat} {b : Nat} (ht : t.length ≤ 1000) (ha : a ≤ t.length) (hk : idxA cs flagsV (.str kind) d = some (.ok (.str tb), d)) : ∀ {fl : List Nat} {s : AV}, (fl.all fun c => tb.contains c) = false → Xl (gT cs) 4 flB (fl.map fun c => .str [c]) (flS t a kind b s) d (lineAt t a) d
  | [], _, h => by cases h
  | c :: fl, s, h => by
    cases hc : tb.contains c with
    | true =>
      rw [List.all_cons, hc, Bool.true_and] at h
      exact Xl.go (fl_ok hk hc) (fl_bad ht ha hk h)
    | false =>
      exact Xl.now (Xs.iteT (Et.cmp (Ev.var rfl) (Ev.idx (Ev.glb (x := flagsV) (by kernel_rfl)) (Ev.var rfl) hk) (ninS hc)) (Xs.raise (Ev.call (El.cons (Ev.var rfl) (El.cons (Ev.var rfl) El.nil)) (f_line_of (hs _ ht) (by have := hL; omega)))))
set_option tactic.hygienic true
theorem fl_pre {kind fl r : List Nat} (ht : t.length ≤ 1000) (h : t.drop a = fl ++ r) (ha : a ≤ t.length) (h1 : ∀ c ∈ fl, wordSigns.contains c = true) (h2 : ∀ c, r.head? = some c → wordSigns.contains c = false) :
    Sx (gT cs) (initA [.str t, .int (a : Int), .str kind] 5) d (sq1 bflagstoken) (.next, flS t a kind (a + fl.length) .unb) d ∧ (∀ {s p1 p2 p3 p4 p5}, Ev (gT cs) (flS t a kind (a + fl.length) s) d (.slc (.var 0 p1) (.var 1 p2) (.var 3 p3) p4 p5) (.str fl) d) ∧ fl.length ≤ 1000 := by
  have hL := hL
  have hlen : a + fl.length ≤ t.length := by
    have := congrArg List.length h
    rw [List.length_drop, List.length_append] at this; omega
  have c2 := cut2 (a := a) (b := a + fl.length) (hs _ ht) (by omega) (by omega)
  rw [cut_at h] at c2
  exact ⟨Sx.asg (Ev.call (El.cons (Ev.var rfl) (El.cons (Ev.var rfl) (El.cons (Ev.glb (x := .str wordSigns) (by kernel_rfl)) El.nil))) (f_run ht h h1 h2)), Ev.slc2 (Ev.var rfl) (Ev.var rfl) (Ev.var rfl) rfl rfl c2, by omega⟩
set_option tactic.hygienic false
theorem f_flags {kind tb fl r : List Nat} (hk : idxA cs flagsV (.str kind) d = some (.ok (.str tb), d)) (ht : t.length ≤ 1000) (h : t.drop a = fl ++ r) (ha : a ≤ t.length) (h1 : ∀ c ∈ fl, wordSigns.contains c = true) (h2 : ∀ c, r.head? = some c → wordSigns.contains c = false)
    (h3 : (fl.all fun c => tb.contains c) = true) : Fv cs "flags_token" [.str t, .int (a : Int), .str kind] d (.tup [.str fl, .int ((a + fl.length : Nat) : Int)]) d := by
  obtain ⟨p1, p2, p3⟩ := fl_pre (cs := cs) (d := d) (kind := kind) ht h ha h1 h2
  obtain ⟨s', q⟩ := fl_all (t := t) (a := a) (b := a + fl.length) hk (s := .unb) h3
  exact fv (q_flagstoken cs) rfl (Sx.seq p1 (Sx.seq (Sx.for p2 (if_pos (hs _ p3)) q) (Sx.ret (Ev.tup (El.cons p2 (El.cons (Ev.var rfl) El.nil)) (Nat.le_of_ble_eq_true rfl)))))
theorem x_flags {kind tb fl r : List Nat} (hk : idxA cs flagsV (.str kind) d = some (.ok (.str tb), d)) (ht : t.length ≤ 1000) (h : t.drop a = fl ++ r) (ha : a ≤ t.length) (h1 : ∀ c ∈ fl, wordSigns.contains c = true) (h2 : ∀ c, r.head? = some c → wordSigns.contains c = false)
    (h3 : (fl.all fun c => tb.contains c) = false) : Fe cs "flags_token" [.str t, .int (a : Int), .str kind] d (lineAt t a) d := by
  obtain ⟨p1, p2, p3⟩ := fl_pre (cs := cs) (d := d) (kind := kind) ht h ha h1 h2
  exact fe (q_flagstoken cs) rfl (Xs.seq2 p1 (Xs.seq1 (Xs.for p2 (if_pos (hs _ p3)) (fl_bad ht ha hk h3))))
end
end Mine
namespace Mine
open PySem

theorem Sx.tryl {g : Sg} {ρ : List AV} {d d1 : Int} {e : E} {x : AV} {ps : List Pos} (h : Ev g ρ d e x d1) : Sx g ρ d (.tryl e ps) (.ret x, ρ) d1 := by
  show ds g (.tryl e ps) ρ d = _
  rw [ds_tryl]; dsimp only
  rw [h]
theorem Sx.tryE {g : Sg} {ρ : List AV} {d d1 l : Int} {e : E} {ps : List Pos} (h : Xe g ρ d e l d1) : Sx g ρ d (.tryl e ps) (.ret (.int l), ρ) d1 := by
  show ds g (.tryl e ps) ρ d = _
  rw [ds_tryl]; dsimp only
  rw [h]

section
variable {cs : List Int} {d : Int} {t : List Nat} {o b : Nat}
theorem subN {k : Nat} : binA .sub (.int ((k + 1 : Nat) : Int)) (.int 1) = some (.int (k : Int)) := by
  show some (AV.int (((k + 1 : Nat) : Int) - 1)) = _
  rw [show ((k + 1 : Nat) : Int) - 1 = (k : Int) by omega]

/-! the second part -/
theorem f_secA {op : Nat} {r inner : List Nat} {e : Int} (ht : t.length ≤ 1000) (h : t.drop o = op :: r) (hop : openingSigns.contains op = false) (hd : Fv cs "delimited" [.str t, .int (b : Int)] d (.tup [.str inner, .int e]) d) :
    Fv cs "second_part" [.str t, .int (o : Int), .int ((b + 1 : Nat) : Int)] d (.tup [.str inner, .int e, .str [op]]) d :=
  fv (q_secondpart cs) rfl (Sx.ret1 (Sx.iteT (Et.cmp (Ev.idx (Ev.var rfl) (Ev.var rfl) (strAt' h (hs _ ht))) (Ev.glb (x := .str openingSigns) (by kernel_rfl)) (ninS hop))
    (Sx.seq (Sx.asgT (Ev.call (El.cons (Ev.var rfl) (El.cons (Ev.bin (Ev.var rfl) Ev.num subN) El.nil)) hd) rfl (Nat.le_of_ble_eq_true rfl))
      (Sx.ret (Ev.tup (El.cons (Ev.var rfl) (El.cons (Ev.var rfl) (El.cons (Ev.idx (Ev.var rfl) (Ev.var rfl) (strAt' h (hs _ ht))) El.nil))) (Nat.le_of_ble_eq_true rfl))))))
theorem x_secA {op : Nat} {r : List Nat} {l : Int} (ht : t.length ≤ 1000) (h : t.drop o = op :: r) (hop : openingSigns.contains op = false) (hd : Fe cs "delimited" [.str t, .int (b : Int)] d l d) :
    Fe cs "second_part" [.str t, .int (o : Int), .int ((b + 1 : Nat) : Int)] d l d :=
  fe (q_secondpart cs) rfl (Xs.seq1 (Xs.iteT (Et.cmp (Ev.idx (Ev.var rfl) (Ev.var rfl) (strAt' h (hs _ ht))) (Ev.glb (x := .str openingSigns) (by kernel_rfl)) (ninS hop))
    (Xs.seq1 (Xs.asgT (Xe.call (El.cons (Ev.var rfl) (El.cons (Ev.bin (Ev.var rfl) Ev.num subN) El.nil)) hd)))))
set_option tactic.hygienic true
theorem secB1 {op : Nat} {r : List Nat} (ht : t.length ≤ 1000) (h : t.drop o = op :: r) (hop : openingSigns.contains op = true) : Sx (gT cs) (initA [.str t, .int (o : Int), .int (b : Int)] 6) d (sq1 bsecondpart) (.next, initA [.str t, .int (o : Int), .int (b : Int)] 6) d :=
  Sx.iteF (Et.cmp (Ev.idx (Ev.var rfl) (Ev.var rfl) (strAt' h (hs _ ht))) (Ev.glb (x := .str openingSigns) (by kernel_rfl)) (ninS hop)) Sx.nil
theorem secB2 {c : Nat} (hb : Fv cs "behind_blanks" [.str t, .int (b : Int)] d (.int (c : Int)) d) :
    Sx (gT cs) (initA [.str t, .int (o : Int), .int (b : Int)] 6) d (sq1 (sq2 bsecondpart)) (.next, [.str t, .int (o : Int), .int (b : Int), .unb, .unb, .int (c : Int)]) d :=
  Sx.asg (Ev.call (El.cons (Ev.var rfl) (El.cons (Ev.var rfl) El.nil)) hb)
set_option tactic.hygienic false
theorem f_secB {op c s2 : Nat} {r r2 inner : List Nat} {e : Int} (ht : t.length ≤ 1000) (h : t.drop o = op :: r) (hop : openingSigns.contains op = true) (hb : Fv cs "behind_blanks" [.str t, .int (b : Int)] d (.int (c : Int)) d)
    (h2 : t.drop c = s2 :: r2) (hd : Fv cs "delimited" [.str t, .int (c : Int)] d (.tup [.str inner, .int e]) d) :
    Fv cs "second_part" [.str t, .int (o : Int), .int (b : Int)] d (.tup [.str inner, .int e, .str [s2]]) d :=
  fv (q_secondpart cs) rfl (Sx.seq (secB1 ht h hop) (Sx.seq (secB2 hb) (Sx.seq (Sx.iteF (Et.cmp (Ev.var rfl) (Ev.bi (Ev.var rfl) (lenOf (hs _ ht))) (ngeN (lenLt h2))) Sx.nil)
    (Sx.seq (Sx.asgT (Ev.call (El.cons (Ev.var rfl) (El.cons (Ev.var rfl) El.nil)) hd) rfl (Nat.le_of_ble_eq_true rfl))
      (Sx.ret (Ev.tup (El.cons (Ev.var rfl) (El.cons (Ev.var rfl) (El.cons (Ev.idx (Ev.var rfl) (Ev.var rfl) (strAt' h2 (hs _ ht))) El.nil))) (Nat.le_of_ble_eq_true rfl)))))))
theorem x_secB {op c s2 : Nat} {r r2 : List Nat} {l : Int} (ht : t.length ≤ 1000) (h : t.drop o = op :: r) (hop : openingSigns.contains op = true) (hb : Fv cs "behind_blanks" [.str t, .int (b : Int)] d (.int (c : Int)) d)
    (h2 : t.drop c = s2 :: r2) (hd : Fe cs "delimited" [.str t, .int (c : Int)] d l d) :
    Fe cs "second_part" [.str t, .int (o : Int), .int (b : Int)] d l d :=
  fe (q_secondpart cs) rfl (Xs.seq2 (secB1 ht h hop) (Xs.seq2 (secB2 hb) (Xs.seq2 (Sx.iteF (Et.cmp (Ev.var rfl) (Ev.bi (Ev.var rfl) (lenOf (hs _ ht))) (ngeN (lenLt h2))) Sx.nil)
    (Xs.seq1 (Xs.asgT (Xe.call (El.cons (Ev.var rfl) (El.cons (Ev.var rfl) El.nil)) hd))))))
theorem x_secN {op c : Nat} {r : List Nat} (ht : t.length ≤ 1000) (h : t.drop o = op :: r) (hop : openingSigns.contains op = true) (hb : Fv cs "behind_blanks" [.str t, .int (b : Int)] d (.int (c : Int)) d)
    (h2 : t.length ≤ c) : Fe cs "second_part" [.str t, .int (o : Int), .int (b : Int)] d (lineAt t o) d :=
  fe (q_secondpart cs) rfl (Xs.seq2 (secB1 ht h hop) (Xs.seq2 (secB2 hb) (Xs.seq1 (Xs.iteT (Et.cmp (Ev.var rfl) (Ev.bi (Ev.var rfl) (lenOf (hs _ ht))) (geN h2)) (Xs.raise (Ev.call (El.cons (Ev.var rfl) (El.cons (Ev.var rfl) El.nil)) (f_line_of (hs _ ht) (by have := hL; have := lenLt h; omega))))))))

/-! the tokens -/
noncomputable abbrev wMatch : List Nat := [109, 97, 116, 99, 104]
noncomputable abbrev wSubst : List Nat := [115, 117, 98, 115, 116]
noncomputable abbrev wTrans : List Nat := [116, 114, 97, 110, 115]
theorem f_match {op : Nat} {r inner fl : List Nat} {b e : Int} (ht : t.length ≤ 1000) (h : t.drop o = op :: r) (hd : Fv cs "delimited" [.str t, .int (o : Int)] d (.tup [.str inner, .int b]) d)
    (hf : Fv cs "flags_token" [.str t, .int b, .str wMatch] d (.tup [.str fl, .int e]) d) : Fv cs "match_token" [.str t, .int (o : Int)] d (.tup [.str wMatch, .tup [.str inner, .str fl, .str [op]], .int e]) d :=
  fv (q_matchtoken cs) rfl (Sx.seq (Sx.asgT (Ev.call (El.cons (Ev.var rfl) (El.cons (Ev.var rfl) El.nil)) hd) rfl (Nat.le_of_ble_eq_true rfl))
    (Sx.seq (Sx.asgT (Ev.call (El.cons (Ev.var rfl) (El.cons (Ev.var rfl) (El.cons Ev.str El.nil))) hf) rfl (Nat.le_of_ble_eq_true rfl))
      (Sx.ret (Ev.tup (El.cons Ev.str (El.cons (Ev.tup (El.cons (Ev.var rfl) (El.cons (Ev.var rfl) (El.cons (Ev.idx (Ev.var rfl) (Ev.var rfl) (strAt' h (hs _ ht))) El.nil))) (Nat.le_of_ble_eq_true rfl)) (El.cons (Ev.var rfl) El.nil))) (Nat.le_of_ble_eq_true rfl)))))
theorem x_match1 {l : Int} (hd : Fe cs "delimited" [.str t, .int (o : Int)] d l d) : Fe cs "match_token" [.str t, .int (o : Int)] d l d :=
  fe (q_matchtoken cs) rfl (Xs.seq1 (Xs.asgT (Xe.call (El.cons (Ev.var rfl) (El.cons (Ev.var rfl) El.nil)) hd)))
theorem x_match2 {inner : List Nat} {b l : Int} (hd : Fv cs "delimited" [.str t, .int (o : Int)] d (.tup [.str inner, .int b]) d) (hf : Fe cs "flags_token" [.str t, .int b, .str wMatch] d l d) : Fe cs "match_token" [.str t, .int (o : Int)] d l d :=
  fe (q_matchtoken cs) rfl (Xs.seq2 (Sx.asgT (Ev.call (El.cons (Ev.var rfl) (El.cons (Ev.var rfl) El.nil)) hd) rfl (Nat.le_of_ble_eq_true rfl)) (Xs.seq1 (Xs.asgT (Xe.call (El.cons (Ev.var rfl) (El.cons (Ev.var rfl) (El.cons Ev.str El.nil))) hf))))

theorem f_subst {op s2 : Nat} {r inner other fl : List Nat} {b b2 e : Int} (ht : t.length ≤ 1000) (h : t.drop o = op :: r) (hd : Fv cs "delimited" [.str t, .int (o : Int)] d (.tup [.str inner, .int b]) d)
    (h2 : Fv cs "second_part" [.str t, .int (o : Int), .int b] d (.tup [.str other, .int b2, .str [s2]]) d) (hf : Fv cs "flags_token" [.str t, .int b2, .str wSubst] d (.tup [.str fl, .int e]) d) :
    Fv cs "subst_token" [.str t, .int (o : Int)] d (.tup [.str wSubst, .tup [.str inner, .str other, .str fl, .str (if s2 = op then [op] else [op, s2])], .int e]) d := by
  have ei : Ev (gT cs) [.str t, .int (o : Int), .str inner, .int b2, .str other, .str [s2], .str fl, .int e, .str [op]] d (.ite (.cmp .eq (.var 5 ⟨122, 52, 122, 56⟩) (.var 8 ⟨122, 60, 122, 65⟩) ⟨122, 52, 122, 65⟩) (.var 8 ⟨122, 43, 122, 48⟩) (.bin .add (.var 8 ⟨122, 71, 122, 76⟩) (.var 5 ⟨122, 79, 122, 83⟩) ⟨122, 71, 122, 83⟩) ⟨122, 43, 122, 83⟩) (.str (if s2 = op then [op] else [op, s2])) d := by
    by_cases q : s2 = op
    · rw [if_pos q]; exact Ev.iteT (Et.cmp (Ev.var rfl) (Ev.var rfl) (eqS (by rw [q]))) (Ev.var rfl)
    · rw [if_neg q]; exact Ev.iteF (Et.cmp (Ev.var rfl) (Ev.var rfl) (neS1 q)) (Ev.bin (Ev.var rfl) (Ev.var rfl) (addS (Nat.le_of_ble_eq_true rfl)))
  exact fv (q_substtoken cs) rfl (Sx.seq (Sx.asgT (Ev.call (El.cons (Ev.var rfl) (El.cons (Ev.var rfl) El.nil)) hd) rfl (Nat.le_of_ble_eq_true rfl))
    (Sx.seq (Sx.asgT (Ev.call (El.cons (Ev.var rfl) (El.cons (Ev.var rfl) (El.cons (Ev.var rfl) El.nil))) h2) rfl (Nat.le_of_ble_eq_true rfl))
    (Sx.seq (Sx.asgT (Ev.call (El.cons (Ev.var rfl) (El.cons (Ev.var rfl) (El.cons Ev.str El.nil))) hf) rfl (Nat.le_of_ble_eq_true rfl))
    (Sx.seq (Sx.asg (Ev.idx (Ev.var rfl) (Ev.var rfl) (strAt' h (hs _ ht))))
      (Sx.ret (Ev.tup (El.cons Ev.str (El.cons (Ev.tup (El.cons (Ev.var rfl) (El.cons (Ev.var rfl) (El.cons (Ev.var rfl) (El.cons ei El.nil)))) (Nat.le_of_ble_eq_true rfl)) (El.cons (Ev.var rfl) El.nil))) (Nat.le_of_ble_eq_true rfl)))))))
theorem x_subst1 {l : Int} (hd : Fe cs "delimited" [.str t, .int (o : Int)] d l d) : Fe cs "subst_token" [.str t, .int (o : Int)] d l d :=
  fe (q_substtoken cs) rfl (Xs.seq1 (Xs.asgT (Xe.call (El.cons (Ev.var rfl) (El.cons (Ev.var rfl) El.nil)) hd)))
theorem x_subst2 {inner : List Nat} {b l : Int} (hd : Fv cs "delimited" [.str t, .int (o : Int)] d (.tup [.str inner, .int b]) d) (h2 : Fe cs "second_part" [.str t, .int (o : Int), .int b] d l d) : Fe cs "subst_token" [.str t, .int (o : Int)] d l d :=
  fe (q_substtoken cs) rfl (Xs.seq2 (Sx.asgT (Ev.call (El.cons (Ev.var rfl) (El.cons (Ev.var rfl) El.nil)) hd) rfl (Nat.le_of_ble_eq_true rfl)) (Xs.seq1 (Xs.asgT (Xe.call (El.cons (Ev.var rfl) (El.cons (Ev.var rfl) (El.cons (Ev.var rfl) El.nil))) h2))))
theorem x_subst3 {inner other : List Nat} {s2 : Nat} {b b2 l : Int} (hd : Fv cs "delimited" [.str t, .int (o : Int)] d (.tup [.str inner, .int b]) d) (h2 : Fv cs "second_part" [.str t, .int (o : Int), .int b] d (.tup [.str other, .int b2, .str [s2]]) d)
    (hf : Fe cs "flags_token" [.str t, .int b2, .str wSubst] d l d) : Fe cs "subst_token" [.str t, .int (o : Int)] d l d :=
  fe (q_substtoken cs) rfl (Xs.seq2 (Sx.asgT (Ev.call (El.cons (Ev.var rfl) (El.cons (Ev.var rfl) El.nil)) hd) rfl (Nat.le_of_ble_eq_true rfl)) (Xs.seq2 (Sx.asgT (Ev.call (El.cons (Ev.var rfl) (El.cons (Ev.var rfl) (El.cons (Ev.var rfl) El.nil))) h2) rfl (Nat.le_of_ble_eq_true rfl))
    (Xs.seq1 (Xs.asgT (Xe.call (El.cons (Ev.var rfl) (El.cons (Ev.var rfl) (El.cons Ev.str El.nil))) hf)))))

theorem f_trans {s2 : Nat} {inner other fl : List Nat} {b b2 e : Int} (hd : Fv cs "delimited" [.str t, .int (o : Int)] d (.tup [.str inner, .int b]) d)
    (h2 : Fv cs "second_part" [.str t, .int (o : Int), .int b] d (.tup [.str other, .int b2, .str [s2]]) d) (hf : Fv cs "flags_token" [.str t, .int b2, .str wTrans] d (.tup [.str fl, .int e]) d) :
    Fv cs "trans_token" [.str t, .int (o : Int)] d (.tup [.str wTrans, .tup [.str inner, .str other, .str fl], .int e]) d :=
  fv (q_transtoken cs) rfl (Sx.seq (Sx.asgT (Ev.call (El.cons (Ev.var rfl) (El.cons (Ev.var rfl) El.nil)) hd) rfl (Nat.le_of_ble_eq_true rfl))
    (Sx.seq (Sx.asgT (Ev.call (El.cons (Ev.var rfl) (El.cons (Ev.var rfl) (El.cons (Ev.var rfl) El.nil))) h2) rfl (Nat.le_of_ble_eq_true rfl))
    (Sx.seq (Sx.asgT (Ev.call (El.cons (Ev.var rfl) (El.cons (Ev.var rfl) (El.cons Ev.str El.nil))) hf) rfl (Nat.le_of_ble_eq_true rfl))
      (Sx.ret (Ev.tup (El.cons Ev.str (El.cons (Ev.tup (El.cons (Ev.var rfl) (El.cons (Ev.var rfl) (El.cons (Ev.var rfl) El.nil))) (Nat.le_of_ble_eq_true rfl)) (El.cons (Ev.var rfl) El.nil))) (Nat.le_of_ble_eq_true rfl))))))
theorem x_trans1 {l : Int} (hd : Fe cs "delimited" [.str t, .int (o : Int)] d l d) : Fe cs "trans_token" [.str t, .int (o : Int)] d l d :=
  fe (q_transtoken cs) rfl (Xs.seq1 (Xs.asgT (Xe.call (El.cons (Ev.var rfl) (El.cons (Ev.var rfl) El.nil)) hd)))
theorem x_trans2 {inner : List Nat} {b l : Int} (hd : Fv cs "delimited" [.str t, .int (o : Int)] d (.tup [.str inner, .int b]) d) (h2 : Fe cs "second_part" [.str t, .int (o : Int), .int b] d l d) : Fe cs "trans_token" [.str t, .int (o : Int)] d l d :=
  fe (q_transtoken cs) rfl (Xs.seq2 (Sx.asgT (Ev.call (El.cons (Ev.var rfl) (El.cons (Ev.var rfl) El.nil)) hd) rfl (Nat.le_of_ble_eq_true rfl)) (Xs.seq1 (Xs.asgT (Xe.call (El.cons (Ev.var rfl) (El.cons (Ev.var rfl) (El.cons (Ev.var rfl) El.nil))) h2))))
theorem x_trans3 {inner other : List Nat} {s2 : Nat} {b b2 l : Int} (hd : Fv cs "delimited" [.str t, .int (o : Int)] d (.tup [.str inner, .int b]) d) (h2 : Fv cs "second_part" [.str t, .int (o : Int), .int b] d (.tup [.str other, .int b2, .str [s2]]) d)
    (hf : Fe cs "flags_token" [.str t, .int b2, .str wTrans] d l d) : Fe cs "trans_token" [.str t, .int (o : Int)] d l d :=
  fe (q_transtoken cs) rfl (Xs.seq2 (Sx.asgT (Ev.call (El.cons (Ev.var rfl) (El.cons (Ev.var rfl) El.nil)) hd) rfl (Nat.le_of_ble_eq_true rfl)) (Xs.seq2 (Sx.asgT (Ev.call (El.cons (Ev.var rfl) (El.cons (Ev.var rfl) (El.cons (Ev.var rfl) El.nil))) h2) rfl (Nat.le_of_ble_eq_true rfl))
    (Xs.seq1 (Xs.asgT (Xe.call (El.cons (Ev.var rfl) (El.cons (Ev.var rfl) (El.cons Ev.str El.nil))) hf)))))
end
end Mine
namespace Mine
open PySem

section
variable {cs : List Int} {d : Int} {t : List Nat} {o : Nat}
theorem f_lread {w : List Nat} {v : AV} (h : Fv cs "quote_token" [.str t, .str w, .int (o : Int)] d v d) : Fv cs "_law_read" [.str t, .str w, .int (o : Int)] d v d :=
  fv (q_Lread cs) rfl (Sx.tryl (Ev.call (El.cons (Ev.var rfl) (El.cons (Ev.var rfl) (El.cons (Ev.var rfl) El.nil))) h))
theorem x_lread {w : List Nat} {l : Int} (h : Fe cs "quote_token" [.str t, .str w, .int (o : Int)] d l d) : Fv cs "_law_read" [.str t, .str w, .int (o : Int)] d (.int l) d :=
  fv (q_Lread cs) rfl (Sx.tryE (Xe.call (El.cons (Ev.var rfl) (El.cons (Ev.var rfl) (El.cons (Ev.var rfl) El.nil))) h))

theorem rd_m {v : AV} (h : Fv cs "match_token" [.str t, .int (o : Int)] d v d) : Fv cs "_law_read" [.str t, .str [109], .int (o : Int)] d v d :=
  f_lread (fv (q_quotetoken cs) rfl (Sx.ret1 (Sx.iteT (Et.cmp (Ev.var rfl) Ev.str rfl) (Sx.ret (Ev.call (El.cons (Ev.var rfl) (El.cons (Ev.var rfl) El.nil)) h)))))
theorem rx_m {l : Int} (h : Fe cs "match_token" [.str t, .int (o : Int)] d l d) : Fv cs "_law_read" [.str t, .str [109], .int (o : Int)] d (.int l) d :=
  x_lread (fe (q_quotetoken cs) rfl (Xs.seq1 (Xs.iteT (Et.cmp (Ev.var rfl) Ev.str rfl) (Xs.ret (Xe.call (El.cons (Ev.var rfl) (El.cons (Ev.var rfl) El.nil)) h)))))
theorem rd_s {v : AV} (h : Fv cs "subst_token" [.str t, .int (o : Int)] d v d) : Fv cs "_law_read" [.str t, .str [115], .int (o : Int)] d v d :=
  f_lread (fv (q_quotetoken cs) rfl (Sx.seq (Sx.iteF (Et.cmp (Ev.var rfl) Ev.str rfl) Sx.nil) (Sx.seq (Sx.iteF (Et.cmp (Ev.var rfl) Ev.str rfl) Sx.nil) (Sx.ret1 (Sx.iteT (Et.cmp (Ev.var rfl) Ev.str rfl) (Sx.ret (Ev.call (El.cons (Ev.var rfl) (El.cons (Ev.var rfl) El.nil)) h)))))))
theorem rx_s {l : Int} (h : Fe cs "subst_token" [.str t, .int (o : Int)] d l d) : Fv cs "_law_read" [.str t, .str [115], .int (o : Int)] d (.int l) d :=
  x_lread (fe (q_quotetoken cs) rfl (Xs.seq2 (Sx.iteF (Et.cmp (Ev.var rfl) Ev.str rfl) Sx.nil) (Xs.seq2 (Sx.iteF (Et.cmp (Ev.var rfl) Ev.str rfl) Sx.nil) (Xs.seq1 (Xs.iteT (Et.cmp (Ev.var rfl) Ev.str rfl) (Xs.ret (Xe.call (El.cons (Ev.var rfl) (El.cons (Ev.var rfl) El.nil)) h)))))))
theorem rd_tr {v : AV} (h : Fv cs "trans_token" [.str t, .int (o : Int)] d v d) : Fv cs "_law_read" [.str t, .str [116, 114], .int (o : Int)] d v d :=
  f_lread (fv (q_quotetoken cs) rfl (Sx.seq (Sx.iteF (Et.cmp (Ev.var rfl) Ev.str rfl) Sx.nil) (Sx.seq (Sx.iteF (Et.cmp (Ev.var rfl) Ev.str rfl) Sx.nil) (Sx.seq (Sx.iteF (Et.cmp (Ev.var rfl) Ev.str rfl) Sx.nil) (Sx.ret1 (Sx.iteT (Et.or (Ek.stop (Et.cmp (Ev.var rfl) Ev.str rfl) (by decide))) (Sx.ret (Ev.call (El.cons (Ev.var rfl) (El.cons (Ev.var rfl) El.nil)) h))))))))
theorem rx_tr {l : Int} (h : Fe cs "trans_token" [.str t, .int (o : Int)] d l d) : Fv cs "_law_read" [.str t, .str [116, 114], .int (o : Int)] d (.int l) d :=
  x_lread (fe (q_quotetoken cs) rfl (Xs.seq2 (Sx.iteF (Et.cmp (Ev.var rfl) Ev.str rfl) Sx.nil) (Xs.seq2 (Sx.iteF (Et.cmp (Ev.var rfl) Ev.str rfl) Sx.nil) (Xs.seq2 (Sx.iteF (Et.cmp (Ev.var rfl) Ev.str rfl) Sx.nil) (Xs.seq1 (Xs.iteT (Et.or (Ek.stop (Et.cmp (Ev.var rfl) Ev.str rfl) (by decide))) (Xs.ret (Xe.call (El.cons (Ev.var rfl) (El.cons (Ev.var rfl) El.nil)) h))))))))
theorem rd_y {v : AV} (h : Fv cs "trans_token" [.str t, .int (o : Int)] d v d) : Fv cs "_law_read" [.str t, .str [121], .int (o : Int)] d v d :=
  f_lread (fv (q_quotetoken cs) rfl (Sx.seq (Sx.iteF (Et.cmp (Ev.var rfl) Ev.str rfl) Sx.nil) (Sx.seq (Sx.iteF (Et.cmp (Ev.var rfl) Ev.str rfl) Sx.nil) (Sx.seq (Sx.iteF (Et.cmp (Ev.var rfl) Ev.str rfl) Sx.nil) (Sx.ret1 (Sx.iteT (Et.or (Ek.go (Et.cmp (Ev.var rfl) Ev.str rfl) (Ek.stop (Et.cmp (Ev.var rfl) Ev.str rfl) (by decide)))) (Sx.ret (Ev.call (El.cons (Ev.var rfl) (El.cons (Ev.var rfl) El.nil)) h))))))))
theorem rx_y {l : Int} (h : Fe cs "trans_token" [.str t, .int (o : Int)] d l d) : Fv cs "_law_read" [.str t, .str [121], .int (o : Int)] d (.int l) d :=
  x_lread (fe (q_quotetoken cs) rfl (Xs.seq2 (Sx.iteF (Et.cmp (Ev.var rfl) Ev.str rfl) Sx.nil) (Xs.seq2 (Sx.iteF (Et.cmp (Ev.var rfl) Ev.str rfl) Sx.nil) (Xs.seq2 (Sx.iteF (Et.cmp (Ev.var rfl) Ev.str rfl) Sx.nil) (Xs.seq1 (Xs.iteT (Et.or (Ek.go (Et.cmp (Ev.var rfl) Ev.str rfl) (Ek.stop (Et.cmp (Ev.var rfl) Ev.str rfl) (by decide)))) (Xs.ret (Xe.call (El.cons (Ev.var rfl) (El.cons (Ev.var rfl) El.nil)) h))))))))
theorem rx_q {l : Int} (h : Fe cs "delimited" [.str t, .int (o : Int)] d l d) : Fv cs "_law_read" [.str t, .str [113], .int (o : Int)] d (.int l) d :=
  x_lread (fe (q_quotetoken cs) rfl (Xs.seq2 (Sx.iteF (Et.cmp (Ev.var rfl) Ev.str rfl) Sx.nil) (Xs.seq2 (Sx.iteF (Et.cmp (Ev.var rfl) Ev.str rfl) Sx.nil) (Xs.seq2 (Sx.iteF (Et.cmp (Ev.var rfl) Ev.str rfl) Sx.nil) (Xs.seq2 (Sx.iteF (Et.or (Ek.go (Et.cmp (Ev.var rfl) Ev.str rfl) (Ek.go (Et.cmp (Ev.var rfl) Ev.str rfl) Ek.nil))) Sx.nil) (Xs.seq1 (Xs.asgT (Xe.call (El.cons (Ev.var rfl) (El.cons (Ev.var rfl) El.nil)) h))))))))
theorem rx_qq {l : Int} (h : Fe cs "delimited" [.str t, .int (o : Int)] d l d) : Fv cs "_law_read" [.str t, .str [113, 113], .int (o : Int)] d (.int l) d :=
  x_lread (fe (q_quotetoken cs) rfl (Xs.seq2 (Sx.iteF (Et.cmp (Ev.var rfl) Ev.str rfl) Sx.nil) (Xs.seq2 (Sx.iteF (Et.cmp (Ev.var rfl) Ev.str rfl) Sx.nil) (Xs.seq2 (Sx.iteF (Et.cmp (Ev.var rfl) Ev.str rfl) Sx.nil) (Xs.seq2 (Sx.iteF (Et.or (Ek.go (Et.cmp (Ev.var rfl) Ev.str rfl) (Ek.go (Et.cmp (Ev.var rfl) Ev.str rfl) Ek.nil))) Sx.nil) (Xs.seq1 (Xs.asgT (Xe.call (El.cons (Ev.var rfl) (El.cons (Ev.var rfl) El.nil)) h))))))))
theorem rx_qw {l : Int} (h : Fe cs "delimited" [.str t, .int (o : Int)] d l d) : Fv cs "_law_read" [.str t, .str [113, 119], .int (o : Int)] d (.int l) d :=
  x_lread (fe (q_quotetoken cs) rfl (Xs.seq2 (Sx.iteF (Et.cmp (Ev.var rfl) Ev.str rfl) Sx.nil) (Xs.seq2 (Sx.iteF (Et.cmp (Ev.var rfl) Ev.str rfl) Sx.nil) (Xs.seq2 (Sx.iteF (Et.cmp (Ev.var rfl) Ev.str rfl) Sx.nil) (Xs.seq2 (Sx.iteF (Et.or (Ek.go (Et.cmp (Ev.var rfl) Ev.str rfl) (Ek.go (Et.cmp (Ev.var rfl) Ev.str rfl) Ek.nil))) Sx.nil) (Xs.seq1 (Xs.asgT (Xe.call (El.cons (Ev.var rfl) (El.cons (Ev.var rfl) El.nil)) h))))))))
theorem rd_qq {op : Nat} {r inner m : List Nat} {b : Int} (ht : t.length ≤ 1000) (h : t.drop o = op :: r) (hd : Fv cs "delimited" [.str t, .int (o : Int)] d (.tup [.str inner, .int b]) d) (hu : Fv cs "unguarded" [.str inner, .str [op], .bool false] d (.str m) d) : Fv cs "_law_read" [.str t, .str [113, 113], .int (o : Int)] d (.tup [.str [105, 110, 116, 101, 114, 112], .str m, .int b]) d :=
  f_lread (fv (q_quotetoken cs) rfl (Sx.seq (Sx.iteF (Et.cmp (Ev.var rfl) Ev.str rfl) Sx.nil) (Sx.seq (Sx.iteF (Et.cmp (Ev.var rfl) Ev.str rfl) Sx.nil) (Sx.seq (Sx.iteF (Et.cmp (Ev.var rfl) Ev.str rfl) Sx.nil) (Sx.seq (Sx.iteF (Et.or (Ek.go (Et.cmp (Ev.var rfl) Ev.str rfl) (Ek.go (Et.cmp (Ev.var rfl) Ev.str rfl) Ek.nil))) Sx.nil) (Sx.seq (Sx.asgT (Ev.call (El.cons (Ev.var rfl) (El.cons (Ev.var rfl) El.nil)) hd) rfl (Nat.le_of_ble_eq_true rfl)) (Sx.ret1 (Sx.iteT (Et.cmp (Ev.var rfl) Ev.str rfl) (Sx.ret (Ev.tup (El.cons Ev.str (El.cons (Ev.call (El.cons (Ev.var rfl) (El.cons (Ev.idx (Ev.var rfl) (Ev.var rfl) (strAt' h (hs _ ht))) (El.cons Ev.bool El.nil))) hu) (El.cons (Ev.var rfl) El.nil))) (Nat.le_of_ble_eq_true rfl)))))))))))
theorem rd_qw {ws : AV} {op : Nat} {r inner m : List Nat} {b : Int} (ht : t.length ≤ 1000) (h : t.drop o = op :: r) (hd : Fv cs "delimited" [.str t, .int (o : Int)] d (.tup [.str inner, .int b]) d) (hu : Fv cs "unguarded" [.str inner, .str [op], .bool false] d (.str m) d) (hw : Fv cs "read_qw" [.str m] d ws d) : Fv cs "_law_read" [.str t, .str [113, 119], .int (o : Int)] d (.tup [.str [119, 111, 114, 100, 115], ws, .int b]) d :=
  f_lread (fv (q_quotetoken cs) rfl (Sx.seq (Sx.iteF (Et.cmp (Ev.var rfl) Ev.str rfl) Sx.nil) (Sx.seq (Sx.iteF (Et.cmp (Ev.var rfl) Ev.str rfl) Sx.nil) (Sx.seq (Sx.iteF (Et.cmp (Ev.var rfl) Ev.str rfl) Sx.nil) (Sx.seq (Sx.iteF (Et.or (Ek.go (Et.cmp (Ev.var rfl) Ev.str rfl) (Ek.go (Et.cmp (Ev.var rfl) Ev.str rfl) Ek.nil))) Sx.nil) (Sx.seq (Sx.asgT (Ev.call (El.cons (Ev.var rfl) (El.cons (Ev.var rfl) El.nil)) hd) rfl (Nat.le_of_ble_eq_true rfl)) (Sx.seq (Sx.iteF (Et.cmp (Ev.var rfl) Ev.str rfl) Sx.nil) (Sx.ret1 (Sx.iteT (Et.cmp (Ev.var rfl) Ev.str rfl) (Sx.ret (Ev.tup (El.cons Ev.str (El.cons (Ev.call (El.cons (Ev.call (El.cons (Ev.var rfl) (El.cons (Ev.idx (Ev.var rfl) (Ev.var rfl) (strAt' h (hs _ ht))) (El.cons Ev.bool El.nil))) hu) El.nil) hw) (El.cons (Ev.var rfl) El.nil))) (Nat.le_of_ble_eq_true rfl))))))))))))
theorem rd_q {op : Nat} {r inner m : List Nat} {b : Int} (ht : t.length ≤ 1000) (h : t.drop o = op :: r) (hd : Fv cs "delimited" [.str t, .int (o : Int)] d (.tup [.str inner, .int b]) d) (hu : Fv cs "read_q" [.str inner, .str [op]] d (.str m) d) : Fv cs "_law_read" [.str t, .str [113], .int (o : Int)] d (.tup [.str [115, 116, 114], .str m, .int b]) d :=
  f_lread (fv (q_quotetoken cs) rfl (Sx.seq (Sx.iteF (Et.cmp (Ev.var rfl) Ev.str rfl) Sx.nil) (Sx.seq (Sx.iteF (Et.cmp (Ev.var rfl) Ev.str rfl) Sx.nil) (Sx.seq (Sx.iteF (Et.cmp (Ev.var rfl) Ev.str rfl) Sx.nil) (Sx.seq (Sx.iteF (Et.or (Ek.go (Et.cmp (Ev.var rfl) Ev.str rfl) (Ek.go (Et.cmp (Ev.var rfl) Ev.str rfl) Ek.nil))) Sx.nil) (Sx.seq (Sx.asgT (Ev.call (El.cons (Ev.var rfl) (El.cons (Ev.var rfl) El.nil)) hd) rfl (Nat.le_of_ble_eq_true rfl)) (Sx.seq (Sx.iteF (Et.cmp (Ev.var rfl) Ev.str rfl) Sx.nil) (Sx.seq (Sx.iteF (Et.cmp (Ev.var rfl) Ev.str rfl) Sx.nil) (Sx.ret (Ev.tup (El.cons Ev.str (El.cons (Ev.call (El.cons (Ev.var rfl) (El.cons (Ev.idx (Ev.var rfl) (Ev.var rfl) (strAt' h (hs _ ht))) El.nil)) hu) (El.cons (Ev.var rfl) El.nil))) (Nat.le_of_ble_eq_true rfl)))))))))))
end
end Mine
namespace Mine
open PySem

noncomputable abbrev Kx (g : Sg) (ifs elt : E) (x : Nat) (ρ : List AV) (l : List AV) (d : Int) (ys : List AV) (d' : Int) : Prop := compA (fun a => (dn g ifs).c (ρ.set x a)) (fun a => oneA ((dn g elt).e (ρ.set x a))) l d = some (.ok ys, d')
section
variable {g : Sg} {ρ : List AV} {d d1 d2 d3 : Int} {ifs elt it : E} {x y z : AV} {l ys : List AV} {n : Nat} {p q : Pos}
theorem Kx.nil : Kx g ifs elt n ρ [] d [] d := rfl
theorem Kx.go (h0 : (dn g ifs).c (ρ.set n x) d = some (.ok true, d1)) (h : Ev g (ρ.set n x) d1 elt y d2) (h2 : Kx g ifs elt n ρ l d2 ys d3) : Kx g ifs elt n ρ (x :: l) d (y :: ys) d3 := bindOk h0 (bindOk h (bindOk h2 rfl))
theorem Kx.no (h0 : (dn g ifs).c (ρ.set n x) d = some (.ok false, d1)) (h2 : Kx g ifs elt n ρ l d1 ys d2) : Kx g ifs elt n ρ (x :: l) d ys d2 := bindOk h0 h2
theorem Ev.comp {sc : Scope} {fv : List Nat} (h : Ev g ρ d it x d1) (hl : itemsA x = some l) (hk : Kx g ifs elt n (maskA fv ρ 0) l d1 ys d2) : Ev g ρ d (.comp elt n p it ifs sc fv q) (.list ys) d2 :=
  oneOk (bindOk h (bindOk (liftOk hl) (bindOk (a := ys) (by unfold noErr; rw [hk]) rfl)))
end

noncomputable abbrev Trip := List Nat × List Nat × List Nat
noncomputable abbrev tripA (x : Trip) : AV := .tup [.str x.1, .str x.2.1, .str x.2.2]
noncomputable abbrev eq3 (l : List Nat) : Trip := (l, l, l)
noncomputable def parts0 (op cl : Nat) : List Trip := [eq3 [97], eq3 [98, 53], eq3 [32], ([92, cl], [cl], [cl]), ([92, 92], [92, 92], [92]), eq3 [op, 120, cl], eq3 [92, 110], eq3 [10], ([92, op], [op], [op])]
noncomputable def parts (op : Nat) : List Trip := if closeOf op = op then (parts0 op (closeOf op)).set 5 (eq3 [122]) else parts0 op (closeOf op)
theorem parts_len {op : Nat} : (parts op).length = 9 := by unfold parts; split <;> rfl

section
variable {cs : List Int} {d : Int}
theorem strs_map : ∀ {L : List (List Nat)}, strsA (L.map .str) = some L
  | [] => rfl
  | a :: L => by
    show (strsA (L.map .str)).map (a :: ·) = _
    rw [strs_map]; rfl
theorem joinA {L : List (List Nat)} (h : L.flatten.length ≤ LIM) : methA .join (.str []) [.list (L.map .str)] = some (.str L.flatten) := by
  show (strsA (L.map .str)).bind _ = _
  rw [strs_map]
  exact if_pos h
theorem lstAt {l : List AV} {i : Nat} {x : AV} (h : l[i]? = some x) (hi : i ≤ 1000) : idxA cs (.list l) (.int (i : Int)) d = some (.ok x, d) := by
  show (if (i : Int) ≤ (LIM : Nat) then atA l (i : Int) else M.fail) d = _
  rw [if_pos (show (i : Int) ≤ (LIM : Nat) by show (i : Int) ≤ 1000000; omega)]
  unfold atA
  rw [if_pos (Int.natCast_nonneg i), Int.toNat_natCast, h]; rfl
theorem tupAt {l : List AV} {i : Nat} {x : AV} (h : l[i]? = some x) (hi : i ≤ 1000) : idxA cs (.tup l) (.int (i : Int)) d = some (.ok x, d) := by
  show (if (i : Int) ≤ (LIM : Nat) then atA l (i : Int) else M.fail) d = _
  rw [if_pos (show (i : Int) ≤ (LIM : Nat) by show (i : Int) ≤ 1000000; omega)]
  unfold atA
  rw [if_pos (Int.natCast_nonneg i), Int.toNat_natCast, h]; rfl

/-- the turns of told -/
theorem wi_told (C : CsOk cs) {op cl : Nat} {P : List Trip} {elt : E} (hP : P.length = 9)
    (he : ∀ (x : AV) (i : Nat) (y : Trip) (d : Int), P[i]? = some y → i < 9 → Fv cs "_law_sip" [.cup, .int 9] d (.int i) (d + 1) → Ev (gT cs) ((maskA [0, 3] [.cup, .str [op], .str [cl], .list (P.map tripA), .unb, .unb, .unb, .unb] 0).set 5 x) d elt (tripA y) (d + 1)) :
    ∀ (l : List AV) (d : Int), 0 ≤ d → d + l.length ≤ 1000 → ∃ ps : List Trip, ps.length = l.length ∧ (∀ x ∈ ps, x ∈ P) ∧ Kx (gT cs) .nil elt 5 (maskA [0, 3] [.cup, .str [op], .str [cl], .list (P.map tripA), .unb, .unb, .unb, .unb] 0) l d (ps.map tripA) (d + l.length)
  | [], d, _, _ => ⟨[], rfl, fun _ h => (by cases h), by rw [show d + ((([] : List AV).length : Nat) : Int) = d by simp]; exact Kx.nil⟩
  | a :: l, d, h0, h1 => by
    simp only [List.length_cons] at h1
    obtain ⟨i, hi, e⟩ := f_sip (cs := cs) (d := d) C (m := 9) h0 (by omega) (by exact (Nat.le_of_ble_eq_true rfl)) (by exact (Nat.le_of_ble_eq_true rfl))
    obtain ⟨ps, p1, p2, p3⟩ := wi_told C hP he l (d + 1) (by omega) (by omega)
    have hg : P[i]? = some P[i] := List.getElem?_eq_getElem (by omega)
    refine ⟨P[i] :: ps, by simp [p1], fun x hx => ?_, ?_⟩
    · rcases List.mem_cons.mp hx with q | q
      · rw [q]; exact List.getElem_mem _
      · exact p2 x q
    · rw [show d + (((a :: l).length : Nat) : Int) = d + 1 + (l.length : Nat) by simp only [List.length_cons]; omega]
      exact Kx.go rfl (he a i P[i] d hg hi e) p3

/-- one place of all the parts -/
theorem wi_place {ps : List Trip} {k : Nat} {sel : Trip → List Nat} {elt : E} {ρ : List AV} (he : ∀ x, Ev (gT cs) (ρ.set 7 (tripA x)) d elt (.str (sel x)) d) : ∀ ps : List Trip, Kx (gT cs) .nil elt 7 ρ (ps.map tripA) d ((ps.map sel).map .str) d
  | [] => Kx.nil
  | x :: ps => Kx.go rfl (he x) (wi_place (ps := ps) (k := k) he ps)
end
end Mine
namespace Mine
open PySem

section
variable {cs : List Int} {d : Int}
theorem flat_len {n : Nat} : ∀ {L : List (List Nat)}, (∀ x ∈ L, x.length ≤ n) → L.flatten.length ≤ n * L.length
  | [], _ => by simp
  | a :: L, h => by
    have := flat_len (L := L) fun x hx => h x (.tail _ hx)
    have h2 := h a (.head _)
    rw [List.flatten_cons, List.length_append, List.length_cons, Nat.mul_add]; omega
set_option tactic.hygienic true
theorem parts_all {Q : Trip → Prop} {op : Nat} (h : ∀ cl, cl = closeOf op → Q (eq3 [97]) ∧ Q (eq3 [98, 53]) ∧ Q (eq3 [32]) ∧ Q ([92, cl], [cl], [cl]) ∧ Q ([92, 92], [92, 92], [92]) ∧ (cl ≠ op → Q (eq3 [op, 120, cl])) ∧ Q (eq3 [92, 110]) ∧ Q (eq3 [10]) ∧ Q ([92, op], [op], [op]) ∧ Q (eq3 [122])) : ∀ x ∈ parts op, Q x := by
  intro x hx
  obtain ⟨a1, a2, a3, a4, a5, a6, a7, a8, a9, a0⟩ := h _ rfl
  unfold parts at hx
  split at hx
  · have : x ∈ [eq3 [97], eq3 [98, 53], eq3 [32], ([92, closeOf op], [closeOf op], [closeOf op]), ([92, 92], [92, 92], [92]), eq3 [122], eq3 [92, 110], eq3 [10], ([92, op], [op], [op])] := hx
    simp only [List.mem_cons, List.not_mem_nil, or_false] at this
    rcases this with q | q | q | q | q | q | q | q | q <;> rw [q] <;> assumption
  · rename_i hne
    have a6 := a6 hne
    have : x ∈ parts0 op (closeOf op) := hx
    simp only [parts0, List.mem_cons, List.not_mem_nil, or_false] at this
    rcases this with q | q | q | q | q | q | q | q | q <;> rw [q] <;> assumption
set_option tactic.hygienic false
theorem parts_small {op : Nat} : ∀ x ∈ parts op, x.1.length ≤ 3 ∧ x.2.1.length ≤ 3 ∧ x.2.2.length ≤ 3 :=
  parts_all fun cl _ => ⟨by decide, by decide, by decide, by simp, by decide, fun _ => by simp, by decide, by decide, by simp, by decide⟩

noncomputable def wiB1 : S := sq1 (sq2 bLwithin)
noncomputable abbrev wiS (op : Nat) (P : AV) : List AV := [.cup, .str [op], .str [closeOf op], P, .unb, .unb, .unb, .unb]
set_option tactic.hygienic true
theorem wi_parts {op : Nat} : Sx (gT cs) (wiS op .unb) d wiB1 (.next, wiS op (.own ((parts0 op (closeOf op)).map tripA))) d := by
  have tr : ∀ {ρ : List AV} {a b c : E} {p : Pos} {x y z : AV}, Ev (gT cs) ρ d a x d → Ev (gT cs) ρ d b y d → Ev (gT cs) ρ d c z d → Ev (gT cs) ρ d (.tup (.cons a (.cons b (.cons c .nil))) p) (.tup [x, y, z]) d := fun h1 h2 h3 => Ev.tup (El.cons h1 (El.cons h2 (El.cons h3 El.nil))) (Nat.le_of_ble_eq_true rfl)
  have a2 : ∀ {s : String} {l : List Nat} {p1 p2 p3 : Pos} {i v : Nat}, l.length ≤ 10 → varA (wiS op .unb) i = M.pure (.str [v]) → Ev (gT cs) (wiS op .unb) d (.bin .add (.str s l p1) (.var i p2) p3) (.str (l ++ [v])) d := fun hl h => Ev.bin Ev.str (Ev.var h) (addS (by have := hL; simp only [List.length_cons, List.length_nil]; omega))
  have a3 : ∀ {p1 p2 p3 p4 p5 : Pos} {s : String}, Ev (gT cs) (wiS op .unb) d (.bin .add (.bin .add (.var 1 p1) (.str s [120] p2) p3) (.var 2 p4) p5) (.str [op, 120, closeOf op]) d := Ev.bin (Ev.bin (Ev.var rfl) Ev.str (addS (Nat.le_of_ble_eq_true rfl))) (Ev.var rfl) (addS (Nat.le_of_ble_eq_true rfl))
  exact Sx.asgO (El.cons (tr Ev.str Ev.str Ev.str) (El.cons (tr Ev.str Ev.str Ev.str) (El.cons (tr Ev.str Ev.str Ev.str) (El.cons (tr (a2 (by decide) rfl) (Ev.var rfl) (Ev.var rfl)) (El.cons (tr Ev.str Ev.str Ev.str) (El.cons (tr a3 a3 a3)
    (El.cons (tr Ev.str Ev.str Ev.str) (El.cons (tr Ev.str Ev.str Ev.str) (El.cons (tr (a2 (by decide) rfl) (Ev.var rfl) (Ev.var rfl)) El.nil))))))))) (Nat.le_of_ble_eq_true rfl)
theorem wi_ite {op : Nat} : Sx (gT cs) (wiS op (.own ((parts0 op (closeOf op)).map tripA))) d (sq1 (sq2 (sq2 bLwithin))) (.next, wiS op (.list ((parts op).map tripA))) d := by
  by_cases h : closeOf op = op
  · rw [show parts op = (parts0 op (closeOf op)).set 5 (eq3 [122]) from if_pos h]
    exact Sx.iteT (Et.cmp (Ev.var rfl) (Ev.var rfl) (eqS (by rw [h]))) (Sx.setO (j := 5) (l := (parts0 op (closeOf op)).map tripA) rfl (Ev.tup (El.cons Ev.str (El.cons Ev.str (El.cons Ev.str El.nil))) (Nat.le_of_ble_eq_true rfl)) Ev.num ⟨by decide, (by show (5 : Int) < 9; decide), Nat.le_of_ble_eq_true rfl, rfl⟩)
  · rw [show parts op = parts0 op (closeOf op) from if_neg h]
    exact Sx.iteF (Et.cmp (Ev.var rfl) (Ev.var rfl) (neS1 h)) (Sx.frz rfl rfl)

set_option tactic.hygienic false
theorem f_within (C : CsOk cs) {op : Nat} (h0 : 0 ≤ d) (h1 : d ≤ 900) : ∃ (ps : List Trip) (d' : Int), d ≤ d' ∧ d' ≤ d + 5 ∧ ps.length ≤ 4 ∧ (∀ x ∈ ps, x ∈ parts op) ∧
    Fv cs "_law_within" [.cup, .str [op]] d (.tup [.str (ps.map (·.1)).flatten, .str (ps.map (·.2.1)).flatten, .str (ps.map (·.2.2)).flatten]) d' := by
  obtain ⟨n, hn, e5⟩ := f_sip (cs := cs) (d := d) C (m := 5) h0 (by omega) (by omega) (by omega)
  obtain ⟨ps, p1, p2, p3⟩ := wi_told (cs := cs) C (op := op) (cl := closeOf op) (P := parts op) (elt := .idx (.var 3 ⟨179, 12, 179, 17⟩) (.call "_law_sip" ⟨179, 18, 179, 26⟩ (.cons (.var 0 ⟨179, 27, 179, 30⟩) (.cons (.num 9 ⟨179, 32, 179, 33⟩) .nil)) ⟨179, 18, 179, 34⟩) ⟨179, 12, 179, 35⟩) parts_len
    (fun x i y d h1 h2 h3 => Ev.idx (Ev.var rfl) (Ev.call (El.cons (Ev.var rfl) (El.cons Ev.num El.nil)) h3) (lstAt (by rw [List.getElem?_map, h1]; rfl) (by omega)))
    ((List.range n).map fun (i : Nat) => AV.int (i : Int)) (d + 1) (by omega) (by rw [List.length_map, List.length_range]; omega)
  rw [List.length_map, List.length_range] at p1 p3
  have hL := hL
  have small : ∀ {sel : Trip → List Nat}, (∀ x ∈ parts op, (sel x).length ≤ 3) → (ps.map sel).flatten.length ≤ LIM := fun {sel} h => by
    have := flat_len (n := 3) (L := ps.map sel) fun x hx => by
      obtain ⟨y, hy, rfl⟩ := List.mem_map.mp hx
      exact h y (p2 y hy)
    rw [List.length_map] at this; omega
  have hm : (ps.map tripA).length ≤ LIM := by rw [List.length_map]; omega
  have one : ∀ {sel : Trip → List Nat} {k : Nat} {x : AV}, (∀ x ∈ parts op, (sel x).length ≤ 3) → (∀ x d, idxA (gT cs).cs (tripA x) (.int (k : Int)) d = some (.ok (.str (sel x)), d)) →
    Ev (gT cs) ((maskA [4] [.cup, .str [op], .str [closeOf op], .list ((parts op).map tripA), .list (ps.map tripA), .unb, .unb, .unb] 0).set 6 (.int (k : Int))) (d + 1 + (n : Int)) (.meth .join (.str "" [] ⟨180, 18, 180, 20⟩) ⟨180, 18, 180, 25⟩ (.cons (.comp (.idx (.var 7 ⟨180, 27, 180, 31⟩) (.var 6 ⟨180, 32, 180, 37⟩) ⟨180, 27, 180, 38⟩) 7 ⟨180, 43, 180, 47⟩ (.var 4 ⟨180, 51, 180, 55⟩) .nil ⟨PySem.ScopeKind.function, [((PySem.Str.ofString ".0"), PySem.NameKind.local), ((PySem.Str.ofString "part"), PySem.NameKind.local), ((PySem.Str.ofString "place"), PySem.NameKind.free)], false, false, []⟩ [6] ⟨180, 26, 180, 56⟩) .nil) ⟨180, 18, 180, 57⟩) (.str (ps.map sel).flatten) (d + 1 + (n : Int)) := fun {sel k x} h hx =>
    Ev.meth Ev.str rfl (El.cons (Ev.comp (Ev.var rfl) (show itemsA (.list (ps.map tripA)) = some (ps.map tripA) from if_pos hm) (wi_place (ps := ps) (k := k) (fun x => Ev.idx (Ev.var rfl) (Ev.var rfl) (hx x _)) ps)) El.nil) (joinA (small h))
  refine ⟨ps, d + 1 + (n : Int), by omega, by omega, by omega, p2, ?_⟩
  exact fv (q_Lwithin cs) rfl (Sx.seq (Sx.asg (Ev.meth (Ev.call El.nil f_closers) rfl (El.cons (Ev.var rfl) (El.cons (Ev.var rfl) El.nil)) (closeGet op))) (Sx.seq wi_parts (Sx.seq wi_ite
    (Sx.seq (Sx.asg (Ev.comp (Ev.bi (Ev.call (El.cons (Ev.var rfl) (El.cons Ev.num El.nil)) e5) (show biA .range (.int (n : Int)) = some (.rng n) from by
        show (if 0 ≤ (n : Int) ∧ (n : Int) ≤ (LIM : Nat) then some (AV.rng (n : Int).toNat) else none) = _
        rw [if_pos ⟨by omega, by omega⟩, Int.toNat_natCast])) (show itemsA (.rng n) = some ((List.range n).map fun (i : Nat) => AV.int (i : Int)) from if_pos (by omega)) p3))
      (Sx.ret (Ev.bi (Ev.comp (Ev.bi Ev.num rfl) rfl (Kx.go rfl (one (k := 0) (x := .none) (fun x hx => (parts_small x hx).1) (fun _ _ => rfl)) (Kx.go rfl (one (k := 1) (x := .none) (fun x hx => (parts_small x hx).2.1) (fun _ _ => rfl)) (Kx.go rfl (one (k := 2) (x := .none) (fun x hx => (parts_small x hx).2.2) (fun _ _ => rfl)) Kx.nil)))) rfl))))))
end
end Mine
namespace Mine
open PySem

noncomputable def fitC (c : Nat) : Bool := !wordSigns.contains c && !blankSigns.contains c && !c == 92 && !c == 61 && decide (c < 128)
theorem fit_all : ∀ op ∈ lawOpeners, fitC op = true ∧ fitC (closeOf op) = true := by decide +kernel
theorem fit_ne {c x : Nat} (h : fitC c = true) (hx : (wordSigns.contains x || blankSigns.contains x || x == 92 || x == 61) = true) : x ≠ c := by
  intro q; subst q
  simp only [fitC, Bool.and_eq_true, Bool.not_eq_true'] at h
  rw [h.1.1.1.1, h.1.1.1.2, h.1.1.2, h.1.2] at hx; cases hx
theorem fit_92 {c : Nat} (h : fitC c = true) : c ≠ 92 := Ne.symm (fit_ne h (by decide))
theorem fit_lt {c : Nat} (h : fitC c = true) : c < 128 := by
  simp only [fitC, Bool.and_eq_true, decide_eq_true_eq] at h; exact h.2
theorem fit_blank {c : Nat} (h : fitC c = true) : blankSigns.contains c = false := by
  simp only [fitC, Bool.and_eq_true, Bool.not_eq_true'] at h; exact h.1.1.1.2
theorem fit_word {c : Nat} (h : fitC c = true) : wordSigns.contains c = false := by
  simp only [fitC, Bool.and_eq_true, Bool.not_eq_true'] at h; exact h.1.1.1.1

noncomputable def okC (c : Nat) : Bool := decide (([32, 9, 10, 13, 12] : List Nat).contains c = blankA c) && decide (c < 128)
theorem okC_all : ∀ c ∈ lawOpeners ++ lawOpeners.map closeOf, okC c = true := by decide +kernel

noncomputable def okL (l : List Nat) : Bool := l.all fun c => decide (c < 128)
theorem okL_app {a b : List Nat} (h : okL a = true) (h2 : okL b = true) : okL (a ++ b) = true := by unfold okL at *; rw [List.all_append, h, h2]; rfl
structure Told (op : Nat) (x : Trip) : Prop where
  walk : ∀ k, 0 < k → Walk op (closeOf op) x.1 k k
  u1 : Ung op (closeOf op) false x.1 x.2.1
  u2 : Ung op (closeOf op) true x.1 x.2.2
  u3 : Ung 92 92 true x.2.1 x.2.2
  ch : x.2.2.all okC = true
  sm : okL x.1 = true ∧ okL x.2.1 = true ∧ okL x.2.2 = true
theorem told_part {op : Nat} (ho : op ∈ lawOpeners) : ∀ x ∈ parts op, Told op x := by
  obtain ⟨f1, f2⟩ := fit_all op ho
  have k1 := okC_all op (List.mem_append_left _ ho)
  have k2 := okC_all (closeOf op) (List.mem_append_right _ (List.mem_map_of_mem ho))
  have hc : ∀ {c : Nat} {l : List Nat} {k k' : Nat}, (wordSigns.contains c || blankSigns.contains c) = true → c ≠ 92 → Walk op (closeOf op) l k k' → Walk op (closeOf op) (c :: l) k k' := fun {c l k k'} h h9 w =>
    Walk.chr h9 (fit_ne f2 (by rw [h]; rfl)) (fit_ne f1 (by rw [h]; rfl)) w
  have hu : ∀ {c : Nat} {pl : Bool} {a b : Nat}, c ≠ 92 → Ung a b pl [c] [c] := fun h => .chr h .nil
  refine parts_all fun cl hcl => ?_
  subst hcl
  refine ⟨?_, ?_, ?_, ?_, ?_, fun hne => ?_, ?_, ?_, ?_, ?_⟩
  · exact ⟨fun k _ => hc (by decide) (by decide) .nil, hu (by decide), hu (by decide), hu (by decide), by decide, by decide⟩
  · exact ⟨fun k _ => hc (by decide) (by decide) (hc (by decide) (by decide) .nil), .chr (by decide) (hu (by decide)), .chr (by decide) (hu (by decide)), .chr (by decide) (hu (by decide)), by decide, by decide⟩
  · exact ⟨fun k _ => hc (by decide) (by decide) .nil, hu (by decide), hu (by decide), hu (by decide), by decide, by decide⟩
  · exact ⟨fun k _ => .esc .nil, .take (.inr (.inl rfl)) .nil, .take (.inr (.inl rfl)) .nil, hu (fit_92 f2), by simpa [okC] using k2, by simp [okL, fit_lt f2]⟩
  · exact ⟨fun k _ => .esc .nil, .keep (Ne.symm (fit_92 f1)) (Ne.symm (fit_92 f2)) (fun h => by cases h) .nil, .take (.inr (.inr ⟨rfl, rfl⟩)) .nil, .take (.inl rfl) .nil, by decide, by decide⟩
  · exact ⟨fun k hk => .more (fit_92 f1) (Ne.symm hne) (hc (by decide) (by decide) (.less (fit_92 f2) hk .nil)), .chr (fit_92 f1) (.chr (by decide) (hu (fit_92 f2))), .chr (fit_92 f1) (.chr (by decide) (hu (fit_92 f2))),
      .chr (fit_92 f1) (.chr (by decide) (hu (fit_92 f2))), by rw [show (eq3 [op, 120, closeOf op]).2.2 = [op, 120, closeOf op] from rfl, List.all_cons, List.all_cons, List.all_cons, k1, k2]; decide, by simp [okL, fit_lt f1, fit_lt f2]⟩
  · exact ⟨fun k _ => .esc .nil, .keep (fit_ne f1 (by decide)) (fit_ne f2 (by decide)) (fun _ => by decide) .nil, .keep (fit_ne f1 (by decide)) (fit_ne f2 (by decide)) (fun _ => by decide) .nil, .keep (by decide) (by decide) (fun _ => by decide) .nil, by decide, by decide⟩
  · exact ⟨fun k _ => hc (by decide) (by decide) .nil, hu (by decide), hu (by decide), hu (by decide), by decide, by decide⟩
  · exact ⟨fun k _ => .esc .nil, .take (.inl rfl) .nil, .take (.inl rfl) .nil, hu (fit_92 f1), by simpa [okC] using k1, by simp [okL, fit_lt f1]⟩
  · exact ⟨fun k _ => hc (by decide) (by decide) .nil, hu (by decide), hu (by decide), hu (by decide), by decide, by decide⟩
theorem told_all {op : Nat} : ∀ {ps : List Trip}, (∀ x ∈ ps, Told op x) → Told op ((ps.map (·.1)).flatten, (ps.map (·.2.1)).flatten, (ps.map (·.2.2)).flatten)
  | [], _ => ⟨fun _ _ => .nil, .nil, .nil, .nil, rfl, rfl, rfl, rfl⟩
  | x :: ps, h => by
    have a := h x (.head _)
    have b := told_all (ps := ps) fun y hy => h y (.tail _ hy)
    exact ⟨fun k hk => (a.walk k hk).app (b.walk k hk), a.u1.app b.u1, a.u2.app b.u2, a.u3.app b.u3, by
      show (x.2.2 ++ (ps.map (·.2.2)).flatten).all okC = true
      rw [List.all_append, a.ch, b.ch]; rfl, okL_app a.sm.1 b.sm.1, okL_app a.sm.2.1 b.sm.2.1, okL_app a.sm.2.2 b.sm.2.2⟩
theorem f_told {cs : List Int} {d : Int} (C : CsOk cs) {op : Nat} (ho : op ∈ lawOpeners) (h0 : 0 ≤ d) (h1 : d ≤ 900) : ∃ (x : Trip) (d' : Int), d ≤ d' ∧ d' ≤ d + 5 ∧ Told op x ∧ x.1.length ≤ 12 ∧ x.2.1.length ≤ 12 ∧ x.2.2.length ≤ 12 ∧
    Fv cs "_law_within" [.cup, .str [op]] d (.tup [.str x.1, .str x.2.1, .str x.2.2]) d' := by
  obtain ⟨ps, d', a, b, c, e, f⟩ := f_within (cs := cs) C (op := op) h0 h1
  have small : ∀ {sel : Trip → List Nat}, (∀ x ∈ parts op, (sel x).length ≤ 3) → (ps.map sel).flatten.length ≤ 12 := fun {sel} h => by
    have := flat_len (n := 3) (L := ps.map sel) fun x hx => by
      obtain ⟨y, hy, rfl⟩ := List.mem_map.mp hx
      exact h y (e y hy)
    rw [List.length_map] at this; omega
  exact ⟨_, d', a, b, told_all fun x hx => told_part ho x (e x hx), small fun x hx => (parts_small x hx).1, small fun x hx => (parts_small x hx).2.1, small fun x hx => (parts_small x hx).2.2, f⟩
end Mine
namespace Mine
open PySem

theorem can_str {l : List Nat} (h : okL l = true) : (toPy (.str l)).canLay0 = true := by
  show PyData.strOk ⟨l.toArray⟩ = true
  unfold PyData.strOk
  rw [List.all_toArray]
  refine List.all_eq_true.mpr fun x hx => decide_eq_true ?_
  have := of_decide_eq_true (List.all_eq_true.mp h x hx)
  omega
theorem words_ok : ∀ {l w : List Nat}, okL l = true → okL w = true → ∀ x ∈ wordsA l w, okL x = true
  | [], w, _, hw, x, hx => by
    have : x ∈ (if w = [] then [] else [w]) := hx
    split at this
    · cases this
    · cases this with
      | head => exact hw
      | tail _ h => cases h
  | c :: l, w, hl, hw, x, hx => by
    have hl' : decide (c < 128) = true ∧ okL l = true := by simpa [okL] using hl
    cases hb : blankA c with
    | true =>
      rw [wordsA_t hb] at hx
      split at hx
      · exact words_ok hl'.2 rfl x hx
      · rcases List.mem_cons.mp hx with q | q
        · rw [q]; exact hw
        · exact words_ok hl'.2 rfl x q
    | false =>
      rw [wordsA_f hb] at hx
      refine words_ok hl'.2 ?_ x hx
      unfold okL at hw ⊢
      rw [List.all_append, hw, List.all_cons, hl'.1]; rfl
theorem can_strs : ∀ {L : List (List Nat)}, (∀ x ∈ L, okL x = true) → PyData.canLayAll0 (toPyL (L.map .str)) = true ∧ PyData.depthAll (toPyL (L.map .str)) = 0
  | [], _ => ⟨rfl, rfl⟩
  | a :: L, h => by
    obtain ⟨h1, h2⟩ := can_strs (L := L) fun x hx => h x (.tail _ hx)
    have h3 := can_str (h a (.head _))
    constructor
    · show ((toPy (.str a)).canLay0 && PyData.canLayAll0 (toPyL (L.map .str))) = true
      rw [h3, h1]; rfl
    · show max 0 (PyData.depthAll (toPyL (L.map .str))) = 0
      rw [h2]; rfl
theorem neSelf {l : List AV} (h : (toPy (.tup l)).canLay0 = true) (h2 : (toPy (.tup l)).depth ≤ 64) : cmpA .ne (.tup l) (.tup l) = some false := by
  have hs : SeqAt.shaped (toPy (.tup l)) = true := by unfold SeqAt.shaped; rw [h, decide_eq_true h2]; rfl
  show (if SeqAt.shaped (toPy (.tup l)) && SeqAt.shaped (toPy (.tup l)) then some (PyData.eqv (toPy (.tup l)) (toPy (.tup l))) else none).map _ = _
  rw [hs, SeqAt.eqv_refl _ h]; rfl
theorem can_cons {a : AV} {l : List AV} (h : (toPy a).canLay0 = true) (h2 : PyData.canLayAll0 (toPyL l) = true) : PyData.canLayAll0 (toPyL (a :: l)) = true := by
  show ((toPy a).canLay0 && PyData.canLayAll0 (toPyL l)) = true
  rw [h, h2]; rfl
theorem due_str {a b : List Nat} {n : Int} (h1 : okL a = true) (h2 : okL b = true) : cmpA .ne (.tup [.str a, .str b, .int n]) (.tup [.str a, .str b, .int n]) = some false :=
  neSelf (can_cons (can_str h1) (can_cons (can_str h2) rfl)) (by show 1 ≤ 64; decide)
theorem due_words {a : List Nat} {L : List (List Nat)} {n : Int} (h1 : okL a = true) (h2 : ∀ x ∈ L, okL x = true) : cmpA .ne (.tup [.str a, .list (L.map .str), .int n]) (.tup [.str a, .list (L.map .str), .int n]) = some false :=
  neSelf (can_cons (can_str h1) (can_cons (can_strs h2).1 rfl)) (by
    show max 0 (max (PyData.depthAll (toPyL (L.map .str)) + 1) (max 0 0)) + 1 ≤ 64
    rw [(can_strs h2).2]; decide)
theorem due_3 {a b c e : List Nat} {n : Int} (h1 : okL a = true) (h2 : okL b = true) (h3 : okL c = true) (h4 : okL e = true) : cmpA .ne (.tup [.str a, .tup [.str b, .str c, .str e], .int n]) (.tup [.str a, .tup [.str b, .str c, .str e], .int n]) = some false :=
  neSelf (can_cons (can_str h1) (can_cons (can_cons (can_str h2) (can_cons (can_str h3) (can_cons (can_str h4) rfl))) rfl)) (by show 2 ≤ 64; decide)
theorem due_4 {a b c e f : List Nat} {n : Int} (h1 : okL a = true) (h2 : okL b = true) (h3 : okL c = true) (h4 : okL e = true) (h5 : okL f = true) : cmpA .ne (.tup [.str a, .tup [.str b, .str c, .str e, .str f], .int n]) (.tup [.str a, .tup [.str b, .str c, .str e, .str f], .int n]) = some false :=
  neSelf (can_cons (can_str h1) (can_cons (can_cons (can_str h2) (can_cons (can_str h3) (can_cons (can_str h4) (can_cons (can_str h5) rfl)))) rfl)) (by show 2 ≤ 64; decide)
theorem due_int {n : Int} : cmpA .ne (.int n) (.int n) = some false := by show some (!decide _) = _; rw [decide_eq_true rfl]; rfl

theorem le1 {d : Int} : d ≤ d + 1 := by omega
theorem nn1 {d : Int} (h : 0 ≤ d) : 0 ≤ d + 1 := by omega
theorem bd1 {d k : Int} (h : d + 1 ≤ k) : d ≤ k := by omega
theorem up9 {d : Int} (h : d ≤ 900) : d ≤ 1000 := by omega
theorem lim1 {n : Nat} (h : n ≤ 1000) : n ≤ LIM := Nat.le_trans h (show 1000 ≤ 1000000 by decide)
theorem add2 {a b m n : Nat} (h : a ≤ m) (h2 : b ≤ n) (h3 : m + n ≤ 1000) : a + b ≤ LIM := lim1 (Nat.le_trans (Nat.add_le_add h h2) h3)

/-- what a quote must be -/
structure Good (cs : List Int) (t w : List Nat) (st af : Nat) (due : AV) : Prop where
  wd : w ∈ lawWords
  len : t.length ≤ 900
  rd : ∀ d, Fv cs "_law_read" [.str t, .str w, .int (st : Int)] d due d
  due : cmpA .ne due due = some false
  place : ∃ (bl : List Nat) (op : Nat) (r : List Nat), st = af + bl.length ∧ t.drop af = bl ++ op :: r ∧ (∀ c ∈ bl, blankSigns.contains c = true) ∧ op ∈ lawOpeners

/-- a run that goes on, or has answered well -/
noncomputable def WP (cs : List Int) (D : Int) (s : S) (K : List AV → Int → Prop) (ρ : List AV) (d : Int) : Prop :=
  (∃ ρ1 d1, Sx (gT cs) ρ d s (.next, ρ1) d1 ∧ K ρ1 d1) ∨
  (∃ t w st af due ρ1 d1, Sx (gT cs) ρ d s (.ret (.tup [.str t, .str w, .int ((st : Nat) : Int), .int ((af : Nat) : Int), due]), ρ1) d1 ∧ Good cs t w st af due ∧ d ≤ d1 ∧ d1 ≤ D)
section
variable {cs : List Int} {D d d1 : Int} {s s2 : S} {K K2 : List AV → Int → Prop} {ρ ρ1 : List AV} {c : E} {p : Pos}
set_option tactic.hygienic true
theorem WP.step (h : Sx (gT cs) ρ d s (.next, ρ1) d1) (k : K ρ1 d1) : WP cs D s K ρ d := .inl ⟨_, _, h, k⟩
set_option tactic.hygienic false
theorem WP.ret {t w st af due} (h : Sx (gT cs) ρ d s (.ret (.tup [.str t, .str w, .int ((st : Nat) : Int), .int ((af : Nat) : Int), due]), ρ1) d1) (g : Good cs t w st af due) (h1 : d ≤ d1) (h2 : d1 ≤ D) : WP cs D s K ρ d := .inr ⟨_, _, _, _, _, _, _, h, g, h1, h2⟩
theorem WP.seq (h : WP cs D s (fun ρ1 d1 => d ≤ d1 ∧ WP cs D s2 K ρ1 d1) ρ d) : WP cs D (.seq s s2) K ρ d := by
  rcases h with ⟨ρ1, d1, h, hd, h2⟩ | ⟨t, w, st, af, due, ρ1, d1, h, g, h1, h2⟩
  · rcases h2 with ⟨ρ2, d2, h2, k⟩ | ⟨t, w, st, af, due, ρ2, d2, h2, g, h3, h4⟩
    · exact .inl ⟨_, _, Sx.seq h h2, k⟩
    · exact .inr ⟨_, _, _, _, _, _, _, Sx.seq h h2, g, by omega, h4⟩
  · exact .inr ⟨_, _, _, _, _, _, _, Sx.ret1 h, g, h1, h2⟩
set_option tactic.hygienic true
/-- a step, and on -/
theorem WP.go (h : Sx (gT cs) ρ d s (.next, ρ1) d1) (hd : d ≤ d1) (k : WP cs D s2 K ρ1 d1) : WP cs D (.seq s s2) K ρ d := .seq (.step h ⟨hd, k⟩)
set_option tactic.hygienic false
theorem WP.iteT (h : Et (gT cs) ρ d c true d) (k : WP cs D s K ρ d) : WP cs D (.ite c s s2 p) K ρ d := by
  rcases k with ⟨ρ1, d1, h1, k⟩ | ⟨t, w, st, af, due, ρ1, d1, h1, g, h3, h4⟩
  · exact .inl ⟨_, _, Sx.iteT h h1, k⟩
  · exact .inr ⟨_, _, _, _, _, _, _, Sx.iteT h h1, g, h3, h4⟩
theorem WP.iteF (h : Et (gT cs) ρ d c false d) (k : WP cs D s2 K ρ d) : WP cs D (.ite c s s2 p) K ρ d := by
  rcases k with ⟨ρ1, d1, h1, k⟩ | ⟨t, w, st, af, due, ρ1, d1, h1, g, h3, h4⟩
  · exact .inl ⟨_, _, Sx.iteF h h1, k⟩
  · exact .inr ⟨_, _, _, _, _, _, _, Sx.iteF h h1, g, h3, h4⟩
theorem WP.nil (k : K ρ d) : WP cs D .nil K ρ d := .step Sx.nil k

/-- a text drawn out of a list -/
theorem pickK (C : CsOk cs) (L : List (List Nat)) {e : E} {k : Nat} {q p1 p2 p3 p4 : Pos} (h0 : varA ρ k = M.pure .cup) (hE : Ev (gT cs) ρ d e (.tup (L.map .str)) d) (hL : 0 < L.length) (hL2 : L.length ≤ 10) (hd : 0 ≤ d) (hd2 : d ≤ 1000) :
    ∃ x ∈ L, Ev (gT cs) ρ d (.idx e (.call "_law_sip" q (.cons (.var k p1) (.cons (.num (L.length : Nat) p2) .nil)) p3) p4) (.str x) (d + 1) := by
  obtain ⟨i, hi, h⟩ := f_sip (cs := cs) (d := d) C (m := L.length) hd hd2 hL (by omega)
  exact ⟨L[i], List.getElem_mem _, Ev.idx hE (Ev.call (El.cons (Ev.var h0) (El.cons Ev.num El.nil)) h) (tupAt (by rw [List.getElem?_map, List.getElem?_eq_getElem hi]; rfl) (by omega))⟩
theorem pick (C : CsOk cs) (L : List (List Nat)) {e : E} {q p1 p2 p3 p4 : Pos} (h0 : varA ρ 0 = M.pure .cup) (hE : Ev (gT cs) ρ d e (.tup (L.map .str)) d) (hL : 0 < L.length) (hL2 : L.length ≤ 10) (hd : 0 ≤ d) (hd2 : d ≤ 1000) :
    ∃ x ∈ L, Ev (gT cs) ρ d (.idx e (.call "_law_sip" q (.cons (.var 0 p1) (.cons (.num (L.length : Nat) p2) .nil)) p3) p4) (.str x) (d + 1) := pickK C L h0 hE hL hL2 hd hd2
end
end Mine
namespace Mine
open PySem

section
variable {g : Sg} {ρ : List AV} {d d1 d2 : Int} {a b es ks vs : E} {x : AV} {l : List AV} {k : Bool} {t : Bool} {p : Pos}
theorem Eb.last (h : Ev g ρ d a x d1) : Eb g ρ d k (.cons a .nil) x d1 := h
theorem Eb.stop (hb : b.isNil = false) (h : Ev g ρ d a x d1) (ht : truthA x = some t) (hk : t ≠ k) : Eb g ρ d k (.cons a b) x d1 := by
  show (if b.isNil then oneA ((dn g a).e ρ) else M.bind (oneA ((dn g a).e ρ)) fun v => M.bind (M.lift (truthA v)) fun t => if t = k then (dn g b).b k ρ else M.pure v) d = _
  rw [hb]
  exact bindOk h (bindOk (liftOk ht) (by rw [if_neg hk]; rfl))
theorem Eb.go (hb : b.isNil = false) (h : Ev g ρ d a x d1) (ht : truthA x = some k) {y : AV} (h2 : Eb g ρ d1 k b y d2) : Eb g ρ d k (.cons a b) y d2 := by
  show (if b.isNil then oneA ((dn g a).e ρ) else M.bind (oneA ((dn g a).e ρ)) fun v => M.bind (M.lift (truthA v)) fun t => if t = k then (dn g b).b k ρ else M.pure v) d = _
  rw [hb]
  exact bindOk h (bindOk (liftOk ht) (by rw [if_pos rfl]; exact h2))
theorem Ev.orV (h : Eb g ρ d false es x d1) : Ev g ρ d (.or es p) x d1 := oneOk (bindOk h rfl)
theorem Ev.dct {kk : List (List Nat)} (hk : keysA ks = some kk) (h : El g ρ d vs l d1) (hc : kk.length = l.length ∧ 0 < kk.length ∧ kk.length ≤ 15 ∧ kk.Nodup) : Ev g ρ d (.dct ks vs p) (.dict kk l) d1 := by
  refine oneOk ?_
  show (match keysA ks with
      | some k => M.bind ((dn g vs).e ρ) fun v => if k.length = v.length ∧ 0 < k.length ∧ k.length ≤ 15 ∧ k.Nodup then ret1 (.dict k v) else M.fail
      | none => M.fail) d = _
  rw [hk]
  exact bindOk h (by rw [if_pos hc]; rfl)
end

noncomputable def sqN : Nat → S → S | 0, s => s | n + 1, s => sqN n (sq2 s)
noncomputable def iteA : S → S | .ite _ a _ _ => a | s => s
noncomputable def iteC : S → E | .ite c _ _ _ => c | _ => .nil
noncomputable def asgE : S → E | .asg _ _ e _ => e | _ => .nil
noncomputable def KB : S := iteA (sq1 (sqN 15 bLquote))

noncomputable abbrev qS (w : List Nat) (op : Nat) (bl t : List Nat) (st lk : Nat) (x : Trip) (due : Int) (v s2 sp ot pa fl : AV) : List AV :=
  [.cup, .str w, .str [op], .str bl, .str t, .int (st : Int), .int (lk : Int), .str [closeOf op], .str x.1, .str x.2.1, .str x.2.2, .int due, v, s2, sp, ot, pa, fl, .unb]

structure Base (w bl nw : List Nat) (op : Nat) (x : Trip) : Prop where
  wd : w ∈ lawWords
  ho : op ∈ lawOpeners
  hb : ∀ c ∈ bl, blankSigns.contains c = true
  l1 : nw.length ≤ 10
  l2 : bl.length ≤ 10
  told : Told op x
  x1 : x.1.length ≤ 12
  x2 : x.2.1.length ≤ 12
  x3 : x.2.2.length ≤ 12

noncomputable abbrev six : List (List Nat) := [[], [114], [103, 115], [120, 49], [99, 100], [101, 95]]
noncomputable abbrev tails : List (List Nat) := [[], [59], [32, 120], [10]]
noncomputable abbrev w4 : List (List Nat) := [[109], [115], [116, 114], [121]]
noncomputable def tbOf (w : List Nat) : List Nat := if w = [109] then flMatch else if w = [115] then flSubst else flTrans
noncomputable def badF (w fl : List Nat) : Bool := !fl.all fun c => (tbOf w).contains c
noncomputable abbrev knownV : AV := .dict [[109], [115], [116, 114], [121]] [.str flMatch, .str flSubst, .str flTrans, .str flTrans]

section
variable {cs : List Int} {D d : Int} {w bl nw : List Nat} {op lk : Nat} {x : Trip} {due : Int} {t : List Nat} {v s2 sp ot pa fl : AV} {K : List AV → Int → Prop}
theorem f_known : Fv cs "_law_known" [] d knownV d := by kernel_rfl

theorem dropSt {u : List Nat} : (nw ++ (bl ++ u)).drop (nw.length + bl.length) = u := by rw [← List.drop_drop, List.drop_left, List.drop_left]
theorem goodMk (B : Base w bl nw op x) {u : List Nat} {due : AV} (ht : t = nw ++ (bl ++ (op :: u))) (hu : u.length ≤ 800) (rd : ∀ d, Fv cs "_law_read" [.str t, .str w, .int ((nw.length + bl.length : Nat) : Int)] d due d) (hd : cmpA .ne due due = some false) :
    Good cs t w (nw.length + bl.length) nw.length due :=
  ⟨B.wd, by have := B.l1; have := B.l2; rw [ht]; simp only [List.length_append, List.length_cons]; omega, rd, hd, bl, op, u, rfl, by rw [ht, List.drop_left], B.hb, B.ho⟩

theorem qRet {e1 e2 : E} {t' : List Nat} {due' : AV} {d1 : Int} {p1 p2 p3 p4 p5 p6 p7 p8 p9 : Pos} (hbl : bl.length ≤ 10)
    (h1 : Ev (gT cs) (qS w op bl t (nw.length + bl.length) lk x due v s2 sp ot pa fl) d e1 (.str t') d1) (h2 : Ev (gT cs) (qS w op bl t (nw.length + bl.length) lk x due v s2 sp ot pa fl) d1 e2 due' d1) :
    Sx (gT cs) (qS w op bl t (nw.length + bl.length) lk x due v s2 sp ot pa fl) d (.ret (.tup (.cons e1 (.cons (.var 1 p1) (.cons (.var 5 p2) (.cons (.bin .sub (.var 5 p3) (.bi .len p4 (.var 3 p5) p6) p7) (.cons e2 .nil))))) p8) p9)
      (.ret (.tup [.str t', .str w, .int ((nw.length + bl.length : Nat) : Int), .int ((nw.length : Nat) : Int), due']), qS w op bl t (nw.length + bl.length) lk x due v s2 sp ot pa fl) d1 := by
  have hs : binA .sub (.int ((nw.length + bl.length : Nat) : Int)) (.int (bl.length : Nat)) = some (.int ((nw.length : Nat) : Int)) := by
    show some (AV.int (((nw.length + bl.length : Nat) : Int) - (bl.length : Nat))) = _
    rw [show ((nw.length + bl.length : Nat) : Int) - (bl.length : Nat) = (nw.length : Nat) by omega]
  exact Sx.ret (Ev.tup (El.cons h1 (El.cons (Ev.var rfl) (El.cons (Ev.var rfl) (El.cons (Ev.bin (Ev.var rfl) (Ev.bi (Ev.var rfl) (lenOf (by have := hL; exact (Nat.le_trans (by assumption) (Nat.le_of_ble_eq_true rfl))))) hs) (El.cons h2 El.nil))))) (Nat.le_of_ble_eq_true rfl))

/-! the last word -/
theorem q_fin (C : CsOk cs) (B : Base w bl nw op x) {vs : List AV} {past : Nat} (h0 : 0 ≤ d) (hD : d + 1 ≤ D) (hD9 : D ≤ 900) (ht : t.length ≤ 800) (hv : vs.length ≤ 10)
    (H : ∀ tail ∈ tails, Good cs (t ++ tail) w (nw.length + bl.length) nw.length (.tup (vs ++ [.int (past : Int)]))) :
    WP cs D (sqN 16 bLquote) K (qS w op bl t (nw.length + bl.length) lk x due (.tup vs) s2 sp ot (.int (past : Int)) fl) d := by
  obtain ⟨tail, ht1, e⟩ := pick (cs := cs) (d := d) (ρ := qS w op bl t (nw.length + bl.length) lk x due (.tup vs) s2 sp ot (.int (past : Int)) fl) C tails rfl (Ev.tup (El.cons Ev.str (El.cons Ev.str (El.cons Ev.str (El.cons Ev.str El.nil)))) (Nat.le_of_ble_eq_true rfl)) (by decide) (by decide) h0 (by omega)
  have hlen : ∀ y ∈ tails, y.length ≤ 2 := by decide
  have := hlen tail ht1
  have hL := hL
  refine WP.ret (qRet B.l2 (Ev.bin (Ev.var rfl) e (addS (by omega))) (Ev.bin (Ev.var rfl) (Ev.tup (El.cons (Ev.var rfl) El.nil) (Nat.le_of_ble_eq_true rfl)) (if_pos (by simp only [List.length_cons, List.length_nil]; omega)))) (H tail ht1) (le1) (by exact (by assumption))

/-! the flags that are wrong -/
noncomputable def cmpL : E → E | .cmp _ a _ _ => a | e => e
noncomputable def compE : E → E | .comp a _ _ _ _ _ _ _ => a | e => e
noncomputable def compI : E → E | .comp _ _ _ _ a _ _ _ => a | e => e
noncomputable def flC : E := cmpL (iteC (sq1 (sqN 2 KB)))
noncomputable def ysOf (w f : List Nat) : List AV := (f.filter fun c => !(tbOf w).contains c).map fun c => .str [c]
noncomputable abbrev maskQ (w : List Nat) : List AV := [.unb, .str w, .unb, .unb, .unb, .unb, .unb, .unb, .unb, .unb, .unb, .unb, .unb, .unb, .unb, .unb, .unb, .unb, .unb]
theorem fl_k : ∀ w ∈ w4, ∀ f ∈ six, Kx (gT cs) (compI flC) (compE flC) 18 (maskQ w) (f.map fun c => .str [c]) d (ysOf w f) d ∧ cmpA .ne (.list (ysOf w f)) (.list []) = some (badF w f) := by
  intro w hw f hf
  simp only [List.mem_cons, List.not_mem_nil, or_false] at hw hf
  rcases hw with rfl | rfl | rfl | rfl <;> rcases hf with rfl | rfl | rfl | rfl | rfl | rfl <;> exact ⟨by kernel_rfl, by kernel_rfl⟩
theorem maskA_cons {fv : List Nat} {a : AV} {ρ : List AV} {i : Nat} (h : isOwn a = false) : maskA fv (a :: ρ) i = (if fv.contains i then a else .unb) :: maskA fv ρ (i + 1) := by
  cases a <;> first | rfl | cases h
structure NoOwn (v s2 sp ot pa : AV) : Prop where
  v : isOwn v = false
  s2 : isOwn s2 = false
  sp : isOwn sp = false
  ot : isOwn ot = false
  pa : isOwn pa = false
theorem fl_comp {f : List Nat} {st : Nat} (hw : w ∈ w4) (hf : f ∈ six) (N : NoOwn v s2 sp ot pa) : Et (gT cs) (qS w op bl t st lk x due v s2 sp ot pa (.str f)) d (iteC (sq1 (sqN 2 KB))) (badF w f) d := by
  have hm : maskA [1] (qS w op bl t st lk x due v s2 sp ot pa (.str f)) 0 = maskQ w := by
    unfold qS
    simp only [maskA_cons N.v, maskA_cons N.s2, maskA_cons N.sp, maskA_cons N.ot, maskA_cons N.pa, maskA_cons (show isOwn .cup = false from rfl), maskA_cons (show isOwn (.str _) = false from rfl) , maskA_cons (show isOwn (.int _) = false from rfl), maskA_cons (show isOwn .unb = false from rfl)]
    rfl
  have hl : f.length ≤ LIM := by
    have : ∀ y ∈ six, y.length ≤ 2 := by decide
    have := this f hf
    have := hL; exact (Nat.le_trans (by assumption) (Nat.le_of_ble_eq_true rfl))
  obtain ⟨k1, k2⟩ := fl_k (cs := cs) (d := d) w hw f hf
  exact Et.cmp (x := .list (ysOf w f)) (Ev.comp (Ev.var rfl) (show itemsA (.str f) = some (f.map fun c => .str [c]) from if_pos hl) (by rw [hm]; exact k1)) (Ev.lst El.nil (Nat.zero_le _)) k2
end
end Mine
namespace Mine
open PySem

section
variable {cs : List Int} {D d : Int} {w bl nw : List Nat} {op lk : Nat} {x : Trip} {due : Int} {t : List Nat} {v s2 sp ot pa fl : AV} {K : List AV → Int → Prop}
theorem six_len : ∀ y ∈ six, y.length ≤ 2 := by decide
theorem addT {a b : List AV} (h : a.length + b.length ≤ LIM) : binA .add (.tup a) (.tup b) = some (.tup (a ++ b)) := if_pos h
theorem isKnown : ∀ w ∈ w4, cmpA .isin (.str w) knownV = some true := by
  intro w hw
  simp only [List.mem_cons, List.not_mem_nil, or_false] at hw
  rcases hw with rfl | rfl | rfl | rfl <;> kernel_rfl
set_option tactic.hygienic true
theorem q_known (C : CsOk cs) (B : Base w bl nw op x) (hw : w ∈ w4) (h0 : 0 ≤ d) (hD : d + 2 ≤ D) (hD9 : D ≤ 900) (ht : t.length ≤ 700) (N : NoOwn v s2 sp ot .unb) {vs : List Nat → List AV} (hvl : ∀ f, (vs f).length ≤ 9)
    (hv : ∀ f ∈ six, ∀ (t' : List Nat) (pa : AV) (d : Int), Sx (gT cs) (qS w op bl t' (nw.length + bl.length) lk x due v s2 sp ot pa (.str f)) d (sq1 (sqN 3 KB)) (.next, qS w op bl t' (nw.length + bl.length) lk x due (.tup (vs f)) s2 sp ot pa (.str f)) d)
    (bad : ∀ f ∈ six, badF w f = true → Good cs (t ++ f ++ [59]) w (nw.length + bl.length) nw.length (.int (lineAt (t ++ f) t.length)))
    (ok : ∀ f ∈ six, badF w f = false → ∀ tail ∈ tails, Good cs (t ++ f ++ tail) w (nw.length + bl.length) nw.length (.tup (vs f ++ [.int ((t ++ f).length : Nat)]))) :
    WP cs D (sqN 14 bLquote) K (qS w op bl t (nw.length + bl.length) lk x due v s2 sp ot .unb fl) d := by
  have hL := hL
  refine WP.go (Sx.asg (Ev.bi (Ev.var rfl) (lenOf (by exact (Nat.le_trans (by assumption) (Nat.le_of_ble_eq_true rfl)))))) (Int.le_refl _) (WP.seq (WP.iteT (Et.cmp (Ev.var rfl) (Ev.call El.nil f_known) (isKnown w hw)) ?_))
  obtain ⟨f, hf, e⟩ := pick (cs := cs) (d := d) (ρ := qS w op bl t (nw.length + bl.length) lk x due v s2 sp ot (.int (t.length : Nat)) fl) C six rfl (Ev.tup (El.cons Ev.str (El.cons Ev.str (El.cons Ev.str (El.cons Ev.str (El.cons Ev.str (El.cons Ev.str El.nil)))))) (Nat.le_of_ble_eq_true rfl)) (by decide) (by decide) h0 (by omega)
  have hfl := six_len f hf
  have hlen : (t ++ f).length ≤ 702 := by rw [List.length_append]; omega
  refine WP.go (Sx.asg e) le1 (WP.go (Sx.asg (Ev.bin (Ev.var rfl) (Ev.var rfl) (addS (by omega)))) (Int.le_refl _) (WP.seq ?_))
  have N' : NoOwn v s2 sp ot (.int (t.length : Nat)) := ⟨N.v, N.s2, N.sp, N.ot, rfl⟩
  have fc := fl_comp (cs := cs) (d := d + 1) (op := op) (bl := bl) (t := t ++ f) (st := nw.length + bl.length) (lk := lk) (x := x) (due := due) hw hf N'
  cases hb : badF w f with
  | true =>
    rw [hb] at fc
    exact WP.iteT fc (WP.ret (qRet B.l2 (Ev.bin (Ev.var rfl) Ev.str (addS (by rw [List.length_cons, List.length_nil]; omega))) (Ev.call (El.cons (Ev.var rfl) (El.cons (Ev.var rfl) El.nil)) (f_row (by exact (Nat.le_trans (by assumption) (Nat.le_of_ble_eq_true rfl))) (by exact (Nat.le_trans (by assumption) (Nat.le_of_ble_eq_true rfl)))))) (bad f hf hb) (Int.le_refl _) (by omega))
  | false =>
    rw [hb] at fc
    refine WP.iteF fc (WP.nil ⟨Int.le_refl _, WP.go (hv f hf _ _ _) (Int.le_refl _) (WP.step (Sx.asg (Ev.bi (Ev.var rfl) (lenOf (by exact (Nat.le_trans (by assumption) (Nat.le_of_ble_eq_true rfl)))))) ⟨le1, ?_⟩)⟩)
    exact q_fin C B (by exact (Int.le_trans (by assumption) le1)) (by omega) hD9 (by exact (Nat.le_trans (by assumption) (Nat.le_of_ble_eq_true rfl))) (by have := hvl f; exact (Nat.le_trans (by assumption) (Nat.le_of_ble_eq_true rfl))) fun tail htl => ok f hf hb tail htl

/-! the value -/
noncomputable def vE : S := sq1 (sqN 3 KB)
theorem v_m {f : List Nat} {st : Nat} : Sx (gT cs) (qS [109] op bl t st lk x due .none s2 sp ot pa (.str f)) d vE (.next, qS [109] op bl t st lk x due (.tup [.str wMatch, .tup [.str x.1, .str f, .str [op]]]) s2 sp ot pa (.str f)) d :=
  Sx.asg (Ev.meth (Ev.dct (kk := [[109], [115]]) rfl (El.cons (Ev.tup (El.cons Ev.str (El.cons (Ev.tup (El.cons (Ev.var rfl) (El.cons (Ev.var rfl) (El.cons (Ev.var rfl) El.nil))) (Nat.le_of_ble_eq_true rfl)) El.nil)) (Nat.le_of_ble_eq_true rfl)) (El.cons (Ev.tup (El.cons Ev.str (El.cons (Ev.iteT (Et.cmp (Ev.var rfl) Ev.str rfl) (Ev.var rfl)) El.nil)) (Nat.le_of_ble_eq_true rfl)) El.nil)) ⟨rfl, Nat.le_of_ble_eq_true rfl, Nat.le_of_ble_eq_true rfl, by decide⟩) rfl (El.cons (Ev.var rfl) (El.cons (Ev.tup (El.cons Ev.str (El.cons (Ev.bin (Ev.orV (Eb.go rfl (Ev.var rfl) rfl (Eb.last (Ev.tup El.nil (Nat.le_of_ble_eq_true rfl))))) (Ev.tup (El.cons (Ev.var rfl) El.nil) (Nat.le_of_ble_eq_true rfl)) (addT (Nat.le_of_ble_eq_true rfl))) El.nil)) (Nat.le_of_ble_eq_true rfl)) El.nil)) rfl)
theorem v_tr {f o : List Nat} {st : Nat} : Sx (gT cs) (qS [116, 114] op bl t st lk x due (.tup [.str x.1, .str o]) s2 sp ot pa (.str f)) d vE (.next, qS [116, 114] op bl t st lk x due (.tup [.str wTrans, .tup [.str x.1, .str o, .str f]]) s2 sp ot pa (.str f)) d :=
  Sx.asg (Ev.meth (Ev.dct (kk := [[109], [115]]) rfl (El.cons (Ev.tup (El.cons Ev.str (El.cons (Ev.tup (El.cons (Ev.var rfl) (El.cons (Ev.var rfl) (El.cons (Ev.var rfl) El.nil))) (Nat.le_of_ble_eq_true rfl)) El.nil)) (Nat.le_of_ble_eq_true rfl)) (El.cons (Ev.tup (El.cons Ev.str (El.cons (Ev.iteT (Et.cmp (Ev.var rfl) Ev.str rfl) (Ev.var rfl)) El.nil)) (Nat.le_of_ble_eq_true rfl)) El.nil)) ⟨rfl, Nat.le_of_ble_eq_true rfl, Nat.le_of_ble_eq_true rfl, by decide⟩) rfl (El.cons (Ev.var rfl) (El.cons (Ev.tup (El.cons Ev.str (El.cons (Ev.bin (Ev.orV (Eb.stop rfl (Ev.var rfl) (t := true) rfl (by decide))) (Ev.tup (El.cons (Ev.var rfl) El.nil) (Nat.le_of_ble_eq_true rfl)) (addT (Nat.le_of_ble_eq_true rfl))) El.nil)) (Nat.le_of_ble_eq_true rfl)) El.nil)) rfl)
theorem v_y {f o : List Nat} {st : Nat} : Sx (gT cs) (qS [121] op bl t st lk x due (.tup [.str x.1, .str o]) s2 sp ot pa (.str f)) d vE (.next, qS [121] op bl t st lk x due (.tup [.str wTrans, .tup [.str x.1, .str o, .str f]]) s2 sp ot pa (.str f)) d :=
  Sx.asg (Ev.meth (Ev.dct (kk := [[109], [115]]) rfl (El.cons (Ev.tup (El.cons Ev.str (El.cons (Ev.tup (El.cons (Ev.var rfl) (El.cons (Ev.var rfl) (El.cons (Ev.var rfl) El.nil))) (Nat.le_of_ble_eq_true rfl)) El.nil)) (Nat.le_of_ble_eq_true rfl)) (El.cons (Ev.tup (El.cons Ev.str (El.cons (Ev.iteT (Et.cmp (Ev.var rfl) Ev.str rfl) (Ev.var rfl)) El.nil)) (Nat.le_of_ble_eq_true rfl)) El.nil)) ⟨rfl, Nat.le_of_ble_eq_true rfl, Nat.le_of_ble_eq_true rfl, by decide⟩) rfl (El.cons (Ev.var rfl) (El.cons (Ev.tup (El.cons Ev.str (El.cons (Ev.bin (Ev.orV (Eb.stop rfl (Ev.var rfl) (t := true) rfl (by decide))) (Ev.tup (El.cons (Ev.var rfl) El.nil) (Nat.le_of_ble_eq_true rfl)) (addT (Nat.le_of_ble_eq_true rfl))) El.nil)) (Nat.le_of_ble_eq_true rfl)) El.nil)) rfl)
theorem v_s {f o : List Nat} {st c : Nat} : Sx (gT cs) (qS [115] op bl t st lk x due (.tup [.str x.1, .str o]) (.str [c]) sp ot pa (.str f)) d vE (.next, qS [115] op bl t st lk x due (.tup [.str wSubst, .tup [.str x.1, .str o, .str f, .str (if c = op then [op] else [op, c])]]) (.str [c]) sp ot pa (.str f)) d := by
  have ei : ∀ {p1 p2 p3 p4 p5 p6 p7 p8 : Pos}, Ev (gT cs) (qS [115] op bl t st lk x due (.tup [.str x.1, .str o]) (.str [c]) sp ot pa (.str f)) d (.ite (.cmp .eq (.var 13 p1) (.var 2 p2) p3) (.var 2 p4) (.bin .add (.var 2 p5) (.var 13 p6) p7) p8) (.str (if c = op then [op] else [op, c])) d := by
    intros
    by_cases q : c = op
    · rw [if_pos q]; exact Ev.iteT (Et.cmp (Ev.var rfl) (Ev.var rfl) (eqS (by rw [q]))) (Ev.var rfl)
    · rw [if_neg q]; exact Ev.iteF (Et.cmp (Ev.var rfl) (Ev.var rfl) (neS1 q)) (Ev.bin (Ev.var rfl) (Ev.var rfl) (addS (Nat.le_of_ble_eq_true rfl)))
  exact Sx.asg (Ev.meth (Ev.dct (kk := [[109], [115]]) rfl (El.cons (Ev.tup (El.cons Ev.str (El.cons (Ev.tup (El.cons (Ev.var rfl) (El.cons (Ev.var rfl) (El.cons (Ev.var rfl) El.nil))) (Nat.le_of_ble_eq_true rfl)) El.nil)) (Nat.le_of_ble_eq_true rfl)) (El.cons (Ev.tup (El.cons Ev.str (El.cons (Ev.iteF (Et.cmp (Ev.var rfl) Ev.str rfl) (Ev.bin (Ev.var rfl) (Ev.tup (El.cons (Ev.var rfl) (El.cons ei El.nil)) (Nat.le_of_ble_eq_true rfl)) (addT (Nat.le_of_ble_eq_true rfl)))) El.nil)) (Nat.le_of_ble_eq_true rfl)) El.nil)) ⟨rfl, Nat.le_of_ble_eq_true rfl, Nat.le_of_ble_eq_true rfl, by decide⟩) rfl (El.cons (Ev.var rfl) (El.cons (Ev.tup (El.cons Ev.str (El.cons (Ev.bin (Ev.orV (Eb.stop rfl (Ev.var rfl) (t := true) rfl (by decide))) (Ev.tup (El.cons (Ev.var rfl) El.nil) (Nat.le_of_ble_eq_true rfl)) (addT (Nat.le_of_ble_eq_true rfl))) El.nil)) (Nat.le_of_ble_eq_true rfl)) El.nil)) rfl)
end
end Mine
namespace Mine
open PySem

noncomputable def T2 (nw bl : List Nat) (op : Nat) (x : Trip) : List Nat := nw ++ (bl ++ (op :: (x.1 ++ [closeOf op])))
section
variable {cs : List Int} {D d : Int} {w bl nw : List Nat} {op lk : Nat} {x : Trip} {due : Int} {t : List Nat} {v s2 sp ot pa fl : AV} {K : List AV → Int → Prop}

set_option tactic.hygienic false
theorem T2_len : (T2 nw bl op x).length = nw.length + bl.length + x.1.length + 2 := by unfold T2; simp only [List.length_append, List.length_cons, List.length_nil]; omega
theorem T2_le (B : Base w bl nw op x) : (T2 nw bl op x).length ≤ 34 := by rw [T2_len]; have := B.l1; have := B.l2; have := B.x1; omega
theorem T2_form (u : List Nat) : T2 nw bl op x ++ u = nw ++ (bl ++ (op :: (x.1 ++ closeOf op :: u))) := by unfold T2; simp
theorem T2_drop {u : List Nat} : (T2 nw bl op x ++ u).drop (nw.length + bl.length) = op :: x.1 ++ closeOf op :: u := by rw [T2_form, dropSt]; rfl
theorem T2_delim (B : Base w bl nw op x) {u : List Nat} (hu : (T2 nw bl op x ++ u).length ≤ 1000) : Fv cs "delimited" [.str (T2 nw bl op x ++ u), .int ((nw.length + bl.length : Nat) : Int)] d (.tup [.str x.1, .int ((T2 nw bl op x).length : Nat)]) d := by
  have := f_delim (cs := cs) (d := d) (op := op) (hs _ hu) T2_drop (fit_92 (fit_all op B.ho).2) (B.told.walk 1 (by decide))
  rwa [show nw.length + bl.length + x.1.length + 2 = (T2 nw bl op x).length from T2_len.symm] at this

theorem okW : ∀ w ∈ lawWords, okL w = true := by decide +kernel
theorem ok6 : ∀ f ∈ six, okL f = true ∧ (f.all fun c => wordSigns.contains c) = true := by decide +kernel
theorem okOp : ∀ c ∈ lawOpeners, okL [c] = true ∧ okL [closeOf c] = true := by decide +kernel
theorem tail_head : ∀ u ∈ tails, (u.head?.all fun c => !wordSigns.contains c) = true ∧ u.length ≤ 2 := by decide +kernel
theorem tail_h {u : List Nat} (hu : u ∈ tails) : ∀ c, u.head? = some c → wordSigns.contains c = false := by
  intro c hc
  have h := (tail_head u hu).1
  rw [hc] at h
  exact (Bool.not_eq_true' _).mp h

/-! words without flags -/
theorem q_plain (C : CsOk cs) (B : Base w bl nw op x) (hw : cmpA .isin (.str w) knownV = some false) (h0 : 0 ≤ d) (hD : d + 2 ≤ D) (hD9 : D ≤ 900) (ht : t.length ≤ 700) {vs : List AV} (hvl : vs.length ≤ 9)
    (ok : ∀ tail ∈ tails, Good cs (t ++ tail) w (nw.length + bl.length) nw.length (.tup (vs ++ [.int (t.length : Nat)]))) :
    WP cs D (sqN 14 bLquote) K (qS w op bl t (nw.length + bl.length) lk x due (.tup vs) s2 sp ot .unb fl) d :=
  WP.go (Sx.asg (Ev.bi (Ev.var rfl) (lenOf (by have := hL; exact (Nat.le_trans (by assumption) (Nat.le_of_ble_eq_true rfl)))))) (Int.le_refl _) (WP.go (Sx.iteF (Et.cmp (Ev.var rfl) (Ev.call El.nil f_known) hw) Sx.nil) (Int.le_refl _) (q_fin C B h0 (by omega) hD9 (by exact (Nat.le_trans (by assumption) (Nat.le_of_ble_eq_true rfl))) (by exact (Nat.le_trans (by assumption) (Nat.le_of_ble_eq_true rfl))) ok))

theorem okWs {l : List Nat} (h : l.all okC = true) : (∀ c ∈ l, ([32, 9, 10, 13, 12] : List Nat).contains c = blankA c) ∧ (l.all fun c => decide (c < 128)) = true := by
  refine ⟨fun c hc => ?_, List.all_eq_true.mpr fun c hc => ?_⟩
  · have := List.all_eq_true.mp h c hc
    unfold okC at this
    rw [Bool.and_eq_true] at this
    exact of_decide_eq_true this.1
  · have := List.all_eq_true.mp h c hc
    unfold okC at this
    rw [Bool.and_eq_true] at this
    exact this.2
theorem good_q (B : Base [113] bl nw op x) : ∀ tail ∈ tails, Good cs (T2 nw bl op x ++ tail) [113] (nw.length + bl.length) nw.length (.tup ([.str [115, 116, 114], .str x.2.2] ++ [.int ((T2 nw bl op x).length : Nat)])) := fun u hu => by
  have h1 := T2_le B
  have h2 := (tail_head u hu).2
  have hlen : (T2 nw bl op x ++ u).length ≤ 1000 := by rw [List.length_append]; omega
  exact goodMk B (T2_form u) (by have := B.x1; simp only [List.length_append, List.length_cons]; omega) (fun d => rd_q hlen T2_drop (T2_delim B hlen) (f_read_q (by have := B.x1; exact (Nat.le_trans (by assumption) (Nat.le_of_ble_eq_true rfl))) B.told.u2)) (due_str (by decide) B.told.sm.2.2)
theorem good_qq (B : Base [113, 113] bl nw op x) : ∀ tail ∈ tails, Good cs (T2 nw bl op x ++ tail) [113, 113] (nw.length + bl.length) nw.length (.tup ([.str [105, 110, 116, 101, 114, 112], .str x.2.1] ++ [.int ((T2 nw bl op x).length : Nat)])) := fun u hu => by
  have h1 := T2_le B
  have h2 := (tail_head u hu).2
  have hlen : (T2 nw bl op x ++ u).length ≤ 1000 := by rw [List.length_append]; omega
  exact goodMk B (T2_form u) (by have := B.x1; simp only [List.length_append, List.length_cons]; omega) (fun d => rd_qq hlen T2_drop (T2_delim B hlen) (f_unguarded (by have := B.x1; exact (Nat.le_trans (by assumption) (Nat.le_of_ble_eq_true rfl))) B.told.u1)) (due_str (by decide) B.told.sm.2.1)
theorem good_qw (B : Base [113, 119] bl nw op x) : ∀ tail ∈ tails, Good cs (T2 nw bl op x ++ tail) [113, 119] (nw.length + bl.length) nw.length (.tup ([.str [119, 111, 114, 100, 115], .list ((wordsA x.2.2 []).map .str)] ++ [.int ((T2 nw bl op x).length : Nat)])) := fun u hu => by
  have h1 := T2_le B
  have h2 := (tail_head u hu).2
  have hlen : (T2 nw bl op x ++ u).length ≤ 1000 := by rw [List.length_append]; omega
  exact goodMk B (T2_form u) (by have := B.x1; simp only [List.length_append, List.length_cons]; omega) (fun d => rd_qw hlen T2_drop (T2_delim B hlen) (f_unguarded (by have := B.x1; exact (Nat.le_trans (by assumption) (Nat.le_of_ble_eq_true rfl))) B.told.u1)
    (f_read_qw (by have := B.x2; exact (Nat.le_trans (by assumption) (Nat.le_of_ble_eq_true rfl))) (by have := B.x3; exact (Nat.le_trans (by assumption) (Nat.le_of_ble_eq_true rfl))) B.told.u3 (okWs B.told.ch).1)) (due_words (by decide) (words_ok B.told.sm.2.2 rfl))

/-! flags -/
theorem lineAt_app {t u : List Nat} {a : Nat} (h : a ≤ t.length) : lineAt (t ++ u) a = lineAt t a := by
  unfold lineAt; rw [List.take_append_of_le_length h]
theorem fl_yes {kind f u : List Nat} (hk : ∀ d, idxA cs flagsV (.str kind) d = some (.ok (.str (tbOf w)), d)) (hf : f ∈ six) (hu : u ∈ tails) (hl : (t ++ f ++ u).length ≤ 1000) (hb : badF w f = false) :
    Fv cs "flags_token" [.str (t ++ f ++ u), .int (t.length : Nat), .str kind] d (.tup [.str f, .int ((t ++ f).length : Nat)]) d := by
  have := f_flags (cs := cs) (d := d) (t := t ++ f ++ u) (a := t.length) (fl := f) (r := u) (hk d) hl (by rw [List.append_assoc, List.drop_left]) (by simp only [List.length_append]; omega) (fun c hc => List.all_eq_true.mp (ok6 f hf).2 c hc) (tail_h hu) (by simpa [badF] using hb)
  rwa [show t.length + f.length = (t ++ f).length by rw [List.length_append]] at this
theorem fl_no {kind f u : List Nat} (hk : ∀ d, idxA cs flagsV (.str kind) d = some (.ok (.str (tbOf w)), d)) (hf : f ∈ six) (hu : u ∈ tails) (hl : (t ++ f ++ u).length ≤ 1000) (hb : badF w f = true) :
    Fe cs "flags_token" [.str (t ++ f ++ u), .int (t.length : Nat), .str kind] d (lineAt (t ++ f) t.length) d := by
  have := x_flags (cs := cs) (d := d) (t := t ++ f ++ u) (a := t.length) (fl := f) (r := u) (hk d) hl (by rw [List.append_assoc, List.drop_left]) (by simp only [List.length_append]; omega) (fun c hc => List.all_eq_true.mp (ok6 f hf).2 c hc) (tail_h hu) (by unfold badF at hb; rwa [Bool.not_eq_true'] at hb)
  rwa [lineAt_app (by rw [List.length_append]; omega)] at this
theorem kM (d : Int) : idxA cs flagsV (.str wMatch) d = some (.ok (.str (tbOf [109])), d) := by kernel_rfl
theorem kS (d : Int) : idxA cs flagsV (.str wSubst) d = some (.ok (.str (tbOf [115])), d) := by kernel_rfl
theorem kT (d : Int) : idxA cs flagsV (.str wTrans) d = some (.ok (.str (tbOf [116, 114])), d) := by kernel_rfl
theorem kY (d : Int) : idxA cs flagsV (.str wTrans) d = some (.ok (.str (tbOf [121])), d) := by kernel_rfl

theorem good_m (B : Base [109] bl nw op x) : (∀ f ∈ six, badF [109] f = true → Good cs (T2 nw bl op x ++ f ++ [59]) [109] (nw.length + bl.length) nw.length (.int (lineAt (T2 nw bl op x ++ f) (T2 nw bl op x).length))) ∧
    (∀ f ∈ six, badF [109] f = false → ∀ tail ∈ tails, Good cs (T2 nw bl op x ++ f ++ tail) [109] (nw.length + bl.length) nw.length (.tup ([.str wMatch, .tup [.str x.1, .str f, .str [op]]] ++ [.int ((T2 nw bl op x ++ f).length : Nat)]))) := by
  have h1 := T2_le B
  have hx := B.x1
  refine ⟨fun f hf hb => ?_, fun f hf hb u hu => ?_⟩
  · have h2 := six_len f hf
    have hlen : (T2 nw bl op x ++ f ++ [59]).length ≤ 1000 := by simp only [List.length_append, List.length_cons, List.length_nil]; omega
    refine goodMk B (u := x.1 ++ closeOf op :: (f ++ [59])) (by rw [List.append_assoc, T2_form]) (by simp only [List.length_append, List.length_cons, List.length_nil]; omega) (fun d => rx_m ?_) due_int
    exact x_match2 (by have := T2_delim (cs := cs) (d := d) B (u := f ++ [59]) (by rwa [← List.append_assoc]); rwa [← List.append_assoc] at this) (fl_no kM hf (by decide) hlen hb)
  · have h2 := six_len f hf
    have h3 := (tail_head u hu).2
    have hlen : (T2 nw bl op x ++ f ++ u).length ≤ 1000 := by simp only [List.length_append]; omega
    refine goodMk B (u := x.1 ++ closeOf op :: (f ++ u)) (by rw [List.append_assoc, T2_form]) (by simp only [List.length_append, List.length_cons]; omega) (fun d => rd_m ?_) (due_3 (by decide) B.told.sm.1 (ok6 f hf).1 (okOp op B.ho).1)
    exact f_match hlen (by rw [List.append_assoc]; exact T2_drop) (by have := T2_delim (cs := cs) (d := d) B (u := f ++ u) (by rwa [← List.append_assoc]); rwa [← List.append_assoc] at this) (fl_yes kM hf hu hlen hb)
end
end Mine
namespace Mine
open PySem

noncomputable abbrev w3 : List (List Nat) := [[115], [116, 114], [121]]
noncomputable def kindW (w : List Nat) : List Nat := if w = [115] then wSubst else wTrans
noncomputable def vsW (w raw other f : List Nat) (op c : Nat) : List AV := if w = [115] then [.str wSubst, .tup [.str raw, .str other, .str f, .str (if c = op then [op] else [op, c])]] else [.str wTrans, .tup [.str raw, .str other, .str f]]
section
variable {cs : List Int} {D d : Int} {w bl nw : List Nat} {op lk c : Nat} {x y : Trip} {due : Int} {t T0 : List Nat} {v s2 sp ot pa fl : AV} {K : List AV → Int → Prop} {o : Nat}
theorem rx_any (hw : w ∈ lawWords) {l : Int} (h : Fe cs "delimited" [.str t, .int (o : Int)] d l d) : Fv cs "_law_read" [.str t, .str w, .int (o : Int)] d (.int l) d := by
  simp only [List.mem_cons, List.not_mem_nil, or_false] at hw
  rcases hw with rfl | rfl | rfl | rfl | rfl | rfl | rfl
  · exact rx_q h
  · exact rx_qq h
  · exact rx_qw h
  · exact rx_m (x_match1 h)
  · exact rx_s (x_subst1 h)
  · exact rx_tr (x_trans1 h)
  · exact rx_y (x_trans1 h)
theorem rx_sec (hw : w ∈ w3) {inner : List Nat} {b l : Int} (hd : Fv cs "delimited" [.str t, .int (o : Int)] d (.tup [.str inner, .int b]) d) (h2 : Fe cs "second_part" [.str t, .int (o : Int), .int b] d l d) : Fv cs "_law_read" [.str t, .str w, .int (o : Int)] d (.int l) d := by
  simp only [List.mem_cons, List.not_mem_nil, or_false] at hw
  rcases hw with rfl | rfl | rfl
  · exact rx_s (x_subst2 hd h2)
  · exact rx_tr (x_trans2 hd h2)
  · exact rx_y (x_trans2 hd h2)
theorem rx_flag (hw : w ∈ w3) {inner other : List Nat} {b b2 l : Int} (hd : Fv cs "delimited" [.str t, .int (o : Int)] d (.tup [.str inner, .int b]) d) (h2 : Fv cs "second_part" [.str t, .int (o : Int), .int b] d (.tup [.str other, .int b2, .str [c]]) d)
    (hf : Fe cs "flags_token" [.str t, .int b2, .str (kindW w)] d l d) : Fv cs "_law_read" [.str t, .str w, .int (o : Int)] d (.int l) d := by
  simp only [List.mem_cons, List.not_mem_nil, or_false] at hw
  rcases hw with rfl | rfl | rfl
  · exact rx_s (x_subst3 hd h2 hf)
  · exact rx_tr (x_trans3 hd h2 hf)
  · exact rx_y (x_trans3 hd h2 hf)
theorem rd_w3 (hw : w ∈ w3) {r inner other f : List Nat} {b b2 e : Int} (ht : t.length ≤ 1000) (h : t.drop o = op :: r) (hd : Fv cs "delimited" [.str t, .int (o : Int)] d (.tup [.str inner, .int b]) d) (h2 : Fv cs "second_part" [.str t, .int (o : Int), .int b] d (.tup [.str other, .int b2, .str [c]]) d)
    (hf : Fv cs "flags_token" [.str t, .int b2, .str (kindW w)] d (.tup [.str f, .int e]) d) : Fv cs "_law_read" [.str t, .str w, .int (o : Int)] d (.tup (vsW w inner other f op c ++ [.int e])) d := by
  simp only [List.mem_cons, List.not_mem_nil, or_false] at hw
  rcases hw with rfl | rfl | rfl
  · exact rd_s (f_subst ht h hd h2 hf)
  · exact rd_tr (f_trans hd h2 hf)
  · exact rd_y (f_trans hd h2 hf)
theorem kW (hw : w ∈ w3) (d : Int) : idxA cs flagsV (.str (kindW w)) d = some (.ok (.str (tbOf w)), d) := by
  simp only [List.mem_cons, List.not_mem_nil, or_false] at hw
  rcases hw with rfl | rfl | rfl
  · exact kS d
  · exact kT d
  · exact kY d
theorem dueW (hw : w ∈ w3) {a b f : List Nat} {n : Int} (h1 : okL a = true) (h2 : okL b = true) (h3 : okL f = true) (h4 : okL [op] = true) (h5 : okL [c] = true) : cmpA .ne (.tup (vsW w a b f op c ++ [.int n])) (.tup (vsW w a b f op c ++ [.int n])) = some false := by
  simp only [List.mem_cons, List.not_mem_nil, or_false] at hw
  rcases hw with rfl | rfl | rfl
  · refine due_4 (by decide) h1 h2 h3 ?_
    split
    · exact h4
    · exact okL_app (a := [op]) h4 h5
  · exact due_3 (by decide) h1 h2 h3
  · exact due_3 (by decide) h1 h2 h3
set_option tactic.hygienic true
theorem v_w3 (hw : w ∈ w3) {f o : List Nat} {st : Nat} : Sx (gT cs) (qS w op bl t st lk x due (.tup [.str x.1, .str o]) (.str [c]) sp ot pa (.str f)) d vE (.next, qS w op bl t st lk x due (.tup (vsW w x.1 o f op c)) (.str [c]) sp ot pa (.str f)) d := by
  simp only [List.mem_cons, List.not_mem_nil, or_false] at hw
  rcases hw with rfl | rfl | rfl
  · exact v_s
  · exact v_tr
  · exact v_y

/-- where the second part begins -/
structure Sec (cs : List Int) (nw bl : List Nat) (op : Nat) (x : Trip) (T0 : List Nat) (c : Nat) : Prop where
  hc : c ∈ lawOpeners
  len : T0.length ≤ 60
  form : ∀ u, ∃ r, T0 ++ c :: u = T2 nw bl op x ++ r
  ok : ∀ u d inner (e : Int), (T0 ++ c :: u).length ≤ 1000 → Fv cs "delimited" [.str (T0 ++ c :: u), .int (T0.length : Nat)] d (.tup [.str inner, .int e]) d →
    Fv cs "second_part" [.str (T0 ++ c :: u), .int ((nw.length + bl.length : Nat) : Int), .int ((T2 nw bl op x).length : Nat)] d (.tup [.str inner, .int e, .str [c]]) d
  no : ∀ u d (l : Int), (T0 ++ c :: u).length ≤ 1000 → Fe cs "delimited" [.str (T0 ++ c :: u), .int (T0.length : Nat)] d l d →
    Fe cs "second_part" [.str (T0 ++ c :: u), .int ((nw.length + bl.length : Nat) : Int), .int ((T2 nw bl op x).length : Nat)] d l d

set_option tactic.hygienic false
theorem open_iff : ∀ op ∈ lawOpeners, openingSigns.contains op = !decide (closeOf op = op) := by decide +kernel
theorem secSame (B : Base w bl nw op x) (h : closeOf op = op) : Sec cs nw bl op x (nw ++ (bl ++ (op :: x.1))) op := by
  have ho : openingSigns.contains op = false := by rw [open_iff op B.ho, decide_eq_true h]; rfl
  have e : ∀ u, nw ++ (bl ++ (op :: x.1)) ++ op :: u = T2 nw bl op x ++ u := fun u => by unfold T2; rw [h]; simp
  have el : (T2 nw bl op x).length = (nw ++ (bl ++ (op :: x.1))).length + 1 := by rw [T2_len]; simp only [List.length_append, List.length_cons]; omega
  have hx := T2_le B
  refine ⟨B.ho, by omega, fun u => ⟨u, e u⟩, fun u d inner z hl hd => ?_, fun u d l hl hd => ?_⟩
  · rw [el]
    exact f_secA hl (r := x.1 ++ closeOf op :: u) (by rw [e, T2_drop]; rfl) ho hd
  · rw [el]
    exact x_secA hl (r := x.1 ++ closeOf op :: u) (by rw [e, T2_drop]; rfl) ho hd
noncomputable abbrev gaps : List (List Nat) := [[], [10, 32]]
noncomputable abbrev seconds : List (List Nat) := [[123], [47], [60]]
theorem gap_ok : ∀ g ∈ gaps, (g.all fun c => blankSigns.contains c) = true ∧ g.length ≤ 2 := by decide +kernel
theorem sec_ok : ∀ s ∈ seconds, ∃ c ∈ lawOpeners, s = [c] ∧ c ≠ 35 := by
  intro s hs
  simp only [List.mem_cons, List.not_mem_nil, or_false] at hs
  rcases hs with rfl | rfl | rfl
  · exact ⟨123, by decide, rfl, by decide⟩
  · exact ⟨47, by decide, rfl, by decide⟩
  · exact ⟨60, by decide, rfl, by decide⟩
theorem secOther (B : Base w bl nw op x) (h : closeOf op ≠ op) {g : List Nat} (hg : g ∈ gaps) (hc : c ∈ lawOpeners) (h35 : c ≠ 35) : Sec cs nw bl op x (T2 nw bl op x ++ g) c := by
  have ho : openingSigns.contains op = true := by rw [open_iff op B.ho, decide_eq_false h]; rfl
  have hx := T2_le B
  obtain ⟨g1, g2⟩ := gap_ok g hg
  have hb : ∀ u d, (T2 nw bl op x ++ g ++ c :: u).length ≤ 1000 → Fv cs "behind_blanks" [.str (T2 nw bl op x ++ g ++ c :: u), .int ((T2 nw bl op x).length : Nat)] d (.int ((T2 nw bl op x ++ g).length : Nat)) d := fun u d hl => by
    have := f_behind (cs := cs) (d := d) (t := T2 nw bl op x ++ g ++ c :: u) (a := (T2 nw bl op x).length) (gap := g) (r := c :: u) hl (by rw [List.append_assoc, List.drop_left]) (by simp only [List.length_append]; omega) (fun z hz => List.all_eq_true.mp g1 z hz) (fun z hz => by cases hz; exact fit_blank (fit_all c hc).1) (by intro q; cases q; exact h35 rfl)
    rwa [show (T2 nw bl op x).length + g.length = (T2 nw bl op x ++ g).length by rw [List.length_append]] at this
  have hd : ∀ u, (T2 nw bl op x ++ g ++ c :: u).drop (nw.length + bl.length) = op :: (x.1 ++ closeOf op :: (g ++ c :: u)) := fun u => by rw [List.append_assoc, T2_drop]; rfl
  refine ⟨hc, by rw [List.length_append]; omega, fun u => ⟨g ++ c :: u, by rw [List.append_assoc]⟩, fun u d inner z hl h1 => ?_, fun u d l hl h1 => ?_⟩
  · exact f_secB hl (hd u) ho (hb u d hl) (List.drop_left) h1
  · exact x_secB hl (hd u) ho (hb u d hl) (List.drop_left) h1

noncomputable def T6 (T0 : List Nat) (c : Nat) (y : Trip) : List Nat := T0 ++ c :: (y.1 ++ [closeOf c])
theorem T6_form (u : List Nat) : T6 T0 c y ++ u = T0 ++ c :: (y.1 ++ closeOf c :: u) := by unfold T6; simp
theorem T6_len : (T6 T0 c y).length = T0.length + y.1.length + 2 := by unfold T6; simp only [List.length_append, List.length_cons, List.length_nil]; omega
theorem T6_delim (S : Sec cs nw bl op x T0 c) (hy : Told c y) {u : List Nat} (hu : (T6 T0 c y ++ u).length ≤ 1000) : Fv cs "second_part" [.str (T6 T0 c y ++ u), .int ((nw.length + bl.length : Nat) : Int), .int ((T2 nw bl op x).length : Nat)] d (.tup [.str y.1, .int ((T6 T0 c y).length : Nat), .str [c]]) d := by
  rw [T6_form] at hu ⊢
  refine S.ok _ d _ _ hu ?_
  have := f_delim (cs := cs) (d := d) (t := T0 ++ c :: (y.1 ++ closeOf c :: u)) (at_ := T0.length) (op := c) (l := y.1) (rest := u) (hs _ hu) (by rw [List.drop_left]; rfl) (fit_92 (fit_all c S.hc).2) (hy.walk 1 (by decide))
  rwa [← T6_len] at this

theorem Sec.good (B : Base w bl nw op x) (S : Sec cs nw bl op x T0 c) {u : List Nat} {due : AV} (hu : u.length ≤ 100) (rd : ∀ d, Fv cs "_law_read" [.str (T0 ++ c :: u), .str w, .int ((nw.length + bl.length : Nat) : Int)] d due d) (hd : cmpA .ne due due = some false) :
    Good cs (T0 ++ c :: u) w (nw.length + bl.length) nw.length due := by
  obtain ⟨r, e⟩ := S.form u
  have h1 := S.len
  have h2 := congrArg List.length e
  rw [List.length_append, List.length_append, T2_len, List.length_cons] at h2
  exact goodMk B (by rw [e, T2_form]) (by rw [List.length_append, List.length_cons]; omega) rd hd
theorem Sec.delim (B : Base w bl nw op x) (S : Sec cs nw bl op x T0 c) {u : List Nat} (hu : u.length ≤ 100) : (T0 ++ c :: u).length ≤ 1000 ∧ Fv cs "delimited" [.str (T0 ++ c :: u), .int ((nw.length + bl.length : Nat) : Int)] d (.tup [.str x.1, .int ((T2 nw bl op x).length : Nat)]) d ∧ ∃ r, (T0 ++ c :: u).drop (nw.length + bl.length) = op :: r := by
  have hl : (T0 ++ c :: u).length ≤ 1000 := by have := S.len; rw [List.length_append, List.length_cons]; omega
  obtain ⟨r, e⟩ := S.form u
  refine ⟨hl, ?_, x.1 ++ closeOf op :: r, by rw [e, T2_drop]; rfl⟩
  rw [e] at hl ⊢
  exact T2_delim B hl
end
end Mine
namespace Mine
open PySem

noncomputable def SB : S := iteA (sq1 (sqN 13 bLquote))
section
variable {cs : List Int} {D d : Int} {w bl nw : List Nat} {op lk c : Nat} {x y : Trip} {due : Int} {t T0 : List Nat} {v s2 sp ot pa fl : AV} {K : List AV → Int → Prop}
theorem good5 (B : Base w bl nw op x) (hw : w ∈ w3) (S : Sec cs nw bl op x T0 c) (hy : Told c y) (hl : y.1.length ≤ 12) : Good cs (T0 ++ c :: y.1) w (nw.length + bl.length) nw.length (.int (lineAt (T0 ++ c :: y.1) T0.length)) :=
  S.good B (by exact (Nat.le_trans (by assumption) (Nat.le_of_ble_eq_true rfl))) (fun d => rx_sec hw (S.delim B (by exact (Nat.le_trans (by assumption) (Nat.le_of_ble_eq_true rfl)))).2.1 (S.no _ d _ (S.delim (d := d) B (by exact (Nat.le_trans (by assumption) (Nat.le_of_ble_eq_true rfl)))).1 (x_delim (op := c) (l := y.1) (hs _ (S.delim (d := d) B (by exact (Nat.le_trans (by assumption) (Nat.le_of_ble_eq_true rfl)))).1) List.drop_left (hy.walk 1 (by decide))))) due_int
theorem good6 (B : Base w bl nw op x) (hw : w ∈ w3) (S : Sec cs nw bl op x T0 c) (hy : Told c y) (hl : y.1.length ≤ 12) :
    (∀ f ∈ six, badF w f = true → Good cs (T6 T0 c y ++ f ++ [59]) w (nw.length + bl.length) nw.length (.int (lineAt (T6 T0 c y ++ f) (T6 T0 c y).length))) ∧
    (∀ f ∈ six, badF w f = false → ∀ tail ∈ tails, Good cs (T6 T0 c y ++ f ++ tail) w (nw.length + bl.length) nw.length (.tup (vsW w x.1 y.1 f op c ++ [.int ((T6 T0 c y ++ f).length : Nat)]))) := by
  have key : ∀ f ∈ six, ∀ u ∈ tails, ∀ due, (∀ d, (T6 T0 c y ++ f ++ u).length ≤ 1000 → Fv cs "delimited" [.str (T6 T0 c y ++ f ++ u), .int ((nw.length + bl.length : Nat) : Int)] d (.tup [.str x.1, .int ((T2 nw bl op x).length : Nat)]) d →
      (∃ r, (T6 T0 c y ++ f ++ u).drop (nw.length + bl.length) = op :: r) →
      Fv cs "second_part" [.str (T6 T0 c y ++ f ++ u), .int ((nw.length + bl.length : Nat) : Int), .int ((T2 nw bl op x).length : Nat)] d (.tup [.str y.1, .int ((T6 T0 c y).length : Nat), .str [c]]) d →
      Fv cs "_law_read" [.str (T6 T0 c y ++ f ++ u), .str w, .int ((nw.length + bl.length : Nat) : Int)] d due d) → cmpA .ne due due = some false → Good cs (T6 T0 c y ++ f ++ u) w (nw.length + bl.length) nw.length due := fun f hf u hu due rd hd => by
    have h2 := six_len f hf
    have h3 := (tail_head u hu).2
    have hlu : (y.1 ++ closeOf c :: (f ++ u)).length ≤ 100 := by simp only [List.length_append, List.length_cons]; omega
    have e : T6 T0 c y ++ f ++ u = T0 ++ c :: (y.1 ++ closeOf c :: (f ++ u)) := by rw [List.append_assoc, T6_form]
    have g := S.good (w := w) B (u := y.1 ++ closeOf c :: (f ++ u)) (due := due) hlu
    rw [← e] at g
    refine g (fun d => ?_) hd
    obtain ⟨a1, a2, a3⟩ := S.delim (d := d) B (u := y.1 ++ closeOf c :: (f ++ u)) hlu
    rw [← e] at a1 a2 a3
    refine rd d a1 a2 a3 ?_
    have := T6_delim (d := d) S hy (u := f ++ u) (by rwa [← List.append_assoc])
    rwa [← List.append_assoc] at this
  refine ⟨fun f hf hb => key f hf [59] (by decide) _ (fun d hl hd _ h2 => rx_flag hw hd h2 (fl_no (kW hw) hf (by decide) hl hb)) due_int, fun f hf hb u hu => key f hf u hu _ (fun d hl hd h h2 => ?_) (dueW hw B.told.sm.1 hy.sm.1 (ok6 f hf).1 (okOp op B.ho).1 (okOp c S.hc).1)⟩
  obtain ⟨r, h⟩ := h
  exact rd_w3 hw hl h hd h2 (fl_yes (kW hw) hf hu hl hb)

theorem w3_4 : ∀ w ∈ w3, w ∈ w4 := by decide +kernel
theorem vsW_len {a b f : List Nat} : (vsW w a b f op c).length ≤ 9 := by unfold vsW; split <;> exact Nat.le_of_ble_eq_true rfl
/-- from the other part on -/
theorem q_other (C : CsOk cs) (B : Base w bl nw op x) (hw : w ∈ w3) (S : Sec cs nw bl op x T0 c) (h0 : 0 ≤ d) (hD : d + 7 ≤ D) (hD9 : D ≤ 900) :
    WP cs D (sqN 3 SB) (fun ρ1 d1 => d ≤ d1 ∧ WP cs D (sqN 14 bLquote) K ρ1 d1) (qS w op bl (T0 ++ [c]) (nw.length + bl.length) lk x due .none (.str [c]) (.int (T0.length : Nat)) .unb .unb fl) d := by
  have hL := hL
  obtain ⟨y, d1, e1, e2, hy, y1, y2, y3, hf⟩ := f_told (cs := cs) (d := d) C S.hc h0 (by omega)
  have h1 := S.len
  have e5 : T0 ++ [c] ++ y.1 = T0 ++ c :: y.1 := by simp
  have e6 : T0 ++ c :: y.1 ++ [closeOf c] = T6 T0 c y := by unfold T6; simp
  have ha := addS (a := T0 ++ [c]) (b := y.1) (by simp only [List.length_append, List.length_cons, List.length_nil]; omega)
  rw [e5] at ha
  have hb := addS (a := T0 ++ c :: y.1) (b := [closeOf c]) (by simp only [List.length_append, List.length_cons, List.length_nil]; omega)
  rw [e6] at hb
  refine WP.go (Sx.asg (Ev.idx (Ev.call (El.cons (Ev.var rfl) (El.cons (Ev.var rfl) El.nil)) hf) Ev.num rfl)) e1 (WP.go (Sx.asg (Ev.bin (Ev.var rfl) (Ev.var rfl) ha)) (Int.le_refl _) (WP.seq ?_))
  by_cases h5 : lk = 5
  · refine WP.iteT (Et.cmp (Ev.var rfl) Ev.num (eqI (by omega))) (WP.ret (qRet B.l2 (Ev.var rfl) (Ev.call (El.cons (Ev.var rfl) (El.cons (Ev.var rfl) El.nil)) (f_row ?_ ?_))) (good5 B hw S hy y1) (Int.le_refl _) (by omega))
    · simp only [List.length_append, List.length_cons]; omega
    · exact (Nat.le_trans (by assumption) (Nat.le_of_ble_eq_true rfl))
  · refine WP.iteF (Et.cmp (Ev.var rfl) Ev.num (neI (by omega))) (WP.nil ⟨Int.le_refl _, WP.go (Sx.asg (Ev.bin (Ev.var rfl) (Ev.meth (Ev.call El.nil f_closers) rfl (El.cons (Ev.var rfl) (El.cons (Ev.var rfl) El.nil)) (closeGet c)) hb)) (Int.le_refl _)
      (WP.step (Sx.asg (Ev.tup (El.cons (Ev.var rfl) (El.cons (Ev.var rfl) El.nil)) (Nat.le_of_ble_eq_true rfl))) ⟨e1, ?_⟩)⟩)
    obtain ⟨g1, g2⟩ := good6 B hw S hy y1
    exact q_known C B (w3_4 w hw) (by omega) (by omega) hD9 (by rw [T6_len]; omega) ⟨rfl, rfl, rfl, rfl, rfl⟩ (vs := fun f => vsW w x.1 y.1 f op c) (fun f => vsW_len) (fun f hf t' pa d => v_w3 hw) g1 g2
end
end Mine
namespace Mine
open PySem

noncomputable def T1 (nw bl : List Nat) (op : Nat) (x : Trip) : List Nat := nw ++ (bl ++ (op :: x.1))
section
variable {cs : List Int} {D d : Int} {w bl nw : List Nat} {op lk c : Nat} {x y : Trip} {due : Int} {t T0 : List Nat} {v s2 sp ot pa fl : AV} {K : List AV → Int → Prop}
theorem T2_1 : T2 nw bl op x = T1 nw bl op x ++ [closeOf op] := by unfold T2 T1; simp
theorem T1_len : (T1 nw bl op x).length = nw.length + bl.length + x.1.length + 1 := by unfold T1; simp only [List.length_append, List.length_cons]; omega
theorem T2_line {u : List Nat} : lineAt (T2 nw bl op x ++ u) (nw.length + bl.length) = lineAt (T1 nw bl op x) (nw.length + bl.length) := by
  rw [T2_1, List.append_assoc, lineAt_app (by rw [T1_len]; omega)]
theorem good7 (B : Base w bl nw op x) : Good cs (T1 nw bl op x) w (nw.length + bl.length) nw.length (.int (lineAt (T1 nw bl op x) (nw.length + bl.length))) := by
  have hl : (T1 nw bl op x).length ≤ 1000 := by rw [T1_len]; have := B.l1; have := B.l2; have := B.x1; omega
  exact goodMk B (u := x.1) rfl (by have := B.x1; exact (Nat.le_trans (by assumption) (Nat.le_of_ble_eq_true rfl))) (fun d => rx_any B.wd (x_delim (op := op) (l := x.1) (hs _ hl) dropSt (B.told.walk 1 (by decide)))) due_int
theorem good6l (B : Base w bl nw op x) (hw : w ∈ w3) (h : closeOf op ≠ op) : Good cs (T2 nw bl op x ++ [32, 10]) w (nw.length + bl.length) nw.length (.int (lineAt (T1 nw bl op x) (nw.length + bl.length))) := by
  have hx := T2_le B
  have hl : (T2 nw bl op x ++ [32, 10]).length ≤ 1000 := by simp only [List.length_append, List.length_cons, List.length_nil]; omega
  have ho : openingSigns.contains op = true := by rw [open_iff op B.ho, decide_eq_false h]; rfl
  refine goodMk B (T2_form _) (by have := B.x1; simp only [List.length_append, List.length_cons, List.length_nil]; omega) (fun d => rx_sec hw (T2_delim B hl) ?_) due_int
  have hb := f_behind (cs := cs) (d := d) (t := T2 nw bl op x ++ [32, 10]) (a := (T2 nw bl op x).length) (gap := [32, 10]) (r := []) hl (by rw [List.drop_left]; rfl) (by simp only [List.length_append]; omega) (by decide) (fun c hc => by cases hc) (by intro q; cases q)
  have := x_secN (cs := cs) (d := d) (t := T2 nw bl op x ++ [32, 10]) (o := nw.length + bl.length) hl (T2_drop (u := [32, 10])) ho hb (by simp only [List.length_append, List.length_cons, List.length_nil]; exact Nat.le_refl _)
  rwa [T2_line] at this

theorem q_w3 (C : CsOk cs) (B : Base w bl nw op x) (hw : w ∈ w3) (h0 : 0 ≤ d) (hD : d + 9 ≤ D) (hD9 : D ≤ 900) :
    WP cs D (sqN 13 bLquote) K (qS w op bl (T2 nw bl op x) (nw.length + bl.length) lk x (lineAt (T1 nw bl op x) (nw.length + bl.length)) .none .unb .unb .unb .unb fl) d := by
  have hL := hL
  have hx := T2_le B
  have hisin : cmpA .isin (.str w) (.tup [.str [115], .str [116, 114], .str [121]]) = some true := by
    simp only [List.mem_cons, List.not_mem_nil, or_false] at hw
    rcases hw with rfl | rfl | rfl <;> kernel_rfl
  have hsub : binA .sub (.int ((T2 nw bl op x).length : Nat)) (.int 1) = some (.int ((T1 nw bl op x).length : Nat)) := by
    rw [T2_1, show (T1 nw bl op x ++ [closeOf op]).length = (T1 nw bl op x).length + 1 by simp]
    exact subN
  refine WP.seq (WP.iteT (Et.cmp (Ev.var rfl) (Ev.tup (El.cons Ev.str (El.cons Ev.str (El.cons Ev.str El.nil))) (Nat.le_of_ble_eq_true rfl)) hisin) ?_)
  refine WP.go (Sx.asg (Ev.var rfl)) (Int.le_refl _) (WP.go (Sx.asg (Ev.bin (Ev.bi (Ev.var rfl) (lenOf (by exact (Nat.le_trans (by assumption) (Nat.le_of_ble_eq_true rfl))))) Ev.num hsub)) (Int.le_refl _) (WP.seq ?_))
  by_cases h : closeOf op = op
  · refine WP.iteF (Et.cmp (Ev.var rfl) (Ev.var rfl) (neF (by rw [h]))) (WP.nil ⟨Int.le_refl _, ?_⟩)
    have S := secSame (cs := cs) B h
    have := q_other (K := K) (fl := fl) (lk := lk) (due := lineAt (T1 nw bl op x) (nw.length + bl.length)) C B hw S h0 (by omega) hD9
    rwa [show nw ++ (bl ++ (op :: x.1)) ++ [op] = T2 nw bl op x by unfold T2; rw [h]; simp] at this
  · refine WP.iteT (Et.cmp (Ev.var rfl) (Ev.var rfl) (neT (by simpa using h))) (WP.seq ?_)
    by_cases h6 : lk = 6
    · exact WP.iteT (Et.cmp (Ev.var rfl) Ev.num (eqI (by omega))) (WP.ret (qRet B.l2 (Ev.bin (Ev.var rfl) Ev.str (addS (by simp only [List.length_cons, List.length_nil]; omega))) (Ev.var rfl)) (good6l B hw h) (Int.le_refl _) (by omega))
    · refine WP.iteF (Et.cmp (Ev.var rfl) Ev.num (neI (by omega))) (WP.nil ⟨Int.le_refl _, ?_⟩)
      obtain ⟨s, hs1, e1⟩ := pick (cs := cs) (d := d) (ρ := qS w op bl (T2 nw bl op x) (nw.length + bl.length) lk x (lineAt (T1 nw bl op x) (nw.length + bl.length)) .none (.str [op]) (.int ((T1 nw bl op x).length : Nat)) .unb .unb fl) C seconds rfl (Ev.tup (El.cons Ev.str (El.cons Ev.str (El.cons Ev.str El.nil))) (Nat.le_of_ble_eq_true rfl)) (by decide) (by decide) h0 (by omega)
      obtain ⟨c, hc, rfl, h35⟩ := sec_ok s hs1
      obtain ⟨g, hg, e2⟩ := pick (cs := cs) (d := d + 1) (ρ := qS w op bl (T2 nw bl op x) (nw.length + bl.length) lk x (lineAt (T1 nw bl op x) (nw.length + bl.length)) .none (.str [c]) (.int ((T1 nw bl op x).length : Nat)) .unb .unb fl) C gaps rfl (Ev.tup (El.cons Ev.str (El.cons Ev.str El.nil)) (Nat.le_of_ble_eq_true rfl)) (by decide) (by decide) (by exact (Int.le_trans (by assumption) le1)) (by omega)
      have hgl := (gap_ok g hg).2
      have hl2 : (T2 nw bl op x ++ g).length ≤ 36 := by rw [List.length_append]; omega
      refine WP.go (Sx.asg e1) le1 (WP.go (Sx.asg (Ev.bin (Ev.var rfl) e2 (addS (by omega)))) (le1) (WP.go (Sx.asg (Ev.bi (Ev.var rfl) (lenOf (by exact (Nat.le_trans (by assumption) (Nat.le_of_ble_eq_true rfl)))))) (Int.le_refl _) (WP.step (Sx.asg (Ev.bin (Ev.var rfl) (Ev.var rfl) (addS (by simp only [List.length_cons, List.length_nil]; omega)))) ⟨?_, ?_⟩)))
      · omega
      · have := q_other (K := K) (fl := fl) (lk := lk) (d := d + 1 + 1) (due := lineAt (T1 nw bl op x) (nw.length + bl.length)) C B hw (secOther (cs := cs) B h hg hc h35) (by omega) (by omega) hD9
        rcases this with ⟨ρ1, d1, h1, k1, k2⟩ | q
        · exact .inl ⟨ρ1, d1, h1, by omega, k2⟩
        · exact .inr q
end
end Mine
namespace Mine
open PySem

noncomputable def valW (w : List Nat) (x : Trip) : AV := (lookA [[113], [113, 113], [113, 119]] [.tup [.str [115, 116, 114], .str x.2.2], .tup [.str [105, 110, 116, 101, 114, 112], .str x.2.1], .tup [.str [119, 111, 114, 100, 115], .list ((wordsA x.2.2 []).map .str)]] w).getD .none
section
variable {cs : List Int} {D d : Int} {w bl nw : List Nat} {op lk c : Nat} {x y : Trip} {due : Int} {t T0 : List Nat} {v s2 sp ot pa fl : AV} {K : List AV → Int → Prop}
set_option tactic.hygienic true
theorem q_val (B : Base w bl nw op x) : Sx (gT cs) (qS w op bl t (nw.length + bl.length) lk x due .unb s2 sp ot pa fl) d (sq1 (sqN 12 bLquote)) (.next, qS w op bl t (nw.length + bl.length) lk x due (valW w x) s2 sp ot pa fl) d := by
  have hs : methA .split (.str x.2.2) [] = some (.list ((wordsA x.2.2 []).map .str)) := by
    show (if x.2.2.all (· < 128) && decide (x.2.2.length ≤ LIM) then some (AV.list ((wordsA x.2.2 []).map .str)) else none) = _
    rw [(okWs B.told.ch).2, decide_eq_true (by have := B.x3; have := hL; exact (Nat.le_trans (by assumption) (Nat.le_of_ble_eq_true rfl)))]; rfl
  exact Sx.asg (Ev.meth (Ev.dct (kk := [[113], [113, 113], [113, 119]]) rfl (El.cons (Ev.tup (El.cons Ev.str (El.cons (Ev.var rfl) El.nil)) (Nat.le_of_ble_eq_true rfl)) (El.cons (Ev.tup (El.cons Ev.str (El.cons (Ev.var rfl) El.nil)) (Nat.le_of_ble_eq_true rfl))
    (El.cons (Ev.tup (El.cons Ev.str (El.cons (Ev.meth (Ev.var rfl) rfl El.nil hs) El.nil)) (Nat.le_of_ble_eq_true rfl)) El.nil))) ⟨rfl, Nat.le_of_ble_eq_true rfl, Nat.le_of_ble_eq_true rfl, by decide⟩) rfl (El.cons (Ev.var rfl) El.nil) rfl)
set_option tactic.hygienic false
theorem q_not3 (h : cmpA .isin (.str w) (.tup [.str [115], .str [116, 114], .str [121]]) = some false) (k : WP cs D (sqN 14 bLquote) K (qS w op bl t (nw.length + bl.length) lk x due v s2 sp ot pa fl) d) :
    WP cs D (sqN 13 bLquote) K (qS w op bl t (nw.length + bl.length) lk x due v s2 sp ot pa fl) d :=
  WP.go (Sx.iteF (Et.cmp (Ev.var rfl) (Ev.tup (El.cons Ev.str (El.cons Ev.str (El.cons Ev.str El.nil))) (Nat.le_of_ble_eq_true rfl)) h) Sx.nil) (Int.le_refl _) k
theorem q_words (C : CsOk cs) (B : Base w bl nw op x) (h0 : 0 ≤ d) (hD : d + 9 ≤ D) (hD9 : D ≤ 900) :
    WP cs D (sqN 13 bLquote) K (qS w op bl (T2 nw bl op x) (nw.length + bl.length) lk x (lineAt (T1 nw bl op x) (nw.length + bl.length)) (valW w x) .unb .unb .unb .unb fl) d := by
  have hx := T2_le B
  have hw := B.wd
  simp only [List.mem_cons, List.not_mem_nil, or_false] at hw
  rcases hw with rfl | rfl | rfl | rfl | rfl | rfl | rfl
  · exact q_not3 (by kernel_rfl) (q_plain (vs := [.str [115, 116, 114], .str x.2.2]) C B (by kernel_rfl) h0 (by omega) hD9 (by exact (Nat.le_trans (by assumption) (Nat.le_of_ble_eq_true rfl))) (Nat.le_of_ble_eq_true rfl) (good_q B))
  · exact q_not3 (by kernel_rfl) (q_plain (vs := [.str [105, 110, 116, 101, 114, 112], .str x.2.1]) C B (by kernel_rfl) h0 (by omega) hD9 (by exact (Nat.le_trans (by assumption) (Nat.le_of_ble_eq_true rfl))) (Nat.le_of_ble_eq_true rfl) (good_qq B))
  · exact q_not3 (by kernel_rfl) (q_plain (vs := [.str [119, 111, 114, 100, 115], .list ((wordsA x.2.2 []).map .str)]) C B (by kernel_rfl) h0 (by omega) hD9 (by exact (Nat.le_trans (by assumption) (Nat.le_of_ble_eq_true rfl))) (Nat.le_of_ble_eq_true rfl) (good_qw B))
  · obtain ⟨g1, g2⟩ := good_m (cs := cs) B
    exact q_not3 (by kernel_rfl) (q_known (v := .none) C B (by decide) h0 (by omega) hD9 (by exact (Nat.le_trans (by assumption) (Nat.le_of_ble_eq_true rfl))) ⟨rfl, rfl, rfl, rfl, rfl⟩ (vs := fun f => [.str wMatch, .tup [.str x.1, .str f, .str [op]]]) (fun f => Nat.le_of_ble_eq_true rfl) (fun f hf t' pa d => v_m) g1 g2)
  · exact q_w3 C B (by decide) h0 hD hD9
  · exact q_w3 C B (by decide) h0 hD hD9
  · exact q_w3 C B (by decide) h0 hD hD9
theorem q_main (C : CsOk cs) (B : Base w bl nw op x) (h0 : 0 ≤ d) (hD : d + 9 ≤ D) (hD9 : D ≤ 900) :
    WP cs D (sqN 10 bLquote) K (qS w op bl (T1 nw bl op x) (nw.length + bl.length) lk x (lineAt (T1 nw bl op x) (nw.length + bl.length)) .unb .unb .unb .unb .unb .unb) d := by
  have hx := T2_le B
  rw [T2_1, List.length_append] at hx
  refine WP.seq ?_
  by_cases h7 : lk = 7
  · exact WP.iteT (Et.cmp (Ev.var rfl) Ev.num (eqI (by omega))) (WP.ret (qRet B.l2 (Ev.var rfl) (Ev.var rfl)) (good7 B) (Int.le_refl _) (by omega))
  · refine WP.iteF (Et.cmp (Ev.var rfl) Ev.num (neI (by omega))) (WP.nil ⟨Int.le_refl _, ?_⟩)
    have ha := addS (a := T1 nw bl op x) (b := [closeOf op]) (by have := hL; rw [List.length_cons, List.length_nil] at hx ⊢; exact (Nat.le_trans (by assumption) (Nat.le_of_ble_eq_true rfl)))
    rw [← T2_1] at ha
    exact WP.go (Sx.asg (Ev.bin (Ev.var rfl) (Ev.var rfl) ha)) (Int.le_refl _) (WP.go (q_val B) (Int.le_refl _) (q_words C B h0 hD hD9))

noncomputable abbrev blanks3 : List (List Nat) := [[], [32], [9, 10]]
theorem words_len : ∀ w ∈ lawWords, w.length ≤ 2 := by decide
theorem blanks_ok : ∀ b ∈ blanks3, (b.all fun c => blankSigns.contains c) = true ∧ b.length ≤ 2 := by decide +kernel
theorem q_start (C : CsOk cs) (h0 : 0 ≤ d) (hD : d + 19 ≤ D) (hD9 : D ≤ 900) : WP cs D bLquote K (initA [.cup] 19) d := by
  have hb : d + 1 + 1 + 1 + 1 + 1 ≤ 900 := by omega
  have hb4 := bd1 hb
  have hb3 := bd1 hb4
  have hb2 := bd1 hb3
  have hb1 := bd1 hb2
  have h1 := nn1 h0
  have h2 := nn1 h1
  have h3 := nn1 h2
  have h4 := nn1 h3
  obtain ⟨w, hw, e1⟩ := pick (cs := cs) (d := d) (ρ := initA [.cup] 19) (e := .glb "_law_words" ⟨184, 11, 184, 21⟩) C lawWords rfl (Ev.glb (by kernel_rfl)) (by decide) (by decide) h0 (up9 (bd1 hb1))
  obtain ⟨o, ho, e2⟩ := pick (cs := cs) (d := d + 1) (ρ := (initA [.cup] 19).set 1 (.str w)) (e := .glb "_law_openers" ⟨185, 13, 185, 25⟩) C (lawOpeners.map fun c => [c]) rfl (Ev.glb (by kernel_rfl)) (by decide) (by decide) h1 (up9 hb1)
  obtain ⟨op, hop, rfl⟩ := List.mem_map.mp ho
  obtain ⟨bl, hbl, e3⟩ := pick (cs := cs) (d := d + 1 + 1) (ρ := ((initA [.cup] 19).set 1 (.str w)).set 2 (.str [op])) C blanks3 rfl (Ev.tup (El.cons Ev.str (El.cons Ev.str (El.cons Ev.str El.nil))) (Nat.le_of_ble_eq_true rfl)) (by decide) (by decide) h2 (up9 hb2)
  obtain ⟨n, hn, e4⟩ := f_sip (cs := cs) (d := d + 1 + 1 + 1) C (m := 3) h3 (up9 hb3) (by decide) (by decide)
  obtain ⟨lk, hlk, e5⟩ := f_sip (cs := cs) (d := d + 1 + 1 + 1 + 1) C (m := 8) h4 (up9 hb4) (by decide) (by decide)
  obtain ⟨x, d1, l1, l2, hx, x1, x2, x3, e6⟩ := f_told (cs := cs) (d := d + 1 + 1 + 1 + 1 + 1) C hop (nn1 h4) hb
  have hwl := words_len w hw
  obtain ⟨b1, b2⟩ := blanks_ok bl hbl
  have hnl : (List.replicate n 10).length ≤ 2 := by rw [List.length_replicate]; exact Nat.le_of_lt_succ hn
  have hm : binA .mul (.str [10]) (.int (n : Int)) = some (.str (List.replicate n 10)) := by
    show (if 0 ≤ (n : Int) ∧ (n : Int) ≤ 4 then some (AV.str (List.replicate (n : Int).toNat 10)) else none) = _
    rw [if_pos ⟨Int.natCast_nonneg n, by omega⟩, Int.toNat_natCast]
  have hnw : (List.replicate n 10 ++ w).length ≤ 4 := by rw [List.length_append]; exact Nat.add_le_add hnl hwl
  have hst : (List.replicate n 10 ++ w ++ bl).length = (List.replicate n 10 ++ w).length + bl.length := List.length_append
  have hst6 : (List.replicate n 10 ++ w ++ bl).length ≤ 6 := by rw [hst]; exact Nat.add_le_add hnw b2
  have hop7 : (List.replicate n 10 ++ w ++ bl ++ [op]).length ≤ 7 := by rw [List.length_append]; exact Nat.add_le_add hst6 (Nat.le_refl 1)
  have B : Base w bl (List.replicate n 10 ++ w) op x := ⟨hw, hop, fun c hc => List.all_eq_true.mp b1 c hc, Nat.le_trans hnw (by decide), Nat.le_trans b2 (by decide), hx, x1, x2, x3⟩
  have hlen := lenOf (t := List.replicate n 10 ++ w ++ bl) (lim1 (Nat.le_trans hst6 (by decide)))
  rw [hst] at hlen
  have hT : List.replicate n 10 ++ w ++ bl ++ [op] ++ x.1 = T1 (List.replicate n 10 ++ w) bl op x := by unfold T1; simp
  have ha := addS (a := List.replicate n 10 ++ w ++ bl ++ [op]) (b := x.1) (add2 hop7 x1 (by decide))
  rw [hT] at ha
  have hT1 : (T1 (List.replicate n 10 ++ w) bl op x).length ≤ 1000 := by rw [← hT, List.length_append]; exact Nat.le_trans (Nat.add_le_add hop7 x1) (by decide)
  exact WP.go (Sx.asg e1) le1 (WP.go (Sx.asg e2) le1 (WP.go (Sx.asg e3) le1
    (WP.go (Sx.asg (Ev.bin (Ev.bin (Ev.bin Ev.str (Ev.call (El.cons (Ev.var rfl) (El.cons Ev.num El.nil)) e4) hm) (Ev.var rfl) (addS (add2 hnl hwl (by decide)))) (Ev.var rfl) (addS (add2 hnw b2 (by decide))))) le1
    (WP.go (Sx.asg (Ev.bi (Ev.var rfl) hlen)) (Int.le_refl _) (WP.go (Sx.asg (Ev.call (El.cons (Ev.var rfl) (El.cons Ev.num El.nil)) e5)) le1
    (WP.go (Sx.asg (Ev.meth (Ev.call El.nil f_closers) rfl (El.cons (Ev.var rfl) (El.cons (Ev.var rfl) El.nil)) (closeGet op))) (Int.le_refl _)
    (WP.go (Sx.asgT (Ev.call (El.cons (Ev.var rfl) (El.cons (Ev.var rfl) El.nil)) e6) rfl (Nat.le_of_ble_eq_true rfl)) l1
    (WP.go (Sx.asg (Ev.bin (Ev.bin (Ev.var rfl) (Ev.var rfl) (addS (add2 hst6 (Nat.le_refl 1) (by decide)))) (Ev.var rfl) ha)) (Int.le_refl _)
    (WP.go (Sx.asg (Ev.call (El.cons (Ev.var rfl) (El.cons (Ev.var rfl) El.nil)) (f_row (lim1 hT1) (lim1 (Nat.le_trans (Nat.add_le_add hnw b2) (by decide)))))) (Int.le_refl _)
    (q_main C B (Int.le_trans (nn1 h4) l1) (by omega) hD9))))))))))
end

theorem f_quote {cs : List Int} {d : Int} (C : CsOk cs) (h0 : 0 ≤ d) (h1 : d ≤ 800) : ∃ t w st af due d', d ≤ d' ∧ d' ≤ d + 19 ∧ Good cs t w st af due ∧ Fv cs "_law_quote" [.cup] d (.tup [.str t, .str w, .int (st : Nat), .int (af : Nat), due]) d' := by
  rcases q_start (cs := cs) (d := d) (D := d + 19) (K := fun _ _ => False) C h0 (Int.le_refl _) (by omega) with ⟨_, _, _, k⟩ | ⟨t, w, st, af, due, ρ1, d1, h, g, a, b⟩
  · exact k.elim
  · exact ⟨t, w, st, af, due, d1, a, b, g, fv (q_Lquote cs) rfl h⟩
end Mine
namespace Mine
open PySem

noncomputable abbrev hA : List (List Nat) := [[], [10], [120, 32, 10, 10]]
noncomputable abbrev hT : List (List Nat) := [[], [126]]
noncomputable abbrev hW : List (List Nat) := [[69, 79, 70], [97, 95, 49], [], [57, 120], [116, 119, 111, 32, 119, 111, 114, 100, 115], [117, 112, 10, 116, 111]]
noncomputable abbrev hS : List (List Nat) := [[], [39], [34]]
noncomputable abbrev hE : List (List Nat) := [[], [59], [32, 46, 32, 49]]
noncomputable def isBoolT : AV → Bool | .bool b => b | _ => false
noncomputable def isRetT : Fl → Bool | .ret a => isBoolT a | _ => false
noncomputable def isOkT : Except Int (Fl × List AV) → Bool | .ok p => isRetT p.1 | _ => false
noncomputable def isYes : Option (Except Int (Fl × List AV) × Int) → Bool
  | some p => isOkT p.1
  | none => false
noncomputable def hOk (cs : List Int) (d : Int) (a t w s e : List Nat) : Bool := isYes (ds (gT cs) (sqN 5 bLhereright) [.cup, .str a, .str t, .str w, .str s, .str e, .unb, .unb, .unb] d)
noncomputable def hP (cs : List Int) (d : Int) (a t : List Nat) : Bool := hW.all fun w => hS.all fun s => hE.all fun e => hOk cs d a t w s e
theorem here_00 (cs : List Int) (d : Int) : hP cs d [] [] = true := by kernel_rfl
theorem here_01 (cs : List Int) (d : Int) : hP cs d [] [126] = true := by kernel_rfl
theorem here_10 (cs : List Int) (d : Int) : hP cs d [10] [] = true := by kernel_rfl
theorem here_11 (cs : List Int) (d : Int) : hP cs d [10] [126] = true := by kernel_rfl
theorem here_20 (cs : List Int) (d : Int) : hP cs d [120, 32, 10, 10] [] = true := by kernel_rfl
theorem here_21 (cs : List Int) (d : Int) : hP cs d [120, 32, 10, 10] [126] = true := by kernel_rfl
theorem here_all {cs : List Int} {d : Int} : ∀ a ∈ hA, ∀ t ∈ hT, hP cs d a t = true := fun a ha t ht => by
  simp only [List.mem_cons, List.not_mem_nil, or_false] at ha ht
  rcases ha with rfl | rfl | rfl <;> rcases ht with rfl | rfl
  · exact here_00 cs d
  · exact here_01 cs d
  · exact here_10 cs d
  · exact here_11 cs d
  · exact here_20 cs d
  · exact here_21 cs d
end Mine
namespace Mine
open PySem

section
variable {cs : List Int} {d : Int}
set_option tactic.hygienic true
theorem isYes_ok {r : Option (Except Int (Fl × List AV) × Int)} (h : isYes r = true) : ∃ ρ d', r = some (.ok (.ret (.bool true), ρ), d') := by
  cases r with
  | none => cases h
  | some p =>
  obtain ⟨e, d'⟩ := p
  cases e with
  | error _ => cases h
  | ok q =>
  obtain ⟨fl, ρ⟩ := q
  cases fl with
  | next => cases h
  | cont => cases h
  | ret a =>
  have h1 : isBoolT a = true := h
  cases a <;> try (cases h1; done)
  rename_i b
  have h2 : b = true := h1
  subst h2
  exact ⟨ρ, d', rfl⟩
set_option tactic.hygienic false
theorem here_one : ∀ a ∈ hA, ∀ t ∈ hT, ∀ w ∈ hW, ∀ s ∈ hS, ∀ e ∈ hE, hOk cs d a t w s e = true := fun a ha t ht w hw s hs e he => by
  have := here_all (cs := cs) (d := d) a ha t ht
  simp only [hP, List.all_eq_true] at this
  exact this w hw s hs e he
theorem f_here (C : CsOk cs) (h0 : 0 ≤ d) (h1 : d ≤ 900) : ∃ d', Fv cs "_law_here_right" [.cup] d (.bool true) d' := by
  obtain ⟨a, ha, e1⟩ := pick (cs := cs) (d := d) (ρ := initA [.cup] 9) C hA rfl (Ev.tup (El.cons Ev.str (El.cons Ev.str (El.cons Ev.str El.nil))) (Nat.le_of_ble_eq_true rfl)) (by decide) (by decide) h0 (by omega)
  obtain ⟨t, ht, e2⟩ := pick (cs := cs) (d := d + 1) (ρ := [.cup, .str a, .unb, .unb, .unb, .unb, .unb, .unb, .unb]) C hT rfl (Ev.tup (El.cons Ev.str (El.cons Ev.str El.nil)) (Nat.le_of_ble_eq_true rfl)) (by decide) (by decide) (by omega) (by omega)
  obtain ⟨w, hw, e3⟩ := pick (cs := cs) (d := d + 1 + 1) (ρ := [.cup, .str a, .str t, .unb, .unb, .unb, .unb, .unb, .unb]) C hW rfl (Ev.tup (El.cons Ev.str (El.cons Ev.str (El.cons Ev.str (El.cons Ev.str (El.cons Ev.str (El.cons Ev.str El.nil)))))) (Nat.le_of_ble_eq_true rfl)) (by decide) (by decide) (by omega) (by omega)
  obtain ⟨s, hs, e4⟩ := pick (cs := cs) (d := d + 1 + 1 + 1) (ρ := [.cup, .str a, .str t, .str w, .unb, .unb, .unb, .unb, .unb]) C hS rfl (Ev.tup (El.cons Ev.str (El.cons Ev.str (El.cons Ev.str El.nil))) (Nat.le_of_ble_eq_true rfl)) (by decide) (by decide) (by omega) (by omega)
  obtain ⟨e, he, e5⟩ := pick (cs := cs) (d := d + 1 + 1 + 1 + 1) (ρ := [.cup, .str a, .str t, .str w, .str s, .unb, .unb, .unb, .unb]) C hE rfl (Ev.tup (El.cons Ev.str (El.cons Ev.str (El.cons Ev.str El.nil))) (Nat.le_of_ble_eq_true rfl)) (by decide) (by decide) (by omega) (by omega)
  obtain ⟨ρ, d', h⟩ := isYes_ok (here_one (cs := cs) (d := d + 1 + 1 + 1 + 1 + 1) a ha t ht w hw s hs e he)
  exact ⟨d', fv (q_Lhereright cs) rfl (Sx.seq (Sx.asg e1) (Sx.seq (Sx.asg e2) (Sx.seq (Sx.asg e3) (Sx.seq (Sx.asg e4) (Sx.seq (Sx.asg e5) h)))))⟩

/-! the law's own loop -/
noncomputable def lawB : S := whB (sq1 blaw)
noncomputable abbrev lS (n tx wd st af due bg : AV) : List AV := [.unb, .cup, n, tx, wd, st, af, due, bg, .unb, .unb]
noncomputable abbrev begins : List (List Nat) := [[], [32]]
noncomputable def cmpR : E → E | .cmp _ _ b _ => b | e => e
noncomputable def w5C : E := cmpL (iteC (sq1 (sqN 4 lawB)))
noncomputable abbrev maskL (w b : List Nat) : List AV := [.unb, .unb, .unb, .unb, .str w, .unb, .unb, .unb, .str b, .unb, .unb]
noncomputable abbrev neg5 : List AV := [.int (-1), .int (-1), .int (-1), .int (-1), .int (-1)]
noncomputable abbrev what5 : List AV := [.str [98, 47], .str [95], .str [55], .str [61, 62, 32, 49], .str []]
theorem l_k : ∀ w ∈ lawWords, ∀ b ∈ begins, Kx (gT cs) .nil (compE w5C) 10 (maskL w b) what5 d neg5 d := by
  intro w hw b hb
  simp only [List.mem_cons, List.not_mem_nil, or_false] at hw hb
  rcases hw with rfl | rfl | rfl | rfl | rfl | rfl | rfl <;> rcases hb with rfl | rfl <;> kernel_rfl
theorem l_x : ∀ w ∈ lawWords, ∀ b ∈ begins, ∀ {n tx st af due : AV}, Et (gT cs) (lS n tx (.str w) st af due (.str b)) d (iteC (sqN 5 lawB)) false d := by
  intro w hw b hb
  simp only [List.mem_cons, List.not_mem_nil, or_false] at hw hb
  rcases hw with rfl | rfl | rfl | rfl | rfl | rfl | rfl <;> rcases hb with rfl | rfl <;> (intros; kernel_rfl)
theorem due_own {due : AV} (h : cmpA .ne due due = some false) : isOwn due = false := by
  cases due <;> first | rfl | cases h

theorem due_var {due : AV} (h : cmpA .ne due due = some false) {ρ : List AV} {n : Nat} (h2 : ρ[n]? = some due) : varA ρ n = M.pure due := by
  unfold varA; rw [h2]
  cases due <;> first | rfl | cases h
set_option tactic.hygienic true
theorem l_body (C : CsOk cs) (h0 : 0 ≤ d) (h1 : d ≤ 700) {n tx wd st af due bg : AV} (hn : isOwn n = false) : ∃ d' tx' wd' st' af' due' bg', d ≤ d' ∧ d' ≤ d + 20 ∧ Sx (gT cs) (lS n tx wd st af due bg) d lawB (.next, lS n tx' wd' st' af' due' bg') d' := by
  obtain ⟨t, w, st, af, due, d1, a1, a2, G, hq⟩ := f_quote (cs := cs) (d := d) C h0 (by omega)
  obtain ⟨bl, op, r, p1, p2, p3, p4⟩ := G.place
  have hlen : t.length ≤ 1000 := Nat.le_trans G.len (by decide)
  have hop := f_opening (cs := cs) (d := d1) hlen p2 p3 (fit_blank (fit_all op p4).1) (fit_word (fit_all op p4).1) (Ne.symm (fit_ne (fit_all op p4).1 (by decide)))
  rw [← p1] at hop
  have hst : t.drop st = op :: r := by rw [p1]; exact dropN p2
  have ev2 : ∀ {q1 q2 q3 q4 q5 q6 q7 q8 q9 q0 r1 r2 : Pos}, Ev (gT cs) (lS n (.str t) (.str w) (.int (st : Nat)) (.int (af : Nat)) due bg) d1 (.ite (.and (.cons (.cmp .eq (.idx (.var 3 q1) (.var 5 q2) q3) (.str "#" [35] q4) q5) (.cons (.cmp .gt (.var 5 q6) (.var 6 q7) q8) .nil)) q9) (.neg 1 q0 r1) (.var 5 r2) q0) (.int (if 0 < bl.length ∧ op = 35 then -1 else ((st : Nat) : Int))) d1 := by
    intros
    by_cases h : op = 35
    · by_cases h2 : 0 < bl.length
      · rw [if_pos ⟨h2, h⟩]
        exact Ev.iteT (Et.and (Ek.go (Et.cmp (Ev.idx (Ev.var rfl) (Ev.var rfl) (strAt' hst (hs _ hlen))) Ev.str (eqS (by rw [h]))) (Ek.go (Et.cmp (Ev.var rfl) (Ev.var rfl) (gtN (by omega))) Ek.nil))) Ev.neg
      · rw [if_neg fun q => h2 q.1]
        exact Ev.iteF (Et.and (Ek.go (Et.cmp (Ev.idx (Ev.var rfl) (Ev.var rfl) (strAt' hst (hs _ hlen))) Ev.str (eqS (by rw [h]))) (Ek.stop (Et.cmp (Ev.var rfl) (Ev.var rfl) (ngtN (by omega))) (by decide)))) (Ev.var rfl)
    · rw [if_neg fun q => h q.2]
      exact Ev.iteF (Et.and (Ek.stop (Et.cmp (Ev.idx (Ev.var rfl) (Ev.var rfl) (strAt' hst (hs _ hlen))) Ev.str (neS1 h)) (by decide))) (Ev.var rfl)
  obtain ⟨b, hb, eb⟩ := pickK (cs := cs) (k := 1) (d := d1) (ρ := lS n (.str t) (.str w) (.int (st : Nat)) (.int (af : Nat)) due bg) C begins rfl (Ev.tup (El.cons Ev.str (El.cons Ev.str El.nil)) (Nat.le_of_ble_eq_true rfl)) (by decide) (by decide) (by omega) (by omega)
  have hm : maskA [8, 4] (lS n (.str t) (.str w) (.int (st : Nat)) (.int (af : Nat)) due (.str b)) 0 = maskL w b := by
    unfold lS
    simp only [maskA_cons hn, maskA_cons (due_own G.due), maskA_cons (show isOwn .cup = false from rfl), maskA_cons (show isOwn (.str _) = false from rfl), maskA_cons (show isOwn (.int _) = false from rfl), maskA_cons (show isOwn .unb = false from rfl)]
    rfl
  have hk : Kx (gT cs) .nil (compE w5C) 10 (maskA [8, 4] (lS n (.str t) (.str w) (.int (st : Nat)) (.int (af : Nat)) due (.str b)) 0) what5 (d1 + 1) neg5 (d1 + 1) := by rw [hm]; exact l_k w G.wd b hb
  refine ⟨d1 + 1, .str t, .str w, .int (st : Nat), .int (af : Nat), due, .str b, by omega, by omega, ?_⟩
  refine Sx.seq (Sx.asgT (Ev.call (El.cons (Ev.var rfl) El.nil) hq) rfl (Nat.le_of_ble_eq_true rfl)) (Sx.seq (Sx.iteF (Et.cmp (Ev.call (El.cons (Ev.var rfl) (El.cons (Ev.var rfl) (El.cons (Ev.var rfl) El.nil))) (G.rd d1)) (Ev.var (due_var G.due rfl)) G.due) Sx.nil)
    (Sx.seq (Sx.iteF (Et.cmp (Ev.call (El.cons (Ev.var rfl) (El.cons (Ev.var rfl) El.nil)) hop) ev2 due_int) Sx.nil) (Sx.seq (Sx.asg eb) (Sx.seq (Sx.iteF (Et.cmp (x := .list neg5) (y := .list neg5) (Ev.comp (Ev.tup (El.cons Ev.str (El.cons Ev.str (El.cons Ev.str (El.cons Ev.str (El.cons Ev.str El.nil))))) (Nat.le_of_ble_eq_true rfl)) (show itemsA (.tup what5) = some what5 from rfl)
      hk) (Ev.lst (El.cons Ev.neg (El.cons Ev.neg (El.cons Ev.neg (El.cons Ev.neg (El.cons Ev.neg El.nil))))) (Nat.le_of_ble_eq_true rfl)) (by kernel_rfl)) Sx.nil) (Sx.iteF (l_x w G.wd b hb) Sx.nil)))))
set_option tactic.hygienic false
theorem law_true (C : CsOk cs) : ∃ ρ' d', Sx (gT cs) (lS .unb .unb .unb .unb .unb .unb .unb) 0 blaw (.ret (.bool true), ρ') d' := by
  obtain ⟨d1, t1, w1, s1, a1, u1, b1, l1, l2, r1⟩ := l_body (cs := cs) (d := 0) C (Int.le_refl _) (by decide) (n := .int 0) (tx := .unb) (wd := .unb) (st := .unb) (af := .unb) (due := .unb) (bg := .unb) rfl
  obtain ⟨d2, t2, w2, s2, a2, u2, b2, l3, l4, r2⟩ := l_body (cs := cs) (d := d1) C l1 (by omega) (n := .int 1) (tx := t1) (wd := w1) (st := s1) (af := a1) (due := u1) (bg := b1) rfl
  obtain ⟨d3, h⟩ := f_here (cs := cs) (d := d2) C (by omega) (by omega)
  exact ⟨_, d3, Sx.seq (Sx.for (Ev.bi Ev.num rfl) rfl (Lx.go r1 (Lx.go r2 Lx.nil))) (Sx.ret (Ev.call (El.cons (Ev.var rfl) El.nil) h))⟩
end
end Mine
namespace Mine
open PySem PySem.W PyProof.Rows PySem.Calls

noncomputable abbrev fs0 : List String := []
noncomputable abbrev fs1 : List String := ["remark_end", "line_of", "run_end", "closer_of", "line_of_place", "_law_closers", "_law_known", "_law_sip", "_law_row"]
noncomputable abbrev fs2 : List String := ["remark_end", "line_of", "run_end", "closer_of", "line_of_place", "_law_closers", "_law_known", "_law_sip", "_law_row", "delimited", "unguarded", "opening_place", "behind_blanks", "flags_token", "_law_within"]
noncomputable abbrev fs3 : List String := ["remark_end", "line_of", "run_end", "closer_of", "line_of_place", "_law_closers", "_law_known", "_law_sip", "_law_row", "delimited", "unguarded", "opening_place", "behind_blanks", "flags_token", "_law_within", "read_q", "read_qw", "second_part", "match_token", "here_sign", "_law_quote"]
noncomputable abbrev fs4 : List String := ["remark_end", "line_of", "run_end", "closer_of", "line_of_place", "_law_closers", "_law_known", "_law_sip", "_law_row", "delimited", "unguarded", "opening_place", "behind_blanks", "flags_token", "_law_within", "read_q", "read_qw", "second_part", "match_token", "here_sign", "_law_quote", "subst_token", "trans_token", "_law_here_read"]
noncomputable abbrev fs5 : List String := ["remark_end", "line_of", "run_end", "closer_of", "line_of_place", "_law_closers", "_law_known", "_law_sip", "_law_row", "delimited", "unguarded", "opening_place", "behind_blanks", "flags_token", "_law_within", "read_q", "read_qw", "second_part", "match_token", "here_sign", "_law_quote", "subst_token", "trans_token", "_law_here_read", "quote_token", "_law_here_right"]
noncomputable abbrev fs6 : List String := ["remark_end", "line_of", "run_end", "closer_of", "line_of_place", "_law_closers", "_law_known", "_law_sip", "_law_row", "delimited", "unguarded", "opening_place", "behind_blanks", "flags_token", "_law_within", "read_q", "read_qw", "second_part", "match_token", "here_sign", "_law_quote", "subst_token", "trans_token", "_law_here_read", "quote_token", "_law_here_right", "_law_read"]

noncomputable def recAt (i : Nat) : Option (Arguments × List Stmt × Scope) := (recsOf PySem.Challenge.pw_qd0139_01)[i]?.map fun d => (d.params, d.body, d.scope)
noncomputable def argsAt (i : Nat) : Arguments := ((recAt i).map (·.1)).getD ⟨[], [], none, [], [], none, []⟩
noncomputable def defB (scope : Scope) (nm ps : List String) : Bool := decide (scope.kind = .function) && !scope.isGenerator && !scope.isCoroutine && scope.names.all (fun p => !decide (p.2 = .free)) && decide (nm.take ps.length = ps) &&
  decide (nm.map Str.ofString).Nodup && nm.all (fun n => !(Str.ofString n == ("__debug__" : Str)) && !(Str.ofString n == ("__classdict__" : Str))) && ps.all (fun p => decide (scope.names.lookup (Str.ofString p) = some .local) || decide (scope.names.lookup (Str.ofString p) = some .cell))
noncomputable def okTry (nm fs : List String) (sc : Scope) : S → Bool
  | .tryl e _ => ok nm fs e sc 0 && decide (sc.names.lookup (Str.ofString "SyntaxDie") = some .globalImplicit) && decide (sc.names.lookup (Str.ofString "fault") = some .local)
  | _ => false
noncomputable def knB (sc : Scope) : Bool := decide (sc.names.lookup (Str.ofString "script") = some .local) && decide (sc.names.lookup (Str.ofString "cup") = some .local)

/-! the law's first statement -/
noncomputable abbrev sc1 : Scope := { kind := .function, names := [(Str.ofString ".0", .local), (Str.ofString "cell", .local), (Str.ofString "int", .globalImplicit)], isGenerator := false, isCoroutine := false, more := [] }
noncomputable abbrev elt1 : Expr := .BinOp (.Call (.Name (Str.ofString "int") ⟨248, 12, 248, 15⟩) [.Name (Str.ofString "cell") ⟨248, 16, 248, 20⟩] [] ⟨248, 12, 248, 21⟩) .Mod
  (.BinOp (.Constant (.int 10) 0 ⟨248, 24, 248, 26⟩) .Pow (.Constant (.int 12) 0 ⟨248, 30, 248, 32⟩) ⟨248, 24, 248, 32⟩) ⟨248, 12, 248, 32⟩
noncomputable abbrev iter1 : Expr := .Subscript (.Name (Str.ofString "script") ⟨248, 45, 248, 51⟩) (.Slice none (some (.Constant (.int 60) 0 ⟨248, 53, 248, 55⟩)) none ⟨248, 52, 248, 55⟩) ⟨248, 45, 248, 56⟩
noncomputable abbrev first1 : Stmt := .Assign [.Name (Str.ofString "cup") ⟨248, 4, 248, 7⟩] (.List [.ListComp elt1 [⟨.Name (Str.ofString "cell") ⟨248, 37, 248, 41⟩, iter1, [], 0⟩] sc1 ⟨248, 11, 248, 57⟩, .Constant (.int 0) 0 ⟨248, 59, 248, 60⟩] ⟨248, 10, 248, 61⟩) ⟨248, 4, 248, 61⟩

/-! the shape of every def, looked at once -/
noncomputable abbrev prm (l : List (String × Pos)) : Arguments := ⟨[], l.map fun p => ⟨Str.ofString p.1, none, p.2⟩, none, [], [], none, []⟩
noncomputable def ar_remarkend : Arguments := prm [("text", ⟨2, 15, 2, 19⟩), ("at", ⟨2, 21, 2, 23⟩)]
noncomputable def ar_lineof : Arguments := prm [("text", ⟨20, 12, 20, 16⟩), ("at", ⟨20, 18, 20, 20⟩)]
noncomputable def ar_runend : Arguments := prm [("text", ⟨22, 12, 22, 16⟩), ("at", ⟨22, 18, 22, 20⟩), ("signs", ⟨22, 22, 22, 27⟩)]
noncomputable def ar_closerof : Arguments := prm [("opening", ⟨29, 14, 29, 21⟩)]
noncomputable def ar_lineofplace : Arguments := prm [("text", ⟨31, 18, 31, 22⟩), ("at", ⟨31, 24, 31, 26⟩)]
noncomputable def ar_delimited : Arguments := prm [("text", ⟨33, 14, 33, 18⟩), ("at", ⟨33, 20, 33, 22⟩)]
noncomputable def ar_unguarded : Arguments := prm [("inner", ⟨51, 14, 51, 19⟩), ("opening", ⟨51, 21, 51, 28⟩), ("is_plain", ⟨51, 30, 51, 38⟩)]
noncomputable def ar_readq : Arguments := prm [("inner", ⟨67, 11, 67, 16⟩), ("opening", ⟨67, 18, 67, 25⟩)]
noncomputable def ar_readqw : Arguments := prm [("inner", ⟨69, 12, 69, 17⟩)]
noncomputable def ar_openingplace : Arguments := prm [("text", ⟨86, 18, 86, 22⟩), ("at", ⟨86, 24, 86, 26⟩)]
noncomputable def ar_behindblanks : Arguments := prm [("text", ⟨93, 18, 93, 22⟩), ("at", ⟨93, 24, 93, 26⟩)]
noncomputable def ar_secondpart : Arguments := prm [("text", ⟨98, 16, 98, 20⟩), ("opening", ⟨98, 22, 98, 29⟩), ("behind", ⟨98, 31, 98, 37⟩)]
noncomputable def ar_flagstoken : Arguments := prm [("text", ⟨107, 16, 107, 20⟩), ("at", ⟨107, 22, 107, 24⟩), ("kind", ⟨107, 26, 107, 30⟩)]
noncomputable def ar_matchtoken : Arguments := prm [("text", ⟨113, 16, 113, 20⟩), ("opening", ⟨113, 22, 113, 29⟩)]
noncomputable def ar_substtoken : Arguments := prm [("text", ⟨117, 16, 117, 20⟩), ("opening", ⟨117, 22, 117, 29⟩)]
noncomputable def ar_transtoken : Arguments := prm [("text", ⟨123, 16, 123, 20⟩), ("opening", ⟨123, 22, 123, 29⟩)]
noncomputable def ar_quotetoken : Arguments := prm [("text", ⟨128, 16, 128, 20⟩), ("word", ⟨128, 22, 128, 26⟩), ("opening", ⟨128, 28, 128, 35⟩)]
noncomputable def ar_heresign : Arguments := prm [("text", ⟨143, 14, 143, 18⟩), ("at", ⟨143, 20, 143, 22⟩)]
noncomputable def ar_Lclosers : Arguments := prm []
noncomputable def ar_Lknown : Arguments := prm []
noncomputable def ar_Lsip : Arguments := prm [("cup", ⟨168, 13, 168, 16⟩), ("many", ⟨168, 18, 168, 22⟩)]
noncomputable def ar_Lwithin : Arguments := prm [("cup", ⟨174, 16, 174, 19⟩), ("opener", ⟨174, 21, 174, 27⟩)]
noncomputable def ar_Lrow : Arguments := prm [("text", ⟨181, 13, 181, 17⟩), ("place", ⟨181, 19, 181, 24⟩)]
noncomputable def ar_Lquote : Arguments := prm [("cup", ⟨183, 15, 183, 18⟩)]
noncomputable def ar_Lread : Arguments := prm [("text", ⟨223, 14, 223, 18⟩), ("word", ⟨223, 20, 223, 24⟩), ("start", ⟨223, 26, 223, 31⟩)]
noncomputable def ar_Lhereread : Arguments := prm [("text", ⟨228, 19, 228, 23⟩), ("at", ⟨228, 25, 228, 27⟩)]
noncomputable def ar_Lhereright : Arguments := prm [("cup", ⟨233, 20, 233, 23⟩)]
noncomputable def ar_law : Arguments := prm [("script", ⟨247, 8, 247, 14⟩)]
noncomputable def shapeL : List (Str × Arguments × List Stmt) := [
  (Str.ofString "remark_end", ar_remarkend, tst nremarkend bremarkend),
  (Str.ofString "line_of", ar_lineof, tst nlineof blineof),
  (Str.ofString "run_end", ar_runend, tst nrunend brunend),
  (Str.ofString "closer_of", ar_closerof, tst ncloserof bcloserof),
  (Str.ofString "line_of_place", ar_lineofplace, tst nlineofplace blineofplace),
  (Str.ofString "delimited", ar_delimited, tst ndelimited bdelimited),
  (Str.ofString "unguarded", ar_unguarded, tst nunguarded bunguarded),
  (Str.ofString "read_q", ar_readq, tst nreadq breadq),
  (Str.ofString "read_qw", ar_readqw, tst nreadqw breadqw),
  (Str.ofString "opening_place", ar_openingplace, tst nopeningplace bopeningplace),
  (Str.ofString "behind_blanks", ar_behindblanks, tst nbehindblanks bbehindblanks),
  (Str.ofString "second_part", ar_secondpart, tst nsecondpart bsecondpart),
  (Str.ofString "flags_token", ar_flagstoken, tst nflagstoken bflagstoken),
  (Str.ofString "match_token", ar_matchtoken, tst nmatchtoken bmatchtoken),
  (Str.ofString "subst_token", ar_substtoken, tst nsubsttoken bsubsttoken),
  (Str.ofString "trans_token", ar_transtoken, tst ntranstoken btranstoken),
  (Str.ofString "quote_token", ar_quotetoken, tst nquotetoken bquotetoken),
  (Str.ofString "here_sign", ar_heresign, tst nheresign bheresign),
  (Str.ofString "_law_closers", ar_Lclosers, tst nLclosers bLclosers),
  (Str.ofString "_law_known", ar_Lknown, tst nLknown bLknown),
  (Str.ofString "_law_sip", ar_Lsip, tst nLsip bLsip),
  (Str.ofString "_law_within", ar_Lwithin, tst nLwithin bLwithin),
  (Str.ofString "_law_row", ar_Lrow, tst nLrow bLrow),
  (Str.ofString "_law_quote", ar_Lquote, tst nLquote bLquote),
  (Str.ofString "_law_read", ar_Lread, tst nLread bLread),
  (Str.ofString "_law_here_read", ar_Lhereread, tst nLhereread bLhereread),
  (Str.ofString "_law_here_right", ar_Lhereright, tst nLhereright bLhereright),
  (Str.ofString "law", ar_law, first1 :: tst nlaw blaw)]
theorem recShape : ((recsOf PySem.Challenge.pw_qd0139_01).map fun d => (d.name, d.params, d.body)) = shapeL := by kernel_rfl
noncomputable def chksL : List (Scope → Bool) := [
  fun sc => defB sc nremarkend (nremarkend.take 2) && okS nremarkend fs0 sc bremarkend,
  fun sc => defB sc nlineof (nlineof.take 2) && okS nlineof fs0 sc blineof,
  fun sc => defB sc nrunend (nrunend.take 3) && okS nrunend fs0 sc brunend,
  fun sc => defB sc ncloserof (ncloserof.take 1) && okS ncloserof fs0 sc bcloserof,
  fun sc => defB sc nlineofplace (nlineofplace.take 2) && okS nlineofplace fs0 sc blineofplace,
  fun sc => defB sc ndelimited (ndelimited.take 2) && okS ndelimited fs1 sc bdelimited,
  fun sc => defB sc nunguarded (nunguarded.take 3) && okS nunguarded fs1 sc bunguarded,
  fun sc => defB sc nreadq (nreadq.take 2) && okS nreadq fs2 sc breadq,
  fun sc => defB sc nreadqw (nreadqw.take 1) && okS nreadqw fs2 sc breadqw,
  fun sc => defB sc nopeningplace (nopeningplace.take 2) && okS nopeningplace fs1 sc bopeningplace,
  fun sc => defB sc nbehindblanks (nbehindblanks.take 2) && okS nbehindblanks fs1 sc bbehindblanks,
  fun sc => defB sc nsecondpart (nsecondpart.take 3) && okS nsecondpart fs2 sc bsecondpart,
  fun sc => defB sc nflagstoken (nflagstoken.take 3) && okS nflagstoken fs1 sc bflagstoken,
  fun sc => defB sc nmatchtoken (nmatchtoken.take 2) && okS nmatchtoken fs2 sc bmatchtoken,
  fun sc => defB sc nsubsttoken (nsubsttoken.take 2) && okS nsubsttoken fs3 sc bsubsttoken,
  fun sc => defB sc ntranstoken (ntranstoken.take 2) && okS ntranstoken fs3 sc btranstoken,
  fun sc => defB sc nquotetoken (nquotetoken.take 3) && okS nquotetoken fs4 sc bquotetoken,
  fun sc => defB sc nheresign (nheresign.take 2) && okS nheresign fs2 sc bheresign,
  fun sc => defB sc nLclosers (nLclosers.take 0) && okS nLclosers fs0 sc bLclosers,
  fun sc => defB sc nLknown (nLknown.take 0) && okS nLknown fs0 sc bLknown,
  fun sc => defB sc nLsip (nLsip.take 2) && okS nLsip fs0 sc bLsip,
  fun sc => defB sc nLwithin (nLwithin.take 2) && okS nLwithin fs1 sc bLwithin,
  fun sc => defB sc nLrow (nLrow.take 2) && okS nLrow fs0 sc bLrow,
  fun sc => defB sc nLquote (nLquote.take 1) && okS nLquote fs2 sc bLquote,
  fun sc => defB sc nLread (nLread.take 3) && okTry nLread fs5 sc bLread,
  fun sc => defB sc nLhereread (nLhereread.take 2) && okTry nLhereread fs3 sc bLhereread,
  fun sc => defB sc nLhereright (nLhereright.take 1) && okS nLhereright fs4 sc bLhereright,
  fun sc => defB sc nlaw (nlaw.take 1) && (okS nlaw fs6 sc blaw && knB sc)]
theorem recScope : (((recsOf PySem.Challenge.pw_qd0139_01).zip chksL).all fun p => p.2 p.1.scope) = true := by kernel_rfl
section
variable {i : Nat} {n : Str} {a : Arguments} {bd : List Stmt}
theorem recI (h : shapeL[i]? = some (n, a, bd)) : ∃ d, (recsOf PySem.Challenge.pw_qd0139_01)[i]? = some d ∧ d.name = n ∧ d.params = a ∧ d.body = bd := by
  rw [← recShape, List.getElem?_map] at h
  obtain ⟨d, hd, e⟩ := Option.map_eq_some_iff.mp h
  cases e
  exact ⟨d, hd, rfl, rfl, rfl⟩
theorem nmI (h : shapeL[i]? = some (n, a, bd)) : ((recsOf PySem.Challenge.pw_qd0139_01)[i]?.map fun d => d.name) = some n := by
  obtain ⟨d, hd, e1, e2, e3⟩ := recI h
  rw [hd, ← e1]; rfl
theorem atI (h : shapeL[i]? = some (n, a, bd)) : ((recAt i).map fun d => d.2.1) = some bd := by
  obtain ⟨d, hd, e1, e2, e3⟩ := recI h
  unfold recAt; rw [hd, ← e3]; rfl
theorem arI (h : shapeL[i]? = some (n, a, bd)) : argsAt i = a := by
  obtain ⟨d, hd, e1, e2, e3⟩ := recI h
  unfold argsAt recAt; rw [hd, ← e2]; rfl
theorem chI {c : Scope → Bool} (h : chksL[i]? = some c) : ((recAt i).all fun d => c d.2.2) = true := by
  unfold recAt
  cases hd : (recsOf PySem.Challenge.pw_qd0139_01)[i]? with
  | none => rfl
  | some d => exact List.all_eq_true.mp recScope (d, c) (List.mem_of_getElem? (i := i) (by rw [List.getElem?_zip_eq_some]; exact ⟨hd, h⟩))
theorem chL {a b : Scope → Bool} (h : ((recAt i).all fun d => a d.2.2 && b d.2.2) = true) : ((recAt i).all fun d => a d.2.2) = true := by
  cases e : recAt i with
  | none => rfl
  | some d => rw [e] at h; exact (Bool.and_eq_true_iff.mp h).1
theorem chR {a b : Scope → Bool} (h : ((recAt i).all fun d => a d.2.2 && b d.2.2) = true) : ((recAt i).all fun d => b d.2.2) = true := by
  cases e : recAt i with
  | none => rfl
  | some d => rw [e] at h; exact (Bool.and_eq_true_iff.mp h).2
theorem len0 {vs : List Value} (h : vs.length = 0) : vs = [] := List.length_eq_zero_iff.mp h
theorem len1 {vs : List Value} (h : vs.length = 1) : ∃ a, vs = [a] := List.length_eq_one_iff.mp h
theorem len2 {vs : List Value} (h : vs.length = 2) : ∃ a b, vs = [a, b] := by
  cases vs with
  | nil => cases h
  | cons a vs => obtain ⟨b, rfl⟩ := len1 (Nat.succ.inj h); exact ⟨a, b, rfl⟩
theorem len3 {vs : List Value} (h : vs.length = 3) : ∃ a b c, vs = [a, b, c] := by
  cases vs with
  | nil => cases h
  | cons a vs => obtain ⟨b, c, rfl⟩ := len2 (Nat.succ.inj h); exact ⟨a, b, c, rfl⟩
end
end Mine
namespace Mine
open PySem PySem.W PyProof.Rows
noncomputable def myK (P : Params) : Frag := [
  (2, { cls := PySem.Value.none, data := PySem.Data.dict #[{ hash := PySem.PyData.keyHash P (PySem.Str.ofString "type.__subclasses__.Exception.0"), key := PySem.Value.str (PySem.Str.ofString "type.__subclasses__.Exception.0") 225, val := PySem.Value.int 38 0 }, { hash := PySem.PyData.keyHash P (PySem.Str.ofString "type.__subclasses__.Exception.n"), key := PySem.Value.str (PySem.Str.ofString "type.__subclasses__.Exception.n") 226, val := PySem.Value.int 1 0 }] 2 }),
  (3, { cls := PySem.Value.type "dict", data := PySem.Data.dict #[{ hash := PySem.PyData.keyHash P (PySem.Str.ofString "__name__"), key := PySem.Value.str (PySem.Str.ofString "__name__") 165, val := PySem.Value.str (PySem.Str.ofString "law_qd0139_01") 479 }, { hash := PySem.PyData.keyHash P (PySem.Str.ofString "__doc__"), key := PySem.Value.str (PySem.Str.ofString "__doc__") 166, val := PySem.Value.none }, { hash := PySem.PyData.keyHash P (PySem.Str.ofString "__package__"), key := PySem.Value.str (PySem.Str.ofString "__package__") 167, val := PySem.Value.none }, { hash := PySem.PyData.keyHash P (PySem.Str.ofString "__loader__"), key := PySem.Value.str (PySem.Str.ofString "__loader__") 168, val := PySem.Value.builtin "__main__.__loader__#opaque" }, { hash := PySem.PyData.keyHash P (PySem.Str.ofString "__spec__"), key := PySem.Value.str (PySem.Str.ofString "__spec__") 169, val := PySem.Value.none }, { hash := PySem.PyData.keyHash P (PySem.Str.ofString "__annotations__"), key := PySem.Value.str (PySem.Str.ofString "__annotations__") 170, val := PySem.Value.ref 6 }, { hash := PySem.PyData.keyHash P (PySem.Str.ofString "__builtins__"), key := PySem.Value.str (PySem.Str.ofString "__builtins__") 171, val := PySem.Value.ref 4 }, { hash := PySem.PyData.keyHash P (PySem.Str.ofString "__file__"), key := PySem.Value.str (PySem.Str.ofString "__file__") 173, val := PySem.Value.str (PySem.Str.ofString "/claim/cut.py") 172 }, { hash := PySem.PyData.keyHash P (PySem.Str.ofString "__cached__"), key := PySem.Value.str (PySem.Str.ofString "__cached__") 174, val := PySem.Value.none }, { hash := PySem.PyData.keyHash P (PySem.Str.ofString "remark_end"), key := PySem.Value.str (PySem.Str.ofString "remark_end") 197, val := PySem.Value.ref 21 }, { hash := PySem.PyData.keyHash P (PySem.Str.ofString "PerlError"), key := PySem.Value.str (PySem.Str.ofString "PerlError") 228, val := PySem.Value.ref 38 }, { hash := PySem.PyData.keyHash P (PySem.Str.ofString "SyntaxDie"), key := PySem.Value.str (PySem.Str.ofString "SyntaxDie") 254, val := PySem.Value.ref 58 }, { hash := PySem.PyData.keyHash P (PySem.Str.ofString "WORD_STARTS"), key := PySem.Value.str (PySem.Str.ofString "WORD_STARTS") 258, val := PySem.Value.str (PySem.Str.ofString "ABCDEFGHIJKLMNOPQRSTUVWXYZabcdefghijklmnopqrstuvwxyz_") 257 }, { hash := PySem.PyData.keyHash P (PySem.Str.ofString "DIGIT_SIGNS"), key := PySem.Value.str (PySem.Str.ofString "DIGIT_SIGNS") 260, val := PySem.Value.str (PySem.Str.ofString "0123456789") 259 }, { hash := PySem.PyData.keyHash P (PySem.Str.ofString "WORD_SIGNS"), key := PySem.Value.str (PySem.Str.ofString "WORD_SIGNS") 262, val := PySem.Value.str (PySem.Str.ofString "ABCDEFGHIJKLMNOPQRSTUVWXYZabcdefghijklmnopqrstuvwxyz_0123456789") 261 }, { hash := PySem.PyData.keyHash P (PySem.Str.ofString "line_of"), key := PySem.Value.str (PySem.Str.ofString "line_of") 270, val := PySem.Value.ref 67 }, { hash := PySem.PyData.keyHash P (PySem.Str.ofString "run_end"), key := PySem.Value.str (PySem.Str.ofString "run_end") 280, val := PySem.Value.ref 74 }, { hash := PySem.PyData.keyHash P (PySem.Str.ofString "CLOSERS"), key := PySem.Value.str (PySem.Str.ofString "CLOSERS") 295, val := PySem.Value.ref 75 }, { hash := PySem.PyData.keyHash P (PySem.Str.ofString "closer_of"), key := PySem.Value.str (PySem.Str.ofString "closer_of") 302, val := PySem.Value.ref 82 }, { hash := PySem.PyData.keyHash P (PySem.Str.ofString "line_of_place"), key := PySem.Value.str (PySem.Str.ofString "line_of_place") 310, val := PySem.Value.ref 89 }, { hash := PySem.PyData.keyHash P (PySem.Str.ofString "delimited"), key := PySem.Value.str (PySem.Str.ofString "delimited") 323, val := PySem.Value.ref 96 }, { hash := PySem.PyData.keyHash P (PySem.Str.ofString "unguarded"), key := PySem.Value.str (PySem.Str.ofString "unguarded") 336, val := PySem.Value.ref 103 }, { hash := PySem.PyData.keyHash P (PySem.Str.ofString "read_q"), key := PySem.Value.str (PySem.Str.ofString "read_q") 344, val := PySem.Value.ref 110 }, { hash := PySem.PyData.keyHash P (PySem.Str.ofString "read_qw"), key := PySem.Value.str (PySem.Str.ofString "read_qw") 354, val := PySem.Value.ref 117 }, { hash := PySem.PyData.keyHash P (PySem.Str.ofString "BLANK_SIGNS"), key := PySem.Value.str (PySem.Str.ofString "BLANK_SIGNS") 358, val := PySem.Value.str (PySem.Str.ofString " \t\x0d\n\x0c") 357 }, { hash := PySem.PyData.keyHash P (PySem.Str.ofString "OPENING_SIGNS"), key := PySem.Value.str (PySem.Str.ofString "OPENING_SIGNS") 360, val := PySem.Value.str (PySem.Str.ofString "([{<") 359 }, { hash := PySem.PyData.keyHash P (PySem.Str.ofString "FLAGS_OF"), key := PySem.Value.str (PySem.Str.ofString "FLAGS_OF") 370, val := PySem.Value.ref 118 }, { hash := PySem.PyData.keyHash P (PySem.Str.ofString "opening_place"), key := PySem.Value.str (PySem.Str.ofString "opening_place") 379, val := PySem.Value.ref 125 }, { hash := PySem.PyData.keyHash P (PySem.Str.ofString "behind_blanks"), key := PySem.Value.str (PySem.Str.ofString "behind_blanks") 388, val := PySem.Value.ref 132 }, { hash := PySem.PyData.keyHash P (PySem.Str.ofString "second_part"), key := PySem.Value.str (PySem.Str.ofString "second_part") 400, val := PySem.Value.ref 139 }, { hash := PySem.PyData.keyHash P (PySem.Str.ofString "flags_token"), key := PySem.Value.str (PySem.Str.ofString "flags_token") 411, val := PySem.Value.ref 146 }, { hash := PySem.PyData.keyHash P (PySem.Str.ofString "match_token"), key := PySem.Value.str (PySem.Str.ofString "match_token") 423, val := PySem.Value.ref 153 }, { hash := PySem.PyData.keyHash P (PySem.Str.ofString "subst_token"), key := PySem.Value.str (PySem.Str.ofString "subst_token") 438, val := PySem.Value.ref 160 }, { hash := PySem.PyData.keyHash P (PySem.Str.ofString "trans_token"), key := PySem.Value.str (PySem.Str.ofString "trans_token") 452, val := PySem.Value.ref 167 }, { hash := PySem.PyData.keyHash P (PySem.Str.ofString "quote_token"), key := PySem.Value.str (PySem.Str.ofString "quote_token") 463, val := PySem.Value.ref 174 }, { hash := PySem.PyData.keyHash P (PySem.Str.ofString "here_sign"), key := PySem.Value.str (PySem.Str.ofString "here_sign") 478, val := PySem.Value.ref 181 }, { hash := PySem.PyData.keyHash P (PySem.Str.ofString "_law_words"), key := PySem.Value.str (PySem.Str.ofString "_law_words") 488, val := PySem.Value.ref 182 }, { hash := PySem.PyData.keyHash P (PySem.Str.ofString "_law_openers"), key := PySem.Value.str (PySem.Str.ofString "_law_openers") 499, val := PySem.Value.ref 183 }, { hash := PySem.PyData.keyHash P (PySem.Str.ofString "_law_closers"), key := PySem.Value.str (PySem.Str.ofString "_law_closers") 505, val := PySem.Value.ref 190 }, { hash := PySem.PyData.keyHash P (PySem.Str.ofString "_law_known"), key := PySem.Value.str (PySem.Str.ofString "_law_known") 511, val := PySem.Value.ref 197 }, { hash := PySem.PyData.keyHash P (PySem.Str.ofString "_law_sip"), key := PySem.Value.str (PySem.Str.ofString "_law_sip") 520, val := PySem.Value.ref 204 }, { hash := PySem.PyData.keyHash P (PySem.Str.ofString "_law_within"), key := PySem.Value.str (PySem.Str.ofString "_law_within") 526, val := PySem.Value.ref 209 }, { hash := PySem.PyData.keyHash P (PySem.Str.ofString "_law_row"), key := PySem.Value.str (PySem.Str.ofString "_law_row") 534, val := PySem.Value.ref 216 }, { hash := PySem.PyData.keyHash P (PySem.Str.ofString "_law_quote"), key := PySem.Value.str (PySem.Str.ofString "_law_quote") 540, val := PySem.Value.ref 221 }, { hash := PySem.PyData.keyHash P (PySem.Str.ofString "_law_read"), key := PySem.Value.str (PySem.Str.ofString "_law_read") 550, val := PySem.Value.ref 228 }, { hash := PySem.PyData.keyHash P (PySem.Str.ofString "_law_here_read"), key := PySem.Value.str (PySem.Str.ofString "_law_here_read") 559, val := PySem.Value.ref 235 }, { hash := PySem.PyData.keyHash P (PySem.Str.ofString "_law_here_right"), key := PySem.Value.str (PySem.Str.ofString "_law_here_right") 574, val := PySem.Value.ref 242 }, { hash := PySem.PyData.keyHash P (PySem.Str.ofString "law"), key := PySem.Value.str (PySem.Str.ofString "law") 580, val := PySem.Value.ref 247 }] 48 }),
  (34, { cls := PySem.Value.type "code", data := PySem.Data.fields #[PySem.Value.str (PySem.Str.ofString "__init__") 212, PySem.Value.str (PySem.Str.ofString "PerlError.__init__") 213, PySem.Value.str (PySem.Str.ofString "/claim/cut.py") 214, PySem.Value.int 8 0, PySem.Value.int 2 0, PySem.Value.int 0 0, PySem.Value.int 0 0, PySem.Value.int 3 0, PySem.Value.ref 29, PySem.Value.bool true, PySem.Value.int 181 0, PySem.Value.ref 30, PySem.Value.none, PySem.Value.ref 31, PySem.Value.ref 32, PySem.Value.ref 33, PySem.Value.int 217 0, PySem.Value.int 8 0, PySem.Value.str (PySem.Str.ofString "/claim/cut.py") 218] }),
  (35, { cls := PySem.Value.type "function", data := PySem.Data.func { name := PySem.Str.ofString "__init__", qualname := PySem.Str.ofString "PerlError.__init__", params := { posonlyargs := [], args := [{ arg := PySem.Str.ofString "self", annotation := none, pos := { line := 8, col := 17, endLine := 8, endCol := 21 } }, { arg := PySem.Str.ofString "text", annotation := none, pos := { line := 8, col := 23, endLine := 8, endCol := 27 } }], vararg := none, kwonlyargs := [], kw_defaults := [], kwarg := none, defaults := [] }, body := PySem.FuncBody.stmts [PySem.Stmt.Expr (((PySem.Expr.Name (PySem.Str.ofString "Exception") { line := 9, col := 8, endLine := 9, endCol := 17 }).Attribute (PySem.Str.ofString "__init__") { line := 9, col := 8, endLine := 9, endCol := 26 }).Call [PySem.Expr.Name (PySem.Str.ofString "self") { line := 9, col := 27, endLine := 9, endCol := 31 }, PySem.Expr.Name (PySem.Str.ofString "text") { line := 9, col := 33, endLine := 9, endCol := 37 }] [] { line := 9, col := 8, endLine := 9, endCol := 38 }) { line := 9, col := 8, endLine := 9, endCol := 38 }, PySem.Stmt.Assign [(PySem.Expr.Name (PySem.Str.ofString "self") { line := 10, col := 8, endLine := 10, endCol := 12 }).Attribute (PySem.Str.ofString "text") { line := 10, col := 8, endLine := 10, endCol := 17 }] (PySem.Expr.Name (PySem.Str.ofString "text") { line := 10, col := 20, endLine := 10, endCol := 24 }) { line := 10, col := 8, endLine := 10, endCol := 24 }], scope := { kind := PySem.ScopeKind.function, names := [(PySem.Str.ofString "self", PySem.NameKind.local), (PySem.Str.ofString "text", PySem.NameKind.local), (PySem.Str.ofString "Exception", PySem.NameKind.globalImplicit)], isGenerator := false, isCoroutine := false }, globals := 3, closure := [], defaults := PySem.Value.none, kwdefaults := PySem.Value.none, pyModule := PySem.Value.str (PySem.Str.ofString "perlcore.errors") 198, code := PySem.Value.ref 34 } }),
  (37, { cls := PySem.Value.type "dict", data := PySem.Data.dict #[{ hash := PySem.PyData.keyHash P (PySem.Str.ofString "__module__"), key := PySem.Value.str (PySem.Str.ofString "__module__") 207, val := PySem.Value.str (PySem.Str.ofString "perlcore.errors") 198 }, { hash := PySem.PyData.keyHash P (PySem.Str.ofString "__firstlineno__"), key := PySem.Value.str (PySem.Str.ofString "__firstlineno__") 211, val := PySem.Value.int 6 210 }, { hash := PySem.PyData.keyHash P (PySem.Str.ofString "__init__"), key := PySem.Value.str (PySem.Str.ofString "__init__") 219, val := PySem.Value.ref 35 }, { hash := PySem.PyData.keyHash P (PySem.Str.ofString "__static_attributes__"), key := PySem.Value.str (PySem.Str.ofString "__static_attributes__") 221, val := PySem.Value.ref 36 }, { hash := PySem.PyData.keyHash P (PySem.Str.ofString "__weakref__"), key := PySem.Value.str (PySem.Str.ofString "__weakref__") 223, val := PySem.Value.ref 39 }, { hash := PySem.PyData.keyHash P (PySem.Str.ofString "__doc__"), key := PySem.Value.str (PySem.Str.ofString "__doc__") 224, val := PySem.Value.none }] 3 }),
  (38, { cls := PySem.Value.type "type", data := PySem.Data.cls { name := PySem.Str.ofString "PerlError", bases := [PySem.Value.type "Exception"], mro := [PySem.Value.ref 38, PySem.Value.type "Exception", PySem.Value.type "BaseException", PySem.Value.type "object"], ns := 37, qualname := PySem.Str.ofString "PerlError", subclasses := [PySem.Value.ref 58] }, slots := #[some (PySem.Value.ref 22), none, some (PySem.Value.str (PySem.Str.ofString "PerlError") 200), some (PySem.Value.str (PySem.Str.ofString "PerlError") 208), some (PySem.Value.builtin "Exception.__new__"), some (PySem.Value.bool true)] }),
  (54, { cls := PySem.Value.type "code", data := PySem.Data.fields #[PySem.Value.str (PySem.Str.ofString "__init__") 241, PySem.Value.str (PySem.Str.ofString "SyntaxDie.__init__") 242, PySem.Value.str (PySem.Str.ofString "/claim/cut.py") 243, PySem.Value.int 13 0, PySem.Value.int 3 0, PySem.Value.int 0 0, PySem.Value.int 0 0, PySem.Value.int 3 0, PySem.Value.ref 49, PySem.Value.bool true, PySem.Value.int 181 0, PySem.Value.ref 50, PySem.Value.none, PySem.Value.ref 51, PySem.Value.ref 52, PySem.Value.ref 53, PySem.Value.int 247 0, PySem.Value.int 13 0, PySem.Value.str (PySem.Str.ofString "/claim/cut.py") 248] }),
  (55, { cls := PySem.Value.type "function", data := PySem.Data.func { name := PySem.Str.ofString "__init__", qualname := PySem.Str.ofString "SyntaxDie.__init__", params := { posonlyargs := [], args := [{ arg := PySem.Str.ofString "self", annotation := none, pos := { line := 13, col := 17, endLine := 13, endCol := 21 } }, { arg := PySem.Str.ofString "text", annotation := none, pos := { line := 13, col := 23, endLine := 13, endCol := 27 } }, { arg := PySem.Str.ofString "line", annotation := none, pos := { line := 13, col := 29, endLine := 13, endCol := 33 } }], vararg := none, kwonlyargs := [], kw_defaults := [], kwarg := none, defaults := [] }, body := PySem.FuncBody.stmts [PySem.Stmt.Expr (((PySem.Expr.Name (PySem.Str.ofString "PerlError") { line := 14, col := 8, endLine := 14, endCol := 17 }).Attribute (PySem.Str.ofString "__init__") { line := 14, col := 8, endLine := 14, endCol := 26 }).Call [PySem.Expr.Name (PySem.Str.ofString "self") { line := 14, col := 27, endLine := 14, endCol := 31 }, PySem.Expr.Name (PySem.Str.ofString "text") { line := 14, col := 33, endLine := 14, endCol := 37 }] [] { line := 14, col := 8, endLine := 14, endCol := 38 }) { line := 14, col := 8, endLine := 14, endCol := 38 }, PySem.Stmt.Assign [(PySem.Expr.Name (PySem.Str.ofString "self") { line := 15, col := 8, endLine := 15, endCol := 12 }).Attribute (PySem.Str.ofString "line") { line := 15, col := 8, endLine := 15, endCol := 17 }] (PySem.Expr.Name (PySem.Str.ofString "line") { line := 15, col := 20, endLine := 15, endCol := 24 }) { line := 15, col := 8, endLine := 15, endCol := 24 }], scope := { kind := PySem.ScopeKind.function, names := [(PySem.Str.ofString "self", PySem.NameKind.local), (PySem.Str.ofString "text", PySem.NameKind.local), (PySem.Str.ofString "line", PySem.NameKind.local), (PySem.Str.ofString "PerlError", PySem.NameKind.globalImplicit)], isGenerator := false, isCoroutine := false }, globals := 3, closure := [], defaults := PySem.Value.none, kwdefaults := PySem.Value.none, pyModule := PySem.Value.str (PySem.Str.ofString "perlcore.errors") 198, code := PySem.Value.ref 54 } }),
  (57, { cls := PySem.Value.type "dict", data := PySem.Data.dict #[{ hash := PySem.PyData.keyHash P (PySem.Str.ofString "__module__"), key := PySem.Value.str (PySem.Str.ofString "__module__") 236, val := PySem.Value.str (PySem.Str.ofString "perlcore.errors") 198 }, { hash := PySem.PyData.keyHash P (PySem.Str.ofString "__firstlineno__"), key := PySem.Value.str (PySem.Str.ofString "__firstlineno__") 240, val := PySem.Value.int 11 239 }, { hash := PySem.PyData.keyHash P (PySem.Str.ofString "__init__"), key := PySem.Value.str (PySem.Str.ofString "__init__") 249, val := PySem.Value.ref 55 }, { hash := PySem.PyData.keyHash P (PySem.Str.ofString "__static_attributes__"), key := PySem.Value.str (PySem.Str.ofString "__static_attributes__") 251, val := PySem.Value.ref 56 }, { hash := PySem.PyData.keyHash P (PySem.Str.ofString "__doc__"), key := PySem.Value.str (PySem.Str.ofString "__doc__") 252, val := PySem.Value.none }] 2 }),
  (58, { cls := PySem.Value.type "type", data := PySem.Data.cls { name := PySem.Str.ofString "SyntaxDie", bases := [PySem.Value.ref 38], mro := [PySem.Value.ref 58, PySem.Value.ref 38, PySem.Value.type "Exception", PySem.Value.type "BaseException", PySem.Value.type "object"], ns := 57, qualname := PySem.Str.ofString "SyntaxDie" }, slots := #[some (PySem.Value.ref 42), none, some (PySem.Value.str (PySem.Str.ofString "SyntaxDie") 229), some (PySem.Value.str (PySem.Str.ofString "SyntaxDie") 237), some (PySem.Value.builtin "Exception.__new__"), some (PySem.Value.bool true)] }),
  (75, { cls := PySem.Value.type "dict", data := PySem.Data.dict #[{ hash := PySem.PyData.keyHash P (PySem.Str.ofString "("), key := PySem.Value.str (PySem.Str.ofString "(") 283, val := PySem.Value.str (PySem.Str.ofString ")") 284 }, { hash := PySem.PyData.keyHash P (PySem.Str.ofString "["), key := PySem.Value.str (PySem.Str.ofString "[") 285, val := PySem.Value.str (PySem.Str.ofString "]") 286 }, { hash := PySem.PyData.keyHash P (PySem.Str.ofString "{"), key := PySem.Value.str (PySem.Str.ofString "{") 287, val := PySem.Value.str (PySem.Str.ofString "}") 288 }, { hash := PySem.PyData.keyHash P (PySem.Str.ofString "<"), key := PySem.Value.str (PySem.Str.ofString "<") 289, val := PySem.Value.str (PySem.Str.ofString ">") 290 }] 4 }),
  (118, { cls := PySem.Value.type "dict", data := PySem.Data.dict #[{ hash := PySem.PyData.keyHash P (PySem.Str.ofString "match"), key := PySem.Value.str (PySem.Str.ofString "match") 361, val := PySem.Value.str (PySem.Str.ofString "cgimosx") 362 }, { hash := PySem.PyData.keyHash P (PySem.Str.ofString "subst"), key := PySem.Value.str (PySem.Str.ofString "subst") 363, val := PySem.Value.str (PySem.Str.ofString "egimorsx") 364 }, { hash := PySem.PyData.keyHash P (PySem.Str.ofString "trans"), key := PySem.Value.str (PySem.Str.ofString "trans") 365, val := PySem.Value.str (PySem.Str.ofString "cdsr") 366 }] 3 }),
  (182, { cls := PySem.Value.type "tuple", data := PySem.Data.seq #[PySem.Value.str (PySem.Str.ofString "q") 481, PySem.Value.str (PySem.Str.ofString "qq") 482, PySem.Value.str (PySem.Str.ofString "qw") 483, PySem.Value.str (PySem.Str.ofString "m") 484, PySem.Value.str (PySem.Str.ofString "s") 485, PySem.Value.str (PySem.Str.ofString "tr") 486, PySem.Value.str (PySem.Str.ofString "y") 487] }),
  (183, { cls := PySem.Value.type "tuple", data := PySem.Data.seq #[PySem.Value.str (PySem.Str.ofString "/") 489, PySem.Value.str (PySem.Str.ofString "!") 490, PySem.Value.str (PySem.Str.ofString "'") 491, PySem.Value.str (PySem.Str.ofString ",") 492, PySem.Value.str (PySem.Str.ofString "(") 493, PySem.Value.str (PySem.Str.ofString "[") 494, PySem.Value.str (PySem.Str.ofString "{") 495, PySem.Value.str (PySem.Str.ofString "<") 496, PySem.Value.str (PySem.Str.ofString "#") 497, PySem.Value.str (PySem.Str.ofString "\"") 498] })]

noncomputable abbrev myAs : List Addr := [2, 3, 34, 35, 37, 38, 54, 55, 57, 58, 75, 118, 182, 183]
noncomputable def myH : Hook := kHook myK myAs (fun _ => by kernel_rfl)
theorem myK_nodup : (myAs.Nodup) := by decide
end Mine
namespace Mine
open PySem PySem.W PyProof.Rows PySem.Calls

noncomputable def fdAt (K : Frag) (a : Addr) : FuncData := match K.lookup a with
  | some ⟨_, _, .func d, _⟩ => d
  | _ => default
theorem mem_lkN {β : Type} {a : Nat} {o : β} : ∀ {l : List (Nat × β)}, l.lookup a = some o → (a, o) ∈ l
  | [], h => by cases h
  | (m, k) :: l, h => by
    rw [List.lookup_cons] at h
    cases q : a == m with
    | true => rw [q] at h; cases h; rw [eq_of_beq q]; exact .head _
    | false => rw [q] at h; exact .tail _ (mem_lkN h)
theorem myNo (P : Params) : ∀ a o, (myK P).lookup a = some o → o.cls ≠ .ref 58 := by
  have h : ((myK P).all fun p => !(p.2.cls == .ref 58)) = true := by kernel_rfl
  intro a o e q
  have := List.all_eq_true.mp h (a, o) (mem_lkN e)
  rw [show ((a, o) : Addr × Obj).2.cls = .ref 58 from q] at this
  simp at this
theorem myDie (P : Params) : DieK (myK P) 58 38 55 35 (fdAt (myK P) 55) (fdAt (myK P) 35) := {
  die := ⟨_, _, _, _, _, _, _, _, _, _, _, _, _, _, rfl⟩
  no := myNo P
  i5 := by kernel_rfl
  t5 := by kernel_rfl
  sa := by kernel_rfl
  txt := by kernel_rfl
  lin := by kernel_rfl
  rd := by kernel_rfl
  m3 := by kernel_rfl
  ga := by kernel_rfl
  o3 := ⟨_, rfl, rfl⟩
  o5 := ⟨_, rfl, rfl⟩
  c3 := ⟨_, _, _, _, rfl, rfl, rfl, rfl⟩
  c5 := ⟨_, _, _, _, rfl, rfl, rfl, rfl⟩
  b3 := ⟨_, _, _, _, _, _, _, _, _, _, rfl, by decide⟩
  b5 := ⟨_, _, _, _, _, _, _, _, _, _, rfl, by decide⟩
  n3 := rfl
  n5 := rfl
  s3 := ⟨rfl, rfl, rfl, rfl, rfl⟩
  s5 := ⟨rfl, rfl, rfl, rfl, rfl⟩
  g3 := fun _ _ => rfl
  g5 := fun _ _ _ => rfl }
end Mine
namespace Mine
open PySem PySem.W PyProof.Rows PySem.Calls

/-- what the law's text leaves at its top -/
structure TopOk (C : Cx) (cs : List Int) : Prop where
  fn : ∀ d ∈ recsOf PySem.Challenge.pw_qd0139_01, ∃ a o pm code doc, C.mg d.name = some (.ref a) ∧ C.base.get? a = some o ∧ o.data = .func (docDef d.name d.params d.body d.scope pm code doc) ∧ C.base.CodeRec code d.name
  inK : (myK C.w.params).In C.base
  ns : C.base.Ns mainGlobals C.mg
  nb : C.base.Ns builtinsNs C.mb
  bt : ∀ x : Str, x ≠ "__name__" → C.mb x = bootBuiltins x
  die : C.die = 58
  g : C.g = gT cs

set_option tactic.hygienic true
theorem ns_in {K : Frag} {h : Heap} {N : Addr} {m : Str → Option Value} {n : Str} {r : Option Value} (X : K.In h) (G : h.Ns N m) (e : nsIn K N n = some r) : m n = r := by
  obtain ⟨o, es, ep, ho, hd, _, hm⟩ := G
  unfold nsIn at e
  cases hl : K.lookup N with
  | none => rw [hl] at e; cases e
  | some ob =>
    obtain ⟨c1, d1, dat, sl⟩ := ob
    rw [hl] at e
    have := X _ _ hl
    rw [this] at ho; cases ho
    dsimp only at hd; subst hd
    obtain ⟨l⟩ := es
    rw [← hm]
    unfold nsFind findBy
    rw [List.find?_toArray]
    dsimp only at e ⊢
    split at e
    · rename_i e' h'; rw [h']; exact Option.some.inj e
    · rename_i h'
      rw [h']
      split at e
      · cases e
      · exact Option.some.inj e

set_option tactic.hygienic false
theorem defOk_of {fs : List String} {scope : Scope} {nm ps : List String} {b : S} (h : defB scope nm ps = true) : DefOk fs scope nm ps b := by
  simp only [defB, Bool.and_eq_true, decide_eq_true_eq, List.all_eq_true, Bool.not_eq_true', decide_eq_false_iff_not, Bool.or_eq_true] at h
  obtain ⟨⟨⟨⟨⟨⟨⟨h1, h2⟩, h3⟩, h4⟩, h5⟩, h6⟩, h7⟩, h8⟩ := h
  exact ⟨h1, h2, h3, fun n k hm => h4 _ hm, ⟨nm.drop ps.length, by conv => lhs; rw [← List.take_append_drop ps.length nm, h5]⟩, h6, h7, h8⟩

section
variable {C : Cx} {cs : List Int} {n : Nat}
theorem ctrTop (T : TopOk C cs) (i : Nat) {f : String} {k : Nat} {nm ps fs : List String} {bd : List Stmt} {b : S} {sem : List AV → M (Fl × List AV)}
    (hname : ((recsOf PySem.Challenge.pw_qd0139_01)[i]?.map fun d => d.name) = some (Str.ofString f)) (hbody : ((recAt i).map fun d => d.2.1) = some bd)
    (hargs : ∀ vs : List Value, vs.length = ps.length → ∀ nm bd sc pm code doc, bindArgs (docDef nm (argsAt i) bd sc pm code doc) ⟨vs, []⟩ = pure ((ps.map Str.ofString).zip vs))
    (hdef : ((recAt i).all fun d => defB d.2.2 nm ps) = true)
    (hsim : ∀ (F : Fx) X ρ d s, ((recAt i).map fun d => d.2.2) = some F.env.scope → F.C = C → F.nm = nm → FOk F n → FS F → Iv F X ρ d s.heap → SSim F s d (execs bd F.env) (sem ρ))
    (hF : ∀ args d r, C.g.F f args d = some r → args.length = ps.length ∧ M.bind (sem (initA args nm.length)) endA d = some r) : Ctr C (n + 1) f := by
  obtain ⟨d, hd, hn⟩ := Option.map_eq_some_iff.mp hname
  obtain ⟨a, o, pm, code, doc, h1, h2, h3, h4⟩ := T.fn d (List.mem_of_getElem? hd)
  have hr : recAt i = some (d.params, d.body, d.scope) := by unfold recAt; rw [hd]; rfl
  have ha : argsAt i = d.params := by unfold argsAt; rw [hr]; rfl
  rw [hr] at hbody hdef
  have hbd : d.body = bd := Option.some.inj hbody
  rw [hn] at h1
  refine defCtr (fs := fs) (b := b) h1 h2 h3 h4 rfl rfl rfl (body := bd) (by rw [← hbd]; rfl) (fun vs hv => by rw [← ha]; exact hargs vs hv _ _ _ _ _ _) (defOk_of (show defB d.scope nm ps = true by simpa using hdef)) (fun F X ρ dd s hC hnm hsc O SF I => hsim F X ρ dd s (by rw [hr, hsc]; rfl) hC hnm O SF I) hF
theorem hF_of {f : String} {k m : Nat} {b : S} (T : TopOk C cs) (q : (gT cs).F f = fun args => if args.length = k then runA (gT cs) m b args else M.fail) :
    ∀ args d r, C.g.F f args d = some r → args.length = k ∧ M.bind (ds C.g b (initA args m)) endA d = some r := by
  intro args d r h
  rw [T.g, q] at h
  dsimp only at h
  by_cases hk : args.length = k
  · rw [if_pos hk] at h
    rw [T.g]
    exact ⟨hk, h⟩
  · rw [if_neg hk] at h; cases h
theorem ctrBody (T : TopOk C cs) (RZ : RaiseOk C n) (i : Nat) {f : String} {nm ps fs : List String} {b : S} (G : GOk C n fs)
    {a : Arguments} (hsh : shapeL[i]? = some (Str.ofString f, a, tst nm b)) (hck : chksL[i]? = some fun sc => defB sc nm ps && okS nm fs sc b)
    (hargs : ∀ vs : List Value, vs.length = ps.length → ∀ nm bd sc pm code doc, bindArgs (docDef nm (argsAt i) bd sc pm code doc) ⟨vs, []⟩ = pure ((ps.map Str.ofString).zip vs))
    (q : (gT cs).F f = fun args => if args.length = ps.length then runA (gT cs) nm.length b args else M.fail) : Ctr C (n + 1) f := by
  have hdef := chL (a := fun sc => defB sc nm ps) (b := fun sc => okS nm fs sc b) (chI hck)
  have hok := chR (a := fun sc => defB sc nm ps) (b := fun sc => okS nm fs sc b) (chI hck)
  refine ctrTop (b := b) (fs := fs) (sem := fun ρ => ds C.g b ρ) (k := 0) T i (nmI hsh) (atI hsh) hargs hdef (fun F X ρ d s hsc hC hnm O SF I => ?_) (hF_of T q)
  subst hC hnm
  refine sOk (by decide) G RZ b F ρ X d s rfl O SF ?_ I
  obtain ⟨r, hr, he⟩ := Option.map_eq_some_iff.mp hsc
  rw [hr] at hok
  rw [← he]
  simpa using hok
end
end Mine
namespace Mine
open PySem PySem.W PyProof.Rows PySem.Calls

theorem pb_remarkend : ∀ vs : List Value, vs.length = (nremarkend.take 2).length → ∀ nm bd sc pm code doc, bindArgs (docDef nm (argsAt 0) bd sc pm code doc) ⟨vs, []⟩ = pure (((nremarkend.take 2).map Str.ofString).zip vs) := by
  intro vs h nm bd sc pm code doc
  rw [show argsAt 0 = ar_remarkend from arI rfl]
  obtain ⟨v0, v1, rfl⟩ := len2 h
  kernel_rfl
theorem pb_lineof : ∀ vs : List Value, vs.length = (nlineof.take 2).length → ∀ nm bd sc pm code doc, bindArgs (docDef nm (argsAt 1) bd sc pm code doc) ⟨vs, []⟩ = pure (((nlineof.take 2).map Str.ofString).zip vs) := by
  intro vs h nm bd sc pm code doc
  rw [show argsAt 1 = ar_lineof from arI rfl]
  obtain ⟨v0, v1, rfl⟩ := len2 h
  kernel_rfl
theorem pb_runend : ∀ vs : List Value, vs.length = (nrunend.take 3).length → ∀ nm bd sc pm code doc, bindArgs (docDef nm (argsAt 2) bd sc pm code doc) ⟨vs, []⟩ = pure (((nrunend.take 3).map Str.ofString).zip vs) := by
  intro vs h nm bd sc pm code doc
  rw [show argsAt 2 = ar_runend from arI rfl]
  obtain ⟨v0, v1, v2, rfl⟩ := len3 h
  kernel_rfl
theorem pb_closerof : ∀ vs : List Value, vs.length = (ncloserof.take 1).length → ∀ nm bd sc pm code doc, bindArgs (docDef nm (argsAt 3) bd sc pm code doc) ⟨vs, []⟩ = pure (((ncloserof.take 1).map Str.ofString).zip vs) := by
  intro vs h nm bd sc pm code doc
  rw [show argsAt 3 = ar_closerof from arI rfl]
  obtain ⟨v0, rfl⟩ := len1 h
  kernel_rfl
theorem pb_lineofplace : ∀ vs : List Value, vs.length = (nlineofplace.take 2).length → ∀ nm bd sc pm code doc, bindArgs (docDef nm (argsAt 4) bd sc pm code doc) ⟨vs, []⟩ = pure (((nlineofplace.take 2).map Str.ofString).zip vs) := by
  intro vs h nm bd sc pm code doc
  rw [show argsAt 4 = ar_lineofplace from arI rfl]
  obtain ⟨v0, v1, rfl⟩ := len2 h
  kernel_rfl
theorem pb_delimited : ∀ vs : List Value, vs.length = (ndelimited.take 2).length → ∀ nm bd sc pm code doc, bindArgs (docDef nm (argsAt 5) bd sc pm code doc) ⟨vs, []⟩ = pure (((ndelimited.take 2).map Str.ofString).zip vs) := by
  intro vs h nm bd sc pm code doc
  rw [show argsAt 5 = ar_delimited from arI rfl]
  obtain ⟨v0, v1, rfl⟩ := len2 h
  kernel_rfl
theorem pb_unguarded : ∀ vs : List Value, vs.length = (nunguarded.take 3).length → ∀ nm bd sc pm code doc, bindArgs (docDef nm (argsAt 6) bd sc pm code doc) ⟨vs, []⟩ = pure (((nunguarded.take 3).map Str.ofString).zip vs) := by
  intro vs h nm bd sc pm code doc
  rw [show argsAt 6 = ar_unguarded from arI rfl]
  obtain ⟨v0, v1, v2, rfl⟩ := len3 h
  kernel_rfl
theorem pb_readq : ∀ vs : List Value, vs.length = (nreadq.take 2).length → ∀ nm bd sc pm code doc, bindArgs (docDef nm (argsAt 7) bd sc pm code doc) ⟨vs, []⟩ = pure (((nreadq.take 2).map Str.ofString).zip vs) := by
  intro vs h nm bd sc pm code doc
  rw [show argsAt 7 = ar_readq from arI rfl]
  obtain ⟨v0, v1, rfl⟩ := len2 h
  kernel_rfl
theorem pb_readqw : ∀ vs : List Value, vs.length = (nreadqw.take 1).length → ∀ nm bd sc pm code doc, bindArgs (docDef nm (argsAt 8) bd sc pm code doc) ⟨vs, []⟩ = pure (((nreadqw.take 1).map Str.ofString).zip vs) := by
  intro vs h nm bd sc pm code doc
  rw [show argsAt 8 = ar_readqw from arI rfl]
  obtain ⟨v0, rfl⟩ := len1 h
  kernel_rfl
theorem pb_openingplace : ∀ vs : List Value, vs.length = (nopeningplace.take 2).length → ∀ nm bd sc pm code doc, bindArgs (docDef nm (argsAt 9) bd sc pm code doc) ⟨vs, []⟩ = pure (((nopeningplace.take 2).map Str.ofString).zip vs) := by
  intro vs h nm bd sc pm code doc
  rw [show argsAt 9 = ar_openingplace from arI rfl]
  obtain ⟨v0, v1, rfl⟩ := len2 h
  kernel_rfl
theorem pb_behindblanks : ∀ vs : List Value, vs.length = (nbehindblanks.take 2).length → ∀ nm bd sc pm code doc, bindArgs (docDef nm (argsAt 10) bd sc pm code doc) ⟨vs, []⟩ = pure (((nbehindblanks.take 2).map Str.ofString).zip vs) := by
  intro vs h nm bd sc pm code doc
  rw [show argsAt 10 = ar_behindblanks from arI rfl]
  obtain ⟨v0, v1, rfl⟩ := len2 h
  kernel_rfl
theorem pb_secondpart : ∀ vs : List Value, vs.length = (nsecondpart.take 3).length → ∀ nm bd sc pm code doc, bindArgs (docDef nm (argsAt 11) bd sc pm code doc) ⟨vs, []⟩ = pure (((nsecondpart.take 3).map Str.ofString).zip vs) := by
  intro vs h nm bd sc pm code doc
  rw [show argsAt 11 = ar_secondpart from arI rfl]
  obtain ⟨v0, v1, v2, rfl⟩ := len3 h
  kernel_rfl
theorem pb_flagstoken : ∀ vs : List Value, vs.length = (nflagstoken.take 3).length → ∀ nm bd sc pm code doc, bindArgs (docDef nm (argsAt 12) bd sc pm code doc) ⟨vs, []⟩ = pure (((nflagstoken.take 3).map Str.ofString).zip vs) := by
  intro vs h nm bd sc pm code doc
  rw [show argsAt 12 = ar_flagstoken from arI rfl]
  obtain ⟨v0, v1, v2, rfl⟩ := len3 h
  kernel_rfl
theorem pb_matchtoken : ∀ vs : List Value, vs.length = (nmatchtoken.take 2).length → ∀ nm bd sc pm code doc, bindArgs (docDef nm (argsAt 13) bd sc pm code doc) ⟨vs, []⟩ = pure (((nmatchtoken.take 2).map Str.ofString).zip vs) := by
  intro vs h nm bd sc pm code doc
  rw [show argsAt 13 = ar_matchtoken from arI rfl]
  obtain ⟨v0, v1, rfl⟩ := len2 h
  kernel_rfl
theorem pb_substtoken : ∀ vs : List Value, vs.length = (nsubsttoken.take 2).length → ∀ nm bd sc pm code doc, bindArgs (docDef nm (argsAt 14) bd sc pm code doc) ⟨vs, []⟩ = pure (((nsubsttoken.take 2).map Str.ofString).zip vs) := by
  intro vs h nm bd sc pm code doc
  rw [show argsAt 14 = ar_substtoken from arI rfl]
  obtain ⟨v0, v1, rfl⟩ := len2 h
  kernel_rfl
theorem pb_transtoken : ∀ vs : List Value, vs.length = (ntranstoken.take 2).length → ∀ nm bd sc pm code doc, bindArgs (docDef nm (argsAt 15) bd sc pm code doc) ⟨vs, []⟩ = pure (((ntranstoken.take 2).map Str.ofString).zip vs) := by
  intro vs h nm bd sc pm code doc
  rw [show argsAt 15 = ar_transtoken from arI rfl]
  obtain ⟨v0, v1, rfl⟩ := len2 h
  kernel_rfl
theorem pb_quotetoken : ∀ vs : List Value, vs.length = (nquotetoken.take 3).length → ∀ nm bd sc pm code doc, bindArgs (docDef nm (argsAt 16) bd sc pm code doc) ⟨vs, []⟩ = pure (((nquotetoken.take 3).map Str.ofString).zip vs) := by
  intro vs h nm bd sc pm code doc
  rw [show argsAt 16 = ar_quotetoken from arI rfl]
  obtain ⟨v0, v1, v2, rfl⟩ := len3 h
  kernel_rfl
theorem pb_heresign : ∀ vs : List Value, vs.length = (nheresign.take 2).length → ∀ nm bd sc pm code doc, bindArgs (docDef nm (argsAt 17) bd sc pm code doc) ⟨vs, []⟩ = pure (((nheresign.take 2).map Str.ofString).zip vs) := by
  intro vs h nm bd sc pm code doc
  rw [show argsAt 17 = ar_heresign from arI rfl]
  obtain ⟨v0, v1, rfl⟩ := len2 h
  kernel_rfl
theorem pb_Lclosers : ∀ vs : List Value, vs.length = (nLclosers.take 0).length → ∀ nm bd sc pm code doc, bindArgs (docDef nm (argsAt 18) bd sc pm code doc) ⟨vs, []⟩ = pure (((nLclosers.take 0).map Str.ofString).zip vs) := by
  intro vs h nm bd sc pm code doc
  rw [show argsAt 18 = ar_Lclosers from arI rfl]
  cases len0 h
  kernel_rfl
theorem pb_Lknown : ∀ vs : List Value, vs.length = (nLknown.take 0).length → ∀ nm bd sc pm code doc, bindArgs (docDef nm (argsAt 19) bd sc pm code doc) ⟨vs, []⟩ = pure (((nLknown.take 0).map Str.ofString).zip vs) := by
  intro vs h nm bd sc pm code doc
  rw [show argsAt 19 = ar_Lknown from arI rfl]
  cases len0 h
  kernel_rfl
theorem pb_Lsip : ∀ vs : List Value, vs.length = (nLsip.take 2).length → ∀ nm bd sc pm code doc, bindArgs (docDef nm (argsAt 20) bd sc pm code doc) ⟨vs, []⟩ = pure (((nLsip.take 2).map Str.ofString).zip vs) := by
  intro vs h nm bd sc pm code doc
  rw [show argsAt 20 = ar_Lsip from arI rfl]
  obtain ⟨v0, v1, rfl⟩ := len2 h
  kernel_rfl
theorem pb_Lwithin : ∀ vs : List Value, vs.length = (nLwithin.take 2).length → ∀ nm bd sc pm code doc, bindArgs (docDef nm (argsAt 21) bd sc pm code doc) ⟨vs, []⟩ = pure (((nLwithin.take 2).map Str.ofString).zip vs) := by
  intro vs h nm bd sc pm code doc
  rw [show argsAt 21 = ar_Lwithin from arI rfl]
  obtain ⟨v0, v1, rfl⟩ := len2 h
  kernel_rfl
theorem pb_Lrow : ∀ vs : List Value, vs.length = (nLrow.take 2).length → ∀ nm bd sc pm code doc, bindArgs (docDef nm (argsAt 22) bd sc pm code doc) ⟨vs, []⟩ = pure (((nLrow.take 2).map Str.ofString).zip vs) := by
  intro vs h nm bd sc pm code doc
  rw [show argsAt 22 = ar_Lrow from arI rfl]
  obtain ⟨v0, v1, rfl⟩ := len2 h
  kernel_rfl
theorem pb_Lquote : ∀ vs : List Value, vs.length = (nLquote.take 1).length → ∀ nm bd sc pm code doc, bindArgs (docDef nm (argsAt 23) bd sc pm code doc) ⟨vs, []⟩ = pure (((nLquote.take 1).map Str.ofString).zip vs) := by
  intro vs h nm bd sc pm code doc
  rw [show argsAt 23 = ar_Lquote from arI rfl]
  obtain ⟨v0, rfl⟩ := len1 h
  kernel_rfl
theorem pb_Lread : ∀ vs : List Value, vs.length = (nLread.take 3).length → ∀ nm bd sc pm code doc, bindArgs (docDef nm (argsAt 24) bd sc pm code doc) ⟨vs, []⟩ = pure (((nLread.take 3).map Str.ofString).zip vs) := by
  intro vs h nm bd sc pm code doc
  rw [show argsAt 24 = ar_Lread from arI rfl]
  obtain ⟨v0, v1, v2, rfl⟩ := len3 h
  kernel_rfl
theorem pb_Lhereread : ∀ vs : List Value, vs.length = (nLhereread.take 2).length → ∀ nm bd sc pm code doc, bindArgs (docDef nm (argsAt 25) bd sc pm code doc) ⟨vs, []⟩ = pure (((nLhereread.take 2).map Str.ofString).zip vs) := by
  intro vs h nm bd sc pm code doc
  rw [show argsAt 25 = ar_Lhereread from arI rfl]
  obtain ⟨v0, v1, rfl⟩ := len2 h
  kernel_rfl
theorem pb_Lhereright : ∀ vs : List Value, vs.length = (nLhereright.take 1).length → ∀ nm bd sc pm code doc, bindArgs (docDef nm (argsAt 26) bd sc pm code doc) ⟨vs, []⟩ = pure (((nLhereright.take 1).map Str.ofString).zip vs) := by
  intro vs h nm bd sc pm code doc
  rw [show argsAt 26 = ar_Lhereright from arI rfl]
  obtain ⟨v0, rfl⟩ := len1 h
  kernel_rfl
theorem pb_law : ∀ vs : List Value, vs.length = (nlaw.take 1).length → ∀ nm bd sc pm code doc, bindArgs (docDef nm (argsAt 27) bd sc pm code doc) ⟨vs, []⟩ = pure (((nlaw.take 1).map Str.ofString).zip vs) := by
  intro vs h nm bd sc pm code doc
  rw [show argsAt 27 = ar_law from arI rfl]
  obtain ⟨v0, rfl⟩ := len1 h
  kernel_rfl
end Mine
namespace Mine
open PySem PySem.W PyProof.Rows PySem.Calls

section
variable {C : Cx} {cs : List Int} {n : Nat}
theorem ctrTry (T : TopOk C cs) (D : DieK (myK C.w.params) C.die 38 55 35 (fdAt (myK C.w.params) 55) (fdAt (myK C.w.params) 35)) {fs : List String} (G : GOk C n fs) (i : Nat) {f : String} {nm ps : List String} {b : S}
    {a : Arguments} (hsh : shapeL[i]? = some (Str.ofString f, a, tst nm b)) (hck : chksL[i]? = some fun sc => defB sc nm ps && okTry nm fs sc b)
    (hargs : ∀ vs : List Value, vs.length = ps.length → ∀ nm bd sc pm code doc, bindArgs (docDef nm (argsAt i) bd sc pm code doc) ⟨vs, []⟩ = pure ((ps.map Str.ofString).zip vs))
    (hraw : (match b with | .tryl e _ => isRaw e | _ => true) = false)
    (q : (gT cs).F f = fun args => if args.length = ps.length then runA (gT cs) nm.length b args else M.fail) : Ctr C (n + 1) f := by
  have hdef := chL (a := fun sc => defB sc nm ps) (b := fun sc => okTry nm fs sc b) (chI hck)
  have hok := chR (a := fun sc => defB sc nm ps) (b := fun sc => okTry nm fs sc b) (chI hck)
  refine ctrTop (b := b) (fs := fs) (sem := fun ρ => ds C.g b ρ) (k := 0) T i (nmI hsh) (atI hsh) hargs hdef (fun F X ρ d s hsc hC hnm O SF I => ?_) (hF_of T q)
  subst hC hnm
  obtain ⟨r, hr, he⟩ := Option.map_eq_some_iff.mp hsc
  rw [hr] at hok
  have hok : okTry F.nm fs F.env.scope b = true := by rw [← he]; simpa using hok
  cases b with
  | tryl e ps' =>
    simp only [okTry, Bool.and_eq_true, decide_eq_true_eq] at hok
    obtain ⟨⟨h1, h2⟩, h3⟩ := hok
    exact sTry D T.inK (by rw [T.die]; kernel_rfl) (by rw [T.die]; kernel_rfl) (by rw [T.die]; exact ns_in T.inK T.ns (by kernel_rfl)) O SF hraw ((allOk (by decide) e F ρ O G).ex h1) h2 h3 I
  | _ => cases hok
end
end Mine
namespace Mine
open PySem PySem.W PyProof.Rows PySem.Calls

section
variable {C : Cx} {cs : List Int} {n m : Nat}
theorem FOk.less {F : Fx} (O : FOk F n) (h : m ≤ n) : FOk F m := { O with room := by have := O.room; omega, units := by have := O.units; omega }
theorem Ctr.mono {f : String} (h : m ≤ n) (c : Ctr C m f) : Ctr C n f := fun F X ρ d s a args vs hC O I hm hr => c F X ρ d s a args vs hC (O.less h) I hm hr

noncomputable def FnAt (C : Cx) (f : String) : Prop := (Str.ofString f == ("__debug__" : Str)) = false ∧ ∃ a o fd, C.mg (Str.ofString f) = some (.ref a) ∧ C.base.get? a = some o ∧ o.data = .func fd
theorem fnAt (T : TopOk C cs) (i : Nat) {f : String} (hd : (Str.ofString f == ("__debug__" : Str)) = false) (h : ((recsOf PySem.Challenge.pw_qd0139_01)[i]?.map fun d => d.name) = some (Str.ofString f)) : FnAt C f := by
  obtain ⟨d, h1, h2⟩ := Option.map_eq_some_iff.mp h
  obtain ⟨a, o, pm, code, doc, q1, q2, q3, _⟩ := T.fn d (List.mem_of_getElem? h1)
  exact ⟨hd, a, o, _, by rw [← h2]; exact q1, q2, q3⟩
theorem all_cons {α : Type} {P : α → Prop} {a : α} {l : List α} (h : P a) (h2 : ∀ x ∈ l, P x) : ∀ x ∈ a :: l, P x := fun x hx => by
  rcases List.mem_cons.mp hx with q | q
  · rw [q]; exact h
  · exact h2 x q
theorem all_nil {α : Type} {P : α → Prop} : ∀ x ∈ ([] : List α), P x := fun _ h => by cases h
structure GBase (C : Cx) : Prop where
  gv : ∀ x a, C.g.GV x = some a → (Str.ofString x == ("__debug__" : Str)) = false ∧ ∃ v, C.mg (Str.ofString x) = some v ∧ ∀ X h, (∀ y ∈ X, C.base.get? y = none) → C.base.StaysIn h → Rep C X h a v
  bi : ∀ f : BI, C.mg (Str.ofString f.name) = none ∧ C.mb (Str.ofString f.name) = some f.val
theorem GBase.ok (B : GBase C) {fs : List String} (h1 : ∀ f ∈ fs, FnAt C f) (h2 : ∀ f ∈ fs, Ctr C n f) : GOk C n fs := ⟨B.gv, h1, B.bi, h2⟩

theorem fn_l1 (T : TopOk C cs) : ∀ f ∈ fl1, FnAt C f := (all_cons (fnAt T 0 (by decide +kernel) (nmI (i := 0) rfl)) (all_cons (fnAt T 1 (by decide +kernel) (nmI (i := 1) rfl)) (all_cons (fnAt T 2 (by decide +kernel) (nmI (i := 2) rfl)) (all_cons (fnAt T 3 (by decide +kernel) (nmI (i := 3) rfl)) (all_cons (fnAt T 4 (by decide +kernel) (nmI (i := 4) rfl)) (all_cons (fnAt T 18 (by decide +kernel) (nmI (i := 18) rfl)) (all_cons (fnAt T 19 (by decide +kernel) (nmI (i := 19) rfl)) (all_cons (fnAt T 20 (by decide +kernel) (nmI (i := 20) rfl)) (all_cons (fnAt T 22 (by decide +kernel) (nmI (i := 22) rfl)) all_nil)))))))))
theorem fn_l2 (T : TopOk C cs) : ∀ f ∈ fl2, FnAt C f := (all_cons (fnAt T 0 (by decide +kernel) (nmI (i := 0) rfl)) (all_cons (fnAt T 1 (by decide +kernel) (nmI (i := 1) rfl)) (all_cons (fnAt T 2 (by decide +kernel) (nmI (i := 2) rfl)) (all_cons (fnAt T 3 (by decide +kernel) (nmI (i := 3) rfl)) (all_cons (fnAt T 4 (by decide +kernel) (nmI (i := 4) rfl)) (all_cons (fnAt T 18 (by decide +kernel) (nmI (i := 18) rfl)) (all_cons (fnAt T 19 (by decide +kernel) (nmI (i := 19) rfl)) (all_cons (fnAt T 20 (by decide +kernel) (nmI (i := 20) rfl)) (all_cons (fnAt T 22 (by decide +kernel) (nmI (i := 22) rfl)) (all_cons (fnAt T 5 (by decide +kernel) (nmI (i := 5) rfl)) (all_cons (fnAt T 6 (by decide +kernel) (nmI (i := 6) rfl)) (all_cons (fnAt T 9 (by decide +kernel) (nmI (i := 9) rfl)) (all_cons (fnAt T 10 (by decide +kernel) (nmI (i := 10) rfl)) (all_cons (fnAt T 12 (by decide +kernel) (nmI (i := 12) rfl)) (all_cons (fnAt T 21 (by decide +kernel) (nmI (i := 21) rfl)) all_nil)))))))))))))))
theorem fn_l3 (T : TopOk C cs) : ∀ f ∈ fl3, FnAt C f := (all_cons (fnAt T 0 (by decide +kernel) (nmI (i := 0) rfl)) (all_cons (fnAt T 1 (by decide +kernel) (nmI (i := 1) rfl)) (all_cons (fnAt T 2 (by decide +kernel) (nmI (i := 2) rfl)) (all_cons (fnAt T 3 (by decide +kernel) (nmI (i := 3) rfl)) (all_cons (fnAt T 4 (by decide +kernel) (nmI (i := 4) rfl)) (all_cons (fnAt T 18 (by decide +kernel) (nmI (i := 18) rfl)) (all_cons (fnAt T 19 (by decide +kernel) (nmI (i := 19) rfl)) (all_cons (fnAt T 20 (by decide +kernel) (nmI (i := 20) rfl)) (all_cons (fnAt T 22 (by decide +kernel) (nmI (i := 22) rfl)) (all_cons (fnAt T 5 (by decide +kernel) (nmI (i := 5) rfl)) (all_cons (fnAt T 6 (by decide +kernel) (nmI (i := 6) rfl)) (all_cons (fnAt T 9 (by decide +kernel) (nmI (i := 9) rfl)) (all_cons (fnAt T 10 (by decide +kernel) (nmI (i := 10) rfl)) (all_cons (fnAt T 12 (by decide +kernel) (nmI (i := 12) rfl)) (all_cons (fnAt T 21 (by decide +kernel) (nmI (i := 21) rfl)) (all_cons (fnAt T 7 (by decide +kernel) (nmI (i := 7) rfl)) (all_cons (fnAt T 8 (by decide +kernel) (nmI (i := 8) rfl)) (all_cons (fnAt T 11 (by decide +kernel) (nmI (i := 11) rfl)) (all_cons (fnAt T 13 (by decide +kernel) (nmI (i := 13) rfl)) (all_cons (fnAt T 17 (by decide +kernel) (nmI (i := 17) rfl)) (all_cons (fnAt T 23 (by decide +kernel) (nmI (i := 23) rfl)) all_nil)))))))))))))))))))))
theorem fn_l4 (T : TopOk C cs) : ∀ f ∈ fl4, FnAt C f := (all_cons (fnAt T 0 (by decide +kernel) (nmI (i := 0) rfl)) (all_cons (fnAt T 1 (by decide +kernel) (nmI (i := 1) rfl)) (all_cons (fnAt T 2 (by decide +kernel) (nmI (i := 2) rfl)) (all_cons (fnAt T 3 (by decide +kernel) (nmI (i := 3) rfl)) (all_cons (fnAt T 4 (by decide +kernel) (nmI (i := 4) rfl)) (all_cons (fnAt T 18 (by decide +kernel) (nmI (i := 18) rfl)) (all_cons (fnAt T 19 (by decide +kernel) (nmI (i := 19) rfl)) (all_cons (fnAt T 20 (by decide +kernel) (nmI (i := 20) rfl)) (all_cons (fnAt T 22 (by decide +kernel) (nmI (i := 22) rfl)) (all_cons (fnAt T 5 (by decide +kernel) (nmI (i := 5) rfl)) (all_cons (fnAt T 6 (by decide +kernel) (nmI (i := 6) rfl)) (all_cons (fnAt T 9 (by decide +kernel) (nmI (i := 9) rfl)) (all_cons (fnAt T 10 (by decide +kernel) (nmI (i := 10) rfl)) (all_cons (fnAt T 12 (by decide +kernel) (nmI (i := 12) rfl)) (all_cons (fnAt T 21 (by decide +kernel) (nmI (i := 21) rfl)) (all_cons (fnAt T 7 (by decide +kernel) (nmI (i := 7) rfl)) (all_cons (fnAt T 8 (by decide +kernel) (nmI (i := 8) rfl)) (all_cons (fnAt T 11 (by decide +kernel) (nmI (i := 11) rfl)) (all_cons (fnAt T 13 (by decide +kernel) (nmI (i := 13) rfl)) (all_cons (fnAt T 17 (by decide +kernel) (nmI (i := 17) rfl)) (all_cons (fnAt T 23 (by decide +kernel) (nmI (i := 23) rfl)) (all_cons (fnAt T 14 (by decide +kernel) (nmI (i := 14) rfl)) (all_cons (fnAt T 15 (by decide +kernel) (nmI (i := 15) rfl)) (all_cons (fnAt T 25 (by decide +kernel) (nmI (i := 25) rfl)) all_nil))))))))))))))))))))))))
theorem fn_l5 (T : TopOk C cs) : ∀ f ∈ fl5, FnAt C f := (all_cons (fnAt T 0 (by decide +kernel) (nmI (i := 0) rfl)) (all_cons (fnAt T 1 (by decide +kernel) (nmI (i := 1) rfl)) (all_cons (fnAt T 2 (by decide +kernel) (nmI (i := 2) rfl)) (all_cons (fnAt T 3 (by decide +kernel) (nmI (i := 3) rfl)) (all_cons (fnAt T 4 (by decide +kernel) (nmI (i := 4) rfl)) (all_cons (fnAt T 18 (by decide +kernel) (nmI (i := 18) rfl)) (all_cons (fnAt T 19 (by decide +kernel) (nmI (i := 19) rfl)) (all_cons (fnAt T 20 (by decide +kernel) (nmI (i := 20) rfl)) (all_cons (fnAt T 22 (by decide +kernel) (nmI (i := 22) rfl)) (all_cons (fnAt T 5 (by decide +kernel) (nmI (i := 5) rfl)) (all_cons (fnAt T 6 (by decide +kernel) (nmI (i := 6) rfl)) (all_cons (fnAt T 9 (by decide +kernel) (nmI (i := 9) rfl)) (all_cons (fnAt T 10 (by decide +kernel) (nmI (i := 10) rfl)) (all_cons (fnAt T 12 (by decide +kernel) (nmI (i := 12) rfl)) (all_cons (fnAt T 21 (by decide +kernel) (nmI (i := 21) rfl)) (all_cons (fnAt T 7 (by decide +kernel) (nmI (i := 7) rfl)) (all_cons (fnAt T 8 (by decide +kernel) (nmI (i := 8) rfl)) (all_cons (fnAt T 11 (by decide +kernel) (nmI (i := 11) rfl)) (all_cons (fnAt T 13 (by decide +kernel) (nmI (i := 13) rfl)) (all_cons (fnAt T 17 (by decide +kernel) (nmI (i := 17) rfl)) (all_cons (fnAt T 23 (by decide +kernel) (nmI (i := 23) rfl)) (all_cons (fnAt T 14 (by decide +kernel) (nmI (i := 14) rfl)) (all_cons (fnAt T 15 (by decide +kernel) (nmI (i := 15) rfl)) (all_cons (fnAt T 25 (by decide +kernel) (nmI (i := 25) rfl)) (all_cons (fnAt T 16 (by decide +kernel) (nmI (i := 16) rfl)) (all_cons (fnAt T 26 (by decide +kernel) (nmI (i := 26) rfl)) all_nil))))))))))))))))))))))))))
theorem fn_l6 (T : TopOk C cs) : ∀ f ∈ fs6, FnAt C f := (all_cons (fnAt T 0 (by decide +kernel) (nmI (i := 0) rfl)) (all_cons (fnAt T 1 (by decide +kernel) (nmI (i := 1) rfl)) (all_cons (fnAt T 2 (by decide +kernel) (nmI (i := 2) rfl)) (all_cons (fnAt T 3 (by decide +kernel) (nmI (i := 3) rfl)) (all_cons (fnAt T 4 (by decide +kernel) (nmI (i := 4) rfl)) (all_cons (fnAt T 18 (by decide +kernel) (nmI (i := 18) rfl)) (all_cons (fnAt T 19 (by decide +kernel) (nmI (i := 19) rfl)) (all_cons (fnAt T 20 (by decide +kernel) (nmI (i := 20) rfl)) (all_cons (fnAt T 22 (by decide +kernel) (nmI (i := 22) rfl)) (all_cons (fnAt T 5 (by decide +kernel) (nmI (i := 5) rfl)) (all_cons (fnAt T 6 (by decide +kernel) (nmI (i := 6) rfl)) (all_cons (fnAt T 9 (by decide +kernel) (nmI (i := 9) rfl)) (all_cons (fnAt T 10 (by decide +kernel) (nmI (i := 10) rfl)) (all_cons (fnAt T 12 (by decide +kernel) (nmI (i := 12) rfl)) (all_cons (fnAt T 21 (by decide +kernel) (nmI (i := 21) rfl)) (all_cons (fnAt T 7 (by decide +kernel) (nmI (i := 7) rfl)) (all_cons (fnAt T 8 (by decide +kernel) (nmI (i := 8) rfl)) (all_cons (fnAt T 11 (by decide +kernel) (nmI (i := 11) rfl)) (all_cons (fnAt T 13 (by decide +kernel) (nmI (i := 13) rfl)) (all_cons (fnAt T 17 (by decide +kernel) (nmI (i := 17) rfl)) (all_cons (fnAt T 23 (by decide +kernel) (nmI (i := 23) rfl)) (all_cons (fnAt T 14 (by decide +kernel) (nmI (i := 14) rfl)) (all_cons (fnAt T 15 (by decide +kernel) (nmI (i := 15) rfl)) (all_cons (fnAt T 25 (by decide +kernel) (nmI (i := 25) rfl)) (all_cons (fnAt T 16 (by decide +kernel) (nmI (i := 16) rfl)) (all_cons (fnAt T 26 (by decide +kernel) (nmI (i := 26) rfl)) (all_cons (fnAt T 24 (by decide +kernel) (nmI (i := 24) rfl)) all_nil)))))))))))))))))))))))))))
variable (T : TopOk C cs) (B : GBase C) (RZ : ∀ n, 2 ≤ n → RaiseOk C n)
include T B RZ
omit T RZ in
theorem G_0 : GOk C 2 [] := B.ok all_nil all_nil
theorem ct_remarkend : Ctr C 3 "remark_end" := ctrBody (ps := nremarkend.take 2) (nm := nremarkend) T (RZ 2 (by decide)) 0 (G_0 B) rfl rfl pb_remarkend (q_remarkend cs)
theorem ct_lineof : Ctr C 3 "line_of" := ctrBody (ps := nlineof.take 2) (nm := nlineof) T (RZ 2 (by decide)) 1 (G_0 B) rfl rfl pb_lineof (q_lineof cs)
theorem ct_runend : Ctr C 3 "run_end" := ctrBody (ps := nrunend.take 3) (nm := nrunend) T (RZ 2 (by decide)) 2 (G_0 B) rfl rfl pb_runend (q_runend cs)
theorem ct_closerof : Ctr C 3 "closer_of" := ctrBody (ps := ncloserof.take 1) (nm := ncloserof) T (RZ 2 (by decide)) 3 (G_0 B) rfl rfl pb_closerof (q_closerof cs)
theorem ct_lineofplace : Ctr C 3 "line_of_place" := ctrBody (ps := nlineofplace.take 2) (nm := nlineofplace) T (RZ 2 (by decide)) 4 (G_0 B) rfl rfl pb_lineofplace (q_lineofplace cs)
theorem ct_Lclosers : Ctr C 3 "_law_closers" := ctrBody (ps := nLclosers.take 0) (nm := nLclosers) T (RZ 2 (by decide)) 18 (G_0 B) rfl rfl pb_Lclosers (q_Lclosers cs)
theorem ct_Lknown : Ctr C 3 "_law_known" := ctrBody (ps := nLknown.take 0) (nm := nLknown) T (RZ 2 (by decide)) 19 (G_0 B) rfl rfl pb_Lknown (q_Lknown cs)
theorem ct_Lsip : Ctr C 3 "_law_sip" := ctrBody (ps := nLsip.take 2) (nm := nLsip) T (RZ 2 (by decide)) 20 (G_0 B) rfl rfl pb_Lsip (q_Lsip cs)
theorem ct_Lrow : Ctr C 3 "_law_row" := ctrBody (ps := nLrow.take 2) (nm := nLrow) T (RZ 2 (by decide)) 22 (G_0 B) rfl rfl pb_Lrow (q_Lrow cs)
theorem G_1 : GOk C 3 fs1 := B.ok (fn_l1 T) (all_cons (ct_remarkend T B RZ) (all_cons (ct_lineof T B RZ) (all_cons (ct_runend T B RZ) (all_cons (ct_closerof T B RZ) (all_cons (ct_lineofplace T B RZ) (all_cons (ct_Lclosers T B RZ) (all_cons (ct_Lknown T B RZ) (all_cons (ct_Lsip T B RZ) (all_cons (ct_Lrow T B RZ) all_nil)))))))))
theorem ct_delimited : Ctr C 4 "delimited" := ctrBody (ps := ndelimited.take 2) (nm := ndelimited) T (RZ 3 (by decide)) 5 (G_1 T B RZ) rfl rfl pb_delimited (q_delimited cs)
theorem ct_unguarded : Ctr C 4 "unguarded" := ctrBody (ps := nunguarded.take 3) (nm := nunguarded) T (RZ 3 (by decide)) 6 (G_1 T B RZ) rfl rfl pb_unguarded (q_unguarded cs)
theorem ct_openingplace : Ctr C 4 "opening_place" := ctrBody (ps := nopeningplace.take 2) (nm := nopeningplace) T (RZ 3 (by decide)) 9 (G_1 T B RZ) rfl rfl pb_openingplace (q_openingplace cs)
theorem ct_behindblanks : Ctr C 4 "behind_blanks" := ctrBody (ps := nbehindblanks.take 2) (nm := nbehindblanks) T (RZ 3 (by decide)) 10 (G_1 T B RZ) rfl rfl pb_behindblanks (q_behindblanks cs)
theorem ct_flagstoken : Ctr C 4 "flags_token" := ctrBody (ps := nflagstoken.take 3) (nm := nflagstoken) T (RZ 3 (by decide)) 12 (G_1 T B RZ) rfl rfl pb_flagstoken (q_flagstoken cs)
theorem ct_Lwithin : Ctr C 4 "_law_within" := ctrBody (ps := nLwithin.take 2) (nm := nLwithin) T (RZ 3 (by decide)) 21 (G_1 T B RZ) rfl rfl pb_Lwithin (q_Lwithin cs)
theorem G_2 : GOk C 4 fs2 := B.ok (fn_l2 T) (all_cons (Ctr.mono (by decide) (ct_remarkend T B RZ)) (all_cons (Ctr.mono (by decide) (ct_lineof T B RZ)) (all_cons (Ctr.mono (by decide) (ct_runend T B RZ)) (all_cons (Ctr.mono (by decide) (ct_closerof T B RZ)) (all_cons (Ctr.mono (by decide) (ct_lineofplace T B RZ)) (all_cons (Ctr.mono (by decide) (ct_Lclosers T B RZ)) (all_cons (Ctr.mono (by decide) (ct_Lknown T B RZ)) (all_cons (Ctr.mono (by decide) (ct_Lsip T B RZ)) (all_cons (Ctr.mono (by decide) (ct_Lrow T B RZ)) (all_cons (ct_delimited T B RZ) (all_cons (ct_unguarded T B RZ) (all_cons (ct_openingplace T B RZ) (all_cons (ct_behindblanks T B RZ) (all_cons (ct_flagstoken T B RZ) (all_cons (ct_Lwithin T B RZ) all_nil)))))))))))))))
theorem ct_readq : Ctr C 5 "read_q" := ctrBody (ps := nreadq.take 2) (nm := nreadq) T (RZ 4 (by decide)) 7 (G_2 T B RZ) rfl rfl pb_readq (q_readq cs)
theorem ct_readqw : Ctr C 5 "read_qw" := ctrBody (ps := nreadqw.take 1) (nm := nreadqw) T (RZ 4 (by decide)) 8 (G_2 T B RZ) rfl rfl pb_readqw (q_readqw cs)
theorem ct_secondpart : Ctr C 5 "second_part" := ctrBody (ps := nsecondpart.take 3) (nm := nsecondpart) T (RZ 4 (by decide)) 11 (G_2 T B RZ) rfl rfl pb_secondpart (q_secondpart cs)
theorem ct_matchtoken : Ctr C 5 "match_token" := ctrBody (ps := nmatchtoken.take 2) (nm := nmatchtoken) T (RZ 4 (by decide)) 13 (G_2 T B RZ) rfl rfl pb_matchtoken (q_matchtoken cs)
theorem ct_heresign : Ctr C 5 "here_sign" := ctrBody (ps := nheresign.take 2) (nm := nheresign) T (RZ 4 (by decide)) 17 (G_2 T B RZ) rfl rfl pb_heresign (q_heresign cs)
theorem ct_Lquote : Ctr C 5 "_law_quote" := ctrBody (ps := nLquote.take 1) (nm := nLquote) T (RZ 4 (by decide)) 23 (G_2 T B RZ) rfl rfl pb_Lquote (q_Lquote cs)
theorem G_3 : GOk C 5 fs3 := B.ok (fn_l3 T) (all_cons (Ctr.mono (by decide) (ct_remarkend T B RZ)) (all_cons (Ctr.mono (by decide) (ct_lineof T B RZ)) (all_cons (Ctr.mono (by decide) (ct_runend T B RZ)) (all_cons (Ctr.mono (by decide) (ct_closerof T B RZ)) (all_cons (Ctr.mono (by decide) (ct_lineofplace T B RZ)) (all_cons (Ctr.mono (by decide) (ct_Lclosers T B RZ)) (all_cons (Ctr.mono (by decide) (ct_Lknown T B RZ)) (all_cons (Ctr.mono (by decide) (ct_Lsip T B RZ)) (all_cons (Ctr.mono (by decide) (ct_Lrow T B RZ)) (all_cons (Ctr.mono (by decide) (ct_delimited T B RZ)) (all_cons (Ctr.mono (by decide) (ct_unguarded T B RZ)) (all_cons (Ctr.mono (by decide) (ct_openingplace T B RZ)) (all_cons (Ctr.mono (by decide) (ct_behindblanks T B RZ)) (all_cons (Ctr.mono (by decide) (ct_flagstoken T B RZ)) (all_cons (Ctr.mono (by decide) (ct_Lwithin T B RZ)) (all_cons (ct_readq T B RZ) (all_cons (ct_readqw T B RZ) (all_cons (ct_secondpart T B RZ) (all_cons (ct_matchtoken T B RZ) (all_cons (ct_heresign T B RZ) (all_cons (ct_Lquote T B RZ) all_nil)))))))))))))))))))))
theorem ct_substtoken : Ctr C 6 "subst_token" := ctrBody (ps := nsubsttoken.take 2) (nm := nsubsttoken) T (RZ 5 (by decide)) 14 (G_3 T B RZ) rfl rfl pb_substtoken (q_substtoken cs)
theorem ct_transtoken : Ctr C 6 "trans_token" := ctrBody (ps := ntranstoken.take 2) (nm := ntranstoken) T (RZ 5 (by decide)) 15 (G_3 T B RZ) rfl rfl pb_transtoken (q_transtoken cs)
theorem ct_Lhereread (D : DieK (myK C.w.params) C.die 38 55 35 (fdAt (myK C.w.params) 55) (fdAt (myK C.w.params) 35)) : Ctr C 6 "_law_here_read" := ctrTry (ps := nLhereread.take 2) T D (G_3 T B RZ) 25 rfl rfl pb_Lhereread rfl (q_Lhereread cs)
theorem G_4 (D : DieK (myK C.w.params) C.die 38 55 35 (fdAt (myK C.w.params) 55) (fdAt (myK C.w.params) 35)) : GOk C 6 fs4 := B.ok (fn_l4 T) (all_cons (Ctr.mono (by decide) (ct_remarkend T B RZ)) (all_cons (Ctr.mono (by decide) (ct_lineof T B RZ)) (all_cons (Ctr.mono (by decide) (ct_runend T B RZ)) (all_cons (Ctr.mono (by decide) (ct_closerof T B RZ)) (all_cons (Ctr.mono (by decide) (ct_lineofplace T B RZ)) (all_cons (Ctr.mono (by decide) (ct_Lclosers T B RZ)) (all_cons (Ctr.mono (by decide) (ct_Lknown T B RZ)) (all_cons (Ctr.mono (by decide) (ct_Lsip T B RZ)) (all_cons (Ctr.mono (by decide) (ct_Lrow T B RZ)) (all_cons (Ctr.mono (by decide) (ct_delimited T B RZ)) (all_cons (Ctr.mono (by decide) (ct_unguarded T B RZ)) (all_cons (Ctr.mono (by decide) (ct_openingplace T B RZ)) (all_cons (Ctr.mono (by decide) (ct_behindblanks T B RZ)) (all_cons (Ctr.mono (by decide) (ct_flagstoken T B RZ)) (all_cons (Ctr.mono (by decide) (ct_Lwithin T B RZ)) (all_cons (Ctr.mono (by decide) (ct_readq T B RZ)) (all_cons (Ctr.mono (by decide) (ct_readqw T B RZ)) (all_cons (Ctr.mono (by decide) (ct_secondpart T B RZ)) (all_cons (Ctr.mono (by decide) (ct_matchtoken T B RZ)) (all_cons (Ctr.mono (by decide) (ct_heresign T B RZ)) (all_cons (Ctr.mono (by decide) (ct_Lquote T B RZ)) (all_cons (ct_substtoken T B RZ) (all_cons (ct_transtoken T B RZ) (all_cons (ct_Lhereread T B RZ D) all_nil))))))))))))))))))))))))
theorem ct_quotetoken (D : DieK (myK C.w.params) C.die 38 55 35 (fdAt (myK C.w.params) 55) (fdAt (myK C.w.params) 35)) : Ctr C 7 "quote_token" := ctrBody (ps := nquotetoken.take 3) (nm := nquotetoken) T (RZ 6 (by decide)) 16 (G_4 T B RZ D) rfl rfl pb_quotetoken (q_quotetoken cs)
theorem ct_Lhereright (D : DieK (myK C.w.params) C.die 38 55 35 (fdAt (myK C.w.params) 55) (fdAt (myK C.w.params) 35)) : Ctr C 7 "_law_here_right" := ctrBody (ps := nLhereright.take 1) (nm := nLhereright) T (RZ 6 (by decide)) 26 (G_4 T B RZ D) rfl rfl pb_Lhereright (q_Lhereright cs)
theorem G_5 (D : DieK (myK C.w.params) C.die 38 55 35 (fdAt (myK C.w.params) 55) (fdAt (myK C.w.params) 35)) : GOk C 7 fs5 := B.ok (fn_l5 T) (all_cons (Ctr.mono (by decide) (ct_remarkend T B RZ)) (all_cons (Ctr.mono (by decide) (ct_lineof T B RZ)) (all_cons (Ctr.mono (by decide) (ct_runend T B RZ)) (all_cons (Ctr.mono (by decide) (ct_closerof T B RZ)) (all_cons (Ctr.mono (by decide) (ct_lineofplace T B RZ)) (all_cons (Ctr.mono (by decide) (ct_Lclosers T B RZ)) (all_cons (Ctr.mono (by decide) (ct_Lknown T B RZ)) (all_cons (Ctr.mono (by decide) (ct_Lsip T B RZ)) (all_cons (Ctr.mono (by decide) (ct_Lrow T B RZ)) (all_cons (Ctr.mono (by decide) (ct_delimited T B RZ)) (all_cons (Ctr.mono (by decide) (ct_unguarded T B RZ)) (all_cons (Ctr.mono (by decide) (ct_openingplace T B RZ)) (all_cons (Ctr.mono (by decide) (ct_behindblanks T B RZ)) (all_cons (Ctr.mono (by decide) (ct_flagstoken T B RZ)) (all_cons (Ctr.mono (by decide) (ct_Lwithin T B RZ)) (all_cons (Ctr.mono (by decide) (ct_readq T B RZ)) (all_cons (Ctr.mono (by decide) (ct_readqw T B RZ)) (all_cons (Ctr.mono (by decide) (ct_secondpart T B RZ)) (all_cons (Ctr.mono (by decide) (ct_matchtoken T B RZ)) (all_cons (Ctr.mono (by decide) (ct_heresign T B RZ)) (all_cons (Ctr.mono (by decide) (ct_Lquote T B RZ)) (all_cons (Ctr.mono (by decide) (ct_substtoken T B RZ)) (all_cons (Ctr.mono (by decide) (ct_transtoken T B RZ)) (all_cons (Ctr.mono (by decide) (ct_Lhereread T B RZ D)) (all_cons (ct_quotetoken T B RZ D) (all_cons (ct_Lhereright T B RZ D) all_nil))))))))))))))))))))))))))
theorem ct_Lread (D : DieK (myK C.w.params) C.die 38 55 35 (fdAt (myK C.w.params) 55) (fdAt (myK C.w.params) 35)) : Ctr C 8 "_law_read" := ctrTry (ps := nLread.take 3) T D (G_5 T B RZ D) 24 rfl rfl pb_Lread rfl (q_Lread cs)
theorem G_6 (D : DieK (myK C.w.params) C.die 38 55 35 (fdAt (myK C.w.params) 55) (fdAt (myK C.w.params) 35)) : GOk C 8 fs6 := B.ok (fn_l6 T) (all_cons (Ctr.mono (by decide) (ct_remarkend T B RZ)) (all_cons (Ctr.mono (by decide) (ct_lineof T B RZ)) (all_cons (Ctr.mono (by decide) (ct_runend T B RZ)) (all_cons (Ctr.mono (by decide) (ct_closerof T B RZ)) (all_cons (Ctr.mono (by decide) (ct_lineofplace T B RZ)) (all_cons (Ctr.mono (by decide) (ct_Lclosers T B RZ)) (all_cons (Ctr.mono (by decide) (ct_Lknown T B RZ)) (all_cons (Ctr.mono (by decide) (ct_Lsip T B RZ)) (all_cons (Ctr.mono (by decide) (ct_Lrow T B RZ)) (all_cons (Ctr.mono (by decide) (ct_delimited T B RZ)) (all_cons (Ctr.mono (by decide) (ct_unguarded T B RZ)) (all_cons (Ctr.mono (by decide) (ct_openingplace T B RZ)) (all_cons (Ctr.mono (by decide) (ct_behindblanks T B RZ)) (all_cons (Ctr.mono (by decide) (ct_flagstoken T B RZ)) (all_cons (Ctr.mono (by decide) (ct_Lwithin T B RZ)) (all_cons (Ctr.mono (by decide) (ct_readq T B RZ)) (all_cons (Ctr.mono (by decide) (ct_readqw T B RZ)) (all_cons (Ctr.mono (by decide) (ct_secondpart T B RZ)) (all_cons (Ctr.mono (by decide) (ct_matchtoken T B RZ)) (all_cons (Ctr.mono (by decide) (ct_heresign T B RZ)) (all_cons (Ctr.mono (by decide) (ct_Lquote T B RZ)) (all_cons (Ctr.mono (by decide) (ct_substtoken T B RZ)) (all_cons (Ctr.mono (by decide) (ct_transtoken T B RZ)) (all_cons (Ctr.mono (by decide) (ct_Lhereread T B RZ D)) (all_cons (Ctr.mono (by decide) (ct_quotetoken T B RZ D)) (all_cons (Ctr.mono (by decide) (ct_Lhereright T B RZ D)) (all_cons (ct_Lread T B RZ D) all_nil)))))))))))))))))))))))))))
end
end Mine
namespace Mine
open PySem PySem.W PyProof.Rows PySem.Calls

noncomputable def entOf (P : Params) (e : List Nat × Tok × Value) : DictEntry := ⟨PyData.keyHash P ⟨e.1.toArray⟩, .str ⟨e.1.toArray⟩ e.2.1, e.2.2⟩
theorem keysLit {P : Params} : ∀ {es : List (List Nat × Tok × Value)}, KeysLit P (es.map (entOf P))
  | [] => trivial
  | e :: _ => ⟨⟨⟨e.1.toArray⟩, e.2.1, rfl, rfl⟩, keysLit⟩
theorem findLit {P : Params} {key : Str} : ∀ {es : List (List Nat × Tok × Value)}, ((es.map (entOf P)).find? fun e => Value.isStrOf key e.key).map (·.val) = ((es.map (·.1)).zip (es.map (·.2.2))).lookup key.cps.toList
  | [] => rfl
  | e :: es => by
    have ih := findLit (P := P) (key := key) (es := es)
    rw [List.map_cons, List.map_cons, List.map_cons, List.zip_cons_cons, List.lookup_cons, List.find?_cons]
    have hb : Value.isStrOf key (entOf P e).key = ((⟨e.1.toArray⟩ : Str) == key) := rfl
    rw [hb]
    by_cases q : key.cps.toList = e.1
    · have h1 : (⟨e.1.toArray⟩ : Str) = key := by rw [← q]
      have h2 : (key.cps.toList == e.1) = true := beq_iff_eq.mpr q
      rw [h1, h2, beq_self_eq_true]; rfl
    · have h1 : ((⟨e.1.toArray⟩ : Str) == key) = false := beq_eq_false_iff_ne.mpr fun z => q (by rw [← z])
      have h2 : (key.cps.toList == e.1) = false := beq_eq_false_iff_ne.mpr q
      rw [h1, h2]; exact ih
section
variable {C : Cx} {cs : List Int} {n : Nat}
/-- a dict of the top's, with its keys written -/
theorem dictAt {es : List (List Nat × Tok × Value)} {a : Addr} {vs : List AV} {k : Nat} {X : List Addr} {h : Heap} (T : TopOk C cs) (hX : ∀ y ∈ X, C.base.get? y = none) (hk : C.base.StaysIn h)
    (hl : (myK C.w.params).lookup a = some ⟨.type "dict", none, .dict (es.map (entOf C.w.params)).toArray k, #[]⟩) (ha : (a == sysModules) = false) (hv : RepL C X h vs (es.map (·.2.2))) : Rep C X h (.dict (es.map (·.1)) vs) (.ref a) := by
  have hK : (myK C.w.params).In h := fun b o e => hk b o (T.inK b o e)
  have hb := T.inK _ _ hl
  refine ⟨a, es.map (·.2.2), _, rfl, ?_, ha, mapOf_K hK hl (by rw [List.toList_toArray]; exact keysLit), hv, by simp, fun key => ?_⟩
  · intro q; rw [hX a q] at hb; cases hb
  · unfold findBy
    rw [List.find?_toArray]
    exact findLit
theorem tupAtTop {l : List (List Nat × Tok)} {a : Addr} {X : List Addr} {h : Heap} (T : TopOk C cs) (hX : ∀ y ∈ X, C.base.get? y = none) (hk : C.base.StaysIn h)
    (hl : (myK C.w.params).lookup a = some { cls := .type "tuple", data := .seq (l.map fun e => Value.str ⟨e.1.toArray⟩ e.2).toArray 0 }) : Rep C X h (.tup (l.map fun e => .str e.1)) (.ref a) := by
  have hb := T.inK _ _ hl
  refine ⟨a, l.map fun e => Value.str ⟨e.1.toArray⟩ e.2, rfl, ?_, hk _ _ hb, ?_⟩
  · intro q; rw [hX a q] at hb; cases hb
  · clear hl hb
    induction l with
    | nil => trivial
    | cons e l ih => exact ⟨⟨e.2, rfl⟩, ih⟩
theorem strAtTop {X : List Addr} {h : Heap} {x : Str} {l : List Nat} {t : Tok} (e : x = ⟨l.toArray⟩) : Rep C X h (.str l) (.str x t) := ⟨t, by rw [e]⟩
theorem mgAt (T : TopOk C cs) {x : String} {r : Option Value} (e : nsIn (myK C.w.params) mainGlobals (Str.ofString x) = some r) : C.mg (Str.ofString x) = r := ns_in T.inK T.ns e
set_option tactic.hygienic true
theorem gBase (T : TopOk C cs) : GBase C := by
  refine ⟨fun x a hx => ?_, fun f => ?_⟩
  · rw [T.g] at hx
    have hx : gvs x = some a := hx
    unfold gvs at hx
    split at hx
    · rename_i h; subst h; cases hx
      exact ⟨by decide +kernel, .str (Str.ofString "ABCDEFGHIJKLMNOPQRSTUVWXYZabcdefghijklmnopqrstuvwxyz_0123456789") 261, mgAt T (by kernel_rfl), fun X h _ _ => strAtTop (by kernel_rfl)⟩
    split at hx
    · rename_i h; subst h; cases hx
      exact ⟨by decide +kernel, .str (Str.ofString " \t\x0d\n\x0c") 357, mgAt T (by kernel_rfl), fun X h _ _ => strAtTop (by kernel_rfl)⟩
    split at hx
    · rename_i h; subst h; cases hx
      exact ⟨by decide +kernel, .str (Str.ofString "([{<") 359, mgAt T (by kernel_rfl), fun X h _ _ => strAtTop (by kernel_rfl)⟩
    split at hx
    · rename_i h; subst h; cases hx
      exact ⟨by decide +kernel, .ref 75, mgAt T (by kernel_rfl), fun X h hX hk => dictAt (k := 4) (es := [([40], 283, .str (Str.ofString ")") 284), ([91], 285, .str (Str.ofString "]") 286), ([123], 287, .str (Str.ofString "}") 288), ([60], 289, .str (Str.ofString ">") 290)]) T hX hk (by kernel_rfl) (by decide +kernel)
        ⟨strAtTop (by kernel_rfl), strAtTop (by kernel_rfl), strAtTop (by kernel_rfl), strAtTop (by kernel_rfl), trivial⟩⟩
    split at hx
    · rename_i h; subst h; cases hx
      exact ⟨by decide +kernel, .ref 118, mgAt T (by kernel_rfl), fun X h hX hk => dictAt (k := 3) (es := [([109, 97, 116, 99, 104], 361, .str (Str.ofString "cgimosx") 362), ([115, 117, 98, 115, 116], 363, .str (Str.ofString "egimorsx") 364), ([116, 114, 97, 110, 115], 365, .str (Str.ofString "cdsr") 366)]) T hX hk (by kernel_rfl) (by decide +kernel)
        ⟨strAtTop (by kernel_rfl), strAtTop (by kernel_rfl), strAtTop (by kernel_rfl), trivial⟩⟩
    split at hx
    · rename_i h; subst h; cases hx
      exact ⟨by decide +kernel, .ref 182, mgAt T (by kernel_rfl), fun X h hX hk => tupAtTop (l := [([113], 481), ([113, 113], 482), ([113, 119], 483), ([109], 484), ([115], 485), ([116, 114], 486), ([121], 487)]) T hX hk (by kernel_rfl)⟩
    split at hx
    · rename_i h; subst h; cases hx
      exact ⟨by decide +kernel, .ref 183, mgAt T (by kernel_rfl), fun X h hX hk => tupAtTop (l := [([47], 489), ([33], 490), ([39], 491), ([44], 492), ([40], 493), ([91], 494), ([123], 495), ([60], 496), ([35], 497), ([34], 498)]) T hX hk (by kernel_rfl)⟩
    cases hx
  · cases f
    · exact ⟨mgAt T (by kernel_rfl), (T.bt _ (by decide +kernel)).trans (by kernel_rfl)⟩
    · exact ⟨mgAt T (by kernel_rfl), (T.bt _ (by decide +kernel)).trans (by kernel_rfl)⟩
    · exact ⟨mgAt T (by kernel_rfl), (T.bt _ (by decide +kernel)).trans (by kernel_rfl)⟩
set_option tactic.hygienic false
theorem dieOk (T : TopOk C cs) : DieK (myK C.w.params) C.die 38 55 35 (fdAt (myK C.w.params) 55) (fdAt (myK C.w.params) 35) := by rw [T.die]; exact myDie _
theorem rzOk (T : TopOk C cs) : ∀ n, 2 ≤ n → RaiseOk C n := fun n hn => by
  obtain ⟨m, rfl⟩ : ∃ m, n = m + 2 := ⟨n - 2, by omega⟩
  exact raiseOk (dieOk T) T.inK (by rw [T.die]; exact mgAt T (by kernel_rfl)) (mgAt T (by kernel_rfl)) (mgAt T (by kernel_rfl)) ((T.bt _ (by decide +kernel)).trans (by kernel_rfl))
theorem gOk (T : TopOk C cs) : GOk C 8 fs6 := G_6 T (gBase T) (rzOk T) (dieOk T)
end
end Mine
namespace Mine
open PySem PySem.W PyProof.Rows PySem.Calls

section
variable {prog : Program} {w : World} {A : Around} {E : Value → Shared → Prop} {s : Shared} {env : Env} {mg mb : Str → Option Value}
theorem elt1Ok {Cc : Addr} {m2 : Str → Option Value} {a : Int} {t : Tok} (hg : s.heap.Ns env.globals mg) (hb : s.heap.Ns env.builtins mb) (h0 : mg (Str.ofString "int") = none) (h1 : mb (Str.ofString "int") = some (.type "int")) (hn : s.heap.Ns Cc m2) (hm : m2 (Str.ofString "cell") = some (.int a t)) :
    wpAny (model prog w) A (eval elt1 (compEnvC sc1 [] Cc env)) (fun y s₃ => Carried y (.int (a.fmod 1000000000000)) ∧ Keeps s s₃) E s := by
  refine wpAny_BinOp (Call_Name rfl (Calls.Name_function_global rfl rfl (Calls.loadGlobal_builtin (env := compEnvC sc1 [] Cc env) hg h0 hb h1 ?_) (by decide +kernel)))
  refine PyProof.Rows.callWith_type rfl (evalArgsL rfl (Calls.spliced_cons (wpAny_Name (wpAny_loadName_local rfl rfl hn hm (Calls.spliced_nil (call_int_int ?_))) (by decide +kernel))))
  refine wpAny_BinOp (wpAny_Constant_int (wpAny_Constant_int (pow_int_small (by decide) (by decide) (by decide) ?_)))
  refine mod_int' (by decide) ⟨?_, ?_⟩
  · have : (10 : Int) ^ (12 : Int).toNat = 1000000000000 := by decide
    rw [this]
    exact .int _ _
  · exact ⟨_, _, rfl, fun _ _ e => e⟩

variable {h0 : Heap} {L : Addr} {m : Str → Option Value} {news : List (Addr × Obj)}
set_option tactic.hygienic true
theorem first1Ok {Q : Flow → Shared → Prop} {a : Addr} {vs : List Value} {ns : List Int} (hh : A.handled = none) (hk : env.scope.kind = .function) (hks : env.kindOf (Str.ofString "script") = some .local) (hkc : env.kindOf (Str.ofString "cup") = some .local) (hL : env.locals = L)
    (F : Fr h0 L s.heap m) (N : News h0 L s.heap news) (hs : m (Str.ofString "script") = some (.ref a)) (hl : h0.IsList a vs.toArray) (hi : IntsAre vs ns) (hn : ns.length ≤ 63)
    (gm : h0.Ns env.globals mg) (gb : h0.Ns env.builtins mb) (i0 : mg (Str.ofString "int") = none) (i1 : mb (Str.ofString "int") = some (.type "int"))
    (h : ∀ (D cu : Addr) (ys : List Value) (h' : Heap) (tk t0 : Tok), Fr h0 L h' (fun y => if y = Str.ofString "cup" then some (.ref cu) else m y) → News h0 L h' news → h0.get? D = none → h0.get? cu = none → D ≠ cu → D ≠ L → cu ≠ L → h'.IsList D ys.toArray →
      h'.IsList cu #[.ref D, .int 0 t0] → CarriedAll ys ((ns.take 60).map fun a => .int (a.fmod 1000000000000)) → (∀ p ∈ news, p.1 ≠ cu ∧ p.1 ≠ D) → Q .next { s with heap := h', toks := tk }) :
    wpAny (model prog w) A (exec first1 env) Q E s := by
  refine wpAny_Assign_Name (List_ (Calls.spliced_cons (ListComp_DCn (K := .int) (pz := fun _ => true) (d := fun a => .int (a.fmod 1000000000000)) (h₀ := h0) (L := L) (m := m) hh (cl := []) rfl (by decide) rfl (by decide) rfl ?_ (fun _ => rfl))))
  refine Subscript_ (wpAny_Name (wpAny_loadName_local hk hks (hL ▸ F.ns) hs ?_) (by decide +kernel))
  refine wpAny_Slice (wpAny_evalPart_none (wpAny_evalPart_some (wpAny_Constant_int (wpAny_evalPart_none ?_))))
  have hlen : vs.length = ns.length := hi.length
  have hline : sizeLine = 16777216 := rfl
  refine slice_list (s := { s with toks := s.toks + 1 }) F N (Fr.lst F hl) .none (.int 60 _) (fun h1 F1 N1 => ?_) rfl (fun _ => rfl) (by rw [List.size_toArray]; omega)
  have hi1 : IntsAre (slicePick vs.toArray none (some 60) none).toList (ns.take 60) := slice_ints_uptoW hi (by decide)
  have hl1 : h1.IsList (s.heap.objs.size + 1) (slicePick vs.toArray none (some 60) none).toList.toArray := by
    have := (N1 _ (.head _)).1
    exact ⟨_, this, rfl, _, rfl⟩
  refine ⟨_, _, _, _, rfl, hl1, hi1.areOf, by rw [List.length_take]; omega, F1, N1, ?_, ?_, ?_⟩
  · intro C a v s2 m2 E' _ _ _ _ _ _
    exact wpAny_pure ⟨rfl, _, _, rfl, fun _ _ e => e⟩
  · intro C a v s2 m2 E' hC ha hv _ hn2 hm2 hkeep
    obtain ⟨t, rfl⟩ := hv
    have up : ∀ b o, h0.get? b = some o → s2.heap.get? b = some o := fun b o e => hkeep b o (F1.keep b o e)
    exact elt1Ok (gm.keeps up) (gb.keeps up) i0 i1 hn2 hm2
  · intro D ys h2 tk2 F2 N2 hD hD2 hP hC
    obtain ⟨⟨k, hDo⟩, hDn⟩ := id hP
    have hDL : D ≠ L := hP.ne_locals F2
    have N2' : News h0 L h2 ((D, _) :: (s.heap.objs.size + 1, _) :: news) := fun p hp => by
      rcases List.mem_cons.mp hp with q | q
      · rw [q]; exact ⟨hDo, hDL, hD⟩
      · exact N2 p q
    refine Calls.spliced_cons ?_
    show wpAny _ _ (eval (.Constant (.int 0) 0 ⟨248, 59, 248, 60⟩) env) _ _ _
    refine wpAny_Constant_int (Calls.spliced_nil ?_)
    refine newList_N F2 N2' (fun h3 F3 N3 => ?_) (by show 2 ≤ sizeLine; omega)
    have hDs : D < h2.objs.size := Heap.lt_size hDo
    have hcu := N3 _ (.head _)
    have N3' : News h0 L h3 news := fun p hp => N3 p (.tail _ (.tail _ (.tail _ hp)))
    refine wpAny_storeName_local hkc (by rw [hL]; exact F3.ns) (fun h4 hn4 hs4 => ?_) (by rw [hk]; rfl)
    rw [hL] at hn4 hs4
    refine h D h2.objs.size ys h4 _ _ (F3.set hn4 hs4) (N3'.set hs4) hD hcu.2.2 (Nat.ne_of_lt hDs) hDL hcu.2.1 ⟨_, (hs4.2 _ hDL).trans (N3 _ (.tail _ (.head _))).1, rfl, _, rfl⟩ ⟨_, (hs4.2 _ hcu.2.1).trans hcu.1, rfl, _, rfl⟩ ?_ fun p hp => ⟨fun q => ?_, fun q => hP.2 p (.tail _ hp) q⟩
    · have : ((ns.take 60).filter fun _ => true) = ns.take 60 := List.filter_eq_self.mpr fun _ _ => rfl
      rwa [this] at hC
    · have := (N2 p (.tail _ hp)).1
      rw [q] at this
      exact absurd (Heap.lt_size this) (Nat.lt_irrefl _)
end
end Mine
namespace Mine
open PySem PySem.W PyProof.Rows PySem.Calls

set_option tactic.hygienic false
theorem cl_law (k : Nat) : ((recAt 27).map fun d => cellsFrom k d.2.2.names []) = some [(Str.ofString "begin", k + 1), (Str.ofString "word", k)] := by kernel_rfl
theorem repInts {C : Cx} {h : Heap} : ∀ {ys : List Value} {l : List Int}, CarriedAll ys (l.map fun a => .int (a.fmod 1000000000000)) → RepL C [] h ((l.map fun a => a.fmod 1000000000000).map .int) ys
  | _, [], c => by cases c; trivial
  | _, a :: l, c => by
    cases c with
    | cons h1 h2 =>
      cases h1
      exact ⟨⟨_, rfl⟩, repInts h2⟩
theorem csOk {ns : List Int} : CsOk ((ns.take 60).map fun a => a.fmod 1000000000000) := by
  refine ⟨by rw [List.length_map, List.length_take]; omega, fun x hx => ?_⟩
  obtain ⟨a, _, rfl⟩ := List.mem_map.mp hx
  exact ⟨Int.fmod_nonneg_of_pos _ (by decide), Int.fmod_lt_of_pos _ (by decide)⟩

theorem varsLaw {F : Fx} {X : List Addr} {h : Heap} (hnm : F.nm = nlaw) (hc : VarOk F X h (Str.ofString "cup") .cup) : ∀ (i : Nat) (n : String) (a : AV), (lS .unb .unb .unb .unb .unb .unb .unb)[i]? = some a → F.nm[i]? = some n → VarOk F X h (Str.ofString n) a := by
  intro i n a h1 h2
  rw [hnm] at h2
  match i with
  | 1 => cases h1; cases h2; exact hc
  | 0 => cases h1; trivial
  | 2 => cases h1; trivial
  | 3 => cases h1; trivial
  | 4 => cases h1; trivial
  | 5 => cases h1; trivial
  | 6 => cases h1; trivial
  | 7 => cases h1; trivial
  | 8 => cases h1; trivial
  | 9 => cases h1; trivial
  | 10 => cases h1; trivial
  | i + 11 => cases h1

/-- the law's own frame stands -/
theorem lawReady {C : Cx} {h1 : Heap} {L D cu c1 c2 : Addr} {o1 o2 : Obj} {m : Str → Option Value} {sc : Scope} {fa : Addr} {cd : Value} {t0 : Tok} {ys : List Value} {cs : List Int} {q : Str}
    (hbase : C.base.objs.size = L) (hcu : C.cup = cu) (hlst : C.lst = D) (hg : C.g.cs = cs) (Df : DefOk fs6 sc nlaw (nlaw.take 1) blaw) (hcl : cellsFrom (L + 1) sc.names [] = [(Str.ofString "begin", c2), (Str.ofString "word", c1)]) (h12 : c2 ≠ c1)
    (hkc : sc.names.lookup (Str.ofString "cup") = some .local) (Tg : C.base.Ns mainGlobals C.mg) (Tb : C.base.Ns builtinsNs C.mb) (Tl : C.base.NoLimit)
    (F4 : Fr C.base L h1 (fun y => if y = Str.ofString "cup" then some (.ref cu) else m y)) (N4 : News C.base L h1 [(c2, o2), (c1, o1)]) (d1 : ∃ v, o1.data = .cell v) (d2 : ∃ v, o2.data = .cell v)
    (hD : C.base.get? D = none) (hc : C.base.get? cu = none) (hDc : D ≠ cu) (hDL : D ≠ L) (hcL : cu ≠ L) (lD : h1.IsList D ys.toArray) (lc : h1.IsList cu #[.ref D, .int 0 t0]) (hap : ∀ p ∈ [(c2, o2), (c1, o1)], p.1 ≠ cu ∧ p.1 ≠ D) (hy : RepL C [] h1 (cs.map .int) ys) :
    let F : Fx := ⟨C, callerA.deeper (envOfC q sc L fa cd), envOfC q sc L fa cd, envOfC q sc L fa cd, [], [L, c2, c1, cu], [], C.base, nlaw⟩
    FOk F 8 ∧ FS F ∧ Iv F [L, c2, c1, cu] (lS .unb .unb .unb .unb .unb .unb .unb) 0 h1 := by
  intro F
  have none1 : ∀ {a}, L ≤ a → C.base.get? a = none := fun {a} ha => by
    cases e : C.base.get? a with
    | none => rfl
    | some ob => exact absurd (Heap.lt_size e) (Nat.not_lt.mpr (hbase ▸ ha))
  have hcells : F.env.cells = [(Str.ofString "begin", c2), (Str.ofString "word", c1)] := hcl
  have n1 := N4 _ (.tail _ (.head _))
  have n2 := N4 _ (.head _)
  have a1 := hap _ (.tail _ (.head _))
  have a2 := hap _ (.head _)
  have look : ∀ {n c}, F.env.cells.lookup n = some c → (n = Str.ofString "begin" ∧ c = c2) ∨ (n = Str.ofString "word" ∧ c = c1) := fun {n c} e => by
    have := mem_of_lookupA e
    rw [hcells] at this
    simp only [List.mem_cons, List.not_mem_nil, or_false, Prod.mk.injEq] at this
    exact this
  obtain ⟨oL, es, ep, hoL, hdL, _⟩ := id F4.ns
  refine ⟨?_, ⟨rfl, rfl, fun n c e => ?_⟩, ?_⟩
  · exact {
      frames := rfl
      handled := rfl
      room := by show callerA.depth + 1 + 8 < recursionLimit; decide
      units := by show callerA.units + 3 + 100 + 80 < cLine; decide
      kind := Df.kind
      globals := rfl
      builtins := rfl
      cupX := by show C.cup ∈ [L, c2, c1, cu]; rw [hcu]; simp
      lstX := by
        show C.lst ∉ [L, c2, c1, cu]
        rw [hlst]; intro q
        simp only [List.mem_cons, List.not_mem_nil, or_false] at q
        rcases q with q | q | q | q
        · exact hDL q
        · exact a2.2 q.symm
        · exact a1.2 q.symm
        · exact hDc q
      locX := .head _
      locN := none1 (Nat.le_refl _)
      locC := by show L ≠ C.cup; rw [hcu]; exact fun q => hcL q.symm
      cellC := fun n c e => by
        show c ≠ C.cup
        rw [hcu]
        rcases look e with ⟨_, rfl⟩ | ⟨_, rfl⟩
        · exact a2.1
        · exact a1.1
      cellX := fun n c e => by rcases look e with ⟨_, rfl⟩ | ⟨_, rfl⟩ <;> simp [F]
      cellA := fun n c n' c' e e' hne => by
        rcases look e with ⟨r1, r2⟩ | ⟨r1, r2⟩ <;> rcases look e' with ⟨r3, r4⟩ | ⟨r3, r4⟩
        · exact absurd (r1.trans r3.symm) hne
        · rw [r2, r4]; exact h12
        · rw [r2, r4]; exact h12.symm
        · exact absurd (r1.trans r3.symm) hne
      cellD := fun n hm => by
        rcases hm with hm | hm
        · exact Option.isSome_iff_exists.mp (cellsFrom_some (mem_of_lookup hm))
        · exact absurd rfl (Df.free _ _ (mem_of_lookup hm))
      frameX := fun e he L' hL' => by
        rcases List.mem_cons.mp he with rfl | he
        · cases hL'; exact .head _
        · cases he
      yx := fun y hy => by cases hy
      frame := rfl
      nodup := Df.nodup
      plain := Df.plain
      gmg := Tg
      gmb := Tb
      nolim := Tl
      h0b := fun _ _ e => e }
  · rcases look e with ⟨_, rfl⟩ | ⟨_, rfl⟩
    · exact n2.2.2
    · exact n1.2.2
  · exact {
      stays := F4.keep
      ff := ⟨by show sc.kind ≠ _; rw [Df.kind]; decide, ⟨L, oL, rfl, none1 (Nat.le_refl _), hoL, fun vs q => by rw [hdL] at q; cases q⟩, trivial⟩
      sub := fun x hx => hx
      subY := fun x hx => by cases hx
      old := .of F4.keep
      new := fun x hx => by
        simp only [List.mem_cons, List.not_mem_nil, or_false] at hx
        rcases hx with rfl | rfl | rfl | rfl
        · exact none1 (Nat.le_refl _)
        · exact n2.2.2
        · exact n1.2.2
        · exact hc
      live := fun x hx => by
        simp only [List.mem_cons, List.not_mem_nil, or_false] at hx
        rcases hx with rfl | rfl | rfl | rfl
        · exact ⟨_, hoL⟩
        · exact ⟨_, n2.1⟩
        · exact ⟨_, n1.1⟩
        · obtain ⟨o, e, _⟩ := lc; exact ⟨o, e⟩
      lst := by
        show C.lst ∉ [L, c2, c1, cu]
        rw [hlst]; intro q
        simp only [List.mem_cons, List.not_mem_nil, or_false] at q
        rcases q with q | q | q | q
        · exact hDL q
        · exact a2.2 q.symm
        · exact a1.2 q.symm
        · exact hDc q
      cup := by
        refine ⟨⟨t0, ?_⟩, ?_, ys, ?_, ?_⟩
        · show h1.IsList C.cup #[.ref C.lst, .int 0 t0]; rw [hcu, hlst]; exact lc
        · show C.lst ≠ C.cup; rw [hcu, hlst]; exact hDc
        · show h1.IsList C.lst _; rw [hlst]; exact lD
        · show RepL C [] h1 (C.g.cs.map .int) ys; rw [hg]; exact hy
      ns := ⟨_, F4.ns⟩
      cells := fun n c e => by
        rcases look e with ⟨_, rfl⟩ | ⟨_, rfl⟩
        · obtain ⟨v, e⟩ := d2; exact ⟨v, _, n2.1, e⟩
        · obtain ⟨v, e⟩ := d1; exact ⟨v, _, n1.1, e⟩
      vars := varsLaw rfl ⟨_, .inl ⟨hkc, _, F4.ns, if_pos rfl⟩, by show Value.ref cu = .ref C.cup; rw [hcu]⟩ }
end Mine
namespace Mine
open PySem PySem.W PyProof.Rows PySem.Calls

noncomputable abbrev theRow : RowW := PySem.Challenge.rw_qd0139_01.row.toRowW
theorem lawRuns {w : World} {s₁ : Shared} {mg mb : Str → Option Value} {fa A0 : Addr} {o : Obj} {pm cd doc : Value} {d : DefRec} {vs : List Value} {ns : List Int} {R : Result → Shared → Prop}
    (hr : recAt 27 = some (d.params, d.body, d.scope))
    (Tf : ∀ d ∈ recsOf PySem.Challenge.pw_qd0139_01, ∃ a o pm code doc, mg d.name = some (.ref a) ∧ s₁.heap.get? a = some o ∧ o.data = .func (docDef d.name d.params d.body d.scope pm code doc) ∧ s₁.heap.CodeRec code d.name)
    (KX : (myK w.params).In s₁.heap) (Tg : s₁.heap.Ns mainGlobals mg) (Tb : s₁.heap.Ns builtinsNs mb) (Tl : s₁.heap.NoLimit) (bt : ∀ x : Str, x ≠ "__name__" → mb x = bootBuiltins x)
    (ho : s₁.heap.get? fa = some o) (hd : o.data = .func (docDef d.name d.params d.body d.scope pm cd doc)) (hcd : s₁.heap.CodeRec cd d.name) (hl : s₁.heap.IsList A0 vs.toArray) (hi : IntsAre vs ns) (hn : ns.length ≤ 63)
    (h : ∀ h' tk, (∀ b o, s₁.heap.get? b = some o → h'.get? b = some o) → R (.ok (.ret (.bool true))) { s₁ with heap := h', toks := tk }) :
    codeAny (model theRow.prog w) callerA (.call (.ref fa) ⟨[.ref A0], []⟩) R s₁ := by
  have hbody : d.body = first1 :: tst nlaw blaw := by
    have := atI (i := 27) rfl; rw [hr] at this; exact Option.some.inj this
  have hargs : argsAt 27 = d.params := by unfold argsAt; rw [hr]; rfl
  have Df : DefOk fs6 d.scope nlaw (nlaw.take 1) blaw := defOk_of (by have := chL (a := fun sc => defB sc nlaw (nlaw.take 1)) (b := fun sc => okS nlaw fs6 sc blaw && knB sc) (chI (i := 27) rfl); rw [hr] at this; exact this)
  have hc2 := chR (a := fun sc => defB sc nlaw (nlaw.take 1)) (b := fun sc => okS nlaw fs6 sc blaw && knB sc) (chI (i := 27) rfl)
  have hkn := chR (a := fun sc => okS nlaw fs6 sc blaw) (b := fun sc => knB sc) hc2
  rw [hr] at hkn
  replace hkn := Bool.and_eq_true_iff.mp (show (decide (d.scope.names.lookup (Str.ofString "script") = some .local) && decide (d.scope.names.lookup (Str.ofString "cup") = some .local)) = true from hkn)
  rw [decide_eq_true_eq, decide_eq_true_eq] at hkn
  have hcl : ∀ k, cellsFrom k d.scope.names [] = [(Str.ofString "begin", k + 1), (Str.ofString "word", k)] := fun k => by
    have := cl_law k; rw [hr] at this; exact Option.some.inj this
  have hokl : okS nlaw fs6 d.scope blaw = true := by
    have := chL (a := fun sc => okS nlaw fs6 sc blaw) (b := fun sc => knB sc) hc2; rw [hr] at this; exact this
  have hb := pb_law [.ref A0] rfl d.name d.body d.scope pm cd doc
  rw [hargs] at hb
  refine call_cellsN (by decide) ho hd Tl hcd hb (fun x hx => .inl ?_) (by rw [hcl]; decide) (fun h₁ tk cells F N Y => ?_) Df.co Df.gen Df.kind
  · have : x = (Str.ofString "script", .ref A0) := by
      rcases List.mem_cons.mp hx with q | q
      · exact q
      · cases q
    rw [this]; exact hkn.1
  rw [hcl] at Y
  obtain ⟨o2, o1, rfl, e2, e1⟩ := Y.two
  have i0 : mg (Str.ofString "int") = none := ns_in KX Tg (by kernel_rfl)
  have i1 : mb (Str.ofString "int") = some (.type "int") := (bt _ (by decide +kernel)).trans (by kernel_rfl)
  rw [hbody]
  refine wpAny_execs_cons (first1Ok (s := ⟨h₁, s₁.gens, s₁.drawn, tk, s₁.os⟩) rfl Df.kind hkn.1 hkn.2 rfl F N (vs := vs) (ns := ns) (a := A0) ?_ hl hi hn (mg := mg) (mb := mb) Tg Tb i0 i1 ?_)
  · exact (bind_get (ps := [Str.ofString "script"]) (vs := [.ref A0]) (i := 0) (by simp) rfl rfl).1 hkn.1
  · intro D cu ys h4 tk4 t0 F4 N4 hD hcu hDc hDL hcL lD lc hC hap
    let cs : List Int := (ns.take 60).map fun a => a.fmod 1000000000000
    let C : Cx := ⟨theRow.prog, w, s₁.heap, mg, mb, gT cs, cu, D, 58⟩
    have T : TopOk C cs := ⟨Tf, KX, Tg, Tb, bt, rfl, rfl⟩
    obtain ⟨O, S, I⟩ := lawReady (C := C) (L := s₁.heap.objs.size) (sc := d.scope) (fa := fa) (cd := cd) (cs := cs) (q := d.name) rfl rfl rfl rfl Df (hcl _) (Nat.succ_ne_self _) hkn.2 Tg Tb Tl F4 N4 ⟨_, e1⟩ ⟨_, e2⟩ hD hcu hDc hDL hcL lD lc hap (repInts hC)
    obtain ⟨ρ', d', ev⟩ := law_true (cs := cs) csOk
    exact sOk (by decide) (gOk T) (rzOk T 8 (by decide)) blaw _ _ _ 0 ⟨h4, s₁.gens, s₁.drawn, tk4, s₁.os⟩ rfl O S hokl I _ _ _ _ ev fun X v h5 tk5 J hv => by
      have : v = .bool true := hv
      subst this
      exact h h5 tk5 J.stays
end Mine
namespace Mine
open PySem PySem.W PyProof.Rows PySem.Calls

theorem walkLaw {q : Program} {loose : List Str} {XP : (Str → Option Value) → Heap → Prop} {d : DefRec} (hq : recsOf q = recsOf PySem.Challenge.pw_qd0139_01) (hr : recAt 27 = some (d.params, d.body, d.scope)) (hdf : d.params.defaults = []) :
    WalkO q loose XP myH.says theRow d [] fun f vs => PySem.call f vs := by
  intro w s₀ s₁ mg mb G Y fa o pm cd doc dV kV ho hd hcd hD hmg hg args vals as hpre hlay hrd hwl hlo
  have T := G.T
  have KX : (myK w.params).In s₁.heap := kIn_of Y
  have e1 := Dflts.none hD hdf
  subst e1
  have e2 := Dflts.noKw hD
  subst e2
  wrow_args hpre hlay hrd hwl hlo
  all_goals (
    rename Heap.IsList _ _ _ => hl
    rename IntsAre _ _ => hi
    rename ¬ (_ < _) => hc
    refine enter_call ?_
    refine lawRuns hr (fun d hd => T.fn d (hq ▸ hd)) KX T.g T.b T.nolimit T.builtins ho hd hcd hl hi (by omega) fun h' tk keep => ?_
    refine GoodW.toG ⟨.inl ⟨.bool true, .bool true, [], rfl, fun _ => rfl, ?_, ?_, fun _ => ⟨List.nodup_nil, fun _ h => (by cases h)⟩⟩, keep, rfl, hg⟩
    · exact .bool _
    · exact postW_of (by wrow_shape) (by wtm_val) (by first | rfl | (str_meet; first | done | w_fin)))
end Mine
namespace Mine
open PySem PySem.W PyProof.Rows
noncomputable abbrev PP : Program := PySem.Challenge.rw_qd0139_01.row.toRowW.prog
theorem isPlain : opening PP = plainProg PP.main.scope.names := by kernel_rfl
theorem noFence : ∀ s, fenceModules? PP s = some s := fun _ => rfl
/-! the states of the top, from cut to cut -/
noncomputable abbrev vS (s : String) (n : Nat) : Value := .str (Str.ofString s) n
noncomputable abbrev vP (n : Nat) : Value := vS "/claim/cut.py" n
noncomputable abbrev en (p : Params) (s : String) (n : Nat) (v : Value) : DictEntry := { hash := PyData.keyHash p (Str.ofString s), key := vS s n, val := v }
noncomputable abbrev dA : Stmt → Arguments | .FunctionDef _ a _ _ _ _ _ _ _ _ => a | _ => default
noncomputable abbrev dB : Stmt → List Stmt | .FunctionDef _ _ b _ _ _ _ _ _ _ => b | .ClassDef _ _ _ b _ _ _ _ _ _ _ => b | _ => []
noncomputable abbrev dS : Stmt → Scope | .FunctionDef _ _ _ _ _ _ s _ _ _ => s | _ => default
noncomputable abbrev fd (i : Nat) : Stmt := PP.main.body[i]!
noncomputable abbrev fdA (i : Nat) : Arguments := dA (fd i)
noncomputable abbrev fdB (i : Nat) : List Stmt := dB (fd i)
noncomputable abbrev fdS (i : Nat) : Scope := dS (fd i)
noncomputable abbrev mdA (i j : Nat) : Arguments := dA (dB (fd i))[j]!
noncomputable abbrev mdB (i j : Nat) : List Stmt := dB (dB (fd i))[j]!
noncomputable abbrev mdS (i j : Nat) : Scope := dS (dB (fd i))[j]!

noncomputable def ob11 (p : Params) : Obj := { cls := .type "tuple", data := .seq #[] }
noncomputable def ob12 (p : Params) : Obj := { cls := .none, data := .fields #[] }
noncomputable def ob13 (p : Params) : Obj := { cls := .type "code", data := .fields #[vS "<module>" 182, vS "<module>" 183, vP 184, .int 1 0, .int 0 0, .int 0 0, .int 0 0, .int 0 0, .ref 11, .bool false, .int 181 0, .ref 12, .none, .none, .none, .none, .int 185 0, .int 1 0, vP 186] }
noncomputable def ob14 (p : Params) : Obj := { cls := .type "frame", slots := #[some (.ref 13), some (.ref 3), some (.ref 3), none, some (vS "__main__" 164), none, some (.ref 0)] }
noncomputable def ob2 (p : Params) : Obj := { cls := .none, data := .dict #[en p "type.__subclasses__.Exception.0" 225 (.int 38 0), en p "type.__subclasses__.Exception.n" 226 (.int 1 0)] 2 }
noncomputable def ob3 (p : Params) : Obj := { cls := .type "dict", data := .dict #[en p "__name__" 165 (vS "perlcore.errors" 198), en p "__doc__" 166 (.none), en p "__package__" 167 (.none), en p "__loader__" 168 (.builtin "__main__.__loader__#opaque"), en p "__spec__" 169 (.none), en p "__annotations__" 170 (.ref 6), en p "__builtins__" 171 (.ref 4), en p "__file__" 173 (vP 172), en p "__cached__" 174 (.none), en p "remark_end" 197 (.ref 21), en p "PerlError" 228 (.ref 38), en p "SyntaxDie" 254 (.ref 58)] 12 }
noncomputable def ob12a (p : Params) : Obj := { cls := .none, data := .fields #[.int 2 0, .int 0 0, .ref 20, .int 6 0, .int 0 0, .ref 27, .int 11 0, .int 0 0, .ref 47] }
noncomputable def ob15 (p : Params) : Obj := { cls := .type "tuple", data := .seq #[] }
noncomputable def ob16 (p : Params) : Obj := { cls := .none, data := .fields #[] }
noncomputable def ob17 (p : Params) : Obj := { cls := .type "tuple", data := .seq #[vS "text" 192, vS "at" 193, vS "end" 194] }
noncomputable def ob18 (p : Params) : Obj := { cls := .type "tuple", data := .seq #[] }
noncomputable def ob19 (p : Params) : Obj := { cls := .none, data := .func { name := (.ofString "remark_end"), qualname := (.ofString "remark_end"), params := (fdA 1), body := .stmts (fdB 1), scope := (fdS 1), globals := 0, closure := [], defaults := .none, kwdefaults := .none } }
noncomputable def ob20 (p : Params) : Obj := { cls := .type "code", data := .fields #[vS "remark_end" 189, vS "remark_end" 190, vP 191, .int 2 0, .int 2 0, .int 0 0, .int 0 0, .int 3 0, .ref 15, .bool true, .int 181 0, .ref 16, .none, .ref 17, .ref 18, .ref 19, .int 195 0, .int 2 0, vP 196] }
noncomputable def ob21 (p : Params) : Obj := { cls := .type "function", data := .func { name := (.ofString "remark_end"), qualname := (.ofString "remark_end"), params := (fdA 1), body := .stmts (fdB 1), scope := (fdS 1), globals := 3, closure := [], defaults := .none, kwdefaults := .none, pyModule := vS "perlcore.comments" 187, code := .ref 20 } }
noncomputable def ob22 (p : Params) : Obj := { cls := .type "tuple", data := .seq #[.type "Exception"] }
noncomputable def ob23 (p : Params) : Obj := { cls := .type "builtin_function_or_method", data := .fields #[.builtin "type.__prepare__", .type "type"] }
noncomputable def ob24 (p : Params) : Obj := { cls := .type "dict", data := .dict #[en p "__module__" 207 (vS "perlcore.errors" 198), en p "__qualname__" 209 (vS "PerlError" 208), en p "__firstlineno__" 211 (.int 6 210), en p "__init__" 219 (.ref 35), en p "__static_attributes__" 221 (.ref 36)] 5 }
noncomputable def ob25 (p : Params) : Obj := { cls := .type "tuple", data := .seq #[] }
noncomputable def ob26 (p : Params) : Obj := { cls := .none, data := .fields #[.int 8 0, .int 4 0, .ref 34] }
noncomputable def ob27 (p : Params) : Obj := { cls := .type "code", data := .fields #[vS "PerlError" 202, vS "PerlError" 203, vP 204, .int 6 0, .int 0 0, .int 0 0, .int 0 0, .int 0 0, .ref 25, .bool false, .int 181 0, .ref 26, .none, .none, .none, .none, .int 205 0, .int 6 0, vP 206] }
noncomputable def ob28 (p : Params) : Obj := { cls := .type "frame", slots := #[some (.ref 27), some (.ref 3), some (.ref 24), none, some (vS "perlcore.errors" 198), none, some (.ref 0)] }
noncomputable def ob29 (p : Params) : Obj := { cls := .type "tuple", data := .seq #[] }
noncomputable def ob30 (p : Params) : Obj := { cls := .none, data := .fields #[] }
noncomputable def ob31 (p : Params) : Obj := { cls := .type "tuple", data := .seq #[vS "self" 215, vS "text" 216] }
noncomputable def ob32 (p : Params) : Obj := { cls := .type "tuple", data := .seq #[] }
noncomputable def ob33 (p : Params) : Obj := { cls := .none, data := .func { name := (.ofString "__init__"), qualname := (.ofString "PerlError.__init__"), params := (mdA 3 0), body := .stmts (mdB 3 0), scope := (mdS 3 0), globals := 0, closure := [], defaults := .none, kwdefaults := .none } }
noncomputable def ob34 (p : Params) : Obj := { cls := .type "code", data := .fields #[vS "__init__" 212, vS "PerlError.__init__" 213, vP 214, .int 8 0, .int 2 0, .int 0 0, .int 0 0, .int 3 0, .ref 29, .bool true, .int 181 0, .ref 30, .none, .ref 31, .ref 32, .ref 33, .int 217 0, .int 8 0, vP 218] }
noncomputable def ob35 (p : Params) : Obj := { cls := .type "function", data := .func { name := (.ofString "__init__"), qualname := (.ofString "PerlError.__init__"), params := (mdA 3 0), body := .stmts (mdB 3 0), scope := (mdS 3 0), globals := 3, closure := [], defaults := .none, kwdefaults := .none, pyModule := vS "perlcore.errors" 198, code := .ref 34 } }
noncomputable def ob36 (p : Params) : Obj := { cls := .type "tuple", data := .seq #[vS "text" 220] }
noncomputable def ob37 (p : Params) : Obj := { cls := .type "dict", data := .dict #[en p "__module__" 207 (vS "perlcore.errors" 198), en p "__firstlineno__" 211 (.int 6 210), en p "__init__" 219 (.ref 35), en p "__static_attributes__" 221 (.ref 36), en p "__weakref__" 223 (.ref 39), en p "__doc__" 224 (.none)] 3 }
noncomputable def ob38 (p : Params) : Obj := { cls := .type "type", data := .cls { name := (.ofString "PerlError"), bases := [.type "Exception"], mro := [.ref 38, .type "Exception", .type "BaseException", .type "object"], ns := 37, qualname := (.ofString "PerlError"), subclasses := [.ref 58] }, slots := #[some (.ref 22), none, some (vS "PerlError" 200), some (vS "PerlError" 208), some (.builtin "Exception.__new__"), some (.bool true)] }
noncomputable def ob39 (p : Params) : Obj := { cls := .type "getset_descriptor", data := .fields #[vS "__weakref__" 222, .ref 38, .builtin "ExceptionGroup.__weakref__", .none] }
noncomputable def ob40 (p : Params) : Obj := { cls := .type "super", data := .fields #[.ref 38, .ref 38, .ref 38] }
noncomputable def ob41 (p : Params) : Obj := { cls := .type "builtin_function_or_method", data := .fields #[.builtin "object.__init_subclass__", .ref 38] }
noncomputable def ob42 (p : Params) : Obj := { cls := .type "tuple", data := .seq #[.ref 38] }
noncomputable def ob43 (p : Params) : Obj := { cls := .type "builtin_function_or_method", data := .fields #[.builtin "type.__prepare__", .type "type"] }
noncomputable def ob44 (p : Params) : Obj := { cls := .type "dict", data := .dict #[en p "__module__" 236 (vS "perlcore.errors" 198), en p "__qualname__" 238 (vS "SyntaxDie" 237), en p "__firstlineno__" 240 (.int 11 239), en p "__init__" 249 (.ref 55), en p "__static_attributes__" 251 (.ref 56)] 5 }
noncomputable def ob45 (p : Params) : Obj := { cls := .type "tuple", data := .seq #[] }
noncomputable def ob46 (p : Params) : Obj := { cls := .none, data := .fields #[.int 13 0, .int 4 0, .ref 54] }
noncomputable def ob47 (p : Params) : Obj := { cls := .type "code", data := .fields #[vS "SyntaxDie" 231, vS "SyntaxDie" 232, vP 233, .int 11 0, .int 0 0, .int 0 0, .int 0 0, .int 0 0, .ref 45, .bool false, .int 181 0, .ref 46, .none, .none, .none, .none, .int 234 0, .int 11 0, vP 235] }
noncomputable def ob48 (p : Params) : Obj := { cls := .type "frame", slots := #[some (.ref 47), some (.ref 3), some (.ref 44), none, some (vS "perlcore.errors" 198), none, some (.ref 0)] }
noncomputable def ob49 (p : Params) : Obj := { cls := .type "tuple", data := .seq #[] }
noncomputable def ob50 (p : Params) : Obj := { cls := .none, data := .fields #[] }
noncomputable def ob51 (p : Params) : Obj := { cls := .type "tuple", data := .seq #[vS "self" 244, vS "text" 245, vS "line" 246] }
noncomputable def ob52 (p : Params) : Obj := { cls := .type "tuple", data := .seq #[] }
noncomputable def ob53 (p : Params) : Obj := { cls := .none, data := .func { name := (.ofString "__init__"), qualname := (.ofString "SyntaxDie.__init__"), params := (mdA 4 0), body := .stmts (mdB 4 0), scope := (mdS 4 0), globals := 0, closure := [], defaults := .none, kwdefaults := .none } }
noncomputable def ob54 (p : Params) : Obj := { cls := .type "code", data := .fields #[vS "__init__" 241, vS "SyntaxDie.__init__" 242, vP 243, .int 13 0, .int 3 0, .int 0 0, .int 0 0, .int 3 0, .ref 49, .bool true, .int 181 0, .ref 50, .none, .ref 51, .ref 52, .ref 53, .int 247 0, .int 13 0, vP 248] }
noncomputable def ob55 (p : Params) : Obj := { cls := .type "function", data := .func { name := (.ofString "__init__"), qualname := (.ofString "SyntaxDie.__init__"), params := (mdA 4 0), body := .stmts (mdB 4 0), scope := (mdS 4 0), globals := 3, closure := [], defaults := .none, kwdefaults := .none, pyModule := vS "perlcore.errors" 198, code := .ref 54 } }
noncomputable def ob56 (p : Params) : Obj := { cls := .type "tuple", data := .seq #[vS "line" 250] }
noncomputable def ob57 (p : Params) : Obj := { cls := .type "dict", data := .dict #[en p "__module__" 236 (vS "perlcore.errors" 198), en p "__firstlineno__" 240 (.int 11 239), en p "__init__" 249 (.ref 55), en p "__static_attributes__" 251 (.ref 56), en p "__doc__" 252 (.none)] 2 }
noncomputable def ob58 (p : Params) : Obj := { cls := .type "type", data := .cls { name := (.ofString "SyntaxDie"), bases := [.ref 38], mro := [.ref 58, .ref 38, .type "Exception", .type "BaseException", .type "object"], ns := 57, qualname := (.ofString "SyntaxDie") }, slots := #[some (.ref 42), none, some (vS "SyntaxDie" 229), some (vS "SyntaxDie" 237), some (.builtin "Exception.__new__"), some (.bool true)] }
noncomputable def ob59 (p : Params) : Obj := { cls := .type "super", data := .fields #[.ref 58, .ref 58, .ref 58] }
noncomputable def ob60 (p : Params) : Obj := { cls := .type "builtin_function_or_method", data := .fields #[.builtin "object.__init_subclass__", .ref 58] }
noncomputable def ob3a (p : Params) : Obj := { cls := .type "dict", data := .dict #[en p "__name__" 165 (vS "perlcore.quotes" 281), en p "__doc__" 166 (.none), en p "__package__" 167 (.none), en p "__loader__" 168 (.builtin "__main__.__loader__#opaque"), en p "__spec__" 169 (.none), en p "__annotations__" 170 (.ref 6), en p "__builtins__" 171 (.ref 4), en p "__file__" 173 (vP 172), en p "__cached__" 174 (.none), en p "remark_end" 197 (.ref 21), en p "PerlError" 228 (.ref 38), en p "SyntaxDie" 254 (.ref 58), en p "WORD_STARTS" 258 (vS "ABCDEFGHIJKLMNOPQRSTUVWXYZabcdefghijklmnopqrstuvwxyz_" 257), en p "DIGIT_SIGNS" 260 (vS "0123456789" 259), en p "WORD_SIGNS" 262 (vS "ABCDEFGHIJKLMNOPQRSTUVWXYZabcdefghijklmnopqrstuvwxyz_0123456789" 261), en p "line_of" 270 (.ref 67), en p "run_end" 280 (.ref 74)] 17 }
noncomputable def ob12b (p : Params) : Obj := { cls := .none, data := .fields #[.int 2 0, .int 0 0, .ref 20, .int 6 0, .int 0 0, .ref 27, .int 11 0, .int 0 0, .ref 47, .int 20 0, .int 0 0, .ref 66, .int 22 0, .int 0 0, .ref 73] }
noncomputable def ob61 (p : Params) : Obj := { cls := .type "tuple", data := .seq #[] }
noncomputable def ob62 (p : Params) : Obj := { cls := .none, data := .fields #[] }
noncomputable def ob63 (p : Params) : Obj := { cls := .type "tuple", data := .seq #[vS "text" 266, vS "at" 267] }
noncomputable def ob64 (p : Params) : Obj := { cls := .type "tuple", data := .seq #[] }
noncomputable def ob65 (p : Params) : Obj := { cls := .none, data := .func { name := (.ofString "line_of"), qualname := (.ofString "line_of"), params := (fdA 9), body := .stmts (fdB 9), scope := (fdS 9), globals := 0, closure := [], defaults := .none, kwdefaults := .none } }
noncomputable def ob66 (p : Params) : Obj := { cls := .type "code", data := .fields #[vS "line_of" 263, vS "line_of" 264, vP 265, .int 20 0, .int 2 0, .int 0 0, .int 0 0, .int 3 0, .ref 61, .bool true, .int 181 0, .ref 62, .none, .ref 63, .ref 64, .ref 65, .int 268 0, .int 20 0, vP 269] }
noncomputable def ob67 (p : Params) : Obj := { cls := .type "function", data := .func { name := (.ofString "line_of"), qualname := (.ofString "line_of"), params := (fdA 9), body := .stmts (fdB 9), scope := (fdS 9), globals := 3, closure := [], defaults := .none, kwdefaults := .none, pyModule := vS "perlcore.lexscan" 255, code := .ref 66 } }
noncomputable def ob68 (p : Params) : Obj := { cls := .type "tuple", data := .seq #[] }
noncomputable def ob69 (p : Params) : Obj := { cls := .none, data := .fields #[] }
noncomputable def ob70 (p : Params) : Obj := { cls := .type "tuple", data := .seq #[vS "text" 274, vS "at" 275, vS "signs" 276, vS "end" 277] }
noncomputable def ob71 (p : Params) : Obj := { cls := .type "tuple", data := .seq #[] }
noncomputable def ob72 (p : Params) : Obj := { cls := .none, data := .func { name := (.ofString "run_end"), qualname := (.ofString "run_end"), params := (fdA 10), body := .stmts (fdB 10), scope := (fdS 10), globals := 0, closure := [], defaults := .none, kwdefaults := .none } }
noncomputable def ob73 (p : Params) : Obj := { cls := .type "code", data := .fields #[vS "run_end" 271, vS "run_end" 272, vP 273, .int 22 0, .int 3 0, .int 0 0, .int 0 0, .int 3 0, .ref 68, .bool true, .int 181 0, .ref 69, .none, .ref 70, .ref 71, .ref 72, .int 278 0, .int 22 0, vP 279] }
noncomputable def ob74 (p : Params) : Obj := { cls := .type "function", data := .func { name := (.ofString "run_end"), qualname := (.ofString "run_end"), params := (fdA 10), body := .stmts (fdB 10), scope := (fdS 10), globals := 3, closure := [], defaults := .none, kwdefaults := .none, pyModule := vS "perlcore.lexscan" 255, code := .ref 73 } }
noncomputable def ob3b (p : Params) : Obj := { cls := .type "dict", data := .dict #[en p "__name__" 165 (vS "perlcore.lexquote" 355), en p "__doc__" 166 (.none), en p "__package__" 167 (.none), en p "__loader__" 168 (.builtin "__main__.__loader__#opaque"), en p "__spec__" 169 (.none), en p "__annotations__" 170 (.ref 6), en p "__builtins__" 171 (.ref 4), en p "__file__" 173 (vP 172), en p "__cached__" 174 (.none), en p "remark_end" 197 (.ref 21), en p "PerlError" 228 (.ref 38), en p "SyntaxDie" 254 (.ref 58), en p "WORD_STARTS" 258 (vS "ABCDEFGHIJKLMNOPQRSTUVWXYZabcdefghijklmnopqrstuvwxyz_" 257), en p "DIGIT_SIGNS" 260 (vS "0123456789" 259), en p "WORD_SIGNS" 262 (vS "ABCDEFGHIJKLMNOPQRSTUVWXYZabcdefghijklmnopqrstuvwxyz_0123456789" 261), en p "line_of" 270 (.ref 67), en p "run_end" 280 (.ref 74), en p "CLOSERS" 295 (.ref 75), en p "closer_of" 302 (.ref 82), en p "line_of_place" 310 (.ref 89), en p "delimited" 323 (.ref 96), en p "unguarded" 336 (.ref 103), en p "read_q" 344 (.ref 110), en p "read_qw" 354 (.ref 117), en p "BLANK_SIGNS" 358 (vS " \t\x0d\n\x0c" 357), en p "OPENING_SIGNS" 360 (vS "([{<" 359), en p "FLAGS_OF" 370 (.ref 118)] 27 }
noncomputable def ob12c (p : Params) : Obj := { cls := .none, data := .fields #[.int 2 0, .int 0 0, .ref 20, .int 6 0, .int 0 0, .ref 27, .int 11 0, .int 0 0, .ref 47, .int 20 0, .int 0 0, .ref 66, .int 22 0, .int 0 0, .ref 73, .int 29 0, .int 0 0, .ref 81, .int 31 0, .int 0 0, .ref 88, .int 33 0, .int 0 0, .ref 95, .int 51 0, .int 0 0, .ref 102, .int 67 0, .int 0 0, .ref 109, .int 69 0, .int 0 0, .ref 116] }
noncomputable def ob75 (p : Params) : Obj := { cls := .type "dict", data := .dict #[en p "(" 283 (vS ")" 284), en p "[" 285 (vS "]" 286), en p "{" 287 (vS "}" 288), en p "<" 289 (vS ">" 290)] 4 }
noncomputable def ob76 (p : Params) : Obj := { cls := .type "tuple", data := .seq #[] }
noncomputable def ob77 (p : Params) : Obj := { cls := .none, data := .fields #[] }
noncomputable def ob78 (p : Params) : Obj := { cls := .type "tuple", data := .seq #[vS "opening" 299] }
noncomputable def ob79 (p : Params) : Obj := { cls := .type "tuple", data := .seq #[] }
noncomputable def ob80 (p : Params) : Obj := { cls := .none, data := .func { name := (.ofString "closer_of"), qualname := (.ofString "closer_of"), params := (fdA 13), body := .stmts (fdB 13), scope := (fdS 13), globals := 0, closure := [], defaults := .none, kwdefaults := .none } }
noncomputable def ob81 (p : Params) : Obj := { cls := .type "code", data := .fields #[vS "closer_of" 296, vS "closer_of" 297, vP 298, .int 29 0, .int 1 0, .int 0 0, .int 0 0, .int 3 0, .ref 76, .bool true, .int 181 0, .ref 77, .none, .ref 78, .ref 79, .ref 80, .int 300 0, .int 29 0, vP 301] }
noncomputable def ob82 (p : Params) : Obj := { cls := .type "function", data := .func { name := (.ofString "closer_of"), qualname := (.ofString "closer_of"), params := (fdA 13), body := .stmts (fdB 13), scope := (fdS 13), globals := 3, closure := [], defaults := .none, kwdefaults := .none, pyModule := vS "perlcore.quotes" 281, code := .ref 81 } }
noncomputable def ob83 (p : Params) : Obj := { cls := .type "tuple", data := .seq #[] }
noncomputable def ob84 (p : Params) : Obj := { cls := .none, data := .fields #[] }
noncomputable def ob85 (p : Params) : Obj := { cls := .type "tuple", data := .seq #[vS "text" 306, vS "at" 307] }
noncomputable def ob86 (p : Params) : Obj := { cls := .type "tuple", data := .seq #[] }
noncomputable def ob87 (p : Params) : Obj := { cls := .none, data := .func { name := (.ofString "line_of_place"), qualname := (.ofString "line_of_place"), params := (fdA 14), body := .stmts (fdB 14), scope := (fdS 9), globals := 0, closure := [], defaults := .none, kwdefaults := .none } }
noncomputable def ob88 (p : Params) : Obj := { cls := .type "code", data := .fields #[vS "line_of_place" 303, vS "line_of_place" 304, vP 305, .int 31 0, .int 2 0, .int 0 0, .int 0 0, .int 3 0, .ref 83, .bool true, .int 181 0, .ref 84, .none, .ref 85, .ref 86, .ref 87, .int 308 0, .int 31 0, vP 309] }
noncomputable def ob89 (p : Params) : Obj := { cls := .type "function", data := .func { name := (.ofString "line_of_place"), qualname := (.ofString "line_of_place"), params := (fdA 14), body := .stmts (fdB 14), scope := (fdS 9), globals := 3, closure := [], defaults := .none, kwdefaults := .none, pyModule := vS "perlcore.quotes" 281, code := .ref 88 } }
noncomputable def ob90 (p : Params) : Obj := { cls := .type "tuple", data := .seq #[] }
noncomputable def ob91 (p : Params) : Obj := { cls := .none, data := .fields #[] }
noncomputable def ob92 (p : Params) : Obj := { cls := .type "tuple", data := .seq #[vS "text" 314, vS "at" 315, vS "opening" 316, vS "closing" 317, vS "depth" 318, vS "end" 319, vS "sign" 320] }
noncomputable def ob93 (p : Params) : Obj := { cls := .type "tuple", data := .seq #[] }
noncomputable def ob94 (p : Params) : Obj := { cls := .none, data := .func { name := (.ofString "delimited"), qualname := (.ofString "delimited"), params := (fdA 15), body := .stmts (fdB 15), scope := (fdS 15), globals := 0, closure := [], defaults := .none, kwdefaults := .none } }
noncomputable def ob95 (p : Params) : Obj := { cls := .type "code", data := .fields #[vS "delimited" 311, vS "delimited" 312, vP 313, .int 33 0, .int 2 0, .int 0 0, .int 0 0, .int 3 0, .ref 90, .bool true, .int 181 0, .ref 91, .none, .ref 92, .ref 93, .ref 94, .int 321 0, .int 33 0, vP 322] }
noncomputable def ob96 (p : Params) : Obj := { cls := .type "function", data := .func { name := (.ofString "delimited"), qualname := (.ofString "delimited"), params := (fdA 15), body := .stmts (fdB 15), scope := (fdS 15), globals := 3, closure := [], defaults := .none, kwdefaults := .none, pyModule := vS "perlcore.quotes" 281, code := .ref 95 } }
noncomputable def ob97 (p : Params) : Obj := { cls := .type "tuple", data := .seq #[] }
noncomputable def ob98 (p : Params) : Obj := { cls := .none, data := .fields #[] }
noncomputable def ob99 (p : Params) : Obj := { cls := .type "tuple", data := .seq #[vS "inner" 327, vS "opening" 328, vS "is_plain" 329, vS "closing" 330, vS "out" 331, vS "at" 332, vS "follower" 333] }
noncomputable def ob100 (p : Params) : Obj := { cls := .type "tuple", data := .seq #[] }
noncomputable def ob101 (p : Params) : Obj := { cls := .none, data := .func { name := (.ofString "unguarded"), qualname := (.ofString "unguarded"), params := (fdA 16), body := .stmts (fdB 16), scope := (fdS 16), globals := 0, closure := [], defaults := .none, kwdefaults := .none } }
noncomputable def ob102 (p : Params) : Obj := { cls := .type "code", data := .fields #[vS "unguarded" 324, vS "unguarded" 325, vP 326, .int 51 0, .int 3 0, .int 0 0, .int 0 0, .int 3 0, .ref 97, .bool true, .int 181 0, .ref 98, .none, .ref 99, .ref 100, .ref 101, .int 334 0, .int 51 0, vP 335] }
noncomputable def ob103 (p : Params) : Obj := { cls := .type "function", data := .func { name := (.ofString "unguarded"), qualname := (.ofString "unguarded"), params := (fdA 16), body := .stmts (fdB 16), scope := (fdS 16), globals := 3, closure := [], defaults := .none, kwdefaults := .none, pyModule := vS "perlcore.quotes" 281, code := .ref 102 } }
noncomputable def ob104 (p : Params) : Obj := { cls := .type "tuple", data := .seq #[] }
noncomputable def ob105 (p : Params) : Obj := { cls := .none, data := .fields #[] }
noncomputable def ob106 (p : Params) : Obj := { cls := .type "tuple", data := .seq #[vS "inner" 340, vS "opening" 341] }
noncomputable def ob107 (p : Params) : Obj := { cls := .type "tuple", data := .seq #[] }
noncomputable def ob108 (p : Params) : Obj := { cls := .none, data := .func { name := (.ofString "read_q"), qualname := (.ofString "read_q"), params := (fdA 17), body := .stmts (fdB 17), scope := (fdS 17), globals := 0, closure := [], defaults := .none, kwdefaults := .none } }
noncomputable def ob109 (p : Params) : Obj := { cls := .type "code", data := .fields #[vS "read_q" 337, vS "read_q" 338, vP 339, .int 67 0, .int 2 0, .int 0 0, .int 0 0, .int 3 0, .ref 104, .bool true, .int 181 0, .ref 105, .none, .ref 106, .ref 107, .ref 108, .int 342 0, .int 67 0, vP 343] }
noncomputable def ob110 (p : Params) : Obj := { cls := .type "function", data := .func { name := (.ofString "read_q"), qualname := (.ofString "read_q"), params := (fdA 17), body := .stmts (fdB 17), scope := (fdS 17), globals := 3, closure := [], defaults := .none, kwdefaults := .none, pyModule := vS "perlcore.quotes" 281, code := .ref 109 } }
noncomputable def ob111 (p : Params) : Obj := { cls := .type "tuple", data := .seq #[] }
noncomputable def ob112 (p : Params) : Obj := { cls := .none, data := .fields #[] }
noncomputable def ob113 (p : Params) : Obj := { cls := .type "tuple", data := .seq #[vS "inner" 348, vS "words" 349, vS "word" 350, vS "sign" 351] }
noncomputable def ob114 (p : Params) : Obj := { cls := .type "tuple", data := .seq #[] }
noncomputable def ob115 (p : Params) : Obj := { cls := .none, data := .func { name := (.ofString "read_qw"), qualname := (.ofString "read_qw"), params := (fdA 18), body := .stmts (fdB 18), scope := (fdS 18), globals := 0, closure := [], defaults := .none, kwdefaults := .none } }
noncomputable def ob116 (p : Params) : Obj := { cls := .type "code", data := .fields #[vS "read_qw" 345, vS "read_qw" 346, vP 347, .int 69 0, .int 1 0, .int 0 0, .int 0 0, .int 3 0, .ref 111, .bool true, .int 181 0, .ref 112, .none, .ref 113, .ref 114, .ref 115, .int 352 0, .int 69 0, vP 353] }
noncomputable def ob117 (p : Params) : Obj := { cls := .type "function", data := .func { name := (.ofString "read_qw"), qualname := (.ofString "read_qw"), params := (fdA 18), body := .stmts (fdB 18), scope := (fdS 18), globals := 3, closure := [], defaults := .none, kwdefaults := .none, pyModule := vS "perlcore.quotes" 281, code := .ref 116 } }
noncomputable def ob118 (p : Params) : Obj := { cls := .type "dict", data := .dict #[en p "match" 361 (vS "cgimosx" 362), en p "subst" 363 (vS "egimorsx" 364), en p "trans" 365 (vS "cdsr" 366)] 3 }
noncomputable def ob3c (p : Params) : Obj := { cls := .type "dict", data := .dict #[en p "__name__" 165 (vS "law_qd0139_01" 479), en p "__doc__" 166 (.none), en p "__package__" 167 (.none), en p "__loader__" 168 (.builtin "__main__.__loader__#opaque"), en p "__spec__" 169 (.none), en p "__annotations__" 170 (.ref 6), en p "__builtins__" 171 (.ref 4), en p "__file__" 173 (vP 172), en p "__cached__" 174 (.none), en p "remark_end" 197 (.ref 21), en p "PerlError" 228 (.ref 38), en p "SyntaxDie" 254 (.ref 58), en p "WORD_STARTS" 258 (vS "ABCDEFGHIJKLMNOPQRSTUVWXYZabcdefghijklmnopqrstuvwxyz_" 257), en p "DIGIT_SIGNS" 260 (vS "0123456789" 259), en p "WORD_SIGNS" 262 (vS "ABCDEFGHIJKLMNOPQRSTUVWXYZabcdefghijklmnopqrstuvwxyz_0123456789" 261), en p "line_of" 270 (.ref 67), en p "run_end" 280 (.ref 74), en p "CLOSERS" 295 (.ref 75), en p "closer_of" 302 (.ref 82), en p "line_of_place" 310 (.ref 89), en p "delimited" 323 (.ref 96), en p "unguarded" 336 (.ref 103), en p "read_q" 344 (.ref 110), en p "read_qw" 354 (.ref 117), en p "BLANK_SIGNS" 358 (vS " \t\x0d\n\x0c" 357), en p "OPENING_SIGNS" 360 (vS "([{<" 359), en p "FLAGS_OF" 370 (.ref 118), en p "opening_place" 379 (.ref 125), en p "behind_blanks" 388 (.ref 132), en p "second_part" 400 (.ref 139), en p "flags_token" 411 (.ref 146), en p "match_token" 423 (.ref 153), en p "subst_token" 438 (.ref 160), en p "trans_token" 452 (.ref 167), en p "quote_token" 463 (.ref 174), en p "here_sign" 478 (.ref 181), en p "_law_words" 488 (.ref 182), en p "_law_openers" 499 (.ref 183), en p "_law_closers" 505 (.ref 190), en p "_law_known" 511 (.ref 197), en p "_law_sip" 520 (.ref 204), en p "_law_within" 526 (.ref 209), en p "_law_row" 534 (.ref 216), en p "_law_quote" 540 (.ref 221), en p "_law_read" 550 (.ref 228), en p "_law_here_read" 559 (.ref 235), en p "_law_here_right" 574 (.ref 242), en p "law" 580 (.ref 247)] 48 }
noncomputable def ob12d (p : Params) : Obj := { cls := .none, data := .fields #[.int 2 0, .int 0 0, .ref 20, .int 6 0, .int 0 0, .ref 27, .int 11 0, .int 0 0, .ref 47, .int 20 0, .int 0 0, .ref 66, .int 22 0, .int 0 0, .ref 73, .int 29 0, .int 0 0, .ref 81, .int 31 0, .int 0 0, .ref 88, .int 33 0, .int 0 0, .ref 95, .int 51 0, .int 0 0, .ref 102, .int 67 0, .int 0 0, .ref 109, .int 69 0, .int 0 0, .ref 116, .int 86 0, .int 0 0, .ref 124, .int 93 0, .int 0 0, .ref 131, .int 98 0, .int 0 0, .ref 138, .int 107 0, .int 0 0, .ref 145, .int 113 0, .int 0 0, .ref 152, .int 117 0, .int 0 0, .ref 159, .int 123 0, .int 0 0, .ref 166, .int 128 0, .int 0 0, .ref 173, .int 143 0, .int 0 0, .ref 180, .int 164 0, .int 0 0, .ref 189, .int 166 0, .int 0 0, .ref 196, .int 168 0, .int 0 0, .ref 203, .int 174 0, .int 0 0, .ref 208, .int 181 0, .int 0 0, .ref 215, .int 183 0, .int 0 0, .ref 220, .int 223 0, .int 0 0, .ref 227, .int 228 0, .int 0 0, .ref 234, .int 233 0, .int 0 0, .ref 241, .int 247 0, .int 0 0, .ref 246] }
noncomputable def ob119 (p : Params) : Obj := { cls := .type "tuple", data := .seq #[] }
noncomputable def ob120 (p : Params) : Obj := { cls := .none, data := .fields #[] }
noncomputable def ob121 (p : Params) : Obj := { cls := .type "tuple", data := .seq #[vS "text" 374, vS "at" 375, vS "begun" 376] }
noncomputable def ob122 (p : Params) : Obj := { cls := .type "tuple", data := .seq #[] }
noncomputable def ob123 (p : Params) : Obj := { cls := .none, data := .func { name := (.ofString "opening_place"), qualname := (.ofString "opening_place"), params := (fdA 23), body := .stmts (fdB 23), scope := (fdS 23), globals := 0, closure := [], defaults := .none, kwdefaults := .none } }
noncomputable def ob124 (p : Params) : Obj := { cls := .type "code", data := .fields #[vS "opening_place" 371, vS "opening_place" 372, vP 373, .int 86 0, .int 2 0, .int 0 0, .int 0 0, .int 3 0, .ref 119, .bool true, .int 181 0, .ref 120, .none, .ref 121, .ref 122, .ref 123, .int 377 0, .int 86 0, vP 378] }
noncomputable def ob125 (p : Params) : Obj := { cls := .type "function", data := .func { name := (.ofString "opening_place"), qualname := (.ofString "opening_place"), params := (fdA 23), body := .stmts (fdB 23), scope := (fdS 23), globals := 3, closure := [], defaults := .none, kwdefaults := .none, pyModule := vS "perlcore.lexquote" 355, code := .ref 124 } }
noncomputable def ob126 (p : Params) : Obj := { cls := .type "tuple", data := .seq #[] }
noncomputable def ob127 (p : Params) : Obj := { cls := .none, data := .fields #[] }
noncomputable def ob128 (p : Params) : Obj := { cls := .type "tuple", data := .seq #[vS "text" 383, vS "at" 384, vS "end" 385] }
noncomputable def ob129 (p : Params) : Obj := { cls := .type "tuple", data := .seq #[] }
noncomputable def ob130 (p : Params) : Obj := { cls := .none, data := .func { name := (.ofString "behind_blanks"), qualname := (.ofString "behind_blanks"), params := (fdA 24), body := .stmts (fdB 24), scope := (fdS 24), globals := 0, closure := [], defaults := .none, kwdefaults := .none } }
noncomputable def ob131 (p : Params) : Obj := { cls := .type "code", data := .fields #[vS "behind_blanks" 380, vS "behind_blanks" 381, vP 382, .int 93 0, .int 2 0, .int 0 0, .int 0 0, .int 3 0, .ref 126, .bool true, .int 181 0, .ref 127, .none, .ref 128, .ref 129, .ref 130, .int 386 0, .int 93 0, vP 387] }
noncomputable def ob132 (p : Params) : Obj := { cls := .type "function", data := .func { name := (.ofString "behind_blanks"), qualname := (.ofString "behind_blanks"), params := (fdA 24), body := .stmts (fdB 24), scope := (fdS 24), globals := 3, closure := [], defaults := .none, kwdefaults := .none, pyModule := vS "perlcore.lexquote" 355, code := .ref 131 } }
noncomputable def ob133 (p : Params) : Obj := { cls := .type "tuple", data := .seq #[] }
noncomputable def ob134 (p : Params) : Obj := { cls := .none, data := .fields #[] }
noncomputable def ob135 (p : Params) : Obj := { cls := .type "tuple", data := .seq #[vS "text" 392, vS "opening" 393, vS "behind" 394, vS "inner" 395, vS "end" 396, vS "begun" 397] }
noncomputable def ob136 (p : Params) : Obj := { cls := .type "tuple", data := .seq #[] }
noncomputable def ob137 (p : Params) : Obj := { cls := .none, data := .func { name := (.ofString "second_part"), qualname := (.ofString "second_part"), params := (fdA 25), body := .stmts (fdB 25), scope := (fdS 25), globals := 0, closure := [], defaults := .none, kwdefaults := .none } }
noncomputable def ob138 (p : Params) : Obj := { cls := .type "code", data := .fields #[vS "second_part" 389, vS "second_part" 390, vP 391, .int 98 0, .int 3 0, .int 0 0, .int 0 0, .int 3 0, .ref 133, .bool true, .int 181 0, .ref 134, .none, .ref 135, .ref 136, .ref 137, .int 398 0, .int 98 0, vP 399] }
noncomputable def ob139 (p : Params) : Obj := { cls := .type "function", data := .func { name := (.ofString "second_part"), qualname := (.ofString "second_part"), params := (fdA 25), body := .stmts (fdB 25), scope := (fdS 25), globals := 3, closure := [], defaults := .none, kwdefaults := .none, pyModule := vS "perlcore.lexquote" 355, code := .ref 138 } }
noncomputable def ob140 (p : Params) : Obj := { cls := .type "tuple", data := .seq #[] }
noncomputable def ob141 (p : Params) : Obj := { cls := .none, data := .fields #[] }
noncomputable def ob142 (p : Params) : Obj := { cls := .type "tuple", data := .seq #[vS "text" 404, vS "at" 405, vS "kind" 406, vS "end" 407, vS "sign" 408] }
noncomputable def ob143 (p : Params) : Obj := { cls := .type "tuple", data := .seq #[] }
noncomputable def ob144 (p : Params) : Obj := { cls := .none, data := .func { name := (.ofString "flags_token"), qualname := (.ofString "flags_token"), params := (fdA 26), body := .stmts (fdB 26), scope := (fdS 26), globals := 0, closure := [], defaults := .none, kwdefaults := .none } }
noncomputable def ob145 (p : Params) : Obj := { cls := .type "code", data := .fields #[vS "flags_token" 401, vS "flags_token" 402, vP 403, .int 107 0, .int 3 0, .int 0 0, .int 0 0, .int 3 0, .ref 140, .bool true, .int 181 0, .ref 141, .none, .ref 142, .ref 143, .ref 144, .int 409 0, .int 107 0, vP 410] }
noncomputable def ob146 (p : Params) : Obj := { cls := .type "function", data := .func { name := (.ofString "flags_token"), qualname := (.ofString "flags_token"), params := (fdA 26), body := .stmts (fdB 26), scope := (fdS 26), globals := 3, closure := [], defaults := .none, kwdefaults := .none, pyModule := vS "perlcore.lexquote" 355, code := .ref 145 } }
noncomputable def ob147 (p : Params) : Obj := { cls := .type "tuple", data := .seq #[] }
noncomputable def ob148 (p : Params) : Obj := { cls := .none, data := .fields #[] }
noncomputable def ob149 (p : Params) : Obj := { cls := .type "tuple", data := .seq #[vS "text" 415, vS "opening" 416, vS "inner" 417, vS "behind" 418, vS "flags" 419, vS "end" 420] }
noncomputable def ob150 (p : Params) : Obj := { cls := .type "tuple", data := .seq #[] }
noncomputable def ob151 (p : Params) : Obj := { cls := .none, data := .func { name := (.ofString "match_token"), qualname := (.ofString "match_token"), params := (fdA 27), body := .stmts (fdB 27), scope := (fdS 27), globals := 0, closure := [], defaults := .none, kwdefaults := .none } }
noncomputable def ob152 (p : Params) : Obj := { cls := .type "code", data := .fields #[vS "match_token" 412, vS "match_token" 413, vP 414, .int 113 0, .int 2 0, .int 0 0, .int 0 0, .int 3 0, .ref 147, .bool true, .int 181 0, .ref 148, .none, .ref 149, .ref 150, .ref 151, .int 421 0, .int 113 0, vP 422] }
noncomputable def ob153 (p : Params) : Obj := { cls := .type "function", data := .func { name := (.ofString "match_token"), qualname := (.ofString "match_token"), params := (fdA 27), body := .stmts (fdB 27), scope := (fdS 27), globals := 3, closure := [], defaults := .none, kwdefaults := .none, pyModule := vS "perlcore.lexquote" 355, code := .ref 152 } }
noncomputable def ob154 (p : Params) : Obj := { cls := .type "tuple", data := .seq #[] }
noncomputable def ob155 (p : Params) : Obj := { cls := .none, data := .fields #[] }
noncomputable def ob156 (p : Params) : Obj := { cls := .type "tuple", data := .seq #[vS "text" 427, vS "opening" 428, vS "inner" 429, vS "behind" 430, vS "other" 431, vS "sign" 432, vS "flags" 433, vS "end" 434, vS "first" 435] }
noncomputable def ob157 (p : Params) : Obj := { cls := .type "tuple", data := .seq #[] }
noncomputable def ob158 (p : Params) : Obj := { cls := .none, data := .func { name := (.ofString "subst_token"), qualname := (.ofString "subst_token"), params := (fdA 28), body := .stmts (fdB 28), scope := (fdS 28), globals := 0, closure := [], defaults := .none, kwdefaults := .none } }
noncomputable def ob159 (p : Params) : Obj := { cls := .type "code", data := .fields #[vS "subst_token" 424, vS "subst_token" 425, vP 426, .int 117 0, .int 2 0, .int 0 0, .int 0 0, .int 3 0, .ref 154, .bool true, .int 181 0, .ref 155, .none, .ref 156, .ref 157, .ref 158, .int 436 0, .int 117 0, vP 437] }
noncomputable def ob160 (p : Params) : Obj := { cls := .type "function", data := .func { name := (.ofString "subst_token"), qualname := (.ofString "subst_token"), params := (fdA 28), body := .stmts (fdB 28), scope := (fdS 28), globals := 3, closure := [], defaults := .none, kwdefaults := .none, pyModule := vS "perlcore.lexquote" 355, code := .ref 159 } }
noncomputable def ob161 (p : Params) : Obj := { cls := .type "tuple", data := .seq #[] }
noncomputable def ob162 (p : Params) : Obj := { cls := .none, data := .fields #[] }
noncomputable def ob163 (p : Params) : Obj := { cls := .type "tuple", data := .seq #[vS "text" 442, vS "opening" 443, vS "inner" 444, vS "behind" 445, vS "other" 446, vS "sign" 447, vS "flags" 448, vS "end" 449] }
noncomputable def ob164 (p : Params) : Obj := { cls := .type "tuple", data := .seq #[] }
noncomputable def ob165 (p : Params) : Obj := { cls := .none, data := .func { name := (.ofString "trans_token"), qualname := (.ofString "trans_token"), params := (fdA 29), body := .stmts (fdB 29), scope := (fdS 29), globals := 0, closure := [], defaults := .none, kwdefaults := .none } }
noncomputable def ob166 (p : Params) : Obj := { cls := .type "code", data := .fields #[vS "trans_token" 439, vS "trans_token" 440, vP 441, .int 123 0, .int 2 0, .int 0 0, .int 0 0, .int 3 0, .ref 161, .bool true, .int 181 0, .ref 162, .none, .ref 163, .ref 164, .ref 165, .int 450 0, .int 123 0, vP 451] }
noncomputable def ob167 (p : Params) : Obj := { cls := .type "function", data := .func { name := (.ofString "trans_token"), qualname := (.ofString "trans_token"), params := (fdA 29), body := .stmts (fdB 29), scope := (fdS 29), globals := 3, closure := [], defaults := .none, kwdefaults := .none, pyModule := vS "perlcore.lexquote" 355, code := .ref 166 } }
noncomputable def ob168 (p : Params) : Obj := { cls := .type "tuple", data := .seq #[] }
noncomputable def ob169 (p : Params) : Obj := { cls := .none, data := .fields #[] }
noncomputable def ob170 (p : Params) : Obj := { cls := .type "tuple", data := .seq #[vS "text" 456, vS "word" 457, vS "opening" 458, vS "inner" 459, vS "behind" 460] }
noncomputable def ob171 (p : Params) : Obj := { cls := .type "tuple", data := .seq #[] }
noncomputable def ob172 (p : Params) : Obj := { cls := .none, data := .func { name := (.ofString "quote_token"), qualname := (.ofString "quote_token"), params := (fdA 30), body := .stmts (fdB 30), scope := (fdS 30), globals := 0, closure := [], defaults := .none, kwdefaults := .none } }
noncomputable def ob173 (p : Params) : Obj := { cls := .type "code", data := .fields #[vS "quote_token" 453, vS "quote_token" 454, vP 455, .int 128 0, .int 3 0, .int 0 0, .int 0 0, .int 3 0, .ref 168, .bool true, .int 181 0, .ref 169, .none, .ref 170, .ref 171, .ref 172, .int 461 0, .int 128 0, vP 462] }
noncomputable def ob174 (p : Params) : Obj := { cls := .type "function", data := .func { name := (.ofString "quote_token"), qualname := (.ofString "quote_token"), params := (fdA 30), body := .stmts (fdB 30), scope := (fdS 30), globals := 3, closure := [], defaults := .none, kwdefaults := .none, pyModule := vS "perlcore.lexquote" 355, code := .ref 173 } }
noncomputable def ob175 (p : Params) : Obj := { cls := .type "tuple", data := .seq #[] }
noncomputable def ob176 (p : Params) : Obj := { cls := .none, data := .fields #[] }
noncomputable def ob177 (p : Params) : Obj := { cls := .type "tuple", data := .seq #[vS "text" 467, vS "at" 468, vS "begun" 469, vS "is_indented" 470, vS "quote" 471, vS "sign" 472, vS "inner" 473, vS "behind" 474, vS "end" 475] }
noncomputable def ob178 (p : Params) : Obj := { cls := .type "tuple", data := .seq #[] }
noncomputable def ob179 (p : Params) : Obj := { cls := .none, data := .func { name := (.ofString "here_sign"), qualname := (.ofString "here_sign"), params := (fdA 31), body := .stmts (fdB 31), scope := (fdS 31), globals := 0, closure := [], defaults := .none, kwdefaults := .none } }
noncomputable def ob180 (p : Params) : Obj := { cls := .type "code", data := .fields #[vS "here_sign" 464, vS "here_sign" 465, vP 466, .int 143 0, .int 2 0, .int 0 0, .int 0 0, .int 3 0, .ref 175, .bool true, .int 181 0, .ref 176, .none, .ref 177, .ref 178, .ref 179, .int 476 0, .int 143 0, vP 477] }
noncomputable def ob181 (p : Params) : Obj := { cls := .type "function", data := .func { name := (.ofString "here_sign"), qualname := (.ofString "here_sign"), params := (fdA 31), body := .stmts (fdB 31), scope := (fdS 31), globals := 3, closure := [], defaults := .none, kwdefaults := .none, pyModule := vS "perlcore.lexquote" 355, code := .ref 180 } }
noncomputable def ob182 (p : Params) : Obj := { cls := .type "tuple", data := .seq #[vS "q" 481, vS "qq" 482, vS "qw" 483, vS "m" 484, vS "s" 485, vS "tr" 486, vS "y" 487] }
noncomputable def ob183 (p : Params) : Obj := { cls := .type "tuple", data := .seq #[vS "/" 489, vS "!" 490, vS "'" 491, vS "," 492, vS "(" 493, vS "[" 494, vS "{" 495, vS "<" 496, vS "#" 497, vS "\"" 498] }
noncomputable def ob184 (p : Params) : Obj := { cls := .type "tuple", data := .seq #[] }
noncomputable def ob185 (p : Params) : Obj := { cls := .none, data := .fields #[] }
noncomputable def ob186 (p : Params) : Obj := { cls := .type "tuple", data := .seq #[] }
noncomputable def ob187 (p : Params) : Obj := { cls := .type "tuple", data := .seq #[] }
noncomputable def ob188 (p : Params) : Obj := { cls := .none, data := .func { name := (.ofString "_law_closers"), qualname := (.ofString "_law_closers"), params := (fdA 35), body := .stmts (fdB 35), scope := (fdS 35), globals := 0, closure := [], defaults := .none, kwdefaults := .none } }
noncomputable def ob189 (p : Params) : Obj := { cls := .type "code", data := .fields #[vS "_law_closers" 500, vS "_law_closers" 501, vP 502, .int 164 0, .int 0 0, .int 0 0, .int 0 0, .int 3 0, .ref 184, .bool true, .int 181 0, .ref 185, .none, .ref 186, .ref 187, .ref 188, .int 503 0, .int 164 0, vP 504] }
noncomputable def ob190 (p : Params) : Obj := { cls := .type "function", data := .func { name := (.ofString "_law_closers"), qualname := (.ofString "_law_closers"), params := (fdA 35), body := .stmts (fdB 35), scope := (fdS 35), globals := 3, closure := [], defaults := .none, kwdefaults := .none, pyModule := vS "law_qd0139_01" 479, code := .ref 189 } }
noncomputable def ob191 (p : Params) : Obj := { cls := .type "tuple", data := .seq #[] }
noncomputable def ob192 (p : Params) : Obj := { cls := .none, data := .fields #[] }
noncomputable def ob193 (p : Params) : Obj := { cls := .type "tuple", data := .seq #[] }
noncomputable def ob194 (p : Params) : Obj := { cls := .type "tuple", data := .seq #[] }
noncomputable def ob195 (p : Params) : Obj := { cls := .none, data := .func { name := (.ofString "_law_known"), qualname := (.ofString "_law_known"), params := (fdA 35), body := .stmts (fdB 36), scope := (fdS 35), globals := 0, closure := [], defaults := .none, kwdefaults := .none } }
noncomputable def ob196 (p : Params) : Obj := { cls := .type "code", data := .fields #[vS "_law_known" 506, vS "_law_known" 507, vP 508, .int 166 0, .int 0 0, .int 0 0, .int 0 0, .int 3 0, .ref 191, .bool true, .int 181 0, .ref 192, .none, .ref 193, .ref 194, .ref 195, .int 509 0, .int 166 0, vP 510] }
noncomputable def ob197 (p : Params) : Obj := { cls := .type "function", data := .func { name := (.ofString "_law_known"), qualname := (.ofString "_law_known"), params := (fdA 35), body := .stmts (fdB 36), scope := (fdS 35), globals := 3, closure := [], defaults := .none, kwdefaults := .none, pyModule := vS "law_qd0139_01" 479, code := .ref 196 } }
noncomputable def ob198 (p : Params) : Obj := { cls := .type "tuple", data := .seq #[] }
noncomputable def ob199 (p : Params) : Obj := { cls := .none, data := .fields #[] }
noncomputable def ob200 (p : Params) : Obj := { cls := .type "tuple", data := .seq #[vS "cup" 515, vS "many" 516, vS "drop" 517] }
noncomputable def ob201 (p : Params) : Obj := { cls := .type "tuple", data := .seq #[] }
noncomputable def ob202 (p : Params) : Obj := { cls := .none, data := .func { name := (.ofString "_law_sip"), qualname := (.ofString "_law_sip"), params := (fdA 37), body := .stmts (fdB 37), scope := (fdS 37), globals := 0, closure := [], defaults := .none, kwdefaults := .none } }
noncomputable def ob203 (p : Params) : Obj := { cls := .type "code", data := .fields #[vS "_law_sip" 512, vS "_law_sip" 513, vP 514, .int 168 0, .int 2 0, .int 0 0, .int 0 0, .int 3 0, .ref 198, .bool true, .int 181 0, .ref 199, .none, .ref 200, .ref 201, .ref 202, .int 518 0, .int 168 0, vP 519] }
noncomputable def ob204 (p : Params) : Obj := { cls := .type "function", data := .func { name := (.ofString "_law_sip"), qualname := (.ofString "_law_sip"), params := (fdA 37), body := .stmts (fdB 37), scope := (fdS 37), globals := 3, closure := [], defaults := .none, kwdefaults := .none, pyModule := vS "law_qd0139_01" 479, code := .ref 203 } }
noncomputable def ob205 (p : Params) : Obj := { cls := .type "tuple", data := .seq #[] }
noncomputable def ob206 (p : Params) : Obj := { cls := .none, data := .fields #[] }
noncomputable def ob207 (p : Params) : Obj := { cls := .none, data := .func { name := (.ofString "_law_within"), qualname := (.ofString "_law_within"), params := (fdA 38), body := .stmts (fdB 38), scope := (fdS 38), globals := 0, closure := [], defaults := .none, kwdefaults := .none } }
noncomputable def ob208 (p : Params) : Obj := { cls := .type "code", data := .fields #[vS "_law_within" 521, vS "_law_within" 522, vP 523, .int 174 0, .int 2 0, .int 0 0, .int 0 0, .int 3 0, .ref 205, .bool true, .int 181 0, .ref 206, .none, .none, .none, .ref 207, .int 524 0, .int 174 0, vP 525] }
noncomputable def ob209 (p : Params) : Obj := { cls := .type "function", data := .func { name := (.ofString "_law_within"), qualname := (.ofString "_law_within"), params := (fdA 38), body := .stmts (fdB 38), scope := (fdS 38), globals := 3, closure := [], defaults := .none, kwdefaults := .none, pyModule := vS "law_qd0139_01" 479, code := .ref 208 } }
noncomputable def ob210 (p : Params) : Obj := { cls := .type "tuple", data := .seq #[] }
noncomputable def ob211 (p : Params) : Obj := { cls := .none, data := .fields #[] }
noncomputable def ob212 (p : Params) : Obj := { cls := .type "tuple", data := .seq #[vS "text" 530, vS "place" 531] }
noncomputable def ob213 (p : Params) : Obj := { cls := .type "tuple", data := .seq #[] }
noncomputable def ob214 (p : Params) : Obj := { cls := .none, data := .func { name := (.ofString "_law_row"), qualname := (.ofString "_law_row"), params := (fdA 39), body := .stmts (fdB 39), scope := (fdS 39), globals := 0, closure := [], defaults := .none, kwdefaults := .none } }
noncomputable def ob215 (p : Params) : Obj := { cls := .type "code", data := .fields #[vS "_law_row" 527, vS "_law_row" 528, vP 529, .int 181 0, .int 2 0, .int 0 0, .int 0 0, .int 3 0, .ref 210, .bool true, .int 181 0, .ref 211, .none, .ref 212, .ref 213, .ref 214, .int 532 0, .int 181 0, vP 533] }
noncomputable def ob216 (p : Params) : Obj := { cls := .type "function", data := .func { name := (.ofString "_law_row"), qualname := (.ofString "_law_row"), params := (fdA 39), body := .stmts (fdB 39), scope := (fdS 39), globals := 3, closure := [], defaults := .none, kwdefaults := .none, pyModule := vS "law_qd0139_01" 479, code := .ref 215 } }
noncomputable def ob217 (p : Params) : Obj := { cls := .type "tuple", data := .seq #[] }
noncomputable def ob218 (p : Params) : Obj := { cls := .none, data := .fields #[] }
noncomputable def ob219 (p : Params) : Obj := { cls := .none, data := .func { name := (.ofString "_law_quote"), qualname := (.ofString "_law_quote"), params := (fdA 40), body := .stmts (fdB 40), scope := (fdS 40), globals := 0, closure := [], defaults := .none, kwdefaults := .none } }
noncomputable def ob220 (p : Params) : Obj := { cls := .type "code", data := .fields #[vS "_law_quote" 535, vS "_law_quote" 536, vP 537, .int 183 0, .int 1 0, .int 0 0, .int 0 0, .int 3 0, .ref 217, .bool true, .int 181 0, .ref 218, .none, .none, .none, .ref 219, .int 538 0, .int 183 0, vP 539] }
noncomputable def ob221 (p : Params) : Obj := { cls := .type "function", data := .func { name := (.ofString "_law_quote"), qualname := (.ofString "_law_quote"), params := (fdA 40), body := .stmts (fdB 40), scope := (fdS 40), globals := 3, closure := [], defaults := .none, kwdefaults := .none, pyModule := vS "law_qd0139_01" 479, code := .ref 220 } }
noncomputable def ob222 (p : Params) : Obj := { cls := .type "tuple", data := .seq #[] }
noncomputable def ob223 (p : Params) : Obj := { cls := .none, data := .fields #[] }
noncomputable def ob224 (p : Params) : Obj := { cls := .type "tuple", data := .seq #[vS "text" 544, vS "word" 545, vS "start" 546, vS "fault" 547] }
noncomputable def ob225 (p : Params) : Obj := { cls := .type "tuple", data := .seq #[] }
noncomputable def ob226 (p : Params) : Obj := { cls := .none, data := .func { name := (.ofString "_law_read"), qualname := (.ofString "_law_read"), params := (fdA 41), body := .stmts (fdB 41), scope := (fdS 41), globals := 0, closure := [], defaults := .none, kwdefaults := .none } }
noncomputable def ob227 (p : Params) : Obj := { cls := .type "code", data := .fields #[vS "_law_read" 541, vS "_law_read" 542, vP 543, .int 223 0, .int 3 0, .int 0 0, .int 0 0, .int 3 0, .ref 222, .bool true, .int 181 0, .ref 223, .none, .ref 224, .ref 225, .ref 226, .int 548 0, .int 223 0, vP 549] }
noncomputable def ob228 (p : Params) : Obj := { cls := .type "function", data := .func { name := (.ofString "_law_read"), qualname := (.ofString "_law_read"), params := (fdA 41), body := .stmts (fdB 41), scope := (fdS 41), globals := 3, closure := [], defaults := .none, kwdefaults := .none, pyModule := vS "law_qd0139_01" 479, code := .ref 227 } }
noncomputable def ob229 (p : Params) : Obj := { cls := .type "tuple", data := .seq #[] }
noncomputable def ob230 (p : Params) : Obj := { cls := .none, data := .fields #[] }
noncomputable def ob231 (p : Params) : Obj := { cls := .type "tuple", data := .seq #[vS "text" 554, vS "at" 555, vS "fault" 556] }
noncomputable def ob232 (p : Params) : Obj := { cls := .type "tuple", data := .seq #[] }
noncomputable def ob233 (p : Params) : Obj := { cls := .none, data := .func { name := (.ofString "_law_here_read"), qualname := (.ofString "_law_here_read"), params := (fdA 42), body := .stmts (fdB 42), scope := (fdS 42), globals := 0, closure := [], defaults := .none, kwdefaults := .none } }
noncomputable def ob234 (p : Params) : Obj := { cls := .type "code", data := .fields #[vS "_law_here_read" 551, vS "_law_here_read" 552, vP 553, .int 228 0, .int 2 0, .int 0 0, .int 0 0, .int 3 0, .ref 229, .bool true, .int 181 0, .ref 230, .none, .ref 231, .ref 232, .ref 233, .int 557 0, .int 228 0, vP 558] }
noncomputable def ob235 (p : Params) : Obj := { cls := .type "function", data := .func { name := (.ofString "_law_here_read"), qualname := (.ofString "_law_here_read"), params := (fdA 42), body := .stmts (fdB 42), scope := (fdS 42), globals := 3, closure := [], defaults := .none, kwdefaults := .none, pyModule := vS "law_qd0139_01" 479, code := .ref 234 } }
noncomputable def ob236 (p : Params) : Obj := { cls := .type "tuple", data := .seq #[] }
noncomputable def ob237 (p : Params) : Obj := { cls := .none, data := .fields #[] }
noncomputable def ob238 (p : Params) : Obj := { cls := .type "tuple", data := .seq #[vS "cup" 563, vS "ahead" 564, vS "tilde" 565, vS "word" 566, vS "sign" 567, vS "tail" 568, vS "body" 569, vS "due" 570, vS "name" 571] }
noncomputable def ob239 (p : Params) : Obj := { cls := .type "tuple", data := .seq #[] }
noncomputable def ob240 (p : Params) : Obj := { cls := .none, data := .func { name := (.ofString "_law_here_right"), qualname := (.ofString "_law_here_right"), params := (fdA 43), body := .stmts (fdB 43), scope := (fdS 43), globals := 0, closure := [], defaults := .none, kwdefaults := .none } }
noncomputable def ob241 (p : Params) : Obj := { cls := .type "code", data := .fields #[vS "_law_here_right" 560, vS "_law_here_right" 561, vP 562, .int 233 0, .int 1 0, .int 0 0, .int 0 0, .int 3 0, .ref 236, .bool true, .int 181 0, .ref 237, .none, .ref 238, .ref 239, .ref 240, .int 572 0, .int 233 0, vP 573] }
noncomputable def ob242 (p : Params) : Obj := { cls := .type "function", data := .func { name := (.ofString "_law_here_right"), qualname := (.ofString "_law_here_right"), params := (fdA 43), body := .stmts (fdB 43), scope := (fdS 43), globals := 3, closure := [], defaults := .none, kwdefaults := .none, pyModule := vS "law_qd0139_01" 479, code := .ref 241 } }
noncomputable def ob243 (p : Params) : Obj := { cls := .type "tuple", data := .seq #[] }
noncomputable def ob244 (p : Params) : Obj := { cls := .none, data := .fields #[] }
noncomputable def ob245 (p : Params) : Obj := { cls := .none, data := .func { name := (.ofString "law"), qualname := (.ofString "law"), params := (fdA 44), body := .stmts (fdB 44), scope := (fdS 44), globals := 0, closure := [], defaults := .none, kwdefaults := .none } }
noncomputable def ob246 (p : Params) : Obj := { cls := .type "code", data := .fields #[vS "law" 575, vS "law" 576, vP 577, .int 247 0, .int 1 0, .int 0 0, .int 0 0, .int 3 0, .ref 243, .bool true, .int 181 0, .ref 244, .none, .none, .none, .ref 245, .int 578 0, .int 247 0, vP 579] }
noncomputable def ob247 (p : Params) : Obj := { cls := .type "function", data := .func { name := (.ofString "law"), qualname := (.ofString "law"), params := (fdA 44), body := .stmts (fdB 44), scope := (fdS 44), globals := 3, closure := [], defaults := .none, kwdefaults := .none, pyModule := vS "law_qd0139_01" 479, code := .ref 246 } }
noncomputable def trB (p : Params) : BT := (.node (boot_o_0 p) (.node (boot_o_1 p) (.node (boot_o_3 p) (.node (boot_o_7 p) .nil .nil) .nil) (.node (boot_o_5 p) (.node (boot_o_9 p) .nil .nil) .nil)) (.node (boot_o_2 p) (.node (boot_o_4 p) (.node (boot_o_8 p) .nil .nil) .nil) (.node (boot_o_6 p) (.node (boot_o_10 p) .nil .nil) .nil)))
noncomputable def tr0 (p : Params) : BT := (.node (boot_o_0 p) (.node (boot_o_1 p) (.node (boot_o_3 p) (.node (boot_o_7 p) .nil .nil) (.node (ob11 p) .nil .nil)) (.node (boot_o_5 p) (.node (boot_o_9 p) .nil .nil) (.node (ob13 p) .nil .nil))) (.node (boot_o_2 p) (.node (boot_o_4 p) (.node (boot_o_8 p) .nil .nil) (.node (ob12 p) .nil .nil)) (.node (boot_o_6 p) (.node (boot_o_10 p) .nil .nil) (.node (ob14 p) .nil .nil))))
noncomputable def tr1 (p : Params) : BT := (.node (boot_o_0 p) (.node (boot_o_1 p) (.node (ob3 p) (.node (boot_o_7 p) (.node (ob15 p) (.node (ob31 p) .nil .nil) (.node (ob47 p) .nil .nil)) (.node (ob23 p) (.node (ob39 p) .nil .nil) (.node (ob55 p) .nil .nil))) (.node (ob11 p) (.node (ob19 p) (.node (ob35 p) .nil .nil) (.node (ob51 p) .nil .nil)) (.node (ob27 p) (.node (ob43 p) .nil .nil) (.node (ob59 p) .nil .nil)))) (.node (boot_o_5 p) (.node (boot_o_9 p) (.node (ob17 p) (.node (ob33 p) .nil .nil) (.node (ob49 p) .nil .nil)) (.node (ob25 p) (.node (ob41 p) .nil .nil) (.node (ob57 p) .nil .nil))) (.node (ob13 p) (.node (ob21 p) (.node (ob37 p) .nil .nil) (.node (ob53 p) .nil .nil)) (.node (ob29 p) (.node (ob45 p) .nil .nil) .nil)))) (.node (ob2 p) (.node (boot_o_4 p) (.node (boot_o_8 p) (.node (ob16 p) (.node (ob32 p) .nil .nil) (.node (ob48 p) .nil .nil)) (.node (ob24 p) (.node (ob40 p) .nil .nil) (.node (ob56 p) .nil .nil))) (.node (ob12a p) (.node (ob20 p) (.node (ob36 p) .nil .nil) (.node (ob52 p) .nil .nil)) (.node (ob28 p) (.node (ob44 p) .nil .nil) (.node (ob60 p) .nil .nil)))) (.node (boot_o_6 p) (.node (boot_o_10 p) (.node (ob18 p) (.node (ob34 p) .nil .nil) (.node (ob50 p) .nil .nil)) (.node (ob26 p) (.node (ob42 p) .nil .nil) (.node (ob58 p) .nil .nil))) (.node (ob14 p) (.node (ob22 p) (.node (ob38 p) .nil .nil) (.node (ob54 p) .nil .nil)) (.node (ob30 p) (.node (ob46 p) .nil .nil) .nil)))))
noncomputable def tr2 (p : Params) : BT := (.node (boot_o_0 p) (.node (boot_o_1 p) (.node (ob3a p) (.node (boot_o_7 p) (.node (ob15 p) (.node (ob31 p) (.node (ob63 p) .nil .nil) .nil) (.node (ob47 p) .nil .nil)) (.node (ob23 p) (.node (ob39 p) (.node (ob71 p) .nil .nil) .nil) (.node (ob55 p) .nil .nil))) (.node (ob11 p) (.node (ob19 p) (.node (ob35 p) (.node (ob67 p) .nil .nil) .nil) (.node (ob51 p) .nil .nil)) (.node (ob27 p) (.node (ob43 p) .nil .nil) (.node (ob59 p) .nil .nil)))) (.node (boot_o_5 p) (.node (boot_o_9 p) (.node (ob17 p) (.node (ob33 p) (.node (ob65 p) .nil .nil) .nil) (.node (ob49 p) .nil .nil)) (.node (ob25 p) (.node (ob41 p) (.node (ob73 p) .nil .nil) .nil) (.node (ob57 p) .nil .nil))) (.node (ob13 p) (.node (ob21 p) (.node (ob37 p) (.node (ob69 p) .nil .nil) .nil) (.node (ob53 p) .nil .nil)) (.node (ob29 p) (.node (ob45 p) .nil .nil) (.node (ob61 p) .nil .nil))))) (.node (ob2 p) (.node (boot_o_4 p) (.node (boot_o_8 p) (.node (ob16 p) (.node (ob32 p) (.node (ob64 p) .nil .nil) .nil) (.node (ob48 p) .nil .nil)) (.node (ob24 p) (.node (ob40 p) (.node (ob72 p) .nil .nil) .nil) (.node (ob56 p) .nil .nil))) (.node (ob12b p) (.node (ob20 p) (.node (ob36 p) (.node (ob68 p) .nil .nil) .nil) (.node (ob52 p) .nil .nil)) (.node (ob28 p) (.node (ob44 p) .nil .nil) (.node (ob60 p) .nil .nil)))) (.node (boot_o_6 p) (.node (boot_o_10 p) (.node (ob18 p) (.node (ob34 p) (.node (ob66 p) .nil .nil) .nil) (.node (ob50 p) .nil .nil)) (.node (ob26 p) (.node (ob42 p) (.node (ob74 p) .nil .nil) .nil) (.node (ob58 p) .nil .nil))) (.node (ob14 p) (.node (ob22 p) (.node (ob38 p) (.node (ob70 p) .nil .nil) .nil) (.node (ob54 p) .nil .nil)) (.node (ob30 p) (.node (ob46 p) .nil .nil) (.node (ob62 p) .nil .nil))))))
noncomputable def tr3 (p : Params) : BT := (.node (boot_o_0 p) (.node (boot_o_1 p) (.node (ob3b p) (.node (boot_o_7 p) (.node (ob15 p) (.node (ob31 p) (.node (ob63 p) .nil .nil) (.node (ob95 p) .nil .nil)) (.node (ob47 p) (.node (ob79 p) .nil .nil) (.node (ob111 p) .nil .nil))) (.node (ob23 p) (.node (ob39 p) (.node (ob71 p) .nil .nil) (.node (ob103 p) .nil .nil)) (.node (ob55 p) (.node (ob87 p) .nil .nil) .nil))) (.node (ob11 p) (.node (ob19 p) (.node (ob35 p) (.node (ob67 p) .nil .nil) (.node (ob99 p) .nil .nil)) (.node (ob51 p) (.node (ob83 p) .nil .nil) (.node (ob115 p) .nil .nil))) (.node (ob27 p) (.node (ob43 p) (.node (ob75 p) .nil .nil) (.node (ob107 p) .nil .nil)) (.node (ob59 p) (.node (ob91 p) .nil .nil) .nil)))) (.node (boot_o_5 p) (.node (boot_o_9 p) (.node (ob17 p) (.node (ob33 p) (.node (ob65 p) .nil .nil) (.node (ob97 p) .nil .nil)) (.node (ob49 p) (.node (ob81 p) .nil .nil) (.node (ob113 p) .nil .nil))) (.node (ob25 p) (.node (ob41 p) (.node (ob73 p) .nil .nil) (.node (ob105 p) .nil .nil)) (.node (ob57 p) (.node (ob89 p) .nil .nil) .nil))) (.node (ob13 p) (.node (ob21 p) (.node (ob37 p) (.node (ob69 p) .nil .nil) (.node (ob101 p) .nil .nil)) (.node (ob53 p) (.node (ob85 p) .nil .nil) (.node (ob117 p) .nil .nil))) (.node (ob29 p) (.node (ob45 p) (.node (ob77 p) .nil .nil) (.node (ob109 p) .nil .nil)) (.node (ob61 p) (.node (ob93 p) .nil .nil) .nil))))) (.node (ob2 p) (.node (boot_o_4 p) (.node (boot_o_8 p) (.node (ob16 p) (.node (ob32 p) (.node (ob64 p) .nil .nil) (.node (ob96 p) .nil .nil)) (.node (ob48 p) (.node (ob80 p) .nil .nil) (.node (ob112 p) .nil .nil))) (.node (ob24 p) (.node (ob40 p) (.node (ob72 p) .nil .nil) (.node (ob104 p) .nil .nil)) (.node (ob56 p) (.node (ob88 p) .nil .nil) .nil))) (.node (ob12c p) (.node (ob20 p) (.node (ob36 p) (.node (ob68 p) .nil .nil) (.node (ob100 p) .nil .nil)) (.node (ob52 p) (.node (ob84 p) .nil .nil) (.node (ob116 p) .nil .nil))) (.node (ob28 p) (.node (ob44 p) (.node (ob76 p) .nil .nil) (.node (ob108 p) .nil .nil)) (.node (ob60 p) (.node (ob92 p) .nil .nil) .nil)))) (.node (boot_o_6 p) (.node (boot_o_10 p) (.node (ob18 p) (.node (ob34 p) (.node (ob66 p) .nil .nil) (.node (ob98 p) .nil .nil)) (.node (ob50 p) (.node (ob82 p) .nil .nil) (.node (ob114 p) .nil .nil))) (.node (ob26 p) (.node (ob42 p) (.node (ob74 p) .nil .nil) (.node (ob106 p) .nil .nil)) (.node (ob58 p) (.node (ob90 p) .nil .nil) .nil))) (.node (ob14 p) (.node (ob22 p) (.node (ob38 p) (.node (ob70 p) .nil .nil) (.node (ob102 p) .nil .nil)) (.node (ob54 p) (.node (ob86 p) .nil .nil) (.node (ob118 p) .nil .nil))) (.node (ob30 p) (.node (ob46 p) (.node (ob78 p) .nil .nil) (.node (ob110 p) .nil .nil)) (.node (ob62 p) (.node (ob94 p) .nil .nil) .nil))))))
noncomputable def tr4 (p : Params) : BT := (.node (boot_o_0 p) (.node (boot_o_1 p) (.node (ob3c p) (.node (boot_o_7 p) (.node (ob15 p) (.node (ob31 p) (.node (ob63 p) (.node (ob127 p) .nil .nil) (.node (ob191 p) .nil .nil)) (.node (ob95 p) (.node (ob159 p) .nil .nil) (.node (ob223 p) .nil .nil))) (.node (ob47 p) (.node (ob79 p) (.node (ob143 p) .nil .nil) (.node (ob207 p) .nil .nil)) (.node (ob111 p) (.node (ob175 p) .nil .nil) (.node (ob239 p) .nil .nil)))) (.node (ob23 p) (.node (ob39 p) (.node (ob71 p) (.node (ob135 p) .nil .nil) (.node (ob199 p) .nil .nil)) (.node (ob103 p) (.node (ob167 p) .nil .nil) (.node (ob231 p) .nil .nil))) (.node (ob55 p) (.node (ob87 p) (.node (ob151 p) .nil .nil) (.node (ob215 p) .nil .nil)) (.node (ob119 p) (.node (ob183 p) .nil .nil) (.node (ob247 p) .nil .nil))))) (.node (ob11 p) (.node (ob19 p) (.node (ob35 p) (.node (ob67 p) (.node (ob131 p) .nil .nil) (.node (ob195 p) .nil .nil)) (.node (ob99 p) (.node (ob163 p) .nil .nil) (.node (ob227 p) .nil .nil))) (.node (ob51 p) (.node (ob83 p) (.node (ob147 p) .nil .nil) (.node (ob211 p) .nil .nil)) (.node (ob115 p) (.node (ob179 p) .nil .nil) (.node (ob243 p) .nil .nil)))) (.node (ob27 p) (.node (ob43 p) (.node (ob75 p) (.node (ob139 p) .nil .nil) (.node (ob203 p) .nil .nil)) (.node (ob107 p) (.node (ob171 p) .nil .nil) (.node (ob235 p) .nil .nil))) (.node (ob59 p) (.node (ob91 p) (.node (ob155 p) .nil .nil) (.node (ob219 p) .nil .nil)) (.node (ob123 p) (.node (ob187 p) .nil .nil) .nil))))) (.node (boot_o_5 p) (.node (boot_o_9 p) (.node (ob17 p) (.node (ob33 p) (.node (ob65 p) (.node (ob129 p) .nil .nil) (.node (ob193 p) .nil .nil)) (.node (ob97 p) (.node (ob161 p) .nil .nil) (.node (ob225 p) .nil .nil))) (.node (ob49 p) (.node (ob81 p) (.node (ob145 p) .nil .nil) (.node (ob209 p) .nil .nil)) (.node (ob113 p) (.node (ob177 p) .nil .nil) (.node (ob241 p) .nil .nil)))) (.node (ob25 p) (.node (ob41 p) (.node (ob73 p) (.node (ob137 p) .nil .nil) (.node (ob201 p) .nil .nil)) (.node (ob105 p) (.node (ob169 p) .nil .nil) (.node (ob233 p) .nil .nil))) (.node (ob57 p) (.node (ob89 p) (.node (ob153 p) .nil .nil) (.node (ob217 p) .nil .nil)) (.node (ob121 p) (.node (ob185 p) .nil .nil) .nil)))) (.node (ob13 p) (.node (ob21 p) (.node (ob37 p) (.node (ob69 p) (.node (ob133 p) .nil .nil) (.node (ob197 p) .nil .nil)) (.node (ob101 p) (.node (ob165 p) .nil .nil) (.node (ob229 p) .nil .nil))) (.node (ob53 p) (.node (ob85 p) (.node (ob149 p) .nil .nil) (.node (ob213 p) .nil .nil)) (.node (ob117 p) (.node (ob181 p) .nil .nil) (.node (ob245 p) .nil .nil)))) (.node (ob29 p) (.node (ob45 p) (.node (ob77 p) (.node (ob141 p) .nil .nil) (.node (ob205 p) .nil .nil)) (.node (ob109 p) (.node (ob173 p) .nil .nil) (.node (ob237 p) .nil .nil))) (.node (ob61 p) (.node (ob93 p) (.node (ob157 p) .nil .nil) (.node (ob221 p) .nil .nil)) (.node (ob125 p) (.node (ob189 p) .nil .nil) .nil)))))) (.node (ob2 p) (.node (boot_o_4 p) (.node (boot_o_8 p) (.node (ob16 p) (.node (ob32 p) (.node (ob64 p) (.node (ob128 p) .nil .nil) (.node (ob192 p) .nil .nil)) (.node (ob96 p) (.node (ob160 p) .nil .nil) (.node (ob224 p) .nil .nil))) (.node (ob48 p) (.node (ob80 p) (.node (ob144 p) .nil .nil) (.node (ob208 p) .nil .nil)) (.node (ob112 p) (.node (ob176 p) .nil .nil) (.node (ob240 p) .nil .nil)))) (.node (ob24 p) (.node (ob40 p) (.node (ob72 p) (.node (ob136 p) .nil .nil) (.node (ob200 p) .nil .nil)) (.node (ob104 p) (.node (ob168 p) .nil .nil) (.node (ob232 p) .nil .nil))) (.node (ob56 p) (.node (ob88 p) (.node (ob152 p) .nil .nil) (.node (ob216 p) .nil .nil)) (.node (ob120 p) (.node (ob184 p) .nil .nil) .nil)))) (.node (ob12d p) (.node (ob20 p) (.node (ob36 p) (.node (ob68 p) (.node (ob132 p) .nil .nil) (.node (ob196 p) .nil .nil)) (.node (ob100 p) (.node (ob164 p) .nil .nil) (.node (ob228 p) .nil .nil))) (.node (ob52 p) (.node (ob84 p) (.node (ob148 p) .nil .nil) (.node (ob212 p) .nil .nil)) (.node (ob116 p) (.node (ob180 p) .nil .nil) (.node (ob244 p) .nil .nil)))) (.node (ob28 p) (.node (ob44 p) (.node (ob76 p) (.node (ob140 p) .nil .nil) (.node (ob204 p) .nil .nil)) (.node (ob108 p) (.node (ob172 p) .nil .nil) (.node (ob236 p) .nil .nil))) (.node (ob60 p) (.node (ob92 p) (.node (ob156 p) .nil .nil) (.node (ob220 p) .nil .nil)) (.node (ob124 p) (.node (ob188 p) .nil .nil) .nil))))) (.node (boot_o_6 p) (.node (boot_o_10 p) (.node (ob18 p) (.node (ob34 p) (.node (ob66 p) (.node (ob130 p) .nil .nil) (.node (ob194 p) .nil .nil)) (.node (ob98 p) (.node (ob162 p) .nil .nil) (.node (ob226 p) .nil .nil))) (.node (ob50 p) (.node (ob82 p) (.node (ob146 p) .nil .nil) (.node (ob210 p) .nil .nil)) (.node (ob114 p) (.node (ob178 p) .nil .nil) (.node (ob242 p) .nil .nil)))) (.node (ob26 p) (.node (ob42 p) (.node (ob74 p) (.node (ob138 p) .nil .nil) (.node (ob202 p) .nil .nil)) (.node (ob106 p) (.node (ob170 p) .nil .nil) (.node (ob234 p) .nil .nil))) (.node (ob58 p) (.node (ob90 p) (.node (ob154 p) .nil .nil) (.node (ob218 p) .nil .nil)) (.node (ob122 p) (.node (ob186 p) .nil .nil) .nil)))) (.node (ob14 p) (.node (ob22 p) (.node (ob38 p) (.node (ob70 p) (.node (ob134 p) .nil .nil) (.node (ob198 p) .nil .nil)) (.node (ob102 p) (.node (ob166 p) .nil .nil) (.node (ob230 p) .nil .nil))) (.node (ob54 p) (.node (ob86 p) (.node (ob150 p) .nil .nil) (.node (ob214 p) .nil .nil)) (.node (ob118 p) (.node (ob182 p) .nil .nil) (.node (ob246 p) .nil .nil)))) (.node (ob30 p) (.node (ob46 p) (.node (ob78 p) (.node (ob142 p) .nil .nil) (.node (ob206 p) .nil .nil)) (.node (ob110 p) (.node (ob174 p) .nil .nil) (.node (ob238 p) .nil .nil))) (.node (ob62 p) (.node (ob94 p) (.node (ob158 p) .nil .nil) (.node (ob222 p) .nil .nil)) (.node (ob126 p) (.node (ob190 p) .nil .nil) .nil)))))))
noncomputable def hpE (p : Params) : Heap := ⟨Array.mk [boot_o_0 p, boot_o_1 p, ob2 p, ob3c p, boot_o_4 p, boot_o_5 p, boot_o_6 p, boot_o_7 p, boot_o_8 p, boot_o_9 p, boot_o_10 p, ob11 p, ob12d p, ob13 p, ob14 p, ob15 p, ob16 p, ob17 p, ob18 p, ob19 p, ob20 p, ob21 p, ob22 p, ob23 p, ob24 p, ob25 p, ob26 p, ob27 p, ob28 p, ob29 p, ob30 p, ob31 p, ob32 p, ob33 p, ob34 p, ob35 p, ob36 p, ob37 p, ob38 p, ob39 p, ob40 p, ob41 p, ob42 p, ob43 p, ob44 p, ob45 p, ob46 p, ob47 p, ob48 p, ob49 p, ob50 p, ob51 p, ob52 p, ob53 p, ob54 p, ob55 p, ob56 p, ob57 p, ob58 p, ob59 p, ob60 p, ob61 p, ob62 p, ob63 p, ob64 p, ob65 p, ob66 p, ob67 p, ob68 p, ob69 p, ob70 p, ob71 p, ob72 p, ob73 p, ob74 p, ob75 p, ob76 p, ob77 p, ob78 p, ob79 p, ob80 p, ob81 p, ob82 p, ob83 p, ob84 p, ob85 p, ob86 p, ob87 p, ob88 p, ob89 p, ob90 p, ob91 p, ob92 p, ob93 p, ob94 p, ob95 p, ob96 p, ob97 p, ob98 p, ob99 p, ob100 p, ob101 p, ob102 p, ob103 p, ob104 p, ob105 p, ob106 p, ob107 p, ob108 p, ob109 p, ob110 p, ob111 p, ob112 p, ob113 p, ob114 p, ob115 p, ob116 p, ob117 p, ob118 p, ob119 p, ob120 p, ob121 p, ob122 p, ob123 p, ob124 p, ob125 p, ob126 p, ob127 p, ob128 p, ob129 p, ob130 p, ob131 p, ob132 p, ob133 p, ob134 p, ob135 p, ob136 p, ob137 p, ob138 p, ob139 p, ob140 p, ob141 p, ob142 p, ob143 p, ob144 p, ob145 p, ob146 p, ob147 p, ob148 p, ob149 p, ob150 p, ob151 p, ob152 p, ob153 p, ob154 p, ob155 p, ob156 p, ob157 p, ob158 p, ob159 p, ob160 p, ob161 p, ob162 p, ob163 p, ob164 p, ob165 p, ob166 p, ob167 p, ob168 p, ob169 p, ob170 p, ob171 p, ob172 p, ob173 p, ob174 p, ob175 p, ob176 p, ob177 p, ob178 p, ob179 p, ob180 p, ob181 p, ob182 p, ob183 p, ob184 p, ob185 p, ob186 p, ob187 p, ob188 p, ob189 p, ob190 p, ob191 p, ob192 p, ob193 p, ob194 p, ob195 p, ob196 p, ob197 p, ob198 p, ob199 p, ob200 p, ob201 p, ob202 p, ob203 p, ob204 p, ob205 p, ob206 p, ob207 p, ob208 p, ob209 p, ob210 p, ob211 p, ob212 p, ob213 p, ob214 p, ob215 p, ob216 p, ob217 p, ob218 p, ob219 p, ob220 p, ob221 p, ob222 p, ob223 p, ob224 p, ob225 p, ob226 p, ob227 p, ob228 p, ob229 p, ob230 p, ob231 p, ob232 p, ob233 p, ob234 p, ob235 p, ob236 p, ob237 p, ob238 p, ob239 p, ob240 p, ob241 p, ob242 p, ob243 p, ob244 p, ob245 p, ob246 p, ob247 p], {}⟩
theorem boot_abs (p : Params) : absHeap (trB p) 11 {} = boot_heap p := by kernel_rfl
theorem last_abs (p : Params) : absHeap (tr4 p) 248 {} = hpE p := by kernel_rfl
end Mine
namespace Mine
open PySem PySem.W PyProof.Rows
noncomputable def topGoT (p : Program) (w : World) (n₀ : Nat) (ann : Option Value) : Nat → SharedT → Thread → Option (SharedT × Thread)
  | 0, s, t => some (s, t)
  | n + 1, s, t => match through t with
    | true => none
    | false => match stepOk n₀ ann t with
      | false => none
      | true => match stepT (denote treeTable) p w s t with
        | some (s', t') => topGoT p w n₀ ann n s' t'
        | none => none
theorem topGo_of {p : Program} {w : World} {n₀ : Nat} {ann : Option Value} : ∀ {n : Nat} {s s' : SharedT} {t t' : Thread}, topGoT p w n₀ ann n s t = some (s', t') → topGo treeTable p w n₀ ann n s.abs t = some (s'.abs, t')
  | 0, _, _, _, _, h => by cases h; rfl
  | n + 1, s, s', t, t', h => by
    unfold topGoT at h
    unfold topGo
    cases ht : through t with
    | true => rw [ht] at h; cases h
    | false =>
      rw [ht] at h
      cases hk : stepOk n₀ ann t with
      | false => rw [hk] at h; cases h
      | true =>
        rw [hk] at h
        cases hs : stepT (denote treeTable) p w s t with
        | none => rw [hs] at h; cases h
        | some r =>
          rw [hs] at h
          rw [stepT_spec (s := s) (t := t) hs]
          exact topGo_of h
noncomputable abbrev ann6 : Option Value := some (.ref 6)
noncomputable abbrev shT (t : Params → BT) (n k : Nat) (w : World) (os : OsState) : SharedT := ⟨t w.params, n, {}, Array.mk [], boot_drawn, k, os⟩
noncomputable abbrev bE : List Stmt := behindTheImports PP
noncomputable def envE : Env := { scope := PP.main.scope, locals := mainNs, globals := mainNs, cells := [], code := .ref 13, frame := some 14 }
noncomputable abbrev cTop : Code := .body bE envE
noncomputable abbrev zP : Pos := { line := 0, col := 0, endLine := 0, endCol := 0 }
noncomputable abbrev BB : List Frame := [topFrame zP]

theorem t_pre (w : World) (os : OsState) : topGoT PP w 11 ann6 12 (shT trB 11 181 w os) (topStub PP) = some (shT tr0 15 187 w os, ⟨denote treeTable cTop, cTop, { line := 0, col := 0, endLine := 0, endCol := 0 }, BB⟩) := by kernel_rfl
set_option tactic.hygienic true
theorem t_blk (w : World) (os : OsState) : segRunT treeTable PP w 11 ann6 1 1 (shT tr0 15 187 w os) (blockOf bE envE cTop { line := 0, col := 0, endLine := 0, endCol := 0 } BB) = some (.next, shT tr0 15 187 w os, cTop, { line := 0, col := 0, endLine := 0, endCol := 0 }) := by kernel_rfl
noncomputable abbrev gr1 : List Stmt := ((bE.drop 0).take 5)
theorem t_g1 (w : World) (os : OsState) : segRunT treeTable PP w 11 ann6 1 524 (shT tr0 15 187 w os) (piecesOf gr1 envE cTop { line := 0, col := 0, endLine := 0, endCol := 0 } BB) = some (.next, shT tr1 61 255 w os, cTop, { line := 11, col := 0, endLine := 15, endCol := 24 }) := by kernel_rfl
noncomputable abbrev gr2 : List Stmt := ((bE.drop 5).take 7)
theorem t_g2 (w : World) (os : OsState) : segRunT treeTable PP w 11 ann6 1 117 (shT tr1 61 255 w os) (piecesOf gr2 envE cTop { line := 11, col := 0, endLine := 15, endCol := 24 } BB) = some (.next, shT tr2 75 283 w os, cTop, { line := 27, col := 0, endLine := 27, endCol := 8 }) := by kernel_rfl
noncomputable abbrev gr3 : List Stmt := ((bE.drop 12).take 11)
noncomputable abbrev RunsG (w : World) : Prop := ∀ os : OsState, segRunT treeTable PP w 11 ann6 1 364 (shT tr2 75 283 w os) (piecesOf gr3 envE cTop { line := 27, col := 0, endLine := 27, endCol := 8 } BB) = some (.next, shT tr3 119 371 w os, cTop, { line := 85, col := 0, endLine := 85, endCol := 8 })
set_option tactic.hygienic false
theorem t_gf (w : World) : RunsG (w.withFollow "special-get-raises" false) := fun _ => by kernel_rfl
theorem t_gt (w : World) : RunsG (w.withFollow "special-get-raises" true) := fun _ => by kernel_rfl
set_option tactic.hygienic true
theorem t_g3 (w : World) (os : OsState) : segRunT treeTable PP w 11 ann6 1 364 (shT tr2 75 283 w os) (piecesOf gr3 envE cTop { line := 27, col := 0, endLine := 27, endCol := 8 } BB) = some (.next, shT tr3 119 371 w os, cTop, { line := 85, col := 0, endLine := 85, endCol := 8 }) := byRow2 "special-get-raises" t_gf t_gt w os
noncomputable abbrev gr4 : List Stmt := bE.drop 23
theorem t_g4 (w : World) (os : OsState) : segRunT treeTable PP w 11 ann6 1 648 (shT tr3 119 371 w os) (piecesOf gr4 envE cTop { line := 85, col := 0, endLine := 85, endCol := 8 } BB) = some (.next, shT tr4 248 581 w os, cTop, { line := 247, col := 0, endLine := 260, endCol := 31 }) := by kernel_rfl
theorem t_fin (w : World) (os : OsState) : topRun treeTable PP w 11 ann6 2 (shT tr4 248 581 w os).abs ⟨doneF .next, cTop, { line := 247, col := 0, endLine := 260, endCol := 31 }, BB⟩ = some (shT tr4 248 581 w os).abs := rfl
set_option tactic.hygienic false
theorem cutAt (a m : Nat) : bE.drop a = (bE.drop a).take m ++ bE.drop (a + m) := by rw [← List.drop_drop, List.take_append_drop]
theorem cutAll : bE = gr1 ++ (gr2 ++ (gr3 ++ (gr4 ++ ([])))) := ((cutAt 0 5).trans (congrArg (gr1 ++ ·) ((cutAt 5 7).trans (congrArg (gr2 ++ ·) ((cutAt 12 11).trans (congrArg (gr3 ++ ·) (List.append_nil _).symm))))))
noncomputable abbrev sE (w : World) (os : OsState) : Shared := ⟨hpE w.params, Array.mk [], boot_drawn, 581, os⟩
theorem topRuns (w : World) (os : OsState) : topRun treeTable PP w 11 ann6 (12 + (1 + (524 + (117 + (364 + (648 + 2)))))) ⟨boot_heap w.params, Array.mk [], boot_drawn, boot_toks, os⟩ (topStub PP) = some (sE w os) := by
  have k0 := piece_app (segRun_of (t_g1 w os)) (piece_app (segRun_of (t_g2 w os)) (piece_app (segRun_of (t_g3 w os)) (piece_app (segRun_of (t_g4 w os)) (piece_nil (t_fin w os)))))
  rw [← cutAll] at k0
  have k1 := go_top (topGo_of (t_pre w os)) (piece_block (segRun_of (t_blk w os)) k0)
  unfold SharedT.abs at k1
  rw [boot_abs, last_abs] at k1
  exact k1
end Mine
namespace Mine
open PySem PySem.W PyProof.Rows
noncomputable def myQ : Program := view PP [1, 3, 4, 6, 7, 8, 9, 10, 12, 13, 14, 15, 16, 17, 18, 20, 21, 22, 23, 24, 25, 26, 27, 28, 29, 30, 31, 33, 34, 35, 36, 37, 38, 39, 40, 41, 42, 43, 44]
noncomputable def myLoose : List Str := [Str.ofString "WORD_SIGNS", Str.ofString "CLOSERS", Str.ofString "FLAGS_OF"]
section
variable (w : World) (os : OsState)
theorem k_stat : staticsOk (importedModules PP.main.body) (boot_heap w.params) (hpE w.params) = true := by kernel_rfl
theorem k_names : namesBound PP (hpE w.params) = true := by kernel_rfl
theorem k_laid : laidKept (boot_heap w.params) (hpE w.params) = true := by kernel_rfl
theorem k_seen : seen ((recsOf myQ).map (·.name)) (ownsOf myQ) [] { sE w os with gens := #[] } = expectedOf myQ := by kernel_rfl
theorem k_blt : (hpE w.params).bltView = bltViewBooted := by kernel_rfl
theorem k_keys : (hpE w.params).keysOk (looseW myQ myLoose) ((recsOf myQ).map (·.name)) ((litsOf myQ).map (·.1)) ((clssOf myQ (looseW myQ myLoose)).map (·.name)) = true := by kernel_rfl
theorem k_acc : (hpE w.params).accountedOkI (importedModules PP.main.body) = true := by kernel_rfl
theorem k_tables : tablesOk myQ (hpE w.params) = true := by kernel_rfl
theorem k_tabs : tabsOk myQ (sE w os) = true := by kernel_rfl
theorem k_pin : pinSeenD myQ (drecsOf myQ) (sE w os) = pinGoodD (drecsOf myQ) := by kernel_rfl
theorem k_plE : plainSeenE myQ (looseW myQ myLoose) (sE w os) = plainGoodE myQ (looseW myQ myLoose) := by kernel_rfl
theorem k_plD : plainSeenD myQ myLoose (sE w os) = plainGoodD myQ myLoose := by kernel_rfl
theorem k_wide : wideSeen myQ (sE w os) = wideGood myQ := by kernel_rfl
theorem k_cls : clsSeenW myQ myLoose (sE w os) = clsGoodW myQ myLoose := by kernel_rfl
theorem k_obs : myH.obs (sE w os) = myH.val w := by kernel_rfl
theorem k_size : ((boot_heap w.params).isNs mainGlobals && (Array.mk [] : Array GenState).size == 0, (boot_heap w.params).objs.size, (boot_heap w.params).nsMap mainGlobals "__annotations__") = (true, 11, ann6) := by kernel_rfl
theorem pair2 {α β : Type} {a a' : α} {b b' : β} (x : a = a') (y : b = b') : (a, b) = (a', b') := by rw [x, y]
theorem k_open : openSeen myQ myLoose (importedModules PP.main.body) (fun _ => true) true (sE w os) = openGood myQ myLoose := by
  refine pair2 (k_seen w os) (pair2 (k_blt w) (pair2 ?_ (pair2 (k_tabs w os) (pair2 (k_pin w os) (pair2 (k_plE w os) (pair2 (k_plD w os) (pair2 (k_wide w os) (k_cls w os))))))))
  show ((hpE w.params).keysOk (looseW myQ myLoose) ((recsOf myQ).map (·.name)) ((litsOf myQ).map (·.1)) ((clssOf myQ (looseW myQ myLoose)).map (·.name)) && (hpE w.params).accountedOkI (importedModules PP.main.body) && (hpE w.params).isNs mainGlobals && (hpE w.params).isNs builtinsNs && tablesOk myQ (hpE w.params) && true && true) = true
  rw [k_keys, k_acc, k_tables]
  kernel_rfl
theorem k_checks : (staticsOk (importedModules PP.main.body) (boot_heap w.params) (hpE w.params) && namesBound PP (hpE w.params) && gensDone (sE w os) && laidKept (boot_heap w.params) (hpE w.params)) = true := by
  rw [k_stat, k_names, k_laid]
  rfl
end
theorem myLeft : LeftO PP myQ myLoose (fun _ => true) myH.obs myH.val 3384 :=
  LeftO.of_pieces (boot_open isPlain (by decide +kernel) noFence) k_size topRuns (by decide +kernel) fun w => funext fun os => pair2 (k_checks w os) (pair2 (k_open w os) (k_obs w os))
end Mine
namespace Mine
open PySem PySem.W PyProof.Rows
set_option maxHeartbeats 4000000 in
theorem said : OpenLaw.wellSaid PySem.Challenge.rw_qd0139_01 = true := by
  delta OpenLaw.wellSaid OpenRow.wellSaid OpenRow.partSaid looksOpen
  repeat' with_reducible apply look_both
  all_goals decide +kernel
end Mine
namespace Mine
open PySem PySem.W PyProof.Rows
noncomputable def myD : DefRec := ((defOf myQ theRow.name).get (by kernel_rfl)).1
set_option maxHeartbeats 8000000 in
theorem top : PySem.Challenge.rw_qd0139_01.Holds := by
  w_on
  refine holds_law said fun said => ?_
  refine holds_open (q := myQ) (loose := myLoose) (Xt := fun _ => true) (XP := fun _ _ => True) (Yf := myH.obs) (Ya := myH.val) (YP := myH.says) (N := 3384) myLeft myH.of myH.keeps (fun _ _ => trivial) (fun _ _ _ _ _ => trivial) (d := myD) (kwd := []) (by kernel_rfl) (by kernel_rfl) (by kernel_rfl) (fun _ _ => recFacts_of rfl) (by kernel_rfl) said (by decide +kernel) ⟨rfl, rfl, rfl, rfl, rfl, by decide +kernel⟩ ?hw ?hc
  case hw => w_witness2
  exact walkLaw (by kernel_rfl) (by kernel_rfl) rfl
end Mine
set_option tactic.hygienic true
theorem PySem.Challenge.cw_qd0139_01_holds : PySem.Challenge.rw_qd0139_01.Holds := by
  exact Mine.top
